import PyProof.Rows.All
import Wide.All
import OpenK.AllK
import Wide.FinOn
import HandS.ForMost
import KE.DatumOrd
import HandS.IsInst
import HandS.TupLen
import HandS.Style
import HandS.DictComp
import HandS.Deep
import KE.SortData
import KE.KDictSum
import KE.KDictCopyH
import KE.DatumIndex
import KE.KDictDisplayH
import KE.KDictPairs
import KE.KDictZip
import KE.KUnpackStar
import HandS.SetBool
import HandS.SetKeys
import HandS.More
import PyProof.StrLawsRepr
import PySem.Challenge.RW_handonwall_k96_whole_isomorphisms_map_ro
set_option Elab.async false
set_option linter.all false
set_option maxRecDepth 100000
set_option maxHeartbeats 4000000
namespace Q9
open PySem L2
mutual
inductive Dq (G : Hp) : PyData → V → Prop
  | non : Dq G .none .non
  | bl (b : Bool) : Dq G (.bool b) (.bl b)
  | int (i : Int) : Dq G (.int i) (.int i)
  | str (x : Str) : Dq G (.str x) (.str x)
  | lst {a : Addr} {vs : List V} {ds : List PyData} (h : G a = some (.lst vs)) (q : DqL G ds vs) : Dq G (.list ds) (.ref a)
  | tup {a : Addr} {vs : List V} {ds : List PyData} (h : G a = some (.tup vs)) (q : DqL G ds vs) : Dq G (.tuple ds) (.ref a)
inductive DqL (G : Hp) : List PyData → List V → Prop
  | nil : DqL G [] []
  | cons {d : PyData} {ds : List PyData} {v : V} {vs : List V} (h : Dq G d v) (t : DqL G ds vs) : DqL G (d :: ds) (v :: vs)
end
mutual
theorem Dq.mono {G G' : Hp} (e : Same G G') : ∀ (d : PyData) (v : V), Dq G d v → Dq G' d v
  | .none, _, h => by cases h; exact .non
  | .bool b, _, h => by cases h; exact .bl b
  | .int i, _, h => by cases h; exact .int i
  | .str x, _, h => by cases h; exact .str x
  | .list ds, _, h => by cases h with | lst h q => exact .lst (e _ _ h) (DqL.mono e ds _ q)
  | .tuple ds, _, h => by cases h with | tup h q => exact .tup (e _ _ h) (DqL.mono e ds _ q)
  | .dict _, _, h => by cases h
theorem DqL.mono {G G' : Hp} (e : Same G G') : ∀ (ds : List PyData) (vs : List V), DqL G ds vs → DqL G' ds vs
  | [], _, h => by cases h; exact .nil
  | d :: ds, _, h => by cases h with | cons h t => exact .cons (Dq.mono e d _ h) (DqL.mono e ds _ t)
end
mutual
theorem Dq.dp {K : PySem.W.Frag} {G : Hp} : ∀ (d : PyData) (v : V), Dq G d v → Dp K G v d
  | .none, _, h => by cases h; exact .non
  | .bool b, _, h => by cases h; exact .bl b
  | .int i, _, h => by cases h; exact .int i
  | .str x, _, h => by cases h; exact .str x
  | .list ds, _, h => by cases h with | lst h q => exact .lst (SqL.of h) (DqL.dp ds _ q)
  | .tuple ds, _, h => by cases h with | tup h q => exact .tup (SqT.of h) (DqL.dp ds _ q)
  | .dict _, _, h => by cases h
theorem DqL.dp {K : PySem.W.Frag} {G : Hp} : ∀ (ds : List PyData) (vs : List V), DqL G ds vs → DpAll K G vs ds
  | [], _, h => by cases h; exact .nil
  | d :: ds, _, h => by cases h with | cons h t => exact .cons (Dq.dp d _ h) (DqL.dp ds _ t)
end
structure Pr where
  p : V → Hp → Prop
  mono : ∀ {v : V} {G G' : Hp}, Same G G' → p v G → p v G'
def dat (d : PyData) : Pr := ⟨fun v G => Dq G d v, fun e h => Dq.mono e d _ h⟩
def raw (x : V) : Pr := ⟨fun v _ => v = x, fun _ h => h⟩
/-- item by item -/
def PL (G : Hp) : List Pr → List V → Prop
  | [], [] => True
  | p :: ps, v :: vs => p.p v G ∧ PL G ps vs
  | _, _ => False
theorem PL.mono {G G' : Hp} (e : Same G G') : ∀ {ps : List Pr} {vs : List V}, PL G ps vs → PL G' ps vs
  | [], [], _ => True.intro
  | p :: ps, v :: vs, h => ⟨p.mono e h.1, PL.mono e h.2⟩
  | [], _ :: _, h => h.elim
  | _ :: _, [], h => h.elim
theorem PL.length {G : Hp} : ∀ {ps : List Pr} {vs : List V}, PL G ps vs → ps.length = vs.length
  | [], [], _ => rfl
  | p :: ps, v :: vs, h => congrArg (· + 1) (PL.length h.2)
  | [], _ :: _, h => h.elim
  | _ :: _, [], h => h.elim
theorem PL.get {G : Hp} : ∀ {ps : List Pr} {vs : List V} {i : Nat} {p : Pr}, PL G ps vs → ps[i]? = some p → ∃ v, vs[i]? = some v ∧ p.p v G
  | [], [], _, _, _, e => by simp at e
  | p :: ps, v :: vs, 0, q, h, e => by
    have e' : p = q := Option.some.inj e
    subst e'
    exact ⟨v, rfl, h.1⟩
  | p :: ps, v :: vs, i + 1, q, h, e => PL.get (i := i) h.2 e
  | [], _ :: _, _, _, h, _ => h.elim
  | _ :: _, [], _, _, h, _ => h.elim
theorem PL.get' {G : Hp} {ps : List Pr} {vs : List V} {i : Nat} {v : V} (h : PL G ps vs) (e : vs[i]? = some v) : ∃ p, ps[i]? = some p ∧ p.p v G := by
  have hl := h.length
  have hi : i < ps.length := by
    rw [hl]
    exact (List.getElem?_eq_some_iff.mp e).1
  obtain ⟨w, e2, q⟩ := h.get (List.getElem?_eq_getElem hi)
  rw [e] at e2
  cases e2
  exact ⟨_, List.getElem?_eq_getElem hi, q⟩
theorem PL.app {G : Hp} : ∀ {ps qs : List Pr} {vs ws : List V}, PL G ps vs → PL G qs ws → PL G (ps ++ qs) (vs ++ ws)
  | [], _, [], _, _, k => k
  | p :: ps, _, v :: vs, _, h, k => ⟨h.1, PL.app h.2 k⟩
  | [], _, _ :: _, _, h, _ => h.elim
  | _ :: _, _, [], _, h, _ => h.elim
theorem PL.take {G : Hp} : ∀ {ps : List Pr} {vs : List V} (n : Nat), PL G ps vs → PL G (ps.take n) (vs.take n)
  | _, _, 0, _ => True.intro
  | [], [], _ + 1, _ => True.intro
  | p :: ps, v :: vs, n + 1, h => ⟨h.1, PL.take n h.2⟩
  | [], _ :: _, _ + 1, h => h.elim
  | _ :: _, [], _ + 1, h => h.elim
theorem PL.drop {G : Hp} : ∀ {ps : List Pr} {vs : List V} (n : Nat), PL G ps vs → PL G (ps.drop n) (vs.drop n)
  | _, _, 0, h => h
  | [], [], _ + 1, _ => True.intro
  | p :: ps, v :: vs, n + 1, h => PL.drop n h.2
  | [], _ :: _, _ + 1, h => h.elim
  | _ :: _, [], _ + 1, h => h.elim
theorem PL.eraseIdx {G : Hp} : ∀ {ps : List Pr} {vs : List V} (n : Nat), PL G ps vs → PL G (ps.eraseIdx n) (vs.eraseIdx n)
  | [], [], _, _ => True.intro
  | p :: ps, v :: vs, 0, h => h.2
  | p :: ps, v :: vs, n + 1, h => ⟨h.1, PL.eraseIdx n h.2⟩
  | [], _ :: _, _, h => h.elim
  | _ :: _, [], _, h => h.elim
theorem PL.dats {G : Hp} : ∀ {ds : List PyData} {vs : List V}, PL G (ds.map dat) vs ↔ DqL G ds vs
  | [], [] => ⟨fun _ => .nil, fun _ => True.intro⟩
  | d :: ds, v :: vs => ⟨fun h => .cons h.1 (PL.dats.mp h.2), fun h => by cases h with | cons h t => exact ⟨h, PL.dats.mpr t⟩⟩
  | [], _ :: _ => ⟨fun h => h.elim, fun h => by cases h⟩
  | _ :: _, [] => ⟨fun h => h.elim, fun h => by cases h⟩
/-- a tuple, a list that will not change, a dict with tuples for keys or with texts and ints that will not change -/
def tupP (ps : List Pr) : Pr := ⟨fun v G => ∃ a vs, v = .ref a ∧ G a = some (.tup vs) ∧ PL G ps vs, fun e ⟨a, vs, h1, h2, h3⟩ => ⟨a, vs, h1, e _ _ h2, h3.mono e⟩⟩
def lstP (ps : List Pr) : Pr := ⟨fun v G => ∃ a vs, v = .ref a ∧ G a = some (.lst vs) ∧ PL G ps vs, fun e ⟨a, vs, h1, h2, h3⟩ => ⟨a, vs, h1, e _ _ h2, h3.mono e⟩⟩
theorem dat_tup {G : Hp} {ds : List PyData} {v : V} : (dat (.tuple ds)).p v G ↔ (tupP (ds.map dat)).p v G :=
  ⟨fun h0 => by cases (show Dq G (.tuple ds) v from h0) with | tup h1 q => exact ⟨_, _, rfl, h1, PL.dats.mpr q⟩, fun ⟨a, vs, e, h, q⟩ => by subst e; exact Dq.tup h (PL.dats.mp q)⟩
theorem dat_lst {G : Hp} {ds : List PyData} {v : V} : (dat (.list ds)).p v G ↔ (lstP (ds.map dat)).p v G :=
  ⟨fun h0 => by cases (show Dq G (.list ds) v from h0) with | lst h1 q => exact ⟨_, _, rfl, h1, PL.dats.mpr q⟩, fun ⟨a, vs, e, h, q⟩ => by subst e; exact Dq.lst h (PL.dats.mp q)⟩
theorem dat_int {G : Hp} {i : Int} {v : V} : (dat (.int i)).p v G ↔ v = .int i := ⟨fun h => by cases (show Dq G (.int i) v from h); rfl, fun h => by subst h; exact Dq.int i⟩
theorem dat_str {G : Hp} {i : Str} {v : V} : (dat (.str i)).p v G ↔ v = .str i := ⟨fun h => by cases (show Dq G (.str i) v from h); rfl, fun h => by subst h; exact Dq.str i⟩
theorem dat_bl {G : Hp} {i : Bool} {v : V} : (dat (.bool i)).p v G ↔ v = .bl i := ⟨fun h => by cases (show Dq G (.bool i) v from h); rfl, fun h => by subst h; exact Dq.bl i⟩
theorem dat_non {G : Hp} {v : V} : (dat .none).p v G ↔ v = .non := ⟨fun h => by cases (show Dq G .none v from h); rfl, fun h => by subst h; exact Dq.non⟩
section
variable {κ : Type}
/-- entries of a dict -/
def KP (G : Hp) : List (κ × Pr) → List (κ × V) → Prop
  | [], [] => True
  | x :: xs, y :: ys => (x.1 = y.1 ∧ x.2.p y.2 G) ∧ KP G xs ys
  | _, _ => False
theorem KP.mono {G G' : Hp} (e : Same G G') : ∀ {ps : List (κ × Pr)} {vs : List (κ × V)}, KP G ps vs → KP G' ps vs
  | [], [], _ => True.intro
  | p :: ps, v :: vs, h => ⟨⟨h.1.1, p.2.mono e h.1.2⟩, KP.mono e h.2⟩
  | [], _ :: _, h => h.elim
  | _ :: _, [], h => h.elim
theorem KP.length {G : Hp} : ∀ {ps : List (κ × Pr)} {vs : List (κ × V)}, KP G ps vs → ps.length = vs.length
  | [], [], _ => rfl
  | p :: ps, v :: vs, h => congrArg (· + 1) (KP.length h.2)
  | [], _ :: _, h => h.elim
  | _ :: _, [], h => h.elim
theorem KP.keys {G : Hp} : ∀ {ps : List (κ × Pr)} {vs : List (κ × V)}, KP G ps vs → ps.map (·.1) = vs.map (·.1)
  | [], [], _ => rfl
  | p :: ps, v :: vs, h => by rw [List.map_cons, List.map_cons, h.1.1, KP.keys h.2]
  | [], _ :: _, h => h.elim
  | _ :: _, [], h => h.elim
theorem KP.app {G : Hp} : ∀ {ps qs : List (κ × Pr)} {vs ws : List (κ × V)}, KP G ps vs → KP G qs ws → KP G (ps ++ qs) (vs ++ ws)
  | [], _, [], _, _, k => k
  | p :: ps, _, v :: vs, _, h, k => ⟨h.1, KP.app h.2 k⟩
  | [], _, _ :: _, _, h, _ => h.elim
  | _ :: _, _, [], _, h, _ => h.elim
variable [DecidableEq κ]
def getP (kvs : List (κ × Pr)) (k : κ) : Option Pr := (kvs.find? fun kv => decide (kv.1 = k)).map (·.2)
def putP (kvs : List (κ × Pr)) (k : κ) (p : Pr) : List (κ × Pr) := if (getP kvs k).isSome then kvs.map fun kv => if kv.1 = k then (kv.1, p) else kv else kvs ++ [(k, p)]
theorem KP.val {G : Hp} (k : κ) : ∀ {ps : List (κ × Pr)} {vs : List (κ × V)}, KP G ps vs → (getP ps k = none ∧ valV vs k = none) ∨ ∃ p v, getP ps k = some p ∧ valV vs k = some v ∧ p.p v G
  | [], [], _ => .inl ⟨rfl, rfl⟩
  | p :: ps, v :: vs, h => by
    by_cases e : p.1 = k
    · refine .inr ⟨p.2, v.2, ?_, valV_pos (h.1.1 ▸ e), h.1.2⟩
      simp [getP, List.find?_cons, e]
    · have e' : ¬ v.1 = k := fun z => e (h.1.1.trans z)
      have e2 : getP (p :: ps) k = getP ps k := by simp [getP, List.find?_cons, e]
      rw [e2, valV_neg e']
      exact KP.val k h.2
  | [], _ :: _, h => h.elim
  | _ :: _, [], h => h.elim
theorem KP.some {G : Hp} {k : κ} {p : Pr} {ps : List (κ × Pr)} {vs : List (κ × V)} (h : KP G ps vs) (e : getP ps k = some p) : ∃ v, valV vs k = some v ∧ p.p v G := by
  rcases h.val k with ⟨e1, _⟩ | ⟨q, v, e1, e2, e3⟩
  · rw [e] at e1; cases e1
  · rw [e] at e1; cases e1; exact ⟨v, e2, e3⟩
theorem KP.isSome {G : Hp} {k : κ} {ps : List (κ × Pr)} {vs : List (κ × V)} (h : KP G ps vs) : (valV vs k).isSome = (getP ps k).isSome := by
  rcases h.val k with ⟨e1, e2⟩ | ⟨q, v, e1, e2, e3⟩ <;> rw [e1, e2] <;> rfl
theorem KP.repl {G : Hp} {k : κ} {p : Pr} {v : V} (hp : p.p v G) : ∀ {ps : List (κ × Pr)} {vs : List (κ × V)}, KP G ps vs → KP G (ps.map fun kv => if kv.1 = k then (kv.1, p) else kv) (vs.map fun kv => if kv.1 = k then (kv.1, v) else kv)
  | [], [], _ => True.intro
  | x :: ps, y :: vs, h => by
    have t := KP.repl (k := k) hp h.2
    have e0 := h.1.1
    refine ⟨?_, t⟩
    by_cases e : x.1 = k
    · have e' : y.1 = k := e0 ▸ e
      show (if x.1 = k then (x.1, p) else x).1 = (if y.1 = k then (y.1, v) else y).1 ∧ (if x.1 = k then (x.1, p) else x).2.p (if y.1 = k then (y.1, v) else y).2 G
      rw [if_pos e, if_pos e']
      exact ⟨e0, hp⟩
    · have e' : ¬ y.1 = k := fun z => e (e0.trans z)
      show (if x.1 = k then (x.1, p) else x).1 = (if y.1 = k then (y.1, v) else y).1 ∧ (if x.1 = k then (x.1, p) else x).2.p (if y.1 = k then (y.1, v) else y).2 G
      rw [if_neg e, if_neg e']
      exact h.1
  | [], _ :: _, h => h.elim
  | _ :: _, [], h => h.elim
theorem KP.put {G : Hp} {k : κ} {p : Pr} {v : V} {ps : List (κ × Pr)} {vs : List (κ × V)} (h : KP G ps vs) (hp : p.p v G) : KP G (putP ps k p) (putK vs k v) := by
  unfold putP putK
  have e : (vs.any fun kv => decide (kv.1 = k)) = (getP ps k).isSome := (valV_any k vs).trans h.isSome
  rw [e]
  cases hg : (getP ps k).isSome with
  | true =>
    rw [if_pos rfl, if_pos rfl]
    exact h.repl hp
  | false =>
    rw [if_neg (by decide), if_neg (by decide)]
    exact h.app ⟨⟨rfl, hp⟩, True.intro⟩
end
def dtP (kvs : List (List Key × Pr)) : Pr := ⟨fun v G => ∃ a us, v = .ref a ∧ G a = some (.dT us) ∧ KP G kvs us, fun e ⟨a, vs, h1, h2, h3⟩ => ⟨a, vs, h1, e _ _ h2, h3.mono e⟩⟩
def dkP (kvs : List (Key × Pr)) : Pr := ⟨fun v G => ∃ a us, v = .ref a ∧ G a = some (.dK us) ∧ KP G kvs us, fun e ⟨a, vs, h1, h2, h3⟩ => ⟨a, vs, h1, e _ _ h2, h3.mono e⟩⟩
abbrev Is := List (Option Pr)
def SL (G : Hp) : Is → St → Prop
  | [], [] => True
  | none :: is, _ :: σ => SL G is σ
  | some p :: is, some v :: σ => p.p v G ∧ SL G is σ
  | _, _ => False
theorem SL.mono {G G' : Hp} (e : Same G G') : ∀ {is : Is} {σ : St}, SL G is σ → SL G' is σ
  | [], [], _ => True.intro
  | none :: is, _ :: σ, h => SL.mono (is := is) (σ := σ) e h
  | some p :: is, some v :: σ, h => ⟨p.mono e h.1, SL.mono (is := is) (σ := σ) e h.2⟩
  | [], _ :: _, h => by cases h
  | none :: _, [], h => by cases h
  | some _ :: _, [], h => by cases h
  | some _ :: _, none :: _, h => by cases h
theorem SL.get {G : Hp} : ∀ {is : Is} {σ : St} {i : Nat} {p : Pr}, SL G is σ → is[i]? = some (some p) → ∃ v, σ[i]? = some (some v) ∧ p.p v G
  | [], [], _, _, _, e => by simp at e
  | none :: is, _ :: σ, 0, p, h, e => by cases e
  | none :: is, _ :: σ, i + 1, p, h, e => SL.get (is := is) (σ := σ) (i := i) h e
  | some q :: is, some v :: σ, 0, p, h, e => by
    have e' : q = p := Option.some.inj (Option.some.inj e)
    subst e'
    exact ⟨v, rfl, h.1⟩
  | some q :: is, some v :: σ, i + 1, p, h, e => SL.get (is := is) (σ := σ) (i := i) h.2 e
  | [], _ :: _, _, _, h, _ => by cases h
  | none :: _, [], _, _, h, _ => by cases h
  | some _ :: _, [], _, _, h, _ => by cases h
  | some _ :: _, none :: _, _, _, h, _ => by cases h
theorem SL.set {G : Hp} {p : Pr} {v : V} (hp : p.p v G) : ∀ {is : Is} {σ : St} (i : Nat), SL G is σ → SL G (is.set i (some p)) (σ.set i (some v))
  | [], [], _, _ => True.intro
  | none :: is, _ :: σ, 0, h => ⟨hp, h⟩
  | none :: is, x :: σ, i + 1, h => SL.set (is := is) (σ := σ) hp i h
  | some q :: is, some w :: σ, 0, h => ⟨hp, h.2⟩
  | some q :: is, some w :: σ, i + 1, h => ⟨h.1, SL.set (is := is) (σ := σ) hp i h.2⟩
  | [], _ :: _, _, h => by cases h
  | none :: _, [], _, h => by cases h
  | some _ :: _, [], _, h => by cases h
  | some _ :: _, none :: _, _, h => by cases h
/-- forget a slot -/
theorem SL.drop {G : Hp} : ∀ {is : Is} {σ : St} (i : Nat) (x : Option V), SL G is σ → SL G (is.set i none) (σ.set i x)
  | [], [], _, _, _ => True.intro
  | none :: is, _ :: σ, 0, _, h => h
  | none :: is, _ :: σ, i + 1, x, h => SL.drop (is := is) (σ := σ) i x h
  | some q :: is, some w :: σ, 0, _, h => h.2
  | some q :: is, some w :: σ, i + 1, x, h => ⟨h.1, SL.drop (is := is) (σ := σ) i x h.2⟩
  | [], _ :: _, _, _, h => by cases h
  | none :: _, [], _, _, h => by cases h
  | some _ :: _, [], _, _, h => by cases h
  | some _ :: _, none :: _, _, _, h => by cases h
inductive MO where
  | lst (ps : List Pr)
  | dk (kvs : List (Key × Pr))
  | dt (kvs : List (List Key × Pr))
  /-- the state of the law's draws -/
  | src
  /-- an instance of a class; any other thing -/
  | ins (C : Addr) (fs : List (Str × Pr))
  | oth (o : HO)
abbrev MS := List (Addr × MO)
def SrcOk (i j : Int) : Prop := 0 ≤ i ∧ 0 ≤ j ∧ j < 2147483647
def MO.At (G H : Hp) (a : Addr) : MO → Prop
  | .lst ps => ∃ vs, H a = some (.lst vs) ∧ PL G ps vs
  | .dk kvs => ∃ us, H a = some (.dK us) ∧ KP G kvs us
  | .dt kvs => ∃ us, H a = some (.dT us) ∧ KP G kvs us
  | .src => ∃ i j, H a = some (.lst [.int i, .int j]) ∧ SrcOk i j
  | .ins C fs => ∃ dx us, H a = some (.ins C dx us) ∧ KP G fs us
  | .oth o => H a = some o ∧ ∀ vs, o ≠ .tup vs
theorem MO.At.there {G H : Hp} {a : Addr} : ∀ {m : MO}, MO.At G H a m → H a ≠ none
  | .lst _, ⟨_, h, _⟩ => by rw [h]; exact fun z => nomatch z
  | .dk _, ⟨_, h, _⟩ => by rw [h]; exact fun z => nomatch z
  | .dt _, ⟨_, h, _⟩ => by rw [h]; exact fun z => nomatch z
  | .src, ⟨_, _, h, _⟩ => by rw [h]; exact fun z => nomatch z
  | .ins _ _, ⟨_, _, h, _⟩ => by rw [h]; exact fun z => nomatch z
  | .oth _, ⟨h, _⟩ => by rw [h]; exact fun z => nomatch z
theorem MO.At.mono {G G' H H' : Hp} {a : Addr} (e : Same G G') (k : ∀ o, H a = some o → H' a = some o) : ∀ {m : MO}, MO.At G H a m → MO.At G' H' a m
  | .lst _, ⟨vs, h, q⟩ => ⟨vs, k _ h, q.mono e⟩
  | .dk _, ⟨vs, h, q⟩ => ⟨vs, k _ h, q.mono e⟩
  | .dt _, ⟨vs, h, q⟩ => ⟨vs, k _ h, q.mono e⟩
  | .src, ⟨i, j, h, q⟩ => ⟨i, j, k _ h, q⟩
  | .ins _ _, ⟨dx, us, h, q⟩ => ⟨dx, us, k _ h, q.mono e⟩
  | .oth _, ⟨h, q⟩ => ⟨k _ h, q⟩
/-- what may stand at a place that is handed in to be changed -/
def Wo : HO → Prop
  | .lst _ => True
  | .ins _ _ _ => True
  | _ => False
structure Bs where
  G : Hp
  H : Hp
  W : List Addr
structure Ok (B : Bs) (σ : St) (G H : Hp) (is : Is) (M : MS) : Prop where
  kn : Same G H
  g0 : Same B.G G
  h0 : ∀ a o, B.H a = some o → a ∉ B.W → H a = some o
  /-- nothing that stood at the entry has become known, but tuples -/
  fr : ∀ a o, B.H a = some o → H a ≠ none ∧ ((∀ vs, o ≠ .tup vs) → G a = B.G a)
  loc : SL G is σ
  mok : ∀ x ∈ M, MO.At G H x.1 x.2 ∧ G x.1 = none ∧ (B.H x.1 = none ∨ x.1 ∈ B.W)
  nd : (M.map (·.1)).Nodup
  bw : ∀ a ∈ B.W, (∃ o, B.H a = some o ∧ Wo o) ∧ ∃ o, H a = some o ∧ Wo o
section
variable {B : Bs} {σ : St} {G H G' H' : Hp} {is : Is} {M : MS} {a : Addr}
theorem none_back (e : Same G H) (h : H a = none) : G a = none := by
  cases q : G a with
  | none => rfl
  | some o => rw [e a o q] at h; cases h
theorem MO.At.nt {o : HO} : ∀ {m : MO}, MO.At G H a m → H a = some o → ∀ vs, o ≠ .tup vs
  | .lst _, ⟨_, h, _⟩, e, vs, z => by rw [h, z] at e; cases e
  | .dk _, ⟨_, h, _⟩, e, vs, z => by rw [h, z] at e; cases e
  | .dt _, ⟨_, h, _⟩, e, vs, z => by rw [h, z] at e; cases e
  | .src, ⟨_, _, h, _⟩, e, vs, z => by rw [h, z] at e; cases e
  | .ins _ _, ⟨_, _, h, _⟩, e, vs, z => by rw [h, z] at e; cases e
  | .oth _, ⟨h, q⟩, e, vs, z => by
    rw [h, z] at e
    exact q vs (Option.some.inj e)
theorem Wo.nt {o : HO} (h : Wo o) : ∀ vs, o ≠ .tup vs := fun vs z => by rw [z] at h; exact h
theorem src_in {x : Addr × MO} : ∀ {M : MS}, (M.map (·.1)).Nodup → x ∈ M → (x.1, MO.src) ∈ M → x = (x.1, MO.src)
  | [], _, h, _ => by cases h
  | y :: r, nd, hx, hm => by
    have nd' := List.nodup_cons.mp nd
    rcases List.mem_cons.mp hx with r1 | r1 <;> rcases List.mem_cons.mp hm with r2 | r2
    · rw [r1]; rw [← r2, r1]
    · exact absurd (List.mem_map.mpr ⟨_, r2, rfl⟩) (r1 ▸ nd'.1)
    · refine absurd (List.mem_map.mpr ⟨_, r1, ?_⟩) nd'.1
      rw [← r2]
    · exact src_in nd'.2 r1 r2
/-- things were added, nothing else happened (but at S, places of draws' states) -/
theorem Ok.extS {S : List Addr} (K : Ok B σ G H is M) (g : Same G G') (k : Same G' H') (h : ∀ a o, H a = some o → a ∉ S → H' a = some o) (n : ∀ a o, H a = some o → (∀ vs, o ≠ .tup vs) → G' a = G a) (hS : ∀ a ∈ S, (a, MO.src) ∈ M ∧ MO.At G' H' a .src) : Ok B σ G' H' is M := by
  have there : ∀ b, H b ≠ none → H' b ≠ none := fun b e => by
    by_cases hb : b ∈ S
    · exact (hS b hb).2.there
    · cases q : H b with
      | none => exact absurd q e
      | some o => rw [h b o q hb]; exact fun z => nomatch z
  refine ⟨k, fun b o e => g _ _ (K.g0 _ _ e), fun b o e w => ?_, fun b o e => ?_, K.loc.mono g, fun x hx => ?_, K.nd, fun b hb => ⟨(K.bw b hb).1, ?_⟩⟩
  · have e1 := K.h0 b o e w
    refine h _ _ e1 fun hb => ?_
    obtain ⟨hm, _⟩ := hS b hb
    obtain ⟨_, _, z⟩ := K.mok _ hm
    rcases z with z | z
    · rw [z] at e; cases e
    · exact w z
  · obtain ⟨e1, e2⟩ := K.fr b o e
    refine ⟨there b e1, fun nt => ?_⟩
    by_cases hw : b ∈ B.W
    · obtain ⟨_, xs, hx, hxw⟩ := K.bw b hw
      exact (n b _ hx hxw.nt).trans (e2 nt)
    · exact (n b o (K.h0 b o e hw) nt).trans (e2 nt)
  · obtain ⟨e1, e2, e3⟩ := K.mok x hx
    cases q : H x.1 with
    | none => exact absurd q e1.there
    | some o =>
      refine ⟨?_, (n _ o q (e1.nt q)).trans e2, e3⟩
      by_cases hb : x.1 ∈ S
      · obtain ⟨hm, at'⟩ := hS _ hb
        rw [src_in K.nd hx hm]
        exact at'
      · exact e1.mono g fun u q => h _ _ q hb
  · by_cases hs : b ∈ S
    · obtain ⟨_, i, j, e, _⟩ := hS b hs
      exact ⟨_, e, True.intro⟩
    · obtain ⟨_, xs, hx, hxw⟩ := K.bw b hb
      exact ⟨xs, h _ _ hx hs, hxw⟩
theorem Ok.ext (K : Ok B σ G H is M) (g : Same G G') (k : Same G' H') (h : Same H H') (n : ∀ a o, H a = some o → (∀ vs, o ≠ .tup vs) → G' a = G a) : Ok B σ G' H' is M :=
  K.extS (S := []) g k (fun a o e _ => h a o e) n (fun _ z => by cases z)
theorem same_upd {o : HO} (h : H a = none) : Same H (upd H a o) := fun b x e => by rw [upd_ne (ne_of_none e h)]; exact e
theorem same_upd2 {o : HO} (e : Same G H) (h : H a = none) : Same (upd G a o) (upd H a o) := fun b x q => by
  by_cases hb : b = a
  · subst hb
    rw [upd_same] at q ⊢
    exact q
  · rw [upd_ne hb] at q ⊢
    exact e _ _ q
theorem upd_n {o : HO} (h : H a = none) : ∀ b u, H b = some u → (∀ vs, u ≠ .tup vs) → (upd G a o) b = G b := fun b u e _ => upd_ne fun z => by rw [z, h] at e; cases e
/-- a new thing that will not change -/
theorem Ok.new {o : HO} (K : Ok B σ G H is M) (h : H a = none) : Ok B σ (upd G a o) (upd H a o) is M ∧ Same G (upd G a o) :=
  have n := none_back K.kn h
  ⟨K.ext (same_upd n) (same_upd2 K.kn h) (same_upd h) (upd_n h), same_upd n⟩
/-- a new thing that is only garbage, or tracked by others -/
theorem Ok.gar {o : HO} (K : Ok B σ G H is M) (h : H a = none) : Ok B σ G (upd H a o) is M :=
  K.ext (Same.refl _) (fun b x e => same_upd h _ _ (K.kn _ _ e)) (same_upd h) fun _ _ _ _ => rfl
theorem Ok.entry (K : Ok B σ G H is M) (h : H a = none) : B.H a = none := by
  cases q : B.H a with
  | none => rfl
  | some u => exact absurd h (K.fr a u q).1
/-- a tuple that stands becomes known -/
theorem Ok.tup {vs : List V} (K : Ok B σ G H is M) (h : H a = some (.tup vs)) : Ok B σ (upd G a (.tup vs)) H is M ∧ Same G (upd G a (.tup vs)) := by
  have g : Same G (upd G a (.tup vs)) := fun b o e => by
    by_cases hb : b = a
    · subst hb
      have := K.kn _ _ e
      rw [h] at this
      cases this
      exact upd_same
    · rw [upd_ne hb]; exact e
  refine ⟨K.ext g (fun b o e => ?_) (Same.refl _) fun b u e nt => upd_ne fun z => ?_, g⟩
  · by_cases hb : b = a
    · subst hb
      rw [upd_same] at e
      cases e
      exact h
    · rw [upd_ne hb] at e
      exact K.kn _ _ e
  · subst z
    rw [h] at e
    cases e
    exact nt _ rfl
/-- a new mutable object -/
theorem Ok.push {o : HO} {m : MO} (K : Ok B σ G H is M) (h : H a = none) (at' : MO.At G (upd H a o) a m) : Ok B σ G (upd H a o) is (M ++ [(a, m)]) := by
  have K1 := K.gar (o := o) h
  refine ⟨K1.kn, K1.g0, K1.h0, K1.fr, K1.loc, fun x hx => ?_, ?_, K1.bw⟩
  · rcases List.mem_append.mp hx with hx | hx
    · exact K1.mok x hx
    · have e : x = (a, m) := List.mem_singleton.mp hx
      subst e
      exact ⟨at', none_back K.kn h, .inl (K.entry h)⟩
  · rw [List.map_append]
    refine List.nodup_append.mpr ⟨K.nd, by simp, fun x hx y hy => ?_⟩
    obtain ⟨z, hz, e⟩ := List.mem_map.mp hx
    have ey : y = a := by simpa using hy
    rw [ey, ← e]
    intro e2
    exact (K.mok z hz).1.there (by rw [e2]; exact h)
theorem nd_idx {α β : Type} : ∀ {l : List (α × β)} {i j : Nat} {a : α} {x y : β}, (l.map (·.1)).Nodup → l[i]? = some (a, x) → l[j]? = some (a, y) → i = j
  | [], _, _, _, _, _, _, h, _ => by simp at h
  | z :: r, 0, 0, _, _, _, _, _, _ => rfl
  | z :: r, 0, j + 1, a, x, y, nd, h1, h2 => by
    have e : z = (a, x) := Option.some.inj h1
    have m : (a, y) ∈ r := List.mem_of_getElem? (show r[j]? = some (a, y) from h2)
    exact absurd (List.mem_map.mpr ⟨_, m, by rw [e]⟩) (List.nodup_cons.mp nd).1
  | z :: r, i + 1, 0, a, x, y, nd, h1, h2 => by
    have e : z = (a, y) := Option.some.inj h2
    have m : (a, x) ∈ r := List.mem_of_getElem? (show r[i]? = some (a, x) from h1)
    exact absurd (List.mem_map.mpr ⟨_, m, by rw [e]⟩) (List.nodup_cons.mp nd).1
  | z :: r, i + 1, j + 1, a, x, y, nd, h1, h2 => congrArg (· + 1) (nd_idx (List.nodup_cons.mp nd).2 (show r[i]? = _ from h1) (show r[j]? = _ from h2))
theorem map_set {α β : Type} (f : α → β) : ∀ (l : List α) (i : Nat) (x y : α), l[i]? = some x → f y = f x → (l.set i y).map f = l.map f
  | [], _, _, _, h, _ => by simp at h
  | z :: r, 0, x, y, h, e => by
    have h' : z = x := Option.some.inj h
    show f y :: r.map f = f z :: r.map f
    rw [e, h']
  | z :: r, i + 1, x, y, h, e => by
    show f z :: (r.set i y).map f = f z :: r.map f
    rw [map_set f r i x y (show r[i]? = some x from h) e]
/-- an own object changes -/
theorem Ok.write {o : HO} {m m' : MO} {i : Nat} (K : Ok B σ G H is M) (hi : M[i]? = some (a, m)) (at' : MO.At G (upd H a o) a m') (hw : a ∈ B.W → Wo o) : Ok B σ G (upd H a o) is (M.set i (a, m')) := by
  obtain ⟨e1, e2, e3⟩ := K.mok _ (List.mem_of_getElem? hi)
  refine ⟨fun b x e => ?_, K.g0, fun b x e w => ?_, fun b u e => ?_, K.loc, fun x hx => ?_, ?_, fun b hb => ⟨(K.bw b hb).1, ?_⟩⟩
  · rw [upd_ne (fun z => by rw [z, e2] at e; cases e)]
    exact K.kn _ _ e
  · rw [upd_ne (fun z => ?_)]
    · exact K.h0 _ _ e w
    · rcases e3 with e3 | e3
      · rw [z, e3] at e; cases e
      · exact w (z ▸ e3)
  · obtain ⟨f1, f2⟩ := K.fr b u e
    refine ⟨?_, f2⟩
    by_cases hb : b = a
    · rw [hb, upd_same]; exact fun z => nomatch z
    · rw [upd_ne hb]; exact f1
  · obtain ⟨j, hj⟩ := List.mem_iff_getElem?.mp hx
    by_cases hij : i = j
    · subst hij
      have hlt := (List.getElem?_eq_some_iff.mp hi).1
      rw [List.getElem?_set_self hlt] at hj
      have e : (a, m') = x := Option.some.inj hj
      subst e
      exact ⟨at', e2, e3⟩
    · rw [List.getElem?_set_ne hij] at hj
      obtain ⟨f1, f2, f3⟩ := K.mok x (List.mem_of_getElem? hj)
      have hne : x.1 ≠ a := fun z => hij (nd_idx K.nd hi (show M[j]? = some (a, x.2) by rw [← z]; exact hj))
      exact ⟨f1.mono (Same.refl _) fun u q => by rw [upd_ne hne]; exact q, f2, f3⟩
  · rw [map_set (·.1) M i (a, m) (a, m') hi rfl]
    exact K.nd
  · by_cases e : b = a
    · subst e
      exact ⟨o, upd_same, hw hb⟩
    · rw [upd_ne e]
      exact (K.bw b hb).2
/-- an own object will not change any more -/
theorem Ok.freeze {o : HO} {m : MO} {i : Nat} (K : Ok B σ G H is M) (hi : M[i]? = some (a, m)) (ho : H a = some o) (hw : a ∉ B.W) : Ok B σ (upd G a o) H is (M.eraseIdx i) ∧ Same G (upd G a o) := by
  obtain ⟨e1, e2, e3⟩ := K.mok _ (List.mem_of_getElem? hi)
  have g : Same G (upd G a o) := same_upd e2
  have e4 : B.H a = none := e3.resolve_right hw
  refine ⟨⟨fun b x e => ?_, fun b x e => g _ _ (K.g0 _ _ e), K.h0, fun b u e => ?_, K.loc.mono g, fun x hx => ?_, ?_, K.bw⟩, g⟩
  · by_cases hb : b = a
    · subst hb
      rw [upd_same] at e
      cases e
      exact ho
    · rw [upd_ne hb] at e
      exact K.kn _ _ e
  · obtain ⟨f1, f2⟩ := K.fr b u e
    refine ⟨f1, fun nt => ?_⟩
    rw [upd_ne (fun z => by rw [z, e4] at e; cases e)]
    exact f2 nt
  · have hm : x ∈ M := List.mem_of_mem_eraseIdx hx
    obtain ⟨f1, f2, f3⟩ := K.mok x hm
    have hne : x.1 ≠ a := fun z => by
      obtain ⟨j, hj⟩ := List.mem_iff_getElem?.mp hx
      have hj' := hj
      rw [List.getElem?_eraseIdx] at hj'
      split at hj'
      · rename_i hlt
        have := nd_idx K.nd hi (show M[j]? = some (a, x.2) by rw [← z]; exact hj')
        omega
      · rename_i hlt
        have := nd_idx K.nd hi (show M[j + 1]? = some (a, x.2) by rw [← z]; exact hj')
        omega
    exact ⟨f1.mono g fun u q => q, by rw [upd_ne hne]; exact f2, f3⟩
  · have hs : (M.eraseIdx i).Sublist M := List.eraseIdx_sublist ..
    exact (hs.map _).nodup K.nd
theorem Ok.slot {p : Pr} {v : V} (K : Ok B σ G H is M) (i : Nat) (hp : p.p v G) : Ok B (σ.set i (some v)) G H (is.set i (some p)) M :=
  ⟨K.kn, K.g0, K.h0, K.fr, K.loc.set hp i, K.mok, K.nd, K.bw⟩
theorem Ok.at (K : Ok B σ G H is M) {i : Nat} {m : MO} (hi : M[i]? = some (a, m)) : MO.At G H a m := (K.mok _ (List.mem_of_getElem? hi)).1
theorem Ok.notW {o : HO} (K : Ok B σ G H is M) (h : H a = some o) (nl : ¬ Wo o) : a ∉ B.W := fun hw => by
  obtain ⟨_, u, e, w⟩ := K.bw a hw
  rw [h] at e
  cases e
  exact nl w
end
end Q9
namespace Q9
open PySem L2
def EW (X : Cx) (e : Expr) : TE := fun σ H Q => ∀ (pins : List (Addr × Obj)) (s : Shared), Inv X pins σ H s → wpAny (model X.prog X.w) X.A (eval e X.env) (EP X pins σ Q) X.xe s
def TW (X : Cx) (e : Expr) : TT := fun σ H Q => ∀ (pins : List (Addr × Obj)) (s : Shared), Inv X pins σ H s → wpAny (model X.prog X.w) X.A (isTrue e X.env (eval e X.env)) (TP X pins σ Q) X.xe s
def WW (X : Cx) (e : Expr) : TT := fun σ H Q => ∀ (whole : Sem Value) (pins : List (Addr × Obj)) (s : Shared), Inv X pins σ H s → wpAny (model X.prog X.w) X.A (isTrue e X.env whole) (TP X pins σ Q) X.xe s
def AW (X : Cx) (es : List Expr) : TA := fun σ H Q => ∀ (pos : Pos) (pins : List (Addr × Obj)) (s : Shared), Inv X pins σ H s → wpAny (model X.prog X.w) X.A (spliced (backTo pos (starEach es X.env))) (AP X pins σ Q) X.xe s
def SW (X : Cx) (st : Stmt) : TS := fun D σ H => ∀ (pins : List (Addr × Obj)) (s : Shared), Inv X pins σ H s → wpAny (model X.prog X.w) X.A (exec st X.env) (SP X pins D) X.xe s
def BW (X : Cx) (st : List Stmt) : TS := fun D σ H => ∀ (pins : List (Addr × Obj)) (s : Shared), Inv X pins σ H s → wpAny (model X.prog X.w) X.A (execs st X.env) (SP X pins D) X.xe s
def GW (X : Cx) (tg : Expr) : TG := fun v σ H Q => ∀ (pins : List (Addr × Obj)) (s : Shared) (u : Value), Inv X pins σ H s → RelV v u →
  wpAny (model X.prog X.w) X.A (assign tg X.env u) (fun _ s' => ∃ σ' H', Inv X pins σ' H' s' ∧ Q σ' H') X.xe s
def GWs (X : Cx) (ts : List Expr) : TGs := fun vs σ H Q => ∀ (pins : List (Addr × Obj)) (s : Shared) (us : List Value), Inv X pins σ H s → Vals vs us →
  wpAny (model X.prog X.w) X.A (assignInOrder ((assignEach ts X.env).map (·.2)) us) (fun _ s' => ∃ σ' H', Inv X pins σ' H' s' ∧ Q σ' H') X.xe s
def IW (X : Cx) (tg iter : Expr) : TI := fun σ H R => ∀ (pins : List (Addr × Obj)) (s : Shared), Inv X pins σ H s →
  wpAny (model X.prog X.w) X.A (eval iter X.env) (fun v s1 => wpAny (model X.prog X.w) X.A (pyIter v) (PIE X pins σ tg R) X.xe s1) X.xe s
def CW (X : Cx) (op : CmpOp) (a b : Expr) : TE := fun σ H Q => ∀ (pins : List (Addr × Obj)) (s : Shared), Inv X pins σ H s →
  wpAny (model X.prog X.w) X.A (eval a X.env) (fun v s₁ => wpAny (model X.prog X.w) X.A (eval b X.env) (fun u s₂ => wpAny (model X.prog X.w) X.A (compareOp op v u) (EP X pins σ Q) X.xe s₂) X.xe s₁) X.xe s
section
variable {X : Cx}
theorem pe_w {e : Expr} : PE X e (EW X e) := ⟨fun pins s _ _ _ I h => h pins s I⟩
theorem pt_w {e : Expr} : PT X e (TW X e) := ⟨fun pins s _ _ _ I h => h pins s I⟩
theorem pw_w {e : Expr} : PW X e (WW X e) := ⟨fun wh pins s _ _ _ I h => h wh pins s I⟩
theorem pa_w {es : List Expr} : PA X es (AW X es) := ⟨fun pos pins s _ _ _ I h => h pos pins s I⟩
theorem ps_w {st : Stmt} : PS X st (SW X st) := ⟨fun pins s _ _ _ I h => h pins s I⟩
theorem pss_w {st : List Stmt} : PSs X st (BW X st) := ⟨fun pins s _ _ _ I h => h pins s I⟩
theorem pg_w {tg : Expr} : PG X tg (GW X tg) := ⟨fun pins s _ _ _ u _ I r h => h pins s u I r⟩
theorem pgs_w {ts : List Expr} : PGs X ts (GWs X ts) := ⟨fun pins s _ _ _ us _ I r h => h pins s us I r⟩
theorem pi_w {tg iter : Expr} : PI X tg iter (IW X tg iter) := ⟨fun pins s _ _ _ I h => h pins s I⟩
theorem pc_w {op : CmpOp} {a b : Expr} : PC X op a b (CW X op a b) := ⟨fun pins s _ _ _ I h => h pins s I⟩
theorem EW.of {e : Expr} {t : TE} (h : PE X e t) {σ : St} {H : Hp} {Q : VK} (k : t σ H Q) : EW X e σ H Q := fun pins s I => h.run pins s σ H Q I k
theorem TW.of {e : Expr} {t : TT} (h : PT X e t) {σ : St} {H : Hp} {Q : Bool → Hp → Prop} (k : t σ H Q) : TW X e σ H Q := fun pins s I => h.run pins s σ H Q I k
theorem WW.of {e : Expr} {t : TT} (h : PW X e t) {σ : St} {H : Hp} {Q : Bool → Hp → Prop} (k : t σ H Q) : WW X e σ H Q := fun wh pins s I => h.run wh pins s σ H Q I k
theorem AW.of {es : List Expr} {t : TA} (h : PA X es t) {σ : St} {H : Hp} {Q : List V → Hp → Prop} (k : t σ H Q) : AW X es σ H Q := fun pos pins s I => h.run pos pins s σ H Q I k
theorem SW.of {st : Stmt} {t : TS} (h : PS X st t) {σ : St} {H : Hp} {D : Ends} (k : t D σ H) : SW X st D σ H := fun pins s I => h.run pins s σ H D I k
theorem BW.of {st : List Stmt} {t : TS} (h : PSs X st t) {σ : St} {H : Hp} {D : Ends} (k : t D σ H) : BW X st D σ H := fun pins s I => h.run pins s σ H D I k
theorem GW.of {tg : Expr} {t : TG} (h : PG X tg t) {σ : St} {H : Hp} {v : V} {Q : St → Hp → Prop} (k : t v σ H Q) : GW X tg v σ H Q := fun pins s u I r => h.run pins s σ H v u Q I r k
theorem GWs.of {ts : List Expr} {t : TGs} (h : PGs X ts t) {σ : St} {H : Hp} {vs : List V} {Q : St → Hp → Prop} (k : t vs σ H Q) : GWs X ts vs σ H Q := fun pins s us I r => h.run pins s σ H vs us Q I r k
theorem IW.of {tg iter : Expr} {t : TI} (h : PI X tg iter t) {σ : St} {H : Hp} {R : It → Hp → Prop} (k : t σ H R) : IW X tg iter σ H R := fun pins s I => h.run pins s σ H R I k
theorem CW.of {op : CmpOp} {a b : Expr} {t : TE} (h : PC X op a b t) {σ : St} {H : Hp} {Q : VK} (k : t σ H Q) : CW X op a b σ H Q := fun pins s I => h.run pins s σ H Q I k
end
section
variable (X : Cx) (B : Bs)
def EE (e : Expr) (is : Is) (M : MS) (Post : Pr → MS → Prop) : Prop := ∀ σ G H, Ok B σ G H is M → ∀ Q : VK, (∀ v G' H' p M', Ok B σ G' H' is M' → Same G G' → p.p v G' → Post p M' → Q v H') → EW X e σ H Q
def CC (op : CmpOp) (a b : Expr) (is : Is) (M : MS) (Post : Pr → MS → Prop) : Prop := ∀ σ G H, Ok B σ G H is M → ∀ Q : VK, (∀ v G' H' p M', Ok B σ G' H' is M' → Same G G' → p.p v G' → Post p M' → Q v H') → CW X op a b σ H Q
def TT' (e : Expr) (is : Is) (M : MS) (Post : Bool → MS → Prop) : Prop := ∀ σ G H, Ok B σ G H is M → ∀ Q : Bool → Hp → Prop, (∀ b G' H' M', Ok B σ G' H' is M' → Same G G' → Post b M' → Q b H') → TW X e σ H Q
def WT (e : Expr) (is : Is) (M : MS) (Post : Bool → MS → Prop) : Prop := ∀ σ G H, Ok B σ G H is M → ∀ Q : Bool → Hp → Prop, (∀ b G' H' M', Ok B σ G' H' is M' → Same G G' → Post b M' → Q b H') → WW X e σ H Q
def AA (es : List Expr) (is : Is) (M : MS) (Post : List Pr → MS → Prop) : Prop := ∀ σ G H, Ok B σ G H is M → ∀ Q : List V → Hp → Prop, (∀ vs G' H' ps M', Ok B σ G' H' is M' → Same G G' → PL G' ps vs → Post ps M' → Q vs H') → AW X es σ H Q
/-- an operation on values -/
def R2P (r : R2) (is : Is) (p q : Pr) (M : MS) (Post : Pr → MS → Prop) : Prop := ∀ σ G H, Ok B σ G H is M → ∀ x y, p.p x G → q.p y G → ∀ Q : VK, (∀ v G' H' p' M', Ok B σ G' H' is M' → Same G G' → p'.p v G' → Post p' M' → Q v H') → r x y H Q
/-- a call on values -/
def CRP (r : List V → Hp → VK → Prop) (is : Is) (ps : List Pr) (M : MS) (Post : Pr → MS → Prop) : Prop := ∀ σ G H, Ok B σ G H is M → ∀ vs, PL G ps vs → ∀ Q : VK, (∀ v G' H' p' M', Ok B σ G' H' is M' → Same G G' → p'.p v G' → Post p' M' → Q v H') → r vs H Q
structure En where
  nx : Is → MS → Prop
  rt : Pr → MS → Prop
  bk : Is → MS → Prop := fun _ _ => False
  ct : Is → MS → Prop := fun _ _ => False
structure Rel (G : Hp) (D : En) (DD : Ends) : Prop where
  nx : ∀ σ' G' H' is' M', Ok B σ' G' H' is' M' → Same G G' → D.nx is' M' → DD.nx σ' H'
  rt : ∀ v σ' G' H' is' p M', Ok B σ' G' H' is' M' → Same G G' → p.p v G' → D.rt p M' → DD.rt v H'
  bk : ∀ σ' G' H' is' M', Ok B σ' G' H' is' M' → Same G G' → D.bk is' M' → DD.bk σ' H'
  ct : ∀ σ' G' H' is' M', Ok B σ' G' H' is' M' → Same G G' → D.ct is' M' → DD.ct σ' H'
def BB (st : List Stmt) (is : Is) (M : MS) (D : En) : Prop := ∀ σ G H, Ok B σ G H is M → ∀ DD, Rel B G D DD → BW X st DD σ H
def SS (st : Stmt) (is : Is) (M : MS) (D : En) : Prop := ∀ σ G H, Ok B σ G H is M → ∀ DD, Rel B G D DD → SW X st DD σ H
/-- a target; vs: the slots that it may change -/
def GG (vs : List Nat) (tg : Expr) (p : Pr) (is : Is) (M : MS) (Post : Is → MS → Prop) : Prop := ∀ σ G H, Ok B σ G H is M → ∀ v, p.p v G → ∀ Q : St → Hp → Prop,
  (∀ σ' G' H' is' M', Ok B σ' G' H' is' M' → Same G G' → wipe σ' vs = wipe σ vs → Post is' M' → Q σ' H') → GW X tg v σ H Q
def GGs (vs : List Nat) (ts : List Expr) (ps : List Pr) (is : Is) (M : MS) (Post : Is → MS → Prop) : Prop := ∀ σ G H, Ok B σ G H is M → ∀ ws, PL G ps ws → ∀ Q : St → Hp → Prop,
  (∀ σ' G' H' is' M', Ok B σ' G' H' is' M' → Same G G' → wipe σ' vs = wipe σ vs → Post is' M' → Q σ' H') → GWs X ts ws σ H Q
/-- what is walked: at each turn an item of ps, the heap may grow -/
def Wlk (J : It) (G1 : Hp) (ps : List Pr) : Prop := ∀ G H, Same G1 G → Same G H →
  (∀ i p, ps[i]? = some p → J.go i H ∧ ∀ x H', J.yld i H x H' → ∃ G', Same G G' ∧ Same G' H' ∧ Same H H' ∧ (∀ a o, H a = some o → (∀ vs, o ≠ .tup vs) → G' a = G a) ∧ p.p x G') ∧ ∀ i, ps.length ≤ i → J.stop i H
def II (tg iter : Expr) (is : Is) (M : MS) (Post : List Pr → MS → Prop) : Prop := ∀ σ G H, Ok B σ G H is M → ∀ R : It → Hp → Prop, (∀ J G' H' ps M', Ok B σ G' H' is M' → Same G G' → Wlk J G' ps → Post ps M' → R J H') → IW X tg iter σ H R
end
theorem Rel.mono {B : Bs} {G G1 : Hp} {D : En} {DD : Ends} (g : Same G G1) (r : Rel B G D DD) : Rel B G1 D DD :=
  ⟨fun σ' G' H' is' M' K h => r.nx σ' G' H' is' M' K (g.trans h), fun v σ' G' H' is' p M' K h => r.rt v σ' G' H' is' p M' K (g.trans h), fun σ' G' H' is' M' K h => r.bk σ' G' H' is' M' K (g.trans h), fun σ' G' H' is' M' K h => r.ct σ' G' H' is' M' K (g.trans h)⟩
theorem En.eta (D : En) : ({ nx := D.nx, rt := D.rt, bk := D.bk, ct := D.ct } : En) = D := rfl
section
variable {X : Cx} {B : Bs} {is : Is} {M : MS} {Post : Pr → MS → Prop} {TPost : Bool → MS → Prop} {D : En} {a b c e : Expr} {es : List Expr} {pos : Pos}
theorem ee_name (i : Nat) {x : Str} {p : Pr} (hp : is[i]? = some (some p)) (h : Post p M) (hN : X.N[i]? = some x := by rfl)
    (hv : Vis X.env.scope x := by first | exact Or.inl rfl | exact Or.inr (Or.inl rfl) | exact Or.inr (Or.inr rfl))
    (hd : (x == ("__debug__" : Str)) = false := by decide) (hcd : (x == ("__classdict__" : Str)) = false := by decide) : EE X B (.Name x pos) is M Post := fun σ G H K Q k => by
  obtain ⟨v, e1, q⟩ := K.loc.get hp
  exact EW.of (pe_var hN hv hd hcd) ⟨v, e1, k v G H p M K (Same.refl _) q h⟩
theorem ee_int {i : Int} {j : Nat} (h : Post (dat (.int i)) M) : EE X B (.Constant (.int i) j pos) is M Post := fun σ G H K Q k => EW.of pe_int (k _ G H _ M K (Same.refl _) (Dq.int i) h)
theorem ee_str {i : Str} {j : Nat} (h : Post (dat (.str i)) M) : EE X B (.Constant (.str i) j pos) is M Post := fun σ G H K Q k => EW.of pe_str (k _ G H _ M K (Same.refl _) (Dq.str i) h)
theorem ee_bl {i : Bool} {j : Nat} (h : Post (dat (.bool i)) M) : EE X B (.Constant (.bool i) j pos) is M Post := fun σ G H K Q k => EW.of pe_bl (k _ G H _ M K (Same.refl _) (Dq.bl i) h)
theorem ee_non {j : Nat} (h : Post (dat .none) M) : EE X B (.Constant .none j pos) is M Post := fun σ G H K Q k => EW.of pe_non (k _ G H _ M K (Same.refl _) Dq.non h)
theorem ee_gstr {x z : Str} {t : Tok} (hm : X.mg x = some (.str z t)) (h : Post (dat (.str z)) M) (hg : Gl X x := by rfl) (hd : (x == ("__debug__" : Str)) = false := by decide) : EE X B (.Name x pos) is M Post :=
  fun σ G H K Q k => EW.of (pe_glob (v := .str z) hg hm ⟨t, rfl⟩ hd) (k _ G H _ M K (Same.refl _) (Dq.str z) h)
theorem ee_gint {x : Str} {z : Int} {t : Tok} (hm : X.mg x = some (.int z t)) (h : Post (dat (.int z)) M) (hg : Gl X x := by rfl) (hd : (x == ("__debug__" : Str)) = false := by decide) : EE X B (.Name x pos) is M Post :=
  fun σ G H K Q k => EW.of (pe_glob (v := .int z) hg hm ⟨t, rfl⟩ hd) (k _ G H _ M K (Same.refl _) (Dq.int z) h)
/-- a built-in type as a value -/
theorem ee_ty {x : Str} {T : String} (hm : X.mg x = none) (hv : bootBuiltins x = some (.type T)) (h : Post (raw (.ty T)) M) (hg : Gl X x := by rfl) (hn : x ≠ "__name__" := by decide) (hd : (x == ("__debug__" : Str)) = false := by decide) : EE X B (.Name x pos) is M Post :=
  fun σ G H K Q k => EW.of (pe_bltn (v := .ty T) hg hm hv rfl hn hd) (k _ G H _ M K (Same.refl _) rfl h)
theorem aa_nil {Post : List Pr → MS → Prop} (h : Post [] M) : AA X B [] is M Post := fun σ G H K Q k => AW.of pa_nil (k [] G H [] M K (Same.refl _) True.intro h)
theorem aa_cons {Post : List Pr → MS → Prop} (h : EE X B e is M fun p M1 => AA X B es is M1 fun ps M2 => Post (p :: ps) M2) (hs : starEach (e :: es) X.env = (false, eval e X.env) :: starEach es X.env := by rfl) : AA X B (e :: es) is M Post := fun σ G H K Q k =>
  AW.of (pa_cons pe_w pa_w hs) (h σ G H K _ fun v G1 H1 p M1 K1 g1 q1 h1 => h1 σ G1 H1 K1 _ fun vs G2 H2 ps M2 K2 g2 q2 h2 => k _ G2 H2 (p :: ps) M2 K2 (g1.trans g2) ⟨p.mono g2 q1, q2⟩ h2)
theorem ee_tup {j : Nat} (h : AA X B es is M fun ps M1 => ps.length ≤ 1000 ∧ Post (tupP ps) M1) : EE X B (.Tuple es j pos) is M Post := fun σ G H K Q k =>
  EW.of (pe_tup pa_w) (h σ G H K _ fun vs G1 H1 ps M1 K1 g1 q1 ⟨hl, h1⟩ => ⟨Nat.le_of_lt (small1000 (by rw [← q1.length]; exact hl)), fun p hp => by
    obtain ⟨K2, g2⟩ := K1.new (o := .tup vs) hp
    exact k _ _ _ (tupP ps) M1 K2 (g1.trans g2) ⟨p, vs, rfl, upd_same, q1.mono g2⟩ h1⟩)
/-- .. as data -/
theorem ee_tupd {j : Nat} (h : AA X B es is M fun ps M1 => ∃ ds : List PyData, ps = ds.map dat ∧ ds.length ≤ 1000 ∧ Post (dat (.tuple ds)) M1) : EE X B (.Tuple es j pos) is M Post := fun σ G H K Q k =>
  EW.of (pe_tup pa_w) (h σ G H K _ fun vs G1 H1 ps M1 K1 g1 q1 ⟨ds, e1, hl, h1⟩ => ⟨Nat.le_of_lt (small1000 (by rw [← q1.length, e1, List.length_map]; exact hl)), fun p hp => by
    obtain ⟨K2, g2⟩ := K1.new (o := .tup vs) hp
    subst e1
    exact k _ _ _ _ M1 K2 (g1.trans g2) (Dq.tup upd_same (PL.dats.mp (q1.mono g2))) h1⟩)
theorem ee_lstd (h : AA X B es is M fun ps M1 => ∃ ds : List PyData, ps = ds.map dat ∧ ds.length ≤ 1000 ∧ Post (dat (.list ds)) M1) : EE X B (.List es pos) is M Post := fun σ G H K Q k =>
  EW.of (pe_lst pa_w) (h σ G H K _ fun vs G1 H1 ps M1 K1 g1 q1 ⟨ds, e1, hl, h1⟩ => ⟨Nat.le_of_lt (small1000 (by rw [← q1.length, e1, List.length_map]; exact hl)), fun p hp => by
    obtain ⟨K2, g2⟩ := K1.new (o := .lst vs) hp
    subst e1
    exact k _ _ _ _ M1 K2 (g1.trans g2) (Dq.lst upd_same (PL.dats.mp (q1.mono g2))) h1⟩)
/-- .. a list that will change -/
theorem ee_lstm (h : AA X B es is M fun ps M1 => ps.length ≤ 1000 ∧ ∀ a, Post (raw (.ref a)) (M1 ++ [(a, .lst ps)])) : EE X B (.List es pos) is M Post := fun σ G H K Q k =>
  EW.of (pe_lst pa_w) (h σ G H K _ fun vs G1 H1 ps M1 K1 g1 q1 ⟨hl, h1⟩ => ⟨Nat.le_of_lt (small1000 (by rw [← q1.length]; exact hl)), fun p hp =>
    k _ _ _ _ _ (K1.push (o := .lst vs) (m := .lst ps) hp ⟨vs, upd_same, q1⟩) g1 rfl (h1 p)⟩)
theorem ee_lst (h : AA X B es is M fun ps M1 => ps.length ≤ 1000 ∧ Post (lstP ps) M1) : EE X B (.List es pos) is M Post := fun σ G H K Q k =>
  EW.of (pe_lst pa_w) (h σ G H K _ fun vs G1 H1 ps M1 K1 g1 q1 ⟨hl, h1⟩ => ⟨Nat.le_of_lt (small1000 (by rw [← q1.length]; exact hl)), fun p hp => by
    obtain ⟨K2, g2⟩ := K1.new (o := .lst vs) hp
    exact k _ _ _ (lstP ps) M1 K2 (g1.trans g2) ⟨p, vs, rfl, upd_same, q1.mono g2⟩ h1⟩)
theorem ee_op {op : Operator} {r : R2} (ho : OpR X (binaryOp op) r) (h : EE X B a is M fun p M1 => EE X B b is M1 fun q M2 => R2P B r is p q M2 Post) : EE X B (.BinOp a op b pos) is M Post := fun σ G H K Q k =>
  EW.of (pe_op ho pe_w pe_w) (h σ G H K _ fun v G1 H1 p M1 K1 g1 q1 h1 => h1 σ G1 H1 K1 _ fun w G2 H2 q M2 K2 g2 q2 h2 =>
    h2 σ G2 H2 K2 v w (p.mono g2 q1) q2 Q fun z G3 H3 p' M3 K3 g3 q3 h3 => k z G3 H3 p' M3 K3 ((g1.trans g2).trans g3) q3 h3)
theorem cc_op {op : CmpOp} {r : R2} (ho : OpR X (compareOp op) r) (h : EE X B a is M fun p M1 => EE X B b is M1 fun q M2 => R2P B r is p q M2 Post) : CC X B op a b is M Post := fun σ G H K Q k pins s I =>
  binT pe_w pe_w I (h σ G H K (fun x H1 => EW X b σ H1 fun y H2 => r x y H2 Q) fun v G1 H1 p M1 K1 g1 q1 h1 => h1 σ G1 H1 K1 _ fun w G2 H2 q M2 K2 g2 q2 h2 =>
    h2 σ G2 H2 K2 v w (p.mono g2 q1) q2 Q fun z G3 H3 p' M3 K3 g3 q3 h3 => k z G3 H3 p' M3 K3 ((g1.trans g2).trans g3) q3 h3) fun v u s2 x y H2 I2 rx ry q => ho pins s2 σ H2 x y v u Q I2 rx ry q
theorem r2_I0 {g : Int → Int → V} {d : PyData} {i j : Int} (hd : ∀ G, Dq G d (g i j)) (h : Post (dat d) M) : R2P B (rI0 g) is (dat (.int i)) (dat (.int j)) M Post := fun σ G H K x y hx hy Q k =>
  ⟨i, j, dat_int.mp hx, dat_int.mp hy, k _ G H _ M K (Same.refl _) (hd G) h⟩
theorem r2_I {C : Int → Int → Prop} {g : Int → Int → V} {d : PyData} {i j : Int} (hc : C i j) (hd : ∀ G, Dq G d (g i j)) (h : Post (dat d) M) : R2P B (rI C g) is (dat (.int i)) (dat (.int j)) M Post := fun σ G H K x y hx hy Q k =>
  ⟨i, j, dat_int.mp hx, dat_int.mp hy, hc, k _ G H _ M K (Same.refl _) (hd G) h⟩
/-- both operands ints -/
abbrev I2 (X : Cx) (B : Bs) (a b : Expr) (is : Is) (M : MS) (R : Int → Int → MS → Prop) : Prop := EE X B a is M fun p M1 => ∃ i, p = dat (.int i) ∧ EE X B b is M1 fun q M2 => ∃ j, q = dat (.int j) ∧ R i j M2
theorem EE.imp {P P' : Pr → MS → Prop} (h : EE X B e is M P) (k : ∀ p M', P p M' → P' p M') : EE X B e is M P' := fun σ G H K Q q => h σ G H K Q fun v G' H' p M' K' g p1 p2 => q v G' H' p M' K' g p1 (k _ _ p2)
theorem TT'.imp {P P' : Bool → MS → Prop} (h : TT' X B e is M P) (k : ∀ p M', P p M' → P' p M') : TT' X B e is M P' := fun σ G H K Q q => h σ G H K Q fun v G' H' M' K' g p2 => q v G' H' M' K' g (k _ _ p2)
theorem AA.imp {P P' : List Pr → MS → Prop} (h : AA X B es is M P) (k : ∀ p M', P p M' → P' p M') : AA X B es is M P' := fun σ G H K Q q => h σ G H K Q fun v G' H' p M' K' g p1 p2 => q v G' H' p M' K' g p1 (k _ _ p2)
theorem CC.imp {op : CmpOp} {P P' : Pr → MS → Prop} (h : CC X B op a b is M P) (k : ∀ p M', P p M' → P' p M') : CC X B op a b is M P' := fun σ G H K Q q => h σ G H K Q fun v G' H' p M' K' g p1 p2 => q v G' H' p M' K' g p1 (k _ _ p2)
theorem I2.go {R : Int → Int → MS → Prop} {r : R2} (h : I2 X B a b is M R) (k : ∀ i j M', R i j M' → R2P B r is (dat (.int i)) (dat (.int j)) M' Post) : EE X B a is M fun p M1 => EE X B b is M1 fun q M2 => R2P B r is p q M2 Post :=
  EE.imp h fun p M1 ⟨i, e1, h1⟩ => EE.imp h1 fun q M2 ⟨j, e2, h2⟩ => by subst e1; subst e2; exact k i j M2 h2
theorem ee_add (h : I2 X B a b is M fun i j M' => Post (dat (.int (i + j))) M') : EE X B (.BinOp a .Add b pos) is M Post := ee_op op_add (h.go fun i j M' h => r2_I0 (fun G => Dq.int _) h)
theorem ee_sub (h : I2 X B a b is M fun i j M' => Post (dat (.int (i - j))) M') : EE X B (.BinOp a .Sub b pos) is M Post := ee_op op_sub (h.go fun i j M' h => r2_I0 (fun G => Dq.int _) h)
theorem ee_mul (h : I2 X B a b is M fun i j M' => CMul i j ∧ Post (dat (.int (i * j))) M') : EE X B (.BinOp a .Mult b pos) is M Post := ee_op op_mul (h.go fun i j M' h => r2_I h.1 (fun G => Dq.int _) h.2)
theorem ee_mod (h : I2 X B a b is M fun i j M' => 0 < j ∧ Post (dat (.int (i % j))) M') : EE X B (.BinOp a .Mod b pos) is M Post := ee_op op_mod (h.go fun i j M' h => r2_I h.1 (fun G => Dq.int _) h.2)
theorem ee_fdiv (h : I2 X B a b is M fun i j M' => CDiv i j ∧ Post (dat (.int (i / j))) M') : EE X B (.BinOp a .FloorDiv b pos) is M Post := ee_op op_fdiv (h.go fun i j M' h => r2_I h.1 (fun G => Dq.int _) h.2)
theorem ee_pow (h : I2 X B a b is M fun i j M' => CPow i j ∧ Post (dat (.int (i ^ j.toNat))) M') : EE X B (.BinOp a .Pow b pos) is M Post := ee_op op_pow (h.go fun i j M' h => r2_I h.1 (fun G => Dq.int _) h.2)
theorem ee_adds (h : EE X B a is M fun p M1 => ∃ i, p = dat (.str i) ∧ EE X B b is M1 fun q M2 => ∃ j, q = dat (.str j) ∧ i.length + j.length ≤ sizeLine ∧ Post (dat (.str (i ++ j))) M2) : EE X B (.BinOp a .Add b pos) is M Post :=
  ee_op op_add_str (EE.imp h fun p M1 ⟨i, e1, h1⟩ => EE.imp h1 fun q M2 ⟨j, e2, hl, h2⟩ => fun σ G H K x y hx hy Q k => by
    subst e1; subst e2
    exact ⟨i, j, dat_str.mp hx, dat_str.mp hy, hl, k _ G H _ M2 K (Same.refl _) (Dq.str _) h2⟩)
theorem ee_neg {i : Int} (h : EE X B a is M fun p M1 => ∃ i, p = dat (.int i) ∧ Post (dat (.int (-i))) M1) : EE X B (.UnaryOp .USub a pos) is M Post := fun σ G H K Q k =>
  EW.of (pe_un un_neg pe_w) (h σ G H K _ fun v G1 H1 p M1 K1 g1 q1 ⟨i, e1, h1⟩ => by
    subst e1
    exact ⟨i, dat_int.mp q1, k _ G1 H1 _ M1 K1 g1 (Dq.int _) h1⟩)
theorem cc_lt (h : I2 X B a b is M fun i j M' => Post (dat (.bool (decide (i < j)))) M') : CC X B .Lt a b is M Post := cc_op op_lt (h.go fun i j M' h => r2_I0 (fun G => Dq.bl _) h)
theorem cc_le (h : I2 X B a b is M fun i j M' => Post (dat (.bool (decide (i ≤ j)))) M') : CC X B .LtE a b is M Post := cc_op op_le (h.go fun i j M' h => r2_I0 (fun G => Dq.bl _) h)
theorem cc_gt (h : I2 X B a b is M fun i j M' => Post (dat (.bool (decide (j < i)))) M') : CC X B .Gt a b is M Post := cc_op op_gt (h.go fun i j M' h => r2_I0 (fun G => Dq.bl _) h)
theorem cc_ge (h : I2 X B a b is M fun i j M' => Post (dat (.bool (decide (j ≤ i)))) M') : CC X B .GtE a b is M Post := cc_op op_ge (h.go fun i j M' h => r2_I0 (fun G => Dq.bl _) h)
/-- == and != of data -/
def PlOk (d : PyData) : Prop := d.plain = true ∧ d.depth ≤ 60
def rEqQ (K : PySem.W.Frag) (neg : Bool) : R2 := fun x y H Q => ∃ d e, Dp K H x d ∧ Dp K H y e ∧ PlOk d ∧ PlOk e ∧ Q (.bl (if neg then !PyData.eqv d e else PyData.eqv d e)) H
theorem op_eqQ (hu : X.A.units + 64 < cLine) : OpR X (compareOp .Eq) (rEqQ X.K false) := by
  intro pins s σ H x y v u Q I rx ry h
  obtain ⟨d, e, hd, he, sd, se, q⟩ := h
  obtain ⟨as, r1⟩ := Dp.reads I d x v hd rx
  obtain ⟨bs, r2⟩ := Dp.reads I e y u he ry
  exact PySem.SeqAt.eq_plain r1 r2 sd.1 se.1 (by have := sd.2; have := Nat.min_le_left d.depth e.depth; omega) ⟨.bl _, H, I, rfl, q⟩
theorem op_neQ (hu : X.A.units + 64 < cLine) : OpR X (compareOp .NotEq) (rEqQ X.K true) := by
  intro pins s σ H x y v u Q I rx ry h
  obtain ⟨d, e, hd, he, sd, se, q⟩ := h
  obtain ⟨as, r1⟩ := Dp.reads I d x v hd rx
  obtain ⟨bs, r2⟩ := Dp.reads I e y u he ry
  exact PySem.SeqAt.ne_plain r1 r2 sd.1 se.1 (by have := sd.2; have := Nat.min_le_left d.depth e.depth; omega) ⟨.bl _, H, I, rfl, q⟩
theorem dp_of {K : PySem.W.Frag} {G H : Hp} (k : Same G H) {d : PyData} {v : V} (h : Dq G d v) : Dp K H v d := Dq.dp d v (Dq.mono k d v h)
/-- what may be compared: data, or an own list of data -/
def Cmpd (p : Pr) (M : MS) (d : PyData) : Prop := p = dat d ∨ ∃ (a : Addr) (i : Nat) (ds : List PyData), p = raw (.ref a) ∧ M[i]? = some (a, MO.lst (ds.map dat)) ∧ d = .list ds
theorem Cmpd.dp {σ : St} {G H : Hp} {p : Pr} {d : PyData} {x : V} (K : Ok B σ G H is M) (c : Cmpd p M d) (h : p.p x G) : Dp X.K H x d := by
  rcases c with e | ⟨a, i, ds, e, hi, rfl⟩
  · subst e
    exact dp_of K.kn h
  · subst e
    obtain ⟨vs, h1, h2⟩ := K.at hi
    have e : x = .ref a := h
    subst e
    exact .lst (SqL.of h1) (DqL.dp ds vs (DqL.mono K.kn ds vs (PL.dats.mp h2)))
theorem cc_eqU (hu : X.A.units + 64 < cLine) (h : EE X B a is M fun p M1 => EE X B b is M1 fun q M2 => ∃ d e, Cmpd p M2 d ∧ Cmpd q M2 e ∧ PlOk d ∧ PlOk e ∧ Post (dat (.bool (PyData.eqv d e))) M2) : CC X B .Eq a b is M Post :=
  cc_op (op_eqQ hu) (EE.imp h fun p M1 h1 => EE.imp h1 fun q M2 ⟨d, e, c1, c2, o1, o2, h2⟩ => fun σ G H K x y hx hy Q k =>
    ⟨d, e, c1.dp K hx, c2.dp K hy, o1, o2, k _ G H _ M2 K (Same.refl _) (Dq.bl _) h2⟩)
theorem cc_neU (hu : X.A.units + 64 < cLine) (h : EE X B a is M fun p M1 => EE X B b is M1 fun q M2 => ∃ d e, Cmpd p M2 d ∧ Cmpd q M2 e ∧ PlOk d ∧ PlOk e ∧ Post (dat (.bool (!PyData.eqv d e))) M2) : CC X B .NotEq a b is M Post :=
  cc_op (op_neQ hu) (EE.imp h fun p M1 h1 => EE.imp h1 fun q M2 ⟨d, e, c1, c2, o1, o2, h2⟩ => fun σ G H K x y hx hy Q k =>
    ⟨d, e, c1.dp K hx, c2.dp K hy, o1, o2, k _ G H _ M2 K (Same.refl _) (Dq.bl _) h2⟩)
/-- .. of data with a Lean type -/
theorem plOk_toD {α : Type} [DecidableEq α] [PySem.W.Datum α] (h : PySem.W.Datum.depth α ≤ 60) (x : α) : PlOk (PySem.W.Datum.toD x) := ⟨PySem.W.Datum.plain x, Nat.le_trans (PySem.W.Datum.depth_le x) h⟩
abbrev Dt (X : Cx) (B : Bs) (α : Type) [DecidableEq α] [PySem.W.Datum α] (a b : Expr) (is : Is) (M : MS) (R : α → α → MS → Prop) : Prop :=
  EE X B a is M fun p M1 => EE X B b is M1 fun q M2 => ∃ x y : α, Cmpd p M2 (PySem.W.Datum.toD x) ∧ Cmpd q M2 (PySem.W.Datum.toD y) ∧ R x y M2
theorem cc_eqD {α : Type} [DecidableEq α] [PySem.W.Datum α] (hu : X.A.units + 64 < cLine) (hd : PySem.W.Datum.depth α ≤ 60) (h : Dt X B α a b is M fun x y M' => Post (dat (.bool (decide (x = y)))) M') : CC X B .Eq a b is M Post :=
  cc_eqU hu (EE.imp h fun p M1 h1 => EE.imp h1 fun q M2 ⟨x, y, c1, c2, h2⟩ => ⟨_, _, c1, c2, plOk_toD hd x, plOk_toD hd y, by rw [PySem.W.Datum.eqv]; exact h2⟩)
theorem cc_neD {α : Type} [DecidableEq α] [PySem.W.Datum α] (hu : X.A.units + 64 < cLine) (hd : PySem.W.Datum.depth α ≤ 60) (h : Dt X B α a b is M fun x y M' => Post (dat (.bool (!decide (x = y)))) M') : CC X B .NotEq a b is M Post :=
  cc_neU hu (EE.imp h fun p M1 h1 => EE.imp h1 fun q M2 ⟨x, y, c1, c2, h2⟩ => ⟨_, _, c1, c2, plOk_toD hd x, plOk_toD hd y, by rw [PySem.W.Datum.eqv]; exact h2⟩)
theorem ee_cmp {op : CmpOp} (h : CC X B op a b is M Post) (h1 : behindInMarks op b = false := by first | exact nobehind _ (by decide) (by decide) | rfl) : EE X B (.Compare a [op] [b] pos) is M Post := fun σ G H K Q k => EW.of (pe_cmp pc_w h1) (h σ G H K Q k)
theorem tt_cmp {op : CmpOp} (h : CC X B op a b is M fun p M1 => ∃ c, p = dat (.bool c) ∧ TPost c M1) (h1 : behindInMarks op b = false := by first | exact nobehind _ (by decide) (by decide) | rfl) : TT' X B (.Compare a [op] [b] pos) is M TPost := fun σ G H K Q k =>
  TW.of (pt_cmp pc_w h1) (h σ G H K _ fun v G1 H1 p M1 K1 g1 q1 ⟨c, e1, h1⟩ => ⟨c, by subst e1; exact dat_bl.mp q1, k c G1 H1 M1 K1 g1 h1⟩)
/-- is None, is not None -/
theorem cc_isN {j : Nat} {pos' : Pos} (h : EE X B a is M fun p M1 => ∃ d, p = dat d ∧ Post (dat (.bool (match d with | .none => true | _ => false))) M1) : CC X B .Is a (.Constant .none j pos') is M Post := fun σ G H K Q k =>
  CW.of (pc_isN pe_w) (h σ G H K _ fun v G1 H1 p M1 K1 g1 q1 ⟨d, e1, h1⟩ => by
    subst e1
    refine k _ G1 H1 _ M1 K1 g1 ?_ h1
    have q : Dq G1 d v := q1
    cases q <;> exact Dq.bl _)
theorem cc_notN {j : Nat} {pos' : Pos} (h : EE X B a is M fun p M1 => ∃ d, p = dat d ∧ Post (dat (.bool (!(match d with | .none => true | _ => false)))) M1) : CC X B .IsNot a (.Constant .none j pos') is M Post := fun σ G H K Q k =>
  CW.of (pc_notN pe_w) (h σ G H K _ fun v G1 H1 p M1 K1 g1 q1 ⟨d, e1, h1⟩ => by
    subst e1
    refine k _ G1 H1 _ M1 K1 g1 ?_ h1
    have q : Dq G1 d v := q1
    cases q <;> exact Dq.bl _)
theorem tt_val (h : EE X B e is M fun p M1 => ∃ c, p = dat (.bool c) ∧ TPost c M1) (he : ∀ whole, isTrue e X.env whole = (do let v ← whole; standAt e.pos; holding [v] (truthy v)) := by intro _; rfl) : TT' X B e is M TPost := fun σ G H K Q k =>
  TW.of (pt_val pe_w he) (h σ G H K _ fun v G1 H1 p M1 K1 g1 q1 ⟨c, e1, h1⟩ => ⟨c, by subst e1; exact dat_bl.mp q1, k c G1 H1 M1 K1 g1 h1⟩)
theorem tt_not (h : TT' X B a is M fun c M1 => TPost (!c) M1) : TT' X B (.UnaryOp .Not a pos) is M TPost := fun σ G H K Q k =>
  TW.of (pt_not pt_w) (h σ G H K _ fun c G1 H1 M1 K1 g1 h1 => k _ G1 H1 M1 K1 g1 h1)
theorem tt_w (h : WT X B e is M TPost) : TT' X B e is M TPost := fun σ G H K Q k => TW.of (PW.pt pw_w) (h σ G H K Q k)
theorem wt_and1 (h : TT' X B a is M TPost) : WT X B (.BoolOp .And [a] pos) is M TPost := fun σ G H K Q k => WW.of (pw_and1 pt_w) (h σ G H K Q k)
theorem wt_or1 (h : TT' X B a is M TPost) : WT X B (.BoolOp .Or [a] pos) is M TPost := fun σ G H K Q k => WW.of (pw_or1 pt_w) (h σ G H K Q k)
theorem wt_and {rest : List Expr} (h : TT' X B a is M fun c M1 => (c = false → TPost false M1) ∧ (c = true → WT X B (.BoolOp .And (b :: rest) pos) is M1 TPost)) : WT X B (.BoolOp .And (a :: b :: rest) pos) is M TPost := fun σ G H K Q k =>
  WW.of (pw_and pt_w pw_w) (h σ G H K _ fun c G1 H1 M1 K1 g1 h1 => by
    cases c with
    | true => exact h1.2 rfl σ G1 H1 K1 _ fun d G2 H2 M2 K2 g2 h2 => k d G2 H2 M2 K2 (g1.trans g2) h2
    | false => exact k _ G1 H1 M1 K1 g1 (h1.1 rfl))
theorem wt_or {rest : List Expr} (h : TT' X B a is M fun c M1 => (c = true → TPost true M1) ∧ (c = false → WT X B (.BoolOp .Or (b :: rest) pos) is M1 TPost)) : WT X B (.BoolOp .Or (a :: b :: rest) pos) is M TPost := fun σ G H K Q k =>
  WW.of (pw_or pt_w pw_w) (h σ G H K _ fun c G1 H1 M1 K1 g1 h1 => by
    cases c with
    | false => exact h1.2 rfl σ G1 H1 K1 _ fun d G2 H2 M2 K2 g2 h2 => k d G2 H2 M2 K2 (g1.trans g2) h2
    | true => exact k _ G1 H1 M1 K1 g1 (h1.1 rfl))
theorem ee_one {op : BoolOp} (h : EE X B a is M Post) : EE X B (.BoolOp op [a] pos) is M Post := fun σ G H K Q k => EW.of (pe_one pe_w) (h σ G H K Q k)
theorem ee_and {rest : List Expr} (h : EE X B a is M fun p M1 => ∃ c, p = dat (.bool c) ∧ (c = false → Post (dat (.bool false)) M1) ∧ (c = true → EE X B (.BoolOp .And (b :: rest) pos) is M1 Post)) : EE X B (.BoolOp .And (a :: b :: rest) pos) is M Post := fun σ G H K Q k =>
  EW.of (pe_and pe_w pe_w) (h σ G H K _ fun v G1 H1 p M1 K1 g1 q1 ⟨c, e1, h0, h1⟩ => ⟨c, by subst e1; exact dat_bl.mp q1, by
    cases c with
    | true => exact h1 rfl σ G1 H1 K1 _ fun d G2 H2 p2 M2 K2 g2 q2 h2 => k d G2 H2 p2 M2 K2 (g1.trans g2) q2 h2
    | false => exact k _ G1 H1 _ M1 K1 g1 (Dq.bl _) (h0 rfl)⟩)
theorem ee_or {rest : List Expr} (h : EE X B a is M fun p M1 => ∃ c, p = dat (.bool c) ∧ (c = true → Post (dat (.bool true)) M1) ∧ (c = false → EE X B (.BoolOp .Or (b :: rest) pos) is M1 Post)) : EE X B (.BoolOp .Or (a :: b :: rest) pos) is M Post := fun σ G H K Q k =>
  EW.of (pe_or pe_w pe_w) (h σ G H K _ fun v G1 H1 p M1 K1 g1 q1 ⟨c, e1, h0, h1⟩ => ⟨c, by subst e1; exact dat_bl.mp q1, by
    cases c with
    | false => exact h1 rfl σ G1 H1 K1 _ fun d G2 H2 p2 M2 K2 g2 q2 h2 => k d G2 H2 p2 M2 K2 (g1.trans g2) q2 h2
    | true => exact k _ G1 H1 _ M1 K1 g1 (Dq.bl _) (h0 rfl)⟩)
theorem ee_not (h : EE X B a is M fun p M1 => ∃ c, p = dat (.bool c) ∧ Post (dat (.bool (!c))) M1) : EE X B (.UnaryOp .Not a pos) is M Post := fun σ G H K Q k =>
  EW.of (pe_not pe_w) (h σ G H K _ fun v G1 H1 p M1 K1 g1 q1 ⟨c, e1, h1⟩ => ⟨c, by subst e1; exact dat_bl.mp q1, k _ G1 H1 _ M1 K1 g1 (Dq.bl _) h1⟩)
theorem ee_if (h : TT' X B c is M fun t M1 => (t = true → EE X B a is M1 Post) ∧ (t = false → EE X B b is M1 Post)) : EE X B (.IfExp c a b pos) is M Post := fun σ G H K Q k =>
  EW.of (pe_ifExp pt_w pe_w pe_w) (h σ G H K _ fun t G1 H1 M1 K1 g1 h1 => by
    cases t with
    | true => exact h1.1 rfl σ G1 H1 K1 _ fun d G2 H2 p2 M2 K2 g2 q2 h2 => k d G2 H2 p2 M2 K2 (g1.trans g2) q2 h2
    | false => exact h1.2 rfl σ G1 H1 K1 _ fun d G2 H2 p2 M2 K2 g2 q2 h2 => k d G2 H2 p2 M2 K2 (g1.trans g2) q2 h2)
theorem bb_nil (h : D.nx is M) : BB X B [] is M D := fun σ G H K DD R => BW.of pss_nil (R.nx σ G H is M K (Same.refl _) h)
theorem bb_cons {st : Stmt} {rest : List Stmt} (h : SS X B st is M { nx := fun is' M' => BB X B rest is' M' D, rt := D.rt, bk := D.bk, ct := D.ct }) : BB X B (st :: rest) is M D := fun σ G H K DD R =>
  BW.of (pss_cons ps_w pss_w) (h σ G H K { DD with nx := BW X rest DD } ⟨fun σ' G' H' is' M' K' g h' => h' σ' G' H' K' DD (R.mono g), R.rt, R.bk, R.ct⟩)
theorem ss_ret (h : EE X B e is M D.rt) : SS X B (.Return (some e) pos) is M D := fun σ G H K DD R =>
  SW.of (ps_ret pe_w) (h σ G H K _ fun v G1 H1 p M1 K1 g1 q1 h1 => R.rt v σ G1 H1 is p M1 K1 g1 q1 h1)
theorem ss_expr (h : EE X B e is M fun _ M1 => D.nx is M1) (hs : swapsWith e none pos.line X.env = pure false := by rfl) : SS X B (.Expr e pos) is M D := fun σ G H K DD R =>
  SW.of (ps_expr pe_w hs) (h σ G H K _ fun v G1 H1 p M1 K1 g1 q1 h1 => R.nx σ G1 H1 is M1 K1 g1 h1)
theorem ss_set (i : Nat) {x : Str} {pos' : Pos} (h : EE X B e is M fun p M1 => D.nx (is.set i (some p)) M1) (hN : X.N.Nodup) (hi : X.N[i]? = some x := by rfl) (hx : Loc X.env.scope x := by first | exact Or.inl rfl | exact Or.inr rfl)
    (hs : swapsWith e (some (.Name x pos')) pos.line X.env = pure false := by rfl) (hf : X.fn x = true ∨ X.env.scope.names.lookup x = some .local := by first | exact .inl rfl | exact .inr rfl) : SS X B (.Assign [.Name x pos'] e pos) is M D := fun σ G H K DD R =>
  SW.of (ps_set hN hi hx pe_w hs hf) (h σ G H K _ fun v G1 H1 p M1 K1 g1 q1 h1 => R.nx _ G1 H1 _ M1 (K1.slot i q1) g1 h1)
theorem ss_if {u w : List Stmt} (h : TT' X B c is M fun t M1 => (t = true → BB X B u is M1 D) ∧ (t = false → BB X B w is M1 D)) : SS X B (.If c u w pos) is M D := fun σ G H K DD R =>
  SW.of (ps_if pt_w pss_w pss_w) (h σ G H K _ fun t G1 H1 M1 K1 g1 h1 => by
    cases t with
    | true => exact h1.1 rfl σ G1 H1 K1 DD (R.mono g1)
    | false => exact h1.2 rfl σ G1 H1 K1 DD (R.mono g1))
/-- target = value -/
theorem ss_asg (vs : List Nat) {tg : Expr} (h : EE X B e is M fun p M1 => GG X B vs tg p is M1 D.nx) (hs : swapsWithSole [tg] e pos.line X.env = pure false := by rfl) (hw : swappedStores [tg] e X.env = pure none := by rfl)
    (h1 : (assignEach [tg] X.env).map (·.2) = [assign tg X.env] := by rfl) : SS X B (.Assign [tg] e pos) is M D := fun σ G H K DD R =>
  SW.of (ps_asg pe_w pg_w hs hw h1) (h σ G H K _ fun v G1 H1 p M1 K1 g1 q1 h1 => h1 σ G1 H1 K1 v q1 _ fun σ' G2 H2 is2 M2 K2 g2 _ h2 => R.nx σ' G2 H2 is2 M2 K2 (g1.trans g2) h2)
/-- a, b = x, y with plain names -/
theorem ss_par (i j : Nat) {x y : Str} {px py pt : Pos} {kt k2 : Nat} {pt2 : Pos} (hc : X.calm = true) (hN : X.N.Nodup) (hij : i ≠ j) (h : AA X B [a, b] is M fun ps M1 => ∃ p q, ps = [p, q] ∧ D.nx ((is.set i (some p)).set j (some q)) M1)
    (hi : X.N[i]? = some x := by rfl) (hj : X.N[j]? = some y := by rfl) (hx : X.env.scope.names.lookup x = some .local := by rfl) (hy : X.env.scope.names.lookup y = some .local := by rfl)
    (hw : swappedStores [.Tuple [.Name x px, .Name y py] kt pt] (.Tuple [a, b] k2 pt2) X.env = pure (some [x, y]) := by rfl)
    (hs : swapsWithSole [.Tuple [.Name x px, .Name y py] kt pt] (.Tuple [a, b] k2 pt2) pos.line X.env = pure false := by rfl) : SS X B (.Assign [.Tuple [.Name x px, .Name y py] kt pt] (.Tuple [a, b] k2 pt2) pos) is M D := fun σ G H K DD R =>
  SW.of (ps_par hc hN hi hj hij hx hy pa_w hw hs) (h σ G H K _ fun vs G1 H1 ps M1 K1 g1 q1 ⟨p, q, e1, h1⟩ => by
    subst e1
    match vs, q1 with
    | [v, w], ⟨r1, r2, _⟩ => exact ⟨v, w, rfl, R.nx _ G1 H1 _ M1 ((K1.slot i r1).slot j r2) g1 h1⟩)
theorem wipe_set {i : Nat} {x : Option V} : ∀ {vs : List Nat} {σ : St}, i ∈ vs → wipe (σ.set i x) vs = wipe σ vs
  | [], _, h => by simp at h
  | v :: vs, σ, h => by
    unfold wipe
    by_cases hv : i ∈ vs
    · rw [wipe_set hv]
    · have e : i = v := (List.mem_cons.mp h).resolve_right hv
      subst e
      have go : ∀ (vs : List Nat) (σ : St), i ∉ vs → wipe (σ.set i x) vs = (wipe σ vs).set i x := by
        intro vs
        induction vs with
        | nil => intro σ _; rfl
        | cons w ws ih =>
          intro σ hn
          unfold wipe
          rw [ih σ (fun z => hn (List.mem_cons_of_mem _ z))]
          exact List.set_comm _ _ (fun z => hn (by rw [z]; exact List.mem_cons_self))
      rw [go vs σ hv, List.set_set]
theorem gg_name (i : Nat) {x : Str} {p : Pr} {vs : List Nat} {GPost : Is → MS → Prop} (hN : X.N.Nodup) (h : GPost (is.set i (some p)) M) (hm : i ∈ vs := by decide) (hi : X.N[i]? = some x := by rfl) (hx : Loc X.env.scope x := by first | exact Or.inl rfl | exact Or.inr rfl)
    (hf : X.fn x = true ∨ X.env.scope.names.lookup x = some .local := by first | exact .inl rfl | exact .inr rfl) : GG X B vs (.Name x pos) p is M GPost := fun σ G H K v hp Q k =>
  GW.of (pg_name hN hi hx hf) (k _ G H _ M (K.slot i hp) (Same.refl _) (wipe_set hm) h)
theorem ggs_nil {vs : List Nat} {GPost : Is → MS → Prop} (h : GPost is M) : GGs X B vs [] [] is M GPost := fun σ G H K ws hp Q k => by
  match ws, hp with
  | [], _ => exact GWs.of pgs_nil ⟨rfl, k σ G H is M K (Same.refl _) rfl h⟩
theorem ggs_cons {vs : List Nat} {ts : List Expr} {p : Pr} {ps : List Pr} {GPost : Is → MS → Prop} (h : GG X B vs e p is M fun is' M' => GGs X B vs ts ps is' M' GPost)
    (hs : (assignEach (e :: ts) X.env).map (·.2) = assign e X.env :: (assignEach ts X.env).map (·.2) := by rfl) : GGs X B vs (e :: ts) (p :: ps) is M GPost := fun σ G H K ws hp Q k => by
  match ws, hp with
  | w :: ws, ⟨h1, h2⟩ =>
    exact GWs.of (pgs_cons pg_w pgs_w hs) ⟨w, ws, rfl, h σ G H K w h1 _ fun σ1 G1 H1 is1 M1 K1 g1 e1 q1 => q1 σ1 G1 H1 K1 ws (h2.mono g1) _ fun σ2 G2 H2 is2 M2 K2 g2 e2 q2 => k σ2 G2 H2 is2 M2 K2 (g1.trans g2) (e2.trans e1) q2⟩
theorem gg_tup {vs : List Nat} {ts : List Expr} {ps : List Pr} {j n : Nat} {GPost : Is → MS → Prop} (hc : X.calm = true) (h : GGs X B vs ts ps is M GPost) (hl : ps.length = n := by rfl)
    (hn : (assignEach ts X.env).length = n := by rfl) (hst : (assignEach ts X.env).findIdx? (·.1) = none := by rfl) : GG X B vs (.Tuple ts j pos) (tupP ps) is M GPost := fun σ G H K v ⟨a, ws, e1, h1, h2⟩ Q k =>
  GW.of (pg_tup hc pgs_w hn hst) ⟨a, ws, e1, SqT.of (K.kn _ _ h1), by rw [← h2.length]; exact hl, h σ G H K ws h2 Q k⟩
theorem gg_tupd {vs : List Nat} {ts : List Expr} {ds : List PyData} {j n : Nat} {GPost : Is → MS → Prop} (hc : X.calm = true) (h : GGs X B vs ts (ds.map dat) is M GPost) (hl : ds.length = n := by rfl)
    (hn : (assignEach ts X.env).length = n := by rfl) (hst : (assignEach ts X.env).findIdx? (·.1) = none := by rfl) : GG X B vs (.Tuple ts j pos) (dat (.tuple ds)) is M GPost := fun σ G H K v hp Q k =>
  gg_tup hc h (by rw [List.length_map]; exact hl) hn hst σ G H K v (dat_tup.mp hp) Q k
end
end Q9
namespace Q9
open PySem L2
section
variable {X : Cx} {B : Bs} {is : Is} {M : MS} {Post : Pr → MS → Prop} {IPost : List Pr → MS → Prop} {D : En} {a b c e tg iter : Expr} {es : List Expr} {pos : Pos}
theorem wlk_list {K : PySem.W.Frag} {G1 : Hp} {a : Addr} {vs : List V} {ps : List Pr} (h : G1 a = some (.lst vs)) (q : PL G1 ps vs) : Wlk (Itl K a) G1 ps := fun G H g k => by
  have hH : SqL K H a vs := SqL.of (k _ _ (g _ _ h))
  refine ⟨fun i p hp => ?_, fun i hi => ⟨vs, hH, by rw [← q.length]; exact hi⟩⟩
  obtain ⟨v, hv, qv⟩ := q.get hp
  refine ⟨⟨vs, v, hH, hv⟩, fun x H' hy => ?_⟩
  obtain ⟨rfl, f⟩ := hy
  have e : v = x := Option.some.inj (hv.symm.trans (f vs hH))
  subst e
  exact ⟨G, Same.refl _, k, Same.refl _, fun _ _ _ _ => rfl, p.mono g qv⟩
theorem wlk_tup {K : PySem.W.Frag} {G1 : Hp} {a : Addr} {vs : List V} {ps : List Pr} (h : G1 a = some (.tup vs)) (q : PL G1 ps vs) : Wlk (Itt K a) G1 ps := fun G H g k => by
  have hH : SqT K H a vs := SqT.of (k _ _ (g _ _ h))
  refine ⟨fun i p hp => ?_, fun i hi => ⟨vs, hH, by rw [← q.length]; exact hi⟩⟩
  obtain ⟨v, hv, qv⟩ := q.get hp
  refine ⟨⟨vs, v, hH, hv⟩, fun x H' hy => ?_⟩
  obtain ⟨rfl, f⟩ := hy
  have e : v = x := Option.some.inj (hv.symm.trans (f vs hH))
  subst e
  exact ⟨G, Same.refl _, k, Same.refl _, fun _ _ _ _ => rfl, p.mono g qv⟩
theorem ii_lst (h : EE X B iter is M fun p M1 => ∃ ps, p = lstP ps ∧ IPost ps M1) : II X B tg iter is M IPost := fun σ G H K R k =>
  IW.of (pi_list pe_w) (h σ G H K _ fun v G1 H1 p M1 K1 g1 q1 ⟨ps, e1, h1⟩ => by
    subst e1
    obtain ⟨a, vs, e, hg, q⟩ := q1
    exact ⟨a, e, ⟨vs, SqL.of (K1.kn _ _ hg)⟩, k _ G1 H1 ps M1 K1 g1 (wlk_list hg q) h1⟩)
theorem ii_lstd (h : EE X B iter is M fun p M1 => ∃ ds, p = dat (.list ds) ∧ IPost (ds.map dat) M1) : II X B tg iter is M IPost := fun σ G H K R k =>
  IW.of (pi_list pe_w) (h σ G H K _ fun v G1 H1 p M1 K1 g1 q1 ⟨ds, e1, h1⟩ => by
    subst e1
    obtain ⟨a, vs, e, hg, q⟩ := dat_lst.mp q1
    exact ⟨a, e, ⟨vs, SqL.of (K1.kn _ _ hg)⟩, k _ G1 H1 _ M1 K1 g1 (wlk_list hg q) h1⟩)
theorem ii_tupd (h : EE X B iter is M fun p M1 => ∃ ds, p = dat (.tuple ds) ∧ IPost (ds.map dat) M1) : II X B tg iter is M IPost := fun σ G H K R k =>
  IW.of (pi_tup pe_w) (h σ G H K _ fun v G1 H1 p M1 K1 g1 q1 ⟨ds, e1, h1⟩ => by
    subst e1
    obtain ⟨a, vs, e, hg, q⟩ := dat_tup.mp q1
    exact ⟨a, e, ⟨vs, SqT.of (K1.kn _ _ hg)⟩, k _ G1 H1 _ M1 K1 g1 (wlk_tup hg q) h1⟩)
theorem ii_range {p : Pos} (hm : X.mg "range" = none) (h : AA X B [a] is M fun ps M1 => ∃ n : Nat, ps = [dat (.int n)] ∧ n < 1000000 ∧ IPost ((List.range n).map fun (i : Nat) => dat (.int (i : Int))) M1)
    (hg : Gl X "range" := by rfl) (hs : starEach [a] X.env = [(false, eval a X.env)] := by rfl) : II X B tg (.Call (.Name "range" p) [a] [] pos) is M IPost := fun σ G H K R k =>
  IW.of (pi_range1 hg hm pa_w hs) (h σ G H K _ fun vs G1 H1 ps M1 K1 g1 q1 ⟨n, e1, hn, h1⟩ => by
    subst e1
    match vs, q1 with
    | [v], ⟨qv, _⟩ =>
      have e : v = .int n := dat_int.mp qv
      subst e
      refine ⟨n, rfl, by omega, by omega, k _ G1 H1 _ M1 K1 g1 (fun G H g kk => ⟨fun i p hp => ?_, fun i hi => ?_⟩) h1⟩
      · rw [List.getElem?_map] at hp
        by_cases hi : i < n
        · rw [List.getElem?_range hi] at hp
          have hp' : dat (.int (i : Int)) = p := Option.some.inj hp
          refine ⟨show i < (n : Int).toNat by omega, fun x H' hy => ?_⟩
          obtain ⟨rfl, rfl⟩ := hy
          refine ⟨G, Same.refl _, kk, Same.refl _, fun _ _ _ _ => rfl, ?_⟩
          rw [← hp']
          exact dat_int.mpr (by congr 1; omega)
        · rw [List.getElem?_eq_none (by simpa using hi)] at hp
          cases hp
      · show (n : Int).toNat ≤ i
        rw [List.length_map, List.length_range] at hi
        omega)
theorem ii_enum {p tpos : Pos} {elts : List Expr} {kk : Nat} (hm : X.mg "enumerate" = none) (h : AA X B [a] is M fun ps M1 => ∃ qs, ps = [lstP qs] ∧ IPost ((List.range qs.length).map fun (i : Nat) => tupP [dat (.int (i : Int)), qs.getD i (raw .non)]) M1)
    (hg : Gl X "enumerate" := by rfl) (hs : starEach [a] X.env = [(false, eval a X.env)] := by rfl) : II X B (.Tuple elts kk tpos) (.Call (.Name "enumerate" p) [a] [] pos) is M IPost := fun σ G H K R k =>
  IW.of (pi_enum hg hm pa_w hs) (h σ G H K _ fun vs G1 H1 ps M1 K1 g1 q1 ⟨qs, e1, h1⟩ => by
    subst e1
    match vs, q1 with
    | [v], ⟨⟨a, xs, e, hg1, qx⟩, _⟩ =>
      subst e
      refine ⟨a, xs, rfl, SqL.of (K1.kn _ _ hg1), k _ G1 H1 _ M1 K1 g1 (fun G H g kk => ?_) h1⟩
      have hH : SqL X.K H a xs := SqL.of (kk _ _ (g _ _ hg1))
      refine ⟨fun i p hp => ?_, fun i hi => ⟨xs, hH, by rw [List.length_map, List.length_range, qx.length] at hi; exact hi⟩⟩
      rw [List.getElem?_map] at hp
      by_cases hi : i < qs.length
      · rw [List.getElem?_range hi] at hp
        have hp' : tupP [dat (.int (i : Int)), qs.getD i (raw .non)] = p := Option.some.inj hp
        have hq : qs[i]? = some (qs.getD i (raw .non)) := by rw [List.getElem?_eq_getElem hi, List.getD_eq_getElem?_getD, List.getElem?_eq_getElem hi]; rfl
        obtain ⟨w, hw, qw⟩ := qx.get hq
        refine ⟨⟨xs, w, hH, hw⟩, fun x H' hy => ?_⟩
        obtain ⟨T, y, rfl, hT, rfl, f⟩ := hy
        have e : w = y := Option.some.inj (hw.symm.trans (f xs hH))
        subst e
        have nT := none_back kk hT
        refine ⟨upd G T (.tup [.int i, w]), same_upd nT, same_upd2 kk hT, same_upd hT, upd_n hT, ?_⟩
        rw [← hp']
        exact ⟨T, _, rfl, upd_same, Dq.int _, (qs.getD i (raw .non)).mono (g.trans (same_upd nT)) qw, True.intro⟩
      · rw [List.getElem?_eq_none (by simpa using hi)] at hp
        cases hp)
theorem ii_zip {p tpos : Pos} {elts : List Expr} {kk : Nat} (hm : X.mg "zip" = none) (h : AA X B [a, b] is M fun ps M1 => ∃ qs rs, ps = [lstP qs, lstP rs] ∧ qs.length = rs.length ∧ IPost ((List.range qs.length).map fun (i : Nat) => tupP [qs.getD i (raw .non), rs.getD i (raw .non)]) M1)
    (hg : Gl X "zip" := by rfl) (hs : starEach [a, b] X.env = (false, eval a X.env) :: starEach [b] X.env := by rfl) (hpl : (backTo pos (starEach [b] X.env)).any (·.1) = false := by rfl) : II X B (.Tuple elts kk tpos) (.Call (.Name "zip" p) [a, b] [] pos) is M IPost := fun σ G H K R k =>
  IW.of (pi_zip hg hm pa_w hs hpl) (h σ G H K _ fun vs G1 H1 ps M1 K1 g1 q1 ⟨qs, rs, e1, hl, h1⟩ => by
    subst e1
    match vs, q1 with
    | [v, v2], ⟨⟨a, xs, e, hg1, qx⟩, ⟨a2, xs2, e2, hg2, qx2⟩, _⟩ =>
      subst e; subst e2
      refine ⟨a, a2, xs, xs2, rfl, SqL.of (K1.kn _ _ hg1), SqL.of (K1.kn _ _ hg2), k _ G1 H1 _ M1 K1 g1 (fun G H g kk => ?_) h1⟩
      have hH : SqL X.K H a xs := SqL.of (kk _ _ (g _ _ hg1))
      have hH2 : SqL X.K H a2 xs2 := SqL.of (kk _ _ (g _ _ hg2))
      refine ⟨fun i p hp => ?_, fun i hi => ⟨xs, xs2, hH, hH2, .inl (by rw [List.length_map, List.length_range, qx.length] at hi; exact hi)⟩⟩
      rw [List.getElem?_map] at hp
      by_cases hi : i < qs.length
      · rw [List.getElem?_range hi] at hp
        have hp' : tupP [qs.getD i (raw .non), rs.getD i (raw .non)] = p := Option.some.inj hp
        have hq : qs[i]? = some (qs.getD i (raw .non)) := by rw [List.getElem?_eq_getElem hi, List.getD_eq_getElem?_getD, List.getElem?_eq_getElem hi]; rfl
        have hr : rs[i]? = some (rs.getD i (raw .non)) := by rw [List.getElem?_eq_getElem (hl ▸ hi), List.getD_eq_getElem?_getD, List.getElem?_eq_getElem (hl ▸ hi)]; rfl
        obtain ⟨w, hw, qw⟩ := qx.get hq
        obtain ⟨w2, hw2, qw2⟩ := qx2.get hr
        refine ⟨⟨xs, xs2, w, w2, hH, hH2, hw, hw2⟩, fun x H' hy => ?_⟩
        obtain ⟨T, y, y2, rfl, hT, rfl, f, f2⟩ := hy
        have e : w = y := Option.some.inj (hw.symm.trans (f xs hH))
        have e2 : w2 = y2 := Option.some.inj (hw2.symm.trans (f2 xs2 hH2))
        subst e; subst e2
        have nT := none_back kk hT
        refine ⟨upd G T (.tup [w, w2]), same_upd nT, same_upd2 kk hT, same_upd hT, upd_n hT, ?_⟩
        rw [← hp']
        exact ⟨T, _, rfl, upd_same, (qs.getD i (raw .non)).mono (g.trans (same_upd nT)) qw, (rs.getD i (raw .non)).mono (g.trans (same_upd nT)) qw2, True.intro⟩
      · rw [List.getElem?_eq_none (by simpa using hi)] at hp
        cases hp)
theorem ii_str (h : EE X B iter is M fun p M1 => ∃ z, p = dat (.str z) ∧ IPost (z.cps.toList.map fun c => dat (.str ⟨#[c]⟩)) M1) : II X B tg iter is M IPost := fun σ G H K R k =>
  IW.of (pi_str pe_w) (h σ G H K _ fun v G1 H1 p M1 K1 g1 q1 ⟨z, e1, h1⟩ => by
    subst e1
    refine ⟨z, dat_str.mp q1, k _ G1 H1 _ M1 K1 g1 (fun G H g kk => ⟨fun i p hp => ?_, fun i hi => ?_⟩) h1⟩
    · rw [List.getElem?_map, Array.getElem?_toList] at hp
      cases hz : z.cps[i]? with
      | none => rw [hz] at hp; cases hp
      | some c =>
        rw [hz] at hp
        have hp' : dat (.str ⟨#[c]⟩) = p := Option.some.inj hp
        refine ⟨show i < z.cps.size from (Array.getElem?_eq_some_iff.mp hz).1, fun x H' hy => ?_⟩
        obtain ⟨rfl, c', hc, rfl⟩ := hy
        rw [hz] at hc
        cases hc
        exact ⟨G, Same.refl _, kk, Same.refl _, fun _ _ _ _ => rfl, by rw [← hp']; exact Dq.str _⟩
    · show z.cps.size ≤ i
      rw [List.length_map, Array.length_toList] at hi
      exact hi)
theorem ss_for (vs : List Nat) {body : List Stmt} (hc : X.calm = true) (hp : PassesOwn (model X.prog X.w) X.A X.env X.xe)
    (h : II X B tg iter is M fun ps M1 => ∃ I : Nat → Is → MS → Prop, I 0 is M1 ∧
      (∀ i p is' M', ps[i]? = some p → I i is' M' → GG X B vs tg p is' M' fun is2 M2 => BB X B body is2 M2 { nx := I (i + 1), ct := I (i + 1), bk := D.nx, rt := D.rt }) ∧ ∀ is' M', I ps.length is' M' → D.nx is' M')
    (hfs : ∀ x, foldedSetIterable iter X.env x = pure x := by intro _; rfl) : SS X B (.For tg iter body [] pos) is M D := fun σ G H K DD R =>
  SW.of (ps_for hp hc pi_w pg_w pss_w hfs) (h σ G H K _ fun J G1 H1 ps M1 K1 g1 wk ⟨I, h0, hs, hd⟩ => by
    refine ⟨fun i m σ H => m + i = ps.length ∧ ∃ G is' M', Ok B σ G H is' M' ∧ Same G1 G ∧ I i is' M', ⟨ps.length, rfl, G1, is, M1, K1, Same.refl _, h0⟩, fun i m σ' H' ⟨em, G', is', M', K', g', hI⟩ => ?_⟩
    obtain ⟨w1, w2⟩ := wk G' H' g' K'.kn
    by_cases hi : i < ps.length
    · obtain ⟨go, yl⟩ := w1 i ps[i] (List.getElem?_eq_getElem hi)
      refine .inr ⟨go, fun σ2 H2 => ∃ G2 is2 M2, Ok B σ2 G2 H2 is2 M2 ∧ Same G1 G2 ∧ I (i + 1) is2 M2, fun σ2 H2 q => ⟨m - 1, by omega, by omega, q⟩, fun x H2 hy => ?_⟩
      obtain ⟨G2, y1, y2, y3, y4, y5⟩ := yl x H2 hy
      have K2 := K'.ext y1 y2 y3 y4
      refine hs i ps[i] is' M' (List.getElem?_eq_getElem hi) hI σ' G2 H2 K2 x y5 _ fun σ3 G3 H3 is3 M3 K3 g3 _ h3 => ?_
      have gg : Same G1 G3 := (g'.trans y1).trans g3
      exact h3 σ3 G3 H3 K3 _ ⟨fun σ4 G4 H4 is4 M4 K4 g4 q => ⟨G4, is4, M4, K4, gg.trans g4, q⟩, fun v σ4 G4 H4 is4 p M4 K4 g4 q4 q => R.rt v σ4 G4 H4 is4 p M4 K4 ((g1.trans gg).trans g4) q4 q,
        fun σ4 G4 H4 is4 M4 K4 g4 q => R.nx σ4 G4 H4 is4 M4 K4 ((g1.trans gg).trans g4) q, fun σ4 G4 H4 is4 M4 K4 g4 q => ⟨G4, is4, M4, K4, gg.trans g4, q⟩⟩
    · have e : i = ps.length := by omega
      subst e
      exact .inl ⟨w2 _ (Nat.le_refl _), R.nx σ' G' H' is' M' K' (g1.trans g') (hd is' M' hI)⟩)
theorem ss_while {body : List Stmt} (hp : PassesOwn (model X.prog X.w) X.A X.env X.xe) (I : Nat → Is → MS → Prop) (m0 : Nat) (h0 : I m0 is M)
    (h : ∀ m is' M', I m is' M' → TT' X B c is' M' fun t M2 => (t = true → BB X B body is' M2 { nx := fun is3 M3 => ∃ m', m' < m ∧ I m' is3 M3, ct := fun is3 M3 => ∃ m', m' < m ∧ I m' is3 M3, bk := D.nx, rt := D.rt }) ∧ (t = false → D.nx is' M2)) :
    SS X B (.While c body [] pos) is M D := fun σ G H K DD R =>
  SW.of (ps_while hp pt_w pss_w) ⟨fun m σ H => ∃ G' is' M', Ok B σ G' H is' M' ∧ Same G G' ∧ I m is' M', ⟨m0, G, is, M, K, Same.refl _, h0⟩, fun m σ' H' ⟨G', is', M', K', g', hI⟩ => by
    refine h m is' M' hI σ' G' H' K' _ fun t G2 H2 M2 K2 g2 h2 => ?_
    have gg := g'.trans g2
    cases t with
    | true =>
      rw [if_pos rfl]
      refine ⟨fun σ3 H3 => ∃ m', m' < m ∧ ∃ G3 is3 M3, Ok B σ3 G3 H3 is3 M3 ∧ Same G G3 ∧ I m' is3 M3, fun σ3 H3 ⟨m', hm, q⟩ => ⟨m', hm, q⟩, ?_⟩
      exact h2.1 rfl σ' G2 H2 K2 _ ⟨fun σ4 G4 H4 is4 M4 K4 g4 ⟨m', hm, q⟩ => ⟨m', hm, G4, is4, M4, K4, gg.trans g4, q⟩, fun v σ4 G4 H4 is4 p M4 K4 g4 q4 q => R.rt v σ4 G4 H4 is4 p M4 K4 (gg.trans g4) q4 q,
        fun σ4 G4 H4 is4 M4 K4 g4 q => R.nx σ4 G4 H4 is4 M4 K4 (gg.trans g4) q, fun σ4 G4 H4 is4 M4 K4 g4 ⟨m', hm, q⟩ => ⟨m', hm, G4, is4, M4, K4, gg.trans g4, q⟩⟩
    | false =>
      rw [if_neg Bool.false_ne_true]
      exact R.nx σ' G2 H2 is' M2 K2 gg (h2.2 rfl)⟩
def wipeI (is : Is) : List Nat → Is
  | [] => is
  | v :: vs => (wipeI is vs).set v none
theorem SL.wipe {G : Hp} {is : Is} {σ : St} (h : SL G is σ) : ∀ vs : List Nat, SL G (wipeI is vs) (wipe σ vs)
  | [] => h
  | v :: vs => SL.drop v none (SL.wipe h vs)
theorem Ok.wipe {σ : St} {G H : Hp} (K : Ok B σ G H is M) (vs : List Nat) : Ok B (wipe σ vs) G H (wipeI is vs) M := ⟨K.kn, K.g0, K.h0, K.fr, K.loc.wipe vs, K.mok, K.nd, K.bw⟩
theorem Ok.slots {σ σ' : St} {G H : Hp} {is' : Is} (K : Ok B σ G H is M) (h : SL G is' σ') : Ok B σ' G H is' M := ⟨K.kn, K.g0, K.h0, K.fr, h, K.mok, K.nd, K.bw⟩
/-- the tests of a comprehension: none, or one -/
def TTs (X : Cx) (B : Bs) (ifs : List Expr) (is : Is) (M : MS) (Post : Bool → MS → Prop) : Prop := (ifs = [] ∧ Post true M) ∨ ∃ c, ifs = [c] ∧ TT' X B c is M Post
def TsW (X : Cx) (ifs : List Expr) : TT := fun σ H Q => (ifs = [] ∧ Q true H) ∨ ∃ c, ifs = [c] ∧ TW X c σ H Q
theorem pts_w {ifs : List Expr} : PTs X ifs (TsW X ifs) := ⟨fun pins s σ H Q I h => by
  rcases h with ⟨rfl, h⟩ | ⟨c, rfl, h⟩
  · exact pts_nil.run pins s σ H Q I h
  · exact (pts_one pt_w).run pins s σ H Q I h⟩
theorem TTs.go {ifs : List Expr} {TPost : Bool → MS → Prop} (h : TTs X B ifs is M TPost) {σ : St} {G H : Hp} (K : Ok B σ G H is M) {Q : Bool → Hp → Prop} (k : ∀ b G' H' M', Ok B σ G' H' is M' → Same G G' → TPost b M' → Q b H') : TsW X ifs σ H Q := by
  rcases h with ⟨e, h⟩ | ⟨c, e, h⟩
  · exact .inl ⟨e, k true G H M K (Same.refl _) h⟩
  · exact .inr ⟨c, e, h σ G H K Q k⟩
/-- the block's context -/
abbrev Blk (X : Cx) (scope : Scope) (s : Shared) (H : Hp) (C : Addr) (cl : List (Str × Addr)) (fp : List Addr) : Cx := X.blk s H scope (compEnvC scope cl C X.env) fp
def BAll (X : Cx) (scope : Scope) (P : Cx → Prop) : Prop := ∀ (s : Shared) (H : Hp) (C : Addr) (cl : List (Str × Addr)) (fp : List Addr), P (Blk X scope s H C cl fp)
theorem ee_lc (N0 : List Str) (sc0 : Scope) (own : List (Str × Nat)) {elt : Expr} {ifs : List Expr} {scope : Scope} (hc : X.calm = true) (hN : X.N.Nodup) (hb : blkC N0 sc0 scope own = true)
    (h : II X B tg iter is M fun ps M1 => ps.length ≤ 100000 ∧ ∃ I : Nat → List Pr → Prop, I 0 [] ∧
      (∀ (L : Addr) (i : Nat) (p : Pr) (acc : List Pr), ps[i]? = some p → I i acc → acc.length ≤ i →
        BAll X scope fun X1 => GG X1 B (own.map (·.2)) tg p (wipeI is (own.map (·.2))) (M1 ++ [(L, .lst acc)]) fun is2 M2 => M2 = M1 ++ [(L, .lst acc)] ∧
          BAll X scope fun X2 => TTs X2 B ifs is2 (M1 ++ [(L, .lst acc)]) fun t M3 => M3 = M1 ++ [(L, .lst acc)] ∧ (t = false → I (i + 1) acc) ∧ (t = true →
            BAll X scope fun X3 => EE X3 B elt is2 (M1 ++ [(L, .lst acc)]) fun q M4 => M4 = M1 ++ [(L, .lst acc)] ∧ I (i + 1) (acc ++ [q]))) ∧
      ∀ acc, I ps.length acc → Post (lstP acc) M1)
    (hs : ∀ x, foldedSetIterable iter X.env x = pure x := by intro _; rfl) (hN0 : X.N = N0 := by rfl) (hs0 : X.env.scope = sc0 := by rfl) : EE X B (.ListComp elt [⟨tg, iter, ifs, 0⟩] scope pos) is M Post := fun σ G H K Q k => by
  subst hN0
  subst hs0
  refine EW.of (pe_lc (own := own) (g := fun v σ' H' Q' => ∀ s H C cl fp, GW (Blk X scope s H C cl fp) tg v σ' H' Q') (tt := fun σ' H' Q' => ∀ s H C cl fp, TsW (Blk X scope s H C cl fp) ifs σ' H' Q')
    (te := fun σ' H' Q' => ∀ s H C cl fp, EW (Blk X scope s H C cl fp) elt σ' H' Q') hc hN pi_w (blkOk_by hb)
    (fun s H C cl fp => ⟨fun pins s' σ' H' v u Q' I r q => pg_w.run pins s' σ' H' v u Q' I r (q s H C cl fp)⟩) (fun s H C cl fp => ⟨fun pins s' σ' H' Q' I q => pts_w.run pins s' σ' H' Q' I (q s H C cl fp)⟩)
    (fun s H C cl fp => ⟨fun pins s' σ' H' Q' I q => pe_w.run pins s' σ' H' Q' I (q s H C cl fp)⟩) hs) ?_
  refine h σ G H K _ fun J G1 H1 ps M1 K1 g1 wk ⟨hz, I, h0, hst, hd⟩ L hL => ?_
  have KL := K1.push (o := .lst []) (m := .lst []) hL ⟨[], upd_same, True.intro⟩
  refine ⟨fun i m H' => m + i = ps.length ∧ ∃ G' acc, Ok B σ G' H' is (M1 ++ [(L, .lst acc)]) ∧ Same G1 G' ∧ I i acc ∧ acc.length ≤ i, ⟨ps.length, rfl, G1, [], KL, Same.refl _, h0, Nat.le_refl _⟩, fun i m H' ⟨em, G', acc, K', g', hI, hl⟩ => ?_⟩
  obtain ⟨w1, w2⟩ := wk G' H' g' K'.kn
  by_cases hi : i < ps.length
  · obtain ⟨go, yl⟩ := w1 i ps[i] (List.getElem?_eq_getElem hi)
    refine .inr ⟨go, fun H2 => ∃ G2 acc2, Ok B σ G2 H2 is (M1 ++ [(L, .lst acc2)]) ∧ Same G1 G2 ∧ I (i + 1) acc2 ∧ acc2.length ≤ i + 1, fun H2 q => ⟨m - 1, by omega, by omega, q⟩, fun x H2 hy s HH C cl fp => ?_⟩
    obtain ⟨G2, y1, y2, y3, y4, y5⟩ := yl x H2 hy
    have K2 := (K'.ext y1 y2 y3 y4).wipe (own.map (·.2))
    refine hst L i ps[i] acc (List.getElem?_eq_getElem hi) hI hl s HH C cl fp _ G2 H2 K2 x y5 _ fun σ3 G3 H3 is3 M3 K3 g3 e3 ⟨eM, h3⟩ => ?_
    subst eM
    have wi : ∀ (vs : List Nat), wipe (wipe σ vs) vs = wipe σ vs := fun vs => by
      have go : ∀ (vs ws : List Nat), (∀ v ∈ ws, v ∈ vs) → wipe (wipe σ ws) vs = wipe σ vs := by
        intro vs ws
        induction ws with
        | nil => intro _; rfl
        | cons w ws ih =>
          intro hw
          show wipe ((wipe σ ws).set w none) vs = wipe σ vs
          rw [wipe_set (hw w List.mem_cons_self), ih fun v hv => hw v (List.mem_cons_of_mem _ hv)]
      exact go vs vs fun _ h => h
    refine ⟨e3.trans (wi _), fun s HH C cl fp => ?_⟩
    refine (h3 s HH C cl fp).go K3 fun t G4 H4 M4 K4 g4 ⟨eM4, f4, t4⟩ => ?_
    subst eM4
    have gg : Same G1 G4 := ((g'.trans y1).trans g3).trans g4
    cases t with
    | false =>
      rw [if_neg Bool.false_ne_true]
      exact ⟨G4, acc, K4.slots ((K'.loc.mono y1).mono (g3.trans g4)), gg, f4 rfl, Nat.le_succ_of_le hl⟩
    | true =>
      rw [if_pos rfl]
      intro s HH C cl fp
      refine (t4 rfl s HH C cl fp) σ3 G4 H4 K4 _ fun v G5 H5 q M5 K5 g5 q5 ⟨eM5, i5⟩ => ?_
      subst eM5
      have hat := K5.at (a := L) (i := M1.length) (m := .lst acc) (by rw [List.getElem?_append_right (Nat.le_refl _), Nat.sub_self]; rfl)
      obtain ⟨vs, hv, hq⟩ := hat
      have hlen : vs.length = acc.length := hq.length.symm
      refine ⟨vs, hv, Nat.lt_of_lt_of_le (by omega : vs.length < 100001) (by decide), G5, acc ++ [q], ?_, gg.trans g5, i5, by rw [List.length_append]; exact Nat.succ_le_succ hl⟩
      have KW := K5.write (i := M1.length) (o := .lst (vs ++ [v])) (m' := .lst (acc ++ [q])) (by rw [List.getElem?_append_right (Nat.le_refl _), Nat.sub_self]; rfl) ⟨_, upd_same, hq.app ⟨q5, True.intro⟩⟩ (fun _ => True.intro)
      have eS : (M1 ++ [(L, MO.lst acc)]).set M1.length (L, .lst (acc ++ [q])) = M1 ++ [(L, .lst (acc ++ [q]))] := by
        rw [List.set_append_right _ _ (Nat.le_refl _), Nat.sub_self]
        rfl
      rw [eS] at KW
      exact KW.slots ((K'.loc.mono y1).mono ((g3.trans g4).trans g5))
  · have e : i = ps.length := by omega
    subst e
    refine .inl ⟨w2 _ (Nat.le_refl _), ?_⟩
    have hat := K'.at (a := L) (i := M1.length) (m := .lst acc) (by rw [List.getElem?_append_right (Nat.le_refl _), Nat.sub_self]; rfl)
    obtain ⟨vs, hv, hq⟩ := hat
    have nW : L ∉ B.W := fun hw => by
      obtain ⟨_, xs, e, _⟩ := K1.bw L hw
      rw [hL] at e
      cases e
    obtain ⟨KF, gF⟩ := K'.freeze (i := M1.length) (a := L) (o := .lst vs) (m := .lst acc) (by rw [List.getElem?_append_right (Nat.le_refl _), Nat.sub_self]; rfl) hv nW
    have eE : (M1 ++ [(L, MO.lst acc)]).eraseIdx M1.length = M1 := by
      rw [List.eraseIdx_append_of_length_le (Nat.le_refl _), Nat.sub_self]
      exact List.append_nil _
    rw [eE] at KF
    exact k (.ref L) _ H' (lstP acc) M1 KF ((g1.trans g').trans gF) ⟨L, vs, rfl, upd_same, hq.mono gF⟩ (hd acc hI)
end
end Q9
namespace Q9
open PySem L2
abbrev PT0 := List Pr → List Addr → (Pr → MS → Prop) → Prop
/-- arguments ps, places S of draws' states; the value, and new objects that are handed out to be changed -/
def fnSp (P : PT0) : Sp := fun vs H Q _ => ∃ (G : Hp) (ps : List Pr) (S : List Addr), Same G H ∧ PL G ps vs ∧ (∀ a ∈ S, G a = none ∧ MO.At G H a .src) ∧ S.Nodup ∧
  ∃ U : Pr → MS → Prop, P ps S U ∧ ∀ p N, U p N → ∀ v G' H', Same G G' → Same G' H' → (∀ a o, H a = some o → a ∉ S → H' a = some o) → (∀ a ∈ S, MO.At G' H' a .src) → (∀ a o, H a = some o → (∀ vs, o ≠ .tup vs) → G' a = G a) →
    (∀ x ∈ N, MO.At G' H' x.1 x.2 ∧ G' x.1 = none ∧ H x.1 = none) → (N.map (·.1)).Nodup → p.p v G' → Q v H'
/-- a def of no draws -/
def pur (P : List Pr → (Pr → Prop) → Prop) : PT0 := fun ps S post => S = [] ∧ P ps fun p => post p []
structure Cal (P : Program) (w : World) (K : PySem.W.Frag) (mg : Str → Option Value) (base : Heap) (k : Nat) (x : Str) (ps : List Str) (T : PT0) : Prop where
  ex : ∃ (f : Addr) (fd : FuncData), FnOk P w K mg base CX0 k f fd ps (fnSp T) ∧ mg x = some (.ref f) ∧ PySem.W.keepIn K (.ref f) = true ∧ Binds K fd ps []
/-- where a def of the text stands -/
structure Top (K : PySem.W.Frag) (mg : Str → Option Value) (x : Str) (st : Stmt) (ps : List Str) : Prop where
  ex : ∃ (f : Addr) (fd : FuncData), Fun K x x st f fd ∧ mg x = some (.ref f) ∧ Binds K fd ps []
def startI (N : List Str) (ps : List Pr) : Is := ps.map some ++ List.replicate (N.length - ps.length) none
/-- how a def ends: post, and the draws' states stand -/
def retE (post : Pr → MS → Prop) (S : List Addr) : En where
  nx := fun _ M => ∃ N, post (dat .none) N ∧ (∀ x ∈ N, x ∈ M ∧ x.1 ∉ S) ∧ (N.map (·.1)).Nodup ∧ ∀ a ∈ S, (a, MO.src) ∈ M
  rt := fun p M => ∃ N, post p N ∧ (∀ x ∈ N, x ∈ M ∧ x.1 ∉ S) ∧ (N.map (·.1)).Nodup ∧ ∀ a ∈ S, (a, MO.src) ∈ M
/-- nothing is handed out -/
theorem ret0 {post : Pr → MS → Prop} {S : List Addr} {M : MS} {p : Pr} (h : post p []) (hS : ∀ a ∈ S, (a, MO.src) ∈ M := by first | (intro _ z; cases z; done) | (intro a z; simpa using z)) : ∃ N, post p N ∧ (∀ x ∈ N, x ∈ M ∧ x.1 ∉ S) ∧ (N.map (·.1)).Nodup ∧ ∀ a ∈ S, (a, MO.src) ∈ M :=
  ⟨[], h, fun _ z => (by cases z), List.nodup_nil, hS⟩
section
variable {P : Program} {w : World} {K : PySem.W.Frag} {mg : Str → Option Value} {base : Heap}
theorem sl_start {G : Hp} : ∀ {ps : List Pr} {vs : List V} (n : Nat), PL G ps vs → SL G (ps.map some ++ List.replicate n none) (vs.map some ++ List.replicate n none)
  | [], [], n, _ => by
    show SL G (List.replicate n none) (List.replicate n none)
    induction n with
    | zero => exact True.intro
    | succ n ih => exact ih
  | p :: ps, v :: vs, n, h => ⟨h.1, sl_start n h.2⟩
  | [], _ :: _, _, h => h.elim
  | _ :: _, [], _, h => h.elim
theorem fn_mk {x qual : Str} {st : Stmt} {f : Addr} {fd : FuncData} {N ps : List Str} {k : Nat} {T : PT0} (F : Fun K x qual st f fd) (Sc : FnScope N ps (defScope st)) (len : ∀ prs S post, T prs S post → prs.length = ps.length)
    (body : ∀ (cdv : Value) (A : Around) (outer : List Env) (s : Shared) (H : Hp) (E : XK) (B : Bs), Room k (A.deeper (PyProof.Rows.envOfC qual (defScope st) s.heap.objs.size f cdv)) → ∀ (prs : List Pr) (post : Pr → MS → Prop), T prs B.W post →
      BB (cxOf CX0 P w K mg base N qual (defScope st) f cdv A outer s H E).nox B (defBody st) (startI N prs) (B.W.map fun a => (a, .src)) (retE post B.W)) : FnOk P w K mg base CX0 (k + 1) f fd ps (fnSp T) := by
  refine F.ok Sc (fun vs H Q E ⟨G, prs, S, _, h2, _, _, U, h4, _⟩ => h2.length.symm.trans (len _ _ _ h4)) (fun cdv A outer s H vs Q E hr ⟨G, prs, S, h1, h2, h3, h5, U, h4, h6⟩ => ?_)
  refine ⟨_, pss_w, ?_⟩
  have K0 : Ok ⟨G, H, S⟩ (L2.start N vs) G H (startI N prs) (S.map fun a => (a, .src)) := by
    refine ⟨h1, Same.refl _, fun a o e _ => e, fun a o e => ⟨(fun z => by have e' : H a = some o := e; rw [z] at e'; cases e'), fun _ => rfl⟩, ?_, fun x hx => ?_, ?_, fun a ha => by
      obtain ⟨_, i, j, e, _⟩ := h3 a ha
      exact ⟨⟨_, e, True.intro⟩, _, e, True.intro⟩⟩
    · unfold startI L2.start
      rw [← h2.length]
      exact sl_start _ h2
    · obtain ⟨a, ha, e⟩ := List.mem_map.mp hx
      subst e
      exact ⟨(h3 a ha).2, (h3 a ha).1, .inr ha⟩
    · rw [List.map_map]
      have e : ((fun x : Addr × MO => x.1) ∘ fun a : Addr => (a, MO.src)) = id := rfl
      rw [e, List.map_id]
      exact h5
  refine body cdv A outer s H E ⟨G, H, S⟩ hr prs U h4 _ G H K0 _ ⟨fun σ' G' H' is' M' K' g ⟨N, hp, hN, hd, hS⟩ => ?_, fun v σ' G' H' is' p M' K' g q ⟨N, hp, hN, hd, hS⟩ => ?_, fun _ _ _ _ _ _ _ h => h, fun _ _ _ _ _ _ _ h => h⟩
  · refine h6 _ N hp .non G' H' K'.g0 K'.kn K'.h0 (fun a ha => (K'.mok _ (hS a ha)).1) (fun a o e nt => (K'.fr a o e).2 nt) (fun x hx => ?_) hd Dq.non
    obtain ⟨e1, e2, e3⟩ := K'.mok x (hN x hx).1
    exact ⟨e1, e2, e3.resolve_right (hN x hx).2⟩
  · refine h6 _ N hp v G' H' K'.g0 K'.kn K'.h0 (fun a ha => (K'.mok _ (hS a ha)).1) (fun a o e nt => (K'.fr a o e).2 nt) (fun x hx => ?_) hd q
    obtain ⟨e1, e2, e3⟩ := K'.mok x (hN x hx).1
    exact ⟨e1, e2, e3.resolve_right (hN x hx).2⟩
end
theorem cal_mk {x : Str} {st : Stmt} {N ps : List Str} {k : Nat} {T : PT0} (t : Top K mg x st ps) (Sc : FnScope N ps (defScope st)) (len : ∀ prs S post, T prs S post → prs.length = ps.length)
    (body : ∀ (f : Addr) (cdv : Value) (A : Around) (outer : List Env) (s : Shared) (H : Hp) (E : XK) (B : Bs), Room k (A.deeper (PyProof.Rows.envOfC x (defScope st) s.heap.objs.size f cdv)) → ∀ (prs : List Pr) (post : Pr → MS → Prop), T prs B.W post →
      BB (cxOf CX0 P w K mg base N x (defScope st) f cdv A outer s H E).nox B (defBody st) (startI N prs) (B.W.map fun a => (a, .src)) (retE post B.W)) : Cal P w K mg base (k + 1) x ps T := by
  obtain ⟨f, fd, F, hm, hb⟩ := t.ex
  exact ⟨f, fd, fn_mk F Sc len (body f), hm, F.kp, hb⟩
section
variable {X : Cx} {B : Bs} {is : Is} {M : MS} {Post : Pr → MS → Prop} {TPost : Bool → MS → Prop} {IPost : List Pr → MS → Prop} {D : En} {a b c e tg iter o : Expr} {es : List Expr} {pos : Pos}
theorem Ok.called {σ : St} {G H G' H' : Hp} {S : List Addr} {N : MS} (K : Ok B σ G H is M) (hS : ∀ a ∈ S, (a, MO.src) ∈ M) (g : Same G G') (k : Same G' H') (h : ∀ a o, H a = some o → a ∉ S → H' a = some o) (hs : ∀ a ∈ S, MO.At G' H' a .src)
    (n : ∀ a o, H a = some o → (∀ vs, o ≠ .tup vs) → G' a = G a) (hN : ∀ x ∈ N, MO.At G' H' x.1 x.2 ∧ G' x.1 = none ∧ H x.1 = none) (hd : (N.map (·.1)).Nodup) : Ok B σ G' H' is (M ++ N) := by
  have K1 := K.extS g k h n fun a ha => ⟨hS a ha, hs a ha⟩
  refine ⟨K1.kn, K1.g0, K1.h0, K1.fr, K1.loc, fun x hx => ?_, ?_, K1.bw⟩
  · rcases List.mem_append.mp hx with hx | hx
    · exact K1.mok x hx
    · obtain ⟨e1, e2, e3⟩ := hN x hx
      exact ⟨e1, e2, .inl (K.entry e3)⟩
  · rw [List.map_append]
    refine List.nodup_append.mpr ⟨K.nd, hd, fun x hx y hy => ?_⟩
    obtain ⟨z, hz, e1⟩ := List.mem_map.mp hx
    obtain ⟨u, hu, e2⟩ := List.mem_map.mp hy
    rw [← e1, ← e2]
    intro e3
    exact (K.mok z hz).1.there (e3 ▸ (hN u hu).2.2)
theorem ee_call {k : Nat} {x : Str} {ps : List Str} {T : PT0} {p : Pos} (C : Cal X.prog X.w X.K X.mg X.base k x ps T) (hr : Room k X.A)
    (h : AA X B (e :: es) is M fun prs M1 => ∃ S, (∀ a ∈ S, (a, MO.src) ∈ M1) ∧ S.Nodup ∧ T prs S fun p N => Post p (M1 ++ N)) (hg : Gl X x := by rfl) (hdb : (x == ("__debug__" : Str)) = false := by decide) (he : starEach (e :: es) X.env = (false, eval e X.env) :: starEach es X.env := by rfl) (hpl : (backTo pos (starEach es X.env)).any (·.1) = false := by rfl) :
    EE X B (.Call (.Name x p) (e :: es) [] pos) is M Post := fun σ G H K Q kk => by
  obtain ⟨f, fd, F, hm, hk, hb⟩ := C.ex
  refine EW.of (pe_call (E := fun _ _ _ => False) F hr hg hm hk hb .nil (fun _ _ _ _ _ _ _ h => h.elim) pa_w hdb he hpl) ?_
  refine h σ G H K _ fun vs G1 H1 prs M1 K1 g1 q1 ⟨S, hS, hSn, hT⟩ => ?_
  rw [List.append_nil]
  refine ⟨G1, prs, S, K1.kn, q1, fun a ha => ⟨(K1.mok _ (hS a ha)).2.1, (K1.mok _ (hS a ha)).1⟩, hSn, _, hT, ?_⟩
  exact fun p N hp v G' H' g k h hs n hN hd q => kk v G' H' p (M1 ++ N) (K1.called hS g k h hs n hN hd) (g1.trans g) q hp
end
end Q9
namespace Q9
open PySem L2 PyProof.Rows
/-- a machine's value that stands for x, which is d in G -/
def Vd (G : Hp) (u : Value) (d : PyData) : Prop := ∃ x, RelV x u ∧ Dq G d x
theorem vd_each {G : Hp} {β : Type} (enc : β → PyData) : ∀ {bs : List β} {vs : List V} {us : List Value}, DqL G (bs.map enc) vs → Vals vs us → PySem.W.EachIs (fun u b => Vd G u (enc b)) us bs
  | [], _, _, h, r => by
    cases (show DqL G [] _ from h)
    cases r
    exact .nil
  | b :: bs, _, _, h, r => by
    cases (show DqL G (enc b :: bs.map enc) _ from h) with
    | cons h1 t =>
      cases r with
      | cons r1 rr => exact .cons ⟨_, r1, h1⟩ (vd_each enc t rr)
theorem each_vd {G : Hp} {β : Type} (enc : β → PyData) : ∀ {us : List Value} {bs : List β}, PySem.W.EachIs (fun u b => Vd G u (enc b)) us bs → ∃ vs, Vals vs us ∧ DqL G (bs.map enc) vs
  | _, _, .nil => ⟨[], .nil, .nil⟩
  | _, _, .cons ⟨x, r, h⟩ t => by
    obtain ⟨vs, q1, q2⟩ := each_vd enc t
    exact ⟨x :: vs, .cons r q1, .cons h q2⟩
theorem DqL.len {G : Hp} : ∀ {ds : List PyData} {vs : List V}, DqL G ds vs → ds.length = vs.length
  | [], _, h => by cases h; rfl
  | d :: ds, _, h => by cases h with | cons h t => exact congrArg (· + 1) (DqL.len t)
theorem vd_reads {X : Cx} {pins : List (Addr × Obj)} {σ : L2.St} {G H : Hp} {s : Shared} {u : Value} {d : PyData} (I : Inv X pins σ H s) (k : Same G H) (h : Vd G u d) : ∃ as, Reads s.heap u d as := by
  obtain ⟨x, r, q⟩ := h
  exact Dp.reads I d x u (dp_of k q) r
section
variable {X : Cx}
/-- what may be sorted -/
structure Srt {β : Type} (enc : β → PyData) (bs : List β) : Prop where
  al : PySem.W.AllAlike (bs.map enc)
  so : PySem.W.Sortable (bs.map enc)
  dp : ∀ b ∈ bs, (enc b).depth ≤ 20
  ln : bs.length ≤ 100000
theorem ln_line {n : Nat} (h : n ≤ 100000) : n ≤ sizeLine := Nat.le_trans h (by decide)
/-- sorted of a list -/
theorem cr_sortL (hu : X.A.units + 64 < cLine) {β : Type} (enc : β → PyData) : CallR X (.builtin "sorted") (fun xs H Q => ∃ (a : Addr) (vs : List V) (G : Hp) (bs : List β), xs = [.ref a] ∧ SqL X.K H a vs ∧ Same G H ∧ DqL G (bs.map enc) vs ∧ Srt enc bs ∧
    ∀ p ws, H p = none → DqL G ((bs.mergeSort (PySem.W.dataLe false enc)).map enc) ws → Q (.ref p) (upd H p (.lst ws))) := by
  intro pins s σ H xs us Q I r q
  obtain ⟨a, vs, G, bs, rfl, hq, k, hd, S, q⟩ := q
  rw [Vals.ref1 r]
  obtain ⟨its, rv, pl, hz⟩ := I.list hq
  have e := vd_each enc hd rv
  refine PySem.W.sorted_data pl.isList e (e.mono fun u b h => vd_reads I k h) S.al S.so (ln_line S.ln) (fun b hb => by have := S.dp b hb; omega) fun out ho eo => ?_
  obtain ⟨ws, rw', dw⟩ := each_vd enc eo
  obtain ⟨c, hc⟩ := sortedAll_at s.heap its out.toArray
  have hlen : ws.length ≤ sizeLine := by
    have := dw.len
    rw [List.length_map, List.length_mergeSort] at this
    rw [← this]
    exact ln_line S.ln
  exact ⟨.ref (s.heap.objs.size + 1), _, I.laid (t' := s.toks) (fun b u q => sortedAll_old q) (Nat.le_succ _)
    (show ObjOk X.prog X.w _ _ _ (.lst ws) from ⟨hlen, out, c, rw', hc⟩), rfl, q _ ws (I.hok.fresh (Nat.le_succ _)) dw⟩
/-- sorted of what a source gives -/
theorem sort_src {pins : List (Addr × Obj)} {σ : L2.St} {G H : Hp} {s : Shared} {Q : VK} {T : String} {r d : Addr} {n : Nat} {P : Nat → Value → Prop} {OK : Heap → Prop} {β : Type} {enc : β → PyData} {bs : List β} (hc : X.calm = true) (hu : X.A.units + 64 < cLine) (I : Inv X pins σ H s) (k : Same G H)
    (K : PySem.W.KdlSrc X.prog X.w T r d n P OK) (hok : OK s.heap) (hn : n = bs.length) (hP : ∀ i v, P i v → ∃ b, bs[i]? = some b ∧ Vd G v (enc b)) (S : Srt enc bs)
    (q : ∀ p ws, H p = none → DqL G ((bs.mergeSort (PySem.W.dataLe false enc)).map enc) ws → Q (.ref p) (upd H p (.lst ws))) : wpAny (model X.prog X.w) X.A (call (.builtin "sorted") [.ref r]) (EP X pins σ Q) X.xe s := by
  refine PySem.Calls.call_function_entry kind_sorted plain_sorted entry_sorted (args_sorted1 _) ?_
  unfold Builtin.«sorted»
  refine wpAny_bind (m := checkCount "sorted" 1 1 _) (wpAny_pure ?_)
  refine wpAny_bind (PySem.W.kdu_collect (A := X.A.in1) K (I.ok.hd hc) hok (by rw [hn]; exact ln_line S.ln) fun h' tk acc hk hacc => ?_)
  have hlen : acc.toList.length = bs.length := by rw [Array.length_toList, hacc.1, hn]
  have I1 : Inv X pins σ H { s with heap := h', toks := tk } := I.kept hk
  refine wpAny_bind (wpAny_newList ?_ (by rw [hlen]; exact ln_line S.ln))
  have each : ∀ (us : List Value) (cs : List β), us.length = cs.length → (∀ (i : Nat) (v : Value), us[i]? = some v → ∃ b, cs[i]? = some b ∧ Vd G v (enc b)) → PySem.W.EachIs (fun u b => Vd G u (enc b)) us cs := by
    intro us
    induction us with
    | nil =>
      intro cs hl _
      cases cs with
      | nil => exact .nil
      | cons c cs => cases hl
    | cons u us ih =>
      intro cs hl h
      cases cs with
      | nil => cases hl
      | cons c cs =>
        obtain ⟨b, e1, e2⟩ := h 0 u rfl
        have e1' : c = b := Option.some.inj e1
        subst e1'
        exact .cons e2 (ih cs (by simpa using hl) fun i v hv => h (i + 1) v hv)
  have e := each acc.toList bs hlen fun i v hv => hP i v (hacc.2 i v (by rw [← Array.getElem?_toList]; exact hv))
  have hoL : (h'.push (seqObj "list" acc.toList.toArray 0)).get? h'.objs.size = some (seqObj "list" acc.toList.toArray 0) := Heap.get?_push_size _ rfl
  show wpAny _ _ _ _ _ { s with heap := h'.push (seqObj "list" acc.toList.toArray 0), toks := tk }
  have er : PySem.W.EachIs (fun v b => ∃ as, Reads (h'.push (seqObj "list" acc.toList.toArray 0)) v (enc b) as ∧ h'.objs.size ∉ as) acc.toList bs := e.mono fun u b h => by
    obtain ⟨as, r⟩ := vd_reads I1 k h
    have r' : Reads h' u (enc b) as := r
    refine ⟨as, PyProof.Rows.Reads.keeps (fun b o q => Heap.get?_push_of_some _ q) r', fun hm => ?_⟩
    obtain ⟨o, ho⟩ := PyProof.On.reads_mem_get r' _ hm
    exact absurd (Heap.lt_size ho) (Nat.lt_irrefl _)
  refine wpAny_bind (wpAny_holding (PySem.W.list_sort_data (s := { s with heap := h'.push (seqObj "list" acc.toList.toArray 0), toks := tk }) hoL e er S.al S.so (ln_line S.ln) (fun b hb => by
    have := S.dp b hb
    show X.A.units + 1 + 1 + _ < _
    omega) fun out ho eo => ?_))
  obtain ⟨ws, rw', dw⟩ := each_vd enc eo
  obtain ⟨c, hc'⟩ := sortedHeap_at (vs := acc.toList) (out := out.toArray) hoL
  have hlw : ws.length ≤ sizeLine := by
    have := dw.len
    rw [List.length_map, List.length_mergeSort] at this
    rw [← this]
    exact ln_line S.ln
  refine wpAny_pure ⟨_, rfl, .ref h'.objs.size, upd H h'.objs.size (.lst ws), I1.laid (t' := tk) (fun b u e => ?_) (Nat.le_refl _)
    (show ObjOk X.prog X.w _ _ _ (.lst ws) from ⟨hlw, out, c, rw', hc'⟩), rfl, q _ ws (I1.hok.fresh (Nat.le_refl _)) dw⟩
  have hb : b < h'.objs.size := Heap.lt_size e
  rw [sortedHeap_old (Nat.ne_of_lt hb) (by rw [size_push']; exact Nat.lt_succ_of_lt hb)]
  exact Heap.get?_push_of_some _ e
end
end Q9
namespace Q9
open PySem L2
/-- a list that is read: its items -/
inductive LsP (M : MS) : Pr → List Pr → Prop
  | fix (ps : List Pr) : LsP M (lstP ps) ps
  | ds (ds : List PyData) : LsP M (Q9.dat (.list ds)) (ds.map Q9.dat)
  | own {a : Addr} {i : Nat} {ps : List Pr} (h : M[i]? = some (a, .lst ps)) : LsP M (raw (.ref a)) ps
inductive TpP : Pr → List Pr → Prop
  | fix (ps : List Pr) : TpP (tupP ps) ps
  | ds (ds : List PyData) : TpP (Q9.dat (.tuple ds)) (ds.map Q9.dat)
section
variable {B : Bs} {is : Is} {M : MS} {σ : L2.St} {G H : Hp}
theorem LsP.at {p : Pr} {ps : List Pr} {x : V} (l : LsP M p ps) (K : Ok B σ G H is M) (h : p.p x G) : ∃ a vs, x = .ref a ∧ H a = some (.lst vs) ∧ PL G ps vs := by
  cases l with
  | fix =>
    obtain ⟨a, vs, e, h1, h2⟩ := h
    exact ⟨a, vs, e, K.kn _ _ h1, h2⟩
  | ds ds =>
    obtain ⟨a, vs, e, h1, h2⟩ := dat_lst.mp h
    exact ⟨a, vs, e, K.kn _ _ h1, h2⟩
  | own hi =>
    obtain ⟨vs, h1, h2⟩ := K.at hi
    exact ⟨_, vs, h, h1, h2⟩
theorem TpP.at {p : Pr} {ps : List Pr} {x : V} (l : TpP p ps) (K : Ok B σ G H is M) (h : p.p x G) : ∃ a vs, x = .ref a ∧ H a = some (.tup vs) ∧ PL G ps vs := by
  cases l with
  | fix =>
    obtain ⟨a, vs, e, h1, h2⟩ := h
    exact ⟨a, vs, e, K.kn _ _ h1, h2⟩
  | ds ds =>
    obtain ⟨a, vs, e, h1, h2⟩ := dat_tup.mp h
    exact ⟨a, vs, e, K.kn _ _ h1, h2⟩
theorem PL.ix {ps : List Pr} {vs : List V} {i : Int} {p : Pr} (h : PL G ps vs) (e : atI ps i = some p) : ∃ v, atI vs i = some v ∧ p.p v G := by
  unfold atI at e ⊢
  rw [← h.length]
  cases q : ixN ps.length i with
  | none => rw [q] at e; cases e
  | some j =>
    rw [q] at e
    exact h.get (show ps[j]? = some p from e)
end
section
variable {X : Cx} {B : Bs} {is : Is} {M : MS} {Post : Pr → MS → Prop} {TPost : Bool → MS → Prop} {IPost : List Pr → MS → Prop} {D : En} {a b c e tg iter o : Expr} {es : List Expr} {pos : Pos}
theorem ee_B {x : Str} {id : String} {r : List V → Hp → VK → Prop} {p : Pos} (hc : CallR X (.builtin id) r) (hm : X.mg x = none) (hv : bootBuiltins x = some (.builtin id)) (h : AA X B (e :: es) is M fun ps M1 => CRP B r is ps M1 Post)
    (hg : Gl X x := by rfl) (hn : x ≠ "__name__" := by decide) (hdb : (x == ("__debug__" : Str)) = false := by decide) (he : starEach (e :: es) X.env = (false, eval e X.env) :: starEach es X.env := by rfl) (hpl : (backTo pos (starEach es X.env)).any (·.1) = false := by rfl) :
    EE X B (.Call (.Name x p) (e :: es) [] pos) is M Post := fun σ G H K Q k =>
  EW.of (pe_callB hc hg hm hv pa_w hn hdb he hpl) (h σ G H K _ fun vs G1 H1 ps M1 K1 g1 q1 h1 => h1 σ G1 H1 K1 vs q1 Q fun v G2 H2 p M2 K2 g2 q2 h2 => k v G2 H2 p M2 K2 (g1.trans g2) q2 h2)
theorem ee_T {x : Str} {T : String} {r : List V → Hp → VK → Prop} {p : Pos} (hc : CallR X (.type T) r) (hm : X.mg x = none) (hv : bootBuiltins x = some (.type T)) (h : AA X B (e :: es) is M fun ps M1 => CRP B r is ps M1 Post)
    (hg : Gl X x := by rfl) (hn : x ≠ "__name__" := by decide) (hdb : (x == ("__debug__" : Str)) = false := by decide) (he : starEach (e :: es) X.env = (false, eval e X.env) :: starEach es X.env := by rfl) (hpl : (backTo pos (starEach es X.env)).any (·.1) = false := by rfl) :
    EE X B (.Call (.Name x p) (e :: es) [] pos) is M Post := fun σ G H K Q k =>
  EW.of (pe_callTy hc hg hm hv pa_w hn hdb he hpl) (h σ G H K _ fun vs G1 H1 ps M1 K1 g1 q1 h1 => h1 σ G1 H1 K1 vs q1 Q fun v G2 H2 p M2 K2 g2 q2 h2 => k v G2 H2 p M2 K2 (g1.trans g2) q2 h2)
/-- how long a thing is -/
inductive LnP (M : MS) : Pr → Nat → Prop
  | ls {p : Pr} {ps : List Pr} (l : LsP M p ps) : LnP M p ps.length
  | tp {p : Pr} {ps : List Pr} (l : TpP p ps) : LnP M p ps.length
  | str (x : Str) (h : x.length ≤ 1000000) : LnP M (dat (.str x)) x.length
theorem ee_len {p : Pos} (hm : X.mg "len" = none) (h : AA X B [a] is M fun ps M1 => ∃ q n, ps = [q] ∧ LnP M1 q n ∧ Post (dat (.int (n : Nat))) M1) (hg : Gl X "len" := by rfl)
    (he : starEach [a] X.env = (false, eval a X.env) :: starEach [] X.env := by rfl) (hpl : (backTo pos (starEach [] X.env)).any (·.1) = false := by rfl) : EE X B (.Call (.Name "len" p) [a] [] pos) is M Post :=
  ee_B call_len hm PySem.boot_len (AA.imp h fun ps M1 ⟨q, n, e1, l, h1⟩ => fun σ G H K vs hv Q k => by
    subst e1
    match vs, hv with
    | [v], ⟨hq, _⟩ =>
      refine ⟨v, n, rfl, ?_, k _ G H _ M1 K (Same.refl _) (Dq.int _) h1⟩
      cases l with
      | ls l =>
        obtain ⟨a, vs, e, h1, h2⟩ := l.at K hq
        subst e
        exact .inl ⟨vs, SqL.of h1, h2.length⟩
      | tp l =>
        obtain ⟨a, vs, e, h1, h2⟩ := l.at K hq
        subst e
        exact .inr ⟨vs, SqT.of h1, h2.length⟩
      | str x hx =>
        have e := dat_str.mp hq
        subst e
        exact ⟨Nat.le_trans hx (by decide), rfl⟩) hg (by decide) (by decide) he hpl
/-- sorted of a list of data -/
theorem ee_sortL {p : Pos} {β : Type} (enc : β → PyData) (hu : X.A.units + 64 < cLine) (hm : X.mg "sorted" = none) (h : AA X B [a] is M fun ps M1 => ∃ (q : Pr) (bs : List β), ps = [q] ∧ LsP M1 q ((bs.map enc).map dat) ∧ Srt enc bs ∧ Post (dat (.list ((bs.mergeSort (PySem.W.dataLe false enc)).map enc))) M1) (hg : Gl X "sorted" := by rfl)
    (he : starEach [a] X.env = (false, eval a X.env) :: starEach [] X.env := by rfl) (hpl : (backTo pos (starEach [] X.env)).any (·.1) = false := by rfl) : EE X B (.Call (.Name "sorted" p) [a] [] pos) is M Post :=
  ee_B (cr_sortL hu enc) hm (by decide +kernel) (AA.imp h fun ps M1 ⟨q, bs, e1, l, S, h1⟩ => fun σ G H K vs hv Q k => by
    subst e1
    match vs, hv with
    | [v], ⟨hq, _⟩ =>
      obtain ⟨a, vs, e, h2, h3⟩ := l.at K hq
      subst e
      refine ⟨a, vs, G, bs, rfl, SqL.of h2, K.kn, PL.dats.mp h3, S, fun p ws hp dw => ?_⟩
      obtain ⟨K2, g2⟩ := K.new (o := .lst ws) hp
      exact k _ _ _ _ M1 K2 g2 (Dq.lst upd_same (DqL.mono g2 _ _ dw)) h1) hg (by decide) (by decide) he hpl
/-- all, any of a list of truth values -/
theorem bls_of : ∀ {bs : List Bool} {vs : List V}, PL G (bs.map fun b => dat (.bool b)) vs → vs = bs.map V.bl
  | [], [], _ => rfl
  | b :: bs, v :: vs, h => by rw [dat_bl.mp h.1, bls_of h.2]; rfl
  | [], _ :: _, h => h.elim
  | _ :: _, [], h => h.elim
theorem ints_of : ∀ {bs : List Int} {vs : List V}, PL G (bs.map fun b => dat (.int b)) vs → vs = bs.map V.int
  | [], [], _ => rfl
  | b :: bs, v :: vs, h => by rw [dat_int.mp h.1, ints_of h.2]; rfl
  | [], _ :: _, h => h.elim
  | _ :: _, [], h => h.elim
theorem strs_of : ∀ {bs : List Str} {vs : List V}, PL G (bs.map fun b => dat (.str b)) vs → vs = bs.map V.str
  | [], [], _ => rfl
  | b :: bs, v :: vs, h => by rw [dat_str.mp h.1, strs_of h.2]; rfl
  | [], _ :: _, h => h.elim
  | _ :: _, [], h => h.elim
theorem ee_all {p : Pos} (hc : X.calm = true) (hm : X.mg "all" = none) (h : AA X B [a] is M fun ps M1 => ∃ (q : Pr) (bs : List Bool), ps = [q] ∧ LsP M1 q (bs.map fun b => dat (.bool b)) ∧ Post (dat (.bool (bs.all id))) M1) (hg : Gl X "all" := by rfl)
    (he : starEach [a] X.env = (false, eval a X.env) :: starEach [] X.env := by rfl) (hpl : (backTo pos (starEach [] X.env)).any (·.1) = false := by rfl) : EE X B (.Call (.Name "all" p) [a] [] pos) is M Post :=
  ee_B (cr_all hc) hm (by decide +kernel) (AA.imp h fun ps M1 ⟨q, bs, e1, l, h1⟩ => fun σ G H K vs hv Q k => by
    subst e1
    match vs, hv with
    | [v], ⟨hq, _⟩ =>
      obtain ⟨a, vs, e, h2, h3⟩ := l.at K hq
      subst e
      rw [bls_of h3] at h2
      exact ⟨a, bs, rfl, SqL.of h2, k _ G H _ M1 K (Same.refl _) (Dq.bl _) h1⟩) hg (by decide) (by decide) he hpl
theorem ee_any {p : Pos} (hc : X.calm = true) (hm : X.mg "any" = none) (h : AA X B [a] is M fun ps M1 => ∃ (q : Pr) (bs : List Bool), ps = [q] ∧ LsP M1 q (bs.map fun b => dat (.bool b)) ∧ Post (dat (.bool (bs.any id))) M1) (hg : Gl X "any" := by rfl)
    (he : starEach [a] X.env = (false, eval a X.env) :: starEach [] X.env := by rfl) (hpl : (backTo pos (starEach [] X.env)).any (·.1) = false := by rfl) : EE X B (.Call (.Name "any" p) [a] [] pos) is M Post :=
  ee_B (cr_any hc) hm (by decide +kernel) (AA.imp h fun ps M1 ⟨q, bs, e1, l, h1⟩ => fun σ G H K vs hv Q k => by
    subst e1
    match vs, hv with
    | [v], ⟨hq, _⟩ =>
      obtain ⟨a, vs, e, h2, h3⟩ := l.at K hq
      subst e
      rw [bls_of h3] at h2
      exact ⟨a, bs, rfl, SqL.of h2, k _ G H _ M1 K (Same.refl _) (Dq.bl _) h1⟩) hg (by decide) (by decide) he hpl
theorem ee_sum {p : Pos} (hc : X.calm = true) (hm : X.mg "sum" = none) (h : AA X B [a] is M fun ps M1 => ∃ (q : Pr) (bs : List Int), ps = [q] ∧ LsP M1 q (bs.map fun b => dat (.int b)) ∧ Post (dat (.int bs.sum)) M1) (hg : Gl X "sum" := by rfl)
    (he : starEach [a] X.env = (false, eval a X.env) :: starEach [] X.env := by rfl) (hpl : (backTo pos (starEach [] X.env)).any (·.1) = false := by rfl) : EE X B (.Call (.Name "sum" p) [a] [] pos) is M Post :=
  ee_B (cr_sum hc) hm (by decide +kernel) (AA.imp h fun ps M1 ⟨q, bs, e1, l, h1⟩ => fun σ G H K vs hv Q k => by
    subst e1
    match vs, hv with
    | [v], ⟨hq, _⟩ =>
      obtain ⟨a, vs, e, h2, h3⟩ := l.at K hq
      subst e
      rw [ints_of h3] at h2
      exact ⟨a, bs, rfl, SqL.of h2, k _ G H _ M1 K (Same.refl _) (Dq.int _) h1⟩) hg (by decide) (by decide) he hpl
theorem ee_abs {p : Pos} (hm : X.mg "abs" = none) (h : AA X B [a] is M fun ps M1 => ∃ i : Int, ps = [dat (.int i)] ∧ Post (dat (.int (if i < 0 then -i else i))) M1) (hg : Gl X "abs" := by rfl)
    (he : starEach [a] X.env = (false, eval a X.env) :: starEach [] X.env := by rfl) (hpl : (backTo pos (starEach [] X.env)).any (·.1) = false := by rfl) : EE X B (.Call (.Name "abs" p) [a] [] pos) is M Post :=
  ee_B call_abs hm (by decide +kernel) (AA.imp h fun ps M1 ⟨i, e1, h1⟩ => fun σ G H K vs hv Q k => by
    subst e1
    match vs, hv with
    | [v], ⟨hq, _⟩ => exact ⟨i, by rw [dat_int.mp hq], k _ G H _ M1 K (Same.refl _) (Dq.int _) h1⟩) hg (by decide) (by decide) he hpl
theorem ee_max2 {p : Pos} (hc : X.calm = true) (hm : X.mg "max" = none) (h : AA X B [a, b] is M fun ps M1 => ∃ i j : Int, ps = [dat (.int i), dat (.int j)] ∧ Post (dat (.int (if j > i then j else i))) M1) (hg : Gl X "max" := by rfl)
    (he : starEach [a, b] X.env = (false, eval a X.env) :: starEach [b] X.env := by rfl) (hpl : (backTo pos (starEach [b] X.env)).any (·.1) = false := by rfl) : EE X B (.Call (.Name "max" p) [a, b] [] pos) is M Post :=
  ee_B (call_max2 hc) hm (by decide +kernel) (AA.imp h fun ps M1 ⟨i, j, e1, h1⟩ => fun σ G H K vs hv Q k => by
    subst e1
    match vs, hv with
    | [v, w], ⟨hq, hr, _⟩ => exact ⟨i, j, by rw [dat_int.mp hq, dat_int.mp hr], k _ G H _ M1 K (Same.refl _) (Dq.int _) h1⟩) hg (by decide) (by decide) he hpl
theorem ee_min2 {p : Pos} (hc : X.calm = true) (hm : X.mg "min" = none) (h : AA X B [a, b] is M fun ps M1 => ∃ i j : Int, ps = [dat (.int i), dat (.int j)] ∧ Post (dat (.int (if j < i then j else i))) M1) (hg : Gl X "min" := by rfl)
    (he : starEach [a, b] X.env = (false, eval a X.env) :: starEach [b] X.env := by rfl) (hpl : (backTo pos (starEach [b] X.env)).any (·.1) = false := by rfl) : EE X B (.Call (.Name "min" p) [a, b] [] pos) is M Post :=
  ee_B (call_min2 hc) hm (by decide +kernel) (AA.imp h fun ps M1 ⟨i, j, e1, h1⟩ => fun σ G H K vs hv Q k => by
    subst e1
    match vs, hv with
    | [v, w], ⟨hq, hr, _⟩ => exact ⟨i, j, by rw [dat_int.mp hq, dat_int.mp hr], k _ G H _ M1 K (Same.refl _) (Dq.int _) h1⟩) hg (by decide) (by decide) he hpl
theorem ee_intb {p : Pos} (hm : X.mg "int" = none) (h : AA X B [a] is M fun ps M1 => ∃ t : Bool, ps = [dat (.bool t)] ∧ Post (dat (.int (if t then 1 else 0))) M1) (hg : Gl X "int" := by rfl)
    (he : starEach [a] X.env = (false, eval a X.env) :: starEach [] X.env := by rfl) (hpl : (backTo pos (starEach [] X.env)).any (·.1) = false := by rfl) : EE X B (.Call (.Name "int" p) [a] [] pos) is M Post :=
  ee_T call_int1 hm (by decide +kernel) (AA.imp h fun ps M1 ⟨t, e1, h1⟩ => fun σ G H K vs hv Q k => by
    subst e1
    match vs, hv with
    | [v], ⟨hq, _⟩ => exact .inr ⟨t, by rw [dat_bl.mp hq], k _ G H _ M1 K (Same.refl _) (Dq.int _) h1⟩) hg (by decide) (by decide) he hpl
/-- list(xs): a copy that may change; one that will not -/
theorem ee_listm {p : Pos} (hm : X.mg "list" = none) (h : AA X B [a] is M fun ps M1 => ∃ (q : Pr) (qs : List Pr), ps = [q] ∧ LsP M1 q qs ∧ ∀ l, Post (raw (.ref l)) (M1 ++ [(l, .lst qs)])) (hg : Gl X "list" := by rfl)
    (he : starEach [a] X.env = (false, eval a X.env) :: starEach [] X.env := by rfl) (hpl : (backTo pos (starEach [] X.env)).any (·.1) = false := by rfl) : EE X B (.Call (.Name "list" p) [a] [] pos) is M Post :=
  ee_T call_list_of hm (by decide +kernel) (AA.imp h fun ps M1 ⟨q, qs, e1, l, h1⟩ => fun σ G H K vs hv Q k => by
    subst e1
    match vs, hv with
    | [v], ⟨hq, _⟩ =>
      obtain ⟨a, vs, e, h2, h3⟩ := l.at K hq
      subst e
      exact ⟨a, vs, rfl, .inl (SqL.of h2), fun l hl => k _ G _ _ _ (K.push (o := .lst vs) (m := .lst qs) hl ⟨vs, upd_same, h3⟩) (Same.refl _) rfl (h1 l)⟩) hg (by decide) (by decide) he hpl
theorem ee_listd {p : Pos} (hm : X.mg "list" = none) (h : AA X B [a] is M fun ps M1 => ∃ (q : Pr) (ds : List PyData), ps = [q] ∧ LsP M1 q (ds.map dat) ∧ Post (dat (.list ds)) M1) (hg : Gl X "list" := by rfl)
    (he : starEach [a] X.env = (false, eval a X.env) :: starEach [] X.env := by rfl) (hpl : (backTo pos (starEach [] X.env)).any (·.1) = false := by rfl) : EE X B (.Call (.Name "list" p) [a] [] pos) is M Post :=
  ee_T call_list_of hm (by decide +kernel) (AA.imp h fun ps M1 ⟨q, ds, e1, l, h1⟩ => fun σ G H K vs hv Q k => by
    subst e1
    match vs, hv with
    | [v], ⟨hq, _⟩ =>
      obtain ⟨a, vs, e, h2, h3⟩ := l.at K hq
      subst e
      refine ⟨a, vs, rfl, .inl (SqL.of h2), fun l hl => ?_⟩
      obtain ⟨K2, g2⟩ := K.new (o := .lst vs) hl
      exact k _ _ _ _ M1 K2 g2 (Dq.lst upd_same (PL.dats.mp (h3.mono g2))) h1) hg (by decide) (by decide) he hpl
/-- isinstance -/
inductive TyD (M : MS) : Pr → String → Prop
  | non : TyD M (dat .none) "NoneType"
  | bl (b : Bool) : TyD M (dat (.bool b)) "bool"
  | int (i : Int) : TyD M (dat (.int i)) "int"
  | str (i : Str) : TyD M (dat (.str i)) "str"
  | ls {p : Pr} {ps : List Pr} (l : LsP M p ps) : TyD M p "list"
  | tp {p : Pr} {ps : List Pr} (l : TpP p ps) : TyD M p "tuple"
  | dk (kvs : List (Key × Pr)) : TyD M (dkP kvs) "dict"
  | dko {a : Addr} {i : Nat} {kvs : List (Key × Pr)} (h : M[i]? = some (a, .dk kvs)) : TyD M (raw (.ref a)) "dict"
theorem ee_isi {p : Pos} {x : Str} {T : String} {pn : Pos} (hm : X.mg "isinstance" = none) (hmT : X.mg x = none) (hvT : bootBuiltins x = some (.type T)) (h : EE X B a is M fun q M1 => ∃ t r, TyD M1 q t ∧ kitB t T = some r ∧ Post (dat (.bool r)) M1) (hg : Gl X "isinstance" := by rfl) (hgT : Gl X x := by rfl) (hn : x ≠ "__name__" := by decide) (hd : (x == ("__debug__" : Str)) = false := by decide)
    (he : starEach [a, .Name x pn] X.env = (false, eval a X.env) :: starEach [.Name x pn] X.env := by rfl) (he2 : starEach [.Name x pn] X.env = (false, eval (.Name x pn) X.env) :: starEach [] X.env := by rfl) (hpl : (backTo pos (starEach [.Name x pn] X.env)).any (·.1) = false := by rfl) : EE X B (.Call (.Name "isinstance" p) [a, .Name x pn] [] pos) is M Post :=
  ee_B call_isi hm (by decide +kernel) (aa_cons (EE.imp h fun q M1 ⟨t, r, ty, kt, h1⟩ => aa_cons (ee_ty hmT hvT (aa_nil (fun σ G H K vs hv Q k => by
    match vs, hv with
    | [v, w], ⟨hq, hr, _⟩ =>
      have e : w = .ty T := hr
      subst e
      refine ⟨v, .ty T, .type t, .type T, r, rfl, .ty T, ?_, kit_ty kt, k _ G H _ M1 K (Same.refl _) (Dq.bl _) h1⟩
      cases ty with
      | non => rw [dat_non.mp hq]; exact .base .non
      | bl b => rw [dat_bl.mp hq]; exact .base (.bl b)
      | int b => rw [dat_int.mp hq]; exact .base (.int b)
      | str b => rw [dat_str.mp hq]; exact .base (.str b)
      | ls l =>
        obtain ⟨a, vs, e, h2, h3⟩ := l.at K hq
        subst e
        exact .base (.lst h2)
      | tp l =>
        obtain ⟨a, vs, e, h2, h3⟩ := l.at K hq
        subst e
        exact .base (.tup h2)
      | dk kvs =>
        obtain ⟨a, vs, e, h2, h3⟩ := hq
        subst e
        exact .base (.dK (K.kn _ _ h2))
      | dko hi =>
        obtain ⟨us, h2, h3⟩ := K.at hi
        have e : v = _ := hq
        subst e
        exact .base (.dK h2))) hgT hn hd) he2) he) hg (by decide) (by decide) he hpl
theorem ee_ixl (h : EE X B a is M fun p M1 => EE X B b is M1 fun q M2 => ∃ (ps : List Pr) (i : Int) (r : Pr), LsP M2 p ps ∧ q = dat (.int i) ∧ atI ps i = some r ∧ Post r M2) (hs : PlainIx b := by exact fun _ _ => rfl) : EE X B (.Subscript a b pos) is M Post := fun σ G H K Q k =>
  EW.of (pe_ix ix_list pe_w pe_w hs) (h σ G H K _ fun v G1 H1 p M1 K1 g1 q1 h1 => h1 σ G1 H1 K1 _ fun w G2 H2 q M2 K2 g2 q2 ⟨ps, i, r, l, e1, e2, h2⟩ => by
    subst e1
    obtain ⟨a, vs, e, h3, h4⟩ := l.at K2 (p.mono g2 q1)
    obtain ⟨x, e3, h5⟩ := h4.ix e2
    exact ⟨a, vs, i, x, e, dat_int.mp q2, SqL.of h3, e3, k x G2 H2 r M2 K2 (g1.trans g2) h5 h2⟩)
theorem ee_ixt (h : EE X B a is M fun p M1 => EE X B b is M1 fun q M2 => ∃ (ps : List Pr) (i : Int) (r : Pr), TpP p ps ∧ q = dat (.int i) ∧ atI ps i = some r ∧ Post r M2) (hs : PlainIx b := by exact fun _ _ => rfl) : EE X B (.Subscript a b pos) is M Post := fun σ G H K Q k =>
  EW.of (pe_ix ix_tup pe_w pe_w hs) (h σ G H K _ fun v G1 H1 p M1 K1 g1 q1 h1 => h1 σ G1 H1 K1 _ fun w G2 H2 q M2 K2 g2 q2 ⟨ps, i, r, l, e1, e2, h2⟩ => by
    subst e1
    obtain ⟨a, vs, e, h3, h4⟩ := l.at K2 (p.mono g2 q1)
    obtain ⟨x, e3, h5⟩ := h4.ix e2
    exact ⟨a, vs, i, x, e, dat_int.mp q2, SqT.of h3, e3, k x G2 H2 r M2 K2 (g1.trans g2) h5 h2⟩)
theorem ee_ixs (h : EE X B a is M fun p M1 => EE X B b is M1 fun q M2 => ∃ (z : Str) (i : Int) (c : Nat), p = dat (.str z) ∧ q = dat (.int i) ∧ z.length ≤ 1000 ∧ atI z.cps.toList i = some c ∧ Post (dat (.str ⟨#[c]⟩)) M2) (hs : PlainIx b := by exact fun _ _ => rfl) : EE X B (.Subscript a b pos) is M Post := fun σ G H K Q k =>
  EW.of (pe_ix ix_str pe_w pe_w hs) (h σ G H K _ fun v G1 H1 p M1 K1 g1 q1 h1 => h1 σ G1 H1 K1 _ fun w G2 H2 q M2 K2 g2 q2 ⟨z, i, c, e0, e1, hz, e2, h2⟩ => by
    subst e0
    subst e1
    exact ⟨z, i, c, dat_str.mp q1, dat_int.mp q2, Nat.le_of_lt (small1000 hz), e2, k _ G2 H2 _ M2 K2 (g1.trans g2) (Dq.str _) h2⟩)
/-- a part of a slice -/
def OO (X : Cx) (B : Bs) (e : Option Expr) (is : Is) (M : MS) (Post : Option Int → MS → Prop) : Prop := match e with
  | none => Post none M
  | some e => EE X B e is M fun p M1 => ∃ i, p = dat (.int i) ∧ Post (some i) M1
def OW (X : Cx) : Option Expr → TO
  | none => tNoPart
  | some e => tPart (EW X e)
theorem po_w : ∀ {e : Option Expr}, PO X e (OW X e)
  | none => po_none
  | some e => po_some pe_w
theorem OO.go {e : Option Expr} {OPost : Option Int → MS → Prop} (h : OO X B e is M OPost) {σ : L2.St} {G H : Hp} (K : Ok B σ G H is M) {Q : Option Int → Hp → Prop} (k : ∀ o G' H' M', Ok B σ G' H' is M' → Same G G' → OPost o M' → Q o H') : OW X e σ H Q := by
  cases e with
  | none => exact k none G H M K (Same.refl _) h
  | some e =>
    exact h σ G H K _ fun v G1 H1 p M1 K1 g1 q1 ⟨i, e1, h1⟩ => by
      subst e1
      exact ⟨i, dat_int.mp q1, k _ G1 H1 M1 K1 g1 h1⟩
def cutP {α : Type} (xs : List α) (lo hi : Option Int) : List α := (xs.drop (HT.sIx xs.length 0 lo)).take (HT.sIx xs.length xs.length hi - HT.sIx xs.length 0 lo)
theorem PL.cut {ps : List Pr} {vs : List V} (h : PL G ps vs) (lo hi : Option Int) : PL G (cutP ps lo hi) (cutV vs lo hi) := by
  unfold cutP cutV
  rw [h.length]
  exact (h.drop _).take _
theorem cutP_map {α β : Type} (f : α → β) (xs : List α) (lo hi : Option Int) : cutP (xs.map f) lo hi = (cutP xs lo hi).map f := by
  unfold cutP
  rw [List.length_map, List.map_take, List.map_drop]
theorem ee_slice {lo hi : Option Expr} {p2 : Pos} (h : EE X B a is M fun p M1 => OO X B lo is M1 fun l M2 => OO X B hi is M2 fun u M3 => ∃ ps, LsP M3 p ps ∧ Post (lstP (cutP ps l u)) M3) : EE X B (.Subscript a (.Slice lo hi none p2) pos) is M Post := fun σ G H K Q k =>
  EW.of (pe_slice sl_list pe_w po_w po_w) (h σ G H K _ fun v G1 H1 p M1 K1 g1 q1 h1 => h1.go K1 fun l G2 H2 M2 K2 g2 h2 => h2.go K2 fun u G3 H3 M3 K3 g3 ⟨ps, ls, h3⟩ => by
    obtain ⟨a, vs, e, h4, h5⟩ := ls.at K3 (p.mono (g2.trans g3) q1)
    refine ⟨a, vs, e, SqL.of h4, fun q hq => ?_⟩
    obtain ⟨K4, g4⟩ := K3.new (o := .lst (cutV vs l u)) hq
    exact k _ _ _ (lstP (cutP ps l u)) M3 K4 (((g1.trans g2).trans g3).trans g4) ⟨q, _, rfl, upd_same, (h5.cut l u).mono g4⟩ h3)
theorem ee_sliced {lo hi : Option Expr} {p2 : Pos} (h : EE X B a is M fun p M1 => OO X B lo is M1 fun l M2 => OO X B hi is M2 fun u M3 => ∃ ds : List PyData, LsP M3 p (ds.map dat) ∧ Post (dat (.list (cutP ds l u))) M3) : EE X B (.Subscript a (.Slice lo hi none p2) pos) is M Post := fun σ G H K Q k =>
  EW.of (pe_slice sl_list pe_w po_w po_w) (h σ G H K _ fun v G1 H1 p M1 K1 g1 q1 h1 => h1.go K1 fun l G2 H2 M2 K2 g2 h2 => h2.go K2 fun u G3 H3 M3 K3 g3 ⟨ds, ls, h3⟩ => by
    obtain ⟨a, vs, e, h4, h5⟩ := ls.at K3 (p.mono (g2.trans g3) q1)
    refine ⟨a, vs, e, SqL.of h4, fun q hq => ?_⟩
    obtain ⟨K4, g4⟩ := K3.new (o := .lst (cutV vs l u)) hq
    have h6 := h5.cut l u
    rw [cutP_map] at h6
    exact k _ _ _ _ M3 K4 (((g1.trans g2).trans g3).trans g4) (Dq.lst upd_same (PL.dats.mp (h6.mono g4))) h3)
theorem ee_slices {lo hi : Option Expr} {p2 : Pos} (h : EE X B a is M fun p M1 => OO X B lo is M1 fun l M2 => OO X B hi is M2 fun u M3 => ∃ z, p = dat (.str z) ∧ z.length ≤ 1000 ∧ Post (dat (.str (cutS z l u))) M3) : EE X B (.Subscript a (.Slice lo hi none p2) pos) is M Post := fun σ G H K Q k =>
  EW.of (pe_slice sl_str pe_w po_w po_w) (h σ G H K _ fun v G1 H1 p M1 K1 g1 q1 h1 => h1.go K1 fun l G2 H2 M2 K2 g2 h2 => h2.go K2 fun u G3 H3 M3 K3 g3 ⟨z, e1, hz, h3⟩ => by
    subst e1
    exact ⟨z, dat_str.mp q1, Nat.le_of_lt (small1000 hz), k _ G3 H3 _ M3 K3 ((g1.trans g2).trans g3) (Dq.str _) h3⟩)
/-- list + list -/
theorem ee_cat (h : EE X B a is M fun p M1 => EE X B b is M1 fun q M2 => ∃ ps qs, LsP M2 p ps ∧ LsP M2 q qs ∧ ps.length + qs.length ≤ 1000000 ∧ Post (lstP (ps ++ qs)) M2) : EE X B (.BinOp a .Add b pos) is M Post :=
  ee_op op_cat (EE.imp h fun p M1 h1 => EE.imp h1 fun q M2 ⟨ps, qs, l1, l2, hz, h2⟩ => fun σ G H K x y hx hy Q k => by
    obtain ⟨a, vs, e, h3, h4⟩ := l1.at K hx
    obtain ⟨a2, vs2, e2, h5, h6⟩ := l2.at K hy
    refine ⟨a, a2, vs, vs2, e, e2, h3, h5, by rw [← h4.length, ← h6.length]; exact Nat.le_trans hz (by decide), fun r hr => ?_⟩
    obtain ⟨K2, g2⟩ := K.new (o := .lst (vs ++ vs2)) hr
    exact k _ _ _ (lstP (ps ++ qs)) M2 K2 g2 ⟨r, _, rfl, upd_same, (h4.app h6).mono g2⟩ h2)
theorem ee_catd (h : EE X B a is M fun p M1 => EE X B b is M1 fun q M2 => ∃ ds es : List PyData, LsP M2 p (ds.map dat) ∧ LsP M2 q (es.map dat) ∧ ds.length + es.length ≤ 1000000 ∧ Post (dat (.list (ds ++ es))) M2) : EE X B (.BinOp a .Add b pos) is M Post :=
  ee_op op_cat (EE.imp h fun p M1 h1 => EE.imp h1 fun q M2 ⟨ps, qs, l1, l2, hz, h2⟩ => fun σ G H K x y hx hy Q k => by
    obtain ⟨a, vs, e, h3, h4⟩ := l1.at K hx
    obtain ⟨a2, vs2, e2, h5, h6⟩ := l2.at K hy
    have e3 := h4.length
    have e4 := h6.length
    rw [List.length_map] at e3 e4
    refine ⟨a, a2, vs, vs2, e, e2, h3, h5, by rw [← e3, ← e4]; exact Nat.le_trans hz (by decide), fun r hr => ?_⟩
    obtain ⟨K2, g2⟩ := K.new (o := .lst (vs ++ vs2)) hr
    have h7 := (h4.app h6).mono g2
    rw [← List.map_append] at h7
    exact k _ _ _ _ M2 K2 g2 (Dq.lst upd_same (PL.dats.mp h7)) h2)
theorem ee_append {apos : Pos} (h : EE X B o is M fun p M1 => ∃ (a : Addr) (j : Nat) (ps0 : List Pr), p = raw (.ref a) ∧ M1[j]? = some (a, MO.lst ps0) ∧ EE X B e is M1 fun q M2 => ∃ (ps : List Pr), M2[j]? = some (a, MO.lst ps) ∧ ps.length ≤ 100000 ∧ Post (dat .none) (M2.set j (a, .lst (ps ++ [q]))))
    (hs : starEach [e] X.env = (false, eval e X.env) :: starEach [] X.env := by rfl) (hpl : (backTo pos (starEach [] X.env)).any (·.1) = false := by rfl) (hbase : attributeBase o "append" X.env (eval o X.env) = eval o X.env := by rfl) (hline : (apos.endLine == pos.line) = true := by rfl)
    (hpe : ∀ {to : TE} {t : TA}, PE X o to → PA X [e] t → PE X (.Call (.Attribute o "append" apos) [e] [] pos) (tBM X.K "list" rAppend to t) := by exact fun h1 h2 => pe_bm PySem.F.plainAttrs_list PySem.F.slot_list_append PySem.F.type_list_append mt_append h1 h2) : EE X B (.Call (.Attribute o "append" apos) [e] [] pos) is M Post := fun σ G H K Q k =>
  EW.of (hpe pe_w (pa_cons pe_w pa_nil hs)) (h σ G H K _ fun v G1 H1 p M1 K1 g1 q1 ⟨a, j, ps0, e1, hj, h1⟩ => by
    subst e1
    have e : v = .ref a := q1
    subst e
    obtain ⟨vs0, hv0, _⟩ := K1.at hj
    refine ⟨.inl ⟨rfl, _, SqL.of hv0⟩, h1 σ G1 H1 K1 _ fun w G2 H2 q M2 K2 g2 q2 ⟨ps, hj2, hz, h2⟩ => ?_⟩
    obtain ⟨vs, hv, hq⟩ := K2.at hj2
    refine ⟨a, vs, w, rfl, rfl, hv, Nat.lt_of_le_of_lt (by rw [← hq.length]; exact hz) (by decide), k _ G2 _ _ _ (K2.write (m' := .lst (ps ++ [q])) hj2 ⟨_, upd_same, hq.app ⟨q2, True.intro⟩⟩ (fun _ => True.intro)) (g1.trans g2) Dq.non h2⟩)
end
end Q9
namespace Q9
open PySem L2
section
variable {X : Cx} {B : Bs} {is : Is} {M : MS} {Post : Pr → MS → Prop} {TPost : Bool → MS → Prop} {IPost : List Pr → MS → Prop} {D : En} {a b c e tg iter o : Expr} {es : List Expr} {pos : Pos}
/-- a <= b <= c of ints -/
theorem ee_chain (h : EE X B a is M fun p M1 => ∃ i : Int, p = dat (.int i) ∧ EE X B b is M1 fun q M2 => ∃ j : Int, q = dat (.int j) ∧ (¬ i ≤ j → Post (dat (.bool false)) M2) ∧ (i ≤ j → EE X B c is M2 fun r M3 => ∃ k : Int, r = dat (.int k) ∧ Post (dat (.bool (decide (j ≤ k)))) M3)) (hm : lastMarks [CmpOp.LtE, CmpOp.LtE] [b, c] = false := by rfl) :
    EE X B (.Compare a [.LtE, .LtE] [b, c] pos) is M Post := fun σ G H K Q k =>
  EW.of (pe_chain op_le op_le pe_w pe_w pe_w (hm := hm)) (h σ G H K _ fun v G1 H1 p M1 K1 g1 q1 ⟨i, e1, h1⟩ => h1 σ G1 H1 K1 _ fun w G2 H2 q M2 K2 g2 q2 ⟨j, e2, hn, hy⟩ => by
    subst e1; subst e2
    have ev := dat_int.mp q1
    have ew := dat_int.mp q2
    subst ev; subst ew
    refine ⟨i, j, rfl, rfl, decide (i ≤ j), rfl, ?_⟩
    by_cases hij : i ≤ j
    · rw [decide_eq_true hij]
      refine iteT (hy hij σ G2 H2 K2 _ fun u G3 H3 r M3 K3 g3 q3 ⟨l, e3, h3⟩ => ?_)
      subst e3
      have eu := dat_int.mp q3
      subst eu
      exact ⟨j, l, rfl, rfl, k _ G3 H3 _ M3 K3 ((g1.trans g2).trans g3) (Dq.bl _) h3⟩
    · rw [decide_eq_false hij]
      exact iteF (k _ G2 H2 _ M2 K2 (g1.trans g2) (Dq.bl _) (hn hij)))
/-- one sign in a text -/
theorem cc_sign (h : EE X B a is M fun p M1 => EE X B b is M1 fun q M2 => ∃ (c : Nat) (z : Str), p = dat (.str ⟨#[c]⟩) ∧ q = dat (.str z) ∧ Post (dat (.bool (decide (c ∈ z.cps.toList)))) M2) : CC X B .In a b is M Post :=
  cc_op op_in_sign (EE.imp h fun p M1 h1 => EE.imp h1 fun q M2 ⟨c, z, e1, e2, h2⟩ => fun σ G H K x y hx hy Q k => by
    subst e1; subst e2
    exact ⟨c, z, dat_str.mp hx, dat_str.mp hy, k _ G H _ M2 K (Same.refl _) (Dq.bl _) h2⟩)
/-- x in xs, x not in xs: data -/
def rInQ (K : PySem.W.Frag) (neg : Bool) : R2 := fun x y H Q => ∃ d ds, Dp K H x d ∧ Dp K H y (.list ds) ∧ PlOk d ∧ PlOk (.list ds) ∧ Q (.bl (if neg then !(ds.any fun y => PyData.eqv y d) else ds.any fun y => PyData.eqv y d)) H
theorem plOk_all {ds : List PyData} (h : PlOk (.list ds)) : PyData.plainAll ds = true ∧ PyData.depthAll ds ≤ 60 := by
  obtain ⟨h1, h2⟩ := h
  simp only [PyData.plain] at h1
  simp only [PyData.depth] at h2
  exact ⟨h1, by omega⟩
theorem op_inQ (hu : X.A.units + 64 < cLine) : OpR X (compareOp .In) (rInQ X.K false) := by
  intro pins s σ H x y v u Q I rx ry h
  obtain ⟨d, ds, hd, he, sd, se, q⟩ := h
  obtain ⟨as, r1⟩ := Dp.reads I d x v hd rx
  obtain ⟨bs, r2⟩ := Dp.reads I (.list ds) y u he ry
  obtain ⟨s1, s2⟩ := plOk_all se
  exact SeqAt.in_list_data r2 r1 s1 sd.1 (by have := sd.2; have := Nat.min_le_right (PyData.depthAll ds) d.depth; omega) ⟨.bl _, H, I, rfl, q⟩
theorem op_niQ (hu : X.A.units + 64 < cLine) : OpR X (compareOp .NotIn) (rInQ X.K true) := by
  intro pins s σ H x y v u Q I rx ry h
  obtain ⟨d, ds, hd, he, sd, se, q⟩ := h
  obtain ⟨as, r1⟩ := Dp.reads I d x v hd rx
  obtain ⟨bs, r2⟩ := Dp.reads I (.list ds) y u he ry
  obtain ⟨s1, s2⟩ := plOk_all se
  exact SeqAt.notIn_list_data r2 r1 s1 sd.1 (by have := sd.2; have := Nat.min_le_right (PyData.depthAll ds) d.depth; omega) ⟨.bl _, H, I, rfl, q⟩
theorem LsP.dp {σ : L2.St} {G H : Hp} {p : Pr} {ds : List PyData} {x : V} (l : LsP M p (ds.map dat)) (K : Ok B σ G H is M) (h : p.p x G) : Dp X.K H x (.list ds) := by
  obtain ⟨a, vs, e, h1, h2⟩ := l.at K h
  subst e
  exact .lst (SqL.of h1) (DqL.dp ds vs (DqL.mono K.kn ds vs (PL.dats.mp h2)))
section
open PySem.W (Datum)
theorem cc_inD {α : Type} [DecidableEq α] [Datum α] (hu : X.A.units + 64 < cLine) (hd : Datum.depth α ≤ 50) (h : EE X B a is M fun p M1 => EE X B b is M1 fun q M2 => ∃ (x : α) (xs : List α), p = dat (Datum.toD x) ∧ LsP M2 q ((xs.map Datum.toD).map dat) ∧ Post (dat (.bool (decide (x ∈ xs)))) M2) : CC X B .In a b is M Post :=
  cc_op (op_inQ hu) (EE.imp h fun p M1 h1 => EE.imp h1 fun q M2 ⟨x, xs, e1, l, h2⟩ => fun σ G H K u y hx hy Q k => by
    subst e1
    refine ⟨_, _, dp_of K.kn hx, l.dp K hy, plOk_toD (by omega) x, plOk_toD (α := List α) (by show Datum.depth α + 1 ≤ 60; omega) xs, ?_⟩
    rw [if_neg (by decide), PySem.W.any_datum]
    exact k _ G H _ M2 K (Same.refl _) (Dq.bl _) h2)
theorem cc_niD {α : Type} [DecidableEq α] [Datum α] (hu : X.A.units + 64 < cLine) (hd : Datum.depth α ≤ 50) (h : EE X B a is M fun p M1 => EE X B b is M1 fun q M2 => ∃ (x : α) (xs : List α), p = dat (Datum.toD x) ∧ LsP M2 q ((xs.map Datum.toD).map dat) ∧ Post (dat (.bool (!decide (x ∈ xs)))) M2) : CC X B .NotIn a b is M Post :=
  cc_op (op_niQ hu) (EE.imp h fun p M1 h1 => EE.imp h1 fun q M2 ⟨x, xs, e1, l, h2⟩ => fun σ G H K u y hx hy Q k => by
    subst e1
    refine ⟨_, _, dp_of K.kn hx, l.dp K hy, plOk_toD (by omega) x, plOk_toD (α := List α) (by show Datum.depth α + 1 ≤ 60; omega) xs, ?_⟩
    rw [if_pos rfl, PySem.W.any_datum]
    exact k _ G H _ M2 K (Same.refl _) (Dq.bl _) h2)
/-- xs.index(x), x is there -/
theorem mt_indexQ {α : Type} [DecidableEq α] [Datum α] (hu : X.A.units + 64 < cLine) (hd : Datum.depth α ≤ 50) : MtR X "list.index" (fun x xs H Q => ∃ (a : Addr) (y : V) (z : α) (zs : List α), x = .ref a ∧ xs = [y] ∧ Dp X.K H (.ref a) (.list (zs.map Datum.toD)) ∧ Dp X.K H y (Datum.toD z) ∧ z ∈ zs ∧ zs.length ≤ 100000 ∧ Q (.int (zs.idxOf z : Nat)) H) := by
  intro pins s σ H x xs v us Q I rx rxs h
  obtain ⟨a, y, z, zs, rfl, rfl, hl, hy, hz, hn, q⟩ := h
  obtain rfl : v = Value.ref a := rx
  obtain ⟨uy, rfl, ry⟩ := Vals.one rxs
  obtain ⟨bs, r1⟩ := Dp.reads I _ y uy hy ry
  obtain ⟨as, r2⟩ := Dp.reads I _ (.ref a) _ hl (show RelV (.ref a) (.ref a) from rfl)
  cases r2 with
  | @list _ o vs n _ _ h1 h2 h3 h4 =>
    have e : vs = vs.toList.toArray := by simp
    cases hl with
    | lst hs ha =>
      obtain ⟨its, rv, pl, _⟩ := I.list hs
      obtain ⟨cs, hr⟩ := Dp.readsAll I _ _ its ha rv
      exact PySem.W.index_list_datum (xs := zs) (x := z) pl.isList ⟨cs, hr⟩ ⟨bs, r1⟩ (by omega) (Nat.le_trans hn (by decide)) hz ⟨.int _, H, I.tok _, ⟨_, rfl⟩, q⟩
end
end
end Q9
namespace Q9
open PySem L2
theorem BB.imp {X : Cx} {B : Bs} {st : List Stmt} {is : Is} {M : MS} {D D' : En} (h : BB X B st is M D) (nx : ∀ i m, D.nx i m → D'.nx i m) (rt : ∀ p m, D.rt p m → D'.rt p m) (bk : ∀ i m, D.bk i m → D'.bk i m) (ct : ∀ i m, D.ct i m → D'.ct i m) : BB X B st is M D' := fun σ G H K DD R =>
  h σ G H K DD ⟨fun σ' G' H' is' M' K' g q => R.nx σ' G' H' is' M' K' g (nx _ _ q), fun v σ' G' H' is' p M' K' g q r => R.rt v σ' G' H' is' p M' K' g q (rt _ _ r), fun σ' G' H' is' M' K' g q => R.bk σ' G' H' is' M' K' g (bk _ _ q), fun σ' G' H' is' M' K' g q => R.ct σ' G' H' is' M' K' g (ct _ _ q)⟩
def retP (post : Pr → Prop) : En where
  nx := fun _ _ => post (dat .none)
  rt := fun p _ => post p
section
variable {P : Program} {w : World} {K : PySem.W.Frag} {mg : Str → Option Value} {base : Heap}
/-- a def of no draws that hands out what will not change -/
theorem cal_pur {x : Str} {st : Stmt} {N ps : List Str} {k : Nat} {T : List Pr → (Pr → Prop) → Prop} (t : Top K mg x st ps) (Sc : FnScope N ps (defScope st)) (len : ∀ prs post, T prs post → prs.length = ps.length)
    (body : ∀ (f : Addr) (cdv : Value) (A : Around) (outer : List Env) (s : Shared) (H : Hp) (E : XK) (B : Bs), B.W = [] → Room k (A.deeper (PyProof.Rows.envOfC x (defScope st) s.heap.objs.size f cdv)) → ∀ (prs : List Pr) (post : Pr → Prop), T prs post →
      BB (cxOf CX0 P w K mg base N x (defScope st) f cdv A outer s H E).nox B (defBody st) (startI N prs) [] (retP post)) : Cal P w K mg base (k + 1) x ps (pur T) := by
  refine cal_mk t Sc (fun prs S post h => len prs _ h.2) fun f cdv A outer s H E B hr prs post ⟨hS, hT⟩ => ?_
  have h := body f cdv A outer s H E B hS hr prs _ hT
  rw [hS]
  exact h.imp (fun i m q => ret0 q (fun _ z => by cases z)) (fun p m q => ret0 q (fun _ z => by cases z)) (fun _ _ z => z) fun _ _ z => z
end
section
variable {X : Cx} {B : Bs} {is : Is} {M : MS} {Post : Pr → MS → Prop} {TPost : Bool → MS → Prop} {IPost : List Pr → MS → Prop} {D : En} {a b c e tg iter o : Expr} {es : List Expr} {pos : Pos}
theorem ee_callp {k : Nat} {x : Str} {ps : List Str} {T : List Pr → (Pr → Prop) → Prop} {p : Pos} (C : Cal X.prog X.w X.K X.mg X.base k x ps (pur T)) (hr : Room k X.A) (h : AA X B (e :: es) is M fun prs M1 => T prs fun p => Post p M1)
    (hg : Gl X x := by rfl) (hdb : (x == ("__debug__" : Str)) = false := by decide) (he : starEach (e :: es) X.env = (false, eval e X.env) :: starEach es X.env := by rfl) (hpl : (backTo pos (starEach es X.env)).any (·.1) = false := by rfl) :
    EE X B (.Call (.Name x p) (e :: es) [] pos) is M Post :=
  ee_call C hr (AA.imp h fun prs M1 h1 => ⟨[], (fun _ z => by cases z), List.nodup_nil, rfl, by simpa using h1⟩) hg hdb he hpl
theorem EE.cv (h : EE X B e is M fun p M' => ∃ p' : Pr, (∀ v G, p.p v G → p'.p v G) ∧ Post p' M') : EE X B e is M Post := fun σ G H K Q k =>
  h σ G H K Q fun v G' H' p M' K' g q ⟨p', c, hp⟩ => k v G' H' p' M' K' g (c _ _ q) hp
theorem dats_map {α : Type} (f : α → PyData) (xs : List α) : (xs.map fun x => dat (f x)) = (xs.map f).map dat := by rw [List.map_map]; rfl
/-- [elt for tg in iter if t]: items xs, each as f says -/
theorem ee_lcD (N0 : List Str) (sc0 : Scope) (own : List (Str × Nat)) {α : Type} (xs : List α) (f : α → Pr) (t : α → Bool) (g : α → PyData) {elt : Expr} {ifs : List Expr} {scope : Scope} (hc : X.calm = true) (hN : X.N.Nodup) (hb : blkC N0 sc0 scope own = true)
    (h : II X B tg iter is M fun ps M1 => ps = xs.map f ∧ xs.length ≤ 100000 ∧
      (∀ (L : Addr) (x : α) (acc : List Pr), x ∈ xs →
        BAll X scope fun X1 => GG X1 B (own.map (·.2)) tg (f x) (wipeI is (own.map (·.2))) (M1 ++ [(L, .lst acc)]) fun is2 M2 => M2 = M1 ++ [(L, .lst acc)] ∧
          BAll X scope fun X2 => TTs X2 B ifs is2 (M1 ++ [(L, .lst acc)]) fun u M3 => M3 = M1 ++ [(L, .lst acc)] ∧ u = t x ∧ (t x = true →
            BAll X scope fun X3 => EE X3 B elt is2 (M1 ++ [(L, .lst acc)]) fun q M4 => M4 = M1 ++ [(L, .lst acc)] ∧ q = dat (g x))) ∧
      Post (dat (.list ((xs.filter t).map g))) M1)
    (hs : ∀ x, foldedSetIterable iter X.env x = pure x := by intro _; rfl) (hN0 : X.N = N0 := by rfl) (hs0 : X.env.scope = sc0 := by rfl) : EE X B (.ListComp elt [⟨tg, iter, ifs, 0⟩] scope pos) is M Post := by
  refine EE.cv (EE.imp (P := fun p M' => ∃ acc, p = lstP acc ∧ acc = ((xs.filter t).map g).map dat ∧ Post (dat (.list ((xs.filter t).map g))) M') (ee_lc N0 sc0 own hc hN hb (fun σ G H K R k => h σ G H K R fun J G1 H1 ps M1 K1 g1 wk ⟨e1, hl, hst, hp⟩ => ?_) hs hN0 hs0) ?_)
  · refine k J G1 H1 ps M1 K1 g1 wk ⟨by rw [e1, List.length_map]; exact hl, fun i acc => acc = (((xs.take i).filter t).map g).map dat, rfl, fun L i p acc hp' hI hle s H C cl fp => ?_, fun acc hI => ⟨acc, rfl, ?_, hp⟩⟩
    · rw [e1, List.getElem?_map] at hp'
      cases hx : xs[i]? with
      | none => rw [hx] at hp'; cases hp'
      | some x =>
        rw [hx] at hp'
        have ep : f x = p := Option.some.inj hp'
        subst ep
        have et : xs.take (i + 1) = xs.take i ++ [x] := by rw [List.take_add_one, hx]; rfl
        intro σ2 G2 H2 K2 v hv Q kk
        refine hst L x acc (List.mem_of_getElem? hx) s H C cl fp σ2 G2 H2 K2 v hv Q fun σ3 G3 H3 is3 M3 K3 g3 e3 ⟨eM, h3⟩ => kk σ3 G3 H3 is3 M3 K3 g3 e3 ⟨eM, fun s H C cl fp => ?_⟩
        have conv : ∀ (u : Bool) (M3 : MS), (M3 = M1 ++ [(L, .lst acc)] ∧ u = t x ∧ (t x = true → BAll X scope fun X3 => EE X3 B elt is3 (M1 ++ [(L, .lst acc)]) fun q M4 => M4 = M1 ++ [(L, .lst acc)] ∧ q = dat (g x))) →
            M3 = M1 ++ [(L, .lst acc)] ∧ (u = false → acc = (((xs.take (i + 1)).filter t).map g).map dat) ∧ (u = true → BAll X scope fun X3 => EE X3 B elt is3 (M1 ++ [(L, .lst acc)]) fun q M4 => M4 = M1 ++ [(L, .lst acc)] ∧ acc ++ [q] = (((xs.take (i + 1)).filter t).map g).map dat) := by
          rintro u M3 ⟨e1, e2, e3⟩
          refine ⟨e1, fun hu => ?_, fun hu s H C cl fp => EE.imp (e3 (e2 ▸ hu) s H C cl fp) fun q M4 ⟨f1, f2⟩ => ⟨f1, ?_⟩⟩
          · rw [hI, et, List.filter_append, List.filter_cons, if_neg (by rw [← e2, hu]; decide)]
            simp
          · rw [hI, et, List.filter_append, List.filter_cons, if_pos (by rw [← e2, hu]), f2]
            simp
        rcases h3 s H C cl fp with ⟨z, q⟩ | ⟨c, z, q⟩
        · exact .inl ⟨z, conv _ _ q⟩
        · exact .inr ⟨c, z, TT'.imp q conv⟩
    · rw [e1, List.length_map, List.take_length] at hI
      exact hI
  · rintro p M' ⟨acc, e1, e2, hp⟩
    subst e1; subst e2
    exact ⟨_, fun v G q => dat_lst.mpr q, hp⟩
/-- [elt for tg in iter] -/
theorem ee_mapD (N0 : List Str) (sc0 : Scope) (own : List (Str × Nat)) {α : Type} (xs : List α) (f : α → Pr) (g : α → PyData) {elt : Expr} {scope : Scope} (hc : X.calm = true) (hN : X.N.Nodup) (hb : blkC N0 sc0 scope own = true)
    (h : II X B tg iter is M fun ps M1 => ps = xs.map f ∧ xs.length ≤ 100000 ∧
      (∀ (L : Addr) (x : α) (acc : List Pr), x ∈ xs →
        BAll X scope fun X1 => GG X1 B (own.map (·.2)) tg (f x) (wipeI is (own.map (·.2))) (M1 ++ [(L, .lst acc)]) fun is2 M2 => M2 = M1 ++ [(L, .lst acc)] ∧
          BAll X scope fun X3 => EE X3 B elt is2 (M1 ++ [(L, .lst acc)]) fun q M4 => M4 = M1 ++ [(L, .lst acc)] ∧ q = dat (g x)) ∧
      Post (dat (.list (xs.map g))) M1)
    (hs : ∀ x, foldedSetIterable iter X.env x = pure x := by intro _; rfl) (hN0 : X.N = N0 := by rfl) (hs0 : X.env.scope = sc0 := by rfl) : EE X B (.ListComp elt [⟨tg, iter, [], 0⟩] scope pos) is M Post := by
  refine ee_lcD N0 sc0 own xs f (fun _ => true) g hc hN hb (fun σ G H K R k => h σ G H K R fun J G1 H1 ps M1 K1 g1 wk ⟨e1, hl, hst, hp⟩ => k J G1 H1 ps M1 K1 g1 wk ⟨e1, hl, fun L x acc hx s H C cl fp σ2 G2 H2 K2 v hv Q kk => ?_, ?_⟩) hs hN0 hs0
  · exact hst L x acc hx s H C cl fp σ2 G2 H2 K2 v hv Q fun σ3 G3 H3 is3 M3 K3 g3 e3 ⟨eM, h3⟩ => kk σ3 G3 H3 is3 M3 K3 g3 e3 ⟨eM, fun s H C cl fp => .inl ⟨rfl, rfl, rfl, fun _ => h3⟩⟩
  · rw [List.filter_eq_self.mpr (fun _ _ => rfl)]
    exact hp
end
end Q9
namespace Q9
open PySem L2
def kD : Key → PyData
  | .inl i => .int i
  | .inr x => .str x
theorem dq_kD {G : Hp} {k : Key} {v : V} (h : Dq G (kD k) v) : v = kV k := by
  cases k with
  | inl i => exact dat_int.mp h
  | inr x => exact dat_str.mp h
theorem dq_kV {G : Hp} (k : Key) : Dq G (kD k) (kV k) := by
  cases k with
  | inl i => exact Dq.int i
  | inr x => exact Dq.str x
theorem dql_kD {G : Hp} : ∀ {k : List Key} {vs : List V}, DqL G (k.map kD) vs → vs = k.map kV
  | [], _, h => by cases (show DqL G [] _ from h); rfl
  | x :: k, _, h => by
    cases (show DqL G (kD x :: k.map kD) _ from h) with
    | cons h1 t => rw [dq_kD h1, dql_kD t]; rfl
theorem dql_kV {G : Hp} : ∀ (k : List Key), DqL G (k.map kD) (k.map kV)
  | [] => .nil
  | x :: k => .cons (dq_kV x) (dql_kV k)
inductive DkP (M : MS) : Pr → List (Key × Pr) → Prop
  | fix (kvs : List (Key × Pr)) : DkP M (dkP kvs) kvs
  | own {a : Addr} {i : Nat} {kvs : List (Key × Pr)} (h : M[i]? = some (a, .dk kvs)) : DkP M (raw (.ref a)) kvs
inductive DtP (M : MS) : Pr → List (List Key × Pr) → Prop
  | fix (kvs : List (List Key × Pr)) : DtP M (dtP kvs) kvs
  | own {a : Addr} {i : Nat} {kvs : List (List Key × Pr)} (h : M[i]? = some (a, .dt kvs)) : DtP M (raw (.ref a)) kvs
section
variable {B : Bs} {is : Is} {M : MS} {σ : L2.St} {G H : Hp}
theorem DkP.at {p : Pr} {kvs : List (Key × Pr)} {x : V} (l : DkP M p kvs) (K : Ok B σ G H is M) (h : p.p x G) : ∃ a us, x = .ref a ∧ H a = some (.dK us) ∧ KP G kvs us := by
  cases l with
  | fix =>
    obtain ⟨a, vs, e, h1, h2⟩ := h
    exact ⟨a, vs, e, K.kn _ _ h1, h2⟩
  | own hi =>
    obtain ⟨vs, h1, h2⟩ := K.at hi
    exact ⟨_, vs, h, h1, h2⟩
theorem DtP.at {p : Pr} {kvs : List (List Key × Pr)} {x : V} (l : DtP M p kvs) (K : Ok B σ G H is M) (h : p.p x G) : ∃ a us, x = .ref a ∧ H a = some (.dT us) ∧ KP G kvs us := by
  cases l with
  | fix =>
    obtain ⟨a, vs, e, h1, h2⟩ := h
    exact ⟨a, vs, e, K.kn _ _ h1, h2⟩
  | own hi =>
    obtain ⟨vs, h1, h2⟩ := K.at hi
    exact ⟨_, vs, h, h1, h2⟩
/-- a dict that is walked -/
def dfP (kvs : List (List Key × Pr)) : Pr := ⟨fun v G => ∃ a o us, v = .ref a ∧ G a = some (.frz o (.dT us)) ∧ KP G kvs us, fun e ⟨a, o, vs, h1, h2, h3⟩ => ⟨a, o, vs, h1, e _ _ h2, h3.mono e⟩⟩
/-- what stands at a key -/
inductive DG (M : MS) : Pr → Pr → Option Pr → Prop
  | k {p : Pr} {kvs : List (Key × Pr)} (d : DkP M p kvs) (k : Key) : DG M p (dat (kD k)) (getP kvs k)
  | t {p : Pr} {kvs : List (List Key × Pr)} (d : DtP M p kvs) (k : List Key) : DG M p (dat (.tuple (k.map kD))) (getP kvs k)
  | f (kvs : List (List Key × Pr)) (k : List Key) : DG M (dfP kvs) (dat (.tuple (k.map kD))) (getP kvs k)
theorem DG.f' (kvs : List (List Key × Pr)) {r : Option Pr} (k : List Key) (e : getP kvs k = r) : DG M (dfP kvs) (dat (.tuple (k.map kD))) r := e ▸ DG.f kvs k
theorem DG.k' {p : Pr} {kvs : List (Key × Pr)} {r : Option Pr} (d : DkP M p kvs) (k : Key) (e : getP kvs k = r) : DG M p (dat (kD k)) r := e ▸ DG.k d k
theorem DG.t' {p : Pr} {kvs : List (List Key × Pr)} {r : Option Pr} (d : DtP M p kvs) (k : List Key) (e : getP kvs k = r) : DG M p (dat (.tuple (k.map kD))) r := e ▸ DG.t d k
theorem DG.at {p q : Pr} {r : Option Pr} {x y : V} (l : DG M p q r) (K : Ok B σ G H is M) (hx : p.p x G) (hy : q.p y G) : ∃ a ro, x = .ref a ∧ DGet H a y ro ∧ ((r = none ∧ ro = none) ∨ ∃ p v, r = some p ∧ ro = some v ∧ p.p v G) := by
  cases l with
  | @k _ kvs d k =>
    obtain ⟨a, us, e, h1, h2⟩ := d.at K hx
    rw [dq_kD hy]
    exact ⟨a, _, e, DGet.k h1, h2.val k⟩
  | @t _ kvs d k =>
    obtain ⟨a, us, e, h1, h2⟩ := d.at K hx
    obtain ⟨b, vs, e2, h3, h4⟩ := dat_tup.mp hy
    have e4 := dql_kD (PL.dats.mp h4)
    subst e2; subst e4
    exact ⟨a, _, e, DGet.t h1 (K.kn _ _ h3), h2.val k⟩
  | f kvs k =>
    obtain ⟨a, o, us, e, h1, h2⟩ := hx
    obtain ⟨b, vs, e2, h3, h4⟩ := dat_tup.mp hy
    have e4 := dql_kD (PL.dats.mp h4)
    subst e2; subst e4
    exact ⟨a, _, e, .inr ⟨us, k, b, .inr ⟨o, K.kn _ _ h1⟩, rfl, K.kn _ _ h3, rfl⟩, h2.val k⟩
end
section
variable {X : Cx} {B : Bs} {is : Is} {M : MS} {Post : Pr → MS → Prop} {TPost : Bool → MS → Prop} {IPost : List Pr → MS → Prop} {D : En} {a b c e tg iter o i : Expr} {es : List Expr} {pos : Pos}
theorem ee_dget (hu : X.A.units + 64 < cLine) (h : EE X B o is M fun p M1 => EE X B i is M1 fun q M2 => ∃ r, DG M2 p q (some r) ∧ Post r M2) (hs : NoSl i := by exact fun _ _ => rfl) : EE X B (.Subscript o i pos) is M Post := fun σ G H K Q k =>
  EW.of (pe_dget (by omega) pe_w pe_w hs) (h σ G H K _ fun v G1 H1 p M1 K1 g1 q1 h1 => h1 σ G1 H1 K1 _ fun w G2 H2 q M2 K2 g2 q2 ⟨r, d, h2⟩ => by
    obtain ⟨a, ro, e, hd, z⟩ := d.at K2 (p.mono g2 q1) q2
    rcases z with ⟨z, _⟩ | ⟨p', v', z1, z2, z3⟩
    · cases z
    · cases z1
      subst z2
      exact ⟨a, v', e, hd, k v' G2 H2 r M2 K2 (g1.trans g2) z3 h2⟩)
theorem cc_din (hu : X.A.units + 64 < cLine) (h : EE X B i is M fun q M1 => EE X B o is M1 fun p M2 => ∃ r, DG M2 p q r ∧ Post (dat (.bool r.isSome)) M2) : CC X B .In i o is M Post := fun σ G H K Q k =>
  CW.of (pc_din (by omega) pe_w pe_w) (h σ G H K _ fun v G1 H1 p M1 K1 g1 q1 h1 => h1 σ G1 H1 K1 _ fun w G2 H2 q M2 K2 g2 q2 ⟨r, d, h2⟩ => by
    obtain ⟨a, ro, e, hd, z⟩ := d.at K2 q2 (p.mono g2 q1)
    have er : ro.isSome = r.isSome := by
      rcases z with ⟨z1, z2⟩ | ⟨p', v', z1, z2, z3⟩ <;> rw [z1, z2] <;> rfl
    exact ⟨a, ro, e, hd, k _ G2 H2 _ M2 K2 (g1.trans g2) (er ▸ Dq.bl _) h2⟩)
theorem cc_dni (hu : X.A.units + 64 < cLine) (h : EE X B i is M fun q M1 => EE X B o is M1 fun p M2 => ∃ r, DG M2 p q r ∧ Post (dat (.bool (!r.isSome))) M2) : CC X B .NotIn i o is M Post := fun σ G H K Q k =>
  CW.of (pc_dnotin (by omega) pe_w pe_w) (h σ G H K _ fun v G1 H1 p M1 K1 g1 q1 h1 => h1 σ G1 H1 K1 _ fun w G2 H2 q M2 K2 g2 q2 ⟨r, d, h2⟩ => by
    obtain ⟨a, ro, e, hd, z⟩ := d.at K2 q2 (p.mono g2 q1)
    have er : ro.isSome = r.isSome := by
      rcases z with ⟨z1, z2⟩ | ⟨p', v', z1, z2, z3⟩ <;> rw [z1, z2] <;> rfl
    exact ⟨a, ro, e, hd, k _ G2 H2 _ M2 K2 (g1.trans g2) (er ▸ Dq.bl _) h2⟩)
/-- d.get(k) -/
def AnyD (M : MS) (p : Pr) : Prop := (∃ kvs, DkP M p kvs) ∨ ∃ kvs, DtP M p kvs
theorem AnyD.at {σ : L2.St} {G H : Hp} {p : Pr} {x : V} (l : AnyD M p) (K : Ok B σ G H is M) (h : p.p x G) : ∃ a, x = .ref a ∧ IsD H a := by
  rcases l with ⟨kvs, d⟩ | ⟨kvs, d⟩
  · obtain ⟨a, us, e, h1, _⟩ := d.at K h
    exact ⟨a, e, .inl ⟨us, .inl h1⟩⟩
  · obtain ⟨a, us, e, h1, _⟩ := d.at K h
    exact ⟨a, e, .inr ⟨us, .inl h1⟩⟩
theorem ee_get {apos : Pos} (hu : X.A.units + 64 < cLine) (h : EE X B o is M fun p M1 => AnyD M1 p ∧ EE X B i is M1 fun q M2 => ∃ r, DG M2 p q r ∧ Post (r.getD (dat .none)) M2) (m : M1 X o "get" apos i pos := by exact ⟨rfl, rfl, rfl, rfl⟩) : EE X B (.Call (.Attribute o "get" apos) [i] [] pos) is M Post := fun σ G H K Q k =>
  EW.of (pe_dget1 (by omega) pe_w pe_w m) (h σ G H K _ fun v G1 H1 p M1 K1 g1 q1 ⟨an, h1⟩ => by
    obtain ⟨a, ev, hd⟩ := an.at K1 q1
    refine ⟨a, ev, hd, h1 σ G1 H1 K1 _ fun w G2 H2 q M2 K2 g2 q2 ⟨r, d, h2⟩ => ?_⟩
    obtain ⟨a', ro, e, hd, z⟩ := d.at K2 (p.mono g2 q1) q2
    rw [ev] at e
    cases e
    refine ⟨ro, hd, k _ G2 H2 _ M2 K2 (g1.trans g2) ?_ h2⟩
    rcases z with ⟨z1, z2⟩ | ⟨p', v', z1, z2, z3⟩
    · rw [z1, z2]
      exact Dq.non
    · rw [z1, z2]
      exact z3)
/-- o[i] = v, an own dict -/
def rPut : TSet := fun o i v H Q => ∃ a H', o = .ref a ∧ DPut H a i v H' ∧ Q H'
theorem set_dict (hu : X.A.units + 64 < cLine) : PSet X rPut := by
  intro pins s σ H o i v ov iv u Q I r1 r2 r3 h
  obtain ⟨a, H', rfl, g, q⟩ := h
  obtain rfl : ov = Value.ref a := r1
  exact d_setItem (by omega) I g r2 r3 fun s' I' => ⟨H', I', q⟩
theorem putP_len {κ : Type} [DecidableEq κ] {G : Hp} {kvs : List (κ × Pr)} {us : List (κ × V)} (h : KP G kvs us) : kvs.length = us.length := h.length
theorem gg_putk {vs : List Nat} {p : Pr} {GPost : Is → MS → Prop} (hu : X.A.units + 64 < cLine) (h : EE X B o is M fun q M1 => ∃ a, q = raw (.ref a) ∧ EE X B i is M1 fun y M2 => ∃ (j : Nat) (kvs : List (Key × Pr)) (k : Key), M2[j]? = some (a, MO.dk kvs) ∧ y = dat (kD k) ∧ kvs.length ≤ 100000 ∧ GPost is (M2.set j (a, .dk (putP kvs k p))))
    (ha : ∀ v, assign (.Subscript o i pos) X.env v = (do
      let ov ← holding [v] (eval o X.env)
      let iv ← holding [v, ov] (eval i X.env)
      standAt pos
      holding [v, ov, iv] (setItem ov iv v)
      release [v, ov, iv] []) := by intro _; rfl) : GG X B vs (.Subscript o i pos) p is M GPost := fun σ G H K v hp Q k =>
  GW.of (pg_sub pe_w pe_w (set_dict hu) ha) (h σ G H K _ fun x G1 H1 q M1 K1 g1 q1 ⟨a, e1, h1⟩ => h1 σ G1 H1 K1 _ fun y G2 H2 r M2 K2 g2 q2 ⟨j, kvs, kk, hj, e2, hz, h2⟩ => by
    subst e1; subst e2
    obtain ⟨us, h3, h4⟩ := K2.at hj
    rw [dq_kD q2]
    refine ⟨a, _, q1, DPut.k h3 (Nat.lt_of_le_of_lt (by rw [← h4.length]; exact hz) (by decide)), k _ G2 _ is _ (K2.write (m' := .dk (putP kvs kk p)) hj ⟨_, upd_same, h4.put (p.mono (g1.trans g2) hp)⟩ (fun hw => absurd hw (K2.notW h3 fun z => z))) (g1.trans g2) rfl h2⟩)
theorem gg_putt {vs : List Nat} {p : Pr} {GPost : Is → MS → Prop} (hu : X.A.units + 64 < cLine) (h : EE X B o is M fun q M1 => ∃ a, q = raw (.ref a) ∧ EE X B i is M1 fun y M2 => ∃ (j : Nat) (kvs : List (List Key × Pr)) (k : List Key), M2[j]? = some (a, MO.dt kvs) ∧ y = dat (.tuple (k.map kD)) ∧ kvs.length ≤ 100000 ∧ GPost is (M2.set j (a, .dt (putP kvs k p))))
    (ha : ∀ v, assign (.Subscript o i pos) X.env v = (do
      let ov ← holding [v] (eval o X.env)
      let iv ← holding [v, ov] (eval i X.env)
      standAt pos
      holding [v, ov, iv] (setItem ov iv v)
      release [v, ov, iv] []) := by intro _; rfl) : GG X B vs (.Subscript o i pos) p is M GPost := fun σ G H K v hp Q k =>
  GW.of (pg_sub pe_w pe_w (set_dict hu) ha) (h σ G H K _ fun x G1 H1 q M1 K1 g1 q1 ⟨a, e1, h1⟩ => h1 σ G1 H1 K1 _ fun y G2 H2 r M2 K2 g2 q2 ⟨j, kvs, kk, hj, e2, hz, h2⟩ => by
    subst e1; subst e2
    obtain ⟨us, h3, h4⟩ := K2.at hj
    obtain ⟨b, ws, e3, h5, h6⟩ := dat_tup.mp q2
    have e4 := dql_kD (PL.dats.mp h6)
    subst e3; subst e4
    refine ⟨a, _, q1, DPut.t h3 (K2.kn _ _ h5) (Nat.lt_of_le_of_lt (by rw [← h4.length]; exact hz) (by decide)), k _ G2 _ is _ (K2.write (m' := .dt (putP kvs kk p)) hj ⟨_, upd_same, h4.put (p.mono (g1.trans g2) hp)⟩ (fun hw => absurd hw (K2.notW h3 fun z => z))) (g1.trans g2) rfl h2⟩)
theorem ee_newk (h : ∀ a, Post (raw (.ref a)) (M ++ [(a, .dk [])])) : EE X B (.Dict [] [] pos) is M Post := fun σ G H K Q k =>
  EW.of pe_dnewK fun p hp => k _ G _ _ _ (K.push (o := .dK []) (m := .dk []) hp ⟨[], upd_same, True.intro⟩) (Same.refl _) rfl (h p)
theorem ee_newt (h : ∀ a, Post (raw (.ref a)) (M ++ [(a, .dt [])])) : EE X B (.Dict [] [] pos) is M Post := fun σ G H K Q k =>
  EW.of pe_dnewT fun p hp => k _ G _ _ _ (K.push (o := .dT []) (m := .dt []) hp ⟨[], upd_same, True.intro⟩) (Same.refl _) rfl (h p)
theorem ee_frz (h : EE X B e is M fun p M' => ∃ (a : Addr) (j : Nat), p = raw (.ref a) ∧ ((∃ ps, M'[j]? = some (a, MO.lst ps) ∧ a ∉ B.W ∧ Post (lstP ps) (M'.eraseIdx j)) ∨ (∃ kvs, M'[j]? = some (a, MO.dk kvs) ∧ Post (dkP kvs) (M'.eraseIdx j)) ∨ ∃ kvs, M'[j]? = some (a, MO.dt kvs) ∧ Post (dtP kvs) (M'.eraseIdx j))) : EE X B e is M Post := fun σ G H K Q k =>
  h σ G H K Q fun v G1 H1 p M1 K1 g1 q1 ⟨a, j, e1, h1⟩ => by
    subst e1
    have ev : v = .ref a := q1
    subst ev
    rcases h1 with ⟨ps, hj, hw, h2⟩ | ⟨kvs, hj, h2⟩ | ⟨kvs, hj, h2⟩
    · obtain ⟨vs, h3, h4⟩ := K1.at hj
      obtain ⟨K2, g2⟩ := K1.freeze hj h3 hw
      exact k _ _ H1 (lstP ps) _ K2 (g1.trans g2) ⟨a, vs, rfl, upd_same, h4.mono g2⟩ h2
    · obtain ⟨vs, h3, h4⟩ := K1.at hj
      obtain ⟨K2, g2⟩ := K1.freeze hj h3 (K1.notW h3 fun z => z)
      exact k _ _ H1 (dkP kvs) _ K2 (g1.trans g2) ⟨a, vs, rfl, upd_same, h4.mono g2⟩ h2
    · obtain ⟨vs, h3, h4⟩ := K1.at hj
      obtain ⟨K2, g2⟩ := K1.freeze hj h3 (K1.notW h3 fun z => z)
      exact k _ _ H1 (dtP kvs) _ K2 (g1.trans g2) ⟨a, vs, rfl, upd_same, h4.mono g2⟩ h2
theorem ee_frzd (hW : B.W = []) (h : EE X B e is M fun p M' => ∃ (a : Addr) (j : Nat) (ds : List PyData), p = raw (.ref a) ∧ M'[j]? = some (a, MO.lst (ds.map dat)) ∧ Post (dat (.list ds)) (M'.eraseIdx j)) : EE X B e is M Post :=
  EE.cv (ee_frz (EE.imp h fun p M' ⟨a, j, ds, e1, hj, hp⟩ => ⟨a, j, e1, .inl ⟨_, hj, (by rw [hW]; exact fun z => by cases z), _, fun v G q => dat_lst.mpr q, hp⟩⟩))
/-- len of a dict -/
theorem ee_lenk {p : Pos} (hm : X.mg "len" = none) (h : AA X B [a] is M fun ps M1 => ∃ q kvs, ps = [q] ∧ DkP M1 q kvs ∧ Post (dat (.int (kvs.length : Nat))) M1) (hg : Gl X "len" := by rfl)
    (he : starEach [a] X.env = (false, eval a X.env) :: starEach [] X.env := by rfl) (hpl : (backTo pos (starEach [] X.env)).any (·.1) = false := by rfl) : EE X B (.Call (.Name "len" p) [a] [] pos) is M Post :=
  ee_B call_lenD hm PySem.boot_len (AA.imp h fun ps M1 ⟨q, kvs, e1, l, h1⟩ => fun σ G H K vs hv Q k => by
    subst e1
    match vs, hv with
    | [v], ⟨hq, _⟩ =>
      obtain ⟨a, us, e, h2, h3⟩ := l.at K hq
      subst e
      exact ⟨a, us, rfl, h2, k _ G H _ M1 K (Same.refl _) (h3.length ▸ Dq.int _) h1⟩) hg (by decide) (by decide) he hpl
theorem ee_lent {p : Pos} (hm : X.mg "len" = none) (h : AA X B [a] is M fun ps M1 => ∃ q kvs, ps = [q] ∧ DtP M1 q kvs ∧ Post (dat (.int (kvs.length : Nat))) M1) (hg : Gl X "len" := by rfl)
    (he : starEach [a] X.env = (false, eval a X.env) :: starEach [] X.env := by rfl) (hpl : (backTo pos (starEach [] X.env)).any (·.1) = false := by rfl) : EE X B (.Call (.Name "len" p) [a] [] pos) is M Post :=
  ee_B call_len_dT hm PySem.boot_len (AA.imp h fun ps M1 ⟨q, kvs, e1, l, h1⟩ => fun σ G H K vs hv Q k => by
    subst e1
    match vs, hv with
    | [v], ⟨hq, _⟩ =>
      obtain ⟨a, us, e, h2, h3⟩ := l.at K hq
      subst e
      exact ⟨a, us, rfl, h2, k _ G H _ M1 K (Same.refl _) (h3.length ▸ Dq.int _) h1⟩) hg (by decide) (by decide) he hpl
end
end Q9
namespace Q9
open PySem L2 PyProof.Rows
section
variable {κ : Type} [DecidableEq κ]
def mrg (kvs more : List (κ × V)) : List (κ × V) := more.foldl (fun acc kv => putK acc kv.1 kv.2) kvs
def mrgP (kvs more : List (κ × Pr)) : List (κ × Pr) := more.foldl (fun acc kv => putP acc kv.1 kv.2) kvs
theorem mrgP_cons (kvs more : List (κ × Pr)) (x : κ × Pr) : mrgP kvs (x :: more) = mrgP (putP kvs x.1 x.2) more := rfl
theorem KP.mrg {G : Hp} : ∀ {more : List (κ × Pr)} {ms : List (κ × V)} {kvs : List (κ × Pr)} {us : List (κ × V)}, KP G more ms → KP G kvs us → KP G (mrgP kvs more) (Q9.mrg us ms)
  | [], [], _, _, _, h => h
  | x :: more, y :: ms, kvs, us, r, h => by
    have h2 := h.put (k := x.1) r.1.2
    show KP G (mrgP (putP kvs x.1 x.2) more) (Q9.mrg (putK us y.1 y.2) ms)
    rw [← r.1.1]
    exact KP.mrg r.2 h2
  | [], _ :: _, _, _, r, _ => r.elim
  | _ :: _, [], _, _, r, _ => r.elim
theorem mrg_len : ∀ (more kvs : List (κ × V)), (mrg kvs more).length ≤ kvs.length + more.length
  | [], kvs => Nat.le_refl _
  | x :: more, kvs => by
    have h1 := mrg_len more (putK kvs x.1 x.2)
    have h2 := length_putK kvs x.1 x.2
    show (mrg (putK kvs x.1 x.2) more).length ≤ _
    rw [List.length_cons]
    omega
end
/-- a pair: where it stands, where its key stands, the key, the value -/
abbrev Ent := Addr × Addr × List Key × V
def EntOk (H : Hp) (e : Ent) : Prop := H e.1 = some (.tup [.ref e.2.1, e.2.2.2]) ∧ H e.2.1 = some (.tup (e.2.2.1.map kV))
abbrev EntR (h : Heap) : List Ent → List (List Key × Addr × Value) → Prop := Paired fun e x => (x.1 = e.2.2.1 ∧ x.2.1 = e.2.1) ∧ RelV e.2.2.2 x.2.2 ∧ IsTup h e.1 #[.ref x.2.1, x.2.2]
section
variable {X : Cx} {pins : List (Addr × Obj)} {σ : L2.St} {H : Hp} {s : Shared}
theorem ents_of (I : Inv X pins σ H s) : ∀ {es : List Ent}, (∀ e ∈ es, EntOk H e) → ∃ xs, EntR s.heap es xs
  | [], _ => ⟨[], .nil⟩
  | e :: es, h => by
    obtain ⟨xs, r⟩ := ents_of I fun e' he => h e' (List.mem_cons_of_mem _ he)
    obtain ⟨h1, h2⟩ := h e List.mem_cons_self
    obtain ⟨its, rv, ht, _⟩ := I.tuple (SqT.of h1)
    obtain ⟨u, y, ei, ru, ry⟩ := vals2 rv
    cases ru
    subst ei
    exact ⟨(e.2.2.1, e.2.1, y) :: xs, .cons ⟨⟨rfl, rfl⟩, ry, ht⟩ r⟩
theorem entR_get {h : Heap} : ∀ {es : List Ent} {xs : List (List Key × Addr × Value)}, EntR h es xs → ∀ {j : Nat} {x : List Key × Addr × Value}, xs[j]? = some x → ∃ e, es[j]? = some e ∧ IsTup h e.1 #[.ref x.2.1, x.2.2]
  | _, _, .nil, j, x, e => by simp at e
  | _, _, .cons (a := a) r t, j, x, e => by
    cases j with
    | zero =>
      have e' := Option.some.inj (show some _ = some x from e)
      subst e'
      exact ⟨a, rfl, r.2.2⟩
    | succ j => exact entR_get t (show _ = some x from e)
theorem entR_len {h : Heap} {es : List Ent} {xs : List (List Key × Addr × Value)} (r : EntR h es xs) : es.length = xs.length := Paired.length r
theorem entR_keys {es : List Ent} {xs : List (List Key × Addr × Value)} (I : Inv X pins σ H s) (r : EntR s.heap es xs) (h : ∀ e ∈ es, EntOk H e) : ∀ x ∈ xs, (tupleKind (mixKind X.prog X.w)).is s.heap x.1 x.2.1 := by
  induction r with
  | nil => intro x hx; cases hx
  | @cons e x es xs q t ih =>
    intro y hy
    rcases List.mem_cons.mp hy with z | z
    · subst z
      have := (h e List.mem_cons_self).2
      rw [q.1.1, q.1.2]
      exact key_of I.hok this
    · exact ih (fun e' he => h e' (List.mem_cons_of_mem _ he)) y z
theorem KT.mrg {h : Heap} {es : List Ent} {xs : List (List Key × Addr × Value)} (r : EntR h es xs) (ho : ∀ e ∈ es, EntOk H e) : ∀ {kvs : List (List Key × V)} {ys : List (List Key × Addr × Value)}, KT H kvs ys → KT H (Q9.mrg kvs (es.map fun e => e.2.2)) (storedAllH ys xs) := by
  induction r with
  | nil => intro kvs ys k; exact k
  | @cons e x es xs q t ih =>
    intro kvs ys k
    have k2 := k.put e.2.2.1 (ho e List.mem_cons_self).2 q.2.1
    show KT H (Q9.mrg (putK kvs e.2.2.1 e.2.2.2) (es.map fun e => e.2.2)) (storedAllH (storedH ys x.1 x.2.1 x.2.2) xs)
    rw [q.1.1, q.1.2]
    exact ih (fun e' he => ho e' (List.mem_cons_of_mem _ he)) k2
/-- what dict and update ask of the list -/
theorem ent_arg {a : Addr} {es : List Ent} {xs : List (List Key × Addr × Value)} {its : List Value} (r : EntR s.heap es xs) (rv : Vals ((es.map (·.1)).map V.ref) its) (pl : PlainSeq "list" s.heap a its.toArray) :
    ∃ Ts : Nat → Addr, (PlainSeq "list" s.heap a its.toArray ∧ PairItems s.heap its.toArray Ts (xs.map fun x => (Value.ref x.2.1, x.2.2))) ∧ ∀ j, j < xs.length → ∃ e, es[j]? = some e ∧ Ts j = e.1 := by
  have ei := refs_at rv
  subst ei
  refine ⟨fun j => (es.map (·.1)).getD j 0, ⟨pl, by simp [entR_len r], fun j k v hj => ?_⟩, fun j hj => ?_⟩
  · rw [List.getElem?_map] at hj
    cases hx : xs[j]? with
    | none => rw [hx] at hj; cases hj
    | some x =>
      rw [hx] at hj
      obtain ⟨e, he, ht⟩ := entR_get r hx
      have e2 : (Value.ref x.2.1, x.2.2) = (k, v) := Option.some.inj hj
      injection e2 with e3 e4
      subst e3; subst e4
      have e5 : (es.map (·.1)).getD j 0 = e.1 := by
        rw [List.getD_eq_getElem?_getD, List.getElem?_map, he]; rfl
      show _ = some (Value.ref ((es.map (·.1)).getD j 0)) ∧ PairAt s.heap ((es.map (·.1)).getD j 0) _ _
      rw [e5]
      refine ⟨by simp [he], .inl ?_⟩
      obtain ⟨o, h1, h2, n, h3⟩ := ht
      exact ⟨o, h1, h2, n, h3⟩
  · rw [← entR_len r] at hj
    refine ⟨_, List.getElem?_eq_getElem hj, ?_⟩
    show (es.map (·.1)).getD j 0 = _
    rw [List.getD_eq_getElem?_getD, List.getElem?_map, List.getElem?_eq_getElem hj]
    rfl
theorem ent_have {h : Heap} {es : List Ent} {xs : List (List Key × Addr × Value)} {P : Program} {w : World} (r : EntR h es xs) : PairsHaveH (tupleKind (mixKind P w)) (xs.map fun x => (Value.ref x.2.1, x.2.2)).length (PairRel (xs.map fun x => (Value.ref x.2.1, x.2.2))) xs := by
  refine ⟨by rw [List.length_map], fun i key v hj => ?_⟩
  have hj' : (xs.map fun x => (Value.ref x.2.1, x.2.2))[i]? = some (key, v) := hj
  rw [List.getElem?_map] at hj'
  cases hx : xs[i]? with
  | none => rw [hx] at hj'; cases hj'
  | some x =>
    rw [hx] at hj'
    have e2 : (Value.ref x.2.1, x.2.2) = (key, v) := Option.some.inj hj'
    injection e2 with e3 e4
    subst e3; subst e4
    exact ⟨x.1, x.2.1, rfl, rfl⟩
end
section
variable {X : Cx}
/-- dict(xs) -/
theorem call_dictT (hc : X.calm = true) (hu : X.A.units + 64 < cLine) : CallR X (.type "dict") (fun xs H Q => ∃ (a : Addr) (es : List Ent), xs = [.ref a] ∧ SqL X.K H a ((es.map (·.1)).map V.ref) ∧ (∀ e ∈ es, EntOk H e) ∧
    ∀ p, H p = none → Q (.ref p) (upd H p (.dT (mrg [] (es.map fun e => e.2.2))))) := by
  intro pins s σ H xs us Q I r ⟨a, es, ex, hq, ho, q⟩
  subst ex
  rw [Vals.ref1 r]
  obtain ⟨its, rv, pl, hz⟩ := I.list hq
  obtain ⟨ys, er⟩ := ents_of I ho
  obtain ⟨Ts, ok, ht⟩ := ent_arg er rv (let ⟨o, n, h1, h2, h3, h4⟩ := pl; ⟨o, n, h1, h2, h3, h4⟩)
  rw [List.length_map, List.length_map, entR_len er] at hz
  have ks := entR_keys I er ho
  refine call_dict_pairsH (knd := tupleKind (mixKind X.prog X.w)) (ps := ys) (PairArg.list a its.toArray Ts (ys.map fun x => (Value.ref x.2.1, x.2.2))) (I.ok.hd hc) (show X.A.units + 1 + 1 < cLine by omega) ok (ent_have er) (fun h' hk x hx => ?_) (by rw [List.length_map]; exact hz) fun h' tk dd hk => ?_
  · exact tupleKind_stays.stays (fun b o vs n e ed => hk b o (Nat.ne_of_lt (Heap.lt_size e)) (fun z => by cases z) e) (ks x hx)
  · have hm : (s.heap.objs.size == sysModules) = false := beq_eq_false_iff_ne.mpr (Nat.ne_of_gt I.big)
    have hn : H s.heap.objs.size = none := I.hok.fresh (Nat.le_refl _)
    have hlen : (mrg [] (es.map fun e => e.2.2)).length ≤ sizeLine := by
      have h := mrg_len (es.map fun e => e.2.2) []
      rw [List.length_map, List.length_nil, Nat.zero_add, entR_len er] at h
      exact Nat.le_trans h hz
    obtain ⟨o, es', ep, h1, h2, h3, h4, _, h5⟩ := dd
    refine ⟨.ref s.heap.objs.size, _, I.laid (t' := tk) (o := .dT (mrg [] (es.map fun e => e.2.2))) (fun b o e => hk b o (fun z => by cases z) e) (Nat.le_refl _) ⟨hlen, hm, _, (KT.mrg er ho .nil).keeps fun c ys ec => ?_, o, es', ep, h1, h2, h3, h4, h5⟩, rfl, q _ hn⟩
    rw [upd_ne (ne_of_none ec hn)]
    exact ec
/-- d.update(xs) -/
theorem mt_updT (hc : X.calm = true) (hu : X.A.units + 64 < cLine) : MtR X "dict.update" (fun x xs H Q => ∃ (d a : Addr) (kvs : List (List Key × V)) (es : List Ent), x = .ref d ∧ xs = [.ref a] ∧ H d = some (.dT kvs) ∧ SqL X.K H a ((es.map (·.1)).map V.ref) ∧ (∀ e ∈ es, EntOk H e) ∧ kvs.length + es.length ≤ 1000000 ∧
    Q .non (upd H d (.dT (mrg kvs (es.map fun e => e.2.2))))) := by
  intro pins s σ H x xs v us Q I rx r ⟨d, a, kvs, es, ex, ex2, hd, hq, ho, hl, q⟩
  subst ex; subst ex2
  obtain rfl : v = Value.ref d := rx
  rw [Vals.ref1 r]
  obtain ⟨its, rv, pl, hz⟩ := I.list hq
  obtain ⟨ys, er⟩ := ents_of I ho
  obtain ⟨Ts, ok, ht⟩ := ent_arg er rv (let ⟨o, n, h1, h2, h3, h4⟩ := pl; ⟨o, n, h1, h2, h3, h4⟩)
  have ks := entR_keys I er ho
  obtain ⟨z, hsys, zs, rel, dd⟩ := dt_of I.hok hd
  have hzl : zs.length = kvs.length := (Paired.length rel).symm
  have hlen : (mrg kvs (es.map fun e => e.2.2)).length ≤ sizeLine := by
    have h := mrg_len (es.map fun e => e.2.2) kvs
    rw [List.length_map] at h
    exact Nat.le_trans h (Nat.le_trans hl (by decide))
  have isD : ∃ o es ep, s.heap.get? d = some o ∧ o.data = .dict es ep := let ⟨o, es, ep, h1, _, h3, _⟩ := dd; ⟨o, es, ep, h1, h3⟩
  obtain ⟨od, ed, epd, hod, hdd⟩ := isD
  have hne : ∀ b o vs n, s.heap.get? b = some o → o.data = .seq vs n → b ≠ d := fun b o vs n e e2 z => by
    rw [z, hod] at e
    cases e
    rw [hdd] at e2
    cases e2
  have dks : ∀ y ∈ zs, (tupleKind (mixKind X.prog X.w)).is s.heap y.1 y.2.1 := let ⟨_, _, _, _, _, _, _, hk, _⟩ := dd; hk
  refine call_update_pairsH (knd := tupleKind (mixKind X.prog X.w)) (acc := zs) (ps := ys) (PairArg.list a its.toArray Ts (ys.map fun x => (Value.ref x.2.1, x.2.2))) (I.ok.hd hc) (show X.A.units + 1 < cLine by omega) ok (fun hm => ?_) (ent_have er) (fun h' hk x hx => ?_) dd (by rw [List.length_map, hzl, ← entR_len er]; exact Nat.le_trans hl (by decide)) fun h' tk dd2 hk => ?_
  · rcases List.mem_cons.mp hm with e | e
    · obtain ⟨o, n, h1, _, _, h4⟩ := pl
      exact hne _ _ _ _ h1 h4 e.symm
    · obtain ⟨j, hj, e⟩ := List.mem_map.mp e
      rw [List.length_map] at hj
      obtain ⟨en, he, et⟩ := ht j (List.mem_range.mp hj)
      have := (ho en (List.mem_of_getElem? he)).1
      rw [← et, e, hd] at this
      cases this
  · refine tupleKind_stays.stays (fun b o vs n e ed => hk b o (hne _ _ _ _ e ed) (fun z => by cases z) e) ?_
    rcases List.mem_append.mp hx with hx | hx
    · exact dks x hx
    · exact ks x hx
  · obtain ⟨o, es', ep, h1, h2, h3, h4, _, h5⟩ := dd2
    refine ⟨.non, upd H d (.dT (mrg kvs (es.map fun e => e.2.2))), (I.write (x := d) (e := d) (o := .dT (mrg kvs (es.map fun e => e.2.2))) (t' := tk) (h' := h') (by rw [hd]; exact True.intro) (.inl rfl) (fun b u hb e => hk b u hb (fun z => by cases z) e) ⟨o, h1⟩ ⟨hlen, hsys, _, (KT.mrg er ho rel).keeps fun c ys ec => ?_, o, es', ep, h1, h2, h3, h4, h5⟩), rfl, q⟩
    rw [upd_ne (ne_of ec hd (fun z => nomatch z))]
    exact ec
end
end Q9
namespace Q9
open PySem L2 PyProof.Rows
section
variable {X : Cx} {pins : List (Addr × Obj)} {σ : L2.St} {H : Hp} {s : Shared}
theorem kt_get {h : Heap} : ∀ {kvs : List (List Key × V)} {xs : List (List Key × Addr × Value)}, KT H kvs xs → ∀ {i : Nat} {x : List Key × Addr × Value}, xs[i]? = some x → ∃ kv, kvs[i]? = some kv ∧ kv.1 = x.1 ∧ H x.2.1 = some (.tup (kv.1.map kV)) ∧ RelV kv.2 x.2.2
  | _, _, .nil, i, x, e => by simp at e
  | _, _, .cons (a := a) r t, i, x, e => by
    cases i with
    | zero =>
      have e' := Option.some.inj (show some _ = some x from e)
      subst e'
      exact ⟨a, rfl, r⟩
    | succ i => exact kt_get (h := h) t (show _ = some x from e)
/-- sorted(d), keys tuples -/
theorem cr_sortT {β : Type} (hc : X.calm = true) (hu : X.A.units + 64 < cLine) (enc : β → PyData) (kf : β → List Key) (he : ∀ b, enc b = .tuple ((kf b).map kD)) : CallR X (.builtin "sorted") (fun xs H Q => ∃ (a : Addr) (kvs : List (List Key × V)) (G : Hp) (bs : List β), xs = [.ref a] ∧ H a = some (.dT kvs) ∧ Same G H ∧ (∀ b vs, H b = some (.tup vs) → G b = some (.tup vs)) ∧ kvs.map (·.1) = bs.map kf ∧ Srt enc bs ∧
    ∀ p ws, H p = none → DqL G ((bs.mergeSort (PySem.W.dataLe false enc)).map enc) ws → Q (.ref p) (upd H p (.lst ws))) := by
  intro pins s σ H xs us Q I r ⟨a, kvs, G, bs, ex, ha, k, ht, ek, S, q⟩
  subst ex
  rw [Vals.ref1 r]
  obtain ⟨z, hsys, ys, rel, o, es, ep, h1, h2, h3, h4, _⟩ := dt_of I.hok ha
  have hlen : es.size = ys.length := by rw [← Array.length_toList, h4, List.length_map]
  have hlk : kvs.length = bs.length := by
    have := congrArg List.length ek
    simpa using this
  refine sort_src hc hu I k (PySem.KdlSrc.rawDict (es := es) (ep := ep) hsys) ⟨o, h1, h2, h3⟩ (by rw [hlen, ← Paired.length rel, hlk]) (fun i v ⟨hi, ev⟩ => ?_) S q
  have hi2 : i < ys.length := hlen ▸ hi
  obtain ⟨kv, e1, e2, e3, _⟩ := kt_get (h := s.heap) rel (List.getElem?_eq_getElem hi2)
  have e4 : (kvs.map (·.1))[i]? = some kv.1 := by rw [List.getElem?_map, e1]; rfl
  rw [ek, List.getElem?_map] at e4
  obtain ⟨b, hb, e5⟩ := Option.map_eq_some_iff.mp e4
  refine ⟨b, hb, .ref (ys[i]).2.1, ?_, ?_⟩
  · have e6 : es.toList[i]? = some (entryOfKey (tupleKind (mixKind X.prog X.w)) ys[i]) := by rw [h4, List.getElem?_map, List.getElem?_eq_getElem hi2]; rfl
    rw [Array.getElem?_toList, Array.getElem?_eq_getElem hi] at e6
    rw [ev, Option.some.inj e6]
    rfl
  · rw [he, e5]
    exact Dq.tup (ht _ _ e3) (dql_kV kv.1)
/-- sorted(d), keys texts -/
theorem cr_sortK (hc : X.calm = true) (hu : X.A.units + 64 < cLine) : CallR X (.builtin "sorted") (fun xs H Q => ∃ (a : Addr) (kvs : List (Key × V)) (G : Hp) (bs : List Str), xs = [.ref a] ∧ H a = some (.dK kvs) ∧ Same G H ∧ kvs.map (·.1) = bs.map Sum.inr ∧ Srt PyData.str bs ∧
    ∀ p ws, H p = none → DqL G ((bs.mergeSort (PySem.W.dataLe false PyData.str)).map PyData.str) ws → Q (.ref p) (upd H p (.lst ws))) := by
  intro pins s σ H xs us Q I r ⟨a, kvs, G, bs, ex, ha, k, ek, S, q⟩
  subst ex
  rw [Vals.ref1 r]
  obtain ⟨z, hsys, vs, rel, dd⟩ := dk_of I.hok ha
  obtain ⟨ep, dat⟩ := dd.dictAt
  have hlk : kvs.length = bs.length := by
    have := congrArg List.length ek
    simpa using this
  have hkk : vs.map (·.1) = kvs.map (·.1) := by
    clear dat dd ek hlk ha z
    unfold KV at rel
    induction rel with
    | nil => rfl
    | cons r t ih => rw [List.map_cons, List.map_cons, ih, r.1]
  refine sort_src hc hu I k (PySem.W.kdl_dict (knd := mixKind X.prog X.w) (kvs := vs) (ep := ep) hsys) dat (by rw [← rel.length, hlk]) (fun i v ⟨kk, x, e1, e2⟩ => ?_) S q
  have e4 : (vs.map (·.1))[i]? = some kk := by rw [List.getElem?_map, e1]; rfl
  rw [hkk, ek, List.getElem?_map] at e4
  obtain ⟨b, hb, e5⟩ := Option.map_eq_some_iff.mp e4
  subst e5
  exact ⟨b, hb, .str b, relV_key (show keyIs (.inr b) v = true from e2), Dq.str b⟩
def valsO (p d : Addr) : HO := .ext fun h => h.IsValuesView p d
theorem meetsValues {prog : Program} {w : World} {d : Addr} {es : Array DictEntry} {ep : Nat} (hd : (d == sysModules) = false) :
    MeetsIn prog w (Builtin.«dict.values» ⟨[.ref d], []⟩) (fun _ R s => s.heap.DictRaw d es ep ∧ R (.ok (.ret (.ref s.heap.objs.size))) { s with heap := s.heap.push { cls := .type "dict_values", data := .fields #[.ref d] } }) :=
  .of_wp fun A R s ⟨hm, h⟩ => by
    unfold Builtin.«dict.values»
    refine wpAny_bind ?_
    unfold Builtin.Dict.noArgs
    refine wpAny_bind (wpAny_notOrdered_dict hm.typeIs ?_)
    show wpAny _ _ (pure d) _ _ s
    refine wpAny_pure ?_
    show wpAny _ _ (Builtin.Dict.showsAll d >>= _) _ _ s
    unfold Builtin.Dict.showsAll
    rw [if_neg (by rw [hd]; exact Bool.false_ne_true)]
    exact wpAny_bind (wpAny_pure (wpAny_bind (wpAny_newObj_type (wpAny_pure ⟨_, rfl, h⟩))))
theorem mt_valuesT : MtR X "dict.values" (fun x xs H Q => ∃ (a : Addr) (kvs : List (List Key × V)), x = .ref a ∧ xs = [] ∧ H a = some (.dT kvs) ∧ ∀ p, H p = none → Q (.ref p) (upd H p (valsO p a))) := by
  intro pins s σ H x xs v us Q I rx rxs ⟨a, kvs, ex, ex2, ha, q⟩
  subst ex; subst ex2
  cases rx
  cases rxs
  obtain ⟨z, hd, ys, rel, o, es, ep, ho, hx, hdat, _⟩ := dt_of I.hok ha
  refine call_meetsIn PySem.F.slot_dict_values ⟨o, ho, hx.1⟩ PySem.F.entry_dict_values (PySem.F.args_dict_values_1 _) (meetsValues (es := es) (ep := ep) hd) ⟨⟨o, ho, hx, hdat⟩, ?_⟩
  have e : (s.heap.push { cls := .type "dict_values", data := .fields #[.ref a] }).get? s.heap.objs.size = some { cls := .type "dict_values", data := .fields #[.ref a] } := Heap.get?_push_size _ rfl
  exact ⟨.ref s.heap.objs.size, upd H s.heap.objs.size (valsO s.heap.objs.size a), I.laid (t' := s.toks) (fun b u e => Heap.get?_push_of_some _ e) (Nat.le_refl _)
    ⟨⟨_, e, rfl, rfl⟩, ⟨_, e⟩, fun h1 h2 x k => let ⟨o, ho, r⟩ := x; ⟨o, k o ho, r⟩⟩, rfl, q _ (I.hok.fresh (Nat.le_refl _))⟩
/-- sorted of the view: keys tuples, values data -/
theorem cr_sortVT {β : Type} (hc : X.calm = true) (hu : X.A.units + 64 < cLine) (enc : β → PyData) : CallR X (.builtin "sorted") (fun xs H Q => ∃ (p a : Addr) (kvs : List (List Key × V)) (G : Hp) (bs : List β), xs = [.ref p] ∧ H p = some (valsO p a) ∧ H a = some (.dT kvs) ∧ Same G H ∧ DqL G (bs.map enc) (kvs.map (·.2)) ∧ Srt enc bs ∧
    ∀ p ws, H p = none → DqL G ((bs.mergeSort (PySem.W.dataLe false enc)).map enc) ws → Q (.ref p) (upd H p (.lst ws))) := by
  intro pins s σ H xs us Q I r ⟨p, a, kvs, G, bs, ex, hp, ha, k, dl, S, q⟩
  subst ex
  rw [Vals.ref1 r]
  obtain ⟨z, hsys, ys, rel, o, es, ep, h1, h2, h3, h4, _⟩ := dt_of I.hok ha
  obtain ⟨view, _⟩ := (show ObjOk X.prog X.w H s.heap p (valsO p a) from I.hok p _ hp)
  have hlen : es.size = ys.length := by rw [← Array.length_toList, h4, List.length_map]
  have hlb : bs.length = kvs.length := by
    have := dl.len
    rw [List.length_map, List.length_map] at this
    exact this
  have dget : ∀ (cs : List β) (vs : List V), DqL G (cs.map enc) vs → ∀ (i : Nat) (v : V), vs[i]? = some v → ∃ b, cs[i]? = some b ∧ Dq G (enc b) v := by
    intro cs
    induction cs with
    | nil => intro vs h i v e; cases (show DqL G [] vs from h); simp at e
    | cons c cs ih =>
      intro vs h i v e
      cases (show DqL G (enc c :: cs.map enc) vs from h) with
      | cons h0 t =>
        cases i with
        | zero =>
          have e' := Option.some.inj (show some _ = some v from e)
          subst e'
          exact ⟨c, rfl, h0⟩
        | succ i => exact ih _ t i v (show _ = some v from e)
  refine sort_src hc hu I k (PySem.KdlSrc.rawValues (es := es) (ep := ep)) ⟨view, o, h1, h2, h3⟩ (by rw [hlen, ← Paired.length rel, hlb]) (fun i v ⟨hi, ev⟩ => ?_) S q
  have hi2 : i < ys.length := hlen ▸ hi
  obtain ⟨kv, e1, e2, e3, e4⟩ := kt_get (h := s.heap) rel (List.getElem?_eq_getElem hi2)
  obtain ⟨b, hb, db⟩ := dget bs _ dl i kv.2 (by rw [List.getElem?_map, e1]; rfl)
  refine ⟨b, hb, kv.2, ?_, db⟩
  have e6 : es.toList[i]? = some (entryOfKey (tupleKind (mixKind X.prog X.w)) ys[i]) := by rw [h4, List.getElem?_map, List.getElem?_eq_getElem hi2]; rfl
  rw [Array.getElem?_toList, Array.getElem?_eq_getElem hi] at e6
  rw [ev, Option.some.inj e6]
  exact e4
theorem pe_lockO {e : Expr} {te : TE} (h : PE X e te) : PE X e (fun σ H Q => te σ H fun x H1 => ∃ d kvs, x = .ref d ∧ H1 d = some (.dT kvs) ∧ ∀ o, Q x (upd H1 d (.frz o (.dT kvs)))) := ⟨fun pins s σ H Q I hw =>
  thn (h.run pins s σ H _ I hw) fun u s1 ⟨x, H1, I1, rx, d, kvs, ex, hd, q⟩ => by
    obtain ⟨od, I2⟩ := I1.lock hd True.intro
    exact ⟨x, _, I2, rx, q od⟩⟩
theorem ps_lockO {st : Stmt} {t : TS} (h : PS X st t) : PS X st (fun D σ H => ∃ d kvs, H d = some (.dT kvs) ∧ ∀ o, t D σ (upd H d (.frz o (.dT kvs)))) := ⟨fun pins s σ H D I ⟨d, kvs, hd, q⟩ => by
  obtain ⟨od, I2⟩ := I.lock hd True.intro
  exact h.run pins s σ _ D I2 (q od)⟩
open PySem.W (Datum DatumOrd Holds HoldAll minOf) in
theorem cr_minL {α : Type} [DecidableEq α] [DatumOrd α] (hc : X.calm = true) (hu : X.A.units + 64 < cLine) (hd : Datum.depth α ≤ 50) (hi : ∀ a b : α, Datum.toD a = Datum.toD b → a = b) : CallR X (.builtin "min") (fun xs H Q => ∃ (a : Addr) (vs : List V) (G : Hp) (y : α) (ys : List α), xs = [.ref a] ∧ SqL X.K H a vs ∧ Same G H ∧ DqL G ((y :: ys).map Datum.toD) vs ∧
    ∀ v, Dq G (Datum.toD (minOf y ys)) v → Q v H) := by
  intro pins s σ H xs us Q I r ⟨a, vs, G, y, ys, ex, hq, k, dl, q⟩
  subst ex
  rw [Vals.ref1 r]
  obtain ⟨its, rv, pl, hz⟩ := I.list hq
  have all : ∀ (cs : List α) (vs : List V) (us : List Value), DqL G (cs.map Datum.toD) vs → Vals vs us → HoldAll s.heap us cs ∧ ∀ (i : Nat) (u : Value), us[i]? = some u → ∃ c x, cs[i]? = some c ∧ RelV x u ∧ Dq G (Datum.toD c) x := by
    intro cs
    induction cs with
    | nil =>
      intro vs us h rr
      cases (show DqL G [] vs from h)
      cases rr
      exact ⟨⟨[], .nil⟩, fun i u e => by simp at e⟩
    | cons c cs ih =>
      intro vs us h rr
      cases (show DqL G (Datum.toD c :: cs.map Datum.toD) vs from h) with
      | cons h0 t =>
        cases rr with
        | cons r1 rr =>
          obtain ⟨⟨as, ra⟩, g⟩ := ih _ _ t rr
          obtain ⟨bs, rb⟩ := vd_reads I k ⟨_, r1, h0⟩
          refine ⟨⟨_, .cons rb ra⟩, fun i u e => ?_⟩
          cases i with
          | zero =>
            have e' := Option.some.inj (show some _ = some u from e)
            subst e'
            exact ⟨c, _, rfl, r1, h0⟩
          | succ i => exact g i u (show _ = some u from e)
  obtain ⟨ha, hg⟩ := all (y :: ys) vs its dl rv
  refine PySem.W.min_list_datum (x := y) (xs := ys) (I.ok.hd hc) pl.isList (by simpa using ha) (by omega) fun i v h' tk hv hm hk => ?_
  obtain ⟨c, x, e1, e2, e3⟩ := hg i v (by simpa using hv)
  obtain ⟨as, ra⟩ := vd_reads I k ⟨_, e2, e3⟩
  obtain ⟨bs, rb⟩ := hm
  have ed := (PyProof.Rows.reads_det (fun b o e _ => hk b o e) ra rb).1
  exact ⟨x, H, I.kept (h' := h') (t' := tk) hk, e2, q x (ed ▸ e3)⟩
end
end Q9
namespace Q9
open PySem L2
section
variable {B : Bs} {is : Is} {M : MS} {σ : L2.St} {G H : Hp}
/-- every tuple that stands becomes known -/
theorem Ok.absorb (K : Ok B σ G H is M) : ∃ G', Ok B σ G' H is M ∧ Same G G' ∧ ∀ b vs, H b = some (.tup vs) → G' b = some (.tup vs) := by
  let G' : Hp := fun b => match H b with
    | some (.tup vs) => some (.tup vs)
    | _ => G b
  have g : Same G G' := fun b o e => by
    have h := K.kn b o e
    show (match H b with | some (.tup vs) => some (.tup vs) | _ => G b) = some o
    rw [h]
    cases o <;> first | rfl | exact e
  refine ⟨G', K.ext g (fun b o e => ?_) (Same.refl _) (fun b o e nt => ?_), g, fun b vs e => ?_⟩
  · have e' : (match H b with | some (.tup vs) => some (.tup vs) | _ => G b) = some o := e
    cases q : H b with
    | none => rw [q] at e'; exact q ▸ K.kn _ _ e'
    | some u =>
      rw [q] at e'
      cases u with
      | tup vs => exact e'
      | _ => exact q ▸ K.kn _ _ e'
  · show (match H b with | some (.tup vs) => some (.tup vs) | _ => G b) = G b
    rw [e]
    cases o with
    | tup vs => exact absurd rfl (nt vs)
    | _ => rfl
  · have q : G' b = (match H b with | some (.tup vs) => some (.tup vs) | _ => G b) := rfl
    rw [q, e]
def pairD (x y : PyData) : PyData := .tuple [x, y]
/-- pairs (key, value) with a tuple for a key -/
theorem ents_pl : ∀ {kds : List (List Key × PyData)} {vs : List V}, PL G ((kds.map fun kd => pairD (.tuple (kd.1.map kD)) kd.2).map dat) vs →
    ∃ es : List Ent, vs = (es.map (·.1)).map V.ref ∧ (∀ e ∈ es, EntOk G e) ∧ KP G (kds.map fun kd => (kd.1, dat kd.2)) (es.map fun e => e.2.2)
  | [], [], _ => ⟨[], rfl, (fun _ z => by cases z), True.intro⟩
  | kd :: kds, v :: vs, h => by
    obtain ⟨es, e1, e2, e3⟩ := ents_pl h.2
    obtain ⟨p, ws, e4, h1, h2⟩ := dat_tup.mp h.1
    match ws, h2 with
    | [x, y], ⟨hx, hy, _⟩ =>
      obtain ⟨b, us, e5, h3, h4⟩ := dat_tup.mp hx
      have e6 := dql_kD (PL.dats.mp h4)
      subst e4; subst e5; subst e6; subst e1
      refine ⟨(p, b, kd.1, y) :: es, rfl, fun e he => ?_, ⟨⟨rfl, hy⟩, e3⟩⟩
      rcases List.mem_cons.mp he with z | z
      · subst z
        exact ⟨h1, h3⟩
      · exact e2 e z
  | [], _ :: _, h => h.elim
  | _ :: _, [], h => h.elim
theorem ents_plK : ∀ {kds : List (Key × PyData)} {vs : List V}, PL G ((kds.map fun kd => pairD (kD kd.1) kd.2).map dat) vs →
    ∃ (ps : List Addr) (kvs : List (Key × V)), vs = ps.map V.ref ∧ Paired (fun p kv => G p = some (.tup [kV kv.1, kv.2])) ps kvs ∧ KP G (kds.map fun kd => (kd.1, dat kd.2)) kvs
  | [], [], _ => ⟨[], [], rfl, .nil, True.intro⟩
  | kd :: kds, v :: vs, h => by
    obtain ⟨ps, kvs, e1, e2, e3⟩ := ents_plK h.2
    obtain ⟨p, ws, e4, h1, h2⟩ := dat_tup.mp h.1
    match ws, h2 with
    | [x, y], ⟨hx, hy, _⟩ =>
      have e5 := dq_kD hx
      subst e4; subst e5; subst e1
      exact ⟨p :: ps, (kd.1, y) :: kvs, rfl, .cons h1 e2, ⟨⟨rfl, hy⟩, e3⟩⟩
  | [], _ :: _, h => h.elim
  | _ :: _, [], h => h.elim
theorem mrg_eq : ∀ (more kvs : List (Key × V)), mergeK kvs more = mrg kvs more
  | [], _ => rfl
  | x :: more, kvs => mrg_eq more (putK kvs x.1 x.2)
end
section
variable {X : Cx} {B : Bs} {is : Is} {M : MS} {Post : Pr → MS → Prop} {TPost : Bool → MS → Prop} {IPost : List Pr → MS → Prop} {D : En} {a b c e tg iter o i : Expr} {es : List Expr} {pos : Pos}
theorem ee_sortT {p : Pos} {β : Type} (enc : β → PyData) (kf : β → List Key) (hke : ∀ b, enc b = .tuple ((kf b).map kD)) (hc : X.calm = true) (hu : X.A.units + 64 < cLine) (hm : X.mg "sorted" = none) (h : AA X B [a] is M fun ps M1 => ∃ (q : Pr) (kvs : List (List Key × Pr)) (bs : List β), ps = [q] ∧ DtP M1 q kvs ∧ kvs.map (·.1) = bs.map kf ∧ Srt enc bs ∧ Post (dat (.list ((bs.mergeSort (PySem.W.dataLe false enc)).map enc))) M1) (hg : Gl X "sorted" := by rfl)
    (he : starEach [a] X.env = (false, eval a X.env) :: starEach [] X.env := by rfl) (hpl : (backTo pos (starEach [] X.env)).any (·.1) = false := by rfl) : EE X B (.Call (.Name "sorted" p) [a] [] pos) is M Post :=
  ee_B (cr_sortT hc hu enc kf hke) hm (by decide +kernel) (AA.imp h fun ps M1 ⟨q, kvs, bs, e1, l, ek, S, h1⟩ => fun σ G H K vs hv Q k => by
    subst e1
    match vs, hv with
    | [v], ⟨hq, _⟩ =>
      obtain ⟨a, us, e, h2, h3⟩ := l.at K hq
      subst e
      obtain ⟨G1, K1, g1, ht⟩ := K.absorb
      refine ⟨a, us, G1, bs, rfl, h2, K1.kn, ht, by rw [← h3.keys, ek], S, fun p ws hp dw => ?_⟩
      obtain ⟨K2, g2⟩ := K1.new (o := .lst ws) hp
      exact k _ _ _ _ M1 K2 (g1.trans g2) (Dq.lst upd_same (DqL.mono g2 _ _ dw)) h1) hg (by decide) (by decide) he hpl
theorem ee_sortK {p : Pos} (hc : X.calm = true) (hu : X.A.units + 64 < cLine) (hm : X.mg "sorted" = none) (h : AA X B [a] is M fun ps M1 => ∃ (q : Pr) (kvs : List (Key × Pr)) (bs : List Str), ps = [q] ∧ DkP M1 q kvs ∧ kvs.map (·.1) = bs.map Sum.inr ∧ Srt PyData.str bs ∧ Post (dat (.list ((bs.mergeSort (PySem.W.dataLe false PyData.str)).map PyData.str))) M1) (hg : Gl X "sorted" := by rfl)
    (he : starEach [a] X.env = (false, eval a X.env) :: starEach [] X.env := by rfl) (hpl : (backTo pos (starEach [] X.env)).any (·.1) = false := by rfl) : EE X B (.Call (.Name "sorted" p) [a] [] pos) is M Post :=
  ee_B (cr_sortK hc hu) hm (by decide +kernel) (AA.imp h fun ps M1 ⟨q, kvs, bs, e1, l, ek, S, h1⟩ => fun σ G H K vs hv Q k => by
    subst e1
    match vs, hv with
    | [v], ⟨hq, _⟩ =>
      obtain ⟨a, us, e, h2, h3⟩ := l.at K hq
      subst e
      refine ⟨a, us, G, bs, rfl, h2, K.kn, by rw [← h3.keys, ek], S, fun p ws hp dw => ?_⟩
      obtain ⟨K2, g2⟩ := K.new (o := .lst ws) hp
      exact k _ _ _ _ M1 K2 g2 (Dq.lst upd_same (DqL.mono g2 _ _ dw)) h1) hg (by decide) (by decide) he hpl
theorem kp_vals {κ β : Type} {G : Hp} (enc : β → PyData) : ∀ {kvs : List (κ × Pr)} {us : List (κ × V)} {bs : List β}, KP G kvs us → kvs.map (·.2) = bs.map (fun b => dat (enc b)) → DqL G (bs.map enc) (us.map (·.2))
  | [], [], [], _, _ => .nil
  | x :: kvs, y :: us, b :: bs, h, e => by
    rw [List.map_cons, List.map_cons] at e
    injection e with e1 e2
    have h1 := h.1.2
    rw [e1] at h1
    exact .cons h1 (kp_vals enc h.2 e2)
  | [], _ :: _, _, h, _ => h.elim
  | _ :: _, [], _, h, _ => h.elim
  | [], [], _ :: _, _, e => by cases e
  | _ :: _, _ :: _, [], _, e => by cases e
/-- sorted(d.values()) -/
theorem ee_sortV {p apos cpos : Pos} {β : Type} (enc : β → PyData) (hc : X.calm = true) (hu : X.A.units + 64 < cLine) (hm : X.mg "sorted" = none) (h : EE X B o is M fun q M1 => ∃ (kvs : List (List Key × Pr)) (bs : List β), DtP M1 q kvs ∧ kvs.map (·.2) = bs.map (fun b => dat (enc b)) ∧ Srt enc bs ∧ Post (dat (.list ((bs.mergeSort (PySem.W.dataLe false enc)).map enc))) M1) (hg : Gl X "sorted" := by rfl)
    (hbase : attributeBase o "values" X.env (eval o X.env) = eval o X.env := by rfl) (hline : (apos.endLine == cpos.line) = true := by rfl)
    (he : starEach [Expr.Call (.Attribute o "values" apos) [] [] cpos] X.env = (false, eval (Expr.Call (.Attribute o "values" apos) [] [] cpos) X.env) :: starEach [] X.env := by rfl) (hpl : (backTo pos (starEach [] X.env)).any (·.1) = false := by rfl) :
    EE X B (.Call (.Name "sorted" p) [.Call (.Attribute o "values" apos) [] [] cpos] [] pos) is M Post := fun σ G H K Q k =>
  EW.of (pe_callB (cr_sortVT hc hu enc) hg hm (by decide +kernel) (pa_cons (pe_bm0 PySem.F.plainAttrs_dict PySem.F.slot_dict_values PySem.F.type_dict_values mt_valuesT pe_w hbase hline) pa_nil he) (by decide) (by decide) he hpl)
    (h σ G H K _ fun v G1 H1 q M1 K1 g1 q1 ⟨kvs, bs, l, ev, S, h1⟩ => by
      obtain ⟨a, us, e, h2, h3⟩ := l.at K1 q1
      subst e
      refine ⟨.inr (.inr (.inl ⟨rfl, .inr ⟨us, h2⟩⟩)), a, us, rfl, rfl, h2, fun r hr => ?_⟩
      have K2 := K1.gar (o := valsO r a) hr
      refine ⟨r, a, us, G1, bs, rfl, upd_same, by rw [upd_ne (ne_of_none h2 hr)]; exact h2, K2.kn, kp_vals enc h3 ev, S, fun t ws ht dw => ?_⟩
      obtain ⟨K3, g3⟩ := K2.new (o := .lst ws) ht
      exact k _ _ _ _ M1 K3 (g1.trans g3) (Dq.lst upd_same (DqL.mono g3 _ _ dw)) h1)
/-- dict(pairs), keys tuples -/
theorem ee_dictT {p : Pos} (hc : X.calm = true) (hu : X.A.units + 64 < cLine) (hm : X.mg "dict" = none) (h : AA X B [a] is M fun ps M1 => ∃ (q : Pr) (kds : List (List Key × PyData)), ps = [q] ∧ LsP M1 q ((kds.map fun kd => pairD (.tuple (kd.1.map kD)) kd.2).map dat) ∧ ∀ r, Post (raw (.ref r)) (M1 ++ [(r, .dt (mrgP [] (kds.map fun kd => (kd.1, dat kd.2))))])) (hg : Gl X "dict" := by rfl)
    (he : starEach [a] X.env = (false, eval a X.env) :: starEach [] X.env := by rfl) (hpl : (backTo pos (starEach [] X.env)).any (·.1) = false := by rfl) : EE X B (.Call (.Name "dict" p) [a] [] pos) is M Post :=
  ee_T (call_dictT hc hu) hm (by decide +kernel) (AA.imp h fun ps M1 ⟨q, kds, e1, l, h1⟩ => fun σ G H K vs hv Q k => by
    subst e1
    match vs, hv with
    | [v], ⟨hq, _⟩ =>
      obtain ⟨a, us, e, h2, h3⟩ := l.at K hq
      subst e
      obtain ⟨es, e4, h4, h5⟩ := ents_pl h3
      subst e4
      exact ⟨a, es, rfl, SqL.of h2, fun e he => ⟨K.kn _ _ (h4 e he).1, K.kn _ _ (h4 e he).2⟩, fun r hr => k _ G _ _ _ (K.push (m := .dt (mrgP [] (kds.map fun kd => (kd.1, dat kd.2)))) hr ⟨_, upd_same, KP.mrg h5 True.intro⟩) (Same.refl _) rfl (h1 r)⟩) hg (by decide) (by decide) he hpl
/-- dict(pairs), keys texts and ints -/
theorem ee_dictK {p : Pos} (hc : X.calm = true) (hm : X.mg "dict" = none) (h : AA X B [a] is M fun ps M1 => ∃ (q : Pr) (kds : List (Key × PyData)), ps = [q] ∧ LsP M1 q ((kds.map fun kd => pairD (kD kd.1) kd.2).map dat) ∧ ∀ r, Post (raw (.ref r)) (M1 ++ [(r, .dk (mrgP [] (kds.map fun kd => (kd.1, dat kd.2))))])) (hg : Gl X "dict" := by rfl)
    (he : starEach [a] X.env = (false, eval a X.env) :: starEach [] X.env := by rfl) (hpl : (backTo pos (starEach [] X.env)).any (·.1) = false := by rfl) : EE X B (.Call (.Name "dict" p) [a] [] pos) is M Post :=
  ee_T (call_dictP hc) hm (by decide +kernel) (AA.imp h fun ps M1 ⟨q, kds, e1, l, h1⟩ => fun σ G H K vs hv Q k => by
    subst e1
    match vs, hv with
    | [v], ⟨hq, _⟩ =>
      obtain ⟨a, us, e, h2, h3⟩ := l.at K hq
      subst e
      obtain ⟨ps, kvs, e4, h4, h5⟩ := ents_plK h3
      subst e4
      refine ⟨a, ps, kvs, rfl, SqL.of h2, Paired.mapP h4 fun _ _ z => SqT.of (K.kn _ _ z), fun r hr => ?_⟩
      rw [mrg_eq]
      exact k _ G _ _ _ (K.push (m := .dk (mrgP [] (kds.map fun kd => (kd.1, dat kd.2)))) hr ⟨_, upd_same, KP.mrg h5 True.intro⟩) (Same.refl _) rfl (h1 r)) hg (by decide) (by decide) he hpl
/-- d.update(pairs) -/
theorem ee_upd {apos : Pos} (hc : X.calm = true) (hu : X.A.units + 64 < cLine) (h : EE X B o is M fun p M1 => ∃ (a : Addr) (j : Nat) (kvs0 : List (List Key × Pr)), p = raw (.ref a) ∧ M1[j]? = some (a, MO.dt kvs0) ∧ EE X B e is M1 fun q M2 => ∃ (kvs : List (List Key × Pr)) (kds : List (List Key × PyData)), M2[j]? = some (a, MO.dt kvs) ∧ LsP M2 q ((kds.map fun kd => pairD (.tuple (kd.1.map kD)) kd.2).map dat) ∧ kvs.length + kds.length ≤ 1000000 ∧ Post (dat .none) (M2.set j (a, .dt (mrgP kvs (kds.map fun kd => (kd.1, dat kd.2))))))
    (hs : starEach [e] X.env = (false, eval e X.env) :: starEach [] X.env := by rfl) (hpl : (backTo pos (starEach [] X.env)).any (·.1) = false := by rfl) (hbase : attributeBase o "update" X.env (eval o X.env) = eval o X.env := by rfl) (hline : (apos.endLine == pos.line) = true := by rfl)
    (hpe : ∀ {to : TE} {t : TA} {r : V → List V → Hp → VK → Prop}, MtR X "dict.update" r → PE X o to → PA X [e] t → PE X (.Call (.Attribute o "update" apos) [e] [] pos) (tBM X.K "dict" r to t) := by exact fun h0 h1 h2 => pe_bm PySem.F.plainAttrs_dict PySem.F.slot_dict_update PySem.F.type_dict_update h0 h1 h2) : EE X B (.Call (.Attribute o "update" apos) [e] [] pos) is M Post := fun σ G H K Q k =>
  EW.of (hpe (mt_updT hc hu) pe_w (pa_cons pe_w pa_nil hs)) (h σ G H K _ fun v G1 H1 p M1 K1 g1 q1 ⟨a, j, kvs0, e1, hj, h1⟩ => by
    subst e1
    have e : v = .ref a := q1
    subst e
    obtain ⟨us0, hv0, _⟩ := K1.at hj
    refine ⟨.inr (.inr (.inl ⟨rfl, .inr ⟨_, hv0⟩⟩)), h1 σ G1 H1 K1 _ fun w G2 H2 q M2 K2 g2 q2 ⟨kvs, kds, hj2, l, hz, h2⟩ => ?_⟩
    obtain ⟨us, hd, hq⟩ := K2.at hj2
    obtain ⟨b, vs, e, h3, h4⟩ := l.at K2 q2
    subst e
    obtain ⟨es, e4, h5, h6⟩ := ents_pl h4
    subst e4
    have hle : es.length = kds.length := by
      have := h6.length
      rw [List.length_map, List.length_map] at this
      exact this.symm
    refine ⟨a, b, us, es, rfl, rfl, hd, SqL.of h3, fun e he => ⟨K2.kn _ _ (h5 e he).1, K2.kn _ _ (h5 e he).2⟩, by rw [← hq.length, hle]; exact hz, ?_⟩
    exact k _ G2 _ _ _ (K2.write (m' := .dt (mrgP kvs (kds.map fun kd => (kd.1, dat kd.2)))) hj2 ⟨_, upd_same, KP.mrg h6 hq⟩ (fun hw => absurd hw (K2.notW hd fun z => z))) (g1.trans g2) Dq.non h2)
open PySem.W (Datum DatumOrd minOf) in
/-- min of a list of data -/
theorem ee_min {p : Pos} {α : Type} [DecidableEq α] [DatumOrd α] (hc : X.calm = true) (hu : X.A.units + 64 < cLine) (hd : Datum.depth α ≤ 50) (hi : ∀ a b : α, Datum.toD a = Datum.toD b → a = b) (hm : X.mg "min" = none) (h : AA X B [a] is M fun ps M1 => ∃ (q : Pr) (y : α) (ys : List α), ps = [q] ∧ LsP M1 q (((y :: ys).map Datum.toD).map dat) ∧ Post (dat (Datum.toD (minOf y ys))) M1) (hg : Gl X "min" := by rfl)
    (he : starEach [a] X.env = (false, eval a X.env) :: starEach [] X.env := by rfl) (hpl : (backTo pos (starEach [] X.env)).any (·.1) = false := by rfl) : EE X B (.Call (.Name "min" p) [a] [] pos) is M Post :=
  ee_B (cr_minL hc hu hd hi) hm (by decide +kernel) (AA.imp h fun ps M1 ⟨q, y, ys, e1, l, h1⟩ => fun σ G H K vs hv Q k => by
    subst e1
    match vs, hv with
    | [v], ⟨hq, _⟩ =>
      obtain ⟨a, us, e, h2, h3⟩ := l.at K hq
      subst e
      exact ⟨a, us, G, y, ys, rfl, SqL.of h2, K.kn, PL.dats.mp h3, fun v dv => k v G H _ M1 K (Same.refl _) dv h1⟩) hg (by decide) (by decide) he hpl
end
end Q9
namespace Q9
open PySem L2 PyProof.Rows PySem.Spec
section
variable (kx vx t0 i0 t1 i1 : Expr) (f0 f1 : List Expr) (sc : Scope) (pos : Pos)
abbrev dc2 : Expr := .DictComp kx vx [⟨t0, i0, f0, 0⟩, ⟨t1, i1, f1, 0⟩] sc pos
/-- the tests of a clause, one behind the other -/
def tstAll (fs : List Expr) (env : Env) : Sem Bool := forIn fs true fun c r => if r = true then do let ok ← isTrue c env (eval c env); pure (ForInStep.yield ok) else pure (ForInStep.yield r)
theorem dc2_turn0 (it acc : Value) (env : Env) : compTurn (dc2 kx vx t0 i0 t1 i1 f0 f1 sc pos) 0 it acc env = (do
    standAt i0.pos
    let r ← pyNext it
    match r with
    | none => pure (.done .next)
    | some u => do
      letOwnedTupleGo t0 it u
      assign t0 env u
      let b ← tstAll f0 env
      if b then do
        let y ← eval i1 env
        standAt i1.pos
        let y ← foldedSetIterable i1 env y
        let z ← holding [y] (pyIter y)
        let _ ← runOwn (.compStart (dc2 kx vx t0 i0 t1 i1 f0 f1 sc pos) 1 z acc env) env
        again (.compLoop (dc2 kx vx t0 i0 t1 i1 f0 f1 sc pos) 0 it acc env)
      else again (.compLoop (dc2 kx vx t0 i0 t1 i1 f0 f1 sc pos) 0 it acc env)) := by rfl
theorem dc2_turn1 (it : Value) (D : Addr) (env : Env) : compTurn (dc2 kx vx t0 i0 t1 i1 f0 f1 sc pos) 1 it (.ref D) env = (do
    standAt i1.pos
    let r ← pyNext it
    match r with
    | none => pure (.done .next)
    | some u => do
      letOwnedTupleGo t1 it u
      assign t1 env u
      let b ← tstAll f1 env
      if b then do
        (do
          let p ← eval kx env
          let q ← holding [p] (eval vx env)
          standAt { kx.pos with endLine := vx.pos.endLine, endCol := vx.pos.endCol }
          holding [p, q] (dictSet D p q))
        again (.compLoop (dc2 kx vx t0 i0 t1 i1 f0 f1 sc pos) 1 it (.ref D) env)
      else again (.compLoop (dc2 kx vx t0 i0 t1 i1 f0 f1 sc pos) 1 it (.ref D) env)) := by rfl
end
section
variable {prog : Program} {w : World} {A : Around} {R : Result → Shared → Prop} {s : Shared} {kx vx t0 i0 t1 i1 : Expr} {f0 f1 : List Expr} {sc : Scope} {pos : Pos} {it : Value} {D : Addr} {env : Env}
/-- how a raised thing leaves the loop -/
abbrev nbE (prog : Program) (w : World) (A : Around) (env : Env) (R : Result → Shared → Prop) : Value → Shared → Prop := notedBy (model prog w) A env fun x z => R (.error x) z
theorem dc2_loop0 {acc : Value} (hs : ∀ x, foldedSetIterable i1 env x = pure x) (J : Nat → Shared → Prop) (tn : ∀ n s, J n s → wpAny (model prog w) A (pyNext it) (fun r s1 => match r with
      | none => R (.ok .next) s1
      | some u => wpAny (model prog w) A (letOwnedTupleGo t0 it u) (fun _ s2 => wpAny (model prog w) A (assign t0 env u) (fun _ s3 => wpAny (model prog w) A (tstAll f0 env) (fun b s4 =>
          if b = true then wpAny (model prog w) A (eval i1 env) (fun y s5 => wpAny (model prog w) A (pyIter y) (fun z s6 =>
              codeAny (model prog w) A (.compStart (dc2 kx vx t0 i0 t1 i1 f0 f1 sc pos) 1 z acc env) (fun q s7 => match q with
                | .error _ => False
                | .ok _ => ∃ m, m < n ∧ J m s7) s6) (nbE prog w A env R) s5) (nbE prog w A env R) s4
          else ∃ m, m < n ∧ J m s4) (nbE prog w A env R) s3) (nbE prog w A env R) s2) (nbE prog w A env R) s1) (nbE prog w A env R) s) (n : Nat) (h : J n s) :
    codeAny (model prog w) A (.compLoop (dc2 kx vx t0 i0 t1 i1 f0 f1 sc pos) 0 it acc env) R s := by
  refine codeAny_loop rfl J (fun n s hJ => ?_) n h
  show wpAny _ A ((compTurn (dc2 kx vx t0 i0 t1 i1 f0 f1 sc pos) 0 it acc env).onRaise fun x => do noteFrame x env; theTreesLotGoes x) _ _ s
  refine wpAny_noted ?_
  rw [dc2_turn0]
  refine wpAny_bind (wpAny_standAt (wpAny_bind (wpAny_mono (tn n s hJ) (fun r s1 k1 => ?_) fun _ _ z => z)))
  match r with
  | none => exact wpAny_pure k1
  | some u =>
    refine wpAny_bind (wpAny_mono k1 (fun _ s2 k2 => wpAny_bind (wpAny_mono k2 (fun _ s3 k3 => wpAny_bind (wpAny_mono k3 (fun b s4 k4 => ?_) fun _ _ z => z)) fun _ _ z => z)) fun _ _ z => z)
    match b with
    | false => exact wpAny_pure ⟨rfl, k4⟩
    | true =>
      refine wpAny_bind (wpAny_mono k4 (fun y s5 k5 => ?_) fun _ _ z => z)
      refine wpAny_bind (wpAny_standAt (wpAny_bind (wpAny_of_eq (hs y) (wpAny_bind (wpAny_holding (wpAny_mono k5 (fun z s6 k6 => ?_) fun _ _ z => z))))))
      refine wpAny_bind (wpAny_runOwn ?_)
      rw [Around.mark_none]
      refine codeAny_mono k6 fun q s7 k7 => ?_
      match q with
      | .ok f => exact wpAny_bind (wpAny_pure (wpAny_pure ⟨rfl, k7⟩))
      | .error x => exact k7.elim
theorem dc2_loop1 (J : Nat → Shared → Prop) (tn : ∀ n s, J n s → wpAny (model prog w) A (pyNext it) (fun r s1 => match r with
      | none => R (.ok .next) s1
      | some u => wpAny (model prog w) A (letOwnedTupleGo t1 it u) (fun _ s2 => wpAny (model prog w) A (assign t1 env u) (fun _ s3 => wpAny (model prog w) A (tstAll f1 env) (fun b s4 =>
          if b = true then wpAny (model prog w) A (eval kx env) (fun p s5 => wpAny (model prog w) A (eval vx env) (fun q s6 => wpAny (model prog w) A (dictSet D p q) (fun _ s7 => ∃ m, m < n ∧ J m s7) (nbE prog w A env R) s6) (nbE prog w A env R) s5) (nbE prog w A env R) s4
          else ∃ m, m < n ∧ J m s4) (nbE prog w A env R) s3) (nbE prog w A env R) s2) (nbE prog w A env R) s1) (nbE prog w A env R) s) (n : Nat) (h : J n s) :
    codeAny (model prog w) A (.compLoop (dc2 kx vx t0 i0 t1 i1 f0 f1 sc pos) 1 it (.ref D) env) R s := by
  refine codeAny_loop rfl J (fun n s hJ => ?_) n h
  show wpAny _ A ((compTurn (dc2 kx vx t0 i0 t1 i1 f0 f1 sc pos) 1 it (.ref D) env).onRaise fun x => do noteFrame x env; theTreesLotGoes x) _ _ s
  refine wpAny_noted ?_
  rw [dc2_turn1]
  refine wpAny_bind (wpAny_standAt (wpAny_bind (wpAny_mono (tn n s hJ) (fun r s1 k1 => ?_) fun _ _ z => z)))
  match r with
  | none => exact wpAny_pure k1
  | some u =>
    refine wpAny_bind (wpAny_mono k1 (fun _ s2 k2 => wpAny_bind (wpAny_mono k2 (fun _ s3 k3 => wpAny_bind (wpAny_mono k3 (fun b s4 k4 => ?_) fun _ _ z => z)) fun _ _ z => z)) fun _ _ z => z)
    match b with
    | false => exact wpAny_pure ⟨rfl, k4⟩
    | true =>
      exact wpAny_bind (wpAny_bind (wpAny_mono k4 (fun p s5 k5 => wpAny_bind (wpAny_holding (wpAny_mono k5 (fun q s6 k6 => wpAny_bind (wpAny_standAt (wpAny_holding (wpAny_mono k6 (fun _ s7 k7 => wpAny_pure ⟨rfl, k7⟩) fun _ _ z => z)))) fun _ _ z => z))) fun _ _ z => z))
theorem dc2_start1 {acc : Value} (h0 : codeAny (model prog w) A (.compLoop (dc2 kx vx t0 i0 t1 i1 f0 f1 sc pos) 1 it acc env) R s)
    (h : wpAny (model prog w) A (pyIter it) (fun z s' => codeAny (model prog w) A (.compLoop (dc2 kx vx t0 i0 t1 i1 f0 f1 sc pos) 1 z acc env) R s') (nbE prog w A env R) s) :
    codeAny (model prog w) A (.compStart (dc2 kx vx t0 i0 t1 i1 f0 f1 sc pos) 1 it acc env) R s := by
  refine codeAny_of_tree ?_
  show wpAny _ _ ((compStart (dc2 kx vx t0 i0 t1 i1 f0 f1 sc pos) 1 it acc env).onRaise fun x => do noteFrame x env; standAt theWindowsPlace) _ _ s
  refine wpAny_notedAt ?_
  unfold compStart
  show wpAny _ _ (ask >>= _) _ _ s
  refine wpAny_bind (wpAny_askSetting (wpAny_ite ?_))
  split
  · first
    | exact wpAny_bind (wpAny_pure (wpAny_pure ⟨rfl, h0⟩))
    | exact wpAny_pure ⟨rfl, h0⟩
  · refine wpAny_bind (wpAny_rule ?_)
    exact wpAny_bind (wpAny_standAt (wpAny_bind (wpAny_mono h (fun z s' k => wpAny_pure ⟨rfl, k⟩) fun _ _ z => z)))
end
/-- d[k] = v by a comprehension, k a tuple -/
theorem d_setT {X : Cx} {pins : List (Addr × Obj)} {σ : L2.St} {H : Hp} {s : Shared} {E : Value → Shared → Prop} {D b : Addr} {kvs : List (List Key × V)} {k : List Key} {v : V} {r : Value} {Q : Unit → Shared → Prop} (hu : X.A.units + 64 < cLine) (I : Inv X pins σ H s) (hD : H D = some (.dT kvs)) (hb : H b = some (.tup (k.map kV)))
    (hz : kvs.length < sizeLine) (rv : RelV v r) (h : ∀ s', Inv X pins σ (upd H D (.dT (putK kvs k v))) s' → Q () s') : wpAny (model X.prog X.w) X.A (dictSet D (.ref b) r) Q E s := by
  obtain ⟨z, hd, ys, rel, dd⟩ := dt_of I.hok hD
  have hl : (putK kvs k v).length ≤ sizeLine := by have := length_putK kvs k v; omega
  refine wpAny_dictSet_heap (knd := tupleKind (mixKind X.prog X.w)) (hsz := by rw [← Paired.length rel]; exact z) (show X.A.units < cLine by omega) (key_of I.hok hb) dd fun h' dd' hs => h _ ?_
  obtain ⟨q, es, ep, hq, h2, h3, h4, _, h5⟩ := dd'
  refine d_write I (by rw [hD]; exact True.intro) hs ⟨q, hq⟩ ⟨hl, hd, _, (rel.put k hb rv).keeps fun c ws ec => ?_, q, es, ep, hq, h2, h3, h4, h5⟩
  rw [upd_ne (ne_of ec hD (fun z => nomatch z))]
  exact ec
/-- the block's context, as a comprehension makes it -/
abbrev blkAt (X : Cx) (sc : Scope) (s : Shared) (H : Hp) (fp : List Addr) : Cx := X.blk s H sc (compEnvC sc (cellsFrom (s.heap.objs.size + 1) sc.names (cloFrom X.env.cells sc.names [])) s.heap.objs.size X.env) fp
/-- {k: v for tg in iter for tg1 in iter1}, keys tuples -/
def tD2 (wi : TI) (g : TG) (wi1 : TI) (g1 : TG) (tk tv : TE) (vs vs1 : List Nat) : TE := fun σ H Q => wi σ H fun J H1 => ∀ D, H1 D = none → ∃ W : Nat → Nat → Hp → Prop, (∃ m, W 0 m (upd H1 D (.dT []))) ∧ ∀ i m H, W i m H →
  (J.stop i H ∧ Q (.ref D) H) ∨ (J.go i H ∧ ∃ Nx : Hp → Prop, (∀ H', Nx H' → ∃ m', m' < m ∧ W (i + 1) m' H') ∧ ∀ x H', J.yld i H x H' → g x (wipe σ vs) H' fun σ2 H2 => wipe σ2 vs = wipe σ vs ∧ wi1 σ2 H2 fun J1 H4 => ∃ W1 : Nat → Nat → Hp → Prop, (∃ m, W1 0 m H4) ∧ ∀ j k H, W1 j k H →
      (J1.stop j H ∧ Nx H) ∨ (J1.go j H ∧ ∃ Nx1 : Hp → Prop, (∀ H', Nx1 H' → ∃ k', k' < k ∧ W1 (j + 1) k' H') ∧ ∀ x H', J1.yld j H x H' → g1 x (wipe σ2 vs1) H' fun σ3 H5 => wipe σ3 vs1 = wipe σ2 vs1 ∧
        tk σ3 H5 fun y H6 => tv σ3 H6 fun z H7 => ∃ kvs k b, y = .ref b ∧ H7 b = some (.tup (k.map kV)) ∧ H7 D = some (.dT kvs) ∧ kvs.length < sizeLine ∧ Nx1 (upd H7 D (.dT (putK kvs k z)))))
section
variable {X : Cx} {kx vx tg iter tg1 iter1 : Expr} {sc : Scope} {own : List (Str × Nat)} {vs1 : List Nat} {pos : Pos} {wi wi1 : TI} {g g1 : TG} {tk tv : TE}
theorem pe_d2 (hc : X.calm = true) (hu : X.A.units + 64 < cLine) (hN : X.N.Nodup) (hi : PI X tg iter wi) (ok : BlkOk X.N X.env.scope sc own) (hv : ∀ i ∈ vs1, i ∈ own.map (·.2)) (hg : BAll X sc fun Y => PG Y tg g) (hi1 : BAll X sc fun Y => PI Y tg1 iter1 wi1) (hg1 : BAll X sc fun Y => PG Y tg1 g1) (hk : BAll X sc fun Y => PE Y kx tk) (he : BAll X sc fun Y => PE Y vx tv)
    (hs : ∀ x, foldedSetIterable iter X.env x = pure x := by intro _; rfl) (hs1 : ∀ env x, foldedSetIterable iter1 env x = pure x := by intro _ _; rfl) : PE X (dc2 kx vx tg iter tg1 iter1 [] [] sc pos) (tD2 wi g wi1 g1 tk tv (own.map (·.2)) vs1) := by
  constructor
  intro pins s σ H Q I h
  have hfree : ∀ y ∈ sc.names, y.2 = .free → ∃ c, X.env.cells.lookup y.1 = some c := by
    intro y hy e
    have := ok.free y hy e
    exact I.ok.has _ (this.elim .inl .inr)
  rw [arm_eval_DictComp]
  refine wpAny_comprehension_free (use := none) rfl hs (closure_ok hfree) ok.kind (fun y hy e => by rw [ok.uniq y hy, e]) (thn (hi.run pins s σ H _ I h) fun xv s1 hx => thn hx fun itv s2 h2 => ?_)
  obtain ⟨it, fp, tn, J, H2, e, I2, T, st2, f2, q⟩ := h2
  subst e
  refine wpAny_newObj_type (newEnv_comp ?_)
  generalize hD : s2.heap.objs.size = D
  have hDn : H2 D = none := I2.hok.fresh (Nat.le_of_eq hD)
  obtain ⟨W, ⟨m0, w0⟩, turn⟩ := q D hDn
  let s3 : Shared := { s2 with heap := s2.heap.push { cls := .type "dict", data := .dict #[] } }
  let H3 : Hp := upd H2 D (.dT [])
  have up3 : ∀ b o, s2.heap.get? b = some o → s3.heap.get? b = some o := fun b o e => Heap.get?_push_of_some _ e
  have I3 : Inv X pins σ H3 s3 := I2.laid (t' := s2.toks) up3 (Nat.le_of_eq hD) (hD ▸ dt_empty s2.heap I2.big)
  have sz : ∀ b ∈ fp, b < s2.heap.objs.size := by
    intro b hb
    obtain ⟨o, e, _⟩ := T.obj _ _ st2 b hb
    exact Heap.lt_size e
  have z3 : s3.heap.objs.size = s2.heap.objs.size + 1 := Heap.size_push ..
  have n3 : ∀ b ∈ fp, H3 b = none := by
    intro b hb
    show upd H2 D (.dT []) b = none
    rw [upd_ne (by rw [← hD]; exact Nat.ne_of_lt (sz b hb))]
    exact (f2 b hb).1
  have f3 : ∀ b ∈ fp, FpOk X pins H3 b ∧ b < s3.heap.objs.size := fun b hb => ⟨⟨n3 b hb, (f2 b hb).2⟩, by rw [z3]; exact Nat.lt_succ_of_lt (sz b hb)⟩
  have I4 := block_start I3 ok hN f3
  have st3 : tn 0 s3.heap := T.keep _ _ _ st2 fun b _ o => up3 b o
  have pg := hg s3 H3 s3.heap.objs.size (cellsFrom (s3.heap.objs.size + 1) sc.names (cloFrom X.env.cells sc.names [])) fp
  have pk := hk s3 H3 s3.heap.objs.size (cellsFrom (s3.heap.objs.size + 1) sc.names (cloFrom X.env.cells sc.names [])) fp
  have pe := he s3 H3 s3.heap.objs.size (cellsFrom (s3.heap.objs.size + 1) sc.names (cloFrom X.env.cells sc.names [])) fp
  have pi1 := hi1 s3 H3 s3.heap.objs.size (cellsFrom (s3.heap.objs.size + 1) sc.names (cloFrom X.env.cells sc.names [])) fp
  have pg1 := hg1 s3 H3 s3.heap.objs.size (cellsFrom (s3.heap.objs.size + 1) sc.names (cloFrom X.env.cells sc.names [])) fp
  change codeAny _ _ (.compStart (dc2 kx vx tg iter tg1 iter1 [] [] sc pos) 0 (.ref it) (.ref D) (blkAt X sc s3 H3 fp).env) (compPost (model X.prog X.w) X.A X.xe none (EP X pins σ Q) (.ref D) s3.heap.objs.size) { s3 with heap := pushCells (s3.heap.push { cls := .type "dict", data := .dict #[] }) sc.names }
  change PG (blkAt X sc s3 H3 fp) tg g at pg
  change PE (blkAt X sc s3 H3 fp) kx tk at pk
  change PE (blkAt X sc s3 H3 fp) vx tv at pe
  change PI (blkAt X sc s3 H3 fp) tg1 iter1 wi1 at pi1
  change PG (blkAt X sc s3 H3 fp) tg1 g1 at pg1
  change Inv (blkAt X sc s3 H3 fp) [] _ H3 _ at I4
  have cL : (blkAt X sc s3 H3 fp).env.locals = s3.heap.objs.size := rfl
  have xe0 : (blkAt X sc s3 H3 fp).xe = fun _ _ => False := rfl
  have xfs : ∀ b ∈ fp, b ∈ (blkAt X sc s3 H3 fp).ex := fun b hb => hb
  have hB : (blkAt X sc s3 H3 fp).prog = X.prog ∧ (blkAt X sc s3 H3 fp).w = X.w ∧ (blkAt X sc s3 H3 fp).K = X.K ∧ (blkAt X sc s3 H3 fp).calm = true ∧ (blkAt X sc s3 H3 fp).A = X.A ∧ (blkAt X sc s3 H3 fp).pn = [] := ⟨rfl, rfl, rfl, hc, rfl, rfl⟩
  have back : ∀ {σ' : L2.St} {H' : Hp} {s' : Shared}, Inv (blkAt X sc s3 H3 fp) [] σ' H' s' → Inv X pins σ H' s' ∧ H' s3.heap.objs.size = none ∧ ∃ m, s'.heap.Ns s3.heap.objs.size m := fun {σ' H' s'} I' => by
    refine ⟨I3.call' (ch := fp) I'.os I'.base I'.hok I'.bare fun b hb => ⟨(f3 b hb).1.2.2.2.1, (f3 b hb).1.2.1, (f3 b hb).1.2.2.2.2.1, (f3 b hb).1.2.2.2.2.2⟩, I'.free, ?_⟩
    obtain ⟨m, hn, _⟩ := I'.loc
    exact ⟨m, hn⟩
  have fps : ∀ {P2 : List (Addr × Obj)} {σ' : L2.St} {H' : Hp} {s' : Shared}, Inv (blkAt X sc s3 H3 fp) P2 σ' H' s' → P2 = [] → (∀ b ∈ fp, H' b = none) → ∀ b ∈ fp, FpOk (blkAt X sc s3 H3 fp) [] H' b := fun {P2 σ' H' s'} I' _ hn b hb =>
    ⟨hn b hb, (I'.ok.exf b hb).1, I'.ok.exfs b hb, .inl hb, fun x c e => (I'.ok.exf b hb).2 x c e, fun p hp => by rw [List.append_nil] at hp; cases (show p ∈ ([] : List (Addr × Obj)) from hp)⟩
  have w0' : W 0 m0 H3 := w0
  have stP : tn 0 (pushCells (s3.heap.push { cls := .type "dict", data := .dict #[] }) sc.names) := T.keep _ _ _ st3 fun b _ o e => pushCells_keeps _ _ _ _ (Heap.get?_push_of_some _ e)
  clear_value H3 s3
  generalize hY : blkAt X sc s3 H3 fp = Y at *
  obtain ⟨yP, yw, yK, yc, yA, yp⟩ := hB
  have eE : Y.env = (blkAt X sc s3 H3 fp).env := by rw [hY]
  generalize hs4 : ({ s3 with heap := pushCells (s3.heap.push { cls := .type "dict", data := .dict #[] }) sc.names } : Shared) = s4 at I4 ⊢
  have st4 : tn 0 s4.heap := hs4 ▸ stP
  let Jn : Nat → Shared → Prop := fun n z => ∃ i H', Inv Y [] (wipe σ (own.map (·.2))) H' z ∧ tn i z.heap ∧ (∀ b ∈ fp, H' b = none) ∧ W i n H'
  have loop : codeAny (model X.prog X.w) X.A (.compLoop (dc2 kx vx tg iter tg1 iter1 [] [] sc pos) 0 (.ref it) (.ref D) Y.env) (compPost (model X.prog X.w) X.A X.xe none (EP X pins σ Q) (.ref D) s3.heap.objs.size) s4 := by
    refine dc2_loop0 (hs1 Y.env) Jn (fun n s5 ⟨i, H5, I5, st5, n5, w5⟩ => ?_) m0 ⟨0, H3, I4, st4, n3, w0'⟩
    have m5 := fps I5 rfl n5
    rcases turn i n H5 w5 with ⟨stop, qq⟩ | ⟨go, Nx, hNx, step⟩
    · have td := T.done Y yP yw yK yc i [] s5 _ H5 (fun _ _ => False) I5 m5 st5 stop
      rw [yA] at td
      refine thnF td fun r s6 ⟨hr, I6⟩ => ?_
      subst hr
      obtain ⟨I7, nC, m, hn⟩ := back I6
      obtain ⟨g0, g1', g2, g3, g4, g5⟩ := I3.fpOk (H' := H5) (Nat.le_refl _) nC
      exact ⟨m, hn, fun h'' sb => ⟨.ref D, H5, I7.turned (t' := s6.toks) (fun b o hb e => (sb.2 b hb).trans e) g0 g1' g3 g4 g5, rfl, qq⟩⟩
    · have ti := T.item Y yP yw yK yc i [] s5 _ H5 (fun _ _ => False) I5 m5 st5 go
      rw [yA] at ti
      refine thnF ti fun r s6 ⟨u, hr, h6⟩ => ?_
      subst hr
      refine thnF h6 fun _ s7 ⟨x, H7, I7, r7, y7, st7, n7⟩ => ?_
      have I7' := I7.pinned (fps I7 rfl n7) (T.obj _ _ st7)
      have ga := pg.run _ s7 _ H7 x u _ I7' r7 (step x H7 y7)
      rw [yA, yP, yw, xe0] at ga
      refine thnF ga fun _ s8 ⟨σ8, H8, I8, hw8, q8⟩ => ?_
      refine wpAny_pure ?_
      show wpAny _ _ _ _ _ s8
      have len8 : (wipe σ (own.map (·.2))).length = σ8.length := by rw [← hw8]; exact wipe_length _ _
      have old8 : ∀ (j : Nat) v, (wipe σ (own.map (·.2)))[j]? = some (some v) → σ8[j]? = some (some v) ∧ j ∉ own.map (·.2) := fun j v e => wipe_some (hw8 ▸ e)
      have old9 : ∀ (j : Nat) v, (wipe σ (own.map (·.2)))[j]? = some (some v) → (wipe σ8 vs1)[j]? = some (some v) := fun j v e => by
        obtain ⟨e1, e2⟩ := old8 j v e
        rw [wipe_out fun z => e2 (hv j z)]
        exact e1
      have fin : ∀ {z : Shared} {H' : Hp}, Inv Y ([] ++ pinsAt fp s7.heap) (wipe σ8 vs1) H' z → Nx H' → ∃ m, m < n ∧ Jn m z := fun {z H'} I' nx => by
        obtain ⟨m', hm, w'⟩ := hNx H' nx
        have stay : ∀ b ∈ fp, ∀ o, s7.heap.get? b = some o → z.heap.get? b = some o ∧ H' b = none := fun b hb o e =>
          let t := I'.pin (b, o) (List.mem_append_right _ (List.mem_append_right _ (mem_pinsAt hb e)))
          ⟨t.1, t.2.1⟩
        refine ⟨m', hm, i + 1, H', (I'.unpinned (pins := [])).weak (len8.trans (wipe_length σ8 vs1).symm) old9, T.keep _ _ _ st7 fun b hb o e => (stay b hb o e).1, fun b hb => ?_, w'⟩
        obtain ⟨o, e, _⟩ := T.obj _ _ st7 b hb
        exact (stay b hb o e).2
      have ia := pi1.run _ s8 σ8 H8 _ I8 q8
      rw [yA, yP, yw, xe0] at ia
      refine thnF ia fun xv s10 hx => thnF hx fun itv s11 h11 => ?_
      obtain ⟨it1, fp1, tn1, J1, H11, e1, I11, T1, st11, f11, W1, ⟨m1, w1⟩, turn1⟩ := h11
      subst e1
      rw [yP, yw, yK] at T1
      have stat1 : ∀ {H' : Hp}, (∀ b ∈ fp1, H' b = none) → ∀ b ∈ fp1, FpOk Y ([] ++ pinsAt fp s7.heap) H' b := fun hn b hb => ⟨hn b hb, (f11 b hb).2⟩
      let Jk : Nat → Shared → Prop := fun k z => ∃ j H', Inv Y ([] ++ pinsAt fp s7.heap) (wipe σ8 vs1) H' z ∧ tn1 j z.heap ∧ (∀ b ∈ fp1, H' b = none) ∧ W1 j k H'
      have loop1 : codeAny (model X.prog X.w) X.A (.compLoop (dc2 kx vx tg iter tg1 iter1 [] [] sc pos) 1 (.ref it1) (.ref D) Y.env) (fun r z => match r with
          | .error _ => False
          | .ok _ => ∃ m, m < n ∧ Jn m z) s11 := by
        refine dc2_loop1 Jk (fun k s12 ⟨j, H12, I12, st12, n12, w12⟩ => ?_) m1 ⟨0, H11, I11.weak (wipe_length _ _) (fun j v e => (wipe_some e).1), st11, fun b hb => (f11 b hb).1, w1⟩
        rcases turn1 j k H12 w12 with ⟨stop1, nx1⟩ | ⟨go1, Nx1, hNx1, step1⟩
        · have td := T1.done Y yP yw yK yc j _ s12 (wipe σ8 vs1) H12 (fun _ _ => False) I12 (stat1 n12) st12 stop1
          rw [yA] at td
          refine thnF td fun r s13 ⟨hr, I13⟩ => ?_
          subst hr
          exact fin I13 nx1
        · have ti := T1.item Y yP yw yK yc j _ s12 (wipe σ8 vs1) H12 (fun _ _ => False) I12 (stat1 n12) st12 go1
          rw [yA] at ti
          refine thnF ti fun r s13 ⟨u1, hr, h13⟩ => ?_
          subst hr
          refine thnF h13 fun _ s14 ⟨x1, H14, I14, r14, y14, st14, n14⟩ => ?_
          have I14' := I14.pinned (stat1 n14) (T1.obj _ _ st14)
          have gb := pg1.run _ s14 (wipe σ8 vs1) H14 x1 u1 _ I14' r14 (step1 x1 H14 y14)
          rw [yA, yP, yw, xe0] at gb
          refine thnF gb fun _ s15 ⟨σ15, H15, I15, hw15, q15⟩ => ?_
          refine wpAny_pure ?_
          show wpAny _ _ _ _ _ s15
          have kb := pk.run _ s15 σ15 H15 _ I15 q15
          rw [yA, yP, yw, xe0] at kb
          refine thnF kb fun p s16 ⟨yk, H16, I16, r16, q16⟩ => ?_
          have eb := pe.run _ s16 σ15 H16 _ I16 q16
          rw [yA, yP, yw, xe0] at eb
          refine thnF eb fun z s17 ⟨yv, H17, I17, r17, kvs, k', b, ek, hb17, hD17, hz17, nx⟩ => ?_
          subst ek
          cases r16
          have dd := d_setT (X := Y) (E := nbE X.prog X.w X.A Y.env (fun r z => match r with
          | .error _ => False
          | .ok _ => ∃ m, m < n ∧ Jn m z)) (Q := fun _ z => ∃ m, m < k ∧ Jk m z) (by rw [yA]; exact hu) I17 hD17 hb17 hz17 r17 fun z I' => by
            obtain ⟨m', hm, w'⟩ := hNx1 _ nx
            have stay : ∀ b ∈ fp1, ∀ o, s14.heap.get? b = some o → z.heap.get? b = some o ∧ upd H17 D (.dT (putK kvs k' yv)) b = none := fun b hb o e =>
              let t := I'.pin (b, o) (List.mem_append_right _ (List.mem_append_right _ (mem_pinsAt hb e)))
              ⟨t.1, t.2.1⟩
            refine ⟨m', hm, j + 1, _, I'.unpinned.weak (by rw [← hw15, wipe_length]) (fun j v e => by rw [← hw15] at e; exact (wipe_some e).1), T1.keep _ _ _ st14 fun b hb o e => (stay b hb o e).1, fun b hb => ?_, w'⟩
            obtain ⟨o, e, _⟩ := T1.obj _ _ st14 b hb
            exact (stay b hb o e).2
          rw [yA, yP, yw] at dd
          exact dd
      exact dc2_start1 loop1 (T1.self X.A 0 _ _ _ st11 loop1)
  exact codeAny_compStart_dict loop (T.self X.A 0 _ _ _ st4 loop)
end
end Q9
namespace Q9
open PySem L2
theorem wipe_wipe (σ : L2.St) (vs : List Nat) : wipe (wipe σ vs) vs = wipe σ vs := by
  have go : ∀ (vs ws : List Nat), (∀ v ∈ ws, v ∈ vs) → wipe (wipe σ ws) vs = wipe σ vs := by
    intro vs ws
    induction ws with
    | nil => intro _; rfl
    | cons w ws ih =>
      intro hw
      show wipe ((wipe σ ws).set w none) vs = wipe σ vs
      rw [wipe_set (hw w List.mem_cons_self), ih fun v hv => hw v (List.mem_cons_of_mem _ hv)]
  exact go vs vs fun _ h => h
theorem at_end {M : MS} {x : Addr × MO} : (M ++ [x])[M.length]? = some x := by rw [List.getElem?_append_right (Nat.le_refl _), Nat.sub_self]; rfl
theorem set_end {M : MS} {x y : Addr × MO} : (M ++ [x]).set M.length y = M ++ [y] := by rw [List.set_append_right _ _ (Nat.le_refl _), Nat.sub_self]; rfl
theorem erase_end {M : MS} {x : Addr × MO} : (M ++ [x]).eraseIdx M.length = M := by
  rw [List.eraseIdx_append_of_length_le (Nat.le_refl _), Nat.sub_self]
  exact List.append_nil _
section
variable {X : Cx} {B : Bs} {is : Is} {M : MS} {Post : Pr → MS → Prop} {IPost : List Pr → MS → Prop} {tg iter tg1 iter1 elt kx vx : Expr} {ifs ifs1 : List Expr} {pos : Pos} {scope : Scope}
/-- what a context's blocks read -/
abbrev gB (X : Cx) (scope : Scope) (tg : Expr) : TG := fun v σ H Q => BAll X scope fun Y => GW Y tg v σ H Q
abbrev tB (X : Cx) (scope : Scope) (ifs : List Expr) : TT := fun σ H Q => BAll X scope fun Y => TsW Y ifs σ H Q
abbrev eB (X : Cx) (scope : Scope) (e : Expr) : TE := fun σ H Q => BAll X scope fun Y => EW Y e σ H Q
abbrev iB (X : Cx) (scope : Scope) (tg iter : Expr) : TI := fun σ H R => BAll X scope fun Y => IW Y tg iter σ H R
theorem bg (s : Shared) (H : Hp) (C : Addr) (cl : List (Str × Addr)) (fp : List Addr) : PG (Blk X scope s H C cl fp) tg (gB X scope tg) := ⟨fun pins s' σ' H' v u Q' I r q => pg_w.run pins s' σ' H' v u Q' I r (q s H C cl fp)⟩
theorem bt (s : Shared) (H : Hp) (C : Addr) (cl : List (Str × Addr)) (fp : List Addr) : PTs (Blk X scope s H C cl fp) ifs (tB X scope ifs) := ⟨fun pins s' σ' H' Q' I q => pts_w.run pins s' σ' H' Q' I (q s H C cl fp)⟩
theorem be (s : Shared) (H : Hp) (C : Addr) (cl : List (Str × Addr)) (fp : List Addr) : PE (Blk X scope s H C cl fp) elt (eB X scope elt) := ⟨fun pins s' σ' H' Q' I q => pe_w.run pins s' σ' H' Q' I (q s H C cl fp)⟩
theorem bi (s : Shared) (H : Hp) (C : Addr) (cl : List (Str × Addr)) (fp : List Addr) : PI (Blk X scope s H C cl fp) tg iter (iB X scope tg iter) := ⟨fun pins s' σ' H' R I q => pi_w.run pins s' σ' H' R I (q s H C cl fp)⟩
/-- [elt for tg in iter if .. for tg1 in iter1 if ..] -/
theorem ee_lc2 (N0 : List Str) (sc0 : Scope) (own : List (Str × Nat)) (vs1 : List Nat) (hc : X.calm = true) (hN : X.N.Nodup) (hb : blkC N0 sc0 scope own = true) (hv : ∀ i ∈ vs1, i ∈ own.map (·.2))
    (h : II X B tg iter is M fun ps M1 => ps.length ≤ 1000 ∧ ∃ I : Nat → List Pr → Prop, I 0 [] ∧
      (∀ (L : Addr) (i : Nat) (p : Pr) (acc : List Pr), ps[i]? = some p → I i acc →
        BAll X scope fun X1 => GG X1 B (own.map (·.2)) tg p (wipeI is (own.map (·.2))) (M1 ++ [(L, .lst acc)]) fun is2 M2 => M2 = M1 ++ [(L, .lst acc)] ∧
          BAll X scope fun X2 => TTs X2 B ifs is2 (M1 ++ [(L, .lst acc)]) fun t M3 => M3 = M1 ++ [(L, .lst acc)] ∧ (t = false → I (i + 1) acc) ∧ (t = true →
            BAll X scope fun X3 => II X3 B tg1 iter1 is2 (M1 ++ [(L, .lst acc)]) fun qs M4 => M4 = M1 ++ [(L, .lst acc)] ∧ qs.length ≤ 1000 ∧ ∃ I1 : Nat → List Pr → Prop, I1 0 acc ∧
              (∀ (j : Nat) (q : Pr) (ac : List Pr), qs[j]? = some q → I1 j ac →
                BAll X scope fun X4 => GG X4 B vs1 tg1 q (wipeI is2 vs1) (M1 ++ [(L, .lst ac)]) fun is3 M5 => M5 = M1 ++ [(L, .lst ac)] ∧
                  BAll X scope fun X5 => TTs X5 B ifs1 is3 (M1 ++ [(L, .lst ac)]) fun t M6 => M6 = M1 ++ [(L, .lst ac)] ∧ (t = false → I1 (j + 1) ac) ∧ (t = true →
                    BAll X scope fun X6 => EE X6 B elt is3 (M1 ++ [(L, .lst ac)]) fun r M7 => M7 = M1 ++ [(L, .lst ac)] ∧ I1 (j + 1) (ac ++ [r]))) ∧
              ∀ ac, I1 qs.length ac → I (i + 1) ac)) ∧
      ∀ acc, I ps.length acc → Post (lstP acc) M1)
    (hs : ∀ x, foldedSetIterable iter X.env x = pure x := by intro _; rfl) (hs1 : ∀ env x, foldedSetIterable iter1 env x = pure x := by intro _ _; rfl) (hN0 : X.N = N0 := by rfl) (hs0 : X.env.scope = sc0 := by rfl) :
    EE X B (.ListComp elt [⟨tg, iter, ifs, 0⟩, ⟨tg1, iter1, ifs1, 0⟩] scope pos) is M Post := fun σ G H K Q k => by
  subst hN0
  subst hs0
  refine EW.of (pe_lc2 (own := own) (vs1 := vs1) hc hN pi_w (blkOk_by hb) hv bg bt bi bg bt be hs hs1) ?_
  refine h σ G H K _ fun J G1 H1 ps M1 K1 g1 wk ⟨hz, I, h0, hst, hd⟩ L hL => ?_
  have KL := K1.push (o := .lst []) (m := .lst []) hL ⟨[], upd_same, True.intro⟩
  refine ⟨fun i m H' => m + i = ps.length ∧ ∃ G' acc, Ok B σ G' H' is (M1 ++ [(L, .lst acc)]) ∧ Same G1 G' ∧ I i acc ∧ acc.length ≤ 1000 * i, ⟨ps.length, rfl, G1, [], KL, Same.refl _, h0, Nat.zero_le _⟩, fun i m H' ⟨em, G', acc, K', g', hI, hl⟩ => ?_⟩
  obtain ⟨w1, w2⟩ := wk G' H' g' K'.kn
  by_cases hi : i < ps.length
  · obtain ⟨go, yl⟩ := w1 i ps[i] (List.getElem?_eq_getElem hi)
    refine .inr ⟨go, fun H2 => ∃ G2 ac2, Ok B σ G2 H2 is (M1 ++ [(L, .lst ac2)]) ∧ Same G1 G2 ∧ I (i + 1) ac2 ∧ ac2.length ≤ 1000 * (i + 1), fun H2 q => ⟨m - 1, by omega, by omega, q⟩, fun x H2 hy s HH C cl fp => ?_⟩
    obtain ⟨G2, y1, y2, y3, y4, y5⟩ := yl x H2 hy
    have K2 := (K'.ext y1 y2 y3 y4).wipe (own.map (·.2))
    have l2 : SL G2 is σ := K'.loc.mono y1
    refine hst L i ps[i] acc (List.getElem?_eq_getElem hi) hI s HH C cl fp _ G2 H2 K2 x y5 _ fun σ3 G3 H3 is3 M3 K3 g3 e3 ⟨eM, h3⟩ => ?_
    subst eM
    refine ⟨e3.trans (wipe_wipe σ _), fun s HH C cl fp => ?_⟩
    refine (h3 s HH C cl fp).go K3 fun t G4 H4 M4 K4 g4 ⟨eM4, f4, t4⟩ => ?_
    subst eM4
    have g14 : Same G1 G4 := ((g'.trans y1).trans g3).trans g4
    cases t with
    | false =>
      rw [if_neg Bool.false_ne_true]
      exact ⟨G4, acc, K4.slots ((K'.loc.mono y1).mono (g3.trans g4)), g14, f4 rfl, by omega⟩
    | true =>
      rw [if_pos rfl]
      intro s HH C cl fp
      refine t4 rfl s HH C cl fp σ3 G4 H4 K4 _ fun J1 G5 H5 qs M5 K5 g5 wk1 ⟨eM5, hz1, I1, j0, jst, jd⟩ => ?_
      subst eM5
      have g15 : Same G1 G5 := g14.trans g5
      have g25 : Same G2 G5 := (g3.trans g4).trans g5
      refine ⟨fun j k H' => k + j = qs.length ∧ ∃ G' ac, Ok B σ3 G' H' is3 (M1 ++ [(L, .lst ac)]) ∧ Same G5 G' ∧ I1 j ac ∧ ac.length ≤ 1000 * i + j, ⟨qs.length, rfl, G5, acc, K5, Same.refl _, j0, by omega⟩, fun j k H' ⟨em1, G', ac, K', g', hI1, hl1⟩ => ?_⟩
      obtain ⟨v1, v2⟩ := wk1 G' H' g' K'.kn
      by_cases hj : j < qs.length
      · obtain ⟨go1, yl1⟩ := v1 j qs[j] (List.getElem?_eq_getElem hj)
        refine .inr ⟨go1, fun H2 => ∃ G2 ac2, Ok B σ3 G2 H2 is3 (M1 ++ [(L, .lst ac2)]) ∧ Same G5 G2 ∧ I1 (j + 1) ac2 ∧ ac2.length ≤ 1000 * i + (j + 1), fun H2 q => ⟨k - 1, by omega, by omega, q⟩, fun x H6 hy s HH C cl fp => ?_⟩
        obtain ⟨G6, z1, z2, z3, z4, z5⟩ := yl1 x H6 hy
        have K6 := (K'.ext z1 z2 z3 z4).wipe vs1
        refine jst j qs[j] ac (List.getElem?_eq_getElem hj) hI1 s HH C cl fp _ G6 H6 K6 x z5 _ fun σ7 G7 H7 is7 M7 K7 g7 e7 ⟨eM, h7⟩ => ?_
        subst eM
        refine ⟨e7.trans (wipe_wipe σ3 _), fun s HH C cl fp => ?_⟩
        refine (h7 s HH C cl fp).go K7 fun t G8 H8 M8 K8 g8 ⟨eM8, f8, t8⟩ => ?_
        subst eM8
        have g58 : Same G5 G8 := ((g'.trans z1).trans g7).trans g8
        cases t with
        | false =>
          rw [if_neg Bool.false_ne_true]
          exact ⟨G8, ac, K8.slots ((K'.loc.mono z1).mono (g7.trans g8)), g58, f8 rfl, by omega⟩
        | true =>
          rw [if_pos rfl]
          intro s HH C cl fp
          refine t8 rfl s HH C cl fp σ7 G8 H8 K8 _ fun v G9 H9 q M9 K9 g9 q9 ⟨eM9, i9⟩ => ?_
          subst eM9
          obtain ⟨vs, hv', hq⟩ := K9.at (a := L) (i := M1.length) (m := .lst ac) at_end
          have hlen : vs.length = ac.length := hq.length.symm
          refine ⟨vs, hv', Nat.lt_of_lt_of_le (by omega : vs.length < 1002001) (by decide), G9, ac ++ [q], ?_, g58.trans g9, i9, by rw [List.length_append, List.length_singleton]; omega⟩
          have KW := K9.write (i := M1.length) (o := .lst (vs ++ [v])) (m' := .lst (ac ++ [q])) at_end ⟨_, upd_same, hq.app ⟨q9, True.intro⟩⟩ (fun _ => True.intro)
          rw [set_end] at KW
          exact KW.slots ((K'.loc.mono z1).mono ((g7.trans g8).trans g9))
      · have e : j = qs.length := by omega
        subst e
        exact .inl ⟨v2 _ (Nat.le_refl _), G', ac, K'.slots ((l2.mono g25).mono g'), g15.trans g', jd ac hI1, by omega⟩
  · have e : i = ps.length := by omega
    subst e
    refine .inl ⟨w2 _ (Nat.le_refl _), ?_⟩
    obtain ⟨vs, hv', hq⟩ := K'.at (a := L) (i := M1.length) (m := .lst acc) at_end
    have nW : L ∉ B.W := fun hw => by
      obtain ⟨_, xs, e, _⟩ := K1.bw L hw
      rw [hL] at e
      cases e
    obtain ⟨KF, gF⟩ := K'.freeze (i := M1.length) (a := L) (o := .lst vs) (m := .lst acc) at_end hv' nW
    rw [erase_end] at KF
    exact k (.ref L) _ H' (lstP acc) M1 KF ((g1.trans g').trans gF) ⟨L, vs, rfl, upd_same, hq.mono gF⟩ (hd acc hI)
end
end Q9
namespace Q9
open PySem L2
theorem putP_le {κ : Type} [DecidableEq κ] (kvs : List (κ × Pr)) (k : κ) (p : Pr) : (putP kvs k p).length ≤ kvs.length + 1 := by
  unfold putP
  split
  · rw [List.length_map]; omega
  · rw [List.length_append, List.length_singleton]; omega
section
variable {X : Cx} {B : Bs} {is : Is} {M : MS} {Post : Pr → MS → Prop} {IPost : List Pr → MS → Prop} {tg iter tg1 iter1 elt kx vx : Expr} {ifs ifs1 : List Expr} {pos : Pos} {scope : Scope}
/-- {k: v for tg in iter for tg1 in iter1}, keys tuples -/
theorem ee_d2 (N0 : List Str) (sc0 : Scope) (own : List (Str × Nat)) (vs1 : List Nat) (hc : X.calm = true) (hu : X.A.units + 64 < cLine) (hN : X.N.Nodup) (hb : blkC N0 sc0 scope own = true) (hv : ∀ i ∈ vs1, i ∈ own.map (·.2))
    (h : II X B tg iter is M fun ps M1 => ps.length ≤ 1000 ∧ ∃ I : Nat → List (List Key × Pr) → Prop, I 0 [] ∧
      (∀ (L : Addr) (i : Nat) (p : Pr) (acc : List (List Key × Pr)), ps[i]? = some p → I i acc →
        BAll X scope fun X1 => GG X1 B (own.map (·.2)) tg p (wipeI is (own.map (·.2))) (M1 ++ [(L, .dt acc)]) fun is2 M2 => M2 = M1 ++ [(L, .dt acc)] ∧
            BAll X scope fun X3 => II X3 B tg1 iter1 is2 (M1 ++ [(L, .dt acc)]) fun qs M4 => M4 = M1 ++ [(L, .dt acc)] ∧ qs.length ≤ 1000 ∧ ∃ I1 : Nat → List (List Key × Pr) → Prop, I1 0 acc ∧
              (∀ (j : Nat) (q : Pr) (ac : List (List Key × Pr)), qs[j]? = some q → I1 j ac →
                BAll X scope fun X4 => GG X4 B vs1 tg1 q (wipeI is2 vs1) (M1 ++ [(L, .dt ac)]) fun is3 M5 => M5 = M1 ++ [(L, .dt ac)] ∧
                  BAll X scope fun X5 => EE X5 B kx is3 (M1 ++ [(L, .dt ac)]) fun a M6 => M6 = M1 ++ [(L, .dt ac)] ∧
                    BAll X scope fun X6 => EE X6 B vx is3 (M1 ++ [(L, .dt ac)]) fun r M7 => M7 = M1 ++ [(L, .dt ac)] ∧ ∃ k : List Key, a = dat (.tuple (k.map kD)) ∧ I1 (j + 1) (putP ac k r)) ∧
              ∀ ac, I1 qs.length ac → I (i + 1) ac) ∧
      ∀ acc, I ps.length acc → ∀ a, Post (raw (.ref a)) (M1 ++ [(a, .dt acc)]))
    (hs : ∀ x, foldedSetIterable iter X.env x = pure x := by intro _; rfl) (hs1 : ∀ env x, foldedSetIterable iter1 env x = pure x := by intro _ _; rfl) (hN0 : X.N = N0 := by rfl) (hs0 : X.env.scope = sc0 := by rfl) :
    EE X B (.DictComp kx vx [⟨tg, iter, [], 0⟩, ⟨tg1, iter1, [], 0⟩] scope pos) is M Post := fun σ G H K Q k => by
  subst hN0
  subst hs0
  refine EW.of (pe_d2 (own := own) (vs1 := vs1) hc hu hN pi_w (blkOk_by hb) hv bg bi bg be be hs hs1) ?_
  refine h σ G H K _ fun J G1 H1 ps M1 K1 g1 wk ⟨hz, I, h0, hst, hd⟩ L hL => ?_
  have KL := K1.push (o := .dT []) (m := .dt []) hL ⟨[], upd_same, True.intro⟩
  refine ⟨fun i m H' => m + i = ps.length ∧ ∃ G' acc, Ok B σ G' H' is (M1 ++ [(L, .dt acc)]) ∧ Same G1 G' ∧ I i acc ∧ acc.length ≤ 1000 * i, ⟨ps.length, rfl, G1, [], KL, Same.refl _, h0, Nat.zero_le _⟩, fun i m H' ⟨em, G', acc, K', g', hI, hl⟩ => ?_⟩
  obtain ⟨w1, w2⟩ := wk G' H' g' K'.kn
  by_cases hi : i < ps.length
  · obtain ⟨go, yl⟩ := w1 i ps[i] (List.getElem?_eq_getElem hi)
    refine .inr ⟨go, fun H2 => ∃ G2 ac2, Ok B σ G2 H2 is (M1 ++ [(L, .dt ac2)]) ∧ Same G1 G2 ∧ I (i + 1) ac2 ∧ ac2.length ≤ 1000 * (i + 1), fun H2 q => ⟨m - 1, by omega, by omega, q⟩, fun x H2 hy s HH C cl fp => ?_⟩
    obtain ⟨G2, y1, y2, y3, y4, y5⟩ := yl x H2 hy
    have K2 := (K'.ext y1 y2 y3 y4).wipe (own.map (·.2))
    have l2 : SL G2 is σ := K'.loc.mono y1
    refine hst L i ps[i] acc (List.getElem?_eq_getElem hi) hI s HH C cl fp _ G2 H2 K2 x y5 _ fun σ3 G3 H3 is3 M3 K3 g3 e3 ⟨eM, h3⟩ => ?_
    subst eM
    refine ⟨e3.trans (wipe_wipe σ _), fun s HH C cl fp => ?_⟩
    refine h3 s HH C cl fp σ3 G3 H3 K3 _ fun J1 G5 H5 qs M5 K5 g5 wk1 ⟨eM5, hz1, I1, j0, jst, jd⟩ => ?_
    subst eM5
    have g15 : Same G1 G5 := ((g'.trans y1).trans g3).trans g5
    have g25 : Same G2 G5 := g3.trans g5
    refine ⟨fun j k H' => k + j = qs.length ∧ ∃ G' ac, Ok B σ3 G' H' is3 (M1 ++ [(L, .dt ac)]) ∧ Same G5 G' ∧ I1 j ac ∧ ac.length ≤ 1000 * i + j, ⟨qs.length, rfl, G5, acc, K5, Same.refl _, j0, by omega⟩, fun j k H' ⟨em1, G', ac, K', g', hI1, hl1⟩ => ?_⟩
    obtain ⟨v1, v2⟩ := wk1 G' H' g' K'.kn
    by_cases hj : j < qs.length
    · obtain ⟨go1, yl1⟩ := v1 j qs[j] (List.getElem?_eq_getElem hj)
      refine .inr ⟨go1, fun H2 => ∃ G2 ac2, Ok B σ3 G2 H2 is3 (M1 ++ [(L, .dt ac2)]) ∧ Same G5 G2 ∧ I1 (j + 1) ac2 ∧ ac2.length ≤ 1000 * i + (j + 1), fun H2 q => ⟨k - 1, by omega, by omega, q⟩, fun x H6 hy s HH C cl fp => ?_⟩
      obtain ⟨G6, z1, z2, z3, z4, z5⟩ := yl1 x H6 hy
      have K6 := (K'.ext z1 z2 z3 z4).wipe vs1
      refine jst j qs[j] ac (List.getElem?_eq_getElem hj) hI1 s HH C cl fp _ G6 H6 K6 x z5 _ fun σ7 G7 H7 is7 M7 K7 g7 e7 ⟨eM, h7⟩ => ?_
      subst eM
      refine ⟨e7.trans (wipe_wipe σ3 _), fun s HH C cl fp => ?_⟩
      refine h7 s HH C cl fp σ7 G7 H7 K7 _ fun y G8 H8 a M8 K8 g8 q8 ⟨eM8, h8⟩ => ?_
      subst eM8
      intro s HH C cl fp
      refine h8 s HH C cl fp σ7 G8 H8 K8 _ fun v G9 H9 r M9 K9 g9 q9 ⟨eM9, kk, ea, i9⟩ => ?_
      subst eM9
      subst ea
      obtain ⟨b, ws, ey, hb1, hb2⟩ := dat_tup.mp q8
      have e5 := dql_kD (PL.dats.mp hb2)
      subst ey; subst e5
      obtain ⟨us, hv', hq⟩ := K9.at (a := L) (i := M1.length) (m := .dt ac) at_end
      have hlen : us.length = ac.length := hq.length.symm
      have hle := putP_le ac kk r
      refine ⟨us, kk, b, rfl, K9.kn _ _ (g9 _ _ hb1), hv', Nat.lt_of_lt_of_le (by omega : us.length < 1002001) (by decide), G9, putP ac kk r, ?_, (((g'.trans z1).trans g7).trans g8).trans g9, i9, by omega⟩
      have KW := K9.write (i := M1.length) (o := .dT (putK us kk v)) (m' := .dt (putP ac kk r)) at_end ⟨_, upd_same, hq.put q9⟩ (fun hw => absurd hw (K9.notW hv' fun z => z))
      rw [set_end] at KW
      exact KW.slots ((K'.loc.mono z1).mono ((g7.trans g8).trans g9))
    · have e : j = qs.length := by omega
      subst e
      exact .inl ⟨v2 _ (Nat.le_refl _), G', ac, K'.slots ((l2.mono g25).mono g'), g15.trans g', jd ac hI1, by omega⟩
  · have e : i = ps.length := by omega
    subst e
    exact .inl ⟨w2 _ (Nat.le_refl _), k (.ref L) _ H' _ _ K' (g1.trans g') rfl (hd acc hI L)⟩
/-- {k: v for tg in iter if ..}, keys texts and ints -/
theorem ee_dc (N0 : List Str) (sc0 : Scope) (own : List (Str × Nat)) (hc : X.calm = true) (hN : X.N.Nodup) (hb : blkC N0 sc0 scope own = true)
    (h : II X B tg iter is M fun ps M1 => ps.length ≤ 100000 ∧ ∃ I : Nat → List (Key × Pr) → Prop, I 0 [] ∧
      (∀ (L : Addr) (i : Nat) (p : Pr) (acc : List (Key × Pr)), ps[i]? = some p → I i acc →
        BAll X scope fun X1 => GG X1 B (own.map (·.2)) tg p (wipeI is (own.map (·.2))) (M1 ++ [(L, .dk acc)]) fun is2 M2 => M2 = M1 ++ [(L, .dk acc)] ∧
          BAll X scope fun X2 => TTs X2 B ifs is2 (M1 ++ [(L, .dk acc)]) fun t M3 => M3 = M1 ++ [(L, .dk acc)] ∧ (t = false → I (i + 1) acc) ∧ (t = true →
                  BAll X scope fun X5 => EE X5 B kx is2 (M1 ++ [(L, .dk acc)]) fun a M6 => M6 = M1 ++ [(L, .dk acc)] ∧
                    BAll X scope fun X6 => EE X6 B vx is2 (M1 ++ [(L, .dk acc)]) fun r M7 => M7 = M1 ++ [(L, .dk acc)] ∧ ∃ k : Key, a = dat (kD k) ∧ I (i + 1) (putP acc k r))) ∧
      ∀ acc, I ps.length acc → ∀ a, Post (raw (.ref a)) (M1 ++ [(a, .dk acc)]))
    (hs : ∀ x, foldedSetIterable iter X.env x = pure x := by intro _; rfl) (hN0 : X.N = N0 := by rfl) (hs0 : X.env.scope = sc0 := by rfl) :
    EE X B (.DictComp kx vx [⟨tg, iter, ifs, 0⟩] scope pos) is M Post := fun σ G H K Q k => by
  subst hN0
  subst hs0
  refine EW.of (pe_dc (own := own) hc hN pi_w (blkOk_by hb) bg bt be be hs) ?_
  refine h σ G H K _ fun J G1 H1 ps M1 K1 g1 wk ⟨hz, I, h0, hst, hd⟩ L hL => ?_
  have KL := K1.push (o := .dK []) (m := .dk []) hL ⟨[], upd_same, True.intro⟩
  refine ⟨fun i m H' => m + i = ps.length ∧ ∃ G' acc, Ok B σ G' H' is (M1 ++ [(L, .dk acc)]) ∧ Same G1 G' ∧ I i acc ∧ acc.length ≤ i, ⟨ps.length, rfl, G1, [], KL, Same.refl _, h0, Nat.zero_le _⟩, fun i m H' ⟨em, G', acc, K', g', hI, hl⟩ => ?_⟩
  obtain ⟨w1, w2⟩ := wk G' H' g' K'.kn
  by_cases hi : i < ps.length
  · obtain ⟨go, yl⟩ := w1 i ps[i] (List.getElem?_eq_getElem hi)
    refine .inr ⟨go, fun H2 => ∃ G2 ac2, Ok B σ G2 H2 is (M1 ++ [(L, .dk ac2)]) ∧ Same G1 G2 ∧ I (i + 1) ac2 ∧ ac2.length ≤ i + 1, fun H2 q => ⟨m - 1, by omega, by omega, q⟩, fun x H2 hy s HH C cl fp => ?_⟩
    obtain ⟨G2, y1, y2, y3, y4, y5⟩ := yl x H2 hy
    have K2 := (K'.ext y1 y2 y3 y4).wipe (own.map (·.2))
    have l2 : SL G2 is σ := K'.loc.mono y1
    refine hst L i ps[i] acc (List.getElem?_eq_getElem hi) hI s HH C cl fp _ G2 H2 K2 x y5 _ fun σ3 G3 H3 is3 M3 K3 g3 e3 ⟨eM, h3⟩ => ?_
    subst eM
    refine ⟨e3.trans (wipe_wipe σ _), fun s HH C cl fp => ?_⟩
    refine (h3 s HH C cl fp).go K3 fun t G4 H4 M4 K4 g4 ⟨eM4, f4, t4⟩ => ?_
    subst eM4
    have g14 : Same G1 G4 := ((g'.trans y1).trans g3).trans g4
    cases t with
    | false =>
      rw [if_neg Bool.false_ne_true]
      exact ⟨G4, acc, K4.slots (l2.mono (g3.trans g4)), g14, f4 rfl, by omega⟩
    | true =>
      rw [if_pos rfl]
      intro s HH C cl fp
      refine t4 rfl s HH C cl fp σ3 G4 H4 K4 _ fun y G8 H8 a M8 K8 g8 q8 ⟨eM8, h8⟩ => ?_
      subst eM8
      intro s HH C cl fp
      refine h8 s HH C cl fp σ3 G8 H8 K8 _ fun v G9 H9 r M9 K9 g9 q9 ⟨eM9, kk, ea, i9⟩ => ?_
      subst eM9
      subst ea
      obtain ⟨us, hv', hq⟩ := K9.at (a := L) (i := M1.length) (m := .dk acc) at_end
      have hlen : us.length = acc.length := hq.length.symm
      have hle := putP_le acc kk r
      refine ⟨us, kk, dq_kD q8, hv', Nat.lt_of_lt_of_le (by omega : us.length < 1002001) (by decide), G9, putP acc kk r, ?_, (g14.trans g8).trans g9, i9, by omega⟩
      have KW := K9.write (i := M1.length) (o := .dK (putK us kk v)) (m' := .dk (putP acc kk r)) at_end ⟨_, upd_same, hq.put q9⟩ (fun hw => absurd hw (K9.notW hv' fun z => z))
      rw [set_end] at KW
      exact KW.slots (l2.mono (((g3.trans g4).trans g8).trans g9))
  · have e : i = ps.length := by omega
    subst e
    exact .inl ⟨w2 _ (Nat.le_refl _), k (.ref L) _ H' _ _ K' (g1.trans g') rfl (hd acc hI L)⟩
end
end Q9
namespace Q9
open PySem L2 PyProof.Rows PySem.Spec
theorem star_items {prog : Program} {w : World} {A : Around} {E : Value → Shared → Prop} {s : Shared} {l : Addr} {x : Value} {r : List Value} {Q : List Value → Shared → Prop} (hl : IsTup s.heap l (x :: r).toArray) (hh : A.handled = none) (hz : r.length ≤ 1000)
    (h : ∀ h' tk, (∀ b o, s.heap.get? b = some o → h'.get? b = some o) → wpAny (model prog w) A (newList r) (fun d s' => Q [x, d] s') E { s with heap := h', toks := tk }) : wpAny (model prog w) A (unpackItems (.ref l) 2 (some 1)) Q E s := by
  have hll : l < s.heap.objs.size := hl.lt
  have hne : l ≠ s.heap.objs.size := Nat.ne_of_lt hll
  have hT : s.TypeIs (.ref l) "tuple" := let ⟨o, h1, h2, _⟩ := hl; ⟨o, h1, h2⟩
  unfold unpackItems
  refine wpAny_bind ?_
  unfold notIterableAtAll
  refine wpAny_bind (wpAny_specialOf hT PySem.F.slot_tuple_iter.lookup (wpAny_pure ?_))
  simp only [Bool.false_eq_true, if_false]
  refine wpAny_bind (wpAny_holding (iter_tuple hl ?_))
  refine wpAny_bind (wpAny_holding (draw_tuple hne 1 0 _ _ ⟨_, Heap.get?_push_size _ rfl, rfl, rfl⟩ (hl.push _) (by simp) fun h₁ hit₁ hs₁ => ?_))
  have hl₁ : IsTup h₁ l (x :: r).toArray := (hl.push _).extBut hs₁.extBut hne
  have e1 : (((x :: r).toArray.toList.drop 0).take 1) = [x] := by simp
  rw [e1]
  show wpAny _ _ (if ([x] : List Value).length < 1 then _ else _) _ _ _
  rw [if_neg (by simp)]
  have hI : s.heap.objs.size < h₁.objs.size := let ⟨_, e, _⟩ := hit₁; Heap.lt_size e
  refine wpAny_bind (wpAny_holding (PySem.W.kun_collect (s := { s with heap := h₁ }) (T := "tuple_iterator") (.inr (.inr (.inr rfl))) (Walks.tuple (A := A.in1) hh s.heap.objs.size l hne (x :: r).toArray) (fun j u st => st.1.typeIs) (k := 1) (by simp) ⟨hit₁, hl₁⟩ hI hl₁.lt (fun h₂ tk hk => ?_) (by
    rw [sizeLine_eq, List.size_toArray, List.length_cons]
    omega)))
  have e2 : (x :: r).toArray.toList.drop 1 = r := by simp
  rw [e2]
  show wpAny _ _ (if r.length < 2 - 1 - 1 then _ else _) _ _ _
  rw [if_neg (by omega)]
  show wpAny _ _ (newList (r.take (r.length - 0)) >>= fun d => pure ([x] ++ [d] ++ r.drop (r.length - 0))) _ _ _
  rw [Nat.sub_zero, List.take_length, List.drop_length]
  have keep : ∀ b o, s.heap.get? b = some o → h₂.get? b = some o := fun b o e => hk b o (Nat.ne_of_lt (Heap.lt_size e)) (hs₁.extBut b o (Nat.ne_of_lt (Heap.lt_size e)) (Heap.get?_push_of_some _ e))
  exact wpAny_bind (wpAny_mono (h h₂ tk keep) (fun d s' q => wpAny_pure (by simpa using q)) fun _ _ z => z)
section
variable {X : Cx}
/-- (first, *rest) = a tuple -/
def gStar (t : TGs) : TG := fun v σ H Q => ∃ a x xs, v = .ref a ∧ H a = some (.tup (x :: xs)) ∧ xs.length ≤ 1000 ∧ ∀ p, H p = none → t [x, .ref p] σ (upd H p (.lst xs)) Q
theorem pg_star {es : List Expr} {k : Nat} {pos : Pos} {t : TGs} (hc : X.calm = true) (h : PGs X es t) (hn : (assignEach es X.env).length = 2 := by rfl) (hst : (assignEach es X.env).findIdx? (·.1) = some 1 := by rfl) : PG X (.Tuple es k pos) (gStar t) := by
  refine ⟨fun pins s σ H v u Q I r hw => ?_⟩
  obtain ⟨a, x, xs, e1, ha, hz, hw⟩ := hw
  subst e1
  cases r
  obtain ⟨its, rv, ht, _⟩ := I.tuple (SqT.of ha)
  cases rv with
  | @cons _ y _ ys r1 rr =>
    rw [arm_assign_Tuple]
    refine wpAny_bind (wpAny_standAt ?_)
    unfold unpack
    rw [hn, hst]
    have hl : ys.length = xs.length := rr.length.symm
    refine wpAny_bind (wpAny_holding (star_items ht (I.ok.hd hc) (by omega) fun h' tk hk => ?_))
    have I1 : Inv X pins σ H { s with heap := h', toks := tk } := I.kept hk
    refine wpAny_newList ?_ (by rw [sizeLine_eq]; omega)
    have hf := I1.hok.fresh (Nat.le_refl _)
    have I2 := I1.laid (t' := tk) (a := h'.objs.size) (o := .lst xs) (h' := h'.push (seqObj "list" ys.toArray 0)) (fun b u e => Heap.get?_push_of_some _ e) (Nat.le_refl _) ⟨by rw [sizeLine_eq]; omega, ys, 0, rr, Heap.get?_push_size _ rfl⟩
    exact h.run pins _ σ _ _ _ Q I2 (.cons r1 (.cons (show RelV (.ref h'.objs.size) (.ref h'.objs.size) from rfl) .nil)) (hw _ hf)
variable {B : Bs} {is : Is} {M : MS} {Post : Pr → MS → Prop} {D : En} {a b c e tg iter o i : Expr} {es : List Expr} {pos : Pos}
theorem gg_star {vs : List Nat} {ts : List Expr} {x : PyData} {xs : List PyData} {j : Nat} {GPost : Is → MS → Prop} (hc : X.calm = true) (hz : xs.length ≤ 1000) (h : GGs X B vs ts [dat x, dat (.list xs)] is M GPost)
    (hn : (assignEach ts X.env).length = 2 := by rfl) (hst : (assignEach ts X.env).findIdx? (·.1) = some 1 := by rfl) : GG X B vs (.Tuple ts j pos) (dat (.tuple (x :: xs))) is M GPost := fun σ G H K v hp Q k => by
  obtain ⟨a, ws, e1, h1, h2⟩ := dat_tup.mp hp
  match ws, h2 with
  | w :: ws, ⟨hw, h2⟩ =>
    have hl := h2.length
    rw [List.length_map] at hl
    refine GW.of (pg_star hc pgs_w hn hst) ⟨a, w, ws, e1, K.kn _ _ h1, by omega, fun p hp => ?_⟩
    obtain ⟨K2, g2⟩ := K.new (o := .lst ws) hp
    exact h σ _ _ K2 [w, .ref p] ⟨(dat x).mono g2 hw, Dq.lst upd_same (PL.dats.mp (h2.mono g2)), True.intro⟩ _ fun σ' G' H' is' M' K' g' e' q => k σ' G' H' is' M' K' (g2.trans g') e' q
theorem zip_have {P : Program} {w : World} : ∀ {ks : List Key} {us : List Value} {vs : List Value}, Vals (ks.map kV) us → us.length = vs.length → PairsHave (mixKind P w) (min us.toArray.size vs.toArray.size) (fun i k v => us.toArray[i]? = some k ∧ vs.toArray[i]? = some v) (ks.zip vs) := by
  intro ks us vs r hl
  have hk : ks.length = us.length := by
    have := r.length
    rwa [List.length_map] at this
  refine ⟨by simp [hk, hl], fun i key v ⟨h1, h2⟩ => ?_⟩
  have h1' : us[i]? = some key := by simpa using h1
  have h2' : vs[i]? = some v := by simpa using h2
  have hi : i < us.length := (List.getElem?_eq_some_iff.mp h1').1
  have hik : i < ks.length := by omega
  refine ⟨ks[i], by
    rw [List.getElem?_zip_eq_some]
    exact ⟨List.getElem?_eq_getElem hik, h2'⟩, ?_⟩
  have go : ∀ {ks : List Key} {us : List Value} {i : Nat} {key : Value} (r : Vals (ks.map kV) us) (hik : i < ks.length), us[i]? = some key → (mixKind P w).is ks[i] key = true := by
    intro ks
    induction ks with
    | nil => intro us i key r hik; exact absurd hik (Nat.not_lt_zero _)
    | cons k ks ih =>
      intro us i key r hik e
      rw [List.map_cons] at r
      cases r with
      | cons r1 rr =>
        cases i with
        | zero =>
          have e' := Option.some.inj (show some _ = some key from e)
          subst e'
          exact kV_is r1
        | succ i => exact ih rr (Nat.lt_of_succ_lt_succ hik) (show _ = some key from e)
  exact go r hik h1'
theorem zip_kv : ∀ {ks : List Key} {xs : List V} {vs : List Value}, Vals xs vs → ks.length = xs.length → KV (ks.zip xs) (ks.zip vs)
  | [], [], _, r, _ => by cases r; exact .nil
  | k :: ks, x :: xs, _, r, hl => by
    cases r with
    | cons r1 rr => exact .cons ⟨rfl, r1⟩ (zip_kv rr (Nat.succ.inj hl))
  | [], _ :: _, _, _, hl => by cases hl
  | _ :: _, [], _, _, hl => by cases hl
def tZip (K : PySem.W.Frag) (ta : TA) : TE := fun σ H Q => ta σ H fun vs H1 => ∃ (a b : Addr) (ks : List Key) (xs : List V), vs = [.ref a, .ref b] ∧ SqL K H1 a (ks.map kV) ∧ SqL K H1 b xs ∧ ks.length = xs.length ∧ ∀ p, H1 p = none → Q (.ref p) (upd H1 p (.dK (mrg [] (ks.zip xs))))
theorem pe_dictZ {p p2 pos pos2 : Pos} {e e2 : Expr} {ta : TA} (hc : X.calm = true) (hg : Gl X "dict") (hm : X.mg "dict" = none) (hg2 : Gl X "zip") (hm2 : X.mg "zip" = none) (ha : PA X [e, e2] ta)
    (hs : starEach [e, e2] X.env = (false, eval e X.env) :: starEach [e2] X.env := by rfl) (hpl : (backTo pos2 (starEach [e2] X.env)).any (·.1) = false := by rfl)
    (hs2 : starEach [Expr.Call (.Name "zip" p2) [e, e2] [] pos2] X.env = (false, eval (Expr.Call (.Name "zip" p2) [e, e2] [] pos2) X.env) :: starEach [] X.env := by rfl) (hpl2 : (backTo pos (starEach [] X.env)).any (·.1) = false := by rfl) :
    PE X (.Call (.Name "dict" p) [.Call (.Name "zip" p2) [e, e2] [] pos2] [] pos) (tZip X.K ta) := by
  refine ⟨fun pins s σ H Q I h => ?_⟩
  refine Call_ (ld_blt I hg hm PyProof.Rows.boot_dict (PyProof.Rows.callWith_type1 ?_ hs2 hpl2))
  rw [hs2]
  refine Calls.spliced_cons ?_
  refine Call_ (ld_blt I hg2 hm2 PyProof.Rows.boot_zip (PyProof.Rows.callWith_type1 (thn (ha.run pos2 pins s σ H _ I h) fun us s1 ⟨vs, H1, I1, r1, a, b, ks, xs, ex, hqx, hqy, hl, q⟩ => ?_) hs hpl))
  subst ex
  cases r1 with
  | cons r rr =>
    cases rr with
    | cons r' rr =>
      cases rr
      cases r
      cases r'
      obtain ⟨its, rv, p1, z1⟩ := I1.list hqx
      obtain ⟨its2, rv2, p2', z2⟩ := I1.list hqy
      have la : a < s1.heap.objs.size := p1.lt
      have lb : b < s1.heap.objs.size := p2'.lt
      have hll : its.length = its2.length := by
        rw [← rv.length, ← rv2.length, List.length_map]
        exact hl
      refine call_zip_2 p1.isList p2'.isList fun h' hz hTI hTO h1 h2 hsz hk => Calls.spliced_nil ?_
      have I2 : Inv X pins σ H1 { s1 with heap := h' } := I1.kept (t' := s1.toks) hk
      refine call_dict_pairs (s := { s1 with heap := h' }) (knd := mixKind X.prog X.w) (PairArg.zip _ _ _ _ _ a b (PySem.W.ktu_apart s1.heap.objs.size a b la lb) its.toArray its2.toArray) (I.ok.hd hc)
        ⟨hz, hTI, ⟨_, _, hTO⟩, h1, h2, p1.isList.at fun o e => hk _ o e, p2'.isList.at fun o e => hk _ o e⟩ (zip_have rv hll) (by
          rw [List.size_toArray, List.size_toArray]
          have : its.length ≤ sizeLine := by rw [← rv.length]; exact z1
          omega) fun h'' tk dd hk2 => ?_
      have up : ∀ b o, s1.heap.get? b = some o → h''.get? b = some o := fun b o e => by
        have lt := Heap.lt_size e
        refine hk2 b o (fun hm => ?_) (hk b o e)
        have hm' : b = s1.heap.objs.size + 4 ∨ b = s1.heap.objs.size + 3 ∨ b = s1.heap.objs.size ∨ b = s1.heap.objs.size + 1 := by simpa using hm
        rcases hm' with z | z | z | z <;> rw [z] at lt <;> first | exact absurd lt (Nat.not_lt.mpr (Nat.le_add_right _ _)) | exact absurd lt (Nat.lt_irrefl _)
      have big : (h'.objs.size == sysModules) = false := beq_eq_false_iff_ne.mpr (by
        have := I1.big
        rw [hsz]
        exact Nat.ne_of_gt (Nat.lt_of_lt_of_le this (Nat.le_add_right _ _)))
      have lz : (mrg [] (ks.zip xs)).length ≤ sizeLine := by
        have q1 := mrg_len (ks.zip xs) []
        rw [List.length_zip, hl, Nat.min_self, List.length_nil, Nat.zero_add] at q1
        refine Nat.le_trans q1 ?_
        rw [← hl, ← List.length_map (f := kV)]
        exact z1
      have hf : H1 h'.objs.size = none := I2.hok.fresh (Nat.le_refl _)
      have rel : KV (mrg [] (ks.zip xs)) (merged [] (ks.zip its2)) := by
        rw [← mrg_eq]
        exact KV.merge (zip_kv rv2 hl) .nil
      exact ⟨.ref h'.objs.size, upd H1 h'.objs.size (.dK (mrg [] (ks.zip xs))), I1.laid (t' := tk) up (by rw [hsz]; exact Nat.le_add_right _ _) ⟨lz, big, _, rel, dd⟩, rfl, q _ hf⟩
variable {B : Bs} {is : Is} {M : MS} {Post : Pr → MS → Prop} {D : En} {a b c e tg iter o i : Expr} {es : List Expr} {pos : Pos}
theorem kp_zip {G : Hp} : ∀ {ks : List Key} {ds : List PyData} {xs : List V}, PL G (ds.map dat) xs → KP G ((ks.zip ds).map fun z => (z.1, dat z.2)) (ks.zip xs)
  | [], _, _, _ => by simp [KP]
  | _ :: _, [], [], _ => True.intro
  | k :: ks, d :: ds, x :: xs, h => ⟨⟨rfl, h.1⟩, kp_zip h.2⟩
  | _ :: _, [], _ :: _, h => h.elim
  | _ :: _, _ :: _, [], h => h.elim
theorem ee_dictZ {p p2 pos2 : Pos} {e e2 : Expr} (hc : X.calm = true) (hm : X.mg "dict" = none) (hm2 : X.mg "zip" = none) (h : AA X B [e, e2] is M fun ps M1 => ∃ (q q2 : Pr) (ks : List Key) (ds : List PyData), ps = [q, q2] ∧ LsP M1 q ((ks.map kD).map dat) ∧ LsP M1 q2 (ds.map dat) ∧ ks.length = ds.length ∧ ∀ r, Post (raw (.ref r)) (M1 ++ [(r, .dk (mrgP [] ((ks.zip ds).map fun z => (z.1, dat z.2))))]))
    (hg : Gl X "dict" := by rfl) (hg2 : Gl X "zip" := by rfl) (hs : starEach [e, e2] X.env = (false, eval e X.env) :: starEach [e2] X.env := by rfl) (hpl : (backTo pos2 (starEach [e2] X.env)).any (·.1) = false := by rfl)
    (hs2 : starEach [Expr.Call (.Name "zip" p2) [e, e2] [] pos2] X.env = (false, eval (Expr.Call (.Name "zip" p2) [e, e2] [] pos2) X.env) :: starEach [] X.env := by rfl) (hpl2 : (backTo pos (starEach [] X.env)).any (·.1) = false := by rfl) :
    EE X B (.Call (.Name "dict" p) [.Call (.Name "zip" p2) [e, e2] [] pos2] [] pos) is M Post := fun σ G H K Q k =>
  EW.of (pe_dictZ hc hg hm hg2 hm2 pa_w hs hpl hs2 hpl2) (h σ G H K _ fun vs G1 H1 ps M1 K1 g1 q1 ⟨q, q2, ks, ds, e1, l1, l2, hl, hp⟩ => by
    subst e1
    match vs, q1 with
    | [v, v2], ⟨h1, h2, _⟩ =>
      obtain ⟨a, xs, ea, h3, h4⟩ := l1.at K1 h1
      obtain ⟨b, ys, eb, h5, h6⟩ := l2.at K1 h2
      subst ea; subst eb
      have ex := dql_kD (PL.dats.mp h4)
      subst ex
      have hy : ds.length = ys.length := by
        have := h6.length
        rwa [List.length_map] at this
      exact ⟨a, b, ks, ys, rfl, SqL.of h3, SqL.of h5, hl.trans hy, fun r hr => k _ G1 _ _ _ (K1.push (m := .dk (mrgP [] ((ks.zip ds).map fun z => (z.1, dat z.2)))) hr ⟨_, upd_same, KP.mrg (kp_zip h6) True.intro⟩) g1 rfl (hp r)⟩)
def tDisp1 (tk tv : TE) : TE := fun σ H Q => ∀ p, H p = none → tk σ (upd H p (.dT [])) fun y H1 => tv σ H1 fun z H2 => ∃ k b, y = .ref b ∧ H2 b = some (.tup (k.map kV)) ∧ H2 p = some (.dT []) ∧ Q (.ref p) (upd H2 p (.dT [(k, z)]))
theorem pe_disp1 {ke ve : Expr} {tk tv : TE} (hu : X.A.units + 64 < cLine) (hk : PE X ke tk) (hv : PE X ve tv) : PE X (.Dict [some ke] [ve] pos) (tDisp1 tk tv) := by
  refine ⟨fun pins s σ H Q I h => ?_⟩
  have hn : H s.heap.objs.size = none := I.hok.fresh (Nat.le_refl _)
  have I1 := I.laid (a := s.heap.objs.size) (o := .dT []) (h' := s.heap.push { cls := .type "dict", data := .dict #[] }) (t' := s.toks) (fun _ _ q => Heap.get?_push_of_some _ q) (Nat.le_refl _) (dt_empty s.heap I.big)
  have sh : (evalEachOpt [some ke] X.env).zip ((evalEach [ve] X.env).map fun t => do let u ← t; standAt pos; pure u) = [(eval ke X.env, (do let u ← eval ve X.env; standAt pos; pure u : Sem Value))].map fun z => (some z.1, z.2) := rfl
  rw [arm_eval_Dict, sh, dictDisplay_pairs _ (by simp) (by simp)]
  refine wpAny_bind (wpAny_standAt (wpAny_bind (wpAny_subDictH (knd := tupleKind (mixKind X.prog X.w)) (show X.A.units < cLine by omega) (by simp) ?_)))
  unfold evalPairs
  refine wpAny_bind (thn (hk.run pins _ σ _ _ I1 (h _ hn)) fun y s1 ⟨yv, H1, I2, ry, q1⟩ => wpAny_bind (wpAny_holding (wpAny_bind (thn (hv.run pins s1 σ H1 _ I2 q1) fun z s2 ⟨zv, H2, I3, rz, k, b, ey, hb, hp, q2⟩ => wpAny_bind (wpAny_standAt (wpAny_pure ?_))))))
  refine wpAny_bind (wpAny_holding (wpAny_pure (wpAny_pure ?_)))
  subst ey
  cases ry
  obtain ⟨_, hd, ys, rel, dd⟩ := dt_of I3.hok hp
  cases rel
  refine ⟨[(k, b, z)], ⟨rfl, rfl, key_of I3.hok hb, True.intro⟩, dd, fun h' tk d2 sb => wpAny_pure ?_⟩
  obtain ⟨o, es, ep, h1, h2, h3, h4, _, h5⟩ := d2
  have new : ObjOk X.prog X.w (upd H2 s.heap.objs.size (.dT [(k, zv)])) h' s.heap.objs.size (.dT [(k, zv)]) := by
    refine ⟨by rw [sizeLine_eq, List.length_singleton]; omega, hd, [(k, b, z)], .cons ⟨rfl, ?_, rz⟩ .nil, o, es, ep, h1, h2, h3, h4, h5⟩
    rw [upd_ne (ne_of hb hp (fun z => nomatch z))]
    exact hb
  exact ⟨.ref s.heap.objs.size, _, d_write I3 (by rw [hp]; exact True.intro) sb ⟨o, h1⟩ new, rfl, q2⟩
/-- {k: v}, k a tuple -/
theorem ee_disp1 {ke ve : Expr} (hu : X.A.units + 64 < cLine) (h : ∀ r, EE X B ke is (M ++ [(r, .dt [])]) fun y M1 => M1 = M ++ [(r, .dt [])] ∧ EE X B ve is (M ++ [(r, .dt [])]) fun z M2 => M2 = M ++ [(r, .dt [])] ∧ ∃ k : List Key, y = dat (.tuple (k.map kD)) ∧ Post (raw (.ref r)) (M ++ [(r, .dt [(k, z)])])) : EE X B (.Dict [some ke] [ve] pos) is M Post := fun σ G H K Q kk =>
  EW.of (pe_disp1 hu pe_w pe_w) fun r hr => by
    have K0 := K.push (o := .dT []) (m := .dt []) hr ⟨[], upd_same, True.intro⟩
    refine h r σ G _ K0 _ fun y G1 H1 py M1 K1 g1 q1 ⟨e1, h1⟩ => ?_
    subst e1
    refine h1 σ G1 H1 K1 _ fun z G2 H2 pz M2 K2 g2 q2 ⟨e2, k, ey, hp⟩ => ?_
    subst e2; subst ey
    obtain ⟨b, ws, e3, h3, h4⟩ := dat_tup.mp q1
    have e5 := dql_kD (PL.dats.mp h4)
    subst e3; subst e5
    obtain ⟨us, h5, h6⟩ := K2.at (a := r) (i := M.length) (m := .dt []) at_end
    have e6 : us = [] := List.length_eq_zero_iff.mp h6.length.symm
    subst e6
    refine ⟨k, b, rfl, K2.kn _ _ (g2 _ _ h3), h5, kk _ G2 _ _ _ ?_ (g1.trans g2) rfl hp⟩
    have KW := K2.write (i := M.length) (o := .dT [(k, z)]) (m' := .dt [(k, pz)]) at_end ⟨_, upd_same, ⟨⟨rfl, q2⟩, True.intro⟩⟩ (fun hw => absurd hw (K2.notW h5 fun z => z))
    rw [set_end] at KW
    exact KW
/-- {a: b, c: d} of texts -/
theorem ee_disp2 {x1 y1 x2 y2 : Str} {j1 j2 j3 j4 : Nat} {p1 p2 p3 p4 : Pos} (hd : x1 ≠ x2) (h : ∀ r, Post (raw (.ref r)) (M ++ [(r, .dk [(.inr x1, dat (.str y1)), (.inr x2, dat (.str y2))])])) : EE X B (.Dict [some (.Constant (.str x1) j1 p1), some (.Constant (.str x2) j2 p2)] [.Constant (.str y1) j3 p3, .Constant (.str y2) j4 p4] pos) is M Post := fun σ G H K Q kk =>
  EW.of (pe_disp (pps_cons pe_str pe_str (pps_cons pe_str pe_str pps_nil)) rfl rfl (by simp) (by simp)) fun r hr => by
    refine ⟨upd_same, [(.inr x1, .str y1), (.inr x2, .str y2)], rfl, (by simp), ?_⟩
    have e : mergeK [] [((.inr x1 : Key), V.str y1), (.inr x2, .str y2)] = [(.inr x1, .str y1), (.inr x2, .str y2)] := by
      simp [mergeK, putK, hd]
    rw [e, upd_upd]
    exact kk _ G _ _ _ (K.push (m := .dk [(.inr x1, dat (.str y1)), (.inr x2, dat (.str y2))]) hr ⟨_, upd_same, ⟨⟨rfl, Dq.str _⟩, ⟨rfl, Dq.str _⟩, True.intro⟩⟩) (Same.refl _) rfl (h r)
end
end Q9
namespace Q9
open PySem L2 PyProof.Rows PySem.Spec
/-- {elt for tg in iter}: D the new set -/
def tSk (P : Program) (w : World) (wi : TI) (g : TG) (te : TE) (vs : List Nat) : TE := fun σ H Q => wi σ H fun J H1 => ∀ D, H1 D = none → ∃ W : Nat → Nat → Hp → Prop, (∃ m, W 0 m (upd H1 D (SetK P w D (fun _ => false) 0))) ∧ ∀ i m H, W i m H →
  (J.stop i H ∧ Q (.ref D) H) ∨ (J.go i H ∧ ∃ Nx : Hp → Prop, (∀ H', Nx H' → ∃ m', m' < m ∧ W (i + 1) m' H') ∧ ∀ x H', J.yld i H x H' → g x (wipe σ vs) H' fun σ2 H2 => wipe σ2 vs = wipe σ vs ∧
    te σ2 H2 fun y H4 => ∃ (k : Key) (S : Key → Bool) (n : Nat), y = kV k ∧ H4 D = some (SetK P w D S n) ∧ n + 1 < scanBound ∧ Nx (upd H4 D (SetK P w D (fun j => S j || decide (j = k)) (if S k = true then n else n + 1))))
section
variable {X : Cx} {elt tg iter : Expr} {sc : Scope} {own : List (Str × Nat)} {pos : Pos} {wi : TI} {g : TG} {te : TE}
theorem pe_sk (hc : X.calm = true) (hN : X.N.Nodup) (hi : PI X tg iter wi) (ok : BlkOk X.N X.env.scope sc own) (hg : BAll X sc fun Y => PG Y tg g) (he : BAll X sc fun Y => PE Y elt te)
    (hs : ∀ x, foldedSetIterable iter X.env x = pure x := by intro _; rfl) : PE X (.SetComp elt [⟨tg, iter, [], 0⟩] sc pos) (tSk X.prog X.w wi g te (own.map (·.2))) := by
  constructor
  intro pins s σ H Q I h
  have hfree : ∀ y ∈ sc.names, y.2 = .free → ∃ c, X.env.cells.lookup y.1 = some c := by
    intro y hy e
    have := ok.free y hy e
    exact I.ok.has _ (this.elim .inl .inr)
  rw [arm_eval_SetComp]
  refine wpAny_comprehension_free (use := none) rfl hs (closure_ok hfree) ok.kind (fun y hy e => by rw [ok.uniq y hy, e]) (thn (hi.run pins s σ H _ I h) fun xv s1 hx => thn hx fun itv s2 h2 => ?_)
  obtain ⟨it, fp, tn, J, H2, e, I2, T, st2, f2, q⟩ := h2
  subst e
  refine PpSet.newSet_ok (newEnv_comp ?_)
  generalize hD : s2.heap.objs.size = D
  have hDn : H2 D = none := I2.hok.fresh (Nat.le_of_eq hD)
  obtain ⟨W, ⟨m0, w0⟩, turn⟩ := q D hDn
  let s3 : Shared := { s2 with heap := s2.heap.push { cls := .type "set", dict := none, data := .set #[] 0 (.fresh 0 0 (!X.w.params.followText "set-order")) } }
  let H3 : Hp := upd H2 D (SetK X.prog X.w D (fun _ => false) 0)
  have up3 : ∀ b o, s2.heap.get? b = some o → s3.heap.get? b = some o := fun b o e => Heap.get?_push_of_some _ e
  have new : s3.heap.SetOf (mixKind X.prog X.w) D (fun _ => false) 0 :=
    ⟨_, #[], 0, _, hD ▸ Heap.get?_push_size _ rfl, ⟨rfl, rfl, rfl⟩, rfl, (fun e he => by simp at he), (fun k => by simp), (by decide), (by rfl), rfl⟩
  have I3 : Inv X pins σ H3 s3 := I2.laid (t' := s2.toks) up3 (Nat.le_of_eq hD) (setK_new new)
  have sz : ∀ b ∈ fp, b < s2.heap.objs.size := by
    intro b hb
    obtain ⟨o, e, _⟩ := T.obj _ _ st2 b hb
    exact Heap.lt_size e
  have z3 : s3.heap.objs.size = s2.heap.objs.size + 1 := Heap.size_push ..
  have n3 : ∀ b ∈ fp, H3 b = none := by
    intro b hb
    show upd H2 D (SetK X.prog X.w D (fun _ => false) 0) b = none
    rw [upd_ne (by rw [← hD]; exact Nat.ne_of_lt (sz b hb))]
    exact (f2 b hb).1
  have f3 : ∀ b ∈ fp, FpOk X pins H3 b ∧ b < s3.heap.objs.size := fun b hb => ⟨⟨n3 b hb, (f2 b hb).2⟩, by rw [z3]; exact Nat.lt_succ_of_lt (sz b hb)⟩
  have I4 := block_start I3 ok hN f3
  have st3 : tn 0 s3.heap := T.keep _ _ _ st2 fun b _ o => up3 b o
  have pg := hg s3 H3 s3.heap.objs.size (cellsFrom (s3.heap.objs.size + 1) sc.names (cloFrom X.env.cells sc.names [])) fp
  have pe := he s3 H3 s3.heap.objs.size (cellsFrom (s3.heap.objs.size + 1) sc.names (cloFrom X.env.cells sc.names [])) fp
  change codeAny _ _ (.compStart (.SetComp elt [⟨tg, iter, [], 0⟩] sc pos) 0 (.ref it) (.ref D) (blkAt X sc s3 H3 fp).env) (compPost (model X.prog X.w) X.A X.xe none (EP X pins σ Q) (.ref D) s3.heap.objs.size) { s3 with heap := pushCells (s3.heap.push { cls := .type "dict", data := .dict #[] }) sc.names }
  change PG (blkAt X sc s3 H3 fp) tg g at pg
  change PE (blkAt X sc s3 H3 fp) elt te at pe
  change Inv (blkAt X sc s3 H3 fp) [] _ H3 _ at I4
  have xe0 : (blkAt X sc s3 H3 fp).xe = fun _ _ => False := rfl
  have hB : (blkAt X sc s3 H3 fp).prog = X.prog ∧ (blkAt X sc s3 H3 fp).w = X.w ∧ (blkAt X sc s3 H3 fp).K = X.K ∧ (blkAt X sc s3 H3 fp).calm = true ∧ (blkAt X sc s3 H3 fp).A = X.A := ⟨rfl, rfl, rfl, hc, rfl⟩
  have back : ∀ {σ' : L2.St} {H' : Hp} {s' : Shared}, Inv (blkAt X sc s3 H3 fp) [] σ' H' s' → Inv X pins σ H' s' ∧ H' s3.heap.objs.size = none ∧ ∃ m, s'.heap.Ns s3.heap.objs.size m := fun {σ' H' s'} I' => by
    refine ⟨I3.call' (ch := fp) I'.os I'.base I'.hok I'.bare fun b hb => ⟨(f3 b hb).1.2.2.2.1, (f3 b hb).1.2.1, (f3 b hb).1.2.2.2.2.1, (f3 b hb).1.2.2.2.2.2⟩, I'.free, ?_⟩
    obtain ⟨m, hn, _⟩ := I'.loc
    exact ⟨m, hn⟩
  have fps : ∀ {σ' : L2.St} {H' : Hp} {s' : Shared}, Inv (blkAt X sc s3 H3 fp) [] σ' H' s' → (∀ b ∈ fp, H' b = none) → ∀ b ∈ fp, FpOk (blkAt X sc s3 H3 fp) [] H' b := fun {σ' H' s'} I' hn b hb =>
    ⟨hn b hb, (I'.ok.exf b hb).1, I'.ok.exfs b hb, .inl hb, fun x c e => (I'.ok.exf b hb).2 x c e, fun p hp => by rw [List.append_nil] at hp; cases (show p ∈ ([] : List (Addr × Obj)) from hp)⟩
  have w0' : W 0 m0 H3 := w0
  have stP : tn 0 (pushCells (s3.heap.push { cls := .type "dict", data := .dict #[] }) sc.names) := T.keep _ _ _ st3 fun b _ o e => pushCells_keeps _ _ _ _ (Heap.get?_push_of_some _ e)
  clear_value H3 s3
  generalize hY : blkAt X sc s3 H3 fp = Y at *
  obtain ⟨yP, yw, yK, yc, yA⟩ := hB
  generalize hs4 : ({ s3 with heap := pushCells (s3.heap.push { cls := .type "dict", data := .dict #[] }) sc.names } : Shared) = s4 at I4 ⊢
  have st4 : tn 0 s4.heap := hs4 ▸ stP
  let Jn : Nat → Shared → Prop := fun n z => ∃ i H', Inv Y [] (wipe σ (own.map (·.2))) H' z ∧ tn i z.heap ∧ (∀ b ∈ fp, H' b = none) ∧ W i n H'
  have loop : codeAny (model X.prog X.w) X.A (.compLoop (.SetComp elt [⟨tg, iter, [], 0⟩] sc pos) 0 (.ref it) (.ref D) Y.env) (compPost (model X.prog X.w) X.A X.xe none (EP X pins σ Q) (.ref D) s3.heap.objs.size) s4 := by
    refine PpSet.compLoopS_any Jn (fun n s5 ⟨i, H5, I5, st5, n5, w5⟩ => ?_) m0 ⟨0, H3, I4, st4, n3, w0'⟩
    have m5 := fps I5 n5
    rcases turn i n H5 w5 with ⟨stop, qq⟩ | ⟨go, Nx, hNx, step⟩
    · have td := T.done Y yP yw yK yc i [] s5 _ H5 (fun _ _ => False) I5 m5 st5 stop
      rw [yA] at td
      refine thnF td fun r s6 ⟨hr, I6⟩ => ?_
      subst hr
      obtain ⟨I7, nC, m, hn⟩ := back I6
      obtain ⟨g0, g1', g2, g3, g4, g5⟩ := I3.fpOk (H' := H5) (Nat.le_refl _) nC
      exact ⟨m, hn, fun h'' sb => ⟨.ref D, H5, I7.turned (t' := s6.toks) (fun b o hb e => (sb.2 b hb).trans e) g0 g1' g3 g4 g5, rfl, qq⟩⟩
    · have ti := T.item Y yP yw yK yc i [] s5 _ H5 (fun _ _ => False) I5 m5 st5 go
      rw [yA] at ti
      refine thnF ti fun r s6 ⟨u, hr, h6⟩ => ?_
      subst hr
      refine thnF h6 fun _ s7 ⟨x, H7, I7, r7, y7, st7, n7⟩ => ?_
      have I7' := I7.pinned (fps I7 n7) (T.obj _ _ st7)
      have ga := pg.run _ s7 _ H7 x u _ I7' r7 (step x H7 y7)
      rw [yA, yP, yw, xe0] at ga
      refine thnF ga fun _ s8 ⟨σ8, H8, I8, hw8, q8⟩ => ?_
      refine wpAny_pure ?_
      rw [if_pos rfl]
      have eb := pe.run _ s8 σ8 H8 _ I8 q8
      rw [yA, yP, yw, xe0] at eb
      refine thnF eb fun z s9 ⟨yv, H9, I9, r9, kk, S, nn, ek, hD9, hz9, nx⟩ => ?_
      subst ek
      have ad := mt_saddK (X := Y) _ s9 σ8 H9 (.ref D) [kV kk] (.ref D) [z] (fun _ H' => H' = upd H9 D (SetK Y.prog Y.w D (fun j => S j || decide (j = kk)) (if S kk = true then nn else nn + 1))) I9 rfl (.cons r9 .nil) ⟨D, kk, S, nn, rfl, rfl, by rw [yP, yw]; exact hD9, hz9, rfl⟩
      rw [yA, yP, yw, xe0] at ad
      refine thnF ad fun _ z ⟨_, H', I', _, eH⟩ => ?_
      subst eH
      obtain ⟨m', hm, w'⟩ := hNx _ nx
      have stay : ∀ b ∈ fp, ∀ o, s7.heap.get? b = some o → z.heap.get? b = some o ∧ _ = none := fun b hb o e =>
        let t := I'.pin (b, o) (List.mem_append_right _ (List.mem_append_right _ (mem_pinsAt hb e)))
        ⟨t.1, t.2.1⟩
      refine ⟨m', hm, i + 1, _, (I'.unpinned (pins := [])).weak (by rw [← hw8, wipe_length]) (fun j v e => by rw [← hw8] at e; exact (wipe_some e).1), T.keep _ _ _ st7 fun b hb o e => (stay b hb o e).1, fun b hb => ?_, w'⟩
      obtain ⟨o, e, _⟩ := T.obj _ _ st7 b hb
      exact (stay b hb o e).2
  exact PpSet.codeAny_compStart_set loop (T.self X.A 0 _ _ _ st4 loop)
theorem call_lenK : CallR X (.builtin "len") (fun xs H Q => ∃ a S n, xs = [V.ref a] ∧ H a = some (SetK X.prog X.w a S n) ∧ Q (.int (n : Nat)) H) := by
  intro pins s σ H xs us Q I r ⟨a, S, n, ex, ha, q⟩
  subst ex
  rw [Vals.ref1 r]
  obtain ⟨o, es, ep, t, ho, hex, hd, _, _, hb, hf, hn⟩ := setK_get I ha
  have hz : es.size < 4096 := hb
  exact call_len_set ho hex hd hf (by omega) ⟨.int (n : Nat), H, I.tok _, ⟨_, by rw [hn]⟩, q⟩
variable {B : Bs} {is : Is} {M : MS} {Post : Pr → MS → Prop}
/-- how many -/
def cnt (S : List Str) : Nat := S.eraseDups.length
/-- len({elt for tg in iter}), elt a text -/
theorem ee_lenset {p pos2 : Pos} (N0 : List Str) (sc0 : Scope) (own : List (Str × Nat)) {α : Type} (xs : List α) (f : α → Pr) (gt : α → Str) (hc : X.calm = true) (hN : X.N.Nodup) (hb : blkC N0 sc0 sc own = true) (hm : X.mg "len" = none)
    (h : II X B tg iter is M fun ps M1 => ps = xs.map f ∧ xs.length ≤ 1000 ∧ (∀ (L : Addr) (x : α), x ∈ xs → ∀ M0, (∀ (i : Nat) z, M1[i]? = some z → M0[i]? = some z) → BAll X sc fun X1 => GG X1 B (own.map (·.2)) tg (f x) (wipeI is (own.map (·.2))) M0 fun is2 M2 => M2 = M0 ∧
      BAll X sc fun X3 => EE X3 B elt is2 M0 fun q M4 => M4 = M0 ∧ q = dat (.str (gt x))) ∧ ∀ n : Nat, (n = xs.length ↔ (xs.map gt).Nodup) → Post (dat (.int n)) M1)
    (hg : Gl X "len" := by rfl) (hs : ∀ x, foldedSetIterable iter X.env x = pure x := by intro _; rfl) (hN0 : X.N = N0 := by rfl) (hs0 : X.env.scope = sc0 := by rfl)
    (he : starEach [Expr.SetComp elt [⟨tg, iter, [], 0⟩] sc pos] X.env = (false, eval (Expr.SetComp elt [⟨tg, iter, [], 0⟩] sc pos) X.env) :: starEach [] X.env := by rfl) (hpl : (backTo pos2 (starEach [] X.env)).any (·.1) = false := by rfl) :
    EE X B (.Call (.Name "len" p) [.SetComp elt [⟨tg, iter, [], 0⟩] sc pos] [] pos2) is M Post := fun σ G H K Q k => by
  subst hN0
  subst hs0
  refine EW.of (pe_callB call_lenK hg hm PySem.boot_len (pa_cons (pe_sk (own := own) hc hN pi_w (blkOk_by hb) bg be hs) pa_nil he) (by decide) (by decide) he hpl) ?_
  refine h σ G H K _ fun J G1 H1 ps M1 K1 g1 wk ⟨ep, hz, hst, hd⟩ D hD => ?_
  have nt : ∀ S n vs, SetK X.prog X.w D S n ≠ .tup vs := fun S n vs z => nomatch z
  have KL := K1.push (o := SetK X.prog X.w D (fun _ => false) 0) (m := .oth (SetK X.prog X.w D (fun _ => false) 0)) hD ⟨upd_same, nt _ _⟩
  refine ⟨fun i m H' => m + i = ps.length ∧ ∃ (G' : Hp) (S : Key → Bool) (n : Nat), Ok B σ G' H' is (M1 ++ [(D, .oth (SetK X.prog X.w D S n))]) ∧ Same G1 G' ∧ n ≤ i ∧ (∀ k, S k = true ↔ k ∈ (xs.take i).map fun x => Sum.inr (gt x)) ∧ (n = i ↔ ((xs.take i).map gt).Nodup), ⟨ps.length, rfl, G1, _, 0, KL, Same.refl _, Nat.le_refl _, fun k => by simp, by simp⟩, fun i m H' ⟨em, G', S, n, K', g', hle, hS, hn⟩ => ?_⟩
  subst ep
  obtain ⟨w1, w2⟩ := wk G' H' g' K'.kn
  by_cases hi : i < (xs.map f).length
  · have hix : i < xs.length := by rwa [List.length_map] at hi
    obtain ⟨go, yl⟩ := w1 i (f xs[i]) (by rw [List.getElem?_map, List.getElem?_eq_getElem hix]; rfl)
    refine .inr ⟨go, fun H2 => ∃ (G' : Hp) (S : Key → Bool) (n : Nat), Ok B σ G' H2 is (M1 ++ [(D, .oth (SetK X.prog X.w D S n))]) ∧ Same G1 G' ∧ n ≤ i + 1 ∧ (∀ k, S k = true ↔ k ∈ (xs.take (i + 1)).map fun x => Sum.inr (gt x)) ∧ (n = i + 1 ↔ ((xs.take (i + 1)).map gt).Nodup), fun H2 q => ⟨m - 1, by omega, by omega, q⟩, fun x H2 hy s HH C cl fp => ?_⟩
    obtain ⟨G2, y1, y2, y3, y4, y5⟩ := yl x H2 hy
    have K2 := (K'.ext y1 y2 y3 y4).wipe (own.map (·.2))
    have l2 : SL G2 is σ := K'.loc.mono y1
    refine hst D xs[i] (List.getElem_mem hix) (M1 ++ [(D, .oth (SetK X.prog X.w D S n))]) (fun i z hz => by rw [List.getElem?_append_left (List.getElem?_eq_some_iff.mp hz).1]; exact hz) s HH C cl fp _ G2 H2 K2 x y5 _ fun σ3 G3 H3 is3 M3 K3 g3 e3 ⟨eM, h3⟩ => ?_
    subst eM
    refine ⟨e3.trans (wipe_wipe σ _), fun s HH C cl fp => ?_⟩
    refine h3 s HH C cl fp σ3 G3 H3 K3 _ fun y G8 H8 a M8 K8 g8 q8 ⟨eM8, ea⟩ => ?_
    subst eM8
    subst ea
    have ey := dat_str.mp q8
    obtain ⟨h8, _⟩ := K8.at (a := D) (i := M1.length) (m := .oth (SetK X.prog X.w D S n)) at_end
    have et : xs.take (i + 1) = xs.take i ++ [xs[i]] := by rw [List.take_add_one, List.getElem?_eq_getElem hix]; rfl
    refine ⟨.inr (gt xs[i]), S, n, ey, h8, by unfold scanBound; rw [List.length_map] at hi; omega, G8, (fun j => S j || decide (j = .inr (gt xs[i]))), (if S (.inr (gt xs[i])) = true then n else n + 1), ?_, ((g'.trans y1).trans g3).trans g8, ?_, fun k => ?_, ?_⟩
    · have KW := K8.write (i := M1.length) (o := SetK X.prog X.w D (fun j => S j || decide (j = .inr (gt xs[i]))) (if S (.inr (gt xs[i])) = true then n else n + 1)) (m' := .oth (SetK X.prog X.w D (fun j => S j || decide (j = .inr (gt xs[i]))) (if S (.inr (gt xs[i])) = true then n else n + 1))) at_end ⟨upd_same, nt _ _⟩ (fun hw => absurd hw (K8.notW h8 fun z => z))
      rw [set_end] at KW
      exact KW.slots (l2.mono (g3.trans g8))
    · split <;> omega
    · show (S k || decide (k = .inr (gt xs[i]))) = true ↔ _
      rw [et, List.map_append, List.mem_append, Bool.or_eq_true, hS k, decide_eq_true_eq, List.map_singleton, List.mem_singleton]
    · rw [et, List.map_append, List.map_singleton, List.nodup_append]
      have e1 : S (.inr (gt xs[i])) = true ↔ gt xs[i] ∈ (xs.take i).map gt := by
        rw [hS]
        constructor
        · intro z
          obtain ⟨x, hx, e⟩ := List.mem_map.mp z
          exact List.mem_map.mpr ⟨x, hx, Sum.inr.inj e⟩
        · intro z
          obtain ⟨x, hx, e⟩ := List.mem_map.mp z
          exact List.mem_map.mpr ⟨x, hx, congrArg Sum.inr e⟩
      by_cases hm : S (.inr (gt xs[i])) = true
      · rw [if_pos hm]
        constructor
        · intro z
          omega
        · rintro ⟨_, _, z⟩
          exact absurd rfl (z _ (e1.mp hm) _ (List.mem_singleton.mpr rfl))
      · rw [if_neg hm]
        constructor
        · intro z
          refine ⟨hn.mp (by omega), (by simp), fun a ha b hb e => ?_⟩
          rw [List.mem_singleton.mp hb] at e
          exact hm (e1.mpr (e ▸ ha))
        · rintro ⟨z, _, _⟩
          have := hn.mpr z
          omega
  · have e : i = xs.length := by rw [List.length_map] at hi em; omega
    subst e
    obtain ⟨h8, _⟩ := K'.at (a := D) (i := M1.length) (m := .oth (SetK X.prog X.w D S n)) at_end
    refine .inl ⟨w2 _ (by rw [List.length_map]; exact Nat.le_refl _), D, S, n, rfl, h8, ?_⟩
    rw [List.take_length] at hn
    have K3 : Ok B σ G' H' is M1 := ⟨K'.kn, K'.g0, K'.h0, K'.fr, K'.loc, fun x hx => K'.mok x (List.mem_append_left _ hx), by
      have := K'.nd
      rw [List.map_append] at this
      exact (List.nodup_append.mp this).1, K'.bw⟩
    exact k _ _ _ _ M1 K3 (g1.trans g') (Dq.int _) (hd n hn)
end
end Q9
namespace Q9
open PySem L2
/-- a step of the description alone -/
def Gh (B : Bs) (M : MS) (p : Pr) (M' : MS) (p' : Pr) : Prop := ∀ (σ : L2.St) (G H : Hp) (is : Is) (v : V), Ok B σ G H is M → p.p v G → ∃ G', Ok B σ G' H is M' ∧ Same G G' ∧ p'.p v G'
section
variable {X : Cx} {B : Bs} {is : Is} {M : MS} {Post : Pr → MS → Prop} {TPost : Bool → MS → Prop} {IPost : List Pr → MS → Prop} {D : En} {a b c e tg iter o i elt : Expr} {es : List Expr} {pos : Pos}
theorem EE.gh (h : EE X B e is M fun p M1 => ∃ M2 p', Gh B M1 p M2 p' ∧ Post p' M2) : EE X B e is M Post := fun σ G H K Q k =>
  h σ G H K Q fun v G1 H1 p M1 K1 g1 q1 ⟨M2, p', gh, hp⟩ => by
    obtain ⟨G2, K2, g2, q2⟩ := gh σ G1 H1 is v K1 q1
    exact k v G2 H1 p' M2 K2 (g1.trans g2) q2 hp
/-- a list of two numbers becomes a draws' state -/
theorem Gh.src {a : Addr} {x y : Int} {p : Pr} (h : SrcOk x y) (hM : ∃ M0, M = M0 ++ [(a, .lst [dat (.int x), dat (.int y)])]) : Gh B M p (M.dropLast ++ [(a, .src)]) p := fun σ G H is v K q => by
  obtain ⟨M0, e⟩ := hM
  subst e
  obtain ⟨vs, h1, h2⟩ := K.at (a := a) (i := M0.length) (m := .lst [dat (.int x), dat (.int y)]) at_end
  match vs, h2 with
  | [v1, v2], ⟨q1, q2, _⟩ =>
    have e1 := dat_int.mp q1
    have e2 := dat_int.mp q2
    subst e1; subst e2
    rw [List.dropLast_concat]
    refine ⟨G, ⟨K.kn, K.g0, K.h0, K.fr, K.loc, fun z hz => ?_, ?_, K.bw⟩, Same.refl _, q⟩
    · rcases List.mem_append.mp hz with hz | hz
      · exact K.mok z (List.mem_append_left _ hz)
      · rw [List.mem_singleton] at hz
        subst hz
        obtain ⟨_, m2, m3⟩ := K.mok (a, .lst [dat (.int x), dat (.int y)]) (List.mem_append_right _ List.mem_cons_self)
        exact ⟨⟨x, y, h1, h⟩, m2, m3⟩
    · have := K.nd
      rw [List.map_append] at this ⊢
      exact this
theorem ee_src0 (h : EE X B o is M fun p M1 => ∃ (a : Addr) (j : Nat), p = raw (.ref a) ∧ M1[j]? = some (a, MO.src) ∧ ∀ x : Int, 0 ≤ x → Post (dat (.int x)) M1) {k : Nat} {p1 : Pos} : EE X B (.Subscript o (.Constant (.int 0) k p1) pos) is M Post := fun σ G H K Q kk =>
  EW.of (pe_ix ix_list pe_w pe_int (by exact fun _ _ => rfl)) (h σ G H K _ fun v G1 H1 p M1 K1 g1 q1 ⟨a, j, e1, hj, hp⟩ => by
    subst e1
    obtain ⟨x, y, h1, h2⟩ := K1.at hj
    exact ⟨a, _, 0, .int x, q1, rfl, SqL.of h1, rfl, kk _ G1 H1 _ M1 K1 g1 (Dq.int x) (hp x h2.1)⟩)
theorem ee_src1 (h : EE X B o is M fun p M1 => ∃ (a : Addr) (j : Nat), p = raw (.ref a) ∧ M1[j]? = some (a, MO.src) ∧ ∀ x : Int, 0 ≤ x → x < 2147483647 → Post (dat (.int x)) M1) {k : Nat} {p1 : Pos} : EE X B (.Subscript o (.Constant (.int 1) k p1) pos) is M Post := fun σ G H K Q kk =>
  EW.of (pe_ix ix_list pe_w pe_int (by exact fun _ _ => rfl)) (h σ G H K _ fun v G1 H1 p M1 K1 g1 q1 ⟨a, j, e1, hj, hp⟩ => by
    subst e1
    obtain ⟨x, y, h1, h2⟩ := K1.at hj
    exact ⟨a, _, 1, .int y, q1, rfl, SqL.of h1, rfl, kk _ G1 H1 _ M1 K1 g1 (Dq.int y) (hp y h2.2.1 h2.2.2)⟩)
theorem set_same {M : MS} {j : Nat} {x : Addr × MO} (h : M[j]? = some x) : M.set j x = M := by
  apply List.ext_getElem?
  intro i
  by_cases e : j = i
  · subst e
    rw [List.getElem?_set_self (List.getElem?_eq_some_iff.mp h).1, h]
  · rw [List.getElem?_set_ne e]
/-- o[0] = x, o[1] = y of a draws' state -/
theorem gg_src {vs : List Nat} {p : Pr} {GPost : Is → MS → Prop} (n : Nat) (hn : n < 2) (h : EE X B o is M fun q M1 => ∃ (a : Addr) (j : Nat) (x : Int), q = raw (.ref a) ∧ M1[j]? = some (a, MO.src) ∧ p = dat (.int x) ∧ (if n = 0 then 0 ≤ x else 0 ≤ x ∧ x < 2147483647) ∧ GPost is M1) {k : Nat} {p1 : Pos}
    (ha : ∀ z, assign (.Subscript o (.Constant (.int n) k p1) pos) X.env z = (do
      let q ← holding [z] (eval o X.env)
      let r ← holding [z, q] (eval (.Constant (.int n) k p1) X.env)
      standAt pos
      holding [z, q, r] (setItem q r z)
      release [z, q, r] []) := by intro _; rfl) : GG X B vs (.Subscript o (.Constant (.int n) k p1) pos) p is M GPost := fun σ G H K v hp Q kk =>
  GW.of (pg_sub pe_w pe_int set_list ha) (h σ G H K _ fun x G1 H1 q M1 K1 g1 q1 ⟨a, j, z, e1, hj, e2, hz, hq⟩ => by
    subst e1; subst e2
    obtain ⟨x0, y0, h1, h2⟩ := K1.at hj
    have ev := dat_int.mp hp
    subst ev
    rcases Nat.lt_or_ge n 1 with hn1 | hn1
    · have e0 : n = 0 := by omega
      subst e0
      rw [if_pos rfl] at hz
      refine ⟨a, _, 0, 0, q1, rfl, h1, rfl, ?_⟩
      have K2 := K1.write (o := .lst [.int z, .int y0]) (m' := .src) hj ⟨z, y0, upd_same, hz, h2.2⟩ (fun _ => True.intro)
      rw [set_same hj] at K2
      exact kk σ G1 _ is M1 K2 g1 rfl hq
    · have e0 : n = 1 := by omega
      subst e0
      rw [if_neg (by decide)] at hz
      refine ⟨a, _, 1, 1, q1, rfl, h1, rfl, ?_⟩
      have K2 := K1.write (o := .lst [.int x0, .int z]) (m' := .src) hj ⟨x0, z, upd_same, h2.1, hz⟩ (fun _ => True.intro)
      rw [set_same hj] at K2
      exact kk σ G1 _ is M1 K2 g1 rfl hq)
/-- xs.pop(n) -/
theorem ee_pop {apos : Pos} (h : EE X B o is M fun p M1 => ∃ (a : Addr) (j : Nat) (ps0 : List Pr), p = raw (.ref a) ∧ M1[j]? = some (a, MO.lst ps0) ∧ EE X B e is M1 fun q M2 => ∃ (ps : List Pr) (n : Nat) (r : Pr), M2[j]? = some (a, MO.lst ps) ∧ q = dat (.int n) ∧ n < 100000 ∧ ps[n]? = some r ∧ Post r (M2.set j (a, .lst (ps.eraseIdx n))))
    (hs : starEach [e] X.env = (false, eval e X.env) :: starEach [] X.env := by rfl) (hpl : (backTo pos (starEach [] X.env)).any (·.1) = false := by rfl) (hbase : attributeBase o "pop" X.env (eval o X.env) = eval o X.env := by rfl) (hline : (apos.endLine == pos.line) = true := by rfl)
    (hpe : ∀ {to : TE} {t : TA}, PE X o to → PA X [e] t → PE X (.Call (.Attribute o "pop" apos) [e] [] pos) (tBM X.K "list" rPopAt to t) := by exact fun h1 h2 => pe_bm PySem.F.plainAttrs_list PySem.F.slot_list_pop PySem.F.type_list_pop mt_popAt h1 h2) : EE X B (.Call (.Attribute o "pop" apos) [e] [] pos) is M Post := fun σ G H K Q k =>
  EW.of (hpe pe_w (pa_cons pe_w pa_nil hs)) (h σ G H K _ fun v G1 H1 p M1 K1 g1 q1 ⟨a, j, ps0, e1, hj, h1⟩ => by
    subst e1
    have e : v = .ref a := q1
    subst e
    obtain ⟨vs0, hv0, _⟩ := K1.at hj
    refine ⟨.inl ⟨rfl, _, SqL.of hv0⟩, h1 σ G1 H1 K1 _ fun w G2 H2 q M2 K2 g2 q2 ⟨ps, n, r, hj2, eq, hz, hr, h2⟩ => ?_⟩
    subst eq
    have ew := dat_int.mp q2
    subst ew
    obtain ⟨vs, hv, hq⟩ := K2.at hj2
    obtain ⟨y, hy, qy⟩ := hq.get hr
    have hlt : n < vs.length := (List.getElem?_eq_some_iff.mp hy).1
    refine ⟨a, vs, n, n, y, rfl, rfl, hv, by omega, by omega, ?_, hy, k y G2 _ r _ (K2.write (m' := .lst (ps.eraseIdx n)) hj2 ⟨_, upd_same, hq.eraseIdx n⟩ (fun _ => True.intro)) (g1.trans g2) qy h2⟩
    have e0 : ¬ ((n : Int) < 0) := by omega
    simp [seqIndex?, e0, hlt])
/-- xs.insert(n, y) -/
theorem ee_insert {apos : Pos} {e2 : Expr} (h : EE X B o is M fun p M1 => ∃ (a : Addr) (j : Nat) (ps0 : List Pr), p = raw (.ref a) ∧ M1[j]? = some (a, MO.lst ps0) ∧ AA X B [e, e2] is M1 fun qs M2 => ∃ (ps : List Pr) (n : Nat) (r : Pr), M2[j]? = some (a, MO.lst ps) ∧ qs = [dat (.int n), r] ∧ n < 100000 ∧ ps.length ≤ 100000 ∧ Post (dat .none) (M2.set j (a, .lst (ps.take n ++ [r] ++ ps.drop n))))
    (hs : starEach [e, e2] X.env = (false, eval e X.env) :: starEach [e2] X.env := by rfl) (hbase : attributeBase o "insert" X.env (eval o X.env) = eval o X.env := by rfl) (hline : (apos.endLine == pos.line) = true := by rfl)
    (hpe : ∀ {to : TE} {t : TA} {r : V → List V → Hp → VK → Prop}, MtR X "list.insert" r → PE X o to → PA X [e, e2] t → PE X (.Call (.Attribute o "insert" apos) [e, e2] [] pos) (tBM X.K "list" r to t) := by exact fun h0 h1 h2 => pe_bm PySem.F.plainAttrs_list PySem.F.slot_list_insert PySem.F.type_list_insert h0 h1 h2) : EE X B (.Call (.Attribute o "insert" apos) [e, e2] [] pos) is M Post := fun σ G H K Q k =>
  EW.of (hpe mt_insert pe_w pa_w) (h σ G H K _ fun v G1 H1 p M1 K1 g1 q1 ⟨a, j, ps0, e1, hj, h1⟩ => by
    subst e1
    have e : v = .ref a := q1
    subst e
    obtain ⟨vs0, hv0, _⟩ := K1.at hj
    refine ⟨.inl ⟨rfl, _, SqL.of hv0⟩, h1 σ G1 H1 K1 _ fun ws G2 H2 qs M2 K2 g2 q2 ⟨ps, n, r, hj2, eq, hz, hl, h2⟩ => ?_⟩
    subst eq
    match ws, q2 with
    | [w, y], ⟨qw, qy, _⟩ =>
      have ew := dat_int.mp qw
      subst ew
      obtain ⟨vs, hv, hq⟩ := K2.at hj2
      have hlen := hq.length
      refine ⟨a, vs, n, y, rfl, rfl, hv, Nat.lt_of_le_of_lt (by omega : vs.length ≤ 100000) (by decide), by omega, by omega, ?_⟩
      rw [Int.toNat_natCast]
      exact k .non G2 _ _ _ (K2.write (m' := .lst (ps.take n ++ [r] ++ ps.drop n)) hj2 ⟨_, upd_same, ((hq.take n).app (qs := [r]) (ws := [y]) ⟨qy, True.intro⟩).app (hq.drop n)⟩ (fun _ => True.intro)) (g1.trans g2) Dq.non h2)
open PySem.W (Datum) in
/-- xs.index(y), y is there -/
theorem ee_index {apos : Pos} {α : Type} [DecidableEq α] [Datum α] (hu : X.A.units + 64 < cLine) (hd : Datum.depth α ≤ 50) (h : EE X B o is M fun p M1 => ∃ zs : List α, p = dat (.list (zs.map Datum.toD)) ∧ EE X B e is M1 fun q M2 => ∃ z : α, q = dat (Datum.toD z) ∧ z ∈ zs ∧ zs.length ≤ 100000 ∧ Post (dat (.int (zs.idxOf z : Nat))) M2)
    (hs : starEach [e] X.env = (false, eval e X.env) :: starEach [] X.env := by rfl) (hpl : (backTo pos (starEach [] X.env)).any (·.1) = false := by rfl) (hbase : attributeBase o "index" X.env (eval o X.env) = eval o X.env := by rfl) (hline : (apos.endLine == pos.line) = true := by rfl)
    (hpe : ∀ {to : TE} {t : TA} {r : V → List V → Hp → VK → Prop}, MtR X "list.index" r → PE X o to → PA X [e] t → PE X (.Call (.Attribute o "index" apos) [e] [] pos) (tBM X.K "list" r to t) := by exact fun h0 h1 h2 => pe_bm PySem.F.plainAttrs_list PySem.F.slot_list_index PySem.F.type_list_index h0 h1 h2) : EE X B (.Call (.Attribute o "index" apos) [e] [] pos) is M Post := fun σ G H K Q k =>
  EW.of (hpe (mt_indexQ (α := α) hu hd) pe_w (pa_cons pe_w pa_nil hs)) (h σ G H K _ fun v G1 H1 p M1 K1 g1 q1 ⟨zs, e1, h1⟩ => by
    subst e1
    obtain ⟨a, vs, e, hg, hq⟩ := dat_lst.mp q1
    subst e
    refine ⟨.inl ⟨rfl, _, SqL.of (K1.kn _ _ hg)⟩, h1 σ G1 H1 K1 _ fun w G2 H2 q M2 K2 g2 q2 ⟨z, eq, hz, hl, h2⟩ => ?_⟩
    subst eq
    exact ⟨a, w, z, zs, rfl, rfl, dp_of K2.kn (Dq.mono g2 _ _ q1), dp_of K2.kn q2, hz, hl, k _ G2 H2 _ M2 K2 (g1.trans g2) (Dq.int _) h2⟩)
/-- xs[::-1] -/
theorem ee_rev {k : Nat} {p1 p2 p3 : Pos} (h : EE X B e is M fun p M1 => ∃ ds : List PyData, LsP M1 p (ds.map dat) ∧ Post (dat (.list ds.reverse)) M1) : EE X B (.Subscript e (.Slice none none (some (.UnaryOp .USub (.Constant (.int 1) k p1) p2)) p3) pos) is M Post := fun σ G H K Q kk =>
  EW.of (pe_revL pe_w) (h σ G H K _ fun v G1 H1 p M1 K1 g1 q1 ⟨ds, l, h1⟩ => by
    obtain ⟨a, vs, e, h2, h3⟩ := l.at K1 q1
    refine ⟨a, vs, e, SqL.of h2, fun r hr => ?_⟩
    obtain ⟨K2, g2⟩ := K1.new (o := .lst vs.reverse) hr
    have rv : ∀ {ds : List PyData} {vs : List V}, DqL G1 ds vs → DqL G1 ds.reverse vs.reverse := by
      intro ds
      induction ds with
      | nil => intro vs q; cases q; exact .nil
      | cons d ds ih =>
        intro vs q
        cases q with
        | cons q t =>
          rw [List.reverse_cons, List.reverse_cons]
          have := (PL.dats.mpr (ih t)).app (PL.dats.mpr (DqL.cons q DqL.nil))
          rw [← List.map_append] at this
          exact PL.dats.mp this
    exact kk _ _ _ _ M1 K2 (g1.trans g2) (Dq.lst upd_same (DqL.mono g2 _ _ (rv (PL.dats.mp h3)))) h1)
/-- ''.join(xs) -/
theorem ee_join {apos p0 : Pos} {j0 : Nat} (h : EE X B e is M fun p M1 => ∃ ys : List Str, LsP M1 p ((ys.map PyData.str).map dat) ∧ ys.length ≤ 1000 ∧ (∀ y ∈ ys, y.length ≤ 1000) ∧ Post (dat (.str (Txt.join "" ys))) M1) (hs : starEach [e] X.env = [(false, eval e X.env)] := by rfl)
    (hbase : attributeBase (.Constant (.str "") j0 p0) "join" X.env (eval (.Constant (.str "") j0 p0) X.env) = eval (.Constant (.str "") j0 p0) X.env := by rfl) (hline : (apos.endLine == pos.line) = true := by rfl) : EE X B (.Call (.Attribute (.Constant (.str "") j0 p0) "join" apos) [e] [] pos) is M Post := fun σ G H K Q k =>
  EW.of (pe_join pe_str pe_w hs hbase hline) ⟨⟨"", rfl⟩, h σ G H K _ fun v G1 H1 p M1 K1 g1 q1 ⟨ys, l, hl, hy, h1⟩ => by
    obtain ⟨a, vs, e, h2, h3⟩ := l.at K1 q1
    subst e
    rw [dats_map (fun y : Str => PyData.str y) ys |>.symm] at h3
    have e2 := strs_of h3
    subst e2
    refine ⟨"", a, ys, rfl, rfl, .inl (SqL.of h2), ?_, k _ G1 H1 _ M1 K1 g1 (Dq.str _) h1⟩
    have go : ∀ ys : List Str, (∀ y ∈ ys, y.length ≤ 1000) → (ys.map (·.length)).sum ≤ 1000 * ys.length := by
      intro ys
      induction ys with
      | nil => intro _; simp
      | cons y ys ih =>
        intro h
        rw [List.map_cons, List.sum_cons, List.length_cons]
        have h1 := h y List.mem_cons_self
        have h2 := ih fun z hz => h z (List.mem_cons_of_mem _ hz)
        omega
    have := go ys hy
    have e0 : ("" : Str).length = 0 := rfl
    rw [e0]
    omega⟩
theorem wlk_keys {d : Addr} {o : Obj} {kvs : List (List Key × Pr)} {us : List (List Key × V)} {G1 : Hp} (h : G1 d = some (.frz o (.dT us))) (q : KP G1 kvs us) : Wlk (Itkt d o us) G1 (kvs.map fun kv => dat (.tuple (kv.1.map kD))) := fun G H g k => by
  have hH := k _ _ (g _ _ h)
  have hl := q.length
  refine ⟨fun i p hp => ?_, fun i hi => ⟨hH, by rw [← hl]; rw [List.length_map] at hi; exact hi⟩⟩
  rw [List.getElem?_map] at hp
  obtain ⟨kv, hkv, ep⟩ := Option.map_eq_some_iff.mp hp
  subst ep
  have hi : i < us.length := hl ▸ (List.getElem?_eq_some_iff.mp hkv).1
  refine ⟨⟨hH, hi⟩, fun x H' hy => ?_⟩
  obtain ⟨rfl, kk, v, b, e1, rfl, hb⟩ := hy
  have ek : kv.1 = kk := by
    have e2 : (kvs.map (·.1))[i]? = some kv.1 := by rw [List.getElem?_map, hkv]; rfl
    rw [q.keys, List.getElem?_map, e1] at e2
    exact (Option.some.inj e2).symm
  subst ek
  have g2 : Same G (upd G b (.tup (kv.1.map kV))) := fun c u e => by
    by_cases hc : c = b
    · subst hc
      have := k _ _ e
      rw [hb] at this
      cases this
      exact upd_same
    · rw [upd_ne hc]; exact e
  refine ⟨upd G b (.tup (kv.1.map kV)), g2, fun c u e => ?_, Same.refl _, fun c u e nt => upd_ne fun z => ?_, Dq.tup upd_same (dql_kV kv.1)⟩
  · by_cases hc : c = b
    · subst hc
      rw [upd_same] at e
      cases e
      exact hb
    · rw [upd_ne hc] at e
      exact k _ _ e
  · subst z
    rw [hb] at e
    cases e
    exact nt _ rfl
theorem ii_keysF (h : EE X B iter is M fun p M1 => ∃ kvs, p = dfP kvs ∧ IPost (kvs.map fun kv => dat (.tuple (kv.1.map kD))) M1) : II X B tg iter is M IPost := fun σ G H K R k =>
  IW.of (pi_keys pe_w) (h σ G H K _ fun v G1 H1 p M1 K1 g1 q1 ⟨kvs, e1, h1⟩ => by
    subst e1
    obtain ⟨a, o, us, e, hg, q⟩ := q1
    exact ⟨a, o, e, .inr ⟨us, K1.kn _ _ hg, k _ G1 H1 _ M1 K1 g1 (wlk_keys hg q) h1⟩⟩)
/-- an own dict, not needed any more, is walked -/
theorem Ok.lock {σ : L2.St} {G H : Hp} {a : Addr} {j : Nat} {kvs : List (List Key × Pr)} {us : List (List Key × V)} {o : Obj} (K : Ok B σ G H is M) (hj : M[j]? = some (a, .dt kvs)) (hu : H a = some (.dT us)) (hW : a ∉ B.W) :
    Ok B σ (upd G a (.frz o (.dT us))) (upd H a (.frz o (.dT us))) is (M.eraseIdx j) ∧ Same G (upd G a (.frz o (.dT us))) := by
  have K1 := K.write (o := .frz o (.dT us)) (m' := .oth (.frz o (.dT us))) hj ⟨upd_same, fun _ z => nomatch z⟩ (fun hw => absurd hw hW)
  have hlt := (List.getElem?_eq_some_iff.mp hj).1
  obtain ⟨K2, g2⟩ := K1.freeze (i := j) (a := a) (m := .oth (.frz o (.dT us))) (by rw [List.getElem?_set_self hlt]) upd_same hW
  have e : (M.set j (a, MO.oth (.frz o (.dT us)))).eraseIdx j = M.eraseIdx j := by
    apply List.ext_getElem?
    intro n
    rw [List.getElem?_eraseIdx, List.getElem?_eraseIdx]
    split
    · rw [List.getElem?_set_ne (by omega)]
    · rw [List.getElem?_set_ne (by omega)]
  rw [e] at K2
  exact ⟨K2, g2⟩
theorem ii_keysO (h : EE X B iter is M fun p M1 => ∃ (a : Addr) (j : Nat) (kvs : List (List Key × Pr)), p = raw (.ref a) ∧ M1[j]? = some (a, MO.dt kvs) ∧ IPost (kvs.map fun kv => dat (.tuple (kv.1.map kD))) (M1.eraseIdx j)) : II X B tg iter is M IPost := fun σ G H K R k =>
  IW.of (pi_keys (pe_lockO pe_w)) (h σ G H K _ fun v G1 H1 p M1 K1 g1 q1 ⟨a, j, kvs, e1, hj, h1⟩ => by
    subst e1
    obtain ⟨us, h2, h3⟩ := K1.at hj
    refine ⟨a, us, q1, h2, fun o => ⟨a, o, q1, .inr ⟨us, upd_same, ?_⟩⟩⟩
    obtain ⟨K2, g2⟩ := K1.lock (o := o) hj h2 (K1.notW h2 fun z => z)
    exact k _ _ _ _ _ K2 (g1.trans g2) (wlk_keys upd_same (h3.mono g2)) h1)
theorem ss_lock {st : Stmt} (i j : Nat) {a : Addr} {kvs : List (List Key × Pr)} (hi : is[i]? = some (some (raw (.ref a)))) (hj : M[j]? = some (a, .dt kvs)) (h : SS X B st (is.set i (some (dfP kvs))) (M.eraseIdx j) D) : SS X B st is M D := fun σ G H K DD R => by
  obtain ⟨us, h2, h3⟩ := K.at hj
  refine SW.of (ps_lockO ps_w) ⟨a, us, h2, fun o => ?_⟩
  obtain ⟨K2, g2⟩ := K.lock (o := o) hj h2 (K.notW h2 fun z => z)
  obtain ⟨v, hv, ev⟩ := K2.loc.get hi
  have ev : v = .ref a := ev
  subst ev
  have l3 : SL (upd G a (.frz o (.dT us))) (is.set i (some (dfP kvs))) (σ.set i (some (.ref a))) := K2.loc.set (show (dfP kvs).p (.ref a) _ from ⟨a, o, us, rfl, upd_same, h3.mono g2⟩) i
  have e4 : σ.set i (some (.ref a)) = σ := by
    apply List.ext_getElem?
    intro n
    by_cases e : i = n
    · subst e
      rw [List.getElem?_set_self (List.getElem?_eq_some_iff.mp hv).1, hv]
    · rw [List.getElem?_set_ne e]
  rw [e4] at l3
  exact h σ _ _ (K2.slots l3) DD (R.mono g2)
end
end Q9
namespace Q9
open PySem L2
def putFP (f : Str) (p : Pr) : List (Str × Pr) → List (Str × Pr)
  | [] => [(f, p)]
  | (g, x) :: r => if g = f then (g, p) :: r else (g, x) :: putFP f p r
theorem KP.putF {G : Hp} {f : Str} {p : Pr} {v : V} (hp : p.p v G) : ∀ {fs : List (Str × Pr)} {us : List (Str × V)}, KP G fs us → KP G (putFP f p fs) (L2.putF f v us)
  | [], [], _ => ⟨⟨rfl, hp⟩, True.intro⟩
  | x :: fs, y :: us, h => by
    have e := h.1.1
    unfold putFP L2.putF
    by_cases z : x.1 = f
    · rw [if_pos z, if_pos (e ▸ z)]
      exact ⟨⟨e, hp⟩, h.2⟩
    · rw [if_neg z, if_neg (fun w => z (e.trans w))]
      exact ⟨h.1, KP.putF hp h.2⟩
  | [], _ :: _, h => h.elim
  | _ :: _, [], h => h.elim
theorem KP.look {G : Hp} {f : Str} {p : Pr} : ∀ {fs : List (Str × Pr)} {us : List (Str × V)}, KP G fs us → fs.lookup f = Option.some p → ∃ v, us.lookup f = Option.some v ∧ p.p v G
  | [], [], _, e => by cases e
  | (a, q) :: fs, (b, v) :: us, h, e => by
    have eab : a = b := h.1.1
    subst eab
    rw [List.lookup_cons] at e
    rw [List.lookup_cons]
    cases z : f == a with
    | true =>
      rw [z] at e
      have e' : q = p := Option.some.inj e
      subst e'
      exact ⟨v, rfl, h.1.2⟩
    | false =>
      rw [z] at e
      exact KP.look h.2 e
  | [], _ :: _, h, _ => h.elim
  | _ :: _, [], h, _ => h.elim
theorem KP.none {G : Hp} {f : Str} : ∀ {fs : List (Str × Pr)} {us : List (Str × V)}, KP G fs us → fs.lookup f = Option.none → us.lookup f = Option.none
  | [], [], _, e => rfl
  | (a, q) :: fs, (b, v) :: us, h, e => by
    have eab : a = b := h.1.1
    subst eab
    rw [List.lookup_cons] at e
    rw [List.lookup_cons]
    cases z : f == a with
    | true => rw [z] at e; cases e
    | false =>
      rw [z] at e
      exact KP.none h.2 e
  | [], _ :: _, h, _ => h.elim
  | _ :: _, [], h, _ => h.elim
/-- an instance of the class at C that will not change -/
def insP (C : Addr) (fs : List (Str × Pr)) : Pr := ⟨fun v G => ∃ a dx us, v = .ref a ∧ G a = some (.ins C dx us) ∧ KP G fs us, fun e ⟨a, dx, vs, h1, h2, h3⟩ => ⟨a, dx, vs, h1, e _ _ h2, h3.mono e⟩⟩
inductive InP (C : Addr) (M : MS) : Pr → List (Str × Pr) → Prop
  | fix (fs : List (Str × Pr)) : InP C M (insP C fs) fs
  | own {a : Addr} {i : Nat} {fs : List (Str × Pr)} (h : M[i]? = some (a, .ins C fs)) : InP C M (raw (.ref a)) fs
theorem InP.at {C : Addr} {B : Bs} {is : Is} {M : MS} {σ : L2.St} {G H : Hp} {p : Pr} {fs : List (Str × Pr)} {x : V} (l : InP C M p fs) (K : Ok B σ G H is M) (h : p.p x G) : ∃ a dx us, x = .ref a ∧ H a = some (.ins C dx us) ∧ KP G fs us := by
  cases l with
  | fix =>
    obtain ⟨a, dx, vs, e, h1, h2⟩ := h
    exact ⟨a, dx, vs, e, K.kn _ _ h1, h2⟩
  | own hi =>
    obtain ⟨dx, vs, h1, h2⟩ := K.at hi
    exact ⟨_, dx, vs, h, h1, h2⟩
section
variable {X : Cx} {B : Bs} {is : Is} {M : MS} {Post : Pr → MS → Prop} {TPost : Bool → MS → Prop} {IPost : List Pr → MS → Prop} {D : En} {a b c e tg iter o i elt value : Expr} {es : List Expr} {pos : Pos}
theorem ee_fld {f : Str} {C : Addr} (hC : Cls X.K C) (hN : NoAttr X.K C f) (h : EE X B e is M fun p M1 => ∃ fs r, InP C M1 p fs ∧ fs.lookup f = some r ∧ Post r M1) (hb : attributeBase e f X.env (eval e X.env) = eval e X.env := by rfl) : EE X B (.Attribute e f pos) is M Post := fun σ G H K Q k =>
  EW.of (pe_fld pe_w hb) (h σ G H K _ fun v G1 H1 p M1 K1 g1 q1 ⟨fs, r, l, hl, hp⟩ => by
    obtain ⟨a, dx, us, ev, h1, h2⟩ := l.at K1 q1
    obtain ⟨w, hw, qw⟩ := h2.look hl
    exact ⟨a, C, dx, us, w, ev, h1, hC, hN, hw, k w G1 H1 r M1 K1 g1 qw hp⟩)
/-- o.f = value, an own instance -/
theorem ss_fld {f : Str} {C : Addr} {pos' : Pos} (hC : Cls X.K C) (hN : NoAttr X.K C f) (h : EE X B value is M fun p M1 => EE X B o is M1 fun q M2 => ∃ (a : Addr) (j : Nat) (fs : List (Str × Pr)), q = raw (.ref a) ∧ M2[j]? = some (a, MO.ins C fs) ∧ fs.length < 1000 ∧ D.nx is (M2.set j (a, .ins C (putFP f p fs))))
    (hs : swapsWith value (some (.Attribute o f pos')) pos.line X.env = pure false := by rfl) : SS X B (.Assign [.Attribute o f pos'] value pos) is M D := fun σ G H K DD R =>
  SW.of (ps_fld pe_w pe_w hs) (h σ G H K _ fun v G1 H1 p M1 K1 g1 q1 h1 => h1 σ G1 H1 K1 _ fun w G2 H2 q M2 K2 g2 q2 ⟨a, j, fs, e1, hj, hl, hn⟩ => by
    subst e1
    obtain ⟨dx, us, h2, h3⟩ := K2.at hj
    refine ⟨a, C, dx, us, q2, h2, hC, hN, by rw [← h3.length]; exact hl, R.nx σ G2 _ is _ ?_ (g1.trans g2) hn⟩
    exact K2.write (m' := .ins C (putFP f p fs)) hj ⟨dx, _, upd_same, h3.putF (p.mono g2 q1)⟩ (fun _ => True.intro))
/-- o.m(e, ..) of an instance -/
theorem ee_meth {k : Nat} {m : Str} {C f : Addr} {fd : FuncData} {ps : List Str} {T : List Pr → (Pr → Prop) → Prop} {apos : Pos} (hC : Cls X.K C) (hm : Meth X.K C m f) (F : FnOk X.prog X.w X.K X.mg X.base CX0 k f fd ps (fnSp (pur T))) (hb : Binds X.K fd ps []) (hr : Room k X.A)
    (h : EE X B o is M fun p M1 => ∃ fs, p = insP C fs ∧ fs.lookup m = none ∧ AA X B (e :: es) is M1 fun qs M2 => T (insP C fs :: qs) fun r => Post r M2)
    (hst : starEach (e :: es) X.env = (false, eval e X.env) :: starEach es X.env := by rfl) (hpl : (backTo pos (starEach es X.env)).any (·.1) = false := by rfl)
    (hpe : ∀ {ta : TE} {t : TA}, PE X o ta → PA X (e :: es) t → Passes CX0 X (fun _ _ _ => False) → PE X (.Call (.Attribute o m apos) (e :: es) [] pos) (tMeth C m (fnSp (pur T)) [] (fun _ _ _ => False) ta t) := by exact fun h1 h2 h3 => pe_meth h1 ‹_› ‹_› ‹_› ‹_› ‹_› .nil h3 h2 rfl rfl rfl) :
    EE X B (.Call (.Attribute o m apos) (e :: es) [] pos) is M Post := fun σ G H K Q kk =>
  EW.of (hpe pe_w pa_w fun _ _ _ _ _ _ _ z => z.elim) (h σ G H K _ fun v G1 H1 p M1 K1 g1 q1 ⟨fs, e1, hl, h1⟩ => by
    subst e1
    obtain ⟨a, dx, us, ev, h2, h3⟩ := q1
    refine ⟨a, dx, us, ev, K1.kn _ _ h2, h3.none hl, h1 σ G1 H1 K1 _ fun vs G2 H2 qs M2 K2 g2 q2 hT => ?_⟩
    rw [List.append_nil]
    refine ⟨G2, insP C fs :: qs, [], K2.kn, ⟨(insP C fs).mono g2 ⟨a, dx, us, ev, h2, h3⟩, q2⟩, (fun _ z => by cases z), List.nodup_nil, fun r N => Post r (M2 ++ N), ⟨rfl, by simpa using hT⟩, ?_⟩
    intro r N hp v G' H' g k h hs n hN hd q
    exact kk v G' H' r _ (K2.called (fun _ z => by cases z) g k h (fun _ z => by cases z) n hN hd) ((g1.trans g2).trans g) q hp)
/-- a, b, c = x, y, z with plain names -/
theorem ss_par3 (i j l : Nat) {x y z : Str} {px py pz pt : Pos} {kt k2 : Nat} {pt2 : Pos} (hc : X.calm = true) (hN : X.N.Nodup) (hij : i ≠ j) (hil : i ≠ l) (hjl : j ≠ l) (h : AA X B [a, b, c] is M fun ps M1 => ∃ p q r, ps = [p, q, r] ∧ D.nx (((is.set i (some p)).set j (some q)).set l (some r)) M1)
    (hi : X.N[i]? = some x := by rfl) (hj : X.N[j]? = some y := by rfl) (hl : X.N[l]? = some z := by rfl) (hx : X.env.scope.names.lookup x = some .local := by rfl) (hy : X.env.scope.names.lookup y = some .local := by rfl) (hz : X.env.scope.names.lookup z = some .local := by rfl)
    (hw : swappedStores [.Tuple [.Name x px, .Name y py, .Name z pz] kt pt] (.Tuple [a, b, c] k2 pt2) X.env = pure (some [x, y, z]) := by rfl)
    (hs : swapsWithSole [.Tuple [.Name x px, .Name y py, .Name z pz] kt pt] (.Tuple [a, b, c] k2 pt2) pos.line X.env = pure false := by rfl) : SS X B (.Assign [.Tuple [.Name x px, .Name y py, .Name z pz] kt pt] (.Tuple [a, b, c] k2 pt2) pos) is M D := fun σ G H K DD R =>
  SW.of (ps_par3 hc hN hi hj hl hij hil hjl hx hy hz pa_w hw hs) (h σ G H K _ fun vs G1 H1 ps M1 K1 g1 q1 ⟨p, q, r, e1, h1⟩ => by
    subst e1
    match vs, q1 with
    | [v, w, u], ⟨r1, r2, r3, _⟩ => exact ⟨v, w, u, rfl, R.nx _ G1 H1 _ M1 (((K1.slot i r1).slot j r2).slot l r3) g1 h1⟩)
/-- x is True -/
theorem cc_isB (h : EE X B a is M fun p M1 => EE X B b is M1 fun q M2 => ∃ x y : Bool, p = dat (.bool x) ∧ q = dat (.bool y) ∧ Post (dat (.bool (decide (x = y)))) M2) : CC X B .Is a b is M Post :=
  cc_op op_isBl (EE.imp h fun p M1 h1 => EE.imp h1 fun q M2 ⟨x, y, e1, e2, h2⟩ => fun σ G H K u w hx hy Q k => by
    subst e1; subst e2
    exact ⟨x, y, dat_bl.mp hx, dat_bl.mp hy, k _ G H _ M2 K (Same.refl _) (Dq.bl _) h2⟩)
/-- an int in a tuple of ints; not in -/
theorem inV_ints (i : Int) : ∀ is : List Int, inV (.int i) (is.map V.int) = decide (i ∈ is)
  | [] => rfl
  | j :: is => by
    have := inV_ints i is
    unfold inV at this ⊢
    rw [List.map_cons, List.any_cons, this]
    have e : eqV (.int j) (.int i) = decide (j = i) := by simp [eqV, Bool.beq_eq_decide_eq]
    rw [e]
    by_cases h : i = j
    · simp [h]
    · have h' : ¬ j = i := fun z => h z.symm
      simp [h, h']
theorem cc_niI (h : EE X B a is M fun p M1 => EE X B b is M1 fun q M2 => ∃ (i : Int) (js : List Int), p = dat (.int i) ∧ q = dat (.tuple (js.map PyData.int)) ∧ Post (dat (.bool (!decide (i ∈ js)))) M2) : CC X B .NotIn a b is M Post :=
  cc_op op_notIn_seq (EE.imp h fun p M1 h1 => EE.imp h1 fun q M2 ⟨i, js, e1, e2, h2⟩ => fun σ G H K u w hx hy Q k => by
    subst e1; subst e2
    have ex := dat_int.mp hx
    subst ex
    obtain ⟨c, vs, ey, h3, h4⟩ := dat_tup.mp hy
    have e5 := ints_of (bs := js) (vs := vs) (G := G) (by rw [dats_map]; exact h4)
    subst e5
    refine ⟨c, js.map V.int, ey, .inr (SqT.of (K.kn _ _ h3)), rfl, ?_, ?_⟩
    · rw [List.all_map]
      exact List.all_eq_true.mpr fun _ _ => rfl
    · rw [if_pos rfl, inV_ints]
      exact k _ G H _ M2 K (Same.refl _) (Dq.bl _) h2)
/-- [elt for tg in iter], elt may make own objects; the new list is an own one -/
theorem ee_lcN (N0 : List Str) (sc0 : Scope) (own : List (Str × Nat)) {scope : Scope} (hc : X.calm = true) (hN : X.N.Nodup) (hb : blkC N0 sc0 scope own = true)
    (h : II X B tg iter is M fun ps M1 => ps.length ≤ 100000 ∧ ∃ I : Nat → List Pr → MS → Prop, I 0 [] [] ∧
      (∀ (L : Addr) (i : Nat) (p : Pr) (acc : List Pr) (N : MS), ps[i]? = some p → I i acc N →
        BAll X scope fun X1 => GG X1 B (own.map (·.2)) tg p (wipeI is (own.map (·.2))) (M1 ++ (L, .lst acc) :: N) fun is2 M2 => M2 = M1 ++ (L, .lst acc) :: N ∧
            BAll X scope fun X3 => EE X3 B elt is2 (M1 ++ (L, .lst acc) :: N) fun q M4 => ∃ N', M4 = M1 ++ (L, .lst acc) :: N' ∧ I (i + 1) (acc ++ [q]) N') ∧
      ∀ acc N L, I ps.length acc N → Post (raw (.ref L)) (M1 ++ (L, .lst acc) :: N))
    (hs : ∀ x, foldedSetIterable iter X.env x = pure x := by intro _; rfl) (hN0 : X.N = N0 := by rfl) (hs0 : X.env.scope = sc0 := by rfl) : EE X B (.ListComp elt [⟨tg, iter, [], 0⟩] scope pos) is M Post := fun σ G H K Q k => by
  subst hN0
  subst hs0
  refine EW.of (pe_lc (own := own) hc hN pi_w (blkOk_by hb) bg bt be hs) ?_
  refine h σ G H K _ fun J G1 H1 ps M1 K1 g1 wk ⟨hz, I, h0, hst, hd⟩ L hL => ?_
  have KL := K1.push (o := .lst []) (m := .lst []) hL ⟨[], upd_same, True.intro⟩
  have at_mid : ∀ {x : Addr × MO} {N : MS}, (M1 ++ x :: N)[M1.length]? = some x := fun {x N} => by rw [List.getElem?_append_right (Nat.le_refl _), Nat.sub_self]; rfl
  have set_mid : ∀ {x y : Addr × MO} {N : MS}, (M1 ++ x :: N).set M1.length y = M1 ++ y :: N := fun {x y N} => by rw [List.set_append_right _ _ (Nat.le_refl _), Nat.sub_self]; rfl
  refine ⟨fun i m H' => m + i = ps.length ∧ ∃ G' acc N, Ok B σ G' H' is (M1 ++ (L, .lst acc) :: N) ∧ Same G1 G' ∧ I i acc N ∧ acc.length ≤ i, ⟨ps.length, rfl, G1, [], [], KL, Same.refl _, h0, Nat.le_refl _⟩, fun i m H' ⟨em, G', acc, N, K', g', hI, hl⟩ => ?_⟩
  obtain ⟨w1, w2⟩ := wk G' H' g' K'.kn
  by_cases hi : i < ps.length
  · obtain ⟨go, yl⟩ := w1 i ps[i] (List.getElem?_eq_getElem hi)
    refine .inr ⟨go, fun H2 => ∃ G2 ac2 N2, Ok B σ G2 H2 is (M1 ++ (L, .lst ac2) :: N2) ∧ Same G1 G2 ∧ I (i + 1) ac2 N2 ∧ ac2.length ≤ i + 1, fun H2 q => ⟨m - 1, by omega, by omega, q⟩, fun x H2 hy s HH C cl fp => ?_⟩
    obtain ⟨G2, y1, y2, y3, y4, y5⟩ := yl x H2 hy
    have K2 := (K'.ext y1 y2 y3 y4).wipe (own.map (·.2))
    have l2 : SL G2 is σ := K'.loc.mono y1
    refine hst L i ps[i] acc N (List.getElem?_eq_getElem hi) hI s HH C cl fp _ G2 H2 K2 x y5 _ fun σ3 G3 H3 is3 M3 K3 g3 e3 ⟨eM, h3⟩ => ?_
    subst eM
    refine ⟨e3.trans (wipe_wipe σ _), fun s HH C cl fp => .inl ⟨rfl, ?_⟩⟩
    show if true = true then _ else _
    rw [if_pos rfl]
    intro s HH C cl fp
    refine h3 s HH C cl fp σ3 G3 H3 K3 _ fun v G5 H5 q M5 K5 g5 q5 ⟨N', eM5, i5⟩ => ?_
    subst eM5
    obtain ⟨vs, hv, hq⟩ := K5.at (a := L) (i := M1.length) (m := .lst acc) at_mid
    have hlen : vs.length = acc.length := hq.length.symm
    refine ⟨vs, hv, Nat.lt_of_lt_of_le (by omega : vs.length < 100001) (by decide), G5, acc ++ [q], N', ?_, ((g'.trans y1).trans g3).trans g5, i5, by rw [List.length_append, List.length_singleton]; omega⟩
    have KW := K5.write (i := M1.length) (o := .lst (vs ++ [v])) (m' := .lst (acc ++ [q])) at_mid ⟨_, upd_same, hq.app ⟨q5, True.intro⟩⟩ (fun _ => True.intro)
    rw [set_mid] at KW
    exact KW.slots (l2.mono (g3.trans g5))
  · have e : i = ps.length := by omega
    subst e
    exact .inl ⟨w2 _ (Nat.le_refl _), k (.ref L) _ H' _ _ K' (g1.trans g') rfl (hd acc N L hI)⟩
end
end Q9
namespace Q9
open PySem L2
open PySem.W (Datum DatumOrd minOf)
abbrev Dart := Str × Int
abbrev Gr := List (Str × List Dart)
def opp (d : Dart) : Dart := (d.1, 1 - d.2)
def dk (d : Dart) : List Key := [.inr d.1, .inl d.2]
abbrev tD {α : Type} [DecidableEq α] [Datum α] (x : α) : PyData := Datum.toD x
theorem tD_dart (d : Dart) : tD d = .tuple ((dk d).map kD) := rfl
theorem dk_inj {a b : Dart} (h : dk a = dk b) : a = b := by
  unfold dk at h
  injection h with h1 h2
  injection h2 with h2 _
  exact Prod.ext (Sum.inr.inj h1) (Sum.inl.inj h2)
section
variable {α κ β : Type} [DecidableEq κ]
/-- a dict of typed keys and values -/
def kvP (kf : α → κ) (pf : β → Pr) (l : List (α × β)) : List (κ × Pr) := l.map fun p => (kf p.1, pf p.2)
variable [DecidableEq α] {kf : α → κ} {pf : β → Pr}
def asc (l : List (α × β)) (x : α) : Option β := (l.find? fun p => decide (p.1 = x)).map (·.2)
theorem asc_cons (p : α × β) (l : List (α × β)) (x : α) : asc (p :: l) x = if p.1 = x then some p.2 else asc l x := by
  unfold asc
  rw [List.find?_cons]
  by_cases h : p.1 = x
  · simp [h]
  · simp [h]
theorem asc_none {l : List (α × β)} {x : α} : asc l x = none ↔ x ∉ l.map (·.1) := by
  induction l with
  | nil => simp [asc]
  | cons p l ih =>
    rw [asc_cons]
    by_cases h : p.1 = x
    · simp [h]
    · have h' : ¬ x = p.1 := fun z => h z.symm
      rw [if_neg h, ih]
      simp [h']
theorem asc_mem {l : List (α × β)} {x : α} {y : β} (h : asc l x = some y) : (x, y) ∈ l := by
  induction l with
  | nil => cases h
  | cons p l ih =>
    rw [asc_cons] at h
    by_cases e : p.1 = x
    · rw [if_pos e] at h
      have e2 := Option.some.inj h
      rw [← e, ← e2]
      exact List.mem_cons_self
    · rw [if_neg e] at h
      exact List.mem_cons_of_mem _ (ih h)
theorem asc_of {l : List (α × β)} {x : α} {y : β} (nd : (l.map (·.1)).Nodup) (h : (x, y) ∈ l) : asc l x = some y := by
  induction l with
  | nil => cases h
  | cons p l ih =>
    rw [asc_cons]
    rw [List.map_cons, List.nodup_cons] at nd
    rcases List.mem_cons.mp h with e | e
    · subst e
      rw [if_pos rfl]
    · rw [if_neg fun z => nd.1 (List.mem_map.mpr ⟨_, e, z.symm⟩)]
      exact ih nd.2 e
theorem asc_app {l m : List (α × β)} {x : α} : asc (l ++ m) x = (asc l x).or (asc m x) := by
  induction l with
  | nil => rfl
  | cons p l ih =>
    rw [List.cons_append, asc_cons, asc_cons]
    by_cases h : p.1 = x
    · rw [if_pos h, if_pos h]; rfl
    · rw [if_neg h, if_neg h, ih]
theorem getP_kv (hi : ∀ a b : α, kf a = kf b → a = b) (l : List (α × β)) (x : α) : getP (kvP kf pf l) (kf x) = (asc l x).map pf := by
  induction l with
  | nil => rfl
  | cons p l ih =>
    rw [asc_cons]
    unfold getP kvP at ih ⊢
    rw [List.map_cons, List.find?_cons]
    by_cases h : p.1 = x
    · simp [h]
    · have h2 : ¬ kf p.1 = kf x := fun z => h (hi _ _ z)
      rw [if_neg h]
      simp only [h2, decide_false]
      exact ih
theorem putP_new (hi : ∀ a b : α, kf a = kf b → a = b) {l : List (α × β)} {x : α} (y : β) (h : x ∉ l.map (·.1)) : putP (kvP kf pf l) (kf x) (pf y) = kvP kf pf (l ++ [(x, y)]) := by
  unfold putP
  rw [getP_kv hi, asc_none.mpr h]
  simp [kvP]
theorem mrgP_new (hi : ∀ a b : α, kf a = kf b → a = b) : ∀ (m l : List (α × β)), ((l ++ m).map (·.1)).Nodup → mrgP (kvP kf pf l) (kvP kf pf m) = kvP kf pf (l ++ m)
  | [], l, _ => by simp [mrgP, kvP]
  | (x, y) :: m, l, nd => by
    show mrgP (putP (kvP kf pf l) (kf x) (pf y)) (kvP kf pf m) = _
    have e : l ++ (x, y) :: m = (l ++ [(x, y)]) ++ m := by simp
    have hx : x ∉ l.map (·.1) := by
      rw [List.map_append, List.nodup_append] at nd
      exact fun z => nd.2.2 x z x (by simp) rfl
    rw [putP_new hi y hx, e]
    exact mrgP_new hi m _ (e ▸ nd)
theorem kv_len (l : List (α × β)) : (kvP kf pf l).length = l.length := List.length_map _
theorem kv_keys (l : List (α × β)) : (kvP kf pf l).map (·.1) = (l.map (·.1)).map kf := by
  unfold kvP
  rw [List.map_map, List.map_map]
  rfl
end
abbrev sk : Str → Key := Sum.inr
theorem sk_inj : ∀ a b : Str, sk a = sk b → a = b := fun _ _ h => Sum.inr.inj h
theorem dk_inj' : ∀ a b : Dart, dk a = dk b → a = b := fun _ _ h => dk_inj h
section
variable {α β : Type} [DecidableEq α] [DatumOrd α] [DecidableEq β] [DatumOrd β]
def leD (a b : α) : Bool := !DatumOrd.lt b a
theorem leD_eq : (PySem.W.dataLe false (Datum.toD : α → PyData)) = leD := by
  funext a b
  show (!PySem.W.dataLt (Datum.toD b) (Datum.toD a)) = _
  rw [DatumOrd.lt_eq]
  rfl
theorem leD_tot : PySem.W.TotalLe (leD (α := α)) := leD_eq (α := α) ▸ PySem.W.sortLe_total _ _ _
class Tri (α : Type) [DecidableEq α] [DatumOrd α] : Prop where
  tri : ∀ a b : α, DatumOrd.lt a b = false → DatumOrd.lt b a = false → a = b
theorem leD_anti [Tri α] {a b : α} (h1 : leD a b = true) (h2 : leD b a = true) : a = b := by
  unfold leD at h1 h2
  exact Tri.tri a b (by simpa using h2) (by simpa using h1)
instance : Tri Int where
  tri a b h1 h2 := by
    have h1' : decide (a < b) = false := h1
    have h2' : decide (b < a) = false := h2
    rw [decide_eq_false_iff_not] at h1' h2'
    omega
instance : Tri Str where
  tri a b h1 h2 := by
    have h1' : decide (a.cps.toList < b.cps.toList) = false := h1
    have h2' : decide (b.cps.toList < a.cps.toList) = false := h2
    rw [decide_eq_false_iff_not] at h1' h2'
    have e := List.le_antisymm (List.not_lt.mp h2') (List.not_lt.mp h1')
    cases a; cases b
    simp only at e
    congr 1
    exact Array.toList_inj.mp e
instance [Tri α] [Tri β] : Tri (α × β) where
  tri p q h1 h2 := by
    have h1' : (if p.1 = q.1 then DatumOrd.lt p.2 q.2 else DatumOrd.lt p.1 q.1) = false := h1
    have h2' : (if q.1 = p.1 then DatumOrd.lt q.2 p.2 else DatumOrd.lt q.1 p.1) = false := h2
    by_cases e : p.1 = q.1
    · rw [if_pos e] at h1'
      rw [if_pos e.symm] at h2'
      exact Prod.ext e (Tri.tri _ _ h1' h2')
    · rw [if_neg e] at h1'
      rw [if_neg fun z => e z.symm] at h2'
      exact absurd (Tri.tri _ _ h1' h2') e
/-- Python's sorted -/
def srt (xs : List α) : List α := xs.mergeSort (PySem.W.dataLe false Datum.toD)
theorem srt_perm (xs : List α) : (srt xs).Perm xs := List.mergeSort_perm _ _
theorem srt_pw (xs : List α) : (srt xs).Pairwise fun a b => leD a b = true := by
  unfold srt
  rw [leD_eq]
  exact List.pairwise_mergeSort (fun a b c => leD_tot.trans a b c) (fun a b => by rw [Bool.or_eq_true]; exact leD_tot.total a b) xs
theorem pw_eq [Tri α] : ∀ {xs ys : List α}, xs.Perm ys → xs.Pairwise (fun a b => leD a b = true) → ys.Pairwise (fun a b => leD a b = true) → xs = ys := fun p h1 h2 =>
  p.eq_of_pairwise (fun a b _ _ h h' => leD_anti h h') h1 h2
theorem srt_eq [Tri α] {xs ys : List α} (p : xs.Perm ys) : srt xs = srt ys := pw_eq ((srt_perm xs).trans (p.trans (srt_perm ys).symm)) (srt_pw xs) (srt_pw ys)
theorem srt_id [Tri α] {xs : List α} (h : xs.Pairwise fun a b => leD a b = true) : srt xs = xs := pw_eq (srt_perm xs) (srt_pw xs) h
theorem srt_srt [Tri α] (xs : List α) : srt (srt xs) = srt xs := srt_id (srt_pw xs)
theorem srt_len (xs : List α) : (srt xs).length = xs.length := (srt_perm xs).length_eq
theorem mem_srt {xs : List α} {x : α} : x ∈ srt xs ↔ x ∈ xs := (srt_perm xs).mem_iff
theorem srt_nd {xs : List α} (h : xs.Nodup) : (srt xs).Nodup := (srt_perm xs).nodup_iff.mpr h
theorem alike_tD (xs : List α) : PySem.W.AllAlike (xs.map Datum.toD) := (PySem.W.alikeAll_datum xs).1
theorem srt_str {xs : List Str} (h : xs.length ≤ 100000) : Srt (Datum.toD : Str → PyData) xs := ⟨alike_tD xs, PySem.W.Sortable.others fun b => ⟨(fun z => nomatch z), fun _ z => nomatch z⟩, fun b _ => Nat.zero_le _, h⟩
theorem srt_pair (hd : Datum.depth (α × β) ≤ 20) {xs : List (α × β)} (h : xs.length ≤ 100000) : Srt (Datum.toD : α × β → PyData) xs := ⟨alike_tD xs, PySem.W.Sortable.tuples fun b => ⟨_, _, rfl⟩, fun b _ => Nat.le_trans (Datum.depth_le b) hd, h⟩
end
end Q9
namespace Q9
open PySem L2
def tp (i : Nat) : Stmt := PySem.Challenge.pw_handonwall_k96_whole_isomorphisms_map_ro.main.body.getD i (.Pass ⟨0, 0, 0, 0⟩)
/-- the built-ins that the defs ask for, and the text's own constants -/
structure Bt (mg : Str → Option Value) : Prop where
  len : mg "len" = none
  isinstance : mg "isinstance" = none
  str : mg "str" = none
  int : mg "int" = none
  bool : mg "bool" = none
  tuple : mg "tuple" = none
  list : mg "list" = none
  dict : mg "dict" = none
  all : mg "all" = none
  any : mg "any" = none
  sorted : mg "sorted" = none
  min : mg "min" = none
  max : mg "max" = none
  sum : mg "sum" = none
  abs : mg "abs" = none
  range : mg "range" = none
  enumerate : mg "enumerate" = none
  zip : mg "zip" = none
  repr : mg "repr" = none
  letters : ∃ t, mg "LETTERS" = some (.str "abcdefghijklmnopqrstuvwxyz" t)
  maxLength : ∃ t, mg "MAX_LENGTH" = some (.int 8 t)
  maxVertices : ∃ t, mg "MAX_VERTICES" = some (.int 100 t)
  maxEdges : ∃ t, mg "MAX_EDGES" = some (.int 60 t)
  maxWord : ∃ t, mg "MAX_WORD" = some (.int 300 t)
  match_ : ∃ t, mg "MATCH" = some (.str "match" t)
  differ : ∃ t, mg "DIFFER" = some (.str "differ" t)
  iso : ∃ t, mg "ISOMORPHIC" = some (.str "isomorphic" t)
  dif : ∃ t, mg "DIFFERENT" = some (.str "different" t)
section
variable {P : Program} {w : World} {K : PySem.W.Frag} {mg : Str → Option Value} {base : Heap} {k : Nat}
theorem scOpp : FnScope ["dart", "edge", "side"] ["dart"] (defScope (tp 16)) := ⟨rfl, rfl, rfl, by decide +kernel, rfl, by decide +kernel, by decide +kernel⟩
def spOpp : List Pr → (Pr → Prop) → Prop := fun ps post => ∃ (x : Str) (i : Int), ps = [dat (.tuple [.str x, .int i])] ∧ post (dat (.tuple [.str x, .int (1 - i)]))
theorem cal_opp (t : Top K mg "opposite" (tp 16) ["dart"]) : Cal P w K mg base (k + 1) "opposite" ["dart"] (pur spOpp) := by
  refine cal_pur t scOpp (fun prs post ⟨x, i, e, _⟩ => by rw [e]; rfl) fun f cdv A outer s H E B hS hr prs post ⟨x, i, e, hp⟩ => ?_
  subst e
  refine bb_cons (ss_asg [1, 2] (ee_name 0 rfl (gg_tupd rfl (ggs_cons (gg_name 1 scOpp.nd (ggs_cons (gg_name 2 scOpp.nd (ggs_nil ?_))))))))
  refine bb_cons (ss_ret (ee_tupd (aa_cons (ee_name 1 rfl (aa_cons (ee_sub (ee_int ⟨1, rfl, ee_name 2 rfl ⟨i, rfl, aa_nil ⟨[.str x, .int (1 - i)], rfl, by simp, hp⟩⟩⟩)))))))
def isNameB (x : Str) : Bool := decide (1 ≤ x.length) && decide (x.length ≤ 8) && x.cps.toList.all fun c => decide (c ∈ ("abcdefghijklmnopqrstuvwxyz" : Str).cps.toList)
theorem scIsn : FnScope ["value", "sign"] ["value"] (defScope (tp 13)) := ⟨rfl, rfl, rfl, by decide +kernel, rfl, by decide +kernel, by decide +kernel⟩
def spIsn : List Pr → (Pr → Prop) → Prop := fun ps post => ∃ (x : Str), ps = [dat (.str x)] ∧ x.length ≤ 100000 ∧ post (dat (.bool (isNameB x)))
theorem cal_isn (bt : Bt mg) (t : Top K mg "is_name" (tp 13) ["value"]) : Cal P w K mg base (k + 1) "is_name" ["value"] (pur spIsn) := by
  refine cal_pur t scIsn (fun prs post ⟨x, e, _⟩ => by rw [e]; rfl) fun f cdv A outer s H E B hS hr prs post ⟨x, e, hx, hp⟩ => ?_
  subst e
  obtain ⟨t1, m1⟩ := bt.letters
  obtain ⟨t2, m2⟩ := bt.maxLength
  have fin : ∀ (b : Bool), b = isNameB x → post (dat (.bool b)) := fun b e => e ▸ hp
  refine bb_cons (ss_ret (ee_and (ee_isi (T := "str") bt.isinstance bt.str (by decide +kernel) (ee_name 0 rfl ⟨"str", true, .str x, by decide +kernel, true, rfl, (fun z => nomatch z), fun _ => ?_⟩))))
  refine ee_and (ee_chain (ee_int ⟨1, rfl, ee_len bt.len (aa_cons (ee_name 0 rfl (aa_nil ⟨_, x.length, rfl, .str x (by omega), _, rfl, fun z => ?_, fun z => ee_gint m2 ⟨8, rfl, _, rfl, fun z2 => ?_, fun z2 => ?_⟩⟩)))⟩))
  · refine ⟨false, rfl, fun _ => fin false ?_, fun z => nomatch z⟩
    unfold isNameB
    rw [decide_eq_false (by omega)]
    rfl
  · refine fin false ?_
    unfold isNameB
    rw [decide_eq_false (show ¬ x.length ≤ 8 by have := of_decide_eq_false z2; omega), Bool.and_false]
    rfl
  · refine ee_one (ee_all rfl bt.all (aa_cons (ee_mapD ["value", "sign"] (defScope (tp 13)) [("sign", 1)] x.cps.toList (fun c => dat (.str ⟨#[c]⟩)) (fun c => .bool (decide (c ∈ ("abcdefghijklmnopqrstuvwxyz" : Str).cps.toList))) rfl scIsn.nd (by decide +kernel) (ii_str (ee_name 0 rfl ⟨x, rfl, rfl, by rw [Array.length_toList]; exact hx, fun L c acc hc s H C cl fp => gg_name 1 scIsn.nd ⟨rfl, fun s H C cl fp => ee_cmp (cc_sign (ee_name 1 rfl (ee_gstr m1 ⟨c, _, rfl, rfl, rfl, rfl⟩)))⟩, ?_⟩)))))
    have z3 : x.length ≤ 8 := by have := of_decide_eq_true z2; omega
    have z4 : 1 ≤ x.length := by omega
    refine aa_nil ⟨_, x.cps.toList.map (fun c => decide (c ∈ ("abcdefghijklmnopqrstuvwxyz" : Str).cps.toList)), rfl, ?_, fin _ ?_⟩
    · have e : (x.cps.toList.map (fun c => decide (c ∈ ("abcdefghijklmnopqrstuvwxyz" : Str).cps.toList))).map (fun b => dat (.bool b)) = (x.cps.toList.map fun c => PyData.bool (decide (c ∈ ("abcdefghijklmnopqrstuvwxyz" : Str).cps.toList))).map dat := by
        rw [List.map_map, List.map_map]; rfl
      rw [e]
      exact .ds _
    · unfold isNameB
      rw [decide_eq_true z3, decide_eq_true z4, List.all_map]
      rfl
end
end Q9
namespace Q9
open PySem L2
open PySem.W (Datum DatumOrd minOf)
theorem EE.ls {X : Cx} {B : Bs} {e : Expr} {is : Is} {M : MS} {Post : Pr → MS → Prop} (h : EE X B e is M fun p M1 => ∃ ds, p = dat (.list ds) ∧ Post (lstP (ds.map dat)) M1) : EE X B e is M Post :=
  EE.cv (EE.imp h fun p M1 ⟨ds, e1, hp⟩ => ⟨_, fun v G q => by rw [e1] at q; exact dat_lst.mp q, hp⟩)
theorem enum_get {α : Type} {f : α → Pr} {xs : List α} {i : Nat} {p : Pr} (h : ((List.range (xs.map f).length).map fun (i : Nat) => tupP [dat (.int (i : Int)), (xs.map f).getD i (raw .non)])[i]? = some p) : ∃ x, xs[i]? = some x ∧ p = tupP [dat (.int (i : Int)), f x] := by
  rw [List.getElem?_map] at h
  by_cases hi : i < (xs.map f).length
  · rw [List.getElem?_range hi] at h
    have hi' : i < xs.length := by rwa [List.length_map] at hi
    refine ⟨xs[i], List.getElem?_eq_getElem hi', ?_⟩
    have e := Option.some.inj h
    rw [← e]
    show tupP [dat (.int (i : Int)), (xs.map f).getD i (raw .non)] = _
    rw [List.getD_eq_getElem?_getD, List.getElem?_map, List.getElem?_eq_getElem hi']
    rfl
  · rw [List.getElem?_eq_none (by simpa using hi)] at h
    cases h
theorem enum_len {α : Type} {f : α → Pr} {xs : List α} : ((List.range (xs.map f).length).map fun (i : Nat) => tupP [dat (.int (i : Int)), (xs.map f).getD i (raw .non)]).length = xs.length := by simp
theorem split_at {α : Type} {xs : List α} {i : Nat} {v : α} (h : xs[i]? = some v) : xs = xs.take i ++ v :: xs.drop (i + 1) := by
  obtain ⟨hi, e⟩ := List.getElem?_eq_some_iff.mp h
  rw [← e, ← List.drop_eq_getElem_cons hi, List.take_append_drop]
theorem take_at {α : Type} {xs : List α} {i : Nat} {v : α} (h : xs[i]? = some v) : xs.take (i + 1) = xs.take i ++ [v] := by rw [List.take_add_one, h]; rfl
def darts (g : Gr) : List Dart := g.flatMap (·.2)
def isDart (d : Dart) : Prop := isNameB d.1 = true ∧ (d.2 = 0 ∨ d.2 = 1)
structure WF (g : Gr) : Prop where
  names : (g.map (·.1)).Nodup
  isn : ∀ v ∈ g, isNameB v.1 = true
  nd : (darts g).Nodup
  dart : ∀ d ∈ darts g, isDart d
  op : ∀ d ∈ darts g, opp d ∈ darts g
  sz : (darts g).length ≤ 120
  vs : g.length ≤ 100
theorem name_len {x : Str} (h : isNameB x = true) : x.length ≤ 8 := by
  unfold isNameB at h
  rw [Bool.and_eq_true, Bool.and_eq_true, decide_eq_true_eq, decide_eq_true_eq] at h
  exact h.1.2
section
variable {P : Program} {w : World} {K : PySem.W.Frag} {mg : Str → Option Value} {base : Heap} {k : Nat}
theorem scInt : FnScope ["value", "low", "high"] ["value", "low", "high"] (defScope (tp 14)) := ⟨rfl, rfl, rfl, by decide +kernel, rfl, by decide +kernel, by decide +kernel⟩
def spInt : List Pr → (Pr → Prop) → Prop := fun ps post => ∃ i a b : Int, ps = [dat (.int i), dat (.int a), dat (.int b)] ∧ post (dat (.bool (decide (a ≤ i) && decide (i ≤ b))))
theorem cal_int (bt : Bt mg) (t : Top K mg "is_integer" (tp 14) ["value", "low", "high"]) : Cal P w K mg base (k + 1) "is_integer" ["value", "low", "high"] (pur spInt) := by
  refine cal_pur t scInt (fun prs post ⟨i, a, b, e, _⟩ => by rw [e]; rfl) fun f cdv A outer s H E B hS hr prs post ⟨i, a, b, e, hp⟩ => ?_
  subst e
  refine bb_cons (ss_ret (ee_and (ee_isi (T := "int") bt.isinstance bt.int (by decide +kernel) (ee_name 0 rfl ⟨"int", true, .int i, by decide +kernel, true, rfl, (fun z => nomatch z), fun _ => ?_⟩))))
  refine ee_and (ee_not (ee_isi (T := "bool") bt.isinstance bt.bool (by decide +kernel) (ee_name 0 rfl ⟨"int", false, .int i, by decide +kernel, false, rfl, true, rfl, (fun z => nomatch z), fun _ => ?_⟩)))
  refine ee_one (ee_chain (ee_name 1 rfl ⟨a, rfl, ee_name 0 rfl ⟨i, rfl, fun z => ?_, fun z => ee_name 2 rfl ⟨b, rfl, ?_⟩⟩⟩))
  · have e1 : decide (a ≤ i) = false := decide_eq_false z
    rw [e1] at hp
    exact hp
  · have e1 : decide (a ≤ i) = true := decide_eq_true z
    rw [e1] at hp
    exact hp
theorem scDart : FnScope ["value"] ["value"] (defScope (tp 15)) := ⟨rfl, rfl, rfl, by decide +kernel, rfl, by decide +kernel, by decide +kernel⟩
def spDart : List Pr → (Pr → Prop) → Prop := fun ps post => ∃ d : Dart, ps = [dat (tD d)] ∧ isDart d ∧ post (dat (.bool true))
theorem cal_dart (bt : Bt mg) (t : Top K mg "is_dart" (tp 15) ["value"]) (C1 : Cal P w K mg base k "is_name" ["value"] (pur spIsn)) (C2 : Cal P w K mg base k "is_integer" ["value", "low", "high"] (pur spInt)) : Cal P w K mg base (k + 1) "is_dart" ["value"] (pur spDart) := by
  refine cal_pur t scDart (fun prs post ⟨d, e, _⟩ => by rw [e]; rfl) fun f cdv A outer s H E B hS hr prs post ⟨d, e, hd, hp⟩ => ?_
  subst e
  have tp : ∀ {M : MS}, TpP (dat (tD d)) ([PyData.str d.1, .int d.2].map dat) := .ds _
  refine bb_cons (ss_ret (ee_and (ee_isi (T := "tuple") bt.isinstance bt.tuple (by decide +kernel) (ee_name 0 rfl ⟨"tuple", true, .tp (tp (M := [])), by decide +kernel, true, rfl, (fun z => nomatch z), fun _ => ?_⟩))))
  refine ee_and (ee_cmp (cc_eqD (α := Int) hr.units (by decide) (ee_len bt.len (aa_cons (ee_name 0 rfl (aa_nil ⟨_, 2, rfl, .tp (tp (M := [])), ee_int ⟨2, 2, .inl rfl, .inl rfl, true, rfl, (fun z => nomatch z), fun _ => ?_⟩⟩))))))
  have nl := name_len hd.1
  refine ee_and (ee_callp C1 hr (aa_cons (ee_ixt (ee_name 0 rfl (ee_int ⟨_, 0, dat (.str d.1), tp (M := []), rfl, rfl, aa_nil ⟨d.1, rfl, by omega, isNameB d.1, rfl, ?_, ?_⟩⟩)))))
  · rw [hd.1]
    exact fun z => nomatch z
  · refine fun _ => ee_one (ee_callp C2 hr (aa_cons (ee_ixt (ee_name 0 rfl (ee_int ⟨_, 1, dat (.int d.2), tp (M := []), rfl, rfl, aa_cons (ee_int (aa_cons (ee_int (aa_nil ⟨d.2, 0, 1, rfl, ?_⟩))))⟩)))))
    have e1 : (decide ((0 : Int) ≤ d.2) && decide (d.2 ≤ 1)) = true := by
      rcases hd.2 with z | z <;> rw [z] <;> rfl
    rw [e1]
    exact hp
def pB (b : Bool) : Pr := dat (.bool b)
theorem scCv : FnScope ["value", "names", "index", "item"] ["value"] (defScope (tp 22)) := ⟨rfl, rfl, rfl, by decide +kernel, rfl, by decide +kernel, by decide +kernel⟩
def spCv : List Pr → (Pr → Prop) → Prop := fun ps post => ∃ g : Gr, ps = [dat (tD g)] ∧ WF g ∧ post (dat .none)
theorem cal_cv (bt : Bt mg) (t : Top K mg "check_vertices" (tp 22) ["value"]) (C1 : Cal P w K mg base k "is_name" ["value"] (pur spIsn)) : Cal P w K mg base (k + 1) "check_vertices" ["value"] (pur spCv) := by
  refine cal_pur t scCv (fun prs post ⟨d, e, _⟩ => by rw [e]; rfl) fun f cdv A outer s H E B hS hr prs post ⟨g, e, wf, hp⟩ => ?_
  subst e
  refine bb_cons (ss_set 1 (ee_newk fun a => ?_) scCv.nd)
  refine bb_cons (ss_for [2, 3] rfl .never (ii_enum bt.enumerate (aa_cons (EE.ls (ee_name 0 rfl ⟨_, rfl, aa_nil ⟨_, rfl, fun i is M => (∃ x y, is = [some (dat (tD g)), some (raw (.ref a)), x, y]) ∧ M = [(a, .dk (kvP sk pB ((g.take i).map fun v => (v.1, true))))], ⟨⟨none, none, rfl⟩, rfl⟩, ?_, ?_⟩⟩)))))
  · rintro i p is M hget ⟨⟨x, y, rfl⟩, rfl⟩
    obtain ⟨v, hv, rfl⟩ := enum_get (f := fun v : Str × List Dart => dat (tD v)) (xs := g) (by rw [show (g.map fun v => dat (tD v)) = (g.map Datum.toD).map dat from dats_map _ g]; exact hget)
    have hm := List.mem_of_getElem? hv
    have vt : ∀ {M : MS}, TpP (dat (tD v)) ([PyData.str v.1, .list (v.2.map Datum.toD)].map dat) := .ds _
    have nl := name_len (wf.isn v hm)
    refine gg_tup rfl (ggs_cons (gg_name 2 scCv.nd (ggs_cons (gg_name 3 scCv.nd (ggs_nil ?_)))))
    refine bb_cons (ss_if (tt_w (wt_or (tt_not (tt_val (ee_isi (T := "tuple") bt.isinstance bt.tuple (by decide +kernel) (ee_name 3 rfl ⟨"tuple", true, .tp (vt (M := [])), by decide +kernel, true, rfl, (fun z => nomatch z), fun _ => ?_⟩)))))))
    refine wt_or (tt_cmp (cc_neD (α := Int) hr.units (by decide) (ee_len bt.len (aa_cons (ee_name 3 rfl (aa_nil ⟨_, 2, rfl, .tp (vt (M := [])), ee_int ⟨2, 2, .inl rfl, .inl rfl, false, rfl, (fun z => nomatch z), fun _ => ?_⟩⟩))))))
    refine wt_or (tt_not (tt_val (ee_callp C1 hr (aa_cons (ee_ixt (ee_name 3 rfl (ee_int ⟨_, 0, dat (.str v.1), vt (M := []), rfl, rfl, aa_nil ⟨v.1, rfl, by omega, isNameB v.1, rfl, ?_, ?_⟩⟩)))))))
    · rw [wf.isn v hm]
      exact fun z => nomatch z
    refine fun _ => wt_or1 (tt_not (tt_val (ee_isi (T := "list") bt.isinstance bt.list (by decide +kernel) (ee_ixt (ee_name 3 rfl (ee_int ⟨_, 1, dat (.list (v.2.map Datum.toD)), vt (M := []), rfl, rfl, "list", true, .ls (.ds _), by decide +kernel, true, rfl, (fun z => nomatch z), fun _ => bb_nil ?_⟩))))))
    have hnew : v.1 ∉ ((g.take i).map fun v => (v.1, true)).map (·.1) := by
      have nd := wf.names
      rw [split_at hv, List.map_append, List.nodup_append] at nd
      rw [List.map_map]
      exact fun z => nd.2.2 v.1 z v.1 List.mem_cons_self rfl
    refine bb_cons (ss_if (tt_cmp (cc_din hr.units (ee_ixt (ee_name 3 rfl (ee_int ⟨_, 0, dat (.str v.1), vt (M := []), rfl, rfl, ee_name 1 rfl ⟨none, DG.k' (.own (i := 0) rfl) (sk v.1) (by rw [getP_kv sk_inj, asc_none.mpr hnew]; rfl), false, rfl, (fun z => nomatch z), fun _ => bb_nil ?_⟩⟩))))))
    refine bb_cons (ss_asg [] (ee_bl (gg_putk hr.units (ee_name 1 rfl ⟨a, rfl, ee_ixt (ee_name 3 rfl (ee_int ⟨_, 0, dat (.str v.1), vt (M := []), rfl, rfl, 0, _, sk v.1, rfl, rfl, ?_, bb_nil ⟨⟨_, _, rfl⟩, ?_⟩⟩))⟩))))
    · rw [kv_len, List.length_map, List.length_take]
      have := wf.vs
      omega
    · have e2 := putP_new (kf := sk) (pf := pB) sk_inj true hnew
      have e3 : (g.take (i + 1)).map (fun v => (v.1, true)) = (g.take i).map (fun v => (v.1, true)) ++ [(v.1, true)] := by
        rw [take_at hv, List.map_append]; rfl
      rw [e3, ← e2]
      rfl
  · rintro is M ⟨⟨x, y, rfl⟩, rfl⟩
    exact bb_nil hp
end
end Q9
namespace Q9
open PySem L2
open PySem.W (Datum DatumOrd minOf)
theorem darts_take {g : Gr} {i : Nat} {v : Str × List Dart} (h : g[i]? = some v) : darts (g.take (i + 1)) = darts (g.take i) ++ v.2 := by
  unfold darts
  rw [take_at h, List.flatMap_append]
  simp
theorem darts_split {g : Gr} {i : Nat} {v : Str × List Dart} (h : g[i]? = some v) : darts g = darts (g.take i) ++ (v.2 ++ darts (g.drop (i + 1))) := by
  have e := split_at h
  unfold darts
  conv => lhs; rw [e]
  rw [List.flatMap_append, List.flatMap_cons]
theorem darts_mem {g : Gr} {v : Str × List Dart} {d : Dart} (hv : v ∈ g) (hd : d ∈ v.2) : d ∈ darts g := List.mem_flatMap.mpr ⟨v, hv, hd⟩
theorem row_len {g : Gr} {v : Str × List Dart} (wf : WF g) (hv : v ∈ g) : v.2.length ≤ 120 := by
  obtain ⟨i, hi⟩ := List.mem_iff_getElem?.mp hv
  have := wf.sz
  rw [darts_split hi, List.length_append, List.length_append] at this
  omega
/-- the darts in a dict, each true -/
def dtT (ds : List Dart) : List (List Key × Pr) := kvP dk pB (ds.map fun d => (d, true))
theorem dtT_get {ds : List Dart} (d : Dart) : getP (dtT ds) (dk d) = if d ∈ ds then some (pB true) else none := by
  unfold dtT
  rw [getP_kv dk_inj']
  by_cases h : d ∈ ds
  · rw [if_pos h]
    induction ds with
    | nil => cases h
    | cons x xs ih =>
      rw [List.map_cons, asc_cons]
      by_cases e : x = d
      · rw [if_pos e]; rfl
      · rw [if_neg e]
        exact ih ((List.mem_cons.mp h).resolve_left fun z => e z.symm)
  · rw [if_neg h, asc_none.mpr]
    · rfl
    · rw [List.map_map]
      simpa using h
theorem dtT_put {ds : List Dart} {d : Dart} (h : d ∉ ds) : putP (dtT ds) (dk d) (pB true) = dtT (ds ++ [d]) := by
  unfold dtT
  rw [putP_new dk_inj' true (by rw [List.map_map]; simpa using h), List.map_append]
  rfl
section
variable {P : Program} {w : World} {K : PySem.W.Frag} {mg : Str → Option Value} {base : Heap} {k : Nat}
theorem scCd : FnScope ["value", "darts", "index", "vertex", "rotation", "dart"] ["value"] (defScope (tp 23)) := ⟨rfl, rfl, rfl, by decide +kernel, rfl, by decide +kernel, by decide +kernel⟩
def spCd : List Pr → (Pr → Prop) → Prop := fun ps post => ∃ g : Gr, ps = [dat (tD g)] ∧ WF g ∧ post (dtP (dtT (darts g)))
theorem cal_cd (bt : Bt mg) (t : Top K mg "check_darts" (tp 23) ["value"]) (C1 : Cal P w K mg base k "is_dart" ["value"] (pur spDart)) : Cal P w K mg base (k + 1) "check_darts" ["value"] (pur spCd) := by
  refine cal_pur t scCd (fun prs post ⟨d, e, _⟩ => by rw [e]; rfl) fun f cdv A outer s H E B hS hr prs post ⟨g, e, wf, hp⟩ => ?_
  subst e
  refine bb_cons (ss_set 1 (ee_newt fun a => ?_) scCd.nd)
  refine bb_cons (ss_for [2, 3, 4] rfl .never (ii_enum bt.enumerate (aa_cons (EE.ls (ee_name 0 rfl ⟨_, rfl, aa_nil ⟨_, rfl, fun i is M => (∃ x y z u, is = [some (dat (tD g)), some (raw (.ref a)), x, y, z, u]) ∧ M = [(a, .dt (dtT (darts (g.take i))))], ⟨⟨none, none, none, none, rfl⟩, rfl⟩, ?_, ?_⟩⟩)))))
  · rintro i p is M hget ⟨⟨x, y, z, u, rfl⟩, rfl⟩
    obtain ⟨v, hv, rfl⟩ := enum_get (f := fun v : Str × List Dart => dat (tD v)) (xs := g) (by rw [show (g.map fun v => dat (tD v)) = (g.map Datum.toD).map dat from dats_map _ g]; exact hget)
    have hm := List.mem_of_getElem? hv
    refine gg_tup rfl (ggs_cons (gg_name 2 scCd.nd (ggs_cons (gg_tupd (ds := [.str v.1, .list (v.2.map Datum.toD)]) rfl (ggs_cons (gg_name 3 scCd.nd (ggs_cons (gg_name 4 scCd.nd (ggs_nil (ggs_nil ?_))))))))))
    refine bb_cons (ss_for [5] rfl .never (ii_lstd (ee_name 4 rfl ⟨v.2.map Datum.toD, rfl, fun j is M => (∃ u, is = [some (dat (tD g)), some (raw (.ref a)), some (dat (.int i)), some (dat (.str v.1)), some (dat (.list (v.2.map Datum.toD))), u]) ∧ M = [(a, .dt (dtT (darts (g.take i) ++ v.2.take j)))], ⟨⟨u, rfl⟩, by simp⟩, ?_, ?_⟩)))
    · rintro j p is M hget ⟨⟨u, rfl⟩, rfl⟩
      rw [List.getElem?_map, List.getElem?_map] at hget
      obtain ⟨dd, hdd, rfl⟩ := Option.map_eq_some_iff.mp hget
      obtain ⟨d, hd, rfl⟩ := Option.map_eq_some_iff.mp hdd
      have dm := List.mem_of_getElem? hd
      have dmem := darts_mem hm dm
      have hnew : d ∉ darts (g.take i) ++ v.2.take j := by
        have nd := wf.nd
        rw [darts_split hv, split_at hd, List.append_assoc, ← List.append_assoc, List.nodup_append] at nd
        exact fun z => nd.2.2 d z d List.mem_cons_self rfl
      refine gg_name 5 scCd.nd ?_
      refine bb_cons (ss_if (tt_w (wt_or (tt_not (tt_val (ee_callp C1 hr (aa_cons (ee_name 5 rfl (aa_nil ⟨d, rfl, wf.dart d dmem, true, rfl, (fun z => nomatch z), fun _ => ?_⟩)))))))))
      refine wt_or1 (tt_cmp (cc_din hr.units (ee_name 5 rfl (ee_name 1 rfl ⟨none, DG.t' (.own (i := 0) rfl) (dk d) (by rw [dtT_get, if_neg hnew]), false, rfl, (fun z => nomatch z), fun _ => bb_nil ?_⟩))))
      refine bb_cons (ss_asg [] (ee_bl (gg_putt hr.units (ee_name 1 rfl ⟨a, rfl, ee_name 5 rfl ⟨0, _, dk d, rfl, rfl, ?_, bb_nil ⟨⟨_, rfl⟩, ?_⟩⟩⟩))))
      · show (dtT _).length ≤ _
        unfold dtT
        rw [kv_len, List.length_map, List.length_append, List.length_take]
        have h1 := wf.sz
        rw [darts_split hv, List.length_append, List.length_append] at h1
        omega
      · rw [take_at hd, ← List.append_assoc, ← dtT_put hnew]
        rfl
    · rintro is M ⟨⟨u, rfl⟩, rfl⟩
      refine bb_nil ⟨⟨_, _, _, _, rfl⟩, ?_⟩
      rw [darts_take hv, List.length_map, List.length_map, List.take_length]
  · rintro is M ⟨⟨x, y, z, u, rfl⟩, rfl⟩
    refine bb_cons (ss_ret (ee_frz (ee_name 1 rfl ⟨a, 0, rfl, .inr (.inr ⟨_, rfl, ?_⟩)⟩)))
    show post (dtP (dtT (darts (g.take _))))
    rw [enum_len (f := dat) (xs := g.map Datum.toD), List.length_map, List.take_length]
    exact hp
theorem scCg : FnScope ["value", "darts", "index", "vertex", "rotation", "dart"] ["value"] (defScope (tp 24)) := ⟨rfl, rfl, rfl, by decide +kernel, rfl, by decide +kernel, by decide +kernel⟩
def spCg : List Pr → (Pr → Prop) → Prop := fun ps post => ∃ g : Gr, ps = [dat (tD g)] ∧ WF g ∧ post (dat .none)
theorem cal_cg (bt : Bt mg) (t : Top K mg "check_graph" (tp 24) ["value"]) (C1 : Cal P w K mg base k "check_vertices" ["value"] (pur spCv)) (C2 : Cal P w K mg base k "check_darts" ["value"] (pur spCd)) (C3 : Cal P w K mg base k "opposite" ["dart"] (pur spOpp)) : Cal P w K mg base (k + 1) "check_graph" ["value"] (pur spCg) := by
  refine cal_pur t scCg (fun prs post ⟨d, e, _⟩ => by rw [e]; rfl) fun f cdv A outer s H E B hS hr prs post ⟨g, e, wf, hp⟩ => ?_
  subst e
  obtain ⟨t1, m1⟩ := bt.maxVertices
  obtain ⟨t2, m2⟩ := bt.maxEdges
  refine bb_cons (ss_if (tt_w (wt_or (tt_not (tt_val (ee_isi (T := "list") bt.isinstance bt.list (by decide +kernel) (ee_name 0 rfl ⟨"list", true, .ls (M := []) (.ds (g.map Datum.toD)), by decide +kernel, true, rfl, (fun z => nomatch z), fun _ => ?_⟩)))))))
  refine wt_or1 (tt_cmp (cc_gt (ee_len bt.len (aa_cons (ee_name 0 rfl (aa_nil ⟨_, _, rfl, .ls (M := []) (.ds (g.map Datum.toD)), _, rfl, ee_gint m1 ⟨100, rfl, false, ?_, (fun z => nomatch z), fun _ => bb_nil ?_⟩⟩))))))
  · rw [List.length_map, List.length_map]
    have := wf.vs
    rw [decide_eq_false (by omega)]
  refine bb_cons (ss_expr (ee_callp C1 hr (aa_cons (ee_name 0 rfl (aa_nil ⟨g, rfl, wf, ?_⟩)))))
  refine bb_cons (ss_set 1 (ee_callp C2 hr (aa_cons (ee_name 0 rfl (aa_nil ⟨g, rfl, wf, ?_⟩)))) scCg.nd)
  refine bb_cons (ss_for [2, 3, 4] rfl .never (ii_enum bt.enumerate (aa_cons (EE.ls (ee_name 0 rfl ⟨_, rfl, aa_nil ⟨_, rfl, fun i is M => (∃ x y z u, is = [some (dat (tD g)), some (dtP (dtT (darts g))), x, y, z, u]) ∧ M = [], ⟨⟨none, none, none, none, rfl⟩, rfl⟩, ?_, ?_⟩⟩)))))
  · rintro i p is M hget ⟨⟨x, y, z, u, rfl⟩, rfl⟩
    obtain ⟨v, hv, rfl⟩ := enum_get (f := fun v : Str × List Dart => dat (tD v)) (xs := g) (by rw [show (g.map fun v => dat (tD v)) = (g.map Datum.toD).map dat from dats_map _ g]; exact hget)
    have hm := List.mem_of_getElem? hv
    refine gg_tup rfl (ggs_cons (gg_name 2 scCg.nd (ggs_cons (gg_tupd (ds := [.str v.1, .list (v.2.map Datum.toD)]) rfl (ggs_cons (gg_name 3 scCg.nd (ggs_cons (gg_name 4 scCg.nd (ggs_nil (ggs_nil ?_))))))))))
    refine bb_cons (ss_if (tt_not (tt_val (ee_all rfl bt.all (aa_cons (ee_mapD ["value", "darts", "index", "vertex", "rotation", "dart"] (defScope (tp 24)) [("dart", 5)] v.2 (fun d => dat (tD d)) (fun _ => .bool true) rfl scCg.nd (by decide +kernel) (ii_lstd (ee_name 4 rfl ⟨v.2.map Datum.toD, rfl, (dats_map _ _).symm, by have := row_len wf hm; omega, fun L d acc hd s H C cl fp => gg_name 5 scCg.nd ⟨rfl, fun s H C cl fp => ?_⟩, ?_⟩))))))))
    · refine ee_cmp (cc_din hr.units (ee_callp C3 hr (aa_cons (ee_name 5 rfl (aa_nil ⟨d.1, d.2, rfl, ee_name 1 rfl ⟨some (pB true), DG.t' (.fix _) (dk (opp d)) ?_, rfl, rfl⟩⟩)))))
      rw [dtT_get, if_pos (wf.op d (darts_mem hm hd))]
    · refine aa_nil ⟨_, v.2.map (fun _ => true), rfl, ?_, true, ?_, (fun z => nomatch z), fun _ => bb_nil (bb_nil ⟨⟨_, _, _, _, rfl⟩, rfl⟩)⟩
      · have e : (v.2.map (fun _ => true)).map (fun b => dat (.bool b)) = (v.2.map fun _ => PyData.bool true).map dat := by rw [List.map_map, List.map_map]; rfl
        rw [e]
        exact .ds _
      · have e : (v.2.map fun _ => true).all id = true := by simp
        rw [e]
  · rintro is M ⟨⟨x, y, z, u, rfl⟩, rfl⟩
    refine bb_cons (ss_if (tt_cmp (cc_gt (ee_lent bt.len (aa_cons (ee_name 1 rfl (aa_nil ⟨_, dtT (darts g), rfl, .fix _, _, rfl, ee_mul (ee_int ⟨2, rfl, ee_gint m2 ⟨60, rfl, .inl ⟨by decide, by decide⟩, _, rfl, false, ?_, (fun z => nomatch z), fun _ => bb_nil (bb_nil hp)⟩⟩)⟩)))))))
    unfold dtT
    rw [kv_len, List.length_map]
    have := wf.sz
    rw [decide_eq_false (by omega)]
end
end Q9
namespace Q9
open PySem L2
open PySem.W (Datum DatumOrd minOf)
theorem cut_from {α : Type} (xs : List α) (n : Nat) : cutP xs (some (n : Int)) none = xs.drop n := by
  unfold cutP
  rw [HT.sIx_nat, HT.sIx_none]
  rcases Nat.lt_or_ge n xs.length with h | h
  · rw [Nat.min_eq_left (Nat.le_of_lt h), List.take_of_length_le (by simp)]
  · rw [Nat.min_eq_right h, List.drop_length, List.drop_eq_nil_of_le h, List.take_nil]
theorem cut_to {α : Type} (xs : List α) (n : Nat) : cutP xs none (some (n : Int)) = xs.take n := by
  unfold cutP
  rw [HT.sIx_nat, HT.sIx_none, List.drop_zero, Nat.sub_zero]
  rcases Nat.lt_or_ge n xs.length with h | h
  · rw [Nat.min_eq_left (Nat.le_of_lt h)]
  · rw [Nat.min_eq_right h, List.take_length, List.take_of_length_le h]
theorem toD_dart_inj : ∀ a b : Dart, (Datum.toD a : PyData) = Datum.toD b → a = b := fun a b h => by
  have e : PyData.tuple [.str a.1, .int a.2] = .tuple [.str b.1, .int b.2] := h
  injection e with e
  injection e with e1 e2
  injection e2 with e2 _
  injection e1 with e1
  injection e2 with e2
  exact Prod.ext e1 e2
theorem minOf_mem {α : Type} [DecidableEq α] [DatumOrd α] (x : α) (xs : List α) : minOf x xs ∈ x :: xs := by
  unfold minOf
  induction xs generalizing x with
  | nil => exact List.mem_cons_self
  | cons y ys ih =>
    rw [List.foldl_cons]
    have := ih (if DatumOrd.lt y x = true then y else x)
    rcases List.mem_cons.mp this with e | e
    · rw [e]
      split
      · exact List.mem_cons_of_mem _ List.mem_cons_self
      · exact List.mem_cons_self
    · exact List.mem_cons_of_mem _ (List.mem_cons_of_mem _ e)
/-- the first place, by decided equality -/
def ixD {α : Type} [DecidableEq α] (x : α) (xs : List α) : Nat := xs.idxOf x
def startOf : List Dart → Nat
  | [] => 0
  | x :: xs => ixD (minOf x xs) (x :: xs)
def rotT (r : List Dart) : List Dart := r.drop (startOf r) ++ r.take (startOf r)
def pRow (r : List Dart) : Pr := dat (tD r)
def normT (l : Gr) : Gr := (srt (l.map (·.1))).map fun v => (v, rotT ((asc l v).getD []))
def edgesRaw (g : Gr) : List Str := g.flatMap fun v => (v.2.filter fun d => decide (d.2 = 0)).map (·.1)
section
variable {P : Program} {w : World} {K : PySem.W.Frag} {mg : Str → Option Value} {base : Heap} {k : Nat}
theorem scRot : FnScope ["rotation", "start"] ["rotation"] (defScope (tp 25)) := ⟨rfl, rfl, rfl, by decide +kernel, rfl, by decide +kernel, by decide +kernel⟩
def spRot : List Pr → (Pr → Prop) → Prop := fun ps post => ∃ r : List Dart, ps = [dat (tD r)] ∧ r.length ≤ 1000 ∧ post (dat (tD (rotT r)))
theorem cal_rot (bt : Bt mg) (t : Top K mg "rotated" (tp 25) ["rotation"]) : Cal P w K mg base (k + 1) "rotated" ["rotation"] (pur spRot) := by
  refine cal_pur t scRot (fun prs post ⟨d, e, _⟩ => by rw [e]; rfl) fun f cdv A outer s H E B hS hr prs post ⟨r, e, hl, hp⟩ => ?_
  subst e
  have fin : ∀ n : Nat, n = startOf r → BB (cxOf CX0 P w K mg base ["rotation", "start"] "rotated" (defScope (tp 25)) f cdv A outer s H E).nox B ((defBody (tp 25)).drop 1) [some (dat (tD r)), some (dat (.int n))] [] (retP post) := fun n e => by
    subst e
    refine bb_cons (ss_ret (ee_catd (ee_sliced (ee_name 0 rfl (ee_name 1 rfl ⟨_, rfl, ⟨r.map Datum.toD, .ds _, ee_sliced (ee_name 0 rfl (ee_name 1 rfl ⟨_, rfl, ⟨r.map Datum.toD, .ds _, _, _, .ds _, .ds _, ?_, ?_⟩⟩))⟩⟩)))))
    · rw [cut_from, cut_to, List.length_drop, List.length_take, List.length_map]
      omega
    · rw [cut_from, cut_to, ← List.map_drop, ← List.map_take, ← List.map_append]
      exact hp
  refine bb_cons (ss_set 1 (ee_if (tt_cmp (cc_neD (α := List Dart) hr.units (by decide) (ee_name 0 rfl (ee_lstd (aa_nil ⟨[], rfl, by simp, r, [], .inl rfl, .inl rfl, _, rfl, fun z => ?_, fun z => ?_⟩)))))) scRot.nd)
  · cases r with
    | nil => cases z
    | cons x xs =>
      refine ee_index (α := Dart) hr.units (by decide) (ee_name 0 rfl ⟨x :: xs, rfl, ee_min (α := Dart) rfl hr.units (by decide) toD_dart_inj bt.min (aa_cons (ee_name 0 rfl (aa_nil ⟨_, x, xs, rfl, .ds _, minOf x xs, rfl, minOf_mem x xs, by omega, fin _ rfl⟩)))⟩)
  · cases r with
    | nil => exact ee_int (fin 0 rfl)
    | cons x xs => cases z
theorem scNormd : FnScope ["rows", "vertex"] ["rows"] (defScope (tp 26)) := ⟨rfl, rfl, rfl, by decide +kernel, rfl, by decide +kernel, by decide +kernel⟩
def spNormd : List Pr → (Pr → Prop) → Prop := fun ps post => ∃ l : Gr, ps = [dkP (kvP sk pRow l)] ∧ (∀ v ∈ l, v.2.length ≤ 1000) ∧ l.length ≤ 1000 ∧ post (dat (tD (normT l)))
theorem cal_normd (bt : Bt mg) (t : Top K mg "normalized" (tp 26) ["rows"]) (C1 : Cal P w K mg base k "rotated" ["rotation"] (pur spRot)) : Cal P w K mg base (k + 1) "normalized" ["rows"] (pur spNormd) := by
  refine cal_pur t scNormd (fun prs post ⟨d, e, _⟩ => by rw [e]; rfl) fun f cdv A outer s H E B hS hr prs post ⟨l, e, hl, hn, hp⟩ => ?_
  subst e
  refine bb_cons (ss_ret (ee_mapD ["rows", "vertex"] (defScope (tp 26)) [("vertex", 1)] (srt (l.map (·.1))) (fun v => dat (.str v)) (fun v => tD (v, rotT ((asc l v).getD []))) rfl scNormd.nd (by decide +kernel) (ii_lstd (ee_sortK rfl hr.units bt.sorted (aa_cons (ee_name 0 rfl (aa_nil ⟨_, _, l.map (·.1), rfl, .fix _, kv_keys l, srt_str (by rw [List.length_map]; omega), _, rfl, (dats_map _ _).symm, by rw [srt_len, List.length_map]; omega, fun L v acc hv s H C cl fp => gg_name 1 scNormd.nd ⟨rfl, fun s H C cl fp => ?_⟩, ?_⟩)))))))
  · rw [mem_srt] at hv
    obtain ⟨x, hx, ex⟩ := List.mem_map.mp hv
    cases ea : asc l v with
    | none => exact absurd hv (asc_none.mp ea)
    | some r =>
      refine ee_tupd (aa_cons (ee_name 1 rfl (aa_cons (ee_callp C1 hr (aa_cons (ee_dget hr.units (ee_name 0 rfl (ee_name 1 rfl ⟨pRow r, DG.k' (.fix _) (sk v) (by rw [getP_kv sk_inj, ea]; rfl), aa_nil ⟨r, rfl, hl _ (asc_mem ea), aa_nil ⟨[.str v, tD (rotT r)], rfl, by simp, rfl, rfl⟩⟩⟩))))))))
  · have e : tD (normT l) = .list ((srt (l.map (·.1))).map fun v => tD (v, rotT ((asc l v).getD []))) := by
      show PyData.list ((normT l).map Datum.toD) = _
      unfold normT
      rw [List.map_map]
      rfl
    rw [e] at hp
    exact hp
theorem scNorm : FnScope ["value", "vertex", "rotation"] ["value"] (defScope (tp 27)) := ⟨rfl, rfl, rfl, by decide +kernel, rfl, by decide +kernel, by decide +kernel⟩
def spNorm : List Pr → (Pr → Prop) → Prop := fun ps post => ∃ g : Gr, ps = [dat (tD g)] ∧ WF g ∧ post (dat (tD (normT g)))
theorem cal_norm (bt : Bt mg) (t : Top K mg "normalize" (tp 27) ["value"]) (C1 : Cal P w K mg base k "check_graph" ["value"] (pur spCg)) (C2 : Cal P w K mg base k "normalized" ["rows"] (pur spNormd)) : Cal P w K mg base (k + 1) "normalize" ["value"] (pur spNorm) := by
  refine cal_pur t scNorm (fun prs post ⟨d, e, _⟩ => by rw [e]; rfl) fun f cdv A outer s H E B hS hr prs post ⟨g, e, wf, hp⟩ => ?_
  subst e
  refine bb_cons (ss_expr (ee_callp C1 hr (aa_cons (ee_name 0 rfl (aa_nil ⟨g, rfl, wf, ?_⟩)))))
  refine bb_cons (ss_ret (ee_callp C2 hr (aa_cons (ee_frz (ee_dc ["value", "vertex", "rotation"] (defScope (tp 27)) [("vertex", 1), ("rotation", 2)] rfl scNorm.nd (by decide +kernel) (ii_lstd (ee_name 0 rfl ⟨g.map Datum.toD, rfl, by have := wf.vs; rw [List.length_map, List.length_map]; omega, fun i acc => acc = kvP sk pRow (g.take i), rfl, ?_, ?_⟩)))))))
  · rintro L i p acc hp' rfl s H C cl fp
    rw [List.getElem?_map, List.getElem?_map] at hp'
    obtain ⟨dd, hdd, rfl⟩ := Option.map_eq_some_iff.mp hp'
    obtain ⟨v, hv, rfl⟩ := Option.map_eq_some_iff.mp hdd
    refine gg_tupd (ds := [.str v.1, .list (v.2.map Datum.toD)]) rfl (ggs_cons (gg_name 1 scNorm.nd (ggs_cons (gg_name 2 scNorm.nd (ggs_nil ⟨rfl, fun s H C cl fp => .inl ⟨rfl, rfl, (fun z => nomatch z), fun _ s H C cl fp => ee_name 1 rfl ⟨rfl, fun s H C cl fp => ee_listd bt.list (aa_cons (ee_name 2 rfl (aa_nil ⟨_, _, rfl, .ds _, rfl, sk v.1, rfl, ?_⟩)))⟩⟩⟩)))))
    show putP _ _ _ = kvP sk pRow (g.take (i + 1))
    rw [take_at hv]
    refine putP_new (kf := sk) (pf := pRow) sk_inj v.2 fun z => ?_
    have nd := wf.names
    rw [split_at hv, List.map_append, List.nodup_append] at nd
    exact nd.2.2 v.1 z v.1 List.mem_cons_self rfl
  · rintro acc rfl a
    refine ⟨a, 0, rfl, .inr (.inl ⟨_, rfl, aa_nil ⟨g, ?_, fun v hv => by have := row_len wf hv; omega, by have := wf.vs; omega, hp⟩⟩)⟩
    rw [List.length_map, List.length_map, List.take_length]
theorem scVn : FnScope ["graph", "vertex", "rotation"] ["graph"] (defScope (tp 28)) := ⟨rfl, rfl, rfl, by decide +kernel, rfl, by decide +kernel, by decide +kernel⟩
def spVn : List Pr → (Pr → Prop) → Prop := fun ps post => ∃ g : Gr, ps = [dat (tD g)] ∧ g.length ≤ 1000 ∧ post (dat (tD (srt (g.map (·.1)))))
theorem cal_vn (bt : Bt mg) (t : Top K mg "vertex_names" (tp 28) ["graph"]) : Cal P w K mg base (k + 1) "vertex_names" ["graph"] (pur spVn) := by
  refine cal_pur t scVn (fun prs post ⟨d, e, _⟩ => by rw [e]; rfl) fun f cdv A outer s H E B hS hr prs post ⟨g, e, hl, hp⟩ => ?_
  subst e
  refine bb_cons (ss_ret (ee_sortL (Datum.toD : Str → PyData) hr.units bt.sorted (aa_cons (ee_mapD ["graph", "vertex", "rotation"] (defScope (tp 28)) [("vertex", 1), ("rotation", 2)] g (fun v => dat (tD v)) (fun v => .str v.1) rfl scVn.nd (by decide +kernel) (ii_lstd (ee_name 0 rfl ⟨g.map Datum.toD, rfl, (dats_map _ _).symm, by omega, fun L v acc hv s H C cl fp => ?_, ?_⟩))))))
  · exact gg_tupd (ds := [.str v.1, .list (v.2.map Datum.toD)]) rfl (ggs_cons (gg_name 1 scVn.nd (ggs_cons (gg_name 2 scVn.nd (ggs_nil ⟨rfl, fun s H C cl fp => ee_name 1 rfl ⟨rfl, rfl⟩⟩)))))
  · refine aa_nil ⟨_, g.map (·.1), rfl, ?_, srt_str (by rw [List.length_map]; omega), ?_⟩
    rotate_left
    · exact hp
    have e : (g.map (·.1)).map (Datum.toD : Str → PyData) = g.map fun v => .str v.1 := by rw [List.map_map]; rfl
    rw [e]
    exact .ds _
theorem scEn : FnScope ["graph", "vertex", "rotation", "edge", "side"] ["graph"] (defScope (tp 29)) := ⟨rfl, rfl, rfl, by decide +kernel, rfl, by decide +kernel, by decide +kernel⟩
def spEn : List Pr → (Pr → Prop) → Prop := fun ps post => ∃ g : Gr, ps = [dat (tD g)] ∧ WF g ∧ post (dat (tD (srt (edgesRaw g))))
theorem edges_len {g : Gr} (wf : WF g) : (edgesRaw g).length ≤ 120 := by
  have h : ∀ l : Gr, (edgesRaw l).length ≤ (darts l).length := by
    intro l
    induction l with
    | nil => exact Nat.le_refl _
    | cons v l ih =>
      unfold edgesRaw darts at ih ⊢
      rw [List.flatMap_cons, List.flatMap_cons, List.length_append, List.length_append, List.length_map]
      have := List.length_filter_le (fun d : Dart => decide (d.2 = 0)) v.2
      omega
  exact Nat.le_trans (h g) wf.sz
theorem cal_en (bt : Bt mg) (t : Top K mg "edge_names" (tp 29) ["graph"]) : Cal P w K mg base (k + 1) "edge_names" ["graph"] (pur spEn) := by
  refine cal_pur t scEn (fun prs post ⟨d, e, _⟩ => by rw [e]; rfl) fun f cdv A outer s H E B hS hr prs post ⟨g, e, wf, hp⟩ => ?_
  subst e
  refine bb_cons (ss_ret (ee_sortL (Datum.toD : Str → PyData) hr.units bt.sorted (aa_cons (EE.imp (P := fun p M' => p = lstP (((edgesRaw g).map Datum.toD).map dat) ∧ M' = []) (ee_lc2 ["graph", "vertex", "rotation", "edge", "side"] (defScope (tp 29)) [("vertex", 1), ("rotation", 2), ("edge", 3), ("side", 4)] [3, 4] rfl scEn.nd (by decide +kernel) (by decide) (ii_lstd (ee_name 0 rfl ⟨g.map Datum.toD, rfl, by have := wf.vs; rw [List.length_map, List.length_map]; omega, fun i acc => acc = ((edgesRaw (g.take i)).map Datum.toD).map dat, rfl, ?_, ?_⟩))) ?_))))
  · rintro L i p acc hp' rfl s H C cl fp
    rw [List.getElem?_map, List.getElem?_map] at hp'
    obtain ⟨dd, hdd, rfl⟩ := Option.map_eq_some_iff.mp hp'
    obtain ⟨v, hv, rfl⟩ := Option.map_eq_some_iff.mp hdd
    have hm := List.mem_of_getElem? hv
    refine gg_tupd (ds := [.str v.1, .list (v.2.map Datum.toD)]) rfl (ggs_cons (gg_name 1 scEn.nd (ggs_cons (gg_name 2 scEn.nd (ggs_nil ⟨rfl, fun s H C cl fp => .inl ⟨rfl, rfl, (fun z => nomatch z), fun _ s H C cl fp => ii_lstd (ee_name 2 rfl ⟨v.2.map Datum.toD, rfl, rfl, by have := row_len wf hm; rw [List.length_map, List.length_map]; omega, fun j ac => ac = ((edgesRaw (g.take i) ++ ((v.2.take j).filter fun d => decide (d.2 = 0)).map (·.1)).map Datum.toD).map dat, by simp, ?_, ?_⟩)⟩⟩)))))
    · rintro j q ac hq rfl s H C cl fp
      rw [List.getElem?_map, List.getElem?_map] at hq
      obtain ⟨dd, hdd, rfl⟩ := Option.map_eq_some_iff.mp hq
      obtain ⟨d, hd, rfl⟩ := Option.map_eq_some_iff.mp hdd
      refine gg_tupd (ds := [.str d.1, .int d.2]) rfl (ggs_cons (gg_name 3 scEn.nd (ggs_cons (gg_name 4 scEn.nd (ggs_nil ⟨rfl, fun s H C cl fp => .inr ⟨_, rfl, tt_cmp (cc_eqD (α := Int) hr.units (by decide) (ee_name 4 rfl (ee_int ⟨d.2, 0, .inl rfl, .inl rfl, _, rfl, rfl, fun z => ?_, fun z s H C cl fp => ee_name 3 rfl ⟨rfl, ?_⟩⟩)))⟩⟩)))))
      · show _ = ((edgesRaw (g.take i) ++ ((v.2.take (j + 1)).filter fun d => decide (d.2 = 0)).map (·.1)).map Datum.toD).map dat
        rw [take_at hd, List.filter_append, List.filter_cons, z]
        simp
      · show _ = ((edgesRaw (g.take i) ++ ((v.2.take (j + 1)).filter fun d => decide (d.2 = 0)).map (·.1)).map Datum.toD).map dat
        rw [take_at hd, List.filter_append, List.filter_cons, z]
        simp
        rfl
    · rintro ac rfl
      show _ = ((edgesRaw (g.take (i + 1))).map Datum.toD).map dat
      have e : edgesRaw (g.take (i + 1)) = edgesRaw (g.take i) ++ (v.2.filter fun d => decide (d.2 = 0)).map (·.1) := by
        unfold edgesRaw
        rw [take_at hv, List.flatMap_append]
        simp
      rw [e, List.length_map, List.length_map, List.take_length]
  · rintro acc rfl
    exact ⟨by rw [List.length_map, List.length_map, List.take_length], rfl⟩
  · rintro p M ⟨rfl, rfl⟩
    exact aa_nil ⟨_, edgesRaw g, rfl, .fix _, srt_str (by have := edges_len wf; omega), hp⟩
end
end Q9
namespace Q9
open PySem L2
open PySem.W (Datum DatumOrd minOf)
def rot1 {α : Type} (l : List α) : List α := l.drop 1 ++ l.take 1
def nexts (g : Gr) : List (Dart × Dart) := g.flatMap fun v => v.2.zip (rot1 v.2)
def vofs (g : Gr) : List (Dart × Str) := g.flatMap fun v => v.2.map fun d => (d, v.1)
def pD (d : Dart) : Pr := dat (tD d)
def pS (x : Str) : Pr := dat (.str x)
theorem rot1_len {α : Type} (l : List α) : (rot1 l).length = l.length := by
  unfold rot1
  rw [List.length_append, List.length_drop, List.length_take]
  omega
theorem rot1_perm {α : Type} (l : List α) : (rot1 l).Perm l := by
  unfold rot1
  refine List.perm_append_comm.trans ?_
  rw [List.take_append_drop]
theorem nexts_fst (g : Gr) : (nexts g).map (·.1) = darts g := by
  unfold nexts darts
  rw [List.map_flatMap]
  congr 1
  funext v
  rw [List.map_fst_zip]
  rw [rot1_len]
  exact Nat.le_refl _
theorem nexts_snd (g : Gr) : ((nexts g).map (·.2)).Perm (darts g) := by
  induction g with
  | nil => exact .nil
  | cons v g ih =>
    unfold nexts darts at ih ⊢
    rw [List.flatMap_cons, List.flatMap_cons, List.map_append]
    refine List.Perm.append ?_ ih
    rw [List.map_snd_zip]
    · exact rot1_perm _
    · rw [rot1_len]
      exact Nat.le_refl _
theorem nexts_take {g : Gr} {i : Nat} {v : Str × List Dart} (h : g[i]? = some v) : nexts (g.take (i + 1)) = nexts (g.take i) ++ v.2.zip (rot1 v.2) := by
  unfold nexts
  rw [take_at h, List.flatMap_append]
  simp
theorem nexts_split {g : Gr} {i : Nat} {v : Str × List Dart} (h : g[i]? = some v) : nexts g = nexts (g.take i) ++ (v.2.zip (rot1 v.2) ++ nexts (g.drop (i + 1))) := by
  have e := split_at h
  unfold nexts
  conv => lhs; rw [e]
  rw [List.flatMap_append, List.flatMap_cons]
theorem vofs_fst (g : Gr) : (vofs g).map (·.1) = darts g := by
  unfold vofs darts
  rw [List.map_flatMap]
  congr 1
  funext v
  rw [List.map_map]
  exact List.map_id _
def anyP : Pr := ⟨fun _ _ => True, fun _ h => h⟩
abbrev nV : Str := "vertex_by"
abbrev nN : Str := "next_by"
abbrev nPr : Str := "previous_by"
abbrev nIs : Str := "isolated"
abbrev nHas : Str := "has_dart"
def four (a b c d : Pr) : List (Str × Pr) := [(nV, a), (nN, b), (nPr, c), (nIs, d)]
def rotFs (g : Gr) : List (Str × Pr) := four (dtP (kvP dk pS (vofs g))) (dtP (kvP dk pD (nexts g))) anyP anyP
/-- an object Rotations(g) -/
def rotP (C : Addr) (g : Gr) : Pr := insP C (rotFs g)
theorem lk_vb (a b c d : Pr) : (four a b c d).lookup nV = some a := rfl
theorem lk_nb (a b c d : Pr) : (four a b c d).lookup nN = some b := by
  unfold four
  rw [List.lookup_cons, show (nN == nV) = false by decide +kernel]
  rfl
theorem lk_pb (a b c d : Pr) : (four a b c d).lookup nPr = some c := by
  unfold four
  rw [List.lookup_cons, show (nPr == nV) = false by decide +kernel]
  dsimp only
  rw [List.lookup_cons, show (nPr == nN) = false by decide +kernel]
  rfl
theorem rot_no (g : Gr) : (rotFs g).lookup nHas = none := by
  unfold rotFs four
  rw [List.lookup_cons, show (nHas == nV) = false by decide +kernel]
  dsimp only
  rw [List.lookup_cons, show (nHas == nN) = false by decide +kernel]
  dsimp only
  rw [List.lookup_cons, show (nHas == nPr) = false by decide +kernel]
  dsimp only
  rw [List.lookup_cons, show (nHas == nIs) = false by decide +kernel]
  rfl
theorem fs2 (a b : Pr) : putFP nN b (putFP nV a []) = [(nV, a), (nN, b)] := by
  show (if nV = nN then [(nV, b)] else (nV, a) :: putFP nN b []) = [(nV, a), (nN, b)]
  rw [if_neg (by decide +kernel)]
  rfl
theorem fs3 (a b c : Pr) : putFP nPr c [(nV, a), (nN, b)] = [(nV, a), (nN, b), (nPr, c)] := by
  show (if nV = nPr then [(nV, c), (nN, b)] else (nV, a) :: (if nN = nPr then [(nN, c)] else (nN, b) :: putFP nPr c [])) = [(nV, a), (nN, b), (nPr, c)]
  rw [if_neg (by decide +kernel), if_neg (by decide +kernel)]
  rfl
theorem fs4 (a b c d : Pr) : putFP nIs d [(nV, a), (nN, b), (nPr, c)] = four a b c d := by
  show (if nV = nIs then [(nV, d), (nN, b), (nPr, c)] else (nV, a) :: (if nN = nIs then [(nN, d), (nPr, c)] else (nN, b) :: (if nPr = nIs then [(nPr, d)] else (nPr, c) :: putFP nIs d []))) = _
  rw [if_neg (by decide +kernel), if_neg (by decide +kernel), if_neg (by decide +kernel)]
  rfl
theorem zip_get {α β : Type} {f : α → Pr} {g : β → Pr} {xs : List α} {ys : List β} {i : Nat} {p : Pr} (hl : xs.length = ys.length) (h : ((List.range (xs.map f).length).map fun (i : Nat) => tupP [(xs.map f).getD i (raw .non), (ys.map g).getD i (raw .non)])[i]? = some p) : ∃ x y, (xs.zip ys)[i]? = some (x, y) ∧ p = tupP [f x, g y] := by
  rw [List.getElem?_map] at h
  by_cases hi : i < (xs.map f).length
  · rw [List.getElem?_range hi] at h
    have hi' : i < xs.length := by rwa [List.length_map] at hi
    refine ⟨xs[i], ys[i], ?_, ?_⟩
    · rw [List.getElem?_zip_eq_some]
      exact ⟨List.getElem?_eq_getElem hi', List.getElem?_eq_getElem (hl ▸ hi')⟩
    · have e := Option.some.inj h
      rw [← e]
      show tupP [(xs.map f).getD i (raw .non), (ys.map g).getD i (raw .non)] = _
      rw [List.getD_eq_getElem?_getD, List.getD_eq_getElem?_getD, List.getElem?_map, List.getElem?_map, List.getElem?_eq_getElem hi', List.getElem?_eq_getElem (hl ▸ hi')]
      rfl
  · rw [List.getElem?_eq_none (by simpa using hi)] at h
    cases h
abbrev sInit : Stmt := inClass (tp 18) 0
abbrev sHas : Stmt := inClass (tp 18) 1
def spInit (C : Addr) : Sp := fun vs H Q _ => ∃ (G : Hp) (x dx : Addr) (gv : V) (g : Gr), vs = [.ref x, gv] ∧ Same G H ∧ G x = none ∧ H x = some (.ins C dx []) ∧ (dat (tD g)).p gv G ∧ WF g ∧
  ∀ G' H', Same G G' → Same G' H' → (∀ a o, H a = some o → a ≠ x → H' a = some o) → (∀ a o, H a = some o → (∀ vs, o ≠ .tup vs) → a ≠ x → G' a = G a) → (rotP C g).p (.ref x) G' → Q .non H'
def spHas (C : Addr) : List Pr → (Pr → Prop) → Prop := fun ps post => ∃ (g : Gr) (d : Dart), ps = [rotP C g, dat (tD d)] ∧ isDart d ∧ post (dat (.bool (decide (d ∈ darts g))))
/-- what the class has -/
structure RotC (K : PySem.W.Frag) (mg : Str → Option Value) (C : Addr) : Prop where
  cl : Cls K C
  nV : NoAttr K C "vertex_by"
  nN : NoAttr K C "next_by"
  nP : NoAttr K C "previous_by"
  nI : NoAttr K C "isolated"
  mgC : mg "Rotations" = some (.ref C)
  ini : ∃ (f : Addr) (fd : FuncData), Mk K C f ∧ Fun K "__init__" "Rotations.__init__" sInit f fd ∧ Binds K fd ["self", "graph"] []
  has : ∃ (f : Addr) (fd : FuncData), Meth K C "has_dart" f ∧ Fun K "has_dart" "Rotations.has_dart" sHas f fd ∧ Binds K fd ["self", "value"] []
section
variable {P : Program} {w : World} {K : PySem.W.Frag} {mg : Str → Option Value} {base : Heap} {k : Nat} {C : Addr}
theorem scHas : FnScope ["self", "value"] ["self", "value"] (defScope sHas) := ⟨rfl, rfl, rfl, by decide +kernel, rfl, by decide +kernel, by decide +kernel⟩
theorem kv_get_nexts (g : Gr) (d : Dart) : (getP (kvP dk pD (nexts g)) (dk d)).isSome = decide (d ∈ darts g) := by
  rw [getP_kv dk_inj', ← nexts_fst]
  by_cases h : d ∈ (nexts g).map (·.1)
  · rw [decide_eq_true h]
    cases e : asc (nexts g) d with
    | none => exact absurd h (asc_none.mp e)
    | some y => rfl
  · rw [decide_eq_false h, asc_none.mpr h]
    rfl
theorem fn_has {f : Addr} {fd : FuncData} (rc : RotC K mg C) (F : Fun K "has_dart" "Rotations.has_dart" sHas f fd) (C1 : Cal P w K mg base k "is_dart" ["value"] (pur spDart)) : FnOk P w K mg base CX0 (k + 1) f fd ["self", "value"] (fnSp (pur (spHas C))) := by
  refine fn_mk F scHas (fun prs S post ⟨_, g, d, e, _⟩ => by rw [e]; rfl) fun cdv A outer s H E B hr prs post ⟨hS, g, d, e, hd, hp⟩ => ?_
  subst e
  rw [hS]
  refine bb_cons (ss_ret (ee_and (ee_callp C1 hr (aa_cons (ee_name 1 rfl (aa_nil ⟨d, rfl, hd, true, rfl, (fun z => nomatch z), fun _ => ?_⟩))))))
  refine ee_one (ee_cmp (cc_din hr.units (ee_name 1 rfl (ee_fld rc.cl rc.nN (ee_name 0 rfl ⟨rotFs g, _, .fix _, lk_nb _ _ _ _, _, DG.t (.fix _) (dk d), ret0 ?_ (fun _ z => by cases z)⟩)))))
  rw [kv_get_nexts]
  exact hp
end
end Q9
namespace Q9
open PySem L2
open PySem.W (Datum DatumOrd minOf)
def swp (l : List (Dart × Dart)) : List (Dart × Dart) := l.map fun p => (p.2, p.1)
theorem swp_fst (l : List (Dart × Dart)) : (swp l).map (·.1) = l.map (·.2) := by
  unfold swp
  rw [List.map_map]
  rfl
theorem nd_left {α : Type} {a b c : List α} {x : α} (nd : (a ++ (b ++ x :: c)).Nodup) : x ∉ a ++ b := by
  rw [← List.append_assoc, List.nodup_append] at nd
  exact fun z => nd.2.2 x z x List.mem_cons_self rfl
section
variable {P : Program} {w : World} {K : PySem.W.Frag} {mg : Str → Option Value} {base : Heap} {k : Nat} {C : Addr}
theorem scIni : FnScope ["self", "graph", "vertex", "rotation", "dart", "following"] ["self", "graph"] (defScope sInit) := ⟨rfl, rfl, rfl, by decide +kernel, rfl, by decide +kernel, by decide +kernel⟩
/-- how the body ends -/
def iniE (C x : Addr) (g : Gr) : En where
  nx := fun _ M => ∃ vb nb pb io : Addr, M = [(x, .ins C (four (raw (.ref vb)) (raw (.ref nb)) (raw (.ref pb)) (raw (.ref io)))), (vb, .dt (kvP dk pS (vofs g))), (nb, .dt (kvP dk pD (nexts g))), (pb, .dt (kvP dk pD (swp (nexts g)))), (io, .dk (kvP sk pB ((g.filter fun v => decide (v.2 = [])).map fun v => (v.1, true))))]
  rt := fun _ _ => False
theorem bb_init {f : Addr} {cdv : Value} {A : Around} {outer : List Env} {s : Shared} {H : Hp} {E : XK} {B : Bs} {x : Addr} {g : Gr} (bt : Bt mg) (rc : RotC K mg C) (wf : WF g) (hr : Room k (A.deeper (PyProof.Rows.envOfC "Rotations.__init__" (defScope sInit) s.heap.objs.size f cdv))) :
    BB (cxOf CX0 P w K mg base ["self", "graph", "vertex", "rotation", "dart", "following"] "Rotations.__init__" (defScope sInit) f cdv A outer s H E).nox B (defBody sInit) [some (raw (.ref x)), some (dat (tD g)), none, none, none, none] [(x, .ins C [])] (iniE C x g) := by
  -- self.vertex_by
  refine bb_cons (ss_fld rc.cl rc.nV (ee_d2 ["self", "graph", "vertex", "rotation", "dart", "following"] (defScope sInit) [("vertex", 2), ("rotation", 3), ("dart", 4)] [4] rfl hr.units scIni.nd (by decide +kernel) (by decide) (ii_lstd (ee_name 1 rfl ⟨g.map Datum.toD, rfl, by have := wf.vs; rw [List.length_map, List.length_map]; omega, fun i acc => acc = kvP dk pS (vofs (g.take i)), rfl, ?_, ?_⟩))))
  · rintro L i p acc hp' rfl s H C cl fp
    rw [List.getElem?_map, List.getElem?_map] at hp'
    obtain ⟨dd, hdd, rfl⟩ := Option.map_eq_some_iff.mp hp'
    obtain ⟨v, hv, rfl⟩ := Option.map_eq_some_iff.mp hdd
    have hm := List.mem_of_getElem? hv
    refine gg_tupd (ds := [.str v.1, .list (v.2.map Datum.toD)]) rfl (ggs_cons (gg_name 2 scIni.nd (ggs_cons (gg_name 3 scIni.nd (ggs_nil ⟨rfl, fun s H C cl fp => ii_lstd (ee_name 3 rfl ⟨v.2.map Datum.toD, rfl, rfl, by have := row_len wf hm; rw [List.length_map, List.length_map]; omega, fun j ac => ac = kvP dk pS (vofs (g.take i) ++ (v.2.take j).map fun d => (d, v.1)), by simp, ?_, ?_⟩)⟩)))))
    · rintro j q ac hq rfl s H C cl fp
      rw [List.getElem?_map, List.getElem?_map] at hq
      obtain ⟨dd, hdd, rfl⟩ := Option.map_eq_some_iff.mp hq
      obtain ⟨d, hd, rfl⟩ := Option.map_eq_some_iff.mp hdd
      refine gg_name 4 scIni.nd ⟨rfl, fun s H C cl fp => ee_name 4 rfl ⟨rfl, fun s H C cl fp => ee_name 2 rfl ⟨rfl, dk d, rfl, ?_⟩⟩⟩
      show putP _ _ _ = kvP dk pS (vofs (g.take i) ++ (v.2.take (j + 1)).map fun d => (d, v.1))
      rw [take_at hd, List.map_append, ← List.append_assoc]
      refine putP_new (kf := dk) (pf := pS) dk_inj' v.1 ?_
      rw [List.map_append, vofs_fst, List.map_map]
      have nd := wf.nd
      rw [darts_split hv, split_at hd, List.append_assoc] at nd
      have := nd_left nd
      rw [show ((fun p : Dart × Str => p.1) ∘ fun d => (d, v.1)) = id from rfl, List.map_id]
      exact this
    · rintro ac rfl
      show kvP dk pS _ = kvP dk pS (vofs (g.take (i + 1)))
      have e : vofs (g.take (i + 1)) = vofs (g.take i) ++ v.2.map fun d => (d, v.1) := by
        unfold vofs
        rw [take_at hv, List.flatMap_append]
        simp
      rw [e, List.length_map, List.length_map, List.take_length]
  rintro acc rfl vb
  have evb : kvP dk pS (vofs (g.take ((g.map Datum.toD).map dat).length)) = kvP dk pS (vofs g) := by rw [List.length_map, List.length_map, List.take_length]
  rw [evb]
  refine ee_name 0 rfl ⟨x, 0, [], rfl, rfl, by simp, ?_⟩
  -- self.next_by, self.previous_by
  refine bb_cons (ss_fld rc.cl rc.nN (ee_newt fun nb => ee_name 0 rfl ⟨x, 0, putFP nV (raw (.ref vb)) [], rfl, rfl, by show 1 < 1000; decide, ?_⟩))
  refine bb_cons (ss_fld rc.cl rc.nP (ee_newt fun pb => ee_name 0 rfl ⟨x, 0, putFP nN (raw (.ref nb)) (putFP nV (raw (.ref vb)) []), rfl, rfl, by rw [fs2]; show 2 < 1000; decide, ?_⟩))
  rw [fs2]
  -- self.isolated
  refine bb_cons (ss_fld rc.cl rc.nI (ee_dc ["self", "graph", "vertex", "rotation", "dart", "following"] (defScope sInit) [("vertex", 2), ("rotation", 3)] rfl scIni.nd (by decide +kernel) (ii_lstd (ee_name 1 rfl ⟨g.map Datum.toD, rfl, by have := wf.vs; rw [List.length_map, List.length_map]; omega, fun i acc => acc = kvP sk pB (((g.take i).filter fun v => decide (v.2 = [])).map fun v => (v.1, true)), rfl, ?_, ?_⟩))))
  · rintro L i p acc hp' rfl s H C cl fp
    rw [List.getElem?_map, List.getElem?_map] at hp'
    obtain ⟨dd, hdd, rfl⟩ := Option.map_eq_some_iff.mp hp'
    obtain ⟨v, hv, rfl⟩ := Option.map_eq_some_iff.mp hdd
    refine gg_tupd (ds := [.str v.1, .list (v.2.map Datum.toD)]) rfl (ggs_cons (gg_name 2 scIni.nd (ggs_cons (gg_name 3 scIni.nd (ggs_nil ⟨rfl, fun s H C cl fp => .inr ⟨_, rfl, tt_cmp (cc_eqD (α := List Dart) hr.units (by decide) (ee_name 3 rfl (ee_lstd (aa_nil ⟨[], rfl, by simp, v.2, [], .inl rfl, .inl rfl, _, rfl, rfl, fun z => ?_, fun z s H C cl fp => ee_name 2 rfl ⟨rfl, fun s H C cl fp => ee_bl ⟨rfl, sk v.1, rfl, ?_⟩⟩⟩))))⟩⟩)))))
    · show _ = kvP sk pB (((g.take (i + 1)).filter fun v => decide (v.2 = [])).map fun v => (v.1, true))
      rw [take_at hv, List.filter_append, List.filter_cons, z]
      simp
    · show putP _ _ _ = kvP sk pB (((g.take (i + 1)).filter fun v => decide (v.2 = [])).map fun v => (v.1, true))
      rw [take_at hv, List.filter_append, List.filter_cons, z, if_pos rfl, List.filter_nil, List.map_append]
      refine putP_new (kf := sk) (pf := pB) sk_inj true fun hm => ?_
      rw [List.map_map] at hm
      obtain ⟨u, hu, eu⟩ := List.mem_map.mp hm
      have nd := wf.names
      rw [split_at hv, List.map_append, List.nodup_append] at nd
      exact nd.2.2 v.1 (List.mem_map.mpr ⟨u, (List.mem_filter.mp hu).1, eu⟩) v.1 List.mem_cons_self rfl
  rintro acc rfl io
  have eio : kvP sk pB (((g.take ((g.map Datum.toD).map dat).length).filter fun v => decide (v.2 = [])).map fun v => (v.1, true)) = kvP sk pB ((g.filter fun v => decide (v.2 = [])).map fun v => (v.1, true)) := by rw [List.length_map, List.length_map, List.take_length]
  rw [eio]
  refine ee_name 0 rfl ⟨x, 0, putFP nPr (raw (.ref pb)) [(nV, raw (.ref vb)), (nN, raw (.ref nb))], rfl, rfl, by rw [fs3]; show 3 < 1000; decide, ?_⟩
  rw [fs3, fs4]
  -- the loops
  let Mi : List (Dart × Dart) → MS := fun l => [(x, .ins C (four (raw (.ref vb)) (raw (.ref nb)) (raw (.ref pb)) (raw (.ref io)))), (vb, .dt (kvP dk pS (vofs g))), (nb, .dt (kvP dk pD l)), (pb, .dt (kvP dk pD (swp l))), (io, .dk (kvP sk pB ((g.filter fun v => decide (v.2 = [])).map fun v => (v.1, true))))]
  refine bb_cons (ss_for [2, 3] rfl .never (ii_lstd (ee_name 1 rfl ⟨g.map Datum.toD, rfl, fun i is M => (∃ a b c d, is = [some (raw (.ref x)), some (dat (tD g)), a, b, c, d]) ∧ M = Mi (nexts (g.take i)), ⟨⟨none, none, none, none, rfl⟩, rfl⟩, ?_, ?_⟩)))
  · rintro i p is M hget ⟨⟨a, b, c, d, rfl⟩, rfl⟩
    rw [List.getElem?_map, List.getElem?_map] at hget
    obtain ⟨dd, hdd, rfl⟩ := Option.map_eq_some_iff.mp hget
    obtain ⟨v, hv, rfl⟩ := Option.map_eq_some_iff.mp hdd
    have hm := List.mem_of_getElem? hv
    have hlen := row_len wf hm
    have hl : v.2.length = (rot1 v.2).length := (rot1_len v.2).symm
    refine gg_tupd (ds := [.str v.1, .list (v.2.map Datum.toD)]) rfl (ggs_cons (gg_name 2 scIni.nd (ggs_cons (gg_name 3 scIni.nd (ggs_nil ?_)))))
    refine bb_cons (ss_for [4, 5] rfl .never (ii_zip bt.zip (aa_cons (EE.ls (ee_name 3 rfl ⟨_, rfl, aa_cons (EE.ls (ee_catd (ee_sliced (ee_name 3 rfl (ee_int ⟨1, rfl, ⟨v.2.map Datum.toD, .ds _, ee_sliced (ee_name 3 rfl (ee_int ⟨1, rfl, ⟨v.2.map Datum.toD, .ds _, _, _, .ds _, .ds _, ?_, ?_⟩⟩))⟩⟩)))))⟩)))))
    · rw [List.length_map] at *
      unfold cutP
      rw [List.length_take, List.length_take, List.length_drop, List.length_drop, List.length_map]
      omega
    refine ⟨_, rfl, aa_nil ⟨v.2.map fun d => dat (tD d), (rot1 v.2).map fun d => dat (tD d), ?_, by rw [List.length_map, List.length_map]; exact hl, fun j is M => (∃ c d, is = [some (raw (.ref x)), some (dat (tD g)), some (dat (.str v.1)), some (dat (.list (v.2.map Datum.toD))), c, d]) ∧ M = Mi (nexts (g.take i) ++ (v.2.zip (rot1 v.2)).take j), ⟨⟨_, _, rfl⟩, by simp⟩, ?_, ?_⟩⟩
    · have e1 : cutP (v.2.map (Datum.toD : Dart → PyData)) (some 1) none = (v.2.map Datum.toD).drop 1 := cut_from _ 1
      have e2 : cutP (v.2.map (Datum.toD : Dart → PyData)) none (some 1) = (v.2.map Datum.toD).take 1 := cut_to _ 1
      rw [e1, e2, ← List.map_drop, ← List.map_take, ← List.map_append, dats_map (fun d : Dart => tD d) v.2, dats_map (fun d : Dart => tD d) (rot1 v.2)]
      rfl
    · rintro j p is M hget ⟨⟨c, d, rfl⟩, rfl⟩
      obtain ⟨d1, d2, hz, rfl⟩ := zip_get hl hget
      refine gg_tup rfl (ggs_cons (gg_name 4 scIni.nd (ggs_cons (gg_name 5 scIni.nd (ggs_nil ?_)))))
      have h1 : d1 ∉ (nexts (g.take i) ++ (v.2.zip (rot1 v.2)).take j).map (·.1) := by
        have nd := wf.nd
        rw [← nexts_fst, nexts_split hv, split_at hz, List.append_assoc, List.map_append, List.map_append, List.cons_append, List.map_cons] at nd
        rw [List.map_append]
        exact nd_left nd
      have h2 : d2 ∉ (swp (nexts (g.take i) ++ (v.2.zip (rot1 v.2)).take j)).map (·.1) := by
        have nd := (nexts_snd g).nodup_iff.mpr wf.nd
        rw [nexts_split hv, split_at hz, List.append_assoc, List.map_append, List.map_append, List.cons_append, List.map_cons] at nd
        rw [swp_fst, List.map_append]
        exact nd_left nd
      have hsz : (nexts (g.take i) ++ (v.2.zip (rot1 v.2)).take j).length ≤ 100000 := by
        have := congrArg List.length (nexts_fst g)
        rw [List.length_map, nexts_split hv, List.length_append, List.length_append] at this
        have := wf.sz
        rw [List.length_append, List.length_take]
        omega
      refine bb_cons (ss_asg [] (ee_name 5 rfl (gg_putt hr.units (ee_fld rc.cl rc.nN (ee_name 0 rfl ⟨_, _, .own (i := 0) rfl, lk_nb _ _ _ _, nb, rfl, ee_name 4 rfl ⟨2, _, dk d1, rfl, rfl, by rw [kv_len]; exact hsz, ?_⟩⟩)))))
      refine bb_cons (ss_asg [] (ee_name 4 rfl (gg_putt hr.units (ee_fld rc.cl rc.nP (ee_name 0 rfl ⟨_, _, .own (i := 0) rfl, lk_pb _ _ _ _, pb, rfl, ee_name 5 rfl ⟨3, _, dk d2, rfl, rfl, by rw [kv_len]; unfold swp; rw [List.length_map]; exact hsz, ?_⟩⟩)))))
      refine bb_nil ⟨⟨_, _, rfl⟩, ?_⟩
      have e1 := putP_new (kf := dk) (pf := pD) dk_inj' d2 h1
      have e2 := putP_new (kf := dk) (pf := pD) dk_inj' d1 h2
      have e3 : nexts (g.take i) ++ (v.2.zip (rot1 v.2)).take (j + 1) = nexts (g.take i) ++ (v.2.zip (rot1 v.2)).take j ++ [(d1, d2)] := by rw [take_at hz, List.append_assoc]
      have e4 : swp (nexts (g.take i) ++ (v.2.zip (rot1 v.2)).take j ++ [(d1, d2)]) = swp (nexts (g.take i) ++ (v.2.zip (rot1 v.2)).take j) ++ [(d2, d1)] := by
        unfold swp
        rw [List.map_append]
        rfl
      rw [e3]
      show _ = Mi _
      simp only [Mi]
      rw [e4, ← e1, ← e2]
      rfl
    · rintro is M ⟨⟨c, d, rfl⟩, rfl⟩
      refine bb_nil ⟨⟨_, _, _, _, rfl⟩, ?_⟩
      have e : (v.2.zip (rot1 v.2)).length ≤ ((List.range (v.2.map fun d => dat (tD d)).length).map fun (i : Nat) => tupP [(v.2.map fun d => dat (tD d)).getD i (raw .non), ((rot1 v.2).map fun d => dat (tD d)).getD i (raw .non)]).length := by
        rw [List.length_map, List.length_range, List.length_map, List.length_zip]
        omega
      rw [List.take_of_length_le e, ← nexts_take hv]
  · rintro is M ⟨⟨a, b, c, d, rfl⟩, rfl⟩
    refine bb_nil ⟨vb, nb, pb, io, ?_⟩
    rw [List.length_map, List.length_map, List.take_length]
theorem fn_init {f : Addr} {fd : FuncData} (bt : Bt mg) (rc : RotC K mg C) (F : Fun K "__init__" "Rotations.__init__" sInit f fd) : FnOk P w K mg base CX0 (k + 1) f fd ["self", "graph"] (spInit C) := by
  refine F.ok scIni (fun vs H Q E ⟨_, _, _, _, _, e, _⟩ => by rw [e]; rfl) (fun cdv A outer s H vs Q E hr ⟨G, x, dx, gv, g, e, h1, h2, h3, h4, wf, hQ⟩ => ?_)
  subst e
  refine ⟨_, pss_w, ?_⟩
  have K0 : Ok ⟨G, H, [x]⟩ (L2.start ["self", "graph", "vertex", "rotation", "dart", "following"] [.ref x, gv]) G H [some (raw (.ref x)), some (dat (tD g)), none, none, none, none] [(x, .ins C [])] := by
    refine ⟨h1, Same.refl _, fun a o e _ => e, fun a o e => ⟨(fun z => by have e' : H a = some o := e; rw [z] at e'; cases e'), fun _ => rfl⟩, ⟨rfl, h4, True.intro⟩, fun z hz => ?_, by simp, fun a ha => ?_⟩
    · rw [List.mem_singleton.mp hz]
      exact ⟨⟨dx, [], h3, True.intro⟩, h2, .inr List.mem_cons_self⟩
    · rw [List.mem_singleton.mp ha]
      exact ⟨⟨_, h3, True.intro⟩, _, h3, True.intro⟩
  refine bb_init bt rc wf hr _ G H K0 _ ⟨fun σ' G' H' is' M' K' g' ⟨vb, nb, pb, io, eM⟩ => ?_, fun _ _ _ _ _ _ _ _ _ _ z => z.elim, fun _ _ _ _ _ _ _ z => z, fun _ _ _ _ _ _ _ z => z⟩
  subst eM
  obtain ⟨dx', us, hx, hk⟩ := K'.at (i := 0) rfl
  obtain ⟨u1, e1, q1⟩ := K'.at (i := 1) rfl
  have w1 := K'.notW e1 fun z => z
  obtain ⟨K1, f1⟩ := K'.freeze (i := 1) rfl e1 w1
  obtain ⟨u2, e2, q2⟩ := K1.at (i := 1) rfl
  have w2 := K1.notW e2 fun z => z
  obtain ⟨K2, f2⟩ := K1.freeze (i := 1) rfl e2 w2
  obtain ⟨m1, m2, _⟩ := K2.mok (x, _) List.mem_cons_self
  have hk2 : KP _ _ us := (hk.mono f1).mono f2
  let G3 := upd (upd (upd G' vb (.dT u1)) nb (.dT u2)) x (.ins C dx' us)
  have f3 : Same (upd (upd G' vb (.dT u1)) nb (.dT u2)) G3 := same_upd m2
  refine hQ G3 H' (((g'.trans f1).trans f2).trans f3) (fun a o e => ?_) (fun a o e ne => K'.h0 a o e (by simpa using ne)) (fun a o e nt ne => ?_) ?_
  · by_cases ha : a = x
    · subst ha
      have e' : upd (upd (upd G' vb (.dT u1)) nb (.dT u2)) a (.ins C dx' us) a = some o := e
      rw [upd_same] at e'
      cases e'
      exact hx
    · have e' : upd (upd (upd G' vb (.dT u1)) nb (.dT u2)) x (.ins C dx' us) a = some o := e
      rw [upd_ne ha] at e'
      exact K2.kn _ _ e'
  · show upd (upd (upd G' vb (.dT u1)) nb (.dT u2)) x (.ins C dx' us) a = G a
    rw [upd_ne ne]
    exact (K2.fr a o e).2 nt
  · refine ⟨x, dx', us, rfl, upd_same, ?_⟩
    have hk3 := hk2.mono f3
    unfold rotFs four
    match us, hk3 with
    | [a1, a2, a3, a4], ⟨⟨n1, p1⟩, ⟨n2, p2⟩, ⟨n3, p3⟩, ⟨n4, p4⟩, _⟩ =>
      have y1 : a1.2 = .ref vb := p1
      have y2 : a2.2 = .ref nb := p2
      refine ⟨⟨n1, vb, u1, y1, f3 _ _ (f2 _ _ upd_same), ((q1.mono f1).mono f2).mono f3⟩, ⟨n2, nb, u2, y2, f3 _ _ upd_same, (q2.mono f2).mono f3⟩, ⟨n3, True.intro⟩, ⟨n4, True.intro⟩, True.intro⟩
end
section
variable {X : Cx} {B : Bs} {is : Is} {M : MS} {Post : Pr → MS → Prop} {e : Expr} {pos : Pos} {C : Addr}
/-- Rotations(e) -/
theorem ee_rot {k : Nat} {p : Pos} (bt : Bt X.mg) (rc : RotC X.K X.mg C) (hr : Room (k + 2) X.A) (h : AA X B [e] is M fun ps M1 => ∃ g : Gr, ps = [dat (tD g)] ∧ WF g ∧ Post (rotP C g) M1) (hg : Gl X "Rotations" := by rfl)
    (he : starEach [e] X.env = (false, eval e X.env) :: starEach [] X.env := by rfl) (hpl : (backTo pos (starEach [] X.env)).any (·.1) = false := by rfl) : EE X B (.Call (.Name "Rotations" p) [e] [] pos) is M Post := fun σ G H K Q kk => by
  obtain ⟨f, fd, mk, F, hb⟩ := rc.ini
  refine EW.of (pe_make (k := k + 1) (E := fun _ _ _ => False) mk (fn_init (k := k) bt rc F) hr hg rc.mgC hb .nil (fun _ _ _ _ _ _ _ h => h.elim) pa_w (by decide +kernel) he hpl) ?_
  refine h σ G H K _ fun vs G1 H1 ps M1 K1 g1 q1 ⟨g, e1, wf, hp⟩ x dx hx hdx ne => ?_
  subst e1
  match vs, q1 with
  | [v], ⟨hv, _⟩ =>
    have up : ∀ a o, H1 a = some o → upd (upd H1 dx (.own x)) x (.ins C dx []) a = some o := fun a o e => by
      rw [upd_ne (ne_of_none e hx), upd_ne (ne_of_none e hdx)]
      exact e
    refine ⟨G1, x, dx, v, g, rfl, fun a o e => up _ _ (K1.kn _ _ e), none_back K1.kn hx, upd_same, hv, wf, fun G' H' s1 s2 h1 h2 hq => ⟨rfl, ?_⟩⟩
    exact kk _ G' H' _ M1 (K1.ext s1 s2 (fun a o e => h1 a o (up _ _ e) (ne_of_none e hx)) fun a o e nt => h2 a o (up _ _ e) nt (ne_of_none e hx)) (g1.trans s1) hq hp
end
end Q9
namespace Q9
open PySem L2
open PySem.W (Datum DatumOrd minOf)
def nx (g : Gr) (d : Dart) : Dart := (asc (nexts g) d).getD d
def vo (g : Gr) (d : Dart) : Str := (asc (vofs g) d).getD ⟨#[]⟩
theorem asc_some {α β : Type} [DecidableEq α] {l : List (α × β)} {x : α} (h : x ∈ l.map (·.1)) : ∃ y, asc l x = some y := by
  cases e : asc l x with
  | none => exact absurd h (asc_none.mp e)
  | some y => exact ⟨y, rfl⟩
theorem nx_asc {g : Gr} {d : Dart} (h : d ∈ darts g) : asc (nexts g) d = some (nx g d) := by
  obtain ⟨y, e⟩ := asc_some (l := nexts g) (x := d) (nexts_fst g ▸ h)
  unfold nx
  rw [e]
  rfl
theorem vo_asc {g : Gr} {d : Dart} (h : d ∈ darts g) : asc (vofs g) d = some (vo g d) := by
  obtain ⟨y, e⟩ := asc_some (l := vofs g) (x := d) (vofs_fst g ▸ h)
  unfold vo
  rw [e]
  rfl
theorem nx_mem {g : Gr} {d : Dart} (h : d ∈ darts g) : nx g d ∈ darts g := (nexts_snd g).mem_iff.mp (List.mem_map.mpr ⟨_, asc_mem (nx_asc h), rfl⟩)
def stp (g : Gr) (d : Dart) (c : Nat) : Dart := if c = 110 then nx g d else opp d
theorem stp_mem {g : Gr} (wf : WF g) {d : Dart} (h : d ∈ darts g) (c : Nat) : stp g d c ∈ darts g := by
  unfold stp
  split
  · exact nx_mem h
  · exact wf.op d h
def run (g : Gr) (d : Dart) (cs : List Nat) : Dart := cs.foldl (stp g) d
theorem run_mem {g : Gr} (wf : WF g) : ∀ (cs : List Nat) {d : Dart}, d ∈ darts g → run g d cs ∈ darts g
  | [], _, h => h
  | c :: cs, _, h => run_mem wf cs (stp_mem wf h c)
theorem run_app (g : Gr) (d : Dart) (a b : List Nat) : run g d (a ++ b) = run g (run g d a) b := List.foldl_append
def isW (x : Str) : Prop := ∀ c ∈ x.cps.toList, c = 110 ∨ c = 111
theorem str_n : ("n" : Str) = ⟨#[110]⟩ := by decide +kernel
theorem str_o : ("o" : Str) = ⟨#[111]⟩ := by decide +kernel
theorem dec_n (c : Nat) : decide ((⟨#[c]⟩ : Str) = "n") = decide (c = 110) := by
  rw [str_n]
  congr 1
  simp
section
variable {P : Program} {w : World} {K : PySem.W.Frag} {mg : Str → Option Value} {base : Heap} {k : Nat} {C : Addr}
theorem scRd : FnScope ["rotations", "dart"] ["rotations", "dart"] (defScope (tp 30)) := ⟨rfl, rfl, rfl, by decide +kernel, rfl, by decide +kernel, by decide +kernel⟩
def spRd (C : Addr) : List Pr → (Pr → Prop) → Prop := fun ps post => ∃ (g : Gr) (d : Dart), ps = [rotP C g, dat (tD d)] ∧ WF g ∧ d ∈ darts g ∧ post (dat .none)
theorem cal_rd (rc : RotC K mg C) (t : Top K mg "require_dart" (tp 30) ["rotations", "dart"]) (C1 : Cal P w K mg base k "is_dart" ["value"] (pur spDart)) : Cal P w K mg base (k + 2) "require_dart" ["rotations", "dart"] (pur (spRd C)) := by
  refine cal_pur t scRd (fun prs post ⟨g, d, e, _⟩ => by rw [e]; rfl) fun f cdv A outer s H E B hS hr prs post ⟨g, d, e, wf, hd, hp⟩ => ?_
  subst e
  obtain ⟨fh, fdh, hm, F, hb⟩ := rc.has
  have FO := fn_has (P := P) (w := w) (base := base) (k := k) rc F C1
  have hC := rc.cl
  refine bb_cons (ss_if (tt_not (tt_val (ee_meth hC hm FO hb hr (ee_name 0 rfl ⟨rotFs g, rfl, rot_no g, aa_cons (ee_name 1 rfl (aa_nil ⟨g, d, rfl, wf.dart d hd, true, ?_, (fun z => nomatch z), fun _ => bb_nil (bb_nil hp)⟩))⟩)))))
  rw [decide_eq_true hd]
theorem scIw : FnScope ["value", "letter"] ["value"] (defScope (tp 41)) := ⟨rfl, rfl, rfl, by decide +kernel, rfl, by decide +kernel, by decide +kernel⟩
def spIw : List Pr → (Pr → Prop) → Prop := fun ps post => ∃ x : Str, ps = [dat (.str x)] ∧ isW x ∧ x.length ≤ 300 ∧ post (dat (.bool true))
theorem cal_iw (bt : Bt mg) (t : Top K mg "is_word" (tp 41) ["value"]) : Cal P w K mg base (k + 1) "is_word" ["value"] (pur spIw) := by
  refine cal_pur t scIw (fun prs post ⟨x, e, _⟩ => by rw [e]; rfl) fun f cdv A outer s H E B hS hr prs post ⟨x, e, hw, hl, hp⟩ => ?_
  subst e
  obtain ⟨t1, m1⟩ := bt.maxWord
  have hsz : x.cps.toList.length ≤ 300 := by rw [Array.length_toList]; exact hl
  refine bb_cons (ss_ret (ee_and (ee_isi (T := "str") bt.isinstance bt.str (by decide +kernel) (ee_name 0 rfl ⟨"str", true, .str x, by decide +kernel, true, rfl, (fun z => nomatch z), fun _ => ?_⟩))))
  refine ee_and (ee_cmp (cc_le (ee_len bt.len (aa_cons (ee_name 0 rfl (aa_nil ⟨_, x.length, rfl, .str x (by omega), _, rfl, ee_gint m1 ⟨300, rfl, true, ?_, (fun z => nomatch z), fun _ => ?_⟩⟩))))))
  · rw [decide_eq_true (by omega)]
  refine ee_one (ee_all rfl bt.all (aa_cons (ee_mapD ["value", "letter"] (defScope (tp 41)) [("letter", 1)] x.cps.toList (fun c => dat (.str ⟨#[c]⟩)) (fun _ => .bool true) rfl scIw.nd (by decide +kernel) (ii_str (ee_name 0 rfl ⟨x, rfl, rfl, by omega, fun L c acc hc s H C cl fp => gg_name 1 scIw.nd ⟨rfl, fun s H C cl fp => ee_cmp (cc_sign (ee_name 1 rfl (ee_str ⟨c, "no", rfl, rfl, rfl, ?_⟩)))⟩, ?_⟩)))))
  · have e : ("no" : Str).cps.toList = [110, 111] := by decide +kernel
    rw [e]
    rcases hw c hc with z | z <;> rw [z] <;> rfl
  · refine aa_nil ⟨_, x.cps.toList.map (fun _ => true), rfl, ?_, ?_⟩
    · have e : (x.cps.toList.map (fun _ => true)).map (fun b => dat (.bool b)) = (x.cps.toList.map fun _ => PyData.bool true).map dat := by rw [List.map_map, List.map_map]; rfl
      rw [e]
      exact .ds _
    · have e : (x.cps.toList.map fun _ => true).all id = true := by simp
      rw [e]
      exact hp
theorem scAl : FnScope ["rotations", "dart", "letter"] ["rotations", "dart", "letter"] (defScope (tp 42)) := ⟨rfl, rfl, rfl, by decide +kernel, rfl, by decide +kernel, by decide +kernel⟩
def spAl (C : Addr) : List Pr → (Pr → Prop) → Prop := fun ps post => ∃ (g : Gr) (d : Dart) (c : Nat), ps = [rotP C g, dat (tD d), dat (.str ⟨#[c]⟩)] ∧ d ∈ darts g ∧ post (dat (tD (stp g d c)))
theorem cal_al (rc : RotC K mg C) (t : Top K mg "apply_letter" (tp 42) ["rotations", "dart", "letter"]) (C1 : Cal P w K mg base k "opposite" ["dart"] (pur spOpp)) : Cal P w K mg base (k + 1) "apply_letter" ["rotations", "dart", "letter"] (pur (spAl C)) := by
  refine cal_pur t scAl (fun prs post ⟨g, d, c, e, _⟩ => by rw [e]; rfl) fun f cdv A outer s H E B hS hr prs post ⟨g, d, c, e, hd, hp⟩ => ?_
  subst e
  refine bb_cons (ss_ret (ee_if (tt_cmp (cc_eqD (α := Str) hr.units (by decide) (ee_name 2 rfl (ee_str ⟨⟨#[c]⟩, "n", .inl rfl, .inl rfl, decide (c = 110), by rw [dec_n], fun z => ?_, fun z => ?_⟩))))))
  · refine ee_dget hr.units (ee_fld rc.cl rc.nN (ee_name 0 rfl ⟨rotFs g, _, .fix _, lk_nb _ _ _ _, ee_name 1 rfl ⟨pD (nx g d), DG.t' (.fix _) (dk d) (by rw [getP_kv dk_inj', nx_asc hd]; rfl), ?_⟩⟩))
    unfold stp at hp
    rw [if_pos (of_decide_eq_true z)] at hp
    exact hp
  · refine ee_callp C1 hr (aa_cons (ee_name 1 rfl (aa_nil ⟨d.1, d.2, rfl, ?_⟩)))
    unfold stp at hp
    rw [if_neg (of_decide_eq_false z)] at hp
    exact hp
theorem scFo : FnScope ["graph", "dart", "word", "rotations", "letter"] ["graph", "dart", "word"] (defScope (tp 43)) := ⟨rfl, rfl, rfl, by decide +kernel, rfl, by decide +kernel, by decide +kernel⟩
def spFo : List Pr → (Pr → Prop) → Prop := fun ps post => ∃ (g : Gr) (d : Dart) (x : Str), ps = [dat (tD g), dat (tD d), dat (.str x)] ∧ WF g ∧ d ∈ darts g ∧ isW x ∧ x.length ≤ 300 ∧ post (dat (tD (run g d x.cps.toList)))
theorem cal_fo (bt : Bt mg) (rc : RotC K mg C) (t : Top K mg "follow" (tp 43) ["graph", "dart", "word"]) (C1 : Cal P w K mg base (k + 2) "require_dart" ["rotations", "dart"] (pur (spRd C))) (C2 : Cal P w K mg base (k + 2) "is_word" ["value"] (pur spIw)) (C3 : Cal P w K mg base (k + 2) "apply_letter" ["rotations", "dart", "letter"] (pur (spAl C))) : Cal P w K mg base (k + 3) "follow" ["graph", "dart", "word"] (pur spFo) := by
  refine cal_pur t scFo (fun prs post ⟨g, d, c, e, _⟩ => by rw [e]; rfl) fun f cdv A outer s H E B hS hr prs post ⟨g, d, x, e, wf, hd, hw, hl, hp⟩ => ?_
  subst e
  have hsz : x.cps.toList.length = x.length := Array.length_toList
  refine bb_cons (ss_set 3 (ee_rot bt rc hr (aa_cons (ee_name 0 rfl (aa_nil ⟨g, rfl, wf, ?_⟩)))) scFo.nd)
  refine bb_cons (ss_expr (ee_callp C1 hr (aa_cons (ee_name 3 rfl (aa_cons (ee_name 1 rfl (aa_nil ⟨g, d, rfl, wf, hd, ?_⟩)))))))
  refine bb_cons (ss_if (tt_not (tt_val (ee_callp C2 hr (aa_cons (ee_name 2 rfl (aa_nil ⟨x, rfl, hw, hl, true, rfl, (fun z => nomatch z), fun _ => bb_nil ?_⟩)))))))
  refine bb_cons (ss_for [4] rfl .never (ii_str (ee_name 2 rfl ⟨x, rfl, fun i is M => (∃ a, is = [some (dat (tD g)), some (dat (tD (run g d (x.cps.toList.take i)))), some (dat (.str x)), some (rotP C g), a]) ∧ M = [], ⟨⟨none, rfl⟩, rfl⟩, ?_, ?_⟩)))
  · rintro i p is M hget ⟨⟨a, rfl⟩, rfl⟩
    rw [List.getElem?_map] at hget
    obtain ⟨c, hc, rfl⟩ := Option.map_eq_some_iff.mp hget
    refine gg_name 4 scFo.nd ?_
    refine bb_cons (ss_set 1 (ee_callp C3 hr (aa_cons (ee_name 3 rfl (aa_cons (ee_name 1 rfl (aa_cons (ee_name 4 rfl (aa_nil ⟨g, _, c, rfl, run_mem wf _ hd, bb_nil ⟨⟨some (dat (.str ⟨#[c]⟩)), ?_⟩, rfl⟩⟩)))))))) scFo.nd)
    rw [take_at hc, run_app]
    rfl
  · rintro is M ⟨⟨a, rfl⟩, rfl⟩
    refine bb_cons (ss_ret (ee_name 1 rfl ?_))
    show post (dat (tD (run g d (x.cps.toList.take _))))
    rw [List.length_map, List.take_length]
    exact hp
end
end Q9
namespace Q9
open PySem L2
open PySem.W (Datum DatumOrd minOf)
def flipD (e : Str) (d : Dart) : Dart := if d.1 = e then opp d else d
def flipG (g : Gr) (e : Str) : Gr := g.map fun v => (v.1, v.2.map (flipD e))
theorem edge_isn {g : Gr} (wf : WF g) {e : Str} (h : e ∈ edgesRaw g) : isNameB e = true := by
  obtain ⟨v, hv, he⟩ := List.mem_flatMap.mp h
  obtain ⟨d, hd, e1⟩ := List.mem_map.mp he
  rw [← e1]
  exact (wf.dart d (darts_mem hv (List.mem_filter.mp hd).1)).1
/-- what is joined is everything -/
def Conn (g : Gr) : Prop := ∀ S : Str → Prop, (∃ v ∈ g.map (·.1), S v) → (∀ d ∈ darts g, S (vo g d) → S (vo g (opp d))) → ∀ v ∈ g.map (·.1), S v
theorem nodup_sub {α : Type} [DecidableEq α] : ∀ {xs ys : List α}, xs.Nodup → (∀ x ∈ xs, x ∈ ys) → xs.length ≤ ys.length
  | [], _, _, _ => Nat.zero_le _
  | x :: xs, ys, nd, h => by
    rw [List.nodup_cons] at nd
    have hx := h x List.mem_cons_self
    have h1 := nodup_sub (xs := xs) (ys := ys.erase x) nd.2 fun z hz => (List.mem_erase_of_ne (fun e => nd.1 (by rw [← e]; exact hz))).mpr (h z (List.mem_cons_of_mem _ hz))
    have h2 := List.length_erase_of_mem hx
    have h3 := List.length_pos_of_mem hx
    rw [List.length_cons]
    omega
theorem vo_row {g : Gr} (wf : WF g) {v : Str × List Dart} (hv : v ∈ g) {d : Dart} (hd : d ∈ v.2) : vo g d = v.1 := by
  have h : (d, v.1) ∈ vofs g := List.mem_flatMap.mpr ⟨v, hv, List.mem_map.mpr ⟨d, hd, rfl⟩⟩
  unfold vo
  rw [asc_of (by rw [vofs_fst]; exact wf.nd) h]
  rfl
theorem vo_mem {g : Gr} {d : Dart} (hd : d ∈ darts g) : vo g d ∈ g.map (·.1) := by
  have h := asc_mem (vo_asc hd)
  obtain ⟨v, hv, h2⟩ := List.mem_flatMap.mp h
  obtain ⟨d', hd', e⟩ := List.mem_map.mp h2
  injection e with e1 e2
  exact List.mem_map.mpr ⟨v, hv, e2⟩
section
variable {P : Program} {w : World} {K : PySem.W.Frag} {mg : Str → Option Value} {base : Heap} {k : Nat} {C : Addr}
theorem scRe : FnScope ["graph", "edge"] ["graph", "edge"] (defScope (tp 32)) := ⟨rfl, rfl, rfl, by decide +kernel, rfl, by decide +kernel, by decide +kernel⟩
def spRe : List Pr → (Pr → Prop) → Prop := fun ps post => ∃ (g : Gr) (e : Str), ps = [dat (tD g), dat (.str e)] ∧ WF g ∧ e ∈ edgesRaw g ∧ post (dat .none)
theorem cal_re (t : Top K mg "require_edge" (tp 32) ["graph", "edge"]) (C1 : Cal P w K mg base k "is_name" ["value"] (pur spIsn)) (C2 : Cal P w K mg base k "edge_names" ["graph"] (pur spEn)) : Cal P w K mg base (k + 1) "require_edge" ["graph", "edge"] (pur spRe) := by
  refine cal_pur t scRe (fun prs post ⟨g, d, e, _⟩ => by rw [e]; rfl) fun f cdv A outer s H E B hS hr prs post ⟨g, e, e0, wf, he, hp⟩ => ?_
  subst e0
  have nl := name_len (edge_isn wf he)
  refine bb_cons (ss_if (tt_w (wt_or (tt_not (tt_val (ee_callp C1 hr (aa_cons (ee_name 1 rfl (aa_nil ⟨e, rfl, by omega, isNameB e, rfl, ?_, ?_⟩)))))))))
  · rw [edge_isn wf he]
    exact fun z => nomatch z
  · refine fun _ => wt_or1 (tt_cmp (cc_niD (α := Str) hr.units (by decide) (ee_name 1 rfl (ee_callp C2 hr (aa_cons (ee_name 0 rfl (aa_nil ⟨g, rfl, wf, e, srt (edgesRaw g), rfl, .ds _, false, ?_, (fun z => nomatch z), fun _ => bb_nil (bb_nil hp)⟩)))))))
    rw [decide_eq_true (mem_srt.mpr he)]
    rfl
theorem scFe : FnScope ["graph", "edge", "rows", "vertex", "rotation", "dart"] ["graph", "edge"] (defScope (tp 33)) := ⟨rfl, rfl, rfl, by decide +kernel, rfl, by decide +kernel, by decide +kernel⟩
def spFe : List Pr → (Pr → Prop) → Prop := fun ps post => ∃ (g : Gr) (e : Str), ps = [dat (tD g), dat (.str e)] ∧ WF g ∧ e ∈ edgesRaw g ∧ post (dat (tD (normT (flipG g e))))
theorem cal_fe (bt : Bt mg) (t : Top K mg "flip_edge" (tp 33) ["graph", "edge"]) (C1 : Cal P w K mg base k "require_edge" ["graph", "edge"] (pur spRe)) (C2 : Cal P w K mg base k "opposite" ["dart"] (pur spOpp)) (C3 : Cal P w K mg base k "normalized" ["rows"] (pur spNormd)) : Cal P w K mg base (k + 1) "flip_edge" ["graph", "edge"] (pur spFe) := by
  refine cal_pur t scFe (fun prs post ⟨g, d, e, _⟩ => by rw [e]; rfl) fun f cdv A outer s H E B hS hr prs post ⟨g, e, e0, wf, he, hp⟩ => ?_
  subst e0
  refine bb_cons (ss_expr (ee_callp C1 hr (aa_cons (ee_name 0 rfl (aa_cons (ee_name 1 rfl (aa_nil ⟨g, e, rfl, wf, he, ?_⟩)))))))
  refine bb_cons (ss_set 2 (ee_newk fun a => ?_) scFe.nd)
  refine bb_cons (ss_for [3, 4] rfl .never (ii_lstd (ee_name 0 rfl ⟨g.map Datum.toD, rfl, fun i is M => (∃ x y z, is = [some (dat (tD g)), some (dat (.str e)), some (raw (.ref a)), x, y, z]) ∧ M = [(a, .dk (kvP sk pRow (flipG (g.take i) e)))], ⟨⟨none, none, none, rfl⟩, rfl⟩, ?_, ?_⟩)))
  · rintro i p is M hget ⟨⟨x, y, z, rfl⟩, rfl⟩
    rw [List.getElem?_map, List.getElem?_map] at hget
    obtain ⟨dd, hdd, rfl⟩ := Option.map_eq_some_iff.mp hget
    obtain ⟨v, hv, rfl⟩ := Option.map_eq_some_iff.mp hdd
    have hm := List.mem_of_getElem? hv
    refine gg_tupd (ds := [.str v.1, .list (v.2.map Datum.toD)]) rfl (ggs_cons (gg_name 3 scFe.nd (ggs_cons (gg_name 4 scFe.nd (ggs_nil ?_)))))
    refine bb_cons (ss_asg [] (ee_mapD ["graph", "edge", "rows", "vertex", "rotation", "dart"] (defScope (tp 33)) [("dart", 5)] v.2 (fun d => dat (tD d)) (fun d => tD (flipD e d)) rfl scFe.nd (by decide +kernel) (ii_lstd (ee_name 4 rfl ⟨v.2.map Datum.toD, rfl, (dats_map _ _).symm, by have := row_len wf hm; omega, fun L d acc hd s H C cl fp => gg_name 5 scFe.nd ⟨rfl, fun s H C cl fp => ?_⟩, ?_⟩))))
    · refine ee_if (tt_cmp (cc_eqD (α := Str) hr.units (by decide) (ee_ixt (ee_name 5 rfl (ee_int ⟨_, 0, dat (.str d.1), .ds [.str d.1, .int d.2], rfl, rfl, ee_name 1 rfl ⟨d.1, e, .inl rfl, .inl rfl, _, rfl, fun z => ?_, fun z => ee_name 5 rfl ⟨rfl, ?_⟩⟩⟩)))))
      · refine ee_callp C2 hr (aa_cons (ee_name 5 rfl (aa_nil ⟨d.1, d.2, rfl, rfl, ?_⟩)))
        unfold flipD
        rw [if_pos (of_decide_eq_true z)]
        rfl
      · unfold flipD
        rw [if_neg (of_decide_eq_false z)]
    · refine gg_putk hr.units (ee_name 2 rfl ⟨a, rfl, ee_name 3 rfl ⟨0, _, sk v.1, rfl, rfl, ?_, bb_nil ⟨⟨_, _, _, rfl⟩, ?_⟩⟩⟩)
      · rw [kv_len]
        unfold flipG
        rw [List.length_map, List.length_take]
        have := wf.vs
        omega
      · have e1 : flipG (g.take (i + 1)) e = flipG (g.take i) e ++ [(v.1, v.2.map (flipD e))] := by
          unfold flipG
          rw [take_at hv, List.map_append]
          rfl
        have hnew : v.1 ∉ (flipG (g.take i) e).map (·.1) := by
          have nd := wf.names
          rw [split_at hv, List.map_append, List.nodup_append] at nd
          unfold flipG
          rw [List.map_map]
          exact fun z => nd.2.2 v.1 z v.1 List.mem_cons_self rfl
        rw [e1, ← putP_new (kf := sk) (pf := pRow) sk_inj _ hnew]
        have e2 : pRow (v.2.map (flipD e)) = dat (.list (v.2.map fun d => tD (flipD e d))) := by
          unfold pRow
          show dat (.list ((v.2.map (flipD e)).map Datum.toD)) = _
          rw [List.map_map]
          rfl
        rw [e2]
        rfl
  · rintro is M ⟨⟨x, y, z, rfl⟩, rfl⟩
    refine bb_cons (ss_ret (ee_callp C3 hr (aa_cons (ee_frz (ee_name 2 rfl ⟨a, 0, rfl, .inr (.inl ⟨_, rfl, aa_nil ⟨flipG g e, ?_, ?_, ?_, hp⟩⟩)⟩)))))
    · rw [List.length_map, List.length_map, List.take_length]
    · intro v hv
      obtain ⟨u, hu, rfl⟩ := List.mem_map.mp hv
      have := row_len wf hu
      rw [List.length_map]
      omega
    · unfold flipG
      rw [List.length_map]
      have := wf.vs
      omega
theorem scCo : FnScope ["graph", "rotations", "vertex", "rows", "result", "index", "dart", "neighbour"] ["graph", "rotations", "vertex"] (defScope (tp 35)) := ⟨rfl, rfl, rfl, by decide +kernel, rfl, by decide +kernel, by decide +kernel⟩
def spCo (C : Addr) : List Pr → (Pr → Prop) → Prop := fun ps post => ∃ (g : Gr) (v : Str), ps = [dat (tD g), rotP C g, dat (.str v)] ∧ WF g ∧ Conn g ∧ v ∈ g.map (·.1) ∧ ∀ rs : List Str, (∀ u, u ∈ rs ↔ u ∈ g.map (·.1)) → rs.length ≤ 100 → post (dat (tD rs))
theorem dict_g {g : Gr} (wf : WF g) : mrgP [] ((g.map fun v => (sk v.1, tD v.2)).map fun kd => (kd.1, dat kd.2)) = kvP sk pRow g := by
  have h := mrgP_new (kf := sk) (pf := pRow) sk_inj g [] (by simpa using wf.names)
  rw [List.nil_append] at h
  rw [← h, List.map_map]
  rfl
theorem pairs_g (g : Gr) : ((g.map fun v => (sk v.1, tD v.2)).map fun kd => pairD (kD kd.1) kd.2).map dat = (g.map Datum.toD).map dat := by
  rw [List.map_map, List.map_map, List.map_map]
  rfl
/-- what the search has so far -/
structure CoI (g : Gr) (v : Str) (res : List Str) (i : Nat) : Prop where
  nd : res.Nodup
  sub : ∀ u ∈ res, u ∈ g.map (·.1)
  st : v ∈ res
  le : i ≤ res.length
  cl : ∀ j u, j < i → res[j]? = some u → ∀ d ∈ darts g, vo g d = u → vo g (opp d) ∈ res
theorem CoI.len {g : Gr} {v : Str} {res : List Str} {i : Nat} (h : CoI g v res i) : res.length ≤ g.length := by
  have := nodup_sub h.nd h.sub
  rwa [List.length_map] at this
theorem cal_co (bt : Bt mg) (rc : RotC K mg C) (t : Top K mg "component_of" (tp 35) ["graph", "rotations", "vertex"]) (C1 : Cal P w K mg base k "opposite" ["dart"] (pur spOpp)) : Cal P w K mg base (k + 1) "component_of" ["graph", "rotations", "vertex"] (pur (spCo C)) := by
  refine cal_pur t scCo (fun prs post ⟨g, d, e, _⟩ => by rw [e]; rfl) fun f cdv A outer s H E B hS hr prs post ⟨g, v, e0, wf, cn, hv, hp⟩ => ?_
  subst e0
  refine bb_cons (ss_set 3 (ee_dictK rfl bt.dict (aa_cons (ee_name 0 rfl (aa_nil ⟨_, g.map fun v => (sk v.1, tD v.2), rfl, by rw [pairs_g]; exact .ds _, fun rw => ?_⟩)))) scCo.nd)
  rw [dict_g wf]
  refine bb_cons (ss_set 4 (ee_lstm (aa_cons (ee_name 2 rfl (aa_nil ⟨by simp, fun rs => ?_⟩)))) scCo.nd)
  refine bb_cons (ss_set 5 (ee_int ?_) scCo.nd)
  let st : List Str → Nat → Option Pr → Option Pr → Is := fun res i x y => [some (dat (tD g)), some (rotP C g), some (dat (.str v)), some (raw (.ref rw)), some (raw (.ref rs)), some (dat (.int i)), x, y]
  let Ms : List Str → MS := fun res => [(rw, .dk (kvP sk pRow g)), (rs, .lst (res.map fun u => dat (.str u)))]
  refine bb_cons (ss_while .never (fun m is M => ∃ res i x y, is = st res i x y ∧ M = Ms res ∧ CoI g v res i ∧ m + i = g.length) g.length ⟨[v], 0, none, none, rfl, rfl, ⟨by simp, fun u hu => by rw [List.mem_singleton.mp hu]; exact hv, List.mem_cons_self, Nat.zero_le _, fun j u hj => absurd hj (Nat.not_lt_zero _)⟩, rfl⟩ ?_)
  rintro m is M ⟨res, i, x, y, rfl, rfl, ci, hm⟩
  have hlen := ci.len
  have hvs := wf.vs
  refine tt_cmp (cc_lt (ee_name 5 rfl ⟨i, rfl, ee_len bt.len (aa_cons (ee_name 4 rfl (aa_nil ⟨_, _, rfl, .ls (.own (i := 1) rfl), _, rfl, _, rfl, fun z => ?_, fun z => ?_⟩)))⟩))
  · have hi : i < res.length := by
      have := of_decide_eq_true z
      rw [List.length_map] at this
      omega
    have hu : res[i]? = some res[i] := List.getElem?_eq_getElem hi
    obtain ⟨row, hrow⟩ : ∃ row, asc g res[i] = some row := asc_some (ci.sub _ (List.getElem_mem hi))
    have hmem := asc_mem hrow
    refine bb_cons (ss_for [6] rfl .never (ii_lstd (ee_dget hr.units (ee_name 3 rfl (ee_ixl (ee_name 4 rfl (ee_name 5 rfl ⟨_, i, dat (.str res[i]), .own (i := 1) rfl, rfl, atI_nat (by rw [List.getElem?_map, hu]; rfl), pRow row, DG.k' (.own (i := 0) rfl) (sk res[i]) (by rw [getP_kv sk_inj, hrow]; rfl), row.map Datum.toD, rfl, fun j is M => ∃ res' x y, is = st res' i x y ∧ M = Ms res' ∧ CoI g v res' i ∧ res'[i]? = some res[i] ∧ ∀ d ∈ row.take j, vo g (opp d) ∈ res', ⟨res, x, y, rfl, rfl, ci, hu, fun d hd => by simp at hd⟩, ?_, ?_⟩)))))))
    · rintro j p is M hget ⟨res', x, y, rfl, rfl, ci', hu', hcl⟩
      rw [List.getElem?_map, List.getElem?_map] at hget
      obtain ⟨dd, hdd, rfl⟩ := Option.map_eq_some_iff.mp hget
      obtain ⟨d, hd, rfl⟩ := Option.map_eq_some_iff.mp hdd
      have dmem := darts_mem hmem (List.mem_of_getElem? hd)
      have omem := wf.op d dmem
      refine gg_name 6 scCo.nd ?_
      refine bb_cons (ss_set 7 (ee_dget hr.units (ee_fld rc.cl rc.nV (ee_name 1 rfl ⟨rotFs g, _, .fix _, lk_vb _ _ _ _, ee_callp C1 hr (aa_cons (ee_name 6 rfl (aa_nil ⟨d.1, d.2, rfl, pS (vo g (opp d)), DG.t' (.fix _) (dk (opp d)) (by rw [getP_kv dk_inj', vo_asc omem]; rfl), ?_⟩)))⟩))) scCo.nd)
      have e7 : (res'.map fun u => dat (PyData.str u)) = (res'.map (Datum.toD : Str → PyData)).map dat := dats_map _ _
      refine bb_cons (ss_if (tt_cmp (cc_niD (α := Str) hr.units (by decide) (ee_name 7 rfl (ee_name 4 rfl ⟨vo g (opp d), res', rfl, by rw [← e7]; exact .own (i := 1) rfl, _, rfl, fun z => ?_, fun z => bb_nil (bb_nil ?_)⟩)))))
      · have hnew : vo g (opp d) ∉ res' := by simpa using z
        have hl := ci'.len
        refine bb_cons (ss_expr (ee_append (ee_name 4 rfl ⟨rs, 1, _, rfl, rfl, ee_name 7 rfl ⟨_, rfl, by rw [List.length_map]; omega, bb_nil (bb_nil ⟨res' ++ [vo g (opp d)], _, _, rfl, ?_, ⟨?_, ?_, ?_, ?_, ?_⟩, ?_, ?_⟩)⟩⟩)))
        · show _ = Ms (res' ++ [vo g (opp d)])
          simp only [Ms]
          rw [List.map_append]
          rfl
        · rw [List.nodup_append]
          exact ⟨ci'.nd, by simp, fun a ha b hb e => hnew (by rw [List.mem_singleton.mp hb] at e; exact e ▸ ha)⟩
        · intro u hu
          rcases List.mem_append.mp hu with h | h
          · exact ci'.sub u h
          · rw [List.mem_singleton.mp h]
            exact vo_mem omem
        · exact List.mem_append_left _ ci'.st
        · rw [List.length_append]
          exact Nat.le_trans ci'.le (Nat.le_add_right _ _)
        · intro j u hj hu d' hd' e'
          rw [List.getElem?_append_left (Nat.lt_of_lt_of_le hj ci'.le)] at hu
          exact List.mem_append_left _ (ci'.cl j u hj hu d' hd' e')
        · rw [List.getElem?_append_left (List.getElem?_eq_some_iff.mp hu').1]
          exact hu'
        · intro d' hd'
          rw [take_at hd] at hd'
          rcases List.mem_append.mp hd' with h | h
          · exact List.mem_append_left _ (hcl d' h)
          · rw [List.mem_singleton.mp h]
            exact List.mem_append_right _ List.mem_cons_self
      · refine ⟨res', _, _, rfl, rfl, ci', hu', fun d' hd' => ?_⟩
        rw [take_at hd] at hd'
        rcases List.mem_append.mp hd' with h | h
        · exact hcl d' h
        · rw [List.mem_singleton.mp h]
          simpa using z
    · rintro is M ⟨res', x, y, rfl, rfl, ci', hu', hcl⟩
      rw [List.length_map, List.length_map, List.take_length] at hcl
      have hi' := (List.getElem?_eq_some_iff.mp hu').1
      refine bb_cons (ss_set 5 (ee_add (ee_name 5 rfl ⟨i, rfl, ee_int ⟨1, rfl, bb_nil ⟨m - 1, by omega, res', i + 1, x, y, rfl, rfl, ⟨ci'.nd, ci'.sub, ci'.st, hi', fun j u hj hu2 d hd e => ?_⟩, by have := ci'.len; omega⟩⟩⟩)) scCo.nd)
      rcases Nat.lt_or_ge j i with h | h
      · exact ci'.cl j u h hu2 d hd e
      · have ej : j = i := by omega
        subst ej
        rw [hu'] at hu2
        have eu := Option.some.inj hu2
        refine hcl d ?_
        obtain ⟨v', hv', hd'⟩ := List.mem_flatMap.mp hd
        have e1 := vo_row wf hv' hd'
        have e2 : v'.1 = res[j] := by rw [← e1, e, eu]
        have e3 := asc_of wf.names (show (v'.1, v'.2) ∈ g from hv')
        rw [e2, hrow] at e3
        rw [Option.some.inj e3]
        exact hd'
  · have hi : i = res.length := by
      have := of_decide_eq_false z
      rw [List.length_map] at this
      have := ci.le
      omega
    subst hi
    have e7 : (res.map fun u => dat (PyData.str u)) = (res.map (Datum.toD : Str → PyData)).map dat := dats_map _ _
    refine bb_cons (ss_ret (ee_sortL (Datum.toD : Str → PyData) hr.units bt.sorted (aa_cons (ee_name 4 rfl (aa_nil ⟨_, res, rfl, by rw [← e7]; exact .own (i := 1) rfl, srt_str (by omega), ?_⟩)))))
    refine hp (srt res) (fun u => ?_) (by rw [srt_len]; omega)
    rw [mem_srt]
    refine ⟨ci.sub u, fun h => cn (fun u => u ∈ res) ⟨v, hv, ci.st⟩ (fun d hd hs => ?_) u h⟩
    obtain ⟨j, hj⟩ := List.mem_iff_getElem?.mp hs
    exact ci.cl j _ (List.getElem?_eq_some_iff.mp hj).1 hj d hd rfl
end
end Q9
namespace Q9
open PySem L2
section
variable {X : Cx} {B : Bs} {is : Is} {M : MS} {Post : Pr → MS → Prop} {tg iter elt : Expr} {pos : Pos}
theorem ee_mapO (N0 : List Str) (sc0 : Scope) (own : List (Str × Nat)) {α : Type} (xs : List α) (f : α → Pr) (g : α → PyData) {scope : Scope} (hc : X.calm = true) (hN : X.N.Nodup) (hb : blkC N0 sc0 scope own = true)
    (h : EE X B iter is M fun p M1 => ∃ (a : Addr) (j : Nat), p = raw (.ref a) ∧ M1[j]? = some (a, MO.lst (xs.map f)) ∧ xs.length ≤ 100000 ∧
      (∀ (L : Addr) (x : α) (acc : List Pr), x ∈ xs →
        BAll X scope fun X1 => GG X1 B (own.map (·.2)) tg (f x) (wipeI is (own.map (·.2))) (M1 ++ [(L, .lst acc)]) fun is2 M2 => M2 = M1 ++ [(L, .lst acc)] ∧
          BAll X scope fun X3 => EE X3 B elt is2 (M1 ++ [(L, .lst acc)]) fun q M4 => M4 = M1 ++ [(L, .lst acc)] ∧ q = dat (g x)) ∧
      Post (dat (.list (xs.map g))) M1)
    (hs : ∀ x, foldedSetIterable iter X.env x = pure x := by intro _; rfl) (hN0 : X.N = N0 := by rfl) (hs0 : X.env.scope = sc0 := by rfl) : EE X B (.ListComp elt [⟨tg, iter, [], 0⟩] scope pos) is M Post := fun σ G H K Q k => by
  subst hN0
  subst hs0
  refine EW.of (pe_lc (own := own) hc hN (pi_list pe_w) (blkOk_by hb) bg bt be hs) ?_
  refine h σ G H K _ fun v G1 H1 p M1 K1 g1 q1 ⟨a, j, e1, hj, hz, hst, hp⟩ => ?_
  subst e1
  obtain ⟨vs, h1, h2⟩ := K1.at hj
  refine ⟨a, q1, ⟨vs, SqL.of h1⟩, fun L hL => ?_⟩
  have KL := K1.push (o := .lst []) (m := .lst []) hL ⟨[], upd_same, True.intro⟩
  have hjM : ∀ (x : Addr × MO), (M1 ++ [x])[j]? = some (a, .lst (xs.map f)) := fun x => by rw [List.getElem?_append_left (List.getElem?_eq_some_iff.mp hj).1]; exact hj
  refine ⟨fun i m H' => m + i = xs.length ∧ ∃ G', Ok B σ G' H' is (M1 ++ [(L, .lst (((xs.take i).map g).map dat))]) ∧ Same G1 G', ⟨xs.length, rfl, G1, KL, Same.refl _⟩, fun i m H' ⟨em, G', K', g'⟩ => ?_⟩
  obtain ⟨vs', h1', h2'⟩ := K'.at (hjM _)
  have hl := h2'.length
  rw [List.length_map] at hl
  by_cases hi : i < xs.length
  · obtain ⟨y, hy, qy⟩ := h2'.get (i := i) (p := f xs[i]) (by rw [List.getElem?_map, List.getElem?_eq_getElem hi]; rfl)
    refine .inr ⟨⟨vs', y, SqL.of h1', hy⟩, fun H2 => ∃ G2, Ok B σ G2 H2 is (M1 ++ [(L, .lst (((xs.take (i + 1)).map g).map dat))]) ∧ Same G1 G2, fun H2 q => ⟨m - 1, by omega, by omega, q⟩, fun x H2 hyy s HH C cl fp => ?_⟩
    obtain ⟨rfl, fy⟩ := hyy
    have ex : y = x := Option.some.inj (hy.symm.trans (fy vs' (SqL.of h1')))
    subst ex
    have K2 := K'.wipe (own.map (·.2))
    refine hst L xs[i] _ (List.getElem_mem hi) s HH C cl fp _ G' H2 K2 y qy _ fun σ3 G3 H3 is3 M3 K3 g3 e3 ⟨eM, h3⟩ => ?_
    subst eM
    refine ⟨e3.trans (wipe_wipe σ _), fun s HH C cl fp => .inl ⟨rfl, ?_⟩⟩
    show if true = true then _ else _
    rw [if_pos rfl]
    intro s HH C cl fp
    refine h3 s HH C cl fp σ3 G3 H3 K3 _ fun w G5 H5 q M5 K5 g5 q5 ⟨eM5, eq⟩ => ?_
    subst eM5
    subst eq
    obtain ⟨us, hv, hq⟩ := K5.at (a := L) (i := M1.length) at_end
    have hlen := hq.length
    rw [List.length_map, List.length_map, List.length_take] at hlen
    have et : xs.take (i + 1) = xs.take i ++ [xs[i]] := take_at (List.getElem?_eq_getElem hi)
    refine ⟨us, hv, Nat.lt_of_lt_of_le (by omega : us.length < 100001) (by decide), G5, ?_, (g'.trans g3).trans g5⟩
    have KW := K5.write (i := M1.length) (o := .lst (us ++ [w])) (m' := .lst (((xs.take (i + 1)).map g).map dat)) at_end ⟨_, upd_same, by
      rw [et, List.map_append, List.map_append]
      exact hq.app ⟨q5, True.intro⟩⟩ (fun _ => True.intro)
    rw [set_end] at KW
    exact KW.slots (K'.loc.mono (g3.trans g5))
  · have e : i = xs.length := by omega
    subst e
    refine .inl ⟨⟨vs', SqL.of h1', by rw [← hl]; exact Nat.le_refl _⟩, ?_⟩
    rw [List.take_length] at K'
    obtain ⟨us, hv, hq⟩ := K'.at (a := L) (i := M1.length) at_end
    have nW : L ∉ B.W := fun hw => by
      obtain ⟨_, xs, e, _⟩ := K1.bw L hw
      rw [hL] at e
      cases e
    obtain ⟨KF, gF⟩ := K'.freeze (i := M1.length) (a := L) (o := .lst us) at_end hv nW
    rw [erase_end] at KF
    exact k (.ref L) _ H' _ M1 KF ((g1.trans g').trans gF) (Dq.lst upd_same (PL.dats.mp (hq.mono gF))) hp
end
end Q9
namespace Q9
open PySem L2
open PySem.W (Datum DatumOrd minOf)
def dartsOf (g : Gr) : List Dart := (srt (edgesRaw g)).flatMap fun e => [(e, 0), (e, 1)]
section
variable {P : Program} {w : World} {K : PySem.W.Frag} {mg : Str → Option Value} {base : Heap} {k : Nat} {C : Addr}
theorem scCs : FnScope ["graph", "rotations", "result", "vertex", "component"] ["graph"] (defScope (tp 36)) := ⟨rfl, rfl, rfl, by decide +kernel, rfl, by decide +kernel, by decide +kernel⟩
def spCs : List Pr → (Pr → Prop) → Prop := fun ps post => ∃ g : Gr, ps = [dat (tD g)] ∧ WF g ∧ Conn g ∧ g ≠ [] ∧ ∀ rs : List Str, post (dat (tD [rs]))
theorem cal_cs (bt : Bt mg) (rc : RotC K mg C) (t : Top K mg "components" (tp 36) ["graph"]) (C1 : Cal P w K mg base (k + 2) "component_of" ["graph", "rotations", "vertex"] (pur (spCo C))) : Cal P w K mg base (k + 3) "components" ["graph"] (pur spCs) := by
  refine cal_pur t scCs (fun prs post ⟨g, e, _⟩ => by rw [e]; rfl) fun f cdv A outer s H E B hS hr prs post ⟨g, e0, wf, cn, ne, hp⟩ => ?_
  subst e0
  refine bb_cons (ss_set 1 (ee_rot bt rc hr (aa_cons (ee_name 0 rfl (aa_nil ⟨g, rfl, wf, ?_⟩)))) scCs.nd)
  refine bb_cons (ss_set 2 (ee_lstm (aa_nil ⟨by simp, fun a => ?_⟩)) scCs.nd)
  have hvs := wf.vs
  let st : Option Pr → Option Pr → Is := fun x y => [some (dat (tD g)), some (rotP C g), some (raw (.ref a)), x, y]
  let Ms : List (List Str) → MS := fun rr => [(a, .lst (rr.map fun r => dat (tD r)))]
  refine bb_cons (ss_for [3] rfl .never (ii_lstd (ee_sortK rfl hr.units bt.sorted (aa_cons (ee_dictK rfl bt.dict (aa_cons (ee_name 0 rfl (aa_nil ⟨_, g.map fun v => (sk v.1, tD v.2), rfl, by rw [pairs_g]; exact .ds _, fun rw => ?_⟩)))))))) 
  rw [dict_g wf]
  refine aa_nil ⟨_, _, g.map (·.1), rfl, .own (i := 1) rfl, kv_keys g, srt_str (by rw [List.length_map]; omega), _, rfl, fun i is M => ∃ x y rr, is = st x y ∧ M = [(a, .lst (rr.map fun r => dat (tD r))), (rw, .dk (kvP sk pRow g))] ∧ (i = 0 → rr = []) ∧ (0 < i → ∃ rs : List Str, rr = [rs] ∧ ∀ u ∈ g.map (·.1), u ∈ rs), ⟨none, none, [], rfl, rfl, fun _ => rfl, fun h => absurd h (Nat.lt_irrefl _)⟩, ?_, ?_⟩
  · rintro i p is M hget ⟨x, y, rr, rfl, rfl, h0, h1⟩
    rw [List.getElem?_map, List.getElem?_map] at hget
    obtain ⟨dd, hdd, rfl⟩ := Option.map_eq_some_iff.mp hget
    obtain ⟨v, hv, rfl⟩ := Option.map_eq_some_iff.mp hdd
    have hvm : v ∈ g.map (·.1) := mem_srt.mp (List.mem_of_getElem? hv)
    refine gg_name 3 scCs.nd ?_
    have hrr : rr.length ≤ 1 := by
      rcases Nat.eq_zero_or_pos i with z | z
      · rw [h0 z]; exact Nat.zero_le _
      · obtain ⟨rs, e, _⟩ := h1 z
        rw [e]; exact Nat.le_refl _
    refine bb_cons (ss_if (tt_not (tt_val (ee_any rfl bt.any (aa_cons (ee_mapO ["graph", "rotations", "result", "vertex", "component"] (defScope (tp 36)) [("component", 4)] rr (fun r => dat (tD r)) (fun r => .bool (decide (v ∈ r))) rfl scCs.nd (by decide +kernel) (ee_name 2 rfl ⟨a, 0, rfl, rfl, by omega, fun L r acc hr' s H C cl fp => gg_name 4 scCs.nd ⟨rfl, fun s H C cl fp => ee_cmp (cc_inD (α := Str) hr.units (by decide) (ee_name 3 rfl (ee_name 4 rfl ⟨v, r, rfl, .ds _, rfl, rfl⟩)))⟩, aa_nil ⟨_, rr.map (fun r => decide (v ∈ r)), rfl, ?_, _, rfl, fun z => ?_, fun z => ?_⟩⟩)))))))
    · have e : (rr.map (fun r => decide (v ∈ r))).map (fun b => dat (.bool b)) = (rr.map fun r => PyData.bool (decide (v ∈ r))).map dat := by rw [List.map_map, List.map_map]; rfl
      rw [e]
      exact .ds _
    · have hi : i = 0 := by
        rcases Nat.eq_zero_or_pos i with q | q
        · exact q
        · obtain ⟨rs, e, hm⟩ := h1 q
          rw [e] at z
          simp [hm v hvm] at z
      have er := h0 hi
      subst er
      refine bb_cons (ss_expr (ee_append (ee_name 2 rfl ⟨a, 0, _, rfl, rfl, ee_callp C1 hr (aa_cons (ee_name 0 rfl (aa_cons (ee_name 1 rfl (aa_cons (ee_name 3 rfl (aa_nil ⟨g, v, rfl, wf, cn, hvm, fun rs hrs hl => ⟨_, rfl, by simp, bb_nil (bb_nil ⟨_, _, [rs], rfl, rfl, fun h => absurd h (Nat.succ_ne_zero _), fun _ => ⟨rs, rfl, fun u hu => (hrs u).mpr hu⟩⟩)⟩⟩)))))))⟩)))
    · refine bb_nil (bb_nil ⟨_, _, rr, rfl, rfl, fun h => absurd h (Nat.succ_ne_zero _), fun _ => ?_⟩)
      rcases Nat.eq_zero_or_pos i with q | q
      · rw [h0 q] at z
        simp at z
      · exact h1 q
  · rintro is M ⟨x, y, rr, rfl, rfl, h0, h1⟩
    have hpos : 0 < (((srt (g.map (·.1))).map PyData.str).map dat).length := by
      rw [List.length_map, List.length_map, srt_len, List.length_map]
      exact List.length_pos_iff.mpr ne
    obtain ⟨rs, e, _⟩ := h1 hpos
    subst e
    exact bb_cons (ss_ret (ee_frzd hS (ee_name 2 rfl ⟨a, 0, [tD rs], rfl, rfl, hp rs⟩)))
theorem scCc : FnScope ["graph", "argument"] ["graph", "argument"] (defScope (tp 51)) := ⟨rfl, rfl, rfl, by decide +kernel, rfl, by decide +kernel, by decide +kernel⟩
def spCc : List Pr → (Pr → Prop) → Prop := fun ps post => ∃ (g : Gr) (p : Pr), ps = [dat (tD g), p] ∧ WF g ∧ Conn g ∧ g ≠ [] ∧ post (dat .none)
theorem cal_cc (bt : Bt mg) (t : Top K mg "check_connected" (tp 51) ["graph", "argument"]) (C1 : Cal P w K mg base k "components" ["graph"] (pur spCs)) : Cal P w K mg base (k + 1) "check_connected" ["graph", "argument"] (pur spCc) := by
  refine cal_pur t scCc (fun prs post ⟨g, p, e, _⟩ => by rw [e]; rfl) fun f cdv A outer s H E B hS hr prs post ⟨g, p, e0, wf, cn, ne, hp⟩ => ?_
  subst e0
  refine bb_cons (ss_if (tt_cmp (cc_neD (α := Int) hr.units (by decide) (ee_len bt.len (aa_cons (ee_callp C1 hr (aa_cons (ee_name 0 rfl (aa_nil ⟨g, rfl, wf, cn, ne, fun rs => aa_nil ⟨_, 1, rfl, .ls (.ds [tD rs]), ee_int ⟨1, 1, .inl rfl, .inl rfl, false, rfl, (fun z => nomatch z), fun _ => bb_nil (bb_nil hp)⟩⟩⟩)))))))))
theorem scDo : FnScope ["graph", "edge", "side"] ["graph"] (defScope (tp 50)) := ⟨rfl, rfl, rfl, by decide +kernel, rfl, by decide +kernel, by decide +kernel⟩
def spDo : List Pr → (Pr → Prop) → Prop := fun ps post => ∃ g : Gr, ps = [dat (tD g)] ∧ WF g ∧ post (dat (tD (dartsOf g)))
theorem cal_do (bt : Bt mg) (t : Top K mg "darts_of" (tp 50) ["graph"]) (C1 : Cal P w K mg base k "edge_names" ["graph"] (pur spEn)) : Cal P w K mg base (k + 1) "darts_of" ["graph"] (pur spDo) := by
  refine cal_pur t scDo (fun prs post ⟨g, e, _⟩ => by rw [e]; rfl) fun f cdv A outer s H E B hS hr prs post ⟨g, e0, wf, hp⟩ => ?_
  subst e0
  have el := edges_len wf
  refine bb_cons (ss_ret (EE.cv (EE.imp (P := fun p M' => p = lstP (((dartsOf g).map Datum.toD).map dat) ∧ M' = []) (ee_lc2 ["graph", "edge", "side"] (defScope (tp 50)) [("edge", 1), ("side", 2)] [2] rfl scDo.nd (by decide +kernel) (by decide) (ii_lstd (ee_callp C1 hr (aa_cons (ee_name 0 rfl (aa_nil ⟨g, rfl, wf, (srt (edgesRaw g)).map Datum.toD, rfl, by rw [List.length_map, List.length_map, srt_len]; omega, fun i acc => acc = ((((srt (edgesRaw g)).take i).flatMap fun e => [((e, 0) : Dart), (e, 1)]).map Datum.toD).map dat, rfl, ?_, ?_⟩)))))) ?_)))
  · rintro L i p acc hp' rfl s H C cl fp
    rw [List.getElem?_map, List.getElem?_map] at hp'
    obtain ⟨dd, hdd, rfl⟩ := Option.map_eq_some_iff.mp hp'
    obtain ⟨e, he, rfl⟩ := Option.map_eq_some_iff.mp hdd
    refine gg_name 1 scDo.nd ⟨rfl, fun s H C cl fp => .inl ⟨rfl, rfl, (fun z => nomatch z), fun _ s H C cl fp => ii_tupd (ee_tupd (aa_cons (ee_int (aa_cons (ee_int (aa_nil ⟨[.int 0, .int 1], rfl, by simp, _, rfl, rfl, by simp, fun j ac => ac = ((((srt (edgesRaw g)).take i).flatMap fun e => [((e, 0) : Dart), (e, 1)]) ++ [((e, 0) : Dart), (e, 1)].take j |>.map Datum.toD).map dat, by simp, ?_, ?_⟩))))))⟩⟩
    · rintro j q ac hq rfl s H C cl fp
      match j, hq with
      | 0, hq =>
        have eq : dat (.int 0) = q := Option.some.inj hq
        subst eq
        refine gg_name 2 scDo.nd ⟨rfl, fun s H C cl fp => .inl ⟨rfl, rfl, (fun z => nomatch z), fun _ s H C cl fp => ee_tupd (aa_cons (ee_name 1 rfl (aa_cons (ee_name 2 rfl (aa_nil ⟨[.str e, .int 0], rfl, by simp, rfl, ?_⟩)))))⟩⟩
        simp
        rfl
      | 1, hq =>
        have eq : dat (.int 1) = q := Option.some.inj hq
        subst eq
        refine gg_name 2 scDo.nd ⟨rfl, fun s H C cl fp => .inl ⟨rfl, rfl, (fun z => nomatch z), fun _ s H C cl fp => ee_tupd (aa_cons (ee_name 1 rfl (aa_cons (ee_name 2 rfl (aa_nil ⟨[.str e, .int 1], rfl, by simp, rfl, ?_⟩)))))⟩⟩
        simp
        rfl
      | j + 2, hq => simp at hq
    · rintro ac rfl
      show _ = ((((srt (edgesRaw g)).take (i + 1)).flatMap fun e => [((e, 0) : Dart), (e, 1)]).map Datum.toD).map dat
      rw [take_at he, List.flatMap_append]
      simp
  · rintro acc rfl
    refine ⟨?_, rfl⟩
    rw [List.length_map, List.length_map, List.take_length]
    rfl
  · rintro p M ⟨rfl, rfl⟩
    exact ⟨dat (tD (dartsOf g)), fun v G q => dat_lst.mpr q, hp⟩
end
end Q9
namespace Q9
open PySem L2
open PySem.W (Datum DatumOrd minOf)
theorem rot1_get {α : Type} {l : List α} {i : Nat} (h : i < l.length) : (rot1 l)[i]? = if i + 1 < l.length then l[i + 1]? else l[0]? := by
  unfold rot1
  split
  · rename_i h1
    rw [List.getElem?_append_left (by rw [List.length_drop]; omega), List.getElem?_drop]
    congr 1
    omega
  · rename_i h1
    have e : i = l.length - 1 := by omega
    rw [List.getElem?_append_right (by rw [List.length_drop]; omega), List.length_drop, e, Nat.sub_self, List.getElem?_take, if_pos (by omega)]
theorem nx_row {g : Gr} (wf : WF g) {v : Str × List Dart} (hv : v ∈ g) {i : Nat} {d y : Dart} (hd : v.2[i]? = some d) (hy : (rot1 v.2)[i]? = some y) : nx g d = y := by
  have h : (d, y) ∈ nexts g := List.mem_flatMap.mpr ⟨v, hv, List.mem_of_getElem? (i := i) (List.getElem?_zip_eq_some.mpr ⟨hd, hy⟩)⟩
  unfold nx
  rw [asc_of (by rw [nexts_fst]; exact wf.nd) h]
  rfl
theorem nx_succ {g : Gr} (wf : WF g) {v : Str × List Dart} (hv : v ∈ g) {i : Nat} {d y : Dart} (hd : v.2[i]? = some d) (hy : v.2[i + 1]? = some y) : nx g d = y := by
  have h1 := (List.getElem?_eq_some_iff.mp hd).1
  have h2 := (List.getElem?_eq_some_iff.mp hy).1
  exact nx_row wf hv hd (by rw [rot1_get h1, if_pos h2, hy])
theorem nx_last {g : Gr} (wf : WF g) {v : Str × List Dart} (hv : v ∈ g) {i : Nat} {d y : Dart} (hd : v.2[i]? = some d) (hl : i + 1 = v.2.length) (hy : v.2[0]? = some y) : nx g d = y :=
  nx_row wf hv hd (by rw [rot1_get (by omega), if_neg (by omega), hy])
/-- a row is reached as a whole -/
theorem row_all {g : Gr} (wf : WF g) {R : Dart → Prop} (hn : ∀ x ∈ darts g, R x → R (nx g x)) {v : Str × List Dart} (hv : v ∈ g) {d : Dart} (hd : d ∈ v.2) (h : R d) : ∀ x ∈ v.2, R x := by
  obtain ⟨i, hi⟩ := List.mem_iff_getElem?.mp hd
  have up : ∀ (m j : Nat) (x : Dart), v.2[j]? = some x → R x → ∀ y : Dart, v.2[j + m]? = some y → R y := by
    intro m
    induction m with
    | zero =>
      intro j x hx hr y hy
      rw [Nat.add_zero, hx] at hy
      exact Option.some.inj hy ▸ hr
    | succ m ih =>
      intro j x hx hr y hy
      have hlt := (List.getElem?_eq_some_iff.mp hy).1
      have hz : v.2[j + 1]? = some v.2[j + 1] := List.getElem?_eq_getElem (by omega)
      refine ih (j + 1) _ hz ?_ y (by rw [← hy]; congr 1; omega)
      rw [← nx_succ wf hv hx hz]
      exact hn x (darts_mem hv (List.mem_of_getElem? hx)) hr
  have hlt := (List.getElem?_eq_some_iff.mp hi).1
  have hlast : v.2[v.2.length - 1]? = some v.2[v.2.length - 1] := List.getElem?_eq_getElem (by omega)
  have h1 : R v.2[v.2.length - 1] := up (v.2.length - 1 - i) i d hi h _ (by rw [← hlast]; congr 1; omega)
  have h0 : v.2[0]? = some v.2[0] := List.getElem?_eq_getElem (by omega)
  have h2 : R v.2[0] := by
    rw [← nx_last wf hv hlast (by omega) h0]
    exact hn _ (darts_mem hv (List.mem_of_getElem? hlast)) h1
  intro x hx
  obtain ⟨j, hj⟩ := List.mem_iff_getElem?.mp hx
  exact up j 0 _ h0 h2 x (by rw [Nat.zero_add]; exact hj)
theorem row_of {g : Gr} {d : Dart} (hd : d ∈ darts g) : ∃ v ∈ g, d ∈ v.2 := List.mem_flatMap.mp hd
theorem same_row {g : Gr} (wf : WF g) {v u : Str × List Dart} (hv : v ∈ g) (hu : u ∈ g) (h : v.1 = u.1) : v = u := by
  have e1 := asc_of wf.names (show (v.1, v.2) ∈ g from hv)
  have e2 := asc_of wf.names (show (u.1, u.2) ∈ g from hu)
  rw [h, e2] at e1
  exact Prod.ext h (Option.some.inj e1).symm
theorem reach {g : Gr} (wf : WF g) (cn : Conn g) {R : Dart → Prop} (h0 : ∃ x ∈ darts g, R x) (hn : ∀ x ∈ darts g, R x → R (nx g x)) (ho : ∀ x ∈ darts g, R x → R (opp x)) : ∀ x ∈ darts g, R x := by
  have key : ∀ x ∈ darts g, (∃ y ∈ darts g, vo g y = vo g x ∧ R y) → R x := by
    rintro x hx ⟨y, hy, e, hr⟩
    obtain ⟨v, hv, hxv⟩ := row_of hx
    obtain ⟨u, hu, hyu⟩ := row_of hy
    rw [vo_row wf hv hxv, vo_row wf hu hyu] at e
    have := same_row wf hu hv e
    subst this
    exact row_all wf hn hu hyu hr x hxv
  have all := cn (fun v => ∃ y ∈ darts g, vo g y = v ∧ R y) (by
    obtain ⟨x, hx, hr⟩ := h0
    exact ⟨vo g x, vo_mem hx, x, hx, rfl, hr⟩) (fun x hx hs => ⟨opp x, wf.op x hx, rfl, ho x hx (key x hx hs)⟩)
  intro x hx
  exact key x hx (all _ (vo_mem hx))
/-- a map of the darts that keeps the rotations and the edges -/
structure IsIso (g h : Gr) (f : Dart → Dart) : Prop where
  mem : ∀ x ∈ darts g, f x ∈ darts h
  inj : ∀ x ∈ darts g, ∀ y ∈ darts g, f x = f y → x = y
  sur : ∀ y ∈ darts h, ∃ x ∈ darts g, f x = y
  nx : ∀ x ∈ darts g, f (nx g x) = nx h (f x)
  op : ∀ x ∈ darts g, f (opp x) = opp (f x)
def IsoAt (g h : Gr) (d e : Dart) (l : List (Dart × Dart)) : Prop := ∃ f, IsIso g h f ∧ f d = e ∧ l = srt ((darts g).map fun x => (x, f x))
theorem IsIso.stp {g h : Gr} {f : Dart → Dart} (i : IsIso g h f) {x : Dart} (hx : x ∈ darts g) (c : Nat) : f (stp g x c) = Q9.stp h (f x) c := by
  unfold Q9.stp
  split
  · exact i.nx x hx
  · exact i.op x hx
theorem IsIso.run {g h : Gr} (wf : WF g) {f : Dart → Dart} (i : IsIso g h f) : ∀ (cs : List Nat) {x : Dart}, x ∈ darts g → f (run g x cs) = Q9.run h (f x) cs
  | [], _, _ => rfl
  | c :: cs, x, hx => by
    show f (Q9.run g (Q9.stp g x c) cs) = Q9.run h (Q9.stp h (f x) c) cs
    rw [← i.stp hx c]
    exact i.run wf cs (stp_mem wf hx c)
/-- two words that meet in exactly one of the graphs -/
def Dst (g h : Gr) (d e : Dart) (a b : Str) : Prop := decide (run g d a.cps.toList = run g d b.cps.toList) ≠ decide (run h e a.cps.toList = run h e b.cps.toList)
theorem Dst.no {g h : Gr} (wf : WF g) {d e : Dart} (hd : d ∈ darts g) {a b : Str} (k : Dst g h d e a b) {f : Dart → Dart} (i : IsIso g h f) (hf : f d = e) : False := by
  apply k
  rw [← hf, ← i.run wf _ hd, ← i.run wf _ hd]
  congr 1
  exact propext ⟨fun z => by rw [z], fun z => i.inj _ (run_mem wf _ hd) _ (run_mem wf _ hd) z⟩
/-- what the comparison has so far: the pairs, the words, how many pairs are done -/
structure CI (g h : Gr) (d e : Dart) (im : List (Dart × Dart)) (ws : List (Dart × Str)) (n : Nat) : Prop where
  kd : (im.map (·.1)).Nodup
  vd : (im.map (·.2)).Nodup
  sub : ∀ p ∈ im, p.1 ∈ darts g ∧ p.2 ∈ darts h
  st : im[0]? = some (d, e)
  wk : ws.map (·.1) = im.map (·.1)
  wd : ∀ (j : Nat) (p : Dart × Dart) (q : Dart × Str), im[j]? = some p → ws[j]? = some q → isW q.2 ∧ q.2.length ≤ j ∧ run g d q.2.cps.toList = p.1 ∧ run h e q.2.cps.toList = p.2
  le : n ≤ im.length
  cl : ∀ (j : Nat) (p : Dart × Dart), j < n → im[j]? = some p → ∀ c, c = 110 ∨ c = 111 → asc im (stp g p.1 c) = some (stp h p.2 c)
section
variable {g h : Gr} {d e : Dart} {im : List (Dart × Dart)} {ws : List (Dart × Str)} {n : Nat}
theorem CI.len (wf : WF g) (k : CI g h d e im ws n) : im.length ≤ (darts g).length := by
  have := nodup_sub k.kd fun x hx => by
    obtain ⟨p, hp, e1⟩ := List.mem_map.mp hx
    exact e1 ▸ (k.sub p hp).1
  rwa [List.length_map] at this
theorem CI.len2 (k : CI g h d e im ws n) : ws.length = im.length := by
  have := congrArg List.length k.wk
  rwa [List.length_map, List.length_map] at this
theorem CI.word (k : CI g h d e im ws n) {p : Dart × Dart} (hp : p ∈ im) : ∃ w : Str, asc ws p.1 = some w ∧ isW w ∧ w.length ≤ im.length ∧ run g d w.cps.toList = p.1 ∧ run h e w.cps.toList = p.2 := by
  obtain ⟨j, hj⟩ := List.mem_iff_getElem?.mp hp
  have hlt := (List.getElem?_eq_some_iff.mp hj).1
  have hlw : j < ws.length := by rw [k.len2]; exact hlt
  have hq : ws[j]? = some ws[j] := List.getElem?_eq_getElem hlw
  obtain ⟨h1, h2, h3, h4⟩ := k.wd j p _ hj hq
  have e1 : (ws.map (·.1))[j]? = some ws[j].1 := by rw [List.getElem?_map, hq]; rfl
  rw [k.wk, List.getElem?_map, hj] at e1
  have e2 : p.1 = ws[j].1 := Option.some.inj e1
  exact ⟨ws[j].2, asc_of (by rw [k.wk]; exact k.kd) (by rw [e2]; exact List.mem_of_getElem? hq), h1, by omega, h3, h4⟩
theorem asc_swp {x y : Dart} (kd : (im.map (·.2)).Nodup) : asc (swp im) y = some x ↔ (x, y) ∈ im := by
  constructor
  · intro z
    obtain ⟨p, hp, e1⟩ := List.mem_map.mp (asc_mem z)
    injection e1 with e1 e2
    rw [← e1, ← e2]
    exact hp
  · intro z
    exact asc_of (by rw [swp_fst]; exact kd) (List.mem_map.mpr ⟨_, z, rfl⟩)
/-- a new pair -/
theorem CI.add (k : CI g h d e im ws n) {x y : Dart} {w : Str} (hx : x ∈ darts g) (hy : y ∈ darts h) (nx : x ∉ im.map (·.1)) (ny : y ∉ im.map (·.2)) (hw : isW w) (hl : w.length ≤ im.length) (r1 : run g d w.cps.toList = x) (r2 : run h e w.cps.toList = y) :
    CI g h d e (im ++ [(x, y)]) (ws ++ [(x, w)]) n := by
  refine ⟨?_, ?_, fun p hp => ?_, ?_, by rw [List.map_append, List.map_append, k.wk]; rfl, fun j p q hp hq => ?_, by rw [List.length_append]; exact Nat.le_trans k.le (Nat.le_add_right _ _), fun j p hj hp c hc => ?_⟩
  · rw [List.map_append, List.nodup_append]
    exact ⟨k.kd, by simp, fun a ha b hb e => nx (by rw [List.mem_singleton.mp hb] at e; have e : a = x := e; exact e ▸ ha)⟩
  · rw [List.map_append, List.nodup_append]
    exact ⟨k.vd, by simp, fun a ha b hb e => ny (by rw [List.mem_singleton.mp hb] at e; have e : a = y := e; exact e ▸ ha)⟩
  · rcases List.mem_append.mp hp with z | z
    · exact k.sub p z
    · rw [List.mem_singleton.mp z]
      exact ⟨hx, hy⟩
  · rw [List.getElem?_append_left (List.getElem?_eq_some_iff.mp k.st).1]
    exact k.st
  · rcases Nat.lt_or_ge j im.length with z | z
    · rw [List.getElem?_append_left z] at hp
      rw [List.getElem?_append_left (by rw [k.len2]; exact z)] at hq
      exact k.wd j p q hp hq
    · have hj := (List.getElem?_eq_some_iff.mp hp).1
      rw [List.length_append, List.length_singleton] at hj
      have ej : j = im.length := by omega
      subst ej
      rw [List.getElem?_append_right (Nat.le_refl _), Nat.sub_self] at hp
      rw [← k.len2, List.getElem?_append_right (Nat.le_refl _), Nat.sub_self] at hq
      have ep : (x, y) = p := Option.some.inj hp
      have eq : (x, w) = q := Option.some.inj hq
      subst ep; subst eq
      exact ⟨hw, hl, r1, r2⟩
  · rw [List.getElem?_append_left (Nat.lt_of_lt_of_le hj k.le)] at hp
    rw [asc_app, k.cl j p hj hp c hc]
    rfl
/-- all pairs are done: an isomorphism -/
theorem CI.iso (wfg : WF g) (wfh : WF h) (cg : Conn g) (ch : Conn h) (k : CI g h d e im ws im.length) : IsoAt g h d e (srt im) := by
  have cl : ∀ x y, asc im x = some y → ∀ c, c = 110 ∨ c = 111 → asc im (stp g x c) = some (stp h y c) := fun x y hxy c hc => by
    obtain ⟨j, hj⟩ := List.mem_iff_getElem?.mp (asc_mem hxy)
    exact k.cl j (x, y) (List.getElem?_eq_some_iff.mp hj).1 hj c hc
  have h0 : asc im d = some e := asc_of k.kd (List.mem_of_getElem? k.st)
  have hd := (k.sub _ (asc_mem h0)).1
  have he := (k.sub _ (asc_mem h0)).2
  have s110 : ∀ (g : Gr) x, stp g x 110 = nx g x := fun _ _ => rfl
  have s111 : ∀ (g : Gr) x, stp g x 111 = opp x := fun _ _ => rfl
  have dom : ∀ x ∈ darts g, ∃ y, asc im x = some y := reach wfg cg ⟨d, hd, e, h0⟩ (fun x hx ⟨y, hy⟩ => ⟨_, cl x y hy 110 (.inl rfl)⟩) (fun x hx ⟨y, hy⟩ => ⟨_, cl x y hy 111 (.inr rfl)⟩)
  have ran : ∀ y ∈ darts h, ∃ x, asc im x = some y := reach wfh ch ⟨e, he, d, h0⟩ (fun y hy ⟨x, hx⟩ => ⟨_, cl x y hx 110 (.inl rfl)⟩) (fun y hy ⟨x, hx⟩ => ⟨_, cl x y hx 111 (.inr rfl)⟩)
  have f_of : ∀ {x y}, asc im x = some y → (asc im x).getD x = y := fun {x y} z => by rw [z]; rfl
  refine ⟨fun x => (asc im x).getD x, ⟨fun x hx => ?_, fun x hx x' hx' z => ?_, fun y hy => ?_, fun x hx => ?_, fun x hx => ?_⟩, f_of h0, ?_⟩
  · obtain ⟨y, hy⟩ := dom x hx
    show (asc im x).getD x ∈ darts h
    rw [f_of hy]
    exact (k.sub _ (asc_mem hy)).2
  · obtain ⟨y, hy⟩ := dom x hx
    obtain ⟨y', hy'⟩ := dom x' hx'
    have z' : (asc im x).getD x = (asc im x').getD x' := z
    rw [f_of hy, f_of hy'] at z'
    subst z'
    have a1 := (asc_swp k.vd).mpr (asc_mem hy)
    have a2 := (asc_swp k.vd).mpr (asc_mem hy')
    rw [a1] at a2
    exact Option.some.inj a2
  · obtain ⟨x, hx⟩ := ran y hy
    exact ⟨x, (k.sub _ (asc_mem hx)).1, f_of hx⟩
  · obtain ⟨y, hy⟩ := dom x hx
    show (asc im (nx g x)).getD _ = nx h ((asc im x).getD x)
    have e2 : (asc im (nx g x)).getD (nx g x) = nx h y := f_of (cl x y hy 110 (.inl rfl))
    rw [f_of hy, e2]
  · obtain ⟨y, hy⟩ := dom x hx
    show (asc im (opp x)).getD _ = opp ((asc im x).getD x)
    have e2 : (asc im (opp x)).getD (opp x) = opp y := f_of (cl x y hy 111 (.inr rfl))
    rw [f_of hy, e2]
  · refine srt_eq ?_
    have e1 : im = (im.map (·.1)).map fun x => (x, (asc im x).getD x) := by
      rw [List.map_map]
      conv => lhs; rw [← List.map_id im]
      refine List.map_congr_left fun p hp => ?_
      show p = (p.1, (asc im p.1).getD p.1)
      rw [f_of (asc_of k.kd (show (p.1, p.2) ∈ im from hp))]
    have e2 : (im.map (·.1)).Perm (darts g) := by
      rw [List.perm_ext_iff_of_nodup k.kd wfg.nd]
      intro x
      constructor
      · intro hx
        obtain ⟨p, hp, ex⟩ := List.mem_map.mp hx
        exact ex ▸ (k.sub p hp).1
      · intro hx
        obtain ⟨y, hy⟩ := dom x hx
        exact List.mem_map.mpr ⟨_, asc_mem hy, rfl⟩
    conv => lhs; rw [e1]
    exact e2.map _
end
end Q9
namespace Q9
open PySem L2
open PySem.W (Datum DatumOrd minOf)
theorem str_app (x : Str) (c : Nat) : (x ++ (⟨#[c]⟩ : Str)).cps.toList = x.cps.toList ++ [c] := by
  show (x.cps ++ #[c]).toList = _
  simp
theorem str_app_len (x : Str) (c : Nat) : (x ++ (⟨#[c]⟩ : Str)).length = x.length + 1 := by
  have h := congrArg List.length (str_app x c)
  rw [List.length_append, Array.length_toList, Array.length_toList] at h
  exact h
theorem isW_app {x : Str} {c : Nat} (h : isW x) (hc : c = 110 ∨ c = 111) : isW (x ++ (⟨#[c]⟩ : Str)) := fun b hb => by
  rw [str_app] at hb
  rcases List.mem_append.mp hb with z | z
  · exact h b z
  · rw [List.mem_singleton.mp z]; exact hc
theorem no_list : ("no" : Str).cps.toList = [110, 111] := by decide +kernel
theorem getD_opt {o : Option Dart} : ((o.map pD).getD (dat .none)) = match o with | some y => pD y | none => dat .none := by cases o <;> rfl
section
variable {P : Program} {w : World} {K : PySem.W.Frag} {mg : Str → Option Value} {base : Heap} {k : Nat} {C : Addr}
abbrev nmCf : List Str := ["graph", "dart", "other", "other_dart", "rotations", "others", "images", "words", "sources", "queue", "current", "letter", "one", "two", "word"]
theorem scCf : FnScope nmCf ["graph", "dart", "other", "other_dart"] (defScope (tp 44)) := ⟨rfl, rfl, rfl, by decide +kernel, rfl, by decide +kernel, by decide +kernel⟩
def dMatch (l : List (Dart × Dart)) : PyData := .tuple [.str "match", tD l]
def dDiffer (a b : Str) : PyData := .tuple [.str "differ", .str a, .str b]
def spCf : List Pr → (Pr → Prop) → Prop := fun ps post => ∃ (g h : Gr) (d e : Dart), ps = [dat (tD g), dat (tD d), dat (tD h), dat (tD e)] ∧ WF g ∧ WF h ∧ Conn g ∧ Conn h ∧ d ∈ darts g ∧ e ∈ darts h ∧
  (∀ l, IsoAt g h d e l → post (dat (dMatch l))) ∧ ∀ a b, isW a → isW b → a.length ≤ 300 → b.length ≤ 300 → Dst g h d e a b → post (dat (dDiffer a b))
theorem cal_cf (bt : Bt mg) (rc : RotC K mg C) (t : Top K mg "compare_from" (tp 44) ["graph", "dart", "other", "other_dart"]) (C1 : Cal P w K mg base (k + 2) "require_dart" ["rotations", "dart"] (pur (spRd C))) (C2 : Cal P w K mg base (k + 2) "apply_letter" ["rotations", "dart", "letter"] (pur (spAl C))) : Cal P w K mg base (k + 3) "compare_from" ["graph", "dart", "other", "other_dart"] (pur spCf) := by
  refine cal_pur t scCf (fun prs post ⟨g, h, d, e, e0, _⟩ => by rw [e0]; rfl) fun f cdv A outer s H E B hS hr prs post ⟨g, h, d, e, e0, wfg, wfh, cg, ch, hd, he, hm, hdf⟩ => ?_
  subst e0
  obtain ⟨t1, m1⟩ := bt.match_
  obtain ⟨t2, m2⟩ := bt.differ
  have hu := hr.units
  refine bb_cons (ss_par 4 5 rfl scCf.nd (by decide) (aa_cons (ee_rot bt rc hr (aa_cons (ee_name 0 rfl (aa_nil ⟨g, rfl, wfg, aa_cons (ee_rot bt rc hr (aa_cons (ee_name 2 rfl (aa_nil ⟨h, rfl, wfh, aa_nil ⟨_, _, rfl, ?_⟩⟩))))⟩))))))
  refine bb_cons (ss_expr (ee_callp C1 hr (aa_cons (ee_name 4 rfl (aa_cons (ee_name 1 rfl (aa_nil ⟨g, d, rfl, wfg, hd, ?_⟩)))))))
  refine bb_cons (ss_expr (ee_callp C1 hr (aa_cons (ee_name 5 rfl (aa_cons (ee_name 3 rfl (aa_nil ⟨h, e, rfl, wfh, he, ?_⟩)))))))
  refine bb_cons (ss_asg [6, 7, 8] (ee_tup (aa_cons (ee_disp1 hu fun a1 => ee_name 1 rfl ⟨rfl, ee_name 3 rfl ⟨rfl, dk d, rfl, aa_cons (ee_disp1 hu fun a2 => ee_name 1 rfl ⟨rfl, ee_str ⟨rfl, dk d, rfl, aa_cons (ee_disp1 hu fun a3 => ee_name 3 rfl ⟨rfl, ee_name 1 rfl ⟨rfl, dk e, rfl, aa_nil ⟨by simp, ?_⟩⟩⟩)⟩⟩)⟩⟩))))
  refine gg_tup rfl (ggs_cons (gg_name 6 scCf.nd (ggs_cons (gg_name 7 scCf.nd (ggs_cons (gg_name 8 scCf.nd (ggs_nil ?_)))))))
  refine bb_cons (ss_set 9 (ee_lstm (aa_cons (ee_name 1 rfl (aa_nil ⟨by simp, fun a4 => ?_⟩)))) scCf.nd)
  let st : Option Pr → Option Pr → Option Pr → Option Pr → Option Pr → Is := fun x10 x11 x12 x13 x14 => [some (dat (tD g)), some (dat (tD d)), some (dat (tD h)), some (dat (tD e)), some (rotP C g), some (rotP C h), some (raw (.ref a1)), some (raw (.ref a2)), some (raw (.ref a3)), some (raw (.ref a4)), x10, x11, x12, x13, x14]
  let Ms : List (Dart × Dart) → List (Dart × Str) → List Dart → MS := fun im ws q => [(a1, .dt (kvP dk pD im)), (a2, .dt (kvP dk pS ws)), (a3, .dt (kvP dk pD (swp im))), (a4, .lst ((q.map Datum.toD).map dat))]
  have ci0 : CI g h d e [(d, e)] [(d, "")] 0 := by
    refine ⟨by simp, by simp, fun p hp => ?_, rfl, rfl, fun j p q hp hq => ?_, Nat.zero_le _, fun j p hj => absurd hj (Nat.not_lt_zero _)⟩
    · rw [List.mem_singleton.mp hp]
      exact ⟨hd, he⟩
    · match j, hp, hq with
      | 0, hp, hq =>
        have ep : (d, e) = p := Option.some.inj hp
        have eq : ((d, "") : Dart × Str) = q := Option.some.inj hq
        subst ep; subst eq
        have e0 : ("" : Str).cps.toList = [] := by decide +kernel
        refine ⟨fun c hc => ?_, (by decide +kernel : ("" : Str).length ≤ 0), ?_, ?_⟩
        · have hc : c ∈ ("" : Str).cps.toList := hc
          rw [e0] at hc
          cases hc
        · show run g d ("" : Str).cps.toList = d
          rw [e0]
          rfl
        · show run h e ("" : Str).cps.toList = e
          rw [e0]
          rfl
  refine bb_cons (ss_while .never (fun m is M => ∃ im ws n x10 x11 x12 x13 x14, is = st x10 x11 x12 x13 x14 ∧ M = Ms im ws ((im.map (·.1)).drop n) ∧ CI g h d e im ws n ∧ m + n = (darts g).length) (darts g).length ⟨[(d, e)], [(d, "")], 0, none, none, none, none, none, rfl, rfl, ci0, rfl⟩ ?_)
  rintro m is M ⟨im, ws, n, x10, x11, x12, x13, x14, rfl, rfl, ci, hmn⟩
  have hl := ci.len wfg
  have hsz := wfg.sz
  refine tt_cmp (cc_neD (α := List Dart) hu (by decide) (ee_name 9 rfl (ee_lstd (aa_nil ⟨[], rfl, by simp, (im.map (·.1)).drop n, [], .inr ⟨a4, 3, _, rfl, rfl, rfl⟩, .inl rfl, _, rfl, fun z => ?_, fun z => ?_⟩))))
  · have hn : n < im.length := by
      rcases Nat.lt_or_ge n im.length with q | q
      · exact q
      · rw [List.drop_eq_nil_of_le (by rw [List.length_map]; exact q)] at z
        cases z
    obtain ⟨x, y, hxy⟩ : ∃ x y, im[n]? = some (x, y) := ⟨im[n].1, im[n].2, List.getElem?_eq_getElem hn⟩
    have eq : (im.map (·.1)).drop n = x :: (im.map (·.1)).drop (n + 1) := by
      have : (im.map (·.1))[n]? = some x := by rw [List.getElem?_map, hxy]; rfl
      obtain ⟨h1, h2⟩ := List.getElem?_eq_some_iff.mp this
      rw [List.drop_eq_getElem_cons h1, h2]
    rw [eq]
    refine bb_cons (ss_set 10 (ee_pop (ee_name 9 rfl ⟨a4, 3, _, rfl, rfl, ee_int ⟨_, 0, dat (tD x), rfl, rfl, by decide, rfl, ?_⟩⟩)) scCf.nd)
    refine bb_cons (ss_for [11] rfl .never (ii_str (ee_str ⟨"no", rfl, fun j is M => ∃ im' ws' y11 y12 y13 y14, is = st (some (dat (tD x))) y11 y12 y13 y14 ∧ M = Ms im' ws' ((im'.map (·.1)).drop (n + 1)) ∧ CI g h d e im' ws' n ∧ n < im'.length ∧ im'[n]? = some (x, y) ∧ ∀ c ∈ [110, 111].take j, asc im' (stp g x c) = some (stp h y c), ⟨im, ws, x11, x12, x13, x14, rfl, rfl, ci, hn, hxy, fun c hc => by simp at hc⟩, ?_, ?_⟩)))
    · rintro j p is M hget ⟨im', ws', y11, y12, y13, y14, rfl, rfl, ci', hn', hxy', hcl⟩
      rw [List.getElem?_map, no_list] at hget
      obtain ⟨c, hc, rfl⟩ := Option.map_eq_some_iff.mp hget
      have hcc : c = 110 ∨ c = 111 := by
        have := List.mem_of_getElem? hc
        simpa using this
      have htk : ([110, 111] : List Nat).take (j + 1) = [110, 111].take j ++ [c] := take_at hc
      have hmem := List.mem_of_getElem? hxy'
      obtain ⟨hx, hy⟩ := ci'.sub _ hmem
      obtain ⟨wx, hw1, hw2, hw3, hw4, hw5⟩ := ci'.word hmem
      have hax : asc im' x = some y := asc_of ci'.kd hmem
      have hone := stp_mem wfg hx c
      have htwo := stp_mem wfh hy c
      have hl' := ci'.len wfg
      -- the word of this step
      have hword : ∃ j : Nat, ws'[j]? = some (x, wx) ∧ wx.length ≤ n := by
        have hlw : n < ws'.length := by rw [ci'.len2]; exact hn'
        have hq : ws'[n]? = some ws'[n] := List.getElem?_eq_getElem hlw
        have h4 := ci'.wd n _ _ hxy' hq
        have e1 : (ws'.map (·.1))[n]? = some ws'[n].1 := by rw [List.getElem?_map, hq]; rfl
        rw [ci'.wk, List.getElem?_map, hxy'] at e1
        have e2 : x = ws'[n].1 := Option.some.inj e1
        have e3 := asc_of (by rw [ci'.wk]; exact ci'.kd) (List.mem_of_getElem? hq : (ws'[n].1, ws'[n].2) ∈ ws')
        rw [← e2, hw1] at e3
        have e4 := Option.some.inj e3
        exact ⟨n, by rw [hq]; exact congrArg some (Prod.ext e2.symm e4.symm), by rw [e4]; exact h4.2.1⟩
      obtain ⟨_, _, hwn⟩ := hword
      have hrun1 : run g d (wx ++ (⟨#[c]⟩ : Str)).cps.toList = stp g x c := by
        rw [str_app, run_app, hw4]
        rfl
      have hrun2 : run h e (wx ++ (⟨#[c]⟩ : Str)).cps.toList = stp h y c := by
        rw [str_app, run_app, hw5]
        rfl
      have hwl : (wx ++ (⟨#[c]⟩ : Str)).length ≤ n + 1 := by rw [str_app_len]; omega
      have hwW := isW_app hw2 hcc
      refine gg_name 11 scCf.nd ?_
      refine bb_cons (ss_par 12 13 rfl scCf.nd (by decide) (aa_cons (ee_callp C2 hr (aa_cons (ee_name 4 rfl (aa_cons (ee_name 10 rfl (aa_cons (ee_name 11 rfl (aa_nil ⟨g, x, c, rfl, hx, aa_cons (ee_callp C2 hr (aa_cons (ee_name 5 rfl (aa_cons (ee_dget hu (ee_name 6 rfl (ee_name 10 rfl ⟨pD y, DG.t' (.own (i := 0) rfl) (dk x) (by rw [getP_kv dk_inj', hax]; rfl), aa_cons (ee_name 11 rfl (aa_nil ⟨h, y, c, rfl, hy, aa_nil ⟨_, _, rfl, ?_⟩⟩))⟩)))))))⟩))))))))))
      refine bb_cons (ss_set 14 (ee_adds (ee_dget hu (ee_name 7 rfl (ee_name 10 rfl ⟨pS wx, DG.t' (.own (i := 1) rfl) (dk x) (by rw [getP_kv dk_inj', hw1]; rfl), wx, rfl, ee_name 11 rfl ⟨_, rfl, ?_, ?_⟩⟩)))) scCf.nd)
      · show wx.length + 1 ≤ _
        rw [PySem.sizeLine_eq]
        omega
      generalize hone' : stp g x c = one at *
      generalize htwo' : stp h y c = two at *
      generalize hw2' : wx ++ (⟨#[c]⟩ : Str) = word at *
      have step : ∀ im'' ws'', CI g h d e im'' ws'' n → n < im''.length → im''[n]? = some (x, y) → (∀ c ∈ [110, 111].take j, asc im'' (stp g x c) = some (stp h y c)) → asc im'' one = some two →
          ∃ im' ws' y11 y12 y13 y14, st (some (dat (tD x))) (some (dat (.str ⟨#[c]⟩))) (some (dat (tD one))) (some (dat (tD two))) (some (dat (.str word))) = st (some (dat (tD x))) y11 y12 y13 y14 ∧ Ms im'' ws'' ((im''.map (·.1)).drop (n + 1)) = Ms im' ws' ((im'.map (·.1)).drop (n + 1)) ∧ CI g h d e im' ws' n ∧ n < im'.length ∧ im'[n]? = some (x, y) ∧ ∀ c ∈ [110, 111].take (j + 1), asc im' (stp g x c) = some (stp h y c) := by
        intro im'' ws'' k1 k2 k3 k4 k5
        refine ⟨im'', ws'', _, _, _, _, rfl, rfl, k1, k2, k3, fun c' hc' => ?_⟩
        rw [htk] at hc'
        rcases List.mem_append.mp hc' with q | q
        · exact k4 c' q
        · rw [List.mem_singleton.mp q, hone', htwo']
          exact k5
      cases ea : asc im' one with
      | some y1 =>
        obtain ⟨v1, hv1, hv2, hv3, hv4, hv5⟩ := ci'.word (asc_mem ea)
        refine bb_cons (ss_if (tt_w (wt_and (tt_cmp (cc_dni hu (ee_name 12 rfl (ee_name 6 rfl ⟨some (pD y1), DG.t' (.own (i := 0) rfl) (dk one) (by rw [getP_kv dk_inj', ea]; rfl), false, rfl, fun _ => ⟨(fun z => nomatch z), fun _ => ?_⟩, (fun z => nomatch z)⟩)))))))
        refine bb_cons (ss_if (tt_cmp (cc_neD (α := Dart) hu (by decide) (ee_get hu (ee_name 6 rfl ⟨.inr ⟨_, .own (i := 0) rfl⟩, ee_name 12 rfl ⟨some (pD y1), DG.t' (.own (i := 0) rfl) (dk one) (by rw [getP_kv dk_inj', ea]; rfl), ee_name 13 rfl ⟨y1, two, .inl rfl, .inl rfl, _, rfl, fun z => ?_, fun z => ?_⟩⟩⟩)))))
        · have hne : y1 ≠ two := by simpa using z
          refine bb_cons (ss_ret (ee_tupd (aa_cons (ee_gstr m2 (aa_cons (ee_if (tt_cmp (cc_din hu (ee_name 12 rfl (ee_name 6 rfl ⟨some (pD y1), DG.t' (.own (i := 0) rfl) (dk one) (by rw [getP_kv dk_inj', ea]; rfl), true, rfl, fun _ => ee_dget hu (ee_name 7 rfl (ee_name 12 rfl ⟨pS v1, DG.t' (.own (i := 1) rfl) (dk one) (by rw [getP_kv dk_inj', hv1]; rfl), aa_cons (ee_name 14 rfl (aa_nil ⟨[.str "differ", .str v1, .str word], rfl, by simp, hdf v1 word hv2 hwW (by omega) (by omega) ?_⟩))⟩)), (fun z => nomatch z)⟩))))))))))
          unfold Dst
          rw [hv4, hv5, hrun1, hrun2, decide_eq_true rfl, decide_eq_false hne]
          decide
        · have heq : y1 = two := by simpa using z
          exact bb_nil (bb_nil (bb_nil (step im' ws' ci' hn' hxy' hcl (heq ▸ ea))))
      | none =>
        have hnk : one ∉ im'.map (·.1) := asc_none.mp ea
        cases eb : asc (swp im') two with
        | some x1 =>
          have hx1 := (asc_swp ci'.vd).mp eb
          obtain ⟨v1, hv1, hv2, hv3, hv4, hv5⟩ := ci'.word hx1
          have hne : x1 ≠ one := fun z => hnk (List.mem_map.mpr ⟨_, hx1, z⟩)
          refine bb_cons (ss_if (tt_w (wt_and (tt_cmp (cc_dni hu (ee_name 12 rfl (ee_name 6 rfl ⟨none, DG.t' (.own (i := 0) rfl) (dk one) (by rw [getP_kv dk_inj', ea]; rfl), true, rfl, (fun z => nomatch z), fun _ => wt_and1 (tt_cmp (cc_dni hu (ee_name 13 rfl (ee_name 8 rfl ⟨some (pD x1), DG.t' (.own (i := 2) rfl) (dk two) (by rw [getP_kv dk_inj', eb]; rfl), false, rfl, (fun z => nomatch z), fun _ => ?_⟩))))⟩)))))))
          refine bb_cons (ss_if (tt_cmp (cc_neU hu (ee_get hu (ee_name 6 rfl ⟨.inr ⟨_, .own (i := 0) rfl⟩, ee_name 12 rfl ⟨none, DG.t' (.own (i := 0) rfl) (dk one) (by rw [getP_kv dk_inj', ea]; rfl), ee_name 13 rfl ⟨.none, tD two, .inl rfl, .inl rfl, ⟨rfl, by decide⟩, plOk_toD (by decide) two, true, rfl, fun _ => ?_, (fun z => nomatch z)⟩⟩⟩)))))
          refine bb_cons (ss_ret (ee_tupd (aa_cons (ee_gstr m2 (aa_cons (ee_if (tt_cmp (cc_din hu (ee_name 12 rfl (ee_name 6 rfl ⟨none, DG.t' (.own (i := 0) rfl) (dk one) (by rw [getP_kv dk_inj', ea]; rfl), false, rfl, (fun z => nomatch z), fun _ => ee_dget hu (ee_name 7 rfl (ee_dget hu (ee_name 8 rfl (ee_name 13 rfl ⟨pD x1, DG.t' (.own (i := 2) rfl) (dk two) (by rw [getP_kv dk_inj', eb]; rfl), pS v1, DG.t' (.own (i := 1) rfl) (dk x1) (by rw [getP_kv dk_inj', hv1]; rfl), aa_cons (ee_name 14 rfl (aa_nil ⟨[.str "differ", .str v1, .str word], rfl, by simp, hdf v1 word hv2 hwW (by omega) (by omega) ?_⟩))⟩))))⟩))))))))))
          unfold Dst
          rw [hv4, hv5, hrun1, hrun2, decide_eq_false hne, decide_eq_true rfl]
          decide
        | none =>
          have hnv : two ∉ im'.map (·.2) := by
            have := asc_none.mp eb
            rwa [swp_fst] at this
          have ca := ci'.add hone htwo hnk hnv hwW (by omega) hrun1 hrun2
          have hla := ca.len wfg
          rw [List.length_append, List.length_singleton] at hla
          refine bb_cons (ss_if (tt_w (wt_and (tt_cmp (cc_dni hu (ee_name 12 rfl (ee_name 6 rfl ⟨none, DG.t' (.own (i := 0) rfl) (dk one) (by rw [getP_kv dk_inj', ea]; rfl), true, rfl, (fun z => nomatch z), fun _ => wt_and1 (tt_cmp (cc_dni hu (ee_name 13 rfl (ee_name 8 rfl ⟨none, DG.t' (.own (i := 2) rfl) (dk two) (by rw [getP_kv dk_inj', eb]; rfl), true, rfl, fun _ => ?_, (fun z => nomatch z)⟩))))⟩)))))))
          refine bb_cons (ss_asg [] (ee_tup (aa_cons (ee_name 13 rfl (aa_cons (ee_name 14 rfl (aa_cons (ee_name 12 rfl (aa_nil ⟨by simp, ?_⟩)))))))))
          refine gg_tup rfl (ggs_cons (gg_putt hu (ee_name 6 rfl ⟨a1, rfl, ee_name 12 rfl ⟨0, _, dk one, rfl, rfl, by rw [kv_len]; omega, ?_⟩⟩)))
          refine ggs_cons (gg_putt hu (ee_name 7 rfl ⟨a2, rfl, ee_name 12 rfl ⟨1, _, dk one, rfl, rfl, by rw [kv_len, ci'.len2]; omega, ?_⟩⟩))
          refine ggs_cons (gg_putt hu (ee_name 8 rfl ⟨a3, rfl, ee_name 13 rfl ⟨2, _, dk two, rfl, rfl, by rw [kv_len]; unfold swp; rw [List.length_map]; omega, ggs_nil ?_⟩⟩))
          refine bb_cons (ss_expr (ee_append (ee_name 9 rfl ⟨a4, 3, _, rfl, rfl, ee_name 12 rfl ⟨_, rfl, ?_, bb_nil (bb_nil ?_)⟩⟩)))
          · rw [List.length_map, List.length_map, List.length_drop, List.length_map]
            omega
          · have r1 := step (im' ++ [(one, two)]) (ws' ++ [(one, word)]) ca (by rw [List.length_append]; omega) (by rw [List.getElem?_append_left hn']; exact hxy') (fun c' hc' => by rw [asc_app, hcl c' hc']; rfl) (by rw [asc_app, ea, asc_cons, if_pos rfl]; rfl)
            have e1 := putP_new (kf := dk) (pf := pD) dk_inj' two hnk
            have e2 := putP_new (kf := dk) (pf := pS) dk_inj' (l := ws') (x := one) word (by rw [ci'.wk]; exact hnk)
            have e3 := putP_new (kf := dk) (pf := pD) dk_inj' (l := swp im') (x := two) one (by rw [swp_fst]; exact hnv)
            have e4 : swp (im' ++ [(one, two)]) = swp im' ++ [(two, one)] := by
              unfold swp
              rw [List.map_append]
              rfl
            have e5 : ((im' ++ [(one, two)]).map (·.1)).drop (n + 1) = (im'.map (·.1)).drop (n + 1) ++ [one] := by
              rw [List.map_append, List.drop_append_of_le_length (by rw [List.length_map]; omega)]
              rfl
            have eM : Ms (im' ++ [(one, two)]) (ws' ++ [(one, word)]) (((im' ++ [(one, two)]).map (·.1)).drop (n + 1)) = [(a1, .dt (putP (kvP dk pD im') (dk one) (pD two))), (a2, .dt (putP (kvP dk pS ws') (dk one) (pS word))), (a3, .dt (putP (kvP dk pD (swp im')) (dk two) (pD one))), (a4, .lst ((((im'.map (·.1)).drop (n + 1)).map Datum.toD).map dat ++ [dat (tD one)]))] := by
              rw [e5, e1, e2, e3, ← e4]
              simp only [Ms]
              rw [List.map_append, List.map_append]
              rfl
            rw [eM] at r1
            exact r1
    · rintro is M ⟨im', ws', y11, y12, y13, y14, rfl, rfl, ci', hn', hxy', hcl⟩
      rw [List.length_map, no_list] at hcl
      have hl' := ci'.len wfg
      refine bb_nil ⟨m - 1, by omega, im', ws', n + 1, _, y11, y12, y13, y14, rfl, rfl, ⟨ci'.kd, ci'.vd, ci'.sub, ci'.st, ci'.wk, ci'.wd, hn', fun j p hj hp c hc => ?_⟩, by omega⟩
      rcases Nat.lt_or_ge j n with q | q
      · exact ci'.cl j p q hp c hc
      · have ej : j = n := by omega
        subst ej
        rw [hxy'] at hp
        have ep := Option.some.inj hp
        subst ep
        refine hcl c ?_
        rcases hc with e1 | e1 <;> rw [e1] <;> simp
  · have hn : n = im.length := by
      have : (im.map (·.1)).drop n = [] := by simpa using z
      have h1 := List.drop_eq_nil_iff.mp this
      rw [List.length_map] at h1
      have := ci.le
      omega
    subst hn
    have iso := ci.iso wfg wfh cg ch
    refine bb_cons (ss_lock 6 0 rfl rfl ?_)
    refine ss_ret (ee_tupd (aa_cons (ee_gstr m1 (aa_cons (ee_sortL (Datum.toD : Dart × Dart → PyData) hu bt.sorted (aa_cons (ee_mapD nmCf (defScope (tp 44)) [("one", 12)] im (fun p => dat (tD p.1)) (fun p => tD p) rfl scCf.nd (by decide +kernel) (ii_keysF (ee_name 6 rfl ⟨_, rfl, ?_, by omega, fun L p acc hp s H C cl fp => gg_name 12 scCf.nd ⟨rfl, fun s H C cl fp => ee_tupd (aa_cons (ee_name 12 rfl (aa_cons (ee_dget hu (ee_name 6 rfl (ee_name 12 rfl ⟨pD p.2, DG.f' _ (dk p.1) (by rw [getP_kv dk_inj', asc_of ci.kd (show (p.1, p.2) ∈ im from hp)]; rfl), aa_nil ⟨[tD p.1, tD p.2], rfl, by simp, rfl, rfl⟩⟩))))))⟩, aa_nil ⟨_, im, rfl, .ds _, srt_pair (by decide) (by omega), aa_nil ⟨[.str "match", tD (srt im)], rfl, by simp, hm _ iso⟩⟩⟩)))))))))
    unfold kvP
    rw [List.map_map]
    rfl
end
end Q9
namespace Q9
open PySem L2
open PySem.W (Datum DatumOrd minOf)
theorem ggs_star {X : Cx} {B : Bs} {is : Is} {M : MS} {vs : List Nat} {e : Expr} {p : Pos} {ts : List Expr} {ps : List Pr} {GPost : Is → MS → Prop} (h : GGs X B vs (e :: ts) ps is M GPost) (eq : (assignEach (.Starred e p :: ts) X.env).map (·.2) = (assignEach (e :: ts) X.env).map (·.2) := by rfl) : GGs X B vs (.Starred e p :: ts) ps is M GPost := fun σ G H K ws hp Q k pins s us I r => by
  have := h σ G H K ws hp Q k pins s us I r
  rw [eq]
  exact this
theorem atI_zero {α : Type} {xs : List α} {v : α} (h : xs[0]? = some v) : atI xs 0 = some v := atI_nat (j := 0) h
theorem mem_dartsOf {g : Gr} (wf : WF g) {d : Dart} : d ∈ dartsOf g ↔ d ∈ darts g := by
  have he : ∀ e : Str, e ∈ edgesRaw g ↔ (e, 0) ∈ darts g := fun e => by
    unfold edgesRaw
    rw [List.mem_flatMap]
    constructor
    · rintro ⟨v, hv, h⟩
      obtain ⟨x, hx, e1⟩ := List.mem_map.mp h
      obtain ⟨h1, h2⟩ := List.mem_filter.mp hx
      have h3 : x.2 = 0 := of_decide_eq_true h2
      have : x = (e, 0) := Prod.ext e1 h3
      exact this ▸ darts_mem hv h1
    · intro h
      obtain ⟨v, hv, h1⟩ := row_of h
      exact ⟨v, hv, List.mem_map.mpr ⟨(e, 0), List.mem_filter.mpr ⟨h1, rfl⟩, rfl⟩⟩
  unfold dartsOf
  rw [List.mem_flatMap]
  constructor
  · rintro ⟨e, h, hd⟩
    have h0 := (he e).mp (mem_srt.mp h)
    rcases List.mem_cons.mp hd with z | z
    · rw [z]; exact h0
    · rw [List.mem_singleton.mp z]
      have := wf.op _ h0
      exact this
  · intro h
    have h01 := (wf.dart d h).2
    have h0 : (d.1, (0 : Int)) ∈ darts g := by
      rcases h01 with z | z
      · exact (Prod.ext rfl z.symm : (d.1, (0 : Int)) = d) ▸ h
      · have := wf.op d h
        have e1 : opp d = (d.1, 0) := by unfold opp; rw [z]; rfl
        rwa [e1] at this
    refine ⟨d.1, mem_srt.mpr ((he _).mpr h0), ?_⟩
    rcases h01 with z | z
    · exact List.mem_cons.mpr (.inl (Prod.ext rfl z))
    · exact List.mem_cons.mpr (.inr (List.mem_singleton.mpr (Prod.ext rfl z)))
def rowD (r : Dart × Str × Str) : PyData := .tuple [tD r.1, .str r.2.1, .str r.2.2]
/-- what a row of words tells -/
def RowOk (g h : Gr) (d : Dart) (r : Dart × Str × Str) : Prop := isW r.2.1 ∧ isW r.2.2 ∧ r.2.1.length ≤ 300 ∧ r.2.2.length ≤ 300 ∧ Dst g h d r.1 r.2.1 r.2.2
section
variable {P : Program} {w : World} {K : PySem.W.Frag} {mg : Str → Option Value} {base : Heap} {k : Nat} {C : Addr}
abbrev nmFi : List Str := ["graph", "other", "darts", "other_darts", "rows", "other_dart", "answer", "details"]
theorem scFi : FnScope nmFi ["graph", "other"] (defScope (tp 52)) := ⟨rfl, rfl, rfl, by decide +kernel, rfl, by decide +kernel, by decide +kernel⟩
def dIso (x y : PyData) : PyData := .tuple [.str "isomorphic", x, y]
def dDif (rows : List (Dart × Str × Str)) : PyData := .tuple [.str "different", .list (rows.map rowD)]
/-- the answers of find_isomorphism -/
def FiAns (g h : Gr) (a : PyData) : Prop :=
  (dartsOf g = [] ∧ dartsOf h = [] ∧ a = dIso .none .none) ∨
  (∃ d0 r pre e post, dartsOf g = d0 :: r ∧ dartsOf h = pre ++ e :: post ∧ (∀ x ∈ pre, ∃ u v, Dst g h d0 x u v) ∧ (∃ l, IsoAt g h d0 e l) ∧ a = dIso (tD d0) (tD e)) ∨
  (∃ rows, a = dDif rows ∧ ((∃ d0 r, dartsOf g = d0 :: r ∧ rows.map (·.1) = dartsOf h ∧ ∀ r ∈ rows, RowOk g h d0 r) ∨ (dartsOf g = [] ∧ dartsOf h ≠ [] ∧ rows = [])))
def spFi : List Pr → (Pr → Prop) → Prop := fun ps post => ∃ g h : Gr, ps = [dat (tD g), dat (tD h)] ∧ WF g ∧ WF h ∧ Conn g ∧ Conn h ∧ g ≠ [] ∧ h ≠ [] ∧ ∀ a, FiAns g h a → post (dat a)
theorem cal_fi (bt : Bt mg) (t : Top K mg "find_isomorphism" (tp 52) ["graph", "other"]) (C1 : Cal P w K mg base k "check_connected" ["graph", "argument"] (pur spCc)) (C2 : Cal P w K mg base k "darts_of" ["graph"] (pur spDo)) (C3 : Cal P w K mg base k "compare_from" ["graph", "dart", "other", "other_dart"] (pur spCf)) : Cal P w K mg base (k + 1) "find_isomorphism" ["graph", "other"] (pur spFi) := by
  refine cal_pur t scFi (fun prs post ⟨g, h, e0, _⟩ => by rw [e0]; rfl) fun f cdv A outer s H E B hS hr prs post ⟨g, h, e0, wfg, wfh, cg, ch, ng, nh, hp⟩ => ?_
  subst e0
  obtain ⟨t1, m1⟩ := bt.iso
  obtain ⟨t2, m2⟩ := bt.dif
  obtain ⟨t3, m3⟩ := bt.differ
  have hu := hr.units
  refine bb_cons (ss_expr (ee_callp C1 hr (aa_cons (ee_name 0 rfl (aa_cons (ee_str (aa_nil ⟨g, _, rfl, wfg, cg, ng, ?_⟩)))))))
  refine bb_cons (ss_expr (ee_callp C1 hr (aa_cons (ee_name 1 rfl (aa_cons (ee_str (aa_nil ⟨h, _, rfl, wfh, ch, nh, ?_⟩)))))))
  refine bb_cons (ss_par 2 3 rfl scFi.nd (by decide) (aa_cons (ee_callp C2 hr (aa_cons (ee_name 0 rfl (aa_nil ⟨g, rfl, wfg, aa_cons (ee_callp C2 hr (aa_cons (ee_name 1 rfl (aa_nil ⟨h, rfl, wfh, aa_nil ⟨_, _, rfl, ?_⟩⟩))))⟩))))))
  have lh : (dartsOf h).length ≤ 240 := by
    have h1 := edges_len wfh
    unfold dartsOf
    have : ∀ l : List Str, (l.flatMap fun e => [((e, 0) : Dart), (e, 1)]).length = 2 * l.length := by
      intro l
      induction l with
      | nil => rfl
      | cons x l ih => rw [List.flatMap_cons, List.length_append, ih, List.length_cons]; simp; omega
    rw [this, srt_len]
    omega
  -- the rest, once the first test has failed
  have rest : ¬ (dartsOf g = [] ∧ dartsOf h = []) → BB (cxOf CX0 P w K mg base nmFi "find_isomorphism" (defScope (tp 52)) f cdv A outer s H E).nox B ((defBody (tp 52)).drop 4) [some (dat (tD g)), some (dat (tD h)), some (dat (tD (dartsOf g))), some (dat (tD (dartsOf h))), none, none, none, none] [] (retP post) := fun hne => by
    refine bb_cons (ss_set 4 (ee_lstm (aa_nil ⟨by simp, fun a => ?_⟩)) scFi.nd)
    refine bb_cons (ss_for [5] rfl .never (ii_lstd (ee_name 3 rfl ⟨(dartsOf h).map Datum.toD, rfl, fun i is M => ∃ x y z rows, is = [some (dat (tD g)), some (dat (tD h)), some (dat (tD (dartsOf g))), some (dat (tD (dartsOf h))), some (raw (.ref a)), x, y, z] ∧ M = [(a, .lst ((rows.map rowD).map dat))] ∧ ((∃ d0 r, dartsOf g = d0 :: r ∧ rows.map (·.1) = (dartsOf h).take i ∧ ∀ r ∈ rows, RowOk g h d0 r) ∨ (dartsOf g = [] ∧ rows = [])), ⟨none, none, none, [], rfl, rfl, ?_⟩, ?_, ?_⟩)))
    · cases eg : dartsOf g with
      | nil => exact .inr ⟨rfl, rfl⟩
      | cons d0 r => exact .inl ⟨d0, r, rfl, rfl, fun _ z => by cases z⟩
    · rintro i p is M hget ⟨x, y, z, rows, rfl, rfl, hrow⟩
      rw [List.getElem?_map, List.getElem?_map] at hget
      obtain ⟨dd, hdd, rfl⟩ := Option.map_eq_some_iff.mp hget
      obtain ⟨e, he, rfl⟩ := Option.map_eq_some_iff.mp hdd
      have hem := (mem_dartsOf wfh).mp (List.mem_of_getElem? he)
      refine gg_name 5 scFi.nd ?_
      rcases hrow with ⟨d0, r, eg, hr1, hr2⟩ | ⟨eg, hr1⟩
      · have hdm : d0 ∈ darts g := (mem_dartsOf wfg).mp (by rw [eg]; exact List.mem_cons_self)
        refine bb_cons (ss_if (tt_cmp (cc_neD (α := List Dart) hu (by decide) (ee_name 2 rfl (ee_lstd (aa_nil ⟨[], rfl, by simp, dartsOf g, [], .inl rfl, .inl rfl, true, by rw [eg]; rfl, fun _ => ?_, (fun z => nomatch z)⟩))))))
        refine bb_cons (ss_asg [6, 7] (ee_callp C3 hr (aa_cons (ee_name 0 rfl (aa_cons (ee_ixl (ee_name 2 rfl (ee_int ⟨_, 0, dat (tD d0), .ds _, rfl, atI_zero (by rw [eg]; rfl), aa_cons (ee_name 1 rfl (aa_cons (ee_name 5 rfl (aa_nil ⟨g, h, d0, e, rfl, wfg, wfh, cg, ch, hdm, hem, fun l iso => ?_, fun u v hu1 hv1 hu2 hv2 dst => ?_⟩))))⟩))))))))
        · refine gg_star rfl (by simp) (ggs_cons (gg_name 6 scFi.nd (ggs_star (ggs_cons (gg_name 7 scFi.nd (ggs_nil ?_))))))
          refine bb_cons (ss_if (tt_cmp (cc_neD (α := Str) hu (by decide) (ee_name 6 rfl (ee_gstr m3 ⟨"match", "differ", .inl rfl, .inl rfl, _, rfl, fun _ => ?_, fun z => absurd z (by decide +kernel)⟩)))))
          refine bb_cons (ss_ret (ee_tupd (aa_cons (ee_gstr m1 (aa_cons (ee_ixl (ee_name 2 rfl (ee_int ⟨_, 0, dat (tD d0), .ds _, rfl, atI_zero (by rw [eg]; rfl), aa_cons (ee_name 5 rfl (aa_nil ⟨[.str "isomorphic", tD d0, tD e], rfl, by simp, hp _ (.inr (.inl ⟨d0, r, (dartsOf h).take i, e, (dartsOf h).drop (i + 1), eg, split_at he, fun x hx => ?_, ⟨l, iso⟩, rfl⟩))⟩))⟩))))))))
          rw [← hr1] at hx
          obtain ⟨q, hq, rfl⟩ := List.mem_map.mp hx
          exact ⟨_, _, (hr2 q hq).2.2.2.2⟩
        · refine gg_star rfl (by simp) (ggs_cons (gg_name 6 scFi.nd (ggs_star (ggs_cons (gg_name 7 scFi.nd (ggs_nil ?_))))))
          refine bb_cons (ss_if (tt_cmp (cc_neD (α := Str) hu (by decide) (ee_name 6 rfl (ee_gstr m3 ⟨"differ", "differ", .inl rfl, .inl rfl, _, rfl, fun z => absurd z (by decide +kernel), fun _ => bb_nil ?_⟩)))))
          have hrl : rows.length ≤ 240 := by
            have := congrArg List.length hr1
            rw [List.length_map, List.length_take] at this
            omega
          refine bb_cons (ss_expr (ee_append (ee_name 4 rfl ⟨a, 0, _, rfl, rfl, ee_tupd (aa_cons (ee_name 5 rfl (aa_cons (ee_ixl (ee_name 7 rfl (ee_int ⟨_, 0, dat (.str u), .ds _, rfl, rfl, aa_cons (ee_ixl (ee_name 7 rfl (ee_int ⟨_, 1, dat (.str v), .ds _, rfl, rfl, aa_nil ⟨[tD e, .str u, .str v], rfl, by simp, _, rfl, by rw [List.length_map, List.length_map]; omega, bb_nil (bb_nil ⟨_, _, _, rows ++ [(e, u, v)], rfl, ?_, .inl ⟨d0, r, eg, ?_, ?_⟩⟩)⟩⟩)))⟩))))))⟩)))
          · rw [List.map_append, List.map_append]
            rfl
          · rw [List.map_append, hr1, take_at he]
            rfl
          · intro q hq
            rcases List.mem_append.mp hq with z | z
            · exact hr2 q z
            · rw [List.mem_singleton.mp z]
              exact ⟨hu1, hv1, hu2, hv2, dst⟩
      · refine bb_cons (ss_if (tt_cmp (cc_neD (α := List Dart) hu (by decide) (ee_name 2 rfl (ee_lstd (aa_nil ⟨[], rfl, by simp, dartsOf g, [], .inl rfl, .inl rfl, false, by rw [eg]; rfl, (fun z => nomatch z), fun _ => bb_nil (bb_nil ⟨_, _, _, rows, rfl, rfl, .inr ⟨eg, hr1⟩⟩)⟩))))))
    · rintro is M ⟨x, y, z, rows, rfl, rfl, hrow⟩
      rw [List.length_map, List.length_map, List.take_length] at hrow
      refine bb_cons (ss_ret (ee_tupd (aa_cons (ee_gstr m2 (aa_cons (ee_frzd hS (ee_name 4 rfl ⟨a, 0, rows.map rowD, rfl, rfl, aa_nil ⟨[.str "different", .list (rows.map rowD)], rfl, by simp, hp _ (.inr (.inr ⟨rows, rfl, ?_⟩))⟩⟩)))))))
      rcases hrow with z | ⟨z1, z2⟩
      · exact .inl z
      · exact .inr ⟨z1, fun z => hne ⟨z1, z⟩, z2⟩
  refine bb_cons (ss_if (tt_w (wt_and (tt_cmp (cc_eqD (α := List Dart) hu (by decide) (ee_name 2 rfl (ee_lstd (aa_nil ⟨[], rfl, by simp, dartsOf g, [], .inl rfl, .inl rfl, _, rfl, fun z => ⟨(fun z => nomatch z), fun _ => bb_nil (rest fun q => ?_)⟩, fun z => wt_and1 (tt_cmp (cc_eqD (α := List Dart) hu (by decide) (ee_name 3 rfl (ee_lstd (aa_nil ⟨[], rfl, by simp, dartsOf h, [], .inl rfl, .inl rfl, _, rfl, fun z2 => ?_, fun z2 => bb_nil (rest fun q => ?_)⟩)))))⟩))))))))
  · have := of_decide_eq_false z
    exact this q.1
  · exact bb_cons (ss_ret (ee_tupd (aa_cons (ee_gstr m1 (aa_cons (ee_non (aa_cons (ee_non (aa_nil ⟨[.str "isomorphic", .none, .none], rfl, by simp, hp _ (.inl ⟨of_decide_eq_true z, of_decide_eq_true z2, rfl⟩)⟩)))))))))
  · have := of_decide_eq_false z2
    exact this q.2
end
end Q9
namespace Q9
open PySem L2
open PySem.W (Datum DatumOrd minOf)
/-- the name that a renaming gives -/
def nw (l : List (Str × Str)) (x : Str) : Str := (asc l x).getD x
structure RenOk (l : List (Str × Str)) (ns : List Str) : Prop where
  len : l.length = ns.length
  keys : ∀ n ∈ ns, n ∈ l.map (·.1)
  isn : ∀ n ∈ ns, isNameB (nw l n) = true
  nd : (ns.map (nw l)).Nodup
theorem RenOk.asc {l : List (Str × Str)} {ns : List Str} (r : RenOk l ns) {n : Str} (h : n ∈ ns) : Q9.asc l n = some (nw l n) := by
  obtain ⟨y, e⟩ := asc_some (r.keys n h)
  unfold nw
  rw [e]
  rfl
theorem RenOk.srt {l : List (Str × Str)} {ns : List Str} (r : RenOk l ns) : RenOk l (srt ns) :=
  ⟨by rw [srt_len]; exact r.len, fun n h => r.keys n (mem_srt.mp h), fun n h => r.isn n (mem_srt.mp h), ((srt_perm ns).map _).nodup_iff.mpr r.nd⟩
def renG (g : Gr) (vl el : List (Str × Str)) : Gr := g.map fun v => (nw vl v.1, v.2.map fun d => (nw el d.1, d.2))
section
variable {P : Program} {w : World} {K : PySem.W.Frag} {mg : Str → Option Value} {base : Heap} {k : Nat} {C : Addr}
theorem scIr : FnScope ["value", "names", "name"] ["value", "names"] (defScope (tp 53)) := ⟨rfl, rfl, rfl, by decide +kernel, rfl, by decide +kernel, by decide +kernel⟩
def spIr : List Pr → (Pr → Prop) → Prop := fun ps post => ∃ (l : List (Str × Str)) (ns : List Str), ps = [dkP (kvP sk pS l), dat (tD ns)] ∧ RenOk l ns ∧ ns.length ≤ 500 ∧ post (dat (.bool true))
theorem cal_ir (bt : Bt mg) (t : Top K mg "is_renaming" (tp 53) ["value", "names"]) (C1 : Cal P w K mg base k "is_name" ["value"] (pur spIsn)) : Cal P w K mg base (k + 1) "is_renaming" ["value", "names"] (pur spIr) := by
  refine cal_pur t scIr (fun prs post ⟨g, e, e0, _⟩ => by rw [e0]; rfl) fun f cdv A outer s H E B hS hr prs post ⟨l, ns, e0, ro, hl, hp⟩ => ?_
  subst e0
  have hu := hr.units
  have ln : (ns.map (Datum.toD : Str → PyData)).map dat = ns.map fun n => dat (.str n) := (dats_map _ _).symm
  have fls : ∀ xs : List Str, LsP ([] : MS) (dat (.list (xs.map fun _ => PyData.bool false))) ((xs.map fun _ => false).map fun b => dat (.bool b)) := fun xs => by
    have e : (xs.map (fun _ => false)).map (fun b => dat (.bool b)) = (xs.map fun _ => PyData.bool false).map dat := by rw [List.map_map, List.map_map]; rfl
    rw [e]
    exact .ds _
  have fl0 : ∀ xs : List Str, (xs.map fun _ => false).any id = false := fun xs => by simp
  refine bb_cons (ss_if (tt_w (wt_or (tt_not (tt_val (ee_isi (T := "dict") bt.isinstance bt.dict (by decide +kernel) (ee_name 0 rfl ⟨"dict", true, .dk _, by decide +kernel, true, rfl, (fun z => nomatch z), fun _ => ?_⟩)))))))
  refine wt_or (tt_cmp (cc_neD (α := Int) hu (by decide) (ee_lenk bt.len (aa_cons (ee_name 0 rfl (aa_nil ⟨_, _, rfl, .fix _, ee_len bt.len (aa_cons (ee_name 1 rfl (aa_nil ⟨_, _, rfl, .ls (.ds (ns.map Datum.toD)), _, _, .inl rfl, .inl rfl, false, ?_, (fun z => nomatch z), fun _ => ?_⟩)))⟩))))))
  · rw [kv_len, List.length_map, List.length_map, ro.len]
    simp
  refine wt_or1 (tt_val (ee_any rfl bt.any (aa_cons (ee_mapD ["value", "names", "name"] (defScope (tp 53)) [("name", 2)] ns (fun n => dat (.str n)) (fun _ => .bool false) rfl scIr.nd (by decide +kernel) (ii_lstd (ee_name 1 rfl ⟨ns.map Datum.toD, rfl, ln, by omega, fun L n acc hn s H C cl fp => gg_name 2 scIr.nd ⟨rfl, fun s H C cl fp => ee_cmp (cc_dni hu (ee_name 2 rfl (ee_name 0 rfl ⟨_, DG.k (.fix _) (sk n), rfl, ?_⟩)))⟩, aa_nil ⟨_, _, rfl, fls ns, false, ?_, (fun z => nomatch z), fun _ => bb_nil ?_⟩⟩))))))
  · rw [getP_kv sk_inj, ro.asc hn]
    rfl
  · rw [fl0]
  refine bb_cons (ss_if (tt_val (ee_any rfl bt.any (aa_cons (ee_mapD ["value", "names", "name"] (defScope (tp 53)) [("name", 2)] ns (fun n => dat (.str n)) (fun _ => .bool false) rfl scIr.nd (by decide +kernel) (ii_lstd (ee_name 1 rfl ⟨ns.map Datum.toD, rfl, ln, by omega, fun L n acc hn s H C cl fp => gg_name 2 scIr.nd ⟨rfl, fun s H C cl fp => ?_⟩, aa_nil ⟨_, _, rfl, fls ns, false, ?_, (fun z => nomatch z), fun _ => bb_nil ?_⟩⟩)))))))
  · have nl := name_len (ro.isn n hn)
    refine ee_not (ee_callp C1 hr (aa_cons (ee_dget hu (ee_name 0 rfl (ee_name 2 rfl ⟨pS (nw l n), DG.k' (.fix _) (sk n) (by rw [getP_kv sk_inj, ro.asc hn]; rfl), aa_nil ⟨nw l n, rfl, by omega, isNameB (nw l n), rfl, rfl, ?_⟩⟩)))))
    rw [ro.isn n hn]
    rfl
  · rw [fl0]
  refine bb_cons (ss_ret (ee_cmp (cc_eqD (α := Int) hu (by decide) (ee_lenset ["value", "names", "name"] (defScope (tp 53)) [("name", 2)] ns (fun n => dat (.str n)) (nw l) rfl scIr.nd (by decide +kernel) bt.len (ii_lstd (ee_name 1 rfl ⟨ns.map Datum.toD, rfl, ln, by omega, fun L n hn M0 hM0 s H C cl fp => gg_name 2 scIr.nd ⟨rfl, fun s H C cl fp => ee_dget hu (ee_name 0 rfl (ee_name 2 rfl ⟨pS (nw l n), DG.k' (.fix _) (sk n) (by rw [getP_kv sk_inj, ro.asc hn]; rfl), rfl, rfl⟩))⟩, fun m hm => ee_len bt.len (aa_cons (ee_name 1 rfl (aa_nil ⟨_, _, rfl, .ls (.ds (ns.map Datum.toD)), _, _, .inl rfl, .inl rfl, ?_⟩)))⟩))))))
  rw [List.length_map, List.length_map, hm.mpr ro.nd]
  show post (dat (.bool (decide ((ns.length : Int) = (ns.length : Int)))))
  rw [decide_eq_true rfl]
  exact hp
theorem scRn : FnScope ["graph", "vertices", "edges", "renamed", "vertex", "rotation", "edge", "side"] ["graph", "vertices", "edges"] (defScope (tp 54)) := ⟨rfl, rfl, rfl, by decide +kernel, rfl, by decide +kernel, by decide +kernel⟩
def spRn : List Pr → (Pr → Prop) → Prop := fun ps post => ∃ (g : Gr) (vl el : List (Str × Str)), ps = [dat (tD g), dkP (kvP sk pS vl), dkP (kvP sk pS el)] ∧ WF g ∧ RenOk vl (g.map (·.1)) ∧ RenOk el (edgesRaw g) ∧ WF (renG g vl el) ∧ (∀ d ∈ darts g, d.1 ∈ edgesRaw g) ∧ post (dat (tD (normT (renG g vl el))))
theorem cal_rn (bt : Bt mg) (t : Top K mg "rename" (tp 54) ["graph", "vertices", "edges"]) (C1 : Cal P w K mg base k "is_renaming" ["value", "names"] (pur spIr)) (C2 : Cal P w K mg base k "vertex_names" ["graph"] (pur spVn)) (C3 : Cal P w K mg base k "edge_names" ["graph"] (pur spEn)) (C4 : Cal P w K mg base k "normalize" ["value"] (pur spNorm)) : Cal P w K mg base (k + 1) "rename" ["graph", "vertices", "edges"] (pur spRn) := by
  refine cal_pur t scRn (fun prs post ⟨g, e, _, e0, _⟩ => by rw [e0]; rfl) fun f cdv A outer s H E B hS hr prs post ⟨g, vl, el, e0, wf, rv, re, wr, hde, hp⟩ => ?_
  subst e0
  have hu := hr.units
  have lv := wf.vs
  have le := edges_len wf
  refine bb_cons (ss_if (tt_not (tt_val (ee_callp C1 hr (aa_cons (ee_name 1 rfl (aa_cons (ee_callp C2 hr (aa_cons (ee_name 0 rfl (aa_nil ⟨g, rfl, by omega, aa_nil ⟨vl, _, rfl, rv.srt, by rw [srt_len, List.length_map]; omega, true, rfl, (fun z => nomatch z), fun _ => bb_nil ?_⟩⟩)))))))))))
  refine bb_cons (ss_if (tt_not (tt_val (ee_callp C1 hr (aa_cons (ee_name 2 rfl (aa_cons (ee_callp C3 hr (aa_cons (ee_name 0 rfl (aa_nil ⟨g, rfl, wf, aa_nil ⟨el, _, rfl, re.srt, by rw [srt_len]; omega, true, rfl, (fun z => nomatch z), fun _ => bb_nil ?_⟩⟩)))))))))))
  refine bb_cons (ss_set 3 (ee_lstm (aa_nil ⟨by simp, fun a => ?_⟩)) scRn.nd)
  refine bb_cons (ss_for [4, 5] rfl .never (ii_lstd (ee_name 0 rfl ⟨g.map Datum.toD, rfl, fun i is M => (∃ x y z u, is = [some (dat (tD g)), some (dkP (kvP sk pS vl)), some (dkP (kvP sk pS el)), some (raw (.ref a)), x, y, z, u]) ∧ M = [(a, .lst (((renG (g.take i) vl el).map Datum.toD).map dat))], ⟨⟨none, none, none, none, rfl⟩, rfl⟩, ?_, ?_⟩)))
  · rintro i p is M hget ⟨⟨x, y, z, u, rfl⟩, rfl⟩
    rw [List.getElem?_map, List.getElem?_map] at hget
    obtain ⟨dd, hdd, rfl⟩ := Option.map_eq_some_iff.mp hget
    obtain ⟨v, hv, rfl⟩ := Option.map_eq_some_iff.mp hdd
    have hm := List.mem_of_getElem? hv
    refine gg_tupd (ds := [.str v.1, .list (v.2.map Datum.toD)]) rfl (ggs_cons (gg_name 4 scRn.nd (ggs_cons (gg_name 5 scRn.nd (ggs_nil ?_)))))
    refine bb_cons (ss_expr (ee_append (ee_name 3 rfl ⟨a, 0, _, rfl, rfl, ee_tupd (aa_cons (ee_dget hu (ee_name 1 rfl (ee_name 4 rfl ⟨pS (nw vl v.1), DG.k' (.fix _) (sk v.1) (by rw [getP_kv sk_inj, rv.asc (List.mem_map.mpr ⟨v, hm, rfl⟩)]; rfl), aa_cons (ee_mapD ["graph", "vertices", "edges", "renamed", "vertex", "rotation", "edge", "side"] (defScope (tp 54)) [("edge", 6), ("side", 7)] v.2 (fun d => dat (tD d)) (fun d => tD ((nw el d.1, d.2) : Dart)) rfl scRn.nd (by decide +kernel) (ii_lstd (ee_name 5 rfl ⟨v.2.map Datum.toD, rfl, (dats_map _ _).symm, by have := row_len wf hm; omega, fun L d acc hd s H C cl fp => gg_tupd (ds := [.str d.1, .int d.2]) rfl (ggs_cons (gg_name 6 scRn.nd (ggs_cons (gg_name 7 scRn.nd (ggs_nil ⟨rfl, fun s H C cl fp => ee_tupd (aa_cons (ee_dget hu (ee_name 2 rfl (ee_name 6 rfl ⟨pS (nw el d.1), DG.k' (.fix _) (sk d.1) (by rw [getP_kv sk_inj, re.asc (hde d (darts_mem hm hd))]; rfl), aa_cons (ee_name 7 rfl (aa_nil ⟨[.str (nw el d.1), .int d.2], rfl, by simp, rfl, rfl⟩))⟩))))⟩))))), ?_⟩)))⟩))))⟩)))
    refine aa_nil ⟨[.str (nw vl v.1), .list (v.2.map fun d => tD ((nw el d.1, d.2) : Dart))], rfl, by simp, _, rfl, ?_, bb_nil ⟨⟨_, _, _, _, rfl⟩, ?_⟩⟩
    · unfold renG
      rw [List.length_map, List.length_map, List.length_map, List.length_take]
      omega
    · have e1 : renG (g.take (i + 1)) vl el = renG (g.take i) vl el ++ [(nw vl v.1, v.2.map fun d => (nw el d.1, d.2))] := by
        unfold renG
        rw [take_at hv, List.map_append]
        rfl
      have e2 : tD ((nw vl v.1, v.2.map fun d => (nw el d.1, d.2)) : Str × List Dart) = .tuple [.str (nw vl v.1), .list (v.2.map fun d => tD ((nw el d.1, d.2) : Dart))] := by
        show PyData.tuple [.str (nw vl v.1), .list ((v.2.map fun d => ((nw el d.1, d.2) : Dart)).map Datum.toD)] = _
        rw [List.map_map]
        rfl
      rw [e1, List.map_append, List.map_append, ← e2]
      rfl
  · rintro is M ⟨⟨x, y, z, u, rfl⟩, rfl⟩
    rw [List.length_map, List.length_map, List.take_length]
    exact bb_cons (ss_ret (ee_callp C4 hr (aa_cons (ee_frzd hS (ee_name 3 rfl ⟨a, 0, _, rfl, rfl, aa_nil ⟨renG g vl el, rfl, wr, hp⟩⟩)))))
theorem scIc : FnScope ["graph", "dart", "other", "other_dart", "value", "answer", "meet", "others_meet"] ["graph", "dart", "other", "other_dart", "value"] (defScope (tp 46)) := ⟨rfl, rfl, rfl, by decide +kernel, rfl, by decide +kernel, by decide +kernel⟩
def spIc : List Pr → (Pr → Prop) → Prop := fun ps post => ∃ (g h : Gr) (d e : Dart) (a b : Str), ps = [dat (tD g), dat (tD d), dat (tD h), dat (tD e), dat (dDiffer a b)] ∧ WF g ∧ WF h ∧ Conn g ∧ Conn h ∧ d ∈ darts g ∧ e ∈ darts h ∧ isW a ∧ isW b ∧ a.length ≤ 300 ∧ b.length ≤ 300 ∧ Dst g h d e a b ∧ post (dat (.bool true))
theorem cal_ic (bt : Bt mg) (t : Top K mg "is_comparison" (tp 46) ["graph", "dart", "other", "other_dart", "value"]) (C1 : Cal P w K mg base k "compare_from" ["graph", "dart", "other", "other_dart"] (pur spCf)) (C2 : Cal P w K mg base k "is_word" ["value"] (pur spIw)) (C3 : Cal P w K mg base k "follow" ["graph", "dart", "word"] (pur spFo)) : Cal P w K mg base (k + 1) "is_comparison" ["graph", "dart", "other", "other_dart", "value"] (pur spIc) := by
  refine cal_pur t scIc (fun prs post ⟨g, e, _, _, _, _, e0, _⟩ => by rw [e0]; rfl) fun f cdv A outer s H E B hS hr prs post ⟨g, h, d, e, a, b, e0, wfg, wfh, cg, ch, hd, he, wa, wb, la, lb, dst, hp⟩ => ?_
  subst e0
  have hu := hr.units
  obtain ⟨t3, m3⟩ := bt.differ
  have tv : ∀ {M : MS}, TpP (dat (dDiffer a b)) ([PyData.str "differ", .str a, .str b].map dat) := .ds _
  have rest : ∀ q : PyData, BB (cxOf CX0 P w K mg base ["graph", "dart", "other", "other_dart", "value", "answer", "meet", "others_meet"] "is_comparison" (defScope (tp 46)) f cdv A outer s H E).nox B ((defBody (tp 46)).drop 1) [some (dat (tD g)), some (dat (tD d)), some (dat (tD h)), some (dat (tD e)), some (dat (dDiffer a b)), some (dat q), none, none] [] (retP post) := fun q => by
    refine bb_cons (ss_if (tt_w (wt_or (tt_not (tt_val (ee_isi (T := "tuple") bt.isinstance bt.tuple (by decide +kernel) (ee_name 4 rfl ⟨"tuple", true, .tp (tv (M := [])), by decide +kernel, true, rfl, (fun z => nomatch z), fun _ => ?_⟩)))))))
    refine wt_or1 (tt_cmp (cc_niI (ee_len bt.len (aa_cons (ee_name 4 rfl (aa_nil ⟨_, 3, rfl, .tp (tv (M := [])), ee_tupd (aa_cons (ee_int (aa_cons (ee_int (aa_nil ⟨[.int 2, .int 3], rfl, by simp, 3, [2, 3], rfl, rfl, false, rfl, (fun z => nomatch z), fun _ => bb_nil ?_⟩)))))⟩))))))
    refine bb_cons (ss_if (tt_cmp (cc_eqD (α := Int) hu (by decide) (ee_len bt.len (aa_cons (ee_name 4 rfl (aa_nil ⟨_, 3, rfl, .tp (tv (M := [])), ee_int ⟨3, 2, .inl rfl, .inl rfl, false, rfl, (fun z => nomatch z), fun _ => bb_nil ?_⟩⟩)))))))
    refine bb_cons (ss_if (tt_w (wt_or (tt_cmp (cc_neD (α := Str) hu (by decide) (ee_ixt (ee_name 4 rfl (ee_int ⟨_, 0, dat (.str "differ"), tv (M := []), rfl, rfl, ee_gstr m3 ⟨"differ", "differ", .inl rfl, .inl rfl, _, rfl, fun z => absurd z (by decide +kernel), fun _ => ?_⟩⟩))))))))
    refine wt_or (tt_not (tt_val (ee_callp C2 hr (aa_cons (ee_ixt (ee_name 4 rfl (ee_int ⟨_, 1, dat (.str a), tv (M := []), rfl, rfl, aa_nil ⟨a, rfl, wa, la, true, rfl, (fun z => nomatch z), fun _ => ?_⟩⟩)))))))
    refine wt_or1 (tt_not (tt_val (ee_callp C2 hr (aa_cons (ee_ixt (ee_name 4 rfl (ee_int ⟨_, 2, dat (.str b), tv (M := []), rfl, rfl, aa_nil ⟨b, rfl, wb, lb, true, rfl, (fun z => nomatch z), fun _ => bb_nil ?_⟩⟩)))))))
    refine bb_cons (ss_set 6 (ee_cmp (cc_eqD (α := Dart) hu (by decide) (ee_callp C3 hr (aa_cons (ee_name 0 rfl (aa_cons (ee_name 1 rfl (aa_cons (ee_ixt (ee_name 4 rfl (ee_int ⟨_, 1, dat (.str a), tv (M := []), rfl, rfl, aa_nil ⟨g, d, a, rfl, wfg, hd, wa, la, ee_callp C3 hr (aa_cons (ee_name 0 rfl (aa_cons (ee_name 1 rfl (aa_cons (ee_ixt (ee_name 4 rfl (ee_int ⟨_, 2, dat (.str b), tv (M := []), rfl, rfl, aa_nil ⟨g, d, b, rfl, wfg, hd, wb, lb, _, _, .inl rfl, .inl rfl, ?_⟩⟩))))))))⟩⟩))))))))))) scIc.nd)
    refine bb_cons (ss_set 7 (ee_cmp (cc_eqD (α := Dart) hu (by decide) (ee_callp C3 hr (aa_cons (ee_name 2 rfl (aa_cons (ee_name 3 rfl (aa_cons (ee_ixt (ee_name 4 rfl (ee_int ⟨_, 1, dat (.str a), tv (M := []), rfl, rfl, aa_nil ⟨h, e, a, rfl, wfh, he, wa, la, ee_callp C3 hr (aa_cons (ee_name 2 rfl (aa_cons (ee_name 3 rfl (aa_cons (ee_ixt (ee_name 4 rfl (ee_int ⟨_, 2, dat (.str b), tv (M := []), rfl, rfl, aa_nil ⟨h, e, b, rfl, wfh, he, wb, lb, _, _, .inl rfl, .inl rfl, ?_⟩⟩))))))))⟩⟩))))))))))) scIc.nd)
    refine bb_cons (ss_ret (ee_cmp (cc_neD (α := Bool) hu (by decide) (ee_name 6 rfl (ee_name 7 rfl ⟨_, _, .inl rfl, .inl rfl, ?_⟩)))))
    have e1 : (!decide (decide (run g d a.cps.toList = run g d b.cps.toList) = decide (run h e a.cps.toList = run h e b.cps.toList))) = true := by
      rw [decide_eq_false dst]
      rfl
    show post (dat (.bool (!decide (decide (run g d a.cps.toList = run g d b.cps.toList) = decide (run h e a.cps.toList = run h e b.cps.toList)))))
    rw [e1]
    exact hp
  refine bb_cons (ss_set 5 (ee_callp C1 hr (aa_cons (ee_name 0 rfl (aa_cons (ee_name 1 rfl (aa_cons (ee_name 2 rfl (aa_cons (ee_name 3 rfl (aa_nil ⟨g, h, d, e, rfl, wfg, wfh, cg, ch, hd, he, fun l _ => rest _, fun _ _ _ _ _ _ _ => rest _⟩)))))))))) scIc.nd)
end
end Q9
namespace Q9
open PySem L2
open PySem.W (Datum DatumOrd minOf)
theorem pl_one {G : Hp} {p : Pr} {vs : List V} (h : PL G [p] vs) : ∃ v, vs = [v] ∧ p.p v G := by
  match vs, h with
  | [v], ⟨hq, _⟩ => exact ⟨v, rfl, hq⟩
/-- the script -/
def scrP (K : PySem.W.Frag) (ns : List Int) : Pr := ⟨fun v G => ∃ a, v = .ref a ∧ SqL K G a (ns.map V.int), fun {v G G'} e ⟨a, h1, h2⟩ => ⟨a, h1, by
  rcases h2 with (h | ⟨o, h⟩) | h
  · exact .inl (.inl (e _ _ h))
  · exact .inl (.inr ⟨o, e _ _ h⟩)
  · exact .inr h⟩⟩
section
variable {X : Cx} {B : Bs} {is : Is} {M : MS} {Post : Pr → MS → Prop} {a b e : Expr} {pos : Pos}
theorem ee_lenS {p : Pos} (hm : X.mg "len" = none) (h : AA X B [a] is M fun ps M1 => ∃ ns : List Int, ps = [scrP X.K ns] ∧ Post (dat (.int (ns.length : Nat))) M1) (hg : Gl X "len" := by rfl)
    (he : starEach [a] X.env = (false, eval a X.env) :: starEach [] X.env := by rfl) (hpl : (backTo pos (starEach [] X.env)).any (·.1) = false := by rfl) : EE X B (.Call (.Name "len" p) [a] [] pos) is M Post :=
  ee_B call_len hm PySem.boot_len (AA.imp h fun ps M1 ⟨ns, e1, h1⟩ => fun σ G H K vs hv Q k => by
    subst e1
    obtain ⟨v, evs, hq⟩ := pl_one hv
    subst evs
    obtain ⟨c, ev, hs⟩ := (scrP X.K ns).mono K.kn hq
    subst ev
    · refine ⟨V.ref c, ns.length, rfl, ?_, k _ G H _ M1 K (Same.refl _) (Dq.int _) h1⟩
      exact .inl ⟨ns.map V.int, hs, (List.length_map _).symm⟩) hg (by decide) (by decide) he hpl
theorem ee_ixS (h : EE X B a is M fun p M1 => EE X B b is M1 fun q M2 => ∃ (ns : List Int) (i x : Int), p = scrP X.K ns ∧ q = dat (.int i) ∧ atI ns i = some x ∧ Post (dat (.int x)) M2) (hs : PlainIx b := by exact fun _ _ => rfl) : EE X B (.Subscript a b pos) is M Post := fun σ G H K Q k =>
  EW.of (pe_ix ix_list pe_w pe_w hs) (h σ G H K _ fun v G1 H1 p M1 K1 g1 q1 h1 => h1 σ G1 H1 K1 _ fun w G2 H2 q M2 K2 g2 q2 ⟨ns, i, x, e0, e1, e2, h2⟩ => by
    subst e0; subst e1
    obtain ⟨c, ev, hs⟩ := (scrP X.K ns).mono (g2.trans K2.kn) q1
    refine ⟨c, _, i, .int x, ev, dat_int.mp q2, hs, ?_, k _ G2 H2 _ M2 K2 (g1.trans g2) (Dq.int x) h2⟩
    unfold atI at e2 ⊢
    rw [List.length_map]
    cases q : ixN ns.length i with
    | none => rw [q] at e2; cases e2
    | some j =>
      rw [q] at e2
      show (ns.map V.int)[j]? = some (.int x)
      rw [List.getElem?_map, show ns[j]? = some x from e2]
      rfl)
theorem ee_sliceS {lo hi : Option Expr} {p2 : Pos} (h : EE X B a is M fun p M1 => OO X B lo is M1 fun l M2 => OO X B hi is M2 fun u M3 => ∃ ns : List Int, p = scrP X.K ns ∧ Post (dat (.list ((cutP ns l u).map PyData.int))) M3) : EE X B (.Subscript a (.Slice lo hi none p2) pos) is M Post := fun σ G H K Q k =>
  EW.of (pe_slice sl_list pe_w po_w po_w) (h σ G H K _ fun v G1 H1 p M1 K1 g1 q1 h1 => h1.go K1 fun l G2 H2 M2 K2 g2 h2 => h2.go K2 fun u G3 H3 M3 K3 g3 ⟨ns, e0, h3⟩ => by
    subst e0
    obtain ⟨c, ev, hs⟩ := (scrP X.K ns).mono ((g2.trans g3).trans K3.kn) q1
    refine ⟨c, _, ev, hs, fun q hq => ?_⟩
    obtain ⟨K4, g4⟩ := K3.new (o := .lst (cutV (ns.map V.int) l u)) hq
    have h6 : PL (upd G3 q (.lst (cutV (ns.map V.int) l u))) (((cutP ns l u).map PyData.int).map dat) (cutV (ns.map V.int) l u) := by
      have go : ∀ (is : List Int) (G : Hp), PL G ((is.map PyData.int).map dat) (is.map V.int) := by
        intro is G
        induction is with
        | nil => exact True.intro
        | cons i is ih => exact ⟨Dq.int i, ih⟩
      have := (go ns (upd G3 q (.lst (cutV (ns.map V.int) l u)))).cut l u
      rwa [cutP_map, cutP_map] at this
    exact k _ _ _ _ M3 K4 (((g1.trans g2).trans g3).trans g4) (Dq.lst upd_same (PL.dats.mp h6)) h3)
end
section
variable {P : Program} {w : World} {K : PySem.W.Frag} {mg : Str → Option Value} {base : Heap} {k : Nat} {C : Addr}
theorem scSo : FnScope ["_law_script", "_law_k", "_law_cell", "_law_size", "_law_mixed"] ["_law_script", "_law_k"] (defScope (tp 56)) := ⟨rfl, rfl, rfl, by decide +kernel, rfl, by decide +kernel, by decide +kernel⟩
def spSo (K : PySem.W.Frag) : PT0 := fun ps S U => ∃ (ns : List Int) (i : Nat), ps = [scrP K ns, dat (.int i)] ∧ S = [] ∧ i < 100 ∧ ∀ a, U (raw (.ref a)) [(a, .src)]
theorem cal_so (bt : Bt mg) (t : Top K mg "_law_source" (tp 56) ["_law_script", "_law_k"]) : Cal P w K mg base (k + 1) "_law_source" ["_law_script", "_law_k"] (spSo K) := by
  refine cal_mk t scSo (fun prs S post ⟨ns, i, e, _⟩ => by rw [e]; rfl) fun f cdv A outer s H E B hr prs post ⟨ns, i, e, hS, hi, hp⟩ => ?_
  subst e
  rw [hS]
  have rest : ∀ c : Int, BB (cxOf CX0 P w K mg base ["_law_script", "_law_k", "_law_cell", "_law_size", "_law_mixed"] "_law_source" (defScope (tp 56)) f cdv A outer s H E).nox B ((defBody (tp 56)).drop 2) [some (scrP K ns), some (dat (.int i)), some (dat (.int c)), none, none] [] (retE post []) := fun c => by
    refine bb_cons (ss_set 3 (ee_abs bt.abs (aa_cons (ee_name 2 rfl (aa_nil ⟨c, rfl, ?_⟩)))) scSo.nd)
    have hz : 0 ≤ (if c < 0 then -c else c) := by split <;> omega
    generalize (if c < 0 then -c else c) = z at hz
    refine bb_cons (ss_set 4 (ee_mod (ee_mul (ee_add (ee_add (ee_add (ee_mod (ee_name 3 rfl ⟨z, rfl, ee_int ⟨2147483629, rfl, by decide, ?_⟩⟩))))))) scSo.nd)
    refine ⟨_, rfl, ee_mul (ee_mul (ee_int ⟨7919, rfl, ee_name 1 rfl ⟨i, rfl, .inl ⟨by decide, by decide⟩, ?_⟩⟩))⟩
    refine ⟨_, rfl, ee_name 1 rfl ⟨i, rfl, .inr ⟨by omega, by omega⟩, ?_⟩⟩
    refine ⟨_, rfl, _, rfl, ee_mul (ee_int ⟨31, rfl, ee_name 1 rfl ⟨i, rfl, .inl ⟨by decide, by decide⟩, ?_⟩⟩)⟩
    refine ⟨_, rfl, _, rfl, ee_int ⟨17, rfl, ?_⟩⟩
    refine ⟨_, rfl, ee_int ⟨48271, rfl, .inr ⟨by decide, by decide⟩, _, rfl, ee_int ⟨2147483647, rfl, by decide, ?_⟩⟩⟩
    generalize hy : (z % 2147483629 + 7919 * (i : Int) * i + 31 * i + 17) * 48271 % 2147483647 = y
    have hy0 : 0 ≤ y := by rw [← hy]; exact Int.emod_nonneg _ (by decide)
    have hy1 : y < 2147483647 := by rw [← hy]; exact Int.emod_lt_of_pos _ (by decide)
    refine bb_cons (ss_ret (EE.gh (ee_lstm (aa_cons (ee_mul (ee_name 3 rfl ⟨z, rfl, ee_intb bt.int (aa_cons (ee_cmp (cc_ge (ee_name 3 rfl ⟨z, rfl, ee_pow (ee_int ⟨10, rfl, ee_int ⟨18, rfl, ⟨by decide, by decide, by decide⟩, ?_⟩⟩)⟩))))⟩))))))
    generalize (10 : Int) ^ (18 : Int).toNat = big
    refine ⟨big, rfl, ?_⟩
    obtain ⟨b, hb⟩ : ∃ b, b = decide (big ≤ z) := ⟨_, rfl⟩
    refine aa_nil ⟨b, by rw [hb], _, rfl, ?_, ?_⟩
    · cases b
      · exact .inr ⟨by decide, by decide⟩
      · exact .inr ⟨by decide, by decide⟩
    have hx : 0 ≤ z * (if b = true then 1 else 0) := by
      cases b
      · simp
      · simpa using hz
    generalize z * (if b = true then 1 else 0) = u at hx
    have hv0 : 0 ≤ y * y % 2147483629 := Int.emod_nonneg _ (by decide)
    have hv1 : y * y % 2147483629 < 2147483629 := Int.emod_lt_of_pos _ (by decide)
    refine aa_cons (ee_mod (ee_mul (ee_name 4 rfl ⟨y, rfl, ee_name 4 rfl ⟨y, rfl, .inl ⟨by omega, by omega⟩, _, rfl, ee_int ⟨2147483629, rfl, by decide, ?_⟩⟩⟩)))
    generalize y * y % 2147483629 = v at hv0 hv1
    refine aa_nil ⟨by simp, fun a => ⟨_, _, Gh.src (a := a) (x := u) (y := v) ⟨hx, hv0, by omega⟩ ⟨[], rfl⟩, [(a, .src)], hp a, ?_⟩⟩
    exact ⟨fun x hx => ⟨hx, fun z => by cases z⟩, by simp, fun _ z => by cases z⟩
  refine bb_cons (ss_set 2 (ee_add (ee_mul (ee_int ⟨7, rfl, ee_sum rfl bt.sum (aa_cons (ee_sliceS (ee_name 0 rfl (show OO _ _ _ _ _ _ from ee_int ⟨63, rfl, ns, rfl, aa_nil ⟨_, cutP ns none (some 63), rfl, ?_, _, rfl, .inl ⟨by decide, by decide⟩, _, rfl, ee_name 1 rfl ⟨i, rfl, ?_⟩⟩⟩))))⟩))) scSo.nd)
  · rw [show ((cutP ns none (some 63)).map fun b => dat (.int b)) = ((cutP ns none (some 63)).map PyData.int).map dat from dats_map _ _]
    exact .ds _
  refine bb_cons (ss_if (tt_cmp (cc_lt (ee_name 1 rfl ⟨i, rfl, ee_lenS bt.len (aa_cons (ee_name 0 rfl (aa_nil ⟨ns, rfl, _, rfl, _, rfl, fun z => ?_, fun z => bb_nil (rest _)⟩)))⟩))))
  have hlt : i < ns.length := by
    have := of_decide_eq_true z
    omega
  exact bb_cons (ss_set 2 (ee_ixS (ee_name 0 rfl (ee_name 1 rfl ⟨ns, i, ns[i], rfl, rfl, atI_nat (List.getElem?_eq_getElem hlt), bb_nil (rest _)⟩))) scSo.nd)
theorem scDr : FnScope ["_law_source_here", "_law_count", "_law_found"] ["_law_source_here", "_law_count"] (defScope (tp 57)) := ⟨rfl, rfl, rfl, by decide +kernel, rfl, by decide +kernel, by decide +kernel⟩
def spDr : PT0 := fun ps S U => ∃ (a : Addr) (n : Int), ps = [raw (.ref a), dat (.int n)] ∧ S = [a] ∧ 0 < n ∧ n < 100000 ∧ ∀ r : Int, 0 ≤ r → r < n → U (dat (.int r)) []
theorem cal_dr (t : Top K mg "_law_draw" (tp 57) ["_law_source_here", "_law_count"]) : Cal P w K mg base (k + 1) "_law_draw" ["_law_source_here", "_law_count"] spDr := by
  refine cal_mk t scDr (fun prs S post ⟨a, n, e, _⟩ => by rw [e]; rfl) fun f cdv A outer s H E B hr prs post ⟨a, n, e, hS, h0, h1, hp⟩ => ?_
  subst e
  rw [hS]
  have fin : ∀ r : Int, 0 ≤ r → r < n → ∃ N, post (dat (.int r)) N ∧ (∀ x ∈ N, x ∈ ([(a, MO.src)] : MS) ∧ x.1 ∉ [a]) ∧ (N.map (·.1)).Nodup ∧ ∀ b ∈ [a], (b, MO.src) ∈ ([(a, MO.src)] : MS) := fun r q1 q2 => ret0 (hp r q1 q2) (fun b hb => by rw [List.mem_singleton.mp hb]; exact List.mem_cons_self)
  refine bb_cons (ss_if (tt_cmp (cc_gt (ee_src0 (ee_name 0 rfl ⟨a, 0, rfl, rfl, fun x hx => ⟨x, rfl, ee_int ⟨0, rfl, _, rfl, fun z => ?_, fun z => bb_nil ?_⟩⟩⟩)))))
  · refine bb_cons (ss_set 2 (ee_mod (ee_src0 (ee_name 0 rfl ⟨a, 0, rfl, rfl, fun y hy => ⟨y, rfl, ee_name 1 rfl ⟨n, rfl, h0, ?_⟩⟩⟩))) scDr.nd)
    refine bb_cons (ss_asg [] (ee_fdiv (ee_src0 (ee_name 0 rfl ⟨a, 0, rfl, rfl, fun u hu => ⟨u, rfl, ee_name 1 rfl ⟨n, rfl, ⟨h0, by omega⟩, gg_src 0 (by decide) (ee_name 0 rfl ⟨a, 0, u / n, rfl, rfl, rfl, ?_, ?_⟩)⟩⟩⟩))))
    · rw [if_pos rfl]
      exact Int.ediv_nonneg hu (Int.le_of_lt h0)
    · exact bb_cons (ss_ret (ee_name 2 rfl (fin _ (Int.emod_nonneg _ (by omega)) (Int.emod_lt_of_pos _ h0))))
  · refine bb_cons (ss_asg [] (ee_mod (ee_add (ee_mul (ee_src1 (ee_name 0 rfl ⟨a, 0, rfl, rfl, fun y hy1 hy2 => ⟨y, rfl, ee_int ⟨48271, rfl, .inr ⟨by decide, by decide⟩, _, rfl, ee_int ⟨11, rfl, _, rfl, ee_int ⟨2147483647, rfl, by decide, gg_src 1 (by decide) (ee_name 0 rfl ⟨a, 0, _, rfl, rfl, rfl, ?_, ?_⟩)⟩⟩⟩⟩⟩))))))
    · rw [if_neg (by decide)]
      exact ⟨Int.emod_nonneg _ (by decide), Int.emod_lt_of_pos _ (by decide)⟩
    · refine bb_cons (ss_ret (ee_mod (ee_fdiv (ee_mod (ee_mul (ee_src1 (ee_name 0 rfl ⟨a, 0, rfl, rfl, fun u hu1 hu2 => ⟨u, rfl, ee_src1 (ee_name 0 rfl ⟨a, 0, rfl, rfl, fun v hv1 hv2 => ⟨v, rfl, .inl ⟨by omega, by omega⟩, _, rfl, ee_int ⟨2147483629, rfl, by decide, _, rfl, ee_int ⟨16, rfl, ⟨by decide, by decide⟩, _, rfl, ee_name 1 rfl ⟨n, rfl, h0, fin _ (Int.emod_nonneg _ (by omega)) (Int.emod_lt_of_pos _ h0)⟩⟩⟩⟩⟩)⟩⟩)))))))
end
end Q9
namespace Q9
open PySem L2
open PySem.W (Datum DatumOrd minOf)
/-- what follows each dart, in a dict that stays -/
def nxP (g : Gr) : Pr := dtP (kvP dk pD (nexts g))
section
variable {P : Program} {w : World} {K : PySem.W.Frag} {mg : Str → Option Value} {base : Heap} {k : Nat} {C : Addr}
theorem scLs : FnScope ["_law_next_darts_here", "_law_dart", "_law_letter"] ["_law_next_darts_here", "_law_dart", "_law_letter"] (defScope (tp 64)) := ⟨rfl, rfl, rfl, by decide +kernel, rfl, by decide +kernel, by decide +kernel⟩
def spLs : List Pr → (Pr → Prop) → Prop := fun ps post => ∃ (g : Gr) (d : Dart) (c : Nat), ps = [nxP g, dat (tD d), dat (.str ⟨#[c]⟩)] ∧ d ∈ darts g ∧ post (dat (tD (stp g d c)))
theorem cal_ls (t : Top K mg "_law_step" (tp 64) ["_law_next_darts_here", "_law_dart", "_law_letter"]) : Cal P w K mg base (k + 1) "_law_step" ["_law_next_darts_here", "_law_dart", "_law_letter"] (pur spLs) := by
  refine cal_pur t scLs (fun prs post ⟨g, d, c, e, _⟩ => by rw [e]; rfl) fun f cdv A outer s H E B hS hr prs post ⟨g, d, c, e, hd, hp⟩ => ?_
  subst e
  refine bb_cons (ss_ret (ee_if (tt_cmp (cc_eqD (α := Str) hr.units (by decide) (ee_name 2 rfl (ee_str ⟨⟨#[c]⟩, "n", .inl rfl, .inl rfl, decide (c = 110), by rw [dec_n], fun z => ?_, fun z => ?_⟩))))))
  · refine ee_dget hr.units (ee_name 0 rfl (ee_name 1 rfl ⟨pD (nx g d), DG.t' (.fix _) (dk d) (by rw [getP_kv dk_inj', nx_asc hd]; rfl), ?_⟩))
    unfold stp at hp
    rw [if_pos (of_decide_eq_true z)] at hp
    exact hp
  · refine ee_tupd (aa_cons (ee_ixt (ee_name 1 rfl (ee_int ⟨_, 0, dat (.str d.1), .ds [.str d.1, .int d.2], rfl, rfl, aa_cons (ee_sub (ee_int ⟨1, rfl, ee_ixt (ee_name 1 rfl (ee_int ⟨_, 1, dat (.int d.2), .ds [.str d.1, .int d.2], rfl, rfl, d.2, rfl, aa_nil ⟨[.str d.1, .int (1 - d.2)], rfl, by simp, ?_⟩⟩))⟩))⟩))))
    unfold stp at hp
    rw [if_neg (of_decide_eq_false z)] at hp
    exact hp
theorem scLm : FnScope ["_law_next_darts_here", "_law_dart", "_law_first", "_law_second", "_law_one", "_law_two", "_law_letter"] ["_law_next_darts_here", "_law_dart", "_law_first", "_law_second"] (defScope (tp 72)) := ⟨rfl, rfl, rfl, by decide +kernel, rfl, by decide +kernel, by decide +kernel⟩
def spLm : List Pr → (Pr → Prop) → Prop := fun ps post => ∃ (g : Gr) (d : Dart) (a b : Str), ps = [nxP g, dat (tD d), dat (.str a), dat (.str b)] ∧ WF g ∧ d ∈ darts g ∧ post (dat (.bool (decide (run g d a.cps.toList = run g d b.cps.toList))))
theorem cal_lm (t : Top K mg "_law_meet" (tp 72) ["_law_next_darts_here", "_law_dart", "_law_first", "_law_second"]) (C1 : Cal P w K mg base k "_law_step" ["_law_next_darts_here", "_law_dart", "_law_letter"] (pur spLs)) : Cal P w K mg base (k + 1) "_law_meet" ["_law_next_darts_here", "_law_dart", "_law_first", "_law_second"] (pur spLm) := by
  refine cal_pur t scLm (fun prs post ⟨g, d, a, b, e, _⟩ => by rw [e]; rfl) fun f cdv A outer s H E B hS hr prs post ⟨g, d, a, b, e, wf, hd, hp⟩ => ?_
  subst e
  refine bb_cons (ss_par 4 5 rfl scLm.nd (by decide) (aa_cons (ee_name 1 rfl (aa_cons (ee_name 1 rfl (aa_nil ⟨_, _, rfl, ?_⟩))))))
  refine bb_cons (ss_for [6] rfl .never (ii_str (ee_name 2 rfl ⟨a, rfl, fun i is M => (∃ x, is = [some (nxP g), some (dat (tD d)), some (dat (.str a)), some (dat (.str b)), some (dat (tD (run g d (a.cps.toList.take i)))), some (dat (tD d)), x]) ∧ M = [], ⟨⟨none, rfl⟩, rfl⟩, ?_, ?_⟩)))
  · rintro i p is M hget ⟨⟨x, rfl⟩, rfl⟩
    rw [List.getElem?_map] at hget
    obtain ⟨c, hc, rfl⟩ := Option.map_eq_some_iff.mp hget
    refine gg_name 6 scLm.nd ?_
    refine bb_cons (ss_set 4 (ee_callp C1 hr (aa_cons (ee_name 0 rfl (aa_cons (ee_name 4 rfl (aa_cons (ee_name 6 rfl (aa_nil ⟨g, _, c, rfl, run_mem wf _ hd, bb_nil ⟨⟨some (dat (.str ⟨#[c]⟩)), ?_⟩, rfl⟩⟩)))))))) scLm.nd)
    rw [take_at hc, run_app]
    rfl
  · rintro is M ⟨⟨x, rfl⟩, rfl⟩
    rw [List.length_map, List.take_length]
    refine bb_cons (ss_for [6] rfl .never (ii_str (ee_name 3 rfl ⟨b, rfl, fun i is M => (∃ x, is = [some (nxP g), some (dat (tD d)), some (dat (.str a)), some (dat (.str b)), some (dat (tD (run g d a.cps.toList))), some (dat (tD (run g d (b.cps.toList.take i)))), x]) ∧ M = [], ⟨⟨x, rfl⟩, rfl⟩, ?_, ?_⟩)))
    · rintro i p is M hget ⟨⟨x, rfl⟩, rfl⟩
      rw [List.getElem?_map] at hget
      obtain ⟨c, hc, rfl⟩ := Option.map_eq_some_iff.mp hget
      refine gg_name 6 scLm.nd ?_
      refine bb_cons (ss_set 5 (ee_callp C1 hr (aa_cons (ee_name 0 rfl (aa_cons (ee_name 5 rfl (aa_cons (ee_name 6 rfl (aa_nil ⟨g, _, c, rfl, run_mem wf _ hd, bb_nil ⟨⟨some (dat (.str ⟨#[c]⟩)), ?_⟩, rfl⟩⟩)))))))) scLm.nd)
      rw [take_at hc, run_app]
      rfl
    · rintro is M ⟨⟨x, rfl⟩, rfl⟩
      rw [List.length_map, List.take_length]
      exact bb_cons (ss_ret (ee_cmp (cc_eqD (α := Dart) hr.units (by decide) (ee_name 4 rfl (ee_name 5 rfl ⟨_, _, .inl rfl, .inl rfl, hp⟩)))))
theorem scLe : FnScope ["_law_graph", "_law_found", "_law_vertex", "_law_rotation", "_law_dart"] ["_law_graph"] (defScope (tp 60)) := ⟨rfl, rfl, rfl, by decide +kernel, rfl, by decide +kernel, by decide +kernel⟩
theorem cal_le (bt : Bt mg) (t : Top K mg "_law_edges" (tp 60) ["_law_graph"]) : Cal P w K mg base (k + 1) "_law_edges" ["_law_graph"] (pur spEn) := by
  refine cal_pur t scLe (fun prs post ⟨g, e, _⟩ => by rw [e]; rfl) fun f cdv A outer s H E B hS hr prs post ⟨g, e, wf, hp⟩ => ?_
  subst e
  have el := edges_len wf
  refine bb_cons (ss_set 1 (ee_lstd (aa_nil ⟨[], rfl, by simp, ?_⟩)) scLe.nd)
  refine bb_cons (ss_for [2, 3] rfl .never (ii_lstd (ee_name 0 rfl ⟨g.map Datum.toD, rfl, fun i is M => (∃ x y z, is = [some (dat (tD g)), some (dat (.list ((edgesRaw (g.take i)).map Datum.toD))), x, y, z]) ∧ M = [], ⟨⟨none, none, none, rfl⟩, rfl⟩, ?_, ?_⟩)))
  · rintro i p is M hget ⟨⟨x, y, z, rfl⟩, rfl⟩
    rw [List.getElem?_map, List.getElem?_map] at hget
    obtain ⟨dd, hdd, rfl⟩ := Option.map_eq_some_iff.mp hget
    obtain ⟨v, hv, rfl⟩ := Option.map_eq_some_iff.mp hdd
    have hm := List.mem_of_getElem? hv
    have e1 : edgesRaw (g.take (i + 1)) = edgesRaw (g.take i) ++ (v.2.filter fun d => decide (d.2 = 0)).map (·.1) := by
      unfold edgesRaw
      rw [take_at hv, List.flatMap_append]
      simp
    have l1 : (edgesRaw (g.take (i + 1))).length ≤ 1000 := by
      have h1 : edgesRaw g = edgesRaw (g.take (i + 1)) ++ edgesRaw (g.drop (i + 1)) := by
        unfold edgesRaw
        rw [← List.flatMap_append, List.take_append_drop]
      rw [h1, List.length_append] at el
      omega
    refine gg_tupd (ds := [.str v.1, .list (v.2.map Datum.toD)]) rfl (ggs_cons (gg_name 2 scLe.nd (ggs_cons (gg_name 3 scLe.nd (ggs_nil ?_)))))
    refine bb_cons (ss_set 1 (ee_catd (ee_name 1 rfl (ee_lcD ["_law_graph", "_law_found", "_law_vertex", "_law_rotation", "_law_dart"] (defScope (tp 60)) [("_law_dart", 4)] v.2 (fun d => dat (tD d)) (fun d => decide (d.2 = 0)) (fun d => .str d.1) rfl scLe.nd (by decide +kernel) (ii_lstd (ee_name 3 rfl ⟨v.2.map Datum.toD, rfl, (dats_map _ _).symm, by have := row_len wf hm; omega, fun L d acc hd s H C cl fp => gg_name 4 scLe.nd ⟨rfl, fun s H C cl fp => .inr ⟨_, rfl, ?_⟩⟩, _, _, .ds _, .ds _, ?_, bb_nil ⟨⟨some (dat (.str v.1)), some (dat (.list (v.2.map Datum.toD))), z, ?_⟩, rfl⟩⟩))))) scLe.nd)
    · exact tt_cmp (cc_eqD (α := Int) hr.units (by decide) (ee_ixt (ee_name 4 rfl (ee_int ⟨_, 1, dat (.int d.2), .ds [.str d.1, .int d.2], rfl, rfl, ee_int ⟨d.2, 0, .inl rfl, .inl rfl, _, rfl, rfl, rfl, fun z s H C cl fp => ee_ixt (ee_name 4 rfl (ee_int ⟨_, 0, dat (.str d.1), .ds [.str d.1, .int d.2], rfl, rfl, rfl, rfl⟩))⟩⟩))))
    · rw [e1, List.length_append, List.length_map] at l1
      rw [List.length_map, List.length_map]
      omega
    · rw [e1, List.map_append, List.map_map]
      rfl
  · rintro is M ⟨⟨x, y, z, rfl⟩, rfl⟩
    rw [List.length_map, List.length_map, List.take_length]
    exact bb_cons (ss_ret (ee_sortL (Datum.toD : Str → PyData) hr.units bt.sorted (aa_cons (ee_name 1 rfl (aa_nil ⟨_, edgesRaw g, rfl, .ds _, srt_str (by omega), hp⟩)))))
end
end Q9
namespace Q9
open PySem L2
open PySem.W (Datum DatumOrd minOf)
theorem rot1_mod {α : Type} {l : List α} {j : Nat} (h : j < l.length) : l[(j + 1) % l.length]? = (rot1 l)[j]? := by
  rw [rot1_get h]
  split
  · rename_i h1
    rw [Nat.mod_eq_of_lt h1]
  · have e : j + 1 = l.length := by omega
    rw [e, Nat.mod_self]
section
variable {P : Program} {w : World} {K : PySem.W.Frag} {mg : Str → Option Value} {base : Heap} {k : Nat} {C : Addr}
theorem scNd : FnScope ["_law_graph", "_law_found", "_law_vertex", "_law_rotation", "_law_at", "_law_dart"] ["_law_graph"] (defScope (tp 61)) := ⟨rfl, rfl, rfl, by decide +kernel, rfl, by decide +kernel, by decide +kernel⟩
def spNd : List Pr → (Pr → Prop) → Prop := fun ps post => ∃ g : Gr, ps = [dat (tD g)] ∧ WF g ∧ post (nxP g)
theorem cal_nd (bt : Bt mg) (t : Top K mg "_law_next_darts" (tp 61) ["_law_graph"]) : Cal P w K mg base (k + 1) "_law_next_darts" ["_law_graph"] (pur spNd) := by
  refine cal_pur t scNd (fun prs post ⟨g, e, _⟩ => by rw [e]; rfl) fun f cdv A outer s H E B hS hr prs post ⟨g, e, wf, hp⟩ => ?_
  subst e
  refine bb_cons (ss_set 1 (ee_newt fun a => ?_) scNd.nd)
  refine bb_cons (ss_for [2, 3] rfl .never (ii_lstd (ee_name 0 rfl ⟨g.map Datum.toD, rfl, fun i is M => (∃ x y z u, is = [some (dat (tD g)), some (raw (.ref a)), x, y, z, u]) ∧ M = [(a, .dt (kvP dk pD (nexts (g.take i))))], ⟨⟨none, none, none, none, rfl⟩, rfl⟩, ?_, ?_⟩)))
  · rintro i p is M hget ⟨⟨x, y, z, u, rfl⟩, rfl⟩
    rw [List.getElem?_map, List.getElem?_map] at hget
    obtain ⟨dd, hdd, rfl⟩ := Option.map_eq_some_iff.mp hget
    obtain ⟨v, hv, rfl⟩ := Option.map_eq_some_iff.mp hdd
    have hm := List.mem_of_getElem? hv
    have hlen := row_len wf hm
    have hl : v.2.length = (rot1 v.2).length := (rot1_len v.2).symm
    refine gg_tupd (ds := [.str v.1, .list (v.2.map Datum.toD)]) rfl (ggs_cons (gg_name 2 scNd.nd (ggs_cons (gg_name 3 scNd.nd (ggs_nil ?_)))))
    refine bb_cons (ss_for [4, 5] rfl .never (ii_enum bt.enumerate (aa_cons (EE.ls (ee_name 3 rfl ⟨_, rfl, aa_nil ⟨_, rfl, fun j is M => (∃ z u, is = [some (dat (tD g)), some (raw (.ref a)), some (dat (.str v.1)), some (dat (.list (v.2.map Datum.toD))), z, u]) ∧ M = [(a, .dt (kvP dk pD (nexts (g.take i) ++ (v.2.zip (rot1 v.2)).take j)))], ⟨⟨z, u, rfl⟩, by simp⟩, ?_, ?_⟩⟩)))))
    · rintro j p is M hget ⟨⟨z, u, rfl⟩, rfl⟩
      obtain ⟨d, hd, rfl⟩ := enum_get (f := fun d : Dart => dat (tD d)) (xs := v.2) (by rw [show (v.2.map fun d => dat (tD d)) = (v.2.map Datum.toD).map dat from dats_map _ v.2]; exact hget)
      have hj := (List.getElem?_eq_some_iff.mp hd).1
      obtain ⟨e, he⟩ : ∃ e, (rot1 v.2)[j]? = some e := ⟨_, List.getElem?_eq_getElem (hl ▸ hj)⟩
      have hz : (v.2.zip (rot1 v.2))[j]? = some (d, e) := List.getElem?_zip_eq_some.mpr ⟨hd, he⟩
      have h1 : d ∉ (nexts (g.take i) ++ (v.2.zip (rot1 v.2)).take j).map (·.1) := by
        have nd := wf.nd
        rw [← nexts_fst, nexts_split hv, split_at hz, List.append_assoc, List.map_append, List.map_append, List.cons_append, List.map_cons] at nd
        rw [List.map_append]
        exact nd_left nd
      have hsz : (nexts (g.take i) ++ (v.2.zip (rot1 v.2)).take j).length ≤ 100000 := by
        have := congrArg List.length (nexts_fst g)
        rw [List.length_map, nexts_split hv, List.length_append, List.length_append] at this
        have := wf.sz
        rw [List.length_append, List.length_take]
        omega
      have eix : atI ((v.2.map Datum.toD).map dat) (((j : Int) + 1) % ((((v.2.map (Datum.toD : Dart → PyData)).map dat).length : Nat) : Int)) = some (dat (tD e)) := by
        rw [List.length_map, List.length_map]
        have e1 : ((j : Int) + 1) % ((v.2.length : Nat) : Int) = (((j + 1) % v.2.length : Nat) : Int) := by simp
        rw [e1]
        refine atI_nat ?_
        rw [List.getElem?_map, List.getElem?_map, rot1_mod hj, he]
        rfl
      refine gg_tup rfl (ggs_cons (gg_name 4 scNd.nd (ggs_cons (gg_name 5 scNd.nd (ggs_nil ?_)))))
      refine bb_cons (ss_asg [] (ee_ixl (ee_name 3 rfl (ee_mod (ee_add (ee_name 4 rfl ⟨j, rfl, ee_int ⟨1, rfl, _, rfl, ee_len bt.len (aa_cons (ee_name 3 rfl (aa_nil ⟨_, _, rfl, .ls (.ds (v.2.map Datum.toD)), _, rfl, ?_, _, _, dat (tD e), .ds (v.2.map Datum.toD), rfl, eix, ?_⟩)))⟩⟩))))))
      · rw [List.length_map, List.length_map]
        omega
      · refine gg_putt hr.units (ee_name 1 rfl ⟨a, rfl, ee_name 5 rfl ⟨0, _, dk d, rfl, rfl, by rw [kv_len]; exact hsz, bb_nil ⟨⟨_, _, rfl⟩, ?_⟩⟩⟩)
        have e1 := putP_new (kf := dk) (pf := pD) dk_inj' e h1
        have e3 : nexts (g.take i) ++ (v.2.zip (rot1 v.2)).take (j + 1) = nexts (g.take i) ++ (v.2.zip (rot1 v.2)).take j ++ [(d, e)] := by rw [take_at hz, List.append_assoc]
        rw [e3, ← e1]
        rfl
    · rintro is M ⟨⟨z, u, rfl⟩, rfl⟩
      refine bb_nil ⟨⟨_, _, _, _, rfl⟩, ?_⟩
      rw [enum_len (f := dat) (xs := v.2.map Datum.toD), List.length_map]
      have e : (v.2.zip (rot1 v.2)).length ≤ v.2.length := by rw [List.length_zip]; omega
      rw [List.take_of_length_le e, ← nexts_take hv]
  · rintro is M ⟨⟨x, y, z, u, rfl⟩, rfl⟩
    rw [List.length_map, List.length_map, List.take_length]
    exact bb_cons (ss_ret (ee_frz (ee_name 1 rfl ⟨a, 0, rfl, .inr (.inr ⟨_, rfl, hp⟩)⟩)))
end
end Q9
namespace Q9
open PySem L2
open PySem.W (Datum DatumOrd minOf)
theorem map_erase {α β : Type} (f : α → β) : ∀ (l : List α) (n : Nat), (l.map f).eraseIdx n = (l.eraseIdx n).map f
  | [], _ => rfl
  | _ :: _, 0 => rfl
  | x :: l, n + 1 => congrArg (f x :: ·) (map_erase f l n)
theorem erase_perm {α : Type} : ∀ {l : List α} {n : Nat} (h : n < l.length), (l[n] :: l.eraseIdx n).Perm l
  | x :: l, 0, _ => .refl _
  | x :: l, n + 1, h => (List.Perm.swap _ _ _).trans ((erase_perm (l := l) (n := n) (Nat.lt_of_succ_lt_succ h)).cons x)
section
variable {X : Cx} {B : Bs} {is : Is} {M : MS} {Post : Pr → MS → Prop} {e : Expr}
/-- an own list that will not change any more, where draws' states are about -/
theorem ee_frzW (h : EE X B e is M fun p M' => ∃ (a : Addr) (j : Nat) (ds : List PyData), p = raw (.ref a) ∧ M'[j]? = some (a, MO.lst (ds.map dat)) ∧ (∀ b ∈ B.W, ∃ i m, i ≠ j ∧ M'[i]? = some (b, m)) ∧ Post (dat (.list ds)) (M'.eraseIdx j)) : EE X B e is M Post := fun σ G H K Q k =>
  h σ G H K Q fun v G1 H1 p M1 K1 g1 q1 ⟨a, j, ds, e1, hj, hw, hp⟩ => by
    subst e1
    have ev : v = .ref a := q1
    subst ev
    obtain ⟨vs, h3, h4⟩ := K1.at hj
    have nW : a ∉ B.W := fun z => by
      obtain ⟨i, m, ne, hi⟩ := hw a z
      exact ne (nd_idx K1.nd hi hj)
    obtain ⟨K2, g2⟩ := K1.freeze hj h3 nW
    exact k _ _ H1 _ _ K2 (g1.trans g2) (dat_lst.mpr ⟨a, vs, rfl, upd_same, h4.mono g2⟩) hp
end
section
variable {P : Program} {w : World} {K : PySem.W.Frag} {mg : Str → Option Value} {base : Heap} {k : Nat} {C : Addr}
theorem scSh : FnScope ["_law_source_here", "_law_some", "_law_left", "_law_found"] ["_law_source_here", "_law_some"] (defScope (tp 62)) := ⟨rfl, rfl, rfl, by decide +kernel, rfl, by decide +kernel, by decide +kernel⟩
def spSh : PT0 := fun ps S U => ∃ (a : Addr) (α : Type) (_ : DecidableEq α) (_ : Datum α) (xs : List α), ps = [raw (.ref a), dat (tD xs)] ∧ S = [a] ∧ Datum.depth α ≤ 40 ∧ xs.length ≤ 1000 ∧ ∀ ys : List α, ys.Perm xs → U (dat (tD ys)) []
theorem cal_sh (bt : Bt mg) (t : Top K mg "_law_shuffled" (tp 62) ["_law_source_here", "_law_some"]) (C1 : Cal P w K mg base k "_law_draw" ["_law_source_here", "_law_count"] spDr) : Cal P w K mg base (k + 1) "_law_shuffled" ["_law_source_here", "_law_some"] spSh := by
  refine cal_mk t scSh (fun prs S post ⟨a, α, _, _, xs, e, _⟩ => by rw [e]; rfl) fun f cdv A outer s H E B hr prs post ⟨a, α, i1, i2, xs, e, hS, hdp, hl, hp⟩ => ?_
  subst e
  have hu := hr.units
  have BW := hS
  rw [hS]
  refine bb_cons (ss_set 2 (ee_listm bt.list (aa_cons (ee_name 1 rfl (aa_nil ⟨_, (xs.map Datum.toD).map dat, rfl, .ds _, fun b => ?_⟩)))) scSh.nd)
  refine bb_cons (ss_set 3 (ee_lstm (aa_nil ⟨by simp, fun c => ?_⟩)) scSh.nd)
  refine bb_cons (ss_while .never (fun m is M => ∃ left found : List α, is = [some (raw (.ref a)), some (dat (tD xs)), some (raw (.ref b)), some (raw (.ref c))] ∧ M = [(a, .src), (b, .lst ((left.map Datum.toD).map dat)), (c, .lst ((found.map Datum.toD).map dat))] ∧ (found ++ left).Perm xs ∧ m = left.length) xs.length ⟨xs, [], rfl, rfl, .refl _, rfl⟩ ?_)
  rintro m is M ⟨left, found, rfl, rfl, hperm, rfl⟩
  have hlen := hperm.length_eq
  rw [List.length_append] at hlen
  refine tt_cmp (cc_neD (α := List α) hu (by show Datum.depth α + 1 ≤ 60; omega) (ee_name 2 rfl (ee_lstd (aa_nil ⟨[], rfl, by simp, left, [], .inr ⟨b, 1, _, rfl, rfl, rfl⟩, .inl rfl, _, rfl, fun z => ?_, fun z => ?_⟩))))
  · have hne : left ≠ [] := by simpa using z
    have hpos := List.length_pos_iff.mpr hne
    refine bb_cons (ss_expr (ee_append (ee_name 3 rfl ⟨c, 2, _, rfl, rfl, ee_pop (ee_name 2 rfl ⟨b, 1, _, rfl, rfl, ee_call C1 hr (aa_cons (ee_name 0 rfl (aa_cons (ee_len bt.len (aa_cons (ee_name 2 rfl (aa_nil ⟨_, _, rfl, .ls (.own (i := 1) rfl), aa_nil ⟨[a], by simp, by simp, a, _, rfl, rfl, ?_, ?_, fun r r0 r1 => ?_⟩⟩)))))))⟩)⟩)))
    · rw [List.length_map, List.length_map]
      omega
    · rw [List.length_map, List.length_map]
      omega
    · rw [List.length_map, List.length_map] at r1
      obtain ⟨n, rfl⟩ := Int.eq_ofNat_of_zero_le r0
      have hn : n < left.length := by omega
      refine ⟨_, n, dat (tD left[n]), rfl, rfl, by omega, by rw [List.getElem?_map, List.getElem?_map, List.getElem?_eq_getElem hn]; rfl, _, rfl, by rw [List.length_map, List.length_map]; omega, bb_nil ⟨left.length - 1, by omega, left.eraseIdx n, found ++ [left[n]], rfl, ?_, ?_, ?_⟩⟩
      · have e1 : ((left.map (Datum.toD : α → PyData)).map dat).eraseIdx n = ((left.eraseIdx n).map Datum.toD).map dat := by rw [map_erase, map_erase]
        have e2 : ((found ++ [left[n]]).map (Datum.toD : α → PyData)).map dat = (found.map Datum.toD).map dat ++ [dat (tD left[n])] := by rw [List.map_append, List.map_append]; rfl
        rw [← e1, e2]
        rfl
      · refine List.Perm.trans ?_ hperm
        rw [List.append_assoc]
        refine List.Perm.append_left _ ?_
        exact erase_perm hn
      · rw [List.length_eraseIdx, if_pos hn]
  · have he : left = [] := by simpa using z
    subst he
    rw [List.append_nil] at hperm
    refine bb_cons (ss_ret (ee_frzW (ee_name 3 rfl ⟨c, 2, found.map Datum.toD, rfl, rfl, ?_, ret0 (hp found hperm) (fun b hb => by rw [List.mem_singleton.mp hb]; exact List.mem_cons_self)⟩)))
    intro b' hb'
    rw [BW] at hb'
    rw [List.mem_singleton.mp hb']
    exact ⟨0, .src, by decide, rfl⟩
end
end Q9
namespace Q9
open PySem L2
open PySem.W (Datum DatumOrd minOf)
theorem joinL_nil : ∀ ps : List (List Nat), TL.joinL [] ps = ps.flatten
  | [] => rfl
  | [p] => by simp [TL.joinL]
  | p :: q :: r => by
    show p ++ ([] ++ TL.joinL [] (q :: r)) = _
    rw [joinL_nil (q :: r), List.nil_append]
    rfl
theorem join_cps (ys : List Str) : (Txt.join "" ys).cps.toList = ys.flatMap fun y => y.cps.toList := by
  have h := TL.tl_join "" ys
  have e : TL.tl "" = [] := by decide +kernel
  rw [e, joinL_nil] at h
  have e2 : TL.tl (Txt.join "" ys) = TL.tl (Str.join "" ys) := by rw [TL.join_eq]
  exact (e2.trans h).trans (List.flatMap_def ..).symm
section
variable {P : Program} {w : World} {K : PySem.W.Frag} {mg : Str → Option Value} {base : Heap} {k : Nat} {C : Addr}
theorem scWo : FnScope ["_law_source_here", "_law_letter"] ["_law_source_here"] (defScope (tp 67)) := ⟨rfl, rfl, rfl, by decide +kernel, rfl, by decide +kernel, by decide +kernel⟩
def spWo : PT0 := fun ps S U => ∃ a : Addr, ps = [raw (.ref a)] ∧ S = [a] ∧ ∀ x, isW x → x.length ≤ 300 → U (dat (.str x)) []
theorem cal_wo (bt : Bt mg) (t : Top K mg "_law_word" (tp 67) ["_law_source_here"]) (C1 : Cal P w K mg base k "_law_draw" ["_law_source_here", "_law_count"] spDr) : Cal P w K mg base (k + 1) "_law_word" ["_law_source_here"] spWo := by
  refine cal_mk t scWo (fun prs S post ⟨a, e, _⟩ => by rw [e]; rfl) fun f cdv A outer s H E B hr prs post ⟨a, e, hS, hp⟩ => ?_
  subst e
  rw [hS]
  refine bb_cons (ss_ret (ee_join (EE.imp (P := fun p M' => ∃ ys : List Str, p = lstP ((ys.map PyData.str).map dat) ∧ M' = [(a, MO.src)] ∧ ys.length ≤ 12 ∧ ∀ y ∈ ys, y = ⟨#[110]⟩ ∨ y = ⟨#[111]⟩) (ee_lc ["_law_source_here", "_law_letter"] (defScope (tp 67)) [("_law_letter", 1)] rfl scWo.nd (by decide +kernel) (ii_range bt.range (aa_cons (ee_call C1 hr (aa_cons (ee_name 0 rfl (aa_cons (ee_int (aa_nil ⟨[a], by simp, by simp, a, 12, rfl, rfl, by decide, by decide, fun r r0 r1 => aa_nil ⟨r.toNat, by rw [Int.toNat_of_nonneg r0], by omega, by rw [List.length_map, List.length_range]; omega, fun i acc => ∃ ys : List Str, acc = (ys.map PyData.str).map dat ∧ ys.length = i ∧ ∀ y ∈ ys, y = ⟨#[110]⟩ ∨ y = ⟨#[111]⟩, ⟨[], rfl, rfl, fun _ z => by cases z⟩, ?_, ?_⟩⟩))))))))) ?_)))
  · rintro L i p acc hget ⟨ys, rfl, hl, hy⟩ hle s H C cl fp
    refine gg_name 1 scWo.nd ⟨rfl, fun s H C cl fp => .inl ⟨rfl, rfl, (fun z => nomatch z), fun _ s H C cl fp => ee_ixl (ee_lstd (aa_cons (ee_str (aa_cons (ee_str (aa_nil ⟨[.str "n", .str "o"], rfl, by simp, ee_call C1 hr (aa_cons (ee_name 0 rfl (aa_cons (ee_int (aa_nil ⟨[a], by simp, by simp, a, 2, rfl, rfl, by decide, by decide, fun q q0 q1 => ?_⟩)))))⟩))))))⟩⟩
    have hq : q = 0 ∨ q = 1 := by omega
    rcases hq with rfl | rfl
    · refine ⟨_, 0, dat (.str "n"), .ds _, rfl, rfl, rfl, ys ++ [("n" : Str)], by rw [List.map_append, List.map_append]; rfl, by rw [List.length_append, hl]; rfl, fun y hm => ?_⟩
      rcases List.mem_append.mp hm with z | z
      · exact hy y z
      · exact .inl (by rw [List.mem_singleton.mp z, str_n])
    · refine ⟨_, 1, dat (.str "o"), .ds _, rfl, rfl, rfl, ys ++ [("o" : Str)], by rw [List.map_append, List.map_append]; rfl, by rw [List.length_append, hl]; rfl, fun y hm => ?_⟩
      rcases List.mem_append.mp hm with z | z
      · exact hy y z
      · exact .inr (by rw [List.mem_singleton.mp z, str_o])
  · rintro acc ⟨ys, rfl, hl, hy⟩
    refine ⟨ys, rfl, rfl, ?_, hy⟩
    rw [hl, List.length_map, List.length_range]
    omega
  · rintro p M ⟨ys, rfl, rfl, hl, hy⟩
    have one : ∀ y ∈ ys, y.cps.toList.length = 1 := fun y hm => by rcases hy y hm with z | z <;> rw [z] <;> rfl
    refine ⟨ys, .fix _, by omega, fun y hm => ?_, ret0 (hp _ (fun c hc => ?_) ?_) (fun b hb => by rw [List.mem_singleton.mp hb]; exact List.mem_cons_self)⟩
    · have := one y hm
      rw [Array.length_toList] at this
      show y.cps.size ≤ 1000
      omega
    · rw [join_cps] at hc
      obtain ⟨y, hm, hc⟩ := List.mem_flatMap.mp hc
      rcases hy y hm with z | z <;> rw [z] at hc
      · exact .inl (List.mem_singleton.mp hc)
      · exact .inr (List.mem_singleton.mp hc)
    · have e1 : (Txt.join "" ys).length = (Txt.join "" ys).cps.toList.length := Array.length_toList.symm
      rw [e1, join_cps]
      have go : ∀ l : List Str, (∀ y ∈ l, y.cps.toList.length = 1) → (l.flatMap fun y => y.cps.toList).length = l.length := by
        intro l
        induction l with
        | nil => intro _; rfl
        | cons y l ih =>
          intro h
          rw [List.flatMap_cons, List.length_append, h y List.mem_cons_self, ih fun z hz => h z (List.mem_cons_of_mem _ hz), List.length_cons]
          omega
      rw [go ys one]
      omega
end
end Q9
namespace Q9
open PySem L2
open PySem.W (Datum DatumOrd minOf)
abbrev abc : Str := "abcdefghijklmnopqrstuvwxyz"
def letter (i : Nat) : Nat := abc.cps.toList.getD i 0
/-- two letters for a number below 676, then r of qqab -/
def nmOf (n : Nat) (r : Nat) : Str := ⟨(letter (n / 26) :: letter (n % 26) :: ("qqab" : Str).cps.toList.take r).toArray⟩
theorem letter_mem {i : Nat} (h : i < 26) : letter i ∈ abc.cps.toList := by
  have hl : abc.cps.toList.length = 26 := by decide +kernel
  unfold letter
  rw [List.getD_eq_getElem?_getD, List.getElem?_eq_getElem (by omega)]
  exact List.getElem_mem _
theorem letter_inj {i j : Nat} (hi : i < 26) (hj : j < 26) (h : letter i = letter j) : i = j := by
  have all : ∀ a : Fin 26, ∀ b : Fin 26, letter a.1 = letter b.1 → a = b := by decide +kernel
  exact congrArg Fin.val (all ⟨i, hi⟩ ⟨j, hj⟩ h)
theorem nmOf_inj {n m r s : Nat} (hn : n < 676) (hm : m < 676) (h : nmOf n r = nmOf m s) : n = m := by
  have h1 := congrArg (fun x : Str => x.cps.toList) h
  have h2 : letter (n / 26) :: letter (n % 26) :: ("qqab" : Str).cps.toList.take r = letter (m / 26) :: letter (m % 26) :: ("qqab" : Str).cps.toList.take s := h1
  injection h2 with e1 h3
  injection h3 with e2 _
  have a1 := letter_inj (by omega) (by omega) e1
  have a2 := letter_inj (by omega) (by omega) e2
  omega
theorem nmOf_isn {n r : Nat} (hn : n < 676) (hr : r < 5) : isNameB (nmOf n r) = true := by
  have hl : ("qqab" : Str).cps.toList.length = 4 := by decide +kernel
  have htl : (nmOf n r).cps.toList = letter (n / 26) :: letter (n % 26) :: ("qqab" : Str).cps.toList.take r := rfl
  have hsz : (nmOf n r).length = (letter (n / 26) :: letter (n % 26) :: ("qqab" : Str).cps.toList.take r).length := by
    rw [← htl]
    exact Array.length_toList.symm
  rw [List.length_cons, List.length_cons, List.length_take, hl] at hsz
  have hq : ∀ c ∈ ("qqab" : Str).cps.toList, c ∈ abc.cps.toList := by decide +kernel
  unfold isNameB
  rw [Bool.and_eq_true, Bool.and_eq_true, decide_eq_true_eq, decide_eq_true_eq, htl, List.all_eq_true]
  refine ⟨⟨by omega, by omega⟩, fun c hc => decide_eq_true ?_⟩
  rcases List.mem_cons.mp hc with z | hc
  · rw [z]
    exact letter_mem (by omega)
  · rcases List.mem_cons.mp hc with z | hc
    · rw [z]
      exact letter_mem (by omega)
    · exact hq c (List.mem_of_mem_take hc)
/-- the numbers of a row of names stand apart -/
theorem apart {s t i j : Nat} (ht : t % 2 = 1) (ht2 : t ≤ 11) (hi : i ≤ 60) (hj : j ≤ 60) (h : (s + t * i) % 676 = (s + t * j) % 676) : i = j := by
  have h1 : ∀ t : Fin 12, ∀ i : Fin 61, ∀ j : Fin 61, t.1 % 2 = 1 → t.1 * i.1 % 676 = t.1 * j.1 % 676 → i = j := by decide +kernel
  have h2 : t * i % 676 = t * j % 676 := by omega
  exact congrArg Fin.val (h1 ⟨t, by omega⟩ ⟨i, by omega⟩ ⟨j, by omega⟩ ht h2)
end Q9
namespace Q9
open PySem L2
open PySem.W (Datum DatumOrd minOf)
theorem cut_qq : ∀ r : Fin 5, cutS "qqab" none (some (r.1 : Int)) = ⟨(("qqab" : Str).cps.toList.take r.1).toArray⟩ := by decide +kernel
theorem nm_eq (c d : Nat) (l : List Nat) : ((⟨#[c]⟩ : Str) ++ (⟨#[d]⟩ : Str)) ++ (⟨l.toArray⟩ : Str) = ⟨(c :: d :: l).toArray⟩ := by
  show (⟨(#[c] ++ #[d]) ++ l.toArray⟩ : Str) = _
  congr 1
  apply Array.toList_inj.mp
  simp
theorem nodup_of_get {α : Type} {l : List α} (h : ∀ i j, i < j → j < l.length → l[i]? = l[j]? → False) : l.Nodup := by
  refine List.pairwise_iff_getElem.mpr fun i j hi hj hij e => h i j hij hj ?_
  rw [List.getElem?_eq_getElem hi, List.getElem?_eq_getElem hj, e]
section
variable {P : Program} {w : World} {K : PySem.W.Frag} {mg : Str → Option Value} {base : Heap} {k : Nat} {C : Addr}
theorem scNa : FnScope ["_law_source_here", "_law_count", "_law_start", "_law_step_here", "_law_signs", "_law_found", "_law_k", "_law_number", "_law_name"] ["_law_source_here", "_law_count"] (defScope (tp 58)) := ⟨rfl, rfl, rfl, by decide +kernel, rfl, by decide +kernel, by decide +kernel⟩
def spNa : PT0 := fun ps S U => ∃ (a : Addr) (n : Nat), ps = [raw (.ref a), dat (.int n)] ∧ S = [a] ∧ n ≤ 61 ∧ ∀ ns : List Str, ns.length = n → ns.Nodup → (∀ x ∈ ns, isNameB x = true) → U (dat (tD ns)) []
theorem cal_na (bt : Bt mg) (t : Top K mg "_law_names" (tp 58) ["_law_source_here", "_law_count"]) (C1 : Cal P w K mg base k "_law_draw" ["_law_source_here", "_law_count"] spDr) : Cal P w K mg base (k + 1) "_law_names" ["_law_source_here", "_law_count"] spNa := by
  refine cal_mk t scNa (fun prs S post ⟨a, n, e, _⟩ => by rw [e]; rfl) fun f cdv A outer s H E B hr prs post ⟨a, n, e, hS, hn, hp⟩ => ?_
  subst e
  have BW := hS
  rw [hS]
  refine bb_cons (ss_par 2 3 rfl scNa.nd (by decide) (aa_cons (ee_call C1 hr (aa_cons (ee_name 0 rfl (aa_cons (ee_int (aa_nil ⟨[a], by simp, by simp, a, 676, rfl, rfl, by decide, by decide, fun s0 hs0 hs1 => aa_cons (ee_add (ee_int ⟨1, rfl, ee_mul (ee_int ⟨2, rfl, ee_call C1 hr (aa_cons (ee_name 0 rfl (aa_cons (ee_int (aa_nil ⟨[a], by simp, by simp, a, 6, rfl, rfl, by decide, by decide, fun t0 ht0 ht1 => ⟨t0, rfl, .inl ⟨by decide, by decide⟩, _, rfl, aa_nil ⟨_, _, rfl, ?_⟩⟩⟩)))))⟩)⟩))⟩))))))))
  obtain ⟨s', rfl⟩ := Int.eq_ofNat_of_zero_le hs0
  obtain ⟨t', rfl⟩ := Int.eq_ofNat_of_zero_le ht0
  have et : (1 : Int) + 2 * ((t' : Nat) : Int) = ((1 + 2 * t' : Nat) : Int) := by simp
  rw [et]
  refine bb_cons (ss_set 4 (ee_str ?_) scNa.nd)
  refine bb_cons (ss_set 5 (ee_lstm (aa_nil ⟨by simp, fun c => ?_⟩)) scNa.nd)
  refine bb_cons (ss_for [6] rfl .never (ii_range bt.range (aa_cons (ee_name 1 rfl (aa_nil ⟨n, rfl, by omega, fun i is M => ∃ (fs : List Str) (x y z : Option Pr), is = [some (raw (.ref a)), some (dat (.int n)), some (dat (.int s')), some (dat (.int (1 + 2 * t' : Nat))), some (dat (.str abc)), some (raw (.ref c)), x, y, z] ∧ M = [(a, .src), (c, .lst ((fs.map Datum.toD).map dat))] ∧ fs.length = i ∧ ∀ (j : Nat) (q : Str), fs[j]? = some q → ∃ r, r < 5 ∧ q = nmOf ((s' + (1 + 2 * t') * j) % 676) r, ⟨[], none, none, none, rfl, rfl, rfl, fun j q hq => by simp at hq⟩, ?_, ?_⟩)))))
  · rintro i p is M hget ⟨fs, x, y, z, rfl, rfl, hl, hf⟩
    rw [List.getElem?_map] at hget
    obtain ⟨i', hi', rfl⟩ := Option.map_eq_some_iff.mp hget
    obtain ⟨hi, e1⟩ := List.getElem?_eq_some_iff.mp hi'
    rw [List.getElem_range] at e1
    rw [List.length_range] at hi
    subst e1
    refine gg_name 6 scNa.nd ?_
    refine bb_cons (ss_set 7 (ee_mod (ee_add (ee_name 2 rfl ⟨_, rfl, ee_mul (ee_name 3 rfl ⟨_, rfl, ee_name 6 rfl ⟨_, rfl, .inr ⟨by omega, by omega⟩, ?_⟩⟩)⟩))) scNa.nd)
    refine ⟨_, rfl, _, rfl, ee_int ⟨676, rfl, by decide, ?_⟩⟩
    have en : ((s' : Int) + ((1 + 2 * t' : Nat) : Int) * (i : Int)) % 676 = (((s' + (1 + 2 * t') * i) % 676 : Nat) : Int) := by simp
    rw [en]
    have hlt : (s' + (1 + 2 * t') * i) % 676 < 676 := Nat.mod_lt _ (by decide)
    obtain ⟨m, hm⟩ : ∃ m, m = (s' + (1 + 2 * t') * i) % 676 := ⟨_, rfl⟩
    rw [← hm] at hlt ⊢
    have habc : abc.cps.toList.length = 26 := by decide +kernel
    have la : abc.length = 26 := by decide +kernel
    have lt1 : ∀ q : Nat, q < 26 → atI abc.cps.toList (q : Int) = some (letter q) := fun q hq => atI_nat (by
      unfold letter
      rw [List.getD_eq_getElem?_getD, List.getElem?_eq_getElem (by omega)]
      rfl)
    have d1 : (m : Int) / 26 = ((m / 26 : Nat) : Int) := rfl
    have d2 : (m : Int) % 26 = ((m % 26 : Nat) : Int) := rfl
    refine bb_cons (ss_set 8 (ee_adds (ee_ixs (ee_name 4 rfl (ee_fdiv (ee_name 7 rfl ⟨_, rfl, ee_int ⟨26, rfl, ⟨by decide, by decide⟩, abc, _, letter (m / 26), rfl, rfl, by rw [la]; decide, ?_, ?_⟩⟩))))) scNa.nd)
    · rw [d1]
      exact lt1 _ (by omega)
    refine ⟨_, rfl, ee_ixs (ee_name 4 rfl (ee_mod (ee_name 7 rfl ⟨_, rfl, ee_int ⟨26, rfl, by decide, abc, _, letter (m % 26), rfl, rfl, by rw [la]; decide, ?_, ?_⟩⟩)))⟩
    · rw [d2]
      exact lt1 _ (by omega)
    refine ⟨_, rfl, ?_, ?_⟩
    · show 1 + 1 ≤ _
      rw [PySem.sizeLine_eq]
      omega
    have lq : ("qqab" : Str).length = 4 := by decide +kernel
    refine bb_cons (ss_expr (ee_append (ee_name 5 rfl ⟨c, 1, _, rfl, rfl, ee_adds (ee_name 8 rfl ⟨_, rfl, ee_slices (ee_str (show OO _ _ _ _ _ _ from ee_call C1 hr (aa_cons (ee_name 0 rfl (aa_cons (ee_int (aa_nil ⟨[a], by simp, by simp, a, 5, rfl, rfl, by decide, by decide, fun r r0 r1 => ?_⟩)))))))⟩)⟩)))
    obtain ⟨r', rfl⟩ := Int.eq_ofNat_of_zero_le r0
    have hr5 : r' < 5 := by omega
    refine ⟨_, rfl, ("qqab" : Str), rfl, by rw [lq]; decide, ?_⟩
    rw [cut_qq ⟨r', hr5⟩]
    refine ⟨_, rfl, ?_, ?_⟩
    · have : (⟨(("qqab" : Str).cps.toList.take r').toArray⟩ : Str).length ≤ 4 := by
        show ((("qqab" : Str).cps.toList.take r').toArray).size ≤ 4
        rw [List.size_toArray, List.length_take]
        have : ("qqab" : Str).cps.toList.length = 4 := by decide +kernel
        omega
      have h2 : ((⟨#[letter (m / 26)]⟩ : Str) ++ (⟨#[letter (m % 26)]⟩ : Str)).length = 2 := rfl
      rw [h2, PySem.sizeLine_eq]
      exact Nat.le_trans (Nat.add_le_add_left this 2) (by decide)
    refine ⟨_, rfl, by rw [List.length_map, List.length_map]; omega, bb_nil ⟨fs ++ [nmOf m r'], _, _, _, rfl, ?_, by rw [List.length_append, hl]; rfl, fun j q hj => ?_⟩⟩
    · have e2 : ((fs ++ [nmOf m r']).map (Datum.toD : Str → PyData)).map dat = (fs.map Datum.toD).map dat ++ [dat (.str (nmOf m r'))] := by rw [List.map_append, List.map_append]; rfl
      rw [e2, nm_eq]
      rfl
    · by_cases hji : j < fs.length
      · rw [List.getElem?_append_left hji] at hj
        exact hf j q hj
      · rw [List.getElem?_append_right (by omega)] at hj
        have h0 : j - fs.length = 0 := by
          obtain ⟨h1, _⟩ := List.getElem?_eq_some_iff.mp hj
          simp at h1
          omega
        rw [h0] at hj
        injection hj with hj
        have : j = i := by omega
        rw [this]
        exact ⟨r', hr5, by rw [← hj, hm]⟩
  · rintro is M ⟨fs, x, y, z, rfl, rfl, hl, hf⟩
    rw [List.length_map, List.length_range] at hl
    refine bb_cons (ss_ret (ee_frzW (ee_name 5 rfl ⟨c, 1, fs.map Datum.toD, rfl, rfl, ?_, ret0 (hp fs hl ?_ ?_) (fun b hb => by rw [List.mem_singleton.mp hb]; exact List.mem_cons_self)⟩)))
    · intro b' hb'
      rw [BW] at hb'
      rw [List.mem_singleton.mp hb']
      exact ⟨0, .src, by decide, rfl⟩
    · refine nodup_of_get fun i j hij hj e => ?_
      have hi : i < fs.length := by omega
      obtain ⟨r, r5, q1⟩ := hf i fs[i] (List.getElem?_eq_getElem hi)
      obtain ⟨r2, r25, q2⟩ := hf j fs[j] (List.getElem?_eq_getElem hj)
      rw [List.getElem?_eq_getElem hi, List.getElem?_eq_getElem hj] at e
      injection e with e
      rw [e, q2] at q1
      have := apart (by omega) (by omega) (by omega) (by omega) (nmOf_inj (Nat.mod_lt _ (by decide)) (Nat.mod_lt _ (by decide)) q1)
      omega
    · intro q hq
      obtain ⟨j, hj, e⟩ := List.getElem_of_mem hq
      obtain ⟨r, r5, q1⟩ := hf j q (by rw [List.getElem?_eq_getElem hj, e])
      rw [q1]
      exact nmOf_isn (Nat.mod_lt _ (by decide)) r5
end
end Q9
namespace Q9
open PySem L2
open PySem.W (Datum DatumOrd minOf)
def trn {α : Type} (n : Nat) (r : List α) : List α := r.drop n ++ r.take n
section
variable {α β : Type}
theorem trn_len (n : Nat) (r : List α) : (trn n r).length = r.length := by
  unfold trn
  rw [List.length_append, List.length_drop, List.length_take]
  omega
theorem trn_perm (n : Nat) (r : List α) : (trn n r).Perm r := by
  unfold trn
  refine List.perm_append_comm.trans ?_
  rw [List.take_append_drop]
theorem trn_zero (r : List α) : trn 0 r = r := by simp [trn]
theorem trn_big {n : Nat} {r : List α} (h : r.length ≤ n) : trn n r = r := by
  unfold trn
  rw [List.drop_eq_nil_of_le h, List.take_of_length_le h, List.nil_append]
theorem trn_get {n : Nat} {r : List α} (h : n ≤ r.length) {j : Nat} (hj : j < r.length) : (trn n r)[j]? = r[(j + n) % r.length]? := by
  unfold trn
  by_cases h1 : j < r.length - n
  · rw [List.getElem?_append_left (by rw [List.length_drop]; exact h1), List.getElem?_drop, Nat.mod_eq_of_lt (by omega), Nat.add_comm]
  · rw [List.getElem?_append_right (by rw [List.length_drop]; omega), List.length_drop, Nat.mod_eq_sub_mod (by omega), Nat.mod_eq_of_lt (by omega), List.getElem?_take, if_pos (by omega)]
    congr 1
    omega
theorem trn_nx {n : Nat} {r : List α} {i : Nat} {x y : α} (h1 : r[i]? = some x) (h2 : r[(i + 1) % r.length]? = some y) : ∃ j, (trn n r)[j]? = some x ∧ (trn n r)[(j + 1) % r.length]? = some y := by
  have hi := (List.getElem?_eq_some_iff.mp h1).1
  by_cases hn : n ≤ r.length
  · have hp : 0 < r.length := by omega
    refine ⟨(i + (r.length - n)) % r.length, ?_, ?_⟩
    · rw [trn_get hn (Nat.mod_lt _ hp), Nat.mod_add_mod, show i + (r.length - n) + n = i + r.length by omega, Nat.add_mod_right, Nat.mod_eq_of_lt hi]
      exact h1
    · rw [trn_get hn (Nat.mod_lt _ hp), Nat.mod_add_mod]
      have e : ((i + (r.length - n)) % r.length + 1 + n) % r.length = (i + 1) % r.length := by
        rw [Nat.add_assoc, Nat.mod_add_mod, show i + (r.length - n) + (1 + n) = i + 1 + r.length by omega, Nat.add_mod_right]
      rw [e]
      exact h2
  · rw [trn_big (by omega)]
    exact ⟨i, h1, h2⟩
theorem nodup_on {f : α → β} : ∀ {l : List α}, l.Nodup → (∀ x ∈ l, ∀ y ∈ l, f x = f y → x = y) → (l.map f).Nodup
  | [], _, _ => List.nodup_nil
  | x :: l, nd, h => by
    have nd' := List.nodup_cons.mp nd
    rw [List.map_cons, List.nodup_cons]
    refine ⟨fun z => ?_, nodup_on nd'.2 fun a ha b hb e => h a (List.mem_cons_of_mem _ ha) b (List.mem_cons_of_mem _ hb) e⟩
    obtain ⟨y, hy, e⟩ := List.mem_map.mp z
    exact nd'.1 (h y (List.mem_cons_of_mem _ hy) x List.mem_cons_self e ▸ hy)
theorem inj_of_nodup {f : α → β} : ∀ {l : List α}, (l.map f).Nodup → ∀ x ∈ l, ∀ y ∈ l, f x = f y → x = y
  | [], _, _, h, _, _, _ => by cases h
  | z :: l, nd, x, hx, y, hy, e => by
    rw [List.map_cons, List.nodup_cons] at nd
    rcases List.mem_cons.mp hx with a | a <;> rcases List.mem_cons.mp hy with b | b
    · rw [a, b]
    · exact absurd (List.mem_map.mpr ⟨y, b, by rw [← e, a]⟩) nd.1
    · exact absurd (List.mem_map.mpr ⟨x, a, by rw [e, b]⟩) nd.1
    · exact inj_of_nodup nd.2 x a y b e
end
theorem nx_cyc {g : Gr} (wf : WF g) {v : Str × List Dart} (hv : v ∈ g) {i : Nat} {d y : Dart} (hd : v.2[i]? = some d) (hy : v.2[(i + 1) % v.2.length]? = some y) : nx g d = y :=
  nx_row wf hv hd (by rw [← rot1_mod (List.getElem?_eq_some_iff.mp hd).1]; exact hy)
theorem cyc_nx {g : Gr} (wf : WF g) {v : Str × List Dart} (hv : v ∈ g) {i : Nat} {d : Dart} (hd : v.2[i]? = some d) : v.2[(i + 1) % v.2.length]? = some (nx g d) := by
  have hi := (List.getElem?_eq_some_iff.mp hd).1
  have hlt : (i + 1) % v.2.length < v.2.length := Nat.mod_lt _ (by omega)
  have h := List.getElem?_eq_getElem hlt
  rw [nx_cyc wf hv hd h]
  exact h
theorem vo_nx {g : Gr} (wf : WF g) {d : Dart} (hd : d ∈ darts g) : vo g (nx g d) = vo g d := by
  obtain ⟨v, hv, hm⟩ := row_of hd
  obtain ⟨i, hi⟩ := List.mem_iff_getElem?.mp hm
  rw [vo_row wf hv hm, vo_row wf hv (List.mem_of_getElem? (cyc_nx wf hv hi))]
theorem opp_opp (d : Dart) : opp (opp d) = d := by
  unfold opp
  refine Prod.ext rfl ?_
  show 1 - (1 - d.2) = d.2
  omega
theorem isDart_opp {d : Dart} (h : isDart d) : isDart (opp d) := by
  refine ⟨h.1, ?_⟩
  show 1 - d.2 = 0 ∨ 1 - d.2 = 1
  rcases h.2 with z | z <;> rw [z] <;> decide
theorem opp_ne {d : Dart} : opp d ≠ d := fun e => by
  have : 1 - d.2 = d.2 := congrArg Prod.snd e
  omega
theorem edge_mem {g : Gr} {e : Str} : e ∈ edgesRaw g ↔ (e, (0 : Int)) ∈ darts g := by
  unfold edgesRaw
  rw [List.mem_flatMap]
  constructor
  · rintro ⟨v, hv, h⟩
    obtain ⟨x, hx, e1⟩ := List.mem_map.mp h
    obtain ⟨h1, h2⟩ := List.mem_filter.mp hx
    have h3 : x.2 = 0 := of_decide_eq_true h2
    have : x = (e, 0) := Prod.ext e1 h3
    exact this ▸ darts_mem hv h1
  · intro h
    obtain ⟨v, hv, h1⟩ := row_of h
    exact ⟨v, hv, List.mem_map.mpr ⟨(e, 0), List.mem_filter.mpr ⟨h1, rfl⟩, rfl⟩⟩
theorem dart_edge {g : Gr} (wf : WF g) {d : Dart} (h : d ∈ darts g) : d.1 ∈ edgesRaw g := by
  rw [edge_mem]
  rcases (wf.dart d h).2 with z | z
  · exact (Prod.ext rfl z.symm : (d.1, (0 : Int)) = d) ▸ h
  · have := wf.op d h
    have e1 : opp d = (d.1, 0) := by unfold opp; rw [z]; rfl
    rwa [e1] at this
theorem edges_nd {g : Gr} (wf : WF g) : (edgesRaw g).Nodup := by
  have e : edgesRaw g = ((darts g).filter fun d => decide (d.2 = 0)).map (·.1) := by
    unfold edgesRaw darts
    clear wf
    induction g with
    | nil => rfl
    | cons v g ih => rw [List.flatMap_cons, List.flatMap_cons, List.filter_append, List.map_append, ih]
  rw [e]
  refine nodup_on (wf.nd.sublist List.filter_sublist) fun x hx y hy e => ?_
  have h1 : x.2 = 0 := of_decide_eq_true (List.mem_filter.mp hx).2
  have h2 : y.2 = 0 := of_decide_eq_true (List.mem_filter.mp hy).2
  exact Prod.ext e (h1.trans h2.symm)
structure Mp (g h : Gr) (f : Dart → Dart) (w : Str → Str) : Prop where
  nm : (h.map (·.1)).Perm (g.map fun v => w v.1)
  ds : (darts h).Perm ((darts g).map f)
  nx : ∀ x ∈ darts g, nx h (f x) = f (nx g x)
  vo : ∀ x ∈ darts g, vo h (f x) = w (vo g x)
inductive Cp2 (f : Dart → Dart) (w : Str → Str) : Gr → Gr → Prop
  | nil : Cp2 f w [] []
  | cons (v : Str × List Dart) (n : Nat) {g h : Gr} (t : Cp2 f w g h) : Cp2 f w (v :: g) ((w v.1, (trn n v.2).map f) :: h)
/-- rows moved, turned and renamed -/
def Cp (f : Dart → Dart) (w : Str → Str) (g h : Gr) : Prop := ∃ g', g'.Perm g ∧ Cp2 f w g' h
section
variable {f f' : Dart → Dart} {w w' : Str → Str} {g h k : Gr}
theorem Cp2.nm (c : Cp2 f w g h) : h.map (·.1) = g.map fun v => w v.1 := by
  induction c with
  | nil => rfl
  | cons v n t ih => rw [List.map_cons, List.map_cons, ih]
theorem Cp2.ds (c : Cp2 f w g h) : (darts h).Perm ((darts g).map f) := by
  induction c with
  | nil => exact .nil
  | cons v n t ih =>
    unfold darts at ih ⊢
    rw [List.flatMap_cons, List.flatMap_cons, List.map_append]
    exact ((trn_perm n v.2).map f).append ih
theorem Cp2.row (c : Cp2 f w g h) {v : Str × List Dart} (hv : v ∈ g) : ∃ n, (w v.1, (trn n v.2).map f) ∈ h := by
  induction c with
  | nil => cases hv
  | cons u n t ih =>
    rcases List.mem_cons.mp hv with z | z
    · subst z
      exact ⟨n, List.mem_cons_self⟩
    · obtain ⟨m, hm⟩ := ih z
      exact ⟨m, List.mem_cons_of_mem _ hm⟩
theorem Cp2.app {g2 h2 : Gr} (c : Cp2 f w g h) (c2 : Cp2 f w g2 h2) : Cp2 f w (g ++ g2) (h ++ h2) := by
  induction c with
  | nil => exact c2
  | cons v n t ih => exact .cons v n ih
theorem Cp.nm (c : Cp f w g h) : (h.map (·.1)).Perm (g.map fun v => w v.1) := by
  obtain ⟨g', p, c⟩ := c
  rw [c.nm]
  exact p.map _
theorem Cp.ds (c : Cp f w g h) : (darts h).Perm ((darts g).map f) := by
  obtain ⟨g', p, c⟩ := c
  refine c.ds.trans (List.Perm.map f ?_)
  unfold darts
  exact p.flatMap_right _
theorem Cp.row (c : Cp f w g h) {v : Str × List Dart} (hv : v ∈ g) : ∃ n, (w v.1, (trn n v.2).map f) ∈ h := by
  obtain ⟨g', p, c⟩ := c
  exact c.row (p.mem_iff.mpr hv)
theorem Cp.mp (wf : WF g) (wfh : WF h) (c : Cp f w g h) : Mp g h f w := by
  refine ⟨c.nm, c.ds, fun x hx => ?_, fun x hx => ?_⟩
  · obtain ⟨v, hv, hm⟩ := row_of hx
    obtain ⟨i, hi⟩ := List.mem_iff_getElem?.mp hm
    obtain ⟨n, hr⟩ := c.row hv
    obtain ⟨j, h1, h2⟩ := trn_nx (n := n) hi (cyc_nx wf hv hi)
    refine nx_cyc wfh hr (i := j) ?_ ?_
    · show ((trn n v.2).map f)[j]? = _
      rw [List.getElem?_map, h1]
      rfl
    · show ((trn n v.2).map f)[(j + 1) % ((trn n v.2).map f).length]? = _
      rw [List.length_map, trn_len, List.getElem?_map, h2]
      rfl
  · obtain ⟨v, hv, hm⟩ := row_of hx
    obtain ⟨n, hr⟩ := c.row hv
    rw [vo_row wf hv hm]
    exact vo_row wfh hr (List.mem_map.mpr ⟨x, (trn_perm n v.2).mem_iff.mpr hm, rfl⟩)
theorem Cp.wf (wf : WF g) (c : Cp f w g h) (hw : ∀ v ∈ g, isNameB (w v.1) = true) (wi : ∀ u ∈ g, ∀ v ∈ g, w u.1 = w v.1 → u.1 = v.1) (fi : ∀ x ∈ darts g, ∀ y ∈ darts g, f x = f y → x = y) (fd : ∀ x ∈ darts g, isDart (f x)) (fo : ∀ x ∈ darts g, f (opp x) = opp (f x)) : WF h := by
  have hmem : ∀ y, y ∈ darts h ↔ ∃ x ∈ darts g, f x = y := fun y => by rw [c.ds.mem_iff, List.mem_map]
  refine ⟨?_, fun v hv => ?_, c.ds.nodup_iff.mpr (nodup_on wf.nd fi), fun d hd => ?_, fun d hd => ?_, ?_, ?_⟩
  · rw [c.nm.nodup_iff]
    have e : (g.map fun v => w v.1) = (g.map (·.1)).map w := by rw [List.map_map]; rfl
    rw [e]
    refine nodup_on wf.names fun x hx y hy e => ?_
    obtain ⟨u, hu, e1⟩ := List.mem_map.mp hx
    obtain ⟨v, hv, e2⟩ := List.mem_map.mp hy
    rw [← e1, ← e2] at e ⊢
    exact wi u hu v hv e
  · have : v.1 ∈ g.map fun v => w v.1 := c.nm.mem_iff.mp (List.mem_map.mpr ⟨v, hv, rfl⟩)
    obtain ⟨u, hu, e⟩ := List.mem_map.mp this
    rw [← e]
    exact hw u hu
  · obtain ⟨x, hx, e⟩ := (hmem d).mp hd
    exact e ▸ fd x hx
  · obtain ⟨x, hx, e⟩ := (hmem d).mp hd
    rw [← e, ← fo x hx]
    exact (hmem _).mpr ⟨_, wf.op x hx, rfl⟩
  · have := c.ds.length_eq
    rw [List.length_map] at this
    rw [this]
    exact wf.sz
  · have := c.nm.length_eq
    rw [List.length_map, List.length_map] at this
    rw [this]
    exact wf.vs
theorem Mp.mem (m : Mp g h f w) {y : Dart} : y ∈ darts h ↔ ∃ x ∈ darts g, f x = y := by rw [m.ds.mem_iff, List.mem_map]
theorem Mp.inj (m : Mp g h f w) (wfh : WF h) : ∀ x ∈ darts g, ∀ y ∈ darts g, f x = f y → x = y := inj_of_nodup (m.ds.nodup_iff.mp wfh.nd)
theorem Mp.iso (m : Mp g h f w) (wfh : WF h) (fo : ∀ x ∈ darts g, f (opp x) = opp (f x)) : IsIso g h f :=
  ⟨fun x hx => m.mem.mpr ⟨x, hx, rfl⟩, m.inj wfh, fun y hy => m.mem.mp hy, fun x hx => (m.nx x hx).symm, fo⟩
theorem Mp.conn (m : Mp g h f w) (wf : WF g) (fo : ∀ x ∈ darts g, f (opp x) = opp (f x)) (cn : Conn g) : Conn h := by
  rintro S ⟨v, hv, hs⟩ hS
  have hnm : ∀ u, u ∈ h.map (·.1) ↔ ∃ v ∈ g.map (·.1), w v = u := fun u => by
    rw [m.nm.mem_iff, List.mem_map]
    constructor
    · rintro ⟨v, hv, e⟩
      exact ⟨v.1, List.mem_map.mpr ⟨v, hv, rfl⟩, e⟩
    · rintro ⟨v, hv, e⟩
      obtain ⟨u, hu, e2⟩ := List.mem_map.mp hv
      exact ⟨u, hu, by rw [e2]; exact e⟩
  have all := cn (fun u => S (w u)) (by
    obtain ⟨u, hu, e⟩ := (hnm v).mp hv
    exact ⟨u, hu, by rw [e]; exact hs⟩) (fun d hd hs => by
    rw [← m.vo _ (wf.op d hd), fo d hd]
    refine hS _ (m.mem.mpr ⟨d, hd, rfl⟩) ?_
    rw [m.vo d hd]
    exact hs)
  intro u hu
  obtain ⟨v, hv, e⟩ := (hnm u).mp hu
  exact e ▸ all v hv
theorem Mp.comp (m : Mp g h f w) (m' : Mp h k f' w') : Mp g k (fun x => f' (f x)) (fun u => w' (w u)) := by
  refine ⟨?_, ?_, fun x hx => ?_, fun x hx => ?_⟩
  · refine m'.nm.trans ?_
    have e1 : (h.map fun v => w' v.1) = (h.map (·.1)).map w' := by rw [List.map_map]; rfl
    have e2 : (g.map fun v => w' (w v.1)) = (g.map fun v => w v.1).map w' := by rw [List.map_map]; rfl
    rw [e1, e2]
    exact m.nm.map _
  · refine m'.ds.trans ?_
    have e2 : ((darts g).map fun x => f' (f x)) = ((darts g).map f).map f' := by rw [List.map_map]; rfl
    rw [e2]
    exact m.ds.map _
  · rw [m'.nx _ (m.mem.mpr ⟨x, hx, rfl⟩), m.nx x hx]
  · rw [m'.vo _ (m.mem.mpr ⟨x, hx, rfl⟩), m.vo x hx]
theorem Mp.cong (m : Mp g h f w) (wf : WF g) (hf : ∀ x ∈ darts g, f x = f' x) (hw : ∀ v ∈ g, w v.1 = w' v.1) : Mp g h f' w' := by
  have hv : ∀ x ∈ darts g, w (Q9.vo g x) = w' (Q9.vo g x) := fun x hx => by
    obtain ⟨v, hv, e⟩ := List.mem_map.mp (vo_mem hx)
    rw [← e]
    exact hw v hv
  refine ⟨?_, ?_, fun x hx => ?_, fun x hx => ?_⟩
  · rw [List.map_congr_left (g := fun v => w v.1) fun v hv => (hw v hv).symm]
    exact m.nm
  · rw [List.map_congr_left (g := f) fun v hv => (hf v hv).symm]
    exact m.ds
  · rw [← hf x hx, ← hf _ (nx_mem hx)]
    exact m.nx x hx
  · rw [← hf x hx, ← hv x hx]
    exact m.vo x hx
theorem Mp.two (m : Mp g h f w) (m' : Mp g k f w) : Mp h k id id := by
  refine ⟨?_, ?_, fun x hx => ?_, fun x hx => ?_⟩
  · show (k.map (·.1)).Perm (h.map (·.1))
    exact m'.nm.trans m.nm.symm
  · rw [List.map_id]
    exact m'.ds.trans m.ds.symm
  · obtain ⟨z, hz, e⟩ := m.mem.mp hx
    rw [← e]
    show Q9.nx k (f z) = Q9.nx h (f z)
    rw [m.nx z hz, m'.nx z hz]
  · obtain ⟨z, hz, e⟩ := m.mem.mp hx
    rw [← e]
    show Q9.vo k (f z) = Q9.vo h (f z)
    rw [m.vo z hz, m'.vo z hz]
end
theorem minOf_le {α : Type} [DecidableEq α] [DatumOrd α] : ∀ (xs : List α) (x : α), ∀ y ∈ x :: xs, leD (minOf x xs) y = true := by
  have rfl' : ∀ a : α, leD a a = true := fun a => by
    rcases leD_tot.total a a with z | z <;> exact z
  intro xs
  induction xs with
  | nil =>
    intro x y hy
    rw [List.mem_singleton.mp hy]
    exact rfl' x
  | cons z xs ih =>
    intro x y hy
    have e : minOf x (z :: xs) = minOf (if DatumOrd.lt z x = true then z else x) xs := rfl
    rw [e]
    have hb := ih (if DatumOrd.lt z x = true then z else x)
    have h0 := hb _ List.mem_cons_self
    have hx : leD (if DatumOrd.lt z x = true then z else x) x = true := by
      split
      · rename_i hl
        rcases leD_tot.total z x with q | q
        · exact q
        · unfold leD at q
          rw [hl] at q
          cases q
      · exact rfl' x
    have hz : leD (if DatumOrd.lt z x = true then z else x) z = true := by
      split
      · exact rfl' z
      · rename_i hl
        unfold leD
        simpa using hl
    rcases List.mem_cons.mp hy with q | q
    · rw [q]
      exact leD_tot.trans _ _ _ h0 hx
    · rcases List.mem_cons.mp q with q | q
      · rw [q]
        exact leD_tot.trans _ _ _ h0 hz
      · exact hb y (List.mem_cons_of_mem _ q)
theorem ixD_get {α : Type} [DecidableEq α] {x : α} {xs : List α} (h : x ∈ xs) : ixD x xs < xs.length ∧ xs[ixD x xs]? = some x := by
  unfold ixD
  have hl : xs.idxOf x < xs.length := List.idxOf_lt_length_iff.mpr h
  exact ⟨hl, by rw [List.getElem?_eq_getElem hl, List.getElem_idxOf hl]⟩
theorem start_get {r : List Dart} (h : r ≠ []) : ∃ m, startOf r < r.length ∧ r[startOf r]? = some m ∧ m ∈ r ∧ ∀ y ∈ r, leD m y = true := by
  match r, h with
  | x :: xs, _ =>
    have hm := minOf_mem x xs
    obtain ⟨hl, he⟩ := ixD_get hm
    exact ⟨minOf x xs, hl, he, hm, minOf_le xs x⟩
theorem rot_eq {r1 r2 : List Dart} (p : r1.Perm r2) {φ : Dart → Dart} (h1 : ∀ (i : Nat) (x : Dart), r1[i]? = some x → r1[(i + 1) % r1.length]? = some (φ x)) (h2 : ∀ (i : Nat) (x : Dart), r2[i]? = some x → r2[(i + 1) % r2.length]? = some (φ x)) : rotT r1 = rotT r2 := by
  have hlen := p.length_eq
  by_cases e : r1 = []
  · subst e
    rw [List.Perm.nil_eq p]
  · have e2 : r2 ≠ [] := fun z => by
      subst z
      exact e (List.Perm.eq_nil p)
    obtain ⟨m1, l1, g1, k1, q1⟩ := start_get e
    obtain ⟨m2, l2, g2, k2, q2⟩ := start_get e2
    have em : m1 = m2 := leD_anti (q1 _ (p.mem_iff.mpr k2)) (q2 _ (p.mem_iff.mp k1))
    subst em
    have hp := List.length_pos_iff.mpr e
    have step : ∀ i : Nat, i < r1.length → (trn (startOf r1) r1)[i]? = (trn (startOf r2) r2)[i]? := by
      intro i
      induction i with
      | zero =>
        intro _
        rw [trn_get (Nat.le_of_lt l1) hp, trn_get (Nat.le_of_lt l2) (by omega), Nat.zero_add, Nat.zero_add, Nat.mod_eq_of_lt l1, Nat.mod_eq_of_lt l2, g1, g2]
      | succ i ih =>
        intro hi
        have h0 := ih (by omega)
        rw [trn_get (Nat.le_of_lt l1) (by omega), trn_get (Nat.le_of_lt l2) (by omega)] at h0 ⊢
        have hx : r1[(i + startOf r1) % r1.length]? = some (r1[(i + startOf r1) % r1.length]'(Nat.mod_lt _ hp)) := List.getElem?_eq_getElem (Nat.mod_lt _ hp)
        have a1 := h1 _ _ hx
        have a2 := h2 _ _ (h0 ▸ hx)
        rw [Nat.mod_add_mod] at a1 a2
        rw [show i + 1 + startOf r1 = i + startOf r1 + 1 by omega, show i + 1 + startOf r2 = i + startOf r2 + 1 by omega, a1, a2]
    show trn (startOf r1) r1 = trn (startOf r2) r2
    refine List.ext_getElem? fun i => ?_
    by_cases hi : i < r1.length
    · exact step i hi
    · rw [List.getElem?_eq_none (by rw [trn_len]; omega), List.getElem?_eq_none (by rw [trn_len]; omega)]
theorem norm_eq {h1 h2 : Gr} (wf1 : WF h1) (wf2 : WF h2) (m : Mp h1 h2 id id) : normT h1 = normT h2 := by
  have pn : (h2.map (·.1)).Perm (h1.map (·.1)) := m.nm
  unfold normT
  rw [srt_eq pn]
  refine List.map_congr_left fun v hv => ?_
  rw [mem_srt] at hv
  obtain ⟨u1, hu1, e1⟩ := List.mem_map.mp hv
  obtain ⟨u2, hu2, e2⟩ := List.mem_map.mp (pn.mem_iff.mpr hv)
  have a1 : asc h1 v = some u1.2 := asc_of wf1.names (by rw [← e1]; exact hu1)
  have a2 : asc h2 v = some u2.2 := asc_of wf2.names (by rw [← e2]; exact hu2)
  rw [a1, a2]
  show (v, rotT u1.2) = (v, rotT u2.2)
  congr 1
  have hd : ∀ x, x ∈ darts h1 ↔ x ∈ darts h2 := fun x => by
    have := m.ds.mem_iff (a := x)
    rw [List.map_id] at this
    exact this.symm
  have row : ∀ (g : Gr) (wf : WF g) (u : Str × List Dart), u ∈ g → ∀ x, x ∈ u.2 ↔ x ∈ darts g ∧ vo g x = u.1 := fun g wf u hu x => by
    constructor
    · intro hx
      exact ⟨darts_mem hu hx, vo_row wf hu hx⟩
    · rintro ⟨hx, e⟩
      obtain ⟨t, ht, hm⟩ := row_of hx
      rw [vo_row wf ht hm] at e
      rw [← same_row wf ht hu e]
      exact hm
  have nd : ∀ (g : Gr) (wf : WF g) (u : Str × List Dart), u ∈ g → u.2.Nodup := fun g wf u hu => by
    obtain ⟨i, hi⟩ := List.mem_iff_getElem?.mp hu
    have := wf.nd
    rw [darts_split hi, List.nodup_append, List.nodup_append] at this
    exact this.2.1.1
  refine rot_eq (φ := nx h1) ?_ (fun i x hx => cyc_nx wf1 hu1 hx) (fun i x hx => ?_)
  · rw [List.perm_ext_iff_of_nodup (nd h1 wf1 u1 hu1) (nd h2 wf2 u2 hu2)]
    intro x
    rw [row h1 wf1 u1 hu1, row h2 wf2 u2 hu2, hd, e1, e2]
    constructor
    · rintro ⟨hx, e⟩
      have := m.vo x ((hd x).mpr hx)
      exact ⟨hx, this.trans e⟩
    · rintro ⟨hx, e⟩
      have := m.vo x ((hd x).mpr hx)
      exact ⟨hx, this.symm.trans e⟩
  · have := m.nx x ((hd x).mpr (darts_mem hu2 (List.mem_of_getElem? hx)))
    have e : nx h2 x = nx h1 x := this
    rw [← e]
    exact cyc_nx wf2 hu2 hx
theorem norm_cp {l : Gr} (nd : (l.map (·.1)).Nodup) : Cp id id l (normT l) := by
  refine ⟨(srt (l.map (·.1))).map fun v => (v, (asc l v).getD []), ?_, ?_⟩
  · refine ((srt_perm (l.map (·.1))).map _).trans ?_
    have e : ((l.map (·.1)).map fun v => (v, (asc l v).getD [])) = l := by
      rw [List.map_map]
      conv => rhs; rw [← List.map_id l]
      refine List.map_congr_left fun v hv => ?_
      show (v.1, (asc l v.1).getD []) = v
      rw [asc_of nd (show (v.1, v.2) ∈ l from hv)]
      rfl
    rw [e]
  · unfold normT
    generalize srt (l.map (·.1)) = ns
    induction ns with
    | nil => exact .nil
    | cons v ns ih =>
      have := Cp2.cons (f := id) (w := id) (v, (asc l v).getD []) (startOf ((asc l v).getD [])) ih
      rw [List.map_id] at this
      exact this
theorem norm_wf {l : Gr} (wf : WF l) : WF (normT l) :=
  (norm_cp wf.names).wf wf (fun v hv => wf.isn v hv) (fun _ _ _ _ e => e) (fun _ _ _ _ e => e) (fun x hx => wf.dart x hx) fun _ _ => rfl
theorem norm_mp {l : Gr} (wf : WF l) : Mp l (normT l) id id := (norm_cp wf.names).mp wf (norm_wf wf)
end Q9
namespace Q9
open PySem L2
open PySem.W (Datum DatumOrd minOf)
theorem flipD_fst (e : Str) (d : Dart) : (flipD e d).1 = d.1 := by
  unfold flipD
  split <;> rfl
theorem flipD_two (e : Str) (d : Dart) : flipD e (flipD e d) = d := by
  by_cases h : d.1 = e
  · have h1 : flipD e d = opp d := if_pos h
    have h2 : flipD e (opp d) = opp (opp d) := if_pos h
    rw [h1, h2, opp_opp]
  · have h1 : flipD e d = d := if_neg h
    rw [h1, h1]
theorem flipD_opp (e : Str) (d : Dart) : flipD e (opp d) = opp (flipD e d) := by
  by_cases h : d.1 = e
  · have h1 : flipD e d = opp d := if_pos h
    have h2 : flipD e (opp d) = opp (opp d) := if_pos h
    rw [h1, h2]
  · have h1 : flipD e d = d := if_neg h
    have h2 : flipD e (opp d) = opp d := if_neg h
    rw [h1, h2]
theorem flipD_dart {e : Str} {d : Dart} (h : isDart d) : isDart (flipD e d) := by
  unfold flipD
  split
  · exact isDart_opp h
  · exact h
theorem cp_map (f : Dart → Dart) (w : Str → Str) (g : Gr) : Cp f w g (g.map fun v => (w v.1, v.2.map f)) := by
  refine ⟨g, .refl _, ?_⟩
  induction g with
  | nil => exact .nil
  | cons v g ih =>
    have := Cp2.cons (f := f) (w := w) v 0 ih
    rw [trn_zero] at this
    exact this
theorem cp_flip (g : Gr) (e : Str) : Cp (flipD e) id g (flipG g e) := cp_map (flipD e) id g
theorem flip_wf {g : Gr} (wf : WF g) (e : Str) : WF (flipG g e) :=
  (cp_flip g e).wf wf (fun v hv => wf.isn v hv) (fun _ _ _ _ e => e) (fun x _ y _ h => by rw [← flipD_two e x, h, flipD_two]) (fun x hx => flipD_dart (wf.dart x hx)) fun x _ => flipD_opp e x
def phi (F : List Str) (d : Dart) : Dart := if d.1 ∈ F then opp d else d
theorem phi_fst (F : List Str) (d : Dart) : (phi F d).1 = d.1 := by
  unfold phi
  split <;> rfl
theorem phi_opp (F : List Str) (d : Dart) : phi F (opp d) = opp (phi F d) := by
  by_cases h : d.1 ∈ F
  · have h1 : phi F d = opp d := if_pos h
    have h2 : phi F (opp d) = opp (opp d) := if_pos h
    rw [h1, h2]
  · have h1 : phi F d = d := if_neg h
    have h2 : phi F (opp d) = opp d := if_neg h
    rw [h1, h2]
theorem phi_step {F : List Str} {e : Str} (h : e ∉ F) (d : Dart) : flipD e (phi F d) = phi (F ++ [e]) d := by
  by_cases h1 : d.1 ∈ F
  · have e1 : phi F d = opp d := if_pos h1
    have e2 : phi (F ++ [e]) d = opp d := if_pos (List.mem_append_left _ h1)
    have e3 : flipD e (opp d) = opp d := if_neg fun z => h (by have z' : d.1 = e := z; exact z' ▸ h1)
    rw [e1, e2, e3]
  · have e1 : phi F d = d := if_neg h1
    rw [e1]
    by_cases h2 : d.1 = e
    · have e2 : phi (F ++ [e]) d = opp d := if_pos (List.mem_append_right _ (by simp [h2]))
      have e3 : flipD e d = opp d := if_pos h2
      rw [e2, e3]
    · have e2 : phi (F ++ [e]) d = d := if_neg fun z => by
        rcases List.mem_append.mp z with z | z
        · exact h1 z
        · exact h2 (List.mem_singleton.mp z)
      have e3 : flipD e d = d := if_neg h2
      rw [e2, e3]
/-- c: g with the edges F flipped, turned and moved -/
structure Fl (g : Gr) (F : List Str) (c : Gr) : Prop where
  wf : WF c
  mp : Mp g c (phi F) id
section
variable {g h c : Gr} {F : List Str} {e : Str}
theorem mp_refl (g : Gr) : Mp g g id id := ⟨.refl _, by rw [List.map_id], fun _ _ => rfl, fun _ _ => rfl⟩
theorem Fl.start (wf : WF g) : Fl g [] g := ⟨wf, (mp_refl g).cong wf (fun x _ => (if_neg (by simp)).symm) fun _ _ => rfl⟩
theorem Fl.edges (wf : WF g) (l : Fl g F c) : (edgesRaw c).Perm (edgesRaw g) := by
  rw [List.perm_ext_iff_of_nodup (edges_nd l.wf) (edges_nd wf)]
  intro e
  constructor
  · intro h
    obtain ⟨x, hx, e1⟩ := l.mp.mem.mp (edge_mem.mp h)
    have := dart_edge wf hx
    rw [← phi_fst F x, e1] at this
    exact this
  · intro h
    have h1 := dart_edge l.wf (l.mp.mem.mpr ⟨_, edge_mem.mp h, rfl⟩)
    rw [phi_fst] at h1
    exact h1
theorem Fl.step (wf : WF g) (l : Fl g F c) (he : e ∉ F) : Fl g (F ++ [e]) (normT (flipG c e)) := by
  refine ⟨norm_wf (flip_wf l.wf e), ?_⟩
  have m := (l.mp.comp ((cp_flip c e).mp l.wf (flip_wf l.wf e))).comp (norm_mp (flip_wf l.wf e))
  exact m.cong wf (fun x _ => phi_step he x) fun _ _ => rfl
end
theorem conn_rows {g : Gr} (wf : WF g) (cn : Conn g) (hd : darts g ≠ []) : ∀ v ∈ g, v.2 ≠ [] := by
  intro v hv e
  obtain ⟨x, hx⟩ := List.exists_mem_of_ne_nil _ hd
  obtain ⟨d, hd1, e1⟩ := cn (fun v => ∃ d ∈ darts g, vo g d = v) ⟨vo g x, vo_mem hx, x, hx, rfl⟩ (fun d hd _ => ⟨opp d, wf.op d hd, rfl⟩) v.1 (List.mem_map.mpr ⟨v, hv, rfl⟩)
  obtain ⟨u, hu, hm⟩ := row_of hd1
  rw [vo_row wf hu hm] at e1
  rw [same_row wf hu hv e1, e] at hm
  cases hm
section
variable {g h k : Gr} {f f' : Dart → Dart}
theorem iso_vo (wf : WF g) (wfh : WF h) (i : IsIso g h f) {x y : Dart} (hx : x ∈ darts g) (hy : y ∈ darts g) (e : vo g x = vo g y) : vo h (f x) = vo h (f y) := by
  obtain ⟨v, hv, hxv⟩ := row_of hx
  obtain ⟨u, hu, hyu⟩ := row_of hy
  rw [vo_row wf hv hxv, vo_row wf hu hyu] at e
  have := same_row wf hv hu e
  subst this
  refine (row_all wf (R := fun z => vo h (f z) = vo h (f x)) (fun z hz hr => ?_) hv hxv rfl y hyu).symm
  rw [i.nx z hz, vo_nx wfh (i.mem z hz)]
  exact hr
theorem IsIso.refl (g : Gr) : IsIso g g id := ⟨fun _ h => h, fun _ _ _ _ e => e, fun y hy => ⟨y, hy, rfl⟩, fun _ _ => rfl, fun _ _ => rfl⟩
theorem IsIso.trans (wf : WF g) (i : IsIso g h f) (j : IsIso h k f') : IsIso g k (fun x => f' (f x)) :=
  ⟨fun x hx => j.mem _ (i.mem x hx), fun x hx y hy e => i.inj x hx y hy (j.inj _ (i.mem x hx) _ (i.mem y hy) e), fun y hy => by
    obtain ⟨z, hz, e⟩ := j.sur y hy
    obtain ⟨x, hx, e2⟩ := i.sur z hz
    exact ⟨x, hx, by rw [e2, e]⟩, fun x hx => by rw [i.nx x hx, j.nx _ (i.mem x hx)], fun x hx => by rw [i.op x hx, j.op _ (i.mem x hx)]⟩
open Classical in
theorem IsIso.symm (wf : WF g) (i : IsIso g h f) : ∃ f', IsIso h g f' ∧ ∀ x ∈ darts g, f' (f x) = x := by
  let f' : Dart → Dart := fun y => if q : ∃ x ∈ darts g, f x = y then q.choose else y
  have key : ∀ x ∈ darts g, f' (f x) = x := fun x hx => by
    have q : ∃ z ∈ darts g, f z = f x := ⟨x, hx, rfl⟩
    show (if q : ∃ z ∈ darts g, f z = f x then q.choose else f x) = x
    rw [dif_pos q]
    exact i.inj _ q.choose_spec.1 x hx q.choose_spec.2
  refine ⟨f', ⟨fun y hy => ?_, fun y hy z hz e => ?_, fun x hx => ⟨f x, i.mem x hx, key x hx⟩, fun y hy => ?_, fun y hy => ?_⟩, key⟩
  · obtain ⟨x, hx, e⟩ := i.sur y hy
    rw [← e, key x hx]
    exact hx
  · obtain ⟨a, ha, e1⟩ := i.sur y hy
    obtain ⟨b, hb, e2⟩ := i.sur z hz
    rw [← e1, ← e2, key a ha, key b hb] at e
    rw [← e1, ← e2, e]
  · obtain ⟨x, hx, e⟩ := i.sur y hy
    rw [← e, ← i.nx x hx, key x hx, key _ (nx_mem hx)]
  · obtain ⟨x, hx, e⟩ := i.sur y hy
    rw [← e, ← i.op x hx, key x hx, key _ (wf.op x hx)]
theorem iso_vo' (wf : WF g) (wfh : WF h) (i : IsIso g h f) {x y : Dart} (hx : x ∈ darts g) (hy : y ∈ darts g) (e : vo h (f x) = vo h (f y)) : vo g x = vo g y := by
  obtain ⟨f', j, hk⟩ := i.symm wf
  have := iso_vo wfh wf j (i.mem x hx) (i.mem y hy) e
  rwa [hk x hx, hk y hy] at this
def hd0 (r : List Dart) : Dart := (r[0]?).getD (⟨#[]⟩, 0)
theorem hd0_mem {r : List Dart} (h : r ≠ []) : hd0 r ∈ r := by
  match r, h with
  | x :: xs, _ => exact List.mem_cons_self
/-- the vertices' new names, the edges' new names, the edges that are flipped -/
def vlOf (g h : Gr) (f : Dart → Dart) : List (Str × Str) := g.map fun v => (v.1, vo h (f (hd0 v.2)))
def elOf (g : Gr) (f : Dart → Dart) : List (Str × Str) := (srt (edgesRaw g)).map fun e => (e, (f (e, 0)).1)
def flOf (g : Gr) (f : Dart → Dart) : List Str := (srt (edgesRaw g)).filter fun e => decide ((f (e, 0)).2 = 1)
theorem vl_fst : (vlOf g h f).map (·.1) = g.map (·.1) := by
  unfold vlOf
  rw [List.map_map]
  rfl
theorem el_fst : (elOf g f).map (·.1) = srt (edgesRaw g) := by
  unfold elOf
  rw [List.map_map]
  exact List.map_id _
theorem nw_vl (wf : WF g) {v : Str × List Dart} (hv : v ∈ g) : nw (vlOf g h f) v.1 = vo h (f (hd0 v.2)) := by
  unfold nw
  rw [asc_of (by rw [vl_fst]; exact wf.names) (show (v.1, vo h (f (hd0 v.2))) ∈ vlOf g h f from List.mem_map.mpr ⟨v, hv, rfl⟩)]
  rfl
theorem nw_el (wf : WF g) {e : Str} (he : e ∈ edgesRaw g) : nw (elOf g f) e = (f (e, 0)).1 := by
  unfold nw
  rw [asc_of (by rw [el_fst]; exact srt_nd (edges_nd wf)) (show (e, (f (e, 0)).1) ∈ elOf g f from List.mem_map.mpr ⟨e, mem_srt.mpr he, rfl⟩)]
  rfl
theorem iso_mp (wf : WF g) (wfh : WF h) (cn : Conn g) (ch : Conn h) (hd : darts g ≠ []) (i : IsIso g h f) : Mp g h f (nw (vlOf g h f)) := by
  have rows := conn_rows wf cn hd
  have hdh : darts h ≠ [] := fun z => by
    obtain ⟨x, hx⟩ := List.exists_mem_of_ne_nil _ hd
    have := i.mem x hx
    rw [z] at this
    cases this
  have rowsh := conn_rows wfh ch hdh
  have hvo : ∀ x ∈ darts g, vo h (f x) = nw (vlOf g h f) (vo g x) := fun x hx => by
    obtain ⟨v, hv, hm⟩ := row_of hx
    have hh := hd0_mem (rows v hv)
    rw [vo_row wf hv hm, nw_vl wf hv]
    exact iso_vo wf wfh i hx (darts_mem hv hh) (by rw [vo_row wf hv hm, vo_row wf hv hh])
  refine ⟨?_, ?_, fun x hx => (i.nx x hx).symm, hvo⟩
  · have e : (g.map fun v => nw (vlOf g h f) v.1) = (g.map (·.1)).map (nw (vlOf g h f)) := by rw [List.map_map]; rfl
    rw [e, List.perm_ext_iff_of_nodup wfh.names (nodup_on wf.names fun a ha b hb e => ?_)]
    · intro u
      constructor
      · intro hu
        obtain ⟨t, ht, e⟩ := List.mem_map.mp hu
        have hh := hd0_mem (rowsh t ht)
        obtain ⟨x, hx, ex⟩ := i.sur _ (darts_mem ht hh)
        refine List.mem_map.mpr ⟨vo g x, vo_mem hx, ?_⟩
        rw [← hvo x hx, ex, vo_row wfh ht hh]
        exact e
      · intro hu
        obtain ⟨v, hv, e⟩ := List.mem_map.mp hu
        obtain ⟨t, ht, e1⟩ := List.mem_map.mp hv
        have hh := hd0_mem (rows t ht)
        have hx := darts_mem ht hh
        rw [← e, ← e1]
        have := hvo _ hx
        rw [vo_row wf ht hh] at this
        rw [← this]
        exact vo_mem (i.mem _ hx)
    · obtain ⟨u, hu, e1⟩ := List.mem_map.mp ha
      obtain ⟨v, hv, e2⟩ := List.mem_map.mp hb
      have h1 := hd0_mem (rows u hu)
      have h2 := hd0_mem (rows v hv)
      rw [← e1, ← e2, nw_vl wf hu, nw_vl wf hv] at e
      have := iso_vo' wf wfh i (darts_mem hu h1) (darts_mem hv h2) e
      rw [vo_row wf hu h1, vo_row wf hv h2] at this
      rw [← e1, ← e2]
      exact this
  · rw [List.perm_ext_iff_of_nodup wfh.nd (nodup_on wf.nd i.inj)]
    intro y
    rw [List.mem_map]
    exact ⟨fun hy => i.sur y hy, fun ⟨x, hx, e⟩ => e ▸ i.mem x hx⟩
/-- flipped and renamed along an isomorphism -/
theorem ren_phi (wf : WF g) (wfh : WF h) (i : IsIso g h f) {x : Dart} (hx : x ∈ darts g) : ((nw (elOf g f) (phi (flOf g f) x).1, (phi (flOf g f) x).2) : Dart) = f x := by
  have he := dart_edge wf hx
  rw [phi_fst, nw_el wf he]
  have h0 := edge_mem.mp he
  have hb := (wfh.dart _ (i.mem _ h0)).2
  have hF : x.1 ∈ flOf g f ↔ (f (x.1, 0)).2 = 1 := by
    unfold flOf
    rw [List.mem_filter, mem_srt, decide_eq_true_eq]
    exact ⟨fun z => z.2, fun z => ⟨he, z⟩⟩
  rcases (wf.dart x hx).2 with z | z
  · have ex : x = (x.1, 0) := Prod.ext rfl z
    rcases hb with b | b
    · have e1 : phi (flOf g f) x = x := if_neg fun q => by rw [hF.mp q] at b; cases b
      rw [e1, z]
      conv => rhs; rw [ex]
      exact Prod.ext rfl b.symm
    · have e1 : phi (flOf g f) x = opp x := if_pos (hF.mpr b)
      rw [e1]
      conv => rhs; rw [ex]
      refine Prod.ext rfl ?_
      show 1 - x.2 = _
      rw [z, b]
      rfl
  · have ex : x = opp (x.1, 0) := Prod.ext rfl z
    have ef : f x = opp (f (x.1, 0)) := by
      conv => lhs; rw [ex]
      exact i.op _ h0
    rw [ef]
    rcases hb with b | b
    · have e1 : phi (flOf g f) x = x := if_neg fun q => by rw [hF.mp q] at b; cases b
      rw [e1, z]
      refine Prod.ext rfl ?_
      show 1 = 1 - (f (x.1, 0)).2
      rw [b]
      rfl
    · have e1 : phi (flOf g f) x = opp x := if_pos (hF.mpr b)
      rw [e1]
      refine Prod.ext rfl ?_
      show 1 - x.2 = 1 - (f (x.1, 0)).2
      rw [z, b]
theorem turns {c : Gr} (wf : WF g) (wfh : WF h) (cn : Conn g) (ch : Conn h) (hd : darts g ≠ []) (i : IsIso g h f) (l : Fl g (flOf g f) c) :
    RenOk (vlOf g h f) (c.map (·.1)) ∧ RenOk (elOf g f) (edgesRaw c) ∧ WF (renG c (vlOf g h f) (elOf g f)) ∧ (∀ d ∈ darts c, d.1 ∈ edgesRaw c) ∧ normT (renG c (vlOf g h f) (elOf g f)) = normT h := by
  have m := iso_mp wf wfh cn ch hd i
  have hnm : (c.map (·.1)).Perm (g.map (·.1)) := l.mp.nm
  have vmem : ∀ v ∈ c, ∃ u ∈ g, u.1 = v.1 := fun v hv => List.mem_map.mp (hnm.mem_iff.mp (List.mem_map.mpr ⟨v, hv, rfl⟩))
  have e0 : (g.map fun v => nw (vlOf g h f) v.1) = (g.map (·.1)).map (nw (vlOf g h f)) := by rw [List.map_map]; rfl
  have vinj : ∀ a ∈ g.map (·.1), ∀ b ∈ g.map (·.1), nw (vlOf g h f) a = nw (vlOf g h f) b → a = b := inj_of_nodup (by rw [← e0]; exact m.nm.nodup_iff.mp wfh.names)
  have visn : ∀ u ∈ g, isNameB (nw (vlOf g h f) u.1) = true := fun u hu => by
    have : nw (vlOf g h f) u.1 ∈ h.map (·.1) := m.nm.mem_iff.mpr (List.mem_map.mpr ⟨u, hu, rfl⟩)
    obtain ⟨t, ht, e⟩ := List.mem_map.mp this
    rw [← e]
    exact wfh.isn t ht
  have dmem : ∀ d ∈ darts c, ∃ x ∈ darts g, d = phi (flOf g f) x := fun d hd => by
    obtain ⟨x, hx, e⟩ := l.mp.mem.mp hd
    exact ⟨x, hx, e.symm⟩
  have eP := l.edges wf
  have cp := cp_map (fun d => ((nw (elOf g f) d.1, d.2) : Dart)) (nw (vlOf g h f)) c
  have wfr : WF (renG c (vlOf g h f) (elOf g f)) := by
    refine cp.wf l.wf (fun v hv => ?_) (fun u hu v hv e => ?_) (fun x hx y hy e => ?_) (fun x hx => ?_) fun x hx => ?_
    · obtain ⟨u, hu, e⟩ := vmem v hv
      rw [← e]
      exact visn u hu
    · exact vinj _ (hnm.mem_iff.mp (List.mem_map.mpr ⟨u, hu, rfl⟩)) _ (hnm.mem_iff.mp (List.mem_map.mpr ⟨v, hv, rfl⟩)) e
    · obtain ⟨a, ha, e1⟩ := dmem x hx
      obtain ⟨b, hb, e2⟩ := dmem y hy
      subst e1; subst e2
      have e' : f a = f b := by rw [← ren_phi wf wfh i ha, ← ren_phi wf wfh i hb]; exact e
      rw [i.inj a ha b hb e']
    · obtain ⟨a, ha, e1⟩ := dmem x hx
      subst e1
      show isDart (nw (elOf g f) (phi (flOf g f) a).1, (phi (flOf g f) a).2)
      rw [ren_phi wf wfh i ha]
      exact wfh.dart _ (i.mem a ha)
    · rfl
  have mr := (l.mp.comp (cp.mp l.wf wfr)).cong (f' := f) (w' := nw (vlOf g h f)) wf (fun x hx => ren_phi wf wfh i hx) fun _ _ => rfl
  refine ⟨⟨?_, fun n hn => ?_, fun n hn => ?_, ?_⟩, ⟨?_, fun n hn => ?_, fun n hn => ?_, ?_⟩, wfr, fun d hd => dart_edge l.wf hd, norm_eq wfr wfh (mr.two m)⟩
  · rw [hnm.length_eq, ← vl_fst (h := h) (f := f), List.length_map]
  · rw [vl_fst]
    exact hnm.mem_iff.mp hn
  · obtain ⟨u, hu, e⟩ := List.mem_map.mp (hnm.mem_iff.mp hn)
    rw [← e]
    exact visn u hu
  · exact nodup_on l.wf.names fun a ha b hb e => vinj a (hnm.mem_iff.mp ha) b (hnm.mem_iff.mp hb) e
  · rw [eP.length_eq]
    unfold elOf
    rw [List.length_map, srt_len]
  · rw [el_fst, mem_srt]
    exact eP.mem_iff.mp hn
  · have he := eP.mem_iff.mp hn
    rw [nw_el wf he]
    exact (wfh.dart _ (i.mem _ (edge_mem.mp he))).1
  · refine nodup_on (edges_nd l.wf) fun a ha b hb e => ?_
    have ha' := edge_mem.mp (eP.mem_iff.mp ha)
    have hb' := edge_mem.mp (eP.mem_iff.mp hb)
    rw [nw_el wf (eP.mem_iff.mp ha), nw_el wf (eP.mem_iff.mp hb)] at e
    have da := (wfh.dart _ (i.mem _ ha')).2
    have db := (wfh.dart _ (i.mem _ hb')).2
    by_cases e2 : (f (a, 0)).2 = (f (b, 0)).2
    · exact congrArg Prod.fst (i.inj _ ha' _ hb' (Prod.ext e e2))
    · have e3 : f (a, 0) = f (opp (b, 0)) := by
        rw [i.op _ hb']
        refine Prod.ext e ?_
        show (f (a, 0)).2 = 1 - (f (b, 0)).2
        omega
      have e4 := i.inj _ ha' _ (wf.op _ hb') e3
      have : (0 : Int) = 1 - 0 := congrArg Prod.snd e4
      cases this
theorem dartsOf_pw (g : Gr) (wf : WF g) : (dartsOf g).Pairwise (fun a b => leD a b = true) ∧ (dartsOf g).Nodup := by
  have hs := srt_pw (edgesRaw g)
  have hn := srt_nd (edges_nd wf)
  have lt_ne : ∀ (a b : Dart), a.1 ≠ b.1 → DatumOrd.lt a b = DatumOrd.lt a.1 b.1 := fun a b h => by
    show (if a.1 = b.1 then _ else _) = _
    rw [if_neg h]
  unfold dartsOf
  constructor
  · rw [List.pairwise_flatMap]
    refine ⟨fun e _ => ?_, ?_⟩
    · rw [List.pairwise_cons]
      refine ⟨fun y hy => ?_, List.pairwise_singleton _ _⟩
      rw [List.mem_singleton.mp hy]
      show (!(if e = e then DatumOrd.lt (1 : Int) 0 else DatumOrd.lt e e)) = true
      rw [if_pos rfl]
      decide
    · refine (hs.and hn).imp fun {a b} ⟨h1, h2⟩ x hx y hy => ?_
      have ex : x.1 = a := by
        rcases List.mem_cons.mp hx with z | z
        · rw [z]
        · rw [List.mem_singleton.mp z]
      have ey : y.1 = b := by
        rcases List.mem_cons.mp hy with z | z
        · rw [z]
        · rw [List.mem_singleton.mp z]
      unfold leD at h1 ⊢
      rw [lt_ne y x (by rw [ex, ey]; exact fun z => h2 z.symm), ex, ey]
      exact h1
  · unfold List.Nodup
    rw [List.pairwise_flatMap]
    refine ⟨fun e _ => ?_, ?_⟩
    · rw [List.pairwise_cons]
      refine ⟨fun y hy => ?_, List.pairwise_singleton _ _⟩
      rw [List.mem_singleton.mp hy]
      intro z
      have : (0 : Int) = 1 := congrArg Prod.snd z
      cases this
    · refine hn.imp fun {a b} h2 x hx y hy e => ?_
      have ex : x.1 = a := by
        rcases List.mem_cons.mp hx with z | z
        · rw [z]
        · rw [List.mem_singleton.mp z]
      have ey : y.1 = b := by
        rcases List.mem_cons.mp hy with z | z
        · rw [z]
        · rw [List.mem_singleton.mp z]
      exact h2 (by rw [← ex, ← ey, e])
theorem dartsOf_perm {g : Gr} (wf : WF g) : (dartsOf g).Perm (darts g) := by
  rw [List.perm_ext_iff_of_nodup (dartsOf_pw g wf).2 wf.nd]
  exact fun d => mem_dartsOf wf
theorem dartsOf_eq {g : Gr} (wf : WF g) : dartsOf g = srt (darts g) := pw_eq ((dartsOf_perm wf).trans (srt_perm _).symm) (dartsOf_pw g wf).1 (srt_pw _)
theorem dartsOf_len (g : Gr) : (dartsOf g).length = 2 * (edgesRaw g).length := by
  unfold dartsOf
  rw [← srt_len (edgesRaw g)]
  generalize srt (edgesRaw g) = l
  induction l with
  | nil => rfl
  | cons e l ih =>
    rw [List.flatMap_cons, List.length_append, ih, List.length_cons (as := l)]
    show 2 + _ = _
    omega
theorem iso_counts (wf : WF g) (wfh : WF h) (cn : Conn g) (ch : Conn h) (hd : darts g ≠ []) (i : IsIso g h f) : (edgesRaw g).length = (edgesRaw h).length ∧ g.length = h.length := by
  have m := iso_mp wf wfh cn ch hd i
  have h1 := m.ds.length_eq
  rw [List.length_map, ← (dartsOf_perm wf).length_eq, ← (dartsOf_perm wfh).length_eq, dartsOf_len, dartsOf_len] at h1
  have h2 := m.nm.length_eq
  rw [List.length_map, List.length_map] at h2
  exact ⟨by omega, h2.symm⟩
theorem conn_one {g : Gr} (wf : WF g) (cn : Conn g) (ne : g ≠ []) (hd : darts g = []) : g.length = 1 := by
  match g, ne with
  | v :: r, _ =>
    cases r with
    | nil => rfl
    | cons u r =>
      have := cn (fun x => x = v.1) ⟨v.1, by simp, rfl⟩ (fun d hd' _ => by rw [hd] at hd'; cases hd') u.1 (by simp)
      have nd := wf.names
      rw [List.map_cons, List.nodup_cons] at nd
      exact absurd (by rw [← this]; simp) nd.1
end
theorem fi_tag {g h : Gr} (wf : WF g) (wfh : WF h) {a : PyData} (k : FiAns g h a) : ((∃ f, IsIso g h f) ∧ ∃ x y, a = dIso x y ∧ ((darts g = [] ∧ darts h = [] ∧ x = .none ∧ y = .none) ∨ ∃ d e f, IsIso g h f ∧ d ∈ darts g ∧ e ∈ darts h ∧ f d = e ∧ x = tD d ∧ y = tD e)) ∨ ((¬ ∃ f, IsIso g h f) ∧ ∃ rows, a = dDif rows) := by
  have hnil : ∀ {g : Gr}, WF g → dartsOf g = [] → darts g = [] := fun {g} wf e => by
    have := (dartsOf_perm wf).symm
    rw [e] at this
    exact List.Perm.eq_nil this
  rcases k with ⟨e1, e2, ea⟩ | ⟨d0, r, pre, e, post, e1, e2, _, ⟨l, f, i, hf, _⟩, ea⟩ | ⟨rows, ea, hr⟩
  · have h1 := hnil wf e1
    have h2 := hnil wfh e2
    refine .inl ⟨⟨id, ⟨fun x hx => ?_, fun _ _ _ _ e => e, fun y hy => ?_, fun x hx => ?_, fun _ _ => rfl⟩⟩, .none, .none, ea, .inl ⟨h1, h2, rfl, rfl⟩⟩
    · rw [h1] at hx; cases hx
    · rw [h2] at hy; cases hy
    · rw [h1] at hx; cases hx
  · refine .inl ⟨⟨f, i⟩, _, _, ea, .inr ⟨d0, e, f, i, ?_, ?_, hf, rfl, rfl⟩⟩
    · exact (mem_dartsOf wf).mp (by rw [e1]; exact List.mem_cons_self)
    · exact (mem_dartsOf wfh).mp (by rw [e2]; simp)
  · refine .inr ⟨?_, rows, ea⟩
    rintro ⟨f, i⟩
    rcases hr with ⟨d0, r, e1, e2, hr⟩ | ⟨e1, e2, _⟩
    · have hd : d0 ∈ darts g := (mem_dartsOf wf).mp (by rw [e1]; exact List.mem_cons_self)
      have hm : f d0 ∈ rows.map (·.1) := by rw [e2]; exact (mem_dartsOf wfh).mpr (i.mem d0 hd)
      obtain ⟨q, hq, eq⟩ := List.mem_map.mp hm
      have := (hr q hq).2.2.2.2
      rw [eq] at this
      exact this.no wf hd i rfl
    · obtain ⟨y, hy⟩ := List.exists_mem_of_ne_nil _ e2
      obtain ⟨x, hx, _⟩ := i.sur y ((mem_dartsOf wfh).mp hy)
      rw [hnil wf e1] at hx
      cases hx
end Q9
namespace Q9
open PySem L2
open PySem.W (Datum DatumOrd minOf)
theorem eno : ([.str "n", .str "o"] : List PyData) = ([110, 111] : List Nat).map fun c => .str ⟨#[c]⟩ := by
  rw [str_n, str_o]
  rfl
section
variable {P : Program} {w : World} {K : PySem.W.Frag} {mg : Str → Option Value} {base : Heap} {k : Nat} {C : Addr}
abbrev nmMa : List Str := ["_law_next_darts_here", "_law_dart", "_law_others", "_law_to", "_law_images", "_law_sources", "_law_queue", "_law_current", "_law_letter", "_law_one", "_law_two"]
theorem scMa : FnScope nmMa ["_law_next_darts_here", "_law_dart", "_law_others", "_law_to"] (defScope (tp 65)) := ⟨rfl, rfl, rfl, by decide +kernel, rfl, by decide +kernel, by decide +kernel⟩
def spMa : PT0 := fun ps S U => S = [] ∧ ∃ (g h : Gr) (d e : Dart), ps = [nxP g, dat (tD d), nxP h, dat (tD e)] ∧ WF g ∧ WF h ∧ Conn g ∧ Conn h ∧ d ∈ darts g ∧ e ∈ darts h ∧
  (∀ (a : Addr) (im l : List (Dart × Dart)), IsoAt g h d e l → (im.map (·.1)).Perm (darts g) → U (raw (.ref a)) [(a, .dt (kvP dk pD im))]) ∧ ∀ u v, Dst g h d e u v → U (dat .none) []
theorem cal_ma (bt : Bt mg) (t : Top K mg "_law_match" (tp 65) ["_law_next_darts_here", "_law_dart", "_law_others", "_law_to"]) (C1 : Cal P w K mg base k "_law_step" ["_law_next_darts_here", "_law_dart", "_law_letter"] (pur spLs)) : Cal P w K mg base (k + 1) "_law_match" ["_law_next_darts_here", "_law_dart", "_law_others", "_law_to"] spMa := by
  refine cal_mk t scMa (fun prs S post ⟨_, g, h, d, e, e0, _⟩ => by rw [e0]; rfl) fun f cdv A outer s H E B hr prs post ⟨hS, g, h, d, e, e0, wfg, wfh, cg, ch, hd, he, hm, hdf⟩ => ?_
  subst e0
  rw [hS]
  have hu := hr.units
  refine bb_cons (ss_par3 4 5 6 rfl scMa.nd (by decide) (by decide) (by decide) (aa_cons (ee_disp1 hu fun a1 => ee_name 1 rfl ⟨rfl, ee_name 3 rfl ⟨rfl, dk d, rfl, aa_cons (ee_disp1 hu fun a2 => ee_name 3 rfl ⟨rfl, ee_name 1 rfl ⟨rfl, dk e, rfl, aa_cons (ee_lstm (aa_cons (ee_name 1 rfl (aa_nil ⟨by simp, fun a4 => aa_nil ⟨_, _, _, rfl, ?_⟩⟩))))⟩⟩)⟩⟩)))
  let st : Option Pr → Option Pr → Option Pr → Option Pr → Is := fun x10 x11 x12 x13 => [some (nxP g), some (dat (tD d)), some (nxP h), some (dat (tD e)), some (raw (.ref a1)), some (raw (.ref a2)), some (raw (.ref a4)), x10, x11, x12, x13]
  let Ms : List (Dart × Dart) → List Dart → MS := fun im q => [(a1, .dt (kvP dk pD im)), (a2, .dt (kvP dk pD (swp im))), (a4, .lst ((q.map Datum.toD).map dat))]
  have ci0 : CI g h d e [(d, e)] [(d, "")] 0 := by
    refine ⟨by simp, by simp, fun p hp => ?_, rfl, rfl, fun j p q hp hq => ?_, Nat.zero_le _, fun j p hj => absurd hj (Nat.not_lt_zero _)⟩
    · rw [List.mem_singleton.mp hp]
      exact ⟨hd, he⟩
    · match j, hp, hq with
      | 0, hp, hq =>
        have ep : (d, e) = p := Option.some.inj hp
        have eq : ((d, "") : Dart × Str) = q := Option.some.inj hq
        subst ep; subst eq
        have e0 : ("" : Str).cps.toList = [] := by decide +kernel
        refine ⟨fun c hc => ?_, (by decide +kernel : ("" : Str).length ≤ 0), ?_, ?_⟩
        · have hc : c ∈ ("" : Str).cps.toList := hc
          rw [e0] at hc
          cases hc
        · show run g d ("" : Str).cps.toList = d
          rw [e0]
          rfl
        · show run h e ("" : Str).cps.toList = e
          rw [e0]
          rfl
  refine bb_cons (ss_while .never (fun m is M => ∃ im ws n x10 x11 x12 x13, is = st x10 x11 x12 x13 ∧ M = Ms im ((im.map (·.1)).drop n) ∧ CI g h d e im ws n ∧ m + n = (darts g).length) (darts g).length ⟨[(d, e)], [(d, "")], 0, none, none, none, none, rfl, rfl, ci0, rfl⟩ ?_)
  rintro m is M ⟨im, ws, n, x10, x11, x12, x13, rfl, rfl, ci, hmn⟩
  have hl := ci.len wfg
  have hsz := wfg.sz
  refine tt_cmp (cc_neD (α := List Dart) hu (by decide) (ee_name 6 rfl (ee_lstd (aa_nil ⟨[], rfl, by simp, (im.map (·.1)).drop n, [], .inr ⟨a4, 2, _, rfl, rfl, rfl⟩, .inl rfl, _, rfl, fun z => ?_, fun z => ?_⟩))))
  · have hn : n < im.length := by
      rcases Nat.lt_or_ge n im.length with q | q
      · exact q
      · rw [List.drop_eq_nil_of_le (by rw [List.length_map]; exact q)] at z
        cases z
    obtain ⟨x, y, hxy⟩ : ∃ x y, im[n]? = some (x, y) := ⟨im[n].1, im[n].2, List.getElem?_eq_getElem hn⟩
    have eq : (im.map (·.1)).drop n = x :: (im.map (·.1)).drop (n + 1) := by
      have : (im.map (·.1))[n]? = some x := by rw [List.getElem?_map, hxy]; rfl
      obtain ⟨h1, h2⟩ := List.getElem?_eq_some_iff.mp this
      rw [List.drop_eq_getElem_cons h1, h2]
    rw [eq]
    refine bb_cons (ss_set 7 (ee_pop (ee_name 6 rfl ⟨a4, 2, _, rfl, rfl, ee_int ⟨_, 0, dat (tD x), rfl, rfl, by decide, rfl, ?_⟩⟩)) scMa.nd)
    refine bb_cons (ss_for [8] rfl .never (ii_lstd (ee_lstd (aa_cons (ee_str (aa_cons (ee_str (aa_nil ⟨[.str "n", .str "o"], rfl, by simp, ([110, 111] : List Nat).map fun c => .str ⟨#[c]⟩, by rw [eno], fun j is M => ∃ im' ws' y11 y12 y13, is = st (some (dat (tD x))) y11 y12 y13 ∧ M = Ms im' ((im'.map (·.1)).drop (n + 1)) ∧ CI g h d e im' ws' n ∧ n < im'.length ∧ im'[n]? = some (x, y) ∧ ∀ c ∈ [110, 111].take j, asc im' (stp g x c) = some (stp h y c), ⟨im, ws, x11, x12, x13, rfl, rfl, ci, hn, hxy, fun c hc => by simp at hc⟩, ?_, ?_⟩))))))))
    · rintro j p is M hget ⟨im', ws', y11, y12, y13, rfl, rfl, ci', hn', hxy', hcl⟩
      rw [List.getElem?_map, List.getElem?_map] at hget
      obtain ⟨cc, hcc', rfl⟩ := Option.map_eq_some_iff.mp hget
      obtain ⟨c, hc, rfl⟩ := Option.map_eq_some_iff.mp hcc'
      have hcc : c = 110 ∨ c = 111 := by
        have := List.mem_of_getElem? hc
        simpa using this
      have htk : ([110, 111] : List Nat).take (j + 1) = [110, 111].take j ++ [c] := take_at hc
      have hmem := List.mem_of_getElem? hxy'
      obtain ⟨hx, hy⟩ := ci'.sub _ hmem
      obtain ⟨wx, hw1, hw2, hw3, hw4, hw5⟩ := ci'.word hmem
      have hax : asc im' x = some y := asc_of ci'.kd hmem
      have hone := stp_mem wfg hx c
      have htwo := stp_mem wfh hy c
      have hl' := ci'.len wfg
      have hword : ∃ j : Nat, ws'[j]? = some (x, wx) ∧ wx.length ≤ n := by
        have hlw : n < ws'.length := by rw [ci'.len2]; exact hn'
        have hq : ws'[n]? = some ws'[n] := List.getElem?_eq_getElem hlw
        have h4 := ci'.wd n _ _ hxy' hq
        have e1 : (ws'.map (·.1))[n]? = some ws'[n].1 := by rw [List.getElem?_map, hq]; rfl
        rw [ci'.wk, List.getElem?_map, hxy'] at e1
        have e2 : x = ws'[n].1 := Option.some.inj e1
        have e3 := asc_of (by rw [ci'.wk]; exact ci'.kd) (List.mem_of_getElem? hq : (ws'[n].1, ws'[n].2) ∈ ws')
        rw [← e2, hw1] at e3
        have e4 := Option.some.inj e3
        exact ⟨n, by rw [hq]; exact congrArg some (Prod.ext e2.symm e4.symm), by rw [e4]; exact h4.2.1⟩
      obtain ⟨_, _, hwn⟩ := hword
      have hrun1 : run g d (wx ++ (⟨#[c]⟩ : Str)).cps.toList = stp g x c := by
        rw [str_app, run_app, hw4]
        rfl
      have hrun2 : run h e (wx ++ (⟨#[c]⟩ : Str)).cps.toList = stp h y c := by
        rw [str_app, run_app, hw5]
        rfl
      have hwl : (wx ++ (⟨#[c]⟩ : Str)).length ≤ n + 1 := by rw [str_app_len]; omega
      have hwW := isW_app hw2 hcc
      refine gg_name 8 scMa.nd ?_
      refine bb_cons (ss_par 9 10 rfl scMa.nd (by decide) (aa_cons (ee_callp C1 hr (aa_cons (ee_name 0 rfl (aa_cons (ee_name 7 rfl (aa_cons (ee_name 8 rfl (aa_nil ⟨g, x, c, rfl, hx, aa_cons (ee_callp C1 hr (aa_cons (ee_name 2 rfl (aa_cons (ee_dget hu (ee_name 4 rfl (ee_name 7 rfl ⟨pD y, DG.t' (.own (i := 0) rfl) (dk x) (by rw [getP_kv dk_inj', hax]; rfl), aa_cons (ee_name 8 rfl (aa_nil ⟨h, y, c, rfl, hy, aa_nil ⟨_, _, rfl, ?_⟩⟩))⟩)))))))⟩))))))))))
      generalize hone' : stp g x c = one at *
      generalize htwo' : stp h y c = two at *
      generalize hw2' : wx ++ (⟨#[c]⟩ : Str) = word at *
      have step : ∀ im'' ws'', CI g h d e im'' ws'' n → n < im''.length → im''[n]? = some (x, y) → (∀ c ∈ [110, 111].take j, asc im'' (stp g x c) = some (stp h y c)) → asc im'' one = some two →
          ∃ im' ws' y11 y12 y13, st (some (dat (tD x))) (some (dat (.str ⟨#[c]⟩))) (some (dat (tD one))) (some (dat (tD two))) = st (some (dat (tD x))) y11 y12 y13 ∧ Ms im'' ((im''.map (·.1)).drop (n + 1)) = Ms im' ((im'.map (·.1)).drop (n + 1)) ∧ CI g h d e im' ws' n ∧ n < im'.length ∧ im'[n]? = some (x, y) ∧ ∀ c ∈ [110, 111].take (j + 1), asc im' (stp g x c) = some (stp h y c) := by
        intro im'' ws'' k1 k2 k3 k4 k5
        refine ⟨im'', ws'', _, _, _, rfl, rfl, k1, k2, k3, fun c' hc' => ?_⟩
        rw [htk] at hc'
        rcases List.mem_append.mp hc' with q | q
        · exact k4 c' q
        · rw [List.mem_singleton.mp q, hone', htwo']
          exact k5
      cases ea : asc im' one with
      | some y1 =>
        obtain ⟨v1, hv1, hv2, hv3, hv4, hv5⟩ := ci'.word (asc_mem ea)
        refine bb_cons (ss_if (tt_w (wt_and (tt_cmp (cc_dni hu (ee_name 9 rfl (ee_name 4 rfl ⟨some (pD y1), DG.t' (.own (i := 0) rfl) (dk one) (by rw [getP_kv dk_inj', ea]; rfl), false, rfl, fun _ => ⟨(fun z => nomatch z), fun _ => ?_⟩, (fun z => nomatch z)⟩)))))))
        refine bb_cons (ss_if (tt_cmp (cc_neD (α := Dart) hu (by decide) (ee_get hu (ee_name 4 rfl ⟨.inr ⟨_, .own (i := 0) rfl⟩, ee_name 9 rfl ⟨some (pD y1), DG.t' (.own (i := 0) rfl) (dk one) (by rw [getP_kv dk_inj', ea]; rfl), ee_name 10 rfl ⟨y1, two, .inl rfl, .inl rfl, _, rfl, fun z => ?_, fun z => ?_⟩⟩⟩)))))
        · have hne : y1 ≠ two := by simpa using z
          refine bb_cons (ss_ret (ee_non (ret0 (hdf v1 word ?_))))
          unfold Dst
          rw [hv4, hv5, hrun1, hrun2, decide_eq_true rfl, decide_eq_false hne]
          decide
        · have heq : y1 = two := by simpa using z
          exact bb_nil (bb_nil (bb_nil (step im' ws' ci' hn' hxy' hcl (heq ▸ ea))))
      | none =>
        have hnk : one ∉ im'.map (·.1) := asc_none.mp ea
        cases eb : asc (swp im') two with
        | some x1 =>
          have hx1 := (asc_swp ci'.vd).mp eb
          obtain ⟨v1, hv1, hv2, hv3, hv4, hv5⟩ := ci'.word hx1
          have hne : x1 ≠ one := fun z => hnk (List.mem_map.mpr ⟨_, hx1, z⟩)
          refine bb_cons (ss_if (tt_w (wt_and (tt_cmp (cc_dni hu (ee_name 9 rfl (ee_name 4 rfl ⟨none, DG.t' (.own (i := 0) rfl) (dk one) (by rw [getP_kv dk_inj', ea]; rfl), true, rfl, (fun z => nomatch z), fun _ => wt_and1 (tt_cmp (cc_dni hu (ee_name 10 rfl (ee_name 5 rfl ⟨some (pD x1), DG.t' (.own (i := 1) rfl) (dk two) (by rw [getP_kv dk_inj', eb]; rfl), false, rfl, (fun z => nomatch z), fun _ => ?_⟩))))⟩)))))))
          refine bb_cons (ss_if (tt_cmp (cc_neU hu (ee_get hu (ee_name 4 rfl ⟨.inr ⟨_, .own (i := 0) rfl⟩, ee_name 9 rfl ⟨none, DG.t' (.own (i := 0) rfl) (dk one) (by rw [getP_kv dk_inj', ea]; rfl), ee_name 10 rfl ⟨.none, tD two, .inl rfl, .inl rfl, ⟨rfl, by decide⟩, plOk_toD (by decide) two, true, rfl, fun _ => ?_, (fun z => nomatch z)⟩⟩⟩)))))
          refine bb_cons (ss_ret (ee_non (ret0 (hdf v1 word ?_))))
          unfold Dst
          rw [hv4, hv5, hrun1, hrun2, decide_eq_false hne, decide_eq_true rfl]
          decide
        | none =>
          have hnv : two ∉ im'.map (·.2) := by
            have := asc_none.mp eb
            rwa [swp_fst] at this
          have ca := ci'.add hone htwo hnk hnv hwW (by omega) hrun1 hrun2
          have hla := ca.len wfg
          rw [List.length_append, List.length_singleton] at hla
          refine bb_cons (ss_if (tt_w (wt_and (tt_cmp (cc_dni hu (ee_name 9 rfl (ee_name 4 rfl ⟨none, DG.t' (.own (i := 0) rfl) (dk one) (by rw [getP_kv dk_inj', ea]; rfl), true, rfl, (fun z => nomatch z), fun _ => wt_and1 (tt_cmp (cc_dni hu (ee_name 10 rfl (ee_name 5 rfl ⟨none, DG.t' (.own (i := 1) rfl) (dk two) (by rw [getP_kv dk_inj', eb]; rfl), true, rfl, fun _ => ?_, (fun z => nomatch z)⟩))))⟩)))))))
          refine bb_cons (ss_asg [] (ee_tup (aa_cons (ee_name 10 rfl (aa_cons (ee_name 9 rfl (aa_nil ⟨by simp, ?_⟩)))))))
          refine gg_tup rfl (ggs_cons (gg_putt hu (ee_name 4 rfl ⟨a1, rfl, ee_name 9 rfl ⟨0, _, dk one, rfl, rfl, by rw [kv_len]; omega, ?_⟩⟩)))
          refine ggs_cons (gg_putt hu (ee_name 5 rfl ⟨a2, rfl, ee_name 10 rfl ⟨1, _, dk two, rfl, rfl, by rw [kv_len]; unfold swp; rw [List.length_map]; omega, ggs_nil ?_⟩⟩))
          refine bb_cons (ss_expr (ee_append (ee_name 6 rfl ⟨a4, 2, _, rfl, rfl, ee_name 9 rfl ⟨_, rfl, ?_, bb_nil (bb_nil ?_)⟩⟩)))
          · rw [List.length_map, List.length_map, List.length_drop, List.length_map]
            omega
          · have r1 := step (im' ++ [(one, two)]) (ws' ++ [(one, word)]) ca (by rw [List.length_append]; omega) (by rw [List.getElem?_append_left hn']; exact hxy') (fun c' hc' => by rw [asc_app, hcl c' hc']; rfl) (by rw [asc_app, ea, asc_cons, if_pos rfl]; rfl)
            have e1 := putP_new (kf := dk) (pf := pD) dk_inj' two hnk
            have e3 := putP_new (kf := dk) (pf := pD) dk_inj' (l := swp im') (x := two) one (by rw [swp_fst]; exact hnv)
            have e4 : swp (im' ++ [(one, two)]) = swp im' ++ [(two, one)] := by
              unfold swp
              rw [List.map_append]
              rfl
            have e5 : ((im' ++ [(one, two)]).map (·.1)).drop (n + 1) = (im'.map (·.1)).drop (n + 1) ++ [one] := by
              rw [List.map_append, List.drop_append_of_le_length (by rw [List.length_map]; omega)]
              rfl
            have eM : Ms (im' ++ [(one, two)]) (((im' ++ [(one, two)]).map (·.1)).drop (n + 1)) = [(a1, .dt (putP (kvP dk pD im') (dk one) (pD two))), (a2, .dt (putP (kvP dk pD (swp im')) (dk two) (pD one))), (a4, .lst ((((im'.map (·.1)).drop (n + 1)).map Datum.toD).map dat ++ [dat (tD one)]))] := by
              rw [e5, e1, e3, ← e4]
              simp only [Ms]
              rw [List.map_append, List.map_append]
              rfl
            rw [eM] at r1
            exact r1
    · rintro is M ⟨im', ws', y11, y12, y13, rfl, rfl, ci', hn', hxy', hcl⟩
      have hcl : ∀ c ∈ ([110, 111] : List Nat), asc im' (stp g x c) = some (stp h y c) := hcl
      have hl' := ci'.len wfg
      refine bb_nil ⟨m - 1, by omega, im', ws', n + 1, _, y11, y12, y13, rfl, rfl, ⟨ci'.kd, ci'.vd, ci'.sub, ci'.st, ci'.wk, ci'.wd, hn', fun j p hj hp c hc => ?_⟩, by omega⟩
      rcases Nat.lt_or_ge j n with q | q
      · exact ci'.cl j p q hp c hc
      · have ej : j = n := by omega
        subst ej
        rw [hxy'] at hp
        have ep := Option.some.inj hp
        subst ep
        refine hcl c ?_
        rcases hc with e1 | e1 <;> rw [e1] <;> simp
  · have hn : n = im.length := by
      have : (im.map (·.1)).drop n = [] := by simpa using z
      have h1 := List.drop_eq_nil_iff.mp this
      rw [List.length_map] at h1
      have := ci.le
      omega
    subst hn
    have iso := ci.iso wfg wfh cg ch
    have hp : (im.map (·.1)).Perm (darts g) := by
      obtain ⟨f, _, _, e1⟩ := iso
      have p1 : im.Perm ((darts g).map fun x => (x, f x)) := (srt_perm im).symm.trans (by rw [e1]; exact srt_perm _)
      have p2 := p1.map (·.1)
      rw [List.map_map] at p2
      have e2 : (darts g).map ((fun p : Dart × Dart => p.1) ∘ fun x => (x, f x)) = darts g := List.map_id _
      rw [e2] at p2
      exact p2
    exact bb_cons (ss_ret (ee_name 4 rfl ⟨[(a1, .dt (kvP dk pD im))], hm a1 im _ iso hp, fun x hx => ⟨by rw [List.mem_singleton.mp hx]; exact List.mem_cons_self, fun z => by cases z⟩, by simp, fun _ z => by cases z⟩))
end
end Q9
namespace Q9
open PySem L2
open PySem.W (Datum DatumOrd minOf)
theorem er_last {α : Type} (M : List α) (x : α) : (M ++ [x]).eraseIdx M.length = M := by
  rw [List.eraseIdx_append_of_length_le (Nat.le_refl _), Nat.sub_self]
  exact List.append_nil _
theorem get_last {α : Type} (M : List α) (x : α) : (M ++ [x])[M.length]? = some x := by
  rw [List.getElem?_append_right (Nat.le_refl _), Nat.sub_self]
  rfl
section
variable {X : Cx} {B : Bs} {is : Is} {M : MS} {Post : Pr → MS → Prop} {a : Expr} {pos : Pos}
/-- dict(pairs) that stays: keys darts; keys texts -/
theorem ee_dictD {p : Pos} {β : Type} [DecidableEq β] [Datum β] (hc : X.calm = true) (hu : X.A.units + 64 < cLine) (hm : X.mg "dict" = none) (h : AA X B [a] is M fun ps M1 => ∃ l : List (Dart × β), ps = [dat (tD l)] ∧ (l.map (·.1)).Nodup ∧ Post (dtP (kvP dk (fun y => dat (tD y)) l)) M1) (hg : Gl X "dict" := by rfl)
    (he : starEach [a] X.env = (false, eval a X.env) :: starEach [] X.env := by rfl) (hpl : (backTo pos (starEach [] X.env)).any (·.1) = false := by rfl) : EE X B (.Call (.Name "dict" p) [a] [] pos) is M Post := by
  refine ee_frz (ee_dictT hc hu hm (AA.imp h fun ps M1 ⟨l, e1, nd, hp⟩ => ⟨dat (tD l), l.map fun z => (dk z.1, tD z.2), e1, ?_, fun r => ⟨r, M1.length, rfl, .inr (.inr ⟨_, get_last _ _, ?_⟩)⟩⟩) hg he hpl)
  · have e : (l.map fun z => (dk z.1, tD z.2)).map (fun kd => pairD (.tuple (kd.1.map kD)) kd.2) = l.map Datum.toD := by
      rw [List.map_map]
      rfl
    rw [e]
    exact .ds _
  · rw [er_last]
    have e : (l.map fun z => (dk z.1, tD z.2)).map (fun kd => (kd.1, dat kd.2)) = kvP dk (fun y => dat (tD y)) l := by
      rw [List.map_map]
      rfl
    rw [e]
    have := mrgP_new (kf := dk) (pf := fun y : β => dat (tD y)) dk_inj' l [] (by simpa using nd)
    rw [List.nil_append] at this
    have e2 : mrgP [] (kvP dk (fun y => dat (tD y)) l) = kvP dk (fun y => dat (tD y)) l := this
    rw [e2]
    exact hp
theorem ee_dictS {p : Pos} {β : Type} [DecidableEq β] [Datum β] (hc : X.calm = true) (hm : X.mg "dict" = none) (h : AA X B [a] is M fun ps M1 => ∃ l : List (Str × β), ps = [dat (tD l)] ∧ (l.map (·.1)).Nodup ∧ Post (dkP (kvP sk (fun y => dat (tD y)) l)) M1) (hg : Gl X "dict" := by rfl)
    (he : starEach [a] X.env = (false, eval a X.env) :: starEach [] X.env := by rfl) (hpl : (backTo pos (starEach [] X.env)).any (·.1) = false := by rfl) : EE X B (.Call (.Name "dict" p) [a] [] pos) is M Post := by
  refine ee_frz (ee_dictK hc hm (AA.imp h fun ps M1 ⟨l, e1, nd, hp⟩ => ⟨dat (tD l), l.map fun z => (sk z.1, tD z.2), e1, ?_, fun r => ⟨r, M1.length, rfl, .inr (.inl ⟨_, get_last _ _, ?_⟩)⟩⟩) hg he hpl)
  · have e : (l.map fun z => (sk z.1, tD z.2)).map (fun kd => pairD (kD kd.1) kd.2) = l.map Datum.toD := by
      rw [List.map_map]
      rfl
    rw [e]
    exact .ds _
  · rw [er_last]
    have e : (l.map fun z => (sk z.1, tD z.2)).map (fun kd => (kd.1, dat kd.2)) = kvP sk (fun y => dat (tD y)) l := by
      rw [List.map_map]
      rfl
    rw [e]
    have := mrgP_new (kf := sk) (pf := fun y : β => dat (tD y)) sk_inj l [] (by simpa using nd)
    rw [List.nil_append] at this
    have e2 : mrgP [] (kvP sk (fun y => dat (tD y)) l) = kvP sk (fun y => dat (tD y)) l := this
    rw [e2]
    exact hp
end
/-- the pairs of a map -/
def prs (g : Gr) (f : Dart → Dart) : List (Dart × Dart) := srt ((darts g).map fun x => (x, f x))
theorem prs_perm (g : Gr) (f : Dart → Dart) : (prs g f).Perm ((darts g).map fun x => (x, f x)) := srt_perm _
theorem prs_fst (g : Gr) (f : Dart → Dart) : ((prs g f).map (·.1)).Perm (darts g) := by
  have := (prs_perm g f).map (·.1)
  rw [List.map_map] at this
  have e : (darts g).map ((fun p : Dart × Dart => p.1) ∘ fun x => (x, f x)) = darts g := List.map_id _
  rwa [e] at this
theorem prs_snd (g : Gr) (f : Dart → Dart) : ((prs g f).map (·.2)).Perm ((darts g).map f) := by
  have := (prs_perm g f).map (·.2)
  rw [List.map_map] at this
  exact this
theorem prs_len (g : Gr) (f : Dart → Dart) : (prs g f).length = (darts g).length := by
  rw [(prs_perm g f).length_eq, List.length_map]
theorem prs_asc {g : Gr} (wf : WF g) {f : Dart → Dart} {x : Dart} (hx : x ∈ darts g) : asc (prs g f) x = some (f x) :=
  asc_of ((prs_fst g f).nodup_iff.mpr wf.nd) ((prs_perm g f).mem_iff.mpr (List.mem_map.mpr ⟨x, hx, rfl⟩))
theorem get_prs {g : Gr} (wf : WF g) {f : Dart → Dart} {x : Dart} (hx : x ∈ darts g) : getP (kvP dk pD (prs g f)) (dk x) = some (pD (f x)) := by
  rw [getP_kv dk_inj', prs_asc wf hx]
  rfl
theorem get_nx {g : Gr} {x : Dart} (hx : x ∈ darts g) : getP (kvP dk pD (nexts g)) (dk x) = some (pD (nx g x)) := by
  rw [getP_kv dk_inj', nx_asc hx]
  rfl
theorem keys_nx (g : Gr) : (kvP dk pD (nexts g)).map (·.1) = (darts g).map dk := by rw [kv_keys, nexts_fst]
section
variable {P : Program} {w : World} {K : PySem.W.Frag} {mg : Str → Option Value} {base : Heap} {k : Nat} {C : Addr}
theorem scMr : FnScope ["_law_graph", "_law_other", "_law_pairs", "_law_next_darts_here", "_law_others", "_law_images", "_law_dart", "_law_image"] ["_law_graph", "_law_other", "_law_pairs"] (defScope (tp 68)) := ⟨rfl, rfl, rfl, by decide +kernel, rfl, by decide +kernel, by decide +kernel⟩
def spMr : List Pr → (Pr → Prop) → Prop := fun ps post => ∃ (g h : Gr) (f : Dart → Dart), ps = [dat (tD g), dat (tD h), dat (tD (prs g f))] ∧ WF g ∧ WF h ∧ IsIso g h f ∧ post (dat (.bool true))
theorem cal_mr (bt : Bt mg) (t : Top K mg "_law_maps_rotations" (tp 68) ["_law_graph", "_law_other", "_law_pairs"]) (C1 : Cal P w K mg base k "_law_next_darts" ["_law_graph"] (pur spNd)) : Cal P w K mg base (k + 1) "_law_maps_rotations" ["_law_graph", "_law_other", "_law_pairs"] (pur spMr) := by
  refine cal_pur t scMr (fun prs' post ⟨g, h, f, e, _⟩ => by rw [e]; rfl) fun f0 cdv A outer s H E B hS hr prs' post ⟨g, h, f, e, wf, wfh, i, hp⟩ => ?_
  subst e
  have hu := hr.units
  have hsz := wf.sz
  have hszh := wfh.sz
  have pl := prs_len g f
  have p1 := prs_fst g f
  have p2 : ((prs g f).map (·.2)).Perm (darts h) := by
    refine (prs_snd g f).trans ?_
    rw [List.perm_ext_iff_of_nodup (nodup_on wf.nd i.inj) wfh.nd]
    intro y
    rw [List.mem_map]
    exact ⟨fun ⟨x, hx, e⟩ => e ▸ i.mem x hx, fun hy => i.sur y hy⟩
  refine bb_cons (ss_par 3 4 rfl scMr.nd (by decide) (aa_cons (ee_callp C1 hr (aa_cons (ee_name 0 rfl (aa_nil ⟨g, rfl, wf, aa_cons (ee_callp C1 hr (aa_cons (ee_name 1 rfl (aa_nil ⟨h, rfl, wfh, aa_nil ⟨_, _, rfl, ?_⟩⟩))))⟩))))))
  refine bb_cons (ss_set 5 (ee_dictD rfl hu bt.dict (aa_cons (ee_name 2 rfl (aa_nil ⟨prs g f, rfl, p1.nodup_iff.mpr wf.nd, ?_⟩)))) scMr.nd)
  refine bb_cons (ss_if (tt_w (wt_or (tt_cmp (cc_neD (α := List Dart) hu (by decide) (ee_sortT (Datum.toD : Dart → PyData) dk (fun _ => rfl) rfl hu bt.sorted (aa_cons (ee_name 5 rfl (aa_nil ⟨_, kvP dk pD (prs g f), (prs g f).map (·.1), rfl, .fix _, kv_keys _, srt_pair (by decide) (by rw [List.length_map]; omega), ?_⟩)))))))))
  refine ee_sortT (Datum.toD : Dart → PyData) dk (fun _ => rfl) rfl hu bt.sorted (aa_cons (ee_name 3 rfl (aa_nil ⟨_, _, darts g, rfl, .fix _, keys_nx g, srt_pair (by decide) (by omega), ?_⟩)))
  refine ⟨srt ((prs g f).map (·.1)), srt (darts g), .inl rfl, .inl rfl, false, ?_, (fun z => nomatch z), fun _ => ?_⟩
  · rw [srt_eq p1]
    simp
  refine wt_or1 (tt_cmp (cc_neD (α := List Dart) hu (by decide) (ee_sortV (Datum.toD : Dart → PyData) rfl hu bt.sorted (ee_name 5 rfl ⟨kvP dk pD (prs g f), (prs g f).map (·.2), .fix _, ?_, srt_pair (by decide) (by rw [List.length_map]; omega), ?_⟩))))
  · unfold kvP
    rw [List.map_map, List.map_map]
    rfl
  refine ee_sortT (Datum.toD : Dart → PyData) dk (fun _ => rfl) rfl hu bt.sorted (aa_cons (ee_name 4 rfl (aa_nil ⟨_, _, darts h, rfl, .fix _, keys_nx h, srt_pair (by decide) (by omega), ?_⟩)))
  refine ⟨srt ((prs g f).map (·.2)), srt (darts h), .inl rfl, .inl rfl, false, ?_, (fun z => nomatch z), fun _ => bb_nil ?_⟩
  · rw [srt_eq p2]
    simp
  refine bb_cons (ss_for [6] rfl .never (ii_lstd (ee_sortT (Datum.toD : Dart → PyData) dk (fun _ => rfl) rfl hu bt.sorted (aa_cons (ee_name 3 rfl (aa_nil ⟨_, _, darts g, rfl, .fix _, keys_nx g, srt_pair (by decide) (by omega), (srt (darts g)).map Datum.toD, rfl, fun j is M => (∃ x y, is = [some (dat (tD g)), some (dat (tD h)), some (dat (tD (prs g f))), some (nxP g), some (nxP h), some (dtP (kvP dk pD (prs g f))), x, y]) ∧ M = [], ⟨⟨none, none, rfl⟩, rfl⟩, ?_, ?_⟩))))))
  · rintro j p is M hget ⟨⟨x, y, rfl⟩, rfl⟩
    rw [List.getElem?_map, List.getElem?_map] at hget
    obtain ⟨dd, hdd, rfl⟩ := Option.map_eq_some_iff.mp hget
    obtain ⟨d, hd', rfl⟩ := Option.map_eq_some_iff.mp hdd
    have hd := mem_srt.mp (List.mem_of_getElem? hd')
    have hfd := i.mem d hd
    refine gg_name 6 scMr.nd ?_
    refine bb_cons (ss_set 7 (ee_dget hu (ee_name 5 rfl (ee_name 6 rfl ⟨pD (f d), DG.t' (.fix _) (dk d) (get_prs wf hd), ?_⟩))) scMr.nd)
    refine bb_cons (ss_if (tt_cmp (cc_neD (α := Dart) hu (by decide) (ee_dget hu (ee_name 5 rfl (ee_dget hu (ee_name 3 rfl (ee_name 6 rfl ⟨pD (nx g d), DG.t' (.fix _) (dk d) (get_nx hd), pD (f (nx g d)), DG.t' (.fix _) (dk (nx g d)) (get_prs wf (nx_mem hd)), ?_⟩))))))))
    refine ee_dget hu (ee_name 4 rfl (ee_name 7 rfl ⟨pD (nx h (f d)), DG.t' (.fix _) (dk (f d)) (get_nx hfd), f (nx g d), nx h (f d), .inl rfl, .inl rfl, false, by rw [i.nx d hd]; simp, (fun z => nomatch z), fun _ => bb_nil ?_⟩))
    refine bb_cons (ss_if (tt_cmp (cc_neD (α := Dart) hu (by decide) (ee_dget hu (ee_name 5 rfl (ee_tupd (aa_cons (ee_ixt (ee_name 6 rfl (ee_int ⟨_, 0, dat (.str d.1), .ds [.str d.1, .int d.2], rfl, rfl, aa_cons (ee_sub (ee_int ⟨1, rfl, ee_ixt (ee_name 6 rfl (ee_int ⟨_, 1, dat (.int d.2), .ds [.str d.1, .int d.2], rfl, rfl, d.2, rfl, aa_nil ⟨[.str d.1, .int (1 - d.2)], rfl, by simp, pD (f (opp d)), DG.t' (.fix _) (dk (opp d)) (get_prs wf (wf.op d hd)), ?_⟩⟩))⟩))⟩))))))))))
    refine ee_tupd (aa_cons (ee_ixt (ee_name 7 rfl (ee_int ⟨_, 0, dat (.str (f d).1), .ds [.str (f d).1, .int (f d).2], rfl, rfl, aa_cons (ee_sub (ee_int ⟨1, rfl, ee_ixt (ee_name 7 rfl (ee_int ⟨_, 1, dat (.int (f d).2), .ds [.str (f d).1, .int (f d).2], rfl, rfl, (f d).2, rfl, aa_nil ⟨[.str (f d).1, .int (1 - (f d).2)], rfl, by simp, f (opp d), opp (f d), .inl rfl, .inl rfl, false, by rw [i.op d hd]; simp, (fun z => nomatch z), fun _ => bb_nil (bb_nil ⟨⟨_, _, rfl⟩, rfl⟩)⟩⟩))⟩))⟩))))
  · rintro is M ⟨⟨x, y, rfl⟩, rfl⟩
    exact bb_cons (ss_ret (ee_bl hp))
end
end Q9
namespace Q9
open PySem L2
open PySem.W (Datum DatumOrd minOf)
section
variable {P : Program} {w : World} {K : PySem.W.Frag} {mg : Str → Option Value} {base : Heap} {k : Nat} {C : Addr}
abbrev nmTi : List Str := ["_law_graph", "_law_other", "_law_pairs", "_law_images", "_law_owners", "_law_vertices", "_law_vertex", "_law_rotation", "_law_current", "_law_edge", "_law_edges_here", "_law_dart"]
theorem scTi : FnScope nmTi ["_law_graph", "_law_other", "_law_pairs"] (defScope (tp 69)) := ⟨rfl, rfl, rfl, by decide +kernel, rfl, by decide +kernel, by decide +kernel⟩
def spTi : List Pr → (Pr → Prop) → Prop := fun ps post => ∃ (g h : Gr) (f : Dart → Dart), ps = [dat (tD g), dat (tD h), dat (tD (prs g f))] ∧ WF g ∧ WF h ∧ Conn g ∧ Conn h ∧ darts g ≠ [] ∧ IsIso g h f ∧ post (dat (.bool true))
theorem vofs_nd {h : Gr} (wf : WF h) : ((vofs h).map (·.1)).Nodup := by
  rw [vofs_fst]
  exact wf.nd
theorem vofs_take {h : Gr} {i : Nat} {v : Str × List Dart} (hv : h[i]? = some v) : vofs (h.take (i + 1)) = vofs (h.take i) ++ v.2.map fun d => (d, v.1) := by
  unfold vofs
  rw [take_at hv, List.flatMap_append]
  simp
theorem cal_ti (bt : Bt mg) (t : Top K mg "_law_turns_into" (tp 69) ["_law_graph", "_law_other", "_law_pairs"]) (C1 : Cal P w K mg base k "_law_edges" ["_law_graph"] (pur spEn)) (C2 : Cal P w K mg base k "flip_edge" ["graph", "edge"] (pur spFe)) (C3 : Cal P w K mg base k "rename" ["graph", "vertices", "edges"] (pur spRn)) (C4 : Cal P w K mg base k "normalize" ["value"] (pur spNorm)) : Cal P w K mg base (k + 1) "_law_turns_into" ["_law_graph", "_law_other", "_law_pairs"] (pur spTi) := by
  refine cal_pur t scTi (fun prs' post ⟨g, h, f, e, _⟩ => by rw [e]; rfl) fun f0 cdv A outer s H E B hS hr prs' post ⟨g, h, f, e, wf, wfh, cn, ch, hd, i, hp⟩ => ?_
  subst e
  have hu := hr.units
  have hsz := wf.sz
  have hszh := wfh.sz
  have hvs := wf.vs
  have hvsh := wfh.vs
  have hel := edges_len wf
  have p1 := prs_fst g f
  have rows := conn_rows wf cn hd
  refine bb_cons (ss_asg [3, 4, 5] (ee_tup (aa_cons (ee_dictD rfl hu bt.dict (aa_cons (ee_name 2 rfl (aa_nil ⟨prs g f, rfl, p1.nodup_iff.mpr wf.nd, aa_cons (ee_newt fun a => aa_cons (ee_newk fun b => aa_nil ⟨by simp, gg_tup rfl (ggs_cons (gg_name 3 scTi.nd (ggs_cons (gg_name 4 scTi.nd (ggs_cons (gg_name 5 scTi.nd (ggs_nil ?_)))))))⟩))⟩)))))))
  let st : Option Pr → Option Pr → Option Pr → Option Pr → Option Pr → Option Pr → Is := fun x6 x7 x8 x9 x10 x11 => [some (dat (tD g)), some (dat (tD h)), some (dat (tD (prs g f))), some (dtP (kvP dk pD (prs g f))), some (raw (.ref a)), some (raw (.ref b)), x6, x7, x8, x9, x10, x11]
  let Ms : List (Dart × Str) → List (Str × Str) → MS := fun l m => [(a, .dt (kvP dk pS l)), (b, .dk (kvP sk pS m))]
  refine bb_cons (ss_for [6, 7] rfl .never (ii_lstd (ee_name 1 rfl ⟨h.map Datum.toD, rfl, fun i is M => (∃ x6 x7 x8 x9 x10 x11, is = st x6 x7 x8 x9 x10 x11) ∧ M = Ms (vofs (h.take i)) [], ⟨⟨none, none, none, none, none, none, rfl⟩, rfl⟩, ?_, ?_⟩)))
  · rintro i p is M hget ⟨⟨x6, x7, x8, x9, x10, x11, rfl⟩, rfl⟩
    rw [List.getElem?_map, List.getElem?_map] at hget
    obtain ⟨dd, hdd, rfl⟩ := Option.map_eq_some_iff.mp hget
    obtain ⟨v, hv, rfl⟩ := Option.map_eq_some_iff.mp hdd
    have hm := List.mem_of_getElem? hv
    have hlen := row_len wfh hm
    refine gg_tupd (ds := [.str v.1, .list (v.2.map Datum.toD)]) rfl (ggs_cons (gg_name 6 scTi.nd (ggs_cons (gg_name 7 scTi.nd (ggs_nil ?_)))))
    refine bb_cons (ss_expr (ee_upd rfl hu (ee_name 4 rfl ⟨a, 0, _, rfl, rfl, ee_mapD nmTi (defScope (tp 69)) [("_law_dart", 11)] v.2 (fun d => dat (tD d)) (fun d => tD ((d, v.1) : Dart × Str)) rfl scTi.nd (by decide +kernel) (ii_lstd (ee_name 7 rfl ⟨v.2.map Datum.toD, rfl, (dats_map _ _).symm, by omega, fun L d acc hd s H C cl fp => gg_name 11 scTi.nd ⟨rfl, fun s H C cl fp => ?_⟩, ?_⟩))⟩)))
    · exact ee_tupd (aa_cons (ee_name 11 rfl (aa_cons (ee_name 6 rfl (aa_nil ⟨[tD d, .str v.1], rfl, by simp, rfl, rfl⟩)))))
    · have hnd : ((vofs (h.take i) ++ v.2.map fun d => (d, v.1)).map (·.1)).Nodup := by
        rw [← vofs_take hv, vofs_fst]
        have nd := wfh.nd
        rw [darts_split hv, ← List.append_assoc, ← darts_take hv, List.nodup_append] at nd
        exact nd.1
      have hlen2 : (vofs (h.take i)).length ≤ 120 := by
        have e := congrArg List.length (vofs_fst (h.take i))
        rw [List.length_map] at e
        have e2 := congrArg List.length (darts_split hv)
        rw [List.length_append] at e2
        omega
      refine ⟨_, v.2.map fun d => (dk d, .str v.1), rfl, ?_, by rw [kv_len, List.length_map]; omega, ?_⟩
      · have e : (v.2.map fun d => ((dk d, PyData.str v.1) : List Key × PyData)).map (fun kd => pairD (.tuple (kd.1.map kD)) kd.2) = v.2.map fun d => tD ((d, v.1) : Dart × Str) := by
          rw [List.map_map]
          rfl
        rw [e]
        exact .ds _
      · have e : (v.2.map fun d => ((dk d, PyData.str v.1) : List Key × PyData)).map (fun kd => (kd.1, dat kd.2)) = kvP dk pS (v.2.map fun d => (d, v.1)) := by
          unfold kvP
          rw [List.map_map, List.map_map]
          rfl
        rw [e, mrgP_new (kf := dk) (pf := pS) dk_inj' _ _ hnd, ← vofs_take hv]
        exact bb_nil ⟨⟨_, _, _, _, _, _, rfl⟩, rfl⟩
  rintro is M ⟨⟨x6, x7, x8, x9, x10, x11, rfl⟩, rfl⟩
  rw [List.length_map, List.length_map, List.take_length]
  refine bb_cons (ss_for [6, 7] rfl .never (ii_lstd (ee_name 0 rfl ⟨g.map Datum.toD, rfl, fun i is M => (∃ x6 x7 x8 x9 x10 x11, is = st x6 x7 x8 x9 x10 x11) ∧ M = Ms (vofs h) ((vlOf g h f).take i), ⟨⟨_, _, _, _, _, _, rfl⟩, rfl⟩, ?_, ?_⟩)))
  · rintro j p is M hget ⟨⟨x6, x7, x8, x9, x10, x11, rfl⟩, rfl⟩
    rw [List.getElem?_map, List.getElem?_map] at hget
    obtain ⟨dd, hdd, rfl⟩ := Option.map_eq_some_iff.mp hget
    obtain ⟨v, hv, rfl⟩ := Option.map_eq_some_iff.mp hdd
    have hm := List.mem_of_getElem? hv
    have hh := hd0_mem (rows v hm)
    have hx := darts_mem hm hh
    have hfx := i.mem _ hx
    have h0 : v.2[0]? = some (hd0 v.2) := by
      have := rows v hm
      cases e : v.2 with
      | nil => exact absurd e this
      | cons x xs => rfl
    have hat : atI ((v.2.map Datum.toD).map dat) 0 = some (dat (tD (hd0 v.2))) := atI_zero (by rw [List.getElem?_map, List.getElem?_map, h0]; rfl)
    have hvl : (vlOf g h f)[j]? = some (v.1, vo h (f (hd0 v.2))) := by
      unfold vlOf
      rw [List.getElem?_map, hv]
      rfl
    refine gg_tupd (ds := [.str v.1, .list (v.2.map Datum.toD)]) rfl (ggs_cons (gg_name 6 scTi.nd (ggs_cons (gg_name 7 scTi.nd (ggs_nil ?_)))))
    refine bb_cons (ss_asg [] (ee_dget hu (ee_name 4 rfl (ee_dget hu (ee_name 3 rfl (ee_ixl (ee_name 7 rfl (ee_int ⟨_, 0, _, .ds _, rfl, hat, pD (f (hd0 v.2)), DG.t' (.fix _) (dk (hd0 v.2)) (get_prs wf hx), pS (vo h (f (hd0 v.2))), DG.t' (.own (i := 0) rfl) (dk (f (hd0 v.2))) (by rw [getP_kv dk_inj', vo_asc hfx]; rfl), ?_⟩))))))))
    refine gg_putk hu (ee_name 5 rfl ⟨b, rfl, ee_name 6 rfl ⟨1, _, sk v.1, rfl, rfl, ?_, bb_nil ⟨⟨_, _, _, _, _, _, rfl⟩, ?_⟩⟩⟩)
    · rw [kv_len, List.length_take]
      unfold vlOf
      rw [List.length_map]
      omega
    · have hn : v.1 ∉ ((vlOf g h f).take j).map (·.1) := by
        have nd := wf.names
        rw [← vl_fst (h := h) (f := f), split_at hvl, List.map_append, List.nodup_append] at nd
        exact fun z => nd.2.2 v.1 z v.1 List.mem_cons_self rfl
      have e2 := putP_new (kf := sk) (pf := pS) sk_inj (vo h (f (hd0 v.2))) hn
      rw [take_at hvl]
      simp only [Ms]
      rw [← e2]
      rfl
  rintro is M ⟨⟨x6, x7, x8, x9, x10, x11, rfl⟩, rfl⟩
  have evl : (vlOf g h f).take ((g.map Datum.toD).map dat).length = vlOf g h f := by
    rw [List.take_of_length_le]
    unfold vlOf
    rw [List.length_map, List.length_map, List.length_map]
    exact Nat.le_refl _
  rw [evl]
  refine bb_cons (ss_set 8 (ee_name 0 rfl ?_) scTi.nd)
  refine bb_cons (ss_for [9] rfl .never (ii_lstd (ee_callp C1 hr (aa_cons (ee_name 0 rfl (aa_nil ⟨g, rfl, wf, (srt (edgesRaw g)).map Datum.toD, rfl, fun j is M => (∃ (c : Gr) (x6 x7 x9 x10 x11 : Option Pr), is = st x6 x7 (some (dat (tD c))) x9 x10 x11 ∧ Fl g (((srt (edgesRaw g)).take j).filter fun e => decide ((f (e, 0)).2 = 1)) c) ∧ M = Ms (vofs h) (vlOf g h f), ⟨⟨g, _, _, _, _, _, rfl, Fl.start wf⟩, rfl⟩, ?_, ?_⟩))))))
  · rintro j p is M hget ⟨⟨c, x6, x7, x9, x10, x11, rfl, fl⟩, rfl⟩
    rw [List.getElem?_map, List.getElem?_map] at hget
    obtain ⟨dd, hdd, rfl⟩ := Option.map_eq_some_iff.mp hget
    obtain ⟨e, he, rfl⟩ := Option.map_eq_some_iff.mp hdd
    have hem := mem_srt.mp (List.mem_of_getElem? he)
    have h0 := edge_mem.mp hem
    refine gg_name 9 scTi.nd ?_
    refine bb_cons (ss_if (tt_cmp (cc_eqD (α := Int) hu (by decide) (ee_ixt (ee_dget hu (ee_name 3 rfl (ee_tupd (aa_cons (ee_name 9 rfl (aa_cons (ee_int (aa_nil ⟨[.str e, .int 0], rfl, by simp, pD (f (e, 0)), DG.t' (.fix _) (dk (e, 0)) (get_prs wf h0), ee_int ⟨_, 1, dat (.int (f (e, 0)).2), .ds [.str (f (e, 0)).1, .int (f (e, 0)).2], rfl, rfl, ee_int ⟨(f (e, 0)).2, 1, .inl rfl, .inl rfl, _, rfl, fun z => ?_, fun z => ?_⟩⟩⟩))))))))))))
    · have hne : e ∉ ((srt (edgesRaw g)).take j).filter fun e => decide ((f (e, 0)).2 = 1) := fun q => by
        have nd := srt_nd (edges_nd wf)
        rw [split_at he, List.nodup_append] at nd
        exact nd.2.2 e (List.mem_filter.mp q).1 e List.mem_cons_self rfl
      have hec := (fl.edges wf).mem_iff.mpr hem
      refine bb_cons (ss_set 8 (ee_callp C2 hr (aa_cons (ee_name 8 rfl (aa_cons (ee_name 9 rfl (aa_nil ⟨c, e, rfl, fl.wf, hec, bb_nil (bb_nil ⟨⟨normT (flipG c e), _, _, _, _, _, rfl, ?_⟩, rfl⟩)⟩)))))) scTi.nd)
      rw [take_at he, List.filter_append, List.filter_cons, z, if_pos rfl, List.filter_nil]
      exact fl.step wf hne
    · refine bb_nil (bb_nil ⟨⟨c, _, _, _, _, _, rfl, ?_⟩, rfl⟩)
      rw [take_at he, List.filter_append, List.filter_cons, z, if_neg (by decide), List.filter_nil, List.append_nil]
      exact fl
  rintro is M ⟨⟨c, x6, x7, x9, x10, x11, rfl, fl⟩, rfl⟩
  rw [List.length_map, List.length_map, List.take_length] at fl
  obtain ⟨r1, r2, r3, r4, r5⟩ := turns wf wfh cn ch hd i fl
  have lel : (srt (edgesRaw g)).length ≤ 100000 := by rw [srt_len]; omega
  refine bb_cons (ss_set 10 (ee_dictS (β := Str) rfl bt.dict (aa_cons (ee_mapD nmTi (defScope (tp 69)) [("_law_edge", 9)] (srt (edgesRaw g)) (fun e => dat (.str e)) (fun e => tD ((e, (f (e, 0)).1) : Str × Str)) rfl scTi.nd (by decide +kernel) (ii_lstd (ee_callp C1 hr (aa_cons (ee_name 0 rfl (aa_nil ⟨g, rfl, wf, (srt (edgesRaw g)).map Datum.toD, rfl, (dats_map _ _).symm, lel, fun L e acc hem s H C cl fp => gg_name 9 scTi.nd ⟨rfl, fun s H C cl fp => ?_⟩, ?_⟩)))))))) scTi.nd)
  · have h0 := edge_mem.mp (mem_srt.mp hem)
    refine ee_tupd (aa_cons (ee_name 9 rfl (aa_cons (ee_ixt (ee_dget hu (ee_name 3 rfl (ee_tupd (aa_cons (ee_name 9 rfl (aa_cons (ee_int (aa_nil ⟨[.str e, .int 0], rfl, by simp, pD (f (e, 0)), DG.t' (.fix _) (dk (e, 0)) (get_prs wf h0), ee_int ⟨_, 0, dat (.str (f (e, 0)).1), .ds [.str (f (e, 0)).1, .int (f (e, 0)).2], rfl, rfl, aa_nil ⟨[.str e, .str (f (e, 0)).1], rfl, by simp, rfl, rfl⟩⟩⟩))))))))))))
  · refine aa_nil ⟨elOf g f, ?_, by rw [el_fst]; exact srt_nd (edges_nd wf), ?_⟩
    · have e : tD (elOf g f) = .list ((srt (edgesRaw g)).map fun e => tD ((e, (f (e, 0)).1) : Str × Str)) := by
        show PyData.list ((elOf g f).map Datum.toD) = _
        unfold elOf
        rw [List.map_map]
        rfl
      rw [e]
    · refine bb_cons (ss_ret (ee_cmp (cc_eqD (α := Gr) hu (by decide) (ee_callp C3 hr (aa_cons (ee_name 8 rfl (aa_cons (ee_frz (ee_name 5 rfl ⟨b, 1, rfl, .inr (.inl ⟨_, rfl, aa_cons (ee_name 10 rfl (aa_nil ⟨c, vlOf g h f, elOf g f, rfl, fl.wf, r1, r2, r3, r4, ?_⟩))⟩)⟩)))))))))
      refine ee_callp C4 hr (aa_cons (ee_name 1 rfl (aa_nil ⟨h, rfl, wfh, normT (renG c (vlOf g h f) (elOf g f)), normT h, .inl rfl, .inl rfl, ?_⟩)))
      rw [r5]
      show post (dat (.bool (decide (normT h = normT h))))
      rw [decide_eq_true rfl]
      exact hp
end
end Q9
namespace Q9
open PySem L2
open PySem.W (Datum DatumOrd minOf)
theorem run_agree {g h : Gr} (wf : WF g) {f : Dart → Dart} (i : IsIso g h f) {d : Dart} (hd : d ∈ darts g) (a b : List Nat) : decide (run h (f d) a = run h (f d) b) = decide (run g d a = run g d b) := by
  rw [← i.run wf a hd, ← i.run wf b hd]
  congr 1
  exact propext ⟨fun z => i.inj _ (run_mem wf _ hd) _ (run_mem wf _ hd) z, fun z => by rw [z]⟩
section
variable {P : Program} {w : World} {K : PySem.W.Frag} {mg : Str → Option Value} {base : Heap} {k : Nat} {C : Addr}
theorem scWa : FnScope ["_law_source_here", "_law_graph", "_law_dart", "_law_other", "_law_other_dart", "_law_turn", "_law_first", "_law_second", "_law_meet_here"] ["_law_source_here", "_law_graph", "_law_dart", "_law_other", "_law_other_dart"] (defScope (tp 70)) := ⟨rfl, rfl, rfl, by decide +kernel, rfl, by decide +kernel, by decide +kernel⟩
def spWa : PT0 := fun ps S U => ∃ (a : Addr) (g h : Gr) (d : Dart) (f : Dart → Dart), ps = [raw (.ref a), dat (tD g), dat (tD d), dat (tD h), dat (tD (f d))] ∧ S = [a] ∧ WF g ∧ WF h ∧ d ∈ darts g ∧ IsIso g h f ∧ U (dat (.bool true)) []
theorem cal_wa (bt : Bt mg) (t : Top K mg "_law_words_agree" (tp 70) ["_law_source_here", "_law_graph", "_law_dart", "_law_other", "_law_other_dart"]) (C1 : Cal P w K mg base k "_law_word" ["_law_source_here"] spWo) (C2 : Cal P w K mg base k "follow" ["graph", "dart", "word"] (pur spFo)) : Cal P w K mg base (k + 1) "_law_words_agree" ["_law_source_here", "_law_graph", "_law_dart", "_law_other", "_law_other_dart"] spWa := by
  refine cal_mk t scWa (fun prs S post ⟨a, g, h, d, f, e, _⟩ => by rw [e]; rfl) fun f0 cdv A outer s H E B hr prs post ⟨a, g, h, d, f, e, hS, wf, wfh, hd, i, hp⟩ => ?_
  subst e
  rw [hS]
  have hu := hr.units
  have hfd := i.mem d hd
  have memS : ∀ b ∈ [a], (b, MO.src) ∈ ([(a, MO.src)] : MS) := fun b hb => by rw [List.mem_singleton.mp hb]; exact List.mem_cons_self
  refine bb_cons (ss_for [5] rfl .never (ii_range bt.range (aa_cons (ee_int (aa_nil ⟨6, rfl, by decide, fun j is M => (∃ x5 x6 x7 x8, is = [some (raw (.ref a)), some (dat (tD g)), some (dat (tD d)), some (dat (tD h)), some (dat (tD (f d))), x5, x6, x7, x8]) ∧ M = [(a, .src)], ⟨⟨none, none, none, none, rfl⟩, rfl⟩, ?_, ?_⟩)))))
  · rintro j p is M hget ⟨⟨x5, x6, x7, x8, rfl⟩, rfl⟩
    rw [List.getElem?_map] at hget
    obtain ⟨j', hj', rfl⟩ := Option.map_eq_some_iff.mp hget
    refine gg_name 5 scWa.nd ?_
    refine bb_cons (ss_par 6 7 rfl scWa.nd (by decide) (aa_cons (ee_call C1 hr (aa_cons (ee_name 0 rfl (aa_nil ⟨[a], memS, by simp, a, rfl, rfl, fun u hu1 hu2 => aa_cons (ee_call C1 hr (aa_cons (ee_name 0 rfl (aa_nil ⟨[a], memS, by simp, a, rfl, rfl, fun v hv1 hv2 => aa_nil ⟨_, _, rfl, ?_⟩⟩))))⟩))))))
    refine bb_cons (ss_set 8 (ee_cmp (cc_eqD (α := Dart) hu (by decide) (ee_callp C2 hr (aa_cons (ee_name 1 rfl (aa_cons (ee_name 2 rfl (aa_cons (ee_name 6 rfl (aa_nil ⟨g, d, u, rfl, wf, hd, hu1, hu2, ee_callp C2 hr (aa_cons (ee_name 1 rfl (aa_cons (ee_name 2 rfl (aa_cons (ee_name 7 rfl (aa_nil ⟨g, d, v, rfl, wf, hd, hv1, hv2, _, _, .inl rfl, .inl rfl, ?_⟩)))))))⟩)))))))))) scWa.nd)
    refine bb_cons (ss_if (tt_cmp (cc_neD (α := Bool) hu (by decide) (ee_name 8 rfl (ee_cmp (cc_eqD (α := Dart) hu (by decide) (ee_callp C2 hr (aa_cons (ee_name 3 rfl (aa_cons (ee_name 4 rfl (aa_cons (ee_name 6 rfl (aa_nil ⟨h, f d, u, rfl, wfh, hfd, hu1, hu2, ee_callp C2 hr (aa_cons (ee_name 3 rfl (aa_cons (ee_name 4 rfl (aa_cons (ee_name 7 rfl (aa_nil ⟨h, f d, v, rfl, wfh, hfd, hv1, hv2, _, _, .inl rfl, .inl rfl, decide (run g d u.cps.toList = run g d v.cps.toList), decide (run h (f d) u.cps.toList = run h (f d) v.cps.toList), .inl rfl, .inl rfl, false, ?_, (fun z => nomatch z), fun _ => bb_nil (bb_nil ⟨⟨_, _, _, _, rfl⟩, rfl⟩)⟩)))))))⟩))))))))))))))
    rw [run_agree wf i hd]
    simp
  · rintro is M ⟨⟨x5, x6, x7, x8, rfl⟩, rfl⟩
    exact bb_cons (ss_ret (ee_bl (ret0 hp memS)))
theorem scHo : FnScope ["_law_source_here", "_law_graph", "_law_other", "_law_answer", "_law_word_here", "_law_pairs"] ["_law_source_here", "_law_graph", "_law_other"] (defScope (tp 71)) := ⟨rfl, rfl, rfl, by decide +kernel, rfl, by decide +kernel, by decide +kernel⟩
def spHo : PT0 := fun ps S U => ∃ (a : Addr) (g h : Gr), ps = [raw (.ref a), dat (tD g), dat (tD h)] ∧ S = [a] ∧ WF g ∧ WF h ∧ Conn g ∧ Conn h ∧ g ≠ [] ∧ h ≠ [] ∧ U (dat (.bool true)) []
theorem cal_ho (bt : Bt mg) (t : Top K mg "_law_holds" (tp 71) ["_law_source_here", "_law_graph", "_law_other"]) (C1 : Cal P w K mg base k "find_isomorphism" ["graph", "other"] (pur spFi)) (C2 : Cal P w K mg base k "_law_edges" ["_law_graph"] (pur spEn)) (C3 : Cal P w K mg base k "compare_from" ["graph", "dart", "other", "other_dart"] (pur spCf))
    (C4 : Cal P w K mg base k "_law_maps_rotations" ["_law_graph", "_law_other", "_law_pairs"] (pur spMr)) (C5 : Cal P w K mg base k "_law_turns_into" ["_law_graph", "_law_other", "_law_pairs"] (pur spTi)) (C6 : Cal P w K mg base k "_law_words_agree" ["_law_source_here", "_law_graph", "_law_dart", "_law_other", "_law_other_dart"] spWa) :
    Cal P w K mg base (k + 1) "_law_holds" ["_law_source_here", "_law_graph", "_law_other"] spHo := by
  refine cal_mk t scHo (fun prs S post ⟨a, g, h, e, _⟩ => by rw [e]; rfl) fun f0 cdv A outer s H E B hr prs post ⟨a, g, h, e, hS, wf, wfh, cn, ch, ng, nh, hp⟩ => ?_
  subst e
  rw [hS]
  have hu := hr.units
  have memS : ∀ b ∈ [a], (b, MO.src) ∈ ([(a, MO.src)] : MS) := fun b hb => by rw [List.mem_singleton.mp hb]; exact List.mem_cons_self
  refine bb_cons (ss_set 3 (ee_callp C1 hr (aa_cons (ee_name 1 rfl (aa_cons (ee_name 2 rfl (aa_nil ⟨g, h, rfl, wf, wfh, cn, ch, ng, nh, fun a1 k1 => ?_⟩)))))) scHo.nd)
  have sym : (∃ f, IsIso g h f) ↔ ∃ f, IsIso h g f := ⟨fun ⟨f, i⟩ => (i.symm wf).imp fun _ z => z.1, fun ⟨f, i⟩ => (i.symm wfh).imp fun _ z => z.1⟩
  rcases fi_tag wf wfh k1 with ⟨iso, x, y, rfl, hxy⟩ | ⟨niso, rows, rfl⟩
  · refine bb_cons (ss_if (tt_cmp (cc_neD (α := Str) hu (by decide) (ee_ixt (ee_name 3 rfl (ee_int ⟨_, 0, dat (.str "isomorphic"), .ds [.str "isomorphic", x, y], rfl, rfl, ee_ixt (ee_callp C1 hr (aa_cons (ee_name 2 rfl (aa_cons (ee_name 1 rfl (aa_nil ⟨h, g, rfl, wfh, wf, ch, cn, nh, ng, fun a2 k2 => ?_⟩))))))⟩))))))
    rcases fi_tag wfh wf k2 with ⟨_, x2, y2, rfl, _⟩ | ⟨niso, _, _⟩
    rotate_left
    · exact absurd (sym.mp iso) niso
    refine ee_int ⟨_, 0, dat (.str "isomorphic"), .ds [.str "isomorphic", x2, y2], rfl, rfl, "isomorphic", "isomorphic", .inl rfl, .inl rfl, _, rfl, fun z => absurd z (by decide +kernel), fun _ => bb_nil ?_⟩
    refine bb_cons (ss_if (tt_cmp (cc_eqD (α := Str) hu (by decide) (ee_ixt (ee_name 3 rfl (ee_int ⟨_, 0, dat (.str "isomorphic"), .ds [.str "isomorphic", x, y], rfl, rfl, ee_str ⟨"isomorphic", "different", .inl rfl, .inl rfl, _, rfl, fun z => absurd z (by decide +kernel), fun _ => bb_nil ?_⟩⟩))))))
    have cnt : (edgesRaw g).length = (edgesRaw h).length ∧ g.length = h.length := by
      rcases hxy with ⟨e1, e2, _, _⟩ | ⟨d, e, f, i, hd, _, _, _, _⟩
      · have h1 := dartsOf_len g
        have h2 := dartsOf_len h
        have h3 := (dartsOf_perm wf).length_eq
        have h4 := (dartsOf_perm wfh).length_eq
        rw [e1, List.length_nil] at h3
        rw [e2, List.length_nil] at h4
        exact ⟨by omega, by rw [conn_one wf cn ng e1, conn_one wfh ch nh e2]⟩
      · exact iso_counts wf wfh cn ch (fun z => by rw [z] at hd; cases hd) i
    refine bb_cons (ss_if (tt_w (wt_or (tt_cmp (cc_neD (α := Int) hu (by decide) (ee_len bt.len (aa_cons (ee_callp C2 hr (aa_cons (ee_name 1 rfl (aa_nil ⟨g, rfl, wf, aa_nil ⟨_, _, rfl, .ls (.ds ((srt (edgesRaw g)).map Datum.toD)), ?_⟩⟩)))))))))))
    refine ee_len bt.len (aa_cons (ee_callp C2 hr (aa_cons (ee_name 2 rfl (aa_nil ⟨h, rfl, wfh, aa_nil ⟨_, _, rfl, .ls (.ds ((srt (edgesRaw h)).map Datum.toD)), _, _, .inl rfl, .inl rfl, false, ?_, (fun z => nomatch z), fun _ => ?_⟩⟩)))))
    · rw [List.length_map, List.length_map, List.length_map, List.length_map, srt_len, srt_len, cnt.1]
      simp
    refine wt_or1 (tt_cmp (cc_neD (α := Int) hu (by decide) (ee_len bt.len (aa_cons (ee_name 1 rfl (aa_nil ⟨_, _, rfl, .ls (.ds (g.map Datum.toD)), ee_len bt.len (aa_cons (ee_name 2 rfl (aa_nil ⟨_, _, rfl, .ls (.ds (h.map Datum.toD)), _, _, .inl rfl, .inl rfl, false, ?_, (fun z => nomatch z), fun _ => bb_nil ?_⟩)))⟩))))))
    · rw [List.length_map, List.length_map, List.length_map, List.length_map, cnt.2]
      simp
    rcases hxy with ⟨e1, e2, rfl, rfl⟩ | ⟨d, e, f, i, hd, he, hf, rfl, rfl⟩
    · refine bb_cons (ss_if (tt_cmp (cc_isN (ee_ixt (ee_name 3 rfl (ee_int ⟨_, 1, dat .none, .ds [.str "isomorphic", .none, .none], rfl, rfl, .none, rfl, true, rfl, fun _ => ?_, (fun z => nomatch z)⟩))))))
      have e3 : edgesRaw g = [] := List.length_eq_zero_iff.mp (by
        have h1 := dartsOf_len g
        have h3 := (dartsOf_perm wf).length_eq
        rw [e1, List.length_nil] at h3
        omega)
      refine bb_cons (ss_ret (ee_and (ee_cmp (cc_eqD (α := List Str) hu (by decide) (ee_callp C2 hr (aa_cons (ee_name 1 rfl (aa_nil ⟨g, rfl, wf, ee_lstd (aa_nil ⟨[], rfl, by simp, srt (edgesRaw g), [], .inl rfl, .inl rfl, true, ?_, (fun z => nomatch z), fun _ => ?_⟩)⟩))))))))
      · have e4 : srt (edgesRaw g) = [] := List.length_eq_zero_iff.mp (by rw [srt_len, e3]; rfl)
        rw [e4, decide_eq_true rfl]
      · exact ee_one (ee_cmp (cc_isN (ee_ixt (ee_name 3 rfl (ee_int ⟨_, 2, dat .none, .ds [.str "isomorphic", .none, .none], rfl, rfl, .none, rfl, ret0 hp memS⟩)))))
    · have hd0 : darts g ≠ [] := fun z => by rw [z] at hd; cases hd
      have x0 : ∃ (ts : List PyData), tD d = .tuple ts := ⟨_, rfl⟩
      refine bb_cons (ss_if (tt_cmp (cc_isN (ee_ixt (ee_name 3 rfl (ee_int ⟨_, 1, dat (tD d), .ds [.str "isomorphic", tD d, tD e], rfl, rfl, tD d, rfl, false, rfl, (fun z => nomatch z), fun _ => bb_nil ?_⟩))))))
      refine bb_cons (ss_asg [4, 5] (ee_callp C3 hr (aa_cons (ee_name 1 rfl (aa_cons (ee_ixt (ee_name 3 rfl (ee_int ⟨_, 1, dat (tD d), .ds [.str "isomorphic", tD d, tD e], rfl, rfl, aa_cons (ee_name 2 rfl (aa_cons (ee_ixt (ee_name 3 rfl (ee_int ⟨_, 2, dat (tD e), .ds [.str "isomorphic", tD d, tD e], rfl, rfl, aa_nil ⟨g, h, d, e, rfl, wf, wfh, cn, ch, hd, he, fun l il => ?_, fun u v _ _ _ _ dst => (dst.no wf hd i hf).elim⟩⟩)))))⟩))))))))
      obtain ⟨f2, i2, hf2, rfl⟩ := il
      refine gg_tupd (ds := [.str "match", tD (prs g f2)]) rfl (ggs_cons (gg_name 4 scHo.nd (ggs_cons (gg_name 5 scHo.nd (ggs_nil ?_)))))
      refine bb_cons (ss_if (tt_w (wt_or (tt_cmp (cc_neD (α := Str) hu (by decide) (ee_name 4 rfl (ee_str ⟨"match", "match", .inl rfl, .inl rfl, _, rfl, fun z => absurd z (by decide +kernel), fun _ => ?_⟩)))))))
      refine wt_or1 (tt_not (tt_val (ee_callp C4 hr (aa_cons (ee_name 1 rfl (aa_cons (ee_name 2 rfl (aa_cons (ee_name 5 rfl (aa_nil ⟨g, h, f2, rfl, wf, wfh, i2, true, rfl, (fun z => nomatch z), fun _ => bb_nil ?_⟩))))))))))
      refine bb_cons (ss_if (tt_not (tt_val (ee_callp C5 hr (aa_cons (ee_name 1 rfl (aa_cons (ee_name 2 rfl (aa_cons (ee_name 5 rfl (aa_nil ⟨g, h, f2, rfl, wf, wfh, cn, ch, hd0, i2, true, rfl, (fun z => nomatch z), fun _ => bb_nil ?_⟩)))))))))))
      refine bb_cons (ss_ret (ee_call C6 hr (aa_cons (ee_name 0 rfl (aa_cons (ee_name 1 rfl (aa_cons (ee_ixt (ee_name 3 rfl (ee_int ⟨_, 1, dat (tD d), .ds [.str "isomorphic", tD d, tD e], rfl, rfl, aa_cons (ee_name 2 rfl (aa_cons (ee_ixt (ee_name 3 rfl (ee_int ⟨_, 2, dat (tD e), .ds [.str "isomorphic", tD d, tD e], rfl, rfl, aa_nil ⟨[a], memS, by simp, a, g, h, d, f2, by rw [hf2], rfl, wf, wfh, hd, i2, ret0 hp memS⟩⟩)))))⟩))))))))))
  · refine bb_cons (ss_if (tt_cmp (cc_neD (α := Str) hu (by decide) (ee_ixt (ee_name 3 rfl (ee_int ⟨_, 0, dat (.str "different"), .ds [.str "different", .list (rows.map rowD)], rfl, rfl, ee_ixt (ee_callp C1 hr (aa_cons (ee_name 2 rfl (aa_cons (ee_name 1 rfl (aa_nil ⟨h, g, rfl, wfh, wf, ch, cn, nh, ng, fun a2 k2 => ?_⟩))))))⟩))))))
    rcases fi_tag wfh wf k2 with ⟨iso, _⟩ | ⟨_, rows2, rfl⟩
    · exact absurd (sym.mpr iso) niso
    refine ee_int ⟨_, 0, dat (.str "different"), .ds [.str "different", .list (rows2.map rowD)], rfl, rfl, "different", "different", .inl rfl, .inl rfl, _, rfl, fun z => absurd z (by decide +kernel), fun _ => bb_nil ?_⟩
    exact bb_cons (ss_if (tt_cmp (cc_eqD (α := Str) hu (by decide) (ee_ixt (ee_name 3 rfl (ee_int ⟨_, 0, dat (.str "different"), .ds [.str "different", .list (rows.map rowD)], rfl, rfl, ee_str ⟨"different", "different", .inl rfl, .inl rfl, _, rfl, fun _ => bb_cons (ss_ret (ee_bl (ret0 hp memS))), fun z => absurd z (by decide +kernel)⟩⟩))))))
end
end Q9
namespace Q9
open PySem L2
/-- what a comprehension reads -/
def LL (X : Cx) (B : Bs) (scope : Scope) (tg iter : Expr) (ifs : List Expr) (elt : Expr) (own : List (Str × Nat)) (is : Is) (M : MS) (Post : Pr → MS → Prop) : Prop := ∀ σ G H, Ok B σ G H is M → ∀ Q : VK, (∀ v G' H' p M', Ok B σ G' H' is M' → Same G G' → p.p v G' → Post p M' → Q v H') →
  tLc (IW X tg iter) (gB X scope tg) (tB X scope ifs) (eB X scope elt) (own.map (·.2)) σ H Q
section
variable {X : Cx} {B : Bs} {is : Is} {M : MS} {Post : Pr → MS → Prop} {D : En} {tg iter elt : Expr} {ifs : List Expr} {scope : Scope}
theorem LL.imp {own : List (Str × Nat)} {P P' : Pr → MS → Prop} (h : LL X B scope tg iter ifs elt own is M P) (k : ∀ p M', P p M' → P' p M') : LL X B scope tg iter ifs elt own is M P' := fun σ G H K Q q => h σ G H K Q fun v G' H' p M' K' g p1 p2 => q v G' H' p M' K' g p1 (k _ _ p2)
theorem LL.cv {own : List (Str × Nat)} (h : LL X B scope tg iter ifs elt own is M fun p M' => ∃ p' : Pr, (∀ v G, p.p v G → p'.p v G) ∧ Post p' M') : LL X B scope tg iter ifs elt own is M Post := fun σ G H K Q k =>
  h σ G H K Q fun v G' H' p M' K' g q ⟨p', c, hp⟩ => k v G' H' p' M' K' g (c _ _ q) hp
theorem ss_setL (N0 : List Str) (sc0 : Scope) (own : List (Str × Nat)) (i : Nat) {y : Str} {py pos spos : Pos} (hc : X.calm = true) (hN : X.N.Nodup) (hb : blkC N0 sc0 scope own = true) (h : LL X B scope tg iter ifs elt own is M fun p M1 => D.nx (is.set i (some p)) M1)
    (hy : X.N[i]? = some y := by rfl) (hyl : X.env.scope.names.lookup y = some .local := by rfl) (hsw : swapsWith (.ListComp elt [⟨tg, iter, ifs, 0⟩] scope pos) (some (.Name y py)) spos.line X.env = pure true := by exact sw_true rfl rfl rfl rfl)
    (hs : ∀ x, foldedSetIterable iter X.env x = pure x := by intro _; rfl) (hN0 : X.N = N0 := by rfl) (hs0 : X.env.scope = sc0 := by rfl) : SS X B (.Assign [.Name y py] (.ListComp elt [⟨tg, iter, ifs, 0⟩] scope pos) spos) is M D := fun σ G H K DD R => by
  subst hN0
  subst hs0
  exact SW.of (ps_setLc (own := own) hc hN hy hyl hsw pi_w (blkOk_by hb) bg bt be hs) (h σ G H K _ fun v G1 H1 p M1 K1 g1 q1 h1 => R.nx _ G1 H1 _ M1 (K1.slot i q1) g1 h1)
theorem ll_lc (own : List (Str × Nat))
    (h : II X B tg iter is M fun ps M1 => ps.length ≤ 100000 ∧ ∃ I : Nat → List Pr → Prop, I 0 [] ∧
      (∀ (L : Addr) (i : Nat) (p : Pr) (acc : List Pr), ps[i]? = some p → I i acc → acc.length ≤ i →
        BAll X scope fun X1 => GG X1 B (own.map (·.2)) tg p (wipeI is (own.map (·.2))) (M1 ++ [(L, .lst acc)]) fun is2 M2 => M2 = M1 ++ [(L, .lst acc)] ∧
          BAll X scope fun X2 => TTs X2 B ifs is2 (M1 ++ [(L, .lst acc)]) fun t M3 => M3 = M1 ++ [(L, .lst acc)] ∧ (t = false → I (i + 1) acc) ∧ (t = true →
            BAll X scope fun X3 => EE X3 B elt is2 (M1 ++ [(L, .lst acc)]) fun q M4 => M4 = M1 ++ [(L, .lst acc)] ∧ I (i + 1) (acc ++ [q]))) ∧
      ∀ acc, I ps.length acc → Post (lstP acc) M1) : LL X B scope tg iter ifs elt own is M Post := fun σ G H K Q k => by
  refine h σ G H K _ fun J G1 H1 ps M1 K1 g1 wk ⟨hz, I, h0, hst, hd⟩ L hL => ?_
  have KL := K1.push (o := .lst []) (m := .lst []) hL ⟨[], upd_same, True.intro⟩
  refine ⟨fun i m H' => m + i = ps.length ∧ ∃ G' acc, Ok B σ G' H' is (M1 ++ [(L, .lst acc)]) ∧ Same G1 G' ∧ I i acc ∧ acc.length ≤ i, ⟨ps.length, rfl, G1, [], KL, Same.refl _, h0, Nat.le_refl _⟩, fun i m H' ⟨em, G', acc, K', g', hI, hl⟩ => ?_⟩
  obtain ⟨w1, w2⟩ := wk G' H' g' K'.kn
  by_cases hi : i < ps.length
  · obtain ⟨go, yl⟩ := w1 i ps[i] (List.getElem?_eq_getElem hi)
    refine .inr ⟨go, fun H2 => ∃ G2 acc2, Ok B σ G2 H2 is (M1 ++ [(L, .lst acc2)]) ∧ Same G1 G2 ∧ I (i + 1) acc2 ∧ acc2.length ≤ i + 1, fun H2 q => ⟨m - 1, by omega, by omega, q⟩, fun x H2 hy s HH C cl fp => ?_⟩
    obtain ⟨G2, y1, y2, y3, y4, y5⟩ := yl x H2 hy
    have K2 := (K'.ext y1 y2 y3 y4).wipe (own.map (·.2))
    refine hst L i ps[i] acc (List.getElem?_eq_getElem hi) hI hl s HH C cl fp _ G2 H2 K2 x y5 _ fun σ3 G3 H3 is3 M3 K3 g3 e3 ⟨eM, h3⟩ => ?_
    subst eM
    have wi : ∀ (vs : List Nat), wipe (wipe σ vs) vs = wipe σ vs := fun vs => by
      have go : ∀ (vs ws : List Nat), (∀ v ∈ ws, v ∈ vs) → wipe (wipe σ ws) vs = wipe σ vs := by
        intro vs ws
        induction ws with
        | nil => intro _; rfl
        | cons w ws ih =>
          intro hw
          show wipe ((wipe σ ws).set w none) vs = wipe σ vs
          rw [wipe_set (hw w List.mem_cons_self), ih fun v hv => hw v (List.mem_cons_of_mem _ hv)]
      exact go vs vs fun _ h => h
    refine ⟨e3.trans (wi _), fun s HH C cl fp => ?_⟩
    refine (h3 s HH C cl fp).go K3 fun t G4 H4 M4 K4 g4 ⟨eM4, f4, t4⟩ => ?_
    subst eM4
    have gg : Same G1 G4 := ((g'.trans y1).trans g3).trans g4
    cases t with
    | false =>
      rw [if_neg Bool.false_ne_true]
      exact ⟨G4, acc, K4.slots ((K'.loc.mono y1).mono (g3.trans g4)), gg, f4 rfl, Nat.le_succ_of_le hl⟩
    | true =>
      rw [if_pos rfl]
      intro s HH C cl fp
      refine (t4 rfl s HH C cl fp) σ3 G4 H4 K4 _ fun v G5 H5 q M5 K5 g5 q5 ⟨eM5, i5⟩ => ?_
      subst eM5
      have hat := K5.at (a := L) (i := M1.length) (m := .lst acc) (by rw [List.getElem?_append_right (Nat.le_refl _), Nat.sub_self]; rfl)
      obtain ⟨vs, hv, hq⟩ := hat
      have hlen : vs.length = acc.length := hq.length.symm
      refine ⟨vs, hv, Nat.lt_of_lt_of_le (by omega : vs.length < 100001) (by decide), G5, acc ++ [q], ?_, gg.trans g5, i5, by rw [List.length_append]; exact Nat.succ_le_succ hl⟩
      have KW := K5.write (i := M1.length) (o := .lst (vs ++ [v])) (m' := .lst (acc ++ [q])) (by rw [List.getElem?_append_right (Nat.le_refl _), Nat.sub_self]; rfl) ⟨_, upd_same, hq.app ⟨q5, True.intro⟩⟩ (fun _ => True.intro)
      have eS : (M1 ++ [(L, MO.lst acc)]).set M1.length (L, .lst (acc ++ [q])) = M1 ++ [(L, .lst (acc ++ [q]))] := by
        rw [List.set_append_right _ _ (Nat.le_refl _), Nat.sub_self]
        rfl
      rw [eS] at KW
      exact KW.slots ((K'.loc.mono y1).mono ((g3.trans g4).trans g5))
  · have e : i = ps.length := by omega
    subst e
    refine .inl ⟨w2 _ (Nat.le_refl _), ?_⟩
    have hat := K'.at (a := L) (i := M1.length) (m := .lst acc) (by rw [List.getElem?_append_right (Nat.le_refl _), Nat.sub_self]; rfl)
    obtain ⟨vs, hv, hq⟩ := hat
    have nW : L ∉ B.W := fun hw => by
      obtain ⟨_, xs, e, _⟩ := K1.bw L hw
      rw [hL] at e
      cases e
    obtain ⟨KF, gF⟩ := K'.freeze (i := M1.length) (a := L) (o := .lst vs) (m := .lst acc) (by rw [List.getElem?_append_right (Nat.le_refl _), Nat.sub_self]; rfl) hv nW
    have eE : (M1 ++ [(L, MO.lst acc)]).eraseIdx M1.length = M1 := by
      rw [List.eraseIdx_append_of_length_le (Nat.le_refl _), Nat.sub_self]
      exact List.append_nil _
    rw [eE] at KF
    exact k (.ref L) _ H' (lstP acc) M1 KF ((g1.trans g').trans gF) ⟨L, vs, rfl, upd_same, hq.mono gF⟩ (hd acc hI)
theorem ll_lcN (own : List (Str × Nat))
    (h : II X B tg iter is M fun ps M1 => ps.length ≤ 100000 ∧ ∃ I : Nat → List Pr → MS → Prop, I 0 [] [] ∧
      (∀ (L : Addr) (i : Nat) (p : Pr) (acc : List Pr) (N : MS), ps[i]? = some p → I i acc N →
        BAll X scope fun X1 => GG X1 B (own.map (·.2)) tg p (wipeI is (own.map (·.2))) (M1 ++ (L, .lst acc) :: N) fun is2 M2 => M2 = M1 ++ (L, .lst acc) :: N ∧
            BAll X scope fun X3 => EE X3 B elt is2 (M1 ++ (L, .lst acc) :: N) fun q M4 => ∃ N', M4 = M1 ++ (L, .lst acc) :: N' ∧ I (i + 1) (acc ++ [q]) N') ∧
      ∀ acc N L, I ps.length acc N → Post (raw (.ref L)) (M1 ++ (L, .lst acc) :: N)) : LL X B scope tg iter [] elt own is M Post := fun σ G H K Q k => by
  refine h σ G H K _ fun J G1 H1 ps M1 K1 g1 wk ⟨hz, I, h0, hst, hd⟩ L hL => ?_
  have KL := K1.push (o := .lst []) (m := .lst []) hL ⟨[], upd_same, True.intro⟩
  have at_mid : ∀ {x : Addr × MO} {N : MS}, (M1 ++ x :: N)[M1.length]? = some x := fun {x N} => by rw [List.getElem?_append_right (Nat.le_refl _), Nat.sub_self]; rfl
  have set_mid : ∀ {x y : Addr × MO} {N : MS}, (M1 ++ x :: N).set M1.length y = M1 ++ y :: N := fun {x y N} => by rw [List.set_append_right _ _ (Nat.le_refl _), Nat.sub_self]; rfl
  refine ⟨fun i m H' => m + i = ps.length ∧ ∃ G' acc N, Ok B σ G' H' is (M1 ++ (L, .lst acc) :: N) ∧ Same G1 G' ∧ I i acc N ∧ acc.length ≤ i, ⟨ps.length, rfl, G1, [], [], KL, Same.refl _, h0, Nat.le_refl _⟩, fun i m H' ⟨em, G', acc, N, K', g', hI, hl⟩ => ?_⟩
  obtain ⟨w1, w2⟩ := wk G' H' g' K'.kn
  by_cases hi : i < ps.length
  · obtain ⟨go, yl⟩ := w1 i ps[i] (List.getElem?_eq_getElem hi)
    refine .inr ⟨go, fun H2 => ∃ G2 ac2 N2, Ok B σ G2 H2 is (M1 ++ (L, .lst ac2) :: N2) ∧ Same G1 G2 ∧ I (i + 1) ac2 N2 ∧ ac2.length ≤ i + 1, fun H2 q => ⟨m - 1, by omega, by omega, q⟩, fun x H2 hy s HH C cl fp => ?_⟩
    obtain ⟨G2, y1, y2, y3, y4, y5⟩ := yl x H2 hy
    have K2 := (K'.ext y1 y2 y3 y4).wipe (own.map (·.2))
    have l2 : SL G2 is σ := K'.loc.mono y1
    refine hst L i ps[i] acc N (List.getElem?_eq_getElem hi) hI s HH C cl fp _ G2 H2 K2 x y5 _ fun σ3 G3 H3 is3 M3 K3 g3 e3 ⟨eM, h3⟩ => ?_
    subst eM
    refine ⟨e3.trans (wipe_wipe σ _), fun s HH C cl fp => .inl ⟨rfl, ?_⟩⟩
    show if true = true then _ else _
    rw [if_pos rfl]
    intro s HH C cl fp
    refine h3 s HH C cl fp σ3 G3 H3 K3 _ fun v G5 H5 q M5 K5 g5 q5 ⟨N', eM5, i5⟩ => ?_
    subst eM5
    obtain ⟨vs, hv, hq⟩ := K5.at (a := L) (i := M1.length) (m := .lst acc) at_mid
    have hlen : vs.length = acc.length := hq.length.symm
    refine ⟨vs, hv, Nat.lt_of_lt_of_le (by omega : vs.length < 100001) (by decide), G5, acc ++ [q], N', ?_, ((g'.trans y1).trans g3).trans g5, i5, by rw [List.length_append, List.length_singleton]; omega⟩
    have KW := K5.write (i := M1.length) (o := .lst (vs ++ [v])) (m' := .lst (acc ++ [q])) at_mid ⟨_, upd_same, hq.app ⟨q5, True.intro⟩⟩ (fun _ => True.intro)
    rw [set_mid] at KW
    exact KW.slots (l2.mono (g3.trans g5))
  · have e : i = ps.length := by omega
    subst e
    exact .inl ⟨w2 _ (Nat.le_refl _), k (.ref L) _ H' _ _ K' (g1.trans g') rfl (hd acc N L hI)⟩
theorem ll_lcX (own : List (Str × Nat)) {α : Type} (f : α → Pr) (t : α → Bool) (g : α → PyData)
    (h : II X B tg iter is M fun ps M1 => ∃ xs : List α, ps = xs.map f ∧ xs.length ≤ 100000 ∧
      (∀ (L : Addr) (x : α) (acc : List Pr), x ∈ xs →
        BAll X scope fun X1 => GG X1 B (own.map (·.2)) tg (f x) (wipeI is (own.map (·.2))) (M1 ++ [(L, .lst acc)]) fun is2 M2 => M2 = M1 ++ [(L, .lst acc)] ∧
          BAll X scope fun X2 => TTs X2 B ifs is2 (M1 ++ [(L, .lst acc)]) fun u M3 => M3 = M1 ++ [(L, .lst acc)] ∧ u = t x ∧ (t x = true →
            BAll X scope fun X3 => EE X3 B elt is2 (M1 ++ [(L, .lst acc)]) fun q M4 => M4 = M1 ++ [(L, .lst acc)] ∧ q = dat (g x))) ∧
      Post (dat (.list ((xs.filter t).map g))) M1) : LL X B scope tg iter ifs elt own is M Post := by
  refine LL.cv (LL.imp (P := fun p M' => ∃ ds : List PyData, p = lstP (ds.map dat) ∧ Post (dat (.list ds)) M') (ll_lc own (fun σ G H K R k => h σ G H K R fun J G1 H1 ps M1 K1 g1 wk ⟨xs, e1, hl, hst, hp⟩ => ?_)) fun p M' ⟨ds, e, q⟩ => ⟨_, fun v G z => by rw [e] at z; exact dat_lst.mpr z, q⟩)
  refine k J G1 H1 ps M1 K1 g1 wk ⟨by rw [e1, List.length_map]; exact hl, fun i acc => acc = (((xs.take i).filter t).map g).map dat, rfl, fun L i p acc hp' hI hle s H C cl fp => ?_, fun acc hI => ⟨(xs.filter t).map g, ?_, hp⟩⟩
  · obtain ⟨x, hx, ep⟩ : ∃ x, xs[i]? = some x ∧ f x = p := by
      rw [e1, List.getElem?_map] at hp'
      exact Option.map_eq_some_iff.mp hp'
    subst ep
    have et := take_at hx
    intro σ2 G2 H2 K2 v hv Q kk
    refine hst L x acc (List.mem_of_getElem? hx) s H C cl fp σ2 G2 H2 K2 v hv Q fun σ3 G3 H3 is3 M3 K3 g3 e3 ⟨eM, h3⟩ => kk σ3 G3 H3 is3 M3 K3 g3 e3 ⟨eM, fun s H C cl fp => ?_⟩
    have conv : ∀ (u : Bool) (M3 : MS), (M3 = M1 ++ [(L, .lst acc)] ∧ u = t x ∧ (t x = true → BAll X scope fun X3 => EE X3 B elt is3 (M1 ++ [(L, .lst acc)]) fun q M4 => M4 = M1 ++ [(L, .lst acc)] ∧ q = dat (g x))) →
        M3 = M1 ++ [(L, .lst acc)] ∧ (u = false → acc = (((xs.take (i + 1)).filter t).map g).map dat) ∧ (u = true → BAll X scope fun X3 => EE X3 B elt is3 (M1 ++ [(L, .lst acc)]) fun q M4 => M4 = M1 ++ [(L, .lst acc)] ∧ acc ++ [q] = (((xs.take (i + 1)).filter t).map g).map dat) := by
      rintro u M3 ⟨e1, e2, e3⟩
      refine ⟨e1, fun hu => ?_, fun hu s H C cl fp => EE.imp (e3 (e2 ▸ hu) s H C cl fp) fun q M4 ⟨f1, f2⟩ => ⟨f1, ?_⟩⟩
      · rw [hI, et, List.filter_append, List.filter_cons, if_neg (by rw [← e2, hu]; decide)]
        simp
      · rw [hI, et, List.filter_append, List.filter_cons, if_pos (by rw [← e2, hu]), f2]
        simp
    rcases h3 s H C cl fp with ⟨z, q⟩ | ⟨c, z, q⟩
    · exact .inl ⟨z, conv _ _ q⟩
    · exact .inr ⟨c, z, TT'.imp q conv⟩
  · rw [hI, e1, List.length_map, List.take_length]
end
end Q9
namespace Q9
open PySem L2
open PySem.W (Datum DatumOrd minOf)
def szs (g : Gr) : List (Dart × Int) := g.flatMap fun v => v.2.map fun d => (d, (v.2.length : Int))
theorem szs_fst (g : Gr) : (szs g).map (·.1) = darts g := by
  unfold szs darts
  rw [List.map_flatMap]
  congr 1
  funext v
  rw [List.map_map]
  exact List.map_id _
theorem szs_take {h : Gr} {i : Nat} {v : Str × List Dart} (hv : h[i]? = some v) : szs (h.take (i + 1)) = szs (h.take i) ++ v.2.map fun d => (d, (v.2.length : Int)) := by
  unfold szs
  rw [take_at hv, List.flatMap_append]
  simp
theorem szs_row {g : Gr} (wf : WF g) {v : Str × List Dart} (hv : v ∈ g) {d : Dart} (hd : d ∈ v.2) : asc (szs g) d = some (v.2.length : Int) :=
  asc_of (by rw [szs_fst]; exact wf.nd) (List.mem_flatMap.mpr ⟨v, hv, List.mem_map.mpr ⟨d, hd, rfl⟩⟩)
def chg (x : Dart) (r : List Dart) : List Dart := if x ∈ r then [(trn (ixD x r) r).getD 1 x, (trn (ixD x r) r).getD 0 x] ++ (trn (ixD x r) r).drop 2 else r
def far (x : Dart) (g : Gr) : Gr := g.map fun v => (v.1, chg x v.2)
theorem chg_perm {x : Dart} {r : List Dart} (h : x ∈ r → 2 < r.length) : (chg x r).Perm r := by
  unfold chg
  split
  · rename_i hx
    refine List.Perm.trans ?_ (trn_perm (ixD x r) r)
    have hl := trn_len (ixD x r) r
    have h2 := h hx
    generalize trn (ixD x r) r = s at hl
    match s, hl with
    | a :: b :: s, _ => exact List.Perm.swap _ _ _
    | [a], hl => exact absurd (show 1 = r.length from hl) (by omega)
    | [], hl => exact absurd (show 0 = r.length from hl) (by omega)
  · exact .refl _
theorem far_darts {x : Dart} {g : Gr} (h : ∀ v ∈ g, x ∈ v.2 → 2 < v.2.length) : (darts (far x g)).Perm (darts g) := by
  induction g with
  | nil => exact .nil
  | cons v g ih =>
    have := ih fun u hu => h u (List.mem_cons_of_mem _ hu)
    unfold darts far at this ⊢
    rw [List.map_cons, List.flatMap_cons, List.flatMap_cons]
    exact (chg_perm (h v List.mem_cons_self)).append this
theorem far_names (x : Dart) (g : Gr) : (far x g).map (·.1) = g.map (·.1) := by
  unfold far
  rw [List.map_map]
  rfl
theorem far_wf {x : Dart} {g : Gr} (wf : WF g) (h : ∀ v ∈ g, x ∈ v.2 → 2 < v.2.length) : WF (far x g) := by
  have p := far_darts h
  refine ⟨by rw [far_names]; exact wf.names, fun v hv => ?_, p.nodup_iff.mpr wf.nd, fun d hd => wf.dart d (p.mem_iff.mp hd), fun d hd => p.mem_iff.mpr (wf.op d (p.mem_iff.mp hd)), by rw [p.length_eq]; exact wf.sz, ?_⟩
  · have : v.1 ∈ g.map (·.1) := by rw [← far_names x]; exact List.mem_map.mpr ⟨v, hv, rfl⟩
    obtain ⟨u, hu, e⟩ := List.mem_map.mp this
    rw [← e]
    exact wf.isn u hu
  · unfold far
    rw [List.length_map]
    exact wf.vs
theorem far_conn {x : Dart} {g : Gr} (wf : WF g) (cn : Conn g) (h : ∀ v ∈ g, x ∈ v.2 → 2 < v.2.length) : Conn (far x g) := by
  have wf' := far_wf wf h
  have p := far_darts h
  have hvo : ∀ d ∈ darts g, vo (far x g) d = vo g d := fun d hd => by
    obtain ⟨v, hv, hm⟩ := row_of hd
    rw [vo_row wf hv hm]
    exact vo_row wf' (v := (v.1, chg x v.2)) (List.mem_map.mpr ⟨v, hv, rfl⟩) ((chg_perm (h v hv)).mem_iff.mpr hm)
  intro S hS hc
  rw [far_names] at hS ⊢
  refine cn S hS fun d hd hs => ?_
  rw [← hvo _ (wf.op d hd)]
  refine hc d (p.mem_iff.mpr hd) ?_
  rw [hvo d hd]
  exact hs
section
variable {P : Program} {w : World} {K : PySem.W.Frag} {mg : Str → Option Value} {base : Heap} {k : Nat} {C : Addr}
abbrev pI : Int → Pr := fun i => dat (.int i)
abbrev nmFc : List Str := ["_law_graph", "_law_dart", "_law_sizes", "_law_vertex", "_law_rotation", "_law_darts", "_law_found", "_law_at", "_law_one"]
theorem scFc : FnScope nmFc ["_law_graph"] (defScope (tp 66)) := ⟨rfl, rfl, rfl, by decide +kernel, rfl, by decide +kernel, by decide +kernel⟩
def spFc : List Pr → (Pr → Prop) → Prop := fun ps post => ∃ g : Gr, ps = [dat (tD g)] ∧ WF g ∧ Conn g ∧ g ≠ [] ∧ darts g ≠ [] ∧ ∀ h, WF h → Conn h → h ≠ [] → darts h ≠ [] → post (dat (tD h))
theorem cal_fc (bt : Bt mg) (t : Top K mg "_law_far_changed" (tp 66) ["_law_graph"]) (C1 : Cal P w K mg base k "_law_next_darts" ["_law_graph"] (pur spNd)) (C2 : Cal P w K mg base k "_law_match" ["_law_next_darts_here", "_law_dart", "_law_others", "_law_to"] spMa) : Cal P w K mg base (k + 1) "_law_far_changed" ["_law_graph"] (pur spFc) := by
  refine cal_pur t scFc (fun prs' post ⟨g, e, _⟩ => by rw [e]; rfl) fun f0 cdv A outer s H E B hS hr prs' post ⟨g, e, wf, cn, ng, hd, hp⟩ => ?_
  subst e
  have hu := hr.units
  have hsz := wf.sz
  have hvs := wf.vs
  obtain ⟨y, ys, hys⟩ : ∃ y ys, srt (darts g) = y :: ys := by
    cases e : srt (darts g) with
    | nil =>
      have := srt_len (darts g)
      rw [e] at this
      exact absurd (List.length_eq_zero_iff.mp this.symm) hd
    | cons y ys => exact ⟨y, ys, rfl⟩
  have hmin : minOf y ys ∈ darts g := by
    have := minOf_mem y ys
    rw [← hys, mem_srt] at this
    exact this
  have hlsp : ∀ {M : MS}, LsP M (dat (.list ((srt (darts g)).map Datum.toD))) (((y :: ys).map Datum.toD).map dat) := by
    rw [hys]
    exact .ds _
  refine bb_cons (ss_set 1 (ee_min (α := Dart) rfl hu (by decide) toD_dart_inj bt.min (aa_cons (ee_sortT (Datum.toD : Dart → PyData) dk (fun _ => rfl) rfl hu bt.sorted (aa_cons (ee_callp C1 hr (aa_cons (ee_name 0 rfl (aa_nil ⟨g, rfl, wf, aa_nil ⟨_, _, darts g, rfl, .fix _, keys_nx g, srt_pair (by decide) (by omega), aa_nil ⟨_, y, ys, rfl, hlsp, ?_⟩⟩⟩)))))))) scFc.nd)
  obtain ⟨d0, hd0⟩ : ∃ d0, d0 = minOf y ys := ⟨_, rfl⟩
  have hd0m : d0 ∈ darts g := by rw [hd0]; exact hmin
  rw [← hd0]
  refine bb_cons (ss_set 2 (ee_newt fun sz => ?_) scFc.nd)
  let st : Option Pr → Option Pr → Option Pr → Option Pr → Option Pr → Option Pr → Is := fun x3 x4 x5 x6 x7 x8 => [some (dat (tD g)), some (dat (tD d0)), some (raw (.ref sz)), x3, x4, x5, x6, x7, x8]
  refine bb_cons (ss_for [3, 4] rfl .never (ii_lstd (ee_name 0 rfl ⟨g.map Datum.toD, rfl, fun i is M => (∃ x3 x4, is = st x3 x4 none none none none) ∧ M = [(sz, .dt (kvP dk pI (szs (g.take i))))], ⟨⟨none, none, rfl⟩, rfl⟩, ?_, ?_⟩)))
  · rintro i p is M hget ⟨⟨x3, x4, rfl⟩, rfl⟩
    rw [List.getElem?_map, List.getElem?_map] at hget
    obtain ⟨dd, hdd, rfl⟩ := Option.map_eq_some_iff.mp hget
    obtain ⟨v, hv, rfl⟩ := Option.map_eq_some_iff.mp hdd
    have hm := List.mem_of_getElem? hv
    have hlen := row_len wf hm
    refine gg_tupd (ds := [.str v.1, .list (v.2.map Datum.toD)]) rfl (ggs_cons (gg_name 3 scFc.nd (ggs_cons (gg_name 4 scFc.nd (ggs_nil ?_)))))
    refine bb_cons (ss_expr (ee_upd rfl hu (ee_name 2 rfl ⟨sz, 0, _, rfl, rfl, ee_mapD nmFc (defScope (tp 66)) [("_law_one", 8)] v.2 (fun d => dat (tD d)) (fun d => tD ((d, (v.2.length : Int)) : Dart × Int)) rfl scFc.nd (by decide +kernel) (ii_lstd (ee_name 4 rfl ⟨v.2.map Datum.toD, rfl, (dats_map _ _).symm, by omega, fun L d acc hd s H C cl fp => gg_name 8 scFc.nd ⟨rfl, fun s H C cl fp => ?_⟩, ?_⟩))⟩)))
    · exact ee_tupd (aa_cons (ee_name 8 rfl (aa_cons (ee_len bt.len (aa_cons (ee_name 4 rfl (aa_nil ⟨_, _, rfl, .ls (.ds (v.2.map Datum.toD)), aa_nil ⟨[tD d, .int (v.2.length : Int)], by rw [List.length_map, List.length_map]; rfl, by simp, rfl, rfl⟩⟩)))))))
    · have hnd : ((szs (g.take i) ++ v.2.map fun d => (d, (v.2.length : Int))).map (·.1)).Nodup := by
        rw [← szs_take hv, szs_fst]
        have nd := wf.nd
        rw [darts_split hv, ← List.append_assoc, ← darts_take hv, List.nodup_append] at nd
        exact nd.1
      have hlen2 : (szs (g.take i)).length ≤ 120 := by
        have e := congrArg List.length (szs_fst (g.take i))
        rw [List.length_map] at e
        have e2 := congrArg List.length (darts_split hv)
        rw [List.length_append] at e2
        omega
      refine ⟨_, v.2.map fun d => (dk d, .int (v.2.length : Int)), rfl, ?_, by rw [kv_len, List.length_map]; omega, ?_⟩
      · have e : (v.2.map fun d => ((dk d, PyData.int (v.2.length : Int)) : List Key × PyData)).map (fun kd => pairD (.tuple (kd.1.map kD)) kd.2) = v.2.map fun d => tD ((d, (v.2.length : Int)) : Dart × Int) := by
          rw [List.map_map]
          rfl
        rw [e]
        exact .ds _
      · have e : (v.2.map fun d => ((dk d, PyData.int (v.2.length : Int)) : List Key × PyData)).map (fun kd => (kd.1, dat kd.2)) = kvP dk pI (v.2.map fun d => (d, (v.2.length : Int))) := by
          unfold kvP
          rw [List.map_map, List.map_map]
          rfl
        rw [e, mrgP_new (kf := dk) (pf := pI) dk_inj' _ _ hnd, ← szs_take hv]
        exact bb_nil ⟨⟨_, _, rfl⟩, rfl⟩
  rintro is M ⟨⟨x3, x4, rfl⟩, rfl⟩
  rw [List.length_map, List.length_map, List.take_length]
  have far_rest : ∀ (im : List (Dart × Dart)), (im.map (·.1)).Perm (darts g) → BB (cxOf CX0 P w K mg base nmFc "_law_far_changed" (defScope (tp 66)) f0 cdv A outer s H E).nox B ((defBody (tp 66)).drop 4) (st x3 x4 (some (dat (tD ((im.map (·.1)).filter fun d => decide (2 < (asc (szs g) d).getD 0))))) none none none) [(sz, .dt (kvP dk pI (szs g)))] (retP post) := by
    intro im hper
    obtain ⟨ds, hds⟩ : ∃ ds, ds = (im.map (·.1)).filter fun d => decide (2 < (asc (szs g) d).getD 0) := ⟨_, rfl⟩
    rw [← hds]
    refine bb_cons (ss_if (tt_cmp (cc_eqD (α := List Dart) hu (by decide) (ee_name 5 rfl (ee_lstd (aa_nil ⟨[], rfl, by simp, ds, [], .inl rfl, .inl rfl, _, rfl, fun z => ?_, fun z => bb_nil ?_⟩))))))
    · exact bb_cons (ss_ret (ee_name 0 rfl (hp g wf cn ng hd)))
    have hne : ds ≠ [] := of_decide_eq_false z
    obtain ⟨pre, x, hpx⟩ : ∃ pre x, ds = pre ++ [x] := ⟨ds.dropLast, ds.getLast hne, (List.dropLast_concat_getLast hne).symm⟩
    have hx : x ∈ ds := by rw [hpx]; simp
    have hx2 : x ∈ darts g ∧ 2 < (asc (szs g) x).getD 0 := by
      rw [hds] at hx
      obtain ⟨h1, h2⟩ := List.mem_filter.mp hx
      exact ⟨hper.mem_iff.mp h1, of_decide_eq_true h2⟩
    have hbig : ∀ v ∈ g, x ∈ v.2 → 2 < v.2.length := fun v hv hm => by
      have := hx2.2
      rw [szs_row wf hv hm] at this
      have this : (2 : Int) < (v.2.length : Int) := this
      omega
    have hat : atI ((ds.map Datum.toD).map dat) (-1) = some (dat (tD x)) := by
      rw [hpx, List.map_append, List.map_append]
      exact atI_last _ _
    refine bb_cons (ss_set 6 (ee_lstm (aa_nil ⟨by simp, fun c => ?_⟩)) scFc.nd)
    refine bb_cons (ss_for [3, 4] rfl .never (ii_lstd (ee_name 0 rfl ⟨g.map Datum.toD, rfl, fun i is M => (∃ x3 x4 x7 x8, is = st x3 x4 (some (dat (tD ds))) (some (raw (.ref c))) x7 x8) ∧ M = [(sz, .dt (kvP dk pI (szs g))), (c, .lst (((far x (g.take i)).map Datum.toD).map dat))], ⟨⟨_, _, _, _, rfl⟩, rfl⟩, ?_, ?_⟩)))
    · rintro i p is M hget ⟨⟨x3, x4, x7, x8, rfl⟩, rfl⟩
      rw [List.getElem?_map, List.getElem?_map] at hget
      obtain ⟨dd, hdd, rfl⟩ := Option.map_eq_some_iff.mp hget
      obtain ⟨v, hv, rfl⟩ := Option.map_eq_some_iff.mp hdd
      have hm := List.mem_of_getElem? hv
      have hlen := row_len wf hm
      refine gg_tupd (ds := [.str v.1, .list (v.2.map Datum.toD)]) rfl (ggs_cons (gg_name 3 scFc.nd (ggs_cons (gg_name 4 scFc.nd (ggs_nil ?_)))))
      have hfar : far x (g.take (i + 1)) = far x (g.take i) ++ [(v.1, chg x v.2)] := by
        unfold far
        rw [take_at hv, List.map_append]
        rfl
      have hll : (far x (g.take i)).length ≤ 100 := by
        unfold far
        rw [List.length_map, List.length_take]
        omega
      refine bb_cons (ss_if (tt_cmp (cc_inD (α := Dart) hu (by decide) (ee_ixl (ee_name 5 rfl (ee_neg (i := 0) (ee_int ⟨1, rfl, _, _, _, .ds (ds.map Datum.toD), rfl, hat, ee_name 4 rfl ⟨x, v.2, rfl, .ds (v.2.map Datum.toD), _, rfl, fun z => ?_, fun z => bb_nil ?_⟩⟩)))))))
      · have hxv : x ∈ v.2 := by simpa using z
        have h2 := hbig v hm hxv
        have hch : chg x v.2 = [(trn (ixD x v.2) v.2).getD 1 x, (trn (ixD x v.2) v.2).getD 0 x] ++ (trn (ixD x v.2) v.2).drop 2 := if_pos hxv
        have htl := trn_len (ixD x v.2) v.2
        refine bb_cons (ss_set 7 (ee_index (α := Dart) hu (by decide) (ee_name 4 rfl ⟨v.2, rfl, ee_ixl (ee_name 5 rfl (ee_neg (i := 0) (ee_int ⟨1, rfl, _, _, _, .ds (ds.map Datum.toD), rfl, hat, x, rfl, hxv, by omega, ?_⟩)))⟩)) scFc.nd)
        obtain ⟨n, hn⟩ : ∃ n : Nat, n = ixD x v.2 := ⟨_, rfl⟩
        have hn' := hn.symm
        rw [hn'] at hch htl
        unfold ixD at hn'
        rw [hn']
        refine bb_cons (ss_set 4 (ee_catd (ee_sliced (ee_name 4 rfl (ee_name 7 rfl ⟨_, rfl, ⟨v.2.map Datum.toD, .ds _, ee_sliced (ee_name 4 rfl (ee_name 7 rfl ⟨_, rfl, ⟨v.2.map Datum.toD, .ds _, _, _, .ds _, .ds _, ?_, ?_⟩⟩))⟩⟩)))) scFc.nd)
        · rw [cut_from, cut_to, List.length_drop, List.length_take, List.length_map]
          omega
        rw [cut_from, cut_to, ← List.map_drop, ← List.map_take, ← List.map_append, show v.2.drop n ++ v.2.take n = trn n v.2 from rfl]
        generalize trn n v.2 = s at hch htl
        match s, hch, htl with
        | a :: b :: s, hch, htl =>
          have htl : s.length + 2 = v.2.length := htl
          refine bb_cons (ss_set 4 (ee_catd (ee_lstd (aa_cons (ee_ixl (ee_name 4 rfl (ee_int ⟨_, 1, dat (tD b), .ds ((a :: b :: s).map Datum.toD), rfl, atI_nat (j := 1) rfl, aa_cons (ee_ixl (ee_name 4 rfl (ee_int ⟨_, 0, dat (tD a), .ds ((a :: b :: s).map Datum.toD), rfl, atI_zero rfl, aa_nil ⟨[tD b, tD a], rfl, by simp, ee_sliced (ee_name 4 rfl (ee_int ⟨2, rfl, ⟨(a :: b :: s).map Datum.toD, .ds _, [tD b, tD a], s.map Datum.toD, .ds _, ?_, ?_, ?_⟩⟩))⟩⟩)))⟩)))))) scFc.nd)
          · rw [show cutP ((a :: b :: s).map (Datum.toD : Dart → PyData)) (some 2) none = ((a :: b :: s).map Datum.toD).drop 2 from cut_from _ 2]
            exact .ds (s.map Datum.toD)
          · rw [List.length_map]
            show 2 + s.length ≤ _
            omega
          · refine bb_nil ?_
            refine bb_cons (ss_expr (ee_append (ee_name 6 rfl ⟨c, 1, _, rfl, rfl, ee_tupd (aa_cons (ee_name 3 rfl (aa_cons (ee_name 4 rfl (aa_nil ⟨[.str v.1, .list ([tD b, tD a] ++ s.map Datum.toD)], rfl, by simp, _, rfl, ?_, bb_nil ⟨⟨_, _, _, _, rfl⟩, ?_⟩⟩)))))⟩)))
            · rw [List.length_map, List.length_map]
              omega
            · have e : tD ((v.1, chg x v.2) : Str × List Dart) = .tuple [.str v.1, .list ([tD b, tD a] ++ s.map Datum.toD)] := by
                rw [hch]
                rfl
              rw [hfar, List.map_append, List.map_append, ← e]
              rfl
        | [a], _, htl => exact absurd (show 1 = v.2.length from htl) (by omega)
        | [], _, htl => exact absurd (show 0 = v.2.length from htl) (by omega)
      · have hch : chg x v.2 = v.2 := if_neg (by simpa using z)
        refine bb_cons (ss_expr (ee_append (ee_name 6 rfl ⟨c, 1, _, rfl, rfl, ee_tupd (aa_cons (ee_name 3 rfl (aa_cons (ee_name 4 rfl (aa_nil ⟨[.str v.1, .list (v.2.map Datum.toD)], rfl, by simp, _, rfl, ?_, bb_nil ⟨⟨_, _, _, _, rfl⟩, ?_⟩⟩)))))⟩)))
        · rw [List.length_map, List.length_map]
          omega
        · have e : tD ((v.1, chg x v.2) : Str × List Dart) = .tuple [.str v.1, .list (v.2.map Datum.toD)] := by
            rw [hch]
            rfl
          rw [hfar, List.map_append, List.map_append, ← e]
          rfl
    · rintro is M ⟨⟨x3, x4, x7, x8, rfl⟩, rfl⟩
      rw [List.length_map, List.length_map, List.take_length]
      refine bb_cons (ss_ret (ee_frzd hS (ee_name 6 rfl ⟨c, 1, (far x g).map Datum.toD, rfl, rfl, hp (far x g) (far_wf wf hbig) (far_conn wf cn hbig) (fun z => ?_) (fun z => ?_)⟩)))
      · have := far_names x g
        rw [z] at this
        exact ng (List.map_eq_nil_iff.mp this.symm)
      · have := far_darts hbig
        rw [z] at this
        exact hd (List.Perm.nil_eq this).symm
  refine bb_cons (ss_setL nmFc (defScope (tp 66)) [("_law_one", 8)] 5 rfl scFc.nd (by decide +kernel) (ll_lcX (α := Dart) [("_law_one", 8)] (fun d => dat (tD d)) (fun d => decide (2 < (asc (szs g) d).getD 0)) (fun d => tD d) (ii_keysO (ee_call C2 hr (aa_cons (ee_callp C1 hr (aa_cons (ee_name 0 rfl (aa_nil ⟨g, rfl, wf, aa_cons (ee_name 1 rfl (aa_cons (ee_callp C1 hr (aa_cons (ee_name 0 rfl (aa_nil ⟨g, rfl, wf, aa_cons (ee_name 1 rfl (aa_nil ⟨[], (fun _ z => by cases z), List.nodup_nil, rfl, g, g, d0, d0, rfl, wf, wf, cn, cn, hd0m, hd0m, fun a im l il hper => ?_, fun u v dst => (dst.no wf hd0m (IsIso.refl g) rfl).elim⟩))⟩))))))⟩)))))))))
  refine ⟨a, 1, kvP dk pD im, rfl, rfl, im.map Prod.fst, ?_, ?_, fun L d acc hdm s H C cl fp => ?_, far_rest im hper⟩
  · unfold kvP
    rw [List.map_map, List.map_map]
    rfl
  · rw [hper.length_eq]
    omega
  · have hdm' := hper.mem_iff.mp hdm
    obtain ⟨n, hn⟩ : ∃ n, asc (szs g) d = some n := asc_some (by rw [szs_fst]; exact hdm')
    refine gg_name 8 scFc.nd ⟨rfl, fun s H C cl fp => .inr ⟨_, rfl, tt_cmp (cc_gt (ee_dget hu (ee_name 2 rfl (ee_name 8 rfl ⟨pI n, DG.t' (.own (i := 0) rfl) (dk d) (by rw [getP_kv dk_inj', hn]; rfl), n, rfl, ee_int ⟨2, rfl, _, rfl, rfl, ?_, fun z s H C cl fp => ee_name 8 rfl ⟨rfl, rfl⟩⟩⟩))))⟩⟩
    rw [hn]
    rfl
end
end Q9
namespace Q9
open PySem L2
open PySem.W (Datum DatumOrd minOf)
section
variable {X : Cx} {B : Bs} {is : Is} {M : MS} {Post : Pr → MS → Prop} {pos : Pos}
/-- dict(zip(xs, ys)) of texts that stays -/
theorem ee_dictZS {p p2 pos2 : Pos} {e e2 : Expr} (hc : X.calm = true) (hm : X.mg "dict" = none) (hm2 : X.mg "zip" = none) (h : AA X B [e, e2] is M fun ps M1 => ∃ xs ys : List Str, ps = [dat (tD xs), dat (tD ys)] ∧ xs.Nodup ∧ xs.length = ys.length ∧ Post (dkP (kvP sk pS (xs.zip ys))) M1)
    (hg : Gl X "dict" := by rfl) (hg2 : Gl X "zip" := by rfl) (hs : starEach [e, e2] X.env = (false, eval e X.env) :: starEach [e2] X.env := by rfl) (hpl : (backTo pos2 (starEach [e2] X.env)).any (·.1) = false := by rfl) :
    EE X B (.Call (.Name "dict" p) [.Call (.Name "zip" p2) [e, e2] [] pos2] [] pos) is M Post := by
  refine ee_frz (ee_dictZ hc hm hm2 (AA.imp h fun ps M1 ⟨xs, ys, e1, nd, hl, hp⟩ => ⟨dat (tD xs), dat (tD ys), xs.map sk, ys.map PyData.str, e1, ?_, .ds _, by rw [List.length_map, List.length_map]; exact hl, fun r => ⟨r, M1.length, rfl, .inr (.inl ⟨_, get_last _ _, ?_⟩)⟩⟩) hg hg2 hs hpl)
  · have e3 : (xs.map sk).map kD = xs.map Datum.toD := by
      rw [List.map_map]
      rfl
    rw [e3]
    exact .ds _
  · rw [er_last]
    have e3 : (((xs.map sk).zip (ys.map PyData.str)).map fun z => (z.1, dat z.2)) = kvP sk pS (xs.zip ys) := by
      unfold kvP
      rw [List.zip_map, List.map_map]
      rfl
    rw [e3]
    have := mrgP_new (kf := sk) (pf := pS) sk_inj (xs.zip ys) [] (by rw [List.nil_append, List.map_fst_zip (by omega)]; exact nd)
    rw [List.nil_append] at this
    have e2 : mrgP [] (kvP sk pS (xs.zip ys)) = kvP sk pS (xs.zip ys) := this
    rw [e2]
    exact hp
end
structure ZipOk (xs ys : List Str) : Prop where
  nx : xs.Nodup
  ny : ys.Nodup
  len : xs.length = ys.length
theorem ZipOk.asc {xs ys : List Str} (z : ZipOk xs ys) {x : Str} (h : x ∈ xs) : Q9.asc (xs.zip ys) x = some (nw (xs.zip ys) x) ∧ nw (xs.zip ys) x ∈ ys := by
  obtain ⟨y, hy⟩ : ∃ y, Q9.asc (xs.zip ys) x = some y := asc_some (by rw [List.map_fst_zip (by have := z.len; omega)]; exact h)
  have e : nw (xs.zip ys) x = y := by
    unfold nw
    rw [hy]
    rfl
  rw [e]
  exact ⟨hy, (List.of_mem_zip (asc_mem hy)).2⟩
theorem ZipOk.inj {xs ys : List Str} (z : ZipOk xs ys) {a b : Str} (ha : a ∈ xs) (hb : b ∈ xs) (e : nw (xs.zip ys) a = nw (xs.zip ys) b) : a = b := by
  have h1 := asc_mem (z.asc ha).1
  have h2 := asc_mem (z.asc hb).1
  have nd : ((xs.zip ys).map (·.2)).Nodup := by
    rw [List.map_snd_zip (by have := z.len; omega)]
    exact z.ny
  exact congrArg Prod.fst (inj_of_nodup nd _ h1 _ h2 e)
def cpF (el : List (Str × Str)) (fl : List Str) (d : Dart) : Dart := (nw el d.1, if d.1 ∈ fl then 1 - d.2 else d.2)
theorem cp_good {g h : Gr} {xs ys us vs fl : List Str} (wf : WF g) (cn : Conn g) (ne : g ≠ []) (z : ZipOk xs ys) (z2 : ZipOk us vs) (hx : ∀ v ∈ g, v.1 ∈ xs) (hu : ∀ d ∈ darts g, d.1 ∈ us) (iy : ∀ y ∈ ys, isNameB y = true) (iv : ∀ y ∈ vs, isNameB y = true) (c : Cp (cpF (us.zip vs) fl) (nw (xs.zip ys)) g h) :
    WF h ∧ Conn h ∧ h ≠ [] ∧ IsIso g h (cpF (us.zip vs) fl) := by
  have fo : ∀ x ∈ darts g, cpF (us.zip vs) fl (opp x) = opp (cpF (us.zip vs) fl x) := fun x _ => by
    unfold cpF
    have e1 : (opp x).1 = x.1 := rfl
    have e2 : (opp x).2 = 1 - x.2 := rfl
    rw [e1, e2]
    by_cases hq : x.1 ∈ fl
    · rw [if_pos hq, if_pos hq]
      rfl
    · rw [if_neg hq, if_neg hq]
      rfl
  have wfh : WF h := by
    refine c.wf wf (fun v hv => iy _ (z.asc (hx v hv)).2) (fun u hu v hv e => z.inj (hx u hu) (hx v hv) e) (fun a ha b hb e => ?_) (fun a ha => ?_) fo
    · have e1 := z2.inj (hu a ha) (hu b hb) (congrArg Prod.fst e)
      have e2 : (if a.1 ∈ fl then 1 - a.2 else a.2) = (if b.1 ∈ fl then 1 - b.2 else b.2) := congrArg Prod.snd e
      rw [e1] at e2
      refine Prod.ext e1 ?_
      split at e2 <;> omega
    · refine ⟨iv _ (z2.asc (hu a ha)).2, ?_⟩
      show (if a.1 ∈ fl then 1 - a.2 else a.2) = 0 ∨ (if a.1 ∈ fl then 1 - a.2 else a.2) = 1
      have := (wf.dart a ha).2
      split <;> omega
  have m := c.mp wf wfh
  refine ⟨wfh, m.conn wf fo cn, fun e => ?_, m.iso wfh fo⟩
  have := c.nm.length_eq
  rw [List.length_map, List.length_map, e] at this
  exact ne (List.length_eq_zero_iff.mp this.symm)
section
variable {P : Program} {w : World} {K : PySem.W.Frag} {mg : Str → Option Value} {base : Heap} {k : Nat} {C : Addr}
abbrev nmRm : List Str := ["_law_source_here", "_law_graph", "_law_names_here", "_law_vertices", "_law_old", "_law_edges_here", "_law_flipped", "_law_found", "_law_vertex", "_law_rotation", "_law_at", "_law_row", "_law_name", "_law_side"]
theorem scRm : FnScope nmRm ["_law_source_here", "_law_graph"] (defScope (tp 63)) := ⟨rfl, rfl, rfl, by decide +kernel, rfl, by decide +kernel, by decide +kernel⟩
def spRm : PT0 := fun ps S U => ∃ (a : Addr) (g : Gr), ps = [raw (.ref a), dat (tD g)] ∧ S = [a] ∧ WF g ∧ Conn g ∧ g ≠ [] ∧ g.length ≤ 61 ∧ ∀ h f, WF h → Conn h → h ≠ [] → IsIso g h f → U (dat (tD h)) []
theorem cal_rm (bt : Bt mg) (t : Top K mg "_law_renamed" (tp 63) ["_law_source_here", "_law_graph"]) (C1 : Cal P w K mg base k "_law_draw" ["_law_source_here", "_law_count"] spDr) (C2 : Cal P w K mg base k "_law_names" ["_law_source_here", "_law_count"] spNa) (C3 : Cal P w K mg base k "_law_shuffled" ["_law_source_here", "_law_some"] spSh)
    (C4 : Cal P w K mg base k "_law_edges" ["_law_graph"] (pur spEn)) : Cal P w K mg base (k + 1) "_law_renamed" ["_law_source_here", "_law_graph"] spRm := by
  refine cal_mk t scRm (fun prs S post ⟨a, g, e, _⟩ => by rw [e]; rfl) fun f0 cdv A outer s H E B hr prs post ⟨a, g, e, hS, wf, cn, ne, hgl, hp⟩ => ?_
  subst e
  have hu := hr.units
  have BW := hS
  rw [hS]
  have memS : ∀ b ∈ [a], (b, MO.src) ∈ ([(a, MO.src)] : MS) := fun b hb => by rw [List.mem_singleton.mp hb]; exact List.mem_cons_self
  have hel : (edgesRaw g).length ≤ 60 := by
    have h1 := dartsOf_len g
    have h2 := (dartsOf_perm wf).length_eq
    have h3 := wf.sz
    omega
  have lgn : ((g.map (Datum.toD : Str × List Dart → PyData)).map dat).length = g.length := by rw [List.length_map, List.length_map]
  refine bb_cons (ss_set 2 (ee_call C3 hr (aa_cons (ee_name 0 rfl (aa_cons (ee_call C2 hr (aa_cons (ee_name 0 rfl (aa_cons (ee_len bt.len (aa_cons (ee_name 1 rfl (aa_nil ⟨_, _, rfl, .ls (.ds (g.map Datum.toD)), aa_nil ⟨[a], memS, by simp, a, _, rfl, rfl, by rw [lgn]; omega, fun ns nl nnd nis => aa_nil ⟨[a], memS, by simp, a, Str, inferInstance, inferInstance, ns, rfl, rfl, by decide, by rw [nl, lgn]; omega, fun ys yper => ?_⟩⟩⟩)))))))))))) scRm.nd)
  rw [lgn] at nl
  have zv : ZipOk (srt (g.map (·.1))) ys := ⟨srt_nd wf.names, yper.nodup_iff.mpr nnd, by rw [srt_len, List.length_map, yper.length_eq, nl]⟩
  refine bb_cons (ss_set 3 (ee_dictZS rfl bt.dict bt.zip (aa_cons (ee_sortL (Datum.toD : Str → PyData) hu bt.sorted (aa_cons (ee_mapD nmRm (defScope (tp 63)) [("_law_vertex", 8), ("_law_rotation", 9)] g (fun v => dat (tD v)) (fun v => .str v.1) rfl scRm.nd (by decide +kernel) (ii_lstd (ee_name 1 rfl ⟨g.map Datum.toD, rfl, (dats_map _ _).symm, by omega, fun L v acc hv s H C cl fp => ?_, ?_⟩))))))) scRm.nd)
  · exact gg_tupd (ds := [.str v.1, .list (v.2.map Datum.toD)]) rfl (ggs_cons (gg_name 8 scRm.nd (ggs_cons (gg_name 9 scRm.nd (ggs_nil ⟨rfl, fun s H C cl fp => ee_name 8 rfl ⟨rfl, rfl⟩⟩)))))
  refine aa_nil ⟨_, g.map (·.1), rfl, ?_, srt_str (by rw [List.length_map]; omega), ?_⟩
  · have e : (g.map (·.1)).map (Datum.toD : Str → PyData) = g.map fun v => .str v.1 := by rw [List.map_map]; rfl
    rw [e]
    exact .ds _
  refine aa_cons (ee_name 2 rfl (aa_nil ⟨srt (g.map (·.1)), ys, rfl, zv.nx, zv.len, ?_⟩))
  refine bb_cons (ss_set 4 (ee_callp C4 hr (aa_cons (ee_name 1 rfl (aa_nil ⟨g, rfl, wf, ?_⟩)))) scRm.nd)
  have len : (((srt (edgesRaw g)).map (Datum.toD : Str → PyData)).map dat).length = (edgesRaw g).length := by rw [List.length_map, List.length_map, srt_len]
  refine bb_cons (ss_set 5 (ee_dictZS rfl bt.dict bt.zip (aa_cons (ee_name 4 rfl (aa_cons (ee_call C3 hr (aa_cons (ee_name 0 rfl (aa_cons (ee_call C2 hr (aa_cons (ee_name 0 rfl (aa_cons (ee_len bt.len (aa_cons (ee_name 4 rfl (aa_nil ⟨_, _, rfl, .ls (.ds ((srt (edgesRaw g)).map Datum.toD)), aa_nil ⟨[a], memS, by simp, a, _, rfl, rfl, by rw [len]; omega, fun ms ml mnd mis => aa_nil ⟨[a], memS, by simp, a, Str, inferInstance, inferInstance, ms, rfl, rfl, by decide, by rw [ml, len]; omega, fun vs vper => aa_nil ⟨srt (edgesRaw g), vs, rfl, srt_nd (edges_nd wf), by rw [srt_len, vper.length_eq, ml, len], ?_⟩⟩⟩⟩)))))))))))))))) scRm.nd)
  rw [len] at ml
  have ze : ZipOk (srt (edgesRaw g)) vs := ⟨srt_nd (edges_nd wf), vper.nodup_iff.mpr mnd, by rw [srt_len, vper.length_eq, ml]⟩
  refine bb_cons (ss_setL nmRm (defScope (tp 63)) [("_law_name", 12)] 6 rfl scRm.nd (by decide +kernel) (LL.cv (LL.imp (P := fun p M' => ∃ fl : List Str, fl.length ≤ 1000 ∧ p = lstP ((fl.map PyData.str).map dat) ∧ M' = [(a, MO.src)]) (ll_lc [("_law_name", 12)] (ii_lstd (ee_name 4 rfl ⟨(srt (edgesRaw g)).map Datum.toD, rfl, by rw [len]; omega, fun i acc => ∃ fl : List Str, acc = (fl.map PyData.str).map dat ∧ fl.length ≤ i, ⟨[], rfl, Nat.le_refl _⟩, ?_, ?_⟩))) ?_)))
  · rintro L i p acc hget ⟨fl, rfl, hfl⟩ hle s H C cl fp
    rw [List.getElem?_map, List.getElem?_map] at hget
    obtain ⟨dd, hdd, rfl⟩ := Option.map_eq_some_iff.mp hget
    obtain ⟨e, he, rfl⟩ := Option.map_eq_some_iff.mp hdd
    refine gg_name 12 scRm.nd ⟨rfl, fun s H C cl fp => .inr ⟨_, rfl, tt_cmp (cc_eqD (α := Int) hu (by decide) (ee_call C1 hr (aa_cons (ee_name 0 rfl (aa_cons (ee_int (aa_nil ⟨[a], (fun b hb => by rw [List.mem_singleton.mp hb]; exact List.mem_cons_self), by simp, a, 3, rfl, rfl, by decide, by decide, fun r r0 r1 => ee_int ⟨r, 0, .inl rfl, .inl rfl, _, rfl, rfl, fun _ => ⟨fl, rfl, Nat.le_succ_of_le hfl⟩, fun _ s H C cl fp => ee_name 12 rfl ⟨rfl, fl ++ [e], by rw [List.map_append, List.map_append]; rfl, by rw [List.length_append]; exact Nat.succ_le_succ hfl⟩⟩⟩)))))))⟩⟩
  · rintro acc ⟨fl, rfl, hfl⟩
    rw [len] at hfl
    exact ⟨fl, by omega, rfl, rfl⟩
  rintro p M ⟨fl, hfl, rfl, rfl⟩
  refine ⟨dat (.list (fl.map PyData.str)), fun v G z => dat_lst.mpr z, ?_⟩
  have lsf : ∀ {M : MS}, LsP M (dat (.list (fl.map PyData.str))) ((fl.map Datum.toD).map dat) := .ds _
  refine bb_cons (ss_set 7 (ee_lstm (aa_nil ⟨by simp, fun c => ?_⟩)) scRm.nd)
  have hxm : ∀ v ∈ g, v.1 ∈ srt (g.map (·.1)) := fun v hv => mem_srt.mpr (List.mem_map.mpr ⟨v, hv, rfl⟩)
  have hum : ∀ d ∈ darts g, d.1 ∈ srt (edgesRaw g) := fun d hd => mem_srt.mpr (dart_edge wf hd)
  obtain ⟨vl, hvl⟩ : ∃ vl, vl = (srt (g.map (·.1))).zip ys := ⟨_, rfl⟩
  obtain ⟨el, hel'⟩ : ∃ el, el = (srt (edgesRaw g)).zip vs := ⟨_, rfl⟩
  rw [← hvl, ← hel']
  let st : Option Pr → Option Pr → Option Pr → Option Pr → Option Pr → Option Pr → Is := fun x8 x9 x10 x11 x12 x13 => [some (raw (.ref a)), some (dat (tD g)), some (dat (tD ys)), some (dkP (kvP sk pS vl)), some (dat (tD (srt (edgesRaw g)))), some (dkP (kvP sk pS el)), some (dat (.list (fl.map PyData.str))), some (raw (.ref c)), x8, x9, x10, x11, x12, x13]
  refine bb_cons (ss_for [8, 9] rfl .never (ii_lstd (ee_call C3 hr (aa_cons (ee_name 0 rfl (aa_cons (ee_name 1 rfl (aa_nil ⟨[a], (fun b hb => by rw [List.mem_singleton.mp hb]; exact List.mem_cons_self), by simp, a, Str × List Dart, inferInstance, inferInstance, g, rfl, rfl, by decide, by omega, fun gs gper => ⟨gs.map Datum.toD, rfl, fun i is M => ∃ (hs : Gr) (x8 x9 x10 x11 x12 x13 : Option Pr), is = st x8 x9 x10 x11 x12 x13 ∧ M = [(a, .src), (c, .lst ((hs.map Datum.toD).map dat))] ∧ Cp2 (cpF el fl) (nw vl) (gs.take i) hs ∧ hs.length = i, ⟨[], none, none, none, none, none, none, rfl, rfl, .nil, rfl⟩, ?_, ?_⟩⟩))))))))
  · rintro i p is M hget ⟨hs, x8, x9, x10, x11, x12, x13, rfl, rfl, hcp, hlen⟩
    rw [List.getElem?_map, List.getElem?_map] at hget
    obtain ⟨dd, hdd, rfl⟩ := Option.map_eq_some_iff.mp hget
    obtain ⟨v, hv, rfl⟩ := Option.map_eq_some_iff.mp hdd
    have hm := gper.mem_iff.mp (List.mem_of_getElem? hv)
    have hi := (List.getElem?_eq_some_iff.mp hv).1
    have hgl2 := gper.length_eq
    have hrl := row_len wf hm
    have lr : ((v.2.map (Datum.toD : Dart → PyData)).map dat).length = v.2.length := by rw [List.length_map, List.length_map]
    refine gg_tupd (ds := [.str v.1, .list (v.2.map Datum.toD)]) rfl (ggs_cons (gg_name 8 scRm.nd (ggs_cons (gg_name 9 scRm.nd (ggs_nil ?_)))))
    refine bb_cons (ss_set 10 (ee_call C1 hr (aa_cons (ee_name 0 rfl (aa_cons (ee_add (ee_len bt.len (aa_cons (ee_name 9 rfl (aa_nil ⟨_, _, rfl, .ls (.ds (v.2.map Datum.toD)), _, rfl, ee_int ⟨1, rfl, aa_nil ⟨[a], (fun b hb => by rw [List.mem_singleton.mp hb]; exact List.mem_cons_self), by simp, a, _, rfl, rfl, by omega, by rw [lr]; omega, fun n0 hn0 hn1 => ?_⟩⟩⟩))))))))) scRm.nd)
    obtain ⟨n, rfl⟩ := Int.eq_ofNat_of_zero_le hn0
    refine bb_cons (ss_set 11 (ee_lstm (aa_nil ⟨by simp, fun b => ?_⟩)) scRm.nd)
    refine bb_cons (ss_for [12, 13] rfl .never (ii_lstd (ee_catd (ee_sliced (ee_name 9 rfl (ee_name 10 rfl ⟨_, rfl, ⟨v.2.map Datum.toD, .ds _, ee_sliced (ee_name 9 rfl (ee_name 10 rfl ⟨_, rfl, ⟨v.2.map Datum.toD, .ds _, _, _, .ds _, .ds _, ?_, (trn n v.2).map Datum.toD, ?_, fun j is M => (∃ x12 x13 : Option Pr, is = st (some (dat (.str v.1))) (some (dat (.list (v.2.map Datum.toD)))) (some (dat (.int n))) (some (raw (.ref b))) x12 x13) ∧ M = [(a, .src), (c, .lst ((hs.map Datum.toD).map dat)), (b, .lst (((((trn n v.2).take j).map (cpF el fl)).map Datum.toD).map dat))], ⟨⟨_, _, rfl⟩, rfl⟩, ?_, ?_⟩⟩))⟩⟩))))))
    · rw [cut_from, cut_to, List.length_drop, List.length_take, List.length_map]
      omega
    · rw [cut_from, cut_to, ← List.map_drop, ← List.map_take, ← List.map_append]
      rfl
    · rintro j p is M hget ⟨⟨x12, x13, rfl⟩, rfl⟩
      rw [List.getElem?_map, List.getElem?_map] at hget
      obtain ⟨dd, hdd, rfl⟩ := Option.map_eq_some_iff.mp hget
      obtain ⟨d, hd, rfl⟩ := Option.map_eq_some_iff.mp hdd
      have hdm := darts_mem hm ((trn_perm n v.2).mem_iff.mp (List.mem_of_getElem? hd))
      have hae : asc el d.1 = some (nw el d.1) := by rw [hel']; exact (ze.asc (hum d hdm)).1
      refine gg_tupd (ds := [.str d.1, .int d.2]) rfl (ggs_cons (gg_name 12 scRm.nd (ggs_cons (gg_name 13 scRm.nd (ggs_nil ?_)))))
      have fin : ∀ z : Int, z = (cpF el fl d).2 → ∃ ds : List PyData, [dat (.str (nw el d.1)), dat (.int z)] = ds.map dat ∧ ds.length ≤ 1000 ∧ ∃ ps, ([(a, MO.src), (c, .lst ((hs.map Datum.toD).map dat)), (b, .lst (((((trn n v.2).take j).map (cpF el fl)).map Datum.toD).map dat))] : MS)[2]? = some (b, MO.lst ps) ∧ ps.length ≤ 100000 ∧
          BB (cxOf CX0 P w K mg base nmRm "_law_renamed" (defScope (tp 63)) f0 cdv A outer s H E).nox B [] (st (some (dat (.str v.1))) (some (dat (.list (v.2.map Datum.toD)))) (some (dat (.int n))) (some (raw (.ref b))) (some (dat (.str d.1))) (some (dat (.int d.2)))) (([(a, MO.src), (c, .lst ((hs.map Datum.toD).map dat)), (b, .lst (((((trn n v.2).take j).map (cpF el fl)).map Datum.toD).map dat))] : MS).set 2 (b, .lst (ps ++ [dat (.tuple ds)])))
            { nx := fun is M => (∃ x12 x13 : Option Pr, is = st (some (dat (.str v.1))) (some (dat (.list (v.2.map Datum.toD)))) (some (dat (.int n))) (some (raw (.ref b))) x12 x13) ∧ M = [(a, .src), (c, .lst ((hs.map Datum.toD).map dat)), (b, .lst (((((trn n v.2).take (j + 1)).map (cpF el fl)).map Datum.toD).map dat))], rt := fun _ _ => False } := by
        intro z hz
        refine ⟨[.str (nw el d.1), .int z], rfl, by simp, _, rfl, by rw [List.length_map, List.length_map, List.length_map, List.length_take, trn_len]; omega, bb_nil ⟨⟨_, _, rfl⟩, ?_⟩⟩
        have e : tD (cpF el fl d) = .tuple [.str (nw el d.1), .int z] := by
          rw [hz]
          rfl
        rw [take_at hd, List.map_append, List.map_append, List.map_append, ← e]
        rfl
      have up : ∀ {is : Is} {M : MS} {D : En} {Y : Cx}, BB Y B [] is M { nx := D.nx, rt := fun _ _ => False } → BB Y B [] is M D := fun h => h.imp (fun _ _ q => q) (fun _ _ q => q.elim) (fun _ _ q => q.elim) fun _ _ q => q.elim
      refine bb_cons (ss_expr (ee_append (ee_name 11 rfl ⟨b, 2, _, rfl, rfl, ee_tupd (aa_cons (ee_dget hu (ee_name 5 rfl (ee_name 12 rfl ⟨pS (nw el d.1), DG.k' (.fix _) (sk d.1) (by rw [getP_kv sk_inj, hae]; rfl), aa_cons (ee_if (tt_cmp (cc_inD (α := Str) hu (by decide) (ee_name 12 rfl (ee_name 6 rfl ⟨d.1, fl, rfl, lsf, _, rfl, fun z => ?_, fun z => ?_⟩)))))⟩))))⟩)))
      · refine ee_sub (ee_int ⟨1, rfl, ee_name 13 rfl ⟨d.2, rfl, aa_nil ?_⟩⟩)
        obtain ⟨ds, h1, h2, ps, h3, h4, h5⟩ := fin (1 - d.2) (by unfold cpF; rw [if_pos (by simpa using z)])
        exact ⟨ds, h1, h2, ps, h3, h4, up h5⟩
      · refine ee_name 13 rfl (aa_nil ?_)
        obtain ⟨ds, h1, h2, ps, h3, h4, h5⟩ := fin d.2 (by unfold cpF; rw [if_neg (by simpa using z)])
        exact ⟨ds, h1, h2, ps, h3, h4, up h5⟩
    · rintro is M ⟨⟨x12, x13, rfl⟩, rfl⟩
      rw [List.length_map, List.length_map, List.take_length]
      have hav : asc vl v.1 = some (nw vl v.1) := by rw [hvl]; exact (zv.asc (hxm v hm)).1
      refine bb_cons (ss_expr (ee_append (ee_name 7 rfl ⟨c, 1, _, rfl, rfl, ee_tupd (aa_cons (ee_dget hu (ee_name 3 rfl (ee_name 8 rfl ⟨pS (nw vl v.1), DG.k' (.fix _) (sk v.1) (by rw [getP_kv sk_inj, hav]; rfl), aa_cons (ee_frzW (ee_name 11 rfl ⟨b, 2, ((trn n v.2).map (cpF el fl)).map Datum.toD, rfl, rfl, ?_, aa_nil ⟨[.str (nw vl v.1), .list (((trn n v.2).map (cpF el fl)).map Datum.toD)], rfl, by simp, _, rfl, by rw [List.length_map, List.length_map]; omega, bb_nil ⟨hs ++ [(nw vl v.1, (trn n v.2).map (cpF el fl))], _, _, _, _, _, _, rfl, ?_, ?_, by rw [List.length_append, hlen]; rfl⟩⟩⟩))⟩))))⟩)))
      · intro b' hb'
        rw [BW] at hb'
        rw [List.mem_singleton.mp hb']
        exact ⟨0, .src, by decide, rfl⟩
      · rw [List.map_append, List.map_append]
        rfl
      · rw [take_at hv]
        exact hcp.app (.cons v n .nil)
  · rintro is M ⟨hs, x8, x9, x10, x11, x12, x13, rfl, rfl, hcp, hlen⟩
    rw [List.length_map, List.length_map, List.take_length] at hcp
    rw [hvl, hel'] at hcp
    obtain ⟨g1, g2, g3, g4⟩ := cp_good wf cn ne zv ze hxm hum (fun y hy => nis y (yper.mem_iff.mp hy)) (fun y hy => mis y (vper.mem_iff.mp hy)) ⟨gs, gper, hcp⟩
    refine bb_cons (ss_ret (ee_frzW (ee_name 7 rfl ⟨c, 1, hs.map Datum.toD, rfl, rfl, ?_, ret0 (hp hs _ g1 g2 g3 g4) (fun b hb => by rw [List.mem_singleton.mp hb]; exact List.mem_cons_self)⟩)))
    intro b' hb'
    rw [BW] at hb'
    rw [List.mem_singleton.mp hb']
    exact ⟨0, .src, by decide, rfl⟩
end
end Q9
namespace Q9
open PySem L2
open PySem.W (Datum DatumOrd minOf)
def rw' (rows : List (List Dart)) (p : Nat) : List Dart := (rows[p]?).getD []
def ins (rows : List (List Dart)) (p n : Nat) (d : Dart) : List (List Dart) := rows.set p ((rw' rows p).take n ++ [d] ++ (rw' rows p).drop n)
section
variable {rows : List (List Dart)} {p n : Nat} {d : Dart}
theorem ins_len : (ins rows p n d).length = rows.length := List.length_set ..
theorem ins_same (h : p < rows.length) : rw' (ins rows p n d) p = (rw' rows p).take n ++ [d] ++ (rw' rows p).drop n := by
  show ((rows.set p _)[p]?).getD [] = _
  rw [List.getElem?_set_self h]
  rfl
theorem ins_other {j : Nat} (h : j ≠ p) : rw' (ins rows p n d) j = rw' rows j := by
  show ((rows.set p _)[j]?).getD [] = _
  rw [List.getElem?_set_ne (fun z => h z.symm)]
  rfl
theorem ins_new (h : p < rows.length) : d ∈ rw' (ins rows p n d) p := by
  rw [ins_same h]
  simp
theorem ins_mono (h : p < rows.length) {j : Nat} {x : Dart} (hx : x ∈ rw' rows j) : x ∈ rw' (ins rows p n d) j := by
  by_cases e : j = p
  · subst e
    rw [ins_same h]
    rw [← List.take_append_drop n (rw' rows j)] at hx
    rcases List.mem_append.mp hx with z | z
    · exact List.mem_append_left _ (List.mem_append_left _ z)
    · exact List.mem_append_right _ z
  · rw [ins_other e]
    exact hx
theorem set_flat : ∀ {rows : List (List Dart)} {p : Nat} {r r' : List Dart} {d : Dart}, rows[p]? = some r → r'.Perm (d :: r) → (rows.set p r').flatten.Perm (d :: rows.flatten)
  | [], _, _, _, _, h, _ => by simp at h
  | x :: rows, 0, r, r', d, h, q => by
    have e : x = r := Option.some.inj h
    subst e
    show (r' ++ rows.flatten).Perm (d :: (x ++ rows.flatten))
    exact q.append_right _
  | x :: rows, p + 1, r, r', d, h, q => by
    show (x ++ (rows.set p r').flatten).Perm (d :: (x ++ rows.flatten))
    refine ((set_flat (rows := rows) (p := p) h q).append_left x).trans ?_
    exact List.perm_middle
theorem ins_flat (h : p < rows.length) : (ins rows p n d).flatten.Perm (d :: rows.flatten) := by
  have e : rows[p]? = some (rw' rows p) := by
    unfold rw'
    rw [List.getElem?_eq_getElem h]
    rfl
  refine set_flat e ?_
  have e2 : (d :: rw' rows p).Perm (d :: ((rw' rows p).take n ++ (rw' rows p).drop n)) := by rw [List.take_append_drop]
  rw [List.append_assoc]
  exact List.perm_middle.trans e2.symm
end
def two (e : Str) : List Dart := [(e, 0), (e, 1)]
/-- the rows after i names: es the names, n how many rows -/
structure GI (es : List Str) (n : Nat) (rows : List (List Dart)) (i : Nat) : Prop where
  len : rows.length = n
  fl : rows.flatten.Perm ((es.take i).flatMap two)
  lk : ∀ j, 1 ≤ j → j ≤ i → j < n → ∃ d j', j' < j ∧ d ∈ rw' rows j ∧ opp d ∈ rw' rows j'
theorem two_nd {es : List Str} (h : es.Nodup) : (es.flatMap two).Nodup := by
  unfold List.Nodup
  rw [List.pairwise_flatMap]
  have fst : ∀ {e : Str} {x : Dart}, x ∈ two e → x.1 = e := fun {e x} hx => by
    rcases List.mem_cons.mp hx with z | z
    · rw [z]
    · rw [List.mem_singleton.mp z]
  refine ⟨fun e _ => ?_, h.imp fun {a b} hab x hx y hy e => hab (by rw [← fst hx, ← fst hy, e])⟩
  show [(e, (0 : Int)), (e, 1)].Pairwise _
  rw [List.pairwise_cons]
  refine ⟨fun y hy => ?_, List.pairwise_singleton _ _⟩
  rw [List.mem_singleton.mp hy]
  intro z
  have : (0 : Int) = 1 := congrArg Prod.snd z
  cases this
theorem two_len (es : List Str) : (es.flatMap two).length = 2 * es.length := by
  induction es with
  | nil => rfl
  | cons e es ih =>
    rw [List.flatMap_cons, List.length_append, ih, List.length_cons (as := es)]
    show 2 + _ = _
    omega
theorem zip_flat : ∀ (ns : List Str) (rows : List (List Dart)), ns.length = rows.length → darts (ns.zip rows) = rows.flatten
  | [], [], _ => rfl
  | n :: ns, r :: rows, h => by
    show r ++ darts (ns.zip rows) = r ++ rows.flatten
    rw [zip_flat ns rows (Nat.succ.inj h)]
  | [], _ :: _, h => by cases h
  | _ :: _, [], h => by cases h
theorem made {es ns : List Str} {n : Nat} {rows : List (List Dart)} (hn : 1 ≤ n) (hnl : ns.length = n) (hnn : ns.Nodup) (hni : ∀ x ∈ ns, isNameB x = true) (hel : n - 1 ≤ es.length) (hel2 : es.length ≤ 60) (hn2 : n ≤ 61) (hen : es.Nodup) (hei : ∀ x ∈ es, isNameB x = true) (gi : GI es n rows es.length) :
    WF (ns.zip rows) ∧ Conn (ns.zip rows) ∧ ns.zip rows ≠ [] ∧ (ns.zip rows).length = n ∧ (darts (ns.zip rows)).length = 2 * es.length := by
  have hl : ns.length = rows.length := by rw [hnl, gi.len]
  have ed := zip_flat ns rows hl
  have hfl : rows.flatten.Perm (es.flatMap two) := by
    have := gi.fl
    rwa [List.take_length] at this
  have ef : (ns.zip rows).map (·.1) = ns := List.map_fst_zip (by omega)
  have hlen : (darts (ns.zip rows)).length = 2 * es.length := by rw [ed, hfl.length_eq, two_len]
  have hzl : (ns.zip rows).length = n := by rw [List.length_zip]; omega
  have hmem : ∀ d, d ∈ darts (ns.zip rows) ↔ ∃ e ∈ es, d = (e, 0) ∨ d = (e, 1) := fun d => by
    rw [ed, hfl.mem_iff, List.mem_flatMap]
    constructor
    · rintro ⟨e, he, hd⟩
      refine ⟨e, he, ?_⟩
      rcases List.mem_cons.mp hd with z | z
      · exact .inl z
      · exact .inr (List.mem_singleton.mp z)
    · rintro ⟨e, he, z | z⟩
      · exact ⟨e, he, by rw [z]; simp [two]⟩
      · exact ⟨e, he, by rw [z]; simp [two]⟩
  have wf : WF (ns.zip rows) := by
    refine ⟨by rw [ef]; exact hnn, fun v hv => hni _ (List.of_mem_zip hv).1, by rw [ed]; exact hfl.nodup_iff.mpr (two_nd hen), fun d hd => ?_, fun d hd => ?_, by rw [hlen]; omega, by rw [hzl]; omega⟩
    · obtain ⟨e, he, z | z⟩ := (hmem d).mp hd
      · rw [z]; exact ⟨hei e he, .inl rfl⟩
      · rw [z]; exact ⟨hei e he, .inr rfl⟩
    · obtain ⟨e, he, z | z⟩ := (hmem d).mp hd
      · exact (hmem _).mpr ⟨e, he, .inr (by rw [z]; rfl)⟩
      · exact (hmem _).mpr ⟨e, he, .inl (by rw [z]; rfl)⟩
  have row : ∀ (j : Nat) (x : Dart), j < n → x ∈ rw' rows j → ∃ v, (ns.zip rows)[j]? = some (v, rw' rows j) ∧ x ∈ darts (ns.zip rows) ∧ vo (ns.zip rows) x = v ∧ ns[j]? = some v := fun j x hj hx => by
    have h1 : j < ns.length := by omega
    have h2 : j < rows.length := by omega
    have e1 : rows[j]? = some (rw' rows j) := by
      unfold rw'
      rw [List.getElem?_eq_getElem h2]
      rfl
    have ez : (ns.zip rows)[j]? = some (ns[j], rw' rows j) := List.getElem?_zip_eq_some.mpr ⟨List.getElem?_eq_getElem h1, e1⟩
    exact ⟨ns[j], ez, darts_mem (List.mem_of_getElem? ez) hx, vo_row wf (List.mem_of_getElem? ez) hx, List.getElem?_eq_getElem h1⟩
  refine ⟨wf, ?_, fun z => ?_, hzl, hlen⟩
  · rintro S ⟨v, hv, hs⟩ hc
    rw [ef] at hv ⊢
    have both : ∀ x ∈ darts (ns.zip rows), S (vo (ns.zip rows) x) ↔ S (vo (ns.zip rows) (opp x)) := fun x hx => ⟨hc x hx, fun z => by
      have := hc _ (wf.op x hx) z
      rwa [opp_opp] at this⟩
    have link : ∀ (m j : Nat) (u u0 : Str), j ≤ m → j < n → ns[j]? = some u → ns[0]? = some u0 → (S u ↔ S u0) := by
      intro m
      induction m with
      | zero =>
        intro j u u0 hj _ h1 h2
        have : j = 0 := by omega
        subst this
        rw [h1] at h2
        rw [Option.some.inj h2]
      | succ m ih =>
        intro j u u0 hj hjn h1 h2
        rcases Nat.eq_zero_or_pos j with z | z
        · subst z
          rw [h1] at h2
          rw [Option.some.inj h2]
        · obtain ⟨d, j', hj', hd, ho⟩ := gi.lk j z (by omega) hjn
          obtain ⟨a, _, k1, k2, k3⟩ := row j d hjn hd
          obtain ⟨b, _, _, k5, k6⟩ := row j' (opp d) (by omega) ho
          rw [h1] at k3
          have := both d k1
          rw [k2, k5] at this
          rw [Option.some.inj k3, this]
          exact ih j' b u0 (by omega) (by omega) k6 h2
    have h0 : ns[0]? = some ns[0] := List.getElem?_eq_getElem (by omega)
    obtain ⟨j, hj⟩ := List.mem_iff_getElem?.mp hv
    have hjl := (List.getElem?_eq_some_iff.mp hj).1
    have s0 := (link j j v _ (Nat.le_refl _) (by omega) hj h0).mp hs
    intro u hu
    obtain ⟨i, hi⟩ := List.mem_iff_getElem?.mp hu
    have hil := (List.getElem?_eq_some_iff.mp hi).1
    exact (link i i u _ (Nat.le_refl _) (by omega) hi h0).mpr s0
  · rw [z] at hzl
    have : 0 = n := hzl
    omega
abbrev rMO (z : Addr × List Dart) : Addr × MO := (z.1, .lst ((z.2.map Datum.toD).map dat))
abbrev rR (b : Addr) : Pr := raw (.ref b)
theorem frz_rows {B : Bs} {a : Addr} (hW : B.W = [a]) {x : Addr × MO} : ∀ (l : List (Addr × List Dart)) {σ : L2.St} {G H : Hp} {is : Is}, Ok B σ G H is ((a, .src) :: x :: l.map rMO) →
    ∃ G', Ok B σ G' H is [(a, .src), x] ∧ Same G G' ∧ ∀ z ∈ l, (dat (tD z.2)).p (.ref z.1) G'
  | [], σ, G, H, is, K => ⟨G, K, Same.refl _, fun _ z => by cases z⟩
  | z :: l, σ, G, H, is, K => by
    have hi : ((a, MO.src) :: x :: (z :: l).map rMO)[2]? = some (z.1, .lst ((z.2.map Datum.toD).map dat)) := rfl
    obtain ⟨vs, h1, h2⟩ := K.at hi
    have nW : z.1 ∉ B.W := fun q => by
      rw [hW] at q
      have e := List.mem_singleton.mp q
      have h0 : ((a, MO.src) :: x :: (z :: l).map rMO)[0]? = some (z.1, .src) := by rw [e]; rfl
      have := nd_idx K.nd h0 hi
      cases this
    obtain ⟨K1, g1⟩ := K.freeze hi h1 nW
    obtain ⟨G', K2, g2, hq⟩ := frz_rows hW l (show Ok B σ _ H is ((a, .src) :: x :: l.map rMO) from K1)
    refine ⟨G', K2, g1.trans g2, fun y hy => ?_⟩
    rcases List.mem_cons.mp hy with q | q
    · rw [q]
      exact (dat (tD z.2)).mono g2 (dat_lst.mpr ⟨z.1, vs, rfl, upd_same, h2.mono g1⟩)
    · exact hq y q
theorem pl_raw {G : Hp} : ∀ {bs : List Addr} {vs : List V}, PL G (bs.map rR) vs → vs = bs.map V.ref
  | [], [], _ => rfl
  | b :: bs, v :: vs, h => by
    have e : v = .ref b := h.1
    rw [e, pl_raw h.2]
    rfl
  | [], _ :: _, h => h.elim
  | _ :: _, [], h => h.elim
theorem pl_rows {G : Hp} : ∀ (bs : List Addr) (rows : List (List Dart)), bs.length = rows.length → (∀ z ∈ bs.zip rows, (dat (tD z.2)).p (.ref z.1) G) → PL G (rows.map fun r => dat (tD r)) (bs.map V.ref)
  | [], [], _, _ => True.intro
  | b :: bs, r :: rows, hl, h => ⟨h (b, r) List.mem_cons_self, pl_rows bs rows (Nat.succ.inj hl) fun z hz => h z (List.mem_cons_of_mem _ hz)⟩
  | [], _ :: _, hl, _ => by cases hl
  | _ :: _, [], hl, _ => by cases hl
theorem gh_rows {B : Bs} {a L : Addr} {bs : List Addr} {rows : List (List Dart)} (hW : B.W = [a]) (hl : bs.length = rows.length) :
    Gh B ((a, .src) :: (L, .lst (bs.map rR)) :: (bs.zip rows).map rMO) (raw (.ref L)) [(a, .src)] (lstP (rows.map fun r => dat (tD r))) := fun σ G H is v K q => by
  obtain ⟨G1, K1, g1, hq⟩ := frz_rows hW _ K
  have ev : v = .ref L := q
  subst ev
  have hi : ([(a, MO.src), (L, MO.lst (bs.map rR))] : MS)[1]? = some (L, .lst (bs.map rR)) := rfl
  obtain ⟨vs, h1, h2⟩ := K1.at hi
  have nW : L ∉ B.W := fun q => by
    rw [hW] at q
    have e := List.mem_singleton.mp q
    have h0 : ([(a, MO.src), (L, MO.lst (bs.map rR))] : MS)[0]? = some (L, .src) := by rw [e]; rfl
    have := nd_idx K1.nd h0 hi
    cases this
  obtain ⟨K2, g2⟩ := K1.freeze hi h1 nW
  rw [pl_raw h2] at K2 g2
  refine ⟨_, K2, g1.trans g2, L, _, rfl, upd_same, ?_⟩
  exact pl_rows bs rows hl fun z hz => (dat (tD z.2)).mono g2 (hq z hz)
theorem zip_set : ∀ {bs : List Addr} {rows : List (List Dart)} {p : Nat} {b : Addr} {r : List Dart}, bs[p]? = some b → ((bs.zip rows).map rMO).set p (b, .lst ((r.map Datum.toD).map dat)) = (bs.zip (rows.set p r)).map rMO
  | [], _, _, _, _, h => by simp at h
  | x :: bs, [], p, b, r, h => rfl
  | x :: bs, y :: rows, 0, b, r, h => by
    have e : x = b := Option.some.inj h
    subst e
    rfl
  | x :: bs, y :: rows, p + 1, b, r, h => by
    show rMO (x, y) :: ((bs.zip rows).map rMO).set p _ = rMO (x, y) :: (bs.zip (rows.set p r)).map rMO
    rw [zip_set (bs := bs) (rows := rows) (p := p) h]
end Q9
namespace Q9
open PySem L2
open PySem.W (Datum DatumOrd minOf)
theorem SS.imp {X : Cx} {B : Bs} {st : Stmt} {is : Is} {M : MS} {D D' : En} (h : SS X B st is M D) (nx : ∀ i m, D.nx i m → D'.nx i m) (rt : ∀ p m, D.rt p m → D'.rt p m) (bk : ∀ i m, D.bk i m → D'.bk i m) (ct : ∀ i m, D.ct i m → D'.ct i m) : SS X B st is M D' := fun σ G H K DD R =>
  h σ G H K DD ⟨fun σ' G' H' is' M' K' g q => R.nx σ' G' H' is' M' K' g (nx _ _ q), fun v σ' G' H' is' p M' K' g q r => R.rt v σ' G' H' is' p M' K' g q (rt _ _ r), fun σ' G' H' is' M' K' g q => R.bk σ' G' H' is' M' K' g (bk _ _ q), fun σ' G' H' is' M' K' g q => R.ct σ' G' H' is' M' K' g (ct _ _ q)⟩
/-- behind the first statement: Q -/
theorem bb_cut {X : Cx} {B : Bs} {st : Stmt} {rest : List Stmt} {is : Is} {M : MS} {D : En} (Q : Is → MS → Prop) (h : SS X B st is M { nx := Q, rt := D.rt, bk := D.bk, ct := D.ct }) (k : ∀ is' M', Q is' M' → BB X B rest is' M' D) : BB X B (st :: rest) is M D :=
  bb_cons (h.imp k (fun _ _ q => q) (fun _ _ q => q) fun _ _ q => q)
section
variable {X : Cx} {B : Bs} {is : Is} {M : MS} {Post : Pr → MS → Prop} {pos : Pos} {e e2 : Expr}
theorem ee_ofL (N0 : List Str) (sc0 : Scope) (own : List (Str × Nat)) {tg iter elt : Expr} {ifs : List Expr} {scope : Scope} (hc : X.calm = true) (hN : X.N.Nodup) (hb : blkC N0 sc0 scope own = true) (h : LL X B scope tg iter ifs elt own is M Post)
    (hs : ∀ x, foldedSetIterable iter X.env x = pure x := by intro _; rfl) (hN0 : X.N = N0 := by rfl) (hs0 : X.env.scope = sc0 := by rfl) : EE X B (.ListComp elt [⟨tg, iter, ifs, 0⟩] scope pos) is M Post := fun σ G H K Q k => by
  subst hN0
  subst hs0
  exact EW.of (pe_lc (own := own) hc hN pi_w (blkOk_by hb) bg bt be hs) (h σ G H K Q k)
theorem ee_draw {k : Nat} {p : Pos} (C : Cal X.prog X.w X.K X.mg X.base k "_law_draw" ["_law_source_here", "_law_count"] spDr) (hr : Room k X.A)
    (h : AA X B [e, e2] is M fun prs M1 => ∃ (a : Addr) (n : Nat), prs = [raw (.ref a), dat (.int n)] ∧ (a, MO.src) ∈ M1 ∧ 0 < n ∧ n < 100000 ∧ ∀ r : Nat, r < n → Post (dat (.int r)) M1)
    (hg : Gl X "_law_draw" := by rfl) (he : starEach [e, e2] X.env = (false, eval e X.env) :: starEach [e2] X.env := by rfl) (hpl : (backTo pos (starEach [e2] X.env)).any (·.1) = false := by rfl) : EE X B (.Call (.Name "_law_draw" p) [e, e2] [] pos) is M Post :=
  ee_call C hr (AA.imp h fun prs M1 ⟨a, n, e1, hm, h0, h1, hp⟩ => ⟨[a], fun b hb => by rw [List.mem_singleton.mp hb]; exact hm, by simp, a, n, e1, rfl, by omega, by omega, fun r r0 r1 => by
    show Post _ (M1 ++ [])
    rw [List.append_nil]
    obtain ⟨m, rfl⟩ := Int.eq_ofNat_of_zero_le r0
    exact hp m (by omega)⟩) hg (by decide) he hpl
theorem ee_names {k : Nat} {p : Pos} (C : Cal X.prog X.w X.K X.mg X.base k "_law_names" ["_law_source_here", "_law_count"] spNa) (hr : Room k X.A)
    (h : AA X B [e, e2] is M fun prs M1 => ∃ (a : Addr) (n : Nat), prs = [raw (.ref a), dat (.int n)] ∧ (a, MO.src) ∈ M1 ∧ n ≤ 61 ∧ ∀ ns : List Str, ns.length = n → ns.Nodup → (∀ x ∈ ns, isNameB x = true) → Post (dat (tD ns)) M1)
    (hg : Gl X "_law_names" := by rfl) (he : starEach [e, e2] X.env = (false, eval e X.env) :: starEach [e2] X.env := by rfl) (hpl : (backTo pos (starEach [e2] X.env)).any (·.1) = false := by rfl) : EE X B (.Call (.Name "_law_names" p) [e, e2] [] pos) is M Post :=
  ee_call C hr (AA.imp h fun prs M1 ⟨a, n, e1, hm, h0, hp⟩ => ⟨[a], fun b hb => by rw [List.mem_singleton.mp hb]; exact hm, by simp, a, n, e1, rfl, h0, fun ns n1 n2 n3 => by
    show Post _ (M1 ++ [])
    rw [List.append_nil]
    exact hp ns n1 n2 n3⟩) hg (by decide) he hpl
end
section
variable {P : Program} {w : World} {K : PySem.W.Frag} {mg : Str → Option Value} {base : Heap} {k : Nat} {C : Addr}
abbrev nmCn : List Str := ["_law_source_here", "_law_vertices", "_law_more", "_law_rotations", "_law_k", "_law_name", "_law_places", "_law_side", "_law_rotation"]
theorem scCn : FnScope nmCn ["_law_source_here", "_law_vertices", "_law_more"] (defScope (tp 59)) := ⟨rfl, rfl, rfl, by decide +kernel, rfl, by decide +kernel, by decide +kernel⟩
def spCn : PT0 := fun ps S U => ∃ (a : Addr) (n m : Nat), ps = [raw (.ref a), dat (.int n), dat (.int m)] ∧ S = [a] ∧ 1 ≤ n ∧ n ≤ 61 ∧ n - 1 + m ≤ 60 ∧ ∀ g, WF g → Conn g → g ≠ [] → g.length = n → (darts g).length = 2 * (n - 1 + m) → U (dat (tD g)) []
theorem cal_cn (bt : Bt mg) (t : Top K mg "_law_connected" (tp 59) ["_law_source_here", "_law_vertices", "_law_more"]) (C1 : Cal P w K mg base k "_law_draw" ["_law_source_here", "_law_count"] spDr) (C2 : Cal P w K mg base k "_law_names" ["_law_source_here", "_law_count"] spNa) :
    Cal P w K mg base (k + 1) "_law_connected" ["_law_source_here", "_law_vertices", "_law_more"] spCn := by
  refine cal_mk t scCn (fun prs S post ⟨a, n, m, e, _⟩ => by rw [e]; rfl) fun f0 cdv A outer s H E B hr prs post ⟨a, n, m, e, hS, hn1, hn2, hnm, hp⟩ => ?_
  subst e
  have hu := hr.units
  have BW := hS
  rw [hS]
  show BB _ B _ _ [(a, MO.src)] (retE post [a])
  refine bb_cons (ss_setL nmCn (defScope (tp 59)) [("_law_k", 4)] 3 rfl scCn.nd (by decide +kernel) (ll_lcN [("_law_k", 4)] (ii_range bt.range (aa_cons (ee_name 1 rfl (aa_nil ⟨n, rfl, by omega, by rw [List.length_map, List.length_range]; omega, fun i acc N => ∃ bs : List Addr, acc = bs.map rR ∧ N = bs.map (fun b => (b, MO.lst [])) ∧ bs.length = i, ⟨[], rfl, rfl, rfl⟩, ?_, ?_⟩))))))
  · rintro L i p acc N hget ⟨bs, rfl, rfl, hbl⟩ s H C cl fp
    refine gg_name 4 scCn.nd ⟨rfl, fun s H C cl fp => ee_lstm (aa_nil ⟨by simp, fun b => ⟨bs.map (fun b => (b, MO.lst [])) ++ [(b, .lst [])], by simp, bs ++ [b], by rw [List.map_append]; rfl, by rw [List.map_append]; rfl, by rw [List.length_append, hbl]; rfl⟩⟩)⟩
  rintro acc N L ⟨bs, rfl, rfl, hbl⟩
  rw [List.length_map, List.length_range] at hbl
  let Mr : List (List Dart) → MS := fun rows => (a, .src) :: (L, .lst (bs.map rR)) :: (bs.zip rows).map rMO
  have hM0 : [(a, MO.src)] ++ (L, MO.lst (bs.map rR)) :: bs.map (fun b => (b, MO.lst [])) = Mr (List.replicate n []) := by
    have e : bs.map (fun b => (b, MO.lst [])) = (bs.zip (List.replicate n [])).map rMO := by
      have go : ∀ (bs : List Addr) (n : Nat), bs.length = n → bs.map (fun b => (b, MO.lst [])) = (bs.zip (List.replicate n [])).map rMO := by
        intro bs
        induction bs with
        | nil => intro n _; rfl
        | cons b bs ih =>
          intro n hn
          match n, hn with
          | n + 1, hn =>
            rw [List.map_cons, List.replicate_succ, List.zip_cons_cons, List.map_cons, ih n (Nat.succ.inj hn)]
            rfl
      exact go bs n hbl
    rw [e]
    rfl
  rw [hM0]
  let st : Option Pr → Option Pr → Option Pr → Option Pr → Option Pr → Is := fun x4 x5 x6 x7 x8 => [some (raw (.ref a)), some (dat (.int n)), some (dat (.int m)), some (raw (.ref L)), x4, x5, x6, x7, x8]
  have hint : ((n : Int) - 1 + (m : Int)) = ((n - 1 + m : Nat) : Int) := by omega
  have msrc : ∀ rows, (a, MO.src) ∈ Mr rows := fun _ => List.mem_cons_self
  refine bb_cons (ss_for [4, 5] rfl .never (ii_enum bt.enumerate (aa_cons (EE.ls (ee_names C2 hr (aa_cons (ee_name 0 rfl (aa_cons (ee_add (ee_sub (ee_name 1 rfl ⟨n, rfl, ee_int ⟨1, rfl, _, rfl, ee_name 2 rfl ⟨m, rfl, aa_nil ⟨a, n - 1 + m, by rw [hint], msrc _, by omega, fun es el en ei => ⟨es.map Datum.toD, rfl, aa_nil ⟨_, rfl, fun i is M => ∃ (rows : List (List Dart)) (x4 x5 x6 x7 x8 : Option Pr), is = st x4 x5 x6 x7 x8 ∧ M = Mr rows ∧ GI es n rows i, ⟨_, none, none, none, none, none, rfl, rfl, ?_⟩, ?_, ?_⟩⟩⟩⟩⟩⟩)))))))))))
  · refine ⟨List.length_replicate, ?_, fun j h1 h2 => absurd h1 (by omega)⟩
    have e : (List.replicate n ([] : List Dart)).flatten = [] := by simp
    rw [e]
    exact .nil
  · rintro i p is M hget ⟨rows, x4, x5, x6, x7, x8, rfl, rfl, gi⟩
    obtain ⟨e, he, rfl⟩ := enum_get (f := fun v : Str => dat (.str v)) (xs := es) (by rw [show (es.map fun v => dat (.str v)) = (es.map Datum.toD).map dat from dats_map _ es]; exact hget)
    have hi := (List.getElem?_eq_some_iff.mp he).1
    refine gg_tup rfl (ggs_cons (gg_name 4 scCn.nd (ggs_cons (gg_name 5 scCn.nd (ggs_nil ?_)))))
    refine bb_cons (ss_set 6 (ee_lstd (aa_cons (ee_draw C1 hr (aa_cons (ee_name 0 rfl (aa_cons (ee_name 1 rfl (aa_nil ⟨a, n, rfl, msrc _, by omega, by omega, fun p0 hp0 => aa_cons (ee_draw C1 hr (aa_cons (ee_name 0 rfl (aa_cons (ee_name 1 rfl (aa_nil ⟨a, n, rfl, msrc _, by omega, by omega, fun q0 hq0 => aa_nil ⟨[.int p0, .int q0], rfl, by simp, ?_⟩⟩))))))⟩)))))))) scCn.nd)
    refine bb_cut (fun is M => ∃ p q : Nat, p < n ∧ q < n ∧ (i + 1 < n → ∃ t, t ≤ i ∧ ((p = i + 1 ∧ q = t) ∨ (p = t ∧ q = i + 1))) ∧ is = st (some (dat (.int i))) (some (dat (.str e))) (some (dat (.list [.int p, .int q]))) x7 x8 ∧ M = Mr rows) ?_ ?_
    · refine ss_if (tt_cmp (cc_lt (ee_add (ee_name 4 rfl ⟨i, rfl, ee_int ⟨1, rfl, _, rfl, ee_name 1 rfl ⟨n, rfl, _, rfl, fun z => ?_, fun z => bb_nil ⟨p0, q0, hp0, hq0, fun z2 => ?_, rfl, rfl⟩⟩⟩⟩))))
      · have z1 := of_decide_eq_true z
        have hin : i + 1 < n := by omega
        refine bb_cons (ss_set 6 (ee_lstd (aa_cons (ee_add (ee_name 4 rfl ⟨i, rfl, ee_int ⟨1, rfl, aa_cons (ee_draw C1 hr (aa_cons (ee_name 0 rfl (aa_cons (ee_add (ee_name 4 rfl ⟨i, rfl, ee_int ⟨1, rfl, aa_nil ⟨a, i + 1, rfl, msrc _, by omega, by omega, fun t ht => aa_nil ⟨[.int ((i + 1 : Nat) : Int), .int t], rfl, by simp, ?_⟩⟩⟩⟩))))))⟩⟩)))) scCn.nd)
        refine bb_cons (ss_set 6 (ee_ixl (ee_lstd (aa_cons (ee_name 6 rfl (aa_cons (ee_rev (ee_name 6 rfl ⟨[.int ((i + 1 : Nat) : Int), .int t], .ds _, aa_nil ⟨[.list [.int ((i + 1 : Nat) : Int), .int t], .list [.int t, .int ((i + 1 : Nat) : Int)]], rfl, by simp, ee_draw C1 hr (aa_cons (ee_name 0 rfl (aa_cons (ee_int (aa_nil ⟨a, 2, rfl, msrc _, by omega, by omega, fun r hr2 => ?_⟩)))))⟩⟩))))))) scCn.nd)
        have hr3 : r = 0 ∨ r = 1 := by omega
        rcases hr3 with rfl | rfl
        · exact ⟨_, 0, _, .ds _, rfl, atI_zero rfl, bb_nil ⟨i + 1, t, hin, by omega, fun _ => ⟨t, by omega, .inl ⟨rfl, rfl⟩⟩, rfl, rfl⟩⟩
        · exact ⟨_, 1, _, .ds _, rfl, atI_nat (j := 1) rfl, bb_nil ⟨t, i + 1, by omega, hin, fun _ => ⟨t, by omega, .inr ⟨rfl, rfl⟩⟩, rfl, rfl⟩⟩
      · have z1 := of_decide_eq_false z
        omega
    rintro is M ⟨p, q, hpn, hqn, hpq, rfl, rfl⟩
    refine bb_cons (ss_for [7] rfl .never (ii_lstd (ee_lstd (aa_cons (ee_int (aa_cons (ee_int (aa_nil ⟨[.int 0, .int 1], rfl, by simp, [.int 0, .int 1], rfl, fun j is M => ∃ (rows' : List (List Dart)) (x7 x8 : Option Pr), is = st (some (dat (.int i))) (some (dat (.str e))) (some (dat (.list [.int p, .int q]))) x7 x8 ∧ M = Mr rows' ∧ rows'.length = n ∧ rows'.flatten.Perm ((es.take i).flatMap two ++ (two e).take j) ∧ (∀ l x, x ∈ rw' rows l → x ∈ rw' rows' l) ∧ (1 ≤ j → (e, 0) ∈ rw' rows' p) ∧ (2 ≤ j → (e, 1) ∈ rw' rows' q), ⟨rows, x7, x8, rfl, rfl, gi.len, ?_, fun _ _ h => h, fun z => absurd z (by omega), fun z => absurd z (by omega)⟩, ?_, ?_⟩))))))))
    · rw [List.take_zero, List.append_nil]
      exact gi.fl
    · rintro j pr is M hget2 ⟨rows', x7, x8, rfl, rfl, hl', hf', hmo, h1', h2'⟩
      obtain ⟨pp, d, hppn, rfl, hat, hdj, hd1, hcase⟩ : ∃ (pp : Nat) (d : Dart), pp < n ∧ pr = dat (.int j) ∧ atI (([PyData.int p, .int q]).map dat) (j : Int) = some (dat (.int pp)) ∧ (two e)[j]? = some d ∧ d = (e, (j : Int)) ∧ (j = 0 ∧ pp = p ∨ j = 1 ∧ pp = q) := by
        match j, hget2 with
        | 0, h => exact ⟨p, (e, 0), hpn, (Option.some.inj h).symm, atI_zero rfl, rfl, rfl, .inl ⟨rfl, rfl⟩⟩
        | 1, h => exact ⟨q, (e, 1), hqn, (Option.some.inj h).symm, atI_nat (j := 1) rfl, rfl, rfl, .inr ⟨rfl, rfl⟩⟩
        | j + 2, h => cases h
      have hbp : pp < bs.length := by omega
      have hrp : pp < rows'.length := by omega
      have hb : bs[pp]? = some bs[pp] := List.getElem?_eq_getElem hbp
      generalize bs[pp] = b at hb
      have hrow : rows'[pp]? = some (rw' rows' pp) := by
        unfold rw'
        rw [List.getElem?_eq_getElem hrp]
        rfl
      have hM : (Mr rows')[pp + 2]? = some (b, .lst (((rw' rows' pp).map Datum.toD).map dat)) := by
        show ((bs.zip rows').map rMO)[pp]? = _
        rw [List.getElem?_map, List.getElem?_zip_eq_some (z := (b, rw' rows' pp)) |>.mpr ⟨hb, hrow⟩]
        rfl
      have hrl : (rw' rows' pp).length ≤ 200 := by
        have h3 := hf'.length_eq
        rw [List.length_append, two_len, List.length_take, List.length_take] at h3
        have h4 : (rw' rows' pp).length ≤ rows'.flatten.length := by
          have h5 := List.mem_of_getElem? hrow
          generalize rw' rows' pp = r at h5
          clear hM hrow h3 hf' hmo h1' h2' hl' hrp
          induction rows' with
          | nil => cases h5
          | cons y ys ih =>
            rw [List.flatten_cons, List.length_append]
            rcases List.mem_cons.mp h5 with z | z
            · rw [z]; omega
            · have := ih z; omega
        have : (two e).length = 2 := rfl
        omega
      have hll : ((((rw' rows' pp).map (Datum.toD : Dart → PyData)).map dat).length : Int) + 1 = (((rw' rows' pp).length + 1 : Nat) : Int) := by rw [List.length_map, List.length_map]; omega
      refine gg_name 7 scCn.nd ?_
      refine bb_cons (ss_set 8 (ee_ixl (ee_name 3 rfl (ee_ixl (ee_name 6 rfl (ee_name 7 rfl ⟨_, (j : Int), _, .ds [.int p, .int q], rfl, hat, bs.map rR, (pp : Int), rR b, .own (i := 1) rfl, rfl, atI_nat (by rw [List.getElem?_map, hb]; rfl), ?_⟩))))) scCn.nd)
      refine bb_cons (ss_expr (ee_insert (ee_name 8 rfl ⟨b, pp + 2, _, rfl, hM, aa_cons (ee_draw C1 hr (aa_cons (ee_name 0 rfl (aa_cons (ee_add (ee_len bt.len (aa_cons (ee_name 8 rfl (aa_nil ⟨_, _, rfl, .ls (.own (i := pp + 2) hM), _, rfl, ee_int ⟨1, rfl, aa_nil ⟨a, (rw' rows' pp).length + 1, by rw [hll], msrc _, by omega, by omega, fun r hr2 => aa_cons (ee_tupd (aa_cons (ee_name 5 rfl (aa_cons (ee_name 7 rfl (aa_nil ⟨[.str e, .int j], rfl, by simp, aa_nil ⟨_, r, _, hM, rfl, by omega, by rw [List.length_map, List.length_map]; omega, bb_nil ?_⟩⟩))))))⟩⟩⟩)))))))))⟩)))
      refine ⟨ins rows' pp r d, _, _, rfl, ?_, by rw [ins_len]; exact hl', ?_, fun l x hx => ins_mono hrp (hmo l x hx), fun _ => ?_, fun z => ?_⟩
      · have ed : dat (.tuple [.str e, .int (j : Int)]) = dat (tD d) := by rw [hd1]; rfl
        rw [ed]
        have el : (((rw' rows' pp).map (Datum.toD : Dart → PyData)).map dat).take r ++ [dat (tD d)] ++ (((rw' rows' pp).map (Datum.toD : Dart → PyData)).map dat).drop r = ((((rw' rows' pp).take r ++ [d] ++ (rw' rows' pp).drop r).map Datum.toD).map dat) := by
          rw [List.map_append, List.map_append, List.map_append, List.map_append, List.map_take, List.map_take, List.map_drop, List.map_drop]
          rfl
        rw [el]
        show (a, MO.src) :: (L, MO.lst (bs.map rR)) :: ((bs.zip rows').map rMO).set pp _ = Mr (ins rows' pp r d)
        rw [zip_set hb]
        rfl
      · refine (ins_flat hrp).trans ?_
        rw [take_at hdj, ← List.append_assoc]
        exact (List.Perm.cons d hf').trans (List.perm_append_singleton d _).symm
      · rcases hcase with ⟨rfl, rfl⟩ | ⟨rfl, rfl⟩
        · have := ins_new (n := r) (d := d) hrp
          rw [hd1] at this ⊢
          exact this
        · exact ins_mono hrp (h1' (by omega))
      · rcases hcase with ⟨rfl, rfl⟩ | ⟨rfl, rfl⟩
        · omega
        · have := ins_new (n := r) (d := d) hrp
          rw [hd1] at this ⊢
          exact this
    · rintro is M ⟨rows', x7, x8, rfl, rfl, hl', hf', hmo, h1', h2'⟩
      refine bb_nil ⟨rows', _, _, _, _, _, rfl, rfl, hl', ?_, fun j j1 j2 j3 => ?_⟩
      · have e2 : [e].flatMap two = two e := List.append_nil _
        rw [take_at he, List.flatMap_append, e2]
        exact hf'
      · by_cases hji : j ≤ i
        · obtain ⟨d, j', q1, q2, q3⟩ := gi.lk j j1 hji j3
          exact ⟨d, j', q1, hmo _ _ q2, hmo _ _ q3⟩
        · have ej : j = i + 1 := by omega
          subst ej
          have m1 := h1' (show 1 ≤ 2 by omega)
          have m2 := h2' (Nat.le_refl 2)
          obtain ⟨t, ht, hc⟩ := hpq j3
          rcases hc with ⟨rfl, rfl⟩ | ⟨rfl, rfl⟩
          · exact ⟨(e, 0), q, by omega, m1, m2⟩
          · exact ⟨(e, 1), p, by omega, m2, m1⟩
  · rintro is M ⟨rows, x4, x5, x6, x7, x8, rfl, rfl, gi⟩
    have elen : ((List.range ((es.map (Datum.toD : Str → PyData)).map dat).length).map fun (i : Nat) => tupP [dat (.int (i : Int)), ((es.map (Datum.toD : Str → PyData)).map dat).getD i (raw .non)]).length = es.length := by simp
    rw [elen] at gi
    refine bb_cons (ss_ret (ee_ofL nmCn (defScope (tp 59)) [("_law_name", 5), ("_law_rotation", 8)] rfl scCn.nd (by decide +kernel) (ll_lcX (α := Str × List Dart) [("_law_name", 5), ("_law_rotation", 8)] (fun z => tupP [dat (.str z.1), dat (tD z.2)]) (fun _ => true) (fun z => tD z) (ii_zip bt.zip (aa_cons (EE.ls (ee_names C2 hr (aa_cons (ee_name 0 rfl (aa_cons (ee_name 1 rfl (aa_nil ⟨a, n, rfl, msrc _, hn2, fun ns nl nnd nis => ⟨ns.map Datum.toD, rfl, aa_cons (EE.gh (ee_name 3 rfl ⟨_, _, gh_rows BW (by rw [hbl, gi.len]), aa_nil ⟨(ns.map Datum.toD).map dat, rows.map fun r => dat (tD r), rfl, by rw [List.length_map, List.length_map, List.length_map, nl, gi.len], ns.zip rows, ?_, by rw [List.length_zip]; omega, fun L z acc hz s H C cl fp => ?_, ?_⟩⟩))⟩⟩))))))))))))
    · apply List.ext_getElem?
      intro i
      rw [List.getElem?_map, List.getElem?_map]
      have h1 : ((ns.map (Datum.toD : Str → PyData)).map dat).length = n := by rw [List.length_map, List.length_map, nl]
      rw [h1]
      by_cases hi : i < n
      · have hrl := gi.len
        have hz : (ns.zip rows)[i]? = some (ns[i]'(by omega), rows[i]'(by omega)) := List.getElem?_zip_eq_some.mpr ⟨List.getElem?_eq_getElem (by omega), List.getElem?_eq_getElem (by omega)⟩
        rw [List.getElem?_range hi, hz]
        show some (tupP [((ns.map (Datum.toD : Str → PyData)).map dat).getD i (raw .non), (rows.map fun r => dat (tD r)).getD i (raw .non)]) = some _
        rw [List.getD_eq_getElem?_getD, List.getD_eq_getElem?_getD, List.getElem?_map, List.getElem?_map, List.getElem?_map, List.getElem?_eq_getElem (show i < ns.length by omega), List.getElem?_eq_getElem (show i < rows.length by omega)]
        rfl
      · have hrl := gi.len
        rw [List.getElem?_eq_none (by rw [List.length_range]; omega), List.getElem?_eq_none (by rw [List.length_zip]; omega)]
        rfl
    · exact gg_tup rfl (ggs_cons (gg_name 5 scCn.nd (ggs_cons (gg_name 8 scCn.nd (ggs_nil ⟨rfl, fun s H C cl fp => .inl ⟨rfl, rfl, rfl, fun _ s H C cl fp => ee_tupd (aa_cons (ee_name 5 rfl (aa_cons (ee_name 8 rfl (aa_nil ⟨[.str z.1, tD z.2], rfl, by simp, rfl, rfl⟩)))))⟩⟩)))))
    · rw [List.filter_eq_self.mpr (fun _ _ => rfl)]
      obtain ⟨w1, w2, w3, w4, w5⟩ := made hn1 nl nnd nis (by omega) (by omega) hn2 en ei gi
      rw [el] at w5
      exact ret0 (hp _ w1 w2 w3 w4 w5) (fun b hb => by rw [List.mem_singleton.mp hb]; exact List.mem_cons_self)
end
end Q9
namespace Q9
open PySem L2 PyProof.Rows
open PySem.W (Datum DatumOrd minOf)
section
variable {P : Program} {w : World} {K : PySem.W.Frag} {mg : Str → Option Value} {base : Heap}
/-- a def keeps its promise where no repr is under way -/
structure FnG (P : Program) (w : World) (K : PySem.W.Frag) (mg : Str → Option Value) (base : Heap) (k : Nat) (f : Addr) (fd : FuncData) (ps : List Str) (sp : Sp) : Prop where
  arity : ∀ xs H Q E, sp xs H Q E → xs.length = ps.length
  go : ∀ (A : Around) (stk : List Env) (s : Shared) (H : Hp) (ar : Args) (us : List Value) (xs : List V) (Q : VK) (E : XK), A.guards = some [] → Room k A → Env0 P w K mg base A stk s H → BindsTo s fd ar (ps.zip us) → Vals xs us → sp xs H Q E →
    codeAny (model P w) A (.call (.ref f) ar) (CR CX0 stk P w H s Q E) s
theorem FnG.of {x qual : Str} {st : Stmt} {f : Addr} {fd : FuncData} {N ps : List Str} {k : Nat} {sp : Sp} (F : Fun K x qual st f fd) (Sc : FnScope N ps (defScope st)) (ar : ∀ xs H Q E, sp xs H Q E → xs.length = ps.length)
    (body : ∀ (c : Value) (A : Around) (stk : List Env) (s : Shared) (H : Hp) (xs : List V) (Q : VK) (E : XK), A.guards = some [] → Room k (A.deeper (envOfC qual (defScope st) s.heap.objs.size f c)) → sp xs H Q E →
      ∃ t, PSs (cxOf CX0 P w K mg base N qual (defScope st) f c A stk s H E).nox (defBody st) t ∧ t { nx := fun _ H' => Q .non H', rt := Q } (L2.start N xs) H) : FnG P w K mg base (k + 1) f fd ps sp := by
  obtain ⟨oc, od, kV, doc, pm, an, c, ct, osl, e, lk, hcd⟩ := F.ex
  subst e
  refine ⟨ar, fun A stk s H args us xs Q E gd room env bind rel want => ?_⟩
  have kin : K.In s.heap := env.mod.kin.keeps fun b o z => (env.bs b o z).1
  have nl : s.heap.NoLimit := env.mod.nolimit.keeps fun b o z => (env.bs b o z).1
  have kinds : ∀ y ∈ ps.zip us, (defScope st).names.lookup y.1 = some .local ∨ ((defScope st).names.lookup y.1 = some .cell ∧ ((cellsFrom (s.heap.objs.size + 1) (defScope st).names []).lookup y.1).isSome = true) := by
    rintro ⟨n, v⟩ hy
    have hn : n ∈ ps := (List.of_mem_zip hy).1
    cases Sc.par n hn with
    | inl q => exact .inl q
    | inr q => exact .inr ⟨q, PySem.W.cellsFrom_some _ _ _ (.inl q)⟩
  refine codeAny_call_function room.depth (kin _ _ lk) rfl Sc.co Sc.gen rfl (PySem.W.codeRec_of kin hcd) (bind _ _ _ _ ?_)
  refine wpAny_newFunctionEnv_cells Sc.kind kinds fun env' he s1 inCall => ?_
  subst he
  refine ⟨nl.keeps inCall.toInCall.keep, codeAny_func ?_⟩
  obtain ⟨t, ht, hq⟩ := body c A stk s H xs Q E gd (room.deeper _) want
  have inv := inv_start (CX := CX0) (N := N) (E := E) Sc room.hd env (ar _ _ _ _ want) rel inCall
  have close : ∀ {σ' : L2.St} {H' : Hp} {v : V} {u : Value} {s' : Shared}, Inv (cxOf CX0 P w K mg base N qual (defScope st) f c A stk s H E) [] σ' H' s' → RelV v u → Q v H' → CE stk P w H s Q u s' :=
    fun {σ' H' v u s'} J rv q => ⟨v, H', J.os, J.bare, J.base, J.hok, rv, q⟩
  refine wpAny_mono (ht.nox.run [] s1 (L2.start N xs) H _ inv hq) (fun fl s' hs => ?_) fun _ _ hs => hs
  match fl, hs with
  | .ret u, ⟨v, σ', H', J, rv, q⟩ => exact close J rv q
  | .next, ⟨σ', H', J, q⟩ => exact close (v := V.non) (u := Value.none) J rfl q
  | .brk, ⟨_, _, _, q⟩ => exact q.elim
  | .cont, ⟨_, _, _, q⟩ => exact q.elim
structure CalG (P : Program) (w : World) (K : PySem.W.Frag) (mg : Str → Option Value) (base : Heap) (k : Nat) (x : Str) (ps : List Str) (T : PT0) : Prop where
  ex : ∃ (f : Addr) (fd : FuncData), FnG P w K mg base k f fd ps (fnSp T) ∧ mg x = some (.ref f) ∧ PySem.W.keepIn K (.ref f) = true ∧ Binds K fd ps []
theorem fnG_mk {x qual : Str} {st : Stmt} {f : Addr} {fd : FuncData} {N ps : List Str} {k : Nat} {T : PT0} (F : Fun K x qual st f fd) (Sc : FnScope N ps (defScope st)) (len : ∀ prs S post, T prs S post → prs.length = ps.length)
    (body : ∀ (cdv : Value) (A : Around) (outer : List Env) (s : Shared) (H : Hp) (E : XK) (B : Bs), A.guards = some [] → Room k (A.deeper (envOfC qual (defScope st) s.heap.objs.size f cdv)) → ∀ (prs : List Pr) (post : Pr → MS → Prop), T prs B.W post →
      BB (cxOf CX0 P w K mg base N qual (defScope st) f cdv A outer s H E).nox B (defBody st) (startI N prs) (B.W.map fun a => (a, .src)) (retE post B.W)) : FnG P w K mg base (k + 1) f fd ps (fnSp T) := by
  refine FnG.of F Sc (fun vs H Q E ⟨G, prs, S, _, h2, _, _, U, h4, _⟩ => h2.length.symm.trans (len _ _ _ h4)) (fun cdv A outer s H vs Q E hg hr ⟨G, prs, S, h1, h2, h3, h5, U, h4, h6⟩ => ?_)
  refine ⟨_, pss_w, ?_⟩
  have K0 : Ok ⟨G, H, S⟩ (L2.start N vs) G H (startI N prs) (S.map fun a => (a, .src)) := by
    refine ⟨h1, Same.refl _, fun a o e _ => e, fun a o e => ⟨(fun z => by have e' : H a = some o := e; rw [z] at e'; cases e'), fun _ => rfl⟩, ?_, fun x hx => ?_, ?_, fun a ha => by
      obtain ⟨_, i, j, e, _⟩ := h3 a ha
      exact ⟨⟨_, e, True.intro⟩, _, e, True.intro⟩⟩
    · unfold startI L2.start
      rw [← h2.length]
      exact sl_start _ h2
    · obtain ⟨a, ha, e⟩ := List.mem_map.mp hx
      subst e
      exact ⟨(h3 a ha).2, (h3 a ha).1, .inr ha⟩
    · rw [List.map_map]
      have e : ((fun x : Addr × MO => x.1) ∘ fun a : Addr => (a, MO.src)) = id := rfl
      rw [e, List.map_id]
      exact h5
  refine body cdv A outer s H E ⟨G, H, S⟩ hg hr prs U h4 _ G H K0 _ ⟨fun σ' G' H' is' M' K' g ⟨N, hp, hN, hd, hS⟩ => ?_, fun v σ' G' H' is' p M' K' g q ⟨N, hp, hN, hd, hS⟩ => ?_, fun _ _ _ _ _ _ _ h => h, fun _ _ _ _ _ _ _ h => h⟩
  · refine h6 _ N hp .non G' H' K'.g0 K'.kn K'.h0 (fun a ha => (K'.mok _ (hS a ha)).1) (fun a o e nt => (K'.fr a o e).2 nt) (fun x hx => ?_) hd Dq.non
    obtain ⟨e1, e2, e3⟩ := K'.mok x (hN x hx).1
    exact ⟨e1, e2, e3.resolve_right (hN x hx).2⟩
  · refine h6 _ N hp v G' H' K'.g0 K'.kn K'.h0 (fun a ha => (K'.mok _ (hS a ha)).1) (fun a o e nt => (K'.fr a o e).2 nt) (fun x hx => ?_) hd q
    obtain ⟨e1, e2, e3⟩ := K'.mok x (hN x hx).1
    exact ⟨e1, e2, e3.resolve_right (hN x hx).2⟩
theorem calG_mk {x : Str} {st : Stmt} {N ps : List Str} {k : Nat} {T : PT0} (t : Top K mg x st ps) (Sc : FnScope N ps (defScope st)) (len : ∀ prs S post, T prs S post → prs.length = ps.length)
    (body : ∀ (f : Addr) (cdv : Value) (A : Around) (outer : List Env) (s : Shared) (H : Hp) (E : XK) (B : Bs), A.guards = some [] → Room k (A.deeper (envOfC x (defScope st) s.heap.objs.size f cdv)) → ∀ (prs : List Pr) (post : Pr → MS → Prop), T prs B.W post →
      BB (cxOf CX0 P w K mg base N x (defScope st) f cdv A outer s H E).nox B (defBody st) (startI N prs) (B.W.map fun a => (a, .src)) (retE post B.W)) : CalG P w K mg base (k + 1) x ps T := by
  obtain ⟨f, fd, F, hm, hb⟩ := t.ex
  exact ⟨f, fd, fnG_mk F Sc len (body f), hm, F.kp, hb⟩
end
section
variable {X : Cx} {B : Bs} {is : Is} {M : MS} {Post : Pr → MS → Prop} {D : En} {e o : Expr} {es : List Expr} {pos : Pos}
theorem FnG.run {k : Nat} {f : Addr} {fd : FuncData} {ps : List Str} {sp : Sp} {pins : List (Addr × Obj)} {σ : L2.St} {H : Hp} {s : Shared} {Q : VK} {us : List Value} {xs : List V} (F : FnG X.prog X.w X.K X.mg X.base k f fd ps sp) (gd : X.A.guards = some []) (room : Room k X.A) (bind : Binds X.K fd ps [])
    (inv : Inv X pins σ H s) (rel : Vals xs us) (want : sp xs H Q (fun _ _ _ => False)) : wpAny (model X.prog X.w) X.A (call (.ref f) us) (EP X pins σ Q) X.xe s := by
  have hl : (us ++ ([] : List Value)).length = ps.length := by rw [List.append_nil, ← rel.length]; exact F.arity _ _ _ _ want
  have bd := bind s us inv.kIn hl
  rw [List.append_nil] at bd
  refine wpAny_call (codeAny_mono (F.go X.A X.stack s H ⟨us, []⟩ us xs Q _ gd room inv.env0 bd rel want) fun res s' got => ?_)
  match res, got with
  | .error _, got => exact got.elim
  | .ok (.ret u), got => exact inv.after got
  | .ok .next, got => exact got.elim
  | .ok .brk, got => exact got.elim
  | .ok .cont, got => exact got.elim
theorem ee_callG {k : Nat} {x : Str} {ps : List Str} {T : PT0} {p : Pos} (C : CalG X.prog X.w X.K X.mg X.base k x ps T) (gd : X.A.guards = some []) (hr : Room k X.A)
    (h : AA X B (e :: es) is M fun prs M1 => ∃ S, (∀ a ∈ S, (a, MO.src) ∈ M1) ∧ S.Nodup ∧ T prs S fun p N => Post p (M1 ++ N)) (hg : Gl X x := by rfl) (hdb : (x == ("__debug__" : Str)) = false := by decide) (he : starEach (e :: es) X.env = (false, eval e X.env) :: starEach es X.env := by rfl) (hpl : (backTo pos (starEach es X.env)).any (·.1) = false := by rfl) :
    EE X B (.Call (.Name x p) (e :: es) [] pos) is M Post := fun σ G H K Q kk pins s I => by
  obtain ⟨f, fd, F, hm, hk, hb⟩ := C.ex
  refine wpAny_Call_Name_kw (ld_glob I hg hm ?_ hdb)
  have args := pa_w.run pos pins s σ H _ I (h σ G H K (fun vs H1 => fnSp T vs H1 Q fun _ _ _ => False) fun vs G1 H1 prs M1 K1 g1 q1 ⟨S, hS, hSn, hT⟩ => ⟨G1, prs, S, K1.kn, q1, fun a ha => ⟨(K1.mok _ (hS a ha)).2.1, (K1.mok _ (hS a ha)).1⟩, hSn, _, hT,
    fun p N hp v G' H' g k h hs n hN hd q => kk v G' H' p (M1 ++ N) (K1.called hS g k h hs n hN hd) (g1.trans g) q hp⟩)
  exact PySem.W.callWith_K (h₀ := X.base) I.ok.mod.kin hk (thn args fun us s1 ⟨vs, H1, I1, r, q⟩ => ⟨I1.kIn, F.run gd hr hb I1 r q⟩) he hpl
theorem ee_callG0 {k : Nat} {x : Str} {T : PT0} {p : Pos} (C : CalG X.prog X.w X.K X.mg X.base k x [] T) (gd : X.A.guards = some []) (hr : Room k X.A)
    (h : ∃ S, (∀ a ∈ S, (a, MO.src) ∈ M) ∧ S.Nodup ∧ T [] S fun p N => Post p (M ++ N)) (hg : Gl X x := by rfl) (hdb : (x == ("__debug__" : Str)) = false := by decide) :
    EE X B (.Call (.Name x p) [] [] pos) is M Post := fun σ G H K Q kk pins s I => by
  obtain ⟨f, fd, F, hm, hk, hb⟩ := C.ex
  obtain ⟨S, hS, hSn, hT⟩ := h
  refine wpAny_Call_Name_kw (ld_glob I hg hm ?_ hdb)
  refine PySem.W.callWith_K0 I.kIn hk (F.run (us := []) (xs := []) gd hr hb I .nil ⟨G, [], S, K.kn, True.intro, fun a ha => ⟨(K.mok _ (hS a ha)).2.1, (K.mok _ (hS a ha)).1⟩, hSn, _, hT, ?_⟩)
  exact fun p N hp v G' H' g k h hs n hN hd q => kk v G' H' p (M ++ N) (K.called hS g k h hs n hN hd) g q hp
theorem call_reprD (gd : X.A.guards = some []) : CallR X (.builtin "repr") (fun xs H Q => ∃ (a : Addr) (d : PyData), xs = [.ref a] ∧ Dp X.K H (.ref a) d ∧ d.showable = true ∧ d.hasDict = false ∧ X.A.units + (d.depth + 1) < cLine ∧ d.shown.length ≤ sizeLine ∧ Q (.str d.shown) H) := by
  intro pins s σ H xs us Q I r ⟨a, d, ex, hd, h1, h2, h3, h4, q⟩
  subst ex
  obtain ⟨u, rfl, ru⟩ := vals1 r
  have eu : u = .ref a := ru
  subst eu
  obtain ⟨as, rd⟩ := Dp.reads I d (.ref a) (.ref a) hd rfl
  exact repr_of_reads' rd h1 (fun z => by rw [h2] at z; cases z) gd h3 (fun _ _ z => z) (fun h' u tk keep => ⟨.str d.shown, H, I.kept (t' := tk) keep, ⟨u, rfl⟩, q⟩) h4
theorem ee_repr {p : Pos} (gd : X.A.guards = some []) (hm : X.mg "repr" = none) (h : AA X B [e] is M fun ps M1 => ∃ ds : List PyData, ps = [dat (.tuple ds)] ∧ (PyData.tuple ds).showable = true ∧ (PyData.tuple ds).hasDict = false ∧ X.A.units + ((PyData.tuple ds).depth + 1) < cLine ∧ (PyData.tuple ds).shown.length ≤ sizeLine ∧ Post (dat (.str (PyData.tuple ds).shown)) M1) (hg : Gl X "repr" := by rfl)
    (he : starEach [e] X.env = (false, eval e X.env) :: starEach [] X.env := by rfl) (hpl : (backTo pos (starEach [] X.env)).any (·.1) = false := by rfl) : EE X B (.Call (.Name "repr" p) [e] [] pos) is M Post :=
  ee_B (call_reprD gd) hm (by decide +kernel) (AA.imp h fun ps M1 ⟨ds, e1, h1, h2, h3, h4, hp⟩ => fun σ G H K vs hv Q k => by
    subst e1
    obtain ⟨v, evs, hq⟩ := pl_one hv
    subst evs
    obtain ⟨a, ws, ev, _, _⟩ := dat_tup.mp hq
    subst ev
    exact ⟨a, _, rfl, dp_of K.kn hq, h1, h2, h3, h4, k _ G H _ M1 K (Same.refl _) (Dq.str _) hp⟩) hg (by decide) (by decide) he hpl
end
end Q9
namespace Q9
open PySem L2 PyProof.Rows
open PySem.W (Datum DatumOrd minOf)
theorem name_repr {x : Str} (h : isNameB x = true) : (reprText x).length ≤ 100 := by
  have hl := name_len h
  have hs : ∀ c ∈ x.cps.toList, c < 16 ^ 8 := fun c hc => by
    unfold isNameB at h
    rw [Bool.and_eq_true] at h
    have := of_decide_eq_true (List.all_eq_true.mp h.2 c hc)
    have all : ∀ c ∈ abc.cps.toList, c < 16 ^ 8 := by decide +kernel
    exact all c this
  have := StrLaws.reprText_len x hs
  omega
theorem tup2_len (a b : Str) : (tupleText [a, b]).length = a.length + b.length + 4 := by
  have e : tupleText [a, b] = ("(" : Str) ++ (a ++ ", " ++ b) ++ (")" : Str) := rfl
  rw [e, strLen_append, strLen_append, strLen_append, strLen_append]
  have h1 : ("(" : Str).length = 1 := rfl
  have h2 : (")" : Str).length = 1 := rfl
  have h3 : (", " : Str).length = 2 := rfl
  rw [h1, h2, h3]
  omega
theorem tup3_len (a b c : Str) : (tupleText [a, b, c]).length = a.length + b.length + c.length + 6 := by
  have e : tupleText [a, b, c] = ("(" : Str) ++ (a ++ ", " ++ (b ++ ", " ++ c)) ++ (")" : Str) := rfl
  rw [e, strLen_append, strLen_append, strLen_append, strLen_append, strLen_append, strLen_append]
  have h1 : ("(" : Str).length = 1 := rfl
  have h2 : (")" : Str).length = 1 := rfl
  have h3 : (", " : Str).length = 2 := rfl
  rw [h1, h2, h3]
  omega
theorem side_len {i : Int} (h : i = 0 ∨ i = 1) : ((toString i : String) : Str).length = 1 := by
  rcases h with rfl | rfl <;> decide +kernel
theorem dart_shown {d : Dart} (h : isDart d) : (PyData.shown (tD d)).length ≤ 110 := by
  have e : PyData.shown (tD d) = tupleText [reprText d.1, toString d.2] := by
    show PyData.shown (.tuple [.str d.1, .int d.2]) = _
    simp only [PyData.shown, PyData.shownAll]
  rw [e, tup2_len, side_len h.2]
  have := name_repr h.1
  omega
theorem iso_shown {d e : Dart} (hd : isDart d) (he : isDart e) : (dIso (tD d) (tD e)).showable = true ∧ (dIso (tD d) (tD e)).hasDict = false ∧ (dIso (tD d) (tD e)).depth ≤ 10 ∧ (dIso (tD d) (tD e)).shown.length ≤ sizeLine := by
  have sd : ∀ {d : Dart}, isDart d → decide (d.2.natAbs.log2 < 1920) = true := fun {d} h => by
    rcases h.2 with z | z <;> rw [z] <;> decide +kernel
  refine ⟨?_, ?_, ?_, ?_⟩
  · show (PyData.tuple [.str "isomorphic", .tuple [.str d.1, .int d.2], .tuple [.str e.1, .int e.2]]).showable = true
    simp only [PyData.showable, PyData.showableAll, sd hd, sd he, Bool.and_true]
  · show (PyData.tuple [.str "isomorphic", .tuple [.str d.1, .int d.2], .tuple [.str e.1, .int e.2]]).hasDict = false
    simp only [PyData.hasDict, PyData.hasDictAll, Bool.or_false]
  · show (PyData.tuple [.str "isomorphic", .tuple [.str d.1, .int d.2], .tuple [.str e.1, .int e.2]]).depth ≤ 10
    simp only [PyData.depth, PyData.depthAll]
    omega
  · have e1 : PyData.shown (dIso (tD d) (tD e)) = tupleText [reprText "isomorphic", PyData.shown (tD d), PyData.shown (tD e)] := by
      show PyData.shown (.tuple [.str "isomorphic", tD d, tD e]) = _
      simp only [PyData.shown, PyData.shownAll]
    have h1 := dart_shown hd
    have h2 := dart_shown he
    have hs : ∀ c ∈ ("isomorphic" : Str).cps.toList, c < 16 ^ 8 := by decide +kernel
    have h3 := StrLaws.reprText_len "isomorphic" hs
    have h4 : ("isomorphic" : Str).length = 10 := by decide +kernel
    rw [h4] at h3
    rw [e1, tup3_len, PySem.sizeLine_eq]
    omega
theorem min_head {y : Dart} {ys xs : List Dart} (h : srt xs = y :: ys) : minOf y ys = y := by
  have hp := srt_pw xs
  rw [h, List.pairwise_cons] at hp
  have h1 := minOf_le ys y y List.mem_cons_self
  rcases List.mem_cons.mp (minOf_mem y ys) with z | z
  · exact z
  · exact leD_anti h1 (hp.1 _ z)
section
variable {X : Cx} {B : Bs} {is : Is} {M : MS} {Post : Pr → MS → Prop} {a : Expr} {pos : Pos}
/-- is not None: None, or an own dict -/
theorem cc_notNd {j : Nat} {pos' : Pos} (h : EE X B a is M fun p M1 => (p = dat .none ∧ Post (dat (.bool false)) M1) ∨ ∃ (c : Addr) (j : Nat) (kvs : List (List Key × Pr)), p = raw (.ref c) ∧ M1[j]? = some (c, MO.dt kvs) ∧ Post (dat (.bool true)) (M1.eraseIdx j)) : CC X B .IsNot a (.Constant .none j pos') is M Post := fun σ G H K Q k =>
  CW.of (pc_notN pe_w) (h σ G H K _ fun v G1 H1 p M1 K1 g1 q1 hh => by
    rcases hh with ⟨e1, h1⟩ | ⟨c, j, kvs, e1, hj, h1⟩
    · subst e1
      have q := dat_non.mp q1
      subst q
      exact k _ G1 H1 _ M1 K1 g1 (Dq.bl _) h1
    · subst e1
      have ev : v = .ref c := q1
      subst ev
      obtain ⟨us, h2, h3⟩ := K1.at hj
      obtain ⟨K2, g2⟩ := K1.freeze hj h2 (K1.notW h2 fun z => z)
      exact k _ _ H1 _ _ K2 (g1.trans g2) (Dq.bl _) h1)
end
section
variable {P : Program} {w : World} {K : PySem.W.Frag} {mg : Str → Option Value} {base : Heap}
theorem calG_pur {x : Str} {st : Stmt} {N ps : List Str} {k : Nat} {T : List Pr → (Pr → Prop) → Prop} (t : Top K mg x st ps) (Sc : FnScope N ps (defScope st)) (len : ∀ prs post, T prs post → prs.length = ps.length)
    (body : ∀ (f : Addr) (cdv : Value) (A : Around) (outer : List Env) (s : Shared) (H : Hp) (E : XK) (B : Bs), B.W = [] → A.guards = some [] → Room k (A.deeper (PyProof.Rows.envOfC x (defScope st) s.heap.objs.size f cdv)) → ∀ (prs : List Pr) (post : Pr → Prop), T prs post →
      BB (cxOf CX0 P w K mg base N x (defScope st) f cdv A outer s H E).nox B (defBody st) (startI N prs) [] (retP post)) : CalG P w K mg base (k + 1) x ps (pur T) := by
  refine calG_mk t Sc (fun prs S post h => len prs _ h.2) fun f cdv A outer s H E B hg hr prs post ⟨hS, hT⟩ => ?_
  have h := body f cdv A outer s H E B hS hg hr prs _ hT
  rw [hS]
  exact h.imp (fun i m q => ret0 q (fun _ z => by cases z)) (fun p m q => ret0 q (fun _ z => by cases z)) (fun _ _ z => z) fun _ _ z => z
end
end Q9
namespace Q9
open PySem L2 PyProof.Rows
open PySem.W (Datum DatumOrd minOf)
section
variable {P : Program} {w : World} {K : PySem.W.Frag} {mg : Str → Option Value} {base : Heap} {k : Nat} {C : Addr}
abbrev nmLh : List Str := ["_law_graph", "_law_other", "_law_next_darts_here", "_law_others", "_law_dart", "_law_matches", "_law_answer", "_law_word_here", "_law_pairs", "_law_to", "_law_first", "_law_second", "_law_row"]
theorem scLh : FnScope nmLh ["_law_graph", "_law_other"] (defScope (tp 73)) := ⟨rfl, rfl, rfl, by decide +kernel, rfl, by decide +kernel, by decide +kernel⟩
def spLh : List Pr → (Pr → Prop) → Prop := fun ps post => ∃ g h : Gr, ps = [dat (tD g), dat (tD h)] ∧ WF g ∧ WF h ∧ Conn g ∧ Conn h ∧ g ≠ [] ∧ h ≠ [] ∧ darts g ≠ [] ∧ darts h ≠ [] ∧ post (dat (.bool true))
open Classical in
noncomputable def isoB (g h : Gr) (d e : Dart) : Bool := decide (∃ l, IsoAt g h d e l)
open Classical in
theorem isoB_t {g h : Gr} {d e : Dart} (k : ∃ l, IsoAt g h d e l) : isoB g h d e = true := by
  unfold isoB
  exact decide_eq_true k
open Classical in
theorem isoB_f {g h : Gr} {d e : Dart} (wf : WF g) (hd : d ∈ darts g) {u v : Str} (k : Dst g h d e u v) : isoB g h d e = false := by
  unfold isoB
  exact decide_eq_false fun ⟨_, f, i, hf, _⟩ => k.no wf hd i hf
theorem cal_lh (bt : Bt mg) (t : Top K mg "_law_large_holds" (tp 73) ["_law_graph", "_law_other"]) (C1 : Cal P w K mg base k "_law_next_darts" ["_law_graph"] (pur spNd)) (C2 : Cal P w K mg base k "_law_match" ["_law_next_darts_here", "_law_dart", "_law_others", "_law_to"] spMa)
    (C3 : Cal P w K mg base k "find_isomorphism" ["graph", "other"] (pur spFi)) (C4 : Cal P w K mg base k "compare_from" ["graph", "dart", "other", "other_dart"] (pur spCf)) (C5 : Cal P w K mg base k "_law_maps_rotations" ["_law_graph", "_law_other", "_law_pairs"] (pur spMr))
    (C6 : Cal P w K mg base k "_law_turns_into" ["_law_graph", "_law_other", "_law_pairs"] (pur spTi)) (C7 : Cal P w K mg base k "_law_meet" ["_law_next_darts_here", "_law_dart", "_law_first", "_law_second"] (pur spLm)) (C8 : Cal P w K mg base k "is_comparison" ["graph", "dart", "other", "other_dart", "value"] (pur spIc)) :
    CalG P w K mg base (k + 1) "_law_large_holds" ["_law_graph", "_law_other"] (pur spLh) := by
  refine calG_pur t scLh (fun prs' post ⟨g, h, e, _⟩ => by rw [e]; rfl) fun f0 cdv A outer s H E B hS hgd hr prs' post ⟨g, h, e, wf, wfh, cn, ch, ng, nh, hd, hdh, hp⟩ => ?_
  subst e
  have hu := hr.units
  have hun := hr.un
  have hsz := wf.sz
  have hszh := wfh.sz
  obtain ⟨y, ys, hys⟩ : ∃ y ys, srt (darts g) = y :: ys := by
    cases e : srt (darts g) with
    | nil =>
      have := srt_len (darts g)
      rw [e] at this
      exact absurd (List.length_eq_zero_iff.mp this.symm) hd
    | cons y ys => exact ⟨y, ys, rfl⟩
  have hym : y ∈ darts g := by
    have : y ∈ srt (darts g) := by rw [hys]; exact List.mem_cons_self
    exact mem_srt.mp this
  have hlsp : ∀ {M : MS}, LsP M (dat (.list ((srt (darts g)).map Datum.toD))) (((y :: ys).map Datum.toD).map dat) := by
    rw [hys]
    exact .ds _
  refine bb_cons (ss_asg [2, 3] (ee_tup (aa_cons (ee_callp C1 hr (aa_cons (ee_name 0 rfl (aa_nil ⟨g, rfl, wf, aa_cons (ee_callp C1 hr (aa_cons (ee_name 1 rfl (aa_nil ⟨h, rfl, wfh, aa_nil ⟨by simp, gg_tup rfl (ggs_cons (gg_name 2 scLh.nd (ggs_cons (gg_name 3 scLh.nd (ggs_nil ?_)))))⟩⟩))))⟩)))))))
  refine bb_cons (ss_set 4 (ee_min (α := Dart) rfl hu (by decide) toD_dart_inj bt.min (aa_cons (ee_sortT (Datum.toD : Dart → PyData) dk (fun _ => rfl) rfl hu bt.sorted (aa_cons (ee_name 2 rfl (aa_nil ⟨_, _, darts g, rfl, .fix _, keys_nx g, srt_pair (by decide) (by omega), aa_nil ⟨_, y, ys, rfl, hlsp, ?_⟩⟩)))))) scLh.nd)
  rw [min_head hys]
  have dy := wf.dart y hym
  refine bb_cons (ss_setL nmLh (defScope (tp 73)) [("_law_to", 9)] 5 rfl scLh.nd (by decide +kernel) (ll_lcX (α := Dart) [("_law_to", 9)] (fun d => dat (tD d)) (isoB g h y) (fun d => tD d) (ii_lstd (ee_sortT (Datum.toD : Dart → PyData) dk (fun _ => rfl) rfl hu bt.sorted (aa_cons (ee_name 3 rfl (aa_nil ⟨_, _, darts h, rfl, .fix _, keys_nx h, srt_pair (by decide) (by omega), (srt (darts h)).map Datum.toD, rfl, srt (darts h), (dats_map _ _).symm, by rw [srt_len]; omega, fun L e acc he s H C cl fp => ?_, ?_⟩)))))))
  · have hem := mem_srt.mp he
    refine gg_name 9 scLh.nd ⟨rfl, fun s H C cl fp => .inr ⟨_, rfl, tt_cmp (cc_notNd (ee_call C2 hr (aa_cons (ee_name 2 rfl (aa_cons (ee_name 4 rfl (aa_cons (ee_name 3 rfl (aa_cons (ee_name 9 rfl (aa_nil ⟨[], (fun _ z => by cases z), List.nodup_nil, rfl, g, h, y, e, rfl, wf, wfh, cn, ch, hym, hem, fun c im l il hper => .inr ⟨c, 1, _, rfl, rfl, true, rfl, rfl, (isoB_t ⟨l, il⟩).symm, fun _ s H C cl fp => ee_name 9 rfl ⟨rfl, rfl⟩⟩, fun u v dst => .inl ⟨rfl, false, rfl, rfl, (isoB_f wf hym dst).symm, fun z => ?_⟩⟩)))))))))))⟩⟩
    rw [isoB_f wf hym dst] at z
    cases z
  refine bb_cons (ss_set 6 (ee_callp C3 hr (aa_cons (ee_name 0 rfl (aa_cons (ee_name 1 rfl (aa_nil ⟨g, h, rfl, wf, wfh, cn, ch, ng, nh, fun a1 k1 => ?_⟩)))))) scLh.nd)
  have hgl := dartsOf_eq wf
  have hhl := dartsOf_eq wfh
  rw [hys] at hgl
  have hhne : dartsOf h ≠ [] := fun z => hdh (by
    have := (dartsOf_perm wfh).symm
    rw [z] at this
    exact List.Perm.eq_nil this)
  rcases k1 with ⟨e1, _⟩ | ⟨d0, r, pre, e, post', e1, e2, hpre, ⟨l, il⟩, rfl⟩ | ⟨rows, rfl, ⟨d0, r, e1, e2, hrows⟩ | ⟨e1, _⟩⟩
  · rw [hgl] at e1
    cases e1
  · rw [hgl] at e1
    injection e1 with e1 _
    subst e1
    have hem : e ∈ darts h := (mem_dartsOf wfh).mp (by rw [e2]; simp)
    obtain ⟨rest, hms⟩ : ∃ rest, (srt (darts h)).filter (isoB g h y) = e :: rest := by
      rw [← hhl, e2, List.filter_append]
      have h1 : pre.filter (isoB g h y) = [] := List.filter_eq_nil_iff.mpr fun x hx => by
        obtain ⟨u, v, dst⟩ := hpre x hx
        rw [isoB_f wf hym dst]
        decide
      rw [h1, List.filter_cons, isoB_t ⟨l, il⟩, if_pos rfl]
      exact ⟨_, rfl⟩
    rw [hms]
    obtain ⟨q1, q2, q3, q4⟩ := iso_shown dy (wfh.dart e hem)
    refine bb_cons (ss_if (tt_cmp (cc_neD (α := List Dart) hu (by decide) (ee_name 5 rfl (ee_lstd (aa_nil ⟨[], rfl, by simp, e :: rest, [], .inl rfl, .inl rfl, true, rfl, fun _ => ?_, (fun z => nomatch z)⟩))))))
    refine bb_cons (ss_if (tt_cmp (cc_neD (α := Str) hu (by decide) (ee_repr hgd bt.repr (aa_cons (ee_name 6 rfl (aa_nil ⟨[.str "isomorphic", tD y, tD e], rfl, q1, q2, ?_, q4, ?_⟩)))))))
    · have : (PyData.tuple [.str "isomorphic", tD y, tD e]).depth ≤ 10 := q3
      show (A.deeper (envOfC "_law_large_holds" (defScope (tp 73)) s.heap.objs.size f0 cdv)).units + ((PyData.tuple [.str "isomorphic", tD y, tD e]).depth + 1) < cLine
      omega
    refine ee_repr hgd bt.repr (aa_cons (ee_tupd (aa_cons (ee_str (aa_cons (ee_name 4 rfl (aa_cons (ee_ixl (ee_name 5 rfl (ee_int ⟨_, 0, dat (tD e), .ds ((e :: rest).map Datum.toD), rfl, atI_zero rfl, aa_nil ⟨[.str "isomorphic", tD y, tD e], rfl, by simp, aa_nil ⟨[.str "isomorphic", tD y, tD e], rfl, q1, q2, ?_, q4, ?_⟩⟩⟩))))))))))
    · have : (PyData.tuple [.str "isomorphic", tD y, tD e]).depth ≤ 10 := q3
      show (A.deeper (envOfC "_law_large_holds" (defScope (tp 73)) s.heap.objs.size f0 cdv)).units + ((PyData.tuple [.str "isomorphic", tD y, tD e]).depth + 1) < cLine
      omega
    refine ⟨(PyData.tuple [.str "isomorphic", tD y, tD e]).shown, (PyData.tuple [.str "isomorphic", tD y, tD e]).shown, .inl rfl, .inl rfl, false, by rw [decide_eq_true rfl]; rfl, (fun z => nomatch z), fun _ => bb_nil ?_⟩
    obtain ⟨f, i, hf, _⟩ := il
    refine bb_cons (ss_asg [7, 8] (ee_callp C4 hr (aa_cons (ee_name 0 rfl (aa_cons (ee_name 4 rfl (aa_cons (ee_name 1 rfl (aa_cons (ee_ixl (ee_name 5 rfl (ee_int ⟨_, 0, dat (tD e), .ds ((e :: rest).map Datum.toD), rfl, atI_zero rfl, aa_nil ⟨g, h, y, e, rfl, wf, wfh, cn, ch, hym, hem, fun l2 il2 => ?_, fun u v _ _ _ _ dst => (dst.no wf hym i hf).elim⟩⟩))))))))))))
    obtain ⟨f2, i2, hf2, rfl⟩ := il2
    have pl := prs_len g f2
    refine gg_tupd (ds := [.str "match", tD (prs g f2)]) rfl (ggs_cons (gg_name 7 scLh.nd (ggs_cons (gg_name 8 scLh.nd (ggs_nil ?_)))))
    refine bb_cons (ss_if (tt_w (wt_or (tt_cmp (cc_neD (α := Str) hu (by decide) (ee_name 7 rfl (ee_str ⟨"match", "match", .inl rfl, .inl rfl, _, rfl, fun z => absurd z (by decide +kernel), fun _ => ?_⟩)))))))
    refine wt_or1 (tt_not (tt_val (ee_callp C5 hr (aa_cons (ee_name 0 rfl (aa_cons (ee_name 1 rfl (aa_cons (ee_name 8 rfl (aa_nil ⟨g, h, f2, rfl, wf, wfh, i2, true, rfl, (fun z => nomatch z), fun _ => bb_nil ?_⟩))))))))))
    refine bb_cons (ss_if (tt_w (wt_or (tt_cmp (cc_neD (α := List (Dart × Dart)) hu (by decide) (ee_name 8 rfl (ee_sortL (Datum.toD : Dart × Dart → PyData) hu bt.sorted (aa_cons (ee_name 8 rfl (aa_nil ⟨_, prs g f2, rfl, .ds ((prs g f2).map Datum.toD), srt_pair (by decide) (by omega), prs g f2, srt (prs g f2), .inl rfl, .inl rfl, false, ?_, (fun z => nomatch z), fun _ => ?_⟩))))))))))
    · have : srt (prs g f2) = prs g f2 := srt_srt _
      rw [this, decide_eq_true rfl]
      rfl
    refine wt_or1 (tt_cmp (cc_neD (α := Int) hu (by decide) (ee_len bt.len (aa_cons (ee_name 8 rfl (aa_nil ⟨_, _, rfl, .ls (.ds ((prs g f2).map Datum.toD)), ee_lent bt.len (aa_cons (ee_name 2 rfl (aa_nil ⟨_, _, rfl, .fix _, _, _, .inl rfl, .inl rfl, false, ?_, (fun z => nomatch z), fun _ => bb_nil ?_⟩)))⟩))))))
    · have h1 : ((((prs g f2).map (Datum.toD : Dart × Dart → PyData)).map dat).length : Int) = ((kvP dk pD (nexts g)).length : Int) := by
        rw [List.length_map, List.length_map, kv_len, pl, ← nexts_fst, List.length_map]
      rw [h1, decide_eq_true rfl]
      rfl
    exact bb_cons (ss_ret (ee_callp C6 hr (aa_cons (ee_name 0 rfl (aa_cons (ee_name 1 rfl (aa_cons (ee_name 8 rfl (aa_nil ⟨g, h, f2, rfl, wf, wfh, cn, ch, hd, i2, hp⟩)))))))))
  · rw [hgl] at e1
    injection e1 with e1 _
    subst e1
    have hms : (srt (darts h)).filter (isoB g h y) = [] := List.filter_eq_nil_iff.mpr fun x hx => by
      rw [← hhl, ← e2] at hx
      obtain ⟨q, hq, eq⟩ := List.mem_map.mp hx
      have := (hrows q hq).2.2.2.2
      rw [eq] at this
      rw [isoB_f wf hym this]
      decide
    rw [hms]
    have hrl : rows.length ≤ 240 := by
      have h1 := congrArg List.length e2
      rw [List.length_map, (dartsOf_perm wfh).length_eq] at h1
      omega
    have rmem : ∀ r ∈ rows, r.1 ∈ darts h := fun r hr => (mem_dartsOf wfh).mp (by rw [← e2]; exact List.mem_map.mpr ⟨r, hr, rfl⟩)
    refine bb_cons (ss_if (tt_cmp (cc_neD (α := List Dart) hu (by decide) (ee_name 5 rfl (ee_lstd (aa_nil ⟨[], rfl, by simp, [], [], .inl rfl, .inl rfl, false, rfl, (fun z => nomatch z), fun _ => bb_nil ?_⟩))))))
    refine bb_cons (ss_if (tt_w (wt_or (tt_cmp (cc_neD (α := Str) hu (by decide) (ee_ixt (ee_name 6 rfl (ee_int ⟨_, 0, dat (.str "different"), .ds [.str "different", .list (rows.map rowD)], rfl, rfl, ee_str ⟨"different", "different", .inl rfl, .inl rfl, _, rfl, fun z => absurd z (by decide +kernel), fun _ => ?_⟩⟩))))))))
    refine wt_or1 (tt_cmp (cc_neD (α := List Dart) hu (by decide) (ee_mapD nmLh (defScope (tp 73)) [("_law_row", 12)] rows (fun r => dat (rowD r)) (fun r => tD r.1) rfl scLh.nd (by decide +kernel) (ii_lstd (ee_ixt (ee_name 6 rfl (ee_int ⟨_, 1, dat (.list (rows.map rowD)), .ds [.str "different", .list (rows.map rowD)], rfl, rfl, rows.map rowD, rfl, (dats_map _ _).symm, by omega, fun L r acc hr s H C cl fp => ?_, ?_⟩)))))))
    · exact gg_name 12 scLh.nd ⟨rfl, fun s H C cl fp => ee_ixt (ee_name 12 rfl (ee_int ⟨_, 0, dat (tD r.1), .ds [tD r.1, .str r.2.1, .str r.2.2], rfl, rfl, rfl, rfl⟩))⟩
    refine ee_sortT (Datum.toD : Dart → PyData) dk (fun _ => rfl) rfl hu bt.sorted (aa_cons (ee_name 3 rfl (aa_nil ⟨_, _, darts h, rfl, .fix _, keys_nx h, srt_pair (by decide) (by omega), rows.map Prod.fst, srt (darts h), .inl ?_, .inl rfl, false, ?_, (fun z => nomatch z), fun _ => bb_nil ?_⟩)))
    · show dat (.list (rows.map fun r => tD r.1)) = dat (.list ((rows.map Prod.fst).map Datum.toD))
      rw [List.map_map]
      rfl
    · have e3 : rows.map Prod.fst = srt (darts h) := e2.trans hhl
      rw [e3, decide_eq_true rfl]
      rfl
    refine bb_cons (ss_for [9, 10, 11] rfl .never (ii_lstd (ee_ixt (ee_name 6 rfl (ee_int ⟨_, 1, dat (.list (rows.map rowD)), .ds [.str "different", .list (rows.map rowD)], rfl, rfl, rows.map rowD, rfl, fun j is M => (∃ x9 x10 x11, is = [some (dat (tD g)), some (dat (tD h)), some (nxP g), some (nxP h), some (dat (tD y)), some (dat (.list [])), some (dat (dDif rows)), none, none, x9, x10, x11, none]) ∧ M = [], ⟨⟨none, none, none, rfl⟩, rfl⟩, ?_, ?_⟩)))))
    · rintro j p is M hget ⟨⟨x9, x10, x11, rfl⟩, rfl⟩
      rw [List.getElem?_map, List.getElem?_map] at hget
      obtain ⟨dd, hdd, rfl⟩ := Option.map_eq_some_iff.mp hget
      obtain ⟨r, hr', rfl⟩ := Option.map_eq_some_iff.mp hdd
      have hrm := List.mem_of_getElem? hr'
      obtain ⟨r1, r2, r3, r4, r5⟩ := hrows r hrm
      refine gg_tupd (ds := [tD r.1, .str r.2.1, .str r.2.2]) rfl (ggs_cons (gg_name 9 scLh.nd (ggs_cons (gg_name 10 scLh.nd (ggs_cons (gg_name 11 scLh.nd (ggs_nil ?_)))))))
      refine bb_cons (ss_if (tt_w (wt_or (tt_cmp (cc_gt (ee_len bt.len (aa_cons (ee_name 10 rfl (aa_nil ⟨_, r.2.1.length, rfl, .str r.2.1 (by omega), _, rfl, ee_int ⟨300, rfl, false, ?_, (fun z => nomatch z), fun _ => ?_⟩⟩)))))))))
      · rw [decide_eq_false (by omega)]
      refine wt_or1 (tt_cmp (cc_gt (ee_len bt.len (aa_cons (ee_name 11 rfl (aa_nil ⟨_, r.2.2.length, rfl, .str r.2.2 (by omega), _, rfl, ee_int ⟨300, rfl, false, ?_, (fun z => nomatch z), fun _ => bb_nil ?_⟩⟩))))))
      · rw [decide_eq_false (by omega)]
      refine bb_cons (ss_if (tt_cmp (cc_eqD (α := Bool) hu (by decide) (ee_callp C7 hr (aa_cons (ee_name 2 rfl (aa_cons (ee_name 4 rfl (aa_cons (ee_name 10 rfl (aa_cons (ee_name 11 rfl (aa_nil ⟨g, y, r.2.1, r.2.2, rfl, wf, hym, ?_⟩)))))))))))))
      refine ee_callp C7 hr (aa_cons (ee_name 3 rfl (aa_cons (ee_name 9 rfl (aa_cons (ee_name 10 rfl (aa_cons (ee_name 11 rfl (aa_nil ⟨h, r.1, r.2.1, r.2.2, rfl, wfh, rmem r hrm, _, _, .inl rfl, .inl rfl, false, ?_, (fun z => nomatch z), fun _ => bb_nil (bb_nil ⟨⟨_, _, _, rfl⟩, rfl⟩)⟩)))))))))
      have r6 : ¬ decide (run g y r.2.1.cps.toList = run g y r.2.2.cps.toList) = decide (run h r.1 r.2.1.cps.toList = run h r.1 r.2.2.cps.toList) := r5
      rw [decide_eq_false r6]
    · rintro is M ⟨⟨x9, x10, x11, rfl⟩, rfl⟩
      have hrne : rows ≠ [] := fun z => hhne (by rw [← e2, z]; rfl)
      obtain ⟨pre, r, hpx⟩ : ∃ pre x, rows = pre ++ [x] := ⟨rows.dropLast, rows.getLast hrne, (List.dropLast_concat_getLast hrne).symm⟩
      have hrm : r ∈ rows := by rw [hpx]; simp
      obtain ⟨r1, r2, r3, r4, r5⟩ := hrows r hrm
      have hat : atI ((rows.map rowD).map dat) (-1) = some (dat (rowD r)) := by
        rw [hpx, List.map_append, List.map_append]
        exact atI_last _ _
      refine bb_cons (ss_asg [9, 10, 11] (ee_ixl (ee_ixt (ee_name 6 rfl (ee_int ⟨_, 1, dat (.list (rows.map rowD)), .ds [.str "different", .list (rows.map rowD)], rfl, rfl, ee_neg (i := 0) (ee_int ⟨1, rfl, _, _, _, .ds (rows.map rowD), rfl, hat, gg_tupd (ds := [tD r.1, .str r.2.1, .str r.2.2]) rfl (ggs_cons (gg_name 9 scLh.nd (ggs_cons (gg_name 10 scLh.nd (ggs_cons (gg_name 11 scLh.nd (ggs_nil ?_)))))))⟩)⟩)))))
      refine bb_cons (ss_ret (ee_cmp (cc_isB (ee_callp C8 hr (aa_cons (ee_name 0 rfl (aa_cons (ee_name 4 rfl (aa_cons (ee_name 1 rfl (aa_cons (ee_name 9 rfl (aa_cons (ee_tupd (aa_cons (ee_str (aa_cons (ee_name 10 rfl (aa_cons (ee_name 11 rfl (aa_nil ⟨[.str "differ", .str r.2.1, .str r.2.2], rfl, by simp, aa_nil ⟨g, h, y, r.1, r.2.1, r.2.2, rfl, wf, wfh, cn, ch, hym, rmem r hrm, r1, r2, r3, r4, r5, ee_bl ⟨true, true, rfl, rfl, hp⟩⟩⟩)))))))))))))))))))))
  · rw [hgl] at e1
    cases e1
end
end Q9
namespace Q9
open PySem L2 PyProof.Rows
open PySem.W (Datum DatumOrd minOf)
theorem ren_wf {g : Gr} (wf : WF g) {vl el : List (Str × Str)} (rv : RenOk vl (g.map (·.1))) (re : RenOk el (edgesRaw g)) : WF (renG g vl el) := by
  have cp := cp_map (fun d => ((nw el d.1, d.2) : Dart)) (nw vl) g
  refine cp.wf wf (fun v hv => rv.isn _ (List.mem_map.mpr ⟨v, hv, rfl⟩)) (fun u hu v hv e => ?_) (fun x hx y hy e => ?_) (fun x hx => ⟨re.isn _ (dart_edge wf hx), (wf.dart x hx).2⟩) fun x hx => rfl
  · exact inj_of_nodup rv.nd _ (List.mem_map.mpr ⟨u, hu, rfl⟩) _ (List.mem_map.mpr ⟨v, hv, rfl⟩) e
  · have e1 := inj_of_nodup re.nd _ (dart_edge wf hx) _ (dart_edge wf hy) (congrArg Prod.fst e)
    have e2 : ((nw el x.1, x.2) : Dart).2 = ((nw el y.1, y.2) : Dart).2 := congrArg Prod.snd e
    exact Prod.ext e1 e2
abbrev x0 : Dart := ("x", 0)
abbrev x1 : Dart := ("x", 1)
abbrev y0 : Dart := ("y", 0)
abbrev y1 : Dart := ("y", 1)
def dg : Gr := [("a", [x0, y0]), ("b", [x1, y1])]
def dgo : Gr := normT (flipG dg "y")
theorem dg_darts : darts dg = [x0, y0, x1, y1] := rfl
theorem dg_edges : edgesRaw dg = (["x", "y"] : List Str) := by decide +kernel
theorem dg_wf : WF dg := by
  have hd : ∀ d ∈ darts dg, d = x0 ∨ d = y0 ∨ d = x1 ∨ d = y1 := fun d hd => by
    rw [dg_darts] at hd
    simpa using hd
  have nx : isNameB "x" = true := by decide +kernel
  have ny : isNameB "y" = true := by decide +kernel
  refine ⟨by decide +kernel, by decide +kernel, by decide +kernel, fun d h => ?_, fun d h => ?_, by decide +kernel, by decide +kernel⟩
  · rcases hd d h with rfl | rfl | rfl | rfl
    · exact ⟨nx, .inl rfl⟩
    · exact ⟨ny, .inl rfl⟩
    · exact ⟨nx, .inr rfl⟩
    · exact ⟨ny, .inr rfl⟩
  · rw [dg_darts]
    rcases hd d h with rfl | rfl | rfl | rfl
    · show x1 ∈ _
      simp
    · show y1 ∈ _
      simp
    · show x0 ∈ _
      simp
    · show y0 ∈ _
      simp
theorem vo_x0 : vo dg x0 = "a" := vo_row dg_wf (v := ("a", [x0, y0])) (by simp [dg]) (by simp)
theorem vo_y0 : vo dg y0 = "a" := vo_row dg_wf (v := ("a", [x0, y0])) (by simp [dg]) (by simp)
theorem vo_x1 : vo dg x1 = "b" := vo_row dg_wf (v := ("b", [x1, y1])) (by simp [dg]) (by simp)
theorem vo_y1 : vo dg y1 = "b" := vo_row dg_wf (v := ("b", [x1, y1])) (by simp [dg]) (by simp)
theorem x0_mem : x0 ∈ darts dg := by rw [dg_darts]; simp
theorem x1_mem : x1 ∈ darts dg := by rw [dg_darts]; simp
theorem y0_mem : y0 ∈ darts dg := by rw [dg_darts]; simp
theorem y1_mem : y1 ∈ darts dg := by rw [dg_darts]; simp
theorem dg_conn : Conn dg := by
  rintro S ⟨v, hv, hs⟩ hc
  have ab : S "a" → S "b" := fun z => by
    have := hc x0 x0_mem (by rw [vo_x0]; exact z)
    rwa [show opp x0 = x1 from rfl, vo_x1] at this
  have ba : S "b" → S "a" := fun z => by
    have := hc x1 x1_mem (by rw [vo_x1]; exact z)
    rwa [show opp x1 = x0 from rfl, vo_x0] at this
  have e : dg.map (·.1) = (["a", "b"] : List Str) := rfl
  rw [e] at hv ⊢
  intro u hu
  have hv' : v = "a" ∨ v = "b" := by simpa using hv
  have hu' : u = "a" ∨ u = "b" := by simpa using hu
  rcases hv' with rfl | rfl <;> rcases hu' with rfl | rfl
  · exact hs
  · exact ab hs
  · exact ba hs
  · exact hs
theorem dgo_wf : WF dgo := norm_wf (flip_wf dg_wf "y")
theorem dgo_mp : Mp dg dgo (flipD "y") id := (((cp_flip dg "y").mp dg_wf (flip_wf dg_wf "y")).comp (norm_mp (flip_wf dg_wf "y"))).cong dg_wf (fun _ _ => rfl) fun _ _ => rfl
theorem dgo_iso : IsIso dg dgo (flipD "y") := dgo_mp.iso dgo_wf fun x _ => flipD_opp "y" x
theorem dgo_conn : Conn dgo := dgo_mp.conn dg_wf (fun x _ => flipD_opp "y" x) dg_conn
theorem dgo_ne : dgo ≠ [] := fun e => by
  have := dgo_mp.nm.length_eq
  rw [e] at this
  cases this
theorem fl_x0 : flipD "y" x0 = x0 := by decide +kernel
theorem fl_y1 : flipD "y" y1 = y0 := by decide +kernel
theorem dg_sorted : dartsOf dg = [x0, x1, y0, y1] := by
  have e : srt (edgesRaw dg) = (["x", "y"] : List Str) := by
    rw [dg_edges]
    refine srt_id ?_
    rw [List.pairwise_cons]
    refine ⟨fun z hz => ?_, List.pairwise_singleton _ _⟩
    rw [List.mem_singleton.mp hz]
    decide +kernel
  unfold dartsOf
  rw [e]
  rfl
theorem dgo_sorted : dartsOf dgo = [x0, x1, y0, y1] := by
  rw [dartsOf_eq dgo_wf, ← dg_sorted, dartsOf_eq dg_wf]
  refine srt_eq (dgo_mp.ds.trans ?_)
  rw [List.perm_ext_iff_of_nodup (nodup_on dg_wf.nd dgo_iso.inj) dg_wf.nd]
  have e : (darts dg).map (flipD "y") = [x0, y1, x1, y0] := by decide +kernel
  rw [e, dg_darts]
  intro d
  constructor
  · intro h
    have h : d = x0 ∨ d = y1 ∨ d = x1 ∨ d = y0 := by simpa using h
    rcases h with rfl | rfl | rfl | rfl <;> simp
  · intro h
    have h : d = x0 ∨ d = y0 ∨ d = x1 ∨ d = y1 := by simpa using h
    rcases h with rfl | rfl | rfl | rfl <;> simp
theorem dg_answer {a : PyData} (k : FiAns dg dgo a) : a = dIso (tD x0) (tD x0) := by
  have no : ∀ u v, Dst dg dgo x0 x0 u v → False := fun u v d => d.no dg_wf x0_mem dgo_iso fl_x0
  rcases k with ⟨e1, _⟩ | ⟨d0, r, pre, e, post', e1, e2, hpre, _, rfl⟩ | ⟨rows, rfl, ⟨d0, r, e1, e2, hrows⟩ | ⟨e1, _⟩⟩
  · rw [dg_sorted] at e1; cases e1
  · rw [dg_sorted] at e1
    injection e1 with e1 _
    subst e1
    rw [dgo_sorted] at e2
    cases pre with
    | nil =>
      injection e2 with e2 _
      rw [← e2]
    | cons p pre =>
      injection e2 with e2 _
      obtain ⟨u, v, d⟩ := hpre p List.mem_cons_self
      rw [← e2] at d
      exact (no u v d).elim
  · rw [dg_sorted] at e1
    injection e1 with e1 _
    subst e1
    rw [dgo_sorted] at e2
    have : x0 ∈ rows.map (·.1) := by rw [e2]; exact List.mem_cons_self
    obtain ⟨q, hq, eq⟩ := List.mem_map.mp this
    have h5 := (hrows q hq).2.2.2.2
    rw [eq] at h5
    exact (no _ _ h5).elim
  · rw [dg_sorted] at e1; cases e1
abbrev va : List (Str × Str) := [("a", "a"), ("b", "b")]
abbrev vb : List (Str × Str) := [("a", "b"), ("b", "a")]
abbrev ea : List (Str × Str) := [("x", "x"), ("y", "y")]
abbrev eb : List (Str × Str) := [("x", "y"), ("y", "x")]
theorem dg_ren {vl el : List (Str × Str)} (hv : vl = va ∨ vl = vb) (he : el = ea ∨ el = eb) : RenOk vl (dg.map (·.1)) ∧ RenOk el (edgesRaw dg) ∧ normT (renG dg vl el) ≠ dgo := by
  have rv : RenOk vl (dg.map (·.1)) := by
    rcases hv with rfl | rfl <;> exact ⟨rfl, by decide +kernel, by decide +kernel, by decide +kernel⟩
  have re : RenOk el (edgesRaw dg) := by
    rw [dg_edges]
    rcases he with rfl | rfl <;> exact ⟨rfl, by decide +kernel, by decide +kernel, by decide +kernel⟩
  refine ⟨rv, re, fun e => ?_⟩
  have wr := ren_wf dg_wf rv re
  have m := (((cp_map (fun d => ((nw el d.1, d.2) : Dart)) (nw vl) dg).mp dg_wf wr).comp (norm_mp wr))
  have h1 := m.vo x0 x0_mem
  have h2 := m.vo y0 y0_mem
  rw [vo_x0] at h1
  rw [vo_y0] at h2
  have h3 := h1.trans h2.symm
  have h4 : vo dgo (nw el "x", 0) = vo dgo (nw el "y", 0) := by rw [← e]; exact h3
  have k1 : vo dgo x0 = "a" := by
    have := dgo_mp.vo x0 x0_mem
    rw [fl_x0, vo_x0] at this
    exact this
  have k2 : vo dgo y0 = "b" := by
    have := dgo_mp.vo y1 y1_mem
    rw [fl_y1, vo_y1] at this
    exact this
  have ne : ("a" : Str) ≠ "b" := by decide +kernel
  rcases he with rfl | rfl
  · have a1 : nw ea "x" = "x" := by decide +kernel
    have a2 : nw ea "y" = "y" := by decide +kernel
    rw [a1, a2, k1, k2] at h4
    exact ne h4
  · have a1 : nw eb "x" = "y" := by decide +kernel
    have a2 : nw eb "y" = "x" := by decide +kernel
    rw [a1, a2, k1, k2] at h4
    exact ne h4.symm
end Q9
namespace Q9
open PySem L2 PyProof.Rows
open PySem.W (Datum DatumOrd minOf)
/-- an expression that is data -/
structure DE (X : Cx) (B : Bs) (e : Expr) (d : PyData) : Prop where
  run : ∀ (is : Is) (M : MS) (Post : Pr → MS → Prop), Post (dat d) M → EE X B e is M Post
structure DA (X : Cx) (B : Bs) (es : List Expr) (ds : List PyData) : Prop where
  run : ∀ (is : Is) (M : MS) (Post : List Pr → MS → Prop), Post (ds.map dat) M → AA X B es is M Post
section
variable {X : Cx} {B : Bs} {e : Expr} {es : List Expr} {d : PyData} {ds : List PyData} {pos : Pos} {j : Nat}
theorem da_nil : DA X B [] [] := ⟨fun is M Post h => aa_nil h⟩
theorem da_cons (h : DE X B e d) (t : DA X B es ds) (hs : starEach (e :: es) X.env = (false, eval e X.env) :: starEach es X.env := by rfl) : DA X B (e :: es) (d :: ds) := ⟨fun is M Post q => aa_cons (h.run is M _ (t.run is M _ q)) hs⟩
theorem de_str {x : Str} : DE X B (.Constant (.str x) j pos) (.str x) := ⟨fun is M Post h => ee_str h⟩
theorem de_int {i : Int} : DE X B (.Constant (.int i) j pos) (.int i) := ⟨fun is M Post h => ee_int h⟩
theorem de_tup (t : DA X B es ds) (hl : ds.length ≤ 1000 := by decide) : DE X B (.Tuple es j pos) (.tuple ds) := ⟨fun is M Post h => ee_tupd (t.run is M _ ⟨ds, rfl, hl, h⟩)⟩
theorem de_lst (t : DA X B es ds) (hl : ds.length ≤ 1000 := by decide) : DE X B (.List es pos) (.list ds) := ⟨fun is M Post h => ee_lstd (t.run is M _ ⟨ds, rfl, hl, h⟩)⟩
end
/-- an expression that is known -/
structure DP (X : Cx) (B : Bs) (e : Expr) (p : Pr) : Prop where
  run : ∀ (is : Is) (M : MS) (Post : Pr → MS → Prop), Post p M → EE X B e is M Post
theorem dp_two {X : Cx} {B : Bs} {x1 y1 x2 y2 : Str} {j1 j2 j3 j4 : Nat} {p1 p2 p3 p4 pos : Pos} (hd : x1 ≠ x2) : DP X B (.Dict [some (.Constant (.str x1) j1 p1), some (.Constant (.str x2) j2 p2)] [.Constant (.str y1) j3 p3, .Constant (.str y2) j4 p4] pos) (dkP (kvP sk pS [(x1, y1), (x2, y2)])) :=
  ⟨fun is M Post h => ee_frz (ee_disp2 hd fun r => ⟨r, M.length, rfl, .inr (.inl ⟨_, get_last _ _, by rw [er_last]; exact h⟩)⟩)⟩
theorem dp_lst2 {X : Cx} {B : Bs} {a b : Expr} {p q : Pr} {pos : Pos} (ha : DP X B a p) (hb : DP X B b q) (hs : starEach [a, b] X.env = (false, eval a X.env) :: starEach [b] X.env := by rfl) (hs2 : starEach [b] X.env = (false, eval b X.env) :: starEach [] X.env := by rfl) : DP X B (.List [a, b] pos) (lstP [p, q]) :=
  ⟨fun is M Post h => ee_lst (aa_cons (ha.run is M _ (aa_cons (hb.run is M _ (aa_nil ⟨by simp, h⟩)) hs2)) hs)⟩
/-- the renamings as they are written -/
def dgF : Expr := match (defBody (tp 74)).drop 4 with
  | (.For _ e _ _ _) :: _ => e
  | _ => .Constant .none 0 ⟨0, 0, 0, 0⟩
def dgG : Expr := match (defBody (tp 74)).drop 4 with
  | (.For _ _ ((.For _ e _ _ _) :: _) _ _) :: _ => e
  | _ => .Constant .none 0 ⟨0, 0, 0, 0⟩
/-- the digon as it is written -/
def dgE : Expr := match defBody (tp 74) with
  | (.Assign _ e _) :: _ => e
  | _ => .Constant .none 0 ⟨0, 0, 0, 0⟩
theorem dg_td : dat (.list [.tuple [.str "a", .list [tD x0, tD y0]], .tuple [.str "b", .list [tD x1, tD y1]]]) = dat (tD dg) := rfl
section
variable {P : Program} {w : World} {K : PySem.W.Frag} {mg : Str → Option Value} {base : Heap} {k : Nat} {C : Addr}
theorem scDg : FnScope ["_law_graph", "_law_other", "_law_answer", "_law_vertices", "_law_edges_here"] [] (defScope (tp 74)) := ⟨rfl, rfl, rfl, by decide +kernel, rfl, by decide +kernel, by decide +kernel⟩
def spDg : List Pr → (Pr → Prop) → Prop := fun ps post => ps = [] ∧ post (dat (.bool true))
theorem cal_dg (bt : Bt mg) (t : Top K mg "_law_digon_holds" (tp 74) []) (C1 : Cal P w K mg base k "flip_edge" ["graph", "edge"] (pur spFe)) (C2 : Cal P w K mg base k "find_isomorphism" ["graph", "other"] (pur spFi)) (C3 : Cal P w K mg base k "rename" ["graph", "vertices", "edges"] (pur spRn)) :
    CalG P w K mg base (k + 1) "_law_digon_holds" [] (pur spDg) := by
  refine calG_pur t scDg (fun prs' post ⟨e, _⟩ => by rw [e]; rfl) fun f0 cdv A outer s H E B hS hgd hr prs' post ⟨e, hp⟩ => ?_
  subst e
  have hu := hr.units
  have hun := hr.un
  have dd : DE (cxOf CX0 P w K mg base ["_law_graph", "_law_other", "_law_answer", "_law_vertices", "_law_edges_here"] "_law_digon_holds" (defScope (tp 74)) f0 cdv A outer s H E).nox B dgE (.list [.tuple [.str "a", .list [tD x0, tD y0]], .tuple [.str "b", .list [tD x1, tD y1]]]) := de_lst (da_cons (de_tup (da_cons de_str (da_cons (de_lst (da_cons (de_tup (da_cons de_str (da_cons de_int da_nil))) (da_cons (de_tup (da_cons de_str (da_cons de_int da_nil))) da_nil))) da_nil))) (da_cons (de_tup (da_cons de_str (da_cons (de_lst (da_cons (de_tup (da_cons de_str (da_cons de_int da_nil))) (da_cons (de_tup (da_cons de_str (da_cons de_int da_nil))) da_nil))) da_nil))) da_nil))
  obtain ⟨p1, p2, hb⟩ : ∃ p1 p2, defBody (tp 74) = .Assign [.Name "_law_graph" p1] dgE p2 :: (defBody (tp 74)).drop 1 := ⟨_, _, rfl⟩
  rw [hb]
  have hsw : swapsWith dgE (some (.Name "_law_graph" p1)) p2.line (cxOf CX0 P w K mg base ["_law_graph", "_law_other", "_law_answer", "_law_vertices", "_law_edges_here"] "_law_digon_holds" (defScope (tp 74)) f0 cdv A outer s H E).nox.env = pure false := rfl
  clear hb
  generalize dgE = e0 at dd hsw
  refine bb_cons (ss_set 0 (dd.run _ _ _ ?_) scDg.nd rfl (.inl rfl) hsw)
  rw [dg_td]
  refine bb_cons (ss_set 1 (ee_callp C1 hr (aa_cons (ee_name 0 rfl (aa_cons (ee_str (aa_nil ⟨dg, "y", rfl, dg_wf, by rw [dg_edges]; simp, ?_⟩)))))) scDg.nd)
  refine bb_cons (ss_set 2 (ee_callp C2 hr (aa_cons (ee_name 0 rfl (aa_cons (ee_name 1 rfl (aa_nil ⟨dg, dgo, rfl, dg_wf, dgo_wf, dg_conn, dgo_conn, (fun z => by cases z), dgo_ne, fun a1 k1 => ?_⟩)))))) scDg.nd)
  have ea1 := dg_answer k1
  subst ea1
  obtain ⟨q1, q2, q3, q4⟩ := iso_shown (dg_wf.dart x0 x0_mem) (dg_wf.dart x0 x0_mem)
  have q3' : (PyData.tuple [.str "isomorphic", tD x0, tD x0]).depth ≤ 10 := q3
  have q5 : (A.deeper (envOfC "_law_digon_holds" (defScope (tp 74)) s.heap.objs.size f0 cdv)).units + ((PyData.tuple [.str "isomorphic", tD x0, tD x0]).depth + 1) < cLine := by omega
  refine bb_cons (ss_if (tt_cmp (cc_neD (α := Str) hu (by decide) (ee_repr hgd bt.repr (aa_cons (ee_name 2 rfl (aa_nil ⟨[.str "isomorphic", tD x0, tD x0], rfl, q1, q2, q5, q4, ?_⟩)))))))
  refine ee_repr hgd bt.repr (aa_cons ((de_tup (da_cons de_str (da_cons (de_tup (da_cons de_str (da_cons de_int da_nil))) (da_cons (de_tup (da_cons de_str (da_cons de_int da_nil))) da_nil)))).run _ _ _ (aa_nil ⟨[.str "isomorphic", tD x0, tD x0], rfl, q1, q2, q5, q4, ?_⟩)))
  refine ⟨(PyData.tuple [.str "isomorphic", tD x0, tD x0]).shown, (PyData.tuple [.str "isomorphic", tD x0, tD x0]).shown, .inl rfl, .inl rfl, false, by rw [decide_eq_true rfl]; rfl, (fun z => nomatch z), fun _ => bb_nil ?_⟩
  have nab : ("a" : Str) ≠ "b" := by decide +kernel
  have nxy : ("x" : Str) ≠ "y" := by decide +kernel
  let st : Option Pr → Option Pr → Is := fun x3 x4 => [some (dat (tD dg)), some (dat (tD dgo)), some (dat (dIso (tD x0) (tD x0))), x3, x4]
  have d1 : DP (cxOf CX0 P w K mg base ["_law_graph", "_law_other", "_law_answer", "_law_vertices", "_law_edges_here"] "_law_digon_holds" (defScope (tp 74)) f0 cdv A outer s H E).nox B dgF (lstP [dkP (kvP sk pS va), dkP (kvP sk pS vb)]) := dp_lst2 (dp_two nab) (dp_two nab)
  have d2 : DP (cxOf CX0 P w K mg base ["_law_graph", "_law_other", "_law_answer", "_law_vertices", "_law_edges_here"] "_law_digon_holds" (defScope (tp 74)) f0 cdv A outer s H E).nox B dgG (lstP [dkP (kvP sk pS ea), dkP (kvP sk pS eb)]) := dp_lst2 (dp_two nxy) (dp_two nxy)
  have f1 : ∀ x, foldedSetIterable dgF (cxOf CX0 P w K mg base ["_law_graph", "_law_other", "_law_answer", "_law_vertices", "_law_edges_here"] "_law_digon_holds" (defScope (tp 74)) f0 cdv A outer s H E).nox.env x = pure x := fun _ => rfl
  have f2 : ∀ x, foldedSetIterable dgG (cxOf CX0 P w K mg base ["_law_graph", "_law_other", "_law_answer", "_law_vertices", "_law_edges_here"] "_law_digon_holds" (defScope (tp 74)) f0 cdv A outer s H E).nox.env x = pure x := fun _ => rfl
  show BB _ _ (Stmt.For _ dgF [Stmt.For _ dgG _ [] _] [] _ :: _) _ _ _
  generalize dgF = e1 at d1 f1 ⊢
  generalize dgG = e2 at d2 f2 ⊢
  refine bb_cons (ss_for [3] rfl .never (ii_lst (d1.run _ _ _ ⟨[dkP (kvP sk pS va), dkP (kvP sk pS vb)], rfl, fun i is M => (∃ x3 x4, is = st x3 x4) ∧ M = [], ⟨⟨none, none, rfl⟩, rfl⟩, ?_, ?_⟩)) f1)
  · rintro i p is M hget ⟨⟨x3, x4, rfl⟩, rfl⟩
    obtain ⟨vl, hvl, rfl⟩ : ∃ vl, (vl = va ∨ vl = vb) ∧ p = dkP (kvP sk pS vl) := by
      match i, hget with
      | 0, h => exact ⟨va, .inl rfl, (Option.some.inj h).symm⟩
      | 1, h => exact ⟨vb, .inr rfl, (Option.some.inj h).symm⟩
      | i + 2, h => cases h
    refine gg_name 3 scDg.nd ?_
    refine bb_cons (ss_for [4] rfl .never (ii_lst (d2.run _ _ _ ⟨[dkP (kvP sk pS ea), dkP (kvP sk pS eb)], rfl, fun i is M => (∃ x4, is = st (some (dkP (kvP sk pS vl))) x4) ∧ M = [], ⟨⟨_, rfl⟩, rfl⟩, ?_, ?_⟩)) f2)
    · rintro j p is M hget2 ⟨⟨x4, rfl⟩, rfl⟩
      obtain ⟨el, hel, rfl⟩ : ∃ el, (el = ea ∨ el = eb) ∧ p = dkP (kvP sk pS el) := by
        match j, hget2 with
        | 0, h => exact ⟨ea, .inl rfl, (Option.some.inj h).symm⟩
        | 1, h => exact ⟨eb, .inr rfl, (Option.some.inj h).symm⟩
        | j + 2, h => cases h
      obtain ⟨r1, r2, r3⟩ := dg_ren hvl hel
      refine gg_name 4 scDg.nd ?_
      exact bb_cons (ss_if (tt_cmp (cc_eqD (α := Gr) hu (by decide) (ee_callp C3 hr (aa_cons (ee_name 0 rfl (aa_cons (ee_name 3 rfl (aa_cons (ee_name 4 rfl (aa_nil ⟨dg, vl, el, rfl, dg_wf, r1, r2, ren_wf dg_wf r1 r2, fun d hd => dart_edge dg_wf hd, ee_name 1 rfl ⟨normT (renG dg vl el), dgo, .inl rfl, .inl rfl, false, by rw [decide_eq_false r3], (fun z => nomatch z), fun _ => bb_nil (bb_nil ⟨⟨_, rfl⟩, rfl⟩)⟩⟩)))))))))))
    · rintro is M ⟨⟨x4, rfl⟩, rfl⟩
      exact bb_nil ⟨⟨_, _, rfl⟩, rfl⟩
  · rintro is M ⟨⟨x3, x4, rfl⟩, rfl⟩
    exact bb_cons (ss_ret (ee_bl hp))
end
end Q9
namespace Q9
open PySem L2 PyProof.Rows
open PySem.W (Datum DatumOrd minOf)
theorem bb_forget {X : Cx} {B : Bs} {st : List Stmt} {is : Is} {M M' : MS} {D : En} (hs : M'.Sublist M) (h : BB X B st is M' D) : BB X B st is M D := fun σ G H K DD R =>
  h σ G H ⟨K.kn, K.g0, K.h0, K.fr, K.loc, fun x hx => K.mok x (hs.mem hx), (hs.map _).nodup K.nd, K.bw⟩ DD R
/-- data by the slots' names -/
structure NE (X : Cx) (B : Bs) (is : Is) (e : Expr) (d : PyData) : Prop where
  run : ∀ (M : MS) (Post : Pr → MS → Prop), Post (dat d) M → EE X B e is M Post
structure NA (X : Cx) (B : Bs) (is : Is) (es : List Expr) (ds : List PyData) : Prop where
  run : ∀ (M : MS) (Post : List Pr → MS → Prop), Post (ds.map dat) M → AA X B es is M Post
section
variable {X : Cx} {B : Bs} {is : Is} {e : Expr} {es : List Expr} {d : PyData} {ds : List PyData} {pos : Pos} {j : Nat}
theorem na_nil : NA X B is [] [] := ⟨fun M Post h => aa_nil h⟩
theorem na_cons (h : NE X B is e d) (t : NA X B is es ds) (hs : starEach (e :: es) X.env = (false, eval e X.env) :: starEach es X.env := by rfl) : NA X B is (e :: es) (d :: ds) := ⟨fun M Post q => aa_cons (h.run M _ (t.run M _ q)) hs⟩
theorem ne_name (i : Nat) {x : Str} (hp : is[i]? = some (some (dat d))) (hN : X.N[i]? = some x := by rfl)
    (hv : Vis X.env.scope x := by first | exact Or.inl rfl | exact Or.inr (Or.inl rfl) | exact Or.inr (Or.inr rfl))
    (hd : (x == ("__debug__" : Str)) = false := by decide) (hcd : (x == ("__classdict__" : Str)) = false := by decide) : NE X B is (.Name x pos) d := ⟨fun M Post h => ee_name i hp h hN hv hd hcd⟩
theorem ne_tup (t : NA X B is es ds) (hl : ds.length ≤ 1000) : NE X B is (.Tuple es j pos) (.tuple ds) := ⟨fun M Post h => ee_tupd (t.run M _ ⟨ds, rfl, hl, h⟩)⟩
theorem ne_lst (t : NA X B is es ds) (hl : ds.length ≤ 1000) : NE X B is (.List es pos) (.list ds) := ⟨fun M Post h => ee_lstd (t.run M _ ⟨ds, rfl, hl, h⟩)⟩
end
structure Gd (g : Gr) : Prop where
  wf : WF g
  cn : Conn g
  ne : g ≠ []
def Ism (g h : Gr) : Prop := ∃ f, IsIso g h f
theorem Ism.symm {g h : Gr} (k : Gd g) (i : Ism g h) : Ism h g := by
  obtain ⟨f, i⟩ := i
  obtain ⟨f', j, _⟩ := i.symm k.wf
  exact ⟨f', j⟩
theorem Ism.trans {g h l : Gr} (k : Gd g) (i : Ism g h) (j : Ism h l) : Ism g l := by
  obtain ⟨f, i⟩ := i
  obtain ⟨f', j⟩ := j
  exact ⟨_, i.trans k.wf j⟩
section
variable {P : Program} {w : World} {K : PySem.W.Frag} {mg : Str → Option Value} {base : Heap} {k : Nat} {C : Addr}
theorem fnG_pur {x qual : Str} {st : Stmt} {f : Addr} {fd : FuncData} {N ps : List Str} {k : Nat} {T : List Pr → (Pr → Prop) → Prop} (F : Fun K x qual st f fd) (Sc : FnScope N ps (defScope st)) (len : ∀ prs post, T prs post → prs.length = ps.length)
    (body : ∀ (cdv : Value) (A : Around) (outer : List Env) (s : Shared) (H : Hp) (E : XK) (B : Bs), B.W = [] → A.guards = some [] → Room k (A.deeper (PyProof.Rows.envOfC qual (defScope st) s.heap.objs.size f cdv)) → ∀ (prs : List Pr) (post : Pr → Prop), T prs post →
      BB (cxOf CX0 P w K mg base N qual (defScope st) f cdv A outer s H E).nox B (defBody st) (startI N prs) [] (retP post)) : FnG P w K mg base (k + 1) f fd ps (fnSp (pur T)) := by
  refine fnG_mk F Sc (fun prs S post h => len prs _ h.2) fun cdv A outer s H E B hg hr prs post ⟨hS, hT⟩ => ?_
  have h := body cdv A outer s H E B hS hg hr prs _ hT
  rw [hS]
  exact h.imp (fun i m q => ret0 q (fun _ z => by cases z)) (fun p m q => ret0 q (fun _ z => by cases z)) (fun _ _ z => z) fun _ _ z => z
abbrev nmLw : List Str := ["_law_script", "_law_k", "_law_source_here", "_law_graph", "_law_first", "_law_second", "_law_another", "_law_one", "_law_two", "_law_vertices"]
theorem scLw : FnScope nmLw ["_law_script"] (defScope (tp 75)) := ⟨rfl, rfl, rfl, by decide +kernel, rfl, by decide +kernel, by decide +kernel⟩
def spLw (K : PySem.W.Frag) : List Pr → (Pr → Prop) → Prop := fun ps post => ∃ ns : List Int, ps = [scrP K ns] ∧ post (dat (.bool true))
theorem fn_law {f : Addr} {fd : FuncData} (F : Fun K "law" "law" (tp 75) f fd) (bt : Bt mg) (C1 : CalG P w K mg base k "_law_digon_holds" [] (pur spDg)) (C2 : Cal P w K mg base k "_law_source" ["_law_script", "_law_k"] (spSo K)) (C3 : Cal P w K mg base k "_law_draw" ["_law_source_here", "_law_count"] spDr)
    (C4 : Cal P w K mg base k "_law_connected" ["_law_source_here", "_law_vertices", "_law_more"] spCn) (C5 : Cal P w K mg base k "_law_renamed" ["_law_source_here", "_law_graph"] spRm) (C6 : Cal P w K mg base k "find_isomorphism" ["graph", "other"] (pur spFi))
    (C7 : Cal P w K mg base k "_law_holds" ["_law_source_here", "_law_graph", "_law_other"] spHo) (C8 : CalG P w K mg base k "_law_large_holds" ["_law_graph", "_law_other"] (pur spLh)) (C9 : Cal P w K mg base k "_law_far_changed" ["_law_graph"] (pur spFc)) :
    FnG P w K mg base (k + 1) f fd ["_law_script"] (fnSp (pur (spLw K))) := by
  refine fnG_pur F scLw (fun prs' post ⟨ns, e, _⟩ => by rw [e]; rfl) fun cdv A outer s H E B hS hgd hr prs' post ⟨ns, e, hp⟩ => ?_
  subst e
  have hu := hr.units
  have memS : ∀ {a : Addr}, ∀ b ∈ [a], (b, MO.src) ∈ ([(a, MO.src)] : MS) := fun {a} b hb => by rw [List.mem_singleton.mp hb]; exact List.mem_cons_self
  have mem1 : ∀ {a : Addr}, (a, MO.src) ∈ ([(a, MO.src)] : MS) := fun {a} => List.mem_cons_self
  refine bb_cons (ss_if (tt_not (tt_val (ee_callG0 C1 hgd hr ⟨[], (fun _ z => by cases z), List.nodup_nil, rfl, rfl, true, rfl, (fun z => nomatch z), fun _ => bb_nil ?_⟩))))
  obtain ⟨n, hn4, hn⟩ : ∃ n : Nat, n ≤ 4 ∧ (if (if (4 : Int) < (ns.length : Nat) then (4 : Int) else (ns.length : Nat)) > 1 then (if (4 : Int) < (ns.length : Nat) then (4 : Int) else (ns.length : Nat)) else 1) = (n : Int) := by
    by_cases h4 : (4 : Int) < (ns.length : Nat)
    · refine ⟨4, Nat.le_refl _, ?_⟩
      rw [if_pos h4]
      rfl
    · rw [if_neg h4]
      by_cases h1 : ((ns.length : Nat) : Int) > 1
      · exact ⟨ns.length, by omega, if_pos h1⟩
      · exact ⟨1, by omega, if_neg h1⟩
  let st : Option Pr → Option Pr → Option Pr → Option Pr → Option Pr → Option Pr → Option Pr → Option Pr → Option Pr → Is := fun x1 x2 x3 x4 x5 x6 x7 x8 x9 => [some (scrP K ns), x1, x2, x3, x4, x5, x6, x7, x8, x9]
  refine bb_cons (ss_for [1] rfl .never (ii_range bt.range (aa_cons (ee_max2 rfl bt.max (aa_cons (ee_int (aa_cons (ee_min2 rfl bt.min (aa_cons (ee_lenS bt.len (aa_cons (ee_name 0 rfl (aa_nil ⟨ns, rfl, aa_cons (ee_int (aa_nil ⟨_, 4, rfl, aa_nil ⟨1, _, rfl, aa_nil ⟨n, by rw [hn], by omega, fun j is M => ∃ x1 x2 x3 x4 x5 x6 x7 x8 x9, is = st x1 x2 x3 x4 x5 x6 x7 x8 x9, ⟨none, none, none, none, none, none, none, none, none, rfl⟩, ?_, ?_⟩⟩⟩))⟩)))))))))))))
  · rintro j p is M hget ⟨x1, x2, x3, x4, x5, x6, x7, x8, x9, rfl⟩
    rw [List.getElem?_map] at hget
    obtain ⟨j', hj', rfl⟩ := Option.map_eq_some_iff.mp hget
    have hj : j' < n := by
      have := List.mem_of_getElem? hj'
      exact List.mem_range.mp this
    refine gg_name 1 scLw.nd ?_
    refine bb_forget (M' := []) (List.nil_sublist _) ?_
    refine bb_cons (ss_set 2 (ee_call C2 hr (aa_cons (ee_name 0 rfl (aa_cons (ee_name 1 rfl (aa_nil ⟨[], (fun _ z => by cases z), List.nodup_nil, ns, j', rfl, rfl, by omega, fun a => ?_⟩)))))) scLw.nd)
    show BB _ B _ (st (some (dat (.int j'))) (some (raw (.ref a))) x3 x4 x5 x6 x7 x8 x9) [(a, MO.src)] _
    refine bb_cons (ss_set 3 (ee_call C4 hr (aa_cons (ee_name 2 rfl (aa_cons (ee_add (ee_int ⟨1, rfl, ee_draw C3 hr (aa_cons (ee_name 2 rfl (aa_cons (ee_int (aa_nil ⟨a, 4, rfl, mem1, by omega, by omega, fun r1 hr1 => ⟨r1, rfl, aa_cons (ee_draw C3 hr (aa_cons (ee_name 2 rfl (aa_cons (ee_int (aa_nil ⟨a, 3, rfl, mem1, by omega, by omega, fun r2 hr2 => aa_nil ⟨[a], memS, by simp, a, 1 + r1, r2, by rw [show ((1 : Int) + (r1 : Int)) = ((1 + r1 : Nat) : Int) by omega], rfl, by omega, by omega, by omega, fun g wf cn ng gl dl => ?_⟩⟩))))))⟩⟩)))))⟩)))))) scLw.nd)
    have gg : Gd g := ⟨wf, cn, ng⟩
    refine bb_cons (ss_par 4 5 rfl scLw.nd (by decide) (aa_cons (ee_call C5 hr (aa_cons (ee_name 2 rfl (aa_cons (ee_name 3 rfl (aa_nil ⟨[a], memS, by simp, a, g, rfl, rfl, wf, cn, ng, by omega, fun h1 f1 wf1 cn1 n1 i1 => aa_cons (ee_call C5 hr (aa_cons (ee_name 2 rfl (aa_cons (ee_name 3 rfl (aa_nil ⟨[a], memS, by simp, a, g, rfl, rfl, wf, cn, ng, by omega, fun h2 f2 wf2 cn2 n2 i2 => aa_nil ⟨_, _, rfl, ?_⟩⟩))))))⟩))))))))
    have g1 : Gd h1 := ⟨wf1, cn1, n1⟩
    have g2 : Gd h2 := ⟨wf2, cn2, n2⟩
    have s1 : Ism g h1 := ⟨f1, i1⟩
    have s2 : Ism g h2 := ⟨f2, i2⟩
    refine bb_cons (ss_set 6 (ee_call C4 hr (aa_cons (ee_name 2 rfl (aa_cons (ee_add (ee_int ⟨1, rfl, ee_draw C3 hr (aa_cons (ee_name 2 rfl (aa_cons (ee_int (aa_nil ⟨a, 4, rfl, mem1, by omega, by omega, fun r3 hr3 => ⟨r3, rfl, aa_cons (ee_draw C3 hr (aa_cons (ee_name 2 rfl (aa_cons (ee_int (aa_nil ⟨a, 3, rfl, mem1, by omega, by omega, fun r4 hr4 => aa_nil ⟨[a], memS, by simp, a, 1 + r3, r4, by rw [show ((1 : Int) + (r3 : Int)) = ((1 + r3 : Nat) : Int) by omega], rfl, by omega, by omega, by omega, fun u wfu cnu nu ul dul => ?_⟩⟩))))))⟩⟩)))))⟩)))))) scLw.nd)
    have gu : Gd u := ⟨wfu, cnu, nu⟩
    let s7 : Option Pr → Option Pr → Is := fun y7 y8 => st (some (dat (.int j'))) (some (raw (.ref a))) (some (dat (tD g))) (some (dat (tD h1))) (some (dat (tD h2))) (some (dat (tD u))) y7 y8 x9
    show BB _ B _ (s7 x7 x8) [(a, MO.src)] _
    -- the pairs that are isomorphic
    have hpairs : ∀ z ∈ ([(g, h1), (h1, h2), (h2, g), (g, g)] : List (Gr × Gr)), Gd z.1 ∧ Gd z.2 ∧ Ism z.1 z.2 := by
      intro z hz
      have hz : z = (g, h1) ∨ z = (h1, h2) ∨ z = (h2, g) ∨ z = (g, g) := by simpa using hz
      rcases hz with rfl | rfl | rfl | rfl
      · exact ⟨gg, g1, s1⟩
      · exact ⟨g1, g2, (s1.symm gg).trans g1 s2⟩
      · exact ⟨g2, gg, s2.symm gg⟩
      · exact ⟨gg, gg, _, IsIso.refl g⟩
    refine bb_cons (ss_for [7, 8] rfl .never (ii_lstd ((ne_lst (na_cons (ne_tup (na_cons (ne_name 3 rfl) (na_cons (ne_name 4 rfl) na_nil)) (by simp)) (na_cons (ne_tup (na_cons (ne_name 4 rfl) (na_cons (ne_name 5 rfl) na_nil)) (by simp)) (na_cons (ne_tup (na_cons (ne_name 5 rfl) (na_cons (ne_name 3 rfl) na_nil)) (by simp)) (na_cons (ne_tup (na_cons (ne_name 3 rfl) (na_cons (ne_name 3 rfl) na_nil)) (by simp)) na_nil)))) (by simp)).run _ _ ⟨([(g, h1), (h1, h2), (h2, g), (g, g)] : List (Gr × Gr)).map (fun z => PyData.tuple [tD z.1, tD z.2]), rfl, fun i is M => (∃ y7 y8, is = s7 y7 y8) ∧ M = [(a, MO.src)], ⟨⟨_, _, rfl⟩, rfl⟩, ?_, ?_⟩)))
    · rintro i p is M hget2 ⟨⟨y7, y8, rfl⟩, rfl⟩
      rw [List.getElem?_map, List.getElem?_map] at hget2
      obtain ⟨dd, hdd, rfl⟩ := Option.map_eq_some_iff.mp hget2
      obtain ⟨z, hz, rfl⟩ := Option.map_eq_some_iff.mp hdd
      obtain ⟨k1, k2, ki⟩ := hpairs z (List.mem_of_getElem? hz)
      refine gg_tupd (ds := [tD z.1, tD z.2]) rfl (ggs_cons (gg_name 7 scLw.nd (ggs_cons (gg_name 8 scLw.nd (ggs_nil ?_)))))
      refine bb_cons (ss_if (tt_w (wt_or (tt_cmp (cc_neD (α := Str) hu (by decide) (ee_ixt (ee_callp C6 hr (aa_cons (ee_name 7 rfl (aa_cons (ee_name 8 rfl (aa_nil ⟨z.1, z.2, rfl, k1.wf, k2.wf, k1.cn, k2.cn, k1.ne, k2.ne, fun a1 q1 => ?_⟩))))))))))))
      rcases fi_tag k1.wf k2.wf q1 with ⟨_, x, y, rfl, _⟩ | ⟨no, _⟩
      rotate_left
      · exact absurd ki no
      refine ee_int ⟨_, 0, dat (.str "isomorphic"), .ds [.str "isomorphic", x, y], rfl, rfl, ee_str ⟨"isomorphic", "isomorphic", .inl rfl, .inl rfl, _, rfl, fun z => absurd z (by decide +kernel), fun _ => ?_⟩⟩
      exact wt_or1 (tt_not (tt_val (ee_call C7 hr (aa_cons (ee_name 2 rfl (aa_cons (ee_name 7 rfl (aa_cons (ee_name 8 rfl (aa_nil ⟨[a], memS, by simp, a, z.1, z.2, rfl, rfl, k1.wf, k2.wf, k1.cn, k2.cn, k1.ne, k2.ne, true, rfl, (fun z => nomatch z), fun _ => bb_nil (bb_nil ⟨⟨_, _, rfl⟩, rfl⟩)⟩))))))))))
    rintro is M ⟨⟨y7, y8, rfl⟩, rfl⟩
    have hpair2 : ∀ z ∈ ([(g, u), (u, h1)] : List (Gr × Gr)), Gd z.1 ∧ Gd z.2 := by
      intro z hz
      have hz : z = (g, u) ∨ z = (u, h1) := by simpa using hz
      rcases hz with rfl | rfl
      · exact ⟨gg, gu⟩
      · exact ⟨gu, g1⟩
    refine bb_cons (ss_for [7, 8] rfl .never (ii_lstd ((ne_lst (na_cons (ne_tup (na_cons (ne_name 3 rfl) (na_cons (ne_name 6 rfl) na_nil)) (by simp)) (na_cons (ne_tup (na_cons (ne_name 6 rfl) (na_cons (ne_name 4 rfl) na_nil)) (by simp)) na_nil)) (by simp)).run _ _ ⟨([(g, u), (u, h1)] : List (Gr × Gr)).map (fun z => PyData.tuple [tD z.1, tD z.2]), rfl, fun i is M => (∃ y7 y8, is = s7 y7 y8) ∧ M = [(a, MO.src)], ⟨⟨_, _, rfl⟩, rfl⟩, ?_, ?_⟩)))
    · rintro i p is M hget2 ⟨⟨y7, y8, rfl⟩, rfl⟩
      rw [List.getElem?_map, List.getElem?_map] at hget2
      obtain ⟨dd, hdd, rfl⟩ := Option.map_eq_some_iff.mp hget2
      obtain ⟨z, hz, rfl⟩ := Option.map_eq_some_iff.mp hdd
      obtain ⟨k1, k2⟩ := hpair2 z (List.mem_of_getElem? hz)
      refine gg_tupd (ds := [tD z.1, tD z.2]) rfl (ggs_cons (gg_name 7 scLw.nd (ggs_cons (gg_name 8 scLw.nd (ggs_nil ?_)))))
      exact bb_cons (ss_if (tt_not (tt_val (ee_call C7 hr (aa_cons (ee_name 2 rfl (aa_cons (ee_name 7 rfl (aa_cons (ee_name 8 rfl (aa_nil ⟨[a], memS, by simp, a, z.1, z.2, rfl, rfl, k1.wf, k2.wf, k1.cn, k2.cn, k1.ne, k2.ne, true, rfl, (fun z => nomatch z), fun _ => bb_nil (bb_nil ⟨⟨_, _, rfl⟩, rfl⟩)⟩)))))))))))
    rintro is M ⟨⟨y7, y8, rfl⟩, rfl⟩
    refine bb_cons (ss_if (tt_cmp (cc_neD (α := Str) hu (by decide) (ee_ixt (ee_callp C6 hr (aa_cons (ee_name 3 rfl (aa_cons (ee_name 6 rfl (aa_nil ⟨g, u, rfl, wf, wfu, cn, cnu, ng, nu, fun a1 q1 => ?_⟩))))))))))
    have fin : BB (cxOf CX0 P w K mg base nmLw "law" (defScope (tp 75)) f cdv A outer s H E).nox B [] (s7 y7 y8) [(a, MO.src)] { nx := fun is M => ∃ x1 x2 x3 x4 x5 x6 x7 x8 x9, is = st x1 x2 x3 x4 x5 x6 x7 x8 x9, rt := fun _ _ => False } := bb_nil ⟨_, _, _, _, _, _, _, _, _, rfl⟩
    rcases fi_tag wf wfu q1 with ⟨yes, x, y, rfl, _⟩ | ⟨no, rows, rfl⟩
    · refine ee_int ⟨_, 0, dat (.str "isomorphic"), .ds [.str "isomorphic", x, y], rfl, rfl, ee_ixt (ee_callp C6 hr (aa_cons (ee_name 4 rfl (aa_cons (ee_name 6 rfl (aa_nil ⟨h1, u, rfl, wf1, wfu, cn1, cnu, n1, nu, fun a2 q2 => ?_⟩))))))⟩
      rcases fi_tag wf1 wfu q2 with ⟨_, x', y', rfl, _⟩ | ⟨no, _⟩
      · exact ee_int ⟨_, 0, dat (.str "isomorphic"), .ds [.str "isomorphic", x', y'], rfl, rfl, "isomorphic", "isomorphic", .inl rfl, .inl rfl, _, rfl, fun z => absurd z (by decide +kernel), fun _ => bb_nil (bb_nil ⟨_, _, _, _, _, _, _, _, _, rfl⟩)⟩
      · exact absurd ((s1.symm gg).trans g1 yes) no
    · refine ee_int ⟨_, 0, dat (.str "different"), .ds [.str "different", .list (rows.map rowD)], rfl, rfl, ee_ixt (ee_callp C6 hr (aa_cons (ee_name 4 rfl (aa_cons (ee_name 6 rfl (aa_nil ⟨h1, u, rfl, wf1, wfu, cn1, cnu, n1, nu, fun a2 q2 => ?_⟩))))))⟩
      rcases fi_tag wf1 wfu q2 with ⟨yes, _⟩ | ⟨_, rows', rfl⟩
      · exact absurd (s1.trans gg yes) no
      · exact ee_int ⟨_, 0, dat (.str "different"), .ds [.str "different", .list (rows'.map rowD)], rfl, rfl, "different", "different", .inl rfl, .inl rfl, _, rfl, fun z => absurd z (by decide +kernel), fun _ => bb_nil (bb_nil ⟨_, _, _, _, _, _, _, _, _, rfl⟩)⟩
  · rintro is M ⟨x1, x2, x3, x4, x5, x6, x7, x8, x9, rfl⟩
    refine bb_forget (M' := []) (List.nil_sublist _) ?_
    refine bb_cons (ss_set 2 (ee_call C2 hr (aa_cons (ee_name 0 rfl (aa_cons (ee_int (aa_nil ⟨[], (fun _ z => by cases z), List.nodup_nil, ns, 0, rfl, rfl, by omega, fun a => ?_⟩)))))) scLw.nd)
    show BB _ B _ (st x1 (some (raw (.ref a))) x3 x4 x5 x6 x7 x8 x9) [(a, MO.src)] _
    refine bb_cons (ss_set 9 (ee_add (ee_int ⟨1, rfl, ee_draw C3 hr (aa_cons (ee_name 2 rfl (aa_cons (ee_int (aa_nil ⟨a, 12, rfl, mem1, by omega, by omega, fun r1 hr1 => ⟨r1, rfl, ?_⟩⟩)))))⟩)) scLw.nd)
    show BB _ B _ (st x1 (some (raw (.ref a))) x3 x4 x5 x6 x7 x8 (some (dat (.int ((1 + r1 : Nat) : Int))))) [(a, MO.src)] (retP post)
    refine bb_cons (ss_set 3 (ee_call C4 hr (aa_cons (ee_name 2 rfl (aa_cons (ee_name 9 rfl (aa_cons (ee_add (ee_sub (ee_int ⟨21, rfl, ee_name 9 rfl ⟨_, rfl, _, rfl, ee_draw C3 hr (aa_cons (ee_name 2 rfl (aa_cons (ee_int (aa_nil ⟨a, 41, rfl, mem1, by omega, by omega, fun r2 hr2 => ⟨r2, rfl, aa_nil ⟨[a], memS, by simp, a, 1 + r1, 20 - r1 + r2, ?_, rfl, by omega, by omega, by omega, fun g wf cn ng gl dl => ?_⟩⟩⟩)))))⟩⟩))))))))) scLw.nd)
    · rw [show ((21 : Int) - ((1 + r1 : Nat) : Int) + (r2 : Int)) = ((20 - r1 + r2 : Nat) : Int) by omega]
    have hdg : darts g ≠ [] := fun z => by
      rw [z] at dl
      have : 0 = 2 * (1 + r1 - 1 + (20 - r1 + r2)) := dl
      omega
    refine bb_cons (ss_if (tt_not (tt_val (ee_callG C8 hgd hr (aa_cons (ee_name 3 rfl (aa_cons (ee_call C5 hr (aa_cons (ee_name 2 rfl (aa_cons (ee_name 3 rfl (aa_nil ⟨[a], memS, by simp, a, g, rfl, rfl, wf, cn, ng, by omega, fun h1 f1 wf1 cn1 n1 i1 => aa_nil ⟨[], (fun _ z => by cases z), List.nodup_nil, rfl, g, h1, rfl, wf, wf1, cn, cn1, ng, n1, hdg, ?_, true, rfl, (fun z => nomatch z), fun _ => bb_nil ?_⟩⟩)))))))))))))
    · intro z
      obtain ⟨x, hx⟩ := List.exists_mem_of_ne_nil _ hdg
      have := i1.mem x hx
      rw [z] at this
      cases this
    exact bb_cons (ss_ret (ee_callG C8 hgd hr (aa_cons (ee_name 3 rfl (aa_cons (ee_callp C9 hr (aa_cons (ee_name 3 rfl (aa_nil ⟨g, rfl, wf, cn, ng, hdg, fun h wfh ch nh hdh => aa_nil ⟨[], (fun _ z => by cases z), List.nodup_nil, rfl, g, h, rfl, wf, wfh, cn, ch, ng, nh, hdg, hdh, hp⟩⟩)))))))))
end
end Q9
namespace Q9
open PySem L2 PyProof.Rows PySem.Spec
section
variable {P : Program} {w : World} {K : PySem.W.Frag} {mg nb : Str → Option Value} {k : Nat} {fl sc : Addr} {fd : FuncData} {x : Str} {sp : Sp} {z : Shared} {items : List Value} {nums : List Int}
/-- from a heap in which nothing but the script is told -/
theorem call_from {T : Hp} (kin : K.In z.heap) (ns : z.heap.Ns mainGlobals mg) (bn : z.heap.Ns builtinsNs nb) (bb : ∀ y : Str, y ≠ "__name__" → nb y = bootBuiltins y) (nl : z.heap.NoLimit) (gens : z.gens = #[])
    (scr : z.heap.get? sc = some { cls := .type "list", data := .seq items.toArray }) (room : Room k callerA) (F : ∀ base : Heap, K.In base → base.Ns mainGlobals mg → FnG P w K mg base k fl fd [x] sp) (bind : ∀ (s : Shared) (u : Value), BindsTo s fd ⟨[u], []⟩ [(x, u)])
    (want : sp [.ref sc] T (fun v _ => v = .bl true) fun _ _ _ => False) (only : Only T) (ok : HOk P w T z.heap) (at_ : ∀ b, T b ≠ none → b = sc) (out : T sc ≠ none → K.lookup sc = none) :
    codeAny (model P w) callerA (.call (.ref fl) ⟨[.ref sc], []⟩) (fun res z' => res = .ok (.ret (.bool true)) ∧ OldK z.heap z'.heap ∧ z'.os = z.os ∧ AllBare z'.gens) z := by
  have stays : ∀ {b : Addr} {o : Obj}, z.heap.get? b = some o → T b = none → (hidT z.heap T).get? b = some o := fun e1 e2 => hidT_get e1 e2
  have dict_free : ∀ {b : Addr} {o : Obj} {es : Array DictEntry} {ep : Nat}, z.heap.get? b = some o → o.data = .dict es ep → T b = none := by
    intro b o es ep e1 e2
    by_cases q : T b = none
    · exact q
    · have eb := at_ b q
      rw [eb, scr] at e1
      cases e1
      cases (show Data.seq items.toArray _ = Data.dict es ep from e2)
  have space : ∀ {b : Addr} {m : Str → Option Value}, z.heap.Ns b m → (hidT z.heap T).Ns b m := by
    rintro b m ⟨o, es, ep, e1, e2, r⟩
    exact ⟨o, es, ep, stays e1 (dict_free e1 e2), e2, r⟩
  have part : K.In (hidT z.heap T) := by
    intro b o e
    refine stays (kin b o e) ?_
    by_cases q : T b = none
    · exact q
    · have eb := at_ b q
      rw [eb] at q e
      rw [out q] at e
      cases e
  obtain ⟨ml, l1, l2⟩ := nl
  have md : Mod K mg (hidT z.heap T) := ⟨part, space ns, ⟨nb, space bn, bb⟩, ml, space l1, l2⟩
  have env : Env0 P w K mg (hidT z.heap T) callerA [] z T := by
    refine ⟨rfl, md, fun b o e => of_hidT e, Nat.le_of_eq (hidT_size _ _), trivial, fun b hb => ?_, ok, .of_eq gens⟩
    cases (show b ∈ ([] : List Addr) from hb)
  refine codeAny_mono ((F _ part (space ns)).go callerA [] z T ⟨[.ref sc], []⟩ [.ref sc] [.ref sc] _ _ rfl room env (bind z (.ref sc)) (.cons rfl .nil) want) fun res z' got => ?_
  match res, got with
  | .error _, got => exact got.elim
  | .ok .next, got => exact got.elim
  | .ok .brk, got => exact got.elim
  | .ok .cont, got => exact got.elim
  | .ok (.ret u), ⟨v, T', os, bare, un, ok', rel, tr⟩ =>
    have tr : v = .bl true := tr
    subst tr
    have eu : u = Value.bool true := rel
    subst eu
    refine ⟨rfl, OldK.of_keep fun b o e => ?_, os, bare⟩
    rcases only b with q | ⟨ob, ys, q⟩
    · exact un.keep b o e q (fun y => by cases (show b ∈ ([] : List Addr) from y)) (by simp)
    · obtain ⟨e1, _⟩ := ok b _ q
      obtain ⟨e2, _⟩ := ok' b _ (un.frzs b ob _ q)
      rw [e] at e1
      cases e1
      exact e2
/-- the law's call at the heap behind the top -/
theorem call_at (kin : K.In z.heap) (ns : z.heap.Ns mainGlobals mg) (bn : z.heap.Ns builtinsNs nb) (bb : ∀ y : Str, y ≠ "__name__" → nb y = bootBuiltins y) (nl : z.heap.NoLimit) (gens : z.gens = #[])
    (scr : z.heap.get? sc = some { cls := .type "list", data := .seq items.toArray }) (are : IntsAre items nums) (short : nums.length ≤ sizeLine) (room : Room k callerA) (F : ∀ base : Heap, K.In base → base.Ns mainGlobals mg → FnG P w K mg base k fl fd [x] sp) (bind : ∀ (s : Shared) (u : Value), BindsTo s fd ⟨[u], []⟩ [(x, u)])
    (want : ∀ T : Hp, Only T → SqL K T sc (nums.map V.int) → sp [.ref sc] T (fun v _ => v = .bl true) fun _ _ _ => False) :
    codeAny (model P w) callerA (.call (.ref fl) ⟨[.ref sc], []⟩) (fun res z' => res = .ok (.ret (.bool true)) ∧ OldK z.heap z'.heap ∧ z'.os = z.os ∧ AllBare z'.gens) z := by
  have rel := vals_ints are
  have same := are.length
  by_cases hk : ∃ o, K.lookup sc = some o
  · obtain ⟨o, hk⟩ := hk
    have e := kin sc o hk
    rw [scr] at e
    cases e
    refine call_from (T := fun _ => none) kin ns bn bb nl gens scr room F bind (want _ (fun _ => .inl rfl) (.inr ⟨_, items.toArray, _, hk, rfl, rfl, rfl, by rw [List.size_toArray, same]; exact short, by simpa using rel⟩)) (fun _ => .inl rfl) (fun b u q => ?_) (fun b q => absurd rfl q) fun q => absurd rfl q
    cases (show (none : Option HO) = some u from q)
  · have hk : K.lookup sc = none := by
      cases q : K.lookup sc with
      | none => rfl
      | some o => exact absurd ⟨o, q⟩ hk
    let one : HO := .frz { cls := .type "list", data := .seq items.toArray } (.lst (nums.map V.int))
    let T : Hp := fun b => if b = sc then some one else none
    have t1 : T sc = some one := if_pos rfl
    have t2 : ∀ b, b ≠ sc → T b = none := fun b q => if_neg q
    have on : Only T := fun b => by
      by_cases e : b = sc
      · exact .inr ⟨_, _, by rw [e]; exact t1⟩
      · exact .inl (t2 b e)
    refine call_from (T := T) kin ns bn bb nl gens scr room F bind (want T on (.inl (.inr ⟨{ cls := .type "list", data := .seq items.toArray }, t1⟩))) on (fun b u q => ?_) (fun b q => ?_) fun _ => hk
    · by_cases e : b = sc
      · subst e
        rw [t1] at q
        cases q
        exact ⟨scr, by rw [List.length_map]; exact short, items, _, rel, scr⟩
      · rw [t2 b e] at q
        cases q
    · by_cases e : b = sc
      · exact e
      · exact absurd (t2 b e) q
end
/-- the goal that the head leaves -/
theorem walkG {l : PySem.W.OpenLaw} {n k : Nat} {q : Program} {loose : List Str} {XP : (Str → Option Value) → Heap → Prop} {YP : World → Heap → Prop} {d : DefRec} {K : Params → PySem.W.Frag} {sp : PySem.W.Frag → Sp} {x : Str}
    (h1 : l.most = some n) (h2 : n ≤ sizeLine) (h3 : d.params.defaults = []) (room : Room k callerA) (part : ∀ (w : World) (h : Heap), YP w h → (K w.params).In h)
    (F : ∀ (w : World) (mg : Str → Option Value) (fl : Addr) (h : Heap), (K w.params).In h → h.Ns mainGlobals mg → mg d.name = some (.ref fl) →
      ∃ fd : FuncData, (∀ (s : Shared) (u : Value), BindsTo s fd ⟨[u], []⟩ [(x, u)]) ∧ ∀ base : Heap, (K w.params).In base → base.Ns mainGlobals mg → FnG l.prog w (K w.params) mg base k fl fd [x] (sp (K w.params)))
    (want : ∀ (K : PySem.W.Frag) (T : Hp) (sc : Addr) (nums : List Int), Only T → SqL K T sc (nums.map V.int) → sp K [.ref sc] T (fun v _ => v = .bl true) fun _ _ _ => False) :
    PySem.W.WalkO q loose XP YP l.row.toRowW d [] (fun f vs => PySem.call f vs) := by
  refine Att.attach_call h1 h3 fun w s₀ z mg nb fl o pm cd doc sc items nums G Y _ _ _ name obj are len gens => ?_
  have kin := part w _ Y
  obtain ⟨fd, bind, hF⟩ := F w mg fl _ kin G.T.g name
  exact call_at kin G.T.g G.T.b G.T.builtins G.T.nolimit gens obj are (Nat.le_trans len h2) room hF bind fun T on sq => want _ T sc nums on sq
theorem want_law (K : PySem.W.Frag) (T : Hp) (sc : Addr) (nums : List Int) (on : Only T) (sq : SqL K T sc (nums.map V.int)) : fnSp (pur (spLw K)) [.ref sc] T (fun v _ => v = .bl true) fun _ _ _ => False := by
  refine ⟨T, [scrP K nums], [], Same.refl _, ⟨⟨sc, rfl, sq⟩, True.intro⟩, (fun _ q => by cases q), List.nodup_nil, fun p _ => p = dat (.bool true), ⟨rfl, nums, rfl, rfl⟩, ?_⟩
  rintro p N rfl v G' H' _ _ _ _ _ _ _ q
  exact dat_bl.mp q
end Q9
namespace Q9
open PySem L2 PyProof.Rows PySem.Spec
abbrev mgs : Addr := mainGlobals
/-- what the head tells of a def of the text -/
structure DF (K : PySem.W.Frag) (x : Str) (st : Stmt) : Prop where
  ex : ∃ (f : Addr) (fd : FuncData), PySem.W.nsIn K mgs x = some (some (.ref f)) ∧ Fun K x x st f fd
section
variable {K : PySem.W.Frag} {h : Heap} {mg : Str → Option Value} {x : Str} {st : Stmt}
theorem df_mk {f : Addr} {oc : Value} {od an : Option Addr} {osl : Array (Option Value)} {kV doc pm cdv ct : Value} (a : PySem.W.nsIn K mgs x = some (some (.ref f)))
    (l : K.lookup f = some ⟨oc, od, .func (PySem.W.fnOf x x (defArgs st) (defBody st) (defScope st) .none kV doc pm an cdv ct), osl⟩) (c : PySem.W.codeIn K cdv x = true) (k : PySem.W.keepIn K (.ref f) = true) : DF K x st := ⟨_, _, a, fun_mk l c k⟩
theorem DF.top (X : K.In h) (G : h.Ns mgs mg) (d : DF K x st) {ps : List Str} (b : ∀ (kV doc pm : Value) (an : Option Addr) (cdv ct : Value) (us : List Value), us.length = ps.length → bindArgs (PySem.W.fnOf x x (defArgs st) (defBody st) (defScope st) .none kV doc pm an cdv ct) ⟨us, []⟩ = pure (ps.zip us)) : Top K mg x st ps := by
  obtain ⟨f, fd, a, F⟩ := d.ex
  exact ⟨f, fd, F, PySem.W.mg_of X G a, F.binds b⟩
end
/-- what it tells of the class -/
structure RF (K : PySem.W.Frag) : Prop where
  ex : ∃ (C f1 f2 : Addr) (fd1 fd2 : FuncData), PySem.W.nsIn K mgs "Rotations" = some (some (.ref C)) ∧ Cls K C ∧ NoAttr K C "vertex_by" ∧ NoAttr K C "next_by" ∧ NoAttr K C "previous_by" ∧ NoAttr K C "isolated" ∧ Mk K C f1 ∧ Fun K "__init__" "Rotations.__init__" sInit f1 fd1 ∧ Meth K C "has_dart" f2 ∧ Fun K "has_dart" "Rotations.has_dart" sHas f2 fd2
theorem rf_mk {K : PySem.W.Frag} {C f1 f2 : Addr} {oc1 oc2 : Value} {od1 an1 od2 an2 : Option Addr} {sl1 sl2 : Array (Option Value)} {kV1 dc1 pm1 cd1 ct1 kV2 dc2 pm2 cd2 ct2 : Value} (aC : PySem.W.nsIn K mgs "Rotations" = some (some (.ref C)))
    (a1 : PySem.W.findIn K (.ref C) "__init__" = some (some (.ref f1))) (i1 : PySem.W.isFn K (.ref f1) = true) (l1 : K.lookup f1 = some ⟨oc1, od1, .func (PySem.W.fnOf "__init__" "Rotations.__init__" (defArgs sInit) (defBody sInit) (defScope sInit) .none kV1 dc1 pm1 an1 cd1 ct1), sl1⟩) (c1 : PySem.W.codeIn K cd1 "Rotations.__init__" = true) (k1 : PySem.W.keepIn K (.ref f1) = true)
    (a2 : PySem.W.findIn K (.ref C) "has_dart" = some (some (.ref f2))) (i2 : PySem.W.isFn K (.ref f2) = true) (l2 : K.lookup f2 = some ⟨oc2, od2, .func (PySem.W.fnOf "has_dart" "Rotations.has_dart" (defArgs sHas) (defBody sHas) (defScope sHas) .none kV2 dc2 pm2 an2 cd2 ct2), sl2⟩) (c2 : PySem.W.codeIn K cd2 "Rotations.has_dart" = true) (k2 : PySem.W.keepIn K (.ref f2) = true)
    (pg : PySem.W.plainGet K C Str.empty = true) (hd : PySem.W.hasDictIn K C = true) (po : PySem.W.plainOver K C = true) (sa : PySem.W.findIn K (.ref C) "__setattr__" = some (some (.builtin "object.__setattr__"))) (mk : PySem.W.makesIn K C = true) (kc : PySem.W.keepIn K (.ref C) = true)
    (n1 : PySem.W.findIn K (.ref C) "vertex_by" = some none) (n2 : PySem.W.findIn K (.ref C) "next_by" = some none) (n3 : PySem.W.findIn K (.ref C) "previous_by" = some none) (n4 : PySem.W.findIn K (.ref C) "isolated" = some none) : RF K :=
  ⟨C, f1, f2, _, _, aC, ⟨pg, hd, po, sa⟩, n1, n2, n3, n4, ⟨mk, a1, i1, kc⟩, fun_mk l1 c1 k1, ⟨a2, i2, k2⟩, fun_mk l2 c2 k2⟩
theorem RF.rot {K : PySem.W.Frag} {h : Heap} {mg : Str → Option Value} (X : K.In h) (G : h.Ns mgs mg) (r : RF K) : ∃ C, RotC K mg C := by
  obtain ⟨C, f1, f2, fd1, fd2, aC, cl, n1, n2, n3, n4, mk, F1, me, F2⟩ := r.ex
  exact ⟨C, cl, n1, n2, n3, n4, PySem.W.mg_of X G aC, ⟨f1, fd1, mk, F1, F1.binds fun _ _ _ _ _ _ us hl => match us, hl with | [_, _], _ => rfl⟩, f2, fd2, me, F2, F2.binds fun _ _ _ _ _ _ us hl => match us, hl with | [_, _], _ => rfl⟩
/-- what it tells of the built-ins and the constants -/
structure BF (K : PySem.W.Frag) : Prop where
  len : PySem.W.nsIn K mgs "len" = some none
  isinstance : PySem.W.nsIn K mgs "isinstance" = some none
  str : PySem.W.nsIn K mgs "str" = some none
  int : PySem.W.nsIn K mgs "int" = some none
  bool : PySem.W.nsIn K mgs "bool" = some none
  tuple : PySem.W.nsIn K mgs "tuple" = some none
  list : PySem.W.nsIn K mgs "list" = some none
  dict : PySem.W.nsIn K mgs "dict" = some none
  all : PySem.W.nsIn K mgs "all" = some none
  any : PySem.W.nsIn K mgs "any" = some none
  sorted : PySem.W.nsIn K mgs "sorted" = some none
  min : PySem.W.nsIn K mgs "min" = some none
  max : PySem.W.nsIn K mgs "max" = some none
  sum : PySem.W.nsIn K mgs "sum" = some none
  abs : PySem.W.nsIn K mgs "abs" = some none
  range : PySem.W.nsIn K mgs "range" = some none
  enumerate : PySem.W.nsIn K mgs "enumerate" = some none
  zip : PySem.W.nsIn K mgs "zip" = some none
  repr : PySem.W.nsIn K mgs "repr" = some none
  letters : ∃ t, PySem.W.nsIn K mgs "LETTERS" = some (some (.str "abcdefghijklmnopqrstuvwxyz" t))
  maxLength : ∃ t, PySem.W.nsIn K mgs "MAX_LENGTH" = some (some (.int 8 t))
  maxVertices : ∃ t, PySem.W.nsIn K mgs "MAX_VERTICES" = some (some (.int 100 t))
  maxEdges : ∃ t, PySem.W.nsIn K mgs "MAX_EDGES" = some (some (.int 60 t))
  maxWord : ∃ t, PySem.W.nsIn K mgs "MAX_WORD" = some (some (.int 300 t))
  match_ : ∃ t, PySem.W.nsIn K mgs "MATCH" = some (some (.str "match" t))
  differ : ∃ t, PySem.W.nsIn K mgs "DIFFER" = some (some (.str "differ" t))
  iso : ∃ t, PySem.W.nsIn K mgs "ISOMORPHIC" = some (some (.str "isomorphic" t))
  dif : ∃ t, PySem.W.nsIn K mgs "DIFFERENT" = some (some (.str "different" t))
theorem bf_mk {K : PySem.W.Frag} {t0 t1 t2 t3 t4 t5 t6 t7 t8 : Tok} (b0 : PySem.W.nsIn K mgs "len" = some none) (b1 : PySem.W.nsIn K mgs "isinstance" = some none) (b2 : PySem.W.nsIn K mgs "str" = some none) (b3 : PySem.W.nsIn K mgs "int" = some none) (b4 : PySem.W.nsIn K mgs "bool" = some none) (b5 : PySem.W.nsIn K mgs "tuple" = some none) (b6 : PySem.W.nsIn K mgs "list" = some none) (b7 : PySem.W.nsIn K mgs "dict" = some none) (b8 : PySem.W.nsIn K mgs "all" = some none) (b9 : PySem.W.nsIn K mgs "any" = some none) (b10 : PySem.W.nsIn K mgs "sorted" = some none) (b11 : PySem.W.nsIn K mgs "min" = some none) (b12 : PySem.W.nsIn K mgs "max" = some none) (b13 : PySem.W.nsIn K mgs "sum" = some none) (b14 : PySem.W.nsIn K mgs "abs" = some none) (b15 : PySem.W.nsIn K mgs "range" = some none) (b16 : PySem.W.nsIn K mgs "enumerate" = some none) (b17 : PySem.W.nsIn K mgs "zip" = some none) (b18 : PySem.W.nsIn K mgs "repr" = some none) (c0 : PySem.W.nsIn K mgs "LETTERS" = some (some (.str "abcdefghijklmnopqrstuvwxyz" t0))) (c1 : PySem.W.nsIn K mgs "MAX_LENGTH" = some (some (.int 8 t1))) (c2 : PySem.W.nsIn K mgs "MAX_VERTICES" = some (some (.int 100 t2))) (c3 : PySem.W.nsIn K mgs "MAX_EDGES" = some (some (.int 60 t3))) (c4 : PySem.W.nsIn K mgs "MAX_WORD" = some (some (.int 300 t4))) (c5 : PySem.W.nsIn K mgs "MATCH" = some (some (.str "match" t5))) (c6 : PySem.W.nsIn K mgs "DIFFER" = some (some (.str "differ" t6))) (c7 : PySem.W.nsIn K mgs "ISOMORPHIC" = some (some (.str "isomorphic" t7))) (c8 : PySem.W.nsIn K mgs "DIFFERENT" = some (some (.str "different" t8))) : BF K :=
  ⟨b0, b1, b2, b3, b4, b5, b6, b7, b8, b9, b10, b11, b12, b13, b14, b15, b16, b17, b18, ⟨_, c0⟩, ⟨_, c1⟩, ⟨_, c2⟩, ⟨_, c3⟩, ⟨_, c4⟩, ⟨_, c5⟩, ⟨_, c6⟩, ⟨_, c7⟩, ⟨_, c8⟩⟩
theorem BF.bt {K : PySem.W.Frag} {h : Heap} {mg : Str → Option Value} (X : K.In h) (G : h.Ns mgs mg) (b : BF K) : Bt mg where
  len := PySem.W.mg_none_of X G b.len
  isinstance := PySem.W.mg_none_of X G b.isinstance
  str := PySem.W.mg_none_of X G b.str
  int := PySem.W.mg_none_of X G b.int
  bool := PySem.W.mg_none_of X G b.bool
  tuple := PySem.W.mg_none_of X G b.tuple
  list := PySem.W.mg_none_of X G b.list
  dict := PySem.W.mg_none_of X G b.dict
  all := PySem.W.mg_none_of X G b.all
  any := PySem.W.mg_none_of X G b.any
  sorted := PySem.W.mg_none_of X G b.sorted
  min := PySem.W.mg_none_of X G b.min
  max := PySem.W.mg_none_of X G b.max
  sum := PySem.W.mg_none_of X G b.sum
  abs := PySem.W.mg_none_of X G b.abs
  range := PySem.W.mg_none_of X G b.range
  enumerate := PySem.W.mg_none_of X G b.enumerate
  zip := PySem.W.mg_none_of X G b.zip
  repr := PySem.W.mg_none_of X G b.repr
  letters := b.letters.imp fun _ e => PySem.W.mg_of X G e
  maxLength := b.maxLength.imp fun _ e => PySem.W.mg_of X G e
  maxVertices := b.maxVertices.imp fun _ e => PySem.W.mg_of X G e
  maxEdges := b.maxEdges.imp fun _ e => PySem.W.mg_of X G e
  maxWord := b.maxWord.imp fun _ e => PySem.W.mg_of X G e
  match_ := b.match_.imp fun _ e => PySem.W.mg_of X G e
  differ := b.differ.imp fun _ e => PySem.W.mg_of X G e
  iso := b.iso.imp fun _ e => PySem.W.mg_of X G e
  dif := b.dif.imp fun _ e => PySem.W.mg_of X G e
section
variable {P : Program} {w : World} {K : PySem.W.Frag} {mg : Str → Option Value} {base : Heap}
theorem Cal.mono {j k : Nat} {x : Str} {ps : List Str} {T : PT0} (C : Cal P w K mg base j x ps T) (h : j ≤ k) : Cal P w K mg base k x ps T := by
  obtain ⟨f, fd, F, a, b, c⟩ := C.ex
  exact ⟨f, fd, F.mono h, a, b, c⟩
theorem CalG.mono {j k : Nat} {x : Str} {ps : List Str} {T : PT0} (C : CalG P w K mg base j x ps T) (h : j ≤ k) : CalG P w K mg base k x ps T := by
  obtain ⟨f, fd, F, a, b, c⟩ := C.ex
  exact ⟨f, fd, ⟨F.arity, fun A stk s H ar us xs Q E g r => F.go A stk s H ar us xs Q E g (r.mono h)⟩, a, b, c⟩
theorem asm {C f : Addr} {fd : FuncData} (F : Fun K "law" "law" (tp 75) f fd) (bt : Bt mg) (rc : RotC K mg C) (t13 : Top K mg "is_name" (tp 13) ["value"]) (t14 : Top K mg "is_integer" (tp 14) ["value", "low", "high"]) (t15 : Top K mg "is_dart" (tp 15) ["value"]) (t16 : Top K mg "opposite" (tp 16) ["dart"]) (t22 : Top K mg "check_vertices" (tp 22) ["value"]) (t23 : Top K mg "check_darts" (tp 23) ["value"]) (t24 : Top K mg "check_graph" (tp 24) ["value"]) (t25 : Top K mg "rotated" (tp 25) ["rotation"]) (t26 : Top K mg "normalized" (tp 26) ["rows"]) (t27 : Top K mg "normalize" (tp 27) ["value"]) (t28 : Top K mg "vertex_names" (tp 28) ["graph"]) (t29 : Top K mg "edge_names" (tp 29) ["graph"]) (t30 : Top K mg "require_dart" (tp 30) ["rotations", "dart"]) (t32 : Top K mg "require_edge" (tp 32) ["graph", "edge"]) (t33 : Top K mg "flip_edge" (tp 33) ["graph", "edge"]) (t35 : Top K mg "component_of" (tp 35) ["graph", "rotations", "vertex"]) (t36 : Top K mg "components" (tp 36) ["graph"]) (t41 : Top K mg "is_word" (tp 41) ["value"]) (t42 : Top K mg "apply_letter" (tp 42) ["rotations", "dart", "letter"]) (t43 : Top K mg "follow" (tp 43) ["graph", "dart", "word"]) (t44 : Top K mg "compare_from" (tp 44) ["graph", "dart", "other", "other_dart"]) (t46 : Top K mg "is_comparison" (tp 46) ["graph", "dart", "other", "other_dart", "value"]) (t50 : Top K mg "darts_of" (tp 50) ["graph"]) (t51 : Top K mg "check_connected" (tp 51) ["graph", "argument"]) (t52 : Top K mg "find_isomorphism" (tp 52) ["graph", "other"]) (t53 : Top K mg "is_renaming" (tp 53) ["value", "names"]) (t54 : Top K mg "rename" (tp 54) ["graph", "vertices", "edges"]) (t56 : Top K mg "_law_source" (tp 56) ["_law_script", "_law_k"]) (t57 : Top K mg "_law_draw" (tp 57) ["_law_source_here", "_law_count"]) (t58 : Top K mg "_law_names" (tp 58) ["_law_source_here", "_law_count"]) (t59 : Top K mg "_law_connected" (tp 59) ["_law_source_here", "_law_vertices", "_law_more"]) (t60 : Top K mg "_law_edges" (tp 60) ["_law_graph"]) (t61 : Top K mg "_law_next_darts" (tp 61) ["_law_graph"]) (t62 : Top K mg "_law_shuffled" (tp 62) ["_law_source_here", "_law_some"]) (t63 : Top K mg "_law_renamed" (tp 63) ["_law_source_here", "_law_graph"]) (t64 : Top K mg "_law_step" (tp 64) ["_law_next_darts_here", "_law_dart", "_law_letter"]) (t65 : Top K mg "_law_match" (tp 65) ["_law_next_darts_here", "_law_dart", "_law_others", "_law_to"]) (t66 : Top K mg "_law_far_changed" (tp 66) ["_law_graph"]) (t67 : Top K mg "_law_word" (tp 67) ["_law_source_here"]) (t68 : Top K mg "_law_maps_rotations" (tp 68) ["_law_graph", "_law_other", "_law_pairs"]) (t69 : Top K mg "_law_turns_into" (tp 69) ["_law_graph", "_law_other", "_law_pairs"]) (t70 : Top K mg "_law_words_agree" (tp 70) ["_law_source_here", "_law_graph", "_law_dart", "_law_other", "_law_other_dart"]) (t71 : Top K mg "_law_holds" (tp 71) ["_law_source_here", "_law_graph", "_law_other"]) (t72 : Top K mg "_law_meet" (tp 72) ["_law_next_darts_here", "_law_dart", "_law_first", "_law_second"]) (t73 : Top K mg "_law_large_holds" (tp 73) ["_law_graph", "_law_other"]) (t74 : Top K mg "_law_digon_holds" (tp 74) []) :
    FnG P w K mg base 9 f fd ["_law_script"] (fnSp (pur (spLw K))) := by
  have isn : Cal P w K mg base 1 "is_name" ["value"] (pur spIsn) := cal_isn bt t13
  have int : Cal P w K mg base 1 "is_integer" ["value", "low", "high"] (pur spInt) := cal_int bt t14
  have dart : Cal P w K mg base 2 "is_dart" ["value"] (pur spDart) := cal_dart bt t15 isn int
  have opp : Cal P w K mg base 1 "opposite" ["dart"] (pur spOpp) := cal_opp t16
  have cv : Cal P w K mg base 2 "check_vertices" ["value"] (pur spCv) := cal_cv bt t22 isn
  have cd : Cal P w K mg base 3 "check_darts" ["value"] (pur spCd) := cal_cd bt t23 dart
  have cg : Cal P w K mg base 4 "check_graph" ["value"] (pur spCg) := cal_cg bt t24 (cv.mono (by decide)) (cd.mono (by decide)) (opp.mono (by decide))
  have rot : Cal P w K mg base 1 "rotated" ["rotation"] (pur spRot) := cal_rot bt t25
  have nord : Cal P w K mg base 2 "normalized" ["rows"] (pur spNormd) := cal_normd bt t26 rot
  have nor : Cal P w K mg base 5 "normalize" ["value"] (pur spNorm) := cal_norm bt t27 cg (nord.mono (by decide))
  have vn : Cal P w K mg base 1 "vertex_names" ["graph"] (pur spVn) := cal_vn bt t28
  have en : Cal P w K mg base 1 "edge_names" ["graph"] (pur spEn) := cal_en bt t29
  have rd : Cal P w K mg base 4 "require_dart" ["rotations", "dart"] (pur (spRd C)) := cal_rd (k := 2) rc t30 dart
  have re : Cal P w K mg base 2 "require_edge" ["graph", "edge"] (pur spRe) := cal_re t32 isn en
  have fe : Cal P w K mg base 3 "flip_edge" ["graph", "edge"] (pur spFe) := cal_fe bt t33 re (opp.mono (by decide)) nord
  have co : Cal P w K mg base 2 "component_of" ["graph", "rotations", "vertex"] (pur (spCo C)) := cal_co bt rc t35 opp
  have cs : Cal P w K mg base 3 "components" ["graph"] (pur spCs) := cal_cs (k := 0) bt rc t36 co
  have cc : Cal P w K mg base 4 "check_connected" ["graph", "argument"] (pur spCc) := cal_cc bt t51 cs
  have dof : Cal P w K mg base 2 "darts_of" ["graph"] (pur spDo) := cal_do bt t50 en
  have iw : Cal P w K mg base 1 "is_word" ["value"] (pur spIw) := cal_iw bt t41
  have al : Cal P w K mg base 2 "apply_letter" ["rotations", "dart", "letter"] (pur (spAl C)) := cal_al rc t42 opp
  have fo : Cal P w K mg base 5 "follow" ["graph", "dart", "word"] (pur spFo) := cal_fo (k := 2) bt rc t43 rd (iw.mono (by decide)) (al.mono (by decide))
  have cf : Cal P w K mg base 5 "compare_from" ["graph", "dart", "other", "other_dart"] (pur spCf) := cal_cf (k := 2) bt rc t44 rd (al.mono (by decide))
  have fi : Cal P w K mg base 6 "find_isomorphism" ["graph", "other"] (pur spFi) := cal_fi bt t52 (cc.mono (by decide)) (dof.mono (by decide)) cf
  have ir : Cal P w K mg base 2 "is_renaming" ["value", "names"] (pur spIr) := cal_ir bt t53 isn
  have rn : Cal P w K mg base 6 "rename" ["graph", "vertices", "edges"] (pur spRn) := cal_rn bt t54 (ir.mono (by decide)) (vn.mono (by decide)) (en.mono (by decide)) nor
  have ic : Cal P w K mg base 6 "is_comparison" ["graph", "dart", "other", "other_dart", "value"] (pur spIc) := cal_ic bt t46 cf (iw.mono (by decide)) fo
  have so : Cal P w K mg base 1 "_law_source" ["_law_script", "_law_k"] (spSo K) := cal_so bt t56
  have dr : Cal P w K mg base 1 "_law_draw" ["_law_source_here", "_law_count"] spDr := cal_dr t57
  have na : Cal P w K mg base 2 "_law_names" ["_law_source_here", "_law_count"] spNa := cal_na bt t58 dr
  have cn : Cal P w K mg base 3 "_law_connected" ["_law_source_here", "_law_vertices", "_law_more"] spCn := cal_cn bt t59 (dr.mono (by decide)) na
  have le : Cal P w K mg base 1 "_law_edges" ["_law_graph"] (pur spEn) := cal_le bt t60
  have nd : Cal P w K mg base 1 "_law_next_darts" ["_law_graph"] (pur spNd) := cal_nd bt t61
  have sh : Cal P w K mg base 2 "_law_shuffled" ["_law_source_here", "_law_some"] spSh := cal_sh bt t62 dr
  have rm : Cal P w K mg base 3 "_law_renamed" ["_law_source_here", "_law_graph"] spRm := cal_rm bt t63 (dr.mono (by decide)) na sh (le.mono (by decide))
  have ls : Cal P w K mg base 1 "_law_step" ["_law_next_darts_here", "_law_dart", "_law_letter"] (pur spLs) := cal_ls t64
  have ma : Cal P w K mg base 2 "_law_match" ["_law_next_darts_here", "_law_dart", "_law_others", "_law_to"] spMa := cal_ma bt t65 ls
  have fc : Cal P w K mg base 3 "_law_far_changed" ["_law_graph"] (pur spFc) := cal_fc bt t66 (nd.mono (by decide)) ma
  have wo : Cal P w K mg base 2 "_law_word" ["_law_source_here"] spWo := cal_wo bt t67 dr
  have mr : Cal P w K mg base 2 "_law_maps_rotations" ["_law_graph", "_law_other", "_law_pairs"] (pur spMr) := cal_mr bt t68 nd
  have ti : Cal P w K mg base 7 "_law_turns_into" ["_law_graph", "_law_other", "_law_pairs"] (pur spTi) := cal_ti bt t69 (le.mono (by decide)) (fe.mono (by decide)) rn (nor.mono (by decide))
  have wa : Cal P w K mg base 6 "_law_words_agree" ["_law_source_here", "_law_graph", "_law_dart", "_law_other", "_law_other_dart"] spWa := cal_wa bt t70 (wo.mono (by decide)) fo
  have ho : Cal P w K mg base 8 "_law_holds" ["_law_source_here", "_law_graph", "_law_other"] spHo := cal_ho bt t71 (fi.mono (by decide)) (le.mono (by decide)) (cf.mono (by decide)) (mr.mono (by decide)) ti (wa.mono (by decide))
  have lm : Cal P w K mg base 2 "_law_meet" ["_law_next_darts_here", "_law_dart", "_law_first", "_law_second"] (pur spLm) := cal_lm t72 ls
  have lh : CalG P w K mg base 8 "_law_large_holds" ["_law_graph", "_law_other"] (pur spLh) := cal_lh bt t73 (nd.mono (by decide)) (ma.mono (by decide)) (fi.mono (by decide)) (cf.mono (by decide)) (mr.mono (by decide)) ti (lm.mono (by decide)) (ic.mono (by decide))
  have dig : CalG P w K mg base 7 "_law_digon_holds" [] (pur spDg) := cal_dg bt t74 (fe.mono (by decide)) fi rn
  exact fn_law F bt (dig.mono (by decide)) (so.mono (by decide)) (dr.mono (by decide)) (cn.mono (by decide)) (rm.mono (by decide)) (fi.mono (by decide)) ho lh (fc.mono (by decide))
end
theorem all_mk {P : Program} {w : World} {K : PySem.W.Frag} {h : Heap} {mg : Str → Option Value} {fl : Addr} (X : K.In h) (G : h.Ns mgs mg) (name : mg "law" = some (.ref fl)) (bf : BF K) (rf : RF K) (d13 : DF K "is_name" (tp 13)) (d14 : DF K "is_integer" (tp 14)) (d15 : DF K "is_dart" (tp 15)) (d16 : DF K "opposite" (tp 16)) (d22 : DF K "check_vertices" (tp 22)) (d23 : DF K "check_darts" (tp 23)) (d24 : DF K "check_graph" (tp 24)) (d25 : DF K "rotated" (tp 25)) (d26 : DF K "normalized" (tp 26)) (d27 : DF K "normalize" (tp 27)) (d28 : DF K "vertex_names" (tp 28)) (d29 : DF K "edge_names" (tp 29)) (d30 : DF K "require_dart" (tp 30)) (d32 : DF K "require_edge" (tp 32)) (d33 : DF K "flip_edge" (tp 33)) (d35 : DF K "component_of" (tp 35)) (d36 : DF K "components" (tp 36)) (d41 : DF K "is_word" (tp 41)) (d42 : DF K "apply_letter" (tp 42)) (d43 : DF K "follow" (tp 43)) (d44 : DF K "compare_from" (tp 44)) (d46 : DF K "is_comparison" (tp 46)) (d50 : DF K "darts_of" (tp 50)) (d51 : DF K "check_connected" (tp 51)) (d52 : DF K "find_isomorphism" (tp 52)) (d53 : DF K "is_renaming" (tp 53)) (d54 : DF K "rename" (tp 54)) (d56 : DF K "_law_source" (tp 56)) (d57 : DF K "_law_draw" (tp 57)) (d58 : DF K "_law_names" (tp 58)) (d59 : DF K "_law_connected" (tp 59)) (d60 : DF K "_law_edges" (tp 60)) (d61 : DF K "_law_next_darts" (tp 61)) (d62 : DF K "_law_shuffled" (tp 62)) (d63 : DF K "_law_renamed" (tp 63)) (d64 : DF K "_law_step" (tp 64)) (d65 : DF K "_law_match" (tp 65)) (d66 : DF K "_law_far_changed" (tp 66)) (d67 : DF K "_law_word" (tp 67)) (d68 : DF K "_law_maps_rotations" (tp 68)) (d69 : DF K "_law_turns_into" (tp 69)) (d70 : DF K "_law_words_agree" (tp 70)) (d71 : DF K "_law_holds" (tp 71)) (d72 : DF K "_law_meet" (tp 72)) (d73 : DF K "_law_large_holds" (tp 73)) (d74 : DF K "_law_digon_holds" (tp 74)) (d75 : DF K "law" (tp 75)) :
    ∃ fd : FuncData, (∀ (s : Shared) (u : Value), BindsTo s fd ⟨[u], []⟩ [("_law_script", u)]) ∧ ∀ base : Heap, K.In base → base.Ns mgs mg → FnG P w K mg base 9 fl fd ["_law_script"] (fnSp (pur (spLw K))) := by
  obtain ⟨f, fd, a, F⟩ := d75.ex
  have e := name.symm.trans (PySem.W.mg_of X G a)
  cases e
  obtain ⟨C, rc⟩ := rf.rot X G
  refine ⟨fd, ?_, fun base _ _ => asm F (bf.bt X G) rc ?t13 ?t14 ?t15 ?t16 ?t22 ?t23 ?t24 ?t25 ?t26 ?t27 ?t28 ?t29 ?t30 ?t32 ?t33 ?t35 ?t36 ?t41 ?t42 ?t43 ?t44 ?t46 ?t50 ?t51 ?t52 ?t53 ?t54 ?t56 ?t57 ?t58 ?t59 ?t60 ?t61 ?t62 ?t63 ?t64 ?t65 ?t66 ?t67 ?t68 ?t69 ?t70 ?t71 ?t72 ?t73 ?t74⟩
  · obtain ⟨oc, od, kV, doc, pm, an, c, ct, osl, e, _, _⟩ := F.ex
    subst e
    exact fun s u => .of_eq rfl
  · exact d13.top X G fun _ _ _ _ _ _ us hl => match us, hl with | [_], _ => rfl
  · exact d14.top X G fun _ _ _ _ _ _ us hl => match us, hl with | [_, _, _], _ => rfl
  · exact d15.top X G fun _ _ _ _ _ _ us hl => match us, hl with | [_], _ => rfl
  · exact d16.top X G fun _ _ _ _ _ _ us hl => match us, hl with | [_], _ => rfl
  · exact d22.top X G fun _ _ _ _ _ _ us hl => match us, hl with | [_], _ => rfl
  · exact d23.top X G fun _ _ _ _ _ _ us hl => match us, hl with | [_], _ => rfl
  · exact d24.top X G fun _ _ _ _ _ _ us hl => match us, hl with | [_], _ => rfl
  · exact d25.top X G fun _ _ _ _ _ _ us hl => match us, hl with | [_], _ => rfl
  · exact d26.top X G fun _ _ _ _ _ _ us hl => match us, hl with | [_], _ => rfl
  · exact d27.top X G fun _ _ _ _ _ _ us hl => match us, hl with | [_], _ => rfl
  · exact d28.top X G fun _ _ _ _ _ _ us hl => match us, hl with | [_], _ => rfl
  · exact d29.top X G fun _ _ _ _ _ _ us hl => match us, hl with | [_], _ => rfl
  · exact d30.top X G fun _ _ _ _ _ _ us hl => match us, hl with | [_, _], _ => rfl
  · exact d32.top X G fun _ _ _ _ _ _ us hl => match us, hl with | [_, _], _ => rfl
  · exact d33.top X G fun _ _ _ _ _ _ us hl => match us, hl with | [_, _], _ => rfl
  · exact d35.top X G fun _ _ _ _ _ _ us hl => match us, hl with | [_, _, _], _ => rfl
  · exact d36.top X G fun _ _ _ _ _ _ us hl => match us, hl with | [_], _ => rfl
  · exact d41.top X G fun _ _ _ _ _ _ us hl => match us, hl with | [_], _ => rfl
  · exact d42.top X G fun _ _ _ _ _ _ us hl => match us, hl with | [_, _, _], _ => rfl
  · exact d43.top X G fun _ _ _ _ _ _ us hl => match us, hl with | [_, _, _], _ => rfl
  · exact d44.top X G fun _ _ _ _ _ _ us hl => match us, hl with | [_, _, _, _], _ => rfl
  · exact d46.top X G fun _ _ _ _ _ _ us hl => match us, hl with | [_, _, _, _, _], _ => rfl
  · exact d50.top X G fun _ _ _ _ _ _ us hl => match us, hl with | [_], _ => rfl
  · exact d51.top X G fun _ _ _ _ _ _ us hl => match us, hl with | [_, _], _ => rfl
  · exact d52.top X G fun _ _ _ _ _ _ us hl => match us, hl with | [_, _], _ => rfl
  · exact d53.top X G fun _ _ _ _ _ _ us hl => match us, hl with | [_, _], _ => rfl
  · exact d54.top X G fun _ _ _ _ _ _ us hl => match us, hl with | [_, _, _], _ => rfl
  · exact d56.top X G fun _ _ _ _ _ _ us hl => match us, hl with | [_, _], _ => rfl
  · exact d57.top X G fun _ _ _ _ _ _ us hl => match us, hl with | [_, _], _ => rfl
  · exact d58.top X G fun _ _ _ _ _ _ us hl => match us, hl with | [_, _], _ => rfl
  · exact d59.top X G fun _ _ _ _ _ _ us hl => match us, hl with | [_, _, _], _ => rfl
  · exact d60.top X G fun _ _ _ _ _ _ us hl => match us, hl with | [_], _ => rfl
  · exact d61.top X G fun _ _ _ _ _ _ us hl => match us, hl with | [_], _ => rfl
  · exact d62.top X G fun _ _ _ _ _ _ us hl => match us, hl with | [_, _], _ => rfl
  · exact d63.top X G fun _ _ _ _ _ _ us hl => match us, hl with | [_, _], _ => rfl
  · exact d64.top X G fun _ _ _ _ _ _ us hl => match us, hl with | [_, _, _], _ => rfl
  · exact d65.top X G fun _ _ _ _ _ _ us hl => match us, hl with | [_, _, _, _], _ => rfl
  · exact d66.top X G fun _ _ _ _ _ _ us hl => match us, hl with | [_], _ => rfl
  · exact d67.top X G fun _ _ _ _ _ _ us hl => match us, hl with | [_], _ => rfl
  · exact d68.top X G fun _ _ _ _ _ _ us hl => match us, hl with | [_, _, _], _ => rfl
  · exact d69.top X G fun _ _ _ _ _ _ us hl => match us, hl with | [_, _, _], _ => rfl
  · exact d70.top X G fun _ _ _ _ _ _ us hl => match us, hl with | [_, _, _, _, _], _ => rfl
  · exact d71.top X G fun _ _ _ _ _ _ us hl => match us, hl with | [_, _, _], _ => rfl
  · exact d72.top X G fun _ _ _ _ _ _ us hl => match us, hl with | [_, _, _, _], _ => rfl
  · exact d73.top X G fun _ _ _ _ _ _ us hl => match us, hl with | [_, _], _ => rfl
  · exact d74.top X G fun _ _ _ _ _ _ us hl => match us, hl with | [], _ => rfl
end Q9
open PySem PySem.W PyProof.Rows in
set_option maxRecDepth 100000 in
set_option maxHeartbeats 0 in
theorem PySem.Challenge.cw_handonwall_k96_whole_isomorphisms_map_ro_holds : PySem.Challenge.rw_handonwall_k96_whole_isomorphisms_map_ro.Holds := by
  w_on; o_law; k_head; (case hw => w_witness2)
  k_fill
  refine Q9.walkG (l := PySem.Challenge.rw_handonwall_k96_whole_isomorphisms_map_ro) (n := 63) (k := 9) (x := "_law_script") (sp := fun K => Q9.fnSp (Q9.pur (Q9.spLw K))) rfl (by decide) rfl ⟨rfl, by decide, by decide⟩ (fun w h Y => PySem.W.kIn_of Y) ?F Q9.want_law
  case F =>
    intro w mg fl h KX G hmg
    refine' Q9.all_mk KX G hmg ?bf ?rf ?d13 ?d14 ?d15 ?d16 ?d22 ?d23 ?d24 ?d25 ?d26 ?d27 ?d28 ?d29 ?d30 ?d32 ?d33 ?d35 ?d36 ?d41 ?d42 ?d43 ?d44 ?d46 ?d50 ?d51 ?d52 ?d53 ?d54 ?d56 ?d57 ?d58 ?d59 ?d60 ?d61 ?d62 ?d63 ?d64 ?d65 ?d66 ?d67 ?d68 ?d69 ?d70 ?d71 ?d72 ?d73 ?d74 ?d75
    (case bf => refine' Q9.bf_mk ?b0 ?b1 ?b2 ?b3 ?b4 ?b5 ?b6 ?b7 ?b8 ?b9 ?b10 ?b11 ?b12 ?b13 ?b14 ?b15 ?b16 ?b17 ?b18 ?c0 ?c1 ?c2 ?c3 ?c4 ?c5 ?c6 ?c7 ?c8; (case b0 => k_is); (case b1 => k_is); (case b2 => k_is); (case b3 => k_is); (case b4 => k_is); (case b5 => k_is); (case b6 => k_is); (case b7 => k_is); (case b8 => k_is); (case b9 => k_is); (case b10 => k_is); (case b11 => k_is); (case b12 => k_is); (case b13 => k_is); (case b14 => k_is); (case b15 => k_is); (case b16 => k_is); (case b17 => k_is); (case b18 => k_is); (case c0 => k_is); (case c1 => k_is); (case c2 => k_is); (case c3 => k_is); (case c4 => k_is); (case c5 => k_is); (case c6 => k_is); (case c7 => k_is); (case c8 => k_is))
    (case rf => refine' Q9.rf_mk ?aC ?a1 ?i1 ?l1 ?c1 ?k1 ?a2 ?i2 ?l2 ?c2 ?k2 ?pg ?hd ?po ?sa ?mk ?kc ?n1 ?n2 ?n3 ?n4; (case aC => k_is); (case a1 => k_is); (case i1 => k_is); (case l1 => k_is); (case c1 => k_is); (case k1 => k_is); (case a2 => k_is); (case i2 => k_is); (case l2 => k_is); (case c2 => k_is); (case k2 => k_is); (case pg => k_is); (case hd => k_is); (case po => k_is); (case sa => k_is); (case mk => k_is); (case kc => k_is); (case n1 => k_is); (case n2 => k_is); (case n3 => k_is); (case n4 => k_is))
    (case d13 => refine' Q9.df_mk ?a ?l ?c ?k; (case a => k_is); (case l => k_is); (case c => k_is); (case k => k_is))
    (case d14 => refine' Q9.df_mk ?a ?l ?c ?k; (case a => k_is); (case l => k_is); (case c => k_is); (case k => k_is))
    (case d15 => refine' Q9.df_mk ?a ?l ?c ?k; (case a => k_is); (case l => k_is); (case c => k_is); (case k => k_is))
    (case d16 => refine' Q9.df_mk ?a ?l ?c ?k; (case a => k_is); (case l => k_is); (case c => k_is); (case k => k_is))
    (case d22 => refine' Q9.df_mk ?a ?l ?c ?k; (case a => k_is); (case l => k_is); (case c => k_is); (case k => k_is))
    (case d23 => refine' Q9.df_mk ?a ?l ?c ?k; (case a => k_is); (case l => k_is); (case c => k_is); (case k => k_is))
    (case d24 => refine' Q9.df_mk ?a ?l ?c ?k; (case a => k_is); (case l => k_is); (case c => k_is); (case k => k_is))
    (case d25 => refine' Q9.df_mk ?a ?l ?c ?k; (case a => k_is); (case l => k_is); (case c => k_is); (case k => k_is))
    (case d26 => refine' Q9.df_mk ?a ?l ?c ?k; (case a => k_is); (case l => k_is); (case c => k_is); (case k => k_is))
    (case d27 => refine' Q9.df_mk ?a ?l ?c ?k; (case a => k_is); (case l => k_is); (case c => k_is); (case k => k_is))
    (case d28 => refine' Q9.df_mk ?a ?l ?c ?k; (case a => k_is); (case l => k_is); (case c => k_is); (case k => k_is))
    (case d29 => refine' Q9.df_mk ?a ?l ?c ?k; (case a => k_is); (case l => k_is); (case c => k_is); (case k => k_is))
    (case d30 => refine' Q9.df_mk ?a ?l ?c ?k; (case a => k_is); (case l => k_is); (case c => k_is); (case k => k_is))
    (case d32 => refine' Q9.df_mk ?a ?l ?c ?k; (case a => k_is); (case l => k_is); (case c => k_is); (case k => k_is))
    (case d33 => refine' Q9.df_mk ?a ?l ?c ?k; (case a => k_is); (case l => k_is); (case c => k_is); (case k => k_is))
    (case d35 => refine' Q9.df_mk ?a ?l ?c ?k; (case a => k_is); (case l => k_is); (case c => k_is); (case k => k_is))
    (case d36 => refine' Q9.df_mk ?a ?l ?c ?k; (case a => k_is); (case l => k_is); (case c => k_is); (case k => k_is))
    (case d41 => refine' Q9.df_mk ?a ?l ?c ?k; (case a => k_is); (case l => k_is); (case c => k_is); (case k => k_is))
    (case d42 => refine' Q9.df_mk ?a ?l ?c ?k; (case a => k_is); (case l => k_is); (case c => k_is); (case k => k_is))
    (case d43 => refine' Q9.df_mk ?a ?l ?c ?k; (case a => k_is); (case l => k_is); (case c => k_is); (case k => k_is))
    (case d44 => refine' Q9.df_mk ?a ?l ?c ?k; (case a => k_is); (case l => k_is); (case c => k_is); (case k => k_is))
    (case d46 => refine' Q9.df_mk ?a ?l ?c ?k; (case a => k_is); (case l => k_is); (case c => k_is); (case k => k_is))
    (case d50 => refine' Q9.df_mk ?a ?l ?c ?k; (case a => k_is); (case l => k_is); (case c => k_is); (case k => k_is))
    (case d51 => refine' Q9.df_mk ?a ?l ?c ?k; (case a => k_is); (case l => k_is); (case c => k_is); (case k => k_is))
    (case d52 => refine' Q9.df_mk ?a ?l ?c ?k; (case a => k_is); (case l => k_is); (case c => k_is); (case k => k_is))
    (case d53 => refine' Q9.df_mk ?a ?l ?c ?k; (case a => k_is); (case l => k_is); (case c => k_is); (case k => k_is))
    (case d54 => refine' Q9.df_mk ?a ?l ?c ?k; (case a => k_is); (case l => k_is); (case c => k_is); (case k => k_is))
    (case d56 => refine' Q9.df_mk ?a ?l ?c ?k; (case a => k_is); (case l => k_is); (case c => k_is); (case k => k_is))
    (case d57 => refine' Q9.df_mk ?a ?l ?c ?k; (case a => k_is); (case l => k_is); (case c => k_is); (case k => k_is))
    (case d58 => refine' Q9.df_mk ?a ?l ?c ?k; (case a => k_is); (case l => k_is); (case c => k_is); (case k => k_is))
    (case d59 => refine' Q9.df_mk ?a ?l ?c ?k; (case a => k_is); (case l => k_is); (case c => k_is); (case k => k_is))
    (case d60 => refine' Q9.df_mk ?a ?l ?c ?k; (case a => k_is); (case l => k_is); (case c => k_is); (case k => k_is))
    (case d61 => refine' Q9.df_mk ?a ?l ?c ?k; (case a => k_is); (case l => k_is); (case c => k_is); (case k => k_is))
    (case d62 => refine' Q9.df_mk ?a ?l ?c ?k; (case a => k_is); (case l => k_is); (case c => k_is); (case k => k_is))
    (case d63 => refine' Q9.df_mk ?a ?l ?c ?k; (case a => k_is); (case l => k_is); (case c => k_is); (case k => k_is))
    (case d64 => refine' Q9.df_mk ?a ?l ?c ?k; (case a => k_is); (case l => k_is); (case c => k_is); (case k => k_is))
    (case d65 => refine' Q9.df_mk ?a ?l ?c ?k; (case a => k_is); (case l => k_is); (case c => k_is); (case k => k_is))
    (case d66 => refine' Q9.df_mk ?a ?l ?c ?k; (case a => k_is); (case l => k_is); (case c => k_is); (case k => k_is))
    (case d67 => refine' Q9.df_mk ?a ?l ?c ?k; (case a => k_is); (case l => k_is); (case c => k_is); (case k => k_is))
    (case d68 => refine' Q9.df_mk ?a ?l ?c ?k; (case a => k_is); (case l => k_is); (case c => k_is); (case k => k_is))
    (case d69 => refine' Q9.df_mk ?a ?l ?c ?k; (case a => k_is); (case l => k_is); (case c => k_is); (case k => k_is))
    (case d70 => refine' Q9.df_mk ?a ?l ?c ?k; (case a => k_is); (case l => k_is); (case c => k_is); (case k => k_is))
    (case d71 => refine' Q9.df_mk ?a ?l ?c ?k; (case a => k_is); (case l => k_is); (case c => k_is); (case k => k_is))
    (case d72 => refine' Q9.df_mk ?a ?l ?c ?k; (case a => k_is); (case l => k_is); (case c => k_is); (case k => k_is))
    (case d73 => refine' Q9.df_mk ?a ?l ?c ?k; (case a => k_is); (case l => k_is); (case c => k_is); (case k => k_is))
    (case d74 => refine' Q9.df_mk ?a ?l ?c ?k; (case a => k_is); (case l => k_is); (case c => k_is); (case k => k_is))
    (case d75 => refine' Q9.df_mk ?a ?l ?c ?k; (case a => k_is); (case l => k_is); (case c => k_is); (case k => k_is))
