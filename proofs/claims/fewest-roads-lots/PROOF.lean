import PyProof.Rows.All
import Wide.All
import OpenK.AllK
import Wide.FinOn
import HandS.ForMost
import HandS.ForExc
import HandS.Deep
import HandS.TupAny
import HandS.TupMul
import HandS.TupLen
import HandS.IsInst
import HandS.Lambda
import HandS.Zip
import HandS.Strs
import PySem.Challenge.RW_latchroads_k63_whole_fewest_roads_for_lo
import KE.KDictItemsList
import KE.KDictZip
import HandS.Zip0
import HandS.ListItems
import HandS.TupSets
import KE.KeyNested
import KE.KDictKeyed
import KE.KDictDisplayH
import HandS.ExcInit
import KE.KExcSuper
import HandS.Conv
import HandS.TryMany
import HandS.EndOwn
import KE.RegKSuper
import KE.RegKTryMore
import KE.KExcLine
set_option Elab.async false
set_option linter.all false
set_option maxRecDepth 100000
set_option maxHeartbeats 4000000
set_option autoImplicit false
namespace Lr
open PySem PySem.Spec PyProof.Rows L2

def keyP : L2.Key → PyData
  | .inl i => .int i
  | .inr x => .str x
mutual
inductive Rp (C : Hp) : V → PyData → Prop
  | non : Rp C .non .none
  | bl (b : Bool) : Rp C (.bl b) (.bool b)
  | int (i : Int) : Rp C (.int i) (.int i)
  | str (x : Str) : Rp C (.str x) (.str x)
  | lst {a : Addr} {xs : List V} {ds : List PyData} : C a = some (.lst xs) → RpA C xs ds → Rp C (.ref a) (.list ds)
  | tup {a : Addr} {xs : List V} {ds : List PyData} : C a = some (.tup xs) → RpA C xs ds → Rp C (.ref a) (.tuple ds)
  /-- a tuple of which the very object is known (its methods can be called), written as a dict that else never comes -/
  | fz {a : Addr} {o : Obj} {xs : List V} {ds : List PyData} : C a = some (.frz o (.tup xs)) → o.dict = none ∧ o.cls = .type "tuple" → RpA C xs ds → Rp C (.ref a) (.dict [(.tuple ds, .none)])
  /-- a dict with tuples as keys, its object known, never written again; its first entry is a mark -/
  | dct {a : Addr} {o : Obj} {ks : List (List L2.Key × V)} {es : List (PyData × PyData)} : C a = some (.frz o (.dT ks)) → RpD C ks es → Rp C (.ref a) (.dict ((.none, .none) :: es))
inductive RpA (C : Hp) : List V → List PyData → Prop
  | nil : RpA C [] []
  | cons {v : V} {vs : List V} {d : PyData} {ds : List PyData} : Rp C v d → RpA C vs ds → RpA C (v :: vs) (d :: ds)
inductive RpD (C : Hp) : List (List L2.Key × V) → List (PyData × PyData) → Prop
  | nil : RpD C [] []
  | cons {k : List L2.Key} {v : V} {xs : List PyData} {d : PyData} {ks : List (List L2.Key × V)} {es : List (PyData × PyData)} : xs = k.map keyP → Rp C v d → RpD C ks es → RpD C ((k, v) :: ks) ((.tuple xs, d) :: es)
end
def Ex (H H' : Hp) : Prop := ∀ a o, H a = some o → H' a = some o
theorem Ex.rfl {H : Hp} : Ex H H := fun _ _ h => h
theorem Ex.tr {H H1 H2 : Hp} (a : Ex H H1) (b : Ex H1 H2) : Ex H H2 := fun x o h => b x o (a x o h)
theorem Ex.back {H H' : Hp} (e : Ex H H') {p : Addr} (h : H' p = none) : H p = none := by
  cases q : H p with
  | none => exact Eq.refl _
  | some o => rw [e p o q] at h; cases h
theorem Ex.new {H : Hp} {p : Addr} {o : HO} (h : H p = none) : Ex H (upd H p o) := fun a u e => by
  rw [upd_ne (ne_of_none e h)]; exact e
mutual
theorem Rp.up {C C' : Hp} : ∀ {v : V} {d : PyData}, Rp C v d → Ex C C' → Rp C' v d
  | _, _, .non, _ => .non
  | _, _, .bl b, _ => .bl b
  | _, _, .int i, _ => .int i
  | _, _, .str x, _ => .str x
  | _, _, .lst h1 h2, e => .lst (e _ _ h1) (RpA.up h2 e)
  | _, _, .tup h1 h2, e => .tup (e _ _ h1) (RpA.up h2 e)
  | _, _, .fz h1 hd h2, e => .fz (e _ _ h1) hd (RpA.up h2 e)
  | _, _, .dct h1 h2, e => .dct (e _ _ h1) (RpD.up h2 e)
theorem RpA.up {C C' : Hp} : ∀ {vs : List V} {ds : List PyData}, RpA C vs ds → Ex C C' → RpA C' vs ds
  | _, _, .nil, _ => .nil
  | _, _, .cons h1 h2, e => .cons (Rp.up h1 e) (RpA.up h2 e)
theorem RpD.up {C C' : Hp} : ∀ {ks : List (List L2.Key × V)} {es : List (PyData × PyData)}, RpD C ks es → Ex C C' → RpD C' ks es
  | _, _, .nil, _ => .nil
  | _, _, .cons q h1 h2, e => .cons q (Rp.up h1 e) (RpD.up h2 e)
end
mutual
theorem Rp.dp {K : PySem.W.Frag} {C : Hp} : ∀ (d : PyData) (v : V), PyData.canLay0 d = true → Rp C v d → Dp K C v d
  | .none, _, _, h => by cases h; exact .non
  | .bool _, _, _, h => by cases h; exact .bl _
  | .int _, _, _, h => by cases h; exact .int _
  | .str _, _, _, h => by cases h; exact .str _
  | .list ds, _, e, h => by
    cases h with
    | lst h1 h2 => exact .lst (SqL.of h1) (RpA.dp ds _ (by simpa only [PyData.canLay0] using e) h2)
  | .tuple ds, _, e, h => by
    cases h with
    | tup h1 h2 => exact .tup (SqT.of h1) (RpA.dp ds _ (by simpa only [PyData.canLay0] using e) h2)
  | .dict _, _, e, _ => by simp [PyData.canLay0] at e
theorem RpA.dp {K : PySem.W.Frag} {C : Hp} : ∀ (ds : List PyData) (vs : List V), PyData.canLayAll0 ds = true → RpA C vs ds → DpAll K C vs ds
  | [], _, _, h => by cases h; exact .nil
  | d :: ds, _, e, h => by
    cases h with
    | cons h1 h2 =>
      simp only [PyData.canLayAll0, Bool.and_eq_true] at e
      exact .cons (Rp.dp d _ e.1 h1) (RpA.dp ds _ e.2 h2)
end
theorem RpA.len {C : Hp} : ∀ {vs : List V} {ds : List PyData}, RpA C vs ds → vs.length = ds.length
  | _, _, .nil => rfl
  | _, _, .cons _ t => congrArg (· + 1) (RpA.len t)
theorem RpA.app {C : Hp} : ∀ {vs ws : List V} {ds es : List PyData}, RpA C vs ds → RpA C ws es → RpA C (vs ++ ws) (ds ++ es)
  | _, _, _, _, .nil, s => s
  | _, _, _, _, .cons r t, s => .cons r (RpA.app t s)
theorem RpA.one {C : Hp} {v : V} {d : PyData} (h : Rp C v d) : RpA C [v] [d] := .cons h .nil
theorem RpA.get {C : Hp} : ∀ {vs : List V} {ds : List PyData} {i : Nat} {d : PyData}, RpA C vs ds → ds[i]? = some d → ∃ v, vs[i]? = some v ∧ Rp C v d
  | _, _, _, _, .nil, h => by simp at h
  | _, _, 0, _, .cons r _, h => ⟨_, rfl, by simp at h; subst h; exact r⟩
  | _, _, i + 1, _, .cons _ t, h => by
    obtain ⟨v, h1, h2⟩ := RpA.get (i := i) t (by simpa using h)
    exact ⟨v, by simpa using h1, h2⟩
theorem RpA.getV {C : Hp} : ∀ {vs : List V} {ds : List PyData} {i : Nat} {v : V}, RpA C vs ds → vs[i]? = some v → ∃ d, ds[i]? = some d ∧ Rp C v d
  | _, _, _, _, .nil, h => by simp at h
  | _, _, 0, _, .cons r _, h => ⟨_, rfl, by simp at h; subst h; exact r⟩
  | _, _, i + 1, _, .cons _ t, h => by
    obtain ⟨v, h1, h2⟩ := RpA.getV (i := i) t (by simpa using h)
    exact ⟨v, by simpa using h1, h2⟩
theorem RpA.take {C : Hp} : ∀ {vs : List V} {ds : List PyData} (n : Nat), RpA C vs ds → RpA C (vs.take n) (ds.take n)
  | _, _, 0, _ => .nil
  | _, _, _ + 1, .nil => .nil
  | _, _, n + 1, .cons r t => .cons r (RpA.take n t)
theorem RpA.drop {C : Hp} : ∀ {vs : List V} {ds : List PyData} (n : Nat), RpA C vs ds → RpA C (vs.drop n) (ds.drop n)
  | _, _, 0, r => r
  | _, _, _ + 1, .nil => .nil
  | _, _, n + 1, .cons _ t => RpA.drop n t
theorem RpA.erase {C : Hp} : ∀ {vs : List V} {ds : List PyData} (n : Nat), RpA C vs ds → RpA C (vs.eraseIdx n) (ds.eraseIdx n)
  | _, _, _, .nil => .nil
  | _, _, 0, .cons _ t => t
  | _, _, n + 1, .cons r t => .cons r (RpA.erase n t)
theorem RpA.rep {C : Hp} {vs : List V} {ds : List PyData} (h : RpA C vs ds) : ∀ n : Nat, RpA C (List.replicate n vs).flatten (List.replicate n ds).flatten
  | 0 => .nil
  | n + 1 => by
    rw [List.replicate_succ, List.replicate_succ, List.flatten_cons, List.flatten_cons]
    exact RpA.app h (RpA.rep h n)

inductive Err where
  | of (C : Addr)
  | many (C : Addr) (n : Int)
def ErrAt (e : Err) (cls : Value) (d : Option Addr) (H : Hp) : Prop := match e with
  | .of C => cls = .ref C ∧ d = none
  | .many C n => cls = .ref C ∧ ∃ a, d = some a ∧ H a = some (.xd [("limit", .int n)])
/-- the cup: a list of two numbers that the law draws from -/
def CupAt (H : Hp) (p : Addr) : Prop := ∃ a b : Int, H p = some (.lst [.int a, .int b]) ∧ 0 ≤ a ∧ 0 ≤ b ∧ b < 2 ^ 40
/-- cup: the cup's address, tb: tables of code objects (both may change); B: what was tracked at the entry but for these, C0: the core at the entry; E, R: what is wanted of an exception -/
structure Cz where
  cup : Option Addr
  tb : List (Addr × Str)
  B : Hp
  C0 : Hp
  E : XK
  R : Err → Prop
def Cz.ex (z : Cz) (a : Addr) : Prop := z.cup = some a ∨ ∃ p ∈ z.tb, p.1 = a
def Cz.ok (z : Cz) (H : Hp) : Prop := (∀ p, z.cup = some p → CupAt H p) ∧ LamX.Tabs z.tb H
theorem Cz.keep (z : Cz) (H H' : Hp) (h : z.ok H) (e : Ex H H') : z.ok H' :=
  ⟨fun p q => let ⟨a, b, h1, r⟩ := h.1 p q; ⟨a, b, e _ _ h1, r⟩, h.2.ext e⟩
theorem Cz.there (z : Cz) (H : Hp) (a : Addr) (h : z.ok H) (x : z.ex a) : H a ≠ none := by
  rcases x with x | ⟨p, hp, rfl⟩
  · obtain ⟨_, _, h1, _⟩ := h.1 a x
    rw [h1]; simp
  · obtain ⟨ps, h1, _⟩ := h.2 p hp
    rw [h1]; simp
/-- the cup has turned, all else stands -/
theorem Cz.turn (z : Cz) {H H' : Hp} {p : Addr} (h : z.ok H) (hc : z.cup = some p) (e : ∀ a o, a ≠ p → H a = some o → H' a = some o) (c : CupAt H' p) : z.ok H' := by
  obtain ⟨a0, b0, h0, _⟩ := h.1 p hc
  refine ⟨fun q hq => ?_, fun t ht => ?_⟩
  · rw [hc] at hq; cases hq; exact c
  · obtain ⟨ps, h1, h2, h3⟩ := h.2 t ht
    have n1 : t.1 ≠ p := fun x => by rw [x, h0] at h1; cases h1
    refine ⟨ps, e _ _ n1 h1, h2, fun pos cv hcv => ?_⟩
    obtain ⟨c', e1, e2⟩ := h3 pos cv hcv
    refine ⟨c', e1, e _ _ (fun x => ?_) e2⟩
    rw [x, h0] at e2
    cases e2
/-- what is wanted of exceptions is answered by R -/
def Cz.hR (z : Cz) : Prop := ∀ e cls d H', z.R e → Ex z.B H' → z.ok H' → ErrAt e cls d H' → z.E cls d H'
structure Core (z : Cz) (C H : Hp) : Prop where
  b : Ex z.B H
  c0 : Ex z.C0 C
  ch : Ex C H
  fr : ∀ a, C a ≠ none → z.C0 a = none → z.B a = none
  ex : ∀ a, z.ex a → z.B a = none ∧ C a = none
  ok : z.ok H
structure Gw (z : Cz) (C H C' H' : Hp) : Prop where
  cc : Ex C C'
  ch : Ex C' H'
  hh : ∀ a o, ¬ z.ex a → H a = some o → H' a = some o
  fr : ∀ a, C' a ≠ none → C a = none → H a = none
  ok : z.ok H'
section
variable {z : Cz} {C H C' H' C'' H'' : Hp}
theorem Core.rf (c : Core z C H) : Gw z C H C H := ⟨Ex.rfl, c.ch, fun _ _ _ h => h, fun a h e => absurd e h, c.ok⟩
theorem Gw.back (g : Gw z C H C' H') {a : Addr} (h : H' a = none) : H a = none := by
  by_cases x : z.ex a
  · exact absurd h (z.there _ _ g.ok x)
  · cases q : H a with
    | none => rfl
    | some o => rw [g.hh a o x q] at h; cases h
theorem Core.gw (c : Core z C H) (g : Gw z C H C' H') : Core z C' H' where
  b := fun a o h => g.hh a o (fun x => by rw [(c.ex a x).1] at h; cases h) (c.b a o h)
  c0 := c.c0.tr g.cc
  ch := g.ch
  fr := fun a h e => by
    cases q : C a with
    | some o => exact c.fr a (by rw [q]; simp) e
    | none => exact c.b.back (g.fr a h q)
  ex := fun a x => ⟨(c.ex a x).1, by
    cases q : C' a with
    | none => rfl
    | some o => exact absurd (g.fr a (by rw [q]; simp) (c.ex a x).2) (z.there _ _ c.ok x)⟩
  ok := g.ok
theorem Gw.tr (a : Gw z C H C' H') (b : Gw z C' H' C'' H'') : Gw z C H C'' H'' where
  cc := a.cc.tr b.cc
  ch := b.ch
  hh := fun p o x h => b.hh p o x (a.hh p o x h)
  fr := fun p h e => by
    cases q : C' p with
    | some o => exact a.fr p (by rw [q]; simp) e
    | none => exact a.back (b.fr p h q)
  ok := b.ok
/-- a new object joins the core -/
theorem Core.new (c : Core z C H) {p : Addr} {o : HO} (h : H p = none) : Gw z C H (upd C p o) (upd H p o) where
  cc := Ex.new (c.ch.back h)
  ch := fun a u e => by
    by_cases q : a = p
    · subst q; rw [upd_same] at e ⊢; exact e
    · rw [upd_ne q] at e ⊢; exact c.ch a u e
  hh := fun a u _ e => Ex.new h a u e
  fr := fun a e n => by
    by_cases q : a = p
    · subst q; exact h
    · rw [upd_ne q] at e; exact absurd n e
  ok := z.keep _ _ c.ok (Ex.new h)
/-- the heap alone grows -/
theorem Core.grow (c : Core z C H) (e : Ex H H') : Gw z C H C H' := ⟨Ex.rfl, c.ch.tr e, fun a o _ h => e a o h, fun a h n => absurd n h, z.keep _ _ c.ok e⟩
end

inductive En where
  | d (x : PyData)
  | own (xs : List PyData)
  | dct (kvs : List (List Nat × PyData))
  | cup
abbrev Env' := List (Option En)
def En.mut : Option En → Bool
  | some (.own _) => true
  | some (.dct _) => true
  | _ => false
def DcAt (C H : Hp) (q : Addr) (kvs : List (List Nat × PyData)) : Prop := ∃ ks : List (List Key × V), H q = some (.dT ks) ∧ Paired (fun (a : List Key × V) (b : List Nat × PyData) => a.1 = (b.1.map fun (n : Nat) => (Sum.inl (n : Int) : Key)) ∧ Rp C a.2 b.2) ks kvs
def EnOk (z : Cz) (C H : Hp) : Option V → Option En → Prop
  | _, none => True
  | none, some _ => False
  | some v, some (.d x) => Rp C v x
  | some v, some .cup => ∃ p, v = .ref p ∧ z.cup = some p
  | some v, some (.own xs) => ∃ q vs, v = .ref q ∧ C q = none ∧ z.B q = none ∧ ¬ z.ex q ∧ H q = some (.lst vs) ∧ RpA C vs xs
  | some v, some (.dct kvs) => ∃ q, v = .ref q ∧ C q = none ∧ z.B q = none ∧ ¬ z.ex q ∧ DcAt C H q kvs
structure ER (z : Cz) (C H : Hp) (σ : L2.St) (ρ : Env') : Prop where
  len : σ.length = ρ.length
  at_ : ∀ i, EnOk z C H (σ.getD i none) (ρ.getD i none)
  ap : ∀ i j q, i ≠ j → σ.getD i none = some (.ref q) → En.mut (ρ.getD i none) = true → σ.getD j none = some (.ref q) → En.mut (ρ.getD j none) = false
section
variable {z : Cz} {C H C' H' : Hp} {σ : L2.St} {ρ : Env'}
theorem Paired.mapQ {α β : Type} {F G : α → β → Prop} : ∀ {l₁ : List α} {l₂ : List β}, Paired F l₁ l₂ → (∀ a b, F a b → G a b) → Paired G l₁ l₂
  | _, _, .nil, _ => .nil
  | _, _, .cons r t, f => .cons (f _ _ r) (Paired.mapQ t f)
theorem EnOk.gw {a : Option V} {b : Option En} (g : Gw z C H C' H') (x : EnOk z C H a b) : EnOk z C' H' a b := by
  have non : ∀ q o, H q = some o → C q = none → C' q = none := fun q o h n => by
    cases e : C' q with
    | none => rfl
    | some u => have := g.fr q (by rw [e]; simp) n; rw [this] at h; cases h
  cases b with
  | none => cases a <;> trivial
  | some b =>
    cases a with
    | none => cases b <;> exact x
    | some v =>
      cases b with
      | d d => exact Rp.up x g.cc
      | cup => exact x
      | own xs =>
        obtain ⟨q, vs, h1, h2, h3, h4, h5, h6⟩ := x
        exact ⟨q, vs, h1, non q _ h5 h2, h3, h4, g.hh _ _ h4 h5, h6.up g.cc⟩
      | dct kvs =>
        obtain ⟨q, h1, h2, h3, h4, ks, h5, h6⟩ := x
        exact ⟨q, h1, non q _ h5 h2, h3, h4, ks, g.hh _ _ h4 h5, Paired.mapQ h6 fun a b y => ⟨y.1, y.2.up g.cc⟩⟩
theorem ER.gw (g : Gw z C H C' H') (x : ER z C H σ ρ) : ER z C' H' σ ρ := ⟨x.len, fun i => (x.at_ i).gw g, x.ap⟩
theorem getD_set {α : Type} (l : List α) (i j : Nat) (x d : α) : (l.set i x).getD j d = if i = j ∧ j < l.length then x else l.getD j d := by
  rw [List.getD_eq_getElem?_getD, List.getD_eq_getElem?_getD, List.getElem?_set]
  by_cases h : i = j
  · subst h
    by_cases h2 : i < l.length
    · simp [h2]
    · simp [h2]
  · simp [h]
theorem ER.var {i : Nat} {d : PyData} (x : ER z C H σ ρ) (h : ρ[i]? = some (some (.d d))) : ∃ v, σ[i]? = some (some v) ∧ Rp C v d := by
  have q := x.at_ i
  have e : ρ.getD i none = some (.d d) := by rw [List.getD_eq_getElem?_getD, h]; rfl
  rw [e] at q
  cases s : σ[i]? with
  | none => rw [List.getD_eq_getElem?_getD, s] at q; exact q.elim
  | some o =>
    cases o with
    | none => rw [List.getD_eq_getElem?_getD, s] at q; exact q.elim
    | some v => rw [List.getD_eq_getElem?_getD, s] at q; exact ⟨v, rfl, q⟩
/-- a name is bound to data -/
theorem ER.set {i : Nat} {v : V} {d : PyData} (x : ER z C H σ ρ) (h : Rp C v d) : ER z C H (σ.set i (some v)) (ρ.set i (some (.d d))) where
  len := by simp [x.len]
  at_ := fun j => by
    rw [getD_set, getD_set]
    by_cases e : i = j ∧ j < σ.length
    · rw [if_pos e, if_pos ⟨e.1, by rw [← x.len]; exact e.2⟩]; exact h
    · rw [if_neg e, if_neg (by rw [← x.len]; exact e)]; exact x.at_ j
  ap := fun j k q n e1 e2 e3 => by
    rw [getD_set] at e1 e2 e3 ⊢
    rw [← x.len] at *
    by_cases ej : i = j ∧ j < σ.length
    · rw [if_pos ej] at e2; cases e2
    · by_cases ek : i = k ∧ k < σ.length
      · rw [if_pos ek]; rfl
      · rw [if_neg ej] at e1 e2; rw [if_neg ek] at e3 ⊢
        exact x.ap j k q n e1 e2 e3
/-- a name is forgotten -/
theorem ER.del {i : Nat} (x : ER z C H σ ρ) : ER z C H (σ.set i none) (ρ.set i none) where
  len := by simp [x.len]
  at_ := fun j => by
    rw [getD_set, getD_set]
    by_cases e : i = j ∧ j < σ.length
    · rw [if_pos e, if_pos ⟨e.1, by rw [← x.len]; exact e.2⟩]; trivial
    · rw [if_neg e, if_neg (by rw [← x.len]; exact e)]; exact x.at_ j
  ap := fun j k q n e1 e2 e3 => by
    rw [getD_set] at e1 e2 e3 ⊢
    rw [← x.len] at *
    by_cases ej : i = j ∧ j < σ.length
    · rw [if_pos ej] at e2; cases e2
    · by_cases ek : i = k ∧ k < σ.length
      · rw [if_pos ek]; rfl
      · rw [if_neg ej] at e1 e2; rw [if_neg ek] at e3 ⊢
        exact x.ap j k q n e1 e2 e3
def wipe' (ρ : Env') : List Nat → Env'
  | [] => ρ
  | v :: vs => (wipe' ρ vs).set v none
theorem ER.wipe (x : ER z C H σ ρ) : ∀ vs : List Nat, ER z C H (L2.wipe σ vs) (wipe' ρ vs)
  | [] => x
  | v :: vs => (ER.wipe x vs).del
end

abbrev WE := Env' → (PyData → Prop) → Prop
abbrev WT := Env' → (Bool → Prop) → Prop
abbrev WA := Env' → (List PyData → Prop) → Prop
structure Pn where
  nx : Env' → Prop
  rt : PyData → Prop
  bk : Env' → Prop := fun _ => False
  ct : Env' → Prop := fun _ => False
abbrev WS := Pn → Env' → Prop
def lE (z : Cz) (w : WE) : TE := fun σ H Q => ∃ C ρ P, Core z C H ∧ ER z C H σ ρ ∧ w ρ P ∧ ∀ d v C' H', P d → Gw z C H C' H' → Rp C' v d → Q v H'
def lT (z : Cz) (w : WT) : TT := fun σ H Q => ∃ C ρ P, Core z C H ∧ ER z C H σ ρ ∧ w ρ P ∧ ∀ b C' H', P b → Gw z C H C' H' → Q b H'
def lA (z : Cz) (w : WA) : TA := fun σ H Q => ∃ C ρ P, Core z C H ∧ ER z C H σ ρ ∧ w ρ P ∧ ∀ ds vs C' H', P ds → Gw z C H C' H' → RpA C' vs ds → Q vs H'
structure DOk (z : Cz) (C : Hp) (P : Pn) (D : Ends) : Prop where
  nx : ∀ ρ σ C' H, P.nx ρ → Core z C' H → Ex C C' → ER z C' H σ ρ → D.nx σ H
  rt : ∀ d v C' H, P.rt d → Core z C' H → Ex C C' → Rp C' v d → D.rt v H
  bk : ∀ ρ σ C' H, P.bk ρ → Core z C' H → Ex C C' → ER z C' H σ ρ → D.bk σ H
  ct : ∀ ρ σ C' H, P.ct ρ → Core z C' H → Ex C C' → ER z C' H σ ρ → D.ct σ H
def lS (z : Cz) (w : WS) : TS := fun D σ H => ∃ C ρ P, Core z C H ∧ ER z C H σ ρ ∧ w P ρ ∧ DOk z C P D
theorem DOk.up {z : Cz} {C C' : Hp} {P : Pn} {D : Ends} (h : DOk z C P D) (e : Ex C C') : DOk z C' P D :=
  ⟨fun ρ σ C2 H p c x r => h.nx ρ σ C2 H p c (e.tr x) r, fun d v C2 H p c x r => h.rt d v C2 H p c (e.tr x) r, fun ρ σ C2 H p c x r => h.bk ρ σ C2 H p c (e.tr x) r, fun ρ σ C2 H p c x r => h.ct ρ σ C2 H p c (e.tr x) r⟩
section
variable {X : Cx}
theorem _root_.L2.PE.by {e : Expr} {t t' : TE} (h : PE X e t) (f : ∀ σ H Q, t' σ H Q → t σ H Q) : PE X e t' := ⟨fun pins s σ H Q I hw => h.run pins s σ H Q I (f σ H Q hw)⟩
theorem _root_.L2.PT.by {e : Expr} {t t' : TT} (h : PT X e t) (f : ∀ σ H Q, t' σ H Q → t σ H Q) : PT X e t' := ⟨fun pins s σ H Q I hw => h.run pins s σ H Q I (f σ H Q hw)⟩
theorem _root_.L2.PW.by {e : Expr} {t t' : TT} (h : PW X e t) (f : ∀ σ H Q, t' σ H Q → t σ H Q) : PW X e t' := ⟨fun wh pins s σ H Q I hw => h.run wh pins s σ H Q I (f σ H Q hw)⟩
theorem _root_.L2.PA.by {e : List Expr} {t t' : TA} (h : PA X e t) (f : ∀ σ H Q, t' σ H Q → t σ H Q) : PA X e t' := ⟨fun pos pins s σ H Q I hw => h.run pos pins s σ H Q I (f σ H Q hw)⟩
theorem _root_.L2.PS.by {e : Stmt} {t t' : TS} (h : PS X e t) (f : ∀ D σ H, t' D σ H → t D σ H) : PS X e t' := ⟨fun pins s σ H D I hw => h.run pins s σ H D I (f D σ H hw)⟩
theorem _root_.L2.PSs.by {e : List Stmt} {t t' : TS} (h : PSs X e t) (f : ∀ D σ H, t' D σ H → t D σ H) : PSs X e t' := ⟨fun pins s σ H D I hw => h.run pins s σ H D I (f D σ H hw)⟩
end
/-- a target: the slots that it stores -/
abbrev WG := PyData → Env' → (Env' → Prop) → Prop
abbrev WGs := List PyData → Env' → (Env' → Prop) → Prop
def Out (sl : List Nat) (σ σ' : L2.St) : Prop := σ'.length = σ.length ∧ ∀ i, i ∉ sl → σ'[i]? = σ[i]?
def lG (z : Cz) (sl : List Nat) (g : WG) : TG := fun v σ H Q => ∃ C ρ d P, Core z C H ∧ ER z C H σ ρ ∧ Rp C v d ∧ g d ρ P ∧ ∀ ρ' σ', P ρ' → (∀ C2 H2, Ex C C2 → ER z C2 H2 σ ρ → ER z C2 H2 σ' ρ') → Out sl σ σ' → Q σ' H
def lGs (z : Cz) (sl : List Nat) (g : WGs) : TGs := fun vs σ H Q => ∃ C ρ ds P, Core z C H ∧ ER z C H σ ρ ∧ RpA C vs ds ∧ g ds ρ P ∧ ∀ ρ' σ', P ρ' → (∀ C2 H2, Ex C C2 → ER z C2 H2 σ ρ → ER z C2 H2 σ' ρ') → Out sl σ σ' → Q σ' H
end Lr
namespace Lr
open PySem PySem.Spec PyProof.Rows L2

abbrev F2 := PyData → PyData → (PyData → Prop) → Prop
abbrev F1 := PyData → (PyData → Prop) → Prop
abbrev FL := List PyData → (PyData → Prop) → Prop
abbrev FX := List PyData → (PyData → Prop) → (Err → Prop) → Prop
def lim : Nat := 10000000
theorem lim_ok {n : Nat} (h : n ≤ lim) : n ≤ sizeLine := Nat.le_trans h (by decide)
theorem lim_lt {n : Nat} (h : n ≤ lim) : n < sizeLine := Nat.lt_of_le_of_lt h (by decide)

def wV (i : Nat) : WE := fun ρ P => ∃ d, ρ[i]? = some (some (.d d)) ∧ P d
def wC (d : PyData) : WE := fun _ P => P d
def w2 (f : F2) (a b : WE) : WE := fun ρ P => a ρ fun x => b ρ fun y => f x y P
def w1 (f : F1) (a : WE) : WE := fun ρ P => a ρ fun x => f x P
def wL (f : FL) (t : WA) : WE := fun ρ P => t ρ fun xs => f xs P
def wNil : WA := fun _ P => P []
def wCons (a : WE) (t : WA) : WA := fun ρ P => a ρ fun x => t ρ fun xs => P (x :: xs)
def fTup : FL := fun xs P => xs.length ≤ lim ∧ P (.tuple xs)
def fLst : FL := fun xs P => xs.length ≤ lim ∧ P (.list xs)
def fAdd : F2
  | .int i, .int j, P => P (.int (i + j))
  | .list a, .list b, P => a.length + b.length ≤ lim ∧ P (.list (a ++ b))
  | .tuple a, .tuple b, P => a.length + b.length ≤ lim ∧ P (.tuple (a ++ b))
  | .str a, .str b, P => a.length + b.length ≤ lim ∧ P (.str (a ++ b))
  | _, _, _ => False
def fSub : F2
  | .int i, .int j, P => P (.int (i - j))
  | _, _, _ => False
def fMul : F2
  | .int i, .int j, P => CMul i j ∧ P (.int (i * j))
  | .list a, .int k, P => 0 ≤ k ∧ k ≤ 1000 ∧ a.length ≤ 1000 ∧ P (.list (List.replicate k.toNat a).flatten)
  | _, _, _ => False
def fMod : F2
  | .int i, .int j, P => 0 < j ∧ P (.int (i % j))
  | _, _, _ => False
def fDiv : F2
  | .int i, .int j, P => CDiv i j ∧ P (.int (i / j))
  | _, _, _ => False
def fPow : F2
  | .int i, .int j, P => CPow i j ∧ P (.int (i ^ j.toNat))
  | _, _, _ => False
def fNeg : F1
  | .int i, P => P (.int (-i))
  | _, _ => False
def fCmp (g : Int → Int → Bool) : F2
  | .int i, .int j, P => P (.bool (g i j))
  | _, _, _ => False
def fLt : F2 := fCmp fun i j => decide (i < j)
def fLe : F2 := fCmp fun i j => decide (i ≤ j)
def fGt : F2 := fCmp fun i j => decide (j < i)
def fGe : F2 := fCmp fun i j => decide (j ≤ i)
def sh (d : PyData) : Prop := SeqAt.shaped d = true
def fEq : F2 := fun d e P => sh d ∧ sh e ∧ P (.bool (PyData.eqv d e))
def fNe : F2 := fun d e P => sh d ∧ sh e ∧ P (.bool (!PyData.eqv d e))
def fIn : F2
  | d, .list ds, P => sh d ∧ sh (.list ds) ∧ P (.bool (ds.any fun z => PyData.eqv z d))
  | _, _, _ => False
def fNotIn : F2
  | d, .list ds, P => sh d ∧ sh (.list ds) ∧ P (.bool (!ds.any fun z => PyData.eqv z d))
  | _, _, _ => False
def isN : PyData → Bool
  | .none => true
  | _ => false
def fIsN : F1 := fun d P => P (.bool (isN d))
def fNotN : F1 := fun d P => P (.bool (!isN d))
def fIx : F2
  | .list ds, .int i, P => ∃ d, atI ds i = some d ∧ P d
  | .tuple ds, .int i, P => ∃ d, atI ds i = some d ∧ P d
  | _, _, _ => False
def wAnd (a b : WE) : WE := fun ρ P => a ρ fun x => match x with
  | .bool true => b ρ P
  | .bool false => P (.bool false)
  | _ => False
def wOr (a b : WE) : WE := fun ρ P => a ρ fun x => match x with
  | .bool false => b ρ P
  | .bool true => P (.bool true)
  | _ => False
def wNot (a : WE) : WE := fun ρ P => a ρ fun x => match x with
  | .bool b => P (.bool (!b))
  | _ => False
def tV (a : WE) : WT := fun ρ P => a ρ fun x => match x with
  | .bool b => P b
  | _ => False
def tAndW (a b : WT) : WT := fun ρ P => a ρ fun x => if x = true then b ρ P else P false
def tOrW (a b : WT) : WT := fun ρ P => a ρ fun x => if x = true then P true else b ρ P
def tNotW (a : WT) : WT := fun ρ P => a ρ fun x => P (!x)
def tTrue : WT := fun _ P => P true
def wIf (c : WT) (a b : WE) : WE := fun ρ P => c ρ fun x => if x = true then a ρ P else b ρ P
def wChain (f g : F2) (a b c : WE) : WE := fun ρ P => a ρ fun x => b ρ fun y => f x y fun r => match r with
  | .bool true => c ρ fun u => g y u P
  | .bool false => P (.bool false)
  | _ => False
def fLen : F1
  | .list ds, P => P (.int ds.length)
  | .tuple ds, P => P (.int ds.length)
  | _, _ => False
def fTuple : F1
  | .list ds, P => P (.tuple ds)
  | .tuple ds, P => P (.tuple ds)
  | _, _ => False
def fList : F1
  | .list ds, P => P (.list ds)
  | .tuple ds, P => P (.list ds)
  | _, _ => False
def boolsOf : List PyData → Option (List Bool)
  | [] => some []
  | .bool b :: r => (boolsOf r).map (b :: ·)
  | _ :: _ => none
def fAll : F1
  | .list ds, P => ∃ bs, boolsOf ds = some bs ∧ P (.bool (bs.all id))
  | _, _ => False
def fInt : F1
  | .int i, P => P (.int i)
  | _, _ => False
def fAbs : F1
  | .int i, P => P (.int (if i < 0 then -i else i))
  | _, _ => False
def fSlice (lo hi : Option Int) : F1
  | .list ds, P => P (.list ((ds.drop (HT.sIx ds.length 0 lo)).take (HT.sIx ds.length ds.length hi - HT.sIx ds.length 0 lo)))
  | .tuple ds, P => P (.tuple ((ds.drop (HT.sIx ds.length 0 lo)).take (HT.sIx ds.length ds.length hi - HT.sIx ds.length 0 lo)))
  | _, _ => False
/-- x.index(y) of a list -/
def fIndex : F2
  | .list ds, d, P => sh d ∧ sh (.list ds) ∧ ∃ j z, ds[j]? = some z ∧ PyData.eqv z d = true ∧ (∀ (m : Nat) (z' : PyData), m < j → ds[m]? = some z' → PyData.eqv z' d = false) ∧ P (.int (j : Nat))
  | _, _, _ => False

section
variable {X : Cx} {z : Cz} {e a b c : Expr} {es : List Expr} {wa wb wc : WE} {ta tb : WT} {t : WA} {pos : Pos}
theorem je_var (i : Nat) {x : Str} (h : PE X (.Name x pos) (tVar i)) : PE X (.Name x pos) (lE z (wV i)) := h.by fun σ H Q ⟨C, ρ, P, c, er, ⟨d, h1, h2⟩, k⟩ => by
  obtain ⟨v, h3, h4⟩ := er.var h1
  exact ⟨v, h3, k d v C H h2 c.rf h4⟩
theorem je_int {i j} : PE X (.Constant (.int i) j pos) (lE z (wC (.int i))) := pe_int.by fun σ H Q ⟨C, ρ, P, c, er, h, k⟩ => k _ _ C H h c.rf (.int _)
theorem je_bl {i j} : PE X (.Constant (.bool i) j pos) (lE z (wC (.bool i))) := pe_bl.by fun σ H Q ⟨C, ρ, P, c, er, h, k⟩ => k _ _ C H h c.rf (.bl _)
theorem je_non {j} : PE X (.Constant .none j pos) (lE z (wC .none)) := pe_non.by fun σ H Q ⟨C, ρ, P, c, er, h, k⟩ => k _ _ C H h c.rf .non
theorem je_str {i j} : PE X (.Constant (.str i) j pos) (lE z (wC (.str i))) := pe_str.by fun σ H Q ⟨C, ρ, P, c, er, h, k⟩ => k _ _ C H h c.rf (.str _)
/-- a number of the module -/
theorem je_gint {x : Str} {i : Int} {tk : Tok} (hg : Gl X x) (hm : X.mg x = some (.int i tk)) (hd : (x == ("__debug__" : Str)) = false := by decide) : PE X (.Name x pos) (lE z (wC (.int i))) :=
  (pe_glob (v := .int i) hg hm ⟨_, rfl⟩ hd).by fun σ H Q ⟨C, ρ, P, c, er, h, k⟩ => k _ _ C H h c.rf (.int _)
theorem ja_nil : PA X [] (lA z wNil) := pa_nil.by fun σ H Q ⟨C, ρ, P, c, er, h, k⟩ => k _ _ C H h c.rf .nil
theorem ja_cons (ha : PE X e (lE z wa)) (hr : PA X es (lA z t)) (hs : starEach (e :: es) X.env = (false, eval e X.env) :: starEach es X.env := by rfl) : PA X (e :: es) (lA z (wCons wa t)) :=
  (pa_cons ha hr hs).by fun σ H Q ⟨C, ρ, P, c, er, w, k⟩ => ⟨C, ρ, _, c, er, w, fun d v C1 H1 p g r => ⟨C1, ρ, _, c.gw g, er.gw g, p, fun ds vs C2 H2 p2 g2 r2 => k _ _ C2 H2 p2 (g.tr g2) (.cons (r.up g2.cc) r2)⟩⟩
/-- a reading of two values against a function on data -/
def Ho2 (z : Cz) (r : R2) (f : F2) : Prop := ∀ (C H : Hp) (x y : V) (d e : PyData) (P : PyData → Prop) (Q : VK), Core z C H → Rp C x d → Rp C y e → f d e P → (∀ d v C' H', P d → Gw z C H C' H' → Rp C' v d → Q v H') → r x y H Q
def Ho1 (z : Cz) (r : V → Hp → VK → Prop) (f : F1) : Prop := ∀ (C H : Hp) (x : V) (d : PyData) (P : PyData → Prop) (Q : VK), Core z C H → Rp C x d → f d P → (∀ d v C' H', P d → Gw z C H C' H' → Rp C' v d → Q v H') → r x H Q
def HoL (z : Cz) (r : List V → Hp → VK → Prop) (f : FL) : Prop := ∀ (C H : Hp) (vs : List V) (ds : List PyData) (P : PyData → Prop) (Q : VK), Core z C H → RpA C vs ds → f ds P → (∀ d v C' H', P d → Gw z C H C' H' → Rp C' v d → Q v H') → r vs H Q
theorem tie2 {r : R2} {f : F2} (hh : Ho2 z r f) {σ : L2.St} {H : Hp} {Q : VK} (h : lE z (w2 f wa wb) σ H Q) : tOp r (lE z wa) (lE z wb) σ H Q := by
  obtain ⟨C, ρ, P, c, er, w, k⟩ := h
  exact ⟨C, ρ, _, c, er, w, fun d v C1 H1 p g rv => ⟨C1, ρ, _, c.gw g, er.gw g, p, fun e u C2 H2 p2 g2 ru =>
    hh C2 H2 v u d e P Q ((c.gw g).gw g2) (rv.up g2.cc) ru p2 fun d' v' C3 H3 p3 g3 r3 => k d' v' C3 H3 p3 ((g.tr g2).tr g3) r3⟩⟩
theorem tie1 {r : V → Hp → VK → Prop} {f : F1} (hh : Ho1 z r f) {σ : L2.St} {H : Hp} {Q : VK} (h : lE z (w1 f wa) σ H Q) : lE z wa σ H (fun x H1 => r x H1 Q) := by
  obtain ⟨C, ρ, P, c, er, w, k⟩ := h
  exact ⟨C, ρ, _, c, er, w, fun d v C1 H1 p g rv => hh C1 H1 v d P Q (c.gw g) rv p fun d' v' C3 H3 p3 g3 r3 => k d' v' C3 H3 p3 (g.tr g3) r3⟩
theorem tieL {r : List V → Hp → VK → Prop} {f : FL} (hh : HoL z r f) {σ : L2.St} {H : Hp} {Q : VK} (h : lE z (wL f t) σ H Q) : lA z t σ H (fun vs H1 => r vs H1 Q) := by
  obtain ⟨C, ρ, P, c, er, w, k⟩ := h
  exact ⟨C, ρ, _, c, er, w, fun d v C1 H1 p g rv => hh C1 H1 v d P Q (c.gw g) rv p fun d' v' C3 H3 p3 g3 r3 => k d' v' C3 H3 p3 (g.tr g3) r3⟩
theorem je_op {op : Operator} {r : R2} {f : F2} (ho : OpR X (binaryOp op) r) (hh : Ho2 z r f) (ha : PE X a (lE z wa)) (hb : PE X b (lE z wb)) : PE X (.BinOp a op b pos) (lE z (w2 f wa wb)) :=
  (pe_op ho ha hb).by fun _ _ _ h => tie2 hh h
theorem je_cmpR {op : CmpOp} {r : R2} {f : F2} (ho : OpR X (compareOp op) r) (hh : Ho2 z r f) (ha : PE X a (lE z wa)) (hb : PE X b (lE z wb)) (hm : behindInMarks op b = false) : PE X (.Compare a [op] [b] pos) (lE z (w2 f wa wb)) :=
  (pe_cmpR ho ha hb hm).by fun _ _ _ h => tie2 hh h
theorem je_un {op : UnaryOp} {r : V → Hp → VK → Prop} {f : F1} (ho : UnR X (unaryOp op) r) (hh : Ho1 z r f) (ha : PE X a (lE z wa)) : PE X (.UnaryOp op a pos) (lE z (w1 f wa)) :=
  (pe_un ho ha).by fun _ _ _ h => tie1 hh h
/-- a test read off a value -/
theorem tie_t {σ : L2.St} {H : Hp} {Q : Bool → Hp → Prop} (h : lT z (tV wa) σ H Q) : lE z wa σ H (fun x H1 => ∃ k, x = .bl k ∧ Q k H1) := by
  obtain ⟨C, ρ, P, c, er, w, k⟩ := h
  refine ⟨C, ρ, _, c, er, w, fun d v C1 H1 p g rv => ?_⟩
  cases d with
  | bool b => cases rv; exact ⟨b, rfl, k b C1 H1 p g⟩
  | _ => exact p.elim
theorem jt_val (h : PE X e (lE z wa)) (he : ∀ whole, isTrue e X.env whole = (do let v ← whole; standAt e.pos; holding [v] (truthy v)) := by intro _; rfl) : PT X e (lT z (tV wa)) := (pt_val h he).by fun _ _ _ h => tie_t h
theorem jt_cmpR {op : CmpOp} {r : R2} {f : F2} (ho : OpR X (compareOp op) r) (hh : Ho2 z r f) (ha : PE X a (lE z wa)) (hb : PE X b (lE z wb)) (hm : behindInMarks op b = false) : PT X (.Compare a [op] [b] pos) (lT z (tV (w2 f wa wb))) :=
  (pt_cmpR ho ha hb hm).by fun σ H Q h => tie2 (Q := fun x H1 => ∃ k, x = .bl k ∧ Q k H1) hh (tie_t h)
theorem jt_cmpC {op : CmpOp} {tc : TE} {wc : WE} (h : PC X op a b tc) (hh : ∀ σ H Q, lE z wc σ H Q → tc σ H Q) (h1 : behindInMarks op b = false := by first | exact nobehind _ (by decide) (by decide) | rfl) : PT X (.Compare a [op] [b] pos) (lT z (tV wc)) :=
  (pt_cmp h h1).by fun σ H Q h => hh σ H (fun x H1 => ∃ k, x = .bl k ∧ Q k H1) (tie_t h)
theorem jw_and1 (ha : PT X a (lT z ta)) : PW X (.BoolOp .And [a] pos) (lT z ta) := pw_and1 ha
theorem jw_or1 (ha : PT X a (lT z ta)) : PW X (.BoolOp .Or [a] pos) (lT z ta) := pw_or1 ha
theorem jw_and {rest : List Expr} (ha : PT X a (lT z ta)) (hb : PW X (.BoolOp .And (b :: rest) pos) (lT z tb)) : PW X (.BoolOp .And (a :: b :: rest) pos) (lT z (tAndW ta tb)) :=
  (pw_and ha hb).by fun σ H Q ⟨C, ρ, P, c, er, w, k⟩ => ⟨C, ρ, _, c, er, w, fun x C1 H1 p g => by
    cases x with
    | true => exact ⟨C1, ρ, P, c.gw g, er.gw g, p, fun y C2 H2 p2 g2 => k y C2 H2 p2 (g.tr g2)⟩
    | false => exact k false C1 H1 p g⟩
theorem jw_or {rest : List Expr} (ha : PT X a (lT z ta)) (hb : PW X (.BoolOp .Or (b :: rest) pos) (lT z tb)) : PW X (.BoolOp .Or (a :: b :: rest) pos) (lT z (tOrW ta tb)) :=
  (pw_or ha hb).by fun σ H Q ⟨C, ρ, P, c, er, w, k⟩ => ⟨C, ρ, _, c, er, w, fun x C1 H1 p g => by
    cases x with
    | true => exact k true C1 H1 p g
    | false => exact ⟨C1, ρ, P, c.gw g, er.gw g, p, fun y C2 H2 p2 g2 => k y C2 H2 p2 (g.tr g2)⟩⟩
theorem jt_not (ha : PT X a (lT z ta)) : PT X (.UnaryOp .Not a pos) (lT z (tNotW ta)) :=
  (pt_not ha).by fun σ H Q ⟨C, ρ, P, c, er, w, k⟩ => ⟨C, ρ, _, c, er, w, fun x C1 H1 p g => k (!x) C1 H1 p g⟩
theorem je_one {op : BoolOp} (ha : PE X a (lE z wa)) : PE X (.BoolOp op [a] pos) (lE z wa) := pe_one ha
theorem je_and {rest : List Expr} (ha : PE X a (lE z wa)) (hb : PE X (.BoolOp .And (b :: rest) pos) (lE z wb)) : PE X (.BoolOp .And (a :: b :: rest) pos) (lE z (wAnd wa wb)) :=
  (pe_and ha hb).by fun σ H Q ⟨C, ρ, P, c, er, w, k⟩ => ⟨C, ρ, _, c, er, w, fun x v C1 H1 p g r => by
    cases x with
    | bool x =>
      cases r
      cases x with
      | true => exact ⟨true, rfl, C1, ρ, P, c.gw g, er.gw g, p, fun y u C2 H2 p2 g2 r2 => k y u C2 H2 p2 (g.tr g2) r2⟩
      | false => exact ⟨false, rfl, k _ _ C1 H1 p g (.bl _)⟩
    | _ => exact p.elim⟩
theorem je_or {rest : List Expr} (ha : PE X a (lE z wa)) (hb : PE X (.BoolOp .Or (b :: rest) pos) (lE z wb)) : PE X (.BoolOp .Or (a :: b :: rest) pos) (lE z (wOr wa wb)) :=
  (pe_or ha hb).by fun σ H Q ⟨C, ρ, P, c, er, w, k⟩ => ⟨C, ρ, _, c, er, w, fun x v C1 H1 p g r => by
    cases x with
    | bool x =>
      cases r
      cases x with
      | true => exact ⟨true, rfl, k _ _ C1 H1 p g (.bl _)⟩
      | false => exact ⟨false, rfl, C1, ρ, P, c.gw g, er.gw g, p, fun y u C2 H2 p2 g2 r2 => k y u C2 H2 p2 (g.tr g2) r2⟩
    | _ => exact p.elim⟩
theorem je_not (ha : PE X a (lE z wa)) : PE X (.UnaryOp .Not a pos) (lE z (wNot wa)) :=
  (pe_not ha).by fun σ H Q ⟨C, ρ, P, c, er, w, k⟩ => ⟨C, ρ, _, c, er, w, fun x v C1 H1 p g r => by
    cases x with
    | bool x => cases r; exact ⟨x, rfl, k _ _ C1 H1 p g (.bl _)⟩
    | _ => exact p.elim⟩
theorem je_if (hc : PT X c (lT z ta)) (ha : PE X a (lE z wa)) (hb : PE X b (lE z wb)) : PE X (.IfExp c a b pos) (lE z (wIf ta wa wb)) :=
  (pe_ifExp hc ha hb).by fun σ H Q ⟨C, ρ, P, c, er, w, k⟩ => ⟨C, ρ, _, c, er, w, fun x C1 H1 p g => by
    cases x with
    | true => exact ⟨C1, ρ, P, c.gw g, er.gw g, p, fun y u C2 H2 p2 g2 r2 => k y u C2 H2 p2 (g.tr g2) r2⟩
    | false => exact ⟨C1, ρ, P, c.gw g, er.gw g, p, fun y u C2 H2 p2 g2 r2 => k y u C2 H2 p2 (g.tr g2) r2⟩⟩
theorem je_chain {op op' : CmpOp} {r r' : R2} {f g : F2} (ho : OpR X (compareOp op) r) (ho' : OpR X (compareOp op') r') (hf : Ho2 z r f) (hg : Ho2 z r' g) (ha : PE X a (lE z wa)) (hb : PE X b (lE z wb)) (hc : PE X c (lE z wc))
    (hm : lastMarks [op, op'] [b, c] = false := by with_unfolding_all rfl) : PE X (.Compare a [op, op'] [b, c] pos) (lE z (wChain f g wa wb wc)) :=
  (pe_chain ho ho' ha hb hc hm).by fun σ H Q ⟨C, ρ, P, c, er, w, k⟩ => ⟨C, ρ, _, c, er, w, fun d v C1 H1 p g1 rv => ⟨C1, ρ, _, c.gw g1, er.gw g1, p, fun e u C2 H2 p2 g2 ru =>
    hf C2 H2 v u d e _ _ ((c.gw g1).gw g2) (rv.up g2.cc) ru p2 fun d' v' C3 H3 p3 g3 r3 => by
      cases d' with
      | bool x =>
        cases r3
        cases x with
        | true =>
          refine ⟨true, rfl, ?_⟩
          rw [if_pos rfl]
          exact ⟨C3, ρ, _, ((c.gw g1).gw g2).gw g3, ((er.gw g1).gw g2).gw g3, p3, fun d4 v4 C4 H4 p4 g4 r4 =>
            hg C4 H4 u v4 e d4 P Q ((((c.gw g1).gw g2).gw g3).gw g4) ((ru.up g3.cc).up g4.cc) r4 p4 fun d5 v5 C5 H5 p5 g5 r5 => k d5 v5 C5 H5 p5 ((((g1.tr g2).tr g3).tr g4).tr g5) r5⟩
        | false =>
          refine ⟨false, rfl, ?_⟩
          rw [if_neg (by decide)]
          exact k _ _ C3 H3 p3 ((g1.tr g2).tr g3) (.bl _)
      | _ => exact p3.elim⟩⟩
theorem je_tup {x1} (h : PA X es (lA z t)) : PE X (.Tuple es x1 pos) (lE z (wL fTup t)) :=
  (pe_tup h).by fun σ H Q hw => tieL (r := fun xs H1 Q => xs.length ≤ sizeLine ∧ ∀ p, H1 p = none → Q (.ref p) (upd H1 p (.tup xs)))
    (fun C H vs ds P Q c r ⟨h1, h2⟩ k => ⟨by rw [r.len]; exact lim_ok h1, fun p hp => k _ _ (upd C p (.tup vs)) _ h2 (c.new hp) (.tup upd_same (r.up (c.new hp).cc))⟩) hw
theorem je_lst (h : PA X es (lA z t)) : PE X (.List es pos) (lE z (wL fLst t)) :=
  (pe_lst h).by fun σ H Q hw => tieL (r := fun xs H1 Q => xs.length ≤ sizeLine ∧ ∀ p, H1 p = none → Q (.ref p) (upd H1 p (.lst xs)))
    (fun C H vs ds P Q c r ⟨h1, h2⟩ k => ⟨by rw [r.len]; exact lim_ok h1, fun p hp => k _ _ (upd C p (.lst vs)) _ h2 (c.new hp) (.lst upd_same (r.up (c.new hp).cc))⟩) hw
theorem ho_I0 {g : Int → Int → V} {h : Int → Int → PyData} (hg : ∀ (C : Hp) i j, Rp C (g i j) (h i j)) : Ho2 z (rI0 g) (fun d e P => match d, e with | .int i, .int j => P (h i j) | _, _ => False) := fun C H x y d e P Q c rx ry hf k => by
  cases d <;> first | exact hf.elim | skip
  cases e <;> first | exact hf.elim | skip
  cases rx; cases ry
  exact ⟨_, _, rfl, rfl, k _ _ C H hf c.rf (hg C _ _)⟩
theorem ho_I {p : Int → Int → Prop} {g : Int → Int → V} {h : Int → Int → PyData} (hg : ∀ (C : Hp) i j, Rp C (g i j) (h i j)) : Ho2 z (rI p g) (fun d e P => match d, e with | .int i, .int j => p i j ∧ P (h i j) | _, _ => False) := fun C H x y d e P Q c rx ry hf k => by
  cases d <;> first | exact hf.elim | skip
  cases e <;> first | exact hf.elim | skip
  cases rx; cases ry
  exact ⟨_, _, rfl, rfl, hf.1, k _ _ C H hf.2 c.rf (hg C _ _)⟩
theorem Ho2.to {r : R2} {f g : F2} (h : Ho2 z r f) (e : ∀ d e P, g d e P → f d e P) : Ho2 z r g := fun C H x y d d' P Q c rx ry hf k => h C H x y d d' P Q c rx ry (e _ _ _ hf) k
theorem ho_sub : Ho2 z (rI0 fun i j => .int (i - j)) fSub := (ho_I0 (h := fun i j => .int (i - j)) fun C i j => .int _).to fun d e P h => by
  cases d <;> first | exact h.elim | skip
  cases e <;> first | exact h.elim | exact h
theorem ho_cmp {g : Int → Int → Bool} : Ho2 z (rI0 fun i j => .bl (g i j)) (fCmp g) := (ho_I0 (h := fun i j => .bool (g i j)) fun C i j => .bl _).to fun d e P h => by
  cases d <;> first | exact h.elim | skip
  cases e <;> first | exact h.elim | exact h
theorem ho_mod : Ho2 z (rI (fun _ j => 0 < j) fun i j => .int (i % j)) fMod := (ho_I (h := fun i j => .int (i % j)) fun C i j => .int _).to fun d e P h => by
  cases d <;> first | exact h.elim | skip
  cases e <;> first | exact h.elim | exact h
theorem ho_div : Ho2 z (rI CDiv fun i j => .int (i / j)) fDiv := (ho_I (h := fun i j => .int (i / j)) fun C i j => .int _).to fun d e P h => by
  cases d <;> first | exact h.elim | skip
  cases e <;> first | exact h.elim | exact h
theorem ho_pow : Ho2 z (rI CPow fun i j => .int (i ^ j.toNat)) fPow := (ho_I (h := fun i j => .int (i ^ j.toNat)) fun C i j => .int _).to fun d e P h => by
  cases d <;> first | exact h.elim | skip
  cases e <;> first | exact h.elim | exact h
abbrev rAddA (K : PySem.W.Frag) : R2 := fun x y H Q => rI0 (fun i j => .int (i + j)) x y H Q ∨ (rCat x y H Q ∨ (rCatA K x y H Q ∨ (∃ i j, x = .str i ∧ y = .str j ∧ i.length + j.length ≤ sizeLine ∧ Q (.str (i ++ j)) H)))
theorem op_addA : OpR X (binaryOp .Add) (rAddA X.K) := op_add.or (op_cat.or (op_catA.or op_add_str))
theorem ho_add {K : PySem.W.Frag} : Ho2 z (rAddA K) fAdd := fun C H x y d e P Q c rx ry hf k => by
  cases d with
  | int i =>
    cases e <;> first | exact hf.elim | skip
    cases rx; cases ry
    exact .inl ⟨_, _, rfl, rfl, k _ _ C H hf c.rf (.int _)⟩
  | list as =>
    cases e <;> first | exact hf.elim | skip
    cases rx with
    | lst h1 h2 =>
      cases ry with
      | lst h3 h4 =>
        refine .inr (.inl ⟨_, _, _, _, rfl, rfl, c.ch _ _ h1, c.ch _ _ h3, ?_, fun p hp => k _ _ (upd C p _) _ hf.2 (c.new hp) (.lst upd_same ((h2.up (c.new hp).cc).app (h4.up (c.new hp).cc)))⟩)
        rw [h2.len, h4.len]; exact lim_ok hf.1
  | tuple as =>
    cases e <;> first | exact hf.elim | skip
    rename_i bs
    cases rx with
    | tup h1 h2 =>
      cases ry with
      | tup h3 h4 =>
        refine .inr (.inr (.inl ⟨_, _, _, _, rfl, rfl, SqT.of (c.ch _ _ h1), SqT.of (c.ch _ _ h3), ?_, fun e => ?_, fun _ e => ?_, fun _ _ p hp => k _ _ (upd C p _) _ hf.2 (c.new hp) (.tup upd_same ((h2.up (c.new hp).cc).app (h4.up (c.new hp).cc)))⟩))
        · rw [h2.len, h4.len]; exact lim_ok hf.1
        · subst e
          have q := h2.len
          have e2 : as = [] := List.length_eq_zero_iff.mp q.symm
          subst e2
          exact k _ _ C H hf.2 c.rf (.tup h3 h4)
        · subst e
          have q := h4.len
          have e2 : bs = [] := List.length_eq_zero_iff.mp q.symm
          subst e2
          refine k _ _ C H hf.2 c.rf ?_
          rw [List.append_nil]
          exact .tup h1 h2
  | str i =>
    cases e <;> first | exact hf.elim | skip
    cases rx; cases ry
    exact .inr (.inr (.inr ⟨_, _, rfl, rfl, lim_ok hf.1, k _ _ C H hf.2 c.rf (.str _)⟩))
  | _ => exact hf.elim
abbrev rMulA : R2 := fun x y H Q => rI CMul (fun i j => .int (i * j)) x y H Q ∨ rRep x y H Q
theorem op_mulA : OpR X (binaryOp .Mult) rMulA := op_mul.or op_rep
theorem ho_mul : Ho2 z rMulA fMul := fun C H x y d e P Q c rx ry hf k => by
  cases d with
  | int i =>
    cases e <;> first | exact hf.elim | skip
    cases rx; cases ry
    exact .inl ⟨_, _, rfl, rfl, hf.1, k _ _ C H hf.2 c.rf (.int _)⟩
  | list as =>
    cases e <;> first | exact hf.elim | skip
    rename_i n
    cases ry
    cases rx with
    | lst h1 h2 =>
      obtain ⟨p1, p2, p3, p4⟩ := hf
      refine .inr ⟨_, _, _, rfl, rfl, c.ch _ _ h1, by omega, by omega, ?_, fun p hp => k _ _ (upd C p _) _ p4 (c.new hp) (.lst upd_same (RpA.rep (h2.up (c.new hp).cc) _))⟩
      rw [h2.len]
      exact Nat.le_trans (Nat.mul_le_mul p3 (show n.toNat ≤ 1000 by omega)) (by decide)
  | _ => exact hf.elim
theorem ho_neg : Ho1 z (rU fun i => .int (-i)) fNeg := fun C H x d P Q c rx hf k => by
  cases d <;> first | exact hf.elim | skip
  cases rx
  exact ⟨_, rfl, k _ _ C H hf c.rf (.int _)⟩
theorem ho_eq {K : PySem.W.Frag} : Ho2 z (rEqD K) fEq := fun C H x y d e P Q c rx ry hf k =>
  ⟨d, e, Rp.dp d x (SeqAt.canLay_of_shaped hf.1) (rx.up c.ch), Rp.dp e y (SeqAt.canLay_of_shaped hf.2.1) (ry.up c.ch), hf.1, hf.2.1, k _ _ C H hf.2.2 c.rf (.bl _)⟩
theorem ho_ne {K : PySem.W.Frag} : Ho2 z (rNeD K) fNe := fun C H x y d e P Q c rx ry hf k =>
  ⟨d, e, Rp.dp d x (SeqAt.canLay_of_shaped hf.1) (rx.up c.ch), Rp.dp e y (SeqAt.canLay_of_shaped hf.2.1) (ry.up c.ch), hf.1, hf.2.1, k _ _ C H hf.2.2 c.rf (.bl _)⟩
theorem ho_in {K : PySem.W.Frag} : Ho2 z (rInD K) fIn := fun C H x y d e P Q c rx ry hf k => by
  cases e <;> first | exact hf.elim | skip
  exact ⟨d, _, Rp.dp d x (SeqAt.canLay_of_shaped hf.1) (rx.up c.ch), Rp.dp _ y (SeqAt.canLay_of_shaped hf.2.1) (ry.up c.ch), hf.1, hf.2.1, k _ _ C H hf.2.2 c.rf (.bl _)⟩
theorem ho_notIn {K : PySem.W.Frag} : Ho2 z (rNotInD K) fNotIn := fun C H x y d e P Q c rx ry hf k => by
  cases e <;> first | exact hf.elim | skip
  exact ⟨d, _, Rp.dp d x (SeqAt.canLay_of_shaped hf.1) (rx.up c.ch), Rp.dp _ y (SeqAt.canLay_of_shaped hf.2.1) (ry.up c.ch), hf.1, hf.2.1, k _ _ C H hf.2.2 c.rf (.bl _)⟩
theorem isN_of {C : Hp} {x : V} {d : PyData} (r : Rp C x d) : decide (x = .non) = isN d := by
  cases r <;> rfl
theorem je_isN {j pos'} (ha : PE X a (lE z wa)) : PE X (.Compare a [.Is] [.Constant .none j pos'] pos) (lE z (w1 fIsN wa)) :=
  (pe_cmp (pc_isN ha)).by fun σ H Q h => tie1 (r := fun x H1 Q => Q (.bl (decide (x = .non))) H1) (fun C H x d P Q c rx hf k => by dsimp only; rw [isN_of rx]; exact k _ _ C H hf c.rf (.bl _)) h
theorem je_notN {j pos'} (ha : PE X a (lE z wa)) : PE X (.Compare a [.IsNot] [.Constant .none j pos'] pos) (lE z (w1 fNotN wa)) :=
  (pe_cmp (pc_notN ha)).by fun σ H Q h => tie1 (r := fun x H1 Q => Q (.bl (!decide (x = .non))) H1) (fun C H x d P Q c rx hf k => by dsimp only; rw [isN_of rx]; exact k _ _ C H hf c.rf (.bl _)) h
theorem jt_isN {j pos'} (ha : PE X a (lE z wa)) : PT X (.Compare a [.Is] [.Constant .none j pos'] pos) (lT z (tV (w1 fIsN wa))) :=
  jt_cmpC (pc_isN ha) fun σ H Q h => tie1 (r := fun x H1 Q => Q (.bl (decide (x = .non))) H1) (fun C H x d P Q c rx hf k => by dsimp only; rw [isN_of rx]; exact k _ _ C H hf c.rf (.bl _)) h
theorem jt_notN {j pos'} (ha : PE X a (lE z wa)) : PT X (.Compare a [.IsNot] [.Constant .none j pos'] pos) (lT z (tV (w1 fNotN wa))) :=
  jt_cmpC (pc_notN ha) fun σ H Q h => tie1 (r := fun x H1 Q => Q (.bl (!decide (x = .non))) H1) (fun C H x d P Q c rx hf k => by dsimp only; rw [isN_of rx]; exact k _ _ C H hf c.rf (.bl _)) h
abbrev rIxA (K : PySem.W.Frag) : R2 := fun x y H Q => rIxL K x y H Q ∨ rIxT K x y H Q
theorem ix_A : IxR X (rIxA X.K) := ix_list.or ix_tup
theorem atI_rp {C : Hp} {vs : List V} {ds : List PyData} {i : Int} {d : PyData} (r : RpA C vs ds) (h : atI ds i = some d) : ∃ v, atI vs i = some v ∧ Rp C v d := by
  unfold atI at h ⊢
  rw [r.len]
  cases q : ixN ds.length i with
  | none => rw [q] at h; cases h
  | some j => rw [q] at h; exact r.get h
theorem ho_ix {K : PySem.W.Frag} : Ho2 z (rIxA K) fIx := fun C H x y d e P Q c rx ry hf k => by
  cases d with
  | list ds =>
    cases e <;> first | exact hf.elim | skip
    cases ry
    obtain ⟨d, h, p⟩ := hf
    cases rx with
    | lst h1 h2 =>
      obtain ⟨v, hv, rv⟩ := atI_rp h2 h
      exact .inl ⟨_, _, _, v, rfl, rfl, SqL.of (c.ch _ _ h1), hv, k _ _ C H p c.rf rv⟩
  | tuple ds =>
    cases e <;> first | exact hf.elim | skip
    cases ry
    obtain ⟨d, h, p⟩ := hf
    cases rx with
    | tup h1 h2 =>
      obtain ⟨v, hv, rv⟩ := atI_rp h2 h
      exact .inr ⟨_, _, _, v, rfl, rfl, SqT.of (c.ch _ _ h1), hv, k _ _ C H p c.rf rv⟩
  | _ => exact hf.elim
theorem je_ix (ha : PE X a (lE z wa)) (hb : PE X b (lE z wb)) (hs : PlainIx b := by exact fun _ _ => rfl) : PE X (.Subscript a b pos) (lE z (w2 fIx wa wb)) :=
  (pe_ix ix_A ha hb hs).by fun _ _ _ h => tie2 ho_ix h
def arg1 (f : F1) : FL
  | [d], P => f d P
  | _, _ => False
theorem hoL1 {r : List V → Hp → VK → Prop} {r1 : V → Hp → VK → Prop} {f : F1} (h : Ho1 z r1 f) (hr : ∀ x H Q, r1 x H Q → r [x] H Q) : HoL z r (arg1 f) := fun C H vs ds P Q c rv hf k => by
  match ds, hf with
  | [d], hf =>
    cases rv with
    | cons r1' r2 =>
      cases r2
      exact hr _ _ _ (h C H _ d P Q c r1' hf k)
theorem je_callB {f : FL} {r : List V → Hp → VK → Prop} {id : String} {x : Str} {p : Pos} (hc : CallR X (.builtin id) r) (hh : HoL z r f) (hg : Gl X x) (hm : X.mg x = none) (hv : bootBuiltins x = some (.builtin id)) (ha : PA X (e :: es) (lA z t)) (hn : x ≠ "__name__" := by decide) (hdb : (x == ("__debug__" : Str)) = false := by decide)
    (he : starEach (e :: es) X.env = (false, eval e X.env) :: starEach es X.env := by rfl) (hpl : (backTo pos (starEach es X.env)).any (·.1) = false := by rfl) : PE X (.Call (.Name x p) (e :: es) [] pos) (lE z (wL f t)) :=
  (pe_callB hc hg hm hv ha hn hdb he hpl).by fun _ _ _ h => tieL hh h
theorem je_callTy {f : FL} {r : List V → Hp → VK → Prop} {T : String} {x : Str} {p : Pos} (hc : CallR X (.type T) r) (hh : HoL z r f) (hg : Gl X x) (hm : X.mg x = none) (hv : bootBuiltins x = some (.type T)) (ha : PA X (e :: es) (lA z t)) (hn : x ≠ "__name__" := by decide) (hdb : (x == ("__debug__" : Str)) = false := by decide)
    (he : starEach (e :: es) X.env = (false, eval e X.env) :: starEach es X.env := by rfl) (hpl : (backTo pos (starEach es X.env)).any (·.1) = false := by rfl) : PE X (.Call (.Name x p) (e :: es) [] pos) (lE z (wL f t)) :=
  (pe_callTy hc hg hm hv ha hn hdb he hpl).by fun _ _ _ h => tieL hh h
end
end Lr
namespace Lr
open PySem PySem.Spec PyProof.Rows L2

def tyD : PyData → String
  | .none => "NoneType"
  | .bool _ => "bool"
  | .int _ => "int"
  | .str _ => "str"
  | .list _ => "list"
  | .tuple _ => "tuple"
  | .dict _ => "tuple"
def fIsi (T : String) : F1 := fun d P => PyData.canLay0 d = true ∧ ∃ b, kitB (tyD d) T = some b ∧ P (.bool b)
section
variable {X : Cx} {z : Cz} {e a b c : Expr} {es : List Expr} {wa wb wc : WE} {ta tb : WT} {t : WA} {pos : Pos}
theorem tyOf_rp {K : PySem.W.Frag} {C H : Hp} {v : V} {d : PyData} (e : Ex C H) (r : Rp C v d) (lay : PyData.canLay0 d = true) : TyX K H v (.type (tyD d)) := by
  cases r with
  | non => exact .base .non
  | bl b => exact .base (.bl b)
  | int i => exact .base (.int i)
  | str x => exact .base (.str x)
  | lst h _ => exact .base (.lst (e _ _ h))
  | tup h _ => exact .base (.tup (e _ _ h))
  | fz h _ _ => simp [PyData.canLay0] at lay
  | dct h _ => simp [PyData.canLay0] at lay
/-- isinstance(x, T), T a built-in type's name -/
theorem je_isi {T : String} {Tn : Str} {p p1 p2 : Pos} (hg : Gl X "isinstance") (hm : X.mg "isinstance" = none) (gT : Gl X Tn) (mT : X.mg Tn = none) (vT : bootBuiltins Tn = some (.type T)) (ha : PE X a (lE z wa)) (h1 : Tn ≠ "__name__" := by decide) (h2 : (Tn == ("__debug__" : Str)) = false := by decide)
    (he : starEach [a, .Name Tn p1] X.env = (false, eval a X.env) :: starEach [.Name Tn p1] X.env := by rfl) (hs2 : starEach [.Name Tn p1] X.env = [(false, eval (.Name Tn p1) X.env)] := by rfl) (hpl : (backTo p2 (starEach [.Name Tn p1] X.env)).any (·.1) = false := by rfl) :
    PE X (.Call (.Name "isinstance" p) [a, .Name Tn p1] [] p2) (lE z (w1 (fIsi T) wa)) := by
  have h := pe_callB (pos := p2) (p := p) call_isi hg hm (show bootBuiltins ("isinstance" : Str) = some (.builtin "isinstance") from by decide +kernel) (pa_cons ha (pa_cons (pe_bltn (pos := p1) gT mT vT (show RelV (.ty T) (.type T) from rfl) h1 h2) pa_nil hs2) he) (by decide) (by decide) he hpl
  refine h.by fun σ H Q hw => ?_
  refine tie1 (r := fun x H1 Q => rIsi X.K [x, .ty T] H1 Q) (fun C H x d P Q c rx hf k => ?_) hw
  obtain ⟨lay, b, hb, hp⟩ := hf
  exact ⟨x, .ty T, _, _, b, rfl, .ty T, tyOf_rp c.ch rx lay, kit_ty hb, k _ _ C H hp c.rf (.bl _)⟩
theorem hoL_len {K : PySem.W.Frag} : HoL z (fun xs H Q => ∃ p ys, xs = [.ref p] ∧ (SqL K H p ys ∨ SqT K H p ys) ∧ Q (.int ys.length) H) (arg1 fLen) :=
  hoL1 (r1 := fun x H Q => ∃ p ys, x = .ref p ∧ (SqL K H p ys ∨ SqT K H p ys) ∧ Q (.int ys.length) H) (fun C H x d P Q c rx hf k => by
    cases d with
    | list ds =>
      cases rx with
      | lst h1 h2 => exact ⟨_, _, rfl, .inl (SqL.of (c.ch _ _ h1)), by rw [h2.len]; exact k _ _ C H hf c.rf (.int _)⟩
    | tuple ds =>
      cases rx with
      | tup h1 h2 => exact ⟨_, _, rfl, .inr (SqT.of (c.ch _ _ h1)), by rw [h2.len]; exact k _ _ C H hf c.rf (.int _)⟩
    | _ => exact hf.elim) fun x H Q ⟨p, ys, e, h⟩ => ⟨p, ys, by rw [e], h⟩
theorem hoL_tuple {K : PySem.W.Frag} : HoL z (fun xs H Q => ∃ p ys, xs = [.ref p] ∧ ((SqL K H p ys ∧ ∀ l, H l = none → Q (.ref l) (upd H l (.tup ys))) ∨ (SqT K H p ys ∧ Q (.ref p) H))) (arg1 fTuple) :=
  hoL1 (r1 := fun x H Q => ∃ p ys, x = .ref p ∧ ((SqL K H p ys ∧ ∀ l, H l = none → Q (.ref l) (upd H l (.tup ys))) ∨ (SqT K H p ys ∧ Q (.ref p) H))) (fun C H x d P Q c rx hf k => by
    cases d with
    | list ds =>
      cases rx with
      | lst h1 h2 => exact ⟨_, _, rfl, .inl ⟨SqL.of (c.ch _ _ h1), fun l hl => k _ _ (upd C l _) _ hf (c.new hl) (.tup upd_same (h2.up (c.new hl).cc))⟩⟩
    | tuple ds =>
      cases rx with
      | tup h1 h2 => exact ⟨_, _, rfl, .inr ⟨SqT.of (c.ch _ _ h1), k _ _ C H hf c.rf (.tup h1 h2)⟩⟩
    | _ => exact hf.elim) fun x H Q ⟨p, ys, e, h⟩ => ⟨p, ys, by rw [e], h⟩
theorem hoL_list {K : PySem.W.Frag} : HoL z (fun xs H Q => ∃ p ys, xs = [.ref p] ∧ (SqL K H p ys ∨ SqT K H p ys) ∧ ∀ l, H l = none → Q (.ref l) (upd H l (.lst ys))) (arg1 fList) :=
  hoL1 (r1 := fun x H Q => ∃ p ys, x = .ref p ∧ (SqL K H p ys ∨ SqT K H p ys) ∧ ∀ l, H l = none → Q (.ref l) (upd H l (.lst ys))) (fun C H x d P Q c rx hf k => by
    cases d with
    | list ds =>
      cases rx with
      | lst h1 h2 => exact ⟨_, _, rfl, .inl (SqL.of (c.ch _ _ h1)), fun l hl => k _ _ (upd C l _) _ hf (c.new hl) (.lst upd_same (h2.up (c.new hl).cc))⟩
    | tuple ds =>
      cases rx with
      | tup h1 h2 => exact ⟨_, _, rfl, .inr (SqT.of (c.ch _ _ h1)), fun l hl => k _ _ (upd C l _) _ hf (c.new hl) (.lst upd_same (h2.up (c.new hl).cc))⟩
    | _ => exact hf.elim) fun x H Q ⟨p, ys, e, h⟩ => ⟨p, ys, by rw [e], h⟩
theorem bools_rp {C : Hp} : ∀ {ds : List PyData} {vs : List V} {bs : List Bool}, RpA C vs ds → boolsOf ds = some bs → vs = bs.map V.bl
  | [], _, _, .nil, h => by cases h; rfl
  | d :: ds, _, bs, .cons r t, h => by
    cases d with
    | bool b =>
      cases r
      unfold boolsOf at h
      cases q : boolsOf ds with
      | none => rw [q] at h; cases h
      | some cs =>
        rw [q] at h
        cases h
        rw [bools_rp t q]
        rfl
    | _ => cases h
theorem hoL_all {K : PySem.W.Frag} : HoL z (rAll K) (arg1 fAll) :=
  hoL1 (r1 := fun x H Q => ∃ (a : Addr) (bs : List Bool), x = V.ref a ∧ SqL K H a (bs.map V.bl) ∧ Q (.bl (bs.all id)) H) (fun C H x d P Q c rx hf k => by
    cases d with
    | list ds =>
      obtain ⟨bs, hb, p⟩ := hf
      cases rx with
      | lst h1 h2 =>
        have e := bools_rp h2 hb
        subst e
        exact ⟨_, bs, rfl, SqL.of (c.ch _ _ h1), k _ _ C H p c.rf (.bl _)⟩
    | _ => exact hf.elim) fun x H Q ⟨p, ys, e, h⟩ => ⟨p, ys, by rw [e], h⟩
theorem hoL_int : HoL z (fun xs H Q => (∃ i, xs = [.int i] ∧ Q (.int i) H) ∨ ∃ k, xs = [.bl k] ∧ Q (.int (if k then 1 else 0)) H) (arg1 fInt) :=
  hoL1 (r1 := fun x H Q => ∃ i, x = .int i ∧ Q (.int i) H) (fun C H x d P Q c rx hf k => by
    cases d with
    | int i => cases rx; exact ⟨_, rfl, k _ _ C H hf c.rf (.int _)⟩
    | _ => exact hf.elim) fun x H Q ⟨p, e, h⟩ => .inl ⟨p, by rw [e], h⟩
theorem hoL_abs : HoL z (fun xs H Q => ∃ i, xs = [.int i] ∧ Q (.int (if i < 0 then -i else i)) H) (arg1 fAbs) :=
  hoL1 (r1 := fun x H Q => ∃ i, x = .int i ∧ Q (.int (if i < 0 then -i else i)) H) (fun C H x d P Q c rx hf k => by
    cases d with
    | int i => cases rx; exact ⟨_, rfl, k _ _ C H hf c.rf (.int _)⟩
    | _ => exact hf.elim) fun x H Q ⟨p, e, h⟩ => ⟨p, by rw [e], h⟩
theorem ho_lt : Ho2 z (rI0 fun i j => .bl (decide (i < j))) fLt := ho_cmp
theorem ho_le : Ho2 z (rI0 fun i j => .bl (decide (i ≤ j))) fLe := ho_cmp
theorem ho_gt : Ho2 z (rI0 fun i j => .bl (decide (j < i))) fGt := ho_cmp
theorem ho_ge : Ho2 z (rI0 fun i j => .bl (decide (j ≤ i))) fGe := ho_cmp
theorem u65 {A : Around} {k : Nat} (h : Room k A) : A.units + 65 < cLine := by have := h.un; omega
theorem je_slice {lo hi : Option Expr} {tl th : TO} {l u : Option Int} {p2 : Pos} (hl : PO X lo tl) (hu : PO X hi th) (el : ∀ σ H Q, Q l H → tl σ H Q) (eu : ∀ σ H Q, Q u H → th σ H Q) (ha : PE X a (lE z wa)) :
    PE X (.Subscript a (.Slice lo hi none p2) pos) (lE z (w1 (fSlice l u) wa)) := by
  refine (pe_slice (sl_list.or sl_tupA) ha hl hu).by fun σ H Q hw => ?_
  have h : lE z wa σ H fun x H1 => rSlL X.K x l u H1 Q ∨ rSlA X.K x l u H1 Q := tie1 (r := fun x H1 Q => rSlL X.K x l u H1 Q ∨ rSlA X.K x l u H1 Q) (f := fSlice l u) (fun C H x d P Q c rx hf k => by
    cases d with
    | list ds =>
      cases rx with
      | @lst a xs _ h1 h2 =>
        refine .inl ⟨_, _, rfl, SqL.of (c.ch _ _ h1), fun p hp => k _ _ (upd C p _) _ hf (c.new hp) (.lst upd_same ?_)⟩
        show RpA _ (cutV xs l u) _
        unfold cutV
        rw [h2.len]
        exact ((h2.up (c.new hp).cc).drop _).take _
    | tuple ds =>
      cases rx with
      | @tup a xs _ h1 h2 =>
        refine .inr ⟨_, _, rfl, SqT.of (c.ch _ _ h1), fun ⟨e1, e2⟩ => ?_, fun _ p hp => k _ _ (upd C p _) _ hf (c.new hp) (.tup upd_same ?_)⟩
        · refine k _ _ C H hf c.rf ?_
          rw [← h2.len, e1, e2, List.drop_zero, Nat.sub_zero, h2.len, List.take_length]
          exact .tup h1 h2
        · show RpA _ (cutV xs l u) _
          unfold cutV
          rw [h2.len]
          exact ((h2.up (c.new hp).cc).drop _).take _
    | _ => exact hf.elim) hw
  obtain ⟨C, ρ, P, c, er, w, k⟩ := h
  exact ⟨C, ρ, P, c, er, w, fun d v C1 H1 p g r => el σ H1 _ (eu σ H1 _ (k d v C1 H1 p g r))⟩
theorem el_no {σ : L2.St} {H : Hp} {Q : Option Int → Hp → Prop} (h : Q none H) : tNoPart σ H Q := h
theorem el_int {i : Int} {σ : L2.St} {H : Hp} {Q : Option Int → Hp → Prop} (h : Q (some i) H) : tPart (tC (.int i)) σ H Q := ⟨i, rfl, h⟩
def gN (i : Nat) : WG := fun d ρ P => P (ρ.set i (some (.d d)))
def gsN : WGs := fun ds ρ P => match ds with
  | [] => P ρ
  | _ => False
def gsC (g : WG) (gs : WGs) : WGs := fun ds ρ P => match ds with
  | d :: r => g d ρ fun ρ1 => gs r ρ1 P
  | [] => False
def gT (n : Nat) (gs : WGs) : WG := fun d ρ P => match d with
  | .tuple ds => ds.length = n ∧ gs ds ρ P
  | _ => False
theorem _root_.L2.PG.by {e : Expr} {t t' : TG} (h : PG X e t) (f : ∀ v σ H Q, t' v σ H Q → t v σ H Q) : PG X e t' := ⟨fun pins s σ H v u Q I r hw => h.run pins s σ H v u Q I r (f v σ H Q hw)⟩
theorem _root_.L2.PGs.by {e : List Expr} {t t' : TGs} (h : PGs X e t) (f : ∀ v σ H Q, t' v σ H Q → t v σ H Q) : PGs X e t' := ⟨fun pins s σ H v u Q I r hw => h.run pins s σ H v u Q I r (f v σ H Q hw)⟩
theorem Out.set {σ : L2.St} {i : Nat} {o : Option V} : Out [i] σ (σ.set i o) := ⟨by simp, fun j hj => by
  rw [List.getElem?_set_ne]
  exact fun q => hj (by simp [q])⟩
theorem Out.rf {σ : L2.St} {sl : List Nat} : Out sl σ σ := ⟨rfl, fun _ _ => rfl⟩
theorem Out.tr {σ σ1 σ2 : L2.St} {s1 s2 : List Nat} (a : Out s1 σ σ1) (b : Out s2 σ1 σ2) : Out (s1 ++ s2) σ σ2 := ⟨b.1.trans a.1, fun i hi => by
  rw [b.2 i fun q => hi (List.mem_append_right _ q), a.2 i fun q => hi (List.mem_append_left _ q)]⟩
theorem jg_name {i : Nat} {x : Str} (hN : X.N.Nodup) (hi : X.N[i]? = some x) (hx : Loc X.env.scope x) (hf : X.fn x = true ∨ X.env.scope.names.lookup x = some .local := by first | exact .inl rfl | exact .inr rfl | assumption) : PG X (.Name x pos) (lG z [i] (gN i)) :=
  (pg_name hN hi hx hf).by fun v σ H Q ⟨C, ρ, d, P, c, er, rv, w, k⟩ => k _ _ w (fun C2 H2 ex er2 => er2.set (rv.up ex)) Out.set
theorem jgs_nil : PGs X [] (lGs z [] gsN) := pgs_nil.by fun vs σ H Q ⟨C, ρ, ds, P, c, er, rv, w, k⟩ => by
  match ds, w with
  | [], w => cases rv; exact ⟨rfl, k _ _ w (fun _ _ _ er2 => er2) Out.rf⟩
theorem jgs_cons {s1 s2 : List Nat} {g : WG} {gs : WGs} (h1 : PG X e (lG z s1 g)) (h2 : PGs X es (lGs z s2 gs)) (hs : (assignEach (e :: es) X.env).map (·.2) = assign e X.env :: (assignEach es X.env).map (·.2) := by rfl) : PGs X (e :: es) (lGs z (s1 ++ s2) (gsC g gs)) :=
  (pgs_cons h1 h2 hs).by fun vs σ H Q ⟨C, ρ, ds, P, c, er, rv, w, k⟩ => by
    match ds, w with
    | d :: r, w =>
      cases rv with
      | cons r1 r2 => exact ⟨_, _, rfl, C, ρ, d, _, c, er, r1, w, fun ρ1 σ1 p1 e1 o1 => ⟨C, ρ1, r, _, c, e1 C H Ex.rfl er, r2, p1, fun ρ2 σ2 p2 e2 o2 => k ρ2 σ2 p2 (fun C2 H2 ex er2 => e2 C2 H2 ex (e1 C2 H2 ex er2)) (o1.tr o2)⟩⟩
theorem jg_tup {k : Nat} {n : Nat} {sl : List Nat} {gs : WGs} (hc : X.calm = true) (h : PGs X es (lGs z sl gs))
    (hn : (assignEach es X.env).length = n := by rfl) (hst : (assignEach es X.env).findIdx? (·.1) = none := by rfl) : PG X (.Tuple es k pos) (lG z sl (gT n gs)) :=
  (pg_tup hc h hn hst).by fun v σ H Q ⟨C, ρ, d, P, c, er, rv, w, kk⟩ => by
    cases d with
    | tuple ds =>
      cases rv with
      | tup h1 h2 => exact ⟨_, _, rfl, SqT.of (c.ch _ _ h1), h2.len.trans w.1, C, ρ, ds, P, c, er, h2, w.2, kk⟩
    | _ => exact w.elim
def sNext : WS := fun P ρ => P.nx ρ
def sSeq (a b : WS) : WS := fun P ρ => a { P with nx := fun ρ1 => b P ρ1 } ρ
def sAsg (w : WE) (g : WG) : WS := fun P ρ => w ρ fun d => g d ρ P.nx
def sPar (i j : Nat) (t : WA) : WS := fun P ρ => t ρ fun ds => match ds with
  | [d, e] => P.nx ((ρ.set i (some (.d d))).set j (some (.d e)))
  | _ => False
def sIf (c : WT) (a b : WS) : WS := fun P ρ => c ρ fun x => if x = true then a P ρ else b P ρ
def sRet (w : WE) : WS := fun P ρ => w ρ P.rt
def sDrop (w : WE) : WS := fun P ρ => w ρ fun _ => P.nx ρ
def sNever : WS := fun _ _ => False
theorem js_nil : PSs X [] (lS z sNext) := pss_nil.by fun D σ H ⟨C, ρ, P, c, er, w, k⟩ => k.nx _ _ _ _ w c Ex.rfl er
theorem js_one {st : Stmt} {w : WS} (h : PS X st (lS z w)) : PSs X [st] (lS z w) := pss_one h
theorem js_cons {st : Stmt} {rest : List Stmt} {w u : WS} (h1 : PS X st (lS z w)) (h2 : PSs X rest (lS z u)) : PSs X (st :: rest) (lS z (sSeq w u)) :=
  (pss_cons h1 h2).by fun D σ H ⟨C, ρ, P, c, er, w, k⟩ => ⟨C, ρ, _, c, er, w, ⟨fun ρ1 σ1 C1 H1 p c1 x er1 => ⟨C1, ρ1, P, c1, er1, p, k.up x⟩, k.rt, k.bk, k.ct⟩⟩
theorem js_never {st : Stmt} : PS X st (lS z sNever) := ps_never.by fun D σ H ⟨C, ρ, P, c, er, w, k⟩ => w
theorem tie_asg {g : WG} {sl : List Nat} {D : Ends} {σ : L2.St} {H : Hp} (h : lS z (sAsg wa g) D σ H) : lE z wa σ H fun x H1 => lG z sl g x σ H1 D.nx := by
  obtain ⟨C, ρ, P, c, er, w, k⟩ := h
  exact ⟨C, ρ, _, c, er, w, fun d v C1 H1 p g1 rv => ⟨C1, ρ, d, _, c.gw g1, er.gw g1, rv, p, fun ρ2 σ2 p2 e2 _ => k.nx _ _ _ _ p2 (c.gw g1) g1.cc (e2 _ _ Ex.rfl (er.gw g1))⟩⟩
theorem js_set {i : Nat} {x : Str} {pos' : Pos} (hN : X.N.Nodup) (hi : X.N[i]? = some x) (hx : Loc X.env.scope x) (he : PE X e (lE z wa)) (hs : swapsWith e (some (.Name x pos')) pos.line X.env = pure false := by rfl) (hf : X.fn x = true ∨ X.env.scope.names.lookup x = some .local := by first | exact .inl rfl | exact .inr rfl | assumption) :
    PS X (.Assign [.Name x pos'] e pos) (lS z (sAsg wa (gN i))) := (ps_set (i := i) hN hi hx he hs hf).by fun D σ H ⟨C, ρ, P, c, er, w, k⟩ =>
  ⟨C, ρ, _, c, er, w, fun d v C1 H1 p g1 rv => k.nx _ _ _ _ p (c.gw g1) g1.cc ((er.gw g1).set rv)⟩
theorem js_asg {tg : Expr} {g : WG} {sl : List Nat} (he : PE X e (lE z wa)) (hg : PG X tg (lG z sl g)) (hs : swapsWithSole [tg] e pos.line X.env = pure false := by rfl) (hw : swappedStores [tg] e X.env = pure none := by rfl) (h1 : (assignEach [tg] X.env).map (·.2) = [assign tg X.env] := by rfl) : PS X (.Assign [tg] e pos) (lS z (sAsg wa g)) :=
  (ps_asg he hg hs hw h1).by fun D σ H h => tie_asg h
theorem js_par {i j : Nat} {x y : Str} {px py pt : Pos} {kt k2 : Nat} {pt2 : Pos} (hc : X.calm = true) (hN : X.N.Nodup) (hi : X.N[i]? = some x) (hj : X.N[j]? = some y) (hij : i ≠ j)
    (hx : X.env.scope.names.lookup x = some .local) (hy : X.env.scope.names.lookup y = some .local) (ha : PA X [a, b] (lA z t))
    (hw : swappedStores [.Tuple [.Name x px, .Name y py] kt pt] (.Tuple [a, b] k2 pt2) X.env = pure (some [x, y]))
    (hs : swapsWithSole [.Tuple [.Name x px, .Name y py] kt pt] (.Tuple [a, b] k2 pt2) pos.line X.env = pure false := by rfl) :
    PS X (.Assign [.Tuple [.Name x px, .Name y py] kt pt] (.Tuple [a, b] k2 pt2) pos) (lS z (sPar i j t)) :=
  (ps_par hc hN hi hj hij hx hy ha hw hs).by fun D σ H ⟨C, ρ, P, c, er, w, k⟩ => ⟨C, ρ, _, c, er, w, fun ds vs C1 H1 p g1 rv => by
    match ds, p with
    | [d, e], p =>
      cases rv with
      | cons r1 r2 =>
        cases r2 with
        | cons r2 r3 =>
          cases r3
          exact ⟨_, _, rfl, k.nx _ _ _ _ p (c.gw g1) g1.cc (((er.gw g1).set r1).set r2)⟩⟩
theorem js_if {c : Expr} {xs ys : List Stmt} {w u : WS} (hc : PT X c (lT z ta)) (ha : PSs X xs (lS z w)) (hb : PSs X ys (lS z u)) : PS X (.If c xs ys pos) (lS z (sIf ta w u)) :=
  (ps_if hc ha hb).by fun D σ H ⟨C, ρ, P, c, er, w, k⟩ => ⟨C, ρ, _, c, er, w, fun x C1 H1 p g => by
    cases x with
    | true => exact ⟨C1, ρ, P, c.gw g, er.gw g, p, k.up g.cc⟩
    | false => exact ⟨C1, ρ, P, c.gw g, er.gw g, p, k.up g.cc⟩⟩
theorem js_ret (he : PE X e (lE z wa)) : PS X (.Return (some e) pos) (lS z (sRet wa)) :=
  (ps_ret he).by fun D σ H ⟨C, ρ, P, c, er, w, k⟩ => ⟨C, ρ, _, c, er, w, fun d v C1 H1 p g1 rv => k.rt _ _ _ _ p (c.gw g1) g1.cc rv⟩
theorem js_drop (he : PE X e (lE z wa)) (hs : swapsWith e none pos.line X.env = pure false := by rfl) : PS X (.Expr e pos) (lS z (sDrop wa)) :=
  (ps_expr he hs).by fun D σ H ⟨C, ρ, P, c, er, w, k⟩ => ⟨C, ρ, _, c, er, w, fun d v C1 H1 p g1 rv => k.nx _ _ _ _ p (c.gw g1) g1.cc (er.gw g1)⟩
def sLoop (g : WG) (b : WS) : List PyData → WS
  | [], P, ρ => P.nx ρ
  | d :: ds, P, ρ => g d ρ fun ρ1 => b { P with nx := fun ρ2 => sLoop g b ds P ρ2, ct := fun ρ2 => sLoop g b ds P ρ2, bk := P.nx } ρ1
def sForL (w : WE) (g : WG) (b : WS) : WS := fun P ρ => w ρ fun d => match d with
  | .list ds => sLoop g b ds P ρ
  | _ => False
def sForT (w : WE) (g : WG) (b : WS) : WS := fun P ρ => w ρ fun d => match d with
  | .tuple ds => sLoop g b ds P ρ
  | _ => False
theorem loop_step {g : WG} {b : WS} {sl : List Nat} {D : Ends} {P : Pn} {C1 : Hp} (k : DOk z C1 P D) {ds : List PyData} {vs : List V} (rv : RpA C1 vs ds) {Pv : Nat → L2.St → Hp → Prop}
    (hP : ∀ i σ H, (∃ C ρ, Core z C H ∧ Ex C1 C ∧ ER z C H σ ρ ∧ sLoop g b (ds.drop i) P ρ) ↔ Pv i σ H) {i : Nat} {x : V} {σ : L2.St} {H : Hp} (hx : vs[i]? = some x) (h : Pv i σ H) :
    lG z sl g x σ H fun σ2 H2 => lS z b { D with nx := Pv (i + 1), ct := Pv (i + 1), bk := D.nx } σ2 H2 := by
  obtain ⟨C, ρ, c, ex, er, w⟩ := (hP i σ H).2 h
  obtain ⟨d, hd, rd⟩ := rv.getV hx
  have e : ds.drop i = d :: ds.drop (i + 1) := by
    obtain ⟨h1, h2⟩ := List.getElem?_eq_some_iff.mp hd
    rw [← h2]; exact List.drop_eq_getElem_cons h1
  rw [e] at w
  refine ⟨C, ρ, d, _, c, er, rd.up ex, w, fun ρ1 σ1 p1 e1 _ => ⟨C, ρ1, _, c, e1 C H Ex.rfl er, p1, ⟨fun ρ2 σ2 C2 H2 p2 c2 x2 er2 => ?_, fun d2 v2 C2 H2 p2 c2 x2 r2 => k.rt _ _ _ _ p2 c2 (ex.tr x2) r2, fun ρ2 σ2 C2 H2 p2 c2 x2 er2 => k.nx _ _ _ _ p2 c2 (ex.tr x2) er2, fun ρ2 σ2 C2 H2 p2 c2 x2 er2 => ?_⟩⟩⟩
  · exact (hP (i + 1) σ2 H2).1 ⟨C2, ρ2, c2, ex.tr x2, er2, p2⟩
  · exact (hP (i + 1) σ2 H2).1 ⟨C2, ρ2, c2, ex.tr x2, er2, p2⟩
theorem js_forL {tg iter : Expr} {body : List Stmt} {g : WG} {sl : List Nat} {w : WE} {b : WS} (hp : PassesOwn (model X.prog X.w) X.A X.env X.xe) (hc : X.calm = true) (hi : PE X iter (lE z w)) (hg : PG X tg (lG z sl g)) (hb : PSs X body (lS z b))
    (hs : ∀ x, foldedSetIterable iter X.env x = pure x := by intro _; rfl) : PS X (.For tg iter body [] pos) (lS z (sForL w g b)) :=
  (ps_for hp hc (pi_list hi) hg hb hs).by fun D σ H ⟨C, ρ, P, c, er, w, k⟩ => ⟨C, ρ, _, c, er, w, fun d v C1 H1 p g1 rv => by
    cases d with
    | list ds =>
      cases rv with
      | @lst a vs _ h1 h2 =>
        refine ⟨a, rfl, ⟨vs, SqL.of (g1.ch _ _ h1)⟩, for_list (xs := vs) (fun i σ H => ∃ C ρ, Core z C H ∧ Ex C1 C ∧ ER z C H σ ρ ∧ sLoop _ b (ds.drop i) P ρ) ⟨C1, ρ, c.gw g1, Ex.rfl, er.gw g1, by rw [List.drop_zero]; exact p⟩ (fun i σ H _ ⟨C, ρ, c, ex, _⟩ => SqL.of (c.ch _ _ (ex _ _ h1))) (fun i x σ H hx h => loop_step (k.up g1.cc) h2 (fun _ _ _ => Iff.rfl) hx h) fun σ H ⟨C, ρ, c, ex, er, w⟩ => ?_⟩
        rw [h2.len, List.drop_length] at w
        exact k.nx _ _ _ _ w c (g1.cc.tr ex) er
    | _ => exact p.elim⟩
theorem js_forT {tg iter : Expr} {body : List Stmt} {g : WG} {sl : List Nat} {w : WE} {b : WS} (hp : PassesOwn (model X.prog X.w) X.A X.env X.xe) (hc : X.calm = true) (hi : PE X iter (lE z w)) (hg : PG X tg (lG z sl g)) (hb : PSs X body (lS z b))
    (hs : ∀ x, foldedSetIterable iter X.env x = pure x := by intro _; rfl) : PS X (.For tg iter body [] pos) (lS z (sForT w g b)) :=
  (ps_for hp hc (pi_tup hi) hg hb hs).by fun D σ H ⟨C, ρ, P, c, er, w, k⟩ => ⟨C, ρ, _, c, er, w, fun d v C1 H1 p g1 rv => by
    cases d with
    | tuple ds =>
      cases rv with
      | @tup a vs _ h1 h2 =>
        refine ⟨a, rfl, ⟨vs, SqT.of (g1.ch _ _ h1)⟩, for_tup (xs := vs) (fun i σ H => ∃ C ρ, Core z C H ∧ Ex C1 C ∧ ER z C H σ ρ ∧ sLoop _ b (ds.drop i) P ρ) ⟨C1, ρ, c.gw g1, Ex.rfl, er.gw g1, by rw [List.drop_zero]; exact p⟩ (fun i σ H _ ⟨C, ρ, c, ex, _⟩ => SqT.of (c.ch _ _ (ex _ _ h1))) (fun i x σ H hx h => loop_step (k.up g1.cc) h2 (fun _ _ _ => Iff.rfl) hx h) fun σ H ⟨C, ρ, c, ex, er, w⟩ => ?_⟩
        rw [h2.len, List.drop_length] at w
        exact k.nx _ _ _ _ w c (g1.cc.tr ex) er
    | _ => exact p.elim⟩
/-- the numbers from 0 on, as data -/
def nums (n : Nat) : List PyData := (List.range n).map fun (i : Nat) => PyData.int (i : Int)
def sForR (t : WA) (g : WG) (b : WS) : WS := fun P ρ => t ρ fun ds => match ds with
  | [.int n] => 0 ≤ n ∧ n ≤ lim ∧ sLoop g b (nums n.toNat) P ρ
  | _ => False
theorem nums_rp {C : Hp} (n : Nat) : RpA C ((List.range n).map fun (i : Nat) => V.int (0 + (i : Int))) (nums n) := by
  unfold nums
  generalize List.range n = l
  induction l with
  | nil => exact .nil
  | cons i r ih => refine .cons ?_ ih; dsimp only; rw [Int.zero_add]; exact .int _
theorem js_forR {tg : Expr} {body : List Stmt} {g : WG} {sl : List Nat} {b : WS} {p p2 : Pos} (hp : PassesOwn (model X.prog X.w) X.A X.env X.xe) (hc : X.calm = true) (hG : Gl X "range") (hm : X.mg "range" = none) (ha : PA X [a] (lA z t)) (hg : PG X tg (lG z sl g)) (hb : PSs X body (lS z b))
    (h0 : starEach [a] X.env = [(false, eval a X.env)] := by rfl) (hs : ∀ x, foldedSetIterable (.Call (.Name "range" p) [a] [] p2) X.env x = pure x := by intro _; rfl) : PS X (.For tg (.Call (.Name "range" p) [a] [] p2) body [] pos) (lS z (sForR t g b)) :=
  (ps_for hp hc (pi_range1 hG hm ha h0) hg hb hs).by fun D σ H ⟨C, ρ, P, c, er, w, k⟩ => ⟨C, ρ, _, c, er, w, fun ds vs C1 H1 p g1 rv => by
    match ds, p with
    | [.int n], ⟨h0, hn, p⟩ =>
      cases rv with
      | cons r1 r2 =>
        cases r1
        cases r2
        have hn' : n ≤ 10000000 := hn
        refine ⟨n, rfl, ?_⟩
        refine ⟨by omega, by omega, for_range (lo := 0) (n := n.toNat) (fun i σ H => ∃ C ρ, Core z C H ∧ Ex C1 C ∧ ER z C H σ ρ ∧ sLoop _ b ((nums n.toNat).drop i) P ρ) ⟨C1, ρ, c.gw g1, Ex.rfl, er.gw g1, by rw [List.drop_zero]; exact p⟩ (fun i σ H hi h => loop_step (i := i) (k.up g1.cc) (nums_rp n.toNat) (fun _ _ _ => Iff.rfl) (by simp [hi]) h) fun σ H ⟨C, ρ, c, ex, er, w⟩ => ?_⟩
        rw [List.drop_eq_nil_of_le (by simp [nums])] at w
        exact k.nx _ _ _ _ w c (g1.cc.tr ex) er⟩
def sWh (c : WT) (b : WS) : Nat → WS
  | 0, _, _ => False
  | m + 1, P, ρ => c ρ fun x => if x = true then b { P with nx := fun ρ1 => sWh c b m P ρ1, ct := fun ρ1 => sWh c b m P ρ1, bk := P.nx } ρ else P.nx ρ
def sWhile (c : WT) (b : WS) : WS := fun P ρ => ∃ m, sWh c b m P ρ
theorem js_while {c : Expr} {body : List Stmt} {b : WS} (hp : PassesOwn (model X.prog X.w) X.A X.env X.xe) (hc : PT X c (lT z ta)) (hb : PSs X body (lS z b)) : PS X (.While c body [] pos) (lS z (sWhile ta b)) :=
  (ps_while hp hc hb).by fun D σ H ⟨C1, ρ, P, c1, er, ⟨m0, w⟩, k⟩ => by
    refine ⟨fun m σ H => ∃ C ρ, Core z C H ∧ Ex C1 C ∧ ER z C H σ ρ ∧ sWh ta b m P ρ, ⟨m0, C1, ρ, c1, Ex.rfl, er, w⟩, fun m σ H ⟨C, ρ, c, ex, er, w⟩ => ?_⟩
    cases m with
    | zero => exact w.elim
    | succ m =>
      refine ⟨C, ρ, _, c, er, w, fun x C2 H2 p g => ?_⟩
      cases x with
      | true =>
        refine ⟨fun σ H => ∃ C ρ, Core z C H ∧ Ex C1 C ∧ ER z C H σ ρ ∧ sWh ta b m P ρ, fun σ' H' h => ⟨m, Nat.lt_succ_self m, h⟩, C2, ρ, _, c.gw g, er.gw g, p, ?_⟩
        have k2 := k.up (ex.tr g.cc)
        exact ⟨fun ρ3 σ3 C3 H3 p3 c3 x3 er3 => ⟨C3, ρ3, c3, (ex.tr g.cc).tr x3, er3, p3⟩, k2.rt, fun ρ3 σ3 C3 H3 p3 c3 x3 er3 => k2.nx _ _ _ _ p3 c3 x3 er3, fun ρ3 σ3 C3 H3 p3 c3 x3 er3 => ⟨C3, ρ3, c3, (ex.tr g.cc).tr x3, er3, p3⟩⟩
      | false => exact k.nx _ _ _ _ p (c.gw g) (ex.tr g.cc) (er.gw g)
def wLc (g : WG) (tt : WT) (te : WE) (ρ : Env') : List PyData → List PyData → (PyData → Prop) → Prop
  | [], acc, P => P (.list acc)
  | d :: ds, acc, P => g d ρ fun ρ1 => tt ρ1 fun b => if b = true then te ρ1 fun y => acc.length ≤ lim ∧ wLc g tt te ρ ds (acc ++ [y]) P else wLc g tt te ρ ds acc P
theorem wipe_get (σ : L2.St) (i : Nat) : ∀ vs : List Nat, (L2.wipe σ vs)[i]? = if i ∈ vs then σ[i]?.map (fun _ => none) else σ[i]?
  | [] => by simp [L2.wipe]
  | v :: vs => by
    show ((L2.wipe σ vs).set v none)[i]? = _
    rw [List.getElem?_set, wipe_get σ i vs, L2.wipe_length]
    by_cases h : v = i
    · subst h
      by_cases h2 : v < σ.length
      · simp [h2]
      · simp [h2]
    · have h3 : ¬ i = v := fun q => h q.symm
      simp [h, h3]
theorem wipe_eq {σ σ2 : L2.St} {sl vs : List Nat} (o : Out sl (L2.wipe σ vs) σ2) (hs : ∀ i ∈ sl, i ∈ vs) : L2.wipe σ2 vs = L2.wipe σ vs := by
  apply List.ext_getElem?
  intro i
  rw [wipe_get, wipe_get]
  by_cases h : i ∈ vs
  · rw [if_pos h, if_pos h]
    have hl : σ2.length = σ.length := o.1.trans (L2.wipe_length _ _)
    by_cases h2 : i < σ.length
    · rw [List.getElem?_eq_getElem h2, List.getElem?_eq_getElem (by omega)]; rfl
    · rw [List.getElem?_eq_none (by omega), List.getElem?_eq_none (by omega)]
  · rw [if_neg h, if_neg h, o.2 i fun q => h (hs i q), wipe_get, if_neg h]
section
variable {g : WG} {tt : WT} {te : WE} {sl vs : List Nat} {P : PyData → Prop} {Q : VK} {σ : L2.St} {ρ : Env'} {C1 H1 : Hp} {D : Addr} {ds : List PyData} {xs : List V}
def LcP (z : Cz) (g : WG) (tt : WT) (te : WE) (vs : List Nat) (P : PyData → Prop) (ρ : Env') (C1 H1 : Hp) (D : Addr) (ds : List PyData) (i : Nat) (H : Hp) : Prop :=
  ∃ C' accv acc, Gw z C1 H1 C' H ∧ H D = some (.lst accv) ∧ C' D = none ∧ RpA C' accv acc ∧ wLc g tt te (wipe' ρ vs) (ds.drop i) acc P
theorem lc_start (c : Core z C1 H1) (hD : H1 D = none) (w : wLc g tt te (wipe' ρ vs) ds [] P) : LcP z g tt te vs P ρ C1 H1 D ds 0 (upd H1 D (.lst [])) :=
  ⟨C1, [], [], c.grow (Ex.new hD), upd_same, c.ch.back hD, .nil, by rw [List.drop_zero]; exact w⟩
theorem lc_end (k : ∀ d v C' H', P d → Gw z C1 H1 C' H' → Rp C' v d → Q v H') (hD : H1 D = none) {n : Nat} (hn : ds.length ≤ n) {H : Hp} (h : LcP z g tt te vs P ρ C1 H1 D ds n H) : Q (.ref D) H := by
  obtain ⟨C', accv, acc, gw, e1, e2, r, w⟩ := h
  rw [List.drop_eq_nil_of_le hn] at w
  refine k _ _ (upd C' D (.lst accv)) H w ⟨fun a o h => ?_, fun a o h => ?_, gw.hh, fun a h n => ?_, gw.ok⟩ (.lst upd_same (r.up (Ex.new e2)))
  · exact Ex.new e2 a o (gw.cc a o h)
  · by_cases q : a = D
    · subst q; rw [upd_same] at h; rw [e1]; exact h
    · rw [upd_ne q] at h; exact gw.ch a o h
  · by_cases q : a = D
    · subst q; exact hD
    · rw [upd_ne q] at h; exact gw.fr a h n
theorem lc_turn (c1 : Core z C1 H1) (er : ER z C1 H1 σ ρ) (hD : H1 D = none) (rv : RpA C1 xs ds) (hs : ∀ i ∈ sl, i ∈ vs) {i : Nat} {x : V} {H : Hp} (hx : xs[i]? = some x) (h : LcP z g tt te vs P ρ C1 H1 D ds i H) :
    lG z sl g x (L2.wipe σ vs) H fun σ2 H2 => L2.wipe σ2 vs = L2.wipe σ vs ∧ lT z tt σ2 H2 fun b H3 => if b = true then lE z te σ2 H3 fun y H4 => ∃ acc, H4 D = some (.lst acc) ∧ acc.length < sizeLine ∧ LcP z g tt te vs P ρ C1 H1 D ds (i + 1) (upd H4 D (.lst (acc ++ [y]))) else LcP z g tt te vs P ρ C1 H1 D ds (i + 1) H3 := by
  obtain ⟨C', accv, acc, gw, e1, e2, r, w⟩ := h
  obtain ⟨d, hd, rd⟩ := rv.getV hx
  have e : ds.drop i = d :: ds.drop (i + 1) := by
    obtain ⟨h1, h2⟩ := List.getElem?_eq_some_iff.mp hd
    rw [← h2]; exact List.drop_eq_getElem_cons h1
  rw [e] at w
  have nexD : ¬ z.ex D := fun q => z.there _ _ c1.ok q hD
  have stay : ∀ {C2 H2 : Hp}, Gw z C' H C2 H2 → H2 D = some (.lst accv) ∧ C2 D = none := fun {C2 H2} g2 => ⟨g2.hh D _ nexD e1, by
    cases q : C2 D with
    | none => rfl
    | some o => have := g2.fr D (by rw [q]; simp) e2; rw [this] at e1; cases e1⟩
  have c' := c1.gw gw
  have er' := (er.gw gw).wipe vs
  refine ⟨C', wipe' ρ vs, d, _, c', er', rd.up gw.cc, w, fun ρ1 σ1 p1 ee1 o1 => ⟨wipe_eq o1 hs, C', ρ1, _, c', ee1 C' H Ex.rfl er', p1, fun b C2 H2 p2 g2 => ?_⟩⟩
  have er1 : ER z C' H σ1 ρ1 := ee1 C' H Ex.rfl er'
  cases b with
  | true =>
    refine ⟨C2, ρ1, _, c'.gw g2, er1.gw g2, p2, fun y v C3 H3 p3 g3 r3 => ⟨accv, (stay (g2.tr g3)).1, ?_, C3, accv ++ [v], acc ++ [y], ?_, upd_same, (stay (g2.tr g3)).2, (r.up (g2.tr g3).cc).app (.one r3), p3.2⟩⟩
    · rw [r.len]; exact lim_lt p3.1
    · have gg := gw.tr (g2.tr g3)
      refine ⟨gg.cc, fun a o h => ?_, fun a o x h => ?_, gg.fr, ?_⟩
      · rw [upd_ne (fun q => by rw [q, (stay (g2.tr g3)).2] at h; cases h)]; exact gg.ch a o h
      · rw [upd_ne (ne_of_none h hD)]; exact gg.hh a o x h
      · refine ⟨fun p hp => ?_, fun t ht => ?_⟩
        · obtain ⟨a0, b0, h0, q0⟩ := gg.ok.1 p hp
          exact ⟨a0, b0, by rw [upd_ne (fun q => nexD (by rw [← q]; exact .inl hp))]; exact h0, q0⟩
        · obtain ⟨ps, h1, h2, h3⟩ := gg.ok.2 t ht
          refine ⟨ps, by rw [upd_ne (fun q => nexD (by rw [← q]; exact .inr ⟨t, ht, rfl⟩))]; exact h1, h2, fun pos cv hc => ?_⟩
          obtain ⟨c0, k1, k2⟩ := h3 pos cv hc
          refine ⟨c0, k1, ?_⟩
          rw [upd_ne (fun q => by
            have := (stay (g2.tr g3)).1
            rw [← q, k2] at this
            cases this)]
          exact k2
  | false => exact ⟨C2, accv, acc, gw.tr g2, (stay g2).1, (stay g2).2, r.up g2.cc, p2⟩
end
def wLcL (w : WE) (g : WG) (tt : WT) (te : WE) (vs : List Nat) : WE := fun ρ P => w ρ fun d => match d with
  | .list ds => wLc g tt te (wipe' ρ vs) ds [] P
  | _ => False
def wLcT (w : WE) (g : WG) (tt : WT) (te : WE) (vs : List Nat) : WE := fun ρ P => w ρ fun d => match d with
  | .tuple ds => wLc g tt te (wipe' ρ vs) ds [] P
  | _ => False
def wLcR (w : WA) (g : WG) (tt : WT) (te : WE) (vs : List Nat) : WE := fun ρ P => w ρ fun ds => match ds with
  | [.int n] => 0 ≤ n ∧ n ≤ lim ∧ wLc g tt te (wipe' ρ vs) (nums n.toNat) [] P
  | _ => False
section
variable {g : WG} {tt : WT} {te : WE} {sl vs : List Nat} {w : WE}
theorem tie_lcL (hs : ∀ i ∈ sl, i ∈ vs) {σ : L2.St} {H : Hp} {Q : VK} (h : lE z (wLcL w g tt te vs) σ H Q) : tLc (iList X.K (lE z w)) (lG z sl g) (lT z tt) (lE z te) vs σ H Q := by
  obtain ⟨C, ρ, P, c, er, w, k⟩ := h
  refine ⟨C, ρ, _, c, er, w, fun d v C1 H1 p g1 rv => ?_⟩
  cases d with
  | list ds =>
    cases rv with
    | @lst a xs _ h1 h2 =>
      have c1 := c.gw g1
      refine ⟨a, rfl, ⟨xs, SqL.of (g1.ch _ _ h1)⟩, fun D hD => ?_⟩
      exact lc_list (K := X.K) (a := a) (xs := xs) (LcP z g tt te vs P ρ C1 H1 D ds) (lc_start c1 hD p) (fun i H _ h => SqL.of (h.choose_spec.choose_spec.choose_spec.1.ch _ _ (h.choose_spec.choose_spec.choose_spec.1.cc _ _ h1)))
        (fun i x H hx h => lc_turn c1 (er.gw g1) hD h2 hs hx h) fun H h => lc_end (fun d v C' H' p' g' r' => k d v C' H' p' (g1.tr g') r') hD (Nat.le_of_eq h2.len.symm) h
  | _ => exact p.elim
theorem tie_lcT (hs : ∀ i ∈ sl, i ∈ vs) {σ : L2.St} {H : Hp} {Q : VK} (h : lE z (wLcT w g tt te vs) σ H Q) : tLc (iTup X.K (lE z w)) (lG z sl g) (lT z tt) (lE z te) vs σ H Q := by
  obtain ⟨C, ρ, P, c, er, w, k⟩ := h
  refine ⟨C, ρ, _, c, er, w, fun d v C1 H1 p g1 rv => ?_⟩
  cases d with
  | tuple ds =>
    cases rv with
    | @tup a xs _ h1 h2 =>
      have c1 := c.gw g1
      refine ⟨a, rfl, ⟨xs, SqT.of (g1.ch _ _ h1)⟩, fun D hD => ?_⟩
      exact lc_tup (K := X.K) (a := a) (xs := xs) (LcP z g tt te vs P ρ C1 H1 D ds) (lc_start c1 hD p) (fun i H _ h => SqT.of (h.choose_spec.choose_spec.choose_spec.1.ch _ _ (h.choose_spec.choose_spec.choose_spec.1.cc _ _ h1)))
        (fun i x H hx h => lc_turn c1 (er.gw g1) hD h2 hs hx h) fun H h => lc_end (fun d v C' H' p' g' r' => k d v C' H' p' (g1.tr g') r') hD (Nat.le_of_eq h2.len.symm) h
  | _ => exact p.elim
theorem tie_lcR {w : WA} (hs : ∀ i ∈ sl, i ∈ vs) {σ : L2.St} {H : Hp} {Q : VK} (h : lE z (wLcR w g tt te vs) σ H Q) : tLc (iRng1 (lA z w)) (lG z sl g) (lT z tt) (lE z te) vs σ H Q := by
  obtain ⟨C, ρ, P, c, er, w, k⟩ := h
  refine ⟨C, ρ, _, c, er, w, fun ds vs' C1 H1 p g1 rv => ?_⟩
  match ds, p with
  | [.int n], ⟨h0, hn, p⟩ =>
    cases rv with
    | cons r1 r2 =>
      cases r1
      cases r2
      have hn' : n ≤ 10000000 := hn
      have c1 := c.gw g1
      refine ⟨n, rfl, by omega, by omega, fun D hD => ?_⟩
      exact lc_range (lo := 0) (n := n.toNat) (LcP z g tt te vs P ρ C1 H1 D (nums n.toNat)) (lc_start c1 hD p)
        (fun i H hi h => lc_turn c1 (er.gw g1) hD (nums_rp n.toNat) hs (by simp [hi]) h) fun H h => lc_end (fun d v C' H' p' g' r' => k d v C' H' p' (g1.tr g') r') hD (by simp [nums]) h
end
end
end Lr
namespace Lr
open PySem PySem.Spec PyProof.Rows L2
section
variable {X : Cx} {z : Cz} {elt tg iter a : Expr} {ifs : List Expr} {scope : Scope} {own : List (Str × Nat)} {pos p p2 : Pos} {w : WE} {t : WA} {g : WG} {sl : List Nat} {tt : WT} {te : WE}
/-- what a comprehension's block is shown in -/
abbrev Blk (X : Cx) (scope : Scope) (F : Cx → Prop) : Prop := ∀ (s : Shared) (H : Hp) (C : Addr) (cl : List (Str × Addr)) (fp : List Addr), F (X.blk s H scope (compEnvC scope cl C X.env) fp)
theorem jts_nil : PTs X [] (lT z tTrue) := ⟨fun pins s σ H Q I ⟨C, ρ, P, c, er, w, k⟩ => pts_nil.run pins s σ H Q I (k true C H w c.rf)⟩
theorem jts_one {c : Expr} {ta : WT} (h : PT X c (lT z ta)) : PTs X [c] (lT z ta) := pts_one h
theorem je_lcL (hc : X.calm = true) (hN : X.N.Nodup) (hi : PE X iter (lE z w)) (ok : BlkOk X.N X.env.scope scope own) (hg : Blk X scope fun X => PG X tg (lG z sl g)) (ht : Blk X scope fun X => PTs X ifs (lT z tt)) (he : Blk X scope fun X => PE X elt (lE z te))
    (hs : ∀ i ∈ sl, i ∈ own.map (·.2) := by decide) (hf : ∀ x, foldedSetIterable iter X.env x = pure x := by intro _; rfl) : PE X (.ListComp elt [⟨tg, iter, ifs, 0⟩] scope pos) (lE z (wLcL w g tt te (own.map (·.2)))) :=
  (pe_lc hc hN (pi_list hi) ok hg ht he hf).by fun _ _ _ h => tie_lcL hs h
theorem je_lcT (hc : X.calm = true) (hN : X.N.Nodup) (hi : PE X iter (lE z w)) (ok : BlkOk X.N X.env.scope scope own) (hg : Blk X scope fun X => PG X tg (lG z sl g)) (ht : Blk X scope fun X => PTs X ifs (lT z tt)) (he : Blk X scope fun X => PE X elt (lE z te))
    (hs : ∀ i ∈ sl, i ∈ own.map (·.2) := by decide) (hf : ∀ x, foldedSetIterable iter X.env x = pure x := by intro _; rfl) : PE X (.ListComp elt [⟨tg, iter, ifs, 0⟩] scope pos) (lE z (wLcT w g tt te (own.map (·.2)))) :=
  (pe_lc hc hN (pi_tup hi) ok hg ht he hf).by fun _ _ _ h => tie_lcT hs h
theorem je_lcR (hc : X.calm = true) (hN : X.N.Nodup) (hG : Gl X "range") (hm : X.mg "range" = none) (ha : PA X [a] (lA z t)) (ok : BlkOk X.N X.env.scope scope own) (hg : Blk X scope fun X => PG X tg (lG z sl g)) (ht : Blk X scope fun X => PTs X ifs (lT z tt)) (he : Blk X scope fun X => PE X elt (lE z te))
    (hs : ∀ i ∈ sl, i ∈ own.map (·.2) := by decide) (h0 : starEach [a] X.env = [(false, eval a X.env)] := by rfl) (hf : ∀ x, foldedSetIterable (.Call (.Name "range" p) [a] [] p2) X.env x = pure x := by intro _; rfl) : PE X (.ListComp elt [⟨tg, .Call (.Name "range" p) [a] [] p2, ifs, 0⟩] scope pos) (lE z (wLcR t g tt te (own.map (·.2)))) :=
  (pe_lc hc hN (pi_range1 hG hm ha h0) ok hg ht he hf).by fun _ _ _ h => tie_lcR hs h
/-- y = [..] on one line -/
theorem js_setLcL {i : Nat} {y : Str} {py spos : Pos} (hc : X.calm = true) (hN : X.N.Nodup) (hy : X.N[i]? = some y) (hyl : X.env.scope.names.lookup y = some .local) (hsw : swapsWith (.ListComp elt [⟨tg, iter, ifs, 0⟩] scope pos) (some (.Name y py)) spos.line X.env = pure true)
    (hi : PE X iter (lE z w)) (ok : BlkOk X.N X.env.scope scope own) (hg : Blk X scope fun X => PG X tg (lG z sl g)) (ht : Blk X scope fun X => PTs X ifs (lT z tt)) (he : Blk X scope fun X => PE X elt (lE z te))
    (hs : ∀ i ∈ sl, i ∈ own.map (·.2) := by decide) (hf : ∀ x, foldedSetIterable iter X.env x = pure x := by intro _; rfl) : PS X (.Assign [.Name y py] (.ListComp elt [⟨tg, iter, ifs, 0⟩] scope pos) spos) (lS z (sAsg (wLcL w g tt te (own.map (·.2))) (gN i))) :=
  (ps_setLc (i := i) hc hN hy hyl hsw (pi_list hi) ok hg ht he hf).by fun D σ H ⟨C, ρ, P, c, er, w, k⟩ =>
    tie_lcL hs ⟨C, ρ, _, c, er, w, fun d v C1 H1 p g1 rv => k.nx _ _ _ _ p (c.gw g1) g1.cc ((er.gw g1).set rv)⟩
theorem js_setLcR {i : Nat} {y : Str} {py spos : Pos} (hc : X.calm = true) (hN : X.N.Nodup) (hy : X.N[i]? = some y) (hyl : X.env.scope.names.lookup y = some .local) (hsw : swapsWith (.ListComp elt [⟨tg, .Call (.Name "range" p) [a] [] p2, ifs, 0⟩] scope pos) (some (.Name y py)) spos.line X.env = pure true)
    (hG : Gl X "range") (hm : X.mg "range" = none) (ha : PA X [a] (lA z t)) (ok : BlkOk X.N X.env.scope scope own) (hg : Blk X scope fun X => PG X tg (lG z sl g)) (ht : Blk X scope fun X => PTs X ifs (lT z tt)) (he : Blk X scope fun X => PE X elt (lE z te))
    (hs : ∀ i ∈ sl, i ∈ own.map (·.2) := by decide) (h0 : starEach [a] X.env = [(false, eval a X.env)] := by rfl) (hf : ∀ x, foldedSetIterable (.Call (.Name "range" p) [a] [] p2) X.env x = pure x := by intro _; rfl) : PS X (.Assign [.Name y py] (.ListComp elt [⟨tg, .Call (.Name "range" p) [a] [] p2, ifs, 0⟩] scope pos) spos) (lS z (sAsg (wLcR t g tt te (own.map (·.2))) (gN i))) :=
  (ps_setLc (i := i) hc hN hy hyl hsw (pi_range1 hG hm ha h0) ok hg ht he hf).by fun D σ H ⟨C, ρ, P, c, er, w, k⟩ =>
    tie_lcR hs ⟨C, ρ, _, c, er, w, fun d v C1 H1 p g1 rv => k.nx _ _ _ _ p (c.gw g1) g1.cc ((er.gw g1).set rv)⟩
end
theorem Gw.app {z : Cz} {C1 H1 C3 H3 : Hp} {D : Addr} {l l' : List V} (c1 : Core z C1 H1) (gg : Gw z C1 H1 C3 H3) (hD : H1 D = none) (h3 : H3 D = some (.lst l)) (hC : C3 D = none) : Gw z C1 H1 C3 (upd H3 D (.lst l')) := by
  have nexD : ¬ z.ex D := fun q => z.there _ _ c1.ok q hD
  refine ⟨gg.cc, fun a o h => ?_, fun a o x h => ?_, gg.fr, fun p hp => ?_, fun t ht => ?_⟩
  · rw [upd_ne (fun q => by rw [q, hC] at h; cases h)]; exact gg.ch a o h
  · rw [upd_ne (ne_of_none h hD)]; exact gg.hh a o x h
  · obtain ⟨a0, b0, h0, q0⟩ := gg.ok.1 p hp
    exact ⟨a0, b0, by rw [upd_ne (fun q => nexD (by rw [← q]; exact .inl hp))]; exact h0, q0⟩
  · obtain ⟨ps, h1, h2, h4⟩ := gg.ok.2 t ht
    refine ⟨ps, by rw [upd_ne (fun q => nexD (by rw [← q]; exact .inr ⟨t, ht, rfl⟩))]; exact h1, h2, fun pos cv hc => ?_⟩
    obtain ⟨c0, k1, k2⟩ := h4 pos cv hc
    refine ⟨c0, k1, ?_⟩
    rw [upd_ne (fun q => by rw [← q, k2] at h3; cases h3)]
    exact k2
theorem Gw.stay {z : Cz} {C' H C2 H2 : Hp} {D : Addr} {l : List V} (g2 : Gw z C' H C2 H2) (nexD : ¬ z.ex D) (e1 : H D = some (.lst l)) (e2 : C' D = none) : H2 D = some (.lst l) ∧ C2 D = none := ⟨g2.hh D _ nexD e1, by
  cases q : C2 D with
  | none => rfl
  | some o => have := g2.fr D (by rw [q]; simp) e2; rw [this] at e1; cases e1⟩
def wIn (g1 : WG) (te : WE) (ρ1 : Env') : List PyData → List PyData → (List PyData → Prop) → Prop
  | [], acc, K => K acc
  | e :: es, acc, K => g1 e ρ1 fun ρ2 => te ρ2 fun y => acc.length ≤ lim ∧ wIn g1 te ρ1 es (acc ++ [y]) K
def wLc2 (g : WG) (w1 : WA) (g1 : WG) (te : WE) (vs1 : List Nat) (ρ : Env') : List PyData → List PyData → (PyData → Prop) → Prop
  | [], acc, P => P (.list acc)
  | d :: ds, acc, P => g d ρ fun ρ1 => w1 ρ1 fun xs => match xs with
    | [.int n] => 0 ≤ n ∧ n ≤ lim ∧ wIn g1 te (wipe' ρ1 vs1) (nums n.toNat) acc fun acc' => wLc2 g w1 g1 te vs1 ρ ds acc' P
    | _ => False
def wLc2L (w : WE) (g : WG) (w1 : WA) (g1 : WG) (te : WE) (vs vs1 : List Nat) : WE := fun ρ P => w ρ fun d => match d with
  | .list ds => wLc2 g w1 g1 te vs1 (wipe' ρ vs) ds [] P
  | _ => False
theorem tie_lc2 {X : Cx} {z : Cz} {w : WE} {g g1 : WG} {w1 : WA} {te : WE} {sl sl1 vs vs1 : List Nat} (hs : ∀ i ∈ sl, i ∈ vs) (hs1 : ∀ i ∈ sl1, i ∈ vs1) {σ : L2.St} {H : Hp} {Q : VK} (h : lE z (wLc2L w g w1 g1 te vs vs1) σ H Q) :
    tLc2 (iList X.K (lE z w)) (lG z sl g) tYes (iRng1 (lA z w1)) (lG z sl1 g1) tYes (lE z te) vs vs1 σ H Q := by
  obtain ⟨C, ρ, P, c, er, w0, k⟩ := h
  refine ⟨C, ρ, _, c, er, w0, fun d v C1 H1 p g0 rv => ?_⟩
  cases d with
  | list ds =>
    cases rv with
    | @lst a xs _ h1 h2 =>
      have c1 := c.gw g0
      refine ⟨a, rfl, ⟨xs, SqL.of (g0.ch _ _ h1)⟩, fun D hD => ?_⟩
      have nexD : ¬ z.ex D := fun q => z.there _ _ c1.ok q hD
      let Pv : Nat → Hp → Prop := fun i H => ∃ C' accv acc, Gw z C1 H1 C' H ∧ H D = some (.lst accv) ∧ C' D = none ∧ RpA C' accv acc ∧ wLc2 g w1 g1 te vs1 (wipe' ρ vs) (ds.drop i) acc P
      have fin : ∀ H, Pv xs.length H → Q (.ref D) H := fun H ⟨C', accv, acc, gw, e1, e2, r, w⟩ => by
        rw [h2.len, List.drop_length] at w
        refine k _ _ (upd C' D (.lst accv)) H w (g0.tr ⟨fun a o h => Ex.new e2 a o (gw.cc a o h), fun a o h => ?_, gw.hh, fun a h n => ?_, gw.ok⟩) (.lst upd_same (r.up (Ex.new e2)))
        · by_cases q : a = D
          · subst q; rw [upd_same] at h; rw [e1]; exact h
          · rw [upd_ne q] at h; exact gw.ch a o h
        · by_cases q : a = D
          · subst q; exact hD
          · rw [upd_ne q] at h; exact gw.fr a h n
      refine ⟨fun i m H => m = xs.length - i ∧ i ≤ xs.length ∧ Pv i H, ⟨xs.length, rfl, Nat.zero_le _, C1, [], [], c1.grow (Ex.new hD), upd_same, c1.ch.back hD, .nil, by rw [List.drop_zero]; exact p⟩, ?_⟩
      rintro i m H ⟨rfl, hi, C', accv, acc, gw, e1, e2, r, w⟩
      have hseq : SqL X.K H a xs := SqL.of (gw.ch _ _ (gw.cc _ _ h1))
      by_cases hlt : i < xs.length
      · obtain ⟨d, hd, rd⟩ := h2.getV (List.getElem?_eq_getElem hlt)
        have e : ds.drop i = d :: ds.drop (i + 1) := by
          obtain ⟨q1, q2⟩ := List.getElem?_eq_some_iff.mp hd
          rw [← q2]; exact List.drop_eq_getElem_cons q1
        rw [e] at w
        refine .inr ⟨⟨xs, xs[i], hseq, List.getElem?_eq_getElem hlt⟩, Pv (i + 1), fun H' h' => ⟨xs.length - (i + 1), by omega, rfl, hlt, h'⟩, fun x H' hy => ?_⟩
        obtain ⟨rfl, fy⟩ := hy
        have ex : x = xs[i] := Option.some.inj ((fy xs hseq).symm.trans (List.getElem?_eq_getElem hlt))
        subst ex
        have c' := c1.gw gw
        have er' := ((er.gw g0).gw gw).wipe vs
        refine ⟨C', wipe' ρ vs, d, _, c', er', rd.up gw.cc, w, fun ρ1 σ1 p1 ee1 o1 => ⟨wipe_eq o1 hs, ?_⟩⟩
        dsimp only [tYes]
        rw [if_pos rfl]
        refine ⟨C', ρ1, _, c', ee1 C' H' Ex.rfl er', p1, fun zs vs' C2 H4 p2 g2 rv2 => ?_⟩
        match zs, p2 with
        | [.int n], ⟨h0, hn, p2⟩ =>
          cases rv2 with
          | cons r1 r2 =>
            cases r1
            cases r2
            have hn' : n ≤ 10000000 := hn
            let Pin : Nat → Hp → Prop := fun j H => ∃ C3 accv acc, Gw z C1 H1 C3 H ∧ Ex C' C3 ∧ H D = some (.lst accv) ∧ C3 D = none ∧ RpA C3 accv acc ∧ wIn g1 te (wipe' ρ1 vs1) ((nums n.toNat).drop j) acc fun acc' => wLc2 g w1 g1 te vs1 (wipe' ρ vs) (ds.drop (i + 1)) acc' P
            refine ⟨n, rfl, by omega, by omega, fun j kk H => kk = n.toNat - j ∧ j ≤ n.toNat ∧ Pin j H, ⟨n.toNat, rfl, Nat.zero_le _, C2, accv, acc, gw.tr g2, g2.cc, (g2.stay nexD e1 e2).1, (g2.stay nexD e1 e2).2, r.up g2.cc, by rw [List.drop_zero]; exact p2⟩, ?_⟩
            rintro j kk H5 ⟨rfl, hj, C3, accv3, acc3, gw3, ex3, e31, e32, r3, w3⟩
            by_cases hjn : j < n.toNat
            · have ej : (nums n.toNat).drop j = .int (j : Int) :: (nums n.toNat).drop (j + 1) := by
                rw [List.drop_eq_getElem_cons (by simpa [nums] using hjn)]
                simp [nums]
              rw [ej] at w3
              refine .inr ⟨hjn, Pin (j + 1), fun H' h' => ⟨n.toNat - (j + 1), by omega, rfl, hjn, h'⟩, fun x H6 hy => ?_⟩
              obtain ⟨rfl, rfl⟩ := hy
              have er3 := (ee1 C3 H6 ex3 (((er.gw g0).gw gw3).wipe vs)).wipe vs1
              refine ⟨C3, wipe' ρ1 vs1, .int (j : Int), _, c1.gw gw3, er3, by rw [Int.zero_add]; exact .int _, w3, fun ρ2 σ3 p3 ee3 o3 => ⟨wipe_eq o3 hs1, ?_⟩⟩
              refine iteT ?_
              refine ⟨C3, ρ2, _, c1.gw gw3, ee3 C3 H6 Ex.rfl er3, p3, fun y v C4 H7 p4 g4 r4 => ?_⟩
              obtain ⟨s1, s2⟩ := g4.stay nexD e31 e32
              exact ⟨accv3, s1, by rw [r3.len]; exact lim_lt p4.1, C4, _, acc3 ++ [y], Gw.app c1 (gw3.tr g4) hD s1 s2, ex3.tr g4.cc, upd_same, s2, (r3.up g4.cc).app (.one r4), p4.2⟩
            · rw [List.drop_eq_nil_of_le (by simp [nums]; omega)] at w3
              exact .inl ⟨by show n.toNat ≤ j; omega, C3, accv3, acc3, gw3, e31, e32, r3, w3⟩
      · have e : i = xs.length := by omega
        subst e
        exact .inl ⟨⟨xs, hseq, Nat.le_refl _⟩, fin H ⟨C', accv, acc, gw, e1, e2, r, w⟩⟩
  | _ => exact p.elim
section
variable {X : Cx} {z : Cz} {elt tg iter tg1 a : Expr} {scope : Scope} {own : List (Str × Nat)} {pos p p2 : Pos} {w : WE} {g g1 : WG} {w1 : WA} {te : WE} {sl sl1 vs1 : List Nat}
theorem js_setLc2 {i : Nat} {y : Str} {py spos : Pos} (vs1 : List Nat) (hc : X.calm = true) (hN : X.N.Nodup) (hy : X.N[i]? = some y) (hyl : X.env.scope.names.lookup y = some .local) (hsw : swapsWith (.ListComp elt [⟨tg, iter, [], 0⟩, ⟨tg1, .Call (.Name "range" p) [a] [] p2, [], 0⟩] scope pos) (some (.Name y py)) spos.line X.env = pure true)
    (hi : PE X iter (lE z w)) (ok : BlkOk X.N X.env.scope scope own) (hv : ∀ i ∈ vs1, i ∈ own.map (·.2)) (hg : Blk X scope fun X => PG X tg (lG z sl g)) (hG : Blk X scope fun X => Gl X "range") (hm : X.mg "range" = none) (ha : Blk X scope fun X => PA X [a] (lA z w1)) (hg1 : Blk X scope fun X => PG X tg1 (lG z sl1 g1)) (he : Blk X scope fun X => PE X elt (lE z te))
    (h0 : Blk X scope fun X => starEach [a] X.env = [(false, eval a X.env)]) (hs : ∀ i ∈ sl, i ∈ own.map (·.2) := by decide) (hs1 : ∀ i ∈ sl1, i ∈ vs1 := by decide) (hf : ∀ x, foldedSetIterable iter X.env x = pure x := by intro _; rfl) (hf1 : ∀ env x, foldedSetIterable (.Call (.Name "range" p) [a] [] p2) env x = pure x := by intro _ _; rfl) :
    PS X (.Assign [.Name y py] (.ListComp elt [⟨tg, iter, [], 0⟩, ⟨tg1, .Call (.Name "range" p) [a] [] p2, [], 0⟩] scope pos) spos) (lS z (sAsg (wLc2L w g w1 g1 te (own.map (·.2)) vs1) (gN i))) :=
  (ps_setLc2 (i := i) (vs1 := vs1) hc hN hy hyl hsw (pi_list hi) ok hv hg (fun _ _ _ _ _ => pts_nil) (fun s H C cl fp => pi_range1 (hG s H C cl fp) hm (ha s H C cl fp) (h0 s H C cl fp)) hg1 (fun _ _ _ _ _ => pts_nil) he hf hf1).by fun D σ H ⟨C, ρ, P, c, er, w, k⟩ =>
    tie_lc2 hs hs1 ⟨C, ρ, _, c, er, w, fun d v C1 H1 p g1 rv => k.nx _ _ _ _ p (c.gw g1) g1.cc ((er.gw g1).set rv)⟩
end
structure Gp (C H C' H' : Hp) : Prop where
  cc : Ex C C'
  ch : Ex C' H'
  hh : Ex H H'
  fr : ∀ a, C' a ≠ none → C a = none → H a = none
theorem Gp.gw {z : Cz} {C H C' H' : Hp} (c : Core z C H) (g : Gp C H C' H') : Gw z C H C' H' := ⟨g.cc, g.ch, fun a o _ h => g.hh a o h, g.fr, z.keep _ _ c.ok g.hh⟩
/-- f(..) on data, nothing raised -/
def spP (f : FL) : Sp := fun vs H Q _ => ∃ C ds P, Ex C H ∧ RpA C vs ds ∧ f ds P ∧ ∀ d v C' H', P d → Gp C H C' H' → Rp C' v d → Q v H'
/-- f(..) that may raise -/
def spX (f : FX) : Sp := fun vs H Q E => ∃ C ds P R, Ex C H ∧ RpA C vs ds ∧ f ds P R ∧ (∀ d v C' H', P d → Gp C H C' H' → Rp C' v d → Q v H') ∧ ∀ e cls d H', R e → Ex H H' → ErrAt e cls d H' → E cls d H'
/-- f(cup, ..) -/
structure Gc (p : Addr) (C H C' H' : Hp) : Prop where
  cc : Ex C C'
  ch : Ex C' H'
  hh : ∀ a o, a ≠ p → H a = some o → H' a = some o
  fr : ∀ a, C' a ≠ none → C a = none → H a = none
  cup : CupAt H' p
def spC (f : FL) : Sp := fun vs H Q _ => ∃ p ws C ds P, vs = .ref p :: ws ∧ Ex C H ∧ C p = none ∧ CupAt H p ∧ RpA C ws ds ∧ f ds P ∧ ∀ d v C' H', P d → Gc p C H C' H' → Rp C' v d → Q v H'
def wCallX (z : Cz) (f : FX) (t : WA) : WE := fun ρ P => t ρ fun ds => f ds P z.R
def wCallN (f : FX) (t : WA) : WE := fun ρ P => t ρ fun ds => f ds P fun _ => False
def wCallC (i : Nat) (f : FL) (t : WA) : WE := fun ρ P => ρ[i]? = some (some .cup) ∧ t ρ fun ds => f ds P
def wCall0 (f : FL) : WE := fun _ P => f [] P
section
variable {X : Cx} {z : Cz} {k : Nat} {fa : Addr} {fd : FuncData} {ps : List Str} {x : Str} {p pos : Pos} {e : Expr} {es : List Expr} {t : WA}
theorem hoL_P {f : FL} {E : XK} : HoL z (fun vs H Q => spP f (vs ++ []) H Q E) f := fun C H vs ds P Q c rv hf k => by
  refine ⟨C, ds, P, c.ch, by rw [List.append_nil]; exact rv, hf, fun d v C' H' p g r => k d v C' H' p (g.gw c) r⟩
theorem je_call {f : FL} (F : FnOk X.prog X.w X.K X.mg X.base CX0 k fa fd ps (spP f)) (hr : Room k X.A) (hg : Gl X x) (hm : X.mg x = some (.ref fa)) (hk : PySem.W.keepIn X.K (.ref fa) = true) (hb : Binds X.K fd ps []) (ha : PA X (e :: es) (lA z t)) (hdb : (x == ("__debug__" : Str)) = false := by decide)
    (he : starEach (e :: es) X.env = (false, eval e X.env) :: starEach es X.env := by rfl) (hpl : (backTo pos (starEach es X.env)).any (·.1) = false := by rfl) : PE X (.Call (.Name x p) (e :: es) [] pos) (lE z (wL f t)) :=
  (pe_call F hr hg hm hk hb .nil pass0 ha hdb he hpl).by fun _ _ _ h => tieL hoL_P h
theorem je_call0 {f : FL} (F : FnOk X.prog X.w X.K X.mg X.base CX0 k fa fd ps (spP f)) (hr : Room k X.A) (hg : Gl X x) (hm : X.mg x = some (.ref fa)) (hk : PySem.W.keepIn X.K (.ref fa) = true) (hb : Binds X.K fd ps []) (hdb : (x == ("__debug__" : Str)) = false := by decide) : PE X (.Call (.Name x p) [] [] pos) (lE z (wL f wNil)) :=
  (pe_call0 F hr hg hm hk hb .nil pass0 hdb).by fun σ H Q ⟨C, ρ, P, c, er, w, k⟩ => hoL_P (E := E0) C H [] [] P Q c .nil w k
/-- a callee that may raise, in a def from which its errors leave -/
theorem je_callX {f : FX} (hz : z.hR) (F : FnOk X.prog X.w X.K X.mg X.base (L2.CX X.prog X.w) k fa fd ps (spX f)) (hx : Passes (L2.CX X.prog X.w) X z.E) (hr : Room k X.A) (hg : Gl X x) (hm : X.mg x = some (.ref fa)) (hk : PySem.W.keepIn X.K (.ref fa) = true) (hb : Binds X.K fd ps []) (ha : PA X (e :: es) (lA z t)) (hdb : (x == ("__debug__" : Str)) = false := by decide)
    (he : starEach (e :: es) X.env = (false, eval e X.env) :: starEach es X.env := by rfl) (hpl : (backTo pos (starEach es X.env)).any (·.1) = false := by rfl) : PE X (.Call (.Name x p) (e :: es) [] pos) (lE z (wCallX z f t)) :=
  (pe_call F hr hg hm hk hb .nil hx ha hdb he hpl).by fun σ H Q ⟨C, ρ, P, c, er, w, k⟩ => ⟨C, ρ, _, c, er, w, fun ds vs C1 H1 p1 g1 rv => ⟨C1, ds, P, z.R, g1.ch, by rw [List.append_nil]; exact rv, p1, fun d v C' H' p g r => k d v C' H' p (g1.tr (g.gw (c.gw g1))) r, fun er2 cls d H' hR ex ea => hz er2 cls d H' hR ((c.gw g1).b.tr ex) (z.keep _ _ g1.ok ex) ea⟩⟩
/-- .. where it raises nothing -/
theorem je_callN {f : FX} (F : FnOk X.prog X.w X.K X.mg X.base (L2.CX X.prog X.w) k fa fd ps (spX f)) (hr : Room k X.A) (hg : Gl X x) (hm : X.mg x = some (.ref fa)) (hk : PySem.W.keepIn X.K (.ref fa) = true) (hb : Binds X.K fd ps []) (ha : PA X (e :: es) (lA z t)) (hdb : (x == ("__debug__" : Str)) = false := by decide)
    (he : starEach (e :: es) X.env = (false, eval e X.env) :: starEach es X.env := by rfl) (hpl : (backTo pos (starEach es X.env)).any (·.1) = false := by rfl) : PE X (.Call (.Name x p) (e :: es) [] pos) (lE z (wCallN f t)) :=
  (pe_call F hr hg hm hk hb .nil passL ha hdb he hpl).by fun σ H Q ⟨C, ρ, P, c, er, w, k⟩ => ⟨C, ρ, _, c, er, w, fun ds vs C1 H1 p1 g1 rv => ⟨C1, ds, P, fun _ => False, g1.ch, by rw [List.append_nil]; exact rv, p1, fun d v C' H' p g r => k d v C' H' p (g1.tr (g.gw (c.gw g1))) r, fun _ _ _ _ h _ _ => h.elim⟩⟩
theorem ER.cup {C H : Hp} {σ : L2.St} {ρ : Env'} {i : Nat} (er : ER z C H σ ρ) (h : ρ[i]? = some (some .cup)) : ∃ p, σ[i]? = some (some (.ref p)) ∧ z.cup = some p := by
  have q := er.at_ i
  have e : ρ.getD i none = some .cup := by rw [List.getD_eq_getElem?_getD, h]; rfl
  rw [e, List.getD_eq_getElem?_getD] at q
  cases s : σ[i]? with
  | none => rw [s] at q; exact q.elim
  | some o =>
    cases o with
    | none => rw [s] at q; exact q.elim
    | some v => rw [s] at q; obtain ⟨p, rfl, hp⟩ := q; exact ⟨p, rfl, hp⟩
theorem Gc.gw {C H C' H' : Hp} {q : Addr} (c : Core z C H) (hq : z.cup = some q) (g : Gc q C H C' H') : Gw z C H C' H' := ⟨g.cc, g.ch, fun a o x h => g.hh a o (fun e => x (by rw [e]; exact .inl hq)) h, g.fr, z.turn c.ok hq g.hh g.cup⟩
/-- f(cup, ..) -/
theorem je_callC {i : Nat} {f : FL} {cn : Str} {pc : Pos} (F : FnOk X.prog X.w X.K X.mg X.base CX0 k fa fd ps (spC f)) (hr : Room k X.A) (hg : Gl X x) (hm : X.mg x = some (.ref fa)) (hk : PySem.W.keepIn X.K (.ref fa) = true) (hb : Binds X.K fd ps []) (hc : PE X (.Name cn pc) (tVar i)) (ha : PA X es (lA z t)) (hdb : (x == ("__debug__" : Str)) = false := by decide)
    (he : starEach (.Name cn pc :: es) X.env = (false, eval (.Name cn pc) X.env) :: starEach es X.env := by rfl) (hpl : (backTo pos (starEach es X.env)).any (·.1) = false := by rfl) : PE X (.Call (.Name x p) (.Name cn pc :: es) [] pos) (lE z (wCallC i f t)) :=
  (pe_call F hr hg hm hk hb .nil pass0 (pa_cons hc ha he) hdb he hpl).by fun σ H Q ⟨C, ρ, P, c, er, ⟨h1, w⟩, k⟩ => by
    obtain ⟨q, h2, h3⟩ := er.cup h1
    refine ⟨.ref q, h2, C, ρ, _, c, er, w, fun ds vs C1 H1 p1 g1 rv => ?_⟩
    have c1 := c.gw g1
    refine ⟨q, vs, C1, ds, P, by rw [List.append_nil], g1.ch, (c1.ex q (.inl h3)).2, g1.ok.1 q h3, rv, p1, fun d v C' H' p' g' r' => k d v C' H' p' (g1.tr (g'.gw c1 h3)) r'⟩
end
def st0 (N : List Str) (ds : List PyData) : Env' := ds.map (fun d => some (.d d)) ++ List.replicate (N.length - ds.length) none
theorem getD_app {α : Type} (xs ys : List α) (i : Nat) (d : α) : (xs ++ ys).getD i d = if i < xs.length then xs.getD i d else ys.getD (i - xs.length) d := by
  rw [List.getD_eq_getElem?_getD, List.getElem?_append]
  split <;> rw [List.getD_eq_getElem?_getD]
theorem getD_rep {α : Type} (n i : Nat) (d : α) : (List.replicate n d).getD i d = d := by
  rw [List.getD_eq_getElem?_getD, List.getElem?_replicate]
  split <;> rfl
theorem er_start {z : Cz} {C H : Hp} {N : List Str} {vs : List V} {ds : List PyData} (r : RpA C vs ds) : ER z C H (L2.start N vs) (st0 N ds) where
  len := by unfold L2.start st0; simp [r.len]
  at_ := fun i => by
    unfold L2.start st0
    rw [getD_app, getD_app, getD_rep, getD_rep, List.length_map, List.length_map, r.len]
    by_cases h : i < ds.length
    · rw [if_pos h, if_pos h]
      have h1 : ds[i]? = some ds[i] := List.getElem?_eq_getElem h
      obtain ⟨v, h2, h3⟩ := r.get h1
      rw [List.getD_eq_getElem?_getD, List.getD_eq_getElem?_getD, List.getElem?_map, List.getElem?_map, h2, h1]
      exact h3
    · rw [if_neg h, if_neg h]; trivial
  ap := fun i j q n e1 e2 e3 => by
    unfold st0 at e2
    rw [getD_app, getD_rep, List.length_map] at e2
    by_cases h : i < ds.length
    · rw [if_pos h, List.getD_eq_getElem?_getD, List.getElem?_map, List.getElem?_eq_getElem h] at e2; cases e2
    · rw [if_neg h] at e2; cases e2
theorem core0 {C H : Hp} {E : XK} {R : Err → Prop} (e : Ex C H) : Core ⟨none, [], H, C, E, R⟩ C H where
  b := Ex.rfl
  c0 := Ex.rfl
  ch := e
  fr := fun a h n => absurd n h
  ex := fun a x => by
    rcases x with x | ⟨_, x, _⟩
    · cases x
    · cases x
  ok := ⟨(fun p x => nomatch (show (none : Option Addr) = some p from x)), (fun p x => absurd x (List.not_mem_nil))⟩
section
variable {P : Program} {w : World} {K : PySem.W.Frag} {mg : Str → Option Value} {base : Heap}
def PnR (Q : PyData → Prop) : Pn := { nx := fun _ => Q .none, rt := Q }
theorem okP {x qual : Str} {st : Stmt} {fa : Addr} {fd : FuncData} {N ps : List Str} {k : Nat} {f : FL} (F : Fun K x qual st fa fd) (S : FnScope N ps (defScope st)) (hl : ∀ ds Q, f ds Q → ds.length = ps.length)
    (hbody : ∀ (z : Cz) (cdv : Value) (A : Around) (outer : List Env) (s : Shared) (H : Hp) (E : XK), Room k (A.deeper (envOfC qual (defScope st) s.heap.objs.size fa cdv)) →
      ∃ b, PSs (cxOf CX0 P w K mg base N qual (defScope st) fa cdv A outer s H E).nox (defBody st) (lS z b) ∧ ∀ ds Q, f ds Q → b (PnR Q) (st0 N ds)) : FnOk P w K mg base CX0 (k + 1) fa fd ps (spP f) := by
  refine F.ok S (fun vs H Q E ⟨C, ds, P, e, r, h, _⟩ => r.len.trans (hl ds P h)) fun cdv A outer s H vs Q E hr ⟨C, ds, P, e, r, h, k⟩ => ?_
  obtain ⟨b, h1, h2⟩ := hbody ⟨none, [], H, C, E0, fun _ => False⟩ cdv A outer s H E hr
  refine ⟨_, h1, C, _, PnR P, ?_, er_start r, h2 ds P h, ?_⟩
  · exact core0 e
  · exact ⟨fun ρ σ C' H' p c x _ => k .none .non C' H' p ⟨c.c0, c.ch, c.b, c.fr⟩ .non, fun d v C' H' p c x r => k d v C' H' p ⟨c.c0, c.ch, c.b, c.fr⟩ r, fun _ _ _ _ p => p.elim, fun _ _ _ _ p => p.elim⟩
theorem okX {x qual : Str} {st : Stmt} {fa : Addr} {fd : FuncData} {N ps : List Str} {k : Nat} {f : FX} (F : Fun K x qual st fa fd) (S : FnScope N ps (defScope st)) (hl : ∀ ds Q R, f ds Q R → ds.length = ps.length)
    (hbody : ∀ (z : Cz) (cdv : Value) (A : Around) (outer : List Env) (s : Shared) (H : Hp), z.hR → Room k (A.deeper (envOfC qual (defScope st) s.heap.objs.size fa cdv)) →
      ∃ b, PSs (cxOf (L2.CX P w) P w K mg base N qual (defScope st) fa cdv A outer s H z.E) (defBody st) (lS z b) ∧ ∀ ds Q, f ds Q z.R → b (PnR Q) (st0 N ds)) : FnOk P w K mg base (L2.CX P w) (k + 1) fa fd ps (spX f) := by
  refine F.okX S (fun vs H Q E ⟨C, ds, P, R, e, r, h, _⟩ => r.len.trans (hl ds P R h)) fun cdv A outer s H vs Q E hr ⟨C, ds, P, R, e, r, h, k, kR⟩ => ?_
  obtain ⟨b, h1, h2⟩ := hbody ⟨none, [], H, C, E, R⟩ cdv A outer s H (fun er cls d H' hR ex _ ea => kR er cls d H' hR ex ea) hr
  refine ⟨_, h1, C, _, PnR P, ?_, er_start r, h2 ds P h, ?_⟩
  · exact core0 e
  · exact ⟨fun ρ σ C' H' p c x _ => k .none .non C' H' p ⟨c.c0, c.ch, c.b, c.fr⟩ .non, fun d v C' H' p c x r => k d v C' H' p ⟨c.c0, c.ch, c.b, c.fr⟩ r, fun _ _ _ _ p => p.elim, fun _ _ _ _ p => p.elim⟩
end
structure ExAt (K : PySem.W.Frag) (mg : Str → Option Value) (x : Str) (C : Addr) : Prop where
  gl : mg x = some (.ref C)
  kp : PySem.W.keepIn K (.ref C) = true
  xi : PySem.W.excIn K C PySem.HandSPX.veTail "ValueError.__new__" = true
  sb : PySem.W.subIn K (.ref C) (.type "BaseException") = some true
  ty : PySem.W.typeIn K (.ref C) = some (.type "type")
def sRaise (z : Cz) (e : Err) : WS := fun _ _ => z.R e
theorem js_raiseO {X : Cx} {z : Cz} {x m : Str} {C : Addr} {j : Nat} {p p2 pos pos' : Pos} (hz : z.hR) (hc : X.calm = true) (tk : Takes X (fun cls d _ H => z.E cls d H)) (e : ExAt X.K X.mg x C) (hg : Gl X x) (hdb : (x == ("__debug__" : Str)) = false := by decide) :
    PS X (.Raise (some (.Call (.Name x p) [.Constant (.str m) j p2] [] pos)) none pos') (lS z (sRaise z (.of C))) :=
  (ps_raise hc tk (pmk_own PySem.F.excBase_ValueError e.xi e.gl e.kp (raises_own e.sb e.ty) hg hdb)).by fun D σ H ⟨C', ρ, P, c, er, w, k⟩ => hz (.of C) (.ref C) none H w c.b c.ok ⟨rfl, rfl⟩
theorem passX {X : Cx} {z : Cz} (tk : Takes X (fun cls d _ H => z.E cls d H)) : Passes (L2.CX X.prog X.w) X z.E := passes_call tk fun _ _ _ _ h => h
end Lr
namespace Lr
open PySem PySem.Spec PyProof.Rows L2
def isL : PyData → Prop
  | .list _ => True
  | _ => False
/-- the frozen tuple of these -/
def fz (ds : List PyData) : PyData := .dict [(.tuple ds, .none)]
def fzI : PyData → Option (List PyData)
  | .dict [(.tuple ds, .none)] => some ds
  | _ => none
def wIndex (wa wb : WE) : WE := fun ρ P => wa ρ fun x => isL x ∧ wb ρ fun y => fIndex x y P
/-- t.index(y) -/
def wIndexF (wa wb : WE) : WE := fun ρ P => wa ρ fun x => ∃ ds, fzI x = some ds ∧ wb ρ fun y => fIndex (.list ds) y P
theorem fzI_rp {C : Hp} {v : V} {x : PyData} {ds : List PyData} (r : Rp C v x) (h : fzI x = some ds) : ∃ a o xs, v = .ref a ∧ C a = some (.frz o (.tup xs)) ∧ (o.dict = none ∧ o.cls = .type "tuple") ∧ RpA C xs ds := by
  cases r with
  | fz h1 h2 h3 => cases h; exact ⟨_, _, _, rfl, h1, h2, h3⟩
  | _ => cases h
section
variable {X : Cx} {z : Cz} {e a b : Expr} {es : List Expr} {wa wb : WE} {t : WA} {pos apos cpos : Pos} {k : Nat}
/-- xs.index(y) -/
theorem je_index (hr : Room k X.A) (ha : PE X a (lE z wa)) (hb : PE X b (lE z wb)) (hbase : attributeBase a "index" X.env (eval a X.env) = eval a X.env := by rfl)
    (hfew : ((backTo cpos (starEach [b] X.env)).all (fun x => !x.1) && (backToKw cpos (keywordEach [] X.env)).all (fun x => x.1.isSome) && decide ([b].length + ([] : List Keyword).length + (if ([] : List Keyword).isEmpty then 0 else 1) < 30)) = true := by rfl)
    (hline : (apos.endLine == cpos.line) = true := by rfl) (hs : starEach [b] X.env = (false, eval b X.env) :: starEach [] X.env := by rfl) (hplain : (backTo cpos (starEach [] X.env)).any (·.1) = false := by rfl) :
    PE X (.Call (.Attribute a "index" apos) [b] [] cpos) (lE z (wIndex wa wb)) := by
  refine (pe_bm PySem.F.plainAttrs_list PySem.F.slot_list_index PySem.F.type_list_index (mt_indexD (u65 hr)) ha (pa_cons hb pa_nil hs) hbase hfew hline hs hplain).by fun σ H Q ⟨C, ρ, P, c, er, w, kk⟩ => ?_
  refine ⟨C, ρ, _, c, er, w, fun d v C1 H1 p g rv => ?_⟩
  have c1 := c.gw g
  obtain ⟨pl, p⟩ := p
  cases d with
  | list ds =>
    cases rv with
    | @lst q xs _ h1 h2 =>
      refine ⟨.inl ⟨rfl, xs, SqL.of (c1.ch _ _ h1)⟩, C1, ρ, _, c1, er.gw g, p, fun d2 v2 C2 H2 p2 g2 r2 => ?_⟩
      have c2 := c1.gw g2
      obtain ⟨s1, s2, j, y, e1, e2, e3, e4⟩ := p2
      refine ⟨q, v2, d2, ds, j, y, rfl, rfl, Rp.dp _ _ (SeqAt.canLay_of_shaped s2) (.lst (c2.ch _ _ (g2.cc _ _ h1)) ((h2.up g2.cc).up c2.ch)), Rp.dp _ _ (SeqAt.canLay_of_shaped s1) (r2.up c2.ch), s2, s1, e1, e2, e3, kk _ _ C2 H2 e4 (g.tr g2) (.int _)⟩
  | _ => exact pl.elim
/-- t.index(y), the tuple's own object known -/
def kTIx (K : PySem.W.Frag) (q : Addr) (o : Obj) (xs : List V) (Q : VK) (vs : List V) (H2 : Hp) : Prop := ∃ y, vs = [y] ∧ H2 q = some (.frz o (.tup xs)) ∧
  ∃ d ds j zz, DpAll K H2 xs ds ∧ Dp K H2 y d ∧ SeqAt.shaped (.list ds) = true ∧ SeqAt.shaped d = true ∧ ds[j]? = some zz ∧ PyData.eqv zz d = true ∧ (∀ (m : Nat) (z' : PyData), m < j → ds[m]? = some z' → PyData.eqv z' d = false) ∧ Q (.int (j : Nat)) H2
def tTIx (K : PySem.W.Frag) (ta : TE) (tb : TA) : TE := fun σ H Q => ta σ H fun x H1 => ∃ q o xs, x = .ref q ∧ H1 q = some (.frz o (.tup xs)) ∧ o.dict = none ∧ o.cls = .type "tuple" ∧ tb σ H1 (kTIx K q o xs Q)
theorem pe_tIx {ta : TE} {tb : TA} (hr : Room k X.A) (ha : PE X a ta) (hb : PA X [b] tb) (hbase : attributeBase a "index" X.env (eval a X.env) = eval a X.env)
    (hfew : ((backTo cpos (starEach [b] X.env)).all (fun x => !x.1) && (backToKw cpos (keywordEach [] X.env)).all (fun x => x.1.isSome) && decide ([b].length + ([] : List Keyword).length + (if ([] : List Keyword).isEmpty then 0 else 1) < 30)) = true)
    (hline : (apos.endLine == cpos.line) = true) (hs : starEach [b] X.env = (false, eval b X.env) :: starEach [] X.env) (hplain : (backTo cpos (starEach [] X.env)).any (·.1) = false) : PE X (.Call (.Attribute a "index" apos) [b] [] cpos) (tTIx X.K ta tb) := by
  refine ⟨fun pins s σ H Q I h => wpAny_Call_method_late hbase hfew hline rfl (thn (ha.run pins s σ H _ I h) fun v s1 ⟨x, H1, I1, r1, q1⟩ => ?_)⟩
  obtain ⟨q, o, xs, rfl, hq, od, oc, q1⟩ := q1
  cases r1
  obtain ⟨g1, _⟩ := I1.hok q _ hq
  refine ⟨"tuple", "tuple.index", PySem.F.plainAttrs_tuple, PySem.F.slot_tuple_index, PySem.F.type_tuple_index, ⟨o, g1, oc⟩, (fun a e => by cases e; exact ⟨o, g1, od⟩), ?_⟩
  have hA := hb.run cpos pins s1 σ H1 _ I1 q1
  rw [hs] at hA ⊢
  refine Calls.callWith_builtin (by change (false || (backTo cpos (starEach [] X.env)).any fun q => q.1) = false; rw [Bool.false_or]; exact hplain) (Calls.evalArgs_plain (thn hA fun us s2 ⟨vs, H2, I2, r2, q2⟩ => ?_))
  obtain ⟨y, rfl, hq2, d, ds, j, zz, ha2, hy, sl, sd, hz, hzj, hno, q3⟩ := q2
  obtain ⟨uy, rfl, ry⟩ := vals1 r2
  obtain ⟨bs, rd⟩ := Dp.reads I2 d y uy hy ry
  have lay : PyData.canLayAll0 ds = true := by simpa only [PyData.canLay0] using SeqAt.canLay_of_shaped sl
  obtain ⟨g2, hzl, its, rv, o', g3, oc', n, od'⟩ := I2.hok q _ hq2
  rw [g2] at g3
  cases g3
  obtain ⟨cls, dd, data, sls⟩ := o
  simp only at od oc od'
  subst od oc od'
  obtain ⟨as, ra⟩ := Dp.readsAll I2 ds xs its ha2 rv
  have hn : its.length = ds.length := SeqAt.ReadsAll.length ds its as ra
  have hmap : its.map (SeqAt.readOf s2.heap) = ds := SeqAt.readsAll_map ds its as lay ra
  have val : ∀ (m : Nat) (hm : m < its.toArray.size), ds[m]? = some (SeqAt.readOf s2.heap its.toArray[m]) := fun m hm => by
    rw [← hmap, List.getElem?_map, List.getElem?_eq_getElem (by simpa using hm)]
    simp
  have hj : j < its.toArray.size := by
    have := (List.getElem?_eq_some_iff.mp hz).1
    simp only [List.size_toArray]; omega
  refine call_meets PySem.F.slot_tuple_index ⟨_, g2, rfl⟩ PySem.F.entry_tuple_index (PySem.F.args_tuple_index_2 _ _)
    (TI.tuple_indexAt q its.toArray n none sls uy (fun u => PyData.eqv (SeqAt.readOf s2.heap u) d) j hj (by
      have e := val j hj
      rw [hz] at e
      rw [← Option.some.inj e]; exact hzj) fun m hm hl => hno m _ hl (val m hm))
    ⟨g2, SeqAt.items_eqAt (vs := its.toArray) (show ReadsAll s2.heap its.toArray.toList ds as from ra) rd lay (SeqAt.canLay_of_shaped sd) (room_in_shaped sd (u65 hr)), .int (j : Nat), H2, I2.tok _, ⟨_, rfl⟩, q3⟩
theorem je_indexF (hr : Room k X.A) (ha : PE X a (lE z wa)) (hb : PE X b (lE z wb)) (hbase : attributeBase a "index" X.env (eval a X.env) = eval a X.env := by rfl)
    (hfew : ((backTo cpos (starEach [b] X.env)).all (fun x => !x.1) && (backToKw cpos (keywordEach [] X.env)).all (fun x => x.1.isSome) && decide ([b].length + ([] : List Keyword).length + (if ([] : List Keyword).isEmpty then 0 else 1) < 30)) = true := by rfl)
    (hline : (apos.endLine == cpos.line) = true := by rfl) (hs : starEach [b] X.env = (false, eval b X.env) :: starEach [] X.env := by rfl) (hplain : (backTo cpos (starEach [] X.env)).any (·.1) = false := by rfl) :
    PE X (.Call (.Attribute a "index" apos) [b] [] cpos) (lE z (wIndexF wa wb)) := by
  refine (pe_tIx hr ha (pa_cons hb pa_nil hs) hbase hfew hline hs hplain).by fun σ H Q ⟨C, ρ, P, c, er, w, kk⟩ => ?_
  refine ⟨C, ρ, _, c, er, w, fun d v C1 H1 p g rv => ?_⟩
  have c1 := c.gw g
  obtain ⟨ds, hf, p⟩ := p
  obtain ⟨q, o, xs, rfl, h1, ⟨od, oc⟩, h2⟩ := fzI_rp rv hf
  refine ⟨q, o, xs, rfl, c1.ch _ _ h1, od, oc, C1, ρ, _, c1, er.gw g, p, fun d2 v2 C2 H2 p2 g2 r2 => ?_⟩
  have c2 := c1.gw g2
  obtain ⟨s1, s2, j, y, e1, e2, e3, e4⟩ := p2
  exact ⟨v2, rfl, c2.ch _ _ (g2.cc _ _ h1), d2, ds, j, y, RpA.dp ds xs (by simpa only [PyData.canLay0] using SeqAt.canLay_of_shaped s2) ((h2.up g2.cc).up c2.ch), Rp.dp _ _ (SeqAt.canLay_of_shaped s1) (r2.up c2.ch), s2, s1, e1, e2, e3, kk _ _ C2 H2 e4 (g.tr g2) (.int _)⟩
/-- tuple(xs) of a list, its object known -/
def rFtup (K : PySem.W.Frag) : List V → Hp → VK → Prop := fun xs H Q => ∃ p ys, xs = [.ref p] ∧ SqL K H p ys ∧ ∀ l o, H l = none → o.dict = none → o.cls = .type "tuple" → Q (.ref l) (upd H l (.frz o (.tup ys)))
theorem call_ftup : CallR X (.type "tuple") (rFtup X.K) := by
  intro pins s σ H xs us Q I r h
  obtain ⟨p, ys, rfl, hq, q⟩ := h
  obtain ⟨u, rfl, rx⟩ := vals1 r
  cases rx
  obtain ⟨its, r', pl, hz⟩ := I.list hq
  refine call_tuple_list pl.isList (fun h' kp => ?_) (by rw [List.size_toArray, ← r'.length]; exact hz)
  have I1 : Inv X pins σ H { s with heap := h' } := I.kept (t' := s.toks) kp
  have g : (h'.push { cls := .type "tuple", data := .seq its.toArray }).get? h'.objs.size = some { cls := .type "tuple", data := .seq its.toArray } := Heap.get?_push_size _ rfl
  exact ⟨.ref h'.objs.size, _, I1.laid (o := .frz { cls := .type "tuple", data := .seq its.toArray } (.tup ys)) (t' := s.toks) (fun b o e => Heap.get?_push_of_some _ e) (Nat.le_refl _) ⟨g, hz, its, r', _, g, rfl, _, rfl⟩, rfl, q _ _ (I1.hok.fresh (Nat.le_refl _)) rfl rfl⟩
def fFtup : F1
  | .list ds, P => P (fz ds)
  | _, _ => False
theorem hoL_ftup {K : PySem.W.Frag} : HoL z (rFtup K) (arg1 fFtup) :=
  hoL1 (r1 := fun x H Q => ∃ p ys, x = .ref p ∧ SqL K H p ys ∧ ∀ l o, H l = none → o.dict = none → o.cls = .type "tuple" → Q (.ref l) (upd H l (.frz o (.tup ys)))) (fun C H x d P Q c rx hf k => by
    cases d with
    | list ds =>
      cases rx with
      | lst h1 h2 => exact ⟨_, _, rfl, SqL.of (c.ch _ _ h1), fun l o hl od oc => k _ _ (upd C l _) _ hf (c.new hl) (.fz upd_same ⟨od, oc⟩ (h2.up (c.new hl).cc))⟩
    | _ => exact hf.elim) fun x H Q ⟨p, ys, e, h⟩ => ⟨p, ys, by rw [e], h⟩
def wLcF (w : WE) (g : WG) (tt : WT) (te : WE) (vs : List Nat) : WE := fun ρ P => w ρ fun d => ∃ ds, fzI d = some ds ∧ wLc g tt te (wipe' ρ vs) ds [] P
theorem je_lcF {elt tg iter : Expr} {ifs : List Expr} {scope : Scope} {own : List (Str × Nat)} {w : WE} {g : WG} {sl : List Nat} {tt : WT} {te : WE} (hc : X.calm = true) (hN : X.N.Nodup) (hi : PE X iter (lE z w)) (ok : BlkOk X.N X.env.scope scope own) (hg : Blk X scope fun X => PG X tg (lG z sl g)) (ht : Blk X scope fun X => PTs X ifs (lT z tt)) (he : Blk X scope fun X => PE X elt (lE z te))
    (hs : ∀ i ∈ sl, i ∈ own.map (·.2) := by decide) (hf : ∀ x, foldedSetIterable iter X.env x = pure x := by intro _; rfl) : PE X (.ListComp elt [⟨tg, iter, ifs, 0⟩] scope pos) (lE z (wLcF w g tt te (own.map (·.2)))) := by
  refine (pe_lc hc hN (pi_tup hi) ok hg ht he hf).by fun σ H Q ⟨C, ρ, P, c, er, w, k⟩ => ?_
  refine ⟨C, ρ, _, c, er, w, fun d v C1 H1 p g1 rv => ?_⟩
  obtain ⟨ds, hfz, p⟩ := p
  obtain ⟨a, o, xs, rfl, h1, _, h2⟩ := fzI_rp rv hfz
  have c1 := c.gw g1
  have sq : ∀ {C' H' : Hp}, Ex C1 C' → Ex C' H' → SqT X.K H' a xs := fun e1 e2 => .inl (.inr ⟨o, e2 _ _ (e1 _ _ h1)⟩)
  refine ⟨a, rfl, ⟨xs, sq Ex.rfl g1.ch⟩, fun D hD => ?_⟩
  exact lc_tup (K := X.K) (a := a) (xs := xs) (LcP z g tt te (own.map (·.2)) P ρ C1 H1 D ds) (lc_start c1 hD p) (fun i H _ h => sq h.choose_spec.choose_spec.choose_spec.1.cc h.choose_spec.choose_spec.choose_spec.1.ch)
    (fun i x H hx h => lc_turn c1 (er.gw g1) hD h2 hs hx h) fun H h => lc_end (fun d v C' H' p' g' r' => k d v C' H' p' (g1.tr g') r') hD (Nat.le_of_eq h2.len.symm) h
def sForZ (wa wb : WE) (g : WG) (b : WS) : WS := fun P ρ => wa ρ fun x => wb ρ fun y => match x, y with
  | .list ds, .list es => ds.length = es.length ∧ sLoop g b ((ds.zip es).map fun p => .tuple [p.1, p.2]) P ρ
  | _, _ => False
theorem js_forZ {elts : List Expr} {kk : Nat} {tpos p pos2 : Pos} {body : List Stmt} {g : WG} {sl : List Nat} {bd : WS} (hp : PassesOwn (model X.prog X.w) X.A X.env X.xe) (hc : X.calm = true) (hG : Gl X "zip") (hm : X.mg "zip" = none) (ha : PE X a (lE z wa)) (hb : PE X b (lE z wb)) (hg : PG X (.Tuple elts kk tpos) (lG z sl g)) (hbd : PSs X body (lS z bd))
    (hs0 : starEach [b] X.env = (false, eval b X.env) :: starEach [] X.env := by rfl) (hs : starEach [a, b] X.env = (false, eval a X.env) :: starEach [b] X.env := by rfl) (hpl : (backTo pos2 (starEach [b] X.env)).any (·.1) = false := by rfl) (hf : ∀ x, foldedSetIterable (.Call (.Name "zip" p) [a, b] [] pos2) X.env x = pure x := by intro _; rfl) :
    PS X (.For (.Tuple elts kk tpos) (.Call (.Name "zip" p) [a, b] [] pos2) body [] pos) (lS z (sForZ wa wb g bd)) := by
  refine (ps_for hp hc (pi_zip hG hm (pa_cons ha (pa_cons hb pa_nil hs0) hs) hs hpl) hg hbd hf).by fun D σ H ⟨C, ρ, P, c, er, w, k⟩ => ?_
  refine ⟨C, ρ, _, c, er, w, fun d v C1 H1 p1 g1 rv => ⟨C1, ρ, _, c.gw g1, er.gw g1, p1, fun d2 v2 C2 H2 p2 g2 rv2 => ?_⟩⟩
  cases d with
  | list ds =>
    cases d2 with
    | list es =>
      cases rv with
      | @lst q1 xs _ h1 h2 =>
        cases rv2 with
        | @lst q2 ys _ h3 h4 =>
          obtain ⟨hl, p2⟩ := p2
          have c2 := (c.gw g1).gw g2
          have hlen : xs.length = ys.length := by rw [h2.len, h4.len, hl]
          refine ⟨q1, q2, xs, ys, rfl, SqL.of (c2.ch _ _ (g2.cc _ _ h1)), SqL.of (c2.ch _ _ h3), ?_⟩
          refine RZ.for_zipL hlen (fun i σ H => ∃ C3 ρ, Core z C3 H ∧ Ex C2 C3 ∧ ER z C3 H σ ρ ∧ sLoop g bd (((ds.zip es).map fun p => .tuple [p.1, p.2]).drop i) P ρ) ⟨C2, ρ, c2, Ex.rfl, (er.gw g1).gw g2, by rw [List.drop_zero]; exact p2⟩ (fun i σ H ⟨C3, _, c3, ex, _⟩ => ⟨SqL.of (c3.ch _ _ (ex _ _ (g2.cc _ _ h1))), SqL.of (c3.ch _ _ (ex _ _ h3))⟩) ?_ ?_
          · rintro i x y T σ3 H3 hx hy ⟨C3, ρ3, c3, ex, er3, w3⟩ hT
            obtain ⟨dx, e1, r1⟩ := (h2.up (g2.cc.tr ex)).getV hx
            obtain ⟨dy, e2, r2⟩ := (h4.up ex).getV hy
            have e : ((ds.zip es).map fun p => PyData.tuple [p.1, p.2])[i]? = some (.tuple [dx, dy]) := by
              rw [List.getElem?_map, (List.getElem?_zip_eq_some (z := (dx, dy))).mpr ⟨e1, e2⟩]; rfl
            have ed : ((ds.zip es).map fun p => PyData.tuple [p.1, p.2]).drop i = .tuple [dx, dy] :: ((ds.zip es).map fun p => PyData.tuple [p.1, p.2]).drop (i + 1) := by
              obtain ⟨q1, q2⟩ := List.getElem?_eq_some_iff.mp e
              rw [← q2]; exact List.drop_eq_getElem_cons q1
            rw [ed] at w3
            have gn := c3.new (o := .tup [x, y]) hT
            have er4 := er3.gw gn
            refine ⟨_, ρ3, _, _, c3.gw gn, er4, .tup upd_same (.cons (r1.up gn.cc) (.cons (r2.up gn.cc) .nil)), w3, fun ρ4 σ4 p4 ee4 _ => ⟨_, ρ4, _, c3.gw gn, ee4 _ _ Ex.rfl er4, p4, ?_⟩⟩
            have k2 := k.up ((g1.cc.tr g2.cc).tr (ex.tr gn.cc))
            exact ⟨fun ρ5 σ5 C5 H5 p5 c5 x5 er5 => ⟨C5, ρ5, c5, (ex.tr gn.cc).tr x5, er5, p5⟩, k2.rt, fun ρ5 σ5 C5 H5 p5 c5 x5 er5 => k2.nx _ _ _ _ p5 c5 x5 er5, fun ρ5 σ5 C5 H5 p5 c5 x5 er5 => ⟨C5, ρ5, c5, (ex.tr gn.cc).tr x5, er5, p5⟩⟩
          · rintro σ3 H3 ⟨C3, ρ3, c3, ex, er3, w3⟩
            rw [List.drop_eq_nil_of_le (by rw [List.length_map, List.length_zip, h2.len]; omega)] at w3
            exact k.nx _ _ _ _ w3 c3 ((g1.cc.tr g2.cc).tr ex) er3
    | _ => exact p2.elim
  | _ =>
    cases d2 <;> exact p2.elim
end
end Lr
namespace Lr
open PySem
structure Enc {α : Type} [DecidableEq α] (f : α → PyData) (n : Nat) : Prop where
  eqv : ∀ a b, PyData.eqv (f a) (f b) = decide (a = b)
  lay : ∀ a, PyData.canLay0 (f a) = true
  dep : ∀ a, PyData.depth (f a) ≤ n
section
variable {α β : Type} [DecidableEq α] [DecidableEq β] {f : α → PyData} {g : β → PyData} {n m : Nat}
theorem enc_layAll (e : Enc f n) : ∀ xs : List α, PyData.canLayAll0 (xs.map f) = true
  | [] => rfl
  | x :: xs => by rw [List.map_cons, PyData.canLayAll0, e.lay, enc_layAll e xs]; rfl
theorem enc_depAll (e : Enc f n) : ∀ xs : List α, PyData.depthAll (xs.map f) ≤ n
  | [] => Nat.zero_le _
  | x :: xs => by rw [List.map_cons, PyData.depthAll]; exact Nat.max_le.mpr ⟨e.dep x, enc_depAll e xs⟩
theorem enc_eqvAll (e : Enc f n) : ∀ xs ys : List α, PyData.eqvAll (xs.map f) (ys.map f) = decide (xs = ys)
  | [], [] => by simp [PyData.eqvAll]
  | [], _ :: _ => by simp [PyData.eqvAll]
  | _ :: _, [] => by simp [PyData.eqvAll]
  | x :: xs, y :: ys => by
    rw [List.map_cons, List.map_cons, PyData.eqvAll, e.eqv x y, enc_eqvAll e xs ys, ← Bool.decide_and]
    exact decide_eq_decide.mpr (by rw [List.cons.injEq])
theorem Enc.sh (e : Enc f n) (h : n ≤ 64) (a : α) : SeqAt.shaped (f a) = true := by
  unfold SeqAt.shaped
  rw [e.lay, Bool.true_and, decide_eq_true_eq]
  exact Nat.le_trans (e.dep a) h
theorem Enc.tup (e : Enc f n) : Enc (fun xs : List α => PyData.tuple (xs.map f)) (n + 1) :=
  ⟨fun a b => by simp only [PyData.eqv]; exact enc_eqvAll e a b, fun a => by simp only [PyData.canLay0]; exact enc_layAll e a, fun a => by simp only [PyData.depth]; exact Nat.succ_le_succ (enc_depAll e a)⟩
theorem Enc.lst (e : Enc f n) : Enc (fun xs : List α => PyData.list (xs.map f)) (n + 1) :=
  ⟨fun a b => by simp only [PyData.eqv]; exact enc_eqvAll e a b, fun a => by simp only [PyData.canLay0]; exact enc_layAll e a, fun a => by simp only [PyData.depth]; exact Nat.succ_le_succ (enc_depAll e a)⟩
theorem Enc.pair (e : Enc f n) (e' : Enc g m) : Enc (fun p : α × β => PyData.tuple [f p.1, g p.2]) (max n m + 1) :=
  ⟨fun p q => by
    simp only [PyData.eqv, PyData.eqvAll]
    rw [e.eqv, e'.eqv, Bool.and_true, ← Bool.decide_and]
    exact decide_eq_decide.mpr ⟨fun h => Prod.ext h.1 h.2, fun h => by rw [h]; exact ⟨rfl, rfl⟩⟩,
   fun p => by simp only [PyData.canLay0, PyData.canLayAll0, e.lay, e'.lay, Bool.and_self],
   fun p => by
    simp only [PyData.depth, PyData.depthAll]
    exact Nat.succ_le_succ (Nat.max_le.mpr ⟨Nat.le_trans (e.dep _) (Nat.le_max_left _ _), Nat.max_le.mpr ⟨Nat.le_trans (e'.dep _) (Nat.le_max_right _ _), Nat.zero_le _⟩⟩)⟩
theorem Enc.any (e : Enc f n) (a : α) : ∀ xs : List α, ((xs.map f).any fun z => PyData.eqv z (f a)) = decide (a ∈ xs)
  | [] => by simp
  | x :: xs => by
    rw [List.map_cons, List.any_cons, e.eqv, Enc.any e a xs, ← Bool.decide_or]
    exact decide_eq_decide.mpr ⟨fun h => h.elim (fun q => by rw [q]; exact List.mem_cons_self) (List.mem_cons_of_mem _), fun h => (List.mem_cons.mp h).imp Eq.symm id⟩
end
def nD (i : Nat) : PyData := .int (i : Int)
theorem enN : Enc nD 0 := ⟨fun a b => by
  show PyData.eqv (.int a) (.int b) = _
  simp only [PyData.eqv]
  rw [Bool.beq_eq_decide_eq]
  exact decide_eq_decide.mpr (by omega), fun _ => rfl, fun _ => Nat.le_refl _⟩
/-- a train, a road -/
def tD (l : List Nat) : PyData := .tuple (l.map nD)
theorem enT : Enc tD 1 := enN.tup
abbrev Kn := List (List (Nat × Nat))
def pD (p : Nat × Nat) : PyData := .tuple [nD p.1, nD p.2]
theorem enP : Enc pD 1 := enN.pair enN
def rowD (r : List (Nat × Nat)) : PyData := .tuple (r.map pD)
def kD (k : Kn) : PyData := .tuple (k.map rowD)
theorem enK : Enc kD 3 := (enP.tup).tup
def lotD (l : List (List Nat)) : PyData := .tuple (l.map tD)
theorem enLot : Enc lotD 2 := enT.tup
/-- settings of a kind -/
def sets (k : Kn) : Nat := (k.headD []).length
structure Kd (k : Kn) : Prop where
  lo : 1 ≤ k.length
  hi : k.length ≤ 6
  slo : 1 ≤ sets k
  shi : sets k ≤ 6
  rows : ∀ r ∈ k, r.length = sets k
  ok : ∀ r ∈ k, ∀ p ∈ r, p.1 < sets k ∧ p.2 < k.length
/-- a train of a kind with n sorts, a road with m settings: all below -/
def Lt (n : Nat) (t : List Nat) : Prop := ∀ a ∈ t, a < n
instance (n : Nat) (t : List Nat) : Decidable (Lt n t) := inferInstanceAs (Decidable (∀ a ∈ t, a < n))
def stepL (k : Kn) (s a : Nat) : Nat × Nat := (k.getD a []).getD s (0, 0)
theorem stepL_at {k : Kn} (h : Kd k) {s a : Nat} (hs : s < sets k) (ha : a < k.length) : ∃ r, k[a]? = some r ∧ r[s]? = some (stepL k s a) ∧ (stepL k s a).1 < sets k ∧ (stepL k s a).2 < k.length := by
  have h1 : k[a]? = some k[a] := List.getElem?_eq_getElem ha
  have hm : k[a] ∈ k := List.getElem_mem ha
  have hl : s < k[a].length := by rw [h.rows _ hm]; exact hs
  have h2 : k[a][s]? = some k[a][s] := List.getElem?_eq_getElem hl
  have e : stepL k s a = k[a][s] := by
    unfold stepL
    rw [List.getD_eq_getElem?_getD, List.getD_eq_getElem?_getD, h1, Option.getD_some, h2, Option.getD_some]
  refine ⟨_, h1, by rw [e]; exact h2, ?_⟩
  rw [e]
  exact h.ok _ hm _ (List.getElem_mem hl)
/-- a train through one latch: the setting left, the train that comes out -/
def latchP (k : Kn) : Nat → List Nat → Nat × List Nat
  | s, [] => (s, [])
  | s, a :: t => let p := stepL k s a; let r := latchP k p.1 t; (r.1, p.2 :: r.2)
def roadP (k : Kn) : List Nat → List Nat → List Nat × List Nat
  | t, [] => ([], t)
  | t, s :: r => let p := latchP k s t; let q := roadP k p.2 r; (p.1 :: q.1, q.2)
def walkP (k : Kn) : Nat → List Nat → List Nat × Nat
  | a, [] => ([], a)
  | a, s :: r => let p := stepL k s a; let q := walkP k p.2 r; (p.1 :: q.1, q.2)
def passP (k : Kn) : List Nat → List Nat → List Nat × List Nat
  | [], r => (r, [])
  | a :: t, r => let p := walkP k a r; let q := passP k t p.1; (q.1, p.2 :: q.2)
theorem passP_cons (k : Kn) (s : Nat) : ∀ (t r : List Nat), passP k t (s :: r) = ((latchP k s t).1 :: (passP k (latchP k s t).2 r).1, (passP k (latchP k s t).2 r).2) := fun t => by
  induction t generalizing s with
  | nil => intro r; rfl
  | cons a t ih =>
    intro r
    show (let p := walkP k a (s :: r); let q := passP k t p.1; (q.1, p.2 :: q.2)) = _
    simp only [walkP, latchP, passP]
    rw [ih]
theorem passP_nil (k : Kn) : ∀ t : List Nat, passP k t [] = ([], t)
  | [] => rfl
  | a :: t => by simp only [passP, walkP, passP_nil k t]
/-- latch by latch, walker by walker: the same -/
theorem roadP_passP (k : Kn) : ∀ (r t : List Nat), roadP k t r = passP k t r
  | [], t => by rw [passP_nil]; rfl
  | s :: r, t => by
    rw [passP_cons]
    simp only [roadP]
    rw [roadP_passP k r]
theorem latchP_ok {k : Kn} (h : Kd k) : ∀ (t : List Nat) (s : Nat), s < sets k → Lt k.length t → (latchP k s t).1 < sets k ∧ Lt k.length (latchP k s t).2 ∧ (latchP k s t).2.length = t.length
  | [], s, hs, _ => ⟨hs, fun a ha => (by cases ha), rfl⟩
  | a :: t, s, hs, ht => by
    obtain ⟨_, _, _, h1, h2⟩ := stepL_at h hs (ht a List.mem_cons_self)
    obtain ⟨g1, g2, g3⟩ := latchP_ok h t (stepL k s a).1 h1 (fun b hb => ht b (List.mem_cons_of_mem _ hb))
    refine ⟨g1, fun b hb => ?_, by simp only [latchP, List.length_cons, g3]⟩
    rcases List.mem_cons.mp hb with e | hb
    · rw [e]; exact h2
    · exact g2 b hb
theorem roadP_ok {k : Kn} (h : Kd k) : ∀ (r t : List Nat), Lt (sets k) r → Lt k.length t → Lt (sets k) (roadP k t r).1 ∧ (roadP k t r).1.length = r.length ∧ Lt k.length (roadP k t r).2 ∧ (roadP k t r).2.length = t.length
  | [], t, _, ht => ⟨fun a ha => (by cases ha), rfl, ht, rfl⟩
  | s :: r, t, hr, ht => by
    obtain ⟨g1, g2, g3⟩ := latchP_ok h t s (hr s List.mem_cons_self) ht
    obtain ⟨q1, q2, q3, q4⟩ := roadP_ok h r (latchP k s t).2 (fun b hb => hr b (List.mem_cons_of_mem _ hb)) g2
    refine ⟨fun b hb => ?_, by simp only [roadP, List.length_cons, q2], q3, by simp only [roadP]; omega⟩
    rcases List.mem_cons.mp hb with e | hb
    · rw [e]; exact g1
    · exact q1 b hb
end Lr
namespace Lr
open PySem PySem.Spec PyProof.Rows L2
theorem lc_map {g : WG} {te : WE} {ρ : Env'} (F : PyData → PyData) : ∀ (ds acc : List PyData) (P : PyData → Prop), (∀ d ∈ ds, ∀ Q : PyData → Prop, Q (F d) → g d ρ fun ρ1 => te ρ1 Q) → acc.length + ds.length ≤ lim → P (.list (acc ++ ds.map F)) → wLc g tTrue te ρ ds acc P
  | [], acc, P, _, _, h => by rw [List.map_nil, List.append_nil] at h; exact h
  | d :: ds, acc, P, hd, hl, h => by
    refine hd d List.mem_cons_self _ ⟨?_, lc_map F ds _ P (fun x hx => hd x (List.mem_cons_of_mem _ hx)) ?_ ?_⟩
    · rw [List.length_cons] at hl; omega
    · rw [List.length_append, List.length_singleton]; rw [List.length_cons] at hl; omega
    · rw [List.append_assoc]; exact h
theorem lc_filter {g : WG} {tt : WT} {te : WE} {ρ : Env'} (p : PyData → Bool) (F : PyData → PyData) : ∀ (ds acc : List PyData) (P : PyData → Prop),
    (∀ d ∈ ds, ∀ (Q2 : PyData → Prop) (Q3 : Prop), (p d = true → Q2 (F d)) → (p d = false → Q3) → g d ρ fun ρ1 => tt ρ1 fun b => if b = true then te ρ1 Q2 else Q3) → acc.length + ds.length ≤ lim → P (.list (acc ++ (ds.filter p).map F)) → wLc g tt te ρ ds acc P
  | [], acc, P, _, _, h => by rw [List.filter_nil, List.map_nil, List.append_nil] at h; exact h
  | d :: ds, acc, P, hd, hl, h => by
    rw [List.length_cons] at hl
    refine hd d List.mem_cons_self _ _ (fun e => ⟨by omega, lc_filter p F ds _ P (fun x hx => hd x (List.mem_cons_of_mem _ hx)) ?_ ?_⟩) fun e => lc_filter p F ds _ P (fun x hx => hd x (List.mem_cons_of_mem _ hx)) (by omega) ?_
    · rw [List.length_append, List.length_singleton]; omega
    · rw [List.filter_cons, if_pos e] at h
      rw [List.append_assoc]; exact h
    · rw [List.filter_cons, if_neg (by rw [e]; decide)] at h
      exact h
theorem boolsOf_map {α : Type} (p : α → Bool) : ∀ xs : List α, boolsOf (xs.map fun x => .bool (p x)) = some (xs.map p)
  | [] => rfl
  | x :: xs => by rw [List.map_cons, boolsOf, boolsOf_map p xs]; rfl
theorem fAll_map {α : Type} {p : α → Bool} {xs : List α} {P : PyData → Prop} (h : P (.bool (xs.all p))) : fAll (.list (xs.map fun x => .bool (p x))) P :=
  ⟨_, boolsOf_map p xs, by
    rw [List.all_map]
    exact h⟩
theorem atI0 {α : Type} {x : α} {xs : List α} : atI (x :: xs) 0 = some x := atI_nat (j := 0) rfl
theorem atI1 {α : Type} {x y : α} {xs : List α} : atI (x :: y :: xs) 1 = some y := atI_nat (j := 1) rfl
theorem sh_int (i : Int) : sh (.int i) := by simp [sh, SeqAt.shaped, PyData.canLay0, PyData.depth]
theorem small {n : Nat} (h : n ≤ 1000) : n ≤ lim := Nat.le_trans h (by decide)

/-- a loop: I of what is still to come and the names -/
theorem sLoop_ind {g : WG} {b : WS} {P : Pn} (I : List PyData → Env' → Prop) (hn : ∀ ρ, I [] ρ → P.nx ρ)
    (hs : ∀ (d : PyData) (ds : List PyData) (ρ : Env'), I (d :: ds) ρ → ∀ K : Env' → Prop, (∀ ρ', I ds ρ' → K ρ') → g d ρ fun ρ1 => b { P with nx := K, ct := K, bk := P.nx } ρ1) :
    ∀ (ds : List PyData) (ρ : Env'), I ds ρ → sLoop g b ds P ρ
  | [], ρ, h => hn ρ h
  | d :: ds, ρ, h => hs d ds ρ h (fun ρ2 => sLoop g b ds P ρ2) fun ρ' h' => sLoop_ind I hn hs ds ρ' h'
theorem sWhile_ind {c : WT} {b : WS} {P : Pn} (I : Env' → Prop) (μ : Env' → Nat)
    (hs : ∀ ρ : Env', I ρ → ∀ K : Env' → Prop, (∀ ρ', I ρ' → μ ρ' < μ ρ → K ρ') → c ρ fun x => if x = true then b { P with nx := K, ct := K, bk := P.nx } ρ else P.nx ρ) {ρ : Env'} (h0 : I ρ) : sWhile c b P ρ := by
  have all : ∀ (m : Nat) (ρ : Env'), I ρ → μ ρ < m → sWh c b m P ρ := by
    intro m
    induction m with
    | zero => intro ρ _ h; exact absurd h (Nat.not_lt_zero _)
    | succ m ih => intro ρ h hm; exact hs ρ h (fun ρ2 => sWh c b m P ρ2) fun ρ' h' hl => ih ρ' h' (by omega)
  exact ⟨μ ρ + 1, all _ ρ h0 (Nat.lt_succ_self _)⟩
/-- a comprehension whose pieces are drawn -/
inductive All2 {α β : Type} (R : α → β → Prop) : List α → List β → Prop
  | nil : All2 R [] []
  | cons {a : α} {b : β} {as : List α} {bs : List β} : R a b → All2 R as bs → All2 R (a :: as) (b :: bs)
theorem lc_rel {g : WG} {te : WE} {ρ : Env'} (R : PyData → PyData → Prop) : ∀ (ds acc : List PyData) (P : PyData → Prop), (∀ d ∈ ds, ∀ Q : PyData → Prop, (∀ y, R d y → Q y) → g d ρ fun ρ1 => te ρ1 Q) → acc.length + ds.length ≤ lim → (∀ ys, All2 R ds ys → P (.list (acc ++ ys))) → wLc g tTrue te ρ ds acc P
  | [], acc, P, _, _, h => by have := h [] .nil; rw [List.append_nil] at this; exact this
  | d :: ds, acc, P, hd, hl, h => by
    rw [List.length_cons] at hl
    refine hd d List.mem_cons_self _ fun y hy => ⟨by omega, lc_rel R ds _ P (fun x hx => hd x (List.mem_cons_of_mem _ hx)) ?_ fun ys hys => ?_⟩
    · rw [List.length_append, List.length_singleton]; omega
    · rw [List.append_assoc]; exact h _ (.cons hy hys)
theorem atI_map {α : Type} {f : α → PyData} {xs : List α} {i : Nat} {x : α} (h : xs[i]? = some x) : atI (xs.map f) (i : Int) = some (f x) := atI_nat (by rw [List.getElem?_map, h]; rfl)
end Lr
namespace Lr
open PySem PySem.Spec PyProof.Rows L2
def topS (i : Nat) : Stmt := PySem.Challenge.pw_latchroads_k63_whole_fewest_roads_for_lo.main.body.getD i (.Pass ⟨0, 0, 0, 0⟩)
structure DefAt (K : PySem.W.Frag) (mg : Str → Option Value) (x : Str) (st : Stmt) (ps : List Str) (f : Addr) (fd : FuncData) : Prop where
  fn : Fun K x x st f fd
  gl : mg x = some (.ref f)
  bi : L2.Binds K fd ps []
structure Txt (K : PySem.W.Frag) (mg : Str → Option Value) where
  f14 : Addr
  fd14 : FuncData
  d14 : DefAt K mg "is_whole" (topS 14) ["value", "low", "high"] f14 fd14
  f15 : Addr
  fd15 : FuncData
  d15 : DefAt K mg "is_tuple_of" (topS 15) ["value", "low", "high"] f15 fd15
  f16 : Addr
  fd16 : FuncData
  d16 : DefAt K mg "fits_pair" (topS 16) ["value", "settings", "sorts"] f16 fd16
  f17 : Addr
  fd17 : FuncData
  d17 : DefAt K mg "fits_kind" (topS 17) ["value"] f17 fd17
  f18 : Addr
  fd18 : FuncData
  d18 : DefAt K mg "settings_in" (topS 18) ["kind"] f18 fd18
  f19 : Addr
  fd19 : FuncData
  d19 : DefAt K mg "fits_train" (topS 19) ["kind", "value"] f19 fd19
  f20 : Addr
  fd20 : FuncData
  d20 : DefAt K mg "need_kind" (topS 20) ["value"] f20 fd20
  f22 : Addr
  fd22 : FuncData
  d22 : DefAt K mg "latch_passed" (topS 22) ["kind", "train", "setting"] f22 fd22
  f23 : Addr
  fd23 : FuncData
  d23 : DefAt K mg "road_passed" (topS 23) ["kind", "train", "road"] f23 fd23
  f29 : Addr
  fd29 : FuncData
  d29 : DefAt K mg "fits_lot" (topS 29) ["kind", "value"] f29 fd29
  f30 : Addr
  fd30 : FuncData
  d30 : DefAt K mg "pairs_behind" (topS 30) ["kind", "train"] f30 fd30
  f31 : Addr
  fd31 : FuncData
  d31 : DefAt K mg "met_from" (topS 31) ["kind", "trains"] f31 fd31
  f32 : Addr
  fd32 : FuncData
  d32 : DefAt K mg "need_lot" (topS 32) ["kind", "value"] f32 fd32
  f33 : Addr
  fd33 : FuncData
  d33 : DefAt K mg "need_number" (topS 33) ["value"] f33 fd33
  f36 : Addr
  fd36 : FuncData
  d36 : DefAt K mg "need_few_roads" (topS 36) ["kind", "number"] f36 fd36
  f37 : Addr
  fd37 : FuncData
  d37 : DefAt K mg "all_roads" (topS 37) ["kind", "number"] f37 fd37
  f38 : Addr
  fd38 : FuncData
  d38 : DefAt K mg "first_named" (topS 38) ["items"] f38 fd38
  f39 : Addr
  fd39 : FuncData
  d39 : DefAt K mg "fewest_in" (topS 39) ["roads", "names", "many"] f39 fd39
  f40 : Addr
  fd40 : FuncData
  d40 : DefAt K mg "fewest_roads" (topS 40) ["kind", "lot", "number"] f40 fd40
  f42 : Addr
  fd42 : FuncData
  d42 : DefAt K mg "_law_cup" (topS 42) ["_law_script"] f42 fd42
  f43 : Addr
  fd43 : FuncData
  d43 : DefAt K mg "_law_roll" (topS 43) ["_law_cup_here", "_law_many"] f43 fd43
  f44 : Addr
  fd44 : FuncData
  d44 : DefAt K mg "_law_some" (topS 44) ["_law_cup_here", "_law_things"] f44 fd44
  f45 : Addr
  fd45 : FuncData
  d45 : DefAt K mg "_law_walked" (topS 45) ["_law_kind_here", "_law_sort", "_law_road"] f45 fd45
  f46 : Addr
  fd46 : FuncData
  d46 : DefAt K mg "_law_passed" (topS 46) ["_law_kind_here", "_law_train", "_law_road"] f46 fd46
  f48 : Addr
  fd48 : FuncData
  d48 : DefAt K mg "_law_up" (topS 48) [] f48 fd48
  f49 : Addr
  fd49 : FuncData
  d49 : DefAt K mg "_law_order" (topS 49) ["_law_cup_here", "_law_many"] f49 fd49
  f50 : Addr
  fd50 : FuncData
  d50 : DefAt K mg "_law_any_kind" (topS 50) ["_law_cup_here", "_law_settings", "_law_sorts"] f50 fd50
  f51 : Addr
  fd51 : FuncData
  d51 : DefAt K mg "_law_even_kind" (topS 51) ["_law_cup_here", "_law_settings", "_law_sorts"] f51 fd51
  f52 : Addr
  fd52 : FuncData
  d52 : DefAt K mg "_law_turning_kind" (topS 52) ["_law_cup_here", "_law_settings", "_law_sorts"] f52 fd52
  f53 : Addr
  fd53 : FuncData
  d53 : DefAt K mg "_law_still_kind" (topS 53) ["_law_cup_here", "_law_settings", "_law_sorts"] f53 fd53
  f54 : Addr
  fd54 : FuncData
  d54 : DefAt K mg "_law_known_kind" (topS 54) ["_law_cup_here"] f54 fd54
  f55 : Addr
  fd55 : FuncData
  d55 : DefAt K mg "_law_kind" (topS 55) ["_law_cup_here"] f55 fd55
  f57 : Addr
  fd57 : FuncData
  d57 : DefAt K mg "_law_lot" (topS 57) ["_law_cup_here", "_law_kind_here", "_law_most"] f57 fd57
  f58 : Addr
  fd58 : FuncData
  d58 : DefAt K mg "_law_odd_kind" (topS 58) [] f58 fd58
  f59 : Addr
  fd59 : FuncData
  d59 : DefAt K mg "_law_roads" (topS 59) ["_law_kind_here", "_law_many"] f59 fd59
  f60 : Addr
  fd60 : FuncData
  d60 : DefAt K mg "_law_error" (topS 60) ["_law_call"] f60 fd60
  f61 : Addr
  fd61 : FuncData
  d61 : DefAt K mg "_law_tell" (topS 61) ["_law_lefts"] f61 fd61
  f62 : Addr
  fd62 : FuncData
  d62 : DefAt K mg "_law_fewest" (topS 62) ["_law_kind_here", "_law_lot_here", "_law_number"] f62 fd62
  f63 : Addr
  fd63 : FuncData
  d63 : DefAt K mg "_law_right" (topS 63) ["_law_kind_here", "_law_lot_here", "_law_number"] f63 fd63
  f64 : Addr
  fd64 : FuncData
  d64 : DefAt K mg "law" (topS 64) ["_law_script"] f64 fd64
  C_InvalidKind : Addr
  e_InvalidKind : ExAt K mg "InvalidKind" C_InvalidKind
  C_InvalidLot : Addr
  e_InvalidLot : ExAt K mg "InvalidLot" C_InvalidLot
  C_InvalidNumber : Addr
  e_InvalidNumber : ExAt K mg "InvalidNumber" C_InvalidNumber
  b_len : mg "len" = none
  b_range : mg "range" = none
  b_isinstance : mg "isinstance" = none
  b_int : mg "int" = none
  b_bool : mg "bool" = none
  b_tuple : mg "tuple" = none
  b_list : mg "list" = none
  b_set : mg "set" = none
  b_dict : mg "dict" = none
  b_sorted : mg "sorted" = none
  b_all : mg "all" = none
  b_zip : mg "zip" = none
  b_abs : mg "abs" = none
  b_str : mg "str" = none
  k_SORTS : Tok
  c_SORTS : mg "SORTS" = some (.int 6 k_SORTS)
  k_SETTINGS : Tok
  c_SETTINGS : mg "SETTINGS" = some (.int 6 k_SETTINGS)
  k_LONGEST : Tok
  c_LONGEST : mg "LONGEST" = some (.int 60 k_LONGEST)
  k_TRAINS : Tok
  c_TRAINS : mg "TRAINS" = some (.int 1000 k_TRAINS)
  k_LOT : Tok
  c_LOT : mg "LOT" = some (.int 12 k_LOT)
  k_WALKERS : Tok
  c_WALKERS : mg "WALKERS" = some (.int 6 k_WALKERS)
  k_LATCHES : Tok
  c_LATCHES : mg "LATCHES" = some (.int 60 k_LATCHES)
  k_ROADS : Tok
  c_ROADS : mg "ROADS" = some (.int 64 k_ROADS)
theorem sc14 : FnScope ["value", "low", "high"] ["value", "low", "high"] (defScope (topS 14)) := ⟨rfl, rfl, rfl, by decide +kernel, rfl, by decide +kernel, by decide +kernel⟩
theorem sc15 : FnScope ["value", "low", "high"] ["value", "low", "high"] (defScope (topS 15)) := ⟨rfl, rfl, rfl, by decide +kernel, rfl, by decide +kernel, by decide +kernel⟩
theorem sc16 : FnScope ["value", "settings", "sorts"] ["value", "settings", "sorts"] (defScope (topS 16)) := ⟨rfl, rfl, rfl, by decide +kernel, rfl, by decide +kernel, by decide +kernel⟩
theorem sc17 : FnScope ["value", "row", "settings", "sorts", "pair"] ["value"] (defScope (topS 17)) := ⟨rfl, rfl, rfl, by decide +kernel, rfl, by decide +kernel, by decide +kernel⟩
theorem sc18 : FnScope ["kind"] ["kind"] (defScope (topS 18)) := ⟨rfl, rfl, rfl, by decide +kernel, rfl, by decide +kernel, by decide +kernel⟩
theorem sc19 : FnScope ["kind", "value", "sort"] ["kind", "value"] (defScope (topS 19)) := ⟨rfl, rfl, rfl, by decide +kernel, rfl, by decide +kernel, by decide +kernel⟩
theorem sc20 : FnScope ["value"] ["value"] (defScope (topS 20)) := ⟨rfl, rfl, rfl, by decide +kernel, rfl, by decide +kernel, by decide +kernel⟩
theorem sc22 : FnScope ["kind", "train", "setting", "found", "sort", "there"] ["kind", "train", "setting"] (defScope (topS 22)) := ⟨rfl, rfl, rfl, by decide +kernel, rfl, by decide +kernel, by decide +kernel⟩
theorem sc23 : FnScope ["kind", "train", "road", "found", "setting", "left"] ["kind", "train", "road"] (defScope (topS 23)) := ⟨rfl, rfl, rfl, by decide +kernel, rfl, by decide +kernel, by decide +kernel⟩
theorem sc29 : FnScope ["kind", "value", "train"] ["kind", "value"] (defScope (topS 29)) := ⟨rfl, rfl, rfl, by decide +kernel, rfl, by decide +kernel, by decide +kernel⟩
theorem sc30 : FnScope ["kind", "train", "setting"] ["kind", "train"] (defScope (topS 30)) := ⟨rfl, rfl, rfl, by decide +kernel, rfl, by decide +kernel, by decide +kernel⟩
theorem sc31 : FnScope ["kind", "trains", "found", "line", "later", "here", "left", "there"] ["kind", "trains"] (defScope (topS 31)) := ⟨rfl, rfl, rfl, by decide +kernel, rfl, by decide +kernel, by decide +kernel⟩
theorem sc32 : FnScope ["kind", "value"] ["kind", "value"] (defScope (topS 32)) := ⟨rfl, rfl, rfl, by decide +kernel, rfl, by decide +kernel, by decide +kernel⟩
theorem sc33 : FnScope ["value"] ["value"] (defScope (topS 33)) := ⟨rfl, rfl, rfl, by decide +kernel, rfl, by decide +kernel, by decide +kernel⟩
theorem sc36 : FnScope ["kind", "number", "many", "latch"] ["kind", "number"] (defScope (topS 36)) := ⟨rfl, rfl, rfl, by decide +kernel, rfl, by decide +kernel, by decide +kernel⟩
theorem sc37 : FnScope ["kind", "number", "found", "latch", "road", "setting"] ["kind", "number"] (defScope (topS 37)) := ⟨rfl, rfl, rfl, by decide +kernel, rfl, by decide +kernel, by decide +kernel⟩
theorem sc38 : FnScope ["items", "met", "item"] ["items"] (defScope (topS 38)) := ⟨rfl, rfl, rfl, by decide +kernel, rfl, by decide +kernel, by decide +kernel⟩
theorem sc39 : FnScope ["roads", "names", "many", "start", "line", "met", "road", "name", "there", "here", "some"] ["roads", "names", "many"] (defScope (topS 39)) := ⟨rfl, rfl, rfl, by decide +kernel, rfl, by decide +kernel, by decide +kernel⟩
theorem sc40 : FnScope ["kind", "lot", "number", "roads", "names", "road", "train"] ["kind", "lot", "number"] (defScope (topS 40)) := ⟨rfl, rfl, rfl, by decide +kernel, rfl, by decide +kernel, by decide +kernel⟩
theorem sc42 : FnScope ["_law_script", "_law_cell"] ["_law_script"] (defScope (topS 42)) := ⟨rfl, rfl, rfl, by decide +kernel, rfl, by decide +kernel, by decide +kernel⟩
theorem sc43 : FnScope ["_law_cup_here", "_law_many", "_law_found", "_law_deep"] ["_law_cup_here", "_law_many"] (defScope (topS 43)) := ⟨rfl, rfl, rfl, by decide +kernel, rfl, by decide +kernel, by decide +kernel⟩
theorem sc44 : FnScope ["_law_cup_here", "_law_things"] ["_law_cup_here", "_law_things"] (defScope (topS 44)) := ⟨rfl, rfl, rfl, by decide +kernel, rfl, by decide +kernel, by decide +kernel⟩
theorem sc45 : FnScope ["_law_kind_here", "_law_sort", "_law_road", "_law_found", "_law_setting", "_law_left"] ["_law_kind_here", "_law_sort", "_law_road"] (defScope (topS 45)) := ⟨rfl, rfl, rfl, by decide +kernel, rfl, by decide +kernel, by decide +kernel⟩
theorem sc46 : FnScope ["_law_kind_here", "_law_train", "_law_road", "_law_found", "_law_sort", "_law_there"] ["_law_kind_here", "_law_train", "_law_road"] (defScope (topS 46)) := ⟨rfl, rfl, rfl, by decide +kernel, rfl, by decide +kernel, by decide +kernel⟩
theorem sc48 : FnScope [] [] (defScope (topS 48)) := ⟨rfl, rfl, rfl, by decide +kernel, rfl, by decide +kernel, by decide +kernel⟩
theorem sc49 : FnScope ["_law_cup_here", "_law_many", "_law_left", "_law_found", "_law_turn"] ["_law_cup_here", "_law_many"] (defScope (topS 49)) := ⟨rfl, rfl, rfl, by decide +kernel, rfl, by decide +kernel, by decide +kernel⟩
theorem sc50 : FnScope ["_law_cup_here", "_law_settings", "_law_sorts", "_law_rows", "_law_sort", "_law_setting"] ["_law_cup_here", "_law_settings", "_law_sorts"] (defScope (topS 50)) := ⟨rfl, rfl, rfl, by decide +kernel, rfl, by decide +kernel, by decide +kernel⟩
theorem sc51 : FnScope ["_law_cup_here", "_law_settings", "_law_sorts", "_law_found", "_law_sort", "_law_order_here", "_law_left"] ["_law_cup_here", "_law_settings", "_law_sorts"] (defScope (topS 51)) := ⟨rfl, rfl, rfl, by decide +kernel, rfl, by decide +kernel, by decide +kernel⟩
theorem sc52 : FnScope ["_law_cup_here", "_law_settings", "_law_sorts", "_law_found", "_law_sort", "_law_turn", "_law_setting"] ["_law_cup_here", "_law_settings", "_law_sorts"] (defScope (topS 52)) := ⟨rfl, rfl, rfl, by decide +kernel, rfl, by decide +kernel, by decide +kernel⟩
theorem sc53 : FnScope ["_law_cup_here", "_law_settings", "_law_sorts", "_law_found", "_law_sort", "_law_row", "_law_setting", "_law_there"] ["_law_cup_here", "_law_settings", "_law_sorts"] (defScope (topS 53)) := ⟨rfl, rfl, rfl, by decide +kernel, rfl, by decide +kernel, by decide +kernel⟩
theorem sc54 : FnScope ["_law_cup_here", "_law_some_here"] ["_law_cup_here"] (defScope (topS 54)) := ⟨rfl, rfl, rfl, by decide +kernel, rfl, by decide +kernel, by decide +kernel⟩
theorem sc55 : FnScope ["_law_cup_here", "_law_settings", "_law_sorts", "_law_way"] ["_law_cup_here"] (defScope (topS 55)) := ⟨rfl, rfl, rfl, by decide +kernel, rfl, by decide +kernel, by decide +kernel⟩
theorem sc57 : FnScope ["_law_cup_here", "_law_kind_here", "_law_most", "_law_found", "_law_turn", "_law_walkers", "_law_train", "_law_walker"] ["_law_cup_here", "_law_kind_here", "_law_most"] (defScope (topS 57)) := ⟨rfl, rfl, rfl, by decide +kernel, rfl, by decide +kernel, by decide +kernel⟩
theorem sc58 : FnScope [] [] (defScope (topS 58)) := ⟨rfl, rfl, rfl, by decide +kernel, rfl, by decide +kernel, by decide +kernel⟩
theorem sc59 : FnScope ["_law_kind_here", "_law_many", "_law_found", "_law_latch_here", "_law_longer", "_law_road", "_law_setting"] ["_law_kind_here", "_law_many"] (defScope (topS 59)) := ⟨rfl, rfl, rfl, by decide +kernel, rfl, by decide +kernel, by decide +kernel⟩
theorem sc60 : FnScope ["_law_call"] ["_law_call"] (defScope (topS 60)) := ⟨rfl, rfl, rfl, by decide +kernel, rfl, by decide +kernel, by decide +kernel⟩
theorem sc61 : FnScope ["_law_lefts"] ["_law_lefts"] (defScope (topS 61)) := ⟨rfl, rfl, rfl, by decide +kernel, rfl, by decide +kernel, by decide +kernel⟩
theorem sc62 : FnScope ["_law_kind_here", "_law_lot_here", "_law_number", "_law_lefts", "_law_road", "_law_train", "_law_parts", "_law_some_here", "_law_one", "_law_line", "_law_met", "_law_part", "_law_here", "_law_many", "_law_pairs", "_law_there", "_law_pair"] ["_law_kind_here", "_law_lot_here", "_law_number"] (defScope (topS 62)) := ⟨rfl, rfl, rfl, by decide +kernel, rfl, by decide +kernel, by decide +kernel⟩
theorem sc63 : FnScope ["_law_kind_here", "_law_lot_here", "_law_number", "_law_told", "_law_due", "_law_roads_here", "_law_road", "_law_train"] ["_law_kind_here", "_law_lot_here", "_law_number"] (defScope (topS 63)) := ⟨rfl, rfl, rfl, by decide +kernel, rfl, by decide +kernel, by decide +kernel⟩
theorem sc64 : FnScope ["_law_script", "_law_cup_here", "_law_turn", "_law_kind_here", "_law_number", "_law_up_here", "_law_four", "_law_odd", "_law_three", "_law_lots", "_law_some_here", "_law_words", "_law_bad"] ["_law_script"] (defScope (topS 64)) := ⟨rfl, rfl, rfl, by decide +kernel, rfl, by decide +kernel, by decide +kernel⟩
end Lr
namespace Lr
open PySem PySem.Spec PyProof.Rows L2
def isI : PyData → Bool
  | .int _ => true
  | .bool _ => true
  | _ => false
def isB : PyData → Bool
  | .bool _ => true
  | _ => false
def isT : PyData → Bool
  | .tuple _ => true
  | _ => false
theorem kit_int : ∀ d : PyData, PyData.canLay0 d = true → kitB (tyD d) "int" = some (isI d)
  | .none, _ => by decide +kernel
  | .bool _, _ => by show kitB "bool" "int" = some true; decide +kernel
  | .int _, _ => by show kitB "int" "int" = some true; decide +kernel
  | .str _, _ => by show kitB "str" "int" = some false; decide +kernel
  | .list _, _ => by show kitB "list" "int" = some false; decide +kernel
  | .tuple _, _ => by show kitB "tuple" "int" = some false; decide +kernel
  | .dict _, h => by simp [PyData.canLay0] at h
theorem kit_bool : ∀ d : PyData, PyData.canLay0 d = true → kitB (tyD d) "bool" = some (isB d)
  | .none, _ => by decide +kernel
  | .bool _, _ => by show kitB "bool" "bool" = some true; decide +kernel
  | .int _, _ => by show kitB "int" "bool" = some false; decide +kernel
  | .str _, _ => by show kitB "str" "bool" = some false; decide +kernel
  | .list _, _ => by show kitB "list" "bool" = some false; decide +kernel
  | .tuple _, _ => by show kitB "tuple" "bool" = some false; decide +kernel
  | .dict _, h => by simp [PyData.canLay0] at h
theorem kit_tuple : ∀ d : PyData, PyData.canLay0 d = true → kitB (tyD d) "tuple" = some (isT d)
  | .none, _ => by decide +kernel
  | .bool _, _ => by show kitB "bool" "tuple" = some false; decide +kernel
  | .int _, _ => by show kitB "int" "tuple" = some false; decide +kernel
  | .str _, _ => by show kitB "str" "tuple" = some false; decide +kernel
  | .list _, _ => by show kitB "list" "tuple" = some false; decide +kernel
  | .tuple _, _ => by show kitB "tuple" "tuple" = some true; decide +kernel
  | .dict _, h => by simp [PyData.canLay0] at h
def isWhole (v : PyData) (lo hi : Int) : Bool := match v with
  | .int i => decide (lo ≤ i) && decide (i ≤ hi)
  | _ => false
def isTup (v : PyData) (lo hi : Int) : Bool := match v with
  | .tuple ds => decide (lo ≤ (ds.length : Int)) && decide ((ds.length : Int) ≤ hi)
  | _ => false
def lenD : PyData → Nat
  | .tuple ds => ds.length
  | _ => 0
def itemsD : PyData → List PyData
  | .tuple ds => ds
  | _ => []
def fitsPair (v : PyData) (s k : Int) : Bool := match v with
  | .tuple [a, b] => isWhole a 0 (s - 1) && isWhole b 0 (k - 1)
  | _ => false
def fitsKind (v : PyData) : Bool := match v with
  | .tuple rows => (decide (1 ≤ rows.length) && decide (rows.length ≤ 6) && rows.all fun r => isTup r 1 6) && ((rows.all fun r => decide (lenD r = lenD (rows.headD .none))) && rows.all fun r => (itemsD r).all fun p => fitsPair p (lenD (rows.headD .none)) rows.length)
  | _ => false
def fitsTrain (n : Int) (v : PyData) : Bool := match v with
  | .tuple ds => decide (ds.length ≤ 60) && ds.all fun d => isWhole d 0 (n - 1)
  | _ => false
section
variable {P : Program} {w : World} {K : PySem.W.Frag} {mg : Str → Option Value} {base : Heap}
def p_is_whole : FL := fun ds Q => match ds with
  | [v, .int lo, .int hi] => PyData.canLay0 v = true ∧ Q (.bool (isWhole v lo hi))
  | _ => False
theorem ok14 (T : Txt K mg) : FnOk P w K mg base CX0 1 T.f14 T.fd14 ["value", "low", "high"] (spP p_is_whole) :=
  okP T.d14.fn sc14 (fun ds Q h => by match ds, h with | [_, .int _, .int _], _ => rfl) fun z cdv A outer s H E hr => ⟨_,
    (js_one (js_ret (je_and (je_isi (T := "int") (by rfl) T.b_isinstance (by rfl) T.b_int (by decide +kernel) (je_var _ (pv 0))) (je_and (je_not (je_isi (T := "bool") (by rfl) T.b_isinstance (by rfl) T.b_bool (by decide +kernel) (je_var _ (pv 0)))) (je_one (je_chain op_le op_le ho_le ho_le (je_var _ (pv 1)) (je_var _ (pv 0)) (je_var _ (pv 2)))))))),
    fun ds Q h => by
      match ds, h with
      | [v, .int lo, .int hi], h =>
        obtain ⟨lay, h⟩ := h
        refine ⟨v, rfl, lay, _, kit_int v lay, ?_⟩
        cases v <;> try exact h
        · refine ⟨_, rfl, lay, _, kit_bool _ lay, ?_⟩
          exact h
        · rename_i i
          refine ⟨_, rfl, lay, _, kit_bool _ lay, _, rfl, _, rfl, ?_⟩
          show (match PyData.bool (decide (lo ≤ i)) with
            | .bool true => wV 2 _ fun u => fLe (.int i) u (PnR Q).rt
            | .bool false => (PnR Q).rt (.bool false)
            | _ => False)
          have h' : Q (.bool (decide (lo ≤ i) && decide (i ≤ hi))) := h
          by_cases e : lo ≤ i
          · rw [decide_eq_true e] at h' ⊢
            exact ⟨_, rfl, h'⟩
          · rw [decide_eq_false e] at h' ⊢
            exact h'⟩

theorem layAll_mem : ∀ {ds : List PyData}, PyData.canLayAll0 ds = true → ∀ d ∈ ds, PyData.canLay0 d = true
  | [], _, _, h => by cases h
  | d :: ds, e, x, h => by
    simp only [PyData.canLayAll0, Bool.and_eq_true] at e
    rcases List.mem_cons.mp h with q | q
    · rw [q]; exact e.1
    · exact layAll_mem e.2 x q
theorem layT {ds : List PyData} (h : PyData.canLay0 (.tuple ds) = true) : ∀ d ∈ ds, PyData.canLay0 d = true := layAll_mem (by simpa only [PyData.canLay0] using h)
def p_is_tuple_of : FL := fun ds Q => match ds with
  | [v, .int lo, .int hi] => PyData.canLay0 v = true ∧ Q (.bool (isTup v lo hi))
  | _ => False
theorem ok15 (T : Txt K mg) : FnOk P w K mg base CX0 1 T.f15 T.fd15 ["value", "low", "high"] (spP p_is_tuple_of) :=
  okP T.d15.fn sc15 (fun ds Q h => by match ds, h with | [_, .int _, .int _], _ => rfl) fun z cdv A outer s H E hr => ⟨_,
    (js_one (js_ret (je_and (je_isi (T := "tuple") (by rfl) T.b_isinstance (by rfl) T.b_tuple (by decide +kernel) (je_var _ (pv 0))) (je_one (je_chain op_le op_le ho_le ho_le (je_var _ (pv 1)) (je_callB call_len_seq hoL_len (by rfl) T.b_len (by decide +kernel) (ja_cons (je_var _ (pv 0)) ja_nil)) (je_var _ (pv 2))))))),
    fun ds Q h => by
      match ds, h with
      | [v, .int lo, .int hi], h =>
        obtain ⟨lay, h⟩ := h
        refine ⟨v, rfl, lay, _, kit_tuple v lay, ?_⟩
        cases v <;> try exact h
        rename_i xs
        refine ⟨_, rfl, _, rfl, ?_⟩
        show (match PyData.bool (decide (lo ≤ (xs.length : Int))) with
            | .bool true => wV 2 _ fun u => fLe (.int xs.length) u (PnR Q).rt
            | .bool false => (PnR Q).rt (.bool false)
            | _ => False)
        have h' : Q (.bool (decide (lo ≤ (xs.length : Int)) && decide ((xs.length : Int) ≤ hi))) := h
        by_cases e : lo ≤ (xs.length : Int)
        · rw [decide_eq_true e] at h' ⊢
          exact ⟨_, rfl, h'⟩
        · rw [decide_eq_false e] at h' ⊢
          exact h'⟩
def p_fits_pair : FL := fun ds Q => match ds with
  | [v, .int s, .int k] => PyData.canLay0 v = true ∧ Q (.bool (fitsPair v s k))
  | _ => False
theorem isTup22 {v : PyData} (h : isTup v 2 2 = true) : ∃ a b, v = .tuple [a, b] := by
  cases v <;> try exact absurd (show false = true from h) (by decide)
  rename_i ds
  have h2 : (decide ((2 : Int) ≤ (ds.length : Int)) && decide ((ds.length : Int) ≤ 2)) = true := h
  simp only [Bool.and_eq_true, decide_eq_true_eq] at h2
  match ds, h2 with
  | [a, b], _ => exact ⟨a, b, rfl⟩
  | [], h => simp at h
  | [_], h => simp at h
  | _ :: _ :: _ :: _, h => simp at h; omega
theorem ok16 (T : Txt K mg) : FnOk P w K mg base CX0 2 T.f16 T.fd16 ["value", "settings", "sorts"] (spP p_fits_pair) :=
  have G14 := ok14 (P := P) (w := w) (base := base) T
  have G15 := ok15 (P := P) (w := w) (base := base) T
  okP T.d16.fn sc16 (fun ds Q h => by match ds, h with | [_, .int _, .int _], _ => rfl) fun z cdv A outer s H E hr => ⟨_,
    (js_one (js_ret (je_and (je_call G15 (hr.mono (by decide)) (by rfl) T.d15.gl T.d15.fn.kp T.d15.bi (ja_cons (je_var _ (pv 0)) (ja_cons je_int (ja_cons je_int ja_nil)))) (je_and (je_call G14 (hr.mono (by decide)) (by rfl) T.d14.gl T.d14.fn.kp T.d14.bi (ja_cons (je_ix (je_var _ (pv 0)) je_int) (ja_cons je_int (ja_cons (je_op op_sub ho_sub (je_var _ (pv 1)) je_int) ja_nil)))) (je_one (je_call G14 (hr.mono (by decide)) (by rfl) T.d14.gl T.d14.fn.kp T.d14.bi (ja_cons (je_ix (je_var _ (pv 0)) je_int) (ja_cons je_int (ja_cons (je_op op_sub ho_sub (je_var _ (pv 2)) je_int) ja_nil))))))))),
    fun ds Q h => by
      match ds, h with
      | [v, .int s, .int k], ⟨lay, h⟩ =>
        refine ⟨v, rfl, lay, ?_⟩
        show (match PyData.bool (isTup v 2 2) with | .bool true => _ | .bool false => _ | _ => _)
        cases e : isTup v 2 2 with
        | false =>
          have e2 : fitsPair v s k = false := by
            cases v <;> try rfl
            rename_i ds
            match ds, e with
            | [], _ => rfl
            | [_], _ => rfl
            | [_, _], e => exact absurd (show true = false from e) (by decide)
            | _ :: _ :: _ :: _, _ => rfl
          have h' : Q (.bool (fitsPair v s k)) := h
          rw [e2] at h'
          exact h'
        | true =>
          obtain ⟨a, b, rfl⟩ := isTup22 e
          refine ⟨_, rfl, a, atI0, _, rfl, layT lay a (by simp), ?_⟩
          show (match PyData.bool (isWhole a 0 (s - 1)) with | .bool true => _ | .bool false => _ | _ => _)
          have h' : Q (.bool (isWhole a 0 (s - 1) && isWhole b 0 (k - 1))) := h
          cases e2 : isWhole a 0 (s - 1) with
          | false => rw [e2] at h'; exact h'
          | true =>
            rw [e2] at h'
            exact ⟨_, rfl, b, atI1, _, rfl, layT lay b (by simp), h'⟩⟩
def p_settings_in : FL := fun ds Q => match ds with
  | [.tuple (r :: _)] => fLen r Q
  | _ => False
theorem ok18 (T : Txt K mg) : FnOk P w K mg base CX0 1 T.f18 T.fd18 ["kind"] (spP p_settings_in) :=
  okP T.d18.fn sc18 (fun ds Q h => by match ds, h with | [.tuple (_ :: _)], _ => rfl) fun z cdv A outer s H E hr => ⟨_,
    (js_one (js_ret (je_callB call_len_seq hoL_len (by rfl) T.b_len (by decide +kernel) (ja_cons (je_ix (je_var _ (pv 0)) je_int) ja_nil)))),
    fun ds Q h => by
      match ds, h with
      | [.tuple (r :: rs)], h => exact ⟨_, rfl, r, atI0, h⟩⟩
theorem isTup16 {v : PyData} {lo hi : Int} (h : isTup v lo hi = true) : ∃ ds, v = .tuple ds ∧ lo ≤ (ds.length : Int) ∧ (ds.length : Int) ≤ hi := by
  cases v <;> try exact absurd (show false = true from h) (by decide)
  rename_i ds
  have h2 : (decide (lo ≤ (ds.length : Int)) && decide ((ds.length : Int) ≤ hi)) = true := h
  simp only [Bool.and_eq_true, decide_eq_true_eq] at h2
  exact ⟨ds, rfl, h2⟩
theorem rows_tup {rows : List PyData} {lo hi : Int} (h : (rows.all fun r => isTup r lo hi) = true) {r : PyData} (hr : r ∈ rows) : ∃ ds, r = .tuple ds ∧ lo ≤ (ds.length : Int) ∧ (ds.length : Int) ≤ hi := isTup16 (List.all_eq_true.mp h r hr)
def p_fits_kind : FL := fun ds Q => match ds with
  | [v] => PyData.canLay0 v = true ∧ Q (.bool (fitsKind v))
  | _ => False
theorem ok17 (T : Txt K mg) : FnOk P w K mg base CX0 3 T.f17 T.fd17 ["value"] (spP p_fits_kind) :=
  have G15 := ok15 (P := P) (w := w) (base := base) T
  have G16 := ok16 (P := P) (w := w) (base := base) T
  okP T.d17.fn sc17 (fun ds Q h => by match ds, h with | [_], _ => rfl) fun z cdv A outer s H E hr => ⟨_,
    (js_cons (js_if (jw_or (jt_not (jt_val (je_call G15 (hr.mono (by decide)) (by rfl) T.d15.gl T.d15.fn.kp T.d15.bi (ja_cons (je_var _ (pv 0)) (ja_cons je_int (ja_cons (je_gint (by rfl) T.c_SORTS) ja_nil)))))) (jw_or1 (jt_not (jt_val (je_callB (cr_all rfl) hoL_all (by rfl) T.b_all (by decide +kernel) (ja_cons (je_lcT (own := [("row", 1)]) rfl sc17.nd (je_var _ (pv 0)) (blkOk_by (by rfl)) (fun _ _ _ _ _ => (jg_name (i := 1) sc17.nd rfl (.inl rfl))) (fun _ _ _ _ _ => jts_nil) (fun _ _ _ _ _ => (je_call G15 (hr.mono (by decide)) (by rfl) T.d15.gl T.d15.fn.kp T.d15.bi (ja_cons (je_var _ (pv 1)) (ja_cons je_int (ja_cons (je_gint (by rfl) T.c_SETTINGS) ja_nil)))))) ja_nil)))))).pt (js_one (js_ret je_bl)) js_nil)
      (js_cons (js_asg (je_tup (ja_cons (je_callB call_len_seq hoL_len (by rfl) T.b_len (by decide +kernel) (ja_cons (je_ix (je_var _ (pv 0)) je_int) ja_nil)) (ja_cons (je_callB call_len_seq hoL_len (by rfl) T.b_len (by decide +kernel) (ja_cons (je_var _ (pv 0)) ja_nil)) ja_nil))) (jg_tup (n := 2) rfl (jgs_cons (jg_name (i := 2) sc17.nd rfl (.inr rfl)) (jgs_cons (jg_name (i := 3) sc17.nd rfl (.inr rfl)) jgs_nil))))
      (js_cons (js_if (jt_not (jt_val (je_callB (cr_all rfl) hoL_all (by rfl) T.b_all (by decide +kernel) (ja_cons (je_lcT (own := [("row", 1)]) rfl sc17.nd (je_var _ (pv 0)) (blkOk_by (by rfl)) (fun _ _ _ _ _ => (jg_name (i := 1) sc17.nd rfl (.inl rfl))) (fun _ _ _ _ _ => jts_nil) (fun _ _ _ _ _ => (je_cmpR (op_eqD hr.units) ho_eq (je_callB call_len_seq hoL_len (by rfl) T.b_len (by decide +kernel) (ja_cons (je_var _ (pv 1)) ja_nil)) (je_var _ (pv 2)) (nomark _)))) ja_nil)))) (js_one (js_ret je_bl)) js_nil)
      (js_one (js_ret (je_callB (cr_all rfl) hoL_all (by rfl) T.b_all (by decide +kernel) (ja_cons (je_lcT (own := [("row", 1)]) rfl sc17.nd (je_var _ (pv 0)) (blkOk_by (by rfl)) (fun _ _ _ _ _ => (jg_name (i := 1) sc17.nd rfl (.inl rfl))) (fun _ _ _ _ _ => jts_nil) (fun _ _ _ _ _ => (je_callB (cr_all rfl) hoL_all (by rfl) T.b_all (by decide +kernel) (ja_cons (je_lcT (own := [("pair", 4)]) rfl sc17.nd (je_var _ (pv 1)) (blkOk_by (by rfl)) (fun _ _ _ _ _ => (jg_name (i := 4) sc17.nd rfl (.inl rfl))) (fun _ _ _ _ _ => jts_nil) (fun _ _ _ _ _ => (je_call G16 (hr.mono (by decide)) (by rfl) T.d16.gl T.d16.fn.kp T.d16.bi (ja_cons (je_var _ (pv 4)) (ja_cons (je_var _ (pv 2)) (ja_cons (je_var _ (pv 3)) ja_nil)))))) ja_nil)))) ja_nil))))))),
    fun ds Q h => by
      match ds, h with
      | [v], ⟨lay, h⟩ =>
        have h' : Q (.bool (fitsKind v)) := h
        refine ⟨v, rfl, lay, ?_⟩
        cases v <;> try exact h'
        rename_i rows
        show (if (!isTup (.tuple rows) 1 6) = true then _ else _)
        cases e : isTup (.tuple rows) 1 6 with
        | false =>
          have e2 : fitsKind (.tuple rows) = false := by
            show ((decide (1 ≤ rows.length) && decide (rows.length ≤ 6) && _) && _) = false
            have e3 : (decide ((1 : Int) ≤ (rows.length : Int)) && decide ((rows.length : Int) ≤ 6)) = false := e
            have e4 : (decide (1 ≤ rows.length) && decide (rows.length ≤ 6)) = false := by
              rw [← e3]
              congr 1
              · exact decide_eq_decide.mpr (by omega)
              · exact decide_eq_decide.mpr (by omega)
            rw [e4, Bool.false_and, Bool.false_and]
          rw [e2] at h'
          exact h'
        | true =>
          obtain ⟨_, q, hl1, hl2⟩ := isTup16 e
          cases q
          have hlen : rows.length ≤ 6 := by omega
          have hl1' : 1 ≤ rows.length := by omega
          have e4 : (decide (1 ≤ rows.length) && decide (rows.length ≤ 6)) = true := by simp [hl1', hlen]
          refine ⟨_, rfl, ?_⟩
          refine lc_map (fun r => .bool (isTup r 1 6)) rows [] _ (fun d hd Q hQ => ⟨d, rfl, layT lay d hd, hQ⟩) (by rw [List.length_nil]; exact small (by omega)) ?_
          dsimp only [wNil, wCons, wL, arg1, List.nil_append]
          refine fAll_map ?_
          show (if (!rows.all fun r => isTup r 1 6) = true then _ else _)
          have hk : fitsKind (.tuple rows) = ((rows.all fun r => isTup r 1 6) && ((rows.all fun r => decide (lenD r = lenD (rows.headD .none))) && rows.all fun r => (itemsD r).all fun p => fitsPair p (lenD (rows.headD .none)) rows.length)) := by
            show ((decide (1 ≤ rows.length) && decide (rows.length ≤ 6) && _) && _) = _
            rw [e4, Bool.true_and]
          rw [hk] at h'
          cases e2 : rows.all fun r => isTup r 1 6 with
          | false => rw [e2] at h'; exact h'
          | true =>
            rw [e2, Bool.true_and] at h'
            match rows, hl1', hlen, e2, h' with
            | r0 :: rr, hl1', hlen, e2, h' =>
              obtain ⟨r0s, rfl, h01, h02⟩ := rows_tup e2 (List.mem_cons_self)
              refine ⟨_, rfl, _, atI0, _, rfl, ?_⟩
              refine ⟨by show 2 ≤ lim; decide, rfl, ?_⟩
              have elen : ∀ r ∈ (PyData.tuple r0s :: rr), ∃ ds, r = .tuple ds ∧ ds.length ≤ 6 := fun r hr => by
                obtain ⟨ds, q, _, q2⟩ := rows_tup e2 hr
                exact ⟨ds, q, by omega⟩
              refine ⟨_, rfl, ?_⟩
              refine lc_map (fun r => .bool (decide (lenD r = r0s.length))) _ [] _ (fun d hd Q hQ => ?_) (by rw [List.length_nil]; exact small (by omega)) ?_
              · obtain ⟨ds, rfl, _⟩ := elen d hd
                refine ⟨_, rfl, _, rfl, sh_int _, sh_int _, ?_⟩
                have q : PyData.eqv (.int (ds.length : Int)) (.int (r0s.length : Int)) = decide (ds.length = r0s.length) := by
                  show ((ds.length : Int) == (r0s.length : Int)) = _
                  rw [Bool.beq_eq_decide_eq]
                  exact decide_eq_decide.mpr (by omega)
                rw [q]
                exact hQ
              · dsimp only [wNil, wCons, wL, arg1, List.nil_append]
                refine fAll_map ?_
                show (if (!List.all (PyData.tuple r0s :: rr) fun r => decide (lenD r = r0s.length)) = true then _ else _)
                have h2 : Q (.bool ((List.all (PyData.tuple r0s :: rr) fun r => decide (lenD r = r0s.length)) && List.all (PyData.tuple r0s :: rr) fun r => (itemsD r).all fun p => fitsPair p r0s.length (PyData.tuple r0s :: rr).length)) := h'
                cases e5 : List.all (PyData.tuple r0s :: rr) fun r => decide (lenD r = r0s.length) with
                | false => rw [e5] at h2; exact h2
                | true =>
                  rw [e5, Bool.true_and] at h2
                  refine ⟨_, rfl, ?_⟩
                  refine lc_map (fun r => .bool ((itemsD r).all fun p => fitsPair p r0s.length (PyData.tuple r0s :: rr).length)) _ [] _ (fun d hd Q hQ => ?_) (by rw [List.length_nil]; exact small (by omega)) ?_
                  · obtain ⟨ds, rfl, hds⟩ := elen d hd
                    refine ⟨_, rfl, ?_⟩
                    refine lc_map (fun p => .bool (fitsPair p r0s.length (PyData.tuple r0s :: rr).length)) ds [] _ (fun d2 hd2 Q hQ => ⟨_, rfl, _, rfl, _, rfl, layT (layT lay _ hd) _ hd2, hQ⟩) (by rw [List.length_nil]; exact small (by omega)) ?_
                    dsimp only [wNil, wCons, wL, arg1, List.nil_append]
                    exact fAll_map hQ
                  · dsimp only [wNil, wCons, wL, arg1, List.nil_append]
                    exact fAll_map h2⟩
end
end Lr
namespace Lr
open PySem PySem.Spec PyProof.Rows L2
def outD (p : Nat × List Nat) : PyData := .tuple [nD p.1, tD p.2]
def rtD (p : List Nat × List Nat) : PyData := .tuple [tD p.1, tD p.2]
theorem kD_cons {k : Kn} (h : Kd k) : ∃ r rs, k = r :: rs ∧ r.length = sets k := by
  match k, h.lo with
  | r :: rs, _ => exact ⟨r, rs, rfl, rfl⟩
theorem fLen_kD {k : Kn} {P : PyData → Prop} (h : P (nD k.length)) : fLen (kD k) P := by
  show P (.int ((k.map rowD).length : Int))
  rw [List.length_map]; exact h
theorem fLen_tD {t : List Nat} {P : PyData → Prop} (h : P (nD t.length)) : fLen (tD t) P := by
  show P (.int ((t.map nD).length : Int))
  rw [List.length_map]; exact h
section
variable {P : Program} {w : World} {K : PySem.W.Frag} {mg : Str → Option Value} {base : Heap}
def p_fits_train : FL := fun ds Q => ∃ k v, ds = [kD k, v] ∧ Kd k ∧ PyData.canLay0 v = true ∧ Q (.bool (fitsTrain k.length v))
theorem ok19 (T : Txt K mg) : FnOk P w K mg base CX0 2 T.f19 T.fd19 ["kind", "value"] (spP p_fits_train) :=
  have G14 := ok14 (P := P) (w := w) (base := base) T
  have G15 := ok15 (P := P) (w := w) (base := base) T
  okP T.d19.fn sc19 (fun ds Q ⟨k, v, h, _⟩ => by rw [h]; rfl) fun z cdv A outer s H E hr => ⟨_,
    (js_one (js_ret (je_and (je_call G15 (hr.mono (by decide)) (by rfl) T.d15.gl T.d15.fn.kp T.d15.bi (ja_cons (je_var _ (pv 1)) (ja_cons je_int (ja_cons (je_gint (by rfl) T.c_LONGEST) ja_nil)))) (je_one (je_callB (cr_all rfl) hoL_all (by rfl) T.b_all (by decide +kernel) (ja_cons (je_lcT (own := [("sort", 2)]) rfl sc19.nd (je_var _ (pv 1)) (blkOk_by (by rfl)) (fun _ _ _ _ _ => (jg_name (i := 2) sc19.nd rfl (.inl rfl))) (fun _ _ _ _ _ => jts_nil) (fun _ _ _ _ _ => (je_call G14 (hr.mono (by decide)) (by rfl) T.d14.gl T.d14.fn.kp T.d14.bi (ja_cons (je_var _ (pv 2)) (ja_cons je_int (ja_cons (je_op op_sub ho_sub (je_callB call_len_seq hoL_len (by rfl) T.b_len (by decide +kernel) (ja_cons (je_var _ (pv 0)) ja_nil)) je_int) ja_nil)))))) ja_nil)))))),
    fun ds Q ⟨k, v, e, hk, lay, h⟩ => by
      subst e
      refine ⟨v, rfl, lay, ?_⟩
      show (match PyData.bool (isTup v 0 60) with | .bool true => _ | .bool false => _ | _ => _)
      cases v with
      | tuple ds =>
        have h' : Q (.bool (decide (ds.length ≤ 60) && ds.all fun d => isWhole d 0 (k.length - 1))) := h
        have e1 : isTup (.tuple ds) 0 60 = decide (ds.length ≤ 60) := by
          show (decide ((0 : Int) ≤ (ds.length : Int)) && decide ((ds.length : Int) ≤ 60)) = _
          rw [decide_eq_true (by omega), Bool.true_and]
          exact decide_eq_decide.mpr (by omega)
        rw [e1]
        by_cases e2 : ds.length ≤ 60
        · rw [decide_eq_true e2] at h' ⊢
          refine ⟨_, rfl, ?_⟩
          refine lc_map (fun d => .bool (isWhole d 0 (k.length - 1))) ds [] _ (fun d hd Q hQ => ⟨d, rfl, _, rfl, by dsimp only [wNil, wCons, wL, arg1]; exact fLen_kD ⟨layT lay d hd, hQ⟩⟩) (small (by rw [List.length_nil]; omega)) ?_
          dsimp only [wNil, wCons, wL, arg1, List.nil_append]
          exact fAll_map h'
        · rw [decide_eq_false e2] at h' ⊢
          exact h'
      | _ => exact h⟩
def p_need_kind (T : Txt K mg) : FX := fun ds Q R => ∃ v, ds = [v] ∧ PyData.canLay0 v = true ∧ (fitsKind v = true → Q .none) ∧ (fitsKind v = false → R (.of T.C_InvalidKind))
theorem ok20 (T : Txt K mg) : FnOk P w K mg base (L2.CX P w) 4 T.f20 T.fd20 ["value"] (spX (p_need_kind T)) :=
  have G17 := ok17 (P := P) (w := w) (base := base) T
  okX T.d20.fn sc20 (fun ds Q R ⟨v, h, _⟩ => by rw [h]; rfl) fun z cdv A outer s H hz hr => ⟨_,
    (js_one (js_if (jt_not (jt_val (je_call G17 (hr.mono (by decide)) (by rfl) T.d17.gl T.d17.fn.kp T.d17.bi (ja_cons (je_var _ (pv 0)) ja_nil)))) (js_one (js_raiseO hz rfl (takes_of rfl rfl rfl rfl) T.e_InvalidKind (by rfl))) js_nil)),
    fun ds Q ⟨v, e, lay, h1, h2⟩ => by
      subst e
      refine ⟨v, rfl, lay, ?_⟩
      show (if (!fitsKind v) = true then _ else _)
      cases e : fitsKind v with
      | true => exact h1 e
      | false => exact h2 e⟩
def p_need_number (T : Txt K mg) : FX := fun ds Q R => ∃ v, ds = [v] ∧ PyData.canLay0 v = true ∧ (isWhole v 0 60 = true → Q .none) ∧ (isWhole v 0 60 = false → R (.of T.C_InvalidNumber))
theorem ok33 (T : Txt K mg) : FnOk P w K mg base (L2.CX P w) 2 T.f33 T.fd33 ["value"] (spX (p_need_number T)) :=
  have G14 := ok14 (P := P) (w := w) (base := base) T
  okX T.d33.fn sc33 (fun ds Q R ⟨v, h, _⟩ => by rw [h]; rfl) fun z cdv A outer s H hz hr => ⟨_,
    (js_one (js_if (jt_not (jt_val (je_call G14 (hr.mono (by decide)) (by rfl) T.d14.gl T.d14.fn.kp T.d14.bi (ja_cons (je_var _ (pv 0)) (ja_cons je_int (ja_cons (je_gint (by rfl) T.c_LATCHES) ja_nil)))))) (js_one (js_raiseO hz rfl (takes_of rfl rfl rfl rfl) T.e_InvalidNumber (by rfl))) js_nil)),
    fun ds Q ⟨v, e, lay, h1, h2⟩ => by
      subst e
      refine ⟨v, rfl, lay, ?_⟩
      show (if (!isWhole v 0 60) = true then _ else _)
      cases e : isWhole v 0 60 with
      | true => exact h1 e
      | false => exact h2 e⟩
def p_latch : FL := fun ds Q => ∃ k t s, ds = [kD k, tD t, nD s] ∧ Kd k ∧ Lt k.length t ∧ s < sets k ∧ t.length ≤ 1000 ∧ Q (outD (latchP k s t))
theorem ok22 (T : Txt K mg) : FnOk P w K mg base CX0 1 T.f22 T.fd22 ["kind", "train", "setting"] (spP p_latch) :=
  okP T.d22.fn sc22 (fun ds Q ⟨k, t, s, h, _⟩ => by rw [h]; rfl) fun z cdv A outer s H E hr => ⟨_,
    (js_cons (js_set (i := 3) sc22.nd rfl (.inl rfl) (je_tup ja_nil))
      (js_cons (js_forT PassesOwn.never rfl (je_var _ (pv 1)) (jg_name (i := 4) sc22.nd rfl (.inl rfl)) (js_cons (js_asg (je_ix (je_ix (je_var _ (pv 0)) (je_var _ (pv 4))) (je_var _ (pv 2))) (jg_tup (n := 2) rfl (jgs_cons (jg_name (i := 2) sc22.nd rfl (.inl rfl)) (jgs_cons (jg_name (i := 5) sc22.nd rfl (.inl rfl)) jgs_nil))))
      (js_one (js_set (i := 3) sc22.nd rfl (.inl rfl) (je_op op_addA ho_add (je_var _ (pv 3)) (je_tup (ja_cons (je_var _ (pv 5)) ja_nil)))))))
      (js_one (js_ret (je_tup (ja_cons (je_var _ (pv 2)) (ja_cons (je_var _ (pv 3)) ja_nil))))))),
    fun ds Q ⟨k, t, s, e, hk, ht, hs, hl, h⟩ => by
      subst e
      refine ⟨small (by decide), ?_⟩
      refine ⟨_, rfl, ?_⟩
      refine sLoop_ind (fun rest ρ => ∃ t2 s2 acc x4 x5, rest = t2.map nD ∧ ρ = [some (.d (kD k)), some (.d (tD t)), some (.d (nD s2)), some (.d (tD acc)), x4, x5] ∧ Lt k.length t2 ∧ s2 < sets k ∧ acc.length + t2.length ≤ 1000 ∧ Q (outD ((latchP k s2 t2).1, acc ++ (latchP k s2 t2).2))) ?_ ?_ _ _ ⟨t, s, [], none, none, rfl, rfl, ht, hs, by rw [List.length_nil]; omega, h⟩
      · rintro ρ ⟨t2, s2, acc, x4, x5, e1, rfl, h1, h2, h3, h4⟩
        cases t2 with
        | cons => cases e1
        | nil =>
          refine ⟨_, rfl, _, rfl, by show 2 ≤ lim; decide, ?_⟩
          have h4' : Q (outD (s2, acc ++ [])) := h4
          rw [List.append_nil] at h4'
          exact h4'
      · rintro d ds ρ ⟨t2, s2, acc, x4, x5, e1, rfl, h1, h2, h3, h4⟩ K hK
        cases t2 with
        | nil => cases e1
        | cons a t2 =>
          obtain ⟨rfl, rfl⟩ := List.cons.inj e1
          obtain ⟨r, q1, q2, q3, q4⟩ := stepL_at hk h2 (h1 a List.mem_cons_self)
          rw [List.length_cons] at h3
          refine ⟨_, rfl, _, rfl, _, atI_map q1, _, rfl, _, atI_map q2, ?_⟩
          refine ⟨rfl, ?_⟩
          refine ⟨_, rfl, _, rfl, by show 1 ≤ lim; decide, ?_⟩
          refine ⟨by rw [List.length_map, List.length_singleton]; exact small (by omega), ?_⟩
          refine hK _ ⟨t2, (stepL k s2 a).1, acc ++ [(stepL k s2 a).2], some (.d (nD a)), some (.d (nD (stepL k s2 a).2)), rfl, ?_, fun b hb => h1 b (List.mem_cons_of_mem _ hb), q3, by rw [List.length_append, List.length_singleton]; omega, ?_⟩
          · unfold tD
            rw [List.map_append]
            rfl
          · rw [List.append_assoc]
            exact h4⟩
end
end Lr
namespace Lr
open PySem PySem.Calls PySem.Spec PyProof.Rows L2 RZ
section
variable {prog : Program} {w : World} {A : Around} {E : Value → Shared → Prop} {s : Shared}
section
variable {z TI TO T i1 i2 l1 l2 : Addr} {f : Bool} {oT : Obj} {k1 k2 : Nat} {xs ys : Array Value} {x y : Value}
/-- the next pair, a pair given out before still in use -/
theorem zipT_held_item {Q : Option Value → Shared → Prop} (D : ZipApart z TI TO i1 i2 l1 l2) (hz : IsZipHeld s.heap z TI TO T f) (hT : s.heap.get? T = some oT) (hTI : IsPair s.heap TI (.ref i1) (.ref i2))
    (h1 : s.heap.IsTupleIter i1 l1 k1) (h2 : s.heap.IsTupleIter i2 l2 k2) (hl1 : s.heap.IsTuple l1 xs) (hl2 : s.heap.IsTuple l2 ys) (hx : xs[k1]? = some x) (hy : ys[k2]? = some y)
    (hQ : ∀ h', IsZipHeld h' z TI TO T true → h'.IsTupleIter i1 l1 (k1 + 1) → h'.IsTupleIter i2 l2 (k2 + 1) → IsPair h' s.heap.objs.size x y → h'.objs.size = s.heap.objs.size + 1 →
      (∀ c o, c ≠ z → c ≠ i1 → c ≠ i2 → s.heap.get? c = some o → h'.get? c = some o) → Q (some (.ref s.heap.objs.size)) { s with heap := h' }) :
    wpAny (model prog w) A (pyNext (.ref z)) Q E s := by
  have hTy : s.TypeIs (.ref z) "zip" := ⟨_, hz, rfl⟩
  unfold pyNext
  refine wpAny_bind (wpAny_attempt (wpAny_callSpecial?_slot (name := Str.ofString "__next__") hTy F.slot_zip_next (wpAny_call_entry F.slot_zip_next hTy F.entry_zip_next ?_ (F.args_zip_next_1 _))))
  show wpAny _ _ (field (.ref z) 2 >>= _) _ _ _
  refine wpAny_bind (wpAny_field hz rfl (x := .bool false) rfl ?_)
  show wpAny _ _ (field (.ref z) 3 >>= _) _ _ _
  refine wpAny_bind (wpAny_field hz rfl (x := .ref TI) rfl (wpAny_bind (wpAny_seqItems hTI rfl ?_)))
  show wpAny _ _ (Builtin.SmallTypes.ownedTupleIsFree (.ref z) >>= _) _ _ _
  refine wpAny_bind (wpAny_tupleHeld_zip hz hT fun ha hza sa => ?_)
  simp only [Bool.false_eq_true, if_false]
  rw [← Array.forIn_toList]
  simp only [List.forIn_cons, List.forIn_nil]
  refine wpAny_bind (wpAny_bind (wpAny_bind (wpAny_holding ?_)))
  show wpAny _ _ (Builtin.SmallTypes.nextOf (.ref i1) >>= _) _ _ _
  refine wpAny_bind (nextOf_tuple_item (s := { s with heap := ha }) (h1.extBut sa.extBut D.i1z) (hl1.extBut sa.extBut D.l1z) hx fun hb ib sb => wpAny_pure (wpAny_pure ?_))
  refine wpAny_bind (wpAny_bind (wpAny_holding ?_))
  show wpAny _ _ (Builtin.SmallTypes.nextOf (.ref i2) >>= _) _ _ _
  refine wpAny_bind (nextOf_tuple_item (s := { s with heap := hb }) ((h2.extBut sa.extBut D.i2z).extBut sb.extBut D.i12.symm) ((hl2.extBut sa.extBut D.l2z).extBut sb.extBut D.l2i1) hy fun hc ic sc => wpAny_pure (wpAny_pure (wpAny_pure ?_)))
  show wpAny _ _ (newTuple [x, y] >>= _) _ _ _
  refine wpAny_bind (wpAny_newTuple (wpAny_pure ⟨_, rfl, ?_⟩))
  have hsz : hc.objs.size = s.heap.objs.size := by rw [sc.1, sb.1, sa.1]
  have zc : IsZipHeld hc z TI TO T true := sc.extBut _ _ D.i2z.symm (sb.extBut _ _ D.i1z.symm hza)
  have kc : ∀ c o, c ≠ z → c ≠ i1 → c ≠ i2 → s.heap.get? c = some o → hc.get? c = some o := fun c o c1 c2 c3 e => sc.extBut _ _ c3 (sb.extBut _ _ c2 (sa.extBut _ _ c1 e))
  have ib2 : hc.IsTupleIter i1 l1 (k1 + 1) := ib.extBut sc.extBut D.i12
  have hp : IsPair (hc.push { cls := .type "tuple", data := .seq #[x, y] }) hc.objs.size x y := Heap.get?_push_size _ rfl
  have hs4 : (hc.push { cls := .type "tuple", data := .seq #[x, y] }).objs.size = hc.objs.size + 1 := Heap.size_push ..
  refine wpAny_pure ?_
  rw [hsz] at hp hs4
  show Q (some (.ref hc.objs.size)) _
  rw [hsz]
  exact hQ _ (Heap.get?_push_of_some _ zc) (ib2.at fun o e => Heap.get?_push_of_some _ e) (ic.at fun o e => Heap.get?_push_of_some _ e) hp hs4 fun c o c1 c2 c3 e => Heap.get?_push_of_some _ (kc c o c1 c2 c3 e)
theorem zipT_held_end {Q : Option Value → Shared → Prop} (hh : A.handled = none) (D : ZipApart z TI TO i1 i2 l1 l2) (hz : IsZipHeld s.heap z TI TO T f) (hT : s.heap.get? T = some oT) (hTI : IsPair s.heap TI (.ref i1) (.ref i2))
    (h1 : s.heap.IsTupleIter i1 l1 k1) (h2 : s.heap.IsTupleIter i2 l2 k2) (hl1 : s.heap.IsTuple l1 xs) (hl2 : s.heap.IsTuple l2 ys) (hx : xs[k1]? = none)
    (hQ : ∀ h', (∀ c o, c ≠ z → c ≠ i1 → c ≠ i2 → s.heap.get? c = some o → h'.get? c = some o) → Q none { s with heap := h' }) : wpAny (model prog w) A (pyNext (.ref z)) Q E s := by
  have hTy : s.TypeIs (.ref z) "zip" := ⟨_, hz, rfl⟩
  unfold pyNext
  refine wpAny_bind (wpAny_attempt (wpAny_callSpecial?_slot (name := Str.ofString "__next__") hTy F.slot_zip_next (wpAny_call_entry F.slot_zip_next hTy F.entry_zip_next ?_ (F.args_zip_next_1 _))))
  show wpAny _ _ (field (.ref z) 2 >>= _) _ _ _
  refine wpAny_bind (wpAny_field hz rfl (x := .bool false) rfl ?_)
  show wpAny _ _ (field (.ref z) 3 >>= _) _ _ _
  refine wpAny_bind (wpAny_field hz rfl (x := .ref TI) rfl (wpAny_bind (wpAny_seqItems hTI rfl ?_)))
  show wpAny _ _ (Builtin.SmallTypes.ownedTupleIsFree (.ref z) >>= _) _ _ _
  refine wpAny_bind (wpAny_tupleHeld_zip hz hT fun ha hza sa => ?_)
  simp only [Bool.false_eq_true, if_false]
  rw [← Array.forIn_toList]
  simp only [List.forIn_cons, List.forIn_nil]
  refine wpAny_bind (wpAny_bind (wpAny_bind (wpAny_holding ?_)))
  show wpAny _ _ (Builtin.SmallTypes.nextOf (.ref i1) >>= _) _ _ _
  refine wpAny_bind (nextOf_tuple_end (s := { s with heap := ha }) hh (h1.extBut sa.extBut D.i1z) (hl1.extBut sa.extBut D.l1z) hx fun hb e sb he => ?_)
  obtain ⟨o, ho, hc⟩ := he
  refine wpAny_bind (wpAny_isInstance (T := "StopIteration") (b := true) ⟨o, ho, hc⟩ isSubtype_stop (wpAny_pure (hQ _ fun c o c1 c2 _ e => sb _ _ c2 (sa.extBut _ _ c1 e))))
end
/-- where a zip of two tuples stands -/
structure Zs (h : Heap) (z TI TO i1 i2 l1 l2 S : Addr) (xs ys : Array Value) (i : Nat) : Prop where
  ti : IsPair h TI (.ref i1) (.ref i2)
  a : h.IsTupleIter i1 l1 i
  b : h.IsTupleIter i2 l2 i
  la : h.IsTuple l1 xs
  lb : h.IsTuple l2 ys
  st : (IsZip h z TI TO .none ∧ ∃ a b, IsPair h TO a b) ∨ ∃ T f oT, IsZipHeld h z TI TO T f ∧ h.get? T = some oT ∧ T ≠ z ∧ T ≠ i1 ∧ T ≠ i2 ∧ T ≠ S
section
variable {z TI TO i1 i2 l1 l2 S : Addr} {xs ys : Array Value} {i : Nat}
theorem Zs.frame {h h' : Heap} (t : Zs h z TI TO i1 i2 l1 l2 S xs ys i) (hS : ∀ c ∈ [z, TI, TO, i1, i2, l1, l2], c ≠ S) (k : ∀ c o, c ≠ S → h.get? c = some o → h'.get? c = some o) : Zs h' z TI TO i1 i2 l1 l2 S xs ys i where
  ti := k _ _ (hS TI (by simp)) t.ti
  a := t.a.at fun o e => k _ o (hS i1 (by simp)) e
  b := t.b.at fun o e => k _ o (hS i2 (by simp)) e
  la := by obtain ⟨o, e, r⟩ := t.la; exact ⟨o, k _ o (hS l1 (by simp)) e, r⟩
  lb := by obtain ⟨o, e, r⟩ := t.lb; exact ⟨o, k _ o (hS l2 (by simp)) e, r⟩
  st := by
    rcases t.st with ⟨q, a, b, r⟩ | ⟨T, f, oT, q, r, r1, r2, r3, r4⟩
    · exact .inl ⟨k _ _ (hS z (by simp)) q, a, b, k _ _ (hS TO (by simp)) r⟩
    · exact .inr ⟨T, f, oT, k _ _ (hS z (by simp)) q, k _ _ r4 r, r1, r2, r3, r4⟩
theorem Zs.item {Q : Option Value → Shared → Prop} {x y : Value} (t : Zs s.heap z TI TO i1 i2 l1 l2 S xs ys i) (D : ZipApart z TI TO i1 i2 l1 l2) (hS : S < s.heap.objs.size) (hx : xs[i]? = some x) (hy : ys[i]? = some y)
    (hQ : ∀ h', Zs h' z TI TO i1 i2 l1 l2 S xs ys (i + 1) → IsPair h' s.heap.objs.size x y → (∀ c o, c ∉ [z, TO, i1, i2] → s.heap.get? c = some o → h'.get? c = some o) → Q (some (.ref s.heap.objs.size)) { s with heap := h' }) :
    wpAny (model prog w) A (pyNext (.ref z)) Q E s := by
  have lt : ∀ {c o}, s.heap.get? c = some o → s.heap.objs.size ≠ c := fun e => Nat.ne_of_gt (Heap.lt_size e)
  have n1 : s.heap.objs.size ≠ i1 := let ⟨_, e, _⟩ := t.a; lt e
  have n2 : s.heap.objs.size ≠ i2 := let ⟨_, e, _⟩ := t.b; lt e
  have tup : ∀ {h' : Heap} {l : Addr} {v : Array Value}, s.heap.IsTuple l v → (∀ o, s.heap.get? l = some o → h'.get? l = some o) → h'.IsTuple l v := fun ⟨o, e, r⟩ k => ⟨o, k o e, r⟩
  rcases t.st with ⟨q, a, b, r⟩ | ⟨T, f, oT, q, r, r1, r2, r3, r4⟩
  · refine pyNext_zipT_item D q t.ti r t.a t.b t.la t.lb hx hy fun h' a1 a2 a3 a4 a5 a6 k => hQ h' ?_ a5 fun c o hc e => ?_
    · exact ⟨k _ _ D.TIz D.TITO D.TIi1 D.TIi2 t.ti, a3, a4, tup t.la fun o e => k _ o D.l1z D.l1TO D.l1i1 D.l1i2 e, tup t.lb fun o e => k _ o D.l2z D.l2TO D.l2i1 D.l2i2 e, .inr ⟨_, false, _, a1, a5, lt q, n1, n2, Nat.ne_of_gt hS⟩⟩
    · exact k c o (fun x => hc (by simp [x])) (fun x => hc (by simp [x])) (fun x => hc (by simp [x])) (fun x => hc (by simp [x])) e
  · refine zipT_held_item D q r t.ti t.a t.b t.la t.lb hx hy fun h' a1 a3 a4 a5 a6 k => hQ h' ?_ a5 fun c o hc e => ?_
    · exact ⟨k _ _ D.TIz D.TIi1 D.TIi2 t.ti, a3, a4, tup t.la fun o e => k _ o D.l1z D.l1i1 D.l1i2 e, tup t.lb fun o e => k _ o D.l2z D.l2i1 D.l2i2 e, .inr ⟨T, true, oT, a1, k _ _ r1 r2 r3 r, r1, r2, r3, r4⟩⟩
    · exact k c o (fun x => hc (by simp [x])) (fun x => hc (by simp [x])) (fun x => hc (by simp [x])) e
theorem Zs.last {Q : Option Value → Shared → Prop} (hh : A.handled = none) (t : Zs s.heap z TI TO i1 i2 l1 l2 S xs ys i) (D : ZipApart z TI TO i1 i2 l1 l2) (hx : xs[i]? = none)
    (hQ : ∀ h', (∀ c o, c ∉ [z, TO, i1, i2] → s.heap.get? c = some o → h'.get? c = some o) → Q none { s with heap := h' }) : wpAny (model prog w) A (pyNext (.ref z)) Q E s := by
  rcases t.st with ⟨q, a, b, r⟩ | ⟨T, f, oT, q, r, r1, r2, r3, r4⟩
  · exact pyNext_zipT_end hh D q t.ti r t.a t.b t.la t.lb (.inl hx) fun h' k => hQ h' fun c o hc e => k c o (fun x => hc (by simp [x])) (fun x => hc (by simp [x])) (fun x => hc (by simp [x])) (fun x => hc (by simp [x])) e
  · exact zipT_held_end hh D q r t.ti t.a t.b t.la t.lb hx fun h' k => hQ h' fun c o hc e => k c o (fun x => hc (by simp [x])) (fun x => hc (by simp [x])) (fun x => hc (by simp [x])) e
/-- the addresses as hold the pairs of xs and ys, from the first on -/
structure Zg (xs ys : Array Value) (lo : Addr) (h : Heap) (as : List Addr) : Prop where
  rise : as.Pairwise (· < ·)
  above : ∀ a ∈ as, lo ≤ a
  pairs : ∀ (j : Nat) (a : Addr), as[j]? = some a → ∃ x y, xs[j]? = some x ∧ ys[j]? = some y ∧ IsPair h a x y
theorem Zg.lt {lo : Addr} {h : Heap} {as : List Addr} (g : Zg xs ys lo h as) {a : Addr} (ha : a ∈ as) : a < h.objs.size := by
  obtain ⟨j, hj⟩ := List.mem_iff_getElem?.mp ha
  obtain ⟨_, _, _, _, e⟩ := g.pairs j a hj
  exact Heap.lt_size e
theorem zl_loop {R : Result → Shared → Prop} (hh : A.handled = none) (D : ZipApart z TI TO i1 i2 l1 l2) (hl : xs.size = ys.size) (hn : xs.size ≤ sizeLine) (lo : Addr) (hlo : ∀ c ∈ [z, TO, i1, i2, S], c < lo) (hS : ∀ c ∈ [z, TI, TO, i1, i2, l1, l2], c ≠ S) (res : Value) {h₁ : Heap}
    (hR : ∀ h' tk acc c as, (∀ b o, b ∉ [S, z, TO, i1, i2] → h₁.get? b = some o → h'.get? b = some o) → h'.get? S = some { cls := .type "list", dict := none, data := .seq acc c, slots := #[] } → as.length = xs.size → Zg xs ys lo h' as →
      acc.toList = as.map Value.ref → R (.ok (.ret res)) { s with heap := h', toks := tk }) :
    ∀ (k i : Nat) (h : Heap) (tk c : Nat) (acc : Array Value) (as : List Addr), xs.size - i = k → i ≤ xs.size → Zs h z TI TO i1 i2 l1 l2 S xs ys i → (∀ b o, b ∉ [S, z, TO, i1, i2] → h₁.get? b = some o → h.get? b = some o) →
      h.get? S = some { cls := .type "list", dict := none, data := .seq acc c, slots := #[] } → acc.toList = as.map Value.ref → as.length = i → Zg xs ys lo h as → lo ≤ h.objs.size →
      codeAny (model prog w) A (.builtin "list.extend.loop" ⟨[.ref S, .ref z, res], []⟩) R { s with heap := h, toks := tk } := by
  have nS : S ∉ [z, TO, i1, i2] := fun q => by
    simp only [List.mem_cons, List.not_mem_nil, or_false] at q
    rcases q with q | q | q | q
    · exact hS z (by simp) q.symm
    · exact hS TO (by simp) q.symm
    · exact hS i1 (by simp) q.symm
    · exact hS i2 (by simp) q.symm
  have big : ∀ {b : Addr}, lo ≤ b → b ∉ [z, TO, i1, i2] := fun {b} hb q => by
    have := hlo b (by simp only [List.mem_cons, List.not_mem_nil, or_false] at q ⊢; rcases q with q | q | q | q <;> simp [q])
    exact absurd (Nat.lt_of_lt_of_le this hb) (Nat.lt_irrefl _)
  have bigS : ∀ {b : Addr}, lo ≤ b → b ≠ S := fun {b} hb q => by rw [q] at hb; exact absurd (Nat.lt_of_lt_of_le (hlo S (by simp)) hb) (Nat.lt_irrefl _)
  intro k
  induction k with
  | zero =>
    intro i h tk c acc as hk hi hst hkeep hs hacc hal hG hIs
    have hin : i = xs.size := by omega
    refine codeAny_builtin PySem.F.entry_extend_loop ?_
    rw [Around.under_plainId PySem.F.plain_extend_loop _]
    show wpAny _ A.in1 (pyNext (.ref z) >>= _) _ _ _
    refine wpAny_bind (Zs.last (s := { s with heap := h, toks := tk }) (A := A.in1) hh hst D (Array.getElem?_eq_none (by omega)) fun h' he => wpAny_pure (hR h' tk acc c as (fun b o hb e => he b o (fun q => hb (List.mem_cons_of_mem _ q)) (hkeep b o hb e)) (he S _ nS hs) (by omega) ⟨hG.rise, hG.above, fun j a hj => ?_⟩ hacc))
    obtain ⟨x, y, hx, hy, e3⟩ := hG.pairs j a hj
    exact ⟨x, y, hx, hy, he a _ (big (hG.above a (List.mem_of_getElem? hj))) e3⟩
  | succ k ih =>
    intro i h tk c acc as hk hi hst hkeep hs hacc hal hG hIs
    have hlt : i < xs.size := by omega
    have hsz : acc.size = i := by rw [← Array.length_toList, hacc, List.length_map, hal]
    refine codeAny_builtin PySem.F.entry_extend_loop ?_
    rw [Around.under_plainId PySem.F.plain_extend_loop _]
    show wpAny _ A.in1 (pyNext (.ref z) >>= _) _ _ _
    refine wpAny_bind (Zs.item (s := { s with heap := h, toks := tk }) hst D (Heap.lt_size hs) (Array.getElem?_eq_getElem hlt) (Array.getElem?_eq_getElem (show i < ys.size by omega)) fun h' hst' ht hkp => ?_)
    dsimp only at ht hkp ⊢
    have hs' := hkp S _ nS hs
    have up : ∀ b o, b ≠ S → h'.get? b = some o → (h'.update S (Obj.mapSeq (·.push (Value.ref h.objs.size)))).get? b = some o := fun b o hb e => (Heap.get?_update_other _ _ (Ne.symm hb)).trans e
    have hne : h.objs.size ≠ S := Nat.ne_of_gt (Heap.lt_size hs)
    have e9 : (h'.update S (Obj.mapSeq (·.push (Value.ref h.objs.size)))).get? h.objs.size = _ := up _ _ hne ht
    show wpAny _ A.in1 (updateSeq S (·.push (Value.ref h.objs.size)) >>= _) _ _ _
    refine wpAny_bind (wpAny_updateSeq hs' rfl (wpAny_pure ⟨plainId_quiet PySem.F.plain_extend_loop _, ih (i + 1) _ tk _ (acc.push (Value.ref h.objs.size)) (as ++ [h.objs.size]) (by omega) hlt (hst'.frame hS up)
      (fun b o hb e => up b o (fun q => hb (by simp [q])) (hkp b o (fun q => hb (List.mem_cons_of_mem _ q)) (hkeep b o hb e))) (Heap.get?_update_self _ hs' rfl) (by rw [Array.toList_push, hacc, List.map_append]; rfl) (by rw [List.length_append, hal]; rfl) ⟨?_, ?_, ?_⟩ (Nat.le_of_lt (Nat.lt_of_le_of_lt hIs (Heap.lt_size e9)))⟩) (by rw [hsz]; omega) (by show (acc.push (Value.ref h.objs.size)).size ≤ sizeLine + 1; rw [Array.size_push, hsz]; omega))
    · refine List.pairwise_append.mpr ⟨hG.rise, List.pairwise_singleton _ _, fun a ha b hb => ?_⟩
      rw [List.mem_singleton.mp hb]
      exact hG.lt ha
    · intro a ha
      rcases List.mem_append.mp ha with ha | ha
      · exact hG.above a ha
      · rw [List.mem_singleton.mp ha]; exact hIs
    · intro j b hj
      rcases Nat.lt_trichotomy j as.length with q | q | q
      · rw [List.getElem?_append_left q] at hj
        obtain ⟨x, y, hx, hy, e3⟩ := hG.pairs j b hj
        have hb := hG.above b (List.mem_of_getElem? hj)
        exact ⟨x, y, hx, hy, up b _ (bigS hb) (hkp b _ (big hb) e3)⟩
      · subst q
        have hb : h.objs.size = b := by simpa using hj
        subst hb
        subst hal
        exact ⟨_, _, Array.getElem?_eq_getElem hlt, Array.getElem?_eq_getElem (by omega), e9⟩
      · rw [List.getElem?_eq_none (by rw [List.length_append, List.length_singleton]; omega)] at hj
        cases hj
end
theorem zip_len : typeLookup (.type "zip") "__len__" = pure none := am_miss_of_fast (by decide +kernel)
theorem zip_lenHint : typeLookup (.type "zip") "__length_hint__" = pure none := am_miss_of_fast (by decide +kernel)
theorem zip_room {z : Addr} {Q : Bool → Shared → Prop} (hT : s.TypeIs (.ref z) "zip") (h : Q true s) : wpAny (model prog w) A (Builtin.List.listLengthHint (.ref z)) Q E s := by
  unfold Builtin.List.listLengthHint
  refine wpAny_bind (wpAny_specialOf hT zip_len ?_)
  dsimp only
  refine wpAny_ite_split (fun hab => absurd hab (by decide +kernel)) (fun _ => ?_)
  refine wpAny_bind (wpAny_specialOf hT zip_lenHint ?_)
  exact wpAny_pure h
section
variable {z TI TO i1 i2 l1 l2 : Addr} {xs ys : Array Value}
/-- list(zip(s, t)) behind the zip -/
theorem zl_call {Q : Value → Shared → Prop} (hh : A.handled = none) (D : ZipApart z TI TO i1 i2 l1 l2) (hl : xs.size = ys.size) (hn : xs.size ≤ sizeLine) (hz : IsZip s.heap z TI TO .none) (hTI : IsPair s.heap TI (.ref i1) (.ref i2)) (hTO : IsPair s.heap TO .none .none)
    (h1 : s.heap.IsTupleIter i1 l1 0) (h2 : s.heap.IsTupleIter i2 l2 0) (hl1 : s.heap.IsTuple l1 xs) (hl2 : s.heap.IsTuple l2 ys)
    (hQ : ∀ h' tk acc c as, (∀ b o, b ∉ [z, TO, i1, i2] → s.heap.get? b = some o → h'.get? b = some o) → h'.get? s.heap.objs.size = some { cls := .type "list", dict := none, data := .seq acc c, slots := #[] } → as.length = xs.size → Zg xs ys (s.heap.objs.size + 1) h' as →
      acc.toList = as.map Value.ref → Q (.ref s.heap.objs.size) { s with heap := h', toks := tk }) :
    wpAny (model prog w) A (call (.type "list") [.ref z]) Q E s := by
  have there : ∀ c ∈ [z, TI, TO, i1, i2, l1, l2], c < s.heap.objs.size := fun c hc => by
    simp only [List.mem_cons, List.not_mem_nil, or_false] at hc
    rcases hc with q | q | q | q | q | q | q
    · rw [q]; exact Heap.lt_size hz
    · rw [q]; exact Heap.lt_size hTI
    · rw [q]; exact Heap.lt_size hTO
    · rw [q]; obtain ⟨_, e, _⟩ := h1; exact Heap.lt_size e
    · rw [q]; obtain ⟨_, e, _⟩ := h2; exact Heap.lt_size e
    · rw [q]; obtain ⟨_, e, _⟩ := hl1; exact Heap.lt_size e
    · rw [q]; obtain ⟨_, e, _⟩ := hl2; exact Heap.lt_size e
  refine callType_codes (Q₁ := fun obj s₁ => obj = .ref s.heap.objs.size ∧ s₁ = { s with heap := s.heap.push { cls := .type "list", data := .seq #[] } }) PySem.F.called_list (PySem.F.typeCall_list_1 _) PySem.F.entry_list_init
    (code_list_new _ ⟨rfl, rfl⟩) fun obj s₁ h₁ => ?_
  obtain ⟨rfl, rfl⟩ := h₁
  have hS : (s.heap.push { cls := .type "list", data := .seq #[] }).get? s.heap.objs.size = some { cls := .type "list", data := .seq #[] } := Heap.get?_push_size _ rfl
  have st0 : Zs (s.heap.push { cls := .type "list", data := .seq #[] }) z TI TO i1 i2 l1 l2 s.heap.objs.size xs ys 0 :=
    ⟨Heap.get?_push_of_some _ hTI, h1.at fun o e => Heap.get?_push_of_some _ e, h2.at fun o e => Heap.get?_push_of_some _ e, (by obtain ⟨o, e, r⟩ := hl1; exact ⟨o, Heap.get?_push_of_some _ e, r⟩), (by obtain ⟨o, e, r⟩ := hl2; exact ⟨o, Heap.get?_push_of_some _ e, r⟩), .inl ⟨Heap.get?_push_of_some _ hz, _, _, Heap.get?_push_of_some _ hTO⟩⟩
  have zS : ∀ c ∈ [z, TI, TO, i1, i2, l1, l2], c ≠ s.heap.objs.size := fun c hc => Nat.ne_of_lt (there c hc)
  have key : ∀ (h : Heap) (c₁ tk : Nat), (∀ b o, b ≠ s.heap.objs.size → (s.heap.push { cls := .type "list", data := .seq #[] }).get? b = some o → h.get? b = some o) → h.get? s.heap.objs.size = some { cls := .type "list", data := .seq #[] c₁ } → s.heap.objs.size + 1 ≤ h.objs.size →
      codeAny (model prog w) A.in1 (.builtin "list.extend.loop" ⟨[.ref s.heap.objs.size, .ref z, .none], []⟩) (wants (fun v s' => v = .none ∧ Q (.ref s.heap.objs.size) s') E) { s with heap := h, toks := tk } := by
    intro h c₁ tk hk hS₁ hge
    refine zl_loop (s := s) (h₁ := s.heap) (A := A.in1) hh D hl hn (s.heap.objs.size + 1) (fun c hc => ?_) zS .none (fun h' tk' acc c as hk' hS' hlen hG hacc => ?_) xs.size 0 h tk c₁ #[] [] (Nat.sub_zero _) (Nat.zero_le _) (st0.frame zS hk) (fun b o hb e => hk b o (fun q => hb (by simp [q])) (Heap.get?_push_of_some _ e)) hS₁ rfl rfl ⟨List.Pairwise.nil, (fun _ ha => nomatch ha), (fun j a hj => by simp at hj)⟩ hge
    · simp only [List.mem_cons, List.not_mem_nil, or_false] at hc
      rcases hc with q | q | q | q | q
      · rw [q]; exact Nat.lt_succ_of_lt (there z (by simp))
      · rw [q]; exact Nat.lt_succ_of_lt (there TO (by simp))
      · rw [q]; exact Nat.lt_succ_of_lt (there i1 (by simp))
      · rw [q]; exact Nat.lt_succ_of_lt (there i2 (by simp))
      · rw [q]; exact Nat.lt_succ_self _
    · exact ⟨rfl, hQ h' tk' acc c as (fun b o hb e => hk' b o (fun q => by
        rcases List.mem_cons.mp q with q | q
        · rw [q] at e; exact absurd (Heap.lt_size e) (Nat.lt_irrefl _)
        · exact hb q) e) hS' hlen hG hacc⟩
  refine ⟨⟨_, hS, rfl⟩, PySem.F.args_list_init_2 _ _, ?_⟩
  show wpAny _ _ (do let old ← Builtin.List.listItems (.ref s.heap.objs.size); Builtin.List.listUpdate (.ref s.heap.objs.size) (fun _ => #[]); letGo old.toList.reverse; Builtin.List.listExtendWith (.ref s.heap.objs.size) (.ref z) .none) _ _ _
  refine wpAny_bind ?_
  unfold Builtin.List.listItems
  refine wpAny_bind (wpAny_seqItems hS rfl (wpAny_pure ?_))
  show wpAny _ _ (updateSeq s.heap.objs.size (fun _ => #[]) >>= fun _ => letGo (#[] : Array Value).toList.reverse >>= fun _ => Builtin.List.listExtendWith (.ref s.heap.objs.size) (.ref z) .none) _ _ _
  refine wpAny_bind (wpAny_updateSeq hS rfl ?_)
  have hS₂ := Heap.get?_update_self (Obj.mapSeq (fun _ => (#[] : Array Value))) hS rfl
  have oth : ∀ b o, b ≠ s.heap.objs.size → (s.heap.push { cls := .type "list", data := .seq #[] }).get? b = some o → ((s.heap.push { cls := .type "list", data := .seq #[] }).update s.heap.objs.size (Obj.mapSeq (fun _ => (#[] : Array Value)))).get? b = some o :=
    fun b o hb e => (Heap.get?_update_other _ _ (Ne.symm hb)).trans e
  refine wpAny_bind (wpAny_letGo ?_)
  have hz2 := oth _ _ (zS z (by simp)) (Heap.get?_push_of_some _ hz)
  unfold Builtin.List.listExtendWith
  refine wpAny_bind (wpAny_typeOf (T := "zip") ⟨_, hz2, rfl⟩ ?_)
  have e1 : Builtin.List.listSameRef (.ref s.heap.objs.size) (.ref z) = false := by simp [Builtin.List.listSameRef, Ne.symm (zS z (by simp))]
  have e2 : (Value.type "zip" == Value.type "list") = false := by decide
  have e3 : (Value.type "zip" == Value.type "tuple") = false := by decide
  simp only [e1, e2, e3, Bool.or_false, Bool.false_eq_true, if_false]
  refine wpAny_bind (wpAny_pyIter_zip hz2 ?_)
  refine wpAny_bind (wpAny_holding (zip_room ⟨_, hz2, rfl⟩ ?_))
  refine wpAny_ite_split (fun _ => ?_) (fun hab => absurd rfl hab)
  refine wpAny_bind (wpAny_rule ?_)
  refine wpAny_bind ?_
  show wpAny _ _ (updateSeq s.heap.objs.size (·.push .none) >>= fun _ => updateSeq s.heap.objs.size (·.pop)) _ _ _
  refine wpAny_bind (wpAny_updateSeq hS₂ rfl ?_)
  have hS₃ := Heap.get?_update_self (Obj.mapSeq (·.push Value.none)) hS₂ rfl
  refine wpAny_updateSeq (hz := by seq_fits) hS₃ rfl ?_
  have hS₄ := Heap.get?_update_self (Obj.mapSeq (·.pop)) hS₃ rfl
  refine wpAny_pure ⟨plainId_quiet PySem.F.plain_extend_loop _, key _ _ _ (fun b o hb e => ?_) hS₄ ?_⟩
  · exact (Heap.get?_update_other _ _ (Ne.symm hb)).trans ((Heap.get?_update_other _ _ (Ne.symm hb)).trans (oth b o hb e))
  · exact Nat.succ_le_of_lt (Heap.lt_size hS₄)
end
end
end Lr
namespace Lr
open PySem PySem.Spec PyProof.Rows L2 RZ
def putP : Hp → List Addr → List (V × V) → Hp
  | H, a :: as, p :: ps => putP (upd H a (.tup [p.1, p.2])) as ps
  | H, _, _ => H
theorem putP_off {b : Addr} : ∀ (as : List Addr) (ps : List (V × V)) (H : Hp), b ∉ as → putP H as ps b = H b
  | [], _, _, _ => rfl
  | _ :: _, [], _, _ => rfl
  | a :: as, p :: ps, H, h => by
    rw [putP, putP_off as ps _ fun q => h (List.mem_cons_of_mem _ q)]
    exact upd_ne fun q => h (by rw [q]; exact List.mem_cons_self)
theorem putP_at : ∀ (as : List Addr) (ps : List (V × V)) (H : Hp), as.length = ps.length → as.Nodup → Paired (fun (t : Addr) (p : V × V) => putP H as ps t = some (.tup [p.1, p.2])) as ps
  | [], [], _, _, _ => .nil
  | [], _ :: _, _, h, _ => by cases h
  | _ :: _, [], _, h, _ => by cases h
  | a :: as, p :: ps, H, h, hn => by
    obtain ⟨n1, n2⟩ := List.nodup_cons.mp hn
    refine .cons ?_ (putP_at as ps (upd H a (.tup [p.1, p.2])) (Nat.succ.inj h) n2)
    rw [putP, putP_off as ps _ n1]
    exact upd_same
theorem Vals.zipAt {xs ys : List V} {us vs : List Value} (r : Vals xs us) (r' : Vals ys vs) {j : Nat} {p : V × V} {x y : Value} (h : (xs.zip ys)[j]? = some p) (hx : us.toArray[j]? = some x) (hy : vs.toArray[j]? = some y) : RelV p.1 x ∧ RelV p.2 y := by
  obtain ⟨e1, e2⟩ := List.getElem?_zip_eq_some.mp h
  obtain ⟨u, hu, ru⟩ := r.get e1
  obtain ⟨v, hv, rv⟩ := r'.get e2
  have hx' : us[j]? = some x := by simpa using hx
  have hy' : vs[j]? = some y := by simpa using hy
  rw [hu] at hx'
  rw [hv] at hy'
  cases hx'
  cases hy'
  exact ⟨ru, rv⟩
/-- a list of new pairs -/
def rLz (K : PySem.W.Frag) : V → V → Hp → VK → Prop := fun x y H Q => ∃ (a b : Addr) (xs ys : List V), x = .ref a ∧ y = .ref b ∧ SqT K H a xs ∧ SqT K H b ys ∧ xs.length = ys.length ∧
  ∀ (H' : Hp) (p : Addr) (ts : List Addr), (∀ b o, H b = some o → H' b = some o) → H p = none → (∀ t ∈ ts, H t = none) → p ∉ ts → H' p = some (.lst (ts.map V.ref)) → Paired (fun (t : Addr) (q : V × V) => H' t = some (.tup [q.1, q.2])) ts (xs.zip ys) → Q (.ref p) H'
section
variable {X : Cx}
theorem pairs_laid {pins : List (Addr × Obj)} {σ : L2.St} {H : Hp} {s : Shared} {h' : Heap} {tk : Nat} {xs ys : List V} {us vs : List Value} {acc : Array Value} {c : Nat} {as : List Addr} {S : Addr} (I : Inv X pins σ H s) (hz : xs.length ≤ sizeLine) (rx : Vals xs us) (ry : Vals ys vs) (hlen : xs.length = ys.length)
    (hk : ∀ b o, s.heap.get? b = some o → h'.get? b = some o) (hSl : s.heap.objs.size ≤ S) (hS : h'.get? S = some { cls := .type "list", dict := none, data := .seq acc c, slots := #[] }) (hl : as.length = xs.length) (hG : Zg us.toArray vs.toArray (S + 1) h' as) (hacc : acc.toList = as.map Value.ref) :
    ∃ H' : Hp, (∀ b o, H b = some o → H' b = some o) ∧ H S = none ∧ (∀ t ∈ as, H t = none) ∧ S ∉ as ∧ H' S = some (.lst (as.map V.ref)) ∧ Paired (fun (t : Addr) (q : V × V) => H' t = some (.tup [q.1, q.2])) as (xs.zip ys) ∧ Inv X pins σ H' { s with heap := h', toks := tk } := by
  have lz : (xs.zip ys).length = xs.length := by rw [List.length_zip]; omega
  have ge : ∀ t ∈ as, S < t := fun t ht => hG.above t ht
  have hSn : S ∉ as := fun q => Nat.lt_irrefl _ (ge _ q)
  have nd : as.Nodup := List.Pairwise.imp (fun {a b} (h : a < b) => Nat.ne_of_lt h) hG.rise
  have new : ∀ t ∈ as, H t = none := fun t ht => I.hok.fresh (Nat.le_trans hSl (Nat.le_of_lt (ge t ht)))
  have newS : H S = none := I.hok.fresh hSl
  have atP := putP_at as (xs.zip ys) (upd H S (.lst (as.map V.ref))) (by omega) nd
  have off : ∀ b, b ∉ as → b ≠ S → putP (upd H S (.lst (as.map V.ref))) as (xs.zip ys) b = H b := fun b n1 n2 => by rw [putP_off as _ _ n1, upd_ne n2]
  have low : ∀ b o, s.heap.get? b = some o → b ∉ as ∧ b ≠ S := fun b o e => ⟨fun q => Nat.lt_irrefl _ (Nat.lt_of_lt_of_le (Nat.lt_trans (Nat.lt_of_lt_of_le (Heap.lt_size e) hSl) (ge b q)) (Nat.le_refl _)), Nat.ne_of_lt (Nat.lt_of_lt_of_le (Heap.lt_size e) hSl)⟩
  have kp : ∀ b u, H b = some u → (putP (upd H S (.lst (as.map V.ref))) as (xs.zip ys)) b = some u := fun b u e => by
    rw [off b (fun q => by rw [new b q] at e; cases e) (fun q => by rw [q, newS] at e; cases e)]
    exact e
  have eS : putP (upd H S (.lst (as.map V.ref))) as (xs.zip ys) S = some (.lst (as.map V.ref)) := by rw [putP_off as _ _ hSn, upd_same]
  refine ⟨_, kp, newS, new, hSn, eS, atP, I.call' (ch := []) rfl ⟨fun b o q _ _ _ => hk b o q, fun b o q _ _ _ => ⟨o.slots, hk b o q⟩, fun b o q n _ => ?_, fun b o q _ => ⟨o, hk b o q⟩, fun b xs q => kp b _ q, fun b o u q => kp b _ q, fun b ps q => ⟨#[], by rw [kp b _ q]; simp⟩⟩ (fun b u q => ?_) I.bare fun b q => by simp at q⟩
  · obtain ⟨n1, n2⟩ := low b o q
    rw [off b n1 n2]
    exact n
  · by_cases hb : b ∈ as
    · obtain ⟨j, pk, e1, e2, e3⟩ := LiI.paired_ix atP hb
      rw [e3] at q
      cases q
      obtain ⟨x, y, f1, f2, f3⟩ := hG.pairs j b e1
      obtain ⟨ra, rb⟩ := Vals.zipAt rx ry e2 f1 f2
      exact ⟨by show 2 ≤ sizeLine; decide, [x, y], .cons ra (.cons rb .nil), ⟨_, f3, rfl, _, rfl⟩⟩
    · by_cases hb2 : b = S
      · rw [hb2] at q ⊢
        rw [eS] at q
        cases q
        refine ⟨by rw [List.length_map]; omega, acc.toList, c, by rw [hacc]; exact LiI.vals_refs as, ?_⟩
        rw [Array.toArray_toList]
        exact hS
      · rw [off b hb hb2] at q
        exact (I.hok b u q).stay (fun d v _ y => hk d v y) (fun d y => kp d _ y) fun d xs y => kp d _ y
theorem pe_listzip {e e2 : Expr} {ta : TA} {p p2 pos pos2 : Pos} (hc : X.calm = true) (hg : Gl X "list") (hm : X.mg "list" = none) (hg2 : Gl X "zip") (hm2 : X.mg "zip" = none) (ha : PA X [e, e2] ta)
    (hs : starEach [e, e2] X.env = (false, eval e X.env) :: starEach [e2] X.env) (hpl : (backTo pos2 (starEach [e2] X.env)).any (·.1) = false)
    (hs2 : starEach [.Call (.Name "zip" p2) [e, e2] [] pos2] X.env = (false, eval (.Call (.Name "zip" p2) [e, e2] [] pos2) X.env) :: starEach [] X.env) :
    PE X (.Call (.Name "list" p) [.Call (.Name "zip" p2) [e, e2] [] pos2] [] pos) (fun σ H Q => ta σ H fun vs H1 => ∃ x y, vs = [x, y] ∧ rLz X.K x y H1 Q) := by
  refine ⟨fun pins s σ H Q I h => ?_⟩
  refine Call_ (ld_blt I hg hm PyProof.Rows.boot_list ?_)
  refine PyProof.Rows.callWith_type1 (PyProof.Rows.args_cons ?_ hs2) hs2 rfl
  refine Call_ (ld_blt I hg2 hm2 PyProof.Rows.boot_zip (PyProof.Rows.callWith_type1 (thn (ha.run pos2 pins s σ H _ I h) fun us s1 ⟨vs, H1, I1, r1, q1⟩ => ?_) hs hpl))
  obtain ⟨x, y, rfl, a, b, xs, ys, rfl, rfl, hqx, hqy, hlen, q1⟩ := q1
  cases r1 with
  | cons r rr =>
    cases rr with
    | cons r' rr =>
      cases rr
      cases r
      cases r'
      obtain ⟨its, rv, p1, hzl⟩ := I1.tuple hqx
      obtain ⟨its2, rv2, p2, _⟩ := I1.tuple hqy
      obtain ⟨o1, ho1, _⟩ := id p1
      obtain ⟨o2, ho2, _⟩ := id p2
      have i1 : s1.heap.IsTuple a its.toArray := p1
      have i2 : s1.heap.IsTuple b its2.toArray := p2
      refine call_zipT i1 i2 fun h0 hz hTI hTO h1 h2 hsz hk => ?_
      refine PyProof.Rows.args_nil ?_
      have lx := rv.length
      have ly := rv2.length
      refine zl_call (s := { s1 with heap := h0 }) (I1.ok.hd hc) (PySem.W.ktu_apart s1.heap.objs.size a b (Heap.lt_size ho1) (Heap.lt_size ho2)) (xs := its.toArray) (ys := its2.toArray) (by simp only [List.size_toArray]; omega) (by simp only [List.size_toArray]; omega) hz hTI hTO h1 h2
        (by obtain ⟨o, e, r⟩ := i1; exact ⟨o, hk _ _ e, r⟩) (by obtain ⟨o, e, r⟩ := i2; exact ⟨o, hk _ _ e, r⟩) fun h' tk acc c as hk' hS hl hG hacc => ?_
      dsimp only at hk' hS hG ⊢
      have hk2 : ∀ b o, s1.heap.get? b = some o → h'.get? b = some o := fun b o e => hk' b o (fun q => by
        have hb := Heap.lt_size e
        simp only [List.mem_cons, List.not_mem_nil, or_false] at q
        rcases q with q | q | q | q
        · rw [q] at hb; exact absurd hb (Nat.not_lt.mpr (Nat.le_add_right _ _))
        · rw [q] at hb; exact absurd hb (Nat.not_lt.mpr (Nat.le_add_right _ _))
        · rw [q] at hb; exact absurd hb (Nat.lt_irrefl _)
        · rw [q] at hb; exact absurd hb (Nat.not_lt.mpr (Nat.le_add_right _ _))) (hk b o e)
      obtain ⟨H', k1, k2, k3, k4, k5, k6, J⟩ := pairs_laid (tk := tk) (S := h0.objs.size) I1 hzl rv rv2 hlen hk2 (by rw [hsz]; exact Nat.le_add_right _ _) hS (by rw [hl, List.size_toArray]; omega) hG hacc
      exact ⟨.ref _, H', J, rfl, q1 H' _ as k1 k2 k3 k4 k5 k6⟩
/-- many new objects -/
theorem Core.news {z : Cz} {C H H' : Hp} (c : Core z C H) (N : Addr → Prop) (hn : ∀ a, N a → H a = none) (ex : Ex H H') : ∃ C', Gw z C H C' H' ∧ ∀ a, N a → C' a = H' a := by
  classical
  refine ⟨fun a => if N a then H' a else C a, ⟨fun a o h => ?_, fun a o h => ?_, fun a o _ h => ex a o h, fun a h n => ?_, z.keep _ _ c.ok ex⟩, fun a h => if_pos h⟩
  · rw [if_neg fun q => by have e := hn a q; rw [c.ch a o h] at e; cases e]
    exact h
  · by_cases q : N a
    · rw [if_pos q] at h; exact h
    · rw [if_neg q] at h; exact ex _ _ (c.ch a o h)
  · by_cases q : N a
    · exact hn a q
    · rw [if_neg q] at h; exact absurd n h
def zipD (ds es : List PyData) : List PyData := (ds.zip es).map fun p => .tuple [p.1, p.2]
def fLz : F2
  | .tuple ds, .tuple es, P => ds.length = es.length ∧ P (.list (zipD ds es))
  | _, _, _ => False
theorem rp_pairs {C : Hp} : ∀ {ts : List Addr} {xs ys : List V} {ds es : List PyData}, RpA C xs ds → RpA C ys es → Paired (fun (t : Addr) (q : V × V) => C t = some (.tup [q.1, q.2])) ts (xs.zip ys) → RpA C (ts.map V.ref) (zipD ds es)
  | ts, _, _, _, _, .nil, _, h => by
    rw [List.zip_nil_left] at h
    cases h
    exact .nil
  | ts, _, _, _, _, .cons _ _, .nil, h => by
    rw [List.zip_nil_right] at h
    cases h
    exact .nil
  | ts, _, _, _, _, .cons r1 t1, .cons r2 t2, h => by
    rw [List.zip_cons_cons] at h
    cases h with
    | cons h1 h2 => exact .cons (.tup h1 (.cons r1 (.cons r2 .nil))) (rp_pairs t1 t2 h2)
theorem je_listzip {z : Cz} {a b : Expr} {wa wb : WE} {p p2 pos pos2 : Pos} (hc : X.calm = true) (hg : Gl X "list") (hm : X.mg "list" = none) (hg2 : Gl X "zip") (hm2 : X.mg "zip" = none) (ha : PE X a (lE z wa)) (hb : PE X b (lE z wb))
    (hs0 : starEach [b] X.env = (false, eval b X.env) :: starEach [] X.env := by rfl) (hs : starEach [a, b] X.env = (false, eval a X.env) :: starEach [b] X.env := by rfl) (hpl : (backTo pos2 (starEach [b] X.env)).any (·.1) = false := by rfl)
    (hs2 : starEach [.Call (.Name "zip" p2) [a, b] [] pos2] X.env = (false, eval (.Call (.Name "zip" p2) [a, b] [] pos2) X.env) :: starEach [] X.env := by rfl) :
    PE X (.Call (.Name "list" p) [.Call (.Name "zip" p2) [a, b] [] pos2] [] pos) (lE z (w2 fLz wa wb)) := by
  refine (pe_listzip hc hg hm hg2 hm2 (pa_cons ha (pa_cons hb pa_nil hs0) hs) hs hpl hs2).by fun σ H Q ⟨C, ρ, P, c, er, w, k⟩ => ?_
  refine ⟨C, ρ, _, c, er, w, fun d v C1 H1 p1 g1 rv => ⟨C1, ρ, _, c.gw g1, er.gw g1, p1, fun d2 v2 C2 H2 p2 g2 rv2 => ⟨v, v2, rfl, ?_⟩⟩⟩
  cases d with
  | tuple ds =>
    cases d2 with
    | tuple es =>
      cases rv with
      | @tup q1 xs _ h1 h2 =>
        cases rv2 with
        | @tup q2 ys _ h3 h4 =>
          have c2 := (c.gw g1).gw g2
          refine ⟨q1, q2, xs, ys, rfl, rfl, SqT.of (c2.ch _ _ (g2.cc _ _ h1)), SqT.of (c2.ch _ _ h3), by rw [h2.len, h4.len, p2.1], fun H' pn ts k1 k2 k3 k4 k5 k6 => ?_⟩
          obtain ⟨C', gw, hC⟩ := c2.news (fun a => a = pn ∨ a ∈ ts) (fun a q => by rcases q with q | q; exact q ▸ k2; exact k3 a q) k1
          refine k _ _ C' H' p2.2 ((g1.tr g2).tr gw) (.lst ((hC pn (.inl rfl)).trans k5) (rp_pairs ((h2.up g2.cc).up gw.cc) (h4.up gw.cc) ?_))
          have all : ∀ {l : List Addr} {m : List (V × V)}, (∀ t ∈ l, t ∈ ts) → Paired (fun (t : Addr) (q : V × V) => H' t = some (.tup [q.1, q.2])) l m → Paired (fun (t : Addr) (q : V × V) => C' t = some (.tup [q.1, q.2])) l m := fun {l m} hm hp => by
            induction hp with
            | nil => exact .nil
            | cons r _ ih => exact .cons ((hC _ (.inr (hm _ List.mem_cons_self))).trans r) (ih fun t ht => hm t (List.mem_cons_of_mem _ ht))
          exact all (fun t h => h) k6
    | _ => exact p2.elim
  | _ => cases d2 <;> exact p2.elim
end
end Lr
namespace Lr
open PySem PySem.Spec PyProof.Rows L2
section
variable {P : Program} {w : World} {A : Around} {E : Value → Shared → Prop} {s : Shared}
abbrev set0 (w : World) : Obj := { cls := .type "set", dict := none, data := .set #[] 0 (.fresh 0 0 (!w.params.followText "set-order")) }
/-- a list or a tuple with these items -/
def Seq2 (h : Heap) (l : Addr) (items : Array Value) : Prop := h.IsList l items ∨ h.IsTuple l items
theorem Seq2.at {h h' : Heap} {l : Addr} {items : Array Value} (q : Seq2 h l items) (k : ∀ o, h.get? l = some o → h'.get? l = some o) : Seq2 h' l items :=
  q.imp (fun ⟨o, e, r⟩ => ⟨o, k o e, r⟩) (fun ⟨o, e, r⟩ => ⟨o, k o e, r⟩)
theorem Seq2.lt {h : Heap} {l : Addr} {items : Array Value} (q : Seq2 h l items) : l < h.objs.size := by
  rcases q with ⟨o, e, _⟩ | ⟨o, e, _⟩ <;> exact Heap.lt_size e
/-- the loop of set.update, its sense the caller's -/
theorem set_turns {S I : Addr} {items : Array Value} {R : Result → Shared → Prop} (fp wr : List Addr) {St : Nat → Heap → Prop} (W : Walks P w A.in1 I fp wr items.size (fun i v => items[i]? = some v) St) (hSf : S ∉ fp) (Inv : Nat → Heap → Prop)
    (keep : ∀ i h h', Inv i h → (∀ b o, b ∉ wr → h.get? b = some o → h'.get? b = some o) → Inv i h')
    (add : ∀ i x (s : Shared) (Q : Bool → Shared → Prop) E, items[i]? = some x → Inv i s.heap → (∀ b h' tk, s.toks ≤ tk → Inv (i + 1) h' → Heap.SameBut S s.heap h' → Q b { s with heap := h', toks := tk }) → wpAny (model P w) A.in1 (setAdd S x) Q E s)
    (sh : Shared) (hR : ∀ h' tk, Inv items.size h' → (∀ b o, b ∉ S :: wr → sh.heap.get? b = some o → h'.get? b = some o) → R (.ok (.ret .none)) { sh with heap := h', toks := tk }) :
    ∀ (k i : Nat) (h : Heap) (tk : Nat), items.size - i = k → i ≤ items.size → St i h → Inv i h → (∀ b o, b ∉ S :: wr → sh.heap.get? b = some o → h.get? b = some o) →
      codeAny (model P w) A (.builtin "set.update.loop" ⟨[.ref S, .ref I], []⟩) R { sh with heap := h, toks := tk } := by
  have hSw : ∀ b, b ∈ wr → b ≠ S := fun b hb q => hSf (W.sub _ (q ▸ hb))
  intro k
  induction k with
  | zero =>
    intro i h tk hk hi st inv old
    have e : i = items.size := by omega
    subst e
    refine codeAny_builtin F.entry_set_update_loop ?_
    rw [Around.under_plainId F.plain_set_update_loop _]
    show wpAny _ A.in1 (pyNext (.ref I) >>= _) _ _ _
    refine wpAny_bind (W.done { sh with heap := h, toks := tk } _ _ st fun h' tk' kp => ?_)
    exact wpAny_pure (hR h' tk' (keep _ _ _ inv kp) fun b o hb e => kp b o (fun q => hb (List.mem_cons_of_mem _ q)) (old b o hb e))
  | succ k ih =>
    intro i h tk hk hi st inv old
    have lt : i < items.size := by omega
    refine codeAny_builtin F.entry_set_update_loop ?_
    rw [Around.under_plainId F.plain_set_update_loop _]
    show wpAny _ A.in1 (pyNext (.ref I) >>= _) _ _ _
    refine wpAny_bind (W.item i { sh with heap := h, toks := tk } _ _ lt st fun v h' tk' hv st' kp => ?_)
    show wpAny _ A.in1 (holding [v] (setAdd S v) >>= _) _ _ _
    refine wpAny_bind (wpAny_holding (add i v _ _ _ hv (keep _ _ _ inv kp) fun b h2 tk2 _ inv2 sb => ?_))
    refine wpAny_pure ⟨plainId_quiet F.plain_set_update_loop _, ih (i + 1) h2 tk2 (by omega) lt (W.frame _ _ _ st' fun b hb o e => ?_) inv2 fun b o hb e => ?_⟩
    · rw [sb.2 b fun q => hSf (q ▸ hb)]; exact e
    · rw [sb.2 b fun q => hb (by rw [q]; exact List.mem_cons_self)]
      exact kp b o (fun q => hb (List.mem_cons_of_mem _ q)) (old b o hb e)
theorem upd_list {l S : Addr} {items : Array Value} {Q : Unit → Shared → Prop} (hh : A.handled = none) (hl : s.heap.IsList l items) (Inv : Nat → Heap → Prop) (hlS : l ≠ S) (hSs : S < s.heap.objs.size)
    (i0 : Inv 0 s.heap) (keep : ∀ i h h', Inv i h → (∀ b o, b ≠ s.heap.objs.size → h.get? b = some o → h'.get? b = some o) → Inv i h')
    (add : ∀ i x (s : Shared) (Q : Bool → Shared → Prop) E, items[i]? = some x → Inv i s.heap → (∀ b h' tk, s.toks ≤ tk → Inv (i + 1) h' → Heap.SameBut S s.heap h' → Q b { s with heap := h', toks := tk }) → wpAny (model P w) A.in1 (setAdd S x) Q E s)
    (hQ : ∀ h' tk, Inv items.size h' → (∀ b o, b ≠ S → s.heap.get? b = some o → h'.get? b = some o) → Q () { s with heap := h', toks := tk }) :
    wpAny (model P w) A (Builtin.Frozenset.updateFrom "set.__init__" S (.ref l)) Q E s := by
  have hT := hl.typeIs
  have f1 := F.sub_list_set
  have f2 := F.sub_list_frozenset
  have f3 : (Value.type "list" == Value.type "dict") = false := by decide
  unfold Builtin.Frozenset.updateFrom
  generalize hPI : pyIter = PI
  wp_walk
  subst hPI
  refine wpAny_pyIter_list hl (wpAny_bind (wpAny_runValue ?_))
  have lI : l ≠ s.heap.objs.size := Nat.ne_of_lt (by obtain ⟨o, e, _⟩ := hl; exact Heap.lt_size e)
  refine set_turns (S := S) (I := s.heap.objs.size) [s.heap.objs.size, l] [s.heap.objs.size] (Walks.list (prog := P) (w := w) (A := A.in1) (by simp [hh]) _ l lI items) (fun q => ?_) Inv (fun i h h' iv kp => keep i h h' iv fun b o hb e => kp b o (fun q => hb (List.mem_singleton.mp q)) e) add { s with heap := s.heap.push { cls := .type "list_iterator", data := .fields #[.ref l, .int 0 0] } } (fun h' tk iv kp => ?_) (items.size - 0) 0 _ _ rfl (Nat.zero_le _) ⟨⟨_, Heap.get?_push_size _ rfl, rfl, rfl⟩, hl.push _⟩ (keep 0 _ _ i0 fun b o _ e => Heap.get?_push_of_some _ e) (fun b o _ e => e)
  · rcases List.mem_cons.mp q with q | q
    · exact absurd hSs (by rw [q]; exact Nat.lt_irrefl _)
    · exact hlS (List.mem_singleton.mp q).symm
  · refine wpAny_pure (hQ h' tk iv fun b o hb e => kp b o (fun q => ?_) (Heap.get?_push_of_some _ e))
    rcases List.mem_cons.mp q with q | q
    · exact hb q
    · exact absurd (Heap.lt_size e) (by rw [List.mem_singleton.mp q]; exact Nat.lt_irrefl _)
theorem upd_tuple {l S : Addr} {items : Array Value} {Q : Unit → Shared → Prop} (hh : A.handled = none) (hl : s.heap.IsTuple l items) (Inv : Nat → Heap → Prop) (hlS : l ≠ S) (hSs : S < s.heap.objs.size)
    (i0 : Inv 0 s.heap) (keep : ∀ i h h', Inv i h → (∀ b o, b ≠ s.heap.objs.size → h.get? b = some o → h'.get? b = some o) → Inv i h')
    (add : ∀ i x (s : Shared) (Q : Bool → Shared → Prop) E, items[i]? = some x → Inv i s.heap → (∀ b h' tk, s.toks ≤ tk → Inv (i + 1) h' → Heap.SameBut S s.heap h' → Q b { s with heap := h', toks := tk }) → wpAny (model P w) A.in1 (setAdd S x) Q E s)
    (hQ : ∀ h' tk, Inv items.size h' → (∀ b o, b ≠ S → s.heap.get? b = some o → h'.get? b = some o) → Q () { s with heap := h', toks := tk }) :
    wpAny (model P w) A (Builtin.Frozenset.updateFrom "set.__init__" S (.ref l)) Q E s := by
  have hT := hl.typeIs
  have f1 := F.sub_tuple_set
  have f2 := F.sub_tuple_frozenset
  have f3 : (Value.type "tuple" == Value.type "dict") = false := by decide
  unfold Builtin.Frozenset.updateFrom
  generalize hPI : pyIter = PI
  wp_walk
  subst hPI
  refine wpAny_pyIter_tuple hl (wpAny_bind (wpAny_runValue ?_))
  have lI : l ≠ s.heap.objs.size := Nat.ne_of_lt (by obtain ⟨o, e, _⟩ := hl; exact Heap.lt_size e)
  refine set_turns (S := S) (I := s.heap.objs.size) [s.heap.objs.size, l] [s.heap.objs.size] (Walks.tuple (prog := P) (w := w) (A := A.in1) (by simp [hh]) _ l lI items) (fun q => ?_) Inv (fun i h h' iv kp => keep i h h' iv fun b o hb e => kp b o (fun q => hb (List.mem_singleton.mp q)) e) add { s with heap := s.heap.push { cls := .type "tuple_iterator", data := .fields #[.ref l, .int 0 0] } } (fun h' tk iv kp => ?_) (items.size - 0) 0 _ _ rfl (Nat.zero_le _) ⟨⟨_, Heap.get?_push_size _ rfl, rfl, rfl⟩, hl.push _⟩ (keep 0 _ _ i0 fun b o _ e => Heap.get?_push_of_some _ e) (fun b o _ e => e)
  · rcases List.mem_cons.mp q with q | q
    · exact absurd hSs (by rw [q]; exact Nat.lt_irrefl _)
    · exact hlS (List.mem_singleton.mp q).symm
  · refine wpAny_pure (hQ h' tk iv fun b o hb e => kp b o (fun q => ?_) (Heap.get?_push_of_some _ e))
    rcases List.mem_cons.mp q with q | q
    · exact hb q
    · exact absurd (Heap.lt_size e) (by rw [List.mem_singleton.mp q]; exact Nat.lt_irrefl _)
set_option maxHeartbeats 8000000 in
/-- set(v) -/
theorem set_from {l : Addr} {items : Array Value} {Q : Value → Shared → Prop} (hh : A.handled = none) (hq : Seq2 s.heap l items) (Inv : Nat → Heap → Prop)
    (i0 : ∀ h, h.get? s.heap.objs.size = some (set0 w) → (∀ b o, s.heap.get? b = some o → h.get? b = some o) → Inv 0 h)
    (keep : ∀ i h h', Inv i h → (∀ b o, b ≠ s.heap.objs.size + 1 → h.get? b = some o → h'.get? b = some o) → Inv i h')
    (add : ∀ i x (s1 : Shared) (Q : Bool → Shared → Prop) E, items[i]? = some x → Inv i s1.heap → (∀ b h' tk, s1.toks ≤ tk → Inv (i + 1) h' → Heap.SameBut s.heap.objs.size s1.heap h' → Q b { s1 with heap := h', toks := tk }) → wpAny (model P w) A.in1.in1.in1 (setAdd s.heap.objs.size x) Q E s1)
    (hQ : ∀ h' tk, Inv items.size h' → (∀ b o, s.heap.get? b = some o → h'.get? b = some o) → Q (.ref s.heap.objs.size) { s with heap := h', toks := tk }) :
    wpAny (model P w) A (call (.type "set") [.ref l]) Q E s := by
  obtain ⟨c, tl, hmro⟩ := F.called_set.mro
  have hmade := F.called_set.made
  have hsub := F.called_set.sub
  refine wpAny_call (codeAny_of_tree ?_)
  show wpAny _ _ (callAny (.type "set") _) _ _ _
  refine wpAny_pure ⟨Code.quiet_builtin _ (by decide +kernel), codeAny_builtin F.entry_type_call ?_⟩
  rw [Around.under_plain (weight_type_call_type "set" [.ref l] []) rfl]
  have f1 := F.called_set.notType
  have f2 := F.called_set.canCreate
  have f3 := F.typeCall_set_1 (.ref l)
  repeat (any_goals (first | assumption | wp_step))
  refine codeAny_mono (code_set_led1 (.ref l) (E := E) (Q₁ := fun obj s₁ => obj = .ref s.heap.objs.size ∧ s₁ = { s with heap := s.heap.push (set0 w) }) ⟨rfl, rfl⟩) fun r s₁ hr => ?_
  cases r with
  | error e => exact hr
  | ok fl =>
    cases fl with
    | ret obj =>
      obtain ⟨rfl, rfl⟩ := hr
      have hS : (s.heap.push (set0 w)).get? s.heap.objs.size = some (set0 w) := Heap.get?_push_size _ rfl
      have hT : Shared.TypeIs { s with heap := s.heap.push (set0 w) } (.ref s.heap.objs.size) "set" := ⟨_, hS, rfl⟩
      have g1 := F.called_set.init.lookup
      have g2 := F.called_set.init.bind (.ref s.heap.objs.size)
      repeat (any_goals (first | assumption | wp_step))
      refine codeAny_mono (codeAny_call_builtin (R := wants (fun r s₂ => r = .none ∧ ∃ h' tk, s₂ = { s with heap := h', toks := tk } ∧ Inv items.size h' ∧ (∀ b o, s.heap.get? b = some o → h'.get? b = some o)) E) F.called_set.init.plain F.entry_set_init (check_set_init_1 hT ?_)) fun r₂ s₂ hr₂ => ?_
      · have hup : ∀ b o, s.heap.get? b = some o → (s.heap.push (set0 w)).get? b = some o := fun b o e => Heap.get?_push_of_some _ e
        have hsz : (s.heap.push (set0 w)).objs.size = s.heap.objs.size + 1 := Heap.size_push ..
        have end_ : ∀ {Ev : Value → Shared → Prop} {Qv : Unit → Shared → Prop}, (∀ h' tk, Inv items.size h' → (∀ b o, s.heap.get? b = some o → h'.get? b = some o) → Qv () { s with heap := h', toks := tk }) →
            wpAny (model P w) A.in1.in1 (Builtin.Frozenset.updateFrom "set.__init__" s.heap.objs.size (.ref l)) Qv Ev { s with heap := s.heap.push (set0 w) } := fun {Ev Qv} q => by
          have lt : l ≠ s.heap.objs.size := Nat.ne_of_lt hq.lt
          have lS : s.heap.objs.size < (s.heap.push (set0 w)).objs.size := by rw [hsz]; exact Nat.lt_succ_self _
          have k2 : ∀ i h h', Inv i h → (∀ b o, b ≠ (s.heap.push (set0 w)).objs.size → h.get? b = some o → h'.get? b = some o) → Inv i h' := by rw [hsz]; exact keep
          have fin : ∀ h' tk, Inv items.size h' → (∀ b o, b ≠ s.heap.objs.size → (s.heap.push (set0 w)).get? b = some o → h'.get? b = some o) → Qv () { s with heap := h', toks := tk } := fun h' tk iv kp => q h' tk iv fun b o e => kp b o (Nat.ne_of_lt (Heap.lt_size e)) (hup b o e)
          have hh2 : A.in1.in1.handled = none := by simp [hh]
          rcases hq with hl | hl
          · exact upd_list hh2 (hl.push _) Inv lt lS (i0 _ hS hup) k2 add fin
          · exact upd_tuple hh2 (by obtain ⟨o, e, r⟩ := hl; exact ⟨o, hup _ _ e, r⟩) Inv lt lS (i0 _ hS hup) k2 add fin
        unfold Builtin.«set.__init__» noKeywords
        generalize hU : Builtin.Frozenset.updateFrom = U at end_
        wp_walk
        exact end_ fun h' tk iv kp => wpAny_pure ⟨rfl, h', tk, rfl, iv, kp⟩
      · cases r₂ with
        | error e => exact hr₂
        | ok fl₂ =>
          cases fl₂ with
          | ret r =>
            obtain ⟨rfl, h', tk, rfl, iv, kp⟩ := hr₂
            repeat (any_goals (first | assumption | wp_step))
            exact hQ _ _ iv kp
          | _ => exact hr₂.elim
    | _ => exact hr.elim
end
end Lr
namespace Lr
open PySem PySem.Spec PyProof.Rows L2
mutual
def noText : NestedKey → Bool
  | .none => true
  | .num _ => true
  | .text _ => false
  | .tup ks => noTexts ks
def noTexts : List NestedKey → Bool
  | [] => true
  | k :: ks => noText k && noTexts ks
end
/-- the tuple at a is this key -/
structure KAt (h : Heap) (k : NestedKey) (a : Addr) : Prop where
  is : NestedIs h k (.ref a)
  dp : k.depth ≤ 8
  nt : noText k = true
section
variable {P : Program} {w : World} {s : Shared}
/-- v is asked with this answer, and nothing else comes of it -/
abbrev Asks (P : Program) (w : World) (s : Shared) (f : Sem Bool) (b : Bool) : Prop := ∀ (A : Around) (E : Value → Shared → Prop) (Q : Bool → Shared → Prop), Q b s → wpAny (model P w) A f Q E s
mutual
theorem cls_key : ∀ (k : NestedKey) (v : Value) (n : Nat), NestedIs s.heap k v → k.depth ≤ n → Asks P w s (ofAClassStatement n v) false
  | .none, _, n, x, _ => by cases x; intro A E Q h; cases n <;> exact wpAny_pure h
  | .num i, _, n, x, _ => by cases x <;> (intro A E Q h; cases n <;> exact wpAny_pure h)
  | .text y, _, n, x, _ => by cases x; intro A E Q h; cases n <;> exact wpAny_pure h
  | .tup ks, _, n, x, hn => by
    cases x with
    | @tup a o vs m _ hg hc hd hk =>
      simp only [NestedKey.depth] at hn
      cases n with
      | zero => omega
      | succ n =>
        intro A E Q h
        unfold ofAClassStatement
        refine wpAny_bind (wpAny_typeOf (T := "tuple") ⟨o, hg, hc⟩ ?_)
        dsimp only
        simp only [show (("tuple" : String) == "tuple") = true from by decide, if_true]
        refine wpAny_bind (wpAny_pure ?_)
        simp only [Bool.not_true, Bool.false_eq_true, if_false]
        refine wpAny_bind (wpAny_seqItems hg hd ?_)
        dsimp only
        refine wpAny_bind ?_
        show wpAny _ _ (forIn vs _ _) _ _ s
        rw [← Array.forIn_toList]
        refine wpAny_forIn_list _ (fun rest r s' => r.1 = none ∧ s' = s ∧ ∀ v ∈ rest, Asks P w s (ofAClassStatement n v) false) _ ?_ ?_ _ _ ⟨rfl, rfl, cls_keys ks _ n hk (by omega)⟩
        · rintro v rest r s' ⟨hr, rfl, all⟩
          refine wpAny_bind (all v List.mem_cons_self _ _ _ ?_)
          simp only [Bool.false_eq_true, if_false]
          exact wpAny_pure ⟨rfl, rfl, fun u hu => all u (List.mem_cons_of_mem _ hu)⟩
        · rintro ⟨r1, r2⟩ s' ⟨hr, rfl, _⟩
          simp only at hr
          subst hr
          exact wpAny_pure h
theorem cls_keys : ∀ (ks : List NestedKey) (vs : List Value) (n : Nat), NestedAll s.heap ks vs → NestedKey.depthAll ks ≤ n → ∀ v ∈ vs, Asks P w s (ofAClassStatement n v) false
  | [], _, n, x, _, v, hv => by cases x; cases hv
  | k :: ks, _, n, x, hn, v, hv => by
    cases x with
    | cons x1 x2 =>
      simp only [NestedKey.depthAll] at hn
      rcases List.mem_cons.mp hv with e | hv
      · rw [e]; exact cls_key k _ n x1 (by omega)
      · exact cls_keys ks _ n x2 (by omega) v hv
end
mutual
theorem byv_key : ∀ (k : NestedKey) (v : Value) (n : Nat), NestedIs s.heap k v → k.depth ≤ n → noText k = true → Asks P w s (hashByValue n v) true
  | .none, _, n, x, _, _ => by cases x; intro A E Q h; cases n <;> exact wpAny_pure h
  | .num i, _, n, x, _, _ => by cases x <;> (intro A E Q h; cases n <;> exact wpAny_pure h)
  | .text y, _, n, x, _, nt => by cases nt
  | .tup ks, _, n, x, hn, nt => by
    cases x with
    | @tup a o vs m _ hg hc hd hk =>
      simp only [NestedKey.depth] at hn
      cases n with
      | zero => omega
      | succ n =>
        intro A E Q h
        unfold hashByValue
        refine wpAny_bind (wpAny_specialOf (T := "tuple") ⟨o, hg, hc⟩ F.slot_tuple_hash.lookup ?_)
        show wpAny _ _ (seqItems? (.ref a) >>= _) _ _ s
        refine wpAny_bind (wpAny_seqItems hg hd ?_)
        refine wpAny_bind ?_
        show wpAny _ _ (forIn vs _ _) _ _ s
        rw [← Array.forIn_toList]
        refine wpAny_forIn_list _ (fun rest r s' => r.1 = none ∧ s' = s ∧ ∀ v ∈ rest, Asks P w s (hashByValue n v) true) _ ?_ ?_ _ _ ⟨rfl, rfl, byv_keys ks _ n hk (by omega) (by simpa only [noText] using nt)⟩
        · rintro v rest r s' ⟨hr, rfl, all⟩
          refine wpAny_bind (all v List.mem_cons_self _ _ _ ?_)
          simp only [Bool.not_true, Bool.false_eq_true, if_false]
          exact wpAny_pure ⟨rfl, rfl, fun u hu => all u (List.mem_cons_of_mem _ hu)⟩
        · rintro ⟨r1, r2⟩ s' ⟨hr, rfl, _⟩
          simp only at hr
          subst hr
          exact wpAny_pure h
theorem byv_keys : ∀ (ks : List NestedKey) (vs : List Value) (n : Nat), NestedAll s.heap ks vs → NestedKey.depthAll ks ≤ n → noTexts ks = true → ∀ v ∈ vs, Asks P w s (hashByValue n v) true
  | [], _, n, x, _, _, v, hv => by cases x; cases hv
  | k :: ks, _, n, x, hn, nt, v, hv => by
    cases x with
    | cons x1 x2 =>
      simp only [NestedKey.depthAll] at hn
      simp only [noTexts, Bool.and_eq_true] at nt
      rcases List.mem_cons.mp hv with e | hv
      · rw [e]; exact byv_key k _ n x1 (by omega) nt.1
      · exact byv_keys ks _ n x2 (by omega) nt.2 v hv
end
theorem KAt.at {h h' : Heap} {k : NestedKey} {a : Addr} (x : KAt h k a) (e : ∀ b o vs n, h.get? b = some o → o.data = .seq vs n → h'.get? b = some o) : KAt h' k a := ⟨NestedIs.at e k _ x.is, x.dp, x.nt⟩
/-- a set written leaves the keys -/
theorem KAt.same {h h' : Heap} {k : NestedKey} {a d : Addr} {o : Obj} {es : Array (Int × Value)} {ep : Nat} {t : SetTable} (x : KAt h k a) (ho : h.get? d = some o) (hd : o.data = .set es ep t) (sb : Heap.SameBut d h h') : KAt h' k a :=
  x.at fun b ob vs n hb hs => (sb.2 b fun q => by rw [q, ho] at hb; cases hb; rw [hd] at hs; cases hs).trans hb
variable {A : Around} {E : Value → Shared → Prop}
theorem KAt.seen {k : NestedKey} {b : Addr} {Q : Bool → Shared → Prop} (x : KAt s.heap k b) {ys : List Value} (hy : ∀ y ∈ ys, ∃ k' c, y = Value.ref c ∧ KAt s.heap k' c) (h : Q false s) : wpAny (model P w) A (searchCouldBeSeen (.ref b) ys) Q E s := by
  have quiet : ∀ {k : NestedKey} {a : Addr}, KAt s.heap k a → Asks P w s (eqIsQuiet 8 (.ref a)) true := fun x => quiet_key _ _ 8 s x.is x.dp
  unfold searchCouldBeSeen
  refine wpAny_bind (wpAny_forIn_list _ (fun rest r s' => r.1 = none ∧ s' = s ∧ ∀ y ∈ rest, ∃ k' c, y = Value.ref c ∧ KAt s.heap k' c) _ ?_ ?_ _ _ ⟨rfl, rfl, hy⟩)
  · rintro v rest r s' ⟨hr, rfl, all⟩
    obtain ⟨k', c, rfl, y⟩ := all v List.mem_cons_self
    have next : ∀ y ∈ rest, ∃ k' c, y = Value.ref c ∧ KAt s'.heap k' c := fun u hu => all u (List.mem_cons_of_mem _ hu)
    dsimp only
    by_cases hv : (b == c || (carriedByValue (.ref b) && carriedByValue (.ref c))) = true
    · exact wp_if_pos hv (wpAny_pure ⟨rfl, rfl, next⟩)
    · refine wp_if_neg hv (wpAny_bind (quiet x _ _ _ ?_))
      simp only [Bool.not_true, Bool.false_eq_true, if_false]
      refine wpAny_bind (quiet y _ _ _ ?_)
      simp only [Bool.not_true, Bool.false_eq_true, if_false]
      refine wpAny_bind (cls_key _ _ 8 x.is x.dp _ _ _ ?_)
      simp only [Bool.false_eq_true, if_false]
      refine wpAny_bind (cls_key _ _ 8 y.is y.dp _ _ _ ?_)
      simp only [Bool.false_eq_true, if_false]
      exact wpAny_pure ⟨rfl, rfl, next⟩
  · rintro ⟨r1, r2⟩ s' ⟨hr, rfl, _⟩
    simp only at hr
    subst hr
    exact wpAny_pure h
abbrev kh (w : World) (k : NestedKey) : Int := NestedKey.hash w k
abbrev keyRow (w : World) (p : Addr × NestedKey) : Int × Value := (kh w p.2, Value.ref p.1)
/-- the set at a has the members L -/
structure SN (w : World) (h : Heap) (a : Addr) (L : List (Addr × NestedKey)) (es : Array (Int × Value)) (ep : Nat) (t : SetTable) : Prop where
  obj : ∃ o, h.get? a = some o ∧ o.ExactSet ∧ o.data = .set es ep t
  row : es.toList = L.map (keyRow w)
  tab : TabOk t (L.map fun p => kh w p.2)
  nd : (L.map (·.2)).Nodup
  key : ∀ p ∈ L, KAt h p.2 p.1
  pl : t.plain = true
  ld : w.params.followText "set-order" = true ∨ t.led = true
  rm : L.length * 5 < t.mask * 3
variable {a : Addr} {L : List (Addr × NestedKey)} {es : Array (Int × Value)} {ep : Nat} {t : SetTable}
theorem rows_size (h : es.toList = L.map (keyRow w)) : es.size = L.length := by rw [← Array.length_toList, h, List.length_map]
theorem rows_at (h : es.toList = L.map (keyRow w)) {i : Nat} {p : Addr × NestedKey} (hp : L[i]? = some p) : es[i]? = some (keyRow w p) := by rw [← Array.getElem?_toList, h, List.getElem?_map, hp]; rfl
theorem fits_of (T : TabOk t (L.map fun p => kh w p.2)) (hr : L.length ≤ t.mask) (hz : es.size = L.length) : t.fits es.size = true := by
  have e := T.sz
  rw [List.length_map] at e
  unfold SetTable.fits SetTable.fill
  rw [T.dm, hz, e, Bool.and_eq_true, beq_iff_eq, decide_eq_true_eq]
  exact ⟨rfl, by show L.length + 0 ≤ _; omega⟩
theorem SN.fits (R : SN w s.heap a L es ep t) : t.fits es.size = true := fits_of R.tab (by have := R.rm; omega) (rows_size R.row)
theorem gw_of {hs : List Int} (T : TabOk t hs) : ¬ t.gaveWay = true := by
  unfold SetTable.gaveWay
  rw [mask_odd T.mok]; decide
theorem nth_dummy (m : Nat) : ∀ (n : Nat) (p : SetTable.Probe), p.dummy = none → (nth m p n).dummy = none
  | 0, _, h => h
  | n + 1, p, h => nth_dummy m n (adv m p) (by unfold adv; split <;> exact h)
/-- the model's steps behind a candidate whose key is another, or this one -/
theorem SN.cand (R : SN w s.heap a L es ep t) {x : Addr} {k : NestedKey} (hx : KAt s.heap k x) (hu : A.units + 8 < cLine) {f i j : Nat} {p : Addr × NestedKey} {next : SetTable.Probe} {Q : SetFound → Shared → Prop} (hp : L[i]? = some p) (hj : t.place.toList[i]? = some j)
    (yes : p.2 = k → Q (.there none) s) (no : p.2 ≠ k → wpAny (model P w) A (setSearchFrom a (.ref x) (kh w k) true f (some next)) Q E s) : wpAny (model P w) A (searchRest a (.ref x) (kh w k) true f es t j i next) Q E s := by
  obtain ⟨o, ho, _, hd⟩ := R.obj
  have hpk := R.key p (List.mem_of_getElem? hp)
  unfold searchRest
  rw [rows_at R.row hp]
  dsimp only
  refine wpAny_bind (wpAny_holding ((nestedKind P w).eqBool (x := p.2) (y := k) hu ⟨hpk.is, hpk.dp⟩ ⟨hx.is, hx.dp⟩ (wpAny_bind (wpAny_setState_of ho hd R.fits ?_))))
  dsimp only
  by_cases e : p.2 = k
  · exact wp_if_pos (by simp [e]) (wpAny_pure (yes e))
  · refine wp_if_neg (by simp [e]) ?_
    try refine wpAny_bind (wpAny_pure ?_)
    rw [sameMem]
    dsimp only
    simp only [if_true, slot_live R.tab.ris hj, rows_at R.row hp]
    refine wpAny_bind (wpAny_isSame_ref_self (wpAny_bind (wpAny_pure ?_)))
    simp only [if_true]
    exact wp_if_neg (by simp [e]) (no e)
/-- the search: no entry on the way up to step c has the key -/
theorem SN.search (R : SN w s.heap a L es ep t) {x : Addr} {k : NestedKey} (hx : KAt s.heap k x) (hu : A.units + 8 < cLine) {K : Nat} (hKf : K < 10 * SetTable.turns t.mask) (hK : way t.mask (kh w k) K ∉ t.place.toList) (hKb : ∀ c, c < K → way t.mask (kh w k) c ∈ t.place.toList)
    {Q : SetFound → Shared → Prop} (hin : k ∈ L.map (·.2) → Q (.there none) s) (hout : k ∉ L.map (·.2) → Q (.free (way t.mask (kh w k) K) false) s) :
    ∀ (f c : Nat) (stand : Option SetTable.Probe), stand.getD (t.probeStart (kh w k)) = nth t.mask (runAt t.mask (SetTable.bits (kh w k) % (t.mask + 1)) (SetTable.bits (kh w k))) c → c ≤ K → K - c < f →
      (∀ (c' i : Nat) (p : Addr × NestedKey), c' < c → t.place.toList[i]? = some (way t.mask (kh w k) c') → L[i]? = some p → p.2 ≠ k) → wpAny (model P w) A (setSearchFrom a (.ref x) (kh w k) true f stand) Q E s
  | 0, _, _, _, _, hf, _ => absurd hf (Nat.not_lt_zero _)
  | f + 1, c, stand, hst, hc, hf, hno => by
    obtain ⟨o, ho, _, hd⟩ := R.obj
    rw [setSearchFrom_succ]
    refine wpAny_bind (wpAny_setState_of ho hd R.fits ?_)
    dsimp only
    refine wp_if_neg (gw_of R.tab) ?_
    try refine wpAny_bind (wpAny_pure ?_)
    generalize hp0 : runAt t.mask (SetTable.bits (kh w k) % (t.mask + 1)) (SetTable.bits (kh w k)) = p0 at hst
    have step : ∀ q, (nth t.mask (nth t.mask p0 c) q).j = way t.mask (kh w k) (c + q) := fun q => by rw [← nth_add, ← hp0]
    have atH : ∀ (i : Nat) (p : Addr × NestedKey), L[i]? = some p → ((es[i]?.map fun (e : Int × Value) => e.1).getD 0 : Int) = kh w p.2 := fun i p hp => by rw [rows_at R.row hp]; rfl
    rcases go_spec t R.tab.ris R.tab.dm (fun i => (es[i]?.map (·.1)).getD 0) (kh w k) (10 * SetTable.turns t.mask) (K - c) (nth t.mask p0 c) (nth_dummy _ _ _ (by rw [← hp0]; rfl)) (by omega)
      (fun q hq => by rw [step]; exact hKb _ (by omega)) (by rw [step, show c + (K - c) = K by omega]; exact hK) with ⟨q, i, hq, hi, hh, hbef, hpr⟩ | ⟨hbef, hpr⟩
    · have met : t.probe (fun i => (es[i]?.map (·.1)).getD 0) (kh w k) (stand.getD (t.probeStart (kh w k))) = some (.candidate (way t.mask (kh w k) (c + q)) i (nth t.mask p0 (c + (q + 1)))) := by
        rw [hst, ← step, nth_add]
        exact hpr
      rw [met]
      dsimp only
      rw [step] at hi
      have hil : i < L.length := by
        have e1 := (List.getElem?_eq_some_iff.mp hi).1
        have e2 := R.tab.sz
        rw [List.length_map] at e2
        rw [Array.length_toList] at e1
        omega
      obtain ⟨p, hp⟩ : ∃ p, L[i]? = some p := ⟨_, List.getElem?_eq_getElem hil⟩
      have rest : wpAny (model P w) A (searchRest a (.ref x) (kh w k) true f es t (way t.mask (kh w k) (c + q)) i (nth t.mask p0 (c + (q + 1)))) Q E s :=
        R.cand hx hu hp hi (fun e => hin (List.mem_map.mpr ⟨p, List.mem_of_getElem? hp, e⟩)) fun ne =>
          SN.search R hx hu hKf hK hKb hin hout f (c + (q + 1)) _ (by rw [hp0]; rfl) (by omega) (by omega) fun c' i' p' hc' hi' hp' => by
            rcases Nat.lt_trichotomy c' (c + q) with z | z | z
            · by_cases y : c' < c
              · exact hno c' i' p' y hi' hp'
              · intro e
                refine hbef (c' - c) i' (by omega) (by rw [step, show c + (c' - c) = c' by omega]; exact hi') ?_
                rw [atH i' p' hp', e]
            · rw [z] at hi'
              have s1 := slot_live R.tab.ris hi'
              rw [slot_live R.tab.ris hi] at s1
              injection s1 with s1
              rw [← s1, hp] at hp'
              cases hp'
              exact ne
            · omega
      by_cases hl : t.led = true
      · refine wp_if_neg (by simp [hl]) ?_
        try refine wpAny_bind (wpAny_pure ?_)
        exact rest
      · refine wp_if_pos (by simp [hl]) (wpAny_bind (hx.seen (fun y hy => ?_) ?_))
        · obtain ⟨e, he, rfl⟩ := List.mem_map.mp hy
          have he2 : e ∈ es.toList := by
            have : e ∈ es ∧ e.1 = kh w k := by simpa using he
            simpa using this.1
          rw [R.row] at he2
          obtain ⟨p2, hp2, rfl⟩ := List.mem_map.mp he2
          exact ⟨p2.2, p2.1, rfl, R.key p2 hp2⟩
        · refine wp_if_neg (by decide) ?_
          try refine wpAny_bind (wpAny_pure ?_)
          exact rest
    · have met : t.probe (fun i => (es[i]?.map (·.1)).getD 0) (kh w k) (stand.getD (t.probeStart (kh w k))) = some (.empty (way t.mask (kh w k) K) none) := by
        rw [hst, show way t.mask (kh w k) K = (nth t.mask (nth t.mask p0 c) (K - c)).j from by rw [step, show c + (K - c) = K by omega]]
        exact hpr
      rw [met]
      dsimp only
      refine wpAny_pure (hout fun hm => ?_)
      obtain ⟨p1, h1, e1⟩ := List.mem_map.mp hm
      obtain ⟨i1, hi1⟩ := List.mem_iff_getElem?.mp h1
      have hh1 : (L.map fun p => kh w p.2)[i1]? = some (kh w k) := by rw [List.getElem?_map, hi1, ← e1]; rfl
      have hlt : i1 < t.place.toList.length := by
        have e2 := R.tab.sz
        rw [List.length_map] at e2
        rw [Array.length_toList, e2]
        exact (List.getElem?_eq_some_iff.mp hi1).1
      obtain ⟨c1, hc1, e3⟩ := R.tab.before hK hh1 (List.getElem?_eq_getElem hlt)
      have pl1 : t.place.toList[i1]? = some (way t.mask (kh w k) c1) := by rw [e3]; exact List.getElem?_eq_getElem hlt
      by_cases y : c1 < c
      · exact hno c1 i1 p1 y pl1 hi1 e1
      · refine hbef (c1 - c) i1 (by omega) (by rw [step, show c + (c1 - c) = c1 by omega]; exact pl1) ?_
        rw [atH i1 p1 hi1, e1]
theorem pick_all {α : Type} : ∀ L : List α, (List.range L.length).filterMap (fun i => L[i]?) = L
  | [] => rfl
  | x :: L => by
    rw [List.length_cons, List.range_succ_eq_map, List.filterMap_cons_some (f := fun i => (x :: L)[i]?) (a := 0) (b := x) rfl, List.filterMap_map]
    exact congrArg (x :: ·) (pick_all L)
theorem pick_map {α : Type} (L : List α) (f : α → Int) : ∀ l : List Nat, (∀ i ∈ l, i < L.length) → (l.filterMap fun i => L[i]?).map f = l.map fun i => ((L.map f).toArray).getD i 0
  | [], _ => rfl
  | i :: l, h => by
    have hi := h i List.mem_cons_self
    rw [List.filterMap_cons_some (List.getElem?_eq_getElem hi), List.map_cons, List.map_cons, pick_map L f l fun j hj => h j (List.mem_cons_of_mem _ hj)]
    congr 1
    simp [Array.getD_eq_getD_getElem?, hi]
/-- the table laid anew, with room for more -/
theorem SN.relay {o : Obj} (ho : s.heap.get? a = some o) (hex : o.ExactSet) (hd : o.data = .set es ep t) (hrow : es.toList = L.map (keyRow w)) (T : TabOk t (L.map fun p => kh w p.2)) (nd : (L.map (·.2)).Nodup) (key : ∀ p ∈ L, KAt s.heap p.2 p.1) (pl : t.plain = true)
    (ld : w.params.followText "set-order" = true ∨ t.led = true) (hn : L.length = 5) (hm : t.mask = 7) {Q : Unit → Shared → Prop} (hQ : ∀ h' L' es' ep' t', Heap.SameBut a s.heap h' → SN w h' a L' es' ep' t' → L'.Perm L → Q () { s with heap := h' }) :
    wpAny (model P w) A (setRelay a (SetTable.grown 5)) Q E s := by
  have hz := rows_size hrow
  have eh : es.map (·.1) = (L.map fun p => kh w p.2).toArray := by
    apply Array.toList_inj.mp
    rw [Array.toList_map, hrow, List.map_map]
    rfl
  obtain ⟨t', order, e, hp, T', em, el, ep', _⟩ := relaid_ok t (hs := es.map (·.1)) (wanted := SetTable.grown 5) (M := 31) (by rw [size_20]) (.inr (.inl rfl)) (by rw [Array.size_map, hz, hn]; decide)
  rw [Array.size_map, hz] at hp
  have hin : ∀ i ∈ order.toList, i < L.length := fun i hi => List.mem_range.mp (hp.mem_iff.mp hi)
  have pm : (order.toList.filterMap fun i => L[i]?).Perm L := by
    have q := hp.filterMap fun i => L[i]?
    rw [pick_all] at q
    exact q
  have hr2 : (order.filterMap (es[·]?)).toList = (order.toList.filterMap fun i => L[i]?).map (keyRow w) := by
    rw [Array.toList_filterMap, List.map_filterMap]
    congr 1
    funext i
    rw [← Array.getElem?_toList, hrow, List.getElem?_map]
  rw [eh, ← pick_map L (fun p => kh w p.2) order.toList hin] at T'
  generalize (order.toList.filterMap fun i => L[i]?) = L2 at pm hr2 T'
  have hz2 : (order.filterMap (es[·]?)).size = es.size := by rw [rows_size hr2, pm.length_eq, hz]
  rw [setRelay_eq]
  refine wpAny_bind (wpAny_setState_of ho hd (fits_of T (by omega) hz) ?_)
  dsimp only
  refine wp_if_neg (by rw [size_20, sizeLine_eq]; decide) ?_
  try refine wpAny_bind (wpAny_pure ?_)
  rw [e]
  dsimp only
  refine wpAny_bind (wp_if_neg (by rw [hz2]; simp) ?_)
  try refine wpAny_bind (wpAny_pure ?_)
  refine wpAny_pure ?_
  dsimp only
  refine wpAny_storeSet_of ho hd ?_ (by rw [hz2, hz, hn, sizeLine_eq]; decide)
  have sb : Heap.SameBut a s.heap (s.heap.update a (Obj.putSet (order.filterMap (es[·]?)) t')) := Heap.SameBut.update ..
  exact hQ _ L2 _ (ep + 1) t' sb ⟨⟨_, store_at ho hd, ⟨hex.1, hex.2.1, hex.2.2⟩, rfl⟩, hr2, T', (pm.map (·.2)).nodup_iff.mpr nd, fun p q => (key p (pm.mem_iff.mp q)).same ho hd sb, by rw [ep']; exact pl, by rw [el]; exact ld, by rw [pm.length_eq, em, hn]; decide⟩ pm
theorem ins_perm {α : Type} (L : List α) (p : Nat) (x : α) : (L.take p ++ x :: L.drop p).Perm (x :: L) := put_perm L p x
/-- a key is added -/
theorem SN.add (R : SN w s.heap a L es ep t) {x : Addr} {k : NestedKey} (hx : KAt s.heap k x) (hu : A.units + 8 < cLine) (hfew : L.length + 1 < 19) {Q : Bool → Shared → Prop}
    (hQ : ∀ b h' L' es' ep' t', Heap.SameBut a s.heap h' → SN w h' a L' es' ep' t' → (k ∈ L.map (·.2) → L' = L) → (k ∉ L.map (·.2) → L'.Perm ((x, k) :: L)) → Q b { s with heap := h' }) :
    wpAny (model P w) A (setAddHashed a (.ref x) (kh w k)) Q E s := by
  obtain ⟨o, ho, hex, hd⟩ := R.obj
  have hz := rows_size R.row
  have hrm := R.rm
  have lt : L.length ≤ t.mask := by omega
  obtain ⟨K, hKf, hK, hKb⟩ := R.tab.first (by rw [List.length_map]; exact lt) (kh w k)
  have big : K < 100000 := by
    have : 10 * SetTable.turns t.mask ≤ 1420 := by
      unfold SetTable.turns
      rcases R.tab.mok with e | e | e <;> omega
    omega
  unfold setAddHashed
  refine wpAny_holding ?_
  rw [show (100000 : Nat) = 99999 + 1 from rfl, setAddHashedIn_succ]
  refine wpAny_bind (wpAny_setState_of ho hd R.fits ?_)
  dsimp only
  refine wp_if_neg (by simp [byScan, Value.scannable]) ?_
  try refine wpAny_bind (wpAny_pure ?_)
  refine wpAny_bind ?_
  unfold setSearch
  refine R.search hx hu hKf hK hKb (fun hm => ?_) (fun hm => ?_) 100000 0 none rfl (Nat.zero_le _) (by omega) fun c' _ _ h => absurd h (Nat.not_lt_zero _)
  · dsimp only
    exact wpAny_pure (hQ false s.heap L es ep t (Heap.SameBut.refl a s.heap) R (fun _ => rfl) fun q => absurd hm q)
  · dsimp only
    refine wpAny_bind (wpAny_setState_of ho hd R.fits ?_)
    dsimp only
    obtain ⟨u1, u2, u3, u4, u5, u6, u7, u8, u9⟩ := R.tab.put hK hKb
    have hpl : (t.put (way t.mask (kh w k) K)).1.plain = true := by rw [u6]; exact R.pl
    rw [List.length_map] at u2 u9
    generalize t.put (way t.mask (kh w k) K) = pt at u1 u3 u4 u5 u6 u7 u8 u9 hpl ⊢
    obtain ⟨t1, p⟩ := pt
    dsimp only at u1 u3 u4 u5 u6 u7 u8 u9 hpl ⊢
    subst u1
    first
      | (refine wpAny_bind ?_; refine wp_if_pos hpl ?_; refine byv_key _ _ 8 hx.is hx.dp hx.nt _ _ _ ?_)
      | refine wp_if_pos hpl (wpAny_bind (byv_key _ _ 8 hx.is hx.dp hx.nt _ _ _ ?_))
    simp only [if_true]
    have hins : (SetTable.insertAt es (SetTable.below t.place (way t.mask (kh w k) K)) (kh w k, Value.ref x)).toList = (L.take (SetTable.below t.place (way t.mask (kh w k) K)) ++ (x, k) :: L.drop (SetTable.below t.place (way t.mask (kh w k) K))).map (keyRow w) := by
      rw [SetTable.toList_insertAt, R.row, List.map_append, List.map_cons, List.map_take, List.map_drop]
    have u3' : TabOk t1 ((L.take (SetTable.below t.place (way t.mask (kh w k) K)) ++ (x, k) :: L.drop (SetTable.below t.place (way t.mask (kh w k) K))).map fun p => kh w p.2) := by
      rw [List.map_append, List.map_cons, List.map_take, List.map_drop]; exact u3
    generalize SetTable.below t.place (way t.mask (kh w k) K) = p at hins u3' ⊢
    have pm := ins_perm L p (x, k)
    generalize L.take p ++ (x, k) :: L.drop p = L1 at pm hins u3'
    have hz1 := rows_size hins
    have hl1 : L1.length = L.length + 1 := by rw [pm.length_eq, List.length_cons]
    generalize SetTable.insertAt es p (kh w k, Value.ref x) = es1 at hins hz1 ⊢
    have nd1 : (L1.map (·.2)).Nodup := by
      refine (pm.map (·.2)).nodup_iff.mpr ?_
      rw [List.map_cons]
      exact List.nodup_cons.mpr ⟨hm, R.nd⟩
    refine wpAny_bind (wpAny_storeSet_of ho hd ?_ (by rw [hz1, hl1, sizeLine_eq]; omega))
    have sb : Heap.SameBut a s.heap (s.heap.update a (Obj.putSet es1 t1)) := Heap.SameBut.update ..
    have ho1 := store_at (es' := es1) (t' := t1) ho hd
    generalize s.heap.update a (Obj.putSet es1 t1) = h1 at sb ho1 ⊢
    have key1 : ∀ p ∈ L1, KAt h1 p.2 p.1 := fun p hp => by
      rcases List.mem_cons.mp (pm.mem_iff.mp hp) with e | hp
      · rw [e]; exact hx.same ho hd sb
      · exact (R.key p hp).same ho hd sb
    have ld1 : w.params.followText "set-order" = true ∨ t1.led = true := by rw [u5]; exact R.ld
    by_cases hf : t1.tooFull = true
    · first
        | (refine wpAny_bind ?_; refine wp_if_pos (by simp [hf]) ?_)
        | (refine wp_if_pos (by simp [hf]) ?_; refine wpAny_bind ?_)
      have full : (L.length + 1) * 5 ≥ t1.mask * 3 := by
        unfold SetTable.tooFull at hf
        rw [decide_eq_true_eq, u9] at hf
        exact hf
      have m7 : t.mask = 7 := by
        rcases R.tab.mok with e | e | e
        · exact e
        · rw [u4, e] at full; omega
        · rw [u4, e] at full; omega
      have l4 : L.length = 4 := by rw [u4, m7] at full; rw [m7] at hrm; omega
      rw [hz, l4]
      refine SN.relay (s := { s with heap := h1 }) ho1 ⟨hex.1, hex.2.1, hex.2.2⟩ rfl hins u3' nd1 key1 hpl ld1 (by rw [hl1, l4]) (by rw [u4, m7]) ?_
      intro h2 L2 es2 ep2 t2 sb2 R2 pm2
      exact wpAny_pure (hQ true h2 L2 es2 ep2 t2 (sb.trans sb2) R2 (fun q => absurd q hm) fun _ => pm2.trans pm)
    · first
        | refine wp_if_neg (by simp [hf]) ?_
        | (refine wpAny_bind ?_; refine wp_if_neg (by simp [hf]) ?_; refine wpAny_pure ?_)
      refine wpAny_pure (hQ true h1 L1 es1 (ep + 1) t1 sb ⟨⟨_, ho1, ⟨hex.1, hex.2.1, hex.2.2⟩, rfl⟩, hins, u3', nd1, key1, hpl, ld1, ?_⟩ (fun q => absurd q hm) fun _ => pm)
      unfold SetTable.tooFull at hf
      rw [decide_eq_true_eq, u9] at hf
      rw [hl1]
      omega
end
end Lr
namespace Lr
open PySem PySem.Spec PyProof.Rows L2
mutual
def keyD : PyData → NestedKey
  | .int i => .num i
  | .tuple ds => .tup (keysD ds)
  | _ => .none
def keysD : List PyData → List NestedKey
  | [] => []
  | d :: ds => keyD d :: keysD ds
end
mutual
def numD : PyData → Bool
  | .int _ => true
  | .tuple ds => numsD ds
  | _ => false
def numsD : List PyData → Bool
  | [] => true
  | d :: ds => numD d && numsD ds
end
mutual
theorem noText_key : ∀ d : PyData, noText (keyD d) = true
  | .int _ => rfl
  | .tuple ds => by simp only [keyD, noText]; exact noText_keys ds
  | .none => rfl
  | .bool _ => rfl
  | .str _ => rfl
  | .list _ => rfl
  | .dict _ => rfl
theorem noText_keys : ∀ ds : List PyData, noTexts (keysD ds) = true
  | [] => rfl
  | d :: ds => by simp only [keysD, noTexts, noText_key d, noText_keys ds, Bool.and_self]
end
section
variable {X : Cx} {pins : List (Addr × Obj)} {σ : L2.St} {H C : Hp} {s : Shared}
mutual
theorem nis (I : Inv X pins σ H s) (e : Ex C H) : ∀ (d : PyData) (v : V) (u : Value), numD d = true → Rp C v d → RelV v u → NestedIs s.heap (keyD d) u
  | .int i, _, u, _, r, q => by
    cases r
    obtain ⟨tk, rfl⟩ := q
    exact .int i tk
  | .tuple ds, _, u, n, r, q => by
    cases r with
    | @tup a xs _ h1 h2 =>
      cases q
      obtain ⟨its, rv, ⟨o, ho, hc, m, hd⟩, _⟩ := I.tuple (SqT.of (e _ _ h1))
      exact .tup ho hc hd (by simpa using nisA I e ds xs its (by simpa only [numD] using n) h2 rv)
  | .none, _, _, n, _, _ => by cases n
  | .bool _, _, _, n, _, _ => by cases n
  | .str _, _, _, n, _, _ => by cases n
  | .list _, _, _, n, _, _ => by cases n
  | .dict _, _, _, n, _, _ => by cases n
theorem nisA (I : Inv X pins σ H s) (e : Ex C H) : ∀ (ds : List PyData) (vs : List V) (us : List Value), numsD ds = true → RpA C vs ds → Vals vs us → NestedAll s.heap (keysD ds) us
  | [], _, us, _, r, q => by
    cases r
    cases q
    exact .nil
  | d :: ds, _, us, n, r, q => by
    simp only [numsD, Bool.and_eq_true] at n
    cases r with
    | cons r1 r2 =>
      cases q with
      | cons q1 q2 => exact .cons (nis I e d _ _ n.1 r1 q1) (nisA I e ds _ _ n.2 r2 q2)
end
end
/-- what a set has of the first i of these -/
structure Gk {α : Type} (ks : List (α × NestedKey)) (i : Nat) (L : List (α × NestedKey)) : Prop where
  sub : ∀ p ∈ L, p ∈ ks.take i
  all : ∀ p ∈ ks.take i, p.2 ∈ L.map (·.2)
  len : L.length ≤ i
  eq : L.length = i ↔ ((ks.take i).map (·.2)).Nodup
section
variable {α : Type} {ks L L' : List (α × NestedKey)} {i : Nat} {x : α × NestedKey}
theorem Gk.zero (ks : List (α × NestedKey)) : Gk ks 0 [] := ⟨fun p h => (by cases h), fun p h => (by simp at h), Nat.le_refl _, by simp⟩
theorem nodup_snoc {β : Type} {l : List β} {x : β} : (l ++ [x]).Nodup ↔ l.Nodup ∧ x ∉ l := by
  rw [List.nodup_append]
  constructor
  · rintro ⟨h1, _, h3⟩; exact ⟨h1, fun h => h3 x h x (List.mem_singleton.mpr rfl) rfl⟩
  · rintro ⟨h1, h2⟩; exact ⟨h1, by simp, fun a ha b hb e => by rw [List.mem_singleton.mp hb] at e; exact h2 (e ▸ ha)⟩
theorem Gk.keys (g : Gk ks i L) (k : NestedKey) : k ∈ L.map (·.2) ↔ k ∈ (ks.take i).map (·.2) := by
  constructor
  · intro h
    obtain ⟨p, hp, rfl⟩ := List.mem_map.mp h
    exact List.mem_map.mpr ⟨p, g.sub p hp, rfl⟩
  · intro h
    obtain ⟨p, hp, rfl⟩ := List.mem_map.mp h
    exact g.all p hp
theorem Gk.same (g : Gk ks i L) (h : ks[i]? = some x) (hm : x.2 ∈ L.map (·.2)) : Gk ks (i + 1) L where
  sub := fun p hp => by rw [take_next h]; exact List.mem_append_left _ (g.sub p hp)
  all := fun p hp => by
    rw [take_next h] at hp
    rcases List.mem_append.mp hp with q | q
    · exact g.all p q
    · rw [List.mem_singleton.mp q]; exact hm
  len := Nat.le_succ_of_le g.len
  eq := by
    have := g.len
    constructor
    · intro e; omega
    · intro nd
      rw [take_next h, List.map_append, List.map_cons, List.map_nil, nodup_snoc] at nd
      exact absurd ((g.keys _).mp hm) nd.2
theorem Gk.more (g : Gk ks i L) (h : ks[i]? = some x) (hm : x.2 ∉ L.map (·.2)) (pm : L'.Perm (x :: L)) : Gk ks (i + 1) L' where
  sub := fun p hp => by
    rw [take_next h]
    rcases List.mem_cons.mp (pm.mem_iff.mp hp) with e | q
    · rw [e]; exact List.mem_append_right _ (List.mem_singleton.mpr rfl)
    · exact List.mem_append_left _ (g.sub p q)
  all := fun p hp => by
    rw [(pm.map (·.2)).mem_iff, List.map_cons]
    rw [take_next h] at hp
    rcases List.mem_append.mp hp with q | q
    · exact List.mem_cons_of_mem _ (g.all p q)
    · rw [List.mem_singleton.mp q]; exact List.mem_cons_self
  len := by rw [pm.length_eq, List.length_cons]; exact Nat.succ_le_succ g.len
  eq := by
    rw [pm.length_eq, List.length_cons, take_next h, List.map_append, List.map_cons, List.map_nil, nodup_snoc, ← g.eq, ← g.keys]
    constructor
    · intro e; exact ⟨by omega, hm⟩
    · rintro ⟨e, _⟩; omega
end
section
variable {P : Program} {w : World} {A : Around} {E : Value → Shared → Prop} {s : Shared}
theorem kat_old {h h' : Heap} {k : NestedKey} {a : Addr} (x : KAt h k a) (e : ∀ b o, h.get? b = some o → h'.get? b = some o) : KAt h' k a := x.at fun b o _ _ hb _ => e b o hb
/-- set(v), its items tuples of numbers -/
theorem set_keys {l : Addr} {items : Array Value} {ks : List (Addr × NestedKey)} {Q : Value → Shared → Prop} (hh : A.handled = none) (hu : A.units + 11 < cLine) (hq : Seq2 s.heap l items) (hit : items.toList = ks.map fun p => Value.ref p.1) (hk : ∀ p ∈ ks, KAt s.heap p.2 p.1) (hfew : ks.length < 19)
    (hQ : ∀ h' tk L es ep t, SN w h' s.heap.objs.size L es ep t → Gk ks ks.length L → (∀ b o, s.heap.get? b = some o → h'.get? b = some o) → Q (.ref s.heap.objs.size) { s with heap := h', toks := tk }) :
    wpAny (model P w) A (call (.type "set") [.ref l]) Q E s := by
  have hsz : items.size = ks.length := by rw [← Array.length_toList, hit, List.length_map]
  refine set_from hh hq (fun i h => (∀ b o, s.heap.get? b = some o → h.get? b = some o) ∧ ∃ L es ep t, SN w h s.heap.objs.size L es ep t ∧ Gk ks i L) (fun h ho hold => ⟨hold, [], #[], 0, _, ⟨⟨_, ho, ⟨rfl, rfl, rfl⟩, rfl⟩, rfl, ⟨List.Pairwise.nil, rfl, rfl, .inl rfl, fun x hx => (by cases hx), fun i h j hi => (by simp at hi)⟩, List.nodup_nil, fun p hp => (by cases hp), rfl, ?_, by show 0 * 5 < 7 * 3; decide⟩, Gk.zero ks⟩) (fun i h h' ⟨hold, L, es, ep, t, R, g⟩ kp => ?_) (fun i x s1 Q1 E1 hx ⟨hold, L, es, ep, t, R, g⟩ hq1 => ?_) fun h' tk ⟨hold, L, es, ep, t, R, g⟩ kp => hQ h' tk L es ep t R (by rw [← hsz]; exact g) kp
  · show _ ∨ (!w.params.followText "set-order") = true
    cases w.params.followText "set-order"
    · exact .inr rfl
    · exact .inl rfl
  · have old2 : ∀ b o, s.heap.get? b = some o → h'.get? b = some o := fun b o e => kp b o (Nat.ne_of_lt (Nat.lt_succ_of_lt (Heap.lt_size e))) (hold b o e)
    obtain ⟨o, ho, r⟩ := R.obj
    exact ⟨old2, L, es, ep, t, ⟨⟨o, kp _ _ (Nat.ne_of_lt (Nat.lt_succ_self _)) ho, r⟩, R.row, R.tab, R.nd, fun p hp => kat_old (hk p (List.mem_of_mem_take (g.sub p hp))) old2, R.pl, R.ld, R.rm⟩, g⟩
  · obtain ⟨p, hp, rfl⟩ : ∃ p, ks[i]? = some p ∧ x = .ref p.1 := by
      have q : items.toList[i]? = some x := by rw [Array.getElem?_toList]; exact hx
      rw [hit, List.getElem?_map] at q
      cases e : ks[i]? with
      | none => rw [e] at q; cases q
      | some p => rw [e] at q; exact ⟨p, rfl, (Option.some.inj q).symm⟩
    have hx1 : KAt s1.heap p.2 p.1 := kat_old (hk p (List.mem_of_getElem? hp)) hold
    have hi : i < ks.length := (List.getElem?_eq_some_iff.mp hp).1
    have hu2 : A.in1.in1.in1.units + 8 < cLine := by simp only [Around.in1_units]; omega
    unfold setAdd
    refine wpAny_holding (wpAny_bind ((nestedKind P w).pyHash (k := p.2) hu2 ⟨hx1.is, hx1.dp⟩ ?_))
    refine SN.add (s := { s1 with toks := s1.toks + (nestedKind P w).draws p.2 }) R hx1 hu2 (by have := g.len; omega) fun b h' L' es' ep' t' sb R' c1 c2 => hq1 b h' _ (Nat.le_add_right _ _) ⟨fun b o e => ?_, L', es', ep', t', R', ?_⟩ sb
    · rw [sb.2 b fun q => by rw [q] at e; exact absurd (Heap.lt_size e) (Nat.lt_irrefl _)]
      exact hold b o e
    · by_cases c : p.2 ∈ L.map (·.2)
      · rw [c1 c]; exact g.same hp c
      · exact g.more hp c (c2 c)
/-- set(v), its items ints -/
theorem set_ints {l : Addr} {items : Array Value} {ns : List Int} {Q : Value → Shared → Prop} (hh : A.handled = none) (hq : Seq2 s.heap l items) (hi : PyProof.Rows.IntsAre items.toList ns) (hb : ns.length + 1 < scanBound)
    (hQ : ∀ h' tk f n, h'.SetOf (intKind P w) s.heap.objs.size f n → (n = ns.length ↔ ns.Nodup) → n ≤ ns.length → (∀ b o, s.heap.get? b = some o → h'.get? b = some o) → Q (.ref s.heap.objs.size) { s with heap := h', toks := tk }) :
    wpAny (model P w) A (call (.type "set") [.ref l]) Q E s := by
  have hsz : items.size = ns.length := by rw [← Array.length_toList]; exact hi.length
  refine set_from hh hq (fun i h => (∀ b o, s.heap.get? b = some o → h.get? b = some o) ∧ ∃ f n, h.SetOf (intKind P w) s.heap.objs.size f n ∧ (∀ x, f x = true ↔ x ∈ ns.take i) ∧ n ≤ i ∧ (n = i ↔ (ns.take i).Nodup)) (fun h ho hold => ⟨hold, _, _, (PyProof.Rows.setObjOf_fresh (knd := intKind P w) _).setOf ho (by unfold scanBound; omega), by simp, Nat.le_refl _, by simp⟩) (fun i h h' ⟨hold, f, n, R, g⟩ kp => ?_) (fun i x s1 Q1 E1 hx ⟨hold, f, n, R, g1, g2, g3⟩ hq1 => ?_) fun h' tk ⟨hold, f, n, R, g1, g2, g3⟩ kp => hQ h' tk f n R ?_ (by omega) kp
  · obtain ⟨o, es, ep, t, ho, r⟩ := R
    exact ⟨fun b o e => kp b o (Nat.ne_of_lt (Nat.lt_succ_of_lt (Heap.lt_size e))) (hold b o e), f, n, ⟨o, es, ep, t, kp _ _ (Nat.ne_of_lt (Nat.lt_succ_self _)) ho, r⟩, g⟩
  · obtain ⟨tk, rfl⟩ := PyProof.Rows.IntsAre.int_at hi i x (by rw [Array.getElem?_toList]; exact hx)
    have hil : i < ns.length := by
      have := (Array.getElem?_eq_some_iff.mp hx).1
      omega
    have hns : ns[i]? = some (ns.getD i 0) := by rw [List.getD_eq_getElem?_getD, List.getElem?_eq_getElem hil]; rfl
    generalize ns.getD i 0 = v at hns ⊢
    unfold setAdd
    refine wpAny_holding (wpAny_bind ((intKind P w).pyHash (k := v) (intKind_is _ _ _ _) ?_))
    refine wpAny_setAddHashed_of (knd := intKind P w) (s := { s1 with toks := s1.toks + 1 }) (intKind_is _ _ _ _) rfl R (by unfold scanBound at hb ⊢; omega) fun h' sb R' => hq1 _ h' _ (Nat.le_add_right _ _) ⟨fun b o e => ?_, _, _, R', ?_, ?_, ?_⟩ sb
    · rw [sb.2 b fun q => by rw [q] at e; exact absurd (Heap.lt_size e) (Nat.lt_irrefl _)]
      exact hold b o e
    · intro y
      rw [take_next hns, List.mem_append, List.mem_singleton, ← g1 y, Bool.or_eq_true, decide_eq_true_eq]
    · split <;> omega
    · rw [take_next hns, nodup_snoc, ← g3, ← g1 v]
      by_cases c : f v = true
      · rw [if_pos c]
        constructor
        · intro e; omega
        · rintro ⟨_, q⟩; exact absurd c q
      · rw [if_neg c]
        constructor
        · intro e; exact ⟨by omega, c⟩
        · rintro ⟨e, _⟩; omega
  · rw [hsz] at g3
    rw [g3, List.take_length]
end
def seqD : PyData → Option (List PyData)
  | .list ds => some ds
  | .tuple ds => some ds
  | _ => none
theorem seq2_rp {X : Cx} {pins : List (Addr × Obj)} {σ : L2.St} {H C : Hp} {s : Shared} (I : Inv X pins σ H s) (e : Ex C H) {v : V} {d : PyData} {ds : List PyData} (r : Rp C v d) (h : seqD d = some ds) :
    ∃ l xs us, v = .ref l ∧ Seq2 s.heap l us.toArray ∧ Vals xs us ∧ RpA C xs ds := by
  cases d with
  | list es =>
    cases h
    cases r with
    | lst h1 h2 =>
      obtain ⟨us, rv, pl, _⟩ := I.list (SqL.of (e _ _ h1))
      exact ⟨_, _, us, rfl, .inl pl.isList, rv, h2⟩
  | tuple es =>
    cases h
    cases r with
    | tup h1 h2 =>
      obtain ⟨us, rv, pl, _⟩ := I.tuple (SqT.of (e _ _ h1))
      exact ⟨_, _, us, rfl, .inr pl, rv, h2⟩
  | _ => cases h
def tupKey (d : PyData) : Prop := (∃ ds, d = .tuple ds) ∧ numD d = true ∧ (keyD d).depth ≤ 8
/-- tuples of numbers, their addresses -/
theorem refs_rp {X : Cx} {pins : List (Addr × Obj)} {σ : L2.St} {H C : Hp} {s : Shared} (I : Inv X pins σ H s) (e : Ex C H) : ∀ {ds : List PyData} {xs : List V} {us : List Value}, (∀ d ∈ ds, tupKey d) → RpA C xs ds → Vals xs us →
    ∃ ks : List (Addr × NestedKey), us = ks.map (fun p => Value.ref p.1) ∧ ks.map (·.2) = ds.map keyD ∧ ks.length = ds.length ∧ (∀ p ∈ ks, KAt s.heap p.2 p.1) ∧ xs = ks.map (fun p => V.ref p.1)
  | [], _, _, _, r, q => by cases r; cases q; exact ⟨[], rfl, rfl, rfl, (fun p h => nomatch h), rfl⟩
  | d :: ds, _, _, h, r, q => by
    cases r with
    | cons r1 r2 =>
      cases q with
      | @cons v u xs us q1 q2 =>
        obtain ⟨ks, e1, e2, e3, e4, e5⟩ := refs_rp I e (fun x hx => h x (List.mem_cons_of_mem _ hx)) r2 q2
        obtain ⟨⟨es, rfl⟩, n, dp⟩ := h d List.mem_cons_self
        have k := nis I e _ _ _ n r1 q1
        cases r1
        cases q1
        refine ⟨(_, keyD (.tuple es)) :: ks, by rw [e1]; rfl, by rw [List.map_cons, e2]; rfl, by rw [List.length_cons, e3]; rfl, fun p hp => ?_, by rw [e5]; rfl⟩
        rcases List.mem_cons.mp hp with z | z
        · rw [z]; exact ⟨k, dp, noText_key _⟩
        · exact e4 p z
theorem ints_rp {C : Hp} : ∀ {ns : List Int} {xs : List V} {us : List Value}, RpA C xs (ns.map PyData.int) → Vals xs us → PyProof.Rows.IntsAre us ns
  | [], _, _, r, q => by cases r; cases q; exact .nil
  | n :: ns, _, _, r, q => by
    cases r with
    | cons r1 r2 =>
      cases q with
      | cons q1 q2 =>
        cases r1
        obtain ⟨tk, rfl⟩ := q1
        exact .cons n tk (ints_rp r2 q2)
def fLenSet : F1 := fun d P => ∃ ds, seqD d = some ds ∧ ds.length < 19 ∧ (((∀ d ∈ ds, tupKey d) ∧ ∀ n : Nat, n ≤ ds.length → (n = ds.length ↔ (ds.map keyD).Nodup) → P (.int n)) ∨ ∃ ns : List Int, ds = ns.map .int ∧ ∀ n : Nat, n ≤ ns.length → (n = ns.length ↔ ns.Nodup) → P (.int n))
section
variable {X : Cx} {z : Cz} {a : Expr} {wa : WE} {p p2 q pos : Pos} {k : Nat}
theorem pe_lenset {ta : TE} (hc : X.calm = true) (hr : Room k X.A) (hg : Gl X "len") (hm : X.mg "len" = none) (hg2 : Gl X "set") (hm2 : X.mg "set" = none) (ha : PE X a ta)
    (na : starEach [a] X.env = (false, eval a X.env) :: starEach [] X.env) : PE X (.Call (.Name "len" p) [.Call (.Name "set" p2) [a] [] q] [] pos) (fun σ H Q => ta σ H fun x H1 => ∃ C1 d, Ex C1 H1 ∧ Rp C1 x d ∧ fLenSet d fun y => ∃ n : Nat, y = .int n ∧ Q (.int n) H1) := by
  refine ⟨fun pins s σ H Q I h => ?_⟩
  refine Call_ (ld_blt I hg hm PySem.boot_len ?_)
  refine PyProof.Rows.callWith_builtin1 (PyProof.Rows.args_cons ?_ rfl) rfl rfl
  refine Call_ (ld_blt I hg2 hm2 PyProof.Rows.boot_set ?_)
  refine PyProof.Rows.callWith_type1 (PyProof.Rows.args_cons (thn (ha.run pins s σ H _ I h) fun v s1 ⟨x, H1, I1, r1, C1, d, ex, rv, ds, hd, hl, w⟩ => PyProof.Rows.args_nil ?_) na) na rfl
  obtain ⟨l, xs, us, rfl, sq, rvs, ra⟩ := seq2_rp I1 ex rv hd
  cases r1
  have hlen : us.length = ds.length := by rw [← rvs.length, ra.len]
  rcases w with ⟨hk, w⟩ | ⟨ns, rfl, w⟩
  · obtain ⟨ks, e1, e2, e3, e4, _⟩ := refs_rp I1 ex hk ra rvs
    have hu : X.A.units + 11 < cLine := by have := u65 hr; omega
    refine set_keys (ks := ks) (I1.ok.hd hc) hu sq (by simpa using e1) e4 (by omega) fun h' tk L es ep t R g kp => PyProof.Rows.args_nil ?_
    obtain ⟨o, ho, hex, hdd⟩ := R.obj
    have I2 : Inv X pins σ H1 { s1 with heap := h', toks := tk } := I1.kept kp
    have hz : es.size = L.length := rows_size R.row
    have gl := g.len
    have ge := g.eq
    rw [List.take_length] at ge
    obtain ⟨m, em, hQ⟩ := w L.length (by omega) (by rw [← e3, ge, e2])
    have em' : (L.length : Int) = (m : Int) := by injection em
    refine call_len_set (s := { s1 with heap := h', toks := tk }) ho hex hdd (fits_of R.tab (by have := R.rm; omega) hz) (by rw [hz]; omega) ⟨.int m, H1, I2.tok _, ⟨_, by rw [hz, em']⟩, hQ⟩
  · refine set_ints (ns := ns) (I1.ok.hd hc) sq (by simpa using ints_rp ra rvs) (by rw [List.length_map] at hl; unfold scanBound; omega) fun h' tk f n R g1 g2 kp => PyProof.Rows.args_nil ?_
    obtain ⟨o, es, ep, t, ho, hex, hdd, _, _, hb, hf, hn⟩ := R
    have I2 : Inv X pins σ H1 { s1 with heap := h', toks := tk } := I1.kept kp
    obtain ⟨m, em, hQ⟩ := w n g2 g1
    have em' : (n : Int) = (m : Int) := by injection em
    rw [List.length_map] at hl
    refine call_len_set (s := { s1 with heap := h', toks := tk }) ho hex hdd hf (by rw [hn]; omega) ⟨.int m, H1, I2.tok _, ⟨_, by rw [hn, em']⟩, hQ⟩
theorem fLenSet.imp {d : PyData} {P Q : PyData → Prop} (h : fLenSet d P) (f : ∀ y, P y → Q y) : fLenSet d Q := by
  obtain ⟨ds, e, hl, h⟩ := h
  refine ⟨ds, e, hl, h.imp (fun ⟨a, b⟩ => ⟨a, fun n h1 h2 => f _ (b n h1 h2)⟩) fun ⟨ns, a, b⟩ => ⟨ns, a, fun n h1 h2 => f _ (b n h1 h2)⟩⟩
theorem fLenSet.int {d : PyData} {P : PyData → Prop} (h : fLenSet d P) : fLenSet d fun y => ∃ n : Nat, y = .int n ∧ P y := by
  obtain ⟨ds, e, hl, h⟩ := h
  refine ⟨ds, e, hl, h.imp (fun ⟨a, b⟩ => ⟨a, fun n h1 h2 => ⟨n, rfl, b n h1 h2⟩⟩) fun ⟨ns, a, b⟩ => ⟨ns, a, fun n h1 h2 => ⟨n, rfl, b n h1 h2⟩⟩⟩
theorem je_lenset (hc : X.calm = true) (hr : Room k X.A) (hg : Gl X "len") (hm : X.mg "len" = none) (hg2 : Gl X "set") (hm2 : X.mg "set" = none) (ha : PE X a (lE z wa))
    (na : starEach [a] X.env = (false, eval a X.env) :: starEach [] X.env := by rfl) : PE X (.Call (.Name "len" p) [.Call (.Name "set" p2) [a] [] q] [] pos) (lE z (w1 fLenSet wa)) :=
  (pe_lenset hc hr hg hm hg2 hm2 ha na).by fun σ H Q ⟨C, ρ, P, c, er, w, kk⟩ => ⟨C, ρ, _, c, er, w, fun d v C1 H1 p1 g1 rv => ⟨C1, d, g1.ch, rv, p1.int.imp fun y ⟨n, e, py⟩ => ⟨n, e, kk _ _ C1 H1 (e ▸ py) g1 (.int _)⟩⟩⟩
end
end Lr
namespace Lr
open PySem PySem.Spec PyProof.Rows L2
theorem tuple_mul1 (l : Addr) (items : Array Value) (n : Nat) (dd : Option Addr) (sl : Array (Option Value)) (u : Tok) :
    Meets (Builtin.«tuple.__mul__» ⟨[.ref l, .int 1 u], []⟩) (fun _ R s => s.heap.get? l = some { cls := .type "tuple", dict := dd, data := .seq items n, slots := sl } ∧ R (.ok (.ret (.ref l))) s) :=
  .of_wp fun prog w A R s h => by
    obtain ⟨hp, g, d, tk, os⟩ := s
    obtain ⟨hl, h⟩ := h
    have f1 := AutoSeq1.idx_int
    have c1 : (items.isEmpty || (1 : Int) == 1) = true := by simp
    wp_walk using wpAny_loadPart' hl
    repeat (first
      | (refine wpAny_ite_true c1 ?_; wp_walk using wpAny_loadPart' hl))
    exact ⟨_, rfl, h⟩
def rRep1T (K : PySem.W.Frag) : R2 := fun x y H Q => ∃ l xs, x = .ref l ∧ y = .int 1 ∧ SqT K H l xs ∧ Q (.ref l) H
section
variable {X : Cx}
theorem op_rep1T : OpR X (binaryOp .Mult) (rRep1T X.K) := by
  intro pins s σ H x y v u Q I rx ry h
  obtain ⟨l, xs, rfl, rfl, hT, q⟩ := h
  cases rx
  obtain ⟨t, rfl⟩ := ry
  obtain ⟨its, r, ⟨⟨cls, dd, data, sl⟩, ho, hc, n, hd⟩, hs⟩ := I.tuple hT
  simp only at hc hd
  subst hc hd
  refine wpAny_binaryOp_repeat_ref (T := "tuple") (U := "int") (by decide) ⟨_, ho, rfl⟩ (fun s' => typeIs_int s' 1 t) noFill_tuple_mul F.fills_int_mul F.slot_int_rmul repeat_tuple F.slot_int_index.lookup
    (call_meets F.slot_int_rmul (typeIs_int s 1 t) F.entry_int_rmul (F.args_int_rmul_2 _ _) (int_rmul_tuple 1 t l its.toArray n dd sl)
      ⟨ho, rfl, ⟨_, ho, rfl⟩, call_meets F.slot_tuple_mul ⟨_, ho, rfl⟩ F.entry_tuple_mul (F.args_tuple_mul_2 _ _) (tuple_mul1 l its.toArray n dd sl t) ⟨ho, ?_⟩⟩)
  exact ⟨.ref l, H, I, rfl, q⟩
end
abbrev rRepTA (K : PySem.W.Frag) : R2 := fun x y H Q => rRepT K x y H Q ∨ rRep1T K x y H Q
theorem op_repTA {X : Cx} : OpR X (binaryOp .Mult) (rRepTA X.K) := op_repT.or op_rep1T
def fMulT : F2
  | .tuple ds, .int k, P => 1 ≤ k ∧ k ≤ 1000 ∧ ds ≠ [] ∧ ds.length ≤ 1000 ∧ P (.tuple (List.replicate k.toNat ds).flatten)
  | _, _, _ => False
theorem ho_repT {z : Cz} {K : PySem.W.Frag} : Ho2 z (rRepTA K) fMulT := fun C H x y d e P Q c rx ry hf k => by
  cases d with
  | tuple ds =>
    cases e <;> first | exact hf.elim | skip
    rename_i n
    cases ry
    cases rx with
    | @tup a xs _ h1 h2 =>
      obtain ⟨p1, p2, p3, p4, p5⟩ := hf
      by_cases e : n = 1
      · subst e
        refine .inr ⟨_, _, rfl, rfl, SqT.of (c.ch _ _ h1), k _ _ C H p5 c.rf ?_⟩
        rw [show (List.replicate (1 : Int).toNat ds).flatten = ds by simp]
        exact .tup h1 h2
      · have hl := h2.len
        refine .inl ⟨_, _, _, rfl, rfl, SqT.of (c.ch _ _ h1), fun q => p3 (by rw [q] at hl; exact List.eq_nil_of_length_eq_zero hl.symm), by omega, p2, by omega, fun p hp => k _ _ (upd C p _) _ p5 (c.new hp) (.tup upd_same (RpA.rep (h2.up (c.new hp).cc) _))⟩
  | _ => exact hf.elim
end Lr
namespace Lr
theorem nodup_le {α : Type} [DecidableEq α] : ∀ {l U : List α}, l.Nodup → (∀ x ∈ l, x ∈ U) → l.length ≤ U.length
  | [], _, _, _ => Nat.zero_le _
  | x :: l, U, hn, h => by
    have hx := h x List.mem_cons_self
    obtain ⟨h1, h2⟩ := List.nodup_cons.mp hn
    have := nodup_le (U := U.erase x) h2 fun y hy => (List.mem_erase_of_ne (fun (e : y = x) => h1 (by rw [← e]; exact hy))).mpr (h y (List.mem_cons_of_mem _ hy))
    rw [List.length_erase_of_mem hx] at this
    have : 0 < U.length := List.length_pos_of_mem hx
    rw [List.length_cons]; omega
section
variable {σ β : Type} [DecidableEq σ] (step : σ → β → σ) (goal : σ → Bool) (labels : List β)
/-- one turn: the neighbours that are not met yet join the line, and the met ones -/
def expand (s : σ) (p : List β) : List β → List (σ × List β) → List σ → List (σ × List β) × List σ
  | [], line, met => (line, met)
  | b :: bs, line, met => if step s b ∈ met then expand s p bs line met else expand s p bs (line ++ [(step s b, p ++ [b])]) (met ++ [step s b])
/-- none: out of fuel -/
def bfs : Nat → List (σ × List β) → List σ → Option (Option (σ × List β))
  | 0, _, _ => none
  | _ + 1, [], _ => some none
  | f + 1, (s, p) :: line, met => if goal s = true then some (some (s, p)) else bfs f (expand step s p labels line met).1 (expand step s p labels line met).2
def run (s : σ) (p : List β) : σ := p.foldl step s
theorem run_snoc (s : σ) (p : List β) (b : β) : run step s (p ++ [b]) = step (run step s p) b := by simp [run]
/-- what a turn leaves -/
structure Exp (s : σ) (p : List β) (bs : List β) (line line' : List (σ × List β)) (met met' : List σ) : Prop where
  new : ∃ more : List β, (∀ b ∈ more, b ∈ bs) ∧ line' = line ++ more.map (fun b => (step s b, p ++ [b])) ∧ met' = met ++ more.map (step s)
  all : ∀ b ∈ bs, step s b ∈ met'
  nod : met.Nodup → met'.Nodup
theorem expand_ok (s : σ) (p : List β) : ∀ (bs : List β) (line : List (σ × List β)) (met : List σ), Exp step s p bs line (expand step s p bs line met).1 met (expand step s p bs line met).2
  | [], line, met => ⟨⟨[], fun b h => h, by simp [expand], by simp [expand]⟩, (fun b h => by cases h), fun h => h⟩
  | b :: bs, line, met => by
    unfold expand
    by_cases h : step s b ∈ met
    · rw [if_pos h]
      obtain ⟨⟨more, h1, h2, h3⟩, h4, h5⟩ := expand_ok s p bs line met
      refine ⟨⟨more, fun c hc => List.mem_cons_of_mem _ (h1 c hc), h2, h3⟩, fun c hc => ?_, h5⟩
      rcases List.mem_cons.mp hc with e | hc
      · rw [e, h3]; exact List.mem_append_left _ h
      · exact h4 c hc
    · rw [if_neg h]
      obtain ⟨⟨more, h1, h2, h3⟩, h4, h5⟩ := expand_ok s p bs (line ++ [(step s b, p ++ [b])]) (met ++ [step s b])
      refine ⟨⟨b :: more, fun c hc => ?_, by rw [h2]; simp, by rw [h3]; simp⟩, fun c hc => ?_, fun hn => h5 ?_⟩
      · rcases List.mem_cons.mp hc with e | hc
        · rw [e]; exact List.mem_cons_self
        · exact List.mem_cons_of_mem _ (h1 c hc)
      · rcases List.mem_cons.mp hc with e | hc
        · rw [e, h3]; simp
        · exact h4 c hc
      · rw [List.nodup_append]
        exact ⟨hn, by simp, fun a ha c hc e => h (by simp at hc; rw [← hc, ← e]; exact ha)⟩
/-- what holds between the turns; D: the expanded ones, with their depths -/
structure Bi (s0 : σ) (D : List (σ × Nat)) (line : List (σ × List β)) (met : List σ) : Prop where
  at_ : ∀ x ∈ line, x.1 = run step s0 x.2 ∧ ∀ b ∈ x.2, b ∈ labels
  met : ∀ s, s ∈ met ↔ (∃ e, (s, e) ∈ D) ∨ ∃ p, (s, p) ∈ line
  start : (∃ e, (s0, e) ∈ D ∧ e = 0) ∨ ∃ p, (s0, p) ∈ line ∧ p.length = 0
  dn : ∀ x ∈ D, goal x.1 = false ∧ ∀ b ∈ labels, (∃ e, (step x.1 b, e) ∈ D ∧ e ≤ x.2 + 1) ∨ ∃ p, (step x.1 b, p) ∈ line ∧ p.length ≤ x.2 + 1
  low : ∀ x ∈ D, ∀ y ∈ line, x.2 ≤ y.2.length
  srt : line.Pairwise fun x y => x.2.length ≤ y.2.length
  hi : ∀ x ∈ line, ∀ y ∈ line, y.2.length ≤ x.2.length + 1
theorem Bi.start0 (s0 : σ) : Bi step goal labels s0 [] [(s0, [])] [s0] where
  at_ := fun x hx => by simp at hx; subst hx; exact ⟨rfl, fun b hb => by cases hb⟩
  met := fun s => by simp
  start := .inr ⟨[], by simp, rfl⟩
  dn := fun x hx => by cases hx
  low := fun x hx => by cases hx
  srt := by simp
  hi := fun x hx y hy => by simp at hx hy; subst hx hy; simp
variable {step goal labels}
theorem Bi.reach {s0 : σ} {D : List (σ × Nat)} {line : List (σ × List β)} {met : List σ} (B : Bi step goal labels s0 D line met) : ∀ (n : Nat) (q : List β), q.length = n → (∀ b ∈ q, b ∈ labels) →
    (∃ e, (run step s0 q, e) ∈ D ∧ e ≤ q.length) ∨ ∃ x ∈ line, x.2.length ≤ q.length := by
  intro n
  induction n with
  | zero =>
    intro q hl _
    have e : q = [] := List.eq_nil_of_length_eq_zero hl
    subst e
    rcases B.start with ⟨e, h, h0⟩ | ⟨p, h, h0⟩
    · exact .inl ⟨e, h, by omega⟩
    · exact .inr ⟨_, h, by simp [h0]⟩
  | succ n ih =>
    intro q hl hq
    have hne : q ≠ [] := fun e => by rw [e] at hl; cases hl
    have eq : q = q.dropLast ++ [q.getLast hne] := (List.dropLast_concat_getLast hne).symm
    generalize q.dropLast = r at eq
    generalize q.getLast hne = b at eq
    subst eq
    have hr : r.length = n := by simp at hl; exact hl
    rcases ih r hr (fun b hb => hq b (List.mem_append_left _ hb)) with ⟨e, h, he⟩ | ⟨x, hx, hl2⟩
    · rw [run_snoc]
      rcases (B.dn _ h).2 b (hq b (by simp)) with ⟨e2, h2, h3⟩ | ⟨p, h2, h3⟩
      · exact .inl ⟨e2, h2, by simp at h3 ⊢; omega⟩
      · exact .inr ⟨_, h2, by simp at h3 ⊢; omega⟩
    · exact .inr ⟨x, hx, by simp; omega⟩
theorem Bi.next {s0 s : σ} {p : List β} {D : List (σ × Nat)} {line : List (σ × List β)} {met : List σ} (B : Bi step goal labels s0 D ((s, p) :: line) met) (g : goal s = false) :
    Bi step goal labels s0 ((s, p.length) :: D) (expand step s p labels line met).1 (expand step s p labels line met).2 := by
  obtain ⟨⟨more, h1, h2, h3⟩, h4, _⟩ := expand_ok step s p labels line met
  generalize (expand step s p labels line met).1 = line' at h2 ⊢
  generalize (expand step s p labels line met).2 = met' at h3 h4 ⊢
  subst h2 h3
  have hs := B.at_ _ List.mem_cons_self
  have up : ∀ x ∈ line, p.length ≤ x.2.length := fun x hx => (List.pairwise_cons.mp B.srt).1 x hx
  have hi : ∀ x ∈ line, x.2.length ≤ p.length + 1 := fun x hx => B.hi (s, p) List.mem_cons_self x (List.mem_cons_of_mem _ hx)
  have metm : ∀ t, t ∈ met ++ more.map (step s) ↔ (∃ e, (t, e) ∈ (s, p.length) :: D) ∨ ∃ q, (t, q) ∈ line ++ more.map (fun b => (step s b, p ++ [b])) := fun t => by
    rw [List.mem_append, B.met t]
    constructor
    · rintro ((⟨e, h⟩ | ⟨q, h⟩) | h)
      · exact .inl ⟨e, List.mem_cons_of_mem _ h⟩
      · rcases List.mem_cons.mp h with e | h
        · cases e; exact .inl ⟨_, List.mem_cons_self⟩
        · exact .inr ⟨q, List.mem_append_left _ h⟩
      · obtain ⟨b, hb, e⟩ := List.mem_map.mp h
        exact .inr ⟨p ++ [b], List.mem_append_right _ (List.mem_map.mpr ⟨b, hb, by rw [e]⟩)⟩
    · rintro (⟨e, h⟩ | ⟨q, h⟩)
      · rcases List.mem_cons.mp h with e2 | h
        · cases e2; exact .inl (.inr ⟨p, List.mem_cons_self⟩)
        · exact .inl (.inl ⟨e, h⟩)
      · rcases List.mem_append.mp h with h | h
        · exact .inl (.inr ⟨q, List.mem_cons_of_mem _ h⟩)
        · obtain ⟨b, hb, e⟩ := List.mem_map.mp h
          cases e
          exact .inr (List.mem_map.mpr ⟨b, hb, rfl⟩)
  refine ⟨fun x hx => ?_, metm, ?_, fun x hx => ?_, fun x hx y hy => ?_, ?_, fun x hx y hy => ?_⟩
  · rcases List.mem_append.mp hx with hx | hx
    · exact B.at_ x (List.mem_cons_of_mem _ hx)
    · obtain ⟨b, hb, e⟩ := List.mem_map.mp hx
      subst e
      refine ⟨by show step s b = run step s0 (p ++ [b]); rw [run_snoc, ← hs.1], fun c hc => ?_⟩
      rcases List.mem_append.mp hc with hc | hc
      · exact hs.2 c hc
      · simp at hc; rw [hc]; exact h1 b hb
  · rcases B.start with ⟨e, h, h0⟩ | ⟨q, h, h0⟩
    · exact .inl ⟨e, List.mem_cons_of_mem _ h, h0⟩
    · rcases List.mem_cons.mp h with e | h
      · cases e; exact .inl ⟨_, List.mem_cons_self, h0⟩
      · exact .inr ⟨q, List.mem_append_left _ h, h0⟩
  · rcases List.mem_cons.mp hx with e | hx
    · subst e
      refine ⟨g, fun b hb => ?_⟩
      rcases (metm _).mp (h4 b hb) with ⟨e, h⟩ | ⟨q, h⟩
      · refine .inl ⟨e, h, ?_⟩
        rcases List.mem_cons.mp h with e2 | h
        · injection e2 with e3 e4; simp [e4]
        · have := B.low _ h (s, p) List.mem_cons_self
          simp at this ⊢; omega
      · refine .inr ⟨q, h, ?_⟩
        rcases List.mem_append.mp h with h | h
        · exact hi _ h
        · obtain ⟨c, hc, e⟩ := List.mem_map.mp h
          injection e with e1 e2
          rw [← e2]; simp
    · obtain ⟨k1, k2⟩ := B.dn x hx
      refine ⟨k1, fun b hb => ?_⟩
      rcases k2 b hb with ⟨e, h, h0⟩ | ⟨q, h, h0⟩
      · exact .inl ⟨e, List.mem_cons_of_mem _ h, h0⟩
      · rcases List.mem_cons.mp h with e | h
        · injection e with e1 e2
          refine .inl ⟨p.length, ?_, by rw [← e2]; exact h0⟩
          rw [e1]; exact List.mem_cons_self
        · exact .inr ⟨q, List.mem_append_left _ h, h0⟩
  · have hy' : p.length ≤ y.2.length := by
      rcases List.mem_append.mp hy with hy | hy
      · exact up y hy
      · obtain ⟨c, hc, e⟩ := List.mem_map.mp hy
        subst e; simp
    rcases List.mem_cons.mp hx with e | hx
    · subst e; exact hy'
    · exact Nat.le_trans (B.low x hx (s, p) List.mem_cons_self) hy'
  · rw [List.pairwise_append]
    refine ⟨(List.pairwise_cons.mp B.srt).2, ?_, fun x hx y hy => ?_⟩
    · rw [List.pairwise_map]
      exact List.Pairwise.imp (fun {a b} _ => by simp) (List.pairwise_of_forall (R := fun _ _ => True) fun _ _ => trivial)
    · obtain ⟨c, hc, e⟩ := List.mem_map.mp hy
      subst e
      have := hi x hx
      simpa using this
  · have hy' : y.2.length ≤ p.length + 1 := by
      rcases List.mem_append.mp hy with hy | hy
      · exact hi y hy
      · obtain ⟨c, hc, e⟩ := List.mem_map.mp hy
        subst e; simp
    have hx' : p.length ≤ x.2.length := by
      rcases List.mem_append.mp hx with hx | hx
      · exact up x hx
      · obtain ⟨c, hc, e⟩ := List.mem_map.mp hx
        subst e; simp
    omega
/-- what a search tells -/
theorem Bi.told {s0 : σ} : ∀ (f : Nat) {D : List (σ × Nat)} {line : List (σ × List β)} {met : List σ}, Bi step goal labels s0 D line met → ∀ {r : Option (σ × List β)}, bfs step goal labels f line met = some r →
    match r with
    | some (s, p) => s = run step s0 p ∧ goal s = true ∧ (∀ b ∈ p, b ∈ labels) ∧ ∀ q : List β, (∀ b ∈ q, b ∈ labels) → goal (run step s0 q) = true → p.length ≤ q.length
    | none => ∀ q : List β, (∀ b ∈ q, b ∈ labels) → goal (run step s0 q) = false
  | 0, _, _, _, _, _, h => by cases h
  | f + 1, D, [], met, B, r, h => by
    have e : r = none := by unfold bfs at h; exact (Option.some.inj h).symm
    subst e
    intro q hq
    rcases B.reach q.length q rfl hq with ⟨e, h2, _⟩ | ⟨x, hx, _⟩
    · exact (B.dn _ h2).1
    · cases hx
  | f + 1, D, (s, p) :: line, met, B, r, h => by
    unfold bfs at h
    cases g : goal s with
    | true =>
      rw [if_pos g] at h
      have e := Option.some.inj h
      subst e
      obtain ⟨a1, a2⟩ := B.at_ _ List.mem_cons_self
      refine ⟨a1, g, a2, fun q hq gq => ?_⟩
      rcases B.reach q.length q rfl hq with ⟨e, h2, _⟩ | ⟨x, hx, hl⟩
      · have := (B.dn _ h2).1
        simp only at this
        rw [gq] at this; cases this
      · rcases List.mem_cons.mp hx with e | hx
        · subst e; exact hl
        · exact Nat.le_trans ((List.pairwise_cons.mp B.srt).1 x hx) hl
    | false =>
      rw [if_neg (by rw [g]; decide)] at h
      exact Bi.told f (B.next g) h
/-- a search ends where the states are few -/
theorem bfs_ends (U : List σ) (hU : ∀ s ∈ U, ∀ b ∈ labels, step s b ∈ U) : ∀ (f : Nat) (line : List (σ × List β)) (met : List σ), (∀ x ∈ line, x.1 ∈ U) → (∀ s ∈ met, s ∈ U) → met.Nodup → 2 * (U.length - met.length) + line.length < f → ∃ r, bfs step goal labels f line met = some r
  | 0, _, _, _, _, _, h => by omega
  | f + 1, [], _, _, _, _, _ => ⟨none, by simp [bfs]⟩
  | f + 1, (s, p) :: line, met, hl, hm, hn, hf => by
    unfold bfs
    by_cases g : goal s = true
    · rw [if_pos g]; exact ⟨_, rfl⟩
    · rw [if_neg g]
      obtain ⟨⟨more, h1, h2, h3⟩, h4, h5⟩ := expand_ok step s p labels line met
      have hs := hl _ List.mem_cons_self
      have hmU : ∀ t ∈ (expand step s p labels line met).2, t ∈ U := fun t ht => by
        rw [h3] at ht
        rcases List.mem_append.mp ht with ht | ht
        · exact hm t ht
        · obtain ⟨b, hb, e⟩ := List.mem_map.mp ht
          rw [← e]; exact hU s hs b (h1 b hb)
      have hnd := h5 hn
      have hle : (expand step s p labels line met).2.length ≤ U.length := nodup_le hnd hmU
      refine bfs_ends U hU f _ _ (fun x hx => ?_) hmU hnd ?_
      · rw [h2] at hx
        rcases List.mem_append.mp hx with hx | hx
        · exact hl x (List.mem_cons_of_mem _ hx)
        · obtain ⟨b, hb, e⟩ := List.mem_map.mp hx
          subst e; exact hU s hs b (h1 b hb)
      · have e1 : (expand step s p labels line met).1.length = line.length + more.length := by rw [h2]; simp
        have e2 : (expand step s p labels line met).2.length = met.length + more.length := by rw [h3]; simp
        simp only [List.length_cons] at hf
        rw [e2] at hle
        rw [e1, e2]
        omega
end
end Lr
namespace Lr
def seen {α : Type} [DecidableEq α] (xs : List α) : List α := xs.foldl (fun m x => if x ∈ m then m else m ++ [x]) []
/-- the numbers of items, dense, first comers first -/
def namedP {α : Type} [DecidableEq α] (xs : List α) : List Nat := xs.map fun x => (seen xs).idxOf x
/-- the places of the first ones that are the same -/
def firstP {α : Type} [DecidableEq α] (xs : List α) : List Nat := xs.map fun x => xs.idxOf x
section
variable {α β : Type} [DecidableEq α] [DecidableEq β]
theorem seen_mem_aux : ∀ (xs m : List α) (x : α), x ∈ xs.foldl (fun m x => if x ∈ m then m else m ++ [x]) m ↔ x ∈ m ∨ x ∈ xs
  | [], m, x => by simp
  | y :: xs, m, x => by
    rw [List.foldl_cons, seen_mem_aux xs]
    by_cases h : y ∈ m
    · rw [if_pos h, List.mem_cons]
      constructor
      · rintro (a | a)
        · exact .inl a
        · exact .inr (.inr a)
      · rintro (a | a | a)
        · exact .inl a
        · rw [a]; exact .inl h
        · exact .inr a
    · rw [if_neg h, List.mem_append, List.mem_singleton, List.mem_cons]
      constructor
      · rintro ((a | a) | a)
        · exact .inl a
        · exact .inr (.inl a)
        · exact .inr (.inr a)
      · rintro (a | a | a)
        · exact .inl (.inl a)
        · exact .inl (.inr a)
        · exact .inr a
theorem seen_mem (xs : List α) (x : α) : x ∈ seen xs ↔ x ∈ xs := by unfold seen; rw [seen_mem_aux]; simp
theorem seen_len_aux : ∀ (xs m : List α), (xs.foldl (fun m x => if x ∈ m then m else m ++ [x]) m).length ≤ m.length + xs.length
  | [], m => by simp
  | y :: xs, m => by
    rw [List.foldl_cons]
    refine Nat.le_trans (seen_len_aux xs _) ?_
    split
    · simp
    · simp; omega
theorem seen_len (xs : List α) : (seen xs).length ≤ xs.length := by have := seen_len_aux xs []; simpa [seen] using this
theorem idx_inj {l : List α} {a b : α} (ha : a ∈ l) (hb : b ∈ l) (e : l.idxOf a = l.idxOf b) : a = b := by
  have h1 := List.getElem_idxOf (List.idxOf_lt_length_of_mem ha)
  have h2 := List.getElem_idxOf (List.idxOf_lt_length_of_mem hb)
  rw [← h1, ← h2]
  simp only [e]
/-- as many, and the same ones the same -/
def Ker (xs : List α) (ys : List β) : Prop := xs.length = ys.length ∧ ∀ i j, i < xs.length → j < xs.length → (xs[i]? = xs[j]? ↔ ys[i]? = ys[j]?)
theorem Ker.map {f : α → β} {xs : List α} (h : ∀ a ∈ xs, ∀ b ∈ xs, f a = f b → a = b) : Ker xs (xs.map f) := by
  refine ⟨by simp, fun i j hi hj => ?_⟩
  rw [List.getElem?_map, List.getElem?_map, List.getElem?_eq_getElem hi, List.getElem?_eq_getElem hj]
  simp only [Option.map_some, Option.some.injEq]
  exact ⟨fun e => by rw [e], fun e => h _ (List.getElem_mem hi) _ (List.getElem_mem hj) e⟩
theorem ker_named (xs : List α) : Ker xs (namedP xs) := Ker.map fun a ha b hb e => idx_inj ((seen_mem xs a).mpr ha) ((seen_mem xs b).mpr hb) e
theorem ker_first (xs : List α) : Ker xs (firstP xs) := Ker.map fun a ha b hb e => idx_inj ha hb e
theorem named_len (xs : List α) : (namedP xs).length = xs.length := by simp [namedP]
theorem first_len (xs : List α) : (firstP xs).length = xs.length := by simp [firstP]
theorem named_lt (xs : List α) : ∀ n ∈ namedP xs, n < xs.length := fun n hn => by
  obtain ⟨x, hx, rfl⟩ := List.mem_map.mp hn
  exact Nat.lt_of_lt_of_le (List.idxOf_lt_length_of_mem ((seen_mem xs x).mpr hx)) (seen_len xs)
theorem first_lt (xs : List α) : ∀ n ∈ firstP xs, n < xs.length := fun n hn => by
  obtain ⟨x, hx, rfl⟩ := List.mem_map.mp hn
  exact List.idxOf_lt_length_of_mem hx
theorem zip_get {xs : List α} {ys : List β} (h : xs.length = ys.length) {i j : Nat} (hi : i < xs.length) (hj : j < xs.length) : ((xs.zip ys)[i]? = (xs.zip ys)[j]?) ↔ xs[i]? = xs[j]? ∧ ys[i]? = ys[j]? := by
  have hi2 : i < ys.length := by omega
  have hj2 : j < ys.length := by omega
  rw [List.getElem?_eq_getElem (by simp; omega), List.getElem?_eq_getElem (by simp; omega), List.getElem?_eq_getElem hi, List.getElem?_eq_getElem hj, List.getElem?_eq_getElem hi2, List.getElem?_eq_getElem hj2]
  simp
theorem nodup_get {xs : List α} : xs.Nodup ↔ ∀ i j, i < xs.length → j < xs.length → i ≠ j → xs[i]? ≠ xs[j]? := by
  constructor
  · intro h i j hi hj hne e
    exact hne ((List.getElem?_inj hi h).mp e)
  · intro h
    rw [List.nodup_iff_pairwise_ne, List.pairwise_iff_getElem]
    intro i j hi hj hij e
    refine h i j hi hj (by omega) ?_
    rw [List.getElem?_eq_getElem hi, List.getElem?_eq_getElem hj, e]
end
section
variable {β : Type} (nm : List (Nat × Nat) → List Nat) (name : β → List Nat)
def stepN (s : List Nat) (b : β) : List Nat := nm (s.zip (name b))
def goalN (s : List Nat) : Bool := decide s.Nodup
structure Nm (m : Nat) : Prop where
  ker : ∀ xs, Ker xs (nm xs)
  lt : ∀ xs, ∀ n ∈ nm xs, n < xs.length
variable {nm name}
theorem runN {m : Nat} (N : Nm nm m) {s0 : List Nat} (h0 : s0 = List.replicate m 0) : ∀ (n : Nat) (p : List β), p.length = n → (∀ b ∈ p, (name b).length = m) →
    (run (stepN nm name) s0 p).length = m ∧ ∀ i j, i < m → j < m → ((run (stepN nm name) s0 p)[i]? = (run (stepN nm name) s0 p)[j]? ↔ ∀ b ∈ p, (name b)[i]? = (name b)[j]?) := by
  intro n
  induction n with
  | zero =>
    intro p hl _
    have e : p = [] := List.eq_nil_of_length_eq_zero hl
    subst e h0
    refine ⟨by simp [run], fun i j hi hj => ?_⟩
    simp [run, List.getElem?_replicate, hi, hj]
  | succ n ih =>
    intro q hl hq
    have hne : q ≠ [] := fun e => by rw [e] at hl; cases hl
    have eq : q = q.dropLast ++ [q.getLast hne] := (List.dropLast_concat_getLast hne).symm
    generalize q.dropLast = r at eq
    generalize q.getLast hne = b at eq
    subst eq
    have hr : r.length = n := by simp at hl; exact hl
    obtain ⟨k1, k2⟩ := ih r hr (fun b hb => hq b (List.mem_append_left _ hb))
    rw [run_snoc]
    generalize run (stepN nm name) s0 r = s at k1 k2
    have hb : (name b).length = m := hq b (by simp)
    obtain ⟨g1, g2⟩ := N.ker (s.zip (name b))
    have hz : (s.zip (name b)).length = m := by rw [List.length_zip]; omega
    unfold stepN
    refine ⟨by omega, fun i j hi hj => ?_⟩
    rw [← g2 i j (by omega) (by omega), zip_get (by omega) (by omega) (by omega), k2 i j hi hj]
    constructor
    · rintro ⟨a1, a2⟩ c hc
      rcases List.mem_append.mp hc with hc | hc
      · exact a1 c hc
      · simp at hc; rw [hc]; exact a2
    · intro h
      exact ⟨fun c hc => h c (List.mem_append_left _ hc), h b (by simp)⟩
theorem goalN_run {m : Nat} (N : Nm nm m) {p : List β} (hp : ∀ b ∈ p, (name b).length = m) : goalN (run (stepN nm name) (List.replicate m 0) p) = true ↔ ∀ i j, i < m → j < m → i ≠ j → ∃ b ∈ p, (name b)[i]? ≠ (name b)[j]? := by
  obtain ⟨k1, k2⟩ := runN N rfl p.length p rfl hp
  unfold goalN
  rw [decide_eq_true_eq, nodup_get, k1]
  constructor
  · intro h i j hi hj hne
    have := h i j hi hj hne
    rw [Ne, k2 i j hi hj] at this
    apply Classical.byContradiction
    intro hc
    exact this fun b hb => Classical.byContradiction fun q => hc ⟨b, hb, q⟩
  · intro h i j hi hj hne
    rw [Ne, k2 i j hi hj]
    intro q
    obtain ⟨b, hb, n⟩ := h i j hi hj hne
    exact n (q b hb)
/-- all lists of m numbers below n -/
def univ (n : Nat) : Nat → List (List Nat)
  | 0 => [[]]
  | m + 1 => (List.range n).flatMap fun a => (univ n m).map (a :: ·)
theorem univ_mem (n : Nat) : ∀ (m : Nat) (s : List Nat), s ∈ univ n m ↔ s.length = m ∧ ∀ a ∈ s, a < n
  | 0, s => by
    simp only [univ, List.mem_singleton]
    constructor
    · rintro rfl; exact ⟨rfl, by simp⟩
    · rintro ⟨h, _⟩; exact List.eq_nil_of_length_eq_zero h
  | m + 1, s => by
    simp only [univ, List.mem_flatMap, List.mem_map, List.mem_range]
    constructor
    · rintro ⟨a, ha, t, ht, rfl⟩
      obtain ⟨h1, h2⟩ := (univ_mem n m t).mp ht
      refine ⟨by simp [h1], fun b hb => ?_⟩
      rcases List.mem_cons.mp hb with e | hb
      · rw [e]; exact ha
      · exact h2 b hb
    · rintro ⟨h1, h2⟩
      cases s with
      | nil => cases h1
      | cons a t => exact ⟨a, h2 a List.mem_cons_self, t, (univ_mem n m t).mpr ⟨by simpa using h1, fun b hb => h2 b (List.mem_cons_of_mem _ hb)⟩, rfl⟩
theorem searchN {m : Nat} (hm : 1 ≤ m) (N : Nm nm m) {labels : List β} (hl : ∀ b ∈ labels, (name b).length = m) : ∃ f r, bfs (stepN nm name) goalN labels f [(List.replicate m 0, [])] [List.replicate m 0] = some r := by
  have := bfs_ends (step := stepN nm name) (goal := goalN) (labels := labels) (univ m m) (fun s hs b hb => ?_) (2 * ((univ m m).length - 1) + 1 + 1) [(List.replicate m 0, [])] [List.replicate m 0] (fun x hx => ?_) (fun s hs => ?_) (by simp) (by simp)
  · obtain ⟨r, h⟩ := this; exact ⟨_, r, h⟩
  · obtain ⟨h1, h2⟩ := (univ_mem m m s).mp hs
    have hz : (s.zip (name b)).length = m := by rw [List.length_zip, h1, hl b hb]; omega
    exact (univ_mem m m _).mpr ⟨by unfold stepN; rw [← (N.ker _).1, hz], fun a ha => by have := N.lt _ a ha; omega⟩
  · simp at hx; subst hx
    exact (univ_mem m m _).mpr ⟨by simp, fun a ha => by rw [List.mem_replicate] at ha; omega⟩
  · simp at hs; subst hs
    exact (univ_mem m m _).mpr ⟨by simp, fun a ha => by rw [List.mem_replicate] at ha; omega⟩
theorem nm_named (m : Nat) : Nm (namedP (α := Nat × Nat)) m := ⟨ker_named, named_lt⟩
theorem nm_first (m : Nat) : Nm (firstP (α := Nat × Nat)) m := ⟨ker_first, first_lt⟩
end
section
variable {ρ : Type} [DecidableEq ρ] (R : List ρ) (left : ρ → List (List Nat))
/-- roads that tell all apart: left r is what the trains leave of r -/
def Tells (m : Nat) (S : List ρ) : Prop := ∀ i j, i < m → j < m → i ≠ j → ∃ r ∈ S, (left r)[i]? ≠ (left r)[j]?
/-- a least one -/
structure Least (m : Nat) (S : List ρ) : Prop where
  mem : ∀ r ∈ S, r ∈ R
  tells : Tells left m S
  least : ∀ T : List ρ, (∀ r ∈ T, r ∈ R) → Tells left m T → S.length ≤ T.length
variable {R left}
theorem Least.nodup {m : Nat} {S : List ρ} (h : Least R left m S) : S.Nodup := by
  -- the list with each road once
  have key : ∀ S : List ρ, ¬ S.Nodup → (seen S).length < S.length := fun S hn => by
    refine Nat.lt_of_le_of_ne (seen_len S) fun e => hn ?_
    have nd : ∀ (xs m : List ρ), m.Nodup → (xs.foldl (fun m x => if x ∈ m then m else m ++ [x]) m).length = m.length + xs.length → (m ++ xs).Nodup := by
      intro xs
      induction xs with
      | nil => intro m hm _; simpa using hm
      | cons x xs ih =>
        intro m hm hl
        rw [List.foldl_cons] at hl
        by_cases hx : x ∈ m
        · rw [if_pos hx] at hl
          have := seen_len_aux xs m
          simp at hl; omega
        · rw [if_neg hx] at hl
          have := ih (m ++ [x]) (by rw [List.nodup_append]; exact ⟨hm, by simp, fun a ha c hc e => hx (by simp at hc; rw [← hc, ← e]; exact ha)⟩) (by rw [hl]; simp; omega)
          simpa using this
    have := nd S [] List.nodup_nil (by simpa [seen] using e)
    simpa using this
  apply Classical.byContradiction
  intro hn
  have h1 := key S hn
  have h2 := h.least (seen S) (fun r hr => h.mem r ((seen_mem S r).mp hr)) fun i j hi hj hne => by
    obtain ⟨r, hr, n⟩ := h.tells i j hi hj hne
    exact ⟨r, (seen_mem S r).mpr hr, n⟩
  omega
variable {m : Nat} (hR : ∀ r ∈ R, (left r).length = m)
include hR
/-- a search whose labels are the roads, each with its names -/
theorem search_roads {name : ρ → List Nat} (hk : ∀ r ∈ R, Ker (left r) (name r)) {nm : List (Nat × Nat) → List Nat} (N : Nm nm m) {f : Nat} {r : Option (List Nat × List ρ)} (h : bfs (stepN nm name) goalN R f [(List.replicate m 0, [])] [List.replicate m 0] = some r) :
    match r with
    | some (s, p) => Least R left m p
    | none => ∀ S : List ρ, (∀ r ∈ S, r ∈ R) → ¬ Tells left m S := by
  have hl : ∀ b ∈ R, (name b).length = m := fun b hb => by rw [← (hk b hb).1, hR b hb]
  have gt : ∀ S : List ρ, (∀ r ∈ S, r ∈ R) → (goalN (run (stepN nm name) (List.replicate m 0) S) = true ↔ Tells left m S) := fun S hS => by
    rw [goalN_run N fun b hb => hl b (hS b hb)]
    constructor
    · intro h i j hi hj hne
      obtain ⟨b, hb, n⟩ := h i j hi hj hne
      exact ⟨b, hb, fun e => n (((hk b (hS b hb)).2 i j (by rw [hR b (hS b hb)]; exact hi) (by rw [hR b (hS b hb)]; exact hj)).mp e)⟩
    · intro h i j hi hj hne
      obtain ⟨b, hb, n⟩ := h i j hi hj hne
      exact ⟨b, hb, fun e => n (((hk b (hS b hb)).2 i j (by rw [hR b (hS b hb)]; exact hi) (by rw [hR b (hS b hb)]; exact hj)).mpr e)⟩
  have := Bi.told f (Bi.start0 (stepN nm name) goalN R (List.replicate m 0)) h
  match r, this with
  | some (s, p), ⟨a1, a2, a3, a4⟩ =>
    exact ⟨a3, (gt p a3).mp (by rw [← a1]; exact a2), fun T hT tT => a4 T hT ((gt T hT).mpr tT)⟩
  | none, a => exact fun S hS t => by have := a S hS; rw [(gt S hS).mpr t] at this; cases this
/-- a search whose labels are the names alone, each of some road -/
theorem search_parts {parts : List (List Nat)} {name : ρ → List Nat} (hk : ∀ r ∈ R, Ker (left r) (name r)) (h1 : ∀ r ∈ R, name r ∈ parts) (h2 : ∀ q ∈ parts, ∃ r ∈ R, name r = q) {nm : List (Nat × Nat) → List Nat} (N : Nm nm m) {f : Nat} {r : Option (List Nat × List (List Nat))}
    (h : bfs (stepN nm id) goalN parts f [(List.replicate m 0, [])] [List.replicate m 0] = some r) :
    match r with
    | some (s, p) => ∃ S, Least R left m S ∧ S.length = p.length
    | none => ∀ S : List ρ, (∀ r ∈ S, r ∈ R) → ¬ Tells left m S := by
  have hl : ∀ q ∈ parts, (id q : List Nat).length = m := fun q hq => by
    obtain ⟨r, hr, e⟩ := h2 q hq
    rw [id, ← e, ← (hk r hr).1, hR r hr]
  have up : ∀ S : List ρ, (∀ r ∈ S, r ∈ R) → Tells left m S → goalN (run (stepN nm id) (List.replicate m 0) (S.map name)) = true := fun S hS t => by
    rw [goalN_run N fun b hb => by obtain ⟨r, hr, e⟩ := List.mem_map.mp hb; rw [← e]; exact hl _ (h1 r (hS r hr))]
    intro i j hi hj hne
    obtain ⟨b, hb, n⟩ := t i j hi hj hne
    exact ⟨name b, List.mem_map.mpr ⟨b, hb, rfl⟩, fun e => n (((hk b (hS b hb)).2 i j (by rw [hR b (hS b hb)]; exact hi) (by rw [hR b (hS b hb)]; exact hj)).mpr e)⟩
  have down : ∀ p : List (List Nat), (∀ q ∈ p, q ∈ parts) → goalN (run (stepN nm id) (List.replicate m 0) p) = true → ∃ S : List ρ, (∀ r ∈ S, r ∈ R) ∧ S.length = p.length ∧ Tells left m S := fun p hp g => by
    have lift : ∀ p : List (List Nat), (∀ q ∈ p, q ∈ parts) → ∃ S : List ρ, (∀ r ∈ S, r ∈ R) ∧ S.map name = p := by
      intro p
      induction p with
      | nil => intro _; exact ⟨[], by simp, rfl⟩
      | cons q p ih =>
        intro hp
        obtain ⟨r, hr, e⟩ := h2 q (hp q List.mem_cons_self)
        obtain ⟨S, hS, eS⟩ := ih fun x hx => hp x (List.mem_cons_of_mem _ hx)
        refine ⟨r :: S, fun x hx => ?_, by rw [List.map_cons, e, eS]⟩
        rcases List.mem_cons.mp hx with e | hx
        · rw [e]; exact hr
        · exact hS x hx
    obtain ⟨S, hS, rfl⟩ := lift p hp
    refine ⟨S, hS, by simp, fun i j hi hj hne => ?_⟩
    obtain ⟨b, hb, n⟩ := (goalN_run N fun b hb => hl b (hp b hb)).mp g i j hi hj hne
    obtain ⟨r, hr, e⟩ := List.mem_map.mp hb
    subst e
    exact ⟨r, hr, fun e => n (((hk r (hS r hr)).2 i j (by rw [hR r (hS r hr)]; exact hi) (by rw [hR r (hS r hr)]; exact hj)).mp e)⟩
  have := Bi.told f (Bi.start0 (stepN nm id) goalN parts (List.replicate m 0)) h
  match r, this with
  | some (s, p), ⟨a1, a2, a3, a4⟩ =>
    obtain ⟨S, b1, b2, b3⟩ := down p a3 (by rw [← a1]; exact a2)
    refine ⟨S, ⟨b1, b3, fun T hT tT => ?_⟩, b2⟩
    have := a4 (T.map name) (fun q hq => by obtain ⟨r, hr, e⟩ := List.mem_map.mp hq; rw [← e]; exact h1 r (hT r hr)) (up T hT tT)
    rw [List.length_map] at this
    omega
  | none, a =>
    intro S hS t
    have := a (S.map name) (fun q hq => by obtain ⟨r, hr, e⟩ := List.mem_map.mp hq; rw [← e]; exact h1 r (hS r hr))
    rw [up S hS t] at this; cases this
end
end Lr
namespace Lr
open PySem PySem.Spec PyProof.Rows L2
section
variable {prog : Program} {w : World} {κ : Type} [DecidableEq κ] {knd : HeapKind prog w κ} {A : Around} {E : Value → Shared → Prop} {s : Shared}
abbrev Ents (κ : Type) := List (κ × Addr × Value)
/-- an entry put, its hash known -/
theorem put_heap {d a : Addr} {xs : Ents κ} {k : κ} {v : Value} {Q : Unit → Shared → Prop} (hu : knd.room A) (hk : knd.is s.heap k a) (hm : s.heap.DictOfH knd d xs) (hz : xs.length ≤ sizeLine)
    (hQ : ∀ h', h'.DictOfH knd d (storedH xs k a v) → Heap.SameBut d s.heap h' → Q () { s with heap := h' }) : wpAny (model prog w) A (dictPut d (knd.hash k) (.ref a) v) Q E s := by
  obtain ⟨o, es, ep, ho, hc, hd, he, his, hn⟩ := hm
  have hz' : es.size ≤ sizeLine := by have e := size_of_entries he; omega
  unfold dictPut
  refine wpAny_bind (wpAny_dictFind_heap hu hk ho hd he his hn (fun hno => ?_) fun j p hj => ?_)
  · have e0 := storedH_new (atKey_none_of_get hno) a v
    have hnot := not_mem_keys_of_get hno
    refine wpAny_updateDictKeys (hz := hz') ho hd (hQ _ ⟨_, _, ep + 1, Heap.get?_update_self _ ho (Obj.isFreed_of_dict (Obj.data_mapDictKeys hd _)), hc.mapDictKeys _, Obj.data_mapDictKeys hd _, ?_, ?_, ?_⟩ (Heap.SameBut.update ..))
    · rw [e0, List.map_append, ← he]
      simp [entryOfKey]
    · intro x hx
      rw [e0] at hx
      rcases List.mem_append.mp hx with hx | hx
      · exact knd.keeps (his x hx) ho hd (Heap.SameBut.update ..)
      · obtain rfl := List.mem_singleton.mp hx
        exact knd.keeps hk ho hd (Heap.SameBut.update ..)
    · rw [e0, List.map_append, List.nodup_append]
      exact ⟨hn, by simp, fun x hx y hy => by
        obtain rfl : y = k := by simpa using hy
        exact fun e => hnot (e ▸ hx)⟩
  · have e0 := storedH_old (atKey_of_get hn hj) a v
    refine wpAny_updateDict ho hd (hQ _ ⟨_, _, ep, Heap.get?_update_self _ ho (Obj.isFreed_of_dict (Obj.data_mapDict hd _)), hc.mapDict _, Obj.data_mapDict hd _, ?_, ?_, ?_⟩ (Heap.SameBut.update ..))
    · have q := modify_map_putAt (entryOfKey knd) (fun e : DictEntry => { e with val := v }) k v (fun _ _ => rfl) hn hj
      rw [e0, ← q, ← he]
      obtain ⟨l⟩ := es
      simp
    · rw [e0]
      intro x hx
      obtain ⟨y, hy, rfl⟩ := List.mem_map.mp hx
      unfold putAt
      split <;> exact knd.keeps (his y hy) ho hd (Heap.SameBut.update ..)
    · rw [e0, keys_map_putAt]; exact hn
/-- {.., **o}: d, a new dict, takes the entries of o -/
theorem merge_heap {d o : Addr} {kvs more : Ents κ} {Q : Unit → Shared → Prop} (hu : knd.room A) (hne : d ≠ o) (hoS : (o == sysModules) = false)
    (hd : s.heap.DictOfH knd d kvs) (ho : s.heap.DictOfH knd o more) (hap : (∀ x ∈ more, s.TypeIs (.ref x.2.1) "tuple") ∧ (more.map fun x => knd.hash x.1).Nodup) (hz : kvs.length + more.length ≤ sizeLine)
    (hQ : ∀ h', h'.DictOfH knd d (storedAllH kvs more) → h'.DictOfH knd o more → Heap.SameBut d s.heap h' → Q () { s with heap := h' }) : wpAny (model prog w) A (mergeMapping d (.ref o) false) Q E s := by
  obtain ⟨od, esd, epd, hod, hcd, hdd, hed, hisd, hnd⟩ := id hd
  obtain ⟨oo, eso, epo, hoo, hco, hdo, heo, hiso, hno⟩ := id ho
  have hlen : eso.size = more.length := size_of_entries heo
  unfold mergeMapping
  refine wpAny_bind (wpAny_isInstance ho.typeIs isSubtype_dict_dict ?_)
  rw [if_pos rfl]
  refine wpAny_bind (wpAny_specialOf ho.typeIs F.slot_dict_iter.lookup ?_)
  refine wpAny_bind (wpAny_pure ?_)
  simp only [beq_self_eq_true]
  rw [if_neg (by rw [hoS]; decide)]
  refine wpAny_bind (wpAny_dictEntries hod hdd ?_)
  have loop : wpAny (model prog w) A (do
      let es ← dictEntries o
      let epoch ← dictEpoch o
      forIn (List.range es.size) PUnit.unit fun i (_ : PUnit) => (do
          let l ← dictEntries o
          match l[i]? with
            | some e => do
              holding [e.key, e.val] (dictPut d e.hash e.key e.val)
              let ep' ← dictEpoch o
              if (ep' != epoch) = true then do
                  (unsupported "dict.changed-during-merge" : Sem PUnit)
                  pure (ForInStep.yield PUnit.unit)
                else pure (ForInStep.yield PUnit.unit)
            | _ => do
              (unsupported "dict.changed-during-merge" : Sem PUnit)
              pure (ForInStep.yield PUnit.unit) : Sem (ForInStep PUnit))
      pure ()) Q E s := by
    refine wpAny_bind (wpAny_dictEntries hoo hdo (wpAny_bind (wpAny_dictEpoch hoo hdo (wpAny_bind ?_))))
    refine wpAny_forIn_list _
      (fun rest _ s' => ∃ h' i, s' = { s with heap := h' } ∧ rest = (List.range eso.size).drop i ∧ i ≤ eso.size ∧ h'.DictOfH knd d (storedAllH kvs (more.take i)) ∧ h'.DictOfH knd o more ∧ h'.get? o = some oo ∧ Heap.SameBut d s.heap h')
      _ ?_ ?_ _ _ ⟨s.heap, 0, rfl, by simp, Nat.zero_le _, by simpa [storedAllH] using hd, ho, hoo, Heap.SameBut.refl _ _⟩
    · rintro x rest b s' ⟨h', i, rfl, hr, hi, d1, o1, g1, sb⟩
      have hlt : i < eso.size := by
        rcases Nat.lt_or_ge i eso.size with h | h
        · exact h
        · rw [List.drop_eq_nil_of_le (by simpa using h)] at hr; cases hr
      rw [List.drop_eq_getElem_cons (by simpa using hlt)] at hr
      obtain ⟨e1, hrest⟩ := List.cons.inj hr
      have e1 : x = i := by simpa using e1
      subst e1
      refine wpAny_bind (wpAny_dictEntries g1 hdo ?_)
      obtain ⟨⟨k, a, v⟩, hkv⟩ : ∃ kv, more[x]? = some kv := ⟨more[x]'(by rw [← hlen]; exact hlt), List.getElem?_eq_getElem _⟩
      rw [entry_at heo x, hkv]
      show wpAny _ _ (holding [.ref a, v] (dictPut d (knd.hash k) (.ref a) v) >>= _) _ _ _
      have hmx : (storedAllH kvs (more.take x)).length ≤ sizeLine := by
        have q1 := storedAllH_length (more.take x) kvs
        have q2 : (more.take x).length ≤ more.length := by rw [List.length_take]; omega
        omega
      have hkey : knd.is h' k a := by
        obtain ⟨_, _, _, _, _, _, _, his', _⟩ := o1
        exact his' (k, a, v) (List.mem_of_getElem? hkv)
      refine wpAny_bind (wpAny_holding (put_heap (s := { s with heap := h' }) hu hkey d1 hmx fun h2 d2 sb2 => ?_))
      have g2 : h2.get? o = some oo := (sb2.2 o (Ne.symm hne)).trans g1
      refine wpAny_bind (wpAny_dictEpoch g2 hdo ?_)
      rw [if_neg (by simp)]
      exact wpAny_pure ⟨h2, x + 1, rfl, hrest, hlt, by rw [storedAllH_take_succ kvs more x (k, a, v) hkv]; exact d2, o1.notHere d1 hne sb2, g2, sb.trans sb2⟩
    · rintro b s' ⟨h', i, rfl, hr, hi, d1, o1, g1, sb⟩
      have hin : i = eso.size := by
        rcases Nat.lt_or_ge i eso.size with h | h
        · rw [List.drop_eq_getElem_cons (by simpa using h)] at hr; cases hr
        · omega
      refine wpAny_pure (hQ h' ?_ o1 sb)
      rw [hin, hlen, List.take_length] at d1; exact d1
  refine wpAny_ite_split (fun _ => ?_) fun _ => loop
  refine wpAny_bind (wpAny_dictEntries hoo hdo (wpAny_bind ?_))
  rw [← Array.forIn_toList]
  refine wpAny_forIn_list _ (fun rest _ s' => s' = s ∧ ∀ e ∈ rest, KeyApart s eso e) _ ?_ ?_ _ _ ⟨rfl, keysApart heo hap.1 hap.2⟩
  · rintro e rest b s' ⟨rfl, hall⟩
    have hrest : ∀ x ∈ rest, KeyApart s' eso x := fun x hx => hall x (List.mem_cons_of_mem _ hx)
    rcases hall e List.mem_cons_self with hv | ⟨a, hk, hT, h1⟩
    · cases hkey : e.key <;> first
        | exact wpAny_pure ⟨rfl, hrest⟩
        | (rw [hkey] at hv; cases hv)
    · rw [hk]
      refine wpAny_bind (wpAny_specialOf hT F.slot_tuple_eq.lookup ?_)
      refine wpAny_ite_split (fun _ => ?_) fun _ => wpAny_pure ⟨rfl, hrest⟩
      rw [if_neg (by omega)]
      exact wpAny_pure ⟨rfl, hrest⟩
  · rintro b s' ⟨rfl, _⟩
    exact loop
end

section
variable {X : Cx} {pos : Pos}
abbrev dT0 : Obj := { cls := .type "dict", data := .dict #[] }
theorem pe_dnewF : PE X (.Dict [] [] pos) (fun _ H Q => ∀ p o, H p = none → Q (.ref p) (upd H p (.frz o (.dT [])))) := ⟨fun pins s σ H Q I h =>
  wpAny_Dict_empty ⟨.ref s.heap.objs.size, _, I.laid (o := .frz dT0 (.dT [])) (t' := s.toks) (fun _ _ q => Heap.get?_push_of_some _ q) (Nat.le_refl _) ⟨Heap.get?_push_size _ rfl, dt_empty s.heap I.big⟩, rfl, h _ _ (I.hok.fresh (Nat.le_refl _))⟩⟩
/-- len(d) -/
theorem call_lenF : CallR X (.builtin "len") (fun xs H Q => ∃ a o kvs, xs = [V.ref a] ∧ H a = some (.frz o (.dT kvs)) ∧ Q (.int kvs.length) H) := by
  intro pins s σ H xs us Q I r h
  obtain ⟨a, o, kvs, rfl, ha, q⟩ := h
  obtain ⟨u, rfl, ru⟩ := vals1 r
  cases ru
  obtain ⟨z, hd, xs, rel, dd⟩ := dt_rd I.hok (.inr ⟨o, ha⟩)
  have hl : kvs.length = xs.length := Paired.length rel
  refine call_len_dictH hd dd (by rw [← hl]; rw [sizeLine_eq] at z; omega) ⟨.int kvs.length, H, I.tok _, ⟨_, by rw [hl]⟩, q⟩
theorem KT.all {H : Hp} : ∀ {kvs : List (List Key × V)} {xs : Ents (List Key)} {ys : Ents (List Key)} {acc : List (List Key × V)}, KT H kvs xs → KT H acc ys → KT H (kvs.foldl (fun m p => putK m p.1 p.2) acc) (storedAllH ys xs)
  | _, _, _, _, .nil, t => t
  | _, _, _, _, .cons (a := p) (b := q) r rs, t => by
    rw [List.foldl_cons]
    show KT H _ (storedAllH (storedH _ q.1 q.2.1 q.2.2) _)
    refine KT.all rs ?_
    rw [← r.1]
    exact t.put p.1 r.2.1 r.2.2
theorem Paired.get {α β : Type} {F : α → β → Prop} : ∀ {l₁ : List α} {l₂ : List β} {j : Nat} {x : α}, Paired F l₁ l₂ → l₁[j]? = some x → ∃ y, l₂[j]? = some y ∧ F x y
  | _, _, _, _, .nil, h => by simp at h
  | _, _, 0, _, .cons r _, h => ⟨_, rfl, by simp at h; subst h; exact r⟩
  | _, _, j + 1, _, .cons _ t, h => by
    obtain ⟨y, h1, h2⟩ := Paired.get (j := j) t (by simpa using h)
    exact ⟨y, by simpa using h1, h2⟩
/-- the pairs of a list, read in the heap -/
theorem pairs_rd {pins : List (Addr × Obj)} {σ : L2.St} {H : Hp} {s : Shared} (I : Inv X pins σ H s) : ∀ {ps : List Addr} {kvs : List (List Key × V)}, Paired (fun (p : Addr) (kv : List Key × V) => ∃ b, SqT X.K H p [.ref b, kv.2] ∧ H b = some (.tup (kv.1.map kV))) ps kvs →
    ∃ xs : Ents (List Key), KT H kvs xs ∧ xs.length = ps.length ∧ Paired (fun (p : Addr) (x : List Key × Addr × Value) => IsTup s.heap p #[.ref x.2.1, x.2.2]) ps xs
  | _, _, .nil => ⟨[], .nil, rfl, .nil⟩
  | _, _, .cons (a := p) (b := kv) ⟨b, h, hb⟩ t => by
    obtain ⟨xs, r, hl, hp⟩ := pairs_rd I t
    obtain ⟨its, rv, ht, _⟩ := I.tuple h
    obtain ⟨u, y, ei, ru, ry⟩ := vals2 rv
    subst ei
    obtain rfl : u = Value.ref b := ru
    exact ⟨(kv.1, b, y) :: xs, .cons ⟨rfl, hb, ry⟩ r, by rw [List.length_cons, List.length_cons, hl], .cons ht hp⟩
theorem dt_ok {prog : Program} {w : World} {H : Hp} {h : Heap} {p : Addr} {kvs : List (List Key × V)} {xs : Ents (List Key)} (hz : kvs.length ≤ sizeLine) (hs : (p == sysModules) = false) (r : KT H kvs xs) (d : h.DictOfH (tupleKind (mixKind prog w)) p xs) (hn : H p = none) :
    ∃ o, ObjOk prog w (upd H p (.frz o (.dT kvs))) h p (.frz o (.dT kvs)) := by
  obtain ⟨o, es, ep, h1, h2, h3, h4, h5, h6⟩ := d
  exact ⟨o, h1, hz, hs, xs, KT.keeps r fun b ys e => by rw [upd_ne (ne_of_none e hn)]; exact e, o, es, ep, h1, h2, h3, h4, h6⟩
/-- dict(xs), xs a list of pairs whose keys are tuples -/
theorem call_dictF {k : Nat} (hc : X.calm = true) (hr : Room k X.A) : CallR X (.type "dict") (fun xs H Q => ∃ (a : Addr) (ps : List Addr) (kvs : List (List Key × V)), xs = [.ref a] ∧ SqL X.K H a (ps.map V.ref) ∧ Paired (fun (p : Addr) (kv : List Key × V) => ∃ b, SqT X.K H p [.ref b, kv.2] ∧ H b = some (.tup (kv.1.map kV))) ps kvs ∧
    ∀ p o, H p = none → Q (.ref p) (upd H p (.frz o (.dT (kvs.foldl (fun m q => putK m q.1 q.2) []))))) := by
  intro pins s σ H xs us Q I r q
  obtain ⟨a, ps, kvs, ex, hq, hp, q⟩ := q
  subst ex
  obtain ⟨u, eu, rx⟩ := vals1 r
  subst eu
  cases rx
  obtain ⟨its, rv, pl, hz⟩ := I.list hq
  have ei := refs_at rv
  subst ei
  rw [List.length_map] at hz
  obtain ⟨es, rel, hl, hpr⟩ := pairs_rd I hp
  have hle : es.length = kvs.length := (Paired.length rel).symm
  let pv : List (Value × Value) := es.map fun x => (.ref x.2.1, x.2.2)
  have hpv : pv.length = ps.length := by rw [← hl]; simp [pv]
  refine call_dict_pairsH (knd := tupleKind (mixKind X.prog X.w)) (ps := es) (PairArg.list a (ps.map Value.ref).toArray (fun j => ps.getD j 0) pv) (I.ok.hd hc) (by have := u65 hr; show X.A.in1.in1.units < cLine; simp only [Around.in1]; omega) ⟨?_, by simp [hpv], fun j key v hj => ?_⟩ ⟨by rw [hpv, hl], fun j key v hj => ?_⟩ (fun h' hk x hx => ?_) (by rw [hpv]; exact hz) fun h' tk hd' kp => ?_
  · obtain ⟨o, n, ho, hc, hd, hdat⟩ := pl
    exact ⟨o, n, ho, hc, hd, hdat⟩
  · obtain ⟨x, hx, e⟩ := Option.map_eq_some_iff.mp (by rw [← List.getElem?_map]; exact hj)
    cases e
    have hj' : j < ps.length := by rw [← hl]; exact (List.getElem?_eq_some_iff.mp hx).1
    obtain ⟨y, hy, ht⟩ := Paired.get hpr (List.getElem?_eq_getElem hj')
    rw [hx] at hy
    cases hy
    refine ⟨by simp [hj'], .inl ?_⟩
    show s.heap.IsTuple (ps.getD j 0) _
    rw [List.getD_eq_getElem?_getD, List.getElem?_eq_getElem hj']
    exact ht
  · obtain ⟨x, hx, e⟩ := Option.map_eq_some_iff.mp (by rw [← List.getElem?_map]; exact hj)
    cases e
    exact ⟨x.1, x.2.1, hx, rfl⟩
  · have all : ∀ {l : List (List Key × V)} {m : Ents (List Key)}, KT H l m → ∀ x ∈ m, H x.2.1 = some (.tup (x.1.map kV)) := by
      intro l m q
      induction q with
      | nil => intro x hx; cases hx
      | @cons p q ps qs hq t ih =>
        intro x hx
        rcases List.mem_cons.mp hx with e | hx
        · subst e; rw [← hq.1]; exact hq.2.1
        · exact ih x hx
    have e := all rel x hx
    obtain ⟨o, items, n, h1, h2, h3, h4⟩ := key_of (P := X.prog) (w := X.w) I.hok e
    exact ⟨o, items, n, hk _ _ (Nat.ne_of_lt (Heap.lt_size h1)) (by simp) h1, h2, h3, h4⟩
  · have hs : (s.heap.objs.size == sysModules) = false := beq_eq_false_iff_ne.mpr (Nat.ne_of_gt I.big)
    have r0 : KT H (kvs.foldl (fun m q => putK m q.1 q.2) []) (storedAllH [] es) := KT.all rel .nil
    have hzz : (kvs.foldl (fun m q => putK m q.1 q.2) []).length ≤ sizeLine := by
      rw [Paired.length r0]
      refine Nat.le_trans (storedAllH_length es []) ?_
      rw [List.length_nil, Nat.zero_add, hl]; exact hz
    obtain ⟨o, ok⟩ := dt_ok hzz hs r0 hd' (I.hok.fresh (Nat.le_refl _))
    exact ⟨.ref s.heap.objs.size, _, I.laid (t' := tk) (fun b u e => kp b u (by simp) e) (Nat.le_refl _) ok, rfl, q _ _ (I.hok.fresh (Nat.le_refl _))⟩
/-- no two of these keys hash alike -/
def Hd (P : Program) (w : World) (ks : List (List Key × V)) : Prop := (ks.map fun p => tupleKeyHash (mixKind P w) p.1).Nodup
abbrev putAll (m ks : List (List Key × V)) : List (List Key × V) := ks.foldl (fun m q => putK m q.1 q.2) m
theorem Mut.dT {ks : List (List Key × V)} : Mut (some (.dT ks)) := True.intro
theorem merge_in {k : Nat} {pins : List (Addr × Obj)} {σ : L2.St} {H : Hp} {s : Shared} {p a : Addr} {o : Obj} {ms ks : List (List Key × V)} {Q : Unit → Shared → Prop} {E : Value → Shared → Prop} (hr : Room k X.A) (I : Inv X pins σ H s) (hp : H p = some (.dT ms)) (ha : H a = some (.frz o (.dT ks))) (hd : Hd X.prog X.w ks) (hz : ms.length + ks.length ≤ sizeLine)
    (hQ : ∀ s', Inv X pins σ (upd H p (.dT (putAll ms ks))) s' → Q () s') : wpAny (model X.prog X.w) X.A (mergeMapping p (.ref a) false) Q E s := by
  obtain ⟨z1, hs1, xs, r1, d1⟩ := dt_rd I.hok (.inl hp)
  obtain ⟨z2, hs2, ys, r2, d2⟩ := dt_rd I.hok (.inr ⟨o, ha⟩)
  have hne : p ≠ a := fun e => by rw [e, ha] at hp; cases hp
  have l1 : ms.length = xs.length := Paired.length r1
  have l2 : ks.length = ys.length := Paired.length r2
  have keys : ∀ {l : List (List Key × V)} {m : Ents (List Key)}, KT H l m → m.map (fun x => (tupleKind (mixKind X.prog X.w)).hash x.1) = l.map fun p => tupleKeyHash (mixKind X.prog X.w) p.1 := by
    intro l m q
    induction q with
    | nil => rfl
    | @cons p q ps qs hq t ih => rw [List.map_cons, List.map_cons, ih, hq.1]; rfl
  refine merge_heap (knd := tupleKind (mixKind X.prog X.w)) (by have := u65 hr; show X.A.units < cLine; omega) hne hs2 d1 d2 ⟨fun x hx => ?_, by rw [keys r2]; exact hd⟩ (by rw [← l1, ← l2]; exact hz) fun h' d3 _ sb => hQ _ ?_
  · obtain ⟨_, _, _, _, _, _, _, his, _⟩ := d2
    exact IsTupleKey.typeIs (his x hx)
  · have r3 : KT H (putAll ms ks) (storedAllH xs ys) := KT.all r2 r1
    have hzz : (putAll ms ks).length ≤ sizeLine := by
      rw [Paired.length r3]
      exact Nat.le_trans (storedAllH_length ys xs) (by rw [← l1, ← l2]; exact hz)
    obtain ⟨o3, es, ep, h1, h2, h3, h4, h5, h6⟩ := d3
    refine d_write (t' := s.toks) I (by rw [hp]; exact Mut.dT) sb ⟨o3, h1⟩ ⟨hzz, hs1, _, KT.keeps r3 fun b ys e => ?_, o3, es, ep, h1, h2, h3, h4, h6⟩
    rw [upd_ne (ne_of e hp (by intro q; cases q))]; exact e
def tMerge (P : Program) (w : World) (ta tb : TE) : TE := fun σ H Q => ∀ p, H p = none → ta σ (upd H p (.dT [])) fun x H1 => H1 p = some (.dT []) ∧ ∃ a o ks, x = .ref a ∧ H1 a = some (.frz o (.dT ks)) ∧ Hd P w ks ∧
  tb σ (upd H1 p (.dT (putAll [] ks))) fun y H2 => H2 p = some (.dT (putAll [] ks)) ∧ ∃ b o2 us, y = .ref b ∧ H2 b = some (.frz o2 (.dT us)) ∧ Hd P w us ∧ (putAll [] ks).length + us.length ≤ sizeLine ∧ ∀ o3, Q (.ref p) (upd H2 p (.frz o3 (.dT (putAll (putAll [] ks) us))))
theorem pe_dmerge {k : Nat} {a b : Expr} {ta tb : TE} (hr : Room k X.A) (ha : PE X a ta) (hb : PE X b tb) : PE X (.Dict [none, none] [a, b] pos) (tMerge X.prog X.w ta tb) := by
  refine ⟨fun pins s σ H Q I h => ?_⟩
  rw [arm_eval_Dict]
  show wpAny _ _ (standAt pos >>= fun _ => dictDisplay [(none, do let x ← eval a X.env; standAt pos; pure x), (none, do let x ← eval b X.env; standAt pos; pure x)]) _ _ s
  refine wpAny_bind (wpAny_standAt ?_)
  unfold dictDisplay
  simp only [List.forIn_cons, List.forIn_nil, List.isEmpty_nil, if_true, bind_assoc, pure_bind]
  refine wpAny_bind (wpAny_alloc ?_)
  have I1 := I.laid (o := .dT []) (t' := s.toks) (fun _ _ q => Heap.get?_push_of_some _ q) (Nat.le_refl _) (dt_empty (P := X.prog) (w := X.w) s.heap I.big)
  have hp := I.hok.fresh (Nat.le_refl s.heap.objs.size)
  generalize s.heap.objs.size = p at *
  refine wpAny_bind (wpAny_holding (wpAny_bind (thn (ha.run pins _ σ _ _ I1 (h p hp)) fun u s1 ⟨x, H1, I1, rx, hp1, a, o, ks, ex, ha1, hd1, q1⟩ => wpAny_bind (wpAny_standAt (wpAny_pure ?_)))))
  subst ex
  obtain rfl : u = Value.ref a := rx
  have hz1 : ks.length ≤ sizeLine := (dt_rd I1.hok (.inr ⟨o, ha1⟩)).1
  refine wpAny_bind (wpAny_onRaise (wpAny_tryCatch (wpAny_onRaise (wpAny_holding (merge_in hr I1 hp1 ha1 hd1 (by rw [List.length_nil, Nat.zero_add]; exact hz1) fun s2 I2 => ?_)))))
  refine wpAny_bind (wpAny_holding (wpAny_bind (thn (hb.run pins _ σ _ _ I2 q1) fun u s3 ⟨y, H2, I3, ry, hp2, b, o2, us, ey, hb2, hd2, hz2, q2⟩ => wpAny_bind (wpAny_standAt (wpAny_pure ?_)))))
  subst ey
  obtain rfl : u = Value.ref b := ry
  refine wpAny_bind (wpAny_onRaise (wpAny_tryCatch (wpAny_onRaise (wpAny_holding (merge_in hr I3 hp2 hb2 hd2 hz2 fun s4 I4 => wpAny_pure ?_)))))
  obtain ⟨od, I5⟩ := I4.lock upd_same Mut.dT
  rw [upd_upd] at I5
  exact ⟨.ref p, _, I5, rfl, q2 od⟩
end
end Lr
namespace Lr
open PySem PySem.Spec PyProof.Rows L2
/-- a dict with trains as keys -/
def dcD (es : List (List Nat × PyData)) : PyData := .dict ((.none, .none) :: es.map fun p => (tD p.1, p.2))
def kyN (t : List Nat) : List L2.Key := t.map fun (n : Nat) => Sum.inl (n : Int)
theorem kyN_inj {a b : List Nat} (h : kyN a = kyN b) : a = b := by
  unfold kyN at h
  have := congrArg (List.map fun (k : L2.Key) => match k with | .inl i => i.toNat | .inr _ => 0) h
  simpa [List.map_map, Function.comp_def] using this
theorem kyN_kV (t : List Nat) : (kyN t).map kV = t.map fun (n : Nat) => V.int (n : Int) := by unfold kyN; rw [List.map_map]; rfl
theorem rp_nums {C : Hp} : ∀ {t : List Nat} {xs : List V}, RpA C xs (t.map nD) → xs = t.map fun (n : Nat) => V.int (n : Int)
  | [], _, .nil => rfl
  | n :: t, _, .cons r rs => by
    cases r
    rw [List.map_cons, ← rp_nums rs]
theorem rp_tD {C : Hp} {v : V} {t : List Nat} (h : Rp C v (tD t)) : ∃ a, v = .ref a ∧ C a = some (.tup ((kyN t).map kV)) := by
  unfold tD at h
  cases h with
  | tup h1 h2 => exact ⟨_, rfl, by rw [kyN_kV, ← rp_nums h2]; exact h1⟩
theorem key_back : ∀ {k : List L2.Key} {t : List Nat}, t.map nD = k.map keyP → k = kyN t
  | [], [], _ => rfl
  | [], _ :: _, h => by cases h
  | _ :: _, [], h => by cases h
  | x :: k, n :: t, h => by
    rw [List.map_cons, List.map_cons] at h
    obtain ⟨h1, h2⟩ := List.cons.inj h
    cases x with
    | inl i =>
      have e : (n : Int) = i := by injection h1
      subst e
      show _ = Sum.inl (n : Int) :: kyN t
      rw [key_back h2]
    | inr x => cases h1
def DcR (C : Hp) (ks : List (List L2.Key × V)) (es : List (List Nat × PyData)) : Prop := Paired (fun (k : List L2.Key × V) (e : List Nat × PyData) => k.1 = kyN e.1 ∧ Rp C k.2 e.2) ks es
theorem rpD_of {C : Hp} : ∀ {es : List (List Nat × PyData)} {ks : List (List L2.Key × V)}, RpD C ks (es.map fun p => (tD p.1, p.2)) → DcR C ks es
  | [], _, h => by cases h; exact .nil
  | e :: es, _, h => by
    rw [List.map_cons] at h
    unfold tD at h
    cases h with
    | cons q r t => exact .cons ⟨key_back q, r⟩ (rpD_of t)
theorem rpD_to {C : Hp} : ∀ {es : List (List Nat × PyData)} {ks : List (List L2.Key × V)}, DcR C ks es → RpD C ks (es.map fun p => (tD p.1, p.2))
  | _, _, .nil => .nil
  | _, _, .cons r t => by
    obtain ⟨q, r⟩ := r
    refine RpD.cons ?_ r (rpD_to t)
    rw [q]
    unfold kyN
    rw [List.map_map]; rfl
theorem rp_dcD {C : Hp} {v : V} {es : List (List Nat × PyData)} (h : Rp C v (dcD es)) : ∃ a o ks, v = .ref a ∧ C a = some (.frz o (.dT ks)) ∧ DcR C ks es := by
  unfold dcD at h
  cases h with
  | dct h1 h2 => exact ⟨_, _, _, rfl, h1, rpD_of h2⟩
theorem dcD_rp {C : Hp} {a : Addr} {o : Obj} {ks : List (List L2.Key × V)} {es : List (List Nat × PyData)} (h : C a = some (.frz o (.dT ks))) (r : DcR C ks es) : Rp C (.ref a) (dcD es) := .dct h (rpD_to r)
theorem DcR.up {C C' : Hp} {ks : List (List L2.Key × V)} {es : List (List Nat × PyData)} (r : DcR C ks es) (e : Ex C C') : DcR C' ks es := Paired.mapQ r fun a b y => ⟨y.1, y.2.up e⟩
def putN (es : List (List Nat × PyData)) (t : List Nat) (v : PyData) : List (List Nat × PyData) := if t ∈ es.map (·.1) then es.map (fun e => if e.1 = t then (e.1, v) else e) else es ++ [(t, v)]
def putsN (es fs : List (List Nat × PyData)) : List (List Nat × PyData) := fs.foldl (fun m p => putN m p.1 p.2) es
theorem DcR.any {C : Hp} {ks : List (List L2.Key × V)} {es : List (List Nat × PyData)} (r : DcR C ks es) (t : List Nat) : (ks.any fun kv => decide (kv.1 = kyN t)) = decide (t ∈ es.map (·.1)) := by
  induction r with
  | nil => simp
  | @cons k e ks es q _ ih =>
    rw [List.any_cons, ih, ← Bool.decide_or]
    refine decide_eq_decide.mpr ⟨fun h => ?_, fun h => ?_⟩
    · rw [List.map_cons, List.mem_cons]
      rcases h with h | h
      · exact .inl (kyN_inj (by rw [← h, q.1]))
      · exact .inr h
    · rw [List.map_cons, List.mem_cons] at h
      rcases h with h | h
      · exact .inl (by rw [q.1, h])
      · exact .inr h
theorem DcR.put {C : Hp} {ks : List (List L2.Key × V)} {es : List (List Nat × PyData)} {v : V} {d : PyData} (r : DcR C ks es) (t : List Nat) (hv : Rp C v d) : DcR C (putK ks (kyN t) v) (putN es t d) := by
  unfold putK putN
  rw [r.any t]
  by_cases h : t ∈ es.map (·.1)
  · rw [if_pos (decide_eq_true h), if_pos h]
    clear h
    induction r with
    | nil => exact .nil
    | @cons k e ks es q _ ih =>
      rw [List.map_cons, List.map_cons]
      refine .cons ?_ ih
      by_cases h2 : e.1 = t
      · rw [if_pos h2, if_pos (by rw [q.1, h2])]; exact ⟨q.1, hv⟩
      · rw [if_neg h2, if_neg (fun x => h2 (kyN_inj (by rw [← q.1, x])))]; exact q
  · rw [if_neg (by simpa using h), if_neg h]
    clear h
    induction r with
    | nil => exact .cons ⟨rfl, hv⟩ .nil
    | cons q _ ih => exact .cons q ih
theorem DcR.puts {C : Hp} : ∀ {us : List (List L2.Key × V)} {fs : List (List Nat × PyData)} {ks : List (List L2.Key × V)} {es : List (List Nat × PyData)}, DcR C us fs → DcR C ks es → DcR C (putAll ks us) (putsN es fs)
  | _, _, _, _, .nil, r => r
  | _, _, _, _, .cons (a := u) (b := f) q t, r => by
    show DcR C (putAll (putK _ u.1 u.2) _) (putsN (putN _ f.1 f.2) _)
    refine DcR.puts t ?_
    rw [q.1]
    exact r.put f.1 q.2
theorem DcR.val {C : Hp} {ks : List (List L2.Key × V)} {es : List (List Nat × PyData)} (r : DcR C ks es) (hn : (es.map (·.1)).Nodup) : ∀ {i : Nat} {k : List L2.Key} {v : V}, ks[i]? = some (k, v) → ∃ t d, es[i]? = some (t, d) ∧ k = kyN t ∧ Rp C v d ∧ valV ks k = some v := by
  induction r with
  | nil => intro i k v h; simp at h
  | @cons k0 e ks es q t ih =>
    intro i k v h
    rw [List.map_cons, List.nodup_cons] at hn
    cases i with
    | zero =>
      rw [List.getElem?_cons_zero] at h
      cases h
      exact ⟨e.1, e.2, by simp, q.1, q.2, valV_pos rfl⟩
    | succ i =>
      rw [List.getElem?_cons_succ] at h
      obtain ⟨t', d, h1, h2, h3, h4⟩ := ih hn.2 h
      refine ⟨t', d, by simpa using h1, h2, h3, ?_⟩
      rw [valV_neg, h4]
      intro x
      refine hn.1 ?_
      have : e.1 = t' := kyN_inj (by rw [← q.1, ← h2]; exact x)
      rw [this]
      exact List.mem_map.mpr ⟨_, List.mem_of_getElem? h1, rfl⟩
def tH (t : List Nat) : Int := PySem.reduceHash (PySem.Builtin.Tuple.tupleHashOf (t.map fun (n : Nat) => PySem.hashInt (n : Int)))
theorem DcR.hd {C : Hp} {P : Program} {w : World} {ks : List (List L2.Key × V)} {es : List (List Nat × PyData)} (r : DcR C ks es) (h : (es.map fun e => tH e.1).Nodup) : Hd P w ks := by
  unfold Hd
  have e : ks.map (fun p => tupleKeyHash (mixKind P w) p.1) = es.map fun e => tH e.1 := by
    clear h
    induction r with
    | nil => rfl
    | cons q _ ih =>
      rw [List.map_cons, List.map_cons, ih, q.1]
      congr 1
      unfold tupleKeyHash tH kyN
      rw [List.map_map]
      rfl
  rw [e]; exact h
theorem DcR.len {C : Hp} {ks : List (List L2.Key × V)} {es : List (List Nat × PyData)} (r : DcR C ks es) : ks.length = es.length := Paired.length r
section
variable {X : Cx} {z : Cz} {e a b : Expr} {es : List Expr} {wa wb : WE} {t : WA} {pos : Pos} {k : Nat}
theorem je_dnew : PE X (.Dict [] [] pos) (lE z (wC (dcD []))) := pe_dnewF.by fun σ H Q ⟨C, ρ, P, c, er, h, k⟩ p o hp => k _ _ (upd C p _) _ h (c.new hp) (dcD_rp upd_same .nil)
def fLenD : F1 := fun d P => ∃ es, d = dcD es ∧ P (.int es.length)
theorem hoL_lenD : HoL z (fun xs H Q => ∃ a o kvs, xs = [V.ref a] ∧ H a = some (.frz o (.dT kvs)) ∧ Q (.int kvs.length) H) (arg1 fLenD) :=
  hoL1 (r1 := fun x H Q => ∃ a o kvs, x = V.ref a ∧ H a = some (.frz o (.dT kvs)) ∧ Q (.int kvs.length) H) (fun C H x d P Q c rx ⟨es, e, hf⟩ k => by
    subst e
    obtain ⟨a, o, ks, rfl, h1, h2⟩ := rp_dcD rx
    exact ⟨a, o, ks, rfl, c.ch _ _ h1, by rw [h2.len]; exact k _ _ C H hf c.rf (.int _)⟩) fun x H Q ⟨a, o, kvs, e, h⟩ => ⟨a, o, kvs, by rw [e], h⟩
def fDNot : F2 := fun d e P => ∃ t es, d = tD t ∧ e = dcD es ∧ P (.bool (decide (t ∉ es.map (·.1))))
theorem jt_dnot (hr : Room k X.A) (ha : PE X a (lE z wa)) (hb : PE X b (lE z wb)) (h1 : behindInMarks .NotIn b = false) : PT X (.Compare a [.NotIn] [b] pos) (lT z (tV (w2 fDNot wa wb))) :=
  jt_cmpC (pc_dnotin (by have := u65 hr; omega) ha hb) (fun σ H Q h => tie2 (r := fun y x H Q => ∃ a o, x = .ref a ∧ DGet H a y o ∧ Q (.bl (!o.isSome)) H) (fun C H x y d e P Q c rx ry ⟨t, es, e1, e2, hf⟩ k => by
    subst e1 e2
    obtain ⟨p, rfl, hp⟩ := rp_tD rx
    obtain ⟨q, o, ks, rfl, hq, hr⟩ := rp_dcD ry
    refine ⟨q, valV ks (kyN t), rfl, .inr ⟨ks, kyN t, p, .inr ⟨o, c.ch _ _ hq⟩, rfl, c.ch _ _ hp, rfl⟩, ?_⟩
    rw [← valV_any, hr.any t, ← decide_not]
    exact k _ _ C H hf c.rf (.bl _)) h) h1
def fDict : F1 := fun d P => ∃ ps : List (List Nat × PyData), d = .list (ps.map fun p => .tuple [tD p.1, p.2]) ∧ P (dcD (putsN [] ps))
theorem rp_pairsD {C : Hp} : ∀ {ps : List (List Nat × PyData)} {xs : List V}, RpA C xs (ps.map fun p => .tuple [tD p.1, p.2]) → ∃ (as : List Addr) (ks : List (List L2.Key × V)), xs = as.map V.ref ∧ DcR C ks ps ∧
    Paired (fun (p : Addr) (kv : List L2.Key × V) => ∃ b, C p = some (.tup [.ref b, kv.2]) ∧ C b = some (.tup (kv.1.map kV))) as ks
  | [], _, h => by cases h; exact ⟨[], [], rfl, .nil, .nil⟩
  | p :: ps, _, h => by
    rw [List.map_cons] at h
    cases h with
    | cons r t =>
      cases r with
      | tup h1 h2 =>
        cases h2 with
        | cons r1 h3 =>
          cases h3 with
          | cons r2 h4 =>
            cases h4
            obtain ⟨as, ks, rfl, h5, h6⟩ := rp_pairsD t
            obtain ⟨b, rfl, hb⟩ := rp_tD r1
            exact ⟨_ :: as, (kyN p.1, _) :: ks, rfl, .cons ⟨rfl, r2⟩ h5, .cons ⟨b, h1, hb⟩ h6⟩
theorem hoL_dict {K : PySem.W.Frag} : HoL z (fun xs H Q => ∃ (a : Addr) (ps : List Addr) (kvs : List (List L2.Key × V)), xs = [.ref a] ∧ SqL K H a (ps.map V.ref) ∧ Paired (fun (p : Addr) (kv : List L2.Key × V) => ∃ b, SqT K H p [.ref b, kv.2] ∧ H b = some (.tup (kv.1.map kV))) ps kvs ∧
    ∀ p o, H p = none → Q (.ref p) (upd H p (.frz o (.dT (kvs.foldl (fun m q => putK m q.1 q.2) []))))) (arg1 fDict) := fun C H vs ds P Q c rv hf k => by
  match ds, hf with
  | [d], ⟨ps, e, hf⟩ =>
    subst e
    cases rv with
    | cons r1 r2 =>
      cases r2
      cases r1 with
      | lst h1 h2 =>
        obtain ⟨as, ks, rfl, h3, h4⟩ := rp_pairsD h2
        refine ⟨_, as, ks, rfl, SqL.of (c.ch _ _ h1), Paired.mapQ h4 fun p kv ⟨b, q1, q2⟩ => ⟨b, SqT.of (c.ch _ _ q1), c.ch _ _ q2⟩, fun p o hp => k _ _ (upd C p _) _ hf (c.new hp) (dcD_rp upd_same ?_)⟩
        exact (DcR.puts h3 .nil).up (c.new hp).cc
/-- an own dict grows -/
theorem Gw.appT {C1 H1 C3 H3 : Hp} {D : Addr} {l l' : List (List L2.Key × V)} (c1 : Core z C1 H1) (gg : Gw z C1 H1 C3 H3) (hD : H1 D = none) (h3 : H3 D = some (.dT l)) (hC : C3 D = none) : Gw z C1 H1 C3 (upd H3 D (.dT l')) := by
  have nexD : ¬ z.ex D := fun q => z.there _ _ c1.ok q hD
  refine ⟨gg.cc, fun a o h => ?_, fun a o x h => ?_, gg.fr, fun p hp => ?_, fun t ht => ?_⟩
  · rw [upd_ne (fun q => by rw [q, hC] at h; cases h)]; exact gg.ch a o h
  · rw [upd_ne (ne_of_none h hD)]; exact gg.hh a o x h
  · obtain ⟨a0, b0, h0, q0⟩ := gg.ok.1 p hp
    exact ⟨a0, b0, by rw [upd_ne (fun q => nexD (by rw [← q]; exact .inl hp))]; exact h0, q0⟩
  · obtain ⟨ps, h1, h2, h4⟩ := gg.ok.2 t ht
    refine ⟨ps, by rw [upd_ne (fun q => nexD (by rw [← q]; exact .inr ⟨t, ht, rfl⟩))]; exact h1, h2, fun pos cv hc => ?_⟩
    obtain ⟨c0, k1, k2⟩ := h4 pos cv hc
    refine ⟨c0, k1, ?_⟩
    rw [upd_ne (fun q => by rw [← q, k2] at h3; cases h3)]
    exact k2
/-- .. and joins the core -/
theorem Gw.join {C1 H1 C3 H3 : Hp} {D : Addr} {o : HO} {l : List (List L2.Key × V)} (c1 : Core z C1 H1) (gg : Gw z C1 H1 C3 H3) (hD : H1 D = none) (h3 : H3 D = some (.dT l)) (hC : C3 D = none) : Gw z C1 H1 (upd C3 D o) (upd H3 D o) := by
  have nexD : ¬ z.ex D := fun q => z.there _ _ c1.ok q hD
  refine ⟨fun a u h => Ex.new hC a u (gg.cc a u h), fun a u h => ?_, fun a u x h => ?_, fun a h n => ?_, fun p hp => ?_, fun t ht => ?_⟩
  · by_cases q : a = D
    · subst q; rw [upd_same] at h ⊢; exact h
    · rw [upd_ne q] at h ⊢; exact gg.ch a u h
  · rw [upd_ne (ne_of_none h hD)]; exact gg.hh a u x h
  · by_cases q : a = D
    · subst q; exact hD
    · rw [upd_ne q] at h; exact gg.fr a h n
  · obtain ⟨a0, b0, h0, q0⟩ := gg.ok.1 p hp
    exact ⟨a0, b0, by rw [upd_ne (fun q => nexD (by rw [← q]; exact .inl hp))]; exact h0, q0⟩
  · obtain ⟨ps, h1, h2, h4⟩ := gg.ok.2 t ht
    refine ⟨ps, by rw [upd_ne (fun q => nexD (by rw [← q]; exact .inr ⟨t, ht, rfl⟩))]; exact h1, h2, fun pos cv hc => ?_⟩
    obtain ⟨c0, k1, k2⟩ := h4 pos cv hc
    refine ⟨c0, k1, ?_⟩
    rw [upd_ne (fun q => by rw [← q, k2] at h3; cases h3)]
    exact k2
theorem Gw.stayT {C' H C2 H2 : Hp} {D : Addr} {o : HO} (g2 : Gw z C' H C2 H2) (nexD : ¬ z.ex D) (e1 : H D = some o) (e2 : C' D = none) : H2 D = some o ∧ C2 D = none := ⟨g2.hh D _ nexD e1, by
  cases q : C2 D with
  | none => rfl
  | some o => have := g2.fr D (by rw [q]; simp) e2; rw [this] at e1; cases e1⟩
/-- {**a, **b} -/
def wMerge (wa wb : WE) : WE := fun ρ P => wa ρ fun d => ∃ es, d = dcD es ∧ (es.map fun e => tH e.1).Nodup ∧ wb ρ fun e => ∃ fs, e = dcD fs ∧ (fs.map fun e => tH e.1).Nodup ∧ (putsN [] es).length + fs.length ≤ lim ∧ P (dcD (putsN (putsN [] es) fs))
theorem je_dmerge (hr : Room k X.A) (ha : PE X a (lE z wa)) (hb : PE X b (lE z wb)) : PE X (.Dict [none, none] [a, b] pos) (lE z (wMerge wa wb)) :=
  (pe_dmerge hr ha hb).by fun σ H Q ⟨C, ρ, P, c, er, w, kk⟩ p hp => by
    have nexD : ¬ z.ex p := fun q => z.there _ _ c.ok q hp
    have g0 : Gw z C H C (upd H p (.dT [])) := c.grow (Ex.new hp)
    have hC : C p = none := c.ch.back hp
    refine ⟨C, ρ, _, c.gw g0, er.gw g0, w, fun d v C1 H1 p1 g1 rv => ?_⟩
    obtain ⟨es, e1, hd1, p1⟩ := p1
    subst e1
    obtain ⟨s1, s2⟩ := g1.stayT nexD upd_same hC
    obtain ⟨qa, o, ks, rfl, h1, h2⟩ := rp_dcD rv
    refine ⟨s1, qa, o, ks, rfl, g1.ch _ _ h1, h2.hd hd1, ?_⟩
    have g2 : Gw z C H C1 (upd H1 p (.dT (putAll [] ks))) := (g0.tr g1).appT c hp s1 s2
    refine ⟨C1, ρ, _, c.gw g2, er.gw g2, p1, fun d2 v2 C2 H2 p2 g3 rv2 => ?_⟩
    obtain ⟨fs, e2, hd2, hz, p2⟩ := p2
    subst e2
    obtain ⟨s3, s4⟩ := g3.stayT nexD upd_same s2
    obtain ⟨qb, o2, us, rfl, h3, h4⟩ := rp_dcD rv2
    have m1 : DcR C2 (putAll [] ks) (putsN [] es) := DcR.puts (h2.up g3.cc) .nil
    refine ⟨s3, qb, o2, us, rfl, g3.ch _ _ h3, h4.hd hd2, by rw [m1.len, h4.len]; exact lim_ok hz, fun o3 => ?_⟩
    have g4 := Gw.join (o := .frz o3 (.dT (putAll (putAll [] ks) us))) c (g2.tr g3) hp s3 s4
    exact kk _ _ _ _ p2 g4 (dcD_rp upd_same ((DcR.puts h4 m1).up (Ex.new s4)))
end
end Lr
namespace Lr
open PySem PySem.Spec PyProof.Rows L2
/-- a name is bound to what is not told -/
theorem ER.veil {z : Cz} {C H : Hp} {σ : L2.St} {ρ : Env'} {i : Nat} {v : V} (x : ER z C H σ ρ) : ER z C H (σ.set i (some v)) (ρ.set i none) where
  len := by simp [x.len]
  at_ := fun j => by
    rw [getD_set, getD_set]
    by_cases e : i = j ∧ j < σ.length
    · rw [if_pos e, if_pos ⟨e.1, by rw [← x.len]; exact e.2⟩]; trivial
    · rw [if_neg e, if_neg (by rw [← x.len]; exact e)]; exact x.at_ j
  ap := fun j k q n e1 e2 e3 => by
    rw [getD_set] at e1 e2 e3 ⊢
    rw [← x.len] at *
    by_cases ej : i = j ∧ j < σ.length
    · rw [if_pos ej] at e2; cases e2
    · by_cases ek : i = k ∧ k < σ.length
      · rw [if_pos ek]; rfl
      · rw [if_neg ej] at e1 e2; rw [if_neg ek] at e3 ⊢
        exact x.ap j k q n e1 e2 e3
def wLcDs (g1 : WG) (te : WE) (ρ1 : Env') : List (List Nat × PyData) → List PyData → (PyData → Prop) → Prop
  | [], acc, P => P (.list acc)
  | e :: es, acc, P => ∃ ds, e.2 = .tuple ds ∧ wIn g1 te ρ1 ds acc fun acc' => wLcDs g1 te ρ1 es acc' P
def wLcD (iD iK : Nat) (g1 : WG) (te : WE) (vs vs1 : List Nat) : WE := fun ρ P => ∃ es, ρ[iD]? = some (some (.d (dcD es))) ∧ (es.map (·.1)).Nodup ∧ wLcDs g1 te (wipe' ((wipe' ρ vs).set iK none) vs1) es [] P
theorem wipe_keep {σ : L2.St} {vs : List Nat} {i : Nat} (h : i ∉ vs) : (L2.wipe σ vs)[i]? = σ[i]? := by rw [wipe_get, if_neg h]
theorem tie_lcD {X : Cx} {z : Cz} {iD iK : Nat} {g1 : WG} {te : WE} {sl1 vs vs1 : List Nat} (hK : iK ∈ vs) (hD : iD ∉ vs) (hK1 : iK ∉ vs1) (hD1 : iD ∉ vs1) (hs1 : ∀ i ∈ sl1, i ∈ vs1) (hlen : ∀ σ : L2.St, σ.length = X.N.length → iK < σ.length) {σ : L2.St} (hσ : σ.length = X.N.length) {H : Hp} {Q : VK} (h : lE z (wLcD iD iK g1 te vs vs1) σ H Q) :
    tLc2 (iKeys (tVar iD)) (gName iK) tYes (iTup X.K (tDGet (tVar iD) (tVar iK))) (lG z sl1 g1) tYes (lE z te) vs vs1 σ H Q := by
  obtain ⟨C1, ρ, P, c1, er, ⟨es, hv, hnd, w⟩, k⟩ := h
  obtain ⟨vD, hvD, rD⟩ := er.var hv
  obtain ⟨d, o, ks, rfl, h1, h2⟩ := rp_dcD rD
  refine ⟨.ref d, hvD, d, o, rfl, .inr ⟨ks, c1.ch _ _ h1, fun D hDn => ?_⟩⟩
  have nexD : ¬ z.ex D := fun q => z.there _ _ c1.ok q hDn
  let Pv : Nat → Hp → Prop := fun i H' => ∃ C' accv acc, Gw z C1 H C' H' ∧ H' D = some (.lst accv) ∧ C' D = none ∧ RpA C' accv acc ∧ wLcDs g1 te (wipe' ((wipe' ρ vs).set iK none) vs1) (es.drop i) acc P
  have fin : ∀ H', Pv ks.length H' → Q (.ref D) H' := fun H' ⟨C', accv, acc, gw, e1, e2, r, w⟩ => by
    rw [h2.len, List.drop_length] at w
    refine k _ _ (upd C' D (.lst accv)) H' w ⟨fun a o h => Ex.new e2 a o (gw.cc a o h), fun a o h => ?_, gw.hh, fun a h n => ?_, gw.ok⟩ (.lst upd_same (r.up (Ex.new e2)))
    · by_cases q : a = D
      · subst q; rw [upd_same] at h; rw [e1]; exact h
      · rw [upd_ne q] at h; exact gw.ch a o h
    · by_cases q : a = D
      · subst q; exact hDn
      · rw [upd_ne q] at h; exact gw.fr a h n
  refine ⟨fun i m H' => m = ks.length - i ∧ i ≤ ks.length ∧ Pv i H', ⟨ks.length, rfl, Nat.zero_le _, C1, [], [], c1.grow (Ex.new hDn), upd_same, c1.ch.back hDn, .nil, by rw [List.drop_zero]; exact w⟩, ?_⟩
  rintro i m H' ⟨rfl, hi, C', accv, acc, gw, e1, e2, r, w⟩
  have hd : H' d = some (.frz o (.dT ks)) := gw.ch _ _ (gw.cc _ _ h1)
  by_cases hlt : i < ks.length
  · obtain ⟨t, dv, hes, hkt, rdv, hval⟩ := h2.val hnd (i := i) (k := (ks[i]).1) (v := (ks[i]).2) (List.getElem?_eq_getElem hlt)
    have e : es.drop i = (t, dv) :: es.drop (i + 1) := by
      obtain ⟨q1, q2⟩ := List.getElem?_eq_some_iff.mp hes
      rw [← q2]; exact List.drop_eq_getElem_cons q1
    rw [e] at w
    obtain ⟨ds, hds, w⟩ := w
    have hds : dv = .tuple ds := hds
    subst hds
    refine .inr ⟨⟨hd, hlt⟩, Pv (i + 1), fun H' h' => ⟨ks.length - (i + 1), by omega, rfl, hlt, h'⟩, fun x H2 hy => ?_⟩
    obtain ⟨rfl, k0, v0, q, hk0, rfl, hq⟩ := hy
    rw [List.getElem?_eq_getElem hlt] at hk0
    have ek0 : ks[i] = (k0, v0) := Option.some.inj hk0
    rw [ek0] at hkt rdv hval
    simp only at hkt rdv hval
    have lw : (L2.wipe σ vs).length = σ.length := L2.wipe_length _ _
    refine ⟨?_, ?_⟩
    · apply List.ext_getElem?
      intro j
      rw [wipe_get, wipe_get]
      by_cases hj : j ∈ vs
      · rw [if_pos hj, if_pos hj]
        by_cases hl : j < σ.length
        · rw [List.getElem?_eq_getElem (by simpa [lw] using hl), List.getElem?_eq_getElem hl]; rfl
        · rw [List.getElem?_eq_none (by simp [lw]; omega), List.getElem?_eq_none (by omega)]
      · rw [if_neg hj, if_neg hj, List.getElem?_set_ne (fun q => hj (by rw [← q]; exact hK)), wipe_get, if_neg hj]
    dsimp only [tYes]
    rw [if_pos rfl]
    refine ⟨.ref d, ?_, .ref q, ?_, d, v0, rfl, .inr ⟨ks, k0, q, .inr ⟨o, hd⟩, rfl, hq, hval.symm⟩, ?_⟩
    · rw [List.getElem?_set_ne (fun q => hD (by rw [← q]; exact hK)), wipe_keep hD]; exact hvD
    · rw [List.getElem?_set_self (by rw [lw]; exact hlen σ hσ)]
    cases rdv with
    | @tup a xs _ h3 h4 =>
      refine ⟨a, rfl, ⟨xs, SqT.of (gw.ch _ _ (gw.cc _ _ h3))⟩, ?_⟩
      let Pin : Nat → Hp → Prop := fun j H3 => ∃ C3 accv acc, Gw z C1 H C3 H3 ∧ H3 D = some (.lst accv) ∧ C3 D = none ∧ RpA C3 accv acc ∧ wIn g1 te (wipe' ((wipe' ρ vs).set iK none) vs1) (ds.drop j) acc fun acc' => wLcDs g1 te (wipe' ((wipe' ρ vs).set iK none) vs1) (es.drop (i + 1)) acc' P
      refine ⟨fun j kk H3 => kk = xs.length - j ∧ j ≤ xs.length ∧ Pin j H3, ⟨xs.length, rfl, Nat.zero_le _, C', accv, acc, gw, e1, e2, r, by rw [List.drop_zero]; exact w⟩, ?_⟩
      rintro j kk H3 ⟨rfl, hj, C3, accv3, acc3, gw3, e31, e32, r3, w3⟩
      have hseq : SqT X.K H3 a xs := SqT.of (gw3.ch _ _ (gw3.cc _ _ h3))
      by_cases hjn : j < xs.length
      · obtain ⟨dj, hdj, rdj⟩ := (h4.up gw3.cc).getV (List.getElem?_eq_getElem hjn)
        have ej : ds.drop j = dj :: ds.drop (j + 1) := by
          obtain ⟨q1, q2⟩ := List.getElem?_eq_some_iff.mp hdj
          rw [← q2]; exact List.drop_eq_getElem_cons q1
        rw [ej] at w3
        refine .inr ⟨⟨xs, xs[j], hseq, List.getElem?_eq_getElem hjn⟩, Pin (j + 1), fun H' h' => ⟨xs.length - (j + 1), by omega, rfl, hjn, h'⟩, fun x H4 hy => ?_⟩
        obtain ⟨rfl, fy⟩ := hy
        have ex : x = xs[j] := Option.some.inj ((fy xs hseq).symm.trans (List.getElem?_eq_getElem hjn))
        subst ex
        have er3 := (((er.gw gw3).wipe vs).veil (i := iK) (v := .ref q)).wipe vs1
        refine ⟨C3, _, dj, _, c1.gw gw3, er3, rdj, w3, fun ρ2 σ3 p3 ee3 o3 => ⟨wipe_eq o3 hs1, ?_⟩⟩
        refine iteT ?_
        refine ⟨C3, ρ2, _, c1.gw gw3, ee3 C3 H4 Ex.rfl er3, p3, fun y v C4 H5 p4 g4 r4 => ?_⟩
        obtain ⟨s1, s2⟩ := g4.stay nexD e31 e32
        exact ⟨accv3, s1, by rw [r3.len]; exact lim_lt p4.1, C4, _, acc3 ++ [y], Gw.app c1 (gw3.tr g4) hDn s1 s2, upd_same, s2, (r3.up g4.cc).app (.one r4), p4.2⟩
      · rw [List.drop_eq_nil_of_le (by rw [← h4.len]; omega)] at w3
        exact .inl ⟨⟨xs, hseq, by omega⟩, C3, accv3, acc3, gw3, e31, e32, r3, w3⟩
  · have e : i = ks.length := by omega
    subst e
    exact .inl ⟨⟨hd, Nat.le_refl _⟩, fin H' ⟨C', accv, acc, gw, e1, e2, r, w⟩⟩
section
variable {X : Cx} {z : Cz} {elt tg1 : Expr} {dn kn : Str} {p1 p2 p3 p4 p5 pos : Pos} {scope : Scope} {own : List (Str × Nat)} {iD iK : Nat} {g1 : WG} {te : WE} {sl1 vs1 : List Nat} {k : Nat}
theorem je_lcD (vs1 : List Nat) (hc : X.calm = true) (hr : Room k X.A) (hN : X.N.Nodup) (hd : PE X (.Name dn p2) (tVar iD)) (ok : BlkOk X.N X.env.scope scope own) (hv : ∀ i ∈ vs1, i ∈ own.map (·.2)) (hg : Blk X scope fun X => PG X (.Name kn p1) (gName iK)) (hd1 : Blk X scope fun X => PE X (.Name dn p3) (tVar iD)) (hk1 : Blk X scope fun X => PE X (.Name kn p4) (tVar iK))
    (hg1 : Blk X scope fun X => PG X tg1 (lG z sl1 g1)) (he : Blk X scope fun X => PE X elt (lE z te)) (hK : iK ∈ own.map (·.2)) (hD : iD ∉ own.map (·.2)) (hK1 : iK ∉ vs1) (hD1 : iD ∉ vs1) (hs1 : ∀ i ∈ sl1, i ∈ vs1) (hl : iK < X.N.length)
    (hf : ∀ x, foldedSetIterable (.Name dn p2) X.env x = pure x := by intro _; rfl) (hf1 : ∀ env x, foldedSetIterable (.Subscript (.Name dn p3) (.Name kn p4) p5) env x = pure x := by intro _ _; rfl) :
    PE X (.ListComp elt [⟨.Name kn p1, .Name dn p2, [], 0⟩, ⟨tg1, .Subscript (.Name dn p3) (.Name kn p4) p5, [], 0⟩] scope pos) (lE z (wLcD iD iK g1 te (own.map (·.2)) vs1)) := by
  have h0 := pe_lc2 (wi1 := iTup X.K (tDGet (tVar iD) (tVar iK))) (vs1 := vs1) (pos := pos) hc hN (pi_keys hd) ok hv hg (fun _ _ _ _ _ => pts_nil) (fun s H C cl fp => pi_tup (pe_dget (X := X.blk s H scope (compEnvC scope cl C X.env) fp) (pos := p5) (show X.A.units + 1 < cLine by have := u65 hr; omega) (hd1 s H C cl fp) (hk1 s H C cl fp) fun _ _ => rfl)) hg1 (fun _ _ _ _ _ => pts_nil) he hf hf1
  refine ⟨fun pins s σ H Q I h => h0.run pins s σ H Q I (tie_lcD hK hD hK1 hD1 hs1 (fun σ e => by rw [e]; exact hl) ?_ h)⟩
  exact I.len
end
end Lr
namespace Lr
open PySem PySem.Spec PyProof.Rows L2
def kNum (ns : List Int) : NestedKey := .tup (ns.map .num)
def numK : NestedKey → List Int
  | .tup ks => ks.map fun k => match k with
    | .num i => i
    | _ => 0
  | _ => []
theorem numK_kNum (ns : List Int) : numK (kNum ns) = ns := by
  show (ns.map NestedKey.num).map _ = ns
  rw [List.map_map]
  exact (List.map_congr_left fun _ _ => rfl).trans (List.map_id ns)
theorem hashes_num (w : World) : ∀ ns : List Int, NestedKey.hashes w (ns.map .num) = ns.map hashInt
  | [] => rfl
  | n :: ns => by rw [List.map_cons, NestedKey.hashes, NestedKey.hash, hashes_num w ns]; rfl
theorem hash_kNum (P : Program) (w : World) (ns : List Int) : NestedKey.hash w (kNum ns) = thash P w ns := by
  show reduceHash (Builtin.Tuple.tupleHashOf (NestedKey.hashes w (ns.map .num))) = reduceHash (Builtin.Tuple.tupleHashOf (ns.map hashInt))
  rw [hashes_num]
theorem nestedAll_ints {h : Heap} : ∀ {ns : List Int} {us : List Value}, PyProof.Rows.IntsAre us ns → NestedAll h (ns.map .num) us
  | _, _, .nil => .nil
  | _, _, .cons n tk r => .cons (.int n tk) (nestedAll_ints r)
theorem isT_kat {P : Program} {w : World} {h : Heap} {ns : List Int} {a : Addr} (x : IsT P w h ns a) : KAt h (kNum ns) a := by
  obtain ⟨b, items, e, ⟨o, ho, hc, n, hd⟩, hi⟩ := tupInts_of x
  cases e
  refine ⟨.tup ho hc hd (nestedAll_ints hi), ?_, ?_⟩
  · have : ∀ ns : List Int, NestedKey.depthAll (ns.map .num) = 0 := fun ns => by
      induction ns with
      | nil => rfl
      | cons n ns ih => rw [List.map_cons, NestedKey.depthAll, ih]; rfl
    show NestedKey.depthAll (ns.map .num) + 1 ≤ 8
    rw [this]; decide
  · have : ∀ ns : List Int, noTexts (ns.map .num) = true := fun ns => by
      induction ns with
      | nil => rfl
      | cons n ns ih => rw [List.map_cons, noTexts, ih]; rfl
    exact this ns
theorem SN.t0 {P : Program} {w : World} {h : Heap} {a : Addr} {L : List (Addr × NestedKey)} {es : Array (Int × Value)} {ep : Nat} {t : SetTable} (R : SN w h a L es ep t) {ks : List (Addr × List Int)} (hL : ∀ p ∈ L, p ∈ ks.map fun p => (p.1, kNum p.2)) (h64 : L.length < 64) :
    ∃ L2 : List (Addr × List Int), SetT0 P w h a L2 ∧ L2.map (fun p => (p.1, kNum p.2)) = L := by
  have back : (L.map fun p => (p.1, numK p.2)).map (fun p => (p.1, kNum p.2)) = L := by
    rw [List.map_map]
    refine (List.map_congr_left fun p hp => ?_).trans (List.map_id L)
    obtain ⟨q, _, rfl⟩ := List.mem_map.mp (hL p hp)
    show (q.1, kNum (numK (kNum q.2))) = (q.1, kNum q.2)
    rw [numK_kNum]
  generalize L.map (fun p => (p.1, numK p.2)) = L2 at back
  subst back
  refine ⟨L2, ⟨es, ep, t, R.obj, ?_, ?_, ?_, R.pl, R.ld, ?_, by simpa using h64⟩, rfl⟩
  · rw [R.row, List.map_map]
    unfold rowsOf
    exact List.map_congr_left fun p _ => by
      show (NestedKey.hash w (kNum p.2), Value.ref p.1) = _
      rw [hash_kNum P]
  · have e := R.tab
    rw [List.map_map] at e
    have q : (L2.map ((fun p : Addr × NestedKey => kh w p.2) ∘ fun p : Addr × List Int => (p.1, kNum p.2))) = L2.map fun p => thash P w p.2 := List.map_congr_left fun p _ => hash_kNum P w p.2
    rw [q] at e
    exact e
  · have e := R.nd
    rw [List.map_map] at e
    have q : (L2.map ((fun p : Addr × NestedKey => p.2) ∘ fun p : Addr × List Int => (p.1, kNum p.2))) = (L2.map (·.2)).map kNum := by rw [List.map_map]; rfl
    rw [q] at e
    exact nodup_of_map e
  · have e := R.rm
    rw [List.length_map] at e
    exact e
section
variable {X : Cx}
def rSetB (K : PySem.W.Frag) (P : Program) (w : World) : List V → Hp → VK → Prop := fun xs H Q => ∃ (l : Addr) (ks : List (Addr × List Int)), xs = [V.ref l] ∧ ((SqL K H l (ks.map fun p => V.ref p.1) ∧ ks.length < 64) ∨ (SqT K H l (ks.map fun p => V.ref p.1) ∧ ks.length < 19)) ∧ (∀ p ∈ ks, SqT K H p.1 (p.2.map V.int)) ∧
  ∀ a L, H a = none → (∀ p ∈ L, p ∈ ks) → (∀ p ∈ ks, p.2 ∈ L.map (·.2)) → Q (.ref a) (upd H a (SetTO P w a L))
theorem cr_setB {k : Nat} (hc : X.calm = true) (hr : Room k X.A) : CallR X (.type "set") (rSetB X.K X.prog X.w) := by
  intro pins s σ H xs us Q I r h
  obtain ⟨l, ks, rfl, hs, hk, q⟩ := h
  rcases hs with ⟨hs, h64⟩ | ⟨hs, h19⟩
  · exact cr_setOfT hc (by have := u65 hr; omega) pins s σ H _ us Q I r ⟨l, ks, rfl, hs, hk, h64, q⟩
  · rw [Vals.ref1 r]
    obtain ⟨its, rv, pl, hz⟩ := I.tuple hs
    have hn : H s.heap.objs.size = none := I.hok.fresh (Nat.le_refl _)
    have hu : X.A.units + 11 < cLine := by have := u65 hr; omega
    refine set_keys (ks := ks.map fun p => (p.1, kNum p.2)) (I.ok.hd hc) hu (.inr pl) (by rw [List.map_map]; exact (show its.toArray.toList = its by simp).trans (refs_of_vals rv)) (fun p hp => ?_) (by rw [List.length_map]; exact h19) fun h' tk L es ep t R g kp => ?_
    · obtain ⟨p0, h0, rfl⟩ := List.mem_map.mp hp
      exact isT_kat (P := X.prog) (w := X.w) (I.isT (hk p0 h0))
    · have gl := g.len
      have sub := g.sub
      have all := g.all
      rw [List.take_length] at sub all
      rw [List.length_map] at gl
      obtain ⟨L2, T0, e⟩ := R.t0 (P := X.prog) sub (by omega)
      refine ⟨.ref s.heap.objs.size, upd H s.heap.objs.size (SetTO X.prog X.w s.heap.objs.size L2), I.laid (t' := tk) kp (Nat.le_refl _) (setTO_new T0), rfl, q _ L2 hn (fun p hp => ?_) fun p hp => ?_⟩
      · have m := sub (p.1, kNum p.2) (by rw [← e]; exact List.mem_map.mpr ⟨p, hp, rfl⟩)
        obtain ⟨p0, h0, e0⟩ := List.mem_map.mp m
        have e1 : p0.1 = p.1 := congrArg (fun q : Addr × NestedKey => q.1) e0
        have e2 : kNum p0.2 = kNum p.2 := congrArg (fun q : Addr × NestedKey => q.2) e0
        have e3 : p0.2 = p.2 := by rw [← numK_kNum p0.2, e2, numK_kNum]
        rw [← show p0 = p from Prod.ext e1 e3]
        exact h0
      · have m := all (p.1, kNum p.2) (List.mem_map.mpr ⟨p, hp, rfl⟩)
        rw [← e, List.map_map] at m
        obtain ⟨p0, h0, e0⟩ := List.mem_map.mp m
        have e3 : p0.2 = p.2 := by rw [← numK_kNum p0.2, show kNum p0.2 = kNum p.2 from e0, numK_kNum]
        exact List.mem_map.mpr ⟨p0, h0, e3⟩
end
def iL (l : List Nat) : List Int := l.map fun (n : Nat) => (n : Int)
/-- the order of tuples, as one number -/
def cN (l : List Nat) : Int := TS.code 64 (iL l)
theorem rpT {C : Hp} : ∀ {ls : List (List Nat)} {xs : List V}, RpA C xs (ls.map tD) → ∃ ks : List (Addr × List Int), xs = ks.map (fun p => V.ref p.1) ∧ ks.map (·.2) = ls.map iL ∧ ∀ p ∈ ks, C p.1 = some (.tup (p.2.map V.int))
  | [], _, r => by cases r; exact ⟨[], rfl, rfl, (fun p h => nomatch h)⟩
  | l :: ls, _, r => by
    cases r with
    | cons r1 r2 =>
      obtain ⟨ks, e1, e2, e3⟩ := rpT r2
      cases r1 with
      | @tup a ys _ h1 h2 =>
        have hy : ∀ {l : List Nat} {ys : List V}, RpA C ys (l.map nD) → ys = (iL l).map V.int := fun {l} => by
          induction l with
          | nil => intro ys h; cases h; rfl
          | cons n l ih =>
            intro ys h
            cases h with
            | cons q1 q2 => cases q1; rw [ih q2]; rfl
        refine ⟨(a, iL l) :: ks, by rw [e1]; rfl, by rw [List.map_cons, List.map_cons, e2], fun p hp => ?_⟩
        rcases List.mem_cons.mp hp with z | z
        · rw [z]
          show C a = some (.tup ((iL l).map V.int))
          rw [← hy h2]
          exact h1
        · exact e3 p z
theorem rp_ints {C : Hp} : ∀ l : List Nat, RpA C ((iL l).map V.int) (l.map nD)
  | [] => .nil
  | n :: l => .cons (.int _) (rp_ints l)
theorem iL_len (l : List Nat) : (iL l).length = l.length := List.length_map ..
theorem toNat_ofNat (l : List Nat) : (iL l).map Int.toNat = l := by
  unfold iL
  rw [List.map_map]
  exact (List.map_congr_left fun n _ => Int.toNat_natCast n).trans (List.map_id l)
theorem rp_tups {C : Hp} {ls : List (List Nat)} : ∀ L : List (Addr × List Int), (∀ p ∈ L, C p.1 = some (.tup (p.2.map V.int)) ∧ p.2 ∈ ls.map iL) → RpA C (L.map fun p => V.ref p.1) ((L.map fun p => p.2.map Int.toNat).map tD)
  | [], _ => .nil
  | p :: L, h => by
    obtain ⟨h1, h2⟩ := h p List.mem_cons_self
    obtain ⟨l, _, e⟩ := List.mem_map.mp h2
    refine .cons ?_ (rp_tups L fun q hq => h q (List.mem_cons_of_mem _ hq))
    show Rp C (V.ref p.1) (tD (p.2.map Int.toNat))
    rw [← e] at h1 ⊢
    rw [toNat_ofNat]
    exact .tup h1 (rp_ints l)
def fSortSet : F1 := fun d P => ∃ ls : List (List Nat), ((d = .list (ls.map tD) ∧ ls.length < 64) ∨ (d = .tuple (ls.map tD) ∧ ls.length < 19)) ∧ (∃ n, 1 ≤ n ∧ ∀ l ∈ ls, l.length = n ∧ Lt 64 l) ∧
  ∀ ms : List (List Nat), ms.Nodup → (∀ l, l ∈ ms ↔ l ∈ ls) → ms.Pairwise (fun a b => cN a ≤ cN b) → P (.list (ms.map tD))
section
variable {X : Cx} {z : Cz} {a : Expr} {wa : WE} {p p2 q pos : Pos} {k : Nat}
theorem bd64 {l : List Nat} (h : Lt 64 l) : TS.Bd 64 (iL l) := fun m hm => by
  obtain ⟨n, hn, rfl⟩ := List.mem_map.mp hm
  have := h n hn
  omega
theorem je_sortset (hc : X.calm = true) (hr : Room k X.A) (hg : Gl X "sorted") (hm : X.mg "sorted" = none) (hg2 : Gl X "set") (hm2 : X.mg "set" = none) (ha : PE X a (lE z wa))
    (na : starEach [a] X.env = (false, eval a X.env) :: starEach [] X.env := by rfl) (nb : starEach [.Call (.Name "set" p2) [a] [] q] X.env = (false, eval (.Call (.Name "set" p2) [a] [] q) X.env) :: starEach [] X.env := by rfl) :
    PE X (.Call (.Name "sorted" p) [.Call (.Name "set" p2) [a] [] q] [] pos) (lE z (w1 fSortSet wa)) := by
  refine (pe_callB (cr_sortedT hc) hg hm (by decide +kernel) (pa_cons (pe_callTy (cr_setB hc hr) hg2 hm2 (by decide +kernel) (pa_cons ha pa_nil na) (by decide) (by decide) na rfl) pa_nil nb) (by decide) (by decide) nb rfl).by fun σ H Q ⟨C, ρ, P, c, er, w, kk⟩ => ?_
  refine ⟨C, ρ, _, c, er, w, fun d v C1 H1 p1 g1 rv => ?_⟩
  obtain ⟨ls, hd, ⟨n, hn, hls⟩, hP⟩ := p1
  have c1 := c.gw g1
  have fin : ∀ {l : Addr} {xs : List V}, v = .ref l → RpA C1 xs (ls.map tD) → ((SqL X.K H1 l xs ∧ xs.length < 64) ∨ (SqT X.K H1 l xs ∧ xs.length < 19)) → rSetB X.K X.prog X.w [v] H1 fun v2 H2 => rSortedT X.K X.prog X.w [v2] H2 Q := fun {l xs} ev ra hs => by
    obtain ⟨ks, rfl, e2, e3⟩ := rpT ra
    rw [List.length_map] at hs
    have hk : ∀ p ∈ ks, p.2 ∈ ls.map iL := fun p hp => by rw [← e2]; exact List.mem_map.mpr ⟨p, hp, rfl⟩
    refine ⟨l, ks, by rw [ev], hs, fun p hp => SqT.of (c1.ch _ _ (e3 p hp)), fun a0 L ha0 hL1 hL2 => ?_⟩
    have g2 : Gw z C1 H1 C1 (upd H1 a0 (SetTO X.prog X.w a0 L)) := c1.grow (Ex.new ha0)
    have c2 := c1.gw g2
    refine ⟨a0, L, n, 64, rfl, upd_same, fun p hp => SqT.of (c2.ch _ _ (e3 p (hL1 p hp))), hn, fun p hp => ?_, fun L' pn pm nd _ pw hpn => ?_⟩
    · obtain ⟨l0, hl0, e⟩ := List.mem_map.mp (hk p (hL1 p hp))
      rw [← e]
      exact ⟨by rw [iL_len]; exact (hls l0 hl0).1, bd64 (hls l0 hl0).2⟩
    · have g3 := c2.new (o := .lst (L'.map fun q => V.ref q.1)) hpn
      have mem : ∀ p ∈ L', p ∈ ks := fun p hp => hL1 p (pm.mem_iff.mp hp)
      have back : ∀ p ∈ L', iL (p.2.map Int.toNat) = p.2 ∧ p.2.map Int.toNat ∈ ls := fun p hp => by
        obtain ⟨l0, hl0, e⟩ := List.mem_map.mp (hk p (mem p hp))
        rw [← e, toNat_ofNat]
        exact ⟨rfl, hl0⟩
      refine kk _ _ _ _ (hP (L'.map fun p => p.2.map Int.toNat) ?_ (fun l => ⟨fun h => ?_, fun h => ?_⟩) ?_) ((g1.tr g2).tr g3) (.lst upd_same (rp_tups (ls := ls) L' fun p hp => ⟨g3.cc _ _ (e3 p (mem p hp)), hk p (mem p hp)⟩))
      · refine nodup_of_map (f := iL) ?_
        rw [List.map_map]
        have e : L'.map (iL ∘ fun p => p.2.map Int.toNat) = L'.map (·.2) := List.map_congr_left fun p hp => (back p hp).1
        rw [e]
        exact nd
      · obtain ⟨p, hp, rfl⟩ := List.mem_map.mp h
        exact (back p hp).2
      · have m : (iL l) ∈ ks.map (·.2) := by rw [e2]; exact List.mem_map.mpr ⟨l, h, rfl⟩
        obtain ⟨p, hp, e⟩ := List.mem_map.mp m
        have m2 := hL2 p hp
        obtain ⟨p3, hp3, e3'⟩ := List.mem_map.mp m2
        refine List.mem_map.mpr ⟨p3, pm.mem_iff.mpr hp3, ?_⟩
        rw [show p3.2 = p.2 from e3', e, toNat_ofNat]
      · refine List.pairwise_map.mpr (List.Pairwise.imp_of_mem (fun {p q} hp hq h => ?_) pw)
        unfold cN
        rw [(back p hp).1, (back q hq).1]
        exact h
  rcases hd with ⟨rfl, h64⟩ | ⟨rfl, h19⟩
  · cases rv with
    | lst h1 h2 => exact fin rfl h2 (.inl ⟨SqL.of (c1.ch _ _ h1), by rw [h2.len, List.length_map]; exact h64⟩)
  · cases rv with
    | tup h1 h2 => exact fin rfl h2 (.inr ⟨SqT.of (c1.ch _ _ h1), by rw [h2.len, List.length_map]; exact h19⟩)
end
section
variable {prog : Program} {w : World} {A : Around} {E : Value → Shared → Prop} {s : Shared}
theorem gather_tup {l : Addr} {vs : List Value} {Q : List Value → Shared → Prop} (hl : s.heap.IsTuple l vs.toArray) (hz : vs.length ≤ sizeLine)
    (h : ∀ h', (∀ b o, s.heap.get? b = some o → h'.get? b = some o) → s.heap.objs.size < h'.objs.size → Q vs { s with heap := h' }) : wpAny (model prog w) A (collect (.ref l)) Q E s := by
  obtain ⟨o, ho, hc, n, hd⟩ := id hl
  have hn : (s.heap.push (seqObj "list" #[] 0)).get? s.heap.objs.size = some (seqObj "list" #[] 0) := Heap.get?_push_size _ rfl
  have ho2 : (s.heap.push (seqObj "list" #[] 0)).get? l = some o := Heap.get?_push_of_some _ ho
  unfold collect
  refine wpAny_bind (wpAny_runValue (codeAny_builtin entry_proto_collect' ?_))
  show wpAny _ _ (do again (.builtin "list.__iadd__" ⟨[← newList [], .ref l], []⟩)) _ _ s
  refine wpAny_bind (wpAny_newList (wpAny_pure ⟨Code.quiet_builtin _ (by decide +kernel), codeAny_builtin entry_list_iadd' ?_⟩))
  show wpAny _ _ (Builtin.List.listExtendWith (.ref s.heap.objs.size) (.ref l) (.ref s.heap.objs.size)) _ _ { s with heap := s.heap.push (seqObj "list" #[] 0) }
  unfold Builtin.List.listExtendWith
  refine wpAny_bind (wpAny_typeOf (T := "tuple") ⟨o, ho2, hc⟩ ?_)
  rw [if_pos (by rw [show (Value.type "tuple" == Value.type "tuple") = true from by rfl, Bool.or_true])]
  refine wpAny_bind (listItems_at ho2 hd (wpAny_bind (listItems_at (xs := #[]) (n := 0) hn rfl ?_)))
  rw [if_neg (by simp)]
  refine wpAny_bind (listUpdate_at (xs := #[]) (n := 0) hn rfl (wpAny_pure ?_) (Nat.zero_le _) (by show (#[] ++ vs.toArray).size ≤ sizeLine + 1; simp only [Array.size_append, List.size_toArray, List.length_nil]; omega))
  show wpAny (model prog w) A (do
      let o ← load s.heap.objs.size
      match o.data with
      | .seq xs _ => pure xs.toList
      | _ => unsupported "internal:collect") Q E { s with heap := (s.heap.push (seqObj "list" #[] 0)).update s.heap.objs.size (Obj.mapSeq (· ++ vs.toArray)) }
  refine wpAny_bind (wpAny_load (get?_update_seq hn _) ?_)
  show wpAny _ _ (pure ((#[] : Array Value) ++ vs.toArray).toList) Q E _
  rw [show ((#[] : Array Value) ++ vs.toArray).toList = vs by simp]
  refine wpAny_pure (h _ (fun b u e => ?_) (by rw [Heap.size_update, size_push']; exact Nat.lt_succ_self _))
  rw [Heap.get?_update_ne _ _ _ _ (Nat.ne_of_lt (Heap.lt_size e))]
  exact Heap.get?_push_of_some _ e
theorem sorted_tup {l : Addr} {vs : List Value} {d : Nat} {B : Int} {Q : Value → Shared → Prop} (hl : s.heap.IsTuple l vs.toArray) (h64 : vs.length < 64) (hd : 1 ≤ d) (x : TS.TupsOk s.heap d B vs)
    (h : ∀ h' p c (out : Array Value), (∀ b o, s.heap.get? b = some o → h'.get? b = some o) → s.heap.objs.size ≤ p → h'.get? p = some (seqObj "list" out c) → out.toList.Perm vs → out.toList.Pairwise (fun u v => TS.code B (TS.intsOf s.heap u) ≤ TS.code B (TS.intsOf s.heap v)) → Q (.ref p) { s with heap := h' }) :
    wpAny (model prog w) A (call (.builtin "sorted") [.ref l]) Q E s := by
  refine Calls.call_function_entry kind_sorted plain_sorted entry_sorted (args_sorted1 _) ?_
  unfold Builtin.«sorted»
  refine wpAny_bind (m := checkCount "sorted" 1 1 _) (wpAny_pure (wpAny_bind (gather_tup hl (by rw [sizeLine_eq]; omega) fun h1 k1 z1 => ?_)))
  refine wpAny_bind (wpAny_newList ?_ (by rw [sizeLine_eq]; omega))
  have hL : (h1.push (seqObj "list" vs.toArray 0)).get? h1.objs.size = some (seqObj "list" vs.toArray 0) := Heap.get?_push_size _ rfl
  have k2 : ∀ b o, s.heap.get? b = some o → (h1.push (seqObj "list" vs.toArray 0)).get? b = some o := fun b o e => Heap.get?_push_of_some _ (k1 b o e)
  have same : ∀ v ∈ vs, TS.intsOf (h1.push (seqObj "list" vs.toArray 0)) v = TS.intsOf s.heap v := fun v hv => by
    obtain ⟨ns, t, _⟩ := x v hv
    rw [t.ints, (t.keeps fun b o e _ => k2 b o e).ints]
  refine wpAny_bind (wpAny_holding (TS.call_sort_tups (s := { s with heap := h1.push (seqObj "list" vs.toArray 0) }) hL h64 hd (x.keeps fun b o e _ => k2 b o e) fun out a1 a2 => ?_))
  obtain ⟨c, hc⟩ := sortedHeap_at (vs := vs) (out := out) hL
  refine wpAny_pure ⟨_, rfl, h _ h1.objs.size c out (fun b o e => ?_) (Nat.le_of_lt z1) hc a1 (List.Pairwise.imp_of_mem (fun {u v} hu hv q => ?_) a2)⟩
  · have hb : b < h1.objs.size := Nat.lt_trans (Heap.lt_size e) z1
    show (sortedHeap (h1.push (seqObj "list" vs.toArray 0)) h1.objs.size vs out).get? b = some o
    rw [sortedHeap_old (Nat.ne_of_lt hb) (by rw [size_push']; exact Nat.lt_succ_of_lt hb)]
    exact k2 b o e
  · rw [← same u (a1.mem_iff.mp hu), ← same v (a1.mem_iff.mp hv)]
    exact q
end
def fSortT : F1 := fun d P => ∃ ls : List (List Nat), d = .tuple (ls.map tD) ∧ ls.length < 64 ∧ (∃ n, 1 ≤ n ∧ ∀ l ∈ ls, l.length = n ∧ Lt 64 l) ∧ ∀ ms : List (List Nat), ms.Perm ls → ms.Pairwise (fun a b => cN a ≤ cN b) → P (.list (ms.map tD))
section
variable {X : Cx} {z : Cz} {a : Expr} {wa : WE} {p p2 q pos : Pos} {k : Nat}
/-- sorted(t) -/
def rSortT (K : PySem.W.Frag) : List V → Hp → VK → Prop := fun xs H Q => ∃ (l : Addr) (ks : List (Addr × List Int)) (d : Nat), xs = [V.ref l] ∧ SqT K H l (ks.map fun p => V.ref p.1) ∧ ks.length < 64 ∧ 1 ≤ d ∧ (∀ p ∈ ks, SqT K H p.1 (p.2.map V.int) ∧ p.2.length = d ∧ TS.Bd 64 p.2) ∧
  ∀ (L : List (Addr × List Int)) (p : Addr), L.Perm ks → L.Pairwise (fun q r => TS.code 64 q.2 ≤ TS.code 64 r.2) → H p = none → Q (.ref p) (upd H p (.lst (L.map fun q => V.ref q.1)))
/-- a list of values, read back as rows -/
theorem rows_back {ks : List (Addr × List Int)} (f : Value → List Int) (hf : ∀ p ∈ ks, f (.ref p.1) = p.2) : ∀ {us : List Value}, us.Perm (ks.map fun p => Value.ref p.1) → ∃ L : List (Addr × List Int), us = L.map (fun p => Value.ref p.1) ∧ L.Perm ks := by
  intro us pm
  let g : Value → Addr × List Int := fun v => (match v with | .ref a => a | _ => 0, f v)
  have e : (ks.map fun p => Value.ref p.1).map g = ks := by
    rw [List.map_map]
    exact (List.map_congr_left fun p hp => by show (p.1, f (.ref p.1)) = p; rw [hf p hp]).trans (List.map_id ks)
  refine ⟨us.map g, ?_, ?_⟩
  · rw [List.map_map]
    refine ((List.map_congr_left fun v hv => ?_).trans (List.map_id us)).symm
    obtain ⟨p, _, rfl⟩ := List.mem_map.mp (pm.mem_iff.mp hv)
    rfl
  · rw [← e]
    exact pm.map g
theorem cr_sortT2 : CallR X (.builtin "sorted") (rSortT X.K) := by
  intro pins s σ H xs us Q I r h
  obtain ⟨l, ks, d, rfl, hs, h64, hd, hk, q⟩ := h
  rw [Vals.ref1 r]
  obtain ⟨its, rv, pl, hz⟩ := I.tuple hs
  have eu : its = ks.map fun p => Value.ref p.1 := refs_of_vals rv
  have tk : ∀ p ∈ ks, TS.TupInts s.heap (.ref p.1) p.2 := fun p hp => tupI_raw I (hk p hp).1
  refine sorted_tup (d := d) (B := 64) (show s.heap.IsTuple l its.toArray from pl) (by rw [eu, List.length_map]; exact h64) hd (fun v hv => ?_) fun h' p c out k1 hp hg a1 a2 => ?_
  · rw [eu] at hv
    obtain ⟨p, hp, rfl⟩ := List.mem_map.mp hv
    exact ⟨p.2, tk p hp, (hk p hp).2⟩
  · rw [eu] at a1
    obtain ⟨L, eL, pm⟩ := rows_back (TS.intsOf s.heap) (fun p hp => (tk p hp).ints) a1
    have hv : Vals (L.map fun q => V.ref q.1) out.toList := by rw [eL]; exact vals_of_refs L
    refine ⟨.ref p, upd H p (.lst (L.map fun q => V.ref q.1)), I.laid (t' := s.toks) k1 hp ⟨by rw [List.length_map, pm.length_eq, sizeLine_eq]; omega, out.toList, c, hv, hg⟩, rfl, q L p pm ?_ (I.hok.fresh hp)⟩
    rw [eL] at a2
    refine List.Pairwise.imp_of_mem (fun {x y} hx hy h => ?_) (List.pairwise_map.mp a2)
    rw [(tk x (pm.mem_iff.mp hx)).ints, (tk y (pm.mem_iff.mp hy)).ints] at h
    exact h
theorem hoL_sortT {K : PySem.W.Frag} : HoL z (rSortT K) (arg1 fSortT) :=
  hoL1 (r1 := fun x H Q => rSortT K [x] H Q) (fun C H x d P Q c rx hf k => by
    obtain ⟨ls, rfl, h64, ⟨n, hn, hls⟩, hP⟩ := hf
    cases rx with
    | tup h1 h2 =>
      obtain ⟨ks, rfl, e2, e3⟩ := rpT h2
      have hk : ∀ p ∈ ks, p.2 ∈ ls.map iL := fun p hp => by rw [← e2]; exact List.mem_map.mpr ⟨p, hp, rfl⟩
      have hlen : ks.length = ls.length := by rw [← List.length_map (as := ks) (f := fun p => p.2), e2, List.length_map]
      refine ⟨_, ks, n, rfl, SqT.of (c.ch _ _ h1), by rw [hlen]; exact h64, hn, fun p hp => ?_, fun L pn pm pw hpn => ?_⟩
      · obtain ⟨l0, hl0, e⟩ := List.mem_map.mp (hk p hp)
        refine ⟨SqT.of (c.ch _ _ (e3 p hp)), ?_⟩
        rw [← e]
        exact ⟨by rw [iL_len]; exact (hls l0 hl0).1, bd64 (hls l0 hl0).2⟩
      · have g3 := c.new (o := .lst (L.map fun q => V.ref q.1)) hpn
        have back : ∀ p ∈ L, iL (p.2.map Int.toNat) = p.2 := fun p hp => by
          obtain ⟨l0, hl0, e⟩ := List.mem_map.mp (hk p (pm.mem_iff.mp hp))
          rw [← e, toNat_ofNat]
        refine k _ _ _ _ (hP (L.map fun p => p.2.map Int.toNat) ?_ ?_) g3 (.lst upd_same (rp_tups (ls := ls) L fun p hp => ⟨g3.cc _ _ (e3 p (pm.mem_iff.mp hp)), hk p (pm.mem_iff.mp hp)⟩))
        · have e : ls = ks.map fun p => p.2.map Int.toNat := by
            have q : (ks.map (·.2)).map (fun l => l.map Int.toNat) = (ls.map iL).map fun l => l.map Int.toNat := by rw [e2]
            rw [List.map_map, List.map_map] at q
            have q2 : ls.map ((fun l : List Int => l.map Int.toNat) ∘ iL) = ls := (List.map_congr_left fun l _ => toNat_ofNat l).trans (List.map_id ls)
            rw [q2] at q
            exact q.symm
          rw [e]
          exact pm.map _
        · refine List.pairwise_map.mpr (List.Pairwise.imp_of_mem (fun {p q} hp hq h => ?_) pw)
          unfold cN
          rw [back p hp, back q hq]
          exact h) fun x H Q h => h
end
end Lr
namespace Lr
open PySem PySem.Calls PySem.Spec PyProof.Rows L2 PySem.HandSPX
open PySem.W (ksFn ksEnv ks_superObj kxs_mw excObj excTup)
def tmInit : Stmt := match topS 6 with
  | .ClassDef _ _ _ body _ _ _ _ _ _ _ => body.getD 0 (.Pass ⟨0, 0, 0, 0⟩)
  | s => s
/-- what the written part has of TooMany -/
structure TmTxt (P : Program) (K : PySem.W.Frag) (mg : Str → Option Value) where
  C : Addr
  fI : Addr
  fd : FuncData
  gl : mg "TooMany" = some (.ref C)
  ox : OexC K C
  iC : PySem.W.findIn K (.ref C) "__init__" = some (some (.ref fI))
  tI : PySem.W.typeIn K (.ref fI) = some (.type "function")
  noN : PySem.W.findIn K (.ref C) "limit" = some none
  veB : PySem.W.subIn K (.ref C) (.type "ValueError") = some true
  kS : PySem.W.ks_superIn K C C "__init__" = some (some (.builtin "ValueError.__init__"))
  bmB : List Value
  FB : ExcBaseFacts "ValueError" "ValueError.__new__" "ValueError.__init__" bmB
  xI : PySem.W.excInitIn K C bmB "ValueError.__new__" = true
  mro : PySem.W.mroIn K C (.ref C) = some true
  op : PySem.W.nsIn K PySem.cStatics "thirdparty.any" = some none
  sup : mg "super" = none
  bi : L2.Binds K fd ["self", "limit"] []
  fn : ∃ (oc : Value) (od : Option Addr) (doc pm ct : Value) (an : Option Addr) (cda cc : Addr) (osl : Array (Option Value)) (ccl cl : Value) (cdd cld : Option Addr) (vs : Array Value) (ccs csl : Array (Option Value)) (file : Str) (tf : Tok),
    fd = ksFn "__init__" "TooMany.__init__" (defArgs tmInit) (defBody tmInit) (defScope tmInit) .none .none doc pm an (.ref cda) ct cc ∧
    K.lookup fI = some ⟨oc, od, .func fd, osl⟩ ∧ PySem.W.codeIn K (.ref cda) "TooMany.__init__" = true ∧ K.lookup cda = some ⟨ccl, cdd, .fields vs, ccs⟩ ∧ vs[2]? = some (.str file tf) ∧ ((P.main.file : Str) == file) = true ∧
    K.lookup cc = some ⟨cl, cld, .cell (some (.ref C)), csl⟩
  top : (P.main.scope.names.lookup ("super" : Str)).isSome = false
section
variable {P : Program} {w : World} {K : PySem.W.Frag} {mg : Str → Option Value} {base : Heap} {A : Around} {s : Shared} {R : Result → Shared → Prop}
/-- __init__, at the heap -/
theorem tm_init (T : TmTxt P K mg) (M : Mod K mg base) {x t0 : Addr} {v : Value} {args : Args} (hbase : ∀ b o, base.get? b = some o → s.heap.get? b = some o) (hbx : base.get? x = none) (hbz : base.objs.size ≤ s.heap.objs.size) (hx : s.heap.get? x = some (excO T.C t0)) (hroom : A.depth < recursionLimit)
    (hbind : BindsTo s T.fd args [("self", .ref x), ("limit", v)])
    (hq : ∀ h' tk dx t1, (∀ b o, b ≠ x → s.heap.get? b = some o → h'.get? b = some o) → s.heap.objs.size ≤ dx → dx ≠ x → h'.get? x = some { cls := .ref T.C, dict := some dx, data := .fields #[.ref t1, .none, .none, .none, .bool false, .none] } →
      h'.Ns1 dx (fun y => if y = "limit" then some v else none) → R (.ok (.ret .none)) { s with heap := h', toks := tk }) :
    codeAny (model P w) A (.call (.ref T.fI) args) R s := by
  obtain ⟨oc, od, doc, pm, ct, an, cda, cc, osl, ccl, cl, cdd, cld, vs, ccs, csl, file, tf, efd, ho, hcd, hcda, hvs, hfile, hcell⟩ := T.fn
  have X : K.In s.heap := M.kin.keeps hbase
  have lim : s.heap.NoLimit := M.nolimit.keeps hbase
  obtain ⟨nm, qn, N, bs, bm, sn, sub, ab, col, dd, k0, k1, k2, k3, k5, hC, hbm⟩ := T.ox.cls
  have hcl : PySem.W.clsIn K T.C = some { name := nm, bases := bs, mro := .ref T.C :: bm, ns := N, qualname := qn, hasDict := true, slotNames := sn, subclasses := sub, abstract := ab, collection := col, hasDel := false } := by unfold PySem.W.clsIn; rw [hC] <;> rfl
  generalize T.fd = fd at *
  subst efd
  have hD2 : (⟨.type "type", none, .cls { name := nm, bases := bs, mro := .ref T.C :: bm, ns := N, qualname := qn, hasDict := true, slotNames := sn, subclasses := sub, abstract := ab, collection := col, hasDel := false }, #[]⟩ : Obj).data = .cls { name := nm, bases := bs, mro := .ref T.C :: bm, ns := N, qualname := qn, hasDict := true, slotNames := sn, subclasses := sub, abstract := ab, collection := col, hasDel := false } := rfl
  refine ks_codeAny_call_defAt hroom (X _ _ ho) rfl lim (PySem.W.codeRec_of X hcd) rfl hbind (by show ∀ y ∈ (defScope tmInit).names, y.2 ≠ .cell; decide) (fun y hy => ?_) (fun h₁ hns k => ?_) rfl rfl rfl
  · rcases List.mem_cons.mp hy with e | hy
    · rw [e]; rfl
    · rw [List.mem_singleton.mp hy]; rfl
  have X₁ : K.In h₁ := X.keeps k
  have kb : ∀ b o, base.get? b = some o → h₁.get? b = some o := fun b o e => k b o (hbase b o e)
  obtain ⟨mb, hmb, hmb2⟩ := M.blt
  have I₁ : PySem.W.InstAt h₁ x (excO T.C t0) T.C none := ⟨k _ _ hx, rfl, rfl, trivial⟩
  refine ks_wpAt_execs_cons (ks_wpAt_Expr_any (ks_wpAt_MethodCall ?_))
  refine ks_wpAt_super_base (env := ksEnv "TooMany.__init__" (defScope tmInit) s.heap.objs.size T.fI (.ref cda) cc) rfl rfl (by decide) rfl (X₁ _ _ ho) rfl rfl rfl (X₁ _ _ hcda) rfl hvs hfile T.top ?_
  refine PySem.W.ks_loadName_global rfl rfl (loadGlobal_builtin (env := ksEnv "TooMany.__init__" (defScope tmInit) s.heap.objs.size T.fI (.ref cda) cc) (M.glob.keeps kb) T.sup (hmb.keeps kb) ((hmb2 _ (by decide)).trans (show bootBuiltins "super" = some (.type "super") from by decide +kernel)) ⟨rfl, ?_⟩)
  refine wpAny_loadName_free (c := cc) rfl rfl rfl ⟨_, X₁ _ _ hcell, rfl⟩ ?_
  refine wpAny_loadName_local rfl rfl hns (v := .ref x) rfl ?_
  refine ks_wpAny_isType_cls (X₁ _ _ hC) rfl ⟨rfl, ?_⟩
  refine ks_wpAny_call_super (X₁ _ _ hC) rfl I₁.at_ I₁.cls (fun c e => by cases e) (PySem.W.looks_mroIn X₁ T.mro) (fun h₂ hso k₂ => ?_)
  have X₂ : K.In h₂ := X₁.keeps k₂
  have I₂ : PySem.W.InstAt h₂ x (excO T.C t0) T.C none := ⟨k₂ _ _ I₁.at_, rfl, rfl, trivial⟩
  have kS := T.kS
  unfold PySem.W.ks_superIn at kS
  rw [hcl] at kS
  refine PySem.W.kxs_getMethod PySem.W.kxs_ValueError hso (PySem.W.looks_opaque X₂ T.op) (l₀ := .ref T.C :: bm) (fun A Q E s k q => wpAny_bind ((PySem.W.looks_clsIn X₂ hcl) A _ E s k (wpAny_pure q))) rfl X₂ kS (I₂.type.andThen (PySem.W.looks_subIn X₂ T.veB)) (PySem.W.ks_ne X₂ I₂ hcl) (by decide) ?_
  have hmw : (h₂.push (kxs_mw "ValueError.__init__" x)).get? h₂.objs.size = some (kxs_mw "ValueError.__init__" x) := Heap.get?_push_size _ rfl
  have k₃ : ∀ b o, h₁.get? b = some o → (h₂.push (kxs_mw "ValueError.__init__" x)).get? b = some o := fun b o e => Heap.get?_push_of_some _ (k₂ b o e)
  refine PySem.W.kxs_callWith (i := "ValueError.__init__") (x := x) rfl (evalArgs_plain (PyProof.Rows.args_cons (wpAny_Constant_str (PyProof.Rows.args_nil ⟨hmw, ?_⟩)) rfl))
  generalize h₂.push (kxs_mw "ValueError.__init__" x) = h₃ at hmw k₃ ⊢
  have X₃ : K.In h₃ := X₁.keeps k₃
  have hx₃ : h₃.get? x = some (excO T.C t0) := k₃ _ _ I₁.at_
  have fin : ∀ (h₄ : Heap) (tk : Nat), (∀ b o, b ≠ x → h₃.get? b = some o → h₄.get? b = some o) → h₄.get? x = some (excObj T.C h₃.objs.size none .none) →
      _root_.PySem.wpAt (model P w) (A.deeper (ksEnv "TooMany.__init__" (defScope tmInit) s.heap.objs.size T.fI (.ref cda) cc)) (.func (defBody tmInit) (ksEnv "TooMany.__init__" (defScope tmInit) s.heap.objs.size T.fI (.ref cda) cc)) (execs ((defBody tmInit).drop 1) (ksEnv "TooMany.__init__" (defScope tmInit) s.heap.objs.size T.fI (.ref cda) cc))
        (fun f s' => R (.ok (.ret (match f with | .ret v => v | _ => .none))) s') (fun e s' => wpAny (model P w) (A.deeper (ksEnv "TooMany.__init__" (defScope tmInit) s.heap.objs.size T.fI (.ref cda) cc)) (leaving (ksEnv "TooMany.__init__" (defScope tmInit) s.heap.objs.size T.fI (.ref cda) cc) e) (fun _ s'' => R (.error e) s'') (fun e' s'' => R (.error e') s'') s') { s with heap := h₄, toks := tk } := fun h₄ tk k₄ hx₄ => by
    have xL : s.heap.objs.size ≠ x := Nat.ne_of_gt (Heap.lt_size hx)
    have hns₄ : h₄.Ns s.heap.objs.size (fun y => ([("self", .ref x), ("limit", v)] : List (Str × Value)).reverse.lookup y) := hns.at' fun o e => k₄ _ _ xL (k₃ _ _ e)
    have X₄ : K.In h₄ := M.kin.keeps fun b o e => k₄ b o (fun q => by rw [q, hbx] at e; cases e) (k₃ b o (kb b o e))
    obtain ⟨a1, a2, a3, a4, eb⟩ : ∃ a1 a2 a3 a4, (defBody tmInit).drop 1 = [.Assign [.Attribute (.Name "self" a1) "limit" a2] (.Name "limit" a3) a4] := ⟨_, _, _, _, rfl⟩
    rw [eb]
    refine ks_wpAt_execs_cons (ks_wpAt_Assign_Attr ?_)
    refine wpAt_of_wpAny (wpAny_Name (x := "limit") (pos := a3) (wpAny_loadName_local rfl rfl hns₄ (v := v) rfl ?_) (by decide))
    refine wpAny_Name (x := "self") (pos := a1) (wpAny_loadName_local rfl rfl hns₄ (v := .ref x) rfl ?_) (by decide)
    refine PySem.W.set_plain X₄ (ox := excObj T.C h₃.objs.size none .none) (od := none) ⟨hx₄, rfl, rfl, trivial⟩ T.ox.sa ?_
    refine exc_osa X₄ hx₄ hcl (show refsVE (.ref T.C :: bm) = true from hbm) rfl T.noN (fun h₅ tk₅ dx k₅ dn dne hx₅ hn₅ => ?_)
    refine wpAt_of_wpAny (wpAny_execs_nil (hq h₅ tk₅ dx h₃.objs.size (fun b o hb e => k₅ b o hb (k₄ b o hb (k₃ b o (k b o e)))) (Nat.le_trans ?_ dn) dne hx₅ hn₅))
    obtain ⟨oL, _, _, eL, _⟩ := hns₄
    exact Nat.le_of_lt (Heap.lt_size eL)
  obtain ⟨nm', N', qn', bs', bm', hd', sn', sub', ab', col', dd', k0', k1', k2', k3', k5', hC', hT'⟩ := PySem.W.excInit_of X₃ T.xI
  refine wpAny_call (codeAny_of_tree ?_)
  show wpAny _ _ (callAny (.ref h₂.objs.size) ⟨[.str "too many" _], []⟩) _ _ _
  simp only [callAny]
  refine wpAny_bind (wpAny_load hmw ?_)
  simp only [kxs_mw, show (Value.type "method-wrapper" == Value.type "method" || Value.type "method-wrapper" == Value.type "builtin_function_or_method" || Value.type "method-wrapper" == Value.type "method-wrapper") = true by decide, if_true]
  refine PySem.W.KFB.if_so (by decide) ?_
  refine wpAny_bind (PySem.W.check_bound_init T.FB.toExcCallFacts hC' hx₃ rfl ?_)
  refine wpAny_bind (wpAny_pure (wpAny_pure ⟨plainId_quiet T.FB.init.plain _, codeAny_builtin T.FB.initEntry ?_⟩))
  exact PySem.W.exc_init_tree (cls := .ref T.C) (t0 := t0) (dv := none) (c2 := .none) (c3 := .none) (b4 := .bool false) hx₃ (by rw [sizeLine_eq]; show 1 ≤ 16777216; decide) fun h₄ k₄ hx₄ _ => fin h₄ _ k₄ hx₄
def sp_tm (C : Addr) : Sp := fun vs H Q _ => ∃ (a : Addr) (v : V), vs = [.ref a, v] ∧ H a = some (exo a C none) ∧ ∀ dx, H dx = none → dx ≠ a → Q .non (upd (upd H dx (exd dx [("limit", v)])) a (exo a C (some dx)))
theorem ok_tm (T : TmTxt P K mg) : FnOk P w K mg base CX0 1 T.fI T.fd ["self", "limit"] (sp_tm T.C) where
  len := fun vs H Q E ⟨a, v, e, _⟩ => by rw [e]; rfl
  run := fun A outer s H args us vs Q E hr e0 hb hv ⟨a, v, e, ea, q⟩ => by
    subst e
    cases hv with
    | @cons _ ua _ ur ra rr =>
      cases rr with
      | @cons _ u _ _ ru rr =>
        cases rr
        obtain rfl : ua = Value.ref a := ra
        obtain ⟨t1, ho⟩ := exo_at e0.hok ea
        have hbx : base.get? a = none := by
          cases z : base.get? a with
          | none => rfl
          | some o => rw [(e0.bs a o z).2] at ea; cases ea
        refine tm_init T e0.mod (fun b o e => (e0.bs b o e).1) hbx e0.bsz ho hr.depth hb fun h' tk dx t2 k dn dne hx' hn' => ?_
        have hnd : H dx = none := e0.hok.fresh dn
        have nd : ∀ {b : Addr} {o : Obj}, s.heap.get? b = some o → b ≠ dx := fun {b o} z => Nat.ne_of_lt (Nat.lt_of_lt_of_le (Heap.lt_size z) dn)
        have na : ∀ {b : Addr}, H b = none → b ≠ a := fun {b} n z => by rw [z, ea] at n; cases n
        refine ⟨.non, _, rfl, e0.bare, ⟨fun b o z n _ _ => k b o (na n) z, fun b o z n _ _ => ⟨o.slots, k b o (na n) z⟩, fun b o z n _ => ?_, fun b o z _ => ?_, fun b xs z => ?_, fun b o w z => ?_, fun b ps z => ?_⟩, fun b o z => ?_, rfl, q dx hnd dne⟩
        · rw [upd_ne (na n), upd_ne (nd z)]; exact n
        · by_cases hb : b = a
          · exact ⟨_, by rw [hb]; exact hx'⟩
          · exact ⟨o, k b o hb z⟩
        · rw [upd_ne (at_ne ea z exo_tup), upd_ne (ne_of_none z hnd)]; exact z
        · rw [upd_ne (at_ne ea z exo_frz), upd_ne (ne_of_none z hnd)]; exact z
        · exact ⟨#[], by rw [upd_ne (at_ne ea z exo_tbl), upd_ne (ne_of_none z hnd), z]; simp⟩
        · by_cases hb : b = a
          · subst hb
            rw [upd_same] at z
            cases z
            exact exo_ok hx'
          · rw [upd_ne hb] at z
            by_cases hd : b = dx
            · subst hd
              rw [upd_same] at z
              cases z
              exact exd_ok hn' (relO_put (fs := []) ru fun g => True.intro)
            · rw [upd_ne hd] at z
              refine (e0.hok b o z).stay (fun c v hc y => k c v ?_ y) (fun c hc => ?_) fun c xs hc => ?_
              · rcases hc with hc | hc
                · rw [hc]; exact hb
                · exact at_ne ea hc exo_own
              · rw [upd_ne (at_ne ea hc exo_own), upd_ne (ne_of_none hc hnd)]; exact hc
              · rw [upd_ne (at_ne ea hc exo_tup), upd_ne (ne_of_none hc hnd)]; exact hc
end
def sRaiseM (z : Cz) (C : Addr) (w : WE) : WS := fun _ ρ => w ρ fun d => match d with
  | .int n => z.R (.many C n)
  | _ => False
theorem js_raiseM {X : Cx} {z : Cz} {wa : WE} {e : Expr} {k : Nat} {p pos pos' : Pos} (T : TmTxt X.prog X.K X.mg) (hz : z.hR) (hc : X.calm = true) (tk : Takes X (fun cls d _ H => z.E cls d H)) (hr : Room (k + 2) X.A) (hg : Gl X "TooMany") (ha : PE X e (lE z wa))
    (he : starEach [e] X.env = (false, eval e X.env) :: starEach [] X.env := by rfl) : PS X (.Raise (some (.Call (.Name "TooMany" p) [e] [] pos)) none pos') (lS z (sRaiseM z T.C wa)) :=
  (ps_raise hc tk (pmk_oex (dvs := []) T.ox T.iC T.tI (ok_tm (w := X.w) (base := X.base) T) (hr.mono (by omega)) T.bi .nil pass0 hg T.gl (pa_cons ha pa_nil he) (by decide) he rfl)).by fun D σ H ⟨C, ρ, P, c, er, w, kk⟩ => by
    refine ⟨C, ρ, _, c, er, w, fun d v C1 H1 p1 g1 rv => ?_⟩
    cases d with
    | int n =>
      cases rv
      have c1 := c.gw g1
      refine ⟨by show 1 ≤ 1000; decide, fun a ha0 => ⟨a, .int n, rfl, upd_same, fun dx hdx hne => ⟨rfl, dx, [("limit", .int n)], upd_same, ?_, ?_, ?_⟩⟩⟩
      · rw [upd_ne hne, upd_same]
      · rw [upd_ne hne] at hdx; exact hdx
      · have hdn : H1 dx = none := by rw [upd_ne hne] at hdx; exact hdx
        have ex : Ex H1 (upd (del (upd (upd (upd H1 a (exo a T.C none)) dx (exd dx [("limit", .int n)])) a (exo a T.C (some dx))) a) dx (.xd [("limit", .int n)])) := fun b o h => by
          rw [upd_ne (ne_of_none h hdn), del_ne (ne_of_none h ha0), upd_ne (ne_of_none h ha0), upd_ne (ne_of_none h hdn), upd_ne (ne_of_none h ha0)]
          exact h
        exact hz (.many T.C n) (.ref T.C) (some dx) _ p1 (c1.b.tr ex) (z.keep _ _ c1.ok ex) ⟨rfl, dx, rfl, upd_same⟩
    | _ => exact p1.elim
end Lr
namespace Lr
open PySem PySem.Spec PyProof.Rows L2
theorem lc_enc {α : Type} {e : α → PyData} {g : WG} {te : WE} {ρ : Env'} (F : α → PyData) : ∀ (xs : List α) (acc : List PyData) (P : PyData → Prop), (∀ x ∈ xs, ∀ Q : PyData → Prop, Q (F x) → g (e x) ρ fun ρ1 => te ρ1 Q) → acc.length + xs.length ≤ lim → P (.list (acc ++ xs.map F)) → wLc g tTrue te ρ (xs.map e) acc P
  | [], acc, P, _, _, h => by rw [List.map_nil, List.append_nil] at h; exact h
  | x :: xs, acc, P, hd, hl, h => by
    rw [List.length_cons] at hl
    refine hd x List.mem_cons_self _ ⟨by omega, lc_enc F xs _ P (fun y hy => hd y (List.mem_cons_of_mem _ hy)) (by rw [List.length_append, List.length_singleton]; omega) ?_⟩
    rw [List.append_assoc]; exact h
theorem nums_enc (n : Nat) : nums n = (List.range n).map nD := rfl
theorem in_enc {α : Type} {e : α → PyData} {g1 : WG} {te : WE} {ρ : Env'} (F : α → PyData) : ∀ (xs : List α) (acc : List PyData) (K : List PyData → Prop), (∀ x ∈ xs, ∀ Q : PyData → Prop, Q (F x) → g1 (e x) ρ fun ρ1 => te ρ1 Q) → acc.length + xs.length ≤ lim → K (acc ++ xs.map F) → wIn g1 te ρ (xs.map e) acc K
  | [], acc, K, _, _, h => by rw [List.map_nil, List.append_nil] at h; exact h
  | x :: xs, acc, K, hd, hl, h => by
    rw [List.length_cons] at hl
    refine hd x List.mem_cons_self _ ⟨by omega, in_enc F xs _ K (fun y hy => hd y (List.mem_cons_of_mem _ hy)) (by rw [List.length_append, List.length_singleton]; omega) ?_⟩
    rw [List.append_assoc]; exact h
/-- two fors, the second over a range that is as long each time -/
theorem lc2_enc {α : Type} {e : α → PyData} {g : WG} {w1 : WA} {g1 : WG} {te : WE} {vs1 : List Nat} {ρ : Env'} (n : Nat) (ρ1 : α → Env') (F : α → Nat → PyData) (hn : n ≤ 1000) : ∀ (xs : List α) (acc : List PyData) (P : PyData → Prop),
    (∀ x ∈ xs, ∀ Z : Env' → Prop, Z (ρ1 x) → g (e x) ρ Z) → (∀ x ∈ xs, ∀ Z : List PyData → Prop, Z [.int (n : Int)] → w1 (ρ1 x) Z) →
    (∀ x ∈ xs, ∀ i, i < n → ∀ Q : PyData → Prop, Q (F x i) → g1 (nD i) (wipe' (ρ1 x) vs1) fun ρ2 => te ρ2 Q) → acc.length + xs.length * n ≤ lim →
    P (.list (acc ++ xs.flatMap fun x => (List.range n).map (F x))) → wLc2 g w1 g1 te vs1 ρ (xs.map e) acc P
  | [], acc, P, _, _, _, _, h => by rw [List.flatMap_nil, List.append_nil] at h; exact h
  | x :: xs, acc, P, h1, h2, h3, hl, h => by
    rw [List.length_cons, Nat.succ_mul] at hl
    refine h1 x List.mem_cons_self _ (h2 x List.mem_cons_self _ ⟨by omega, by show (n : Int) ≤ (10000000 : Nat); omega, ?_⟩)
    rw [Int.toNat_natCast, nums_enc]
    refine in_enc (F x) (List.range n) acc _ (fun i hi Q hQ => h3 x List.mem_cons_self i (List.mem_range.mp hi) Q hQ) (by rw [List.length_range]; omega) ?_
    refine lc2_enc n ρ1 F hn xs _ P (fun y hy => h1 y (List.mem_cons_of_mem _ hy)) (fun y hy => h2 y (List.mem_cons_of_mem _ hy)) (fun y hy => h3 y (List.mem_cons_of_mem _ hy)) (by rw [List.length_append, List.length_map, List.length_range]; omega) ?_
    rw [List.append_assoc]
    rw [List.flatMap_cons] at h
    exact h
/-- all roads, in order -/
def roadsP (m : Nat) : Nat → List (List Nat)
  | 0 => [[]]
  | n + 1 => (roadsP m n).flatMap fun r => (List.range m).map fun s => r ++ [s]
theorem roadsP_len (m : Nat) : ∀ n : Nat, (roadsP m n).length = m ^ n
  | 0 => rfl
  | n + 1 => by
    unfold roadsP
    rw [List.length_flatMap]
    have : ((roadsP m n).map fun r => ((List.range m).map fun s => r ++ [s]).length) = (roadsP m n).map fun _ => m := List.map_congr_left fun r _ => by simp
    rw [this, List.map_const', List.sum_replicate_nat, roadsP_len m n, Nat.pow_succ]
theorem roadsP_ok (m : Nat) : ∀ n : Nat, ∀ r ∈ roadsP m n, r.length = n ∧ Lt m r
  | 0, r, h => by
    simp only [roadsP, List.mem_singleton] at h
    subst h
    exact ⟨rfl, fun a ha => by cases ha⟩
  | n + 1, r, h => by
    simp only [roadsP, List.mem_flatMap, List.mem_map, List.mem_range] at h
    obtain ⟨q, hq, s, hs, rfl⟩ := h
    obtain ⟨h1, h2⟩ := roadsP_ok m n q hq
    refine ⟨by simp [h1], fun a ha => ?_⟩
    rcases List.mem_append.mp ha with ha | ha
    · exact h2 a ha
    · simp at ha; rw [ha]; exact hs
def pairsB (k : Kn) (t : List Nat) : List (Nat × List Nat) := (List.range (sets k)).map fun s => latchP k s t
def pbD (k : Kn) (t : List Nat) : PyData := .tuple ((pairsB k t).map outD)
theorem settings_call {k : Kn} (hk : Kd k) {Q : PyData → Prop} (h : Q (nD (sets k))) : p_settings_in [kD k] Q := by
  obtain ⟨r, rs, e, hr⟩ := kD_cons hk
  subst e
  show fLen (rowD r) Q
  show Q (.int ((r.map pD).length : Int))
  rw [List.length_map]
  unfold nD at h
  rw [← hr] at h
  exact h
theorem app_rt (t : List Nat) (x : Nat) : PyData.tuple (t.map nD ++ [nD x]) = tD (t ++ [x]) := by unfold tD; rw [List.map_append]; rfl
section
variable {P : Program} {w : World} {K : PySem.W.Frag} {mg : Str → Option Value} {base : Heap}
def p_road : FL := fun ds Q => ∃ k t r, ds = [kD k, tD t, tD r] ∧ Kd k ∧ Lt k.length t ∧ Lt (sets k) r ∧ t.length ≤ 1000 ∧ r.length ≤ 1000 ∧ Q (rtD (roadP k t r))
theorem ok23 (T : Txt K mg) : FnOk P w K mg base CX0 2 T.f23 T.fd23 ["kind", "train", "road"] (spP p_road) :=
  have G22 := ok22 (P := P) (w := w) (base := base) T
  okP T.d23.fn sc23 (fun ds Q ⟨k, t, r, h, _⟩ => by rw [h]; rfl) fun z cdv A outer s H E hr => ⟨_,
    (js_cons (js_set (i := 3) sc23.nd rfl (.inl rfl) (je_tup ja_nil))
      (js_cons (js_forT PassesOwn.never rfl (je_var _ (pv 2)) (jg_name (i := 4) sc23.nd rfl (.inl rfl)) (js_cons (js_asg (je_call G22 (hr.mono (by decide)) (by rfl) T.d22.gl T.d22.fn.kp T.d22.bi (ja_cons (je_var _ (pv 0)) (ja_cons (je_var _ (pv 1)) (ja_cons (je_var _ (pv 4)) ja_nil)))) (jg_tup (n := 2) rfl (jgs_cons (jg_name (i := 5) sc23.nd rfl (.inl rfl)) (jgs_cons (jg_name (i := 1) sc23.nd rfl (.inl rfl)) jgs_nil))))
      (js_one (js_set (i := 3) sc23.nd rfl (.inl rfl) (je_op op_addA ho_add (je_var _ (pv 3)) (je_tup (ja_cons (je_var _ (pv 5)) ja_nil)))))))
      (js_one (js_ret (je_tup (ja_cons (je_var _ (pv 3)) (ja_cons (je_var _ (pv 1)) ja_nil))))))),
    fun ds Q ⟨k, t, r, e, hk, ht, hr, lt, lr, h⟩ => by
      subst e
      refine ⟨small (by decide), ?_⟩
      refine ⟨_, rfl, ?_⟩
      refine sLoop_ind (fun rest ρ => ∃ r2 t2 acc x4 x5, rest = r2.map nD ∧ ρ = [some (.d (kD k)), some (.d (tD t2)), some (.d (tD r)), some (.d (tD acc)), x4, x5] ∧ Lt k.length t2 ∧ t2.length ≤ 1000 ∧ Lt (sets k) r2 ∧ acc.length + r2.length ≤ 1000 ∧ Q (rtD (acc ++ (roadP k t2 r2).1, (roadP k t2 r2).2))) ?_ ?_ _ _ ⟨r, t, [], none, none, rfl, rfl, ht, lt, hr, by rw [List.length_nil]; omega, h⟩
      · rintro ρ ⟨r2, t2, acc, x4, x5, e1, rfl, h1, h2, h3, h4, h5⟩
        cases r2 with
        | cons => cases e1
        | nil =>
          refine ⟨_, rfl, _, rfl, by show 2 ≤ lim; decide, ?_⟩
          have h' : Q (rtD (acc ++ [], t2)) := h5
          rw [List.append_nil] at h'
          exact h'
      · rintro d ds ρ ⟨r2, t2, acc, x4, x5, e1, rfl, h1, h2, h3, h4, h5⟩ K hK
        cases r2 with
        | nil => cases e1
        | cons a r2 =>
          obtain ⟨rfl, rfl⟩ := List.cons.inj e1
          rw [List.length_cons] at h4
          have ha := h3 a List.mem_cons_self
          obtain ⟨q1, q2, q3⟩ := latchP_ok hk t2 a ha h1
          refine ⟨_, rfl, _, rfl, _, rfl, k, t2, a, rfl, hk, h1, ha, h2, ?_⟩
          refine ⟨rfl, ?_⟩
          refine ⟨_, rfl, _, rfl, by show 1 ≤ lim; decide, ?_⟩
          refine ⟨by rw [List.length_map, List.length_singleton]; exact small (by omega), ?_⟩
          refine hK _ ⟨r2, (latchP k a t2).2, acc ++ [(latchP k a t2).1], some (.d (nD a)), some (.d (nD (latchP k a t2).1)), rfl, ?_, q2, by omega, fun b hb => h3 b (List.mem_cons_of_mem _ hb), by rw [List.length_append, List.length_singleton]; omega, ?_⟩
          · rw [← app_rt]; rfl
          · rw [List.append_assoc]; exact h5⟩
def p_pairs : FL := fun ds Q => ∃ k t, ds = [kD k, tD t] ∧ Kd k ∧ Lt k.length t ∧ t.length ≤ 1000 ∧ Q (pbD k t)
theorem ok30 (T : Txt K mg) : FnOk P w K mg base CX0 2 T.f30 T.fd30 ["kind", "train"] (spP p_pairs) :=
  have G22 := ok22 (P := P) (w := w) (base := base) T
  have G18 := ok18 (P := P) (w := w) (base := base) T
  okP T.d30.fn sc30 (fun ds Q ⟨k, t, h, _⟩ => by rw [h]; rfl) fun z cdv A outer s H E hr => ⟨_,
    (js_one (js_ret (je_callTy call_tuple_of hoL_tuple (by rfl) T.b_tuple (by decide +kernel) (ja_cons (je_lcR (own := [("setting", 2)]) rfl sc30.nd (by rfl) T.b_range (ja_cons (je_call G18 (hr.mono (by decide)) (by rfl) T.d18.gl T.d18.fn.kp T.d18.bi (ja_cons (je_var _ (pv 0)) ja_nil)) ja_nil) (blkOk_by (by rfl)) (fun _ _ _ _ _ => (jg_name (i := 2) sc30.nd rfl (.inl rfl))) (fun _ _ _ _ _ => jts_nil) (fun _ _ _ _ _ => (je_call G22 (hr.mono (by decide)) (by rfl) T.d22.gl T.d22.fn.kp T.d22.bi (ja_cons (je_var _ (pv 0)) (ja_cons (je_var _ (pv 1)) (ja_cons (je_var _ (pv 2)) ja_nil)))))) ja_nil)))),
    fun ds Q ⟨k, t, e, hk, ht, lt, h⟩ => by
      subst e
      refine ⟨_, rfl, settings_call hk ?_⟩
      refine ⟨by omega, by have := hk.shi; show (sets k : Int) ≤ (10000000 : Nat); omega, ?_⟩
      rw [Int.toNat_natCast, nums_enc]
      refine lc_enc (fun s => outD (latchP k s t)) _ [] _ (fun s hs Q hQ => ⟨_, rfl, _, rfl, _, rfl, k, t, s, rfl, hk, ht, List.mem_range.mp hs, lt, hQ⟩) (by have := hk.shi; rw [List.length_nil, List.length_range]; exact small (by omega)) ?_
      show Q (.tuple ([] ++ (List.range (sets k)).map fun s => outD (latchP k s t)))
      unfold pbD pairsB at h
      rw [List.map_map] at h
      exact h⟩
def p_all_roads : FL := fun ds Q => ∃ k n, ds = [kD k, nD n] ∧ Kd k ∧ n ≤ 60 ∧ sets k ^ n ≤ 64 ∧ Q (.list ((roadsP (sets k) n).map tD))
theorem ok37 (T : Txt K mg) : FnOk P w K mg base CX0 2 T.f37 T.fd37 ["kind", "number"] (spP p_all_roads) :=
  have G18 := ok18 (P := P) (w := w) (base := base) T
  okP T.d37.fn sc37 (fun ds Q ⟨k, t, h, _⟩ => by rw [h]; rfl) fun z cdv A outer s H E hr => ⟨_,
    (js_cons (js_set (i := 2) sc37.nd rfl (.inl rfl) (je_lst (ja_cons (je_tup ja_nil) ja_nil)))
      (js_cons (js_forR PassesOwn.never rfl (by rfl) T.b_range (ja_cons (je_var _ (pv 1)) ja_nil) (jg_name (i := 3) sc37.nd rfl (.inl rfl)) (js_one (js_setLc2 (i := 2) (own := [("road", 4), ("setting", 5)]) [5] rfl sc37.nd rfl rfl (sw_true rfl rfl rfl (by decide +kernel)) (je_var _ (pv 2)) (blkOk_by (by rfl)) (by decide) (fun _ _ _ _ _ => (jg_name (i := 4) sc37.nd rfl (.inl rfl))) (fun _ _ _ _ _ => by rfl) T.b_range (fun _ _ _ _ _ => (ja_cons (je_call G18 (hr.mono (by decide)) (by rfl) T.d18.gl T.d18.fn.kp T.d18.bi (ja_cons (je_var _ (pv 0)) ja_nil)) ja_nil)) (fun _ _ _ _ _ => (jg_name (i := 5) sc37.nd rfl (.inl rfl))) (fun _ _ _ _ _ => (je_op op_addA ho_add (je_var _ (pv 4)) (je_tup (ja_cons (je_var _ (pv 5)) ja_nil)))) (fun _ _ _ _ _ => by rfl))))
      (js_one (js_ret (je_var _ (pv 2)))))),
    fun ds Q ⟨k, n, e, hk, hn, hp, h⟩ => by
      subst e
      refine ⟨small (by decide), small (by decide), ?_⟩
      refine ⟨_, rfl, by omega, by show (n : Int) ≤ (10000000 : Nat); omega, ?_⟩
      rw [Int.toNat_natCast]
      have mono : ∀ i, i ≤ n → sets k ^ i ≤ 64 := fun i hi => Nat.le_trans (Nat.pow_le_pow_right hk.slo hi) hp
      refine sLoop_ind (fun rest ρ => ∃ i x3 x4 x5, i ≤ n ∧ rest = (nums n).drop i ∧ ρ = [some (.d (kD k)), some (.d (nD n)), some (.d (.list ((roadsP (sets k) i).map tD))), x3, x4, x5]) ?_ ?_ _ _ ⟨0, none, none, none, by omega, rfl, rfl⟩
      · rintro ρ ⟨i, x3, x4, x5, hi, e1, rfl⟩
        have : i = n := by
          have := congrArg List.length e1
          simp [nums] at this
          omega
        subst this
        exact ⟨_, rfl, h⟩
      · rintro d ds ρ ⟨i, x3, x4, x5, hi, e1, rfl⟩ K hK
        have hlt : i < n := by
          have := congrArg List.length e1
          simp [nums] at this
          omega
        rw [List.drop_eq_getElem_cons (by simpa [nums] using hlt)] at e1
        obtain ⟨rfl, rfl⟩ := List.cons.inj e1
        have hl := roadsP_len (sets k) i
        refine ⟨_, rfl, ?_⟩
        refine lc2_enc (e := tD) (sets k) (fun r => _) (fun r s => tD (r ++ [s])) (by have := hk.shi; omega) (roadsP (sets k) i) [] _ (fun r hr Z hZ => hZ) (fun r hr Z hZ => ⟨_, rfl, settings_call hk hZ⟩) (fun r hr s hs Q hQ => ⟨_, rfl, _, rfl, by show 1 ≤ lim; decide, ?_⟩) ?_ ?_
        · have hr2 := (roadsP_ok (sets k) i r hr).1
          refine ⟨by rw [List.length_map, List.length_singleton]; exact small (by omega), ?_⟩
          rw [app_rt]; exact hQ
        · rw [List.length_nil, hl]
          have h1 := mono i hi
          have h2 := hk.shi
          have : sets k ^ i * sets k ≤ 64 * 6 := Nat.mul_le_mul h1 h2
          exact small (by omega)
        · have e : (roadsP (sets k) (i + 1)).map tD = (roadsP (sets k) i).flatMap fun r => (List.range (sets k)).map fun s => tD (r ++ [s]) := by
            show ((roadsP (sets k) i).flatMap fun r => (List.range (sets k)).map fun s => r ++ [s]).map tD = _
            rw [List.map_flatMap]
            simp only [List.map_map]
            rfl
          refine hK _ ⟨i + 1, some (.d ((nums n)[i]'(by simpa [nums] using hlt))), x4, x5, hlt, rfl, ?_⟩
          rw [e]
          rfl⟩
end
end Lr
namespace Lr
open PySem PySem.Spec PyProof.Rows L2
theorem seen_snoc {α : Type} [DecidableEq α] (xs : List α) (x : α) : seen (xs ++ [x]) = seen xs ++ (if x ∈ seen xs then [] else [x]) := by
  unfold seen
  rw [List.foldl_append, List.foldl_cons, List.foldl_nil]
  split
  · simp
  · rfl
theorem idx_le {α : Type} [DecidableEq α] : ∀ {l : List α} {m : Nat} {y : α}, l[m]? = some y → l.idxOf y ≤ m
  | [], _, _, h => by simp at h
  | x :: l, 0, y, h => by
    simp at h
    subst h
    simp
  | x :: l, m + 1, y, h => by
    rw [List.getElem?_cons_succ] at h
    rw [List.idxOf_cons]
    have := idx_le h
    cases (x == y)
    · simp; omega
    · simp
theorem take_more {α : Type} {xs : List α} {i : Nat} (h : i < xs.length) : xs.take (i + 1) = xs.take i ++ [xs[i]] := by
  rw [List.take_add_one, List.getElem?_eq_getElem h]; rfl
theorem idx_data {α : Type} [DecidableEq α] {f : α → PyData} {n : Nat} (e : Enc f n) (hn : n ≤ 60) {l : List α} {x : α} (hx : x ∈ l) {P : PyData → Prop} (h : P (nD (l.idxOf x))) : fIndex (.list (l.map f)) (f x) P := by
  refine ⟨e.sh (by omega) x, (e.lst).sh (by omega) l, l.idxOf x, f x, ?_, by rw [e.eqv]; simp, fun m z hm hz => ?_, h⟩
  · have := List.getElem_idxOf (List.idxOf_lt_length_of_mem hx)
    rw [List.getElem?_map, List.getElem?_eq_getElem (List.idxOf_lt_length_of_mem hx), this]; rfl
  · rw [List.getElem?_map] at hz
    obtain ⟨y, hy, rfl⟩ := Option.map_eq_some_iff.mp hz
    rw [e.eqv]
    refine decide_eq_false fun q => ?_
    subst q
    have hl : m < l.length := (List.getElem?_eq_some_iff.mp hy).1
    have h2 : l.idxOf y ≤ m := idx_le hy
    omega
section
variable {P : Program} {w : World} {K : PySem.W.Frag} {mg : Str → Option Value} {base : Heap}
def p_first_named : FL := fun ds Q => ∃ (α : Type) (_ : DecidableEq α) (f : α → PyData) (n : Nat) (xs : List α), Enc f n ∧ n ≤ 60 ∧ ds = [.list (xs.map f)] ∧ xs.length ≤ 1000 ∧ Q (tD (namedP xs))
theorem ok38 (T : Txt K mg) : FnOk P w K mg base CX0 1 T.f38 T.fd38 ["items"] (spP p_first_named) :=
  okP T.d38.fn sc38 (fun ds Q ⟨_, _, _, _, _, _, _, h, _⟩ => by rw [h]; rfl) fun z cdv A outer s H E hr => ⟨_,
    (js_cons (js_set (i := 1) sc38.nd rfl (.inr rfl) (je_lst ja_nil))
      (js_cons (js_forL PassesOwn.never rfl (je_var _ (pv 0)) (jg_name (i := 2) sc38.nd rfl (.inl rfl)) (js_one (js_set (i := 1) sc38.nd rfl (.inr rfl) (je_op op_addA ho_add (je_var _ (pv 1)) (je_if (jt_cmpR (op_inD (u65 hr)) ho_in (je_var _ (pv 2)) (je_var _ (pv 1)) (by with_unfolding_all rfl)) (je_lst ja_nil) (je_lst (ja_cons (je_var _ (pv 2)) ja_nil)))))))
      (js_one (js_ret (je_callTy call_tuple_of hoL_tuple (by rfl) T.b_tuple (by decide +kernel) (ja_cons (je_lcL (own := [("item", 2)]) rfl sc38.nd (je_var _ (pv 0)) (blkOk_by (by rfl)) (fun _ _ _ _ _ => (jg_name (i := 2) sc38.nd rfl (.inl rfl))) (fun _ _ _ _ _ => jts_nil) (fun _ _ _ _ _ => (je_index hr (je_var _ (pv 1)) (je_var _ (pv 2))))) ja_nil)))))),
    fun ds Q ⟨α, _, f, n, xs, en, hn, e, hl, h⟩ => by
      subst e
      refine ⟨small (by decide), ?_⟩
      refine ⟨_, rfl, ?_⟩
      refine sLoop_ind (fun rest ρ => ∃ i x2, i ≤ xs.length ∧ rest = (xs.drop i).map f ∧ ρ = [some (.d (.list (xs.map f))), some (.d (.list ((seen (xs.take i)).map f))), x2]) ?_ ?_ _ _ ⟨0, none, by omega, rfl, rfl⟩
      · rintro ρ ⟨i, x2, hi, e1, rfl⟩
        have : i = xs.length := by
          have := congrArg List.length e1
          simp at this
          omega
        subst this
        rw [List.take_length]
        refine ⟨_, rfl, ?_⟩
        refine lc_enc (e := f) (fun x => nD ((seen xs).idxOf x)) xs [] _ (fun x hx Q hQ => ⟨_, rfl, trivial, _, rfl, idx_data en hn ((seen_mem xs x).mpr hx) hQ⟩) (by rw [List.length_nil]; exact small (by omega)) ?_
        show Q (.tuple ([] ++ xs.map fun x => nD ((seen xs).idxOf x)))
        unfold tD namedP at h
        rw [List.map_map] at h
        exact h
      · rintro d ds ρ ⟨i, x2, hi, e1, rfl⟩ K hK
        have hlt : i < xs.length := by
          have := congrArg List.length e1
          simp at this
          omega
        rw [List.drop_eq_getElem_cons hlt, List.map_cons] at e1
        obtain ⟨rfl, rfl⟩ := List.cons.inj e1
        have hs : (seen (xs.take i)).length ≤ 1000 := Nat.le_trans (seen_len _) (by rw [List.length_take]; omega)
        refine ⟨_, rfl, ?_⟩
        refine ⟨_, rfl, _, rfl, en.sh (by omega) _, (en.lst).sh (by omega) _, ?_⟩
        rw [en.any]
        have step : ∀ Z : Env' → Prop, (∀ ρ', (∃ j y2, j ≤ xs.length ∧ (xs.drop (i + 1)).map f = (xs.drop j).map f ∧ ρ' = [some (.d (.list (xs.map f))), some (.d (.list ((seen (xs.take j)).map f))), y2]) → Z ρ') → Z [some (.d (.list (xs.map f))), some (.d (.list ((seen (xs.take i) ++ (if xs[i] ∈ seen (xs.take i) then [] else [xs[i]])).map f))), some (.d (f xs[i]))] := fun Z hZ => hZ _ ⟨i + 1, some (.d (f xs[i])), hlt, rfl, by rw [take_more hlt, seen_snoc]⟩
        by_cases hm : xs[i] ∈ seen (xs.take i)
        · refine (show (if decide (xs[i] ∈ seen (xs.take i)) = true then _ else _) from ?_)
          rw [if_pos (decide_eq_true hm)]
          refine ⟨small (by decide), ?_⟩
          refine ⟨by rw [List.length_map]; exact small (by omega), ?_⟩
          have := step K hK
          rw [if_pos hm, List.map_append] at this
          exact this
        · refine (show (if decide (xs[i] ∈ seen (xs.take i)) = true then _ else _) from ?_)
          rw [if_neg (by simpa using hm)]
          refine ⟨_, rfl, by show 1 ≤ lim; decide, ?_⟩
          refine ⟨by rw [List.length_map, List.length_singleton]; exact Nat.le_trans (m := 1001) (by omega) (by decide), ?_⟩
          have := step K hK
          rw [if_neg hm, List.map_append] at this
          exact this⟩
def p_few (C : Addr) : FX := fun ds Q R => ∃ k n, ds = [kD k, nD n] ∧ Kd k ∧ n ≤ 60 ∧ (sets k ^ n ≤ 64 → Q .none) ∧ (64 < sets k ^ n → R (.many C 64))
theorem ok36 (T : Txt K mg) (M : TmTxt P K mg) : FnOk P w K mg base (L2.CX P w) 3 T.f36 T.fd36 ["kind", "number"] (spX (p_few M.C)) :=
  have G18 := ok18 (P := P) (w := w) (base := base) T
  okX T.d36.fn sc36 (fun ds Q R ⟨k, n, h, _⟩ => by rw [h]; rfl) fun z cdv A outer s H hz hr => ⟨_,
    (js_cons (js_set (i := 2) sc36.nd rfl (.inl rfl) je_int)
      (js_one (js_forR (passes_of rfl) rfl (by rfl) T.b_range (ja_cons (je_var _ (pv 1)) ja_nil) (jg_name (i := 3) sc36.nd rfl (.inl rfl)) (js_cons (js_set (i := 2) sc36.nd rfl (.inl rfl) (je_op op_mulA ho_mul (je_var _ (pv 2)) (je_call G18 (hr.mono (by decide)) (by rfl) T.d18.gl T.d18.fn.kp T.d18.bi (ja_cons (je_var _ (pv 0)) ja_nil))))
      (js_one (js_if (jt_cmpR op_gt ho_gt (je_var _ (pv 2)) (je_gint (by rfl) T.c_ROADS) (nomark _)) (js_one (js_raiseM M hz rfl (takes_of rfl rfl rfl rfl) hr (by rfl) (je_gint (by rfl) T.c_ROADS))) js_nil)))))),
    fun ds Q ⟨k, n, e, hk, hn, h1, h2⟩ => by
      subst e
      refine ⟨_, rfl, by omega, by show (n : Int) ≤ (10000000 : Nat); omega, ?_⟩
      rw [Int.toNat_natCast]
      have mono : ∀ i, i ≤ n → sets k ^ i ≤ sets k ^ n := fun i hi => Nat.pow_le_pow_right hk.slo hi
      refine sLoop_ind (fun rest ρ => ∃ i x3, i ≤ n ∧ rest = (nums n).drop i ∧ ρ = [some (.d (kD k)), some (.d (nD n)), some (.d (nD (sets k ^ i))), x3] ∧ sets k ^ i ≤ 64) ?_ ?_ _ _ ⟨0, none, by omega, rfl, rfl, by simp⟩
      · rintro ρ ⟨i, x3, hi, e1, rfl, hp⟩
        have : i = n := by
          have := congrArg List.length e1
          simp [nums] at this
          omega
        subst this
        exact h1 hp
      · rintro d ds ρ ⟨i, x3, hi, e1, rfl, hp⟩ K hK
        have hlt : i < n := by
          have := congrArg List.length e1
          simp [nums] at this
          omega
        rw [List.drop_eq_getElem_cons (by simpa [nums] using hlt)] at e1
        obtain ⟨rfl, rfl⟩ := List.cons.inj e1
        refine ⟨_, rfl, _, rfl, settings_call hk ?_⟩
        refine ⟨.inl ⟨by show -(2 ^ 64 : Int) < ((sets k ^ i : Nat) : Int); omega, by show ((sets k ^ i : Nat) : Int) < 2 ^ 64; omega⟩, ?_⟩
        have e : (((sets k ^ i : Nat) : Int) * ((sets k : Nat) : Int)) = ((sets k ^ (i + 1) : Nat) : Int) := by rw [Nat.pow_succ]; push_cast; rfl
        rw [e]
        refine ⟨_, rfl, ?_⟩
        by_cases hb : 64 < sets k ^ (i + 1)
        · refine (show (if decide ((64 : Int) < ((sets k ^ (i + 1) : Nat) : Int)) = true then _ else _) from ?_)
          rw [if_pos (decide_eq_true (by omega))]
          exact h2 (Nat.lt_of_lt_of_le hb (mono _ hlt))
        · refine (show (if decide ((64 : Int) < ((sets k ^ (i + 1) : Nat) : Int)) = true then _ else _) from ?_)
          rw [if_neg (fun q => by have := of_decide_eq_true q; omega)]
          exact hK _ ⟨i + 1, _, hlt, rfl, rfl, by omega⟩⟩
end
end Lr
namespace Lr
open PySem PySem.Spec PyProof.Rows L2
def fitsLot (n : Int) (v : PyData) : Bool := match v with
  | .tuple ds => (isTup (.tuple ds) 1 12 && ds.all fun d => fitsTrain n d) && ((ds.all fun d => decide (lenD d ≤ 6)) && decide (ds.map keyD).Nodup)
  | _ => false
theorem fits_tup {n : Int} {v : PyData} (h : fitsTrain n v = true) : ∃ ns : List Int, v = .tuple (ns.map .int) ∧ ns.length ≤ 60 := by
  cases v <;> try exact absurd (show false = true from h) (by decide)
  rename_i ds
  have h2 : (decide (ds.length ≤ 60) && ds.all fun d => isWhole d 0 (n - 1)) = true := h
  rw [Bool.and_eq_true, decide_eq_true_eq, List.all_eq_true] at h2
  have all : ∀ l : List PyData, (∀ d ∈ l, isWhole d 0 (n - 1) = true) → ∃ ns : List Int, l = ns.map .int := by
    intro l
    induction l with
    | nil => intro _; exact ⟨[], rfl⟩
    | cons d l ih =>
      intro hl
      obtain ⟨ns, rfl⟩ := ih fun x hx => hl x (List.mem_cons_of_mem _ hx)
      have hd := hl d List.mem_cons_self
      cases d <;> try exact absurd (show false = true from hd) (by decide)
      rename_i i
      exact ⟨i :: ns, rfl⟩
  obtain ⟨ns, rfl⟩ := all ds h2.2
  exact ⟨ns, rfl, by simpa using h2.1⟩
theorem numsD_ints : ∀ ns : List Int, numsD (ns.map .int) = true
  | [] => rfl
  | i :: ns => by rw [List.map_cons, numsD, numsD_ints ns]; rfl
theorem depth_ints : ∀ ns : List Int, NestedKey.depthAll (keysD (ns.map .int)) = 0
  | [] => rfl
  | i :: ns => by rw [List.map_cons]; show max 0 (NestedKey.depthAll (keysD (ns.map .int))) = 0; rw [depth_ints ns]; rfl
theorem tupKey_ints (ns : List Int) : tupKey (.tuple (ns.map .int)) := by
  refine ⟨⟨_, rfl⟩, numsD_ints ns, ?_⟩
  show NestedKey.depthAll (keysD (ns.map .int)) + 1 ≤ 8
  rw [depth_ints]; decide
section
variable {P : Program} {w : World} {K : PySem.W.Frag} {mg : Str → Option Value} {base : Heap}
def p_fits_lot : FL := fun ds Q => ∃ k v, ds = [kD k, v] ∧ Kd k ∧ PyData.canLay0 v = true ∧ Q (.bool (fitsLot k.length v))
theorem ok29 (T : Txt K mg) : FnOk P w K mg base CX0 3 T.f29 T.fd29 ["kind", "value"] (spP p_fits_lot) :=
  have G15 := ok15 (P := P) (w := w) (base := base) T
  have G19 := ok19 (P := P) (w := w) (base := base) T
  okP T.d29.fn sc29 (fun ds Q ⟨k, v, h, _⟩ => by rw [h]; rfl) fun z cdv A outer s H E hr => ⟨_,
    (js_cons (js_if (jw_or (jt_not (jt_val (je_call G15 (hr.mono (by decide)) (by rfl) T.d15.gl T.d15.fn.kp T.d15.bi (ja_cons (je_var _ (pv 1)) (ja_cons je_int (ja_cons (je_gint (by rfl) T.c_LOT) ja_nil)))))) (jw_or1 (jt_not (jt_val (je_callB (cr_all rfl) hoL_all (by rfl) T.b_all (by decide +kernel) (ja_cons (je_lcT (own := [("train", 2)]) rfl sc29.nd (je_var _ (pv 1)) (blkOk_by (by rfl)) (fun _ _ _ _ _ => (jg_name (i := 2) sc29.nd rfl (.inl rfl))) (fun _ _ _ _ _ => jts_nil) (fun _ _ _ _ _ => (je_call G19 (hr.mono (by decide)) (by rfl) T.d19.gl T.d19.fn.kp T.d19.bi (ja_cons (je_var _ (pv 0)) (ja_cons (je_var _ (pv 2)) ja_nil))))) ja_nil)))))).pt (js_one (js_ret je_bl)) js_nil)
      (js_one (js_ret (je_and (je_callB (cr_all rfl) hoL_all (by rfl) T.b_all (by decide +kernel) (ja_cons (je_lcT (own := [("train", 2)]) rfl sc29.nd (je_var _ (pv 1)) (blkOk_by (by rfl)) (fun _ _ _ _ _ => (jg_name (i := 2) sc29.nd rfl (.inl rfl))) (fun _ _ _ _ _ => jts_nil) (fun _ _ _ _ _ => (je_cmpR op_le ho_le (je_callB call_len_seq hoL_len (by rfl) T.b_len (by decide +kernel) (ja_cons (je_var _ (pv 2)) ja_nil)) (je_gint (by rfl) T.c_WALKERS) (nomark _)))) ja_nil)) (je_one (je_cmpR (op_eqD hr.units) ho_eq (je_lenset rfl hr (by rfl) T.b_len (by rfl) T.b_set (je_var _ (pv 1))) (je_callB call_len_seq hoL_len (by rfl) T.b_len (by decide +kernel) (ja_cons (je_var _ (pv 1)) ja_nil)) (nomark _))))))),
    fun ds Q ⟨k, v, e, hk, lay, h⟩ => by
      subst e
      refine ⟨v, rfl, lay, ?_⟩
      cases v <;> try exact h
      rename_i ds _h0
      have h' : Q (.bool ((isTup (.tuple ds) 1 12 && ds.all fun d => fitsTrain k.length d) && ((ds.all fun d => decide (lenD d ≤ 6)) && decide (ds.map keyD).Nodup))) := h
      show (if (!isTup (.tuple ds) 1 12) = true then _ else _)
      cases e : isTup (.tuple ds) 1 12 with
      | false => rw [e] at h'; exact h'
      | true =>
        rw [e, Bool.true_and] at h'
        obtain ⟨_, q, hl1, hl2⟩ := isTup16 e
        cases q
        refine ⟨_, rfl, ?_⟩
        refine lc_map (fun d => .bool (fitsTrain k.length d)) ds [] _ (fun d hd Q hQ => ⟨_, rfl, d, rfl, k, d, rfl, hk, layT lay d hd, hQ⟩) (by rw [List.length_nil]; exact small (by omega)) ?_
        dsimp only [wNil, wCons, wL, arg1, List.nil_append]
        refine fAll_map ?_
        show (if (!ds.all fun d => fitsTrain k.length d) = true then _ else _)
        cases e2 : ds.all fun d => fitsTrain k.length d with
        | false => rw [e2] at h'; exact h'
        | true =>
          rw [e2, Bool.true_and] at h'
          have tk : ∀ d ∈ ds, ∃ ns : List Int, d = .tuple (ns.map .int) ∧ ns.length ≤ 60 := fun d hd => fits_tup (List.all_eq_true.mp e2 d hd)
          refine ⟨_, rfl, ?_⟩
          refine lc_map (fun d => .bool (decide (lenD d ≤ 6))) ds [] _ (fun d hd Q hQ => ?_) (by rw [List.length_nil]; exact small (by omega)) ?_
          · obtain ⟨ns, rfl, _⟩ := tk d hd
            refine ⟨_, rfl, ?_⟩
            have q : decide ((((ns.map PyData.int).length : Nat) : Int) ≤ 6) = decide (lenD (.tuple (ns.map .int)) ≤ 6) := decide_eq_decide.mpr (by show _ ↔ (ns.map PyData.int).length ≤ 6; omega)
            show Q (.bool (decide ((((ns.map PyData.int).length : Nat) : Int) ≤ 6)))
            rw [q]
            exact hQ
          · dsimp only [wNil, wCons, wL, arg1, List.nil_append]
            refine fAll_map ?_
            show (match PyData.bool (ds.all fun d => decide (lenD d ≤ 6)) with | .bool true => _ | .bool false => _ | _ => _)
            cases e3 : ds.all fun d => decide (lenD d ≤ 6) with
            | false => rw [e3] at h'; exact h'
            | true =>
              rw [e3, Bool.true_and] at h'
              refine ⟨_, rfl, ds, rfl, by omega, .inl ⟨fun d hd => ?_, fun n hn1 hn2 => ?_⟩⟩
              · obtain ⟨ns, rfl, _⟩ := tk d hd
                exact tupKey_ints ns
              · refine ⟨_, rfl, sh_int _, sh_int _, ?_⟩
                have q : PyData.eqv (.int (n : Int)) (.int (ds.length : Int)) = decide (ds.map keyD).Nodup := by
                  show ((n : Int) == (ds.length : Int)) = _
                  rw [Bool.beq_eq_decide_eq]
                  exact decide_eq_decide.mpr (by rw [← hn2]; omega)
                rw [q]
                exact h'⟩
def p_need_lot (T : Txt K mg) : FX := fun ds Q R => ∃ k v, ds = [kD k, v] ∧ Kd k ∧ PyData.canLay0 v = true ∧ (fitsLot k.length v = true → Q .none) ∧ (fitsLot k.length v = false → R (.of T.C_InvalidLot))
theorem ok32 (T : Txt K mg) : FnOk P w K mg base (L2.CX P w) 4 T.f32 T.fd32 ["kind", "value"] (spX (p_need_lot T)) :=
  have G29 := ok29 (P := P) (w := w) (base := base) T
  okX T.d32.fn sc32 (fun ds Q R ⟨k, v, h, _⟩ => by rw [h]; rfl) fun z cdv A outer s H hz hr => ⟨_,
    (js_one (js_if (jt_not (jt_val (je_call G29 (hr.mono (by decide)) (by rfl) T.d29.gl T.d29.fn.kp T.d29.bi (ja_cons (je_var _ (pv 0)) (ja_cons (je_var _ (pv 1)) ja_nil))))) (js_one (js_raiseO hz rfl (takes_of rfl rfl rfl rfl) T.e_InvalidLot (by rfl))) js_nil)),
    fun ds Q ⟨k, v, e, hk, lay, h1, h2⟩ => by
      subst e
      refine ⟨_, rfl, v, rfl, k, v, rfl, hk, lay, ?_⟩
      show (if (!fitsLot k.length v) = true then _ else _)
      cases e : fitsLot k.length v with
      | true => exact h1 e
      | false => exact h2 e⟩
end
end Lr
namespace Lr
open PySem PySem.Spec PyProof.Rows L2
theorem sWhile_m {c : WT} {b : WS} {P : Pn} (I : Nat → Env' → Prop)
    (hs : ∀ (m : Nat) (ρ : Env'), I m ρ → ∀ K : Env' → Prop, (∀ m' ρ', m' < m → I m' ρ' → K ρ') → c ρ fun x => if x = true then b { P with nx := K, ct := K, bk := P.nx } ρ else P.nx ρ) {m : Nat} {ρ : Env'} (h0 : I m ρ) : sWhile c b P ρ := by
  have all : ∀ (n m : Nat) (ρ : Env'), I m ρ → m < n → sWh c b n P ρ := by
    intro n
    induction n with
    | zero => intro m ρ _ h; exact absurd h (Nat.not_lt_zero _)
    | succ n ih => intro m ρ h hm; exact hs m ρ h (fun ρ2 => sWh c b n P ρ2) fun m' ρ' hl h' => ih m' ρ' h' (by omega)
  exact ⟨m + 1, all _ m ρ h0 (Nat.lt_succ_self _)⟩
theorem lc_pick {α : Type} {e : α → PyData} {g : WG} {tt : WT} {te : WE} {ρ : Env'} (p : α → Bool) (F : α → PyData) : ∀ (xs : List α) (acc : List PyData) (P : PyData → Prop),
    (∀ x ∈ xs, ∀ (Q2 : PyData → Prop) (Q3 : Prop), (p x = true → Q2 (F x)) → (p x = false → Q3) → g (e x) ρ fun ρ1 => tt ρ1 fun b => if b = true then te ρ1 Q2 else Q3) → acc.length + xs.length ≤ lim → P (.list (acc ++ (xs.filter p).map F)) → wLc g tt te ρ (xs.map e) acc P
  | [], acc, P, _, _, h => by rw [List.filter_nil, List.map_nil, List.append_nil] at h; exact h
  | x :: xs, acc, P, hd, hl, h => by
    rw [List.length_cons] at hl
    refine hd x List.mem_cons_self _ _ (fun e => ⟨by omega, lc_pick p F xs _ P (fun y hy => hd y (List.mem_cons_of_mem _ hy)) ?_ ?_⟩) fun e => lc_pick p F xs _ P (fun y hy => hd y (List.mem_cons_of_mem _ hy)) (by omega) ?_
    · rw [List.length_append, List.length_singleton]; omega
    · rw [List.filter_cons, if_pos e] at h
      rw [List.append_assoc]; exact h
    · rw [List.filter_cons, if_neg (by rw [e]; decide)] at h
      exact h
def fold1 {α : Type} [DecidableEq α] (m ts : List α) : List α := ts.foldl (fun m x => if x ∈ m then m else m ++ [x]) m
section
variable {α : Type} [DecidableEq α]
theorem fold1_old {m : List α} {t : α} {ts : List α} (h : t ∈ m) : fold1 m (t :: ts) = fold1 m ts := by unfold fold1; rw [List.foldl_cons, if_pos h]
theorem fold1_new {m : List α} {t : α} {ts : List α} (h : t ∉ m) : fold1 m (t :: ts) = fold1 (m ++ [t]) ts := by unfold fold1; rw [List.foldl_cons, if_neg h]
theorem fold1_mem (ts m : List α) (x : α) : x ∈ fold1 m ts ↔ x ∈ m ∨ x ∈ ts := seen_mem_aux ts m x
theorem nodup_put {m : List α} {t : α} (h : m.Nodup) (q : t ∉ m) : (m ++ [t]).Nodup := by
  rw [List.nodup_append]
  exact ⟨h, by simp, fun a ha c hc e => q (by simp at hc; rw [← hc, ← e]; exact ha)⟩
theorem fold1_nodup : ∀ (ts m : List α), m.Nodup → (fold1 m ts).Nodup
  | [], m, h => h
  | t :: ts, m, h => by
    by_cases q : t ∈ m
    · rw [fold1_old q]; exact fold1_nodup ts _ h
    · rw [fold1_new q]; exact fold1_nodup ts _ (nodup_put h q)
theorem fold1_fresh : ∀ (ts m : List α), (m ++ ts).Nodup → fold1 m ts = m ++ ts
  | [], m, _ => by simp [fold1]
  | t :: ts, m, h => by
    have q : t ∉ m := fun q => by
      rw [List.nodup_append] at h
      exact h.2.2 t q t List.mem_cons_self rfl
    rw [fold1_new q, fold1_fresh ts _ (by simpa using h)]
    simp
end
theorem putsN_fun (F : List Nat → PyData) : ∀ (ts m : List (List Nat)), putsN (m.map fun t => (t, F t)) (ts.map fun t => (t, F t)) = (fold1 m ts).map fun t => (t, F t)
  | [], m => rfl
  | t :: ts, m => by
    show putsN (putN (m.map fun t => (t, F t)) t (F t)) _ = _
    have e1 : (m.map fun t => (t, F t)).map (·.1) = m := by rw [List.map_map]; exact List.map_id m
    unfold putN
    rw [e1]
    by_cases h : t ∈ m
    · rw [if_pos h, fold1_old h, List.map_map]
      have e2 : m.map ((fun e : List Nat × PyData => if e.1 = t then (e.1, F t) else e) ∘ fun t => (t, F t)) = m.map fun t => (t, F t) := List.map_congr_left fun u _ => by
        show (if u = t then (u, F t) else (u, F u)) = (u, F u)
        by_cases hu : u = t
        · rw [if_pos hu, hu]
        · rw [if_neg hu]
      rw [e2]
      exact putsN_fun F ts _
    · rw [if_neg h, fold1_new h]
      have := putsN_fun F ts (m ++ [t])
      rw [List.map_append] at this
      exact this
structure Closed (k : Kn) (U : List (List Nat)) : Prop where
  cl : ∀ t ∈ U, ∀ s, s < sets k → (latchP k s t).2 ∈ U
  ok : ∀ t ∈ U, Lt k.length t ∧ t.length ≤ 1000
  few : U.length ≤ 1000
  hsh : (U.map tH).Nodup
theorem nodup_map_on {α β : Type} {f : α → β} : ∀ {l : List α}, l.Nodup → (∀ a ∈ l, ∀ b ∈ l, f a = f b → a = b) → (l.map f).Nodup
  | [], _, _ => List.nodup_nil
  | x :: l, h, hi => by
    rw [List.map_cons, List.nodup_cons]
    obtain ⟨h1, h2⟩ := List.nodup_cons.mp h
    refine ⟨fun q => ?_, nodup_map_on h2 fun a ha b hb => hi a (List.mem_cons_of_mem _ ha) b (List.mem_cons_of_mem _ hb)⟩
    obtain ⟨y, hy, e⟩ := List.mem_map.mp q
    have := hi y (List.mem_cons_of_mem _ hy) x List.mem_cons_self e
    exact h1 (this ▸ hy)
theorem inj_of_nodup {α β : Type} {f : α → β} : ∀ {l : List α}, (l.map f).Nodup → ∀ a ∈ l, ∀ b ∈ l, f a = f b → a = b
  | [], _, a, ha, _, _, _ => by cases ha
  | x :: l, h, a, ha, b, hb, e => by
    rw [List.map_cons, List.nodup_cons] at h
    rcases List.mem_cons.mp ha with ea | ha
    · rcases List.mem_cons.mp hb with eb | hb
      · rw [ea, eb]
      · exact absurd (List.mem_map.mpr ⟨b, hb, by rw [← e, ea]⟩) h.1
    · rcases List.mem_cons.mp hb with eb | hb
      · exact absurd (List.mem_map.mpr ⟨a, ha, by rw [e, eb]⟩) h.1
      · exact inj_of_nodup h.2 a ha b hb e
theorem Closed.hs {k : Kn} {U : List (List Nat)} (c : Closed k U) {ts : List (List Nat)} (hn : ts.Nodup) (hU : ∀ t ∈ ts, t ∈ U) : (ts.map tH).Nodup := nodup_map_on hn fun a ha b hb e => inj_of_nodup c.hsh a (hU a ha) b (hU b hb) e
theorem lcDs_enc {k : Kn} {g1 : WG} {te : WE} {ρ : Env'} (hg : ∀ p : Nat × List Nat, ∀ Q : PyData → Prop, Q (tD p.2) → g1 (outD p) ρ fun ρ1 => te ρ1 Q) (hk : sets k ≤ 6) : ∀ (ts : List (List Nat)) (acc : List PyData) (P : PyData → Prop), acc.length + ts.length * 6 ≤ lim →
    P (.list (acc ++ (ts.flatMap fun t => (pairsB k t).map (·.2)).map tD)) → wLcDs g1 te ρ (ts.map fun t => (t, pbD k t)) acc P
  | [], acc, P, _, h => by
    rw [List.flatMap_nil, List.map_nil, List.append_nil] at h; exact h
  | t :: ts, acc, P, hl, h => by
    rw [List.length_cons, Nat.succ_mul] at hl
    have hp : (pairsB k t).length ≤ 6 := by unfold pairsB; rw [List.length_map, List.length_range]; exact hk
    refine ⟨_, rfl, in_enc (e := outD) (fun p => tD p.2) (pairsB k t) acc _ (fun p _ Q hQ => hg p Q hQ) (by omega) ?_⟩
    refine lcDs_enc hg hk ts _ P (by rw [List.length_append, List.length_map]; omega) ?_
    rw [List.flatMap_cons, List.map_append, List.map_map] at h
    rw [List.append_assoc]
    exact h
section
variable {P : Program} {w : World} {K : PySem.W.Frag} {mg : Str → Option Value} {base : Heap}
def p_met : FX := fun ds Q R => ∃ k ls, ds = [kD k, lotD ls] ∧ Kd k ∧ ls.length ≤ 1000 ∧ (∃ U, Closed k U ∧ ∀ t ∈ ls, t ∈ U) ∧ ∀ d, Q d
theorem ok31 (T : Txt K mg) (M : TmTxt P K mg) : FnOk P w K mg base (L2.CX P w) 3 T.f31 T.fd31 ["kind", "trains"] (spX p_met) :=
  have G30 := ok30 (P := P) (w := w) (base := base) T
  okX T.d31.fn sc31 (fun ds Q R ⟨k, v, h, _⟩ => by rw [h]; rfl) fun z cdv A outer s H hz hr => ⟨_,
    (js_cons (js_asg (je_tup (ja_cons je_dnew (ja_cons (je_callTy call_list_of hoL_list (by rfl) T.b_list (by decide +kernel) (ja_cons (je_var _ (pv 1)) ja_nil)) ja_nil))) (jg_tup (n := 2) rfl (jgs_cons (jg_name (i := 2) sc31.nd rfl (.inr rfl)) (jgs_cons (jg_name (i := 3) sc31.nd rfl (.inl rfl)) jgs_nil))))
      (js_cons (js_while (passes_of rfl) (jt_cmpR (op_neD hr.units) ho_ne (je_var _ (pv 3)) (je_lst ja_nil) (nomark _)) (js_cons (js_set (i := 4) sc31.nd rfl (.inr rfl) (je_callTy (call_dictF rfl hr) hoL_dict (by rfl) T.b_dict (by decide +kernel) (ja_cons (je_lcL (own := [("here", 5)]) rfl sc31.nd (je_var _ (pv 3)) (blkOk_by (by rfl)) (fun _ _ _ _ _ => (jg_name (i := 5) sc31.nd rfl (.inl rfl))) (fun _ _ _ _ _ => (jts_one (jt_dnot hr (je_var _ (pv 5)) (je_var _ (pv 2)) (by with_unfolding_all rfl)))) (fun _ _ _ _ _ => (je_tup (ja_cons (je_var _ (pv 5)) (ja_cons (je_call G30 (hr.mono (by decide)) (by rfl) T.d30.gl T.d30.fn.kp T.d30.bi (ja_cons (je_var _ (pv 0)) (ja_cons (je_var _ (pv 5)) ja_nil))) ja_nil))))) ja_nil)))
      (js_cons (js_asg (je_tup (ja_cons (je_dmerge hr (je_var _ (pv 2)) (je_var _ (pv 4))) (ja_cons (je_lcD (own := [("here", 5), ("left", 6), ("there", 7)]) (iD := 4) (iK := 5) [6, 7] rfl hr sc31.nd (pv 4) (blkOk_by (by rfl)) (by decide) (fun _ _ _ _ _ => (pg_name (i := 5) sc31.nd rfl (.inl rfl))) (fun _ _ _ _ _ => (pv 4)) (fun _ _ _ _ _ => (pv 5)) (fun _ _ _ _ _ => (jg_tup (n := 2) rfl (jgs_cons (jg_name (i := 6) sc31.nd rfl (.inl rfl)) (jgs_cons (jg_name (i := 7) sc31.nd rfl (.inl rfl)) jgs_nil)))) (fun _ _ _ _ _ => (je_var _ (pv 7))) (by decide) (by decide) (by decide) (by decide) (by decide) (of_decide_eq_true rfl)) ja_nil))) (jg_tup (n := 2) rfl (jgs_cons (jg_name (i := 2) sc31.nd rfl (.inr rfl)) (jgs_cons (jg_name (i := 3) sc31.nd rfl (.inl rfl)) jgs_nil))))
      (js_one (js_if (jt_cmpR op_gt ho_gt (je_callB call_lenF hoL_lenD (by rfl) T.b_len (by decide +kernel) (ja_cons (je_var _ (pv 2)) ja_nil)) (je_gint (by rfl) T.c_TRAINS) (nomark _)) (js_one (js_raiseM M hz rfl (takes_of rfl rfl rfl rfl) hr (by rfl) (je_gint (by rfl) T.c_TRAINS))) js_nil)))))
      (js_one (js_ret (je_var _ (pv 2)))))),
    fun ds Q ⟨k, ls, e, hk, hl, ⟨U, cU, hU⟩, h⟩ => by
      subst e
      refine ⟨_, rfl, by show 2 ≤ lim; decide, ?_⟩
      refine ⟨rfl, ?_⟩
      refine sWhile_m (fun m ρ => ∃ fs line x4 x5 x6 x7, ρ = [some (.d (kD k)), some (.d (lotD ls)), some (.d (dcD (fs.map fun t => (t, pbD k t)))), some (.d (.list (line.map tD))), x4, x5, x6, x7] ∧ fs.Nodup ∧ (∀ t ∈ fs, t ∈ U) ∧ (∀ t ∈ line, t ∈ U) ∧ line.length ≤ 6000 ∧ m = 2 * (U.length - fs.length) + (if line = [] then 0 else 1)) ?_ (m := 2 * (U.length - 0) + (if ls = [] then 0 else 1)) ⟨[], ls, none, none, none, none, rfl, List.nodup_nil, (fun t ht => by cases ht), hU, by omega, rfl⟩
      rintro m ρ ⟨fs, line, x4, x5, x6, x7, rfl, hn, hf, hln, hll, rfl⟩ K hK
      refine ⟨_, rfl, small (by decide), (enT.lst).sh (by decide) line, (enT.lst).sh (by decide) [], ?_⟩
      have q := (enT.lst).eqv line []
      rw [show (PyData.list [] : PyData) = .list (List.map tD []) from rfl, q]
      by_cases hle : line = []
      · rw [decide_eq_true hle]
        exact ⟨_, rfl, h _⟩
      · rw [decide_eq_false hle]
        refine (show (if true = true then _ else _) from ?_)
        rw [if_pos rfl]
        rw [if_neg hle] at hK
        refine ⟨_, rfl, ?_⟩
        refine lc_pick (e := tD) (fun t => decide (t ∉ fs)) (fun t => .tuple [tD t, pbD k t]) line [] _ (fun t ht Q2 Q3 h2 h3 => ⟨_, rfl, _, rfl, t, _, rfl, rfl, ?_⟩) (by rw [List.length_nil]; exact Nat.le_trans (m := 6000) (by omega) (by decide)) ?_
        · have e1 : (fs.map fun t => (t, pbD k t)).map (·.1) = fs := by rw [List.map_map]; exact List.map_id fs
          rw [e1]
          by_cases hm : t ∉ fs
          · rw [decide_eq_true hm]
            refine (show (if true = true then _ else _) from ?_)
            rw [if_pos rfl]
            exact ⟨_, rfl, _, rfl, _, rfl, k, t, rfl, hk, (cU.ok t (hln t ht)).1, (cU.ok t (hln t ht)).2, by show 2 ≤ lim; decide, h2 (decide_eq_true hm)⟩
          · rw [decide_eq_false hm]
            exact h3 (decide_eq_false hm)
        · rw [List.nil_append]
          refine ⟨(line.filter fun t => decide (t ∉ fs)).map fun t => (t, pbD k t), by rw [List.map_map]; rfl, ?_⟩
          have e0 := putsN_fun (pbD k) (line.filter fun t => decide (t ∉ fs)) []
          rw [show (List.map (fun t => (t, pbD k t)) [] : List (List Nat × PyData)) = [] from rfl] at e0
          rw [e0]
          have lsub : ∀ t ∈ fold1 [] (line.filter fun t => decide (t ∉ fs)), t ∈ line ∧ t ∉ fs := fun t ht => by
            rcases (fold1_mem _ _ _).mp ht with q | q
            · cases q
            · have := List.mem_filter.mp q
              exact ⟨this.1, of_decide_eq_true this.2⟩
          have lnd := fold1_nodup (line.filter fun t => decide (t ∉ fs)) [] List.nodup_nil
          have lall : ∀ t ∈ line, t ∉ fs → t ∈ fold1 [] (line.filter fun t => decide (t ∉ fs)) := fun t ht hm => (fold1_mem _ _ _).mpr (.inr (List.mem_filter.mpr ⟨ht, decide_eq_true hm⟩))
          generalize fold1 [] (line.filter fun t => decide (t ∉ fs)) = later at lsub lnd lall
          have nd2 : (fs ++ later).Nodup := by
            rw [List.nodup_append]
            exact ⟨hn, lnd, fun a ha b hb e => (lsub b hb).2 (e ▸ ha)⟩
          have sub2 : ∀ t ∈ fs ++ later, t ∈ U := fun t ht => by
            rcases List.mem_append.mp ht with q | q
            · exact hf t q
            · exact hln t (lsub t q).1
          have few2 : (fs ++ later).length ≤ U.length := nodup_le nd2 sub2
          have fewU := cU.few
          rw [List.length_append] at few2
          have e1 := putsN_fun (pbD k) fs []
          rw [show (List.map (fun t => (t, pbD k t)) [] : List (List Nat × PyData)) = [] from rfl, fold1_fresh fs [] (by simpa using hn), List.nil_append] at e1
          refine ⟨_, rfl, _, rfl, ?_, ⟨_, rfl, _, rfl, ?_, ?_, ?_⟩⟩
          · rw [List.map_map]; exact cU.hs hn hf
          · rw [List.map_map]; exact cU.hs lnd fun t ht => hln t (lsub t ht).1
          · rw [e1, List.length_map, List.length_map]; exact Nat.le_trans (m := 1000) (by omega) (by decide)
          · rw [e1, putsN_fun (pbD k) later fs, fold1_fresh later fs nd2]
            refine ⟨_, rfl, by rw [List.map_map]; exact (List.map_id later).symm ▸ lnd, ?_⟩
            refine lcDs_enc (k := k) (fun p Q hQ => ⟨rfl, _, rfl, hQ⟩) hk.shi later [] _ (by rw [List.length_nil]; exact Nat.le_trans (m := 6000) (by omega) (by decide)) ?_
            rw [List.nil_append]
            refine ⟨by show 2 ≤ lim; decide, ?_⟩
            refine ⟨rfl, ?_⟩
            refine ⟨_, rfl, _, rfl, ?_⟩
            rw [List.length_map, List.length_append]
            refine (show (if decide ((1000 : Int) < ((fs.length + later.length : Nat) : Int)) = true then _ else _) from ?_)
            rw [if_neg (fun q => by have := of_decide_eq_true q; omega)]
            refine hK (2 * (U.length - (fs ++ later).length) + (if (later.flatMap fun t => (pairsB k t).map (·.2)) = [] then 0 else 1)) _ ?_ ⟨fs ++ later, later.flatMap fun t => (pairsB k t).map (·.2), some (.d (dcD (later.map fun t => (t, pbD k t)))), x5, x6, x7, rfl, nd2, sub2, fun t ht => ?_, ?_, rfl⟩
            · rw [List.length_append]
              cases later with
              | nil => rw [List.flatMap_nil, if_pos rfl, List.length_nil]; omega
              | cons a l => rw [List.length_cons] at *; split <;> omega
            · obtain ⟨u, hu, ht⟩ := List.mem_flatMap.mp ht
              unfold pairsB at ht
              rw [List.map_map] at ht
              obtain ⟨s, hs, rfl⟩ := List.mem_map.mp ht
              exact cU.cl u (hln u (lsub u hu).1) s (List.mem_range.mp hs)
            · rw [List.length_flatMap]
              have e2 : (later.map fun t => ((pairsB k t).map (·.2)).length) = later.map fun _ => sets k := List.map_congr_left fun t _ => by unfold pairsB; simp
              rw [e2, List.map_const', List.sum_replicate_nat]
              have := Nat.mul_le_mul (show later.length ≤ 1000 by omega) hk.shi
              exact this⟩
end
end Lr
namespace Lr
open PySem PySem.Spec PyProof.Rows L2
/-- an entry of the line: a state, the roads that led there -/
def lnD (x : List Nat × List (List Nat)) : PyData := .tuple [tD x.1, lotD x.2]
theorem enLn : Enc lnD 3 := enT.pair enLot
theorem slice_tail (d : PyData) (ds : List PyData) {P : PyData → Prop} (h : P (.list ds)) : fSlice (some 1) none (.list (d :: ds)) P := by
  have e1 : HT.sIx (d :: ds).length 0 (some 1) = 1 := by
    have := HT.sIx_nat (d :: ds).length 0 1
    rw [show ((1 : Nat) : Int) = 1 from rfl] at this
    rw [this, List.length_cons]; omega
  show P (.list (((d :: ds).drop (HT.sIx (d :: ds).length 0 (some 1))).take (HT.sIx (d :: ds).length (d :: ds).length none - HT.sIx (d :: ds).length 0 (some 1))))
  rw [e1, HT.sIx_none]
  have : ((d :: ds).drop 1).take ((d :: ds).length - 1) = ds := by
    rw [List.drop_succ_cons, List.drop_zero, List.length_cons, Nat.add_sub_cancel, List.take_length]
  rw [this]; exact h
theorem expand_old {σ β : Type} [DecidableEq σ] {step : σ → β → σ} {s : σ} {p : List β} {b : β} {bs : List β} {line : List (σ × List β)} {met : List σ} (h : step s b ∈ met) : expand step s p (b :: bs) line met = expand step s p bs line met := by rw [expand, if_pos h]
theorem expand_new {σ β : Type} [DecidableEq σ] {step : σ → β → σ} {s : σ} {p : List β} {b : β} {bs : List β} {line : List (σ × List β)} {met : List σ} (h : step s b ∉ met) : expand step s p (b :: bs) line met = expand step s p bs (line ++ [(step s b, p ++ [b])]) (met ++ [step s b]) := by rw [expand, if_neg h]
theorem nodup_of_map {α β : Type} {f : α → β} : ∀ {l : List α}, (l.map f).Nodup → l.Nodup
  | [], _ => List.nodup_nil
  | x :: l, h => by
    rw [List.map_cons, List.nodup_cons] at h
    exact List.nodup_cons.mpr ⟨fun q => h.1 (List.mem_map.mpr ⟨x, q, rfl⟩), nodup_of_map h.2⟩
theorem any_t {α : Type} [DecidableEq α] {f : α → PyData} {n : Nat} (e : Enc f n) {a : α} {xs : List α} (h : a ∈ xs) : ((xs.map f).any fun z => PyData.eqv z (f a)) = true := by rw [e.any]; exact decide_eq_true h
theorem any_f {α : Type} [DecidableEq α] {f : α → PyData} {n : Nat} (e : Enc f n) {a : α} {xs : List α} (h : a ∉ xs) : ((xs.map f).any fun z => PyData.eqv z (f a)) = false := by rw [e.any]; exact decide_eq_false h
theorem iL_nodup {s : List Nat} : (iL s).Nodup ↔ s.Nodup := by
  constructor
  · exact nodup_of_map
  · intro h
    exact nodup_map_on h fun a _ b _ e => by omega
theorem lenset_state {s : List Nat} (h : s.length < 19) {P : PyData → Prop} (hP : ∀ n : Nat, (n = s.length ↔ s.Nodup) → P (.int n)) : fLenSet (tD s) P := by
  refine ⟨s.map nD, rfl, by rw [List.length_map]; exact h, .inr ⟨iL s, by unfold iL; rw [List.map_map]; rfl, fun n _ hn => hP n ?_⟩⟩
  rw [iL_len, iL_nodup] at hn
  exact hn
theorem univ_len (n : Nat) : ∀ m : Nat, (univ n m).length = n ^ m
  | 0 => rfl
  | m + 1 => by
    unfold univ
    rw [List.length_flatMap]
    have : ((List.range n).map fun a => ((univ n m).map (a :: ·)).length) = (List.range n).map fun _ => n ^ m := List.map_congr_left fun a _ => by rw [List.length_map, univ_len n m]
    rw [this, List.map_const', List.sum_replicate_nat, List.length_range, Nat.pow_succ, Nat.mul_comm]
theorem pow5 {m : Nat} (h : m ≤ 5) : m ^ m ≤ 3125 := by
  match m, h with
  | 0, _ => decide
  | 1, _ => decide
  | 2, _ => decide
  | 3, _ => decide
  | 4, _ => decide
  | 5, _ => decide
  | n + 6, h => omega
/-- the sizes in the search -/
structure Sz (m : Nat) (line : List (List Nat × List (List Nat))) (met : List (List Nat)) : Prop where
  nd : met.Nodup
  ok : ∀ s ∈ met, s.length = m ∧ ∀ a ∈ s, a < m
  lnd : (line.map (·.1)).Nodup
  sub : ∀ x ∈ line, x.1 ∈ met
  pth : ∀ x ∈ line, x.2.length < met.length
theorem Sz.met {m : Nat} {line : List (List Nat × List (List Nat))} {met : List (List Nat)} (h : Sz m line met) (hm : m ≤ 5) : met.length ≤ 3125 := by
  have := nodup_le h.nd (U := univ m m) fun s hs => (univ_mem m m s).mpr (h.ok s hs)
  rw [univ_len] at this
  exact Nat.le_trans this (pow5 hm)
theorem Sz.line {m : Nat} {line : List (List Nat × List (List Nat))} {met : List (List Nat)} (h : Sz m line met) (hm : m ≤ 5) : line.length ≤ 3125 := by
  have := nodup_le h.lnd (U := met) fun s hs => by obtain ⟨x, hx, rfl⟩ := List.mem_map.mp hs; exact h.sub x hx
  rw [List.length_map] at this
  exact Nat.le_trans this (h.met hm)
theorem Sz.tail {m : Nat} {x : List Nat × List (List Nat)} {line : List (List Nat × List (List Nat))} {met : List (List Nat)} (h : Sz m (x :: line) met) : Sz m line met :=
  ⟨h.nd, h.ok, (List.nodup_cons.mp h.lnd).2, fun y hy => h.sub y (List.mem_cons_of_mem _ hy), fun y hy => h.pth y (List.mem_cons_of_mem _ hy)⟩
theorem Sz.put {m : Nat} {t : List Nat} {p : List (List Nat)} {line : List (List Nat × List (List Nat))} {met : List (List Nat)} (h : Sz m line met) (ht : t ∉ met) (hl : t.length = m) (ha : ∀ a ∈ t, a < m) (hp : p.length ≤ met.length) : Sz m (line ++ [(t, p)]) (met ++ [t]) where
  nd := nodup_put h.nd ht
  ok := fun s hs => by
    rcases List.mem_append.mp hs with q | q
    · exact h.ok s q
    · simp at q; subst q; exact ⟨hl, ha⟩
  lnd := by
    rw [List.map_append]
    exact nodup_put h.lnd fun q => ht (by obtain ⟨x, hx, e⟩ := List.mem_map.mp q; rw [← show x.1 = t from e]; exact h.sub x hx)
  sub := fun x hx => by
    rcases List.mem_append.mp hx with q | q
    · exact List.mem_append_left _ (h.sub x q)
    · simp at q; subst q; simp
  pth := fun x hx => by
    rw [List.length_append, List.length_singleton]
    rcases List.mem_append.mp hx with q | q
    · have := h.pth x q; omega
    · simp at q; subst q; simp; omega
/-- what the sorted ones must be -/
def Srt (p : List (List Nat)) : Prop := p.length < 64 ∧ ∃ n, 1 ≤ n ∧ ∀ l ∈ p, l.length = n ∧ Lt 64 l
section
variable {P : Program} {w : World} {K : PySem.W.Frag} {mg : Str → Option Value} {base : Heap}
def p_fewest_in : FL := fun ds Q => ∃ (rs : List (List Nat)) (nm : List Nat → List Nat) (m f : Nat) (r : Option (List Nat × List (List Nat))), ds = [.list (rs.map tD), .list (rs.map fun r => tD (nm r)), nD m] ∧ 1 ≤ m ∧ m ≤ 5 ∧ rs.length ≤ 64 ∧ (∀ r ∈ rs, (nm r).length = m) ∧
  bfs (stepN namedP nm) goalN rs f [(List.replicate m 0, [])] [List.replicate m 0] = some r ∧
  (r = none → Q .none) ∧ (∀ s p, r = some (s, p) → Srt p ∧ ∀ ms : List (List Nat), ms.Perm p → ms.Pairwise (fun a b => cN a ≤ cN b) → Q (lotD ms))
theorem ok39 (T : Txt K mg) : FnOk P w K mg base CX0 2 T.f39 T.fd39 ["roads", "names", "many"] (spP p_fewest_in) :=
  have G38 := ok38 (P := P) (w := w) (base := base) T
  okP T.d39.fn sc39 (fun ds Q ⟨_, _, _, _, _, h, _⟩ => by rw [h]; rfl) fun z cdv A outer s H E hr => ⟨_,
    (js_cons (js_set (i := 3) sc39.nd rfl (.inl rfl) (je_op op_repTA ho_repT (je_tup (ja_cons je_int ja_nil)) (je_var _ (pv 2))))
      (js_cons (js_par (i := 4) (j := 5) rfl sc39.nd rfl rfl (by decide) rfl rfl (ja_cons (je_lst (ja_cons (je_tup (ja_cons (je_var _ (pv 3)) (ja_cons (je_tup ja_nil) ja_nil))) ja_nil)) (ja_cons (je_lst (ja_cons (je_var _ (pv 3)) ja_nil)) ja_nil)) (by rfl))
      (js_cons (js_while PassesOwn.never (jt_cmpR (op_neD hr.units) ho_ne (je_var _ (pv 4)) (je_lst ja_nil) (nomark _)) (js_cons (js_asg (je_tup (ja_cons (je_ix (je_var _ (pv 4)) je_int) (ja_cons (je_slice (po_some pe_int) po_none (fun _ _ _ => el_int) (fun _ _ _ => el_no) (je_var _ (pv 4))) ja_nil))) (jg_tup (n := 2) rfl (jgs_cons (jg_tup (n := 2) rfl (jgs_cons (jg_name (i := 9) sc39.nd rfl (.inl rfl)) (jgs_cons (jg_name (i := 10) sc39.nd rfl (.inl rfl)) jgs_nil))) (jgs_cons (jg_name (i := 4) sc39.nd rfl (.inl rfl)) jgs_nil))))
      (js_cons (js_if (jt_cmpR (op_eqD hr.units) ho_eq (je_lenset rfl hr (by rfl) T.b_len (by rfl) T.b_set (je_var _ (pv 9))) (je_var _ (pv 2)) (nomark _)) (js_one (js_ret (je_callTy call_tuple_of hoL_tuple (by rfl) T.b_tuple (by decide +kernel) (ja_cons (je_callB cr_sortT2 hoL_sortT (by rfl) T.b_sorted (by decide +kernel) (ja_cons (je_var _ (pv 10)) ja_nil)) ja_nil)))) js_nil)
      (js_one (js_forZ PassesOwn.never rfl (by rfl) T.b_zip (je_var _ (pv 0)) (je_var _ (pv 1)) (jg_tup (n := 2) rfl (jgs_cons (jg_name (i := 6) sc39.nd rfl (.inl rfl)) (jgs_cons (jg_name (i := 7) sc39.nd rfl (.inl rfl)) jgs_nil))) (js_cons (js_set (i := 8) sc39.nd rfl (.inl rfl) (je_call G38 (hr.mono (by decide)) (by rfl) T.d38.gl T.d38.fn.kp T.d38.bi (ja_cons (je_listzip rfl (by rfl) T.b_list (by rfl) T.b_zip (je_var _ (pv 9)) (je_var _ (pv 7))) ja_nil)))
      (js_one (js_if (jt_cmpR (op_notInD (u65 hr)) ho_notIn (je_var _ (pv 8)) (je_var _ (pv 5)) (by with_unfolding_all rfl)) (js_one (js_par (i := 4) (j := 5) rfl sc39.nd rfl rfl (by decide) rfl rfl (ja_cons (je_op op_addA ho_add (je_var _ (pv 4)) (je_lst (ja_cons (je_tup (ja_cons (je_var _ (pv 8)) (ja_cons (je_op op_addA ho_add (je_var _ (pv 10)) (je_tup (ja_cons (je_var _ (pv 6)) ja_nil))) ja_nil))) ja_nil))) (ja_cons (je_op op_addA ho_add (je_var _ (pv 5)) (je_lst (ja_cons (je_var _ (pv 8)) ja_nil))) ja_nil)) (by rfl))) js_nil))))))))
      (js_one (js_ret je_non))))),
    fun ds Q ⟨rs, nm, m, f, r, e, hm1, hm5, hrs, hnm, hb, hN, hS⟩ => by
      subst e
      refine ⟨by show 1 ≤ lim; decide, ?_⟩
      refine ⟨_, rfl, by show (1 : Int) ≤ (m : Int); omega, by show (m : Int) ≤ 1000; omega, by simp, by show 1 ≤ 1000; decide, ?_⟩
      have e0 : PyData.tuple (List.replicate (Int.toNat (m : Int)) [PyData.int 0]).flatten = tD (List.replicate m 0) := by
        rw [Int.toNat_natCast]
        unfold tD
        rw [List.map_replicate, List.flatten_replicate_singleton]
        rfl
      rw [e0]
      refine ⟨_, rfl, small (by decide), by show 2 ≤ lim; decide, by show 1 ≤ lim; decide, ?_⟩
      refine ⟨_, rfl, by show 1 ≤ lim; decide, ?_⟩
      refine sWhile_m (fun f ρ => ∃ line met x6 x7 x8 x9 x10, ρ = [some (.d (.list (rs.map tD))), some (.d (.list (rs.map fun r => tD (nm r)))), some (.d (nD m)), some (.d (tD (List.replicate m 0))), some (.d (.list (line.map lnD))), some (.d (.list (met.map tD))), x6, x7, x8, x9, x10] ∧ Sz m line met ∧ bfs (stepN namedP nm) goalN rs f line met = some r) ?_ (m := f) ⟨[(List.replicate m 0, [])], [List.replicate m 0], none, none, none, none, none, rfl, ⟨by simp, fun s hs => ?_, by simp, fun x hx => ?_, fun x hx => ?_⟩, hb⟩
      · rintro f ρ ⟨line, met, x6, x7, x8, x9, x10, rfl, hsz, hb⟩ K hK
        refine ⟨_, rfl, small (by decide), (enLn.lst).sh (by decide) line, (enLn.lst).sh (by decide) [], ?_⟩
        have q := (enLn.lst).eqv line []
        rw [show (PyData.list [] : PyData) = .list (List.map lnD []) from rfl, q]
        cases f with
        | zero => cases hb
        | succ f =>
          cases line with
          | nil =>
            have er : r = none := by unfold bfs at hb; exact (Option.some.inj hb).symm
            exact hN er
          | cons x line =>
            obtain ⟨st, pa⟩ := x
            rw [decide_eq_false (by simp)]
            refine (show (if true = true then _ else _) from ?_)
            rw [if_pos rfl]
            have hst := hsz.ok st (hsz.sub _ List.mem_cons_self)
            have hpa := hsz.pth _ List.mem_cons_self
            simp only at hpa
            have hmet := hsz.met hm5
            refine ⟨_, rfl, _, atI0, _, rfl, slice_tail _ _ ⟨by show 2 ≤ lim; decide, ?_⟩⟩
            refine ⟨rfl, rfl, ?_⟩
            refine ⟨_, rfl, lenset_state (s := st) (by omega) fun n hn => ⟨_, rfl, sh_int _, sh_int _, ?_⟩⟩
            have eg : PyData.eqv (.int (n : Int)) (nD m) = goalN st := by
              show ((n : Int) == (m : Int)) = _
              rw [Bool.beq_eq_decide_eq]
              unfold goalN
              rw [hst.1] at hn
              exact decide_eq_decide.mpr (by rw [← hn]; omega)
            rw [eg]
            unfold bfs at hb
            cases g : goalN st with
            | true =>
              rw [if_pos g] at hb
              have er : r = some (st, pa) := (Option.some.inj hb).symm
              obtain ⟨⟨s1, s2⟩, s3⟩ := hS _ _ er
              refine (show (if true = true then _ else _) from ?_)
              rw [if_pos rfl]
              exact ⟨_, rfl, pa, rfl, s1, s2, fun ms h1 h2 => s3 ms h1 h2⟩
            | false =>
              rw [if_neg (by rw [g]; decide)] at hb
              refine (show (if false = true then _ else _) from ?_)
              rw [if_neg (by decide)]
              refine ⟨_, rfl, _, rfl, by rw [List.length_map, List.length_map], ?_⟩
              have ez : ((rs.map tD).zip (rs.map fun r => tD (nm r))).map (fun p => PyData.tuple [p.1, p.2]) = rs.map fun r => .tuple [tD r, tD (nm r)] := by
                rw [List.zip_map', List.map_map]; rfl
              rw [ez]
              refine sLoop_ind (fun rest ρ => ∃ bs line' met' x6 x7 x8, rest = bs.map (fun r => PyData.tuple [tD r, tD (nm r)]) ∧ (∀ b ∈ bs, b ∈ rs) ∧ ρ = [some (.d (.list (rs.map tD))), some (.d (.list (rs.map fun r => tD (nm r)))), some (.d (nD m)), some (.d (tD (List.replicate m 0))), some (.d (.list (line'.map lnD))), some (.d (.list (met'.map tD))), x6, x7, x8, some (.d (tD st)), some (.d (lotD pa))] ∧ Sz m line' met' ∧ pa.length < met'.length ∧ expand (stepN namedP nm) st pa bs line' met' = expand (stepN namedP nm) st pa rs line met) ?_ ?_ _ _ ⟨rs, line, met, x6, x7, x8, rfl, fun b hb => hb, rfl, hsz.tail, hpa, rfl⟩
              · rintro ρ ⟨bs, line', met', x6, x7, x8, e1, _, rfl, z1, z2, z3⟩
                cases bs with
                | cons => cases e1
                | nil =>
                  have z4 : (line', met') = expand (stepN namedP nm) st pa rs line met := z3
                  refine hK f _ (Nat.lt_succ_self f) ⟨line', met', x6, x7, x8, _, _, rfl, z1, ?_⟩
                  rw [← z4] at hb
                  exact hb
              · rintro d ds ρ ⟨bs, line', met', x6, x7, x8, e1, hbs, rfl, z1, z2, z3⟩ K2 hK2
                cases bs with
                | nil => cases e1
                | cons b bs =>
                  obtain ⟨rfl, rfl⟩ := List.cons.inj e1
                  have hb1 := hbs b List.mem_cons_self
                  have hlb := hnm b hb1
                  have zl : (st.zip (nm b)).length = m := by rw [List.length_zip, hst.1, hlb]; omega
                  refine ⟨rfl, ?_⟩
                  refine ⟨_, rfl, _, rfl, by rw [List.length_map, List.length_map, hst.1, hlb], ?_⟩
                  have ez2 : zipD (st.map nD) ((nm b).map nD) = (st.zip (nm b)).map pD := by
                    unfold zipD
                    rw [List.zip_map, List.map_map]; rfl
                  rw [ez2]
                  refine ⟨Nat × Nat, inferInstance, pD, 1, st.zip (nm b), enP, by decide, rfl, by omega, ?_⟩
                  have hl2 : (namedP (st.zip (nm b))).length = m := by rw [named_len, zl]
                  have ha2 : ∀ a ∈ namedP (st.zip (nm b)), a < m := fun a ha => by have := named_lt _ a ha; omega
                  have ml := z1.met hm5
                  have ll := z1.line hm5
                  refine ⟨_, rfl, _, rfl, enT.sh (by decide) _, (enT.lst).sh (by decide) _, ?_⟩
                  by_cases hm : namedP (st.zip (nm b)) ∈ met'
                  · rw [any_t enT hm]
                    refine (show (if (!true) = true then _ else _) from ?_)
                    rw [if_neg (by decide)]
                    rw [expand_old (show stepN namedP nm st b ∈ met' from hm)] at z3
                    exact hK2 _ ⟨bs, line', met', _, _, _, rfl, fun c hc => hbs c (List.mem_cons_of_mem _ hc), rfl, z1, z2, z3⟩
                  · rw [any_f enT hm]
                    refine (show (if (!false) = true then _ else _) from ?_)
                    rw [if_pos (by decide)]
                    rw [expand_new (show stepN namedP nm st b ∉ met' from hm)] at z3
                    refine ⟨_, rfl, _, rfl, _, rfl, _, rfl, by show 1 ≤ lim; decide, ?_⟩
                    refine ⟨by rw [List.length_map, List.length_singleton]; exact Nat.le_trans (m := 10000) (by omega) (by decide), by show 2 ≤ lim; decide, by show 1 ≤ lim; decide, ?_⟩
                    refine ⟨by rw [List.length_map, List.length_singleton]; exact Nat.le_trans (m := 10000) (by omega) (by decide), ?_⟩
                    refine ⟨_, rfl, _, rfl, by show 1 ≤ lim; decide, ?_⟩
                    refine ⟨by rw [List.length_map, List.length_singleton]; exact Nat.le_trans (m := 10000) (by omega) (by decide), ?_⟩
                    refine hK2 _ ⟨bs, line' ++ [(namedP (st.zip (nm b)), pa ++ [b])], met' ++ [namedP (st.zip (nm b))], some (.d (tD b)), some (.d (tD (nm b))), some (.d (tD (namedP (st.zip (nm b))))), rfl, fun c hc => hbs c (List.mem_cons_of_mem _ hc), ?_, z1.put hm hl2 ha2 (by rw [List.length_append, List.length_singleton]; omega), by rw [List.length_append, List.length_singleton]; omega, z3⟩
                    have e3 : lnD (namedP (st.zip (nm b)), pa ++ [b]) = .tuple [tD (namedP (st.zip (nm b))), .tuple (pa.map tD ++ [tD b])] := by
                      unfold lnD lotD
                      rw [List.map_append]; rfl
                    rw [List.map_append, List.map_append, List.map_cons, List.map_nil, e3]
                    rfl
      · simp at hs; subst hs
        exact ⟨by simp, fun a ha => by rw [List.mem_replicate] at ha; omega⟩
      · simp at hx; subst hx; simp
      · simp at hx; subst hx; simp⟩
end
end Lr
namespace Lr
open PySem PySem.Spec PyProof.Rows L2
theorem whole_nat {a : Nat} {hi : Int} (h : (a : Int) ≤ hi) : isWhole (nD a) 0 hi = true := by
  show (decide ((0 : Int) ≤ (a : Int)) && decide ((a : Int) ≤ hi)) = true
  rw [decide_eq_true (by omega), decide_eq_true h]; rfl
theorem fitsKind_kD {k : Kn} (h : Kd k) : fitsKind (kD k) = true := by
  obtain ⟨r, rs, e, hr⟩ := kD_cons h
  have lrow : ∀ q ∈ k, lenD (rowD q) = sets k := fun q hq => by
    show (q.map pD).length = _
    rw [List.length_map, h.rows q hq]
  have hd : lenD ((k.map rowD).headD .none) = sets k := by
    rw [e]
    show lenD (rowD r) = _
    rw [← e]
    exact lrow r (by rw [e]; exact List.mem_cons_self)
  show ((decide (1 ≤ (k.map rowD).length) && decide ((k.map rowD).length ≤ 6) && (k.map rowD).all fun r => isTup r 1 6) && (((k.map rowD).all fun r => decide (lenD r = lenD ((k.map rowD).headD .none))) && (k.map rowD).all fun r => (itemsD r).all fun p => fitsPair p (lenD ((k.map rowD).headD .none)) (k.map rowD).length)) = true
  rw [hd, List.length_map]
  have h1 := h.lo
  have h2 := h.hi
  have h3 := h.slo
  have h4 := h.shi
  rw [decide_eq_true h1, decide_eq_true h2]
  simp only [Bool.true_and, Bool.and_eq_true, List.all_eq_true, List.forall_mem_map]
  refine ⟨fun q hq => ?_, fun q hq => decide_eq_true (lrow q hq), fun q hq p hp => ?_⟩
  · show (decide ((1 : Int) ≤ ((q.map pD).length : Int)) && decide (((q.map pD).length : Int) ≤ 6)) = true
    rw [List.length_map, h.rows q hq, decide_eq_true (by omega), decide_eq_true (by omega)]; rfl
  · obtain ⟨x, hx, rfl⟩ := List.mem_map.mp (show p ∈ q.map pD from hp)
    obtain ⟨a1, a2⟩ := h.ok q hq x hx
    show (isWhole (nD x.1) 0 (((sets k : Nat) : Int) - 1) && isWhole (nD x.2) 0 (((k.length : Nat) : Int) - 1)) = true
    rw [whole_nat (by omega), whole_nat (by omega)]; rfl
/-- what the trains of a lot leave of a road -/
def leftL (k : Kn) (L : List (List Nat)) (r : List Nat) : List (List Nat) := L.map fun t => (roadP k t r).1
def nmL (k : Kn) (L : List (List Nat)) (r : List Nat) : List Nat := namedP (leftL k L r)
section
variable {P : Program} {w : World} {K : PySem.W.Frag} {mg : Str → Option Value} {base : Heap}
/-- lots that the walk goes on with -/
structure LotOk (k : Kn) (L : List (List Nat)) : Prop where
  lo : 1 ≤ L.length
  hi : L.length ≤ 5
  cl : ∃ U, Closed k U ∧ ∀ t ∈ L, t ∈ U
/-- what is told -/
def ResOk (k : Kn) (L : List (List Nat)) (n : Nat) (Q : PyData → Prop) : Prop := ∃ f r, bfs (stepN namedP (nmL k L)) goalN (roadsP (sets k) n) f [(List.replicate L.length 0, [])] [List.replicate L.length 0] = some r ∧
  (r = none → Q .none) ∧ (∀ s p, r = some (s, p) → Srt p ∧ ∀ ms : List (List Nat), ms.Perm p → ms.Pairwise (fun a b => cN a ≤ cN b) → Q (lotD ms))
def p_fewest_roads (T : Txt K mg) (C : Addr) : FX := fun ds Q R => ∃ kv v nv, ds = [kv, v, nv] ∧ PyData.canLay0 kv = true ∧
  ((fitsKind kv = false ∧ R (.of T.C_InvalidKind)) ∨ ∃ k, kv = kD k ∧ Kd k ∧ PyData.canLay0 v = true ∧
    ((fitsLot k.length v = false ∧ R (.of T.C_InvalidLot)) ∨ (fitsLot k.length v = true ∧ PyData.canLay0 nv = true ∧
      ((isWhole nv 0 60 = false ∧ R (.of T.C_InvalidNumber)) ∨ ∃ L n, v = lotD L ∧ nv = nD n ∧ n ≤ 60 ∧ LotOk k L ∧
        ((64 < sets k ^ n ∧ R (.many C 64)) ∨ (sets k ^ n ≤ 64 ∧ ResOk k L n Q))))))
theorem ok40 (T : Txt K mg) (M : TmTxt P K mg) : FnOk P w K mg base (L2.CX P w) 5 T.f40 T.fd40 ["kind", "lot", "number"] (spX (p_fewest_roads T M.C)) :=
  have G20 := ok20 (P := P) (w := w) (base := base) T
  have G32 := ok32 (P := P) (w := w) (base := base) T
  have G33 := ok33 (P := P) (w := w) (base := base) T
  have G31 := ok31 (P := P) (w := w) (base := base) T M
  have G36 := ok36 (P := P) (w := w) (base := base) T M
  have G37 := ok37 (P := P) (w := w) (base := base) T
  have G38 := ok38 (P := P) (w := w) (base := base) T
  have G23 := ok23 (P := P) (w := w) (base := base) T
  have G39 := ok39 (P := P) (w := w) (base := base) T
  okX T.d40.fn sc40 (fun ds Q R ⟨_, _, _, h, _⟩ => by rw [h]; rfl) fun z cdv A outer s H hz hr => ⟨_,
    (js_cons (js_drop (je_callX hz G20 (passX (takes_of rfl rfl rfl rfl)) (hr.mono (by decide)) (by rfl) T.d20.gl T.d20.fn.kp T.d20.bi (ja_cons (je_var _ (pv 0)) ja_nil)))
      (js_cons (js_drop (je_callX hz G32 (passX (takes_of rfl rfl rfl rfl)) (hr.mono (by decide)) (by rfl) T.d32.gl T.d32.fn.kp T.d32.bi (ja_cons (je_var _ (pv 0)) (ja_cons (je_var _ (pv 1)) ja_nil))))
      (js_cons (js_drop (je_callX hz G33 (passX (takes_of rfl rfl rfl rfl)) (hr.mono (by decide)) (by rfl) T.d33.gl T.d33.fn.kp T.d33.bi (ja_cons (je_var _ (pv 2)) ja_nil)))
      (js_cons (js_drop (je_callX hz G31 (passX (takes_of rfl rfl rfl rfl)) (hr.mono (by decide)) (by rfl) T.d31.gl T.d31.fn.kp T.d31.bi (ja_cons (je_var _ (pv 0)) (ja_cons (je_var _ (pv 1)) ja_nil))))
      (js_cons (js_drop (je_callX hz G36 (passX (takes_of rfl rfl rfl rfl)) (hr.mono (by decide)) (by rfl) T.d36.gl T.d36.fn.kp T.d36.bi (ja_cons (je_var _ (pv 0)) (ja_cons (je_var _ (pv 2)) ja_nil))))
      (js_cons (js_set (i := 3) sc40.nd rfl (.inl rfl) (je_call G37 (hr.mono (by decide)) (by rfl) T.d37.gl T.d37.fn.kp T.d37.bi (ja_cons (je_var _ (pv 0)) (ja_cons (je_var _ (pv 2)) ja_nil))))
      (js_cons (js_setLcL (i := 4) (own := [("road", 5)]) rfl sc40.nd rfl rfl (sw_true rfl rfl rfl (by decide +kernel)) (je_var _ (pv 3)) (blkOk_by (by rfl)) (fun _ _ _ _ _ => (jg_name (i := 5) sc40.nd rfl (.inr rfl))) (fun _ _ _ _ _ => jts_nil) (fun _ _ _ _ _ => (je_call G38 (hr.mono (by decide)) (by rfl) T.d38.gl T.d38.fn.kp T.d38.bi (ja_cons (je_lcT (own := [("train", 6)]) rfl sc40.nd (je_var _ (pv 1)) (blkOk_by (by rfl)) (fun _ _ _ _ _ => (jg_name (i := 6) sc40.nd rfl (.inl rfl))) (fun _ _ _ _ _ => jts_nil) (fun _ _ _ _ _ => (je_ix (je_call G23 (hr.mono (by decide)) (by rfl) T.d23.gl T.d23.fn.kp T.d23.bi (ja_cons (je_var _ (pv 0)) (ja_cons (je_var _ (pv 6)) (ja_cons (je_var _ (pv 5)) ja_nil)))) je_int))) ja_nil))))
      (js_one (js_ret (je_call G39 (hr.mono (by decide)) (by rfl) T.d39.gl T.d39.fn.kp T.d39.bi (ja_cons (je_var _ (pv 3)) (ja_cons (je_var _ (pv 4)) (ja_cons (je_callB call_len_seq hoL_len (by rfl) T.b_len (by decide +kernel) (ja_cons (je_var _ (pv 1)) ja_nil)) ja_nil))))))))))))),
    fun ds Q ⟨kv, v, nv, e, lay, h⟩ => by
      subst e
      refine ⟨kv, rfl, kv, rfl, lay, fun e1 => ?_, fun e1 => ?_⟩
      case refine_2 =>
        rcases h with ⟨_, h⟩ | ⟨k, e2, hk, _⟩
        · exact h
        · subst e2; rw [fitsKind_kD hk] at e1; cases e1
      rcases h with ⟨e2, _⟩ | ⟨k, rfl, hk, lay2, h⟩
      · rw [e1] at e2; cases e2
      refine ⟨_, rfl, v, rfl, k, v, rfl, hk, lay2, fun e2 => ?_, fun e2 => ?_⟩
      case refine_2 =>
        rcases h with ⟨_, h⟩ | ⟨e3, _⟩
        · exact h
        · rw [e2] at e3; cases e3
      rcases h with ⟨e3, _⟩ | ⟨_, lay3, h⟩
      · rw [e2] at e3; cases e3
      refine ⟨nv, rfl, nv, rfl, lay3, fun e3 => ?_, fun e3 => ?_⟩
      case refine_2 =>
        rcases h with ⟨_, h⟩ | ⟨L, n, rfl, rfl, hn, _⟩
        · exact h
        · rw [whole_nat (by omega)] at e3; cases e3
      rcases h with ⟨e4, _⟩ | ⟨L, n, rfl, rfl, hn, hL, h⟩
      · rw [e3] at e4; cases e4
      have hLl := hL.hi
      obtain ⟨U, cU, hU⟩ := hL.cl
      refine ⟨_, rfl, _, rfl, k, L, rfl, hk, by omega, ⟨U, cU, hU⟩, fun d => ?_⟩
      refine ⟨_, rfl, _, rfl, k, n, rfl, hk, hn, fun e5 => ?_, fun e5 => ?_⟩
      case refine_2 =>
        rcases h with ⟨_, h⟩ | ⟨e6, _⟩
        · exact h
        · omega
      rcases h with ⟨e6, _⟩ | ⟨_, f, r, hb, h1, h2⟩
      · omega
      have hlen := roadsP_len (sets k) n
      refine ⟨_, rfl, _, rfl, k, n, rfl, hk, hn, e5, ?_⟩
      refine ⟨_, rfl, ?_⟩
      refine lc_enc (e := tD) (fun r => tD (nmL k L r)) (roadsP (sets k) n) [] _ (fun r hr Q hQ => ⟨_, rfl, ?_⟩) (by rw [List.length_nil]; exact small (by omega)) ?_
      · obtain ⟨r1, r2⟩ := roadsP_ok (sets k) n r hr
        refine lc_enc (e := tD) (fun t => tD (roadP k t r).1) L [] _ (fun t ht Q hQ => ⟨_, rfl, _, rfl, _, rfl, k, t, r, rfl, hk, (cU.ok t (hU t ht)).1, r2, (cU.ok t (hU t ht)).2, by omega, ⟨_, atI0, hQ⟩⟩) (by rw [List.length_nil]; exact small (by omega)) ?_
        rw [List.nil_append]
        refine ⟨List Nat, inferInstance, tD, 1, leftL k L r, enT, by decide, ?_, by unfold leftL; rw [List.length_map]; omega, hQ⟩
        unfold leftL
        rw [List.map_map]; rfl
      · rw [List.nil_append]
        refine ⟨_, rfl, _, rfl, _, rfl, ?_⟩
        show p_fewest_in [_, _, .int ((L.map tD).length : Nat)] Q
        rw [List.length_map]
        refine ⟨roadsP (sets k) n, nmL k L, L.length, f, r, rfl, hL.lo, hL.hi, by omega, fun q _ => ?_, hb, h1, h2⟩
        unfold nmL leftL
        rw [named_len, List.length_map]⟩
end
end Lr
namespace Lr
open PySem PySem.Spec PyProof.Rows L2
/-- an own thing at q is written -/
structure Own (z : Cz) (C : Hp) (q : Addr) : Prop where
  c : C q = none
  b : z.B q = none
  x : ¬ z.ex q
def Plain1 : HO → Prop
  | .lst _ => True
  | .dT _ => True
  | _ => False
theorem Own.put {z : Cz} {C H : Hp} {q : Addr} {o o' : HO} (w : Own z C q) (c : Core z C H) (h : H q = some o) (p : Plain1 o) : Core z C (upd H q o') where
  b := fun a u e => by rw [upd_ne (fun t => by rw [t, w.b] at e; cases e)]; exact c.b a u e
  c0 := c.c0
  ch := fun a u e => by rw [upd_ne (fun t => by rw [t, w.c] at e; cases e)]; exact c.ch a u e
  fr := c.fr
  ex := c.ex
  ok := by
    refine ⟨fun a ha => ?_, fun t ht => ?_⟩
    · obtain ⟨a0, b0, h0, q0⟩ := c.ok.1 a ha
      exact ⟨a0, b0, by rw [upd_ne (fun t => w.x (by rw [← t]; exact .inl ha))]; exact h0, q0⟩
    · obtain ⟨ps, h1, h2, h3⟩ := c.ok.2 t ht
      refine ⟨ps, by rw [upd_ne (fun e => w.x (by rw [← e]; exact .inr ⟨t, ht, rfl⟩))]; exact h1, h2, fun pos cv hc => ?_⟩
      obtain ⟨c0, k1, k2⟩ := h3 pos cv hc
      refine ⟨c0, k1, ?_⟩
      rw [upd_ne (fun e => by rw [← e, k2] at h; cases h; exact p)]
      exact k2
section
variable {z : Cz} {C H : Hp} {σ : L2.St} {ρ : Env'}
theorem env_at {i : Nat} {e : En} (h : ρ[i]? = some (some e)) : ρ.getD i none = some e := by rw [List.getD_eq_getElem?_getD, h]; rfl
theorem ER.own {i : Nat} {xs : List PyData} (x : ER z C H σ ρ) (h : ρ[i]? = some (some (.own xs))) : ∃ q vs, σ[i]? = some (some (.ref q)) ∧ Own z C q ∧ H q = some (.lst vs) ∧ RpA C vs xs := by
  have q := x.at_ i
  rw [env_at h, List.getD_eq_getElem?_getD] at q
  cases s : σ[i]? with
  | none => rw [s] at q; exact q.elim
  | some o =>
    cases o with
    | none => rw [s] at q; exact q.elim
    | some v => rw [s] at q; obtain ⟨p, vs, rfl, h1, h2, h3, h4, h5⟩ := q; exact ⟨p, vs, rfl, ⟨h1, h2, h3⟩, h4, h5⟩
theorem ER.dct {i : Nat} {kvs : List (List Nat × PyData)} (x : ER z C H σ ρ) (h : ρ[i]? = some (some (.dct kvs))) : ∃ q ks, σ[i]? = some (some (.ref q)) ∧ Own z C q ∧ H q = some (.dT ks) ∧ DcR C ks kvs := by
  have q := x.at_ i
  rw [env_at h, List.getD_eq_getElem?_getD] at q
  cases s : σ[i]? with
  | none => rw [s] at q; exact q.elim
  | some o =>
    cases o with
    | none => rw [s] at q; exact q.elim
    | some v => rw [s] at q; obtain ⟨p, rfl, h1, h2, h3, ks, h4, h5⟩ := q; exact ⟨p, ks, rfl, ⟨h1, h2, h3⟩, h4, h5⟩
/-- the others do not see it -/
theorem EnOk.other {q : Addr} {o o' : HO} {a : Option V} {b : Option En} (w : Own z C q) (hq : H q = some o) (hn : a = some (.ref q) → En.mut b = false) (x : EnOk z C H a b) : EnOk z C (upd H q o') a b := by
  cases b with
  | none => cases a <;> trivial
  | some b =>
    cases a with
    | none => cases b <;> exact x
    | some v =>
      cases b with
      | d d => exact x
      | cup => exact x
      | own xs =>
        obtain ⟨p, vs, h1, h2, h3, h4, h5, h6⟩ := x
        refine ⟨p, vs, h1, h2, h3, h4, ?_, h6⟩
        rw [upd_ne (fun e => by have := hn (by rw [h1, e]); cases this)]; exact h5
      | dct kvs =>
        obtain ⟨p, h1, h2, h3, h4, ks, h5, h6⟩ := x
        refine ⟨p, h1, h2, h3, h4, ks, ?_, h6⟩
        rw [upd_ne (fun e => by have := hn (by rw [h1, e]); cases this)]; exact h5
theorem slot_lt {i : Nat} {v : V} (h : σ[i]? = some (some v)) : i < σ.length := (List.getElem?_eq_some_iff.mp h).1
theorem slot_at {i : Nat} {v : V} (h : σ[i]? = some (some v)) : σ.getD i none = some v := by rw [List.getD_eq_getElem?_getD, h]; rfl
/-- the list in slot i is written -/
theorem ER.ownPut {i : Nat} {xs ys : List PyData} {q : Addr} {vs us : List V} (x : ER z C H σ ρ) (h : ρ[i]? = some (some (.own xs))) (hs : σ[i]? = some (some (.ref q))) (w : Own z C q) (hq : H q = some (.lst vs)) (r : RpA C us ys) : ER z C (upd H q (.lst us)) σ (ρ.set i (some (.own ys))) where
  len := by simp [x.len]
  at_ := fun j => by
    rw [getD_set]
    by_cases e : i = j ∧ j < ρ.length
    · rw [if_pos e]
      obtain ⟨e1, _⟩ := e
      subst e1
      rw [slot_at hs]
      exact ⟨q, us, rfl, w.c, w.b, w.x, upd_same, r⟩
    · rw [if_neg e]
      have hij : i ≠ j := fun e1 => e ⟨e1, by rw [← e1, ← x.len]; exact slot_lt hs⟩
      exact (x.at_ j).other w hq fun e2 => x.ap i j q hij (slot_at hs) (by rw [env_at h]; rfl) e2
  ap := fun j k p n e1 e2 e3 => by
    rw [getD_set] at e2 ⊢
    have hi : i < ρ.length := by rw [← x.len]; exact slot_lt hs
    by_cases ek : i = k ∧ k < ρ.length
    · -- k is the list: then j is it as well, or not mutable
      exfalso
      obtain ⟨e4, _⟩ := ek
      subst e4
      rw [slot_at hs] at e3
      cases e3
      rw [if_neg (fun e => n e.1.symm)] at e2
      have := x.ap i j q (fun e => n e.symm) (slot_at hs) (by rw [env_at h]; rfl) e1
      rw [this] at e2; cases e2
    · rw [if_neg ek]
      by_cases ej : i = j ∧ j < ρ.length
      · obtain ⟨e4, _⟩ := ej
        subst e4
        exact x.ap i k p n e1 (by rw [env_at h]; rfl) e3
      · rw [if_neg ej] at e2
        exact x.ap j k p n e1 e2 e3
theorem ER.dctPut {i : Nat} {kvs kvs' : List (List Nat × PyData)} {q : Addr} {ks ks' : List (List L2.Key × V)} (x : ER z C H σ ρ) (h : ρ[i]? = some (some (.dct kvs))) (hs : σ[i]? = some (some (.ref q))) (w : Own z C q) (hq : H q = some (.dT ks)) (r : DcR C ks' kvs') : ER z C (upd H q (.dT ks')) σ (ρ.set i (some (.dct kvs'))) where
  len := by simp [x.len]
  at_ := fun j => by
    rw [getD_set]
    by_cases e : i = j ∧ j < ρ.length
    · rw [if_pos e]
      obtain ⟨e1, _⟩ := e
      subst e1
      rw [slot_at hs]
      exact ⟨q, rfl, w.c, w.b, w.x, ks', upd_same, r⟩
    · rw [if_neg e]
      have hij : i ≠ j := fun e1 => e ⟨e1, by rw [← e1, ← x.len]; exact slot_lt hs⟩
      exact (x.at_ j).other w hq fun e2 => x.ap i j q hij (slot_at hs) (by rw [env_at h]; rfl) e2
  ap := fun j k p n e1 e2 e3 => by
    rw [getD_set] at e2 ⊢
    by_cases ek : i = k ∧ k < ρ.length
    · exfalso
      obtain ⟨e4, _⟩ := ek
      subst e4
      rw [slot_at hs] at e3
      cases e3
      rw [if_neg (fun e => n e.1.symm)] at e2
      have := x.ap i j q (fun e => n e.symm) (slot_at hs) (by rw [env_at h]; rfl) e1
      rw [this] at e2; cases e2
    · rw [if_neg ek]
      by_cases ej : i = j ∧ j < ρ.length
      · obtain ⟨e4, _⟩ := ej
        subst e4
        exact x.ap i k p n e1 (by rw [env_at h]; rfl) e3
      · rw [if_neg ej] at e2
        exact x.ap j k p n e1 e2 e3
/-- a new thing is bound to slot i -/
theorem ER.bind {i : Nat} {p : Addr} {o : HO} {e : En} (x : ER z C H σ ρ) (hp : H p = none) (he : EnOk z C (upd H p o) (some (.ref p)) (some e)) : ER z C (upd H p o) (σ.set i (some (.ref p))) (ρ.set i (some e)) where
  len := by simp [x.len]
  at_ := fun j => by
    rw [getD_set, getD_set]
    by_cases h : i = j ∧ j < σ.length
    · rw [if_pos h, if_pos ⟨h.1, by rw [← x.len]; exact h.2⟩]; exact he
    · rw [if_neg h, if_neg (by rw [← x.len]; exact h)]
      have := x.at_ j
      revert this
      generalize σ.getD j none = a
      generalize ρ.getD j none = b
      intro this
      cases b with
      | none => cases a <;> trivial
      | some b =>
        cases a with
        | none => cases b <;> exact this
        | some v =>
          cases b with
          | d d => exact this
          | cup => exact this
          | own xs => obtain ⟨q, vs, h1, h2, h3, h4, h5, h6⟩ := this; exact ⟨q, vs, h1, h2, h3, h4, by rw [upd_ne (ne_of_none h5 hp)]; exact h5, h6⟩
          | dct kvs => obtain ⟨q, h1, h2, h3, h4, ks, h5, h6⟩ := this; exact ⟨q, h1, h2, h3, h4, ks, by rw [upd_ne (ne_of_none h5 hp)]; exact h5, h6⟩
  ap := fun j k q n e1 e2 e3 => by
    -- no mutable slot but i bears p
    have non : ∀ l, σ.getD l none = some (.ref p) → En.mut (ρ.getD l none) = false := fun l h => by
      have y := x.at_ l
      rw [h] at y
      cases hb : ρ.getD l none with
      | none => rfl
      | some b =>
        rw [hb] at y
        cases b with
        | d d => rfl
        | cup => rfl
        | own xs => obtain ⟨q, vs, h1, _, _, _, h5, _⟩ := y; cases h1; rw [hp] at h5; cases h5
        | dct kvs => obtain ⟨q, h1, _, _, _, ks, h5, _⟩ := y; cases h1; rw [hp] at h5; cases h5
    rw [getD_set] at e1 e2 e3 ⊢
    rw [← x.len] at *
    by_cases ej : i = j ∧ j < σ.length
    · rw [if_pos ej] at e1
      cases e1
      have ek : ¬(i = k ∧ k < σ.length) := fun e => n (ej.1.symm.trans e.1)
      rw [if_neg ek] at e3 ⊢
      exact non k e3
    · rw [if_neg ej] at e1 e2
      by_cases ek : i = k ∧ k < σ.length
      · rw [if_pos ek] at e3
        cases e3
        rw [non j e1] at e2; cases e2
      · rw [if_neg ek] at e3 ⊢
        exact x.ap j k q n e1 e2 e3
end
/-- an expression that makes a new list -/
def lO (z : Cz) (w : WA) : TE := fun σ H Q => ∃ C ρ P, Core z C H ∧ ER z C H σ ρ ∧ w ρ P ∧ ∀ ds vs C' H' p, P ds → Gw z C H C' H' → RpA C' vs ds → H' p = none → Q (.ref p) (upd H' p (.lst vs))
section
variable {X : Cx} {z : Cz} {e a b : Expr} {es : List Expr} {wa wb : WE} {w t : WA} {pos : Pos} {k : Nat}
def wOL (t : WA) : WA := fun ρ P => t ρ fun ds => ds.length ≤ lim ∧ P ds
theorem jo_lst (h : PA X es (lA z t)) : PE X (.List es pos) (lO z (wOL t)) :=
  (pe_lst h).by fun σ H Q ⟨C, ρ, P, c, er, w, k⟩ => ⟨C, ρ, _, c, er, w, fun ds vs C1 H1 ⟨p1, p2⟩ g r => ⟨by rw [r.len]; exact lim_ok p1, fun p hp => k ds vs C1 H1 p p2 g r hp⟩⟩
/-- list(range(n)) -/
def wOR (wa : WE) : WA := fun ρ P => wa ρ fun d => ∃ n : Nat, d = nD n ∧ n ≤ 1000 ∧ P (nums n)
theorem jo_range {p p2 pos2 : Pos} (hc : X.calm = true) (hg : Gl X "list") (hm : X.mg "list" = none) (hg2 : Gl X "range") (hm2 : X.mg "range" = none) (ha : PE X a (lE z wa)) (na : starEach [a] X.env = (false, eval a X.env) :: starEach [] X.env := by rfl)
    (nb : starEach [.Call (.Name "range" p2) [a] [] pos2] X.env = (false, eval (.Call (.Name "range" p2) [a] [] pos2) X.env) :: starEach [] X.env := by rfl) : PE X (.Call (.Name "list" p) [.Call (.Name "range" p2) [a] [] pos2] [] pos) (lO z (wOR wa)) :=
  (pe_listRg hc hg hm (prg_1 hg2 hm2 ha na) nb).by fun σ H Q ⟨C, ρ, P, c, er, w, k⟩ => ⟨C, ρ, _, c, er, w, fun d v C1 H1 ⟨n, e, hn, p1⟩ g r => by
    subst e
    cases r
    refine ⟨n, rfl, RgOk.of_le (by omega) (by omega) (by omega) (by omega), fun q hq => ?_⟩
    refine k (nums n) _ C1 H1 q p1 g ?_ hq
    unfold rgV
    rw [Int.sub_zero, Int.toNat_natCast]
    exact nums_rp n⟩
def sSetO (i : Nat) (w : WA) : WS := fun P ρ => w ρ fun ds => P.nx (ρ.set i (some (.own ds)))
theorem own_new {C H : Hp} {p : Addr} (c : Core z C H) (hp : H p = none) : Own z C p := ⟨c.ch.back hp, c.b.back hp, fun q => z.there _ _ c.ok q hp⟩
theorem js_setO {i : Nat} {x : Str} {pos' : Pos} (hN : X.N.Nodup) (hi : X.N[i]? = some x) (hx : Loc X.env.scope x) (he : PE X e (lO z w)) (hs : swapsWith e (some (.Name x pos')) pos.line X.env = pure false := by rfl) (hf : X.fn x = true ∨ X.env.scope.names.lookup x = some .local := by first | exact .inl rfl | exact .inr rfl | assumption) :
    PS X (.Assign [.Name x pos'] e pos) (lS z (sSetO i w)) := (ps_set (i := i) hN hi hx he hs hf).by fun D σ H ⟨C, ρ, P, c, er, w, k⟩ =>
  ⟨C, ρ, _, c, er, w, fun ds vs C1 H1 p p1 g1 rv hp => by
    have c1 := c.gw g1
    have o := own_new c1 hp
    exact k.nx _ _ _ _ p1 (c1.gw (c1.grow (Ex.new hp))) g1.cc ((er.gw g1).bind hp ⟨p, vs, rfl, o.c, o.b, o.x, upd_same, rv⟩)⟩
/-- x, y = a new list, data -/
def sParO (i j : Nat) (w : WA) (wb : WE) : WS := fun P ρ => w ρ fun ds => wb ρ fun d => P.nx ((ρ.set i (some (.own ds))).set j (some (.d d)))
theorem js_parO {i j : Nat} {x y : Str} {px py pt : Pos} {kt k2 : Nat} {pt2 : Pos} (hc : X.calm = true) (hN : X.N.Nodup) (hi : X.N[i]? = some x) (hj : X.N[j]? = some y) (hij : i ≠ j)
    (hx : X.env.scope.names.lookup x = some .local) (hy : X.env.scope.names.lookup y = some .local) (ha : PE X a (lO z w)) (hb : PE X b (lE z wb))
    (hw : swappedStores [.Tuple [.Name x px, .Name y py] kt pt] (.Tuple [a, b] k2 pt2) X.env = pure (some [x, y]))
    (h1 : starEach [a, b] X.env = (false, eval a X.env) :: starEach [b] X.env := by rfl) (h2 : starEach [b] X.env = (false, eval b X.env) :: starEach [] X.env := by rfl)
    (hs : swapsWithSole [.Tuple [.Name x px, .Name y py] kt pt] (.Tuple [a, b] k2 pt2) pos.line X.env = pure false := by rfl) :
    PS X (.Assign [.Tuple [.Name x px, .Name y py] kt pt] (.Tuple [a, b] k2 pt2) pos) (lS z (sParO i j w wb)) :=
  (ps_par hc hN hi hj hij hx hy (pa_cons ha (pa_cons hb pa_nil h2) h1) hw hs).by fun D σ H ⟨C, ρ, P, c, er, w, k⟩ => ⟨C, ρ, _, c, er, w, fun ds vs C1 H1 p p1 g1 rv hp => by
    have c1 := c.gw g1
    have o := own_new c1 hp
    have g0 := c1.grow (Ex.new (o := .lst vs) hp)
    have c2 := c1.gw g0
    refine ⟨C1, ρ, _, c2, (er.gw g1).gw g0, p1, fun d v C2 H2 p2 g2 rv2 => ?_⟩
    obtain ⟨s1, s2⟩ := g2.stay o.x upd_same o.c
    refine ⟨_, _, rfl, k.nx _ _ _ _ p2 (c2.gw g2) (g1.cc.tr g2.cc) ?_⟩
    have er1 : ER z C1 (upd H1 p (.lst vs)) (σ.set i (some (.ref p))) (ρ.set i (some (.own ds))) := (er.gw g1).bind hp ⟨p, vs, rfl, o.c, o.b, o.x, upd_same, rv⟩
    exact (er1.gw g2).set rv2⟩
/-- x.append(e) -/
def sApp (i : Nat) (wa : WE) : WS := fun P ρ => ∃ xs, ρ[i]? = some (some (.own xs)) ∧ wa ρ fun d => xs.length ≤ lim ∧ P.nx (ρ.set i (some (.own (xs ++ [d]))))
theorem js_app {i : Nat} {x : Str} {px apos cpos : Pos} (hx : PE X (.Name x px) (tVar i)) (ha : PE X a (lE z wa)) (hbase : attributeBase (.Name x px) "append" X.env (eval (.Name x px) X.env) = eval (.Name x px) X.env := by rfl)
    (hfew : ((backTo cpos (starEach [a] X.env)).all (fun x => !x.1) && (backToKw cpos (keywordEach [] X.env)).all (fun x => x.1.isSome) && decide ([a].length + ([] : List Keyword).length + (if ([] : List Keyword).isEmpty then 0 else 1) < 30)) = true := by rfl)
    (hline : (apos.endLine == cpos.line) = true := by rfl) (hs : starEach [a] X.env = (false, eval a X.env) :: starEach [] X.env := by rfl) (hplain : (backTo cpos (starEach [] X.env)).any (·.1) = false := by rfl)
    (hsw : swapsWith (.Call (.Attribute (.Name x px) "append" apos) [a] [] cpos) none pos.line X.env = pure false := by rfl) :
    PS X (.Expr (.Call (.Attribute (.Name x px) "append" apos) [a] [] cpos) pos) (lS z (sApp i wa)) :=
  (ps_expr (pe_bm PySem.F.plainAttrs_list PySem.F.slot_list_append PySem.F.type_list_append mt_append hx (pa_cons ha pa_nil hs) hbase hfew hline hs hplain) hsw).by fun D σ H ⟨C, ρ, P, c, er, ⟨xs, hv, w⟩, k⟩ => by
    obtain ⟨q, vs, hσ, o, hq, r⟩ := er.own hv
    refine ⟨.ref q, hσ, .inl ⟨rfl, vs, SqL.of hq⟩, C, ρ, _, c, er, w, fun d v C1 H1 ⟨p1, p2⟩ g1 rv => ?_⟩
    obtain ⟨s1, s2⟩ := g1.stay o.x hq o.c
    have o1 : Own z C1 q := ⟨s2, o.b, o.x⟩
    have c1 := c.gw g1
    refine ⟨q, vs, v, rfl, rfl, s1, by rw [r.len]; exact lim_lt p1, k.nx _ _ _ _ p2 (o1.put c1 s1 trivial) g1.cc ((er.gw g1).ownPut hv hσ o1 s1 ((r.up g1.cc).app (.one rv)))⟩
/-- tg = x.pop(0) -/
def sPop0 (i : Nat) (g : WG) : WS := fun P ρ => ∃ d xs, ρ[i]? = some (some (.own (d :: xs))) ∧ g d (ρ.set i (some (.own xs))) P.nx
theorem js_pop0 {i : Nat} {x : Str} {px apos cpos p0 : Pos} {j : Nat} {tg : Expr} {g : WG} {sl : List Nat} (hx : PE X (.Name x px) (tVar i)) (hg : PG X tg (lG z sl g)) (hbase : attributeBase (.Name x px) "pop" X.env (eval (.Name x px) X.env) = eval (.Name x px) X.env := by rfl)
    (hfew : ((backTo cpos (starEach [.Constant (.int 0) j p0] X.env)).all (fun x => !x.1) && (backToKw cpos (keywordEach [] X.env)).all (fun x => x.1.isSome) && decide (([.Constant (.int 0) j p0] : List Expr).length + ([] : List Keyword).length + (if ([] : List Keyword).isEmpty then 0 else 1) < 30)) = true := by rfl)
    (hline : (apos.endLine == cpos.line) = true := by rfl) (hs : starEach [.Constant (.int 0) j p0] X.env = (false, eval (.Constant (.int 0) j p0) X.env) :: starEach [] X.env := by rfl) (hplain : (backTo cpos (starEach [] X.env)).any (·.1) = false := by rfl)
    (hs1 : swapsWithSole [tg] (.Call (.Attribute (.Name x px) "pop" apos) [.Constant (.int 0) j p0] [] cpos) pos.line X.env = pure false := by rfl) (hw : swappedStores [tg] (.Call (.Attribute (.Name x px) "pop" apos) [.Constant (.int 0) j p0] [] cpos) X.env = pure none := by rfl) (h1 : (assignEach [tg] X.env).map (·.2) = [assign tg X.env] := by rfl) :
    PS X (.Assign [tg] (.Call (.Attribute (.Name x px) "pop" apos) [.Constant (.int 0) j p0] [] cpos) pos) (lS z (sPop0 i g)) :=
  (ps_asg (pe_bm PySem.F.plainAttrs_list PySem.F.slot_list_pop PySem.F.type_list_pop mt_popAt hx (pa_cons (pe_int (i := 0)) pa_nil hs) hbase hfew hline hs hplain) hg hs1 hw h1).by fun D σ H ⟨C, ρ, P, c, er, ⟨d, xs, hv, w⟩, k⟩ => by
    obtain ⟨q, vs, hσ, o, hq, r⟩ := er.own hv
    cases r with
    | @cons v us _ _ r1 r2 =>
      refine ⟨.ref q, hσ, .inl ⟨rfl, _, SqL.of hq⟩, ?_⟩
      refine ⟨q, _, 0, 0, v, rfl, rfl, hq, by omega, by omega, ?_, rfl, ?_⟩
      · show seqIndex? 0 (us.length + 1) = some 0
        simp [seqIndex?]
      · have er2 := er.ownPut hv hσ o hq r2
        have c2 := o.put (o' := .lst us) c hq trivial
        exact ⟨C, _, d, _, c2, er2, r1, w, fun ρ' σ' p' e' _ => k.nx _ _ _ _ p' c2 Ex.rfl (e' _ _ Ex.rfl er2)⟩
/-- x != e of an own list -/
def tNeO (i : Nat) (wb : WE) : WT := fun ρ P => ∃ xs, ρ[i]? = some (some (.own xs)) ∧ wb ρ fun e => sh (.list xs) ∧ sh e ∧ P (!PyData.eqv (.list xs) e)
theorem jt_neO {i : Nat} {x : Str} {px : Pos} (hr : Room k X.A) (hx : PE X (.Name x px) (tVar i)) (hb : PE X b (lE z wb)) (hm : behindInMarks .NotEq b = false) : PT X (.Compare (.Name x px) [.NotEq] [b] pos) (lT z (tNeO i wb)) :=
  (pt_cmpR (op_neD hr.units) hx hb hm).by fun σ H Q ⟨C, ρ, P, c, er, ⟨xs, hv, w⟩, k⟩ => by
    obtain ⟨q, vs, hσ, o, hq, r⟩ := er.own hv
    refine ⟨.ref q, hσ, C, ρ, _, c, er, w, fun d v C1 H1 ⟨p1, p2, p3⟩ g1 rv => ?_⟩
    obtain ⟨s1, _⟩ := g1.stay o.x hq o.c
    exact ⟨.list xs, d, .lst (SqL.of s1) (RpA.dp xs vs (by simpa only [PyData.canLay0] using SeqAt.canLay_of_shaped p1) (r.up (g1.cc.tr g1.ch))), Rp.dp d v (SeqAt.canLay_of_shaped p2) (rv.up g1.ch), p1, p2, _, rfl, k _ C1 H1 p3 g1⟩
/-- tuple(x) -/
def wTupO (i : Nat) : WE := fun ρ P => ∃ xs, ρ[i]? = some (some (.own xs)) ∧ P (.tuple xs)
theorem je_tupO {i : Nat} {x : Str} {px p : Pos} (hx : PE X (.Name x px) (tVar i)) (hg : Gl X "tuple") (hm : X.mg "tuple" = none) (hs : starEach [.Name x px] X.env = (false, eval (.Name x px) X.env) :: starEach [] X.env := by rfl) : PE X (.Call (.Name "tuple" p) [.Name x px] [] pos) (lE z (wTupO i)) :=
  (pe_callTy call_tuple_of hg hm (by decide +kernel) (pa_cons hx pa_nil hs) (by decide) (by decide) hs rfl).by fun σ H Q ⟨C, ρ, P, c, er, ⟨xs, hv, w⟩, k⟩ => by
    obtain ⟨q, vs, hσ, o, hq, r⟩ := er.own hv
    exact ⟨.ref q, hσ, q, vs, rfl, .inl ⟨SqL.of hq, fun l hl => k _ _ (upd C l _) _ w (c.new hl) (.tup upd_same (r.up (c.new hl).cc))⟩⟩
/-- len(x) -/
def wLenO (i : Nat) : WE := fun ρ P => ∃ xs, ρ[i]? = some (some (.own xs)) ∧ P (nD xs.length)
theorem je_lenO {i : Nat} {x : Str} {px p : Pos} (hx : PE X (.Name x px) (tVar i)) (hg : Gl X "len") (hm : X.mg "len" = none) (hs : starEach [.Name x px] X.env = (false, eval (.Name x px) X.env) :: starEach [] X.env := by rfl) : PE X (.Call (.Name "len" p) [.Name x px] [] pos) (lE z (wLenO i)) :=
  (pe_callB call_len_seq hg hm (by decide +kernel) (pa_cons hx pa_nil hs) (by decide) (by decide) hs rfl).by fun σ H Q ⟨C, ρ, P, c, er, ⟨xs, hv, w⟩, k⟩ => by
    obtain ⟨q, vs, hσ, o, hq, r⟩ := er.own hv
    refine ⟨.ref q, hσ, q, vs, rfl, .inl (SqL.of hq), ?_⟩
    rw [r.len]
    exact k _ _ C H w c.rf (.int _)
/-- x[e] -/
def wIxO (i : Nat) (wb : WE) : WE := fun ρ P => ∃ xs, ρ[i]? = some (some (.own xs)) ∧ wb ρ fun j => fIx (.list xs) j P
theorem je_ixO {i : Nat} {x : Str} {px : Pos} (hx : PE X (.Name x px) (tVar i)) (hb : PE X b (lE z wb)) (hs : PlainIx b := by exact fun _ _ => rfl) : PE X (.Subscript (.Name x px) b pos) (lE z (wIxO i wb)) :=
  (pe_ix ix_list hx hb hs).by fun σ H Q ⟨C, ρ, P, c, er, ⟨xs, hv, w⟩, k⟩ => by
    obtain ⟨q, vs, hσ, o, hq, r⟩ := er.own hv
    refine ⟨.ref q, hσ, C, ρ, _, c, er, w, fun d v C1 H1 p1 g1 rv => ?_⟩
    obtain ⟨s1, _⟩ := g1.stay o.x hq o.c
    cases d with
    | int j =>
      cases rv
      obtain ⟨d, h, p⟩ := p1
      obtain ⟨v, hv2, rv2⟩ := atI_rp (r.up g1.cc) h
      exact ⟨q, vs, j, v, rfl, rfl, SqL.of s1, hv2, k _ _ C1 H1 p g1 rv2⟩
    | _ => exact p1.elim
end
end Lr
namespace Lr
open PySem PySem.Spec PyProof.Rows L2
section
variable {X : Cx} {z : Cz} {e a b ke ve : Expr} {es : List Expr} {wa wb wk wv : WE} {pos : Pos} {k : Nat}
/-- {k: v}, k a tuple -/
def tDisp1 (tk tv : TE) : TE := fun σ H Q => ∀ p, H p = none → tk σ (upd H p (.dT [])) fun x H1 => tv σ H1 fun y H2 => H2 p = some (.dT []) ∧ ∃ b ky, x = .ref b ∧ H2 b = some (.tup (ky.map kV)) ∧ Q (.ref p) (upd H2 p (.dT [(ky, y)]))
theorem pe_disp1 {tk tv : TE} (hr : Room k X.A) (hk : PE X ke tk) (hv : PE X ve tv) : PE X (.Dict [some ke] [ve] pos) (tDisp1 tk tv) := by
  refine ⟨fun pins s σ H Q I h => ?_⟩
  rw [arm_eval_Dict]
  have hu : X.A.units < cLine := by have := u65 hr; omega
  have I1 := I.laid (o := .dT []) (t' := s.toks) (fun _ _ q => Heap.get?_push_of_some _ q) (Nat.le_refl _) (dt_empty (P := X.prog) (w := X.w) s.heap I.big)
  have hp := I.hok.fresh (Nat.le_refl s.heap.objs.size)
  have hsh : (evalEachOpt [some ke] X.env).zip ((evalEach [ve] X.env).map fun v => do let x ← v; standAt pos; pure x) = [(eval ke X.env, do let x ← eval ve X.env; standAt pos; pure x)].map fun p => (some p.1, p.2) := rfl
  rw [hsh, dictDisplay_pairs _ (by simp) (by simp)]
  refine wpAny_bind (wpAny_standAt (wpAny_bind (wpAny_subDictH (knd := tupleKind (mixKind X.prog X.w)) hu (by simp) ?_)))
  refine evalPairs_cons (thn (hk.run pins _ σ _ _ I1 (h _ hp)) fun u s1 ⟨x, H1, I1, rx, q1⟩ => wpAny_bind (thn (hv.run pins _ σ _ _ I1 q1) fun r s2 ⟨y, H2, I2, ry, hp2, b, ky, ex, hb, q2⟩ => wpAny_bind (wpAny_standAt (wpAny_pure (evalPairs_nil ?_)))))
  subst ex
  obtain rfl : u = Value.ref b := rx
  obtain ⟨z2, hs2, xs, r2, d2⟩ := dt_rd I2.hok (.inl hp2)
  cases r2
  refine ⟨[(ky, b, r)], ⟨rfl, rfl, key_of I2.hok hb, trivial⟩, d2, fun h' tk d3 sb => wpAny_pure ⟨.ref _, _, ?_, rfl, q2⟩⟩
  obtain ⟨o3, es, ep, h1, h2, h3, h4, h5, h6⟩ := d3
  refine d_write (t' := tk) I2 (by rw [hp2]; exact Mut.dT) sb ⟨o3, h1⟩ ⟨by rw [List.length_singleton, sizeLine_eq]; omega, hs2, _, .cons ⟨rfl, ?_, ry⟩ .nil, o3, es, ep, h1, h2, h3, h4, h6⟩
  rw [upd_ne (ne_of hb hp2 (by intro q; cases q))]; exact hb
def sSetD (i : Nat) (wk wv : WE) : WS := fun P ρ => wk ρ fun d => wv ρ fun e => ∃ t, d = tD t ∧ P.nx (ρ.set i (some (.dct [(t, e)])))
theorem js_setD {i : Nat} {x : Str} {pos' pd : Pos} (hr : Room k X.A) (hN : X.N.Nodup) (hi : X.N[i]? = some x) (hx : Loc X.env.scope x) (hk : PE X ke (lE z wk)) (hv : PE X ve (lE z wv)) (hs : swapsWith (.Dict [some ke] [ve] pd) (some (.Name x pos')) pos.line X.env = pure false := by rfl) (hf : X.fn x = true ∨ X.env.scope.names.lookup x = some .local := by first | exact .inl rfl | exact .inr rfl | assumption) :
    PS X (.Assign [.Name x pos'] (.Dict [some ke] [ve] pd) pos) (lS z (sSetD i wk wv)) := (ps_set (i := i) hN hi hx (pe_disp1 hr hk hv) hs hf).by fun D σ H ⟨C, ρ, P, c, er, w, kk⟩ p hp => by
  have o := own_new c hp
  have g0 := c.grow (Ex.new (o := .dT []) hp)
  refine ⟨C, ρ, _, c.gw g0, er.gw g0, w, fun d v C1 H1 p1 g1 rv => ⟨C1, ρ, _, (c.gw g0).gw g1, (er.gw g0).gw g1, p1, fun d2 v2 C2 H2 p2 g2 rv2 => ?_⟩⟩
  obtain ⟨t, e, p2⟩ := p2
  subst e
  obtain ⟨s1, s2⟩ := (g1.tr g2).stayT o.x upd_same o.c
  obtain ⟨b, rfl, hb⟩ := rp_tD (rv.up g2.cc)
  have c2 := ((c.gw g0).gw g1).gw g2
  have o2 : Own z C2 p := ⟨s2, o.b, o.x⟩
  have er1 : ER z C (upd H p (.dT [])) (σ.set i (some (.ref p))) (ρ.set i (some (.dct []))) := er.bind hp ⟨p, rfl, o.c, o.b, o.x, [], upd_same, .nil⟩
  refine ⟨s1, b, kyN t, rfl, c2.ch _ _ hb, ?_⟩
  by_cases hl : i < σ.length
  · have e2 := ((er1.gw g1).gw g2).dctPut (i := i) (kvs := []) (kvs' := [(t, d2)]) (ks' := [(kyN t, v2)]) (by rw [List.getElem?_set_self (by rw [← er.len]; exact hl)]) (by rw [List.getElem?_set_self hl]) o2 s1 (.cons ⟨rfl, rv2⟩ .nil)
    rw [List.set_set] at e2
    exact kk.nx _ _ _ _ p2 (o2.put c2 s1 trivial) (g1.cc.tr g2.cc) e2
  · have e2 : ER z C2 (upd H2 p (.dT [(kyN t, v2)])) (σ.set i (some (.ref p))) (ρ.set i (some (.dct [(t, d2)]))) := by
      have h1 : σ.set i (some (.ref p)) = σ := List.set_eq_of_length_le (by omega)
      have h2 : ρ.set i (some (.dct [(t, d2)])) = ρ := List.set_eq_of_length_le (by rw [← er.len]; omega)
      rw [h1, h2]
      have er3 := ((er.gw g0).gw g1).gw g2
      refine ⟨er3.len, fun j => (er3.at_ j).other o2 s1 fun e => ?_, er3.ap⟩
      have y := er.at_ j
      rw [e] at y
      cases hb : ρ.getD j none with
      | none => rfl
      | some bb =>
        rw [hb] at y
        cases bb with
        | d d => rfl
        | cup => rfl
        | own xs => obtain ⟨q, vs, h1, _, _, _, h5, _⟩ := y; cases h1; rw [hp] at h5; cases h5
        | dct kvs => obtain ⟨q, h1, _, _, _, ks, h5, _⟩ := y; cases h1; rw [hp] at h5; cases h5
    exact kk.nx _ _ _ _ p2 (o2.put c2 s1 trivial) (g1.cc.tr g2.cc) e2
/-- k not in x -/
def tDNotO (i : Nat) (wk : WE) : WT := fun ρ P => ∃ kvs, ρ[i]? = some (some (.dct kvs)) ∧ wk ρ fun d => ∃ t, d = tD t ∧ P (decide (t ∉ kvs.map (·.1)))
theorem jt_dnotO {i : Nat} {x : Str} {px : Pos} (hr : Room k X.A) (ha : PE X a (lE z wk)) (hx : PE X (.Name x px) (tVar i)) (h1 : behindInMarks .NotIn (.Name x px) = false) : PT X (.Compare a [.NotIn] [.Name x px] pos) (lT z (tDNotO i wk)) :=
  (pt_cmp (pc_dnotin (show X.A.units + 1 < cLine by have := u65 hr; omega) ha hx) h1).by fun σ H Q ⟨C, ρ, P, c, er, ⟨kvs, hv, w⟩, kk⟩ => by
    obtain ⟨q, ks, hσ, o, hq, r⟩ := er.dct hv
    refine ⟨C, ρ, _, c, er, w, fun d v C1 H1 ⟨t, e, p1⟩ g1 rv => ⟨.ref q, hσ, ?_⟩⟩
    subst e
    obtain ⟨s1, _⟩ := g1.stayT o.x hq o.c
    obtain ⟨b, rfl, hb⟩ := rp_tD rv
    refine ⟨q, valV ks (kyN t), rfl, .inr ⟨ks, kyN t, b, .inl s1, rfl, g1.ch _ _ hb, rfl⟩, _, rfl, ?_⟩
    rw [← valV_any, r.any t, ← decide_not]
    exact kk _ C1 H1 p1 g1
/-- x[k] = v -/
def sDPutO (i : Nat) (wk wv : WE) : WS := fun P ρ => ∃ kvs, ρ[i]? = some (some (.dct kvs)) ∧ wv ρ fun e => wk ρ fun d => ∃ t, d = tD t ∧ kvs.length ≤ lim ∧ P.nx (ρ.set i (some (.dct (putN kvs t e))))
theorem js_dputO {i : Nat} {x : Str} {px pos' : Pos} (hr : Room k X.A) (hx : PE X (.Name x px) (tVar i)) (hk : PE X ke (lE z wk)) (hv : PE X ve (lE z wv)) (hs : swapsWith ve (some (.Subscript (.Name x px) ke pos')) pos.line X.env = pure false := by rfl) :
    PS X (.Assign [.Subscript (.Name x px) ke pos'] ve pos) (lS z (sDPutO i wk wv)) :=
  (ps_dput (show X.A.units + 1 < cLine by have := u65 hr; omega) hx hk hv hs).by fun D σ H ⟨C, ρ, P, c, er, ⟨kvs, hv, w⟩, kk⟩ => by
    obtain ⟨q, ks, hσ, o, hq, r⟩ := er.dct hv
    refine ⟨C, ρ, _, c, er, w, fun d v C1 H1 p1 g1 rv => ⟨.ref q, hσ, C1, ρ, _, c.gw g1, er.gw g1, p1, fun d2 v2 C2 H2 p2 g2 rv2 => ?_⟩⟩
    obtain ⟨t, e, hz, p2⟩ := p2
    subst e
    obtain ⟨s1, s2⟩ := (g1.tr g2).stayT o.x hq o.c
    obtain ⟨b, rfl, hb⟩ := rp_tD rv2
    have o2 : Own z C2 q := ⟨s2, o.b, o.x⟩
    have c2 := (c.gw g1).gw g2
    have r2 := r.up (g1.tr g2).cc
    exact ⟨q, _, rfl, .inr ⟨ks, kyN t, b, s1, rfl, g2.ch _ _ hb, by rw [r.len]; exact lim_lt hz, rfl⟩, kk.nx _ _ _ _ p2 (o2.put c2 s1 trivial) (g1.cc.tr g2.cc) (((er.gw g1).gw g2).dctPut hv hσ o2 s1 (r2.put t (rv.up g2.cc)))⟩
/-- x = x + (l.pop(e),) -/
def sPopAdd (iF iL : Nat) (wa : WE) : WS := fun P ρ => ∃ fs xs, ρ[iF]? = some (some (.d (.tuple fs))) ∧ ρ[iL]? = some (some (.own xs)) ∧ wa ρ fun r => ∃ (n : Nat) (d : PyData), r = nD n ∧ n < 1000 ∧ xs[n]? = some d ∧ fs.length + 1 ≤ lim ∧ P.nx ((ρ.set iL (some (.own (xs.eraseIdx n)))).set iF (some (.d (.tuple (fs ++ [d])))))
theorem js_popAdd {iF iL : Nat} {f l : Str} {pf pf2 pl apos cpos pb ptup : Pos} {kt : Nat} (hN : X.N.Nodup) (hi : X.N[iF]? = some f) (hfl : Loc X.env.scope f) (hF : PE X (.Name f pf2) (tVar iF)) (hL : PE X (.Name l pl) (tVar iL)) (ha : PE X a (lE z wa)) (hbase : attributeBase (.Name l pl) "pop" X.env (eval (.Name l pl) X.env) = eval (.Name l pl) X.env := by rfl)
    (hfew : ((backTo cpos (starEach [a] X.env)).all (fun x => !x.1) && (backToKw cpos (keywordEach [] X.env)).all (fun x => x.1.isSome) && decide ([a].length + ([] : List Keyword).length + (if ([] : List Keyword).isEmpty then 0 else 1) < 30)) = true := by rfl)
    (hline : (apos.endLine == cpos.line) = true := by rfl) (hs : starEach [a] X.env = (false, eval a X.env) :: starEach [] X.env := by rfl) (hplain : (backTo cpos (starEach [] X.env)).any (·.1) = false := by rfl)
    (hs2 : starEach [.Call (.Attribute (.Name l pl) "pop" apos) [a] [] cpos] X.env = (false, eval (.Call (.Attribute (.Name l pl) "pop" apos) [a] [] cpos) X.env) :: starEach [] X.env := by rfl)
    (hsw : swapsWith (.BinOp (.Name f pf2) .Add (.Tuple [.Call (.Attribute (.Name l pl) "pop" apos) [a] [] cpos] kt ptup) pb) (some (.Name f pf)) pos.line X.env = pure false := by rfl) (hff : X.fn f = true ∨ X.env.scope.names.lookup f = some .local := by first | exact .inl rfl | exact .inr rfl | assumption) :
    PS X (.Assign [.Name f pf] (.BinOp (.Name f pf2) .Add (.Tuple [.Call (.Attribute (.Name l pl) "pop" apos) [a] [] cpos] kt ptup) pb) pos) (lS z (sPopAdd iF iL wa)) :=
  (ps_set (i := iF) hN hi hfl (pe_op op_catA hF (pe_tup (pa_cons (pe_bm PySem.F.plainAttrs_list PySem.F.slot_list_pop PySem.F.type_list_pop mt_popAt hL (pa_cons ha pa_nil hs) hbase hfew hline hs hplain) pa_nil hs2))) hsw hff).by fun D σ H ⟨C, ρ, P, c, er, ⟨fs, xs, hvF, hvL, w⟩, kk⟩ => by
    obtain ⟨vF, hσF, rF⟩ := er.var hvF
    obtain ⟨q, vs, hσ, o, hq, r⟩ := er.own hvL
    cases rF with
    | @tup aF fvs _ hF1 hF2 =>
    refine ⟨.ref aF, hσF, .ref q, hσ, .inl ⟨rfl, vs, SqL.of hq⟩, C, ρ, _, c, er, w, fun d v C1 H1 p1 g1 rv => ?_⟩
    obtain ⟨n, d, e, hn, hd, hz, p1⟩ := p1
    subst e
    cases rv
    obtain ⟨s1, s2⟩ := g1.stay o.x hq o.c
    have o1 : Own z C1 q := ⟨s2, o.b, o.x⟩
    have c1 := c.gw g1
    obtain ⟨y, hy, ry⟩ := (r.up g1.cc).get hd
    have hlt : n < vs.length := (List.getElem?_eq_some_iff.mp hy).1
    refine ⟨q, vs, n, n, y, rfl, rfl, s1, by omega, by omega, ?_, hy, ?_⟩
    · show seqIndex? (n : Int) vs.length = some n
      simp [seqIndex?, hlt]
      refine ⟨⟨?_, ?_⟩, ?_⟩ <;> (split <;> omega)
    have er2 := (er.gw g1).ownPut hvL hσ o1 s1 ((r.up g1.cc).erase n)
    have c2 := o1.put (o' := .lst (vs.eraseIdx n)) c1 s1 trivial
    refine ⟨lim_ok (show 1 ≤ lim by decide), fun pt hpt => ?_⟩
    have g3 := c2.new (o := .tup [y]) hpt
    have c3 := c2.gw g3
    have hF3 : SqT X.K (upd (upd H1 q (.lst (vs.eraseIdx n))) pt (.tup [y])) aF fvs := SqT.of (c3.ch _ _ (g3.cc _ _ (g1.cc _ _ hF1)))
    have hpt2 : (upd (upd H1 q (.lst (vs.eraseIdx n))) pt (.tup [y])) pt = some (.tup [y]) := upd_same
    have er3 := er2.gw g3
    have rF3 := (hF2.up g1.cc).up g3.cc
    refine ⟨aF, pt, fvs, [y], rfl, rfl, hF3, SqT.of hpt2, by rw [hF2.len]; exact lim_ok hz, fun e => ?_, fun _ e => (by cases e), fun _ _ p hp => ?_⟩
    · subst e
      have e2 : fs = [] := List.length_eq_zero_iff.mp hF2.len.symm
      subst e2
      refine kk.nx _ _ _ _ p1 c3 (g1.cc.tr g3.cc) (er3.set ?_)
      exact .tup upd_same (.one (ry.up g3.cc))
    · have g4 := c3.new (o := .tup (fvs ++ [y])) hp
      refine kk.nx _ _ _ _ p1 (c3.gw g4) ((g1.cc.tr g3.cc).tr g4.cc) ((er3.gw g4).set ?_)
      exact .tup upd_same ((rF3.up g4.cc).app (.one ((ry.up g3.cc).up g4.cc)))
theorem Core.cupGw {C H : Hp} {p : Addr} (c : Core z C H) (hc : z.cup = some p) (a0 b0 : Int) (ha : 0 ≤ a0) (hb : 0 ≤ b0) (hb2 : b0 < 2 ^ 40) : Gw z C H C (upd H p (.lst [.int a0, .int b0])) := by
  have ep : z.ex p := .inl hc
  have cp := (c.ex p ep).2
  refine ⟨Ex.rfl, fun a u h => ?_, fun a u x h => ?_, fun a h n => absurd n h, z.turn c.ok hc (fun a u n h => by rw [upd_ne n]; exact h) ⟨a0, b0, upd_same, ha, hb, hb2⟩⟩
  · rw [upd_ne (fun t => by rw [t, cp] at h; cases h)]; exact c.ch a u h
  · rw [upd_ne (fun t => x (by rw [t]; exact ep))]; exact h
def wCup0 (i : Nat) : WE := fun ρ P => ρ[i]? = some (some .cup) ∧ ∀ a : Int, 0 ≤ a → P (.int a)
def wCup1 (i : Nat) : WE := fun ρ P => ρ[i]? = some (some .cup) ∧ ∀ a : Int, 0 ≤ a → a < 2 ^ 40 → P (.int a)
theorem je_cup0 {i j : Nat} {x : Str} {px pj : Pos} (hx : PE X (.Name x px) (tVar i)) : PE X (.Subscript (.Name x px) (.Constant (.int 0) j pj) pos) (lE z (wCup0 i)) :=
  (pe_ix ix_list hx (pe_int (i := 0)) fun _ _ => rfl).by fun σ H Q ⟨C, ρ, P, c, er, ⟨hv, w⟩, kk⟩ => by
    obtain ⟨p, hσ, hc⟩ := er.cup hv
    obtain ⟨a0, b0, hp, h1, h2, h3⟩ := c.ok.1 p hc
    exact ⟨.ref p, hσ, p, _, 0, .int a0, rfl, rfl, SqL.of hp, rfl, kk _ _ C H (w a0 h1) c.rf (.int _)⟩
theorem je_cup1 {i j : Nat} {x : Str} {px pj : Pos} (hx : PE X (.Name x px) (tVar i)) : PE X (.Subscript (.Name x px) (.Constant (.int 1) j pj) pos) (lE z (wCup1 i)) :=
  (pe_ix ix_list hx (pe_int (i := 1)) fun _ _ => rfl).by fun σ H Q ⟨C, ρ, P, c, er, ⟨hv, w⟩, kk⟩ => by
    obtain ⟨p, hσ, hc⟩ := er.cup hv
    obtain ⟨a0, b0, hp, h1, h2, h3⟩ := c.ok.1 p hc
    exact ⟨.ref p, hσ, p, _, 1, .int b0, rfl, rfl, SqL.of hp, rfl, kk _ _ C H (w b0 h2 h3) c.rf (.int _)⟩
def sCup (i : Nat) (n : Bool) (wa : WE) : WS := fun P ρ => ρ[i]? = some (some .cup) ∧ wa ρ fun d => ∃ a : Int, d = .int a ∧ 0 ≤ a ∧ (n = true → a < 2 ^ 40) ∧ P.nx ρ
theorem js_cup0 {i j : Nat} {x : Str} {px pj pos' : Pos} (hx : PE X (.Name x px) (tVar i)) (ha : PE X a (lE z wa))
    (hs : swapsWithSole [.Subscript (.Name x px) (.Constant (.int 0) j pj) pos'] a pos.line X.env = pure false := by rfl) (hw : swappedStores [.Subscript (.Name x px) (.Constant (.int 0) j pj) pos'] a X.env = pure none := by rfl) : PS X (.Assign [.Subscript (.Name x px) (.Constant (.int 0) j pj) pos'] a pos) (lS z (sCup i false wa)) :=
  (ps_asg ha (pg_sub hx (pe_int (i := 0)) set_list) hs hw).by fun D σ H ⟨C, ρ, P, c, er, ⟨hv, w⟩, kk⟩ => by
    obtain ⟨p, hσ, hc⟩ := er.cup hv
    refine ⟨C, ρ, _, c, er, w, fun d v C1 H1 ⟨a1, e, h1, _, p1⟩ g1 rv => ?_⟩
    subst e
    cases rv
    have c1 := c.gw g1
    obtain ⟨a0, b0, hp, h2, h3, h4⟩ := c1.ok.1 p hc
    have g2 := c1.cupGw hc a1 b0 h1 h3 h4
    exact ⟨.ref p, hσ, p, _, 0, 0, rfl, rfl, hp, rfl, kk.nx _ _ _ _ p1 (c1.gw g2) (g1.cc.tr g2.cc) ((er.gw g1).gw g2)⟩
theorem js_cup1 {i j : Nat} {x : Str} {px pj pos' : Pos} (hx : PE X (.Name x px) (tVar i)) (ha : PE X a (lE z wa))
    (hs : swapsWithSole [.Subscript (.Name x px) (.Constant (.int 1) j pj) pos'] a pos.line X.env = pure false := by rfl) (hw : swappedStores [.Subscript (.Name x px) (.Constant (.int 1) j pj) pos'] a X.env = pure none := by rfl) : PS X (.Assign [.Subscript (.Name x px) (.Constant (.int 1) j pj) pos'] a pos) (lS z (sCup i true wa)) :=
  (ps_asg ha (pg_sub hx (pe_int (i := 1)) set_list) hs hw).by fun D σ H ⟨C, ρ, P, c, er, ⟨hv, w⟩, kk⟩ => by
    obtain ⟨p, hσ, hc⟩ := er.cup hv
    refine ⟨C, ρ, _, c, er, w, fun d v C1 H1 ⟨a1, e, h1, h5, p1⟩ g1 rv => ?_⟩
    subst e
    cases rv
    have c1 := c.gw g1
    obtain ⟨a0, b0, hp, h2, h3, h4⟩ := c1.ok.1 p hc
    have g2 := c1.cupGw hc a0 a1 h2 h1 (h5 rfl)
    exact ⟨.ref p, hσ, p, _, 1, 1, rfl, rfl, hp, rfl, kk.nx _ _ _ _ p1 (c1.gw g2) (g1.cc.tr g2.cc) ((er.gw g1).gw g2)⟩
end
def st0C (N : List Str) (ds : List PyData) : Env' := some .cup :: (ds.map (fun d => some (.d d)) ++ List.replicate (N.length - ds.length - 1) none)
theorem er_startC {z : Cz} {C H : Hp} {N : List Str} {p : Addr} {vs : List V} {ds : List PyData} (hc : z.cup = some p) (r : RpA C vs ds) : ER z C H (L2.start N (.ref p :: vs)) (st0C N ds) := by
  have e : L2.start N (.ref p :: vs) = some (.ref p) :: (vs.map some ++ List.replicate (N.length - vs.length - 1) none) := by
    unfold L2.start
    rw [List.map_cons, List.cons_append, List.length_cons]
    congr 3
  have x := er_start (z := z) (H := H) (N := List.replicate (N.length - 1) "") r
  unfold L2.start st0 at x
  rw [e]
  unfold st0C
  rw [List.length_replicate] at x
  have e2 : N.length - vs.length - 1 = N.length - 1 - vs.length := by omega
  have e3 : N.length - ds.length - 1 = N.length - 1 - ds.length := by omega
  rw [e2, e3]
  refine ⟨by simpa using x.len, fun j => ?_, fun i j q n e1 e2 e3 => ?_⟩
  · cases j with
    | zero => exact ⟨p, rfl, hc⟩
    | succ j => exact x.at_ j
  · cases i with
    | zero => cases e2
    | succ i =>
      exfalso
      have y := e2
      rw [List.getD_cons_succ, getD_app, getD_rep, List.length_map] at y
      by_cases h : i < ds.length
      · rw [if_pos h, List.getD_eq_getElem?_getD, List.getElem?_map, List.getElem?_eq_getElem h] at y; cases y
      · rw [if_neg h] at y; cases y
section
variable {P : Program} {w : World} {K : PySem.W.Frag} {mg : Str → Option Value} {base : Heap}
theorem okC {x qual : Str} {st : Stmt} {fa : Addr} {fd : FuncData} {N ps : List Str} {k : Nat} {f : FL} (F : Fun K x qual st fa fd) (S : FnScope N ps (defScope st)) (hl : ∀ ds Q, f ds Q → ds.length + 1 = ps.length)
    (hbody : ∀ (z : Cz) (cdv : Value) (A : Around) (outer : List Env) (s : Shared) (H : Hp) (E : XK), Room k (A.deeper (envOfC qual (defScope st) s.heap.objs.size fa cdv)) →
      ∃ b, PSs (cxOf CX0 P w K mg base N qual (defScope st) fa cdv A outer s H E).nox (defBody st) (lS z b) ∧ ∀ ds Q, f ds Q → b (PnR Q) (st0C N ds)) : FnOk P w K mg base CX0 (k + 1) fa fd ps (spC f) := by
  refine F.ok S (fun vs H Q E ⟨p, ws, C, ds, P, e, _, _, _, r, h, _⟩ => by rw [e, List.length_cons, r.len]; exact hl ds P h) fun cdv A outer s H vs Q E hr ⟨p, ws, C, ds, P, e, ex, hCp, hcup, r, h, k⟩ => ?_
  subst e
  have hz : ∃ B : Hp, B = fun a => if a = p then none else H a := ⟨_, rfl⟩
  obtain ⟨B, hB⟩ := hz
  have Bp : B p = none := by rw [hB]; exact if_pos rfl
  have Bn : ∀ a, a ≠ p → B a = H a := fun a n => by rw [hB]; exact if_neg n
  obtain ⟨b, h1, h2⟩ := hbody ⟨some p, [], B, C, E0, fun _ => False⟩ cdv A outer s H E hr
  have c0 : Core ⟨some p, [], B, C, E0, fun _ => False⟩ C H := by
    refine ⟨fun a o e => ?_, Ex.rfl, ex, fun a h n => absurd n h, fun a x => ?_, fun q hq => ?_, fun q hq => absurd hq List.not_mem_nil⟩
    · have e : B a = some o := e
      by_cases q : a = p
      · rw [q, Bp] at e; cases e
      · rw [Bn a q] at e; exact e
    · rcases x with x | ⟨_, x, _⟩
      · have x : p = a := Option.some.inj x
        subst x; exact ⟨Bp, hCp⟩
      · cases x
    · have hq : p = q := Option.some.inj hq
      subst hq; exact hcup
  have fin : ∀ {C' H' : Hp}, Core ⟨some p, [], B, C, E0, fun _ => False⟩ C' H' → Gc p C H C' H' := fun {C' H'} c => by
    refine ⟨c.c0, c.ch, fun a o n e => c.b a o (show B a = some o by rw [Bn a n]; exact e), fun a h n => ?_, c.ok.1 p rfl⟩
    have t : B a = none := c.fr a h n
    by_cases q : a = p
    · exfalso
      rw [q, (c.ex p (.inl rfl)).2] at h
      exact h rfl
    · rw [Bn a q] at t; exact t
  refine ⟨_, h1, C, _, PnR P, c0, er_startC rfl r, h2 ds P h, ?_⟩
  exact ⟨fun ρ σ C' H' p c x _ => k .none .non C' H' p (fin c) .non, fun d v C' H' p c x r => k d v C' H' p (fin c) r, fun _ _ _ _ p => p.elim, fun _ _ _ _ p => p.elim⟩
end
end Lr
namespace Lr
open PySem PySem.Spec PyProof.Rows L2
def wkD (p : List Nat × Nat) : PyData := .tuple [tD p.1, nD p.2]
theorem walkP_ok {k : Kn} (h : Kd k) : ∀ (r : List Nat) (a : Nat), a < k.length → Lt (sets k) r → (walkP k a r).2 < k.length ∧ Lt (sets k) (walkP k a r).1 ∧ (walkP k a r).1.length = r.length
  | [], a, ha, _ => ⟨ha, fun b hb => (by cases hb), rfl⟩
  | s :: r, a, ha, hr => by
    obtain ⟨_, _, _, h1, h2⟩ := stepL_at h (hr s List.mem_cons_self) ha
    obtain ⟨g1, g2, g3⟩ := walkP_ok h r (stepL k s a).2 h2 (fun b hb => hr b (List.mem_cons_of_mem _ hb))
    refine ⟨g1, fun b hb => ?_, by simp only [walkP, List.length_cons, g3]⟩
    rcases List.mem_cons.mp hb with e | hb
    · rw [e]; exact h1
    · exact g2 b hb
theorem tup_own (l : List Nat) : PyData.tuple (l.map nD) = tD l := rfl
section
variable {P : Program} {w : World} {K : PySem.W.Frag} {mg : Str → Option Value} {base : Heap}
def p_walked : FL := fun ds Q => ∃ k a r, ds = [kD k, nD a, tD r] ∧ Kd k ∧ a < k.length ∧ Lt (sets k) r ∧ r.length ≤ 1000 ∧ Q (wkD (walkP k a r))
theorem ok45 (T : Txt K mg) : FnOk P w K mg base CX0 1 T.f45 T.fd45 ["_law_kind_here", "_law_sort", "_law_road"] (spP p_walked) :=
  okP T.d45.fn sc45 (fun ds Q ⟨_, _, _, h, _⟩ => by rw [h]; rfl) fun z cdv A outer s H E hr => ⟨_,
    (js_cons (js_setO (i := 3) sc45.nd rfl (.inl rfl) (jo_lst ja_nil))
      (js_cons (js_forT PassesOwn.never rfl (je_var _ (pv 2)) (jg_name (i := 4) sc45.nd rfl (.inl rfl)) (js_cons (js_asg (je_ix (je_ix (je_var _ (pv 0)) (je_var _ (pv 1))) (je_var _ (pv 4))) (jg_tup (n := 2) rfl (jgs_cons (jg_name (i := 5) sc45.nd rfl (.inl rfl)) (jgs_cons (jg_name (i := 1) sc45.nd rfl (.inl rfl)) jgs_nil))))
      (js_one (js_app (pv 3) (je_var _ (pv 5))))))
      (js_one (js_ret (je_tup (ja_cons (je_tupO (pv 3) (by rfl) T.b_tuple) (ja_cons (je_var _ (pv 1)) ja_nil))))))),
    fun ds Q ⟨k, a, r, e, hk, ha, hr, hl, h⟩ => by
      subst e
      refine ⟨small (by decide), ?_⟩
      refine ⟨_, rfl, ?_⟩
      refine sLoop_ind (fun rest ρ => ∃ r2 a2 acc x4 x5, rest = r2.map nD ∧ ρ = [some (.d (kD k)), some (.d (nD a2)), some (.d (tD r)), some (.own (acc.map nD)), x4, x5] ∧ a2 < k.length ∧ Lt (sets k) r2 ∧ acc.length + r2.length ≤ 1000 ∧ Q (wkD (acc ++ (walkP k a2 r2).1, (walkP k a2 r2).2))) ?_ ?_ _ _ ⟨r, a, [], none, none, rfl, rfl, ha, hr, by rw [List.length_nil]; omega, h⟩
      · rintro ρ ⟨r2, a2, acc, x4, x5, e1, rfl, h1, h2, h3, h4⟩
        cases r2 with
        | cons => cases e1
        | nil =>
          have h' : Q (wkD (acc ++ [], a2)) := h4
          rw [List.append_nil] at h'
          exact ⟨_, rfl, _, rfl, by show 2 ≤ lim; decide, h'⟩
      · rintro d ds ρ ⟨r2, a2, acc, x4, x5, e1, rfl, h1, h2, h3, h4⟩ K hK
        cases r2 with
        | nil => cases e1
        | cons s2 r2 =>
          obtain ⟨rfl, rfl⟩ := List.cons.inj e1
          obtain ⟨rw, q1, q2, q3, q4⟩ := stepL_at hk (h2 s2 List.mem_cons_self) h1
          rw [List.length_cons] at h3
          refine ⟨_, rfl, _, rfl, _, atI_map q1, _, rfl, _, atI_map q2, ?_⟩
          refine ⟨rfl, ?_⟩
          refine ⟨_, rfl, _, rfl, by rw [List.length_map]; exact small (by omega), ?_⟩
          refine hK _ ⟨r2, (stepL k s2 a2).2, acc ++ [(stepL k s2 a2).1], some (.d (nD s2)), some (.d (nD (stepL k s2 a2).1)), rfl, ?_, q4, fun b hb => h2 b (List.mem_cons_of_mem _ hb), by rw [List.length_append, List.length_singleton]; omega, ?_⟩
          · rw [List.map_append]; rfl
          · rw [List.append_assoc]; exact h4⟩
def p_passed : FL := fun ds Q => ∃ k t r, ds = [kD k, tD t, tD r] ∧ Kd k ∧ Lt k.length t ∧ Lt (sets k) r ∧ t.length ≤ 1000 ∧ r.length ≤ 1000 ∧ Q (rtD (passP k t r))
theorem ok46 (T : Txt K mg) : FnOk P w K mg base CX0 2 T.f46 T.fd46 ["_law_kind_here", "_law_train", "_law_road"] (spP p_passed) :=
  have G45 := ok45 (P := P) (w := w) (base := base) T
  okP T.d46.fn sc46 (fun ds Q ⟨_, _, _, h, _⟩ => by rw [h]; rfl) fun z cdv A outer s H E hr => ⟨_,
    (js_cons (js_setO (i := 3) sc46.nd rfl (.inl rfl) (jo_lst ja_nil))
      (js_cons (js_forT PassesOwn.never rfl (je_var _ (pv 1)) (jg_name (i := 4) sc46.nd rfl (.inl rfl)) (js_cons (js_asg (je_call G45 (hr.mono (by decide)) (by rfl) T.d45.gl T.d45.fn.kp T.d45.bi (ja_cons (je_var _ (pv 0)) (ja_cons (je_var _ (pv 4)) (ja_cons (je_var _ (pv 2)) ja_nil)))) (jg_tup (n := 2) rfl (jgs_cons (jg_name (i := 2) sc46.nd rfl (.inl rfl)) (jgs_cons (jg_name (i := 5) sc46.nd rfl (.inl rfl)) jgs_nil))))
      (js_one (js_app (pv 3) (je_var _ (pv 5))))))
      (js_one (js_ret (je_tup (ja_cons (je_var _ (pv 2)) (ja_cons (je_tupO (pv 3) (by rfl) T.b_tuple) ja_nil))))))),
    fun ds Q ⟨k, t, r, e, hk, ht, hr, lt, lr, h⟩ => by
      subst e
      refine ⟨small (by decide), ?_⟩
      refine ⟨_, rfl, ?_⟩
      refine sLoop_ind (fun rest ρ => ∃ t2 r2 acc x4 x5, rest = t2.map nD ∧ ρ = [some (.d (kD k)), some (.d (tD t)), some (.d (tD r2)), some (.own (acc.map nD)), x4, x5] ∧ Lt k.length t2 ∧ Lt (sets k) r2 ∧ r2.length ≤ 1000 ∧ acc.length + t2.length ≤ 1000 ∧ Q (rtD ((passP k t2 r2).1, acc ++ (passP k t2 r2).2))) ?_ ?_ _ _ ⟨t, r, [], none, none, rfl, rfl, ht, hr, lr, by rw [List.length_nil]; omega, h⟩
      · rintro ρ ⟨t2, r2, acc, x4, x5, e1, rfl, h1, h2, h3, h4, h5⟩
        cases t2 with
        | cons => cases e1
        | nil =>
          have h' : Q (rtD (r2, acc ++ [])) := h5
          rw [List.append_nil] at h'
          exact ⟨_, rfl, _, rfl, by show 2 ≤ lim; decide, h'⟩
      · rintro d ds ρ ⟨t2, r2, acc, x4, x5, e1, rfl, h1, h2, h3, h4, h5⟩ K hK
        cases t2 with
        | nil => cases e1
        | cons a t2 =>
          obtain ⟨rfl, rfl⟩ := List.cons.inj e1
          rw [List.length_cons] at h4
          have ha := h1 a List.mem_cons_self
          obtain ⟨q1, q2, q3⟩ := walkP_ok hk r2 a ha h2
          refine ⟨_, rfl, _, rfl, _, rfl, k, a, r2, rfl, hk, ha, h2, h3, ?_⟩
          refine ⟨rfl, ?_⟩
          refine ⟨_, rfl, _, rfl, by rw [List.length_map]; exact small (by omega), ?_⟩
          refine hK _ ⟨t2, (walkP k a r2).1, acc ++ [(walkP k a r2).2], some (.d (nD a)), some (.d (nD (walkP k a r2).2)), rfl, ?_, fun b hb => h1 b (List.mem_cons_of_mem _ hb), q2, by omega, by rw [List.length_append, List.length_singleton]; omega, ?_⟩
          · rw [List.map_append]; rfl
          · rw [List.append_assoc]; exact h5⟩
def upK : Kn := [[(1, 1), (0, 0)], [(0, 1), (1, 1)]]
def oddK : Kn := [[(0, 3), (0, 3)], [(0, 3), (1, 3)], [(1, 3), (1, 3)], [(0, 3), (1, 3)]]
def p_up : FL := fun ds Q => ds = [] ∧ Q (kD upK)
theorem ok48 (T : Txt K mg) : FnOk P w K mg base CX0 1 T.f48 T.fd48 [] (spP p_up) :=
  okP T.d48.fn sc48 (fun ds Q ⟨h, _⟩ => by rw [h]; rfl) fun z cdv A outer s H E hr => ⟨_,
    (js_one (js_ret (je_tup (ja_cons (je_tup (ja_cons (je_tup (ja_cons je_int (ja_cons je_int ja_nil))) (ja_cons (je_tup (ja_cons je_int (ja_cons je_int ja_nil))) ja_nil))) (ja_cons (je_tup (ja_cons (je_tup (ja_cons je_int (ja_cons je_int ja_nil))) (ja_cons (je_tup (ja_cons je_int (ja_cons je_int ja_nil))) ja_nil))) ja_nil))))),
    fun ds Q ⟨e, h⟩ => by
      subst e
      repeat' first | exact h | refine ⟨by show 2 ≤ lim; decide, ?_⟩⟩
def p_odd : FL := fun ds Q => ds = [] ∧ Q (kD oddK)
theorem ok58 (T : Txt K mg) : FnOk P w K mg base CX0 1 T.f58 T.fd58 [] (spP p_odd) :=
  okP T.d58.fn sc58 (fun ds Q ⟨h, _⟩ => by rw [h]; rfl) fun z cdv A outer s H E hr => ⟨_,
    (js_one (js_ret (je_tup (ja_cons (je_tup (ja_cons (je_tup (ja_cons je_int (ja_cons je_int ja_nil))) (ja_cons (je_tup (ja_cons je_int (ja_cons je_int ja_nil))) ja_nil))) (ja_cons (je_tup (ja_cons (je_tup (ja_cons je_int (ja_cons je_int ja_nil))) (ja_cons (je_tup (ja_cons je_int (ja_cons je_int ja_nil))) ja_nil))) (ja_cons (je_tup (ja_cons (je_tup (ja_cons je_int (ja_cons je_int ja_nil))) (ja_cons (je_tup (ja_cons je_int (ja_cons je_int ja_nil))) ja_nil))) (ja_cons (je_tup (ja_cons (je_tup (ja_cons je_int (ja_cons je_int ja_nil))) (ja_cons (je_tup (ja_cons je_int (ja_cons je_int ja_nil))) ja_nil))) ja_nil))))))),
    fun ds Q ⟨e, h⟩ => by
      subst e
      repeat' first | exact h | refine ⟨by show 2 ≤ lim; decide, ?_⟩ | refine ⟨by show 4 ≤ lim; decide, ?_⟩⟩
theorem settings_here {k : Kn} (hk : Kd k) {P : PyData → Prop} (h : P (nD (sets k))) : ∃ d, atI (k.map rowD) 0 = some d ∧ fLen d P := by
  obtain ⟨r, rs, e, hr⟩ := kD_cons hk
  refine ⟨rowD r, by rw [e]; exact atI0, ?_⟩
  show P (.int ((r.map pD).length : Int))
  rw [List.length_map, hr]; exact h
theorem ok59 (T : Txt K mg) : FnOk P w K mg base CX0 1 T.f59 T.fd59 ["_law_kind_here", "_law_many"] (spP p_all_roads) :=
  okP T.d59.fn sc59 (fun ds Q ⟨_, _, h, _⟩ => by rw [h]; rfl) fun z cdv A outer s H E hr => ⟨_,
    (js_cons (js_set (i := 2) sc59.nd rfl (.inl rfl) (je_lst (ja_cons (je_tup ja_nil) ja_nil)))
      (js_cons (js_forR PassesOwn.never rfl (by rfl) T.b_range (ja_cons (je_var _ (pv 1)) ja_nil) (jg_name (i := 3) sc59.nd rfl (.inl rfl)) (js_cons (js_set (i := 4) sc59.nd rfl (.inl rfl) (je_lst ja_nil))
      (js_cons (js_forL PassesOwn.never rfl (je_var _ (pv 2)) (jg_name (i := 5) sc59.nd rfl (.inr rfl)) (js_one (js_set (i := 4) sc59.nd rfl (.inl rfl) (je_op op_addA ho_add (je_var _ (pv 4)) (je_lcR (own := [("_law_setting", 6)]) rfl sc59.nd (by rfl) T.b_range (ja_cons (je_callB call_len_seq hoL_len (by rfl) T.b_len (by decide +kernel) (ja_cons (je_ix (je_var _ (pv 0)) je_int) ja_nil)) ja_nil) (blkOk_by (by rfl)) (fun _ _ _ _ _ => (jg_name (i := 6) sc59.nd rfl (.inl rfl))) (fun _ _ _ _ _ => jts_nil) (fun _ _ _ _ _ => (je_op op_addA ho_add (je_var _ (pv 5)) (je_tup (ja_cons (je_var _ (pv 6)) ja_nil)))))))))
      (js_one (js_set (i := 2) sc59.nd rfl (.inl rfl) (je_var _ (pv 4)))))))
      (js_one (js_ret (je_var _ (pv 2)))))),
    fun ds Q ⟨k, n, e, hk, hn, hp, h⟩ => by
      subst e
      refine ⟨small (by decide), small (by decide), ?_⟩
      refine ⟨_, rfl, by omega, by show (n : Int) ≤ (10000000 : Nat); omega, ?_⟩
      rw [Int.toNat_natCast]
      have mono : ∀ i, i ≤ n → sets k ^ i ≤ 64 := fun i hi => Nat.le_trans (Nat.pow_le_pow_right hk.slo hi) hp
      refine sLoop_ind (fun rest ρ => ∃ i x3 x4 x5 x6, i ≤ n ∧ rest = (nums n).drop i ∧ ρ = [some (.d (kD k)), some (.d (nD n)), some (.d (.list ((roadsP (sets k) i).map tD))), x3, x4, x5, x6]) ?_ ?_ _ _ ⟨0, none, none, none, none, by omega, rfl, rfl⟩
      · rintro ρ ⟨i, x3, x4, x5, x6, hi, e1, rfl⟩
        have : i = n := by
          have := congrArg List.length e1
          simp [nums] at this
          omega
        subst this
        exact ⟨_, rfl, h⟩
      · rintro d ds ρ ⟨i, x3, x4, x5, x6, hi, e1, rfl⟩ K hK
        have hlt : i < n := by
          have := congrArg List.length e1
          simp [nums] at this
          omega
        rw [List.drop_eq_getElem_cons (by simpa [nums] using hlt)] at e1
        obtain ⟨rfl, rfl⟩ := List.cons.inj e1
        have hl := roadsP_len (sets k) i
        have h6 := hk.shi
        have h64 := mono i hi
        refine ⟨small (by decide), ?_⟩
        refine ⟨_, rfl, ?_⟩
        refine sLoop_ind (fun rest ρ => ∃ rs acc y5 y6, rest = rs.map tD ∧ (∀ r ∈ rs, r.length = i) ∧ acc.length + rs.length * 6 ≤ 1000 ∧ ρ = [some (.d (kD k)), some (.d (nD n)), some (.d (.list ((roadsP (sets k) i).map tD))), some (.d ((nums n)[i]'(by simpa [nums] using hlt))), some (.d (.list (acc.map tD))), y5, y6] ∧ acc ++ (rs.flatMap fun r => (List.range (sets k)).map fun s => r ++ [s]) = roadsP (sets k) (i + 1)) ?_ ?_ _ _ ⟨roadsP (sets k) i, [], x5, x6, rfl, fun r hr => (roadsP_ok _ _ r hr).1, by rw [List.length_nil, hl]; omega, rfl, rfl⟩
        · rintro ρ ⟨rs, acc, y5, y6, e1, _, _, rfl, e2⟩
          cases rs with
          | cons => cases e1
          | nil =>
            rw [List.flatMap_nil, List.append_nil] at e2
            refine ⟨_, rfl, ?_⟩
            refine hK _ ⟨i + 1, some (.d ((nums n)[i]'(by simpa [nums] using hlt))), some (.d (.list (acc.map tD))), y5, y6, hlt, rfl, ?_⟩
            rw [← e2]; rfl
        · rintro d ds ρ ⟨rs, acc, y5, y6, e1, hrs, hsz, rfl, e2⟩ K2 hK2
          cases rs with
          | nil => cases e1
          | cons r rs =>
            obtain ⟨rfl, rfl⟩ := List.cons.inj e1
            have hr1 := hrs r List.mem_cons_self
            rw [List.length_cons, Nat.succ_mul] at hsz
            refine ⟨_, rfl, ?_⟩
            refine ⟨_, rfl, settings_here hk ?_⟩
            refine ⟨by omega, by show (sets k : Int) ≤ (10000000 : Nat); omega, ?_⟩
            rw [Int.toNat_natCast]
            refine lc_enc (e := nD) (fun s => tD (r ++ [s])) (List.range (sets k)) [] _ (fun s hs Q hQ => ⟨_, rfl, _, rfl, by show 1 ≤ lim; decide, ?_⟩) (by rw [List.length_nil, List.length_range]; exact small (by omega)) ?_
            · refine ⟨by rw [List.length_map, List.length_singleton]; exact small (by omega), ?_⟩
              rw [app_rt]; exact hQ
            · refine ⟨by rw [List.nil_append, List.length_map, List.length_map, List.length_range]; exact small (by omega), ?_⟩
              refine hK2 _ ⟨rs, acc ++ (List.range (sets k)).map (fun s => r ++ [s]), some (.d (tD r)), y6, rfl, fun q hq => hrs q (List.mem_cons_of_mem _ hq), by rw [List.length_append, List.length_map, List.length_range]; omega, ?_, ?_⟩
              · rw [List.map_append, List.map_map]; rfl
              · rw [List.flatMap_cons, ← List.append_assoc] at e2; exact e2⟩
def p_tell : FL := fun ds Q => ∃ d xs, ds = [d] ∧ seqD d = some xs ∧ xs.length < 19 ∧ (((∀ x ∈ xs, tupKey x) ∧ Q (.bool (decide (xs.map keyD).Nodup))) ∨ ∃ ns : List Int, xs = ns.map .int ∧ Q (.bool (decide ns.Nodup)))
theorem seqD_len {d : PyData} {xs : List PyData} (h : seqD d = some xs) {P : PyData → Prop} (hP : P (.int (xs.length : Int))) : fLen d P := by
  cases d <;> first | (cases h; exact hP) | cases h
theorem ok61 (T : Txt K mg) : FnOk P w K mg base CX0 1 T.f61 T.fd61 ["_law_lefts"] (spP p_tell) :=
  okP T.d61.fn sc61 (fun ds Q ⟨_, _, h, _⟩ => by rw [h]; rfl) fun z cdv A outer s H E hr => ⟨_,
    (js_one (js_ret (je_cmpR (op_eqD hr.units) ho_eq (je_lenset rfl hr (by rfl) T.b_len (by rfl) T.b_set (je_var _ (pv 0))) (je_callB call_len_seq hoL_len (by rfl) T.b_len (by decide +kernel) (ja_cons (je_var _ (pv 0)) ja_nil)) (nomark _)))),
    fun ds Q ⟨d, xs, e, hs, hl, h⟩ => by
      subst e
      have eq : ∀ (n m : Nat) (p : Prop) [Decidable p], (n = m ↔ p) → PyData.eqv (.int (n : Int)) (.int (m : Int)) = decide p := fun n m p _ hp => by
        show ((n : Int) == (m : Int)) = _
        rw [Bool.beq_eq_decide_eq]
        exact decide_eq_decide.mpr (by rw [← hp]; omega)
      refine ⟨_, rfl, xs, hs, hl, ?_⟩
      rcases h with ⟨h1, h2⟩ | ⟨ns, rfl, h2⟩
      · refine .inl ⟨h1, fun n _ hn => ⟨_, rfl, seqD_len hs ⟨sh_int _, sh_int _, ?_⟩⟩⟩
        rw [eq n xs.length _ hn]; exact h2
      · refine .inr ⟨ns, rfl, fun n _ hn => ⟨_, rfl, seqD_len hs ⟨sh_int _, sh_int _, ?_⟩⟩⟩
        rw [List.length_map, eq n ns.length _ hn]; exact h2⟩
end
end Lr
namespace Lr
open PySem PySem.Spec PyProof.Rows L2
theorem all2_enc {α : Type} {e : α → PyData} {ok : α → Prop} : ∀ {ds ys : List PyData}, All2 (fun _ y => ∃ x, y = e x ∧ ok x) ds ys → ∃ xs : List α, ys = xs.map e ∧ xs.length = ds.length ∧ ∀ x ∈ xs, ok x
  | _, _, .nil => ⟨[], rfl, rfl, fun x h => by cases h⟩
  | _, _, .cons ⟨x, h1, h2⟩ t => by
    obtain ⟨xs, h3, h4, h5⟩ := all2_enc t
    refine ⟨x :: xs, by rw [List.map_cons, h1, h3], by rw [List.length_cons, List.length_cons, h4], fun y hy => ?_⟩
    rcases List.mem_cons.mp hy with q | q
    · rw [q]; exact h2
    · exact h5 y q
/-- a comprehension whose pieces are drawn -/
theorem lc_draw {α : Type} {e : α → PyData} {ok : α → Prop} {g : WG} {te : WE} {ρ : Env'} {ds : List PyData} {P : PyData → Prop} (h : ∀ d ∈ ds, ∀ Q : PyData → Prop, (∀ x, ok x → Q (e x)) → g d ρ fun ρ1 => te ρ1 Q) (hl : ds.length ≤ lim) (hP : ∀ xs : List α, xs.length = ds.length → (∀ x ∈ xs, ok x) → P (.list (xs.map e))) : wLc g tTrue te ρ ds [] P := by
  refine lc_rel (fun _ y => ∃ x, y = e x ∧ ok x) ds [] P (fun d hd Q hQ => h d hd Q fun x hx => hQ _ ⟨x, rfl, hx⟩) (by rw [List.length_nil]; omega) fun ys hy => ?_
  obtain ⟨xs, rfl, h2, h3⟩ := all2_enc hy
  rw [List.nil_append]
  exact hP xs h2 h3
def RowOk (s m : Nat) (r : List (Nat × Nat)) : Prop := r.length = s ∧ ∀ p ∈ r, p.1 < s ∧ p.2 < m
theorem kd_of {s m : Nat} {k : Kn} (h1 : 1 ≤ s) (h2 : s ≤ 4) (h3 : 1 ≤ m) (h4 : m ≤ 4) (hl : k.length = m) (hr : ∀ r ∈ k, RowOk s m r) : Kd k ∧ sets k = s := by
  have e : sets k = s := by
    cases k with
    | nil => rw [List.length_nil] at hl; omega
    | cons r rs => exact (hr r List.mem_cons_self).1
  refine ⟨⟨by omega, by omega, by omega, by omega, fun r q => by rw [e]; exact (hr r q).1, fun r q p hp => ?_⟩, e⟩
  rw [e, hl]
  exact (hr r q).2 p hp
theorem len_nums (n : Nat) : (nums n).length = n := by simp [nums]
theorem nums_at {n i : Nat} {d : PyData} {ds : List PyData} (h : d :: ds = (nums n).drop i) : i < n ∧ ds = (nums n).drop (i + 1) ∧ d = nD i := by
  have hlt : i < n := by
    have := congrArg List.length h
    simp [nums] at this
    omega
  rw [List.drop_eq_getElem_cons (by simpa [nums] using hlt)] at h
  obtain ⟨h1, h2⟩ := List.cons.inj h
  refine ⟨hlt, h2, ?_⟩
  rw [h1]
  simp [nums, nD]
theorem nums_end {n i : Nat} (h : [] = (nums n).drop i) (hi : i ≤ n) : i = n := by
  have := congrArg List.length h
  simp [nums] at this
  omega
theorem erase_map {α β : Type} (f : α → β) : ∀ (l : List α) (j : Nat), (l.map f).eraseIdx j = (l.eraseIdx j).map f
  | [], _ => rfl
  | _ :: _, 0 => rfl
  | x :: l, j + 1 => by
    rw [List.map_cons, List.eraseIdx_cons_succ, List.eraseIdx_cons_succ, List.map_cons, erase_map f l j]
theorem row_one (rows : Kn) (r : List (Nat × Nat)) : PyData.tuple (rows.map rowD ++ [rowD r]) = .tuple ((rows ++ [r]).map rowD) := by rw [List.map_append]; rfl
section
variable {P : Program} {w : World} {K : PySem.W.Frag} {mg : Str → Option Value} {base : Heap}
def p_roll : FL := fun ds Q => ∃ n : Nat, ds = [nD n] ∧ 1 ≤ n ∧ n ≤ 1000 ∧ ∀ r, r < n → Q (nD r)
theorem ok43 (T : Txt K mg) : FnOk P w K mg base CX0 1 T.f43 T.fd43 ["_law_cup_here", "_law_many"] (spC p_roll) :=
  okC T.d43.fn sc43 (fun ds Q ⟨_, h, _⟩ => by rw [h]; rfl) fun z cdv A outer s H E hr => ⟨_,
    (js_cons (js_if (jt_cmpR op_gt ho_gt (je_cup0 (pv 0)) je_int (nomark _)) (js_cons (js_set (i := 2) sc43.nd rfl (.inl rfl) (je_op op_mod ho_mod (je_callTy call_int1 hoL_int (by rfl) T.b_int (by decide +kernel) (ja_cons (je_cup0 (pv 0)) ja_nil)) (je_var _ (pv 1))))
      (js_cons (js_cup0 (pv 0) (je_op op_fdiv ho_div (je_cup0 (pv 0)) (je_var _ (pv 1))))
      (js_one (js_ret (je_var _ (pv 2)))))) js_nil)
      (js_cons (js_cup1 (pv 0) (je_op op_mod ho_mod (je_callTy call_int1 hoL_int (by rfl) T.b_int (by decide +kernel) (ja_cons (je_op op_addA ho_add (je_op op_mulA ho_mul (je_cup1 (pv 0)) je_int) je_int) ja_nil)) je_int))
      (js_cons (js_set (i := 3) sc43.nd rfl (.inl rfl) (je_op op_mod ho_mod (je_callTy call_int1 hoL_int (by rfl) T.b_int (by decide +kernel) (ja_cons (je_op op_mulA ho_mul (je_cup1 (pv 0)) (je_op op_addA ho_add (je_cup1 (pv 0)) je_int)) ja_nil)) je_int))
      (js_one (js_ret (je_op op_mod ho_mod (je_callTy call_int1 hoL_int (by rfl) T.b_int (by decide +kernel) (ja_cons (je_op op_fdiv ho_div (je_var _ (pv 3)) je_int) ja_nil)) (je_var _ (pv 1)))))))),
    fun ds Q ⟨n, e, h1, h2, h⟩ => by
      subst e
      have rem : ∀ a : Int, Q (.int (a % (n : Int))) := fun a => by
        have b1 := Int.emod_nonneg a (show (n : Int) ≠ 0 by omega)
        have b2 := Int.emod_lt_of_pos a (show (0 : Int) < n by omega)
        have := h (a % (n : Int)).toNat (by omega)
        unfold nD at this
        rw [Int.toNat_of_nonneg b1] at this
        exact this
      refine ⟨rfl, fun a ha => ?_⟩
      refine (show (if decide ((0 : Int) < a) = true then _ else _) from ?_)
      by_cases hp : 0 < a
      · rw [if_pos (decide_eq_true hp)]
        refine ⟨rfl, fun a2 ha2 => ⟨_, rfl, by omega, ?_⟩⟩
        refine ⟨rfl, rfl, fun a3 ha3 => ⟨_, rfl, ⟨by omega, by omega⟩, _, rfl, Int.ediv_nonneg ha3 (by omega), (fun q => by cases q), ?_⟩⟩
        exact ⟨_, rfl, rem a2⟩
      · rw [if_neg (fun q => hp (of_decide_eq_true q))]
        refine ⟨rfl, rfl, fun b hb1 hb2 => ⟨.inl ⟨by omega, by omega⟩, by decide, _, rfl, Int.emod_nonneg _ (by decide), fun _ => ?_, ?_⟩⟩
        · have := Int.emod_lt_of_pos (b * 30937 + 7907) (show (0 : Int) < 2147483477 by decide)
          omega
        · refine ⟨rfl, fun b2 hb3 hb4 => ⟨rfl, fun b3 hb5 hb6 => ⟨.inl ⟨by omega, by omega⟩, by decide, ?_⟩⟩⟩
          exact ⟨_, rfl, ⟨by decide, by decide⟩, _, rfl, by omega, rem _⟩⟩
def p_some : FL := fun ds Q => ∃ xs : List PyData, ds = [.list xs] ∧ 1 ≤ xs.length ∧ xs.length ≤ 1000 ∧ ∀ d ∈ xs, Q d
theorem ok44 (T : Txt K mg) : FnOk P w K mg base CX0 2 T.f44 T.fd44 ["_law_cup_here", "_law_things"] (spC p_some) :=
  have G43 := ok43 (P := P) (w := w) (base := base) T
  okC T.d44.fn sc44 (fun ds Q ⟨_, h, _⟩ => by rw [h]; rfl) fun z cdv A outer s H E hr => ⟨_,
    (js_one (js_ret (je_ix (je_var _ (pv 1)) (je_callC G43 (hr.mono (by decide)) (by rfl) T.d43.gl T.d43.fn.kp T.d43.bi (pv 0) (ja_cons (je_callB call_len_seq hoL_len (by rfl) T.b_len (by decide +kernel) (ja_cons (je_var _ (pv 1)) ja_nil)) ja_nil))))),
    fun ds Q ⟨xs, e, h1, h2, h⟩ => by
      subst e
      refine ⟨_, rfl, rfl, _, rfl, xs.length, rfl, h1, h2, fun r hr => ?_⟩
      exact ⟨xs[r], atI_nat (List.getElem?_eq_getElem hr), h _ (List.getElem_mem hr)⟩⟩
def p_order : FL := fun ds Q => ∃ n : Nat, ds = [nD n] ∧ 1 ≤ n ∧ n ≤ 1000 ∧ ∀ l : List Nat, l.length = n → Lt n l → Q (tD l)
theorem ok49 (T : Txt K mg) : FnOk P w K mg base CX0 2 T.f49 T.fd49 ["_law_cup_here", "_law_many"] (spC p_order) :=
  have G43 := ok43 (P := P) (w := w) (base := base) T
  okC T.d49.fn sc49 (fun ds Q ⟨_, h, _⟩ => by rw [h]; rfl) fun z cdv A outer s H E hr => ⟨_,
    (js_cons (js_parO (i := 2) (j := 3) rfl sc49.nd rfl rfl (by decide) rfl rfl (jo_range rfl (by rfl) T.b_list (by rfl) T.b_range (je_var _ (pv 1))) (je_tup ja_nil) (by rfl))
      (js_cons (js_forR PassesOwn.never rfl (by rfl) T.b_range (ja_cons (je_var _ (pv 1)) ja_nil) (jg_name (i := 4) sc49.nd rfl (.inl rfl)) (js_one (js_popAdd (iF := 3) (iL := 2) sc49.nd rfl (.inl rfl) (pv 3) (pv 2) (je_callC G43 (hr.mono (by decide)) (by rfl) T.d43.gl T.d43.fn.kp T.d43.bi (pv 0) (ja_cons (je_lenO (pv 2) (by rfl) T.b_len) ja_nil)))))
      (js_one (js_ret (je_var _ (pv 3)))))),
    fun ds Q ⟨n, e, h1, h2, h⟩ => by
      subst e
      refine ⟨_, rfl, n, rfl, h2, small (by decide), ?_⟩
      refine ⟨_, rfl, by omega, by show (n : Int) ≤ (10000000 : Nat); omega, ?_⟩
      rw [Int.toNat_natCast]
      refine sLoop_ind (fun rest ρ => ∃ i l f x4, i ≤ n ∧ rest = (nums n).drop i ∧ ρ = [some .cup, some (.d (nD n)), some (.own (l.map nD)), some (.d (tD f)), x4] ∧ l.length + i = n ∧ f.length = i ∧ Lt n l ∧ Lt n f) ?_ ?_ _ _ ⟨0, List.range n, [], none, by omega, rfl, rfl, by simp, rfl, fun a ha => List.mem_range.mp ha, fun a ha => by cases ha⟩
      · rintro ρ ⟨i, l, f, x4, hi, e1, rfl, h3, h4, h5, h6⟩
        have := nums_end e1 hi
        exact ⟨_, rfl, h f (by omega) h6⟩
      · rintro d ds ρ ⟨i, l, f, x4, hi, e1, rfl, h3, h4, h5, h6⟩ K hK
        obtain ⟨hlt, rfl, rfl⟩ := nums_at e1
        refine ⟨f.map nD, l.map nD, rfl, rfl, ?_⟩
        refine ⟨rfl, l.map nD, rfl, l.length, by rw [List.length_map], by omega, by omega, fun r hr => ?_⟩
        have hg : l[r]? = some l[r] := List.getElem?_eq_getElem hr
        refine ⟨r, nD l[r], rfl, by omega, by rw [List.getElem?_map, hg]; rfl, by rw [List.length_map]; exact small (by omega), ?_⟩
        refine hK _ ⟨i + 1, l.eraseIdx r, f ++ [l[r]], some (.d (nD i)), hlt, rfl, ?_, by rw [List.length_eraseIdx_of_lt hr]; omega, by rw [List.length_append, List.length_singleton]; omega, fun a ha => h5 a (List.mem_of_mem_eraseIdx ha), fun a ha => ?_⟩
        · rw [← app_rt, ← erase_map]; rfl
        · rcases List.mem_append.mp ha with q | q
          · exact h6 a q
          · simp at q; rw [q]; exact h5 _ (List.getElem_mem hr)⟩
def p_kindSM : FL := fun ds Q => ∃ s m : Nat, ds = [nD s, nD m] ∧ 1 ≤ s ∧ s ≤ 4 ∧ 1 ≤ m ∧ m ≤ 4 ∧ ∀ k, Kd k → sets k = s → k.length = m → Q (kD k)
theorem ok50 (T : Txt K mg) : FnOk P w K mg base CX0 2 T.f50 T.fd50 ["_law_cup_here", "_law_settings", "_law_sorts"] (spC p_kindSM) :=
  have G43 := ok43 (P := P) (w := w) (base := base) T
  okC T.d50.fn sc50 (fun ds Q ⟨_, _, h, _⟩ => by rw [h]; rfl) fun z cdv A outer s H E hr => ⟨_,
    (js_cons (js_setLcR (i := 3) (own := [("_law_sort", 4)]) rfl sc50.nd rfl rfl (sw_true rfl rfl rfl (by decide +kernel)) (by rfl) T.b_range (ja_cons (je_var _ (pv 2)) ja_nil) (blkOk_by (by rfl)) (fun _ _ _ _ _ => (jg_name (i := 4) sc50.nd rfl (.inl rfl))) (fun _ _ _ _ _ => jts_nil) (fun _ _ _ _ _ => (je_callTy call_tuple_of hoL_tuple (by rfl) T.b_tuple (by decide +kernel) (ja_cons (je_lcR (own := [("_law_setting", 5)]) rfl sc50.nd (by rfl) T.b_range (ja_cons (je_var _ (pv 1)) ja_nil) (blkOk_by (by rfl)) (fun _ _ _ _ _ => (jg_name (i := 5) sc50.nd rfl (.inl rfl))) (fun _ _ _ _ _ => jts_nil) (fun _ _ _ _ _ => (je_tup (ja_cons (je_callC G43 (hr.mono (by decide)) (by rfl) T.d43.gl T.d43.fn.kp T.d43.bi (pv 0) (ja_cons (je_var _ (pv 1)) ja_nil)) (ja_cons (je_callC G43 (hr.mono (by decide)) (by rfl) T.d43.gl T.d43.fn.kp T.d43.bi (pv 0) (ja_cons (je_var _ (pv 2)) ja_nil)) ja_nil))))) ja_nil))))
      (js_one (js_ret (je_callTy call_tuple_of hoL_tuple (by rfl) T.b_tuple (by decide +kernel) (ja_cons (je_var _ (pv 3)) ja_nil))))),
    fun ds Q ⟨s, m, e, h1, h2, h3, h4, h⟩ => by
      subst e
      refine ⟨_, rfl, by omega, by show (m : Int) ≤ (10000000 : Nat); omega, ?_⟩
      rw [Int.toNat_natCast]
      refine lc_draw (e := rowD) (ok := RowOk s m) (fun d hd Q hQ => ?_) (by rw [len_nums]; exact small (by omega)) fun rows hl hrows => ?_
      · refine ⟨_, rfl, by omega, by show (s : Int) ≤ (10000000 : Nat); omega, ?_⟩
        rw [Int.toNat_natCast]
        refine lc_draw (e := pD) (ok := fun p => p.1 < s ∧ p.2 < m) (fun d hd Q hQ => ?_) (by rw [len_nums]; exact small (by omega)) fun ps hl hps => ?_
        · exact ⟨rfl, _, rfl, s, rfl, h1, by omega, fun a ha => ⟨rfl, _, rfl, m, rfl, h3, by omega, fun b hb => ⟨by show 2 ≤ lim; decide, hQ (a, b) ⟨ha, hb⟩⟩⟩⟩
        · rw [len_nums] at hl
          exact hQ ps ⟨hl, hps⟩
      · rw [len_nums] at hl
        obtain ⟨k1, k2⟩ := kd_of h1 h2 h3 h4 hl hrows
        exact ⟨_, rfl, h rows k1 k2 hl⟩⟩
theorem ok51 (T : Txt K mg) : FnOk P w K mg base CX0 3 T.f51 T.fd51 ["_law_cup_here", "_law_settings", "_law_sorts"] (spC p_kindSM) :=
  have G43 := ok43 (P := P) (w := w) (base := base) T
  have G49 := ok49 (P := P) (w := w) (base := base) T
  okC T.d51.fn sc51 (fun ds Q ⟨_, _, h, _⟩ => by rw [h]; rfl) fun z cdv A outer s H E hr => ⟨_,
    (js_cons (js_set (i := 3) sc51.nd rfl (.inl rfl) (je_tup ja_nil))
      (js_cons (js_forR PassesOwn.never rfl (by rfl) T.b_range (ja_cons (je_var _ (pv 2)) ja_nil) (jg_name (i := 4) sc51.nd rfl (.inl rfl)) (js_cons (js_set (i := 5) sc51.nd rfl (.inl rfl) (je_callC G49 (hr.mono (by decide)) (by rfl) T.d49.gl T.d49.fn.kp T.d49.bi (pv 0) (ja_cons (je_var _ (pv 1)) ja_nil)))
      (js_one (js_set (i := 3) sc51.nd rfl (.inl rfl) (je_op op_addA ho_add (je_var _ (pv 3)) (je_tup (ja_cons (je_callTy call_tuple_of hoL_tuple (by rfl) T.b_tuple (by decide +kernel) (ja_cons (je_lcT (own := [("_law_left", 6)]) rfl sc51.nd (je_var _ (pv 5)) (blkOk_by (by rfl)) (fun _ _ _ _ _ => (jg_name (i := 6) sc51.nd rfl (.inl rfl))) (fun _ _ _ _ _ => jts_nil) (fun _ _ _ _ _ => (je_tup (ja_cons (je_var _ (pv 6)) (ja_cons (je_callC G43 (hr.mono (by decide)) (by rfl) T.d43.gl T.d43.fn.kp T.d43.bi (pv 0) (ja_cons (je_var _ (pv 2)) ja_nil)) ja_nil))))) ja_nil)) ja_nil)))))))
      (js_one (js_ret (je_var _ (pv 3)))))),
    fun ds Q ⟨s, m, e, h1, h2, h3, h4, h⟩ => by
      subst e
      refine ⟨small (by decide), ?_⟩
      refine ⟨_, rfl, by omega, by show (m : Int) ≤ (10000000 : Nat); omega, ?_⟩
      rw [Int.toNat_natCast]
      refine sLoop_ind (fun rest ρ => ∃ (i : Nat) (rows : Kn) (x4 x5 x6 : Option En), i ≤ m ∧ rest = (nums m).drop i ∧ ρ = [some .cup, some (.d (nD s)), some (.d (nD m)), some (.d (.tuple (rows.map rowD))), x4, x5, x6] ∧ rows.length = i ∧ ∀ r ∈ rows, RowOk s m r) ?_ ?_ _ _ ⟨0, [], none, none, none, by omega, rfl, rfl, rfl, fun r hr => by cases hr⟩
      · rintro ρ ⟨i, rows, x4, x5, x6, hi, e1, rfl, hl, hrows⟩
        have := nums_end e1 hi
        subst this
        obtain ⟨k1, k2⟩ := kd_of h1 h2 h3 h4 hl hrows
        exact ⟨_, rfl, h rows k1 k2 hl⟩
      · rintro d ds ρ ⟨i, rows, x4, x5, x6, hi, e1, rfl, hl, hrows⟩ K hK
        obtain ⟨hlt, rfl, rfl⟩ := nums_at e1
        refine ⟨rfl, _, rfl, s, rfl, h1, by omega, fun l hl1 hl2 => ?_⟩
        refine ⟨_, rfl, _, rfl, ?_⟩
        refine lc_rel (fun d y => ∃ p : Nat × Nat, y = pD p ∧ p.1 < s ∧ p.2 < m) _ [] _ (fun d hd Q hQ => ?_) (by rw [List.length_nil, List.length_map]; exact small (by omega)) fun ys hy => ?_
        · obtain ⟨a, ha, rfl⟩ := List.mem_map.mp hd
          exact ⟨_, rfl, rfl, _, rfl, m, rfl, h3, by omega, fun b hb => ⟨by show 2 ≤ lim; decide, hQ _ ⟨(a, b), rfl, hl2 a ha, hb⟩⟩⟩
        · obtain ⟨ps, rfl, h7, h8⟩ := all2_enc hy
          rw [List.length_map] at h7
          refine ⟨by show 1 ≤ lim; decide, by rw [List.length_map, List.length_singleton]; exact small (by omega), ?_⟩
          refine hK _ ⟨i + 1, rows ++ [ps], some (.d (nD i)), some (.d (tD l)), x6, hlt, rfl, ?_, by rw [List.length_append, List.length_singleton]; omega, fun r hr => ?_⟩
          · rw [← row_one]; rfl
          · rcases List.mem_append.mp hr with q | q
            · exact hrows r q
            · simp at q; rw [q]; exact ⟨by omega, h8⟩⟩
theorem turn_nat {s : Nat} (hs : 1 ≤ s) {d : PyData} (h : d ∈ [PyData.int 0, .int 1, .int 1, .int 1, .int 2, .int ((s : Int) - 1)]) : ∃ t : Nat, d = nD t := by
  simp only [List.mem_cons, List.not_mem_nil, or_false] at h
  rcases h with rfl | rfl | rfl | rfl | rfl | rfl
  · exact ⟨0, rfl⟩
  · exact ⟨1, rfl⟩
  · exact ⟨1, rfl⟩
  · exact ⟨1, rfl⟩
  · exact ⟨2, rfl⟩
  · exact ⟨s - 1, by unfold nD; congr 1; omega⟩
theorem ok52 (T : Txt K mg) : FnOk P w K mg base CX0 3 T.f52 T.fd52 ["_law_cup_here", "_law_settings", "_law_sorts"] (spC p_kindSM) :=
  have G43 := ok43 (P := P) (w := w) (base := base) T
  have G44 := ok44 (P := P) (w := w) (base := base) T
  okC T.d52.fn sc52 (fun ds Q ⟨_, _, h, _⟩ => by rw [h]; rfl) fun z cdv A outer s H E hr => ⟨_,
    (js_cons (js_set (i := 3) sc52.nd rfl (.inl rfl) (je_tup ja_nil))
      (js_cons (js_forR PassesOwn.never rfl (by rfl) T.b_range (ja_cons (je_var _ (pv 2)) ja_nil) (jg_name (i := 4) sc52.nd rfl (.inl rfl)) (js_cons (js_set (i := 5) sc52.nd rfl (.inr rfl) (je_callC G44 (hr.mono (by decide)) (by rfl) T.d44.gl T.d44.fn.kp T.d44.bi (pv 0) (ja_cons (je_lst (ja_cons je_int (ja_cons je_int (ja_cons je_int (ja_cons je_int (ja_cons je_int (ja_cons (je_op op_sub ho_sub (je_var _ (pv 1)) je_int) ja_nil))))))) ja_nil)))
      (js_one (js_set (i := 3) sc52.nd rfl (.inl rfl) (je_op op_addA ho_add (je_var _ (pv 3)) (je_tup (ja_cons (je_callTy call_tuple_of hoL_tuple (by rfl) T.b_tuple (by decide +kernel) (ja_cons (je_lcR (own := [("_law_setting", 6)]) rfl sc52.nd (by rfl) T.b_range (ja_cons (je_var _ (pv 1)) ja_nil) (blkOk_by (by rfl)) (fun _ _ _ _ _ => (jg_name (i := 6) sc52.nd rfl (.inl rfl))) (fun _ _ _ _ _ => jts_nil) (fun _ _ _ _ _ => (je_tup (ja_cons (je_op op_mod ho_mod (je_callTy call_int1 hoL_int (by rfl) T.b_int (by decide +kernel) (ja_cons (je_op op_addA ho_add (je_var _ (pv 6)) (je_var _ (pv 5))) ja_nil)) (je_var _ (pv 1))) (ja_cons (je_callC G43 (hr.mono (by decide)) (by rfl) T.d43.gl T.d43.fn.kp T.d43.bi (pv 0) (ja_cons (je_var _ (pv 2)) ja_nil)) ja_nil))))) ja_nil)) ja_nil)))))))
      (js_one (js_ret (je_var _ (pv 3)))))),
    fun ds Q ⟨s, m, e, h1, h2, h3, h4, h⟩ => by
      subst e
      refine ⟨small (by decide), ?_⟩
      refine ⟨_, rfl, by omega, by show (m : Int) ≤ (10000000 : Nat); omega, ?_⟩
      rw [Int.toNat_natCast]
      refine sLoop_ind (fun rest ρ => ∃ (i : Nat) (rows : Kn) (x4 x5 x6 : Option En), i ≤ m ∧ rest = (nums m).drop i ∧ ρ = [some .cup, some (.d (nD s)), some (.d (nD m)), some (.d (.tuple (rows.map rowD))), x4, x5, x6] ∧ rows.length = i ∧ ∀ r ∈ rows, RowOk s m r) ?_ ?_ _ _ ⟨0, [], none, none, none, by omega, rfl, rfl, rfl, fun r hr => by cases hr⟩
      · rintro ρ ⟨i, rows, x4, x5, x6, hi, e1, rfl, hl, hrows⟩
        have := nums_end e1 hi
        subst this
        obtain ⟨k1, k2⟩ := kd_of h1 h2 h3 h4 hl hrows
        exact ⟨_, rfl, h rows k1 k2 hl⟩
      · rintro d ds ρ ⟨i, rows, x4, x5, x6, hi, e1, rfl, hl, hrows⟩ K hK
        obtain ⟨hlt, rfl, rfl⟩ := nums_at e1
        refine ⟨rfl, _, rfl, by show 6 ≤ lim; decide, _, rfl, by show 1 ≤ 6; decide, by show 6 ≤ 1000; decide, fun d hd => ?_⟩
        obtain ⟨t, rfl⟩ := turn_nat h1 hd
        refine ⟨_, rfl, _, rfl, by omega, by show (s : Int) ≤ (10000000 : Nat); omega, ?_⟩
        rw [Int.toNat_natCast]
        refine lc_draw (e := pD) (ok := fun p => p.1 < s ∧ p.2 < m) (fun d hd Q hQ => ?_) (by rw [len_nums]; exact small (by omega)) fun ps hl7 h8 => ?_
        · obtain ⟨j, hj, rfl⟩ := List.mem_map.mp (show d ∈ (List.range s).map nD from hd)
          refine ⟨_, rfl, _, rfl, _, rfl, by omega, rfl, _, rfl, m, rfl, h3, by omega, fun b hb => ⟨by show 2 ≤ lim; decide, ?_⟩⟩
          have q := hQ (((j + t) % s), b) ⟨Nat.mod_lt _ (by omega), hb⟩
          unfold pD nD at q
          push_cast at q
          exact q
        · rw [len_nums] at hl7
          refine ⟨by show 1 ≤ lim; decide, by rw [List.length_map, List.length_singleton]; exact small (by omega), ?_⟩
          refine hK _ ⟨i + 1, rows ++ [ps], some (.d (nD i)), some (.d (nD t)), x6, hlt, rfl, ?_, by rw [List.length_append, List.length_singleton]; omega, fun r hr => ?_⟩
          · rw [← row_one]; rfl
          · rcases List.mem_append.mp hr with q | q
            · exact hrows r q
            · simp at q; rw [q]; exact ⟨hl7, h8⟩⟩
end
end Lr
namespace Lr
open PySem PySem.Spec PyProof.Rows L2
theorem pair_one (ps : List (Nat × Nat)) (p : Nat × Nat) : PyData.tuple (ps.map pD ++ [pD p]) = rowD (ps ++ [p]) := by unfold rowD; rw [List.map_append]; rfl
theorem eq_int (i j : Int) : PyData.eqv (.int i) (.int j) = decide (i = j) := by
  show (i == j) = _
  rw [Bool.beq_eq_decide_eq]
/-- the kinds by hand -/
def knownL : List Kn := [upK, [[(1, 0), (0, 0)]], [[(0, 0), (0, 0)], [(1, 1), (0, 0)]], [[(0, 0), (0, 1)], [(1, 0), (1, 1)]], [[(1, 1), (2, 1), (0, 0)], [(0, 1), (1, 1), (2, 1)]], [[(0, 0)]], [[(1, 1), (0, 1)], [(0, 0), (1, 0)]]]
instance (k : Kn) : Decidable (Kd k) := decidable_of_iff (1 ≤ k.length ∧ k.length ≤ 6 ∧ 1 ≤ sets k ∧ sets k ≤ 6 ∧ (∀ r ∈ k, r.length = sets k) ∧ ∀ r ∈ k, ∀ p ∈ r, p.1 < sets k ∧ p.2 < k.length) ⟨fun ⟨a, b, c, d, e, f⟩ => ⟨a, b, c, d, e, f⟩, fun ⟨a, b, c, d, e, f⟩ => ⟨a, b, c, d, e, f⟩⟩
theorem known_ok : ∀ k ∈ knownL, Kd k ∧ sets k ≤ 4 ∧ k.length ≤ 4 := by decide +kernel
section
variable {P : Program} {w : World} {K : PySem.W.Frag} {mg : Str → Option Value} {base : Heap}
theorem ok53 (T : Txt K mg) : FnOk P w K mg base CX0 2 T.f53 T.fd53 ["_law_cup_here", "_law_settings", "_law_sorts"] (spC p_kindSM) :=
  have G43 := ok43 (P := P) (w := w) (base := base) T
  okC T.d53.fn sc53 (fun ds Q ⟨_, _, h, _⟩ => by rw [h]; rfl) fun z cdv A outer s H E hr => ⟨_,
    (js_cons (js_set (i := 3) sc53.nd rfl (.inl rfl) (je_tup ja_nil))
      (js_cons (js_forR PassesOwn.never rfl (by rfl) T.b_range (ja_cons (je_op op_sub ho_sub (je_var _ (pv 2)) je_int) ja_nil) (jg_name (i := 4) sc53.nd rfl (.inl rfl)) (js_cons (js_set (i := 5) sc53.nd rfl (.inl rfl) (je_tup ja_nil))
      (js_cons (js_forR PassesOwn.never rfl (by rfl) T.b_range (ja_cons (je_var _ (pv 1)) ja_nil) (jg_name (i := 6) sc53.nd rfl (.inl rfl)) (js_cons (js_set (i := 7) sc53.nd rfl (.inl rfl) (je_if (jt_cmpR (op_eqD hr.units) ho_eq (je_callC G43 (hr.mono (by decide)) (by rfl) T.d43.gl T.d43.fn.kp T.d43.bi (pv 0) (ja_cons je_int ja_nil)) je_int (nomark _)) (je_op op_sub ho_sub (je_var _ (pv 2)) je_int) (je_callC G43 (hr.mono (by decide)) (by rfl) T.d43.gl T.d43.fn.kp T.d43.bi (pv 0) (ja_cons (je_var _ (pv 2)) ja_nil))))
      (js_one (js_set (i := 5) sc53.nd rfl (.inl rfl) (je_op op_addA ho_add (je_var _ (pv 5)) (je_tup (ja_cons (je_tup (ja_cons (je_callC G43 (hr.mono (by decide)) (by rfl) T.d43.gl T.d43.fn.kp T.d43.bi (pv 0) (ja_cons (je_var _ (pv 1)) ja_nil)) (ja_cons (je_var _ (pv 7)) ja_nil))) ja_nil)))))))
      (js_one (js_set (i := 3) sc53.nd rfl (.inl rfl) (je_op op_addA ho_add (je_var _ (pv 3)) (je_tup (ja_cons (je_var _ (pv 5)) ja_nil))))))))
      (js_one (js_ret (je_op op_addA ho_add (je_var _ (pv 3)) (je_tup (ja_cons (je_callTy call_tuple_of hoL_tuple (by rfl) T.b_tuple (by decide +kernel) (ja_cons (je_lcR (own := [("_law_setting", 6)]) rfl sc53.nd (by rfl) T.b_range (ja_cons (je_var _ (pv 1)) ja_nil) (blkOk_by (by rfl)) (fun _ _ _ _ _ => (jg_name (i := 6) sc53.nd rfl (.inl rfl))) (fun _ _ _ _ _ => jts_nil) (fun _ _ _ _ _ => (je_tup (ja_cons (je_var _ (pv 6)) (ja_cons (je_op op_sub ho_sub (je_var _ (pv 2)) je_int) ja_nil))))) ja_nil)) ja_nil))))))),
    fun ds Q ⟨s, m, e, h1, h2, h3, h4, h⟩ => by
      subst e
      refine ⟨small (by decide), ?_⟩
      refine ⟨_, rfl, by show (0 : Int) ≤ (m : Int) - 1; omega, by show ((m : Int) - 1) ≤ (10000000 : Nat); omega, ?_⟩
      have em : Int.toNat ((m : Int) - 1) = m - 1 := by omega
      rw [em]
      refine sLoop_ind (fun rest ρ => ∃ (i : Nat) (rows : Kn) (x4 x5 x6 x7 : Option En), i ≤ m - 1 ∧ rest = (nums (m - 1)).drop i ∧ ρ = [some .cup, some (.d (nD s)), some (.d (nD m)), some (.d (.tuple (rows.map rowD))), x4, x5, x6, x7] ∧ rows.length = i ∧ ∀ r ∈ rows, RowOk s m r) ?_ ?_ _ _ ⟨0, [], none, none, none, none, by omega, rfl, rfl, rfl, fun r hr => by cases hr⟩
      · rintro ρ ⟨i, rows, x4, x5, x6, x7, hi, e1, rfl, hl, hrows⟩
        have := nums_end e1 hi
        refine ⟨_, rfl, _, rfl, by omega, by show (s : Int) ≤ (10000000 : Nat); omega, ?_⟩
        rw [Int.toNat_natCast]
        refine lc_enc (e := nD) (fun a => pD (a, m - 1)) (List.range s) [] _ (fun a ha Q hQ => ?_) (by rw [List.length_nil, List.length_range]; exact small (by omega)) ?_
        · refine ⟨_, rfl, _, rfl, by show 2 ≤ lim; decide, ?_⟩
          have : ((m - 1 : Nat) : Int) = (m : Int) - 1 := by omega
          unfold pD nD at hQ
          rw [this] at hQ
          exact hQ
        · refine ⟨by show 1 ≤ lim; decide, by rw [List.length_map, List.length_singleton]; exact small (by omega), ?_⟩
          have e2 : PyData.tuple (([] : List PyData) ++ (List.range s).map fun a => pD (a, m - 1)) = rowD ((List.range s).map fun a => (a, m - 1)) := by
            unfold rowD
            rw [List.nil_append, List.map_map]; rfl
          rw [e2, row_one]
          have hl2 : (rows ++ [(List.range s).map fun a => (a, m - 1)]).length = m := by rw [List.length_append, List.length_singleton]; omega
          obtain ⟨k1, k2⟩ := kd_of h1 h2 h3 h4 hl2 fun r hr => by
            rcases List.mem_append.mp hr with q | q
            · exact hrows r q
            · simp at q; subst q
              refine ⟨by simp, fun p hp => ?_⟩
              obtain ⟨a, ha, rfl⟩ := List.mem_map.mp hp
              exact ⟨List.mem_range.mp ha, by show m - 1 < m; omega⟩
          exact h _ k1 k2 hl2
      · rintro d ds ρ ⟨i, rows, x4, x5, x6, x7, hi, e1, rfl, hl, hrows⟩ K hK
        obtain ⟨hlt, rfl, rfl⟩ := nums_at e1
        refine ⟨small (by decide), ?_⟩
        refine ⟨_, rfl, by omega, by show (s : Int) ≤ (10000000 : Nat); omega, ?_⟩
        rw [Int.toNat_natCast]
        refine sLoop_ind (fun rest ρ => ∃ (j : Nat) (ps : List (Nat × Nat)) (y6 y7 : Option En), j ≤ s ∧ rest = (nums s).drop j ∧ ρ = [some .cup, some (.d (nD s)), some (.d (nD m)), some (.d (.tuple (rows.map rowD))), some (.d (nD i)), some (.d (rowD ps)), y6, y7] ∧ ps.length = j ∧ ∀ p ∈ ps, p.1 < s ∧ p.2 < m) ?_ ?_ _ _ ⟨0, [], x6, x7, by omega, rfl, rfl, rfl, fun r hr => by cases hr⟩
        · rintro ρ ⟨j, ps, y6, y7, hj, e2, rfl, hl2, hps⟩
          have := nums_end e2 hj
          refine ⟨_, rfl, _, rfl, by show 1 ≤ lim; decide, by rw [List.length_map, List.length_singleton]; exact small (by omega), ?_⟩
          refine hK _ ⟨i + 1, rows ++ [ps], some (.d (nD i)), some (.d (rowD ps)), y6, y7, hlt, rfl, ?_, by rw [List.length_append, List.length_singleton]; omega, fun r hr => ?_⟩
          · rw [← row_one]; rfl
          · rcases List.mem_append.mp hr with q | q
            · exact hrows r q
            · simp at q; rw [q]; exact ⟨by omega, hps⟩
        · rintro d ds ρ ⟨j, ps, y6, y7, hj, e2, rfl, hl2, hps⟩ K2 hK2
          obtain ⟨hlt2, rfl, rfl⟩ := nums_at e2
          have fin : ∀ b : Nat, b < m → ∀ a : Nat, a < s → K2 [some .cup, some (.d (nD s)), some (.d (nD m)), some (.d (.tuple (rows.map rowD))), some (.d (nD i)), some (.d (.tuple (ps.map pD ++ [pD (a, b)]))), some (.d (nD j)), some (.d (nD b))] := fun b hb a ha => by
            rw [pair_one]
            exact hK2 _ ⟨j + 1, ps ++ [(a, b)], some (.d (nD j)), some (.d (nD b)), hlt2, rfl, rfl, by rw [List.length_append, List.length_singleton]; omega, fun p hp => by
              rcases List.mem_append.mp hp with q | q
              · exact hps p q
              · simp at q; subst q; exact ⟨ha, hb⟩⟩
          have put : ∀ b : Nat, b < m → ∀ a, a < s → ps.length + 1 ≤ lim := fun _ _ _ _ => small (by omega)
          refine ⟨rfl, 2, rfl, by decide, by decide, fun r hr => ⟨sh_int _, sh_int _, ?_⟩⟩
          rw [show PyData.eqv (nD r) (.int 0) = decide ((r : Int) = 0) from eq_int _ _]
          by_cases hr0 : (r : Int) = 0
          · rw [decide_eq_true hr0]
            refine (show (if true = true then _ else _) from ?_)
            rw [if_pos rfl]
            refine ⟨_, rfl, ?_⟩
            have e3 : ((m : Int) - 1) = ((m - 1 : Nat) : Int) := by omega
            refine ⟨_, rfl, rfl, _, rfl, s, rfl, h1, by omega, fun a ha => ⟨_, rfl, by show 2 ≤ lim; decide, by show 1 ≤ lim; decide, by rw [List.length_map, List.length_singleton]; exact put 0 (by omega) a ha, ?_⟩⟩
            have := fin (m - 1) (by omega) a ha
            unfold pD nD at this
            rw [← e3] at this
            exact this
          · rw [decide_eq_false hr0]
            refine (show (if false = true then _ else _) from ?_)
            rw [if_neg (by decide)]
            refine ⟨rfl, _, rfl, m, rfl, h3, by omega, fun b hb => ?_⟩
            refine ⟨_, rfl, rfl, _, rfl, s, rfl, h1, by omega, fun a ha => ⟨_, rfl, by show 2 ≤ lim; decide, by show 1 ≤ lim; decide, by rw [List.length_map, List.length_singleton]; exact put b hb a ha, ?_⟩⟩
            exact fin b hb a ha⟩
def p_known : FL := fun ds Q => ds = [] ∧ ∀ k ∈ knownL, Q (kD k)
theorem ok54 (T : Txt K mg) : FnOk P w K mg base CX0 3 T.f54 T.fd54 ["_law_cup_here"] (spC p_known) :=
  have G44 := ok44 (P := P) (w := w) (base := base) T
  have G48 := ok48 (P := P) (w := w) (base := base) T
  okC T.d54.fn sc54 (fun ds Q ⟨h, _⟩ => by rw [h]; rfl) fun z cdv A outer s H E hr => ⟨_,
    (js_cons (js_set (i := 1) sc54.nd rfl (.inl rfl) (je_lst (ja_cons (je_call0 G48 (hr.mono (by decide)) (by rfl) T.d48.gl T.d48.fn.kp T.d48.bi) (ja_cons (je_tup (ja_cons (je_tup (ja_cons (je_tup (ja_cons je_int (ja_cons je_int ja_nil))) (ja_cons (je_tup (ja_cons je_int (ja_cons je_int ja_nil))) ja_nil))) ja_nil)) (ja_cons (je_tup (ja_cons (je_tup (ja_cons (je_tup (ja_cons je_int (ja_cons je_int ja_nil))) (ja_cons (je_tup (ja_cons je_int (ja_cons je_int ja_nil))) ja_nil))) (ja_cons (je_tup (ja_cons (je_tup (ja_cons je_int (ja_cons je_int ja_nil))) (ja_cons (je_tup (ja_cons je_int (ja_cons je_int ja_nil))) ja_nil))) ja_nil))) (ja_cons (je_tup (ja_cons (je_tup (ja_cons (je_tup (ja_cons je_int (ja_cons je_int ja_nil))) (ja_cons (je_tup (ja_cons je_int (ja_cons je_int ja_nil))) ja_nil))) (ja_cons (je_tup (ja_cons (je_tup (ja_cons je_int (ja_cons je_int ja_nil))) (ja_cons (je_tup (ja_cons je_int (ja_cons je_int ja_nil))) ja_nil))) ja_nil))) ja_nil))))))
      (js_cons (js_set (i := 1) sc54.nd rfl (.inl rfl) (je_op op_addA ho_add (je_var _ (pv 1)) (je_lst (ja_cons (je_tup (ja_cons (je_tup (ja_cons (je_tup (ja_cons je_int (ja_cons je_int ja_nil))) (ja_cons (je_tup (ja_cons je_int (ja_cons je_int ja_nil))) (ja_cons (je_tup (ja_cons je_int (ja_cons je_int ja_nil))) ja_nil)))) (ja_cons (je_tup (ja_cons (je_tup (ja_cons je_int (ja_cons je_int ja_nil))) (ja_cons (je_tup (ja_cons je_int (ja_cons je_int ja_nil))) (ja_cons (je_tup (ja_cons je_int (ja_cons je_int ja_nil))) ja_nil)))) ja_nil))) (ja_cons (je_tup (ja_cons (je_tup (ja_cons (je_tup (ja_cons je_int (ja_cons je_int ja_nil))) ja_nil)) ja_nil)) (ja_cons (je_tup (ja_cons (je_tup (ja_cons (je_tup (ja_cons je_int (ja_cons je_int ja_nil))) (ja_cons (je_tup (ja_cons je_int (ja_cons je_int ja_nil))) ja_nil))) (ja_cons (je_tup (ja_cons (je_tup (ja_cons je_int (ja_cons je_int ja_nil))) (ja_cons (je_tup (ja_cons je_int (ja_cons je_int ja_nil))) ja_nil))) ja_nil))) ja_nil))))))
      (js_one (js_ret (je_callC G44 (hr.mono (by decide)) (by rfl) T.d44.gl T.d44.fn.kp T.d44.bi (pv 0) (ja_cons (je_var _ (pv 1)) ja_nil)))))),
    fun ds Q ⟨e, h⟩ => by
      subst e
      refine ⟨rfl, ?_⟩
      iterate 60 (try refine ⟨by first | (show 1 ≤ lim; decide) | (show 2 ≤ lim; decide) | (show 3 ≤ lim; decide) | (show 4 ≤ lim; decide), ?_⟩)
      refine ⟨_, rfl, ?_⟩
      iterate 60 (try refine ⟨by first | (show 1 ≤ lim; decide) | (show 2 ≤ lim; decide) | (show 3 ≤ lim; decide) | (show 4 ≤ lim; decide) | (show 7 ≤ lim; decide), ?_⟩)
      refine ⟨rfl, _, rfl, (knownL.map kD), rfl, by decide, by decide, fun d hd => ?_⟩
      obtain ⟨k, hk, rfl⟩ := List.mem_map.mp hd
      exact h k hk⟩
end
end Lr
namespace Lr
open PySem PySem.Spec PyProof.Rows L2
theorem pick_set {d : PyData} (h : d ∈ [PyData.int 2, .int 2, .int 2, .int 3, .int 3, .int 1, .int 4]) : ∃ s : Nat, d = nD s ∧ 1 ≤ s ∧ s ≤ 4 := by
  simp only [List.mem_cons, List.not_mem_nil, or_false] at h
  rcases h with rfl | rfl | rfl | rfl | rfl | rfl | rfl
  · exact ⟨2, rfl, by decide, by decide⟩
  · exact ⟨2, rfl, by decide, by decide⟩
  · exact ⟨2, rfl, by decide, by decide⟩
  · exact ⟨3, rfl, by decide, by decide⟩
  · exact ⟨3, rfl, by decide, by decide⟩
  · exact ⟨1, rfl, by decide, by decide⟩
  · exact ⟨4, rfl, by decide, by decide⟩
theorem pick_srt {d : PyData} (h : d ∈ [PyData.int 1, .int 2, .int 2, .int 3, .int 3, .int 4]) : ∃ s : Nat, d = nD s ∧ 1 ≤ s ∧ s ≤ 4 := by
  simp only [List.mem_cons, List.not_mem_nil, or_false] at h
  rcases h with rfl | rfl | rfl | rfl | rfl | rfl
  · exact ⟨1, rfl, by decide, by decide⟩
  · exact ⟨2, rfl, by decide, by decide⟩
  · exact ⟨2, rfl, by decide, by decide⟩
  · exact ⟨3, rfl, by decide, by decide⟩
  · exact ⟨3, rfl, by decide, by decide⟩
  · exact ⟨4, rfl, by decide, by decide⟩
/-- a lot as it is drawn -/
structure Drawn (k : Kn) (L : List (List Nat)) : Prop where
  lo : 1 ≤ L.length
  hi : L.length ≤ 5
  nd : L.Nodup
  ok : ∀ t ∈ L, Lt k.length t ∧ t.length ≤ 3
section
variable {P : Program} {w : World} {K : PySem.W.Frag} {mg : Str → Option Value} {base : Heap}
def p_kind : FL := fun ds Q => ds = [] ∧ ∀ k, Kd k → sets k ≤ 4 → k.length ≤ 4 → Q (kD k)
theorem ok55 (T : Txt K mg) : FnOk P w K mg base CX0 4 T.f55 T.fd55 ["_law_cup_here"] (spC p_kind) :=
  have G43 := ok43 (P := P) (w := w) (base := base) T
  have G44 := ok44 (P := P) (w := w) (base := base) T
  have G50 := ok50 (P := P) (w := w) (base := base) T
  have G51 := ok51 (P := P) (w := w) (base := base) T
  have G52 := ok52 (P := P) (w := w) (base := base) T
  have G53 := ok53 (P := P) (w := w) (base := base) T
  have G54 := ok54 (P := P) (w := w) (base := base) T
  okC T.d55.fn sc55 (fun ds Q ⟨h, _⟩ => by rw [h]; rfl) fun z cdv A outer s H E hr => ⟨_,
    (js_cons (js_par (i := 1) (j := 2) rfl sc55.nd rfl rfl (by decide) rfl rfl (ja_cons (je_callC G44 (hr.mono (by decide)) (by rfl) T.d44.gl T.d44.fn.kp T.d44.bi (pv 0) (ja_cons (je_lst (ja_cons je_int (ja_cons je_int (ja_cons je_int (ja_cons je_int (ja_cons je_int (ja_cons je_int (ja_cons je_int ja_nil)))))))) ja_nil)) (ja_cons (je_callC G44 (hr.mono (by decide)) (by rfl) T.d44.gl T.d44.fn.kp T.d44.bi (pv 0) (ja_cons (je_lst (ja_cons je_int (ja_cons je_int (ja_cons je_int (ja_cons je_int (ja_cons je_int (ja_cons je_int ja_nil))))))) ja_nil)) ja_nil)) (by rfl))
      (js_cons (js_set (i := 3) sc55.nd rfl (.inl rfl) (je_callC G43 (hr.mono (by decide)) (by rfl) T.d43.gl T.d43.fn.kp T.d43.bi (pv 0) (ja_cons je_int ja_nil)))
      (js_cons (js_if (jt_cmpR (op_eqD hr.units) ho_eq (je_var _ (pv 3)) je_int (nomark _)) (js_one (js_ret (je_callC G54 (hr.mono (by decide)) (by rfl) T.d54.gl T.d54.fn.kp T.d54.bi (pv 0) ja_nil))) js_nil)
      (js_cons (js_if (jt_cmpR op_lt ho_lt (je_var _ (pv 3)) je_int (nomark _)) (js_one (js_ret (je_callC G50 (hr.mono (by decide)) (by rfl) T.d50.gl T.d50.fn.kp T.d50.bi (pv 0) (ja_cons (je_var _ (pv 1)) (ja_cons (je_var _ (pv 2)) ja_nil))))) js_nil)
      (js_cons (js_if (jt_cmpR (op_eqD hr.units) ho_eq (je_var _ (pv 3)) je_int (nomark _)) (js_one (js_ret (je_callC G52 (hr.mono (by decide)) (by rfl) T.d52.gl T.d52.fn.kp T.d52.bi (pv 0) (ja_cons (je_var _ (pv 1)) (ja_cons (je_var _ (pv 2)) ja_nil))))) js_nil)
      (js_one (js_ret (je_if (jt_cmpR (op_eqD hr.units) ho_eq (je_var _ (pv 3)) je_int (nomark _)) (je_callC G51 (hr.mono (by decide)) (by rfl) T.d51.gl T.d51.fn.kp T.d51.bi (pv 0) (ja_cons (je_var _ (pv 1)) (ja_cons (je_var _ (pv 2)) ja_nil))) (je_callC G53 (hr.mono (by decide)) (by rfl) T.d53.gl T.d53.fn.kp T.d53.bi (pv 0) (ja_cons (je_var _ (pv 1)) (ja_cons (je_var _ (pv 2)) ja_nil))))))))))),
    fun ds Q ⟨e, h⟩ => by
      subst e
      refine ⟨rfl, by show 7 ≤ lim; decide, _, rfl, by show 1 ≤ 7; decide, by show 7 ≤ 1000; decide, fun d hd => ?_⟩
      obtain ⟨s, rfl, s1, s2⟩ := pick_set hd
      refine ⟨rfl, by show 6 ≤ lim; decide, _, rfl, by show 1 ≤ 6; decide, by show 6 ≤ 1000; decide, fun d hd => ?_⟩
      obtain ⟨m, rfl, m1, m2⟩ := pick_srt hd
      have hk : ∀ k, Kd k → sets k = s → k.length = m → Q (kD k) := fun k k1 k2 k3 => h k k1 (by omega) (by omega)
      refine ⟨rfl, 6, rfl, by decide, by decide, fun r hr => ?_⟩
      refine ⟨_, rfl, sh_int _, sh_int _, ?_⟩
      rw [show PyData.eqv (nD r) (.int 0) = decide ((r : Int) = 0) from eq_int _ _]
      by_cases r0 : (r : Int) = 0
      · rw [decide_eq_true r0]
        exact ⟨rfl, rfl, fun k hk => h k (known_ok k hk).1 (known_ok k hk).2.1 (known_ok k hk).2.2⟩
      · rw [decide_eq_false r0]
        refine ⟨_, rfl, ?_⟩
        refine (show (if decide ((r : Int) < 3) = true then _ else _) from ?_)
        by_cases r3 : (r : Int) < 3
        · rw [if_pos (decide_eq_true r3)]
          exact ⟨rfl, _, rfl, _, rfl, s, m, rfl, s1, s2, m1, m2, hk⟩
        · rw [if_neg (fun q => r3 (of_decide_eq_true q))]
          refine ⟨_, rfl, sh_int _, sh_int _, ?_⟩
          rw [show PyData.eqv (nD r) (.int 3) = decide ((r : Int) = 3) from eq_int _ _]
          by_cases r4 : (r : Int) = 3
          · rw [decide_eq_true r4]
            exact ⟨rfl, _, rfl, _, rfl, s, m, rfl, s1, s2, m1, m2, hk⟩
          · rw [decide_eq_false r4]
            refine ⟨_, rfl, sh_int _, sh_int _, ?_⟩
            rw [show PyData.eqv (nD r) (.int 4) = decide ((r : Int) = 4) from eq_int _ _]
            by_cases r5 : (r : Int) = 4
            · rw [decide_eq_true r5]
              exact ⟨rfl, _, rfl, _, rfl, s, m, rfl, s1, s2, m1, m2, hk⟩
            · rw [decide_eq_false r5]
              exact ⟨rfl, _, rfl, _, rfl, s, m, rfl, s1, s2, m1, m2, hk⟩⟩
def p_lot : FL := fun ds Q => ∃ k, ds = [kD k, nD 5] ∧ Kd k ∧ k.length ≤ 4 ∧ ∀ L, Drawn k L → Q (lotD L)
theorem ok57 (T : Txt K mg) : FnOk P w K mg base CX0 2 T.f57 T.fd57 ["_law_cup_here", "_law_kind_here", "_law_most"] (spC p_lot) :=
  have G43 := ok43 (P := P) (w := w) (base := base) T
  okC T.d57.fn sc57 (fun ds Q ⟨_, h, _⟩ => by rw [h]; rfl) fun z cdv A outer s H E hr => ⟨_,
    (js_cons (js_set (i := 3) sc57.nd rfl (.inl rfl) (je_lst ja_nil))
      (js_cons (js_forR PassesOwn.never rfl (by rfl) T.b_range (ja_cons (je_op op_addA ho_add je_int (je_callC G43 (hr.mono (by decide)) (by rfl) T.d43.gl T.d43.fn.kp T.d43.bi (pv 0) (ja_cons (je_var _ (pv 2)) ja_nil))) ja_nil) (jg_name (i := 4) sc57.nd rfl (.inl rfl)) (js_cons (js_set (i := 5) sc57.nd rfl (.inl rfl) (je_callC G43 (hr.mono (by decide)) (by rfl) T.d43.gl T.d43.fn.kp T.d43.bi (pv 0) (ja_cons (je_if (jt_cmpR op_lt ho_lt (je_callB call_len_seq hoL_len (by rfl) T.b_len (by decide +kernel) (ja_cons (je_var _ (pv 1)) ja_nil)) je_int (nomark _)) je_int je_int) ja_nil)))
      (js_cons (js_set (i := 6) sc57.nd rfl (.inl rfl) (je_callTy call_tuple_of hoL_tuple (by rfl) T.b_tuple (by decide +kernel) (ja_cons (je_lcR (own := [("_law_walker", 7)]) rfl sc57.nd (by rfl) T.b_range (ja_cons (je_var _ (pv 5)) ja_nil) (blkOk_by (by rfl)) (fun _ _ _ _ _ => (jg_name (i := 7) sc57.nd rfl (.inl rfl))) (fun _ _ _ _ _ => jts_nil) (fun _ _ _ _ _ => (je_callC G43 (hr.mono (by decide)) (by rfl) T.d43.gl T.d43.fn.kp T.d43.bi (pv 0) (ja_cons (je_callB call_len_seq hoL_len (by rfl) T.b_len (by decide +kernel) (ja_cons (je_var _ (pv 1)) ja_nil)) ja_nil)))) ja_nil)))
      (js_one (js_set (i := 3) sc57.nd rfl (.inl rfl) (je_op op_addA ho_add (je_var _ (pv 3)) (je_if (jt_cmpR (op_notInD (u65 hr)) ho_notIn (je_var _ (pv 6)) (je_var _ (pv 3)) (by with_unfolding_all rfl)) (je_lst (ja_cons (je_var _ (pv 6)) ja_nil)) (je_lst ja_nil))))))))
      (js_one (js_ret (je_callTy call_tuple_of hoL_tuple (by rfl) T.b_tuple (by decide +kernel) (ja_cons (je_var _ (pv 3)) ja_nil)))))),
    fun ds Q ⟨k, e, hk, hk4, h⟩ => by
      subst e
      have hk1 := hk.lo
      refine ⟨small (by decide), ?_⟩
      refine ⟨rfl, _, rfl, 5, rfl, by decide, by decide, fun r hr => ?_⟩
      refine ⟨by show (0 : Int) ≤ 1 + (r : Int); omega, by show (1 + (r : Int)) ≤ (10000000 : Nat); omega, ?_⟩
      have em : Int.toNat (1 + (r : Int)) = r + 1 := by omega
      rw [em]
      refine sLoop_ind (fun rest ρ => ∃ (i : Nat) (L : List (List Nat)) (x4 x5 x6 x7 : Option En), i ≤ r + 1 ∧ rest = (nums (r + 1)).drop i ∧ ρ = [some .cup, some (.d (kD k)), some (.d (nD 5)), some (.d (.list (L.map tD))), x4, x5, x6, x7] ∧ L.length ≤ i ∧ (1 ≤ i → 1 ≤ L.length) ∧ L.Nodup ∧ ∀ t ∈ L, Lt k.length t ∧ t.length ≤ 3) ?_ ?_ _ _ ⟨0, [], none, none, none, none, by omega, rfl, rfl, by simp, by omega, List.nodup_nil, fun t ht => by cases ht⟩
      · rintro ρ ⟨i, L, x4, x5, x6, x7, hi, e1, rfl, h1, h2, h3, h4⟩
        have := nums_end e1 hi
        exact ⟨_, rfl, h L ⟨h2 (by omega), by omega, h3, h4⟩⟩
      · rintro d ds ρ ⟨i, L, x4, x5, x6, x7, hi, e1, rfl, h1, h2, h3, h4⟩ K hK
        obtain ⟨hlt, rfl, rfl⟩ := nums_at e1
        refine ⟨rfl, _, rfl, ?_⟩
        dsimp only [wNil, wCons, wL, arg1]
        refine fLen_kD ?_
        refine (show (if decide (((k.length : Nat) : Int) < 4) = true then _ else _) from ?_)
        split
        case' isTrue => refine ⟨4, rfl, by decide, by decide, fun a ha => ?_⟩
        case' isFalse => refine ⟨3, rfl, by decide, by decide, fun a ha => ?_⟩
        all_goals
          refine ⟨_, rfl, by omega, by show (a : Int) ≤ (10000000 : Nat); omega, ?_⟩
          rw [Int.toNat_natCast]
          refine lc_draw (e := nD) (ok := fun b => b < k.length) (fun d hd Z hZ => ⟨rfl, _, rfl, by dsimp only [wNil, wCons, wL, arg1]; exact fLen_kD ⟨k.length, rfl, hk1, by omega, fun b hb => hZ b hb⟩⟩) (by rw [len_nums]; exact small (by omega)) fun t ht1 ht2 => ?_
          rw [len_nums] at ht1
          dsimp only [wNil, wCons, wL, arg1]
          refine ⟨_, rfl, _, rfl, _, rfl, enT.sh (by decide) t, (enT.lst).sh (by decide) L, ?_⟩
          have fin : ∀ L2 : List (List Nat), (L2 = if t ∈ L then L else L ++ [t]) → K [some .cup, some (.d (kD k)), some (.d (nD 5)), some (.d (.list (L2.map tD))), some (.d (nD i)), some (.d (nD a)), some (.d (tD t)), x7] := fun L2 e2 => by
            refine hK _ ⟨i + 1, L2, some (.d (nD i)), some (.d (nD a)), some (.d (tD t)), x7, hlt, rfl, rfl, ?_⟩
            subst e2
            by_cases hm : t ∈ L
            · rw [if_pos hm]
              exact ⟨by omega, fun _ => List.length_pos_of_mem hm, h3, h4⟩
            · rw [if_neg hm]
              refine ⟨by rw [List.length_append, List.length_singleton]; omega, fun _ => by rw [List.length_append, List.length_singleton]; omega, nodup_put h3 hm, fun u hu => ?_⟩
              rcases List.mem_append.mp hu with q | q
              · exact h4 u q
              · simp at q; rw [q]; exact ⟨ht2, by omega⟩
          by_cases hm : t ∈ L
          · rw [show (List.any (L.map tD) fun z => PyData.eqv z (.tuple (t.map nD))) = true from any_t enT hm]
            refine (show (if (!true) = true then _ else _) from ?_)
            rw [if_neg (by decide)]
            refine ⟨small (by decide), by rw [List.length_map]; exact small (by simp; omega), ?_⟩
            have := fin L (if_pos hm).symm
            rw [List.append_nil]
            exact this
          · rw [show (List.any (L.map tD) fun z => PyData.eqv z (.tuple (t.map nD))) = false from any_f enT hm]
            refine (show (if (!false) = true then _ else _) from ?_)
            rw [if_pos (by decide)]
            refine ⟨_, rfl, by show 1 ≤ lim; decide, by rw [List.length_map]; exact small (by simp; omega), ?_⟩
            have := fin (L ++ [t]) (if_neg hm).symm
            rw [List.map_append] at this
            exact this⟩
end
end Lr
namespace Lr
open PySem PySem.Spec PyProof.Rows L2
def idxP {α : Type} [DecidableEq α] (l : List α) (x : α) : Nat := l.idxOf x
def e2D (p : List Nat × Nat) : PyData := .tuple [tD p.1, nD p.2]
theorem en2 : Enc e2D 2 := enT.pair enN
/-- an entry of the law's line -/
def llD (x : List Nat × List (List Nat)) : PyData := e2D (x.1, x.2.length)
theorem ll_map (line : List (List Nat × List (List Nat))) : line.map llD = (line.map fun x => (x.1, x.2.length)).map e2D := by rw [List.map_map]; rfl
def metD (met : List (List Nat)) : List (List Nat × PyData) := met.map fun s => (s, .bool true)
theorem metD_keys (met : List (List Nat)) : (metD met).map (·.1) = met := by unfold metD; rw [List.map_map]; exact List.map_id met
theorem metD_put {met : List (List Nat)} {t : List Nat} (h : t ∉ met) : putN (metD met) t (.bool true) = metD (met ++ [t]) := by
  unfold putN
  rw [metD_keys, if_neg h]
  unfold metD
  rw [List.map_append]; rfl
theorem fLen_lot {L : List (List Nat)} {P : PyData → Prop} (h : P (nD L.length)) : fLen (lotD L) P := by
  show P (.int ((L.map tD).length : Int))
  rw [List.length_map]; exact h
theorem zeros (m : Nat) : PyData.tuple (List.replicate (Int.toNat (m : Int)) [PyData.int 0]).flatten = tD (List.replicate m 0) := by
  rw [Int.toNat_natCast]
  unfold tD
  rw [List.map_replicate, List.flatten_replicate_singleton]
  rfl
section
variable {P : Program} {w : World} {K : PySem.W.Frag} {mg : Str → Option Value} {base : Heap}
def p_law_fewest : FL := fun ds Q => ∃ k L n, ds = [kD k, lotD L, nD n] ∧ Kd k ∧ 1 ≤ L.length ∧ L.length ≤ 5 ∧ (∀ t ∈ L, Lt k.length t ∧ t.length ≤ 1000) ∧ n ≤ 60 ∧ sets k ^ n < 64 ∧
  ∀ parts : List (List Nat), parts.Nodup → (∀ q, q ∈ parts ↔ q ∈ (roadsP (sets k) n).map fun r => firstP (leftL k L r)) → ∃ f r, bfs (stepN firstP id) goalN parts f [(List.replicate L.length 0, [])] [List.replicate L.length 0] = some r ∧ (r = none → Q .none) ∧ ∀ s p, r = some (s, p) → Q (nD p.length)
theorem ok62 (T : Txt K mg) : FnOk P w K mg base CX0 3 T.f62 T.fd62 ["_law_kind_here", "_law_lot_here", "_law_number"] (spP p_law_fewest) :=
  have G59 := ok59 (P := P) (w := w) (base := base) T
  have G46 := ok46 (P := P) (w := w) (base := base) T
  have G61 := ok61 (P := P) (w := w) (base := base) T
  okP T.d62.fn sc62 (fun ds Q ⟨_, _, _, h, _⟩ => by rw [h]; rfl) fun z cdv A outer s H E hr => ⟨_,
    (js_cons (js_setLcL (i := 3) (own := [("_law_road", 4)]) rfl sc62.nd rfl rfl (sw_true rfl rfl rfl (by decide +kernel)) (je_call G59 (hr.mono (by decide)) (by rfl) T.d59.gl T.d59.fn.kp T.d59.bi (ja_cons (je_var _ (pv 0)) (ja_cons (je_var _ (pv 2)) ja_nil))) (blkOk_by (by rfl)) (fun _ _ _ _ _ => (jg_name (i := 4) sc62.nd rfl (.inr rfl))) (fun _ _ _ _ _ => jts_nil) (fun _ _ _ _ _ => (je_callTy call_ftup hoL_ftup (by rfl) T.b_tuple (by decide +kernel) (ja_cons (je_lcT (own := [("_law_train", 5)]) rfl sc62.nd (je_var _ (pv 1)) (blkOk_by (by rfl)) (fun _ _ _ _ _ => (jg_name (i := 5) sc62.nd rfl (.inl rfl))) (fun _ _ _ _ _ => jts_nil) (fun _ _ _ _ _ => (je_ix (je_call G46 (hr.mono (by decide)) (by rfl) T.d46.gl T.d46.fn.kp T.d46.bi (ja_cons (je_var _ (pv 0)) (ja_cons (je_var _ (pv 5)) (ja_cons (je_var _ (pv 4)) ja_nil)))) je_int))) ja_nil))))
      (js_cons (js_set (i := 6) sc62.nd rfl (.inl rfl) (je_sortset rfl hr (by rfl) T.b_sorted (by rfl) T.b_set (je_lcL (own := [("_law_some_here", 7)]) rfl sc62.nd (je_var _ (pv 3)) (blkOk_by (by rfl)) (fun _ _ _ _ _ => (jg_name (i := 7) sc62.nd rfl (.inr rfl))) (fun _ _ _ _ _ => jts_nil) (fun _ _ _ _ _ => (je_callTy call_tuple_of hoL_tuple (by rfl) T.b_tuple (by decide +kernel) (ja_cons (je_lcF (own := [("_law_one", 8)]) rfl sc62.nd (je_var _ (pv 7)) (blkOk_by (by rfl)) (fun _ _ _ _ _ => (jg_name (i := 8) sc62.nd rfl (.inl rfl))) (fun _ _ _ _ _ => jts_nil) (fun _ _ _ _ _ => (je_indexF hr (je_var _ (pv 7)) (je_var _ (pv 8))))) ja_nil))))))
      (js_cons (js_setO (i := 9) sc62.nd rfl (.inl rfl) (jo_lst (ja_cons (je_tup (ja_cons (je_op op_repTA ho_repT (je_tup (ja_cons je_int ja_nil)) (je_callB call_len_seq hoL_len (by rfl) T.b_len (by decide +kernel) (ja_cons (je_var _ (pv 1)) ja_nil))) (ja_cons je_int ja_nil))) ja_nil)))
      (js_cons (js_setD (i := 10) hr sc62.nd rfl (.inl rfl) (je_ix (je_ixO (pv 9) je_int) je_int) je_bl)
      (js_cons (js_while PassesOwn.never (jt_neO hr (pv 9) (je_lst ja_nil) (nomark _)) (js_cons (js_pop0 (pv 9) (jg_tup (n := 2) rfl (jgs_cons (jg_name (i := 12) sc62.nd rfl (.inl rfl)) (jgs_cons (jg_name (i := 13) sc62.nd rfl (.inl rfl)) jgs_nil))))
      (js_cons (js_if (jt_val (je_call G61 (hr.mono (by decide)) (by rfl) T.d61.gl T.d61.fn.kp T.d61.bi (ja_cons (je_var _ (pv 12)) ja_nil))) (js_one (js_ret (je_var _ (pv 13)))) js_nil)
      (js_one (js_forL PassesOwn.never rfl (je_var _ (pv 6)) (jg_name (i := 11) sc62.nd rfl (.inl rfl)) (js_cons (js_set (i := 14) sc62.nd rfl (.inr rfl) (je_listzip rfl (by rfl) T.b_list (by rfl) T.b_zip (je_var _ (pv 12)) (je_var _ (pv 11))))
      (js_cons (js_set (i := 15) sc62.nd rfl (.inl rfl) (je_callTy call_tuple_of hoL_tuple (by rfl) T.b_tuple (by decide +kernel) (ja_cons (je_lcL (own := [("_law_pair", 16)]) rfl sc62.nd (je_var _ (pv 14)) (blkOk_by (by rfl)) (fun _ _ _ _ _ => (jg_name (i := 16) sc62.nd rfl (.inl rfl))) (fun _ _ _ _ _ => jts_nil) (fun _ _ _ _ _ => (je_index hr (je_var _ (pv 14)) (je_var _ (pv 16))))) ja_nil)))
      (js_one (js_if (jt_dnotO hr (je_var _ (pv 15)) (pv 10) (by with_unfolding_all rfl)) (js_cons (js_dputO hr (pv 10) (je_var _ (pv 15)) je_bl)
      (js_one (js_app (pv 9) (je_tup (ja_cons (je_var _ (pv 15)) (ja_cons (je_op op_addA ho_add (je_var _ (pv 13)) je_int) ja_nil)))))) js_nil)))))))))
      (js_one (js_ret je_non))))))),
    fun ds Q ⟨k, L, n, e, hk, hm1, hm5, hL, hn, hp, h⟩ => by
      subst e
      have hlen := roadsP_len (sets k) n
      have lk : ∀ r, (leftL k L r).length = L.length := fun r => by unfold leftL; rw [List.length_map]
      refine ⟨_, rfl, _, rfl, k, n, rfl, hk, hn, by omega, ?_⟩
      refine lc_enc (e := tD) (fun r => fz ((leftL k L r).map tD)) (roadsP (sets k) n) [] _ (fun r hr Z hZ => ⟨_, rfl, ?_⟩) (by rw [List.length_nil]; exact small (by omega)) ?_
      · obtain ⟨r1, r2⟩ := roadsP_ok (sets k) n r hr
        refine lc_enc (e := tD) (fun t => tD (passP k t r).1) L [] _ (fun t ht Q hQ => ⟨_, rfl, _, rfl, _, rfl, k, t, r, rfl, hk, (hL t ht).1, r2, (hL t ht).2, by omega, ⟨_, atI0, hQ⟩⟩) (by rw [List.length_nil]; exact small (by omega)) ?_
        show Z (fz ([] ++ L.map fun t => tD (passP k t r).1))
        have e1 : (leftL k L r).map tD = L.map fun t => tD (passP k t r).1 := by
          unfold leftL
          rw [List.map_map]
          exact List.map_congr_left fun t _ => by show tD (roadP k t r).1 = _; rw [roadP_passP]
        rw [e1] at hZ
        exact hZ
      · rw [List.nil_append]
        refine ⟨_, rfl, ?_⟩
        refine lc_enc (e := fun r => fz ((leftL k L r).map tD)) (fun r => tD (firstP (leftL k L r))) (roadsP (sets k) n) [] _ (fun r hr Z hZ => ⟨_, rfl, _, rfl, ?_⟩) (by rw [List.length_nil]; exact small (by omega)) ?_
        · refine lc_enc (e := tD) (fun x => nD (idxP (leftL k L r) x)) (leftL k L r) [] _ (fun x hx Q hQ => ⟨_, rfl, _, rfl, _, rfl, idx_data enT (by decide) hx hQ⟩) (by rw [List.length_nil, lk]; exact small (by omega)) ?_
          show Z (.tuple ([] ++ (leftL k L r).map fun x => nD (idxP (leftL k L r) x)))
          unfold tD firstP at hZ
          rw [List.map_map] at hZ
          exact hZ
        · rw [List.nil_append]
          refine ⟨(roadsP (sets k) n).map fun r => firstP (leftL k L r), .inl ⟨by rw [List.map_map]; rfl, by rw [List.length_map]; omega⟩, ⟨L.length, hm1, fun l hl => ?_⟩, fun parts h1 h2 _ => ?_⟩
          · obtain ⟨r, _, rfl⟩ := List.mem_map.mp hl
            refine ⟨by rw [first_len, lk], fun a ha => ?_⟩
            have := first_lt _ a ha
            rw [lk] at this
            omega
          · obtain ⟨f, r, hb, hN, hS⟩ := h parts h1 h2
            have hparts : ∀ q ∈ parts, q.length = L.length := fun q hq => by
              obtain ⟨r, _, rfl⟩ := List.mem_map.mp ((h2 q).mp hq)
              rw [first_len, lk]
            refine ⟨by show 1 ≤ lim; decide, ?_⟩
            refine ⟨_, rfl, ?_⟩
            dsimp only [wNil, wCons, wL, arg1]
            refine fLen_lot ?_
            generalize L.length = m at *
            refine ⟨by omega, by omega, by simp, by show 1 ≤ 1000; decide, ?_⟩
            rw [zeros m]
            refine ⟨by show 2 ≤ lim; decide, by show 1 ≤ lim; decide, ?_⟩
            refine ⟨_, rfl, _, atI0, _, atI0, List.replicate m 0, rfl, ?_⟩
            refine sWhile_m (fun f ρ => ∃ line met x4 x5 x7 x8 x11 x12 x13 x14 x15 x16, ρ = [some (.d (kD k)), some (.d (lotD L)), some (.d (nD n)), some (.d (.list ((roadsP (sets k) n).map fun r => fz ((leftL k L r).map tD)))), x4, x5, some (.d (.list (parts.map tD))), x7, x8, some (.own (line.map llD)), some (.dct (metD met)), x11, x12, x13, x14, x15, x16] ∧ Sz m line met ∧ bfs (stepN firstP id) goalN parts f line met = some r) ?_ (m := f) ⟨[(List.replicate m 0, [])], [List.replicate m 0], none, none, none, none, none, none, none, none, none, none, rfl, ⟨by simp, fun s hs => ?_, by simp, fun x hx => ?_, fun x hx => ?_⟩, hb⟩
            · rintro f ρ ⟨line, met, x4, x5, x7, x8, x11, x12, x13, x14, x15, x16, rfl, hsz, hb⟩ K hK
              refine ⟨_, rfl, small (by decide), by rw [ll_map]; exact (en2.lst).sh (by decide) _, (en2.lst).sh (by decide) [], ?_⟩
              have q := (en2.lst).eqv (line.map fun x => (x.1, x.2.length)) []
              rw [← ll_map] at q
              rw [show (PyData.list [] : PyData) = .list (List.map e2D []) from rfl, q]
              cases f with
              | zero => cases hb
              | succ f =>
                cases line with
                | nil =>
                  have er : r = none := by unfold bfs at hb; exact (Option.some.inj hb).symm
                  exact hN er
                | cons x line =>
                  obtain ⟨st, pa⟩ := x
                  rw [decide_eq_false (by simp)]
                  refine (show (if true = true then _ else _) from ?_)
                  rw [if_pos rfl]
                  have hst := hsz.ok st (hsz.sub _ List.mem_cons_self)
                  have hpa := hsz.pth _ List.mem_cons_self
                  simp only at hpa
                  have hmet := hsz.met hm5
                  refine ⟨_, _, rfl, rfl, ?_⟩
                  refine ⟨_, rfl, _, st.map nD, rfl, rfl, by rw [List.length_map]; omega, .inr ⟨iL st, by unfold iL; rw [List.map_map]; rfl, ?_⟩⟩
                  have eg : decide (iL st).Nodup = goalN st := decide_eq_decide.mpr iL_nodup
                  rw [eg]
                  unfold bfs at hb
                  cases g : goalN st with
                  | true =>
                    rw [if_pos g] at hb
                    have er : r = some (st, pa) := (Option.some.inj hb).symm
                    exact ⟨_, rfl, hS _ _ er⟩
                  | false =>
                    rw [if_neg (by rw [g]; decide)] at hb
                    refine (show (if false = true then _ else _) from ?_)
                    rw [if_neg (by decide)]
                    refine ⟨_, rfl, ?_⟩
                    refine sLoop_ind (fun rest ρ => ∃ bs line' met' x11 x14 x15 x16, rest = bs.map tD ∧ (∀ b ∈ bs, b ∈ parts) ∧ ρ = [some (.d (kD k)), some (.d (lotD L)), some (.d (nD n)), some (.d (.list ((roadsP (sets k) n).map fun r => fz ((leftL k L r).map tD)))), x4, x5, some (.d (.list (parts.map tD))), x7, x8, some (.own (line'.map llD)), some (.dct (metD met')), x11, some (.d (tD st)), some (.d (nD pa.length)), x14, x15, x16] ∧ Sz m line' met' ∧ pa.length < met'.length ∧ expand (stepN firstP id) st pa bs line' met' = expand (stepN firstP id) st pa parts line met) ?_ ?_ _ _ ⟨parts, line, met, x11, x14, x15, x16, rfl, fun b hb => hb, rfl, hsz.tail, hpa, rfl⟩
                    · rintro ρ ⟨bs, line', met', x11, x14, x15, x16, e1, _, rfl, z1, z2, z3⟩
                      cases bs with
                      | cons => cases e1
                      | nil =>
                        have z4 : (line', met') = expand (stepN firstP id) st pa parts line met := z3
                        refine hK f _ (Nat.lt_succ_self f) ⟨line', met', x4, x5, x7, x8, x11, _, _, x14, x15, x16, rfl, z1, ?_⟩
                        rw [← z4] at hb
                        exact hb
                    · rintro d ds ρ ⟨bs, line', met', x11, x14, x15, x16, e1, hbs, rfl, z1, z2, z3⟩ K2 hK2
                      cases bs with
                      | nil => cases e1
                      | cons b bs =>
                        obtain ⟨rfl, rfl⟩ := List.cons.inj e1
                        have hlb := hparts b (hbs b List.mem_cons_self)
                        have zl : (st.zip b).length = m := by rw [List.length_zip, hst.1, hlb]; omega
                        refine ⟨_, rfl, _, rfl, by rw [List.length_map, List.length_map, hst.1, hlb], ?_⟩
                        have ez2 : zipD (st.map nD) (b.map nD) = (st.zip b).map pD := by
                          unfold zipD
                          rw [List.zip_map, List.map_map]; rfl
                        rw [ez2]
                        refine ⟨_, rfl, ?_⟩
                        refine lc_enc (e := pD) (fun x => nD (idxP (st.zip b) x)) (st.zip b) [] _ (fun x hx Z hZ => ⟨_, rfl, trivial, _, rfl, idx_data enP (by decide) hx hZ⟩) (by rw [List.length_nil, zl]; exact small (by omega)) ?_
                        have e4 : PyData.tuple (([] : List PyData) ++ (st.zip b).map fun x => nD (idxP (st.zip b) x)) = tD (firstP (st.zip b)) := by
                          unfold tD firstP
                          rw [List.nil_append, List.map_map]; rfl
                        dsimp only [wNil, wCons, wL, arg1, fTuple]
                        rw [e4]
                        have hl2 : (firstP (st.zip b)).length = m := by rw [first_len, zl]
                        have ha2 : ∀ a ∈ firstP (st.zip b), a < m := fun a ha => by have := first_lt _ a ha; omega
                        have ml := z1.met hm5
                        have ll := z1.line hm5
                        refine ⟨_, rfl, _, rfl, firstP (st.zip b), rfl, ?_⟩
                        rw [metD_keys]
                        by_cases hm : firstP (st.zip b) ∈ met'
                        · rw [show decide (firstP (st.zip b) ∉ met') = false from decide_eq_false (fun q => q hm)]
                          refine (show (if false = true then _ else _) from ?_)
                          rw [if_neg (by decide)]
                          rw [expand_old (show stepN firstP id st b ∈ met' from hm)] at z3
                          exact hK2 _ ⟨bs, line', met', _, _, _, _, rfl, fun c hc => hbs c (List.mem_cons_of_mem _ hc), rfl, z1, z2, z3⟩
                        · rw [show decide (firstP (st.zip b) ∉ met') = true from decide_eq_true hm]
                          refine (show (if true = true then _ else _) from ?_)
                          rw [if_pos rfl]
                          rw [expand_new (show stepN firstP id st b ∉ met' from hm)] at z3
                          refine ⟨_, rfl, _, rfl, firstP (st.zip b), rfl, by unfold metD; rw [List.length_map]; exact Nat.le_trans (m := 10000) (by omega) (by decide), ?_⟩
                          rw [metD_put hm]
                          refine ⟨_, rfl, _, rfl, _, rfl, by show 2 ≤ lim; decide, by rw [List.length_map]; exact Nat.le_trans (m := 10000) (by omega) (by decide), ?_⟩
                          refine hK2 _ ⟨bs, line' ++ [(firstP (st.zip b), pa ++ [b])], met' ++ [firstP (st.zip b)], some (.d (tD b)), some (.d (.list ((st.zip b).map pD))), some (.d (tD (firstP (st.zip b)))), x16, rfl, fun c hc => hbs c (List.mem_cons_of_mem _ hc), ?_, z1.put hm hl2 ha2 (by rw [List.length_append, List.length_singleton]; omega), by rw [List.length_append, List.length_singleton]; omega, z3⟩
                          have e3 : llD (firstP (st.zip b), pa ++ [b]) = .tuple [tD (firstP (st.zip b)), .int ((pa.length : Int) + 1)] := by
                            unfold llD e2D nD
                            rw [List.length_append, List.length_singleton]; push_cast; rfl
                          rw [List.map_append, List.map_cons, List.map_nil, e3]
                          rfl
            · simp at hs; subst hs
              exact ⟨by simp, fun a ha => by rw [List.mem_replicate] at ha; omega⟩
            · simp at hx; subst hx; simp
            · simp at hx; subst hx; simp⟩
end
end Lr
namespace Lr
open PySem PySem.Spec PyProof.Rows L2
theorem code_inj : ∀ {a b : List Int}, a.length = b.length → TS.Bd 64 a → TS.Bd 64 b → TS.code 64 a = TS.code 64 b → a = b
  | [], [], _, _, _, _ => rfl
  | [], _ :: _, h, _, _, _ => by cases h
  | _ :: _, [], h, _, _, _ => by cases h
  | d :: r, e :: q, hl, ha, hb, h => by
    have hl' : r.length = q.length := by simpa using hl
    rcases Int.lt_trichotomy d e with c | c | c
    · have := TS.code_lt hl' ha.tail hb.tail c
      omega
    · subst c
      have h1 := TS.code_same (B := 64) (d := d) hl'
      have h2 := TS.code_same (B := 64) (d := d) hl'.symm
      have : TS.code 64 r = TS.code 64 q := by omega
      rw [code_inj hl' ha.tail hb.tail this]
    · have := TS.code_lt hl'.symm hb.tail ha.tail c
      omega
theorem iL_inj {a b : List Nat} (h : iL a = iL b) : a = b := by rw [← toNat_ofNat a, ← toNat_ofNat b, h]
theorem cN_inj {a b : List Nat} (hl : a.length = b.length) (ha : Lt 64 a) (hb : Lt 64 b) (h : cN a = cN b) : a = b :=
  iL_inj (code_inj (by rw [iL_len, iL_len, hl]) (bd64 ha) (bd64 hb) h)
/-- lists in one order with the same members are one -/
theorem sorted_one : ∀ {a b : List (List Nat)}, a.Nodup → b.Nodup → (∀ x, x ∈ a ↔ x ∈ b) → (∀ x ∈ a, ∀ y ∈ a, cN x = cN y → x = y) → a.Pairwise (fun x y => cN x ≤ cN y) → b.Pairwise (fun x y => cN x ≤ cN y) → a = b
  | [], [], _, _, _, _, _, _ => rfl
  | [], y :: b, _, _, h, _, _, _ => by have := (h y).mpr List.mem_cons_self; cases this
  | x :: a, [], _, _, h, _, _, _ => by have := (h x).mp List.mem_cons_self; cases this
  | x :: a, y :: b, na, nb, h, hi, pa, pb => by
    obtain ⟨na1, na2⟩ := List.nodup_cons.mp na
    obtain ⟨nb1, nb2⟩ := List.nodup_cons.mp nb
    obtain ⟨pa1, pa2⟩ := List.pairwise_cons.mp pa
    obtain ⟨pb1, pb2⟩ := List.pairwise_cons.mp pb
    have hy : y ∈ x :: a := (h y).mpr List.mem_cons_self
    have hx : x ∈ y :: b := (h x).mp List.mem_cons_self
    have e : x = y := by
      rcases List.mem_cons.mp hy with q | q
      · exact q.symm
      · rcases List.mem_cons.mp hx with q2 | q2
        · exact q2
        · have a1 := pa1 y q
          have a2 := pb1 x q2
          exact hi x List.mem_cons_self y hy (by omega)
    subst e
    congr 1
    refine sorted_one na2 nb2 (fun z => ?_) (fun u hu v hv => hi u (List.mem_cons_of_mem _ hu) v (List.mem_cons_of_mem _ hv)) pa2 pb2
    constructor
    · intro hz
      rcases List.mem_cons.mp ((h z).mp (List.mem_cons_of_mem _ hz)) with q | q
      · rw [q] at hz; exact absurd hz na1
      · exact q
    · intro hz
      rcases List.mem_cons.mp ((h z).mpr (List.mem_cons_of_mem _ hz)) with q | q
      · rw [q] at hz; exact absurd hz nb1
      · exact q
def duos (m : Nat) : List (Nat × Nat) := (List.range m).flatMap fun j => (List.range j).map fun i => (i, j)
theorem duos_mem {m i j : Nat} : (i, j) ∈ duos m ↔ i < j ∧ j < m := by
  simp only [duos, List.mem_flatMap, List.mem_map, List.mem_range, Prod.mk.injEq]
  constructor
  · rintro ⟨a, ha, b, hb, rfl, rfl⟩; exact ⟨hb, ha⟩
  · rintro ⟨h1, h2⟩; exact ⟨j, h2, i, h1, rfl, rfl⟩
theorem duos_len {m : Nat} (h : m ≤ 5) : (duos m).length ≤ 10 := by
  match m, h with
  | 0, _ => decide
  | 1, _ => decide
  | 2, _ => decide
  | 3, _ => decide
  | 4, _ => decide
  | 5, _ => decide
  | n + 6, h => omega
theorem Least.few {ρ : Type} [DecidableEq ρ] {R : List ρ} {left : ρ → List (List Nat)} {m : Nat} {S : List ρ} (h : Least R left m S) (hm : m ≤ 5) : S.length ≤ 10 := by
  have pick : ∀ l : List (Nat × Nat), (∀ p ∈ l, p ∈ duos m) → ∃ T : List ρ, T.length = l.length ∧ (∀ r ∈ T, r ∈ R) ∧ ∀ p ∈ l, ∃ r ∈ T, (left r)[p.1]? ≠ (left r)[p.2]? := by
    intro l
    induction l with
    | nil => intro _; exact ⟨[], rfl, (fun r hr => by cases hr), (fun p hp => by cases hp)⟩
    | cons p l ih =>
      intro hl
      obtain ⟨T, t1, t2, t3⟩ := ih fun q hq => hl q (List.mem_cons_of_mem _ hq)
      obtain ⟨d1, d2⟩ := duos_mem.mp (show (p.1, p.2) ∈ duos m from hl p List.mem_cons_self)
      obtain ⟨r, hr, n⟩ := h.tells p.1 p.2 (by omega) d2 (by omega)
      refine ⟨r :: T, by rw [List.length_cons, List.length_cons, t1], fun q hq => ?_, fun q hq => ?_⟩
      · rcases List.mem_cons.mp hq with e | e
        · rw [e]; exact h.mem r hr
        · exact t2 q e
      · rcases List.mem_cons.mp hq with e | e
        · rw [e]; exact ⟨r, List.mem_cons_self, n⟩
        · obtain ⟨u, hu, n⟩ := t3 q e
          exact ⟨u, List.mem_cons_of_mem _ hu, n⟩
  obtain ⟨T, t1, t2, t3⟩ := pick (duos m) fun p hp => hp
  have := h.least T t2 fun i j hi hj hne => by
    rcases Nat.lt_or_gt_of_ne hne with c | c
    · exact t3 (i, j) (duos_mem.mpr ⟨c, hj⟩)
    · obtain ⟨r, hr, n⟩ := t3 (j, i) (duos_mem.mpr ⟨c, hi⟩)
      exact ⟨r, hr, fun e => n e.symm⟩
  have := duos_len hm
  omega
theorem least_nil {k : Kn} {L : List (List Nat)} {p : List (List Nat)} (h : Least (roadsP (sets k) 0) (leftL k L) L.length p) : p = [] := by
  by_cases hm : L.length ≤ 1
  · have := h.least [] (fun r hr => by cases hr) fun i j hi hj hne => by omega
    exact List.eq_nil_of_length_eq_zero (by simpa using this)
  · obtain ⟨r, hr, n⟩ := h.tells 0 1 (by omega) (by omega) (by decide)
    have hr0 := h.mem r hr
    simp only [roadsP, List.mem_singleton] at hr0
    subst hr0
    refine absurd ?_ n
    have e : leftL k L [] = L.map fun _ => ([] : List Nat) := rfl
    rw [e, List.getElem?_map, List.getElem?_map, List.getElem?_eq_getElem (show 0 < L.length by omega), List.getElem?_eq_getElem (show 1 < L.length by omega)]
    rfl
theorem least_srt {k : Kn} {L : List (List Nat)} {n : Nat} {p : List (List Nat)} (hk : Kd k) (hm : L.length ≤ 5) (h : Least (roadsP (sets k) n) (leftL k L) L.length p) : Srt p ∧ p.length ≤ 10 := by
  have h10 := h.few hm
  refine ⟨⟨by omega, ?_⟩, h10⟩
  by_cases hn : n = 0
  · subst hn
    rw [least_nil h]
    exact ⟨1, by decide, fun l hl => by cases hl⟩
  · refine ⟨n, by omega, fun l hl => ?_⟩
    obtain ⟨a, b⟩ := roadsP_ok (sets k) n l (h.mem l hl)
    have := hk.shi
    exact ⟨a, fun x hx => by have := b x hx; omega⟩
theorem keysD_map {α : Type} (e : α → PyData) : ∀ xs : List α, keysD (xs.map e) = xs.map fun x => keyD (e x)
  | [] => rfl
  | x :: xs => by rw [List.map_cons, keysD, keysD_map e xs, List.map_cons]
theorem numsD_map {α : Type} {e : α → PyData} (h : ∀ x, numD (e x) = true) : ∀ xs : List α, numsD (xs.map e) = true
  | [] => rfl
  | x :: xs => by rw [List.map_cons, numsD, h x, numsD_map h xs]; rfl
theorem map_inj {α β : Type} {f : α → β} (hf : ∀ a b, f a = f b → a = b) : ∀ {xs ys : List α}, xs.map f = ys.map f → xs = ys
  | [], [], _ => rfl
  | [], _ :: _, h => by cases h
  | _ :: _, [], h => by cases h
  | x :: xs, y :: ys, h => by
    rw [List.map_cons, List.map_cons] at h
    obtain ⟨h1, h2⟩ := List.cons.inj h
    rw [hf _ _ h1, map_inj hf h2]
theorem keyD_tD {a b : List Nat} (h : keyD (tD a) = keyD (tD b)) : a = b := by
  unfold tD at h
  rw [keyD, keyD, keysD_map, keysD_map] at h
  injection h with h
  exact map_inj (fun x y e => by
    have e : NestedKey.num (x : Int) = .num (y : Int) := e
    injection e with e
    omega) h
theorem keyD_lotD {a b : List (List Nat)} (h : keyD (lotD a) = keyD (lotD b)) : a = b := by
  unfold lotD at h
  rw [keyD, keyD, keysD_map, keysD_map] at h
  injection h with h
  exact map_inj (fun x y e => keyD_tD e) h
theorem tupKey_tD (t : List Nat) : tupKey (tD t) := by
  have := tupKey_ints (iL t)
  unfold iL at this
  rw [List.map_map] at this
  exact this
theorem depthAll_le {α : Type} {e : α → NestedKey} {n : Nat} (h : ∀ x, (e x).depth ≤ n) : ∀ xs : List α, NestedKey.depthAll (xs.map e) ≤ n
  | [] => Nat.zero_le _
  | x :: xs => by
    rw [List.map_cons]
    show max (e x).depth (NestedKey.depthAll (xs.map e)) ≤ n
    exact Nat.max_le.mpr ⟨h x, depthAll_le h xs⟩
theorem tupKey_lotD (l : List (List Nat)) : tupKey (lotD l) := by
  refine ⟨⟨_, rfl⟩, numsD_map (fun t => (tupKey_tD t).2.1) l, ?_⟩
  unfold lotD
  rw [keyD, keysD_map]
  show NestedKey.depthAll (l.map fun x => keyD (tD x)) + 1 ≤ 8
  have : NestedKey.depthAll (l.map fun x => keyD (tD x)) ≤ 1 := depthAll_le (fun t => by
    unfold tD
    rw [keyD, keysD_map]
    show NestedKey.depthAll (t.map fun x => keyD (nD x)) + 1 ≤ 1
    have : NestedKey.depthAll (t.map fun x => keyD (nD x)) ≤ 0 := depthAll_le (e := fun x => keyD (nD x)) (fun x => Nat.le_refl 0) t
    omega) l
  omega
theorem fitsLot_lotD {n : Nat} {L : List (List Nat)} (h1 : 1 ≤ L.length) (h2 : L.length ≤ 12) (hn : L.Nodup) (ho : ∀ t ∈ L, Lt n t ∧ t.length ≤ 6) : fitsLot n (lotD L) = true := by
  show ((isTup (.tuple (L.map tD)) 1 12 && (L.map tD).all fun d => fitsTrain n d) && (((L.map tD).all fun d => decide (lenD d ≤ 6)) && decide ((L.map tD).map keyD).Nodup)) = true
  rw [Bool.and_eq_true, Bool.and_eq_true, Bool.and_eq_true, List.all_eq_true, List.all_eq_true, decide_eq_true_eq]
  refine ⟨⟨?_, fun d hd => ?_⟩, fun d hd => ?_, ?_⟩
  · show (decide ((1 : Int) ≤ ((L.map tD).length : Int)) && decide (((L.map tD).length : Int) ≤ 12)) = true
    rw [List.length_map, decide_eq_true (by omega), decide_eq_true (by omega)]; rfl
  · obtain ⟨t, ht, rfl⟩ := List.mem_map.mp hd
    obtain ⟨a, b⟩ := ho t ht
    show (decide ((t.map nD).length ≤ 60) && (t.map nD).all fun d => isWhole d 0 ((n : Int) - 1)) = true
    rw [List.length_map, decide_eq_true (by omega), Bool.true_and, List.all_eq_true]
    intro d hd
    obtain ⟨x, hx, rfl⟩ := List.mem_map.mp hd
    have := a x hx
    exact whole_nat (by omega)
  · obtain ⟨t, ht, rfl⟩ := List.mem_map.mp hd
    refine decide_eq_true ?_
    show (t.map nD).length ≤ 6
    rw [List.length_map]; exact (ho t ht).2
  · rw [List.map_map]
    exact nodup_map_on hn fun a _ b _ e => keyD_tD e
/-- lots that the law asks for -/
structure Asked (k : Kn) (L : List (List Nat)) : Prop where
  kd : Kd k
  lot : LotOk k L
  nd : L.Nodup
  ok : ∀ t ∈ L, Lt k.length t ∧ t.length ≤ 6
/-- what both searches come to -/
theorem searches {k : Kn} {L : List (List Nat)} (a : Asked k L) (n : Nat) : (∃ f r, bfs (stepN namedP (nmL k L)) goalN (roadsP (sets k) n) f [(List.replicate L.length 0, [])] [List.replicate L.length 0] = some r) ∧
    ∀ f r, bfs (stepN namedP (nmL k L)) goalN (roadsP (sets k) n) f [(List.replicate L.length 0, [])] [List.replicate L.length 0] = some r → match r with
      | some (_, p) => Least (roadsP (sets k) n) (leftL k L) L.length p
      | none => ∀ S : List (List Nat), (∀ r ∈ S, r ∈ roadsP (sets k) n) → ¬ Tells (leftL k L) L.length S := by
  have hR : ∀ r ∈ roadsP (sets k) n, (leftL k L r).length = L.length := fun r _ => by unfold leftL; rw [List.length_map]
  refine ⟨searchN a.lot.lo (nm_named _) fun b hb => by unfold nmL; rw [named_len, hR b hb], fun f r h => ?_⟩
  cases r with
  | none => exact search_roads hR (fun r hr => ker_named _) (nm_named _) h
  | some x =>
    obtain ⟨s, p⟩ := x
    exact search_roads hR (fun r hr => ker_named _) (nm_named _) h
theorem searches2 {k : Kn} {L : List (List Nat)} (a : Asked k L) (n : Nat) {parts : List (List Nat)} (hp : ∀ q, q ∈ parts ↔ q ∈ (roadsP (sets k) n).map fun r => firstP (leftL k L r)) : (∃ f r, bfs (stepN firstP id) goalN parts f [(List.replicate L.length 0, [])] [List.replicate L.length 0] = some r) ∧
    ∀ f r, bfs (stepN firstP id) goalN parts f [(List.replicate L.length 0, [])] [List.replicate L.length 0] = some r → match r with
      | some (_, p) => ∃ S, Least (roadsP (sets k) n) (leftL k L) L.length S ∧ S.length = p.length
      | none => ∀ S : List (List Nat), (∀ r ∈ S, r ∈ roadsP (sets k) n) → ¬ Tells (leftL k L) L.length S := by
  have hR : ∀ r ∈ roadsP (sets k) n, (leftL k L r).length = L.length := fun r _ => by unfold leftL; rw [List.length_map]
  have h2 : ∀ q ∈ parts, ∃ r ∈ roadsP (sets k) n, firstP (leftL k L r) = q := fun q hq => by
    obtain ⟨r, hr, e⟩ := List.mem_map.mp ((hp q).mp hq)
    exact ⟨r, hr, e⟩
  refine ⟨searchN a.lot.lo (nm_first _) fun b hb => ?_, fun f r h => ?_⟩
  · obtain ⟨r, hr, e⟩ := h2 b hb
    rw [id, ← e, first_len, hR r hr]
  · have h1 : ∀ r ∈ roadsP (sets k) n, firstP (leftL k L r) ∈ parts := fun r hr => (hp _).mpr (List.mem_map.mpr ⟨r, hr, rfl⟩)
    cases r with
    | none => exact search_parts hR (fun r hr => ker_first _) h1 h2 (nm_first _) h
    | some x =>
      obtain ⟨s, p⟩ := x
      exact search_parts hR (fun r hr => ker_first _) h1 h2 (nm_first _) h
end Lr
namespace Lr
open PySem PySem.Spec PyProof.Rows L2
theorem map_at {α β : Type} {f g : α → β} : ∀ {xs : List α}, xs.map f = xs.map g → ∀ x ∈ xs, f x = g x
  | [], _, x, hx => by cases hx
  | y :: ys, h, x, hx => by
    rw [List.map_cons, List.map_cons] at h
    obtain ⟨h1, h2⟩ := List.cons.inj h
    rcases List.mem_cons.mp hx with e | e
    · rw [e]; exact h1
    · exact map_at h2 x e
theorem told_apart {k : Kn} {L ms : List (List Nat)} (h : Tells (leftL k L) L.length ms) : (L.map fun t => keyD (lotD (ms.map fun r => (passP k t r).1))).Nodup := by
  rw [nodup_get]
  intro i j hi hj hne e
  rw [List.length_map] at hi hj
  rw [List.getElem?_map, List.getElem?_map, List.getElem?_eq_getElem hi, List.getElem?_eq_getElem hj] at e
  obtain ⟨r, hr, n⟩ := h i j hi hj hne
  have e2 := map_at (keyD_lotD (Option.some.inj e)) r hr
  apply n
  unfold leftL
  rw [List.getElem?_map, List.getElem?_map, List.getElem?_eq_getElem hi, List.getElem?_eq_getElem hj]
  show some (roadP k L[i] r).1 = some (roadP k L[j] r).1
  rw [roadP_passP, roadP_passP, e2]
section
variable {P : Program} {w : World} {K : PySem.W.Frag} {mg : Str → Option Value} {base : Heap}
theorem ask_roads {T : Txt K mg} {C : Addr} {k : Kn} {L : List (List Nat)} {n : Nat} (a : Asked k L) (hn : n ≤ 60) (hp : sets k ^ n ≤ 64) {Q : PyData → Prop} {R : Err → Prop} (hQ : ResOk k L n Q) : p_fewest_roads T C [kD k, lotD L, nD n] Q R := by
  have hL := a.lot.hi
  exact ⟨kD k, lotD L, nD n, rfl, enK.lay k, .inr ⟨k, rfl, a.kd, enLot.lay L, .inr ⟨fitsLot_lotD a.lot.lo (by omega) a.nd a.ok, rfl, .inr ⟨L, n, rfl, rfl, hn, a.lot, .inr ⟨hp, hQ⟩⟩⟩⟩⟩
theorem ask_fewest {k : Kn} {L : List (List Nat)} {n : Nat} (a : Asked k L) (hn : n ≤ 60) (hp : sets k ^ n < 64) {Q : PyData → Prop} (h1 : (∀ S : List (List Nat), (∀ r ∈ S, r ∈ roadsP (sets k) n) → ¬ Tells (leftL k L) L.length S) → Q .none) (h2 : ∀ S, Least (roadsP (sets k) n) (leftL k L) L.length S → Q (nD S.length)) : p_law_fewest [kD k, lotD L, nD n] Q := by
  refine ⟨k, L, n, rfl, a.kd, a.lot.lo, a.lot.hi, fun t ht => ⟨(a.ok t ht).1, by have := (a.ok t ht).2; omega⟩, hn, hp, fun parts _ hm => ?_⟩
  obtain ⟨⟨f, r, hb⟩, hr⟩ := searches2 a n hm
  have hq := hr f r hb
  refine ⟨f, r, hb, fun e => ?_, fun s p e => ?_⟩
  · subst e; exact h1 hq
  · subst e
    obtain ⟨S, s1, s2⟩ := hq
    rw [← s2]; exact h2 S s1
def p_right : FL := fun ds Q => ∃ k L n, ds = [kD k, lotD L, nD n] ∧ Asked k L ∧ n ≤ 60 ∧ sets k ^ n < 64 ∧ Q (.bool true)
theorem ok63 (T : Txt K mg) (M : TmTxt P K mg) : FnOk P w K mg base CX0 6 T.f63 T.fd63 ["_law_kind_here", "_law_lot_here", "_law_number"] (spP p_right) :=
  have G40 := ok40 (P := P) (w := w) (base := base) T M
  have G62 := ok62 (P := P) (w := w) (base := base) T
  have G59 := ok59 (P := P) (w := w) (base := base) T
  have G61 := ok61 (P := P) (w := w) (base := base) T
  have G46 := ok46 (P := P) (w := w) (base := base) T
  okP T.d63.fn sc63 (fun ds Q ⟨_, _, _, h, _⟩ => by rw [h]; rfl) fun z cdv A outer s H E hr => ⟨_,
    (js_cons (js_asg (je_tup (ja_cons (je_callN G40 (hr.mono (by decide)) (by rfl) T.d40.gl T.d40.fn.kp T.d40.bi (ja_cons (je_var _ (pv 0)) (ja_cons (je_var _ (pv 1)) (ja_cons (je_var _ (pv 2)) ja_nil)))) (ja_cons (je_call G62 (hr.mono (by decide)) (by rfl) T.d62.gl T.d62.fn.kp T.d62.bi (ja_cons (je_var _ (pv 0)) (ja_cons (je_var _ (pv 1)) (ja_cons (je_var _ (pv 2)) ja_nil)))) ja_nil))) (jg_tup (n := 2) rfl (jgs_cons (jg_name (i := 3) sc63.nd rfl (.inr rfl)) (jgs_cons (jg_name (i := 4) sc63.nd rfl (.inl rfl)) jgs_nil))))
      (js_cons (js_if (jw_or (jt_isN (je_var _ (pv 3))) (jw_or1 (jt_isN (je_var _ (pv 4))))).pt (js_one (js_ret (je_and (je_isN (je_var _ (pv 3))) (je_one (je_isN (je_var _ (pv 4))))))) js_nil)
      (js_cons (js_set (i := 5) sc63.nd rfl (.inr rfl) (je_call G59 (hr.mono (by decide)) (by rfl) T.d59.gl T.d59.fn.kp T.d59.bi (ja_cons (je_var _ (pv 0)) (ja_cons (je_var _ (pv 2)) ja_nil))))
      (js_cons (js_if (jw_or (jt_not (jt_val (je_isi (T := "tuple") (by rfl) T.b_isinstance (by rfl) T.b_tuple (by decide +kernel) (je_var _ (pv 3))))) (jw_or1 (jt_cmpR (op_neD hr.units) ho_ne (je_lcT (own := [("_law_road", 6)]) rfl sc63.nd (je_var _ (pv 3)) (blkOk_by (by rfl)) (fun _ _ _ _ _ => (jg_name (i := 6) sc63.nd rfl (.inl rfl))) (fun _ _ _ _ _ => (jts_one (jt_cmpR (op_notInD (u65 hr)) ho_notIn (je_var _ (pv 6)) (je_var _ (pv 5)) (by with_unfolding_all rfl)))) (fun _ _ _ _ _ => (je_var _ (pv 6)))) (je_lst ja_nil) (nomark _)))).pt (js_one (js_ret je_bl)) js_nil)
      (js_cons (js_if (jw_or (jt_cmpR (op_neD hr.units) ho_ne (je_callTy call_list_of hoL_list (by rfl) T.b_list (by decide +kernel) (ja_cons (je_var _ (pv 3)) ja_nil)) (je_sortset rfl hr (by rfl) T.b_sorted (by rfl) T.b_set (je_var _ (pv 3))) (nomark _)) (jw_or1 (jt_cmpR (op_neD hr.units) ho_ne (je_callB call_len_seq hoL_len (by rfl) T.b_len (by decide +kernel) (ja_cons (je_var _ (pv 3)) ja_nil)) (je_var _ (pv 4)) (nomark _)))).pt (js_one (js_ret je_bl)) js_nil)
      (js_one (js_ret (je_call G61 (hr.mono (by decide)) (by rfl) T.d61.gl T.d61.fn.kp T.d61.bi (ja_cons (je_lcT (own := [("_law_train", 7)]) rfl sc63.nd (je_var _ (pv 1)) (blkOk_by (by rfl)) (fun _ _ _ _ _ => (jg_name (i := 7) sc63.nd rfl (.inr rfl))) (fun _ _ _ _ _ => jts_nil) (fun _ _ _ _ _ => (je_callTy call_tuple_of hoL_tuple (by rfl) T.b_tuple (by decide +kernel) (ja_cons (je_lcT (own := [("_law_road", 6)]) rfl sc63.nd (je_var _ (pv 3)) (blkOk_by (by rfl)) (fun _ _ _ _ _ => (jg_name (i := 6) sc63.nd rfl (.inl rfl))) (fun _ _ _ _ _ => jts_nil) (fun _ _ _ _ _ => (je_ix (je_call G46 (hr.mono (by decide)) (by rfl) T.d46.gl T.d46.fn.kp T.d46.bi (ja_cons (je_var _ (pv 0)) (ja_cons (je_var _ (pv 7)) (ja_cons (je_var _ (pv 6)) ja_nil)))) je_int))) ja_nil)))) ja_nil))))))))),
    fun ds Q ⟨k, L, n, e, a, hn, hp, h⟩ => by
      subst e
      have hk := a.kd
      have hm5 := a.lot.hi
      obtain ⟨⟨f, r, hb⟩, hr⟩ := searches a n
      have hq := hr f r hb
      refine ⟨_, rfl, _, rfl, _, rfl, ?_⟩
      dsimp only [wNil, wCons, wL]
      refine (ask_roads a hn (by omega) ⟨f, r, hb, fun e => ?_, fun s p e => ?_⟩)
      · subst e
        refine ⟨_, rfl, _, rfl, _, rfl, ?_⟩
        dsimp only [wNil, wCons, wL]
        refine (ask_fewest a hn hp (fun _ => ?_) fun S hS => absurd hS.tells (hq S hS.mem))
        refine ⟨by show 2 ≤ lim; decide, rfl, ?_⟩
        exact ⟨_, rfl, _, rfl, _, rfl, h⟩
      · subst e
        have hq : Least (roadsP (sets k) n) (leftL k L) L.length p := hq
        obtain ⟨srt, p10⟩ := least_srt hk hm5 hq
        refine ⟨srt, fun ms pm pw => ?_⟩
        have mem : ∀ r, r ∈ ms ↔ r ∈ p := fun r => pm.mem_iff
        have lms : ms.length = p.length := pm.length_eq
        have nms : ms.Nodup := pm.nodup_iff.mpr hq.nodup
        have allR : ∀ r ∈ ms, r ∈ roadsP (sets k) n := fun r hr => hq.mem r ((mem r).mp hr)
        have tells : Tells (leftL k L) L.length ms := fun i j hi hj hne => by
          obtain ⟨r, hr, n⟩ := hq.tells i j hi hj hne
          exact ⟨r, (mem r).mpr hr, n⟩
        have srt2 : ∃ n, 1 ≤ n ∧ ∀ l ∈ ms, l.length = n ∧ Lt 64 l := by
          obtain ⟨c, c1, c2⟩ := srt.2
          exact ⟨c, c1, fun l hl => c2 l ((mem l).mp hl)⟩
        refine ⟨_, rfl, _, rfl, _, rfl, ?_⟩
        dsimp only [wNil, wCons, wL]
        refine (ask_fewest a hn hp (fun no => absurd hq.tells (no p hq.mem)) fun S hS => ?_)
        have eS : S.length = ms.length := by
          have q1 := hS.least p hq.mem hq.tells
          have q2 := hq.least S hS.mem hS.tells
          omega
        refine ⟨by show 2 ≤ lim; decide, rfl, ?_⟩
        refine ⟨_, rfl, _, rfl, ?_⟩
        refine ⟨_, rfl, _, rfl, k, n, rfl, hk, hn, by omega, ?_⟩
        refine ⟨_, rfl, enLot.lay ms, true, kit_tuple (lotD ms) (enLot.lay ms), ?_⟩
        refine (show (if (!true) = true then _ else _) from ?_)
        rw [if_neg (by decide)]
        refine ⟨_, rfl, ?_⟩
        refine lc_pick (e := tD) (fun r => decide (r ∉ roadsP (sets k) n)) tD ms [] _ (fun r hr Q2 Q3 h2 h3 => ⟨_, rfl, _, rfl, enT.sh (by decide) r, (enT.lst).sh (by decide) _, ?_⟩) (by rw [List.length_nil]; exact small (by omega)) ?_
        · rw [any_t enT (allR r hr)]
          exact h3 (decide_eq_false fun q => q (allR r hr))
        · have e0 : ms.filter (fun r => decide (r ∉ roadsP (sets k) n)) = [] := List.filter_eq_nil_iff.mpr fun r hr q => of_decide_eq_true q (allR r hr)
          rw [e0, List.map_nil, List.append_nil]
          refine ⟨small (by decide), (enT.lst).sh (by decide) [], (enT.lst).sh (by decide) [], ?_⟩
          refine (show (if (!true) = true then _ else _) from ?_)
          rw [if_neg (by decide)]
          refine ⟨_, rfl, _, rfl, ms, .inr ⟨rfl, by omega⟩, srt2, fun ms2 nd2 mem2 pw2 => ?_⟩
          have e2 : ms = ms2 := sorted_one nms nd2 (fun x => (mem2 x).symm) (fun x hx y hy e => by
            obtain ⟨c, _, c2⟩ := srt2
            exact cN_inj (by rw [(c2 x hx).1, (c2 y hy).1]) (c2 x hx).2 (c2 y hy).2 e) pw pw2
          subst e2
          refine ⟨(enT.lst).sh (by decide) ms, (enT.lst).sh (by decide) ms, ?_⟩
          have q := (enT.lst).eqv ms ms
          rw [show PyData.eqv (.list (ms.map tD)) (.list (ms.map tD)) = true from by rw [q]; exact decide_eq_true rfl]
          refine (show (if (!true) = true then _ else _) from ?_)
          rw [if_neg (by decide)]
          refine ⟨_, rfl, ?_⟩
          dsimp only [wNil, wCons, wL, arg1]
          refine fLen_lot ⟨_, rfl, sh_int _, sh_int _, ?_⟩
          rw [show PyData.eqv (nD ms.length) (nD S.length) = true from by rw [enN.eqv]; exact decide_eq_true eS.symm]
          refine (show (if (!true) = true then _ else _) from ?_)
          rw [if_neg (by decide)]
          refine ⟨_, rfl, ?_⟩
          refine lc_enc (e := tD) (fun t => lotD (ms.map fun r => (passP k t r).1)) L [] _ (fun t ht Z hZ => ⟨_, rfl, ?_⟩) (by rw [List.length_nil]; exact small (by omega)) ?_
          · refine lc_enc (e := tD) (fun r => tD (passP k t r).1) ms [] _ (fun r hr Y hY => ⟨_, rfl, _, rfl, _, rfl, k, t, r, rfl, hk, (a.ok t ht).1, (roadsP_ok _ _ r (allR r hr)).2, by have := (a.ok t ht).2; omega, by have := (roadsP_ok _ _ r (allR r hr)).1; omega, ⟨_, atI0, hY⟩⟩) (by rw [List.length_nil]; exact small (by omega)) ?_
            show Z (.tuple ([] ++ ms.map fun r => tD (passP k t r).1))
            unfold lotD at hZ
            rw [List.map_map] at hZ
            exact hZ
          · refine ⟨_, _, rfl, rfl, by rw [List.nil_append, List.length_map]; omega, .inl ⟨fun x hx => ?_, ?_⟩⟩
            · rw [List.nil_append] at hx
              obtain ⟨t, _, rfl⟩ := List.mem_map.mp hx
              exact tupKey_lotD _
            · rw [List.nil_append, List.map_map, decide_eq_true (show (L.map (keyD ∘ fun t => lotD (ms.map fun r => (passP k t r).1))).Nodup from told_apart tells)]
              exact h⟩
end
end Lr
namespace Lr
open PySem PySem.Spec PyProof.Rows L2
abbrev Suite := Addr → Value → Option Addr → TS
/-- a clause: the class, the name's slot if it has one, the suite's reading -/
structure Cl where
  c : Value
  i : Option Nat
  ts : Suite
def wipeD (i : Nat) (D : Ends) : Ends := { nx := fun τ G => D.nx (τ.set i none) G, rt := D.rt, bk := fun τ G => D.bk (τ.set i none) G, ct := fun τ G => D.ct (τ.set i none) G }
def goCl (l : Cl) (a : Addr) (cls : Value) (d : Option Addr) (D : Ends) (τ : L2.St) (G : Hp) : Prop := match l.i with
  | none => l.ts a cls d D τ G
  | some i => l.ts a cls d (wipeD i D) (τ.set i (some (.ref a))) G
def wMix (K : PySem.W.Frag) (Wo : WX) (D : Ends) : List Cl → WX
  | [] => Wo
  | l :: r => fun cls d τ G => ∃ b, PySem.W.exmOne K cls l.c = some b ∧ (b = true → ∀ a, G a = none → goCl l a cls d D τ G) ∧ (b = false → wMix K Wo D r cls d τ G)
inductive ClOk (X : Cx) : List ExceptHandler → List Cl → Prop
  | nil : ClOk X [] []
  | one {x : Str} {c : Value} {ts : Suite} {b : Stmt} {bs : List Stmt} {p p' : Pos} {hs : List ExceptHandler} {ls : List Cl} (hc : Names X x c)
      (su : ∀ (a : Addr) (oe : Obj) (cls : Value) (d : Option Addr) (pn : List (Addr × Obj)), Zc cls d oe → (∃ vs, oe.data = .fields vs) → PSs (X.suite a ((a, oe) :: pn)) (b :: bs) (ts a cls d)) (r : ClOk X hs ls) : ClOk X (.ExceptHandler (some (.Name x p)) none (b :: bs) p' :: hs) (⟨c, none, ts⟩ :: ls)
  | as {x n : Str} {c : Value} {i : Nat} {ts : Suite} {b : Stmt} {bs : List Stmt} {p p' : Pos} {hs : List ExceptHandler} {ls : List Cl} (hc : Names X x c) (hi : X.N[i]? = some n) (hn : X.env.kindOf n = some .local)
      (su : ∀ (a : Addr) (oe : Obj) (cls : Value) (d : Option Addr) (pn : List (Addr × Obj)), Zc cls d oe → (∃ vs, oe.data = .fields vs) → PSs (X.suite a ((a, oe) :: pn)) (b :: bs) (ts a cls d)) (r : ClOk X hs ls) : ClOk X (.ExceptHandler (some (.Name x p)) (some n) (b :: bs) p' :: hs) (⟨c, some i, ts⟩ :: ls)
/-- what becomes of an exception of the body -/
abbrev mixXe (X : Cx) (pins : List (Addr × Obj)) (D : Ends) (hs : List ExceptHandler) : Value → Shared → Prop := fun e t1 =>
  wpAny (model X.prog X.w) X.A (noteFrame e X.env)
    (fun _ t2 => wpAny (model X.prog X.w) X.A (setFlight e none)
      (fun _ t3 => wpAny (model X.prog X.w) X.A (handleBy e X.env hs) (SP X pins D) X.xe t3) X.xe t2) X.xe t1
section
variable {X : Cx} {body : List Stmt} {h0 : ExceptHandler} {hs : List ExceptHandler} {ls : List Cl} {pos : Pos} {tb : WX → TS} {Wo : WX}
theorem ps_try_mix (hst : X.stack = X.env :: X.outer) (hfr : X.env.frame = some X.env.locals) (hN : X.N.Nodup) (tk : Takes X Wo)
    (hb : ∀ (W : WX) (pn : List (Addr × Obj)) (xe : Value → Shared → Prop), Takes (X.tr pn xe) W → PassesOwn (model X.prog X.w) X.A X.env xe → PSs (X.tr pn xe) body (tb W))
    (hh : ClOk X (h0 :: hs) ls) : PS X (.Try body (h0 :: hs) [] [] pos) (fun D τ G => tb (wMix X.K Wo D ls) D τ G) := by
  refine ⟨fun pins s τ G D I h => wpAny_Try_except ?_⟩
  have ok := I.ok
  have frm : X.A.frames = some (X.env :: X.outer) := ok.frames.trans (congrArg some hst)
  refine wpAny_mono ((hb (wMix X.K Wo D ls) (X.pn ++ pins) (mixXe X pins D (h0 :: hs)) (fun u t xx => ?_) PassesOwn.looking).run [] s τ G D (I.toTry _) h) (fun f t hsp => ?_) fun e t he => he
  · obtain ⟨a, B, sI, pins', τ1, G1, cls, d, rfl, J', nb, up, sky, na, os, ag, w⟩ := xx
    have J : Inv X pins τ1 G1 sI := J'.ofTry ok
    have sk : Sky B (X.env :: X.outer) a (Zc cls d) X.env.locals t.heap := hst ▸ sky
    show wpAny _ X.A (noteFrame (.ref a) X.env) _ _ t
    refine Sky.land Zc.steady frm hfr sk fun h3 fl up3 => ?_
    have there := fl.there
    obtain ⟨oe, vs, he, hz, hd⟩ := there
    have off : ∀ e : Env, e ∈ X.env :: X.outer → e.frame ≠ some a := fun e hm q => by
      obtain ⟨_, o', e', hnf⟩ := fl.2.2.1.mem (List.mem_filterMap.mpr ⟨e, hm, q⟩)
      rw [he] at e'
      cases e'
      exact hnf _ hd
    have nL : a ≠ X.env.locals := fun q => off X.env List.mem_cons_self (by rw [hfr, q])
    have nF : a ∉ X.fs := fun hm => let ⟨e, hm2, q⟩ := List.mem_filterMap.mp hm; off e (List.mem_cons_of_mem _ hm2) q
    have put : ∀ {g : Heap}, _ → sI.heap.UpToSlots g → Inv X pins τ1 G1 { t with heap := g } := fun {g} k u => J.landed nb k u os ag
    have S3 := (put fl.1 (up.trans up3)).suite he hd na nL nF
    have kin : X.K.In h3 := S3.kIn
    have LT : PySem.W.Looks (model X.prog X.w) h3 (typeOf (.ref a)) cls := fun A Q E t k q => wpAny_typeOf_ref (k _ _ he) (by rw [hz.1]; exact q)
    have named : ∀ {x : Str} {c : Value} {p : Pos} {Q E : Value → Shared → Prop}, Names X x c → Q c { t with heap := h3 } → wpAny (model X.prog X.w) (X.A.mark (some (.ref a))) (eval (.Name x p) X.env) Q E { t with heap := h3 } := fun {x c p Q E} hc q => by
      obtain ⟨g1, g2, g3⟩ := hc
      rcases g3 with g3 | ⟨g3, g4, g5⟩
      · exact ld_glob S3 g1 g3 q g2
      · exact ld_blt S3 g1 g3 g4 q g5 g2
    -- the clauses one after the other
    have all : ∀ {hs : List ExceptHandler} {ls : List Cl}, ClOk X hs ls → wMix X.K Wo D ls cls d τ1 G1 → wpAny (model X.prog X.w) X.A (handleBy (.ref a) X.env hs) (SP X pins D) X.xe { t with heap := h3 } := fun {hs ls} ck => by
      induction ck with
      | nil =>
        intro w
        refine wpAny_handleBy_nil ?_
        obtain ⟨_, _, _, o3, vs3, T3, oT, ts3, he3, _, hd3, hT3, _⟩ := id fl
        have out : wpAny (model X.prog X.w) X.A (setFlight (.ref a) X.env.frame) (fun _ s4 => wpAny (model X.prog X.w) X.A (throw (.ref a) : Sem Flow) (SP X pins D) X.xe s4) X.xe { t with heap := h3 } := by
          rw [hfr]
          exact HandSPX.setFlight_upZ fl fun h4 held up4 => wpAny_throw (tk _ _ ⟨a, B, sI, pins, τ1, G1, cls, d, rfl, J, nb, (up.trans up3).trans up4, .inr (.inr (by rw [hst]; exact held)), na, os, ag, w⟩)
        unfold PySem.passOn
        refine wpAny_bind (wpAny_field he3 hd3 hT3 ?_)
        rw [if_neg (by simp)]
        first | exact wpAny_bind out | exact wpAny_bind (wpAny_pure (wpAny_bind out))
      | one hc su r ih =>
        intro ⟨b, hb1, yes, no⟩
        refine wpAny_handleBy_cons (codeAny_handlers_test (named hc ((PySem.W.exm_one (M := model X.prog X.w) kin LT hb1).here ?_))) (by intro q; cases q)
        cases b with
        | false => exact ih (no rfl)
        | true =>
          refine codeAny_handlers_suite (HandSPX.lands_againZ fl fun h4 fl4 up4 => ?_)
          obtain ⟨oe4, vs4, he4, hz4, hd4⟩ := fl4.there
          have S4 := (put fl4.1 ((up.trans up3).trans up4)).suite he4 hd4 na nL nF
          refine wpAny_mono ((su a oe4 cls d (X.pn ++ pins) hz4 ⟨_, hd4⟩).run [] _ _ G1 _ S4 (yes rfl a na)) (fun f s6 hsp => ?_) fun _ _ q => q.elim
          cases f with
          | next => exact let ⟨τ6, G6, S6, q⟩ := hsp; ⟨τ6, G6, S6.unsuite ok, q⟩
          | brk => exact let ⟨τ6, G6, S6, q⟩ := hsp; ⟨τ6, G6, S6.unsuite ok, q⟩
          | cont => exact let ⟨τ6, G6, S6, q⟩ := hsp; ⟨τ6, G6, S6.unsuite ok, q⟩
          | ret u => exact let ⟨v, τ6, G6, S6, r, q⟩ := hsp; ⟨v, τ6, G6, S6.unsuite ok, r, q⟩
      | as hc hi hn su r ih =>
        intro ⟨b, hb1, yes, no⟩
        refine wpAny_handleBy_cons (codeAny_handlers_test (named hc ((PySem.W.exm_one (M := model X.prog X.w) kin LT hb1).here ?_))) (by intro q; cases q)
        cases b with
        | false => exact ih (no rfl)
        | true =>
          refine codeAny_handlers_suite_as (HandSPX.lands_againZ fl fun h4 fl4 up4 => ?_)
          obtain ⟨oe4, vs4, he4, hz4, hd4⟩ := fl4.there
          have S4 := (put fl4.1 ((up.trans up3).trans up4)).suite he4 hd4 na nL nF
          refine store_ok (X := X.suite a ((a, oe4) :: (X.pn ++ pins))) (v := V.ref a) S4 hN hi (.inl hn) rfl (fun s5 S5 => ?_) (.inr hn)
          refine wpAny_mono ((su a oe4 cls d (X.pn ++ pins) hz4 ⟨_, hd4⟩).run [] s5 _ G1 _ S5 (yes rfl a na)) (fun f s6 hsp => ?_) fun _ _ q => q.elim
          cases f with
          | next => exact let ⟨τ6, G6, S6, q⟩ := hsp; gone_ok (S6.unsuite ok) hN hi hn fun s7 J7 => ⟨_, G6, J7, q⟩
          | brk => exact let ⟨τ6, G6, S6, q⟩ := hsp; gone_ok (S6.unsuite ok) hN hi hn fun s7 J7 => ⟨_, G6, J7, q⟩
          | cont => exact let ⟨τ6, G6, S6, q⟩ := hsp; gone_ok (S6.unsuite ok) hN hi hn fun s7 J7 => ⟨_, G6, J7, q⟩
          | ret u => exact let ⟨v, τ6, G6, S6, r, q⟩ := hsp; gone_ok (S6.unsuite ok) hN hi hn fun s7 J7 => ⟨v, _, G6, J7, r, q⟩
    exact all hh w
  · cases f with
    | next => exact let ⟨τ1, G1, J, q⟩ := hsp; wpAny_execs_nil ⟨τ1, G1, J.ofTry ok, q⟩
    | brk => exact let ⟨τ1, G1, J, q⟩ := hsp; ⟨τ1, G1, J.ofTry ok, q⟩
    | cont => exact let ⟨τ1, G1, J, q⟩ := hsp; ⟨τ1, G1, J.ofTry ok, q⟩
    | ret u => exact let ⟨v, τ1, G1, J, r, q⟩ := hsp; ⟨v, τ1, G1, J.ofTry ok, r, q⟩
end
end Lr
namespace Lr
open PySem PySem.Spec PyProof.Rows L2
/-- all but what stands at P is kept -/
def ExP (P : Addr) (H H' : Hp) : Prop := ∀ b o, b ≠ P → H b = some o → H' b = some o
section
variable {X : Cx} {pins : List (Addr × Obj)} {σ : L2.St} {H : Hp} {s : Shared}
abbrev lamQ (X : Cx) : Str := X.env.qual ++ "<lambda>"
theorem lam_make3 {T : List (Addr × Str)} {c P : Addr} {ps : Arguments} {body : Expr} {sc : Scope} {pos : Pos} {E Q : Value → Shared → Prop} (I : Inv X pins σ H s) (TB : LamX.TabB X.base X.mg c P) (hco : X.env.code = .ref c)
    (hm : (P, lamQ X) ∈ T) (hu : ∀ p ∈ T, p.1 = P → p.2 = lamQ X) (hT : LamX.Tabs T H) (hdef : defaultsOf ps X.env = ([], [])) (hfree : ∀ y ∈ sc.names, y.2 = .free → ∃ c, X.env.cells.lookup y.1 = some c)
    (h : ∀ (f c' : Addr) (pm ct : Value) (H1 : Hp) (t : Shared), Inv X pins σ H1 t → ExP P H H1 → LamX.Tabs T H1 → t.heap.get? f = some (PySem.W.kla_obj "<lambda>" (lamQ X) ps body sc (cloFrom X.env.cells sc.names []) pm c' ct) → H1 f = none → f ∉ frs X.stack → H1 c' = some (LamX.CodeO c' (lamQ X)) → Q (.ref f) t) :
    wpAny (model X.prog X.w) X.A (eval (.Lambda ps body sc pos) X.env) Q E s := by
  obtain ⟨tb, hP, trip, among⟩ := hT _ hm
  have bP : s.heap.BuiltinsAt X.mg P := TB.bm.keeps I.bk
  have atP : s.heap.get? P = some { cls := .none, data := .fields tb } := I.hok P _ hP
  have far : ∀ f, s.heap.objs.size ≤ f → f ∉ frs X.stack := fun f hf q => by
    rcases List.mem_cons.mp (I.stkSub _ q) with e | e
    · exact absurd (Nat.lt_of_lt_of_le I.lt hf) (by rw [e]; exact Nat.lt_irrefl _)
    · exact I.nofs hf e
  refine PySem.W.kla_eval hdef ?_
  cases hit : codeAmong pos tb.toList with
  | some cv =>
    obtain ⟨c', rfl, hc'⟩ := among pos cv hit
    refine PySem.W.kla_makeFunctionHit (mg := X.mg) (c := c) (P := P) (ps := tb) (closure_ok hfree) I.ok.glob (I.mod.glob.keeps I.bk) hco (TB.code.keeps I.bk) atP trip hit bP fun ct g tk kp big => ?_
    refine h g.objs.size c' _ ct H _ (I.kept (t' := tk) fun b o e => Heap.get?_push_of_some _ (kp b o e)) (fun _ _ _ e => e) hT (Heap.get?_push_size _ rfl) (I.hok.fresh big) (far _ big) hc'
  | none =>
    refine PySem.W.kla_makeFunction (mg := X.mg) (c := c) (P := P) (ps := tb) (closure_ok hfree) I.ok.glob (I.mod.glob.keeps I.bk) hco (TB.code.keeps I.bk) atP trip hit TB.gP bP fun c' ct g tk kp ge lt rec newP => ?_
    obtain ⟨_, oc, vs, t, e2, hoc, hd, hv⟩ := rec
    cases e2
    have big : s.heap.objs.size ≤ g.objs.size := by omega
    have nC : H c' = none := I.hok.fresh ge
    have J := LamX.inv_table (t' := tk) (more := #[rawInt pos.line, rawInt pos.col, .ref c']) (h' := g.push (PySem.W.kla_obj "<lambda>" (lamQ X) ps body sc (cloFrom X.env.cells sc.names []) ((X.mg "__name__").getD .none) c' ct)) I hP (fun b o ne e => Heap.get?_push_of_some _ (kp b o ne e)) (Heap.get?_push_of_some _ newP) ge ⟨oc, vs, t, Heap.get?_push_of_some _ hoc, hd, hv⟩
    have kept : ExP P H (upd (upd H P (.tbl (tb ++ #[rawInt pos.line, rawInt pos.col, .ref c']))) c' (LamX.CodeO c' (lamQ X))) := fun b o ne e => by rw [upd_ne (ne_of_none e nC), upd_ne ne]; exact e
    have codeK : ∀ {b : Addr} {q : Str}, H b = some (LamX.CodeO b q) → b ≠ P := fun {b q} e z => by rw [z, hP] at e; exact LamX.codeO_ne tb (Option.some.inj e).symm
    have eL : (tb ++ #[rawInt pos.line, rawInt pos.col, .ref c']).toList = tb.toList ++ [rawInt pos.line, rawInt pos.col, .ref c'] := by simp
    have hne : g.objs.size ≠ c' := by omega
    have hPg : g.objs.size ≠ P := fun z => absurd (Nat.lt_of_lt_of_le (Heap.lt_size atP) big) (by rw [z]; exact Nat.lt_irrefl _)
    refine h g.objs.size c' _ ct _ _ J kept (fun p hp => ?_) (Heap.get?_push_size _ rfl) (by rw [upd_ne hne, upd_ne hPg]; exact I.hok.fresh big) (far _ big) upd_same
    by_cases hb : p.1 = P
    · rw [hu p hp hb, hb]
      refine ⟨_, by rw [upd_ne (ne_of_none hP nC), upd_same], by rw [eL]; exact PySem.TriplesOk_snoc _ _ _ _ trip, fun p' cv hcv => ?_⟩
      rw [eL] at hcv
      rcases LamX.among_app _ trip hcv with z | z
      · obtain ⟨c0, a1, a2⟩ := among p' cv z
        exact ⟨c0, a1, kept _ _ (codeK a2) a2⟩
      · exact ⟨c', z, upd_same⟩
    · obtain ⟨qs, a1, a2, a3⟩ := hT p hp
      refine ⟨qs, kept _ _ hb a1, a2, fun p' cv hcv => ?_⟩
      obtain ⟨c0, b1, b2⟩ := a3 p' cv hcv
      exact ⟨c0, b1, kept _ _ (codeK b2) b2⟩
end
def tLam3 (P : Addr) (T : List (Addr × Str)) (TT : (XK → Hp → VK → Prop) → Hp → VK → Prop) (t : XK → TE) : TE := fun σ H Q => LamX.Tabs T H ∧ ∀ H1, ExP P H H1 → LamX.Tabs T H1 → TT (fun E H' Q' => t E σ H' Q') H1 Q
section
variable {X : Cx}
theorem pe_lamcall3 {T : List (Addr × Str)} {TT : (XK → Hp → VK → Prop) → Hp → VK → Prop} {x a : Str} {g c P : Addr} {k : Nat} {pg : Arguments} {bg : List Stmt} {sg : Scope} {dV kV doc pm cdv ct oc : Value} {an od : Option Addr} {osl : Array (Option Value)} {Ng : List Str}
    {ps : Arguments} {body : Expr} {sc : Scope} {t : XK → TE} {p lpos pos : Pos} (hg : Gl X x) (hm : X.mg x = some (.ref g)) (hk : PySem.W.keepIn X.K (.ref g) = true)
    (lk : X.K.lookup g = some ⟨oc, od, .func (PySem.W.fnOf x x pg bg sg dV kV doc pm an cdv ct), osl⟩) (hcg : PySem.W.codeIn X.K cdv x = true) (hb : L2.Binds X.K (PySem.W.fnOf x x pg bg sg dV kV doc pm an cdv ct) [a] []) (Sg : FnScope Ng [a] sg) (hNg : Ng[0]? = some a) (hva : Vis sg a)
    (hG : LamX.GivesTo X Ng x sg g cdv bg a (lamQ X) TT) (TB : LamX.TabB X.base X.mg c P) (hco : X.env.code = .ref c) (hmT : (P, lamQ X) ∈ T) (hu : ∀ p ∈ T, p.1 = P → p.2 = lamQ X) (hr : Room (k + 2) X.A) (L : LamX.LamS X.env.scope sc) (hdef : defaultsOf ps X.env = ([], []))
    (hbind : ∀ (q : Str) (cl : List (Str × Addr)) (pm cv ctv : Value), bindArgs (PySem.W.kla_fn "<lambda>" q ps body sc cl pm cv ctv) ⟨[], []⟩ = pure [])
    (hbody : ∀ (A : Around) (outer : List Env) (s : Shared) (H : Hp) (E : XK) (f c' : Addr), Room k (A.deeper (LamX.lamEnv X sc s.heap.objs.size f c')) → PE (LamX.lamCx X A outer s H E sc f c') body (t E))
    (hdb : (x == ("__debug__" : Str)) = false := by decide) (hd : (a == ("__debug__" : Str)) = false := by decide) (hcd : (a == ("__classdict__" : Str)) = false := by decide) :
    PE X (.Call (.Name x p) [.Lambda ps body sc lpos] [] pos) (tLam3 P T TT t) := by
  refine ⟨fun pins s σ H Q I h => ?_⟩
  obtain ⟨hT, h⟩ := h
  refine wpAny_Call_Name_kw (ld_glob I hg hm (PySem.W.callWith_K (h₀ := X.base) I.ok.mod.kin hk ?_ (by rfl) (by rfl)) hdb)
  show wpAny _ _ (spliced ((false, eval (.Lambda ps body sc lpos) X.env) :: backTo pos (starEach [] X.env))) _ _ s
  refine Calls.spliced_cons (lam_make3 I TB hco hmT hu hT hdef (L.has I.ok) fun f c' pm' ctv H1 s' J kept T1 hf fn nfr cc => Calls.spliced_nil ⟨J.kIn, ?_⟩)
  refine wpAny_call (codeAny_mono (LamX.run_ofS (CX := C8.CX0) (Q := Q) (E := C8.E0) (N := Ng) (ps := [a]) (us := [.ref f]) (vs := [.ref f]) lk hcg Sg hr J.env0 (hb s' [.ref f] J.kIn rfl) (.cons rfl .nil) rfl fun room => ?_) fun r s2 hq => ?_)
  · obtain ⟨t', h1, h2⟩ := hG f c' s' H1 Q (fun E H' Q' => t E σ H' Q') (fun W pn xe E p1 p2 tk hW => LamX.pe_act (i := 0) J L hf fn nfr (hbind _ _ _ _ _) tk hW room (fun A outer s H r2 => hbody A outer s H E f c' r2) hNg hva hd hcd) cc (h H1 kept T1)
    exact ⟨t', h1.nox, h2⟩
  · cases r with
    | error e => exact hq.elim
    | ok fl =>
      cases fl with
      | ret u => exact J.after hq
      | next => exact hq.elim
      | brk => exact hq.elim
      | cont => exact hq.elim
end
end Lr
namespace Lr
open PySem PySem.Spec PyProof.Rows L2
theorem sc60b : FnScope ["_law_call", "e"] ["_law_call"] (defScope (topS 60)) := ⟨rfl, rfl, rfl, by decide +kernel, rfl, by decide +kernel, by decide +kernel⟩
/-- what the top leaves of the exceptions that the law names -/
structure ErrTxt {P : Program} {K : PySem.W.Frag} {mg : Str → Option Value} (T : Txt K mg) (M : TmTxt P K mg) where
  cTrain : Addr
  cRoad : Addr
  cTold : Addr
  cSorts : Addr
  cLatch : Addr
  gTrain : mg "InvalidTrain" = some (.ref cTrain)
  gRoad : mg "InvalidRoad" = some (.ref cRoad)
  gTold : mg "InvalidTold" = some (.ref cTold)
  gSorts : mg "InvalidSorts" = some (.ref cSorts)
  gLatch : mg "LatchError" = some (.ref cLatch)
  kk : PySem.W.exmOne K (.ref T.C_InvalidKind) (.ref T.C_InvalidKind) = some true
  n1 : PySem.W.exmOne K (.ref T.C_InvalidNumber) (.ref T.C_InvalidKind) = some false
  n2 : PySem.W.exmOne K (.ref T.C_InvalidNumber) (.ref cTrain) = some false
  n3 : PySem.W.exmOne K (.ref T.C_InvalidNumber) (.ref cRoad) = some false
  n4 : PySem.W.exmOne K (.ref T.C_InvalidNumber) (.ref T.C_InvalidNumber) = some true
  l1 : PySem.W.exmOne K (.ref T.C_InvalidLot) (.ref T.C_InvalidKind) = some false
  l2 : PySem.W.exmOne K (.ref T.C_InvalidLot) (.ref cTrain) = some false
  l3 : PySem.W.exmOne K (.ref T.C_InvalidLot) (.ref cRoad) = some false
  l4 : PySem.W.exmOne K (.ref T.C_InvalidLot) (.ref T.C_InvalidNumber) = some false
  l5 : PySem.W.exmOne K (.ref T.C_InvalidLot) (.ref T.C_InvalidLot) = some true
  m1 : PySem.W.exmOne K (.ref M.C) (.ref T.C_InvalidKind) = some false
  m2 : PySem.W.exmOne K (.ref M.C) (.ref cTrain) = some false
  m3 : PySem.W.exmOne K (.ref M.C) (.ref cRoad) = some false
  m4 : PySem.W.exmOne K (.ref M.C) (.ref T.C_InvalidNumber) = some false
  m5 : PySem.W.exmOne K (.ref M.C) (.ref T.C_InvalidLot) = some false
  m6 : PySem.W.exmOne K (.ref M.C) (.ref cTold) = some false
  m7 : PySem.W.exmOne K (.ref M.C) (.ref cSorts) = some false
  m8 : PySem.W.exmOne K (.ref M.C) (.ref M.C) = some true
  ga : PySem.W.findIn K (.ref M.C) "__getattribute__" = some (some (.builtin "BaseException.__getattribute__"))
  gg : PySem.W.findIn K (.ref M.C) "__getattr__" = some none
  hd : PySem.W.hasDictIn K M.C = true
inductive Says {P : Program} {K : PySem.W.Frag} {mg : Str → Option Value} (T : Txt K mg) (M : TmTxt P K mg) : Err → Str → Prop
  | kind : Says T M (.of T.C_InvalidKind) "kind"
  | number : Says T M (.of T.C_InvalidNumber) "number"
  | lot : Says T M (.of T.C_InvalidLot) "lot"
  | many : Says T M (.many M.C 64) "many64"
section
variable {X : Cx}
/-- e.limit, e the exception that the suite holds (at a; its class cls, its dict d) -/
def tLim (C : Addr) (a : Addr) (cls : Value) (d : Option Addr) (te : TE) : TE := fun σ H Q => te σ H fun x H1 => x = .ref a ∧ cls = .ref C ∧ ∃ (dd : Addr) (v : V), d = some dd ∧ H1 dd = some (.xd [(("limit" : Str), v)]) ∧ Q v H1
theorem pe_limit {a : Addr} {oe : Obj} {cls : Value} {d : Option Addr} {pn : List (Addr × Obj)} {e : Expr} {te : TE} {pos : Pos} {T : Txt X.K X.mg} {M : TmTxt X.prog X.K X.mg} (Er : ErrTxt T M) (hz : Zc cls d oe) (hf : ∃ vs, oe.data = .fields vs) (he : PE (X.suite a ((a, oe) :: pn)) e te)
    (hb : attributeBase e "limit" X.env (eval e X.env) = eval e X.env := by rfl) : PE (X.suite a ((a, oe) :: pn)) (.Attribute e "limit" pos) (tLim M.C a cls d te) := by
  refine ⟨fun pins s σ H Q I h => attr_of hb (thn (he.run pins s σ H _ I h) fun u s1 ⟨x, H1, I1, rx, q0⟩ => ?_)⟩
  obtain ⟨rfl, rfl, dd, v, rfl, ea, q⟩ := q0
  obtain rfl : u = Value.ref a := rx
  obtain ⟨ha, _⟩ := I1.pin (a, oe) (List.mem_append_left _ List.mem_cons_self)
  obtain ⟨vs, hd⟩ := hf
  obtain ⟨mA, hns, hr⟩ := (show ObjOk X.prog X.w H1 s1.heap dd (.xd [(("limit" : Str), v)]) from I1.hok dd _ ea)
  obtain ⟨od, ho, hl⟩ := lookIn_ns hns
  have l : List.lookup ("limit" : Str) [(("limit" : Str), v)] = some v := by simp [List.lookup]
  obtain ⟨u, hu, ru⟩ := RelO.some_of (v := v) (o := mA "limit") (by rw [← l]; exact hr "limit")
  have J : PySem.W.InstAt s1.heap a oe M.C (some od) := ⟨ha, hz.1, by unfold PySem.W.notCls; rw [hd] <;> rfl, by rw [hz.2]; exact ho⟩
  exact HandSPX.exc_get I1.kIn J Er.ga Er.gg M.ox.exC (PySem.W.findObj_own Er.hd M.noN rfl (by rw [hl, hu])) (handed_of ru) ⟨v, H1, I1.tok _, ru, q⟩
theorem takes_len {X : Cx} {W : WX} (t : Takes X W) : Takes X (fun c d σ H => σ.length = X.N.length → W c d σ H) := fun u s' ⟨a, B, sI, pins, σ, H, cls, d, e, I, nb, up, sky, na, os, ag, w⟩ => t u s' ⟨a, B, sI, pins, σ, H, cls, d, e, I, nb, up, sky, na, os, ag, w I.len⟩
/-- what _law_error makes of the call's reading -/
def TErr {P : Program} {K : PySem.W.Frag} {mg : Str → Option Value} (T : Txt K mg) (M : TmTxt P K mg) : (XK → Hp → VK → Prop) → Hp → VK → Prop := fun tl H Q => tl (fun cls d H' => ∃ e x, ErrAt e cls d H' ∧ Says T M e x ∧ Q (.str x) H') H (fun _ H' => Q (.str "") H')
theorem err_gives {q : Str} {g : Addr} {cdg : Value} {T : Txt X.K X.mg} {M : TmTxt X.prog X.K X.mg} (Er : ErrTxt T M) :
    LamX.GivesTo X ["_law_call", "e"] "_law_error" (defScope (topS 60)) g cdg (defBody (topS 60)) "_law_call" q (TErr T M) := by
  intro f c' s H Q tl act hc h
  let Y := (cxOf C8.CX0 X.prog X.w X.K X.mg X.base ["_law_call", "e"] "_law_error" (defScope (topS 60)) g cdg X.A X.stack s H C8.E0).nox
  refine ⟨_, pss_cons (ps_try_mix (X := Y) (Wo := fun _ _ _ _ => False)
      (tb := fun W D σ H => ∃ Ech : XK, (∀ cls d σ' H', Ech cls d H' → σ'.length = 2 → W cls d σ' H') ∧ σ[0]? = some (some (.ref f)) ∧ H c' = some (LamX.CodeO c' q) ∧ tl Ech H (fun _ H1 => D.nx σ H1))
      rfl rfl sc60b.nd LamX.takes0 (fun W pn xe tk _ => ⟨fun pins s' σ H' D I ⟨Ech, hW, h1, h2, h3⟩ => (pss_one (ps_expr (act _ pn xe Ech _ _ (takes_len tk) hW))).run pins s' σ H' D I ⟨h1, h2, h3⟩⟩)
      (.one (c := .ref T.C_InvalidKind) (ts := fun _ _ _ => tRet (tC (.str "kind"))) ⟨rfl, rfl, .inl T.e_InvalidKind.gl⟩ (fun a oe cls d pn _ _ => pss_one (ps_ret pe_str))
      (.one (c := .ref Er.cTrain) (ts := fun _ _ _ => tRet (tC (.str "train"))) ⟨rfl, rfl, .inl Er.gTrain⟩ (fun a oe cls d pn _ _ => pss_one (ps_ret pe_str))
      (.one (c := .ref Er.cRoad) (ts := fun _ _ _ => tRet (tC (.str "road"))) ⟨rfl, rfl, .inl Er.gRoad⟩ (fun a oe cls d pn _ _ => pss_one (ps_ret pe_str))
      (.one (c := .ref T.C_InvalidNumber) (ts := fun _ _ _ => tRet (tC (.str "number"))) ⟨rfl, rfl, .inl T.e_InvalidNumber.gl⟩ (fun a oe cls d pn _ _ => pss_one (ps_ret pe_str))
      (.one (c := .ref T.C_InvalidLot) (ts := fun _ _ _ => tRet (tC (.str "lot"))) ⟨rfl, rfl, .inl T.e_InvalidLot.gl⟩ (fun a oe cls d pn _ _ => pss_one (ps_ret pe_str))
      (.one (c := .ref Er.cTold) (ts := fun _ _ _ => tRet (tC (.str "told"))) ⟨rfl, rfl, .inl Er.gTold⟩ (fun a oe cls d pn _ _ => pss_one (ps_ret pe_str))
      (.one (c := .ref Er.cSorts) (ts := fun _ _ _ => tRet (tC (.str "sorts"))) ⟨rfl, rfl, .inl Er.gSorts⟩ (fun a oe cls d pn _ _ => pss_one (ps_ret pe_str))
      (.as (c := .ref M.C) (i := 1) (ts := fun a cls d => tRet (tOp (fun x y H Q => ∃ i j, x = .str i ∧ y = .str j ∧ i.length + j.length ≤ sizeLine ∧ Q (.str (i ++ j)) H) (tC (.str "many")) (tCB (fun xs H Q => ∃ i, xs = [.int i] ∧ i.natAbs.log2 < 1920 ∧ Q (.str (toString i)) H) (tCons (tLim M.C a cls d (tVar 1)) tNil)))) ⟨rfl, rfl, .inl M.gl⟩ rfl rfl
        (fun a oe cls d pn hz hf => pss_one (ps_ret (pe_op op_add_str pe_str (pe_callTy (X := Y.suite a ((a, oe) :: pn)) call_str_int (by rfl) T.b_str (by decide +kernel) (pa_cons (X := Y.suite a ((a, oe) :: pn)) (pe_limit (X := Y) (T := T) (M := M) Er hz hf (pe_var (X := Y.suite a ((a, oe) :: pn)) (x := "e") rfl (.inl rfl))) pa_nil)))))
      (.one (c := .ref Er.cLatch) (ts := fun _ _ _ => tRet (tC (.str "other"))) ⟨rfl, rfl, .inl Er.gLatch⟩ (fun a oe cls d pn _ _ => pss_one (ps_ret pe_str)) .nil)))))))))) (pss_one (ps_ret pe_str)), ?_⟩
  refine ⟨fun cls d H' => ∃ e x, ErrAt e cls d H' ∧ Says T M e x ∧ Q (.str x) H', ?_, rfl, hc, h⟩
  rintro cls d σ' H' ⟨e, x, at_, says, q⟩ len
  cases says with
  | kind =>
    obtain ⟨rfl, rfl⟩ := at_
    exact ⟨true, Er.kk, fun _ a _ => q, nofun⟩
  | number =>
    obtain ⟨rfl, rfl⟩ := at_
    refine ⟨false, Er.n1, nofun, fun _ => ⟨false, Er.n2, nofun, fun _ => ⟨false, Er.n3, nofun, fun _ => ⟨true, Er.n4, fun _ a _ => q, nofun⟩⟩⟩⟩
  | lot =>
    obtain ⟨rfl, rfl⟩ := at_
    refine ⟨false, Er.l1, nofun, fun _ => ⟨false, Er.l2, nofun, fun _ => ⟨false, Er.l3, nofun, fun _ => ⟨false, Er.l4, nofun, fun _ => ⟨true, Er.l5, fun _ a _ => q, nofun⟩⟩⟩⟩⟩
  | many =>
    obtain ⟨rfl, dd, rfl, hd⟩ := at_
    refine ⟨false, Er.m1, nofun, fun _ => ⟨false, Er.m2, nofun, fun _ => ⟨false, Er.m3, nofun, fun _ => ⟨false, Er.m4, nofun, fun _ => ⟨false, Er.m5, nofun, fun _ => ⟨false, Er.m6, nofun, fun _ => ⟨false, Er.m7, nofun, fun _ => ⟨true, Er.m8, fun _ a _ => ?_, nofun⟩⟩⟩⟩⟩⟩⟩⟩
    have hs : (σ'.set 1 (some (V.ref a)))[1]? = some (some (V.ref a)) := by rw [List.getElem?_set]; simp [len]
    refine ⟨V.ref a, hs, rfl, rfl, dd, _, rfl, hd, 64, rfl, by decide +kernel, ?_⟩
    exact ⟨"many", Str.ofString (toString (64 : Int)), rfl, rfl, by rw [sizeLine_eq]; decide +kernel, q⟩
end
end Lr
namespace Lr
open PySem PySem.Spec PyProof.Rows L2
theorem CupAt.keep {H H1 : Hp} {P p : Addr} {ps : Array Value} (x : ExP P H H1) (hP : H P = some (.tbl ps)) (h : CupAt H p) : CupAt H1 p := by
  obtain ⟨a, b, h1, h2⟩ := h
  exact ⟨a, b, x p _ (fun e => by rw [e, hP] at h1; cases h1) h1, h2⟩
theorem Core.tabs {z : Cz} {C H H1 : Hp} {P : Addr} {q : Str} (c : Core z C H) (hz : z.tb = [(P, q)]) (x : ExP P H H1) (h1 : LamX.Tabs z.tb H1) : Gw z C H C H1 := by
  have hm : (P, q) ∈ z.tb := by rw [hz]; exact List.mem_singleton.mpr rfl
  have zx : z.ex P := .inr ⟨_, hm, rfl⟩
  obtain ⟨ps, hP, _⟩ := c.ok.2 _ hm
  refine ⟨Ex.rfl, fun a o h => x a o (fun e => ?_) (c.ch a o h), fun a o n h => x a o (fun e => n (e ▸ zx)) h, fun a h n => absurd n h, fun p hp => (c.ok.1 p hp).keep x hP, h1⟩
  rw [e, (c.ex P zx).2] at h
  cases h
def wErr (sy : Err → Str → Prop) (f : FX) (wa : WA) : WE := fun ρ Q => wa ρ fun ds => f ds (fun _ => Q (.str "")) (fun e => ∃ x, sy e x ∧ Q (.str x))
section
variable {X : Cx}
theorem je_err {z : Cz} {P0 c fa : Addr} {fd : FuncData} {ps : List Str} {x : Str} {k : Nat} {T : Txt X.K X.mg} {M : TmTxt X.prog X.K X.mg} {sc : Scope} {wa : WA} {e : Expr} {es : List Expr} {p p2 pos pos2 lpos : Pos} {as : Arguments} {f : FX} {sy : Err → Str → Prop} (hs : sy = Says T M) (Er : ErrTxt T M) (G : FnOk X.prog X.w X.K X.mg X.base (L2.CX X.prog X.w) k fa fd ps (spX f)) (TB : LamX.TabB X.base X.mg c P0) (hco : X.env.code = .ref c) (hz : z.tb = [(P0, lamQ X)]) (hr : Room (k + 2) X.A) (L : LamX.LamS X.env.scope sc)
    (hg : sc.names.lookup x = some .globalImplicit) (hm : X.mg x = some (.ref fa)) (hk : PySem.W.keepIn X.K (.ref fa) = true) (hb : Binds X.K fd ps [])
    (ha : ∀ (A : Around) (outer : List Env) (s : Shared) (H : Hp) (E : XK) (f c' : Addr), PA (LamX.lamCx X A outer s H E sc f c') (e :: es) (lA z wa)) (hdef : defaultsOf as X.env = ([], []) := by rfl)
    (hbind : ∀ (q : Str) (cl : List (Str × Addr)) (pm cv ctv : Value), bindArgs (PySem.W.kla_fn "<lambda>" q as (.Call (.Name x p2) (e :: es) [] pos2) sc cl pm cv ctv) ⟨[], []⟩ = pure [] := by intros; rfl)
    (he : ∀ (A : Around) (outer : List Env) (s : Shared) (H : Hp) (E : XK) (f c' : Addr), starEach (e :: es) (LamX.lamCx X A outer s H E sc f c').env = (false, eval e (LamX.lamCx X A outer s H E sc f c').env) :: starEach es (LamX.lamCx X A outer s H E sc f c').env := by intros; rfl)
    (hpl : ∀ (A : Around) (outer : List Env) (s : Shared) (H : Hp) (E : XK) (f c' : Addr), (backTo pos2 (starEach es (LamX.lamCx X A outer s H E sc f c').env)).any (·.1) = false := by intros; rfl) (hgl : Gl X "_law_error" := by rfl) (hdb : (x == ("__debug__" : Str)) = false := by decide) :
    PE X (.Call (.Name "_law_error" p) [.Lambda as (.Call (.Name x p2) (e :: es) [] pos2) sc lpos] [] pos) (lE z (wErr sy f wa)) := by
  subst hs
  have hmT : (P0, lamQ X) ∈ z.tb := by rw [hz]; exact List.mem_singleton.mpr rfl
  obtain ⟨oc, od, kV, doc, pm, an, cdv, ct, osl, efd, lk, hcd⟩ := T.d60.fn.ex
  rw [efd] at lk
  refine (pe_lamcall3 (P := P0) (T := z.tb) (TT := TErr T M) (a := "_law_call") (Ng := ["_law_call", "e"]) (k := k) (t := fun E => fun σ H Q => lA z wa σ H fun vs H1 => spX f (vs ++ []) H1 Q E)
    hgl T.d60.gl T.d60.fn.kp lk hcd (efd ▸ T.d60.bi) sc60b rfl (.inl rfl) (err_gives Er) TB hco hmT (fun q hq _ => by rw [hz] at hq; rw [List.mem_singleton.mp hq]) hr L hdef hbind (fun A outer s H E f c' hr2 => ?_)).by ?_
  · exact (pe_call (X := LamX.lamCx X A outer s H E sc f c') (E := E) G hr2 hg hm hk hb .nil (passes_call (takes_of rfl rfl rfl rfl) fun _ _ _ _ h => h) (ha A outer s H E f c') hdb (he A outer s H E f c') (hpl A outer s H E f c'))
  · intro σ H Q ⟨C, ρ, Z, core, er, w, kk⟩
    refine ⟨core.ok.2, fun H1 x1 t1 => ?_⟩
    have g1 := core.tabs hz x1 t1
    have c1 := core.gw g1
    refine ⟨C, ρ, _, c1, er.gw g1, w, fun ds vs C2 H2 pf g2 r => ?_⟩
    have c2 := c1.gw g2
    refine ⟨C2, ds, _, _, g2.ch, (by rw [List.append_nil]; exact r), pf, fun d v C3 H3 hz3 g3 r3 => kk (.str "") (.str "") C3 H3 hz3 (g1.tr (g2.tr (g3.gw c2))) (.str ""), fun e2 cls d H3 ⟨x, sy, hx⟩ ex ea => ⟨e2, x, ea, sy, kk (.str x) (.str x) C2 H3 hx (g1.tr (g2.tr (c2.grow ex))) (.str x)⟩⟩
end
end Lr
namespace Lr
open PySem PySem.Spec PyProof.Rows L2
def spCup (K : PySem.W.Frag) : Sp := fun vs H Q _ => ∃ (a : Addr) (ns : List Int), vs = [.ref a] ∧ ns.length ≤ 1000 ∧ SqL K H a (ns.map V.int) ∧ ∀ (H' : Hp) (p : Addr), Ex H H' → H p = none → CupAt H' p → Q (.ref p) H'
theorem first_int (ns : List Int) : ∃ i : Int, atI (ns.map V.int ++ [V.int 0]) 0 = some (V.int i) := by
  cases ns with
  | nil => exact ⟨0, rfl⟩
  | cons n r => exact ⟨n, by unfold atI ixN; rw [if_pos (by omega), if_pos (by simp; omega)]; rfl⟩
theorem er_none {z : Cz} {C H : Hp} (σ : L2.St) : ER z C H σ (List.replicate σ.length none) where
  len := by rw [List.length_replicate]
  at_ := fun i => by
    rw [getD_rep]
    cases σ.getD i none <;> trivial
  ap := fun i j q _ _ h => by
    rw [getD_rep] at h
    cases h
section
variable {P : Program} {w : World} {K : PySem.W.Frag} {mg : Str → Option Value} {base : Heap}
theorem ok42 (T : Txt K mg) : FnOk P w K mg base CX0 1 T.f42 T.fd42 ["_law_script"] (spCup K) :=
  T.d42.fn.ok sc42 (fun vs H Q E ⟨a, ns, h, _⟩ => by rw [h]; rfl) fun cdv A outer s H vs Q E hr ⟨a, ns, e, hl, hS, k⟩ => by
    subst e
    refine ⟨_, pss_cons (ps_asg (pe_callB call_abs (by rfl) T.b_abs (by decide +kernel) (pa_cons (pe_ix ix_seq (pe_op op_cat (pe_callTy call_list_of (by rfl) T.b_list (by decide +kernel) (pa_cons (pe_var (i := 0) rfl (.inl rfl)) pa_nil)) (pe_lst (pa_cons pe_int pa_nil))) pe_int (fun _ _ => rfl)) pa_nil)) (pg_name (i := 1) sc42.nd rfl (.inl rfl)))
      (js_one (z := ⟨none, [], H, fun _ => none, E0, fun _ => False⟩) (js_ret (je_lst (ja_cons (je_if (jt_cmpR op_ge ho_ge (je_var _ (pv 1)) (je_op op_pow ho_pow je_int je_int) (nomark _)) (je_op op_fdiv ho_div (je_var _ (pv 1)) je_int) je_int) (ja_cons (je_op op_addA ho_add (je_op op_mod ho_mod (je_callTy call_int1 hoL_int (by rfl) T.b_int (by decide +kernel) (ja_cons (je_op op_addA ho_add (je_op op_mulA ho_mul (je_var _ (pv 1)) je_int) je_int) ja_nil)) je_int) je_int) ja_nil))))), ?_⟩
    refine ⟨_, rfl, a, ns.map V.int, rfl, .inl hS, fun l hl1 => ⟨by rw [sizeLine_eq]; decide, fun p hp => ⟨l, p, ns.map V.int, [V.int 0], rfl, rfl, ?_, upd_same, ?_, fun q hq => ?_⟩⟩⟩
    · have : l ≠ p := fun e => by rw [e, upd_same] at hp; cases hp
      rw [upd_ne this, upd_same]
    · rw [List.length_map, sizeLine_eq]
      show ns.length + 1 ≤ 16777216
      omega
    · obtain ⟨i, hi⟩ := first_int ns
      refine .inl ⟨q, _, 0, _, rfl, rfl, SqL.of upd_same, hi, i, rfl, ?_⟩
      have hc : ∃ c : Int, c = (if i < 0 then -i else i) ∧ 0 ≤ c := ⟨_, rfl, by split <;> omega⟩
      obtain ⟨c, ec, hc⟩ := hc
      rw [← ec]
      have e3 : Ex H (upd (upd (upd H l (.lst (ns.map V.int))) p (.lst [V.int 0])) q (.lst (ns.map V.int ++ [V.int 0]))) := ((Ex.new hl1).tr (Ex.new hp)).tr (Ex.new hq)
      generalize (upd (upd (upd H l (.lst (ns.map V.int))) p (.lst [V.int 0])) q (.lst (ns.map V.int ++ [V.int 0]))) = H3 at e3 ⊢
      refine ⟨fun _ => none, _, PnR fun d => ∃ x y : Int, d = .list [.int x, .int y] ∧ 0 ≤ x ∧ 0 ≤ y ∧ y < 2 ^ 40, ⟨e3, Ex.rfl, fun _ _ h => (nomatch h), fun _ h => absurd rfl h, fun _ x => (by rcases x with x | ⟨_, x, _⟩ <;> cases x), ⟨fun _ h => (nomatch h), fun _ h => (nomatch h)⟩⟩,
        (er_none [some (.ref a), none]).set (i := 1) (.int c), ?_, ?_⟩
      · have b1 := Int.emod_nonneg (c * 233 + 1811) (show (2077503613 : Int) ≠ 0 by decide)
        have b2 := Int.emod_lt_of_pos (c * 233 + 1811) (show (0 : Int) < 2077503613 by decide)
        have fin : ∀ x : Int, 0 ≤ x → wCons (w2 fAdd (w2 fMod (wL (arg1 fInt) (wCons (w2 fAdd (w2 fMul (wV 1) (wC (PyData.int 233))) (wC (PyData.int 1811))) wNil)) (wC (PyData.int 2077503613))) (wC (PyData.int 113))) wNil [none, some (.d (.int c))] (fun ds => fLst (.int x :: ds) fun d => ∃ x y : Int, d = .list [.int x, .int y] ∧ 0 ≤ x ∧ 0 ≤ y ∧ y < 2 ^ 40) := fun x hx => by
          refine ⟨_, rfl, .inr ⟨by decide, by decide⟩, by decide, ?_⟩
          exact ⟨by show 2 ≤ lim; decide, _, _, rfl, hx, by omega, by omega⟩
        refine ⟨_, rfl, ⟨by decide, by decide, by decide⟩, ?_⟩
        refine (show (if decide ((10 : Int) ^ 18 ≤ c) = true then _ else _) from ?_)
        by_cases hp : (10 : Int) ^ 18 ≤ c
        · rw [if_pos (decide_eq_true hp)]
          exact ⟨_, rfl, ⟨by decide, by decide⟩, fin _ (Int.ediv_nonneg hc (by decide))⟩
        · rw [if_neg (fun q => hp (of_decide_eq_true q))]
          exact fin 0 (by decide)
      · refine ⟨fun _ _ _ _ h => ?_, fun d v C' H' ⟨x, y, ed, h1, h2, h3⟩ co _ rv => ?_, fun _ _ _ _ h => h.elim, fun _ _ _ _ h => h.elim⟩
        · obtain ⟨_, _, h, _⟩ := h
          cases h
        · subst ed
          cases rv with
          | @lst p2 xs _ hx hr =>
            cases hr with
            | cons r1 r2 =>
              cases r1
              cases r2 with
              | cons r3 r4 =>
                cases r3
                cases r4
                exact k H' p2 co.b (co.fr p2 (by rw [hx]; simp) rfl) ⟨x, y, co.ch _ _ hx, h1, h2, h3⟩
end
end Lr
namespace Lr
open PySem PySem.Spec PyProof.Rows L2
def allT (n b : Nat) : List (List Nat) := (List.range (b + 1)).flatMap (univ n)
theorem allT_mem {n b : Nat} {t : List Nat} : t ∈ allT n b ↔ t.length ≤ b ∧ Lt n t := by
  unfold allT
  rw [List.mem_flatMap]
  constructor
  · rintro ⟨m, h1, h2⟩
    have h3 := (univ_mem n m t).mp h2
    have := List.mem_range.mp h1
    exact ⟨by omega, h3.2⟩
  · rintro ⟨h1, h2⟩
    exact ⟨t.length, List.mem_range.mpr (by omega), (univ_mem n t.length t).mpr ⟨rfl, h2⟩⟩
theorem closed_of {k : Kn} (hk : Kd k) {b : Nat} (hb : b ≤ 1000) (hf : (allT k.length b).length ≤ 1000) (hh : ((allT k.length b).map tH).Nodup) : Closed k (allT k.length b) where
  cl := fun t ht s hs => by
    obtain ⟨h1, h2⟩ := allT_mem.mp ht
    obtain ⟨_, h3, h4⟩ := latchP_ok hk t s hs h2
    exact allT_mem.mpr ⟨by rw [h4]; exact h1, h3⟩
  ok := fun t ht => by
    obtain ⟨h1, h2⟩ := allT_mem.mp ht
    exact ⟨h2, by omega⟩
  few := hf
  hsh := hh
theorem asked_of {k : Kn} (hk : Kd k) {b : Nat} (hb : b ≤ 6) (hf : (allT k.length b).length ≤ 1000) (hh : ((allT k.length b).map tH).Nodup) {L : List (List Nat)} (lo : 1 ≤ L.length) (hi : L.length ≤ 5) (nd : L.Nodup) (ok : ∀ t ∈ L, Lt k.length t ∧ t.length ≤ b) : Asked k L where
  kd := hk
  lot := ⟨lo, hi, allT k.length b, closed_of hk (by omega) hf hh, fun t ht => allT_mem.mpr ⟨(ok t ht).2, (ok t ht).1⟩⟩
  nd := nd
  ok := fun t ht => ⟨(ok t ht).1, by have := (ok t ht).2; omega⟩
theorem apart3 : ∀ n : Nat, 1 ≤ n → n ≤ 4 → (allT n 3).length ≤ 1000 ∧ ((allT n 3).map tH).Nodup := by
  intro n h1 h2
  have : n = 1 ∨ n = 2 ∨ n = 3 ∨ n = 4 := by omega
  rcases this with rfl | rfl | rfl | rfl <;> decide +kernel
theorem asked_drawn {k : Kn} {L : List (List Nat)} (hk : Kd k) (h4 : k.length ≤ 4) (d : Drawn k L) : Asked k L :=
  let h := apart3 k.length hk.lo h4
  asked_of hk (by decide) h.1 h.2 d.lo d.hi d.nd d.ok
theorem kd_up : Kd upK := (known_ok upK (by decide)).1
theorem kd_odd : Kd oddK := by decide +kernel
theorem apart5 : (allT upK.length 5).length ≤ 1000 ∧ ((allT upK.length 5).map tH).Nodup := by decide +kernel
theorem asked_up {L : List (List Nat)} (h : (1 ≤ L.length ∧ L.length ≤ 5 ∧ L.Nodup ∧ ∀ t ∈ L, Lt upK.length t ∧ t.length ≤ 5)) : Asked upK L := asked_of kd_up (b := 5) (by decide) apart5.1 apart5.2 h.1 h.2.1 h.2.2.1 h.2.2.2
theorem asked_odd {L : List (List Nat)} (h : (1 ≤ L.length ∧ L.length ≤ 5 ∧ L.Nodup ∧ ∀ t ∈ L, Lt oddK.length t ∧ t.length ≤ 3)) : Asked oddK L :=
  let q := apart3 oddK.length (by decide) (by decide)
  asked_of kd_odd (by decide) q.1 q.2 h.1 h.2.1 h.2.2.1 h.2.2.2
def oneK : Kn := [[(0, 0)]]
theorem kd_one : Kd oneK := by decide +kernel
theorem asked_one : Asked oneK [[]] :=
  let q := apart3 oneK.length (by decide) (by decide)
  asked_of kd_one (by decide) q.1 q.2 (by decide) (by decide) (by decide) (by decide)
def srch (k : Kn) (L : List (List Nat)) (n f : Nat) : Option (Option (List (List Nat))) := (bfs (stepN namedP (nmL k L)) goalN (roadsP (sets k) n) f [(List.replicate L.length 0, [])] [List.replicate L.length 0]).map fun r => r.map (·.2)
theorem res_none {k : Kn} {L : List (List Nat)} {n : Nat} (f : Nat) (h : srch k L n f = some none) {Q : PyData → Prop} (q : Q .none) : ResOk k L n Q := by
  unfold srch at h
  cases e : bfs (stepN namedP (nmL k L)) goalN (roadsP (sets k) n) f [(List.replicate L.length 0, [])] [List.replicate L.length 0] with
  | none => rw [e] at h; cases h
  | some r =>
    cases r with
    | none => exact ⟨f, none, e, fun _ => q, fun s p e => by cases e⟩
    | some x => rw [e] at h; cases h
theorem res_least {k : Kn} {L : List (List Nat)} (a : Asked k L) {n f : Nat} {p : List (List Nat)} (h : srch k L n f = some (some p)) : ∃ s, bfs (stepN namedP (nmL k L)) goalN (roadsP (sets k) n) f [(List.replicate L.length 0, [])] [List.replicate L.length 0] = some (some (s, p)) ∧ Least (roadsP (sets k) n) (leftL k L) L.length p := by
  unfold srch at h
  cases e : bfs (stepN namedP (nmL k L)) goalN (roadsP (sets k) n) f [(List.replicate L.length 0, [])] [List.replicate L.length 0] with
  | none => rw [e] at h; cases h
  | some r =>
    cases r with
    | none => rw [e] at h; cases h
    | some x =>
      obtain ⟨s, p'⟩ := x
      rw [e] at h
      have hp : p' = p := Option.some.inj (Option.some.inj h)
      subst hp
      exact ⟨s, rfl, (searches a n).2 f _ e⟩
theorem res_some {k : Kn} {L : List (List Nat)} (a : Asked k L) {n f : Nat} {p e : List (List Nat)} (h : srch k L n f = some (some p)) (he : e.Nodup ∧ (∀ x ∈ p, x ∈ e) ∧ (∀ x ∈ e, x ∈ p)) (hs : e.Pairwise (fun a b => cN a ≤ cN b)) {Q : PyData → Prop} (q : Q (lotD e)) : ResOk k L n Q := by
  obtain ⟨s, hb, hl⟩ := res_least a h
  have srt := (least_srt a.kd a.lot.hi hl).1
  refine ⟨f, _, hb, (fun e => by cases e), fun s' p' e' => ?_⟩
  cases e'
  refine ⟨srt, fun ms pm pw => ?_⟩
  have e2 : ms = e := sorted_one (pm.nodup_iff.mpr hl.nodup) he.1 (fun x => ⟨fun hx => he.2.1 x (pm.mem_iff.mp hx), fun hx => pm.mem_iff.mpr (he.2.2 x hx)⟩) (fun x hx y hy e3 => by
    obtain ⟨_, c, _, c2⟩ := srt
    have a1 := c2 x (pm.mem_iff.mp hx)
    have a2 := c2 y (pm.mem_iff.mp hy)
    exact cN_inj (by rw [a1.1, a2.1]) a1.2 a2.2 e3) pw hs
  rw [e2]
  exact q
theorem fewest_some {k : Kn} {L : List (List Nat)} (a : Asked k L) {n f m : Nat} (hn : n ≤ 60) (hp : sets k ^ n < 64) (h : (srch k L n f).map (fun r => r.map List.length) = some (some m)) {Q : PyData → Prop} (q : Q (nD m)) : p_law_fewest [kD k, lotD L, nD n] Q := by
  cases e : srch k L n f with
  | none => rw [e] at h; cases h
  | some r =>
    cases r with
    | none => rw [e] at h; cases h
    | some p =>
      rw [e] at h
      have hm : p.length = m := Option.some.inj (Option.some.inj h)
      obtain ⟨s, hb, hl⟩ := res_least a e
      refine ask_fewest a hn hp (fun no => absurd hl.tells (no p hl.mem)) fun S hS => ?_
      have q1 := hS.least p hl.mem hl.tells
      have q2 := hl.least S hS.mem hS.tells
      rw [show S.length = m by omega]
      exact q
def threeL : List (List Nat) := [[0], [1], [2]]
def fourL : List (List Nat) := [[], [0], [0, 0], [0, 0, 0]]
abbrev fiveL : List (List Nat) := fourL ++ [[0, 0, 0, 0]]
theorem c1 : srch oddK threeL 1 50 = some (some [[0], [1]]) := by decide +kernel
theorem c2 : srch upK fourL 1 50 = some none := by decide +kernel
theorem c3 : srch upK [[]] 1 50 = some (some []) := by decide +kernel
theorem c4 : srch upK [[0], []] 0 50 = some none := by decide +kernel
theorem c5 : srch upK [[]] 6 50 = some (some []) := by decide +kernel
theorem c6 : srch oddK [[0], [1]] 1 50 = some (some [[1]]) := by decide +kernel
theorem c7 : srch oddK [[1], [3]] 6 50 = some none := by decide +kernel
theorem c8 : (srch oddK threeL 2 50).map (fun r => r.map List.length) = some (some 2) := by decide +kernel
theorem c9 : (srch upK fiveL 3 50).map (fun r => r.map List.length) = some (some 1) := by decide +kernel
theorem c10 : srch oneK [[]] 60 50 = some (some []) := by decide +kernel
theorem a1 : Asked oddK threeL := asked_odd (by decide)
theorem a2 : Asked upK fourL := asked_up (by decide)
theorem a3 : Asked upK [[]] := asked_up (by decide)
theorem a4 : Asked upK [[0], []] := asked_up (by decide)
theorem a5 : Asked oddK [[0], [1]] := asked_odd (by decide)
theorem a6 : Asked oddK [[1], [3]] := asked_odd (by decide)
theorem a7 : Asked upK fiveL := asked_up (by decide)
theorem a8 : Asked oddK [[0], [1], [2], [0, 2], [2, 0]] := asked_odd (by decide)
theorem a9 : Asked upK [[], [0], [0, 0], [0, 0, 0], [0, 0, 0, 0, 0]] := asked_up (by decide)
end Lr
namespace Lr
open PySem PySem.Spec PyProof.Rows L2
theorem ER.setCup {z : Cz} {C H : Hp} {σ : L2.St} {ρ : Env'} {i : Nat} {p : Addr} (x : ER z C H σ ρ) (h : z.cup = some p) : ER z C H (σ.set i (some (.ref p))) (ρ.set i (some .cup)) where
  len := by simp [x.len]
  at_ := fun j => by
    rw [getD_set, getD_set]
    by_cases e : i = j ∧ j < σ.length
    · rw [if_pos e, if_pos ⟨e.1, by rw [← x.len]; exact e.2⟩]; exact ⟨p, rfl, h⟩
    · rw [if_neg e, if_neg (by rw [← x.len]; exact e)]; exact x.at_ j
  ap := fun j k q n e1 e2 e3 => by
    rw [getD_set] at e1 e2 e3 ⊢
    rw [← x.len] at *
    by_cases ej : i = j ∧ j < σ.length
    · rw [if_pos ej] at e2; cases e2
    · by_cases ek : i = k ∧ k < σ.length
      · rw [if_pos ek]; rfl
      · rw [if_neg ej] at e1 e2; rw [if_neg ek] at e3 ⊢
        exact x.ap j k q n e1 e2 e3
theorem pss_ex {X : Cx} {st : List Stmt} {tb0 : List (Addr × Str)} {b : WS} (h : ∀ z : Cz, z.tb = tb0 → PSs X st (lS z b)) : PSs X st (fun D σ H => ∃ z : Cz, z.tb = tb0 ∧ lS z b D σ H) := ⟨fun pins s σ H D I ⟨z, hz, hs⟩ => (h z hz).run pins s σ H D I hs⟩
theorem lc_none {g : WG} {tt : WT} {te : WE} {ρ : Env'} {acc : List PyData} {P : PyData → Prop} : ∀ (ds : List PyData), (∀ d ∈ ds, ∀ Z : Env' → Bool → Prop, (∀ ρ1, Z ρ1 false) → g d ρ fun ρ1 => tt ρ1 (Z ρ1)) → P (.list acc) → wLc g tt te ρ ds acc P
  | [], _, h => h
  | d :: ds, hd, h => hd d List.mem_cons_self (fun ρ1 b => if b = true then te ρ1 fun y => acc.length ≤ lim ∧ wLc g tt te ρ ds (acc ++ [y]) P else wLc g tt te ρ ds acc P) fun ρ1 => by
    refine (show (if false = true then _ else _) from ?_)
    rw [if_neg (by decide)]
    exact lc_none ds (fun x hx => hd x (List.mem_cons_of_mem _ hx)) h
theorem loop_same {i : Nat} {b : WS} {P : Pn} {ρ0 : Env'} {ds : List PyData} (h0 : ∃ x, ρ0 = ρ0.set i x) (hn : ∀ x, P.nx (ρ0.set i x)) (hb : ∀ d ∈ ds, ∀ K : Env' → Prop, (∀ x, K (ρ0.set i x)) → b { P with nx := K, ct := K, bk := P.nx } (ρ0.set i (some (.d d)))) : sLoop (gN i) b ds P ρ0 := by
  refine sLoop_ind (fun rest ρ => (∀ d ∈ rest, d ∈ ds) ∧ ∃ x, ρ = ρ0.set i x) (fun ρ ⟨_, x, e⟩ => by rw [e]; exact hn x) (fun d rest ρ ⟨h, x, e⟩ K hK => ?_) ds ρ0 ⟨fun _ h => h, h0⟩
  subst e
  show b _ ((ρ0.set i x).set i (some (.d d)))
  rw [List.set_set]
  exact hb d (h d List.mem_cons_self) K fun y => hK _ ⟨fun z hz => h z (List.mem_cons_of_mem _ hz), y, rfl⟩
theorem lc_same {g : WG} {te : WE} {ρ : Env'} {P : PyData → Prop} (y : PyData) (ds : List PyData) (hl : ds.length ≤ 1000) (hd : ∀ d ∈ ds, ∀ Q : PyData → Prop, Q y → g d ρ fun ρ1 => te ρ1 Q) (h : P (.list (List.replicate ds.length y))) : wLc g tTrue te ρ ds [] P := by
  refine lc_rel (fun _ z => z = y) ds [] P (fun d hx Q hQ => hd d hx Q (hQ y rfl)) (by rw [List.length_nil]; exact small (by omega)) fun ys hy => ?_
  have e : ∀ {ds ys : List PyData}, All2 (fun _ z => z = y) ds ys → ys = List.replicate ds.length y := fun {ds ys} a => by
    induction a with
    | nil => rfl
    | cons h1 _ ih => rw [h1, ih]; rfl
  rw [e hy]
  exact h
section
variable {P : Program} {K : PySem.W.Frag} {mg : Str → Option Value}
theorem ask_many {T : Txt K mg} {C : Addr} {k : Kn} {L : List (List Nat)} {n : Nat} (a : Asked k L) (hn : n ≤ 60) (hp : 64 < sets k ^ n) {Q : PyData → Prop} {R : Err → Prop} (h : R (.many C 64)) : p_fewest_roads T C [kD k, lotD L, nD n] Q R := by
  have hL := a.lot.hi
  exact ⟨kD k, lotD L, nD n, rfl, enK.lay k, .inr ⟨k, rfl, a.kd, enLot.lay L, .inr ⟨fitsLot_lotD a.lot.lo (by omega) a.nd a.ok, rfl, .inr ⟨L, n, rfl, rfl, hn, a.lot, .inl ⟨hp, h⟩⟩⟩⟩⟩
theorem ask_kind {T : Txt K mg} {C : Addr} {d v n : PyData} (h1 : PyData.canLay0 d = true) (h2 : fitsKind d = false) {Q : PyData → Prop} {R : Err → Prop} (h : R (.of T.C_InvalidKind)) : p_fewest_roads T C [d, v, n] Q R := ⟨d, v, n, rfl, h1, .inl ⟨h2, h⟩⟩
theorem ask_lot {T : Txt K mg} {C : Addr} {k : Kn} {d n : PyData} (hk : Kd k) (h1 : PyData.canLay0 d = true) (h2 : fitsLot k.length d = false) {Q : PyData → Prop} {R : Err → Prop} (h : R (.of T.C_InvalidLot)) : p_fewest_roads T C [kD k, d, n] Q R := ⟨kD k, d, n, rfl, enK.lay k, .inr ⟨k, rfl, hk, h1, .inl ⟨h2, h⟩⟩⟩
theorem ask_number {T : Txt K mg} {C : Addr} {k : Kn} {L : List (List Nat)} {d : PyData} (a : Asked k L) (h1 : PyData.canLay0 d = true) (h2 : isWhole d 0 60 = false) {Q : PyData → Prop} {R : Err → Prop} (h : R (.of T.C_InvalidNumber)) : p_fewest_roads T C [kD k, lotD L, d] Q R := by
  have hL := a.lot.hi
  exact ⟨kD k, lotD L, d, rfl, enK.lay k, .inr ⟨k, rfl, a.kd, enLot.lay L, .inr ⟨fitsLot_lotD a.lot.lo (by omega) a.nd a.ok, h1, .inl ⟨h2, h⟩⟩⟩⟩
end
abbrev sc64N : List Str := ["_law_script", "_law_cup_here", "_law_turn", "_law_kind_here", "_law_number", "_law_up_here", "_law_four", "_law_odd", "_law_three", "_law_lots", "_law_some_here", "_law_words", "_law_bad"]
abbrev lawX (P : Program) (w : World) (K : PySem.W.Frag) (mg : Str → Option Value) (base : Heap) (f c : Addr) (A : Around) (outer : List Env) (s : Shared) (H : Hp) (E : XK) : Cx := (cxOf CX0 P w K mg base sc64N "law" (defScope (topS 64)) f (.ref c) A outer s H E).nox
theorem ne_lot {a b : List (List Nat)} (h : a = b) {P : PyData → Prop} (hp : P (.bool false)) : fNe (lotD a) (lotD b) P := ⟨enLot.sh (by decide) a, enLot.sh (by decide) b, by
  rw [enLot.eqv, decide_eq_true h]
  exact hp⟩
theorem ne_nat {a b : Nat} (h : a = b) {P : PyData → Prop} (hp : P (.bool false)) : fNe (nD a) (nD b) P := ⟨sh_int _, sh_int _, by
  rw [enN.eqv, decide_eq_true h]
  exact hp⟩
theorem ne_str {a b : Str} (ha : SeqAt.shaped (.str a) = true) (hb : SeqAt.shaped (.str b) = true) (h : PyData.eqv (.str a) (.str b) = true) {P : PyData → Prop} (hp : P (.bool false)) : fNe (.str a) (.str b) P := ⟨ha, hb, by
  rw [h]
  exact hp⟩
theorem seqIf {c : WT} {a rest : WS} {P : Pn} {ρ : Env'} (h1 : ∀ Z : Bool → Prop, Z false → c ρ Z) (h2 : rest P ρ) : sSeq (sIf c a sNext) rest P ρ := h1 _ (by
  refine (show (if false = true then _ else _) from ?_)
  rw [if_neg (by decide)]
  exact h2)
theorem or_f {a b : WT} {ρ : Env'} {Z : Bool → Prop} (h1 : ∀ Z : Bool → Prop, Z false → a ρ Z) (h2 : b ρ Z) : tOrW a b ρ Z := h1 _ (by
  refine (show (if false = true then _ else _) from ?_)
  rw [if_neg (by decide)]
  exact h2)
def spLaw (K : PySem.W.Frag) (P0 : Addr) : Sp := fun vs H Q _ => ∃ (a : Addr) (ns : List Int), vs = [.ref a] ∧ ns.length ≤ 1000 ∧ SqL K H a (ns.map V.int) ∧ H P0 = some (.tbl #[]) ∧ ∀ H', Q (.bl true) H'
section
variable {P : Program} {w : World} {K : PySem.W.Frag} {mg : Str → Option Value} {base : Heap}
theorem ok64 (T : Txt K mg) (M : TmTxt P K mg) (Er : ErrTxt T M) {c P0 : Addr} (hc : T.fd64.code = .ref c) (TB : LamX.TabB base mg c P0) : FnOk P w K mg base CX0 8 T.f64 T.fd64 ["_law_script"] (spLaw K P0) := by
  have G42 := ok42 (P := P) (w := w) (base := base) T
  have G55 := ok55 (P := P) (w := w) (base := base) T
  have G44 := ok44 (P := P) (w := w) (base := base) T
  have G57 := ok57 (P := P) (w := w) (base := base) T
  have G63 := ok63 (P := P) (w := w) (base := base) T M
  have G48 := ok48 (P := P) (w := w) (base := base) T
  have G58 := ok58 (P := P) (w := w) (base := base) T
  have G40 := ok40 (P := P) (w := w) (base := base) T M
  have G62 := ok62 (P := P) (w := w) (base := base) T
  obtain ⟨oc, od, kV, doc, pm, an, cdv, ct, osl, efd, lk, hcd⟩ := T.d64.fn.ex
  have ec : cdv = .ref c := by
    have := hc
    rw [efd] at this
    exact this
  subst ec
  rw [efd] at lk ⊢
  refine fn_of lk hcd sc64 (fun vs H Q E ⟨a, ns, h, _⟩ => by rw [h]; rfl) fun A outer s H vs Q E hr ⟨a, ns, e, hl, hS, hT, k⟩ => ?_
  subst e
  refine ⟨_, (pss_cons (ps_asg (pe_call G42 (hr.mono (by decide)) (by rfl) T.d42.gl T.d42.fn.kp T.d42.bi .nil pass0 (pa_cons (pe_var (i := 0) rfl (.inl rfl)) pa_nil)) (pg_name (i := 1) sc64.nd rfl (.inl rfl)))
    (pss_ex (tb0 := [(P0, lamQ (lawX P w K mg base T.f64 c A outer s H E))]) (fun z hz => (js_cons (js_forR PassesOwn.never rfl (by rfl) T.b_range (ja_cons je_int ja_nil) (jg_name (i := 2) sc64.nd rfl (.inl rfl)) (js_cons (js_set (i := 3) sc64.nd rfl (.inl rfl) (je_callC G55 (hr.mono (by decide)) (by rfl) T.d55.gl T.d55.fn.kp T.d55.bi (pv 1) ja_nil))
      (js_cons (js_set (i := 4) sc64.nd rfl (.inl rfl) (je_callC G44 (hr.mono (by decide)) (by rfl) T.d44.gl T.d44.fn.kp T.d44.bi (pv 1) (ja_cons (je_if (jt_cmpR op_lt ho_lt (je_callB call_len_seq hoL_len (by rfl) T.b_len (by decide +kernel) (ja_cons (je_ix (je_var _ (pv 3)) je_int) ja_nil)) je_int (nomark _)) (je_lst (ja_cons je_int (ja_cons je_int (ja_cons je_int (ja_cons je_int ja_nil))))) (je_lst (ja_cons je_int (ja_cons je_int ja_nil)))) ja_nil)))
      (js_one (js_if (jt_not (jt_val (je_call G63 (hr.mono (by decide)) (by rfl) T.d63.gl T.d63.fn.kp T.d63.bi (ja_cons (je_var _ (pv 3)) (ja_cons (je_callC G57 (hr.mono (by decide)) (by rfl) T.d57.gl T.d57.fn.kp T.d57.bi (pv 1) (ja_cons (je_var _ (pv 3)) (ja_cons je_int ja_nil))) (ja_cons (je_var _ (pv 4)) ja_nil)))))) (js_one (js_ret je_bl)) js_nil)))))
      (js_cons (js_asg (je_tup (ja_cons (je_call0 G48 (hr.mono (by decide)) (by rfl) T.d48.gl T.d48.fn.kp T.d48.bi) (ja_cons (je_tup (ja_cons (je_tup ja_nil) (ja_cons (je_tup (ja_cons je_int ja_nil)) (ja_cons (je_tup (ja_cons je_int (ja_cons je_int ja_nil))) (ja_cons (je_tup (ja_cons je_int (ja_cons je_int (ja_cons je_int ja_nil)))) ja_nil))))) (ja_cons (je_call0 G58 (hr.mono (by decide)) (by rfl) T.d58.gl T.d58.fn.kp T.d58.bi) ja_nil)))) (jg_tup (n := 3) rfl (jgs_cons (jg_name (i := 5) sc64.nd rfl (.inr rfl)) (jgs_cons (jg_name (i := 6) sc64.nd rfl (.inr rfl)) (jgs_cons (jg_name (i := 7) sc64.nd rfl (.inl rfl)) jgs_nil)))))
      (js_cons (js_set (i := 8) sc64.nd rfl (.inl rfl) (je_tup (ja_cons (je_tup (ja_cons je_int ja_nil)) (ja_cons (je_tup (ja_cons je_int ja_nil)) (ja_cons (je_tup (ja_cons je_int ja_nil)) ja_nil)))))
      (js_cons (js_if (jw_or (jt_cmpR (op_neD hr.units) ho_ne (je_callN G40 (hr.mono (by decide)) (by rfl) T.d40.gl T.d40.fn.kp T.d40.bi (ja_cons (je_var _ (pv 7)) (ja_cons (je_var _ (pv 8)) (ja_cons je_int ja_nil)))) (je_tup (ja_cons (je_tup (ja_cons je_int ja_nil)) (ja_cons (je_tup (ja_cons je_int ja_nil)) ja_nil))) (nomark _)) (jw_or1 (jt_notN (je_callN G40 (hr.mono (by decide)) (by rfl) T.d40.gl T.d40.fn.kp T.d40.bi (ja_cons (je_var _ (pv 5)) (ja_cons (je_var _ (pv 6)) (ja_cons je_int ja_nil))))))).pt (js_one (js_ret je_bl)) js_nil)
      (js_cons (js_if (jw_or (jt_cmpR (op_neD hr.units) ho_ne (je_callN G40 (hr.mono (by decide)) (by rfl) T.d40.gl T.d40.fn.kp T.d40.bi (ja_cons (je_var _ (pv 5)) (ja_cons (je_slice po_none (po_some pe_int) (fun _ _ _ => el_no) (fun _ _ _ => el_int) (je_var _ (pv 6))) (ja_cons je_int ja_nil)))) (je_tup ja_nil) (nomark _)) (jw_or (jt_notN (je_callN G40 (hr.mono (by decide)) (by rfl) T.d40.gl T.d40.fn.kp T.d40.bi (ja_cons (je_var _ (pv 5)) (ja_cons (je_tup (ja_cons (je_tup (ja_cons je_int ja_nil)) (ja_cons (je_tup ja_nil) ja_nil))) (ja_cons je_int ja_nil))))) (jw_or1 (jt_not (jt_val (je_call G63 (hr.mono (by decide)) (by rfl) T.d63.gl T.d63.fn.kp T.d63.bi (ja_cons (je_var _ (pv 5)) (ja_cons (je_var _ (pv 6)) (ja_cons je_int ja_nil))))))))).pt (js_one (js_ret je_bl)) js_nil)
      (js_cons (js_if (jt_cmpR (op_neD hr.units) ho_ne (je_err (X := (lawX P w K mg base T.f64 c A outer s H E)) (T := T) (M := M) (sy := Says T M) rfl Er G40 TB rfl hz (hr.mono (by decide)) (LamX.lamS_by (by rfl)) (by rfl) T.d40.gl T.d40.fn.kp T.d40.bi (fun _ _ _ _ _ _ _ => (ja_cons (je_var _ (pv 5)) (ja_cons (je_tup (ja_cons (je_tup ja_nil) ja_nil)) (ja_cons je_int ja_nil))))) je_str (nomark _)) (js_one (js_ret je_bl)) js_nil)
      (js_cons (js_if (jw_or (jt_cmpR (op_neD hr.units) ho_ne (je_callN G40 (hr.mono (by decide)) (by rfl) T.d40.gl T.d40.fn.kp T.d40.bi (ja_cons (je_var _ (pv 7)) (ja_cons (je_tup (ja_cons (je_tup (ja_cons je_int ja_nil)) (ja_cons (je_tup (ja_cons je_int ja_nil)) ja_nil))) (ja_cons je_int ja_nil)))) (je_tup (ja_cons (je_tup (ja_cons je_int ja_nil)) ja_nil)) (nomark _)) (jw_or1 (jt_notN (je_callN G40 (hr.mono (by decide)) (by rfl) T.d40.gl T.d40.fn.kp T.d40.bi (ja_cons (je_var _ (pv 7)) (ja_cons (je_tup (ja_cons (je_tup (ja_cons je_int ja_nil)) (ja_cons (je_tup (ja_cons je_int ja_nil)) ja_nil))) (ja_cons je_int ja_nil))))))).pt (js_one (js_ret je_bl)) js_nil)
      (js_cons (js_if (jw_or (jt_cmpR (op_neD hr.units) ho_ne (je_call G62 (hr.mono (by decide)) (by rfl) T.d62.gl T.d62.fn.kp T.d62.bi (ja_cons (je_var _ (pv 7)) (ja_cons (je_var _ (pv 8)) (ja_cons je_int ja_nil)))) je_int (nomark _)) (jw_or1 (jt_cmpR (op_neD hr.units) ho_ne (je_call G62 (hr.mono (by decide)) (by rfl) T.d62.gl T.d62.fn.kp T.d62.bi (ja_cons (je_var _ (pv 5)) (ja_cons (je_op op_addA ho_add (je_var _ (pv 6)) (je_tup (ja_cons (je_op op_repTA ho_repT (je_tup (ja_cons je_int ja_nil)) je_int) ja_nil))) (ja_cons je_int ja_nil)))) je_int (nomark _)))).pt (js_one (js_ret je_bl)) js_nil)
      (js_cons (js_set (i := 9) sc64.nd rfl (.inl rfl) (je_lst (ja_cons (je_tup (ja_cons (je_var _ (pv 7)) (ja_cons (je_var _ (pv 8)) (ja_cons je_int ja_nil)))) (ja_cons (je_tup (ja_cons (je_var _ (pv 5)) (ja_cons (je_op op_addA ho_add (je_var _ (pv 6)) (je_tup (ja_cons (je_op op_repTA ho_repT (je_tup (ja_cons je_int ja_nil)) je_int) ja_nil))) (ja_cons je_int ja_nil)))) (ja_cons (je_tup (ja_cons (je_var _ (pv 7)) (ja_cons (je_op op_addA ho_add (je_var _ (pv 8)) (je_tup (ja_cons (je_tup (ja_cons je_int (ja_cons je_int ja_nil))) (ja_cons (je_tup (ja_cons je_int (ja_cons je_int ja_nil))) ja_nil)))) (ja_cons je_int ja_nil)))) (ja_cons (je_tup (ja_cons (je_var _ (pv 7)) (ja_cons (je_op op_addA ho_add (je_var _ (pv 8)) (je_tup (ja_cons (je_tup (ja_cons je_int (ja_cons je_int ja_nil))) (ja_cons (je_tup (ja_cons je_int (ja_cons je_int ja_nil))) ja_nil)))) (ja_cons je_int ja_nil)))) (ja_cons (je_tup (ja_cons (je_var _ (pv 5)) (ja_cons (je_op op_addA ho_add (je_var _ (pv 6)) (je_tup (ja_cons (je_op op_repTA ho_repT (je_tup (ja_cons je_int ja_nil)) je_int) ja_nil))) (ja_cons je_int ja_nil)))) ja_nil)))))))
      (js_cons (js_if (jt_cmpR (op_neD hr.units) ho_ne (je_lcL (own := [("_law_some_here", 10)]) rfl sc64.nd (je_var _ (pv 9)) (blkOk_by (by rfl)) (fun _ _ _ _ _ => (jg_name (i := 10) sc64.nd rfl (.inl rfl))) (fun _ _ _ _ _ => (jts_one (jt_not (jt_val (je_call G63 (hr.mono (by decide)) (by rfl) T.d63.gl T.d63.fn.kp T.d63.bi (ja_cons (je_ix (je_var _ (pv 10)) je_int) (ja_cons (je_ix (je_var _ (pv 10)) je_int) (ja_cons (je_ix (je_var _ (pv 10)) je_int) ja_nil)))))))) (fun _ _ _ _ _ => (je_var _ (pv 10)))) (je_lst ja_nil) (nomark _)) (js_one (js_ret je_bl)) js_nil)
      (js_cons (js_setO (i := 11) sc64.nd rfl (.inl rfl) (jo_lst (ja_cons (je_err (X := (lawX P w K mg base T.f64 c A outer s H E)) (T := T) (M := M) (sy := Says T M) rfl Er G40 TB rfl hz (hr.mono (by decide)) (LamX.lamS_by (by rfl)) (by rfl) T.d40.gl T.d40.fn.kp T.d40.bi (fun _ _ _ _ _ _ _ => (ja_cons (je_var _ (pv 5)) (ja_cons (je_var _ (pv 6)) (ja_cons je_int ja_nil))))) ja_nil)))
      (js_cons (js_app (pv 11) (je_err (X := (lawX P w K mg base T.f64 c A outer s H E)) (T := T) (M := M) (sy := Says T M) rfl Er G40 TB rfl hz (hr.mono (by decide)) (LamX.lamS_by (by rfl)) (by rfl) T.d40.gl T.d40.fn.kp T.d40.bi (fun _ _ _ _ _ _ _ => (ja_cons (je_var _ (pv 5)) (ja_cons (je_tup (ja_cons (je_tup ja_nil) ja_nil)) (ja_cons je_int ja_nil))))))
      (js_cons (js_if (jt_neO hr (pv 11) (je_op op_mulA ho_mul (je_lst (ja_cons je_str ja_nil)) je_int) (nomark _)) (js_one (js_ret je_bl)) js_nil)
      (js_cons (js_if (jt_cmpR (op_neD hr.units) ho_ne (je_callN G40 (hr.mono (by decide)) (by rfl) T.d40.gl T.d40.fn.kp T.d40.bi (ja_cons (je_tup (ja_cons (je_tup (ja_cons (je_tup (ja_cons je_int (ja_cons je_int ja_nil))) ja_nil)) ja_nil)) (ja_cons (je_tup (ja_cons (je_tup ja_nil) ja_nil)) (ja_cons je_int ja_nil)))) (je_tup ja_nil) (nomark _)) (js_one (js_ret je_bl)) js_nil)
      (js_cons (js_forT PassesOwn.never rfl (je_tup (ja_cons je_non (ja_cons (je_tup ja_nil) (ja_cons (je_tup (ja_cons (je_tup (ja_cons je_int (ja_cons je_int ja_nil))) ja_nil)) (ja_cons (je_tup (ja_cons (je_tup (ja_cons je_int ja_nil)) (ja_cons (je_tup (ja_cons je_int ja_nil)) ja_nil))) (ja_cons (je_lst (ja_cons (je_tup (ja_cons je_int ja_nil)) ja_nil)) ja_nil)))))) (jg_name (i := 12) sc64.nd rfl (.inr rfl)) (js_one (js_if (jt_cmpR (op_neD hr.units) ho_ne (je_err (X := (lawX P w K mg base T.f64 c A outer s H E)) (T := T) (M := M) (sy := Says T M) rfl Er G40 TB rfl hz (hr.mono (by decide)) (LamX.lamS_by (by rfl)) (by rfl) T.d40.gl T.d40.fn.kp T.d40.bi (fun _ _ _ _ _ _ _ => (ja_cons (je_var _ (pv 5)) (ja_cons (je_var _ (pv 12)) (ja_cons je_non ja_nil))))) je_str (nomark _)) (js_one (js_ret je_bl)) js_nil)))
      (js_cons (js_forT PassesOwn.never rfl (je_tup (ja_cons je_non (ja_cons (je_un un_neg ho_neg je_int) (ja_cons je_int (ja_cons je_bl (ja_cons je_str ja_nil)))))) (jg_name (i := 12) sc64.nd rfl (.inr rfl)) (js_one (js_if (jt_cmpR (op_neD hr.units) ho_ne (je_err (X := (lawX P w K mg base T.f64 c A outer s H E)) (T := T) (M := M) (sy := Says T M) rfl Er G40 TB rfl hz (hr.mono (by decide)) (LamX.lamS_by (by rfl)) (by rfl) T.d40.gl T.d40.fn.kp T.d40.bi (fun _ _ _ _ _ _ _ => (ja_cons (je_var _ (pv 5)) (ja_cons (je_var _ (pv 6)) (ja_cons (je_var _ (pv 12)) ja_nil))))) je_str (nomark _)) (js_one (js_ret je_bl)) js_nil)))
      (js_one (js_ret (je_cmpR (op_eqD hr.units) ho_eq (je_lcT (own := [("_law_bad", 12)]) rfl sc64.nd (je_tup (ja_cons je_non (ja_cons (je_tup ja_nil) (ja_cons (je_slice po_none (po_some pe_int) (fun _ _ _ => el_no) (fun _ _ _ => el_int) (je_var _ (pv 5))) (ja_cons (je_lst (ja_cons (je_var _ (pv 5)) ja_nil)) ja_nil))))) (blkOk_by (by rfl)) (fun _ _ _ _ _ => (jg_name (i := 12) sc64.nd rfl (.inr rfl))) (fun _ _ _ _ _ => jts_nil) (by exact fun s5 H5 C5 cl5 fp5 => (je_err (X := ((lawX P w K mg base T.f64 c A outer s H E).blk s5 H5 _ (compEnvC _ cl5 C5 (lawX P w K mg base T.f64 c A outer s H E).env) fp5)) (T := T) (M := M) (sy := Says T M) rfl Er G40 TB rfl hz (hr.mono (by decide)) (LamX.lamS_by (by rfl)) (by rfl) T.d40.gl T.d40.fn.kp T.d40.bi (fun _ _ _ _ _ _ _ => (ja_cons (je_var _ (pv 12)) (ja_cons je_non (ja_cons je_non ja_nil))))))) (je_op op_mulA ho_mul (je_lst (ja_cons je_str ja_nil)) je_int) (nomark _))))))))))))))))))))))).nox, ?_⟩
  refine ⟨_, rfl, a, ns, rfl, hl, hS, fun H' p ex hp cup => ⟨⟨some p, [(P0, lamQ (lawX P w K mg base T.f64 c A outer s H E))], fun _ => none, fun _ => none, E0, fun _ => False⟩, rfl, fun _ => none, _, PnR fun d => d = .bool true, ?_, (er_none (L2.start sc64N [.ref a])).setCup (i := 1) rfl, ?_, ?_⟩⟩
  · refine ⟨fun _ _ h => (nomatch h), Ex.rfl, fun _ _ h => (nomatch h), fun _ h => absurd rfl h, fun _ _ => ⟨rfl, rfl⟩, fun q hq => ?_, fun q hq => ?_⟩
    · cases hq; exact cup
    · rw [List.mem_singleton.mp hq]
      exact ⟨#[], ex _ _ hT, by trivial, fun pos cv h => (nomatch h)⟩
  · have e0 : ((List.replicate (L2.start sc64N [V.ref a]).length none).set 1 (some En.cup) : Env') = [none, some .cup, none, none, none, none, none, none, none, none, none, none, none] := rfl
    rw [e0]
    refine ⟨by show (0 : Int) ≤ 4; decide, by show (4 : Int) ≤ (10000000 : Nat); decide, ?_⟩
    refine sLoop_ind (fun rest ρ => ∃ (i : Nat) (x2 x3 x4 : Option En), i ≤ 4 ∧ rest = (nums 4).drop i ∧ ρ = [none, some .cup, x2, x3, x4, none, none, none, none, none, none, none, none]) ?_ ?_ _ _ ⟨0, none, none, none, by omega, rfl, rfl⟩
    · rintro ρ ⟨i, x2, x3, x4, hi, e1, rfl⟩
      refine ⟨rfl, ?_⟩
      repeat' first | refine ⟨small (by decide), ?_⟩ | fail
      refine ⟨rfl, ?_⟩
      refine ⟨small (by decide), ?_⟩
      refine ⟨rfl, ?_⟩
      repeat' first | refine ⟨small (by decide), ?_⟩ | fail
      dsimp only [gN, List.set]
      refine seqIf (fun Z hz => ?_) ?_
      · refine or_f (fun Z hz => ?_) ?_
        · refine ⟨_, rfl, _, rfl, ?_⟩
          dsimp only [wNil, wCons, wL, wC]
          refine ask_roads (k := oddK) (L := threeL) (n := 1) a1 (by decide) (by decide) (res_some a1 c1 (e := [[0], [1]]) (by decide) (by decide +kernel) ?_)
          repeat' first | refine ⟨small (by decide), ?_⟩ | fail
          exact ne_lot (a := [[0], [1]]) (b := [[0], [1]]) rfl hz
        · refine ⟨_, rfl, _, rfl, ?_⟩
          dsimp only [wNil, wCons, wL, wC]
          exact ask_roads (k := upK) (L := fourL) (n := 1) a2 (by decide) (by decide) (res_none 50 c2 hz)
      refine seqIf (fun Z hz => ?_) ?_
      · refine or_f (fun Z hz => ?_) ?_
        · refine ⟨_, rfl, _, rfl, ?_⟩
          dsimp only [wNil, wCons, wL, wC, fSlice]
          refine ask_roads (k := upK) (L := [[]]) (n := 1) a3 (by decide) (by decide) (res_some a3 c3 (e := []) (by decide) (by decide +kernel) ?_)
          refine ⟨small (by decide), ?_⟩
          exact ne_lot (a := []) (b := []) rfl hz
        · refine or_f (fun Z hz => ?_) ?_
          · refine ⟨_, rfl, ?_⟩
            repeat' first | refine ⟨small (by decide), ?_⟩ | fail
            dsimp only [wNil, wCons, wL, wC]
            exact ask_roads (k := upK) (L := [[0], []]) (n := 0) a4 (by decide) (by decide) (res_none 50 c4 hz)
          · exact ⟨_, rfl, _, rfl, upK, fourL, 2, rfl, a2, by decide, by decide, hz⟩
      -- _law_error of a lot that is told
      refine seqIf (fun Z hz => ?_) ?_
      · refine ⟨_, rfl, ?_⟩
        repeat' first | refine ⟨small (by decide), ?_⟩ | fail
        dsimp only [wNil, wCons, wL, wC]
        refine ask_roads (k := upK) (L := [[]]) (n := 6) a3 (by decide) (by decide) (res_some a3 c5 (e := []) (by decide) (by decide +kernel) ?_)
        exact ne_str (by decide +kernel) (by decide +kernel) (by decide +kernel) hz
      -- fewest_roads, two more
      refine seqIf (fun Z hz => ?_) ?_
      · refine or_f (fun Z hz => ?_) ?_
        · refine ⟨_, rfl, ?_⟩
          repeat' first | refine ⟨small (by decide), ?_⟩ | fail
          dsimp only [wNil, wCons, wL, wC]
          refine ask_roads (k := oddK) (L := [[0], [1]]) (n := 1) a5 (by decide) (by decide) (res_some a5 c6 (e := [[1]]) (by decide) (by decide +kernel) ?_)
          repeat' first | refine ⟨small (by decide), ?_⟩ | fail
          exact ne_lot (a := [[1]]) (b := [[1]]) rfl hz
        · refine ⟨_, rfl, ?_⟩
          repeat' first | refine ⟨small (by decide), ?_⟩ | fail
          dsimp only [wNil, wCons, wL, wC]
          exact ask_roads (k := oddK) (L := [[1], [3]]) (n := 6) a6 (by decide) (by decide) (res_none 50 c7 hz)
      -- _law_fewest
      refine seqIf (fun Z hz => ?_) ?_
      · refine or_f (fun Z hz => ?_) ?_
        · refine ⟨_, rfl, _, rfl, ?_⟩
          dsimp only [wNil, wCons, wL, wC]
          refine fewest_some (k := oddK) (L := threeL) (n := 2) (f := 50) (m := 2) a1 (by decide) (by decide) c8 ?_
          exact ne_nat (a := 2) (b := 2) rfl hz
        · refine ⟨_, rfl, _, rfl, ?_⟩
          refine ⟨small (by decide), ?_⟩
          refine ⟨by decide, by decide, by simp, by decide, ?_⟩
          refine ⟨small (by decide), small (by decide), ?_⟩
          dsimp only [wNil, wCons, wL, wC]
          refine fewest_some (k := upK) (L := fiveL) (n := 3) (f := 50) (m := 1) a7 (by decide) (by decide) c9 ?_
          exact ne_nat (a := 1) (b := 1) rfl hz
      -- the lots
      refine ⟨_, rfl, _, rfl, small (by decide), ?_⟩
      refine ⟨_, rfl, _, rfl, small (by decide), ⟨by decide, by decide, by simp, by decide, small (by decide), small (by decide), small (by decide), ?_⟩⟩
      refine ⟨_, rfl, _, rfl, small (by decide), small (by decide), small (by decide), small (by decide), small (by decide), ?_⟩
      refine ⟨_, rfl, _, rfl, small (by decide), small (by decide), small (by decide), small (by decide), small (by decide), ?_⟩
      refine ⟨_, rfl, _, rfl, small (by decide), ⟨by decide, by decide, by simp, by decide, small (by decide), small (by decide), small (by decide), ?_⟩⟩
      refine ⟨small (by decide), ?_⟩
      dsimp only [gN, List.set]
      refine seqIf (fun Z hz => ?_) ?_
      · refine ⟨_, rfl, ?_⟩
        refine lc_none _ (fun d hd Y hY => ?_) ?_
        · have all : ∃ (k : Kn) (L : List (List Nat)) (n : Nat), d = .tuple [kD k, lotD L, nD n] ∧ Asked k L ∧ n ≤ 60 ∧ sets k ^ n < 64 := by
            rcases List.mem_cons.mp hd with e | hd
            · exact ⟨oddK, threeL, 2, e, a1, by decide, by decide⟩
            rcases List.mem_cons.mp hd with e | hd
            · exact ⟨upK, fiveL, 3, e, a7, by decide, by decide⟩
            rcases List.mem_cons.mp hd with e | hd
            · exact ⟨oddK, [[0], [1], [2], [0, 2], [2, 0]], 1, e, a8, by decide, by decide⟩
            rcases List.mem_cons.mp hd with e | hd
            · exact ⟨oddK, [[0], [1], [2], [0, 2], [2, 0]], 2, e, a8, by decide, by decide⟩
            · exact ⟨upK, [[], [0], [0, 0], [0, 0, 0], [0, 0, 0, 0, 0]], 4, List.mem_singleton.mp hd, a9, by decide, by decide⟩
          obtain ⟨k', L, n, rfl, ha, hn, hp⟩ := all
          exact ⟨_, rfl, _, atI_nat (j := 0) rfl, _, rfl, _, atI_nat (j := 1) rfl, _, rfl, _, atI_nat (j := 2) rfl, k', L, n, rfl, ha, hn, hp, hY _⟩
        · exact ⟨small (by decide), (enT.lst).sh (by decide) [], (enT.lst).sh (by decide) [], hz⟩
      -- too many roads, twice
      refine ⟨_, rfl, _, rfl, ?_⟩
      dsimp only [wErr, wNil, wCons, wL, wC]
      refine ask_many (k := upK) (L := fourL) (n := 7) a2 (by decide) (by decide) ?_
      refine ⟨_, .many, small (by decide), ?_⟩
      dsimp only [gN, List.set]
      refine ⟨_, rfl, _, rfl, small (by decide), small (by decide), ?_⟩
      dsimp only [wNil, wCons, wL, wC]
      refine ask_many (k := upK) (L := [[]]) (n := 60) a3 (by decide) (by decide) ?_
      refine ⟨_, .many, small (by decide), ?_⟩
      dsimp only [List.set]
      refine seqIf (fun Z hz => ?_) ?_
      · refine ⟨_, rfl, small (by decide), by decide, by decide, by decide, (show SeqAt.shaped _ = true by decide +kernel), (show SeqAt.shaped _ = true by decide +kernel), ?_⟩
        have h2 : ∀ b : Bool, b = true → Z (!b) := by
          rintro _ rfl
          exact hz
        exact h2 _ (by decide +kernel)
      -- one road
      refine seqIf (fun Z hz => ?_) ?_
      · repeat' first | refine ⟨small (by decide), ?_⟩ | fail
        dsimp only [wNil, wCons, wL, wC]
        refine ask_roads (k := oneK) (L := [[]]) (n := 60) asked_one (by decide) (by decide) (res_some asked_one c10 (e := []) (by decide) (by decide +kernel) ?_)
        refine ⟨small (by decide), ?_⟩
        exact ne_lot (a := []) (b := []) rfl hz
      -- no lot
      repeat' first | refine ⟨small (by decide), ?_⟩ | fail
      refine loop_same ⟨none, rfl⟩ (fun x12 => ?_) (fun d hd Y hY => ?_)
      case refine_2 =>
        have hd2 : PyData.canLay0 d = true ∧ fitsLot upK.length d = false := by
          revert d
          decide +kernel
        refine ⟨_, rfl, _, rfl, ?_⟩
        dsimp only [wErr, wNil, wCons, wL, wC]
        refine ask_lot kd_up hd2.1 hd2.2 ⟨_, .lot, ne_str (by decide +kernel) (by decide +kernel) (by decide +kernel) ?_⟩
        refine (show (if false = true then _ else _) from ?_)
        rw [if_neg (by decide)]
        exact hY _
      dsimp only [List.set]
      repeat' first | refine ⟨small (by decide), ?_⟩ | fail
      refine loop_same ⟨x12, rfl⟩ (fun y12 => ?_) (fun d hd Y hY => ?_)
      case refine_2 =>
        have hd2 : PyData.canLay0 d = true ∧ isWhole d 0 60 = false := by
          revert d
          decide +kernel
        refine ⟨_, rfl, _, rfl, _, rfl, ?_⟩
        dsimp only [wErr, wNil, wCons, wL, wC]
        refine ask_number (k := upK) (L := fourL) a2 hd2.1 hd2.2 ⟨_, .number, ne_str (by decide +kernel) (by decide +kernel) (by decide +kernel) ?_⟩
        refine (show (if false = true then _ else _) from ?_)
        rw [if_neg (by decide)]
        exact hY _
      dsimp only [List.set]
      refine ⟨small (by decide), _, rfl, _, rfl, small (by decide), small (by decide), ?_⟩
      refine lc_same (.str "kind") _ (by decide) (fun d hd Y hY => ?_) ?_
      · have hd2 : PyData.canLay0 d = true ∧ fitsKind d = false := by
          revert d
          decide +kernel
        refine ⟨_, rfl, ?_⟩
        dsimp only [wErr, wNil, wCons, wL, wC]
        exact ask_kind hd2.1 hd2.2 ⟨_, .kind, hY⟩
      · refine ⟨small (by decide), by decide, by decide, by decide, (show SeqAt.shaped _ = true by decide +kernel), (show SeqAt.shaped _ = true by decide +kernel), ?_⟩
        exact congrArg PyData.bool (by decide +kernel)
    · rintro d ds ρ ⟨i, x2, x3, x4, hi, e1, rfl⟩ Z hZ
      obtain ⟨hlt, rfl, rfl⟩ := nums_at e1
      refine ⟨rfl, rfl, fun kk hk h4s h4 => ?_⟩
      refine ⟨rfl, _, rfl, settings_here hk ?_⟩
      refine (show (if decide ((sets kk : Int) < 4) = true then _ else _) from ?_)
      have hlo := hk.slo
      split
      case' isTrue c4 =>
        have c4 : (sets kk : Int) < 4 := of_decide_eq_true c4
        refine ⟨by show 4 ≤ lim; decide, _, rfl, by decide, by decide, fun d hd => ?_⟩
        obtain ⟨n, rfl, hn, hp⟩ : ∃ n : Nat, d = nD n ∧ n ≤ 60 ∧ sets kk ^ n < 64 := by
          have hs : sets kk = 1 ∨ sets kk = 2 ∨ sets kk = 3 := by omega
          rcases List.mem_cons.mp hd with e | hd
          · exact ⟨0, e, by decide, by simp⟩
          rcases List.mem_cons.mp hd with e | hd
          · exact ⟨1, e, by decide, by rw [Nat.pow_one]; omega⟩
          rcases List.mem_cons.mp hd with e | hd
          · exact ⟨2, e, by decide, by rcases hs with q | q | q <;> rw [q] <;> decide⟩
          · exact ⟨3, List.mem_singleton.mp hd, by decide, by rcases hs with q | q | q <;> rw [q] <;> decide⟩
      case' isFalse c4 =>
        refine ⟨by show 2 ≤ lim; decide, _, rfl, by decide, by decide, fun d hd => ?_⟩
        obtain ⟨n, rfl, hn, hp⟩ : ∃ n : Nat, d = nD n ∧ n ≤ 60 ∧ sets kk ^ n < 64 := by
          have hs : sets kk = 1 ∨ sets kk = 2 ∨ sets kk = 3 ∨ sets kk = 4 := by omega
          rcases List.mem_cons.mp hd with e | hd
          · exact ⟨1, e, by decide, by rw [Nat.pow_one]; omega⟩
          · exact ⟨2, List.mem_singleton.mp hd, by decide, by rcases hs with q | q | q | q <;> rw [q] <;> decide⟩
      all_goals
        refine ⟨_, rfl, rfl, _, rfl, kk, rfl, hk, h4, fun L hL => ?_⟩
        refine ⟨_, rfl, kk, L, n, rfl, asked_drawn hk h4 hL, hn, hp, ?_⟩
        refine (show (if (!true) = true then _ else _) from ?_)
        rw [if_neg (by decide)]
        exact hZ _ ⟨i + 1, _, _, _, hlt, rfl, rfl⟩
  · refine ⟨fun _ _ _ _ h => (nomatch h), fun d v C' H' h _ _ rv => ?_, fun _ _ _ _ h => h.elim, fun _ _ _ _ h => h.elim⟩
    subst h
    cases rv
    exact k H'
end
end Lr
namespace Lr
open PySem PySem.Spec PyProof.Rows L2
section
variable {P : Program} {K : PySem.W.Frag} {h : Heap} {mg : Str → Option Value}
abbrev fnAt (x : Str) (st : Stmt) (kV doc pm : Value) (an : Option Addr) (cdv ct : Value) : FuncData := PySem.W.fnOf x x (defArgs st) (defBody st) (defScope st) .none kV doc pm an cdv ct
theorem def_mk {x : Str} {st : Stmt} {ps : List Str} {f : Addr} {oc kV doc pm cdv ct : Value} {od an : Option Addr} {osl : Array (Option Value)} (X : K.In h) (G : h.Ns mainGlobals mg) (a : PySem.W.nsIn K mainGlobals x = some (some (.ref f)))
    (l : K.lookup f = some ⟨oc, od, .func (PySem.W.fnOf x x (defArgs st) (defBody st) (defScope st) .none kV doc pm an cdv ct), osl⟩) (c : PySem.W.codeIn K cdv x = true) (k : PySem.W.keepIn K (.ref f) = true)
    (b : ∀ (kV doc pm : Value) (an : Option Addr) (cdv ct : Value) (us : List Value), us.length = ps.length → bindArgs (PySem.W.fnOf x x (defArgs st) (defBody st) (defScope st) .none kV doc pm an cdv ct) ⟨us, []⟩ = pure (ps.zip us)) :
    DefAt K mg x st ps f (fnAt x st kV doc pm an cdv ct) := ⟨fun_mk l c k, PySem.W.mg_of X G a, (fun_mk (st := st) l c k).binds b⟩
theorem use_def {R : Prop} {x : Str} {st : Stmt} {ps : List Str} {f : Addr} {oc kV doc pm cdv ct : Value} {od an : Option Addr} {osl : Array (Option Value)} (X : K.In h) (G : h.Ns mainGlobals mg)
    (b : ∀ (kV doc pm : Value) (an : Option Addr) (cdv ct : Value) (us : List Value), us.length = ps.length → bindArgs (PySem.W.fnOf x x (defArgs st) (defBody st) (defScope st) .none kV doc pm an cdv ct) ⟨us, []⟩ = pure (ps.zip us)) (a : PySem.W.nsIn K mainGlobals x = some (some (.ref f)))
    (l : K.lookup f = some ⟨oc, od, .func (PySem.W.fnOf x x (defArgs st) (defBody st) (defScope st) .none kV doc pm an cdv ct), osl⟩) (c : PySem.W.codeIn K cdv x = true) (k : PySem.W.keepIn K (.ref f) = true) (next : ∀ f fd, DefAt K mg x st ps f fd → R) : R := next _ _ (def_mk X G a l c k b)
theorem use_int {R : Prop} {x : Str} {i : Int} {k : Tok} (X : K.In h) (G : h.Ns mainGlobals mg) (a : PySem.W.nsIn K mainGlobals x = some (some (.int i k))) (next : ∀ k, mg x = some (.int i k) → R) : R := next k (PySem.W.mg_of X G a)
theorem use_blt {x : Str} (X : K.In h) (G : h.Ns mainGlobals mg) (a : PySem.W.nsIn K mainGlobals x = some none) : mg x = none := PySem.W.mg_none_of X G a
theorem ex_mk {x : Str} {C : Addr} (X : K.In h) (G : h.Ns mainGlobals mg) (a : PySem.W.nsIn K mainGlobals x = some (some (.ref C))) (kp : PySem.W.keepIn K (.ref C) = true) (xi : PySem.W.excIn K C PySem.HandSPX.veTail "ValueError.__new__" = true) (sb : PySem.W.subIn K (.ref C) (.type "BaseException") = some true)
    (ty : PySem.W.typeIn K (.ref C) = some (.type "type")) : ExAt K mg x C := ⟨PySem.W.mg_of X G a, kp, xi, sb, ty⟩
theorem init_binds {doc pm ct : Value} {an : Option Addr} {cda cc : Addr} : L2.Binds K (PySem.W.ksFn "__init__" "TooMany.__init__" (defArgs tmInit) (defBody tmInit) (defScope tmInit) .none .none doc pm an (.ref cda) ct cc) ["self", "limit"] [] := .all fun us hl => match us, hl with | [_, _], _ => rfl
def tm_mk {C cL fI cda cc : Addr} {nm q : Str} {N : Addr} {bs : List Value} {sn : List Str} {sub : List Value} {ab : Bool} {col : Option Bool} {dd : Option Addr} {k0 k1 k2 k3 k5 : Option Value} {oc doc pm ct ccl cl : Value} {od an cdd cld : Option Addr} {osl ccs csl : Array (Option Value)} {vs : Array Value} {file : Str} {tf : Tok}
    (X : K.In h) (G : h.Ns mainGlobals mg) (gl : PySem.W.nsIn K mainGlobals "TooMany" = some (some (.ref C)))
    (xM : K.lookup C = some (excClassObj nm q C N bs [.ref cL, .type "ValueError", .type "Exception", .type "BaseException", .type "object"] true sn sub ab col dd k0 k1 k2 k3 k5 "ValueError.__new__"))
    (sa : PySem.W.findIn K (.ref C) "__setattr__" = some (some (.builtin "object.__setattr__"))) (exC : PySem.W.subIn K (.ref C) (.type "BaseException") = some true) (tyC : PySem.W.typeIn K (.ref C) = some (.type "type")) (kC : PySem.W.keepIn K (.ref C) = true)
    (iC : PySem.W.findIn K (.ref C) "__init__" = some (some (.ref fI))) (tI : PySem.W.typeIn K (.ref fI) = some (.type "function")) (noN : PySem.W.findIn K (.ref C) "limit" = some none) (veB : PySem.W.subIn K (.ref C) (.type "ValueError") = some true)
    (kS : PySem.W.ks_superIn K C C "__init__" = some (some (.builtin "ValueError.__init__"))) (xI : PySem.W.excInitIn K C [.type "ValueError", .type "Exception", .type "BaseException", .type "object"] "ValueError.__new__" = true) (mro : PySem.W.mroIn K C (.ref C) = some true)
    (op : PySem.W.nsIn K PySem.cStatics "thirdparty.any" = some none) (sup : PySem.W.nsIn K mainGlobals "super" = some none)
    (lI : K.lookup fI = some ⟨oc, od, .func (PySem.W.ksFn "__init__" "TooMany.__init__" (defArgs tmInit) (defBody tmInit) (defScope tmInit) .none .none doc pm an (.ref cda) ct cc), osl⟩) (cI : PySem.W.codeIn K (.ref cda) "TooMany.__init__" = true)
    (lc : K.lookup cda = some ⟨ccl, cdd, .fields vs, ccs⟩) (v2 : vs[2]? = some (.str file tf)) (hf : ((P.main.file : Str) == file) = true) (lcc : K.lookup cc = some ⟨cl, cld, .cell (some (.ref C)), csl⟩) (top : (P.main.scope.names.lookup ("super" : Str)).isSome = false) : TmTxt P K mg where
  C := C
  fI := fI
  fd := PySem.W.ksFn "__init__" "TooMany.__init__" (defArgs tmInit) (defBody tmInit) (defScope tmInit) .none .none doc pm an (.ref cda) ct cc
  gl := PySem.W.mg_of X G gl
  ox := ⟨⟨nm, q, N, bs, _, sn, sub, ab, col, dd, k0, k1, k2, k3, k5, xM, rfl⟩, sa, exC, tyC, kC⟩
  iC := iC
  tI := tI
  noN := noN
  veB := veB
  kS := kS
  bmB := [.type "ValueError", .type "Exception", .type "BaseException", .type "object"]
  FB := PySem.F.excBase_ValueError
  xI := xI
  mro := mro
  op := op
  sup := PySem.W.mg_none_of X G sup
  bi := init_binds
  fn := ⟨oc, od, doc, pm, ct, an, cda, cc, osl, ccl, cl, cdd, cld, vs, ccs, csl, file, tf, rfl, lI, cI, lc, v2, hf, lcc⟩
  top := top
theorem use_tm {R : Prop} {C cL fI cda cc : Addr} {nm q : Str} {N : Addr} {bs : List Value} {sn : List Str} {sub : List Value} {ab : Bool} {col : Option Bool} {dd : Option Addr} {k0 k1 k2 k3 k5 : Option Value} {oc doc pm ct ccl cl : Value} {od an cdd cld : Option Addr} {osl ccs csl : Array (Option Value)} {vs : Array Value} {file : Str} {tf : Tok}
    (X : K.In h) (G : h.Ns mainGlobals mg) (gl : PySem.W.nsIn K mainGlobals "TooMany" = some (some (.ref C)))
    (xM : K.lookup C = some (excClassObj nm q C N bs [.ref cL, .type "ValueError", .type "Exception", .type "BaseException", .type "object"] true sn sub ab col dd k0 k1 k2 k3 k5 "ValueError.__new__"))
    (sa : PySem.W.findIn K (.ref C) "__setattr__" = some (some (.builtin "object.__setattr__"))) (exC : PySem.W.subIn K (.ref C) (.type "BaseException") = some true) (tyC : PySem.W.typeIn K (.ref C) = some (.type "type")) (kC : PySem.W.keepIn K (.ref C) = true)
    (iC : PySem.W.findIn K (.ref C) "__init__" = some (some (.ref fI))) (tI : PySem.W.typeIn K (.ref fI) = some (.type "function")) (noN : PySem.W.findIn K (.ref C) "limit" = some none) (veB : PySem.W.subIn K (.ref C) (.type "ValueError") = some true)
    (kS : PySem.W.ks_superIn K C C "__init__" = some (some (.builtin "ValueError.__init__"))) (xI : PySem.W.excInitIn K C [.type "ValueError", .type "Exception", .type "BaseException", .type "object"] "ValueError.__new__" = true) (mro : PySem.W.mroIn K C (.ref C) = some true)
    (op : PySem.W.nsIn K PySem.cStatics "thirdparty.any" = some none) (sup : PySem.W.nsIn K mainGlobals "super" = some none)
    (lI : K.lookup fI = some ⟨oc, od, .func (PySem.W.ksFn "__init__" "TooMany.__init__" (defArgs tmInit) (defBody tmInit) (defScope tmInit) .none .none doc pm an (.ref cda) ct cc), osl⟩) (cI : PySem.W.codeIn K (.ref cda) "TooMany.__init__" = true)
    (lc : K.lookup cda = some ⟨ccl, cdd, .fields vs, ccs⟩) (v2 : vs[2]? = some (.str file tf)) (hf : ((P.main.file : Str) == file) = true) (lcc : K.lookup cc = some ⟨cl, cld, .cell (some (.ref C)), csl⟩) (top : (P.main.scope.names.lookup ("super" : Str)).isSome = false)
    (next : ∀ M : TmTxt P K mg, M.C = C → R) : R := next (tm_mk X G gl xM sa exC tyC kC iC tI noN veB kS xI mro op sup lI cI lc v2 hf lcc top) rfl
theorem use_ex {R : Prop} {x : Str} {C : Addr} (X : K.In h) (G : h.Ns mainGlobals mg) (a : PySem.W.nsIn K mainGlobals x = some (some (.ref C))) (kp : PySem.W.keepIn K (.ref C) = true) (xi : PySem.W.excIn K C PySem.HandSPX.veTail "ValueError.__new__" = true) (sb : PySem.W.subIn K (.ref C) (.type "BaseException") = some true)
    (ty : PySem.W.typeIn K (.ref C) = some (.type "type")) (next : ExAt K mg x C → R) : R := next (ex_mk X G a kp xi sb ty)
theorem use_gl {R : Prop} {x : Str} {C : Addr} (X : K.In h) (G : h.Ns mainGlobals mg) (a : PySem.W.nsIn K mainGlobals x = some (some (.ref C))) (next : mg x = some (.ref C) → R) : R := next (PySem.W.mg_of X G a)
theorem use_law {R : Prop} {f c : Addr} {oc kV doc pm ct : Value} {od an : Option Addr} {osl : Array (Option Value)} (X : K.In h) (G : h.Ns mainGlobals mg) (a : PySem.W.nsIn K mainGlobals "law" = some (some (.ref f)))
    (l : K.lookup f = some ⟨oc, od, .func (PySem.W.fnOf "law" "law" (defArgs (topS 64)) (defBody (topS 64)) (defScope (topS 64)) .none kV doc pm an (.ref c) ct), osl⟩) (c' : PySem.W.codeIn K (.ref c) "law" = true) (k : PySem.W.keepIn K (.ref f) = true) (next : ∀ fd, DefAt K mg "law" (topS 64) ["_law_script"] f fd → fd.code = .ref c → R) : R :=
  next _ (def_mk (st := topS 64) (ps := ["_law_script"]) X G a l c' k fun _ _ _ _ _ _ us hl => match us, hl with | [_], _ => rfl) rfl
theorem err_mk {T : Txt K mg} {M : TmTxt P K mg} {cK cN cL cM cT cR cTo cS cLa : Addr} (eK : ExAt K mg "InvalidKind" cK) (eN : ExAt K mg "InvalidNumber" cN) (eL : ExAt K mg "InvalidLot" cL) (hM : M.C = cM)
    (gT : mg "InvalidTrain" = some (.ref cT)) (gR : mg "InvalidRoad" = some (.ref cR)) (gTo : mg "InvalidTold" = some (.ref cTo)) (gS : mg "InvalidSorts" = some (.ref cS)) (gLa : mg "LatchError" = some (.ref cLa))
    (kk : PySem.W.exmOne K (.ref cK) (.ref cK) = some true)
    (n1 : PySem.W.exmOne K (.ref cN) (.ref cK) = some false) (n2 : PySem.W.exmOne K (.ref cN) (.ref cT) = some false) (n3 : PySem.W.exmOne K (.ref cN) (.ref cR) = some false) (n4 : PySem.W.exmOne K (.ref cN) (.ref cN) = some true)
    (l1 : PySem.W.exmOne K (.ref cL) (.ref cK) = some false) (l2 : PySem.W.exmOne K (.ref cL) (.ref cT) = some false) (l3 : PySem.W.exmOne K (.ref cL) (.ref cR) = some false) (l4 : PySem.W.exmOne K (.ref cL) (.ref cN) = some false) (l5 : PySem.W.exmOne K (.ref cL) (.ref cL) = some true)
    (m1 : PySem.W.exmOne K (.ref cM) (.ref cK) = some false) (m2 : PySem.W.exmOne K (.ref cM) (.ref cT) = some false) (m3 : PySem.W.exmOne K (.ref cM) (.ref cR) = some false) (m4 : PySem.W.exmOne K (.ref cM) (.ref cN) = some false) (m5 : PySem.W.exmOne K (.ref cM) (.ref cL) = some false)
    (m6 : PySem.W.exmOne K (.ref cM) (.ref cTo) = some false) (m7 : PySem.W.exmOne K (.ref cM) (.ref cS) = some false) (m8 : PySem.W.exmOne K (.ref cM) (.ref cM) = some true)
    (ga : PySem.W.findIn K (.ref cM) "__getattribute__" = some (some (.builtin "BaseException.__getattribute__"))) (gg : PySem.W.findIn K (.ref cM) "__getattr__" = some none) (hd : PySem.W.hasDictIn K cM = true)
    (hK : T.C_InvalidKind = cK) (hN : T.C_InvalidNumber = cN) (hL : T.C_InvalidLot = cL) : Nonempty (ErrTxt T M) := by
  subst hK hN hL hM
  exact ⟨⟨cT, cR, cTo, cS, cLa, gT, gR, gTo, gS, gLa, kk, n1, n2, n3, n4, l1, l2, l3, l4, l5, m1, m2, m3, m4, m5, m6, m7, m8, ga, gg, hd⟩⟩
theorem law_end {l : PySem.W.OpenLaw} {w : World} {fa c P0 : Addr} {e : Value} {dd : Option Addr} {vs : Array Value} {sl : Array (Option Value)} (X : K.In h) (hmg : mg "law" = some (.ref fa)) (T : Txt K mg) (M : TmTxt l.prog K mg) (Er : Nonempty (ErrTxt T M)) (hc : T.fd64.code = .ref c)
    (lc : K.lookup c = some ⟨e, dd, .fields vs, sl⟩) (v11 : vs[11]? = some (.ref P0)) (nP : K.lookup P0 = none) (hh : PySem.W.codeHdIn K c P0 = true) (hP : h.get? P0 = some (PySem.W.tabObj #[])) : LamX.LawAtS l w K CX0 8 63 "_law_script" mg fa h := by
  obtain ⟨Er⟩ := Er
  have ef : fa = T.f64 := by
    have q := hmg.symm.trans T.d64.gl
    cases q
    rfl
  subst ef
  obtain ⟨oc, od, kV, doc, pm, an, cdv, ct, osl, efd, lk, hcd⟩ := T.d64.fn.ex
  refine ⟨T.fd64, [(c, P0)], spLaw K P0, fun p hp => ?_, fun p hp => ?_, fun p hp => ?_, fun s u => ?_, fun H a ns hl hb hT hS => ?_, fun b KX G TB => ok64 T M Er hc (TB _ (List.mem_singleton.mpr rfl))⟩
  · rw [List.mem_singleton.mp hp]
    exact hP
  · rw [List.mem_singleton.mp hp]
    exact nP
  · rw [List.mem_singleton.mp hp]
    exact PySem.W.codeHd_of_K X hh
  · rw [efd]
    exact .of_eq rfl
  · exact ⟨a, ns, rfl, by omega, hS, hT (c, P0) (List.mem_singleton.mpr rfl), fun _ => rfl⟩
end
end Lr
set_option maxHeartbeats 0
namespace Lr
open PySem PySem.W PyProof.Rows
open_top hd for PySem.Challenge.rw_latchroads_k63_whole_fewest_roads_for_lo
end Lr
set_option maxHeartbeats 0
open PySem PySem.W PyProof.Rows Lr
theorem PySem.Challenge.cw_latchroads_k63_whole_fewest_roads_for_lo_holds : PySem.Challenge.rw_latchroads_k63_whole_fewest_roads_for_lo.Holds := by
  refine Lr.hd ?_
  k_fill
  refine LamX.walk_ofTs (l := PySem.Challenge.rw_latchroads_k63_whole_fewest_roads_for_lo) (n := 63) (k := 8) (x := "_law_script") (CX := fun _ => L2.CX0) rfl (by decide) rfl ⟨rfl, by decide, by decide⟩ (fun w h Y => km_in_of Y) ?F (fun _ _ _ _ _ h => h)
  intro w mg fa h Y KX G hmg
  refine' use_def (x := "is_whole") (st := topS 14) (ps := ["value", "low", "high"]) KX G (fun _ _ _ _ _ _ us hl => match us, hl with | [_, _, _], _ => rfl) ?a ?l ?c ?k (fun f14 fd14 d14 => ?_)
  case a => k_is
  case l => k_is
  case c => k_is
  case k => k_is
  refine' use_def (x := "is_tuple_of") (st := topS 15) (ps := ["value", "low", "high"]) KX G (fun _ _ _ _ _ _ us hl => match us, hl with | [_, _, _], _ => rfl) ?a ?l ?c ?k (fun f15 fd15 d15 => ?_)
  case a => k_is
  case l => k_is
  case c => k_is
  case k => k_is
  refine' use_def (x := "fits_pair") (st := topS 16) (ps := ["value", "settings", "sorts"]) KX G (fun _ _ _ _ _ _ us hl => match us, hl with | [_, _, _], _ => rfl) ?a ?l ?c ?k (fun f16 fd16 d16 => ?_)
  case a => k_is
  case l => k_is
  case c => k_is
  case k => k_is
  refine' use_def (x := "fits_kind") (st := topS 17) (ps := ["value"]) KX G (fun _ _ _ _ _ _ us hl => match us, hl with | [_], _ => rfl) ?a ?l ?c ?k (fun f17 fd17 d17 => ?_)
  case a => k_is
  case l => k_is
  case c => k_is
  case k => k_is
  refine' use_def (x := "settings_in") (st := topS 18) (ps := ["kind"]) KX G (fun _ _ _ _ _ _ us hl => match us, hl with | [_], _ => rfl) ?a ?l ?c ?k (fun f18 fd18 d18 => ?_)
  case a => k_is
  case l => k_is
  case c => k_is
  case k => k_is
  refine' use_def (x := "fits_train") (st := topS 19) (ps := ["kind", "value"]) KX G (fun _ _ _ _ _ _ us hl => match us, hl with | [_, _], _ => rfl) ?a ?l ?c ?k (fun f19 fd19 d19 => ?_)
  case a => k_is
  case l => k_is
  case c => k_is
  case k => k_is
  refine' use_def (x := "need_kind") (st := topS 20) (ps := ["value"]) KX G (fun _ _ _ _ _ _ us hl => match us, hl with | [_], _ => rfl) ?a ?l ?c ?k (fun f20 fd20 d20 => ?_)
  case a => k_is
  case l => k_is
  case c => k_is
  case k => k_is
  refine' use_def (x := "latch_passed") (st := topS 22) (ps := ["kind", "train", "setting"]) KX G (fun _ _ _ _ _ _ us hl => match us, hl with | [_, _, _], _ => rfl) ?a ?l ?c ?k (fun f22 fd22 d22 => ?_)
  case a => k_is
  case l => k_is
  case c => k_is
  case k => k_is
  refine' use_def (x := "road_passed") (st := topS 23) (ps := ["kind", "train", "road"]) KX G (fun _ _ _ _ _ _ us hl => match us, hl with | [_, _, _], _ => rfl) ?a ?l ?c ?k (fun f23 fd23 d23 => ?_)
  case a => k_is
  case l => k_is
  case c => k_is
  case k => k_is
  refine' use_def (x := "fits_lot") (st := topS 29) (ps := ["kind", "value"]) KX G (fun _ _ _ _ _ _ us hl => match us, hl with | [_, _], _ => rfl) ?a ?l ?c ?k (fun f29 fd29 d29 => ?_)
  case a => k_is
  case l => k_is
  case c => k_is
  case k => k_is
  refine' use_def (x := "pairs_behind") (st := topS 30) (ps := ["kind", "train"]) KX G (fun _ _ _ _ _ _ us hl => match us, hl with | [_, _], _ => rfl) ?a ?l ?c ?k (fun f30 fd30 d30 => ?_)
  case a => k_is
  case l => k_is
  case c => k_is
  case k => k_is
  refine' use_def (x := "met_from") (st := topS 31) (ps := ["kind", "trains"]) KX G (fun _ _ _ _ _ _ us hl => match us, hl with | [_, _], _ => rfl) ?a ?l ?c ?k (fun f31 fd31 d31 => ?_)
  case a => k_is
  case l => k_is
  case c => k_is
  case k => k_is
  refine' use_def (x := "need_lot") (st := topS 32) (ps := ["kind", "value"]) KX G (fun _ _ _ _ _ _ us hl => match us, hl with | [_, _], _ => rfl) ?a ?l ?c ?k (fun f32 fd32 d32 => ?_)
  case a => k_is
  case l => k_is
  case c => k_is
  case k => k_is
  refine' use_def (x := "need_number") (st := topS 33) (ps := ["value"]) KX G (fun _ _ _ _ _ _ us hl => match us, hl with | [_], _ => rfl) ?a ?l ?c ?k (fun f33 fd33 d33 => ?_)
  case a => k_is
  case l => k_is
  case c => k_is
  case k => k_is
  refine' use_def (x := "need_few_roads") (st := topS 36) (ps := ["kind", "number"]) KX G (fun _ _ _ _ _ _ us hl => match us, hl with | [_, _], _ => rfl) ?a ?l ?c ?k (fun f36 fd36 d36 => ?_)
  case a => k_is
  case l => k_is
  case c => k_is
  case k => k_is
  refine' use_def (x := "all_roads") (st := topS 37) (ps := ["kind", "number"]) KX G (fun _ _ _ _ _ _ us hl => match us, hl with | [_, _], _ => rfl) ?a ?l ?c ?k (fun f37 fd37 d37 => ?_)
  case a => k_is
  case l => k_is
  case c => k_is
  case k => k_is
  refine' use_def (x := "first_named") (st := topS 38) (ps := ["items"]) KX G (fun _ _ _ _ _ _ us hl => match us, hl with | [_], _ => rfl) ?a ?l ?c ?k (fun f38 fd38 d38 => ?_)
  case a => k_is
  case l => k_is
  case c => k_is
  case k => k_is
  refine' use_def (x := "fewest_in") (st := topS 39) (ps := ["roads", "names", "many"]) KX G (fun _ _ _ _ _ _ us hl => match us, hl with | [_, _, _], _ => rfl) ?a ?l ?c ?k (fun f39 fd39 d39 => ?_)
  case a => k_is
  case l => k_is
  case c => k_is
  case k => k_is
  refine' use_def (x := "fewest_roads") (st := topS 40) (ps := ["kind", "lot", "number"]) KX G (fun _ _ _ _ _ _ us hl => match us, hl with | [_, _, _], _ => rfl) ?a ?l ?c ?k (fun f40 fd40 d40 => ?_)
  case a => k_is
  case l => k_is
  case c => k_is
  case k => k_is
  refine' use_def (x := "_law_cup") (st := topS 42) (ps := ["_law_script"]) KX G (fun _ _ _ _ _ _ us hl => match us, hl with | [_], _ => rfl) ?a ?l ?c ?k (fun f42 fd42 d42 => ?_)
  case a => k_is
  case l => k_is
  case c => k_is
  case k => k_is
  refine' use_def (x := "_law_roll") (st := topS 43) (ps := ["_law_cup_here", "_law_many"]) KX G (fun _ _ _ _ _ _ us hl => match us, hl with | [_, _], _ => rfl) ?a ?l ?c ?k (fun f43 fd43 d43 => ?_)
  case a => k_is
  case l => k_is
  case c => k_is
  case k => k_is
  refine' use_def (x := "_law_some") (st := topS 44) (ps := ["_law_cup_here", "_law_things"]) KX G (fun _ _ _ _ _ _ us hl => match us, hl with | [_, _], _ => rfl) ?a ?l ?c ?k (fun f44 fd44 d44 => ?_)
  case a => k_is
  case l => k_is
  case c => k_is
  case k => k_is
  refine' use_def (x := "_law_walked") (st := topS 45) (ps := ["_law_kind_here", "_law_sort", "_law_road"]) KX G (fun _ _ _ _ _ _ us hl => match us, hl with | [_, _, _], _ => rfl) ?a ?l ?c ?k (fun f45 fd45 d45 => ?_)
  case a => k_is
  case l => k_is
  case c => k_is
  case k => k_is
  refine' use_def (x := "_law_passed") (st := topS 46) (ps := ["_law_kind_here", "_law_train", "_law_road"]) KX G (fun _ _ _ _ _ _ us hl => match us, hl with | [_, _, _], _ => rfl) ?a ?l ?c ?k (fun f46 fd46 d46 => ?_)
  case a => k_is
  case l => k_is
  case c => k_is
  case k => k_is
  refine' use_def (x := "_law_up") (st := topS 48) (ps := []) KX G (fun _ _ _ _ _ _ us hl => match us, hl with | [], _ => rfl) ?a ?l ?c ?k (fun f48 fd48 d48 => ?_)
  case a => k_is
  case l => k_is
  case c => k_is
  case k => k_is
  refine' use_def (x := "_law_order") (st := topS 49) (ps := ["_law_cup_here", "_law_many"]) KX G (fun _ _ _ _ _ _ us hl => match us, hl with | [_, _], _ => rfl) ?a ?l ?c ?k (fun f49 fd49 d49 => ?_)
  case a => k_is
  case l => k_is
  case c => k_is
  case k => k_is
  refine' use_def (x := "_law_any_kind") (st := topS 50) (ps := ["_law_cup_here", "_law_settings", "_law_sorts"]) KX G (fun _ _ _ _ _ _ us hl => match us, hl with | [_, _, _], _ => rfl) ?a ?l ?c ?k (fun f50 fd50 d50 => ?_)
  case a => k_is
  case l => k_is
  case c => k_is
  case k => k_is
  refine' use_def (x := "_law_even_kind") (st := topS 51) (ps := ["_law_cup_here", "_law_settings", "_law_sorts"]) KX G (fun _ _ _ _ _ _ us hl => match us, hl with | [_, _, _], _ => rfl) ?a ?l ?c ?k (fun f51 fd51 d51 => ?_)
  case a => k_is
  case l => k_is
  case c => k_is
  case k => k_is
  refine' use_def (x := "_law_turning_kind") (st := topS 52) (ps := ["_law_cup_here", "_law_settings", "_law_sorts"]) KX G (fun _ _ _ _ _ _ us hl => match us, hl with | [_, _, _], _ => rfl) ?a ?l ?c ?k (fun f52 fd52 d52 => ?_)
  case a => k_is
  case l => k_is
  case c => k_is
  case k => k_is
  refine' use_def (x := "_law_still_kind") (st := topS 53) (ps := ["_law_cup_here", "_law_settings", "_law_sorts"]) KX G (fun _ _ _ _ _ _ us hl => match us, hl with | [_, _, _], _ => rfl) ?a ?l ?c ?k (fun f53 fd53 d53 => ?_)
  case a => k_is
  case l => k_is
  case c => k_is
  case k => k_is
  refine' use_def (x := "_law_known_kind") (st := topS 54) (ps := ["_law_cup_here"]) KX G (fun _ _ _ _ _ _ us hl => match us, hl with | [_], _ => rfl) ?a ?l ?c ?k (fun f54 fd54 d54 => ?_)
  case a => k_is
  case l => k_is
  case c => k_is
  case k => k_is
  refine' use_def (x := "_law_kind") (st := topS 55) (ps := ["_law_cup_here"]) KX G (fun _ _ _ _ _ _ us hl => match us, hl with | [_], _ => rfl) ?a ?l ?c ?k (fun f55 fd55 d55 => ?_)
  case a => k_is
  case l => k_is
  case c => k_is
  case k => k_is
  refine' use_def (x := "_law_lot") (st := topS 57) (ps := ["_law_cup_here", "_law_kind_here", "_law_most"]) KX G (fun _ _ _ _ _ _ us hl => match us, hl with | [_, _, _], _ => rfl) ?a ?l ?c ?k (fun f57 fd57 d57 => ?_)
  case a => k_is
  case l => k_is
  case c => k_is
  case k => k_is
  refine' use_def (x := "_law_odd_kind") (st := topS 58) (ps := []) KX G (fun _ _ _ _ _ _ us hl => match us, hl with | [], _ => rfl) ?a ?l ?c ?k (fun f58 fd58 d58 => ?_)
  case a => k_is
  case l => k_is
  case c => k_is
  case k => k_is
  refine' use_def (x := "_law_roads") (st := topS 59) (ps := ["_law_kind_here", "_law_many"]) KX G (fun _ _ _ _ _ _ us hl => match us, hl with | [_, _], _ => rfl) ?a ?l ?c ?k (fun f59 fd59 d59 => ?_)
  case a => k_is
  case l => k_is
  case c => k_is
  case k => k_is
  refine' use_def (x := "_law_error") (st := topS 60) (ps := ["_law_call"]) KX G (fun _ _ _ _ _ _ us hl => match us, hl with | [_], _ => rfl) ?a ?l ?c ?k (fun f60 fd60 d60 => ?_)
  case a => k_is
  case l => k_is
  case c => k_is
  case k => k_is
  refine' use_def (x := "_law_tell") (st := topS 61) (ps := ["_law_lefts"]) KX G (fun _ _ _ _ _ _ us hl => match us, hl with | [_], _ => rfl) ?a ?l ?c ?k (fun f61 fd61 d61 => ?_)
  case a => k_is
  case l => k_is
  case c => k_is
  case k => k_is
  refine' use_def (x := "_law_fewest") (st := topS 62) (ps := ["_law_kind_here", "_law_lot_here", "_law_number"]) KX G (fun _ _ _ _ _ _ us hl => match us, hl with | [_, _, _], _ => rfl) ?a ?l ?c ?k (fun f62 fd62 d62 => ?_)
  case a => k_is
  case l => k_is
  case c => k_is
  case k => k_is
  refine' use_def (x := "_law_right") (st := topS 63) (ps := ["_law_kind_here", "_law_lot_here", "_law_number"]) KX G (fun _ _ _ _ _ _ us hl => match us, hl with | [_, _, _], _ => rfl) ?a ?l ?c ?k (fun f63 fd63 d63 => ?_)
  case a => k_is
  case l => k_is
  case c => k_is
  case k => k_is
  refine' use_law KX G ?a ?l ?c ?k (fun fd64 d64 hc => ?_)
  case a => k_is
  case l => k_is
  case c => k_is
  case k => k_is
  refine' use_ex (x := "InvalidKind") KX G ?a ?b ?c ?d ?e (fun eInvalidKind => ?_)
  case a => k_is
  case b => k_is
  case c => k_exc
  case d => k_is
  case e => k_is
  refine' use_ex (x := "InvalidLot") KX G ?a ?b ?c ?d ?e (fun eInvalidLot => ?_)
  case a => k_is
  case b => k_is
  case c => k_exc
  case d => k_is
  case e => k_is
  refine' use_ex (x := "InvalidNumber") KX G ?a ?b ?c ?d ?e (fun eInvalidNumber => ?_)
  case a => k_is
  case b => k_is
  case c => k_exc
  case d => k_is
  case e => k_is
  refine' use_gl (x := "InvalidTrain") KX G ?a (fun gInvalidTrain => ?_)
  case a => k_is
  refine' use_gl (x := "InvalidRoad") KX G ?a (fun gInvalidRoad => ?_)
  case a => k_is
  refine' use_gl (x := "InvalidTold") KX G ?a (fun gInvalidTold => ?_)
  case a => k_is
  refine' use_gl (x := "InvalidSorts") KX G ?a (fun gInvalidSorts => ?_)
  case a => k_is
  refine' use_gl (x := "LatchError") KX G ?a (fun gLatchError => ?_)
  case a => k_is
  have b_len : mg "len" = none := use_blt KX G (by k_is)
  have b_range : mg "range" = none := use_blt KX G (by k_is)
  have b_isinstance : mg "isinstance" = none := use_blt KX G (by k_is)
  have b_int : mg "int" = none := use_blt KX G (by k_is)
  have b_bool : mg "bool" = none := use_blt KX G (by k_is)
  have b_tuple : mg "tuple" = none := use_blt KX G (by k_is)
  have b_list : mg "list" = none := use_blt KX G (by k_is)
  have b_set : mg "set" = none := use_blt KX G (by k_is)
  have b_dict : mg "dict" = none := use_blt KX G (by k_is)
  have b_sorted : mg "sorted" = none := use_blt KX G (by k_is)
  have b_all : mg "all" = none := use_blt KX G (by k_is)
  have b_zip : mg "zip" = none := use_blt KX G (by k_is)
  have b_abs : mg "abs" = none := use_blt KX G (by k_is)
  have b_str : mg "str" = none := use_blt KX G (by k_is)
  refine' use_int (x := "SORTS") (i := 6) KX G ?a (fun kSORTS cSORTS => ?_)
  case a => k_is
  refine' use_int (x := "SETTINGS") (i := 6) KX G ?a (fun kSETTINGS cSETTINGS => ?_)
  case a => k_is
  refine' use_int (x := "LONGEST") (i := 60) KX G ?a (fun kLONGEST cLONGEST => ?_)
  case a => k_is
  refine' use_int (x := "TRAINS") (i := 1000) KX G ?a (fun kTRAINS cTRAINS => ?_)
  case a => k_is
  refine' use_int (x := "LOT") (i := 12) KX G ?a (fun kLOT cLOT => ?_)
  case a => k_is
  refine' use_int (x := "WALKERS") (i := 6) KX G ?a (fun kWALKERS cWALKERS => ?_)
  case a => k_is
  refine' use_int (x := "LATCHES") (i := 60) KX G ?a (fun kLATCHES cLATCHES => ?_)
  case a => k_is
  refine' use_int (x := "ROADS") (i := 64) KX G ?a (fun kROADS cROADS => ?_)
  case a => k_is
  refine' use_tm (P := PySem.Challenge.rw_latchroads_k63_whole_fewest_roads_for_lo.prog) KX G ?gl ?xM ?sa ?exC ?tyC ?kC ?iC ?tI ?noN ?veB ?kS ?xI ?mro ?op ?sup ?lI ?cI ?lc ?v2 ?hf ?lcc ?top (fun M hM => ?_)
  case gl => k_is
  case xM => k_is
  case sa => k_is
  case exC => k_is
  case tyC => k_is
  case kC => k_is
  case iC => k_is
  case tI => k_is
  case noN => k_is
  case veB => k_is
  case kS => ks_is
  case xI => kx_is
  case mro => k_is
  case op => k_is
  case sup => k_is
  case lI => k_is
  case cI => k_is
  case lc => k_is
  case v2 => rfl
  case hf => exact by decide +kernel
  case lcc => k_is
  case top => rfl
  let T : Txt _ mg := { f14 := f14, fd14 := fd14, d14 := d14, f15 := f15, fd15 := fd15, d15 := d15, f16 := f16, fd16 := fd16, d16 := d16, f17 := f17, fd17 := fd17, d17 := d17, f18 := f18, fd18 := fd18, d18 := d18, f19 := f19, fd19 := fd19, d19 := d19, f20 := f20, fd20 := fd20, d20 := d20, f22 := f22, fd22 := fd22, d22 := d22, f23 := f23, fd23 := fd23, d23 := d23, f29 := f29, fd29 := fd29, d29 := d29, f30 := f30, fd30 := fd30, d30 := d30, f31 := f31, fd31 := fd31, d31 := d31, f32 := f32, fd32 := fd32, d32 := d32, f33 := f33, fd33 := fd33, d33 := d33, f36 := f36, fd36 := fd36, d36 := d36, f37 := f37, fd37 := fd37, d37 := d37, f38 := f38, fd38 := fd38, d38 := d38, f39 := f39, fd39 := fd39, d39 := d39, f40 := f40, fd40 := fd40, d40 := d40, f42 := f42, fd42 := fd42, d42 := d42, f43 := f43, fd43 := fd43, d43 := d43, f44 := f44, fd44 := fd44, d44 := d44, f45 := f45, fd45 := fd45, d45 := d45, f46 := f46, fd46 := fd46, d46 := d46, f48 := f48, fd48 := fd48, d48 := d48, f49 := f49, fd49 := fd49, d49 := d49, f50 := f50, fd50 := fd50, d50 := d50, f51 := f51, fd51 := fd51, d51 := d51, f52 := f52, fd52 := fd52, d52 := d52, f53 := f53, fd53 := fd53, d53 := d53, f54 := f54, fd54 := fd54, d54 := d54, f55 := f55, fd55 := fd55, d55 := d55, f57 := f57, fd57 := fd57, d57 := d57, f58 := f58, fd58 := fd58, d58 := d58, f59 := f59, fd59 := fd59, d59 := d59, f60 := f60, fd60 := fd60, d60 := d60, f61 := f61, fd61 := fd61, d61 := d61, f62 := f62, fd62 := fd62, d62 := d62, f63 := f63, fd63 := fd63, d63 := d63, f64 := _, fd64 := fd64, d64 := d64, C_InvalidKind := _, e_InvalidKind := eInvalidKind, C_InvalidLot := _, e_InvalidLot := eInvalidLot, C_InvalidNumber := _, e_InvalidNumber := eInvalidNumber, b_len := b_len, b_range := b_range, b_isinstance := b_isinstance, b_int := b_int, b_bool := b_bool, b_tuple := b_tuple, b_list := b_list, b_set := b_set, b_dict := b_dict, b_sorted := b_sorted, b_all := b_all, b_zip := b_zip, b_abs := b_abs, b_str := b_str, k_SORTS := kSORTS, c_SORTS := cSORTS, k_SETTINGS := kSETTINGS, c_SETTINGS := cSETTINGS, k_LONGEST := kLONGEST, c_LONGEST := cLONGEST, k_TRAINS := kTRAINS, c_TRAINS := cTRAINS, k_LOT := kLOT, c_LOT := cLOT, k_WALKERS := kWALKERS, c_WALKERS := cWALKERS, k_LATCHES := kLATCHES, c_LATCHES := cLATCHES, k_ROADS := kROADS, c_ROADS := cROADS }
  refine' law_end KX hmg T M (err_mk eInvalidKind eInvalidNumber eInvalidLot hM gInvalidTrain gInvalidRoad gInvalidTold gInvalidSorts gLatchError ?kk ?n1 ?n2 ?n3 ?n4 ?l1 ?l2 ?l3 ?l4 ?l5 ?m1 ?m2 ?m3 ?m4 ?m5 ?m6 ?m7 ?m8 ?ga ?gg ?hd rfl rfl rfl) hc ?lc ?v11 ?nP ?hh ?hP
  case kk => kts_exm
  case n1 => kts_exm
  case n2 => kts_exm
  case n3 => kts_exm
  case n4 => kts_exm
  case l1 => kts_exm
  case l2 => kts_exm
  case l3 => kts_exm
  case l4 => kts_exm
  case l5 => kts_exm
  case m1 => kts_exm
  case m2 => kts_exm
  case m3 => kts_exm
  case m4 => kts_exm
  case m5 => kts_exm
  case m6 => kts_exm
  case m7 => kts_exm
  case m8 => kts_exm
  case ga => k_is
  case gg => k_is
  case hd => k_is
  case lc => k_is
  case v11 => rfl
  case nP => kernel_rfl
  case hh => kernel_rfl
  case hP => exact km_tabs_of Y _ List.mem_cons_self
