import PyProof.Rows.All
import Wide.All
import OpenK.AllK
import Wide.FinOn
import HandS.ForMost
import HandS.ForExc
import HandS.IsInst
import HandS.Zip
import HandS.Deep
import HandS.SortOrd
import HandS.SlotsOwn
import HandS.TupAny
import HandS.TupMul
import HandS.Conv
import HandS.Wide
import HandS.NoneIn
import HandS.Flow
import HandS.Style
import KE.SortData
import KE.DataCmp
import HandS.SetFor
import KE.GoesMore
import HandS.TupLe
import HandS.Strs
import KE.KDictWalk
import KE.DataMinMax
import OpenK.KOps
import PyProof.ReprRoads
import HandS.EndBits
import PySem.Challenge.RW_samerounds_k05_whole_rounds
set_option Elab.async false
set_option linter.all false
set_option maxRecDepth 100000
set_option maxHeartbeats 4000000
namespace Y
open PySem PySem.Spec PyProof.Rows L2

abbrev Tag := Addr → Nat
def cut (H : Hp) (π : Tag) (t : Nat) : Hp := fun a => if π a = t then H a else none
theorem cut_some {H : Hp} {π : Tag} {t : Nat} {a : Addr} {o : HO} (h : cut H π t a = some o) : π a = t ∧ H a = some o := by
  unfold cut at h
  split at h
  · exact ⟨by assumption, h⟩
  · cases h
theorem cut_at {H : Hp} {π : Tag} {t : Nat} {a : Addr} {o : HO} (e : π a = t) (h : H a = some o) : cut H π t a = some o := by
  unfold cut
  rw [if_pos e]
  exact h
theorem cut_same {H H' : Hp} {π π' : Tag} {t : Nat} (h : ∀ a o, π a = t → H a = some o → H' a = some o ∧ π' a = t) : Same (cut H π t) (cut H' π' t) := fun a o e =>
  let ⟨h1, h2⟩ := cut_some e
  let ⟨h3, h4⟩ := h a o h1 h2
  cut_at h4 h3
theorem cut_sub {H : Hp} {π : Tag} {t : Nat} : Same (cut H π t) H := fun _ _ e => (cut_some e).2
def setT (π : Tag) (p : Addr) (t : Nat) : Tag := fun a => if a = p then t else π a
theorem setT_same {π : Tag} {p : Addr} {t : Nat} : setT π p t p = t := by unfold setT; rw [if_pos rfl]
theorem setT_ne {π : Tag} {p a : Addr} {t : Nat} (h : a ≠ p) : setT π p t a = π a := by unfold setT; rw [if_neg h]

theorem Same.rd {H H' : Hp} {a : Addr} {u : HO} (e : Same H H') (h : Rd H a u) : Rd H' a u := by
  rcases h with h | ⟨o, h⟩
  · exact .inl (e _ _ h)
  · exact .inr ⟨o, e _ _ h⟩
theorem Same.seqT {K : PySem.W.Frag} {H H' : Hp} {a : Addr} {xs : List V} (e : Same H H') (h : SqT K H a xs) : SqT K H' a xs := by
  rcases h with h | h
  · exact .inl (Same.rd e h)
  · exact .inr h
structure Ob where
  p : V → Hp → Prop
  st : ∀ {v : V} {G G' : Hp}, Same G G' → p v G → p v G'
inductive D where
  | none
  | bool (b : Bool)
  | int (i : Int)
  | str (s : Str)
  | list (xs : List D)
  | tuple (xs : List D)
  | ref (a : Addr)
  | inst (C : Addr) (fs : List (Option D))
  | dict (kvs : List (Key × D))
  | ob (o : Ob)
mutual
def D.toP : D → PyData
  | .none => .none
  | .bool b => .bool b
  | .int i => .int i
  | .str s => .str s
  | .list xs => .list (D.toPs xs)
  | .tuple xs => .tuple (D.toPs xs)
  | .ref _ => .none
  | .inst _ _ => .none
  | .dict _ => .none
  | .ob _ => .none
def D.toPs : List D → List PyData
  | [] => []
  | d :: ds => D.toP d :: D.toPs ds
end
mutual
def D.pur : D → Bool
  | .list xs => D.purs xs
  | .tuple xs => D.purs xs
  | .ref _ => false
  | .inst _ _ => false
  | .dict _ => false
  | .ob _ => false
  | _ => true
def D.purs : List D → Bool
  | [] => true
  | d :: ds => D.pur d && D.purs ds
end
mutual
inductive Rp (K : PySem.W.Frag) (G : Hp) : V → D → Prop
  | non : Rp K G .non .none
  | bl (b : Bool) : Rp K G (.bl b) (.bool b)
  | int (i : Int) : Rp K G (.int i) (.int i)
  | str (x : Str) : Rp K G (.str x) (.str x)
  | lst {a : Addr} {xs : List V} {ds : List D} : G a = some (.lst xs) → RpAll K G xs ds → Rp K G (.ref a) (.list ds)
  | tup {a : Addr} {xs : List V} {ds : List D} : SqT K G a xs → RpAll K G xs ds → Rp K G (.ref a) (.tuple ds)
  | ref (a : Addr) : Rp K G (.ref a) (.ref a)
  | inst {a C dx : Addr} {vs : List (Option V)} {fs : List (Option D)} : dx ≠ a → ((G a = some (.ins C dx []) ∧ G dx = some (.own a) ∧ vs = []) ∨ (G a = some (SlX.SlO a C dx vs) ∧ G dx = some (.xd []))) → RpFld K G vs fs → Rp K G (.ref a) (.inst C fs)
  | dict {a : Addr} {xs : List (Key × V)} {kvs : List (Key × D)} : G a = some (.dK xs) → RpKv K G xs kvs → Rp K G (.ref a) (.dict kvs)
  | ob {v : V} {o : Ob} : o.p v G → Rp K G v (.ob o)
inductive RpFld (K : PySem.W.Frag) (G : Hp) : List (Option V) → List (Option D) → Prop
  | nil {vs : List (Option V)} : RpFld K G vs []
  | no {v : Option V} {vs : List (Option V)} {ds : List (Option D)} : RpFld K G vs ds → RpFld K G (v :: vs) (none :: ds)
  | no0 {ds : List (Option D)} : RpFld K G [] ds → RpFld K G [] (none :: ds)
  | cons {v : V} {vs : List (Option V)} {d : D} {ds : List (Option D)} : Rp K G v d → RpFld K G vs ds → RpFld K G (some v :: vs) (some d :: ds)
inductive RpKv (K : PySem.W.Frag) (G : Hp) : List (Key × V) → List (Key × D) → Prop
  | nil : RpKv K G [] []
  | cons {k : Key} {v : V} {d : D} {vs : List (Key × V)} {ds : List (Key × D)} : Rp K G v d → RpKv K G vs ds → RpKv K G ((k, v) :: vs) ((k, d) :: ds)
inductive RpAll (K : PySem.W.Frag) (G : Hp) : List V → List D → Prop
  | nil : RpAll K G [] []
  | cons {v : V} {vs : List V} {d : D} {ds : List D} : Rp K G v d → RpAll K G vs ds → RpAll K G (v :: vs) (d :: ds)
end
section
variable {K : PySem.W.Frag} {G G' H : Hp}
mutual
theorem Rp.same' (e : Same G G') : ∀ (d : D) (v : V), Rp K G v d → Rp K G' v d
  | .none, _, h => by cases h; exact .non
  | .bool b, _, h => by cases h; exact .bl b
  | .int i, _, h => by cases h; exact .int i
  | .str x, _, h => by cases h; exact .str x
  | .list ds, _, h => by
    cases h with
    | lst hs ha => exact .lst (e _ _ hs) (RpAll.same' e ds _ ha)
  | .tuple ds, _, h => by
    cases h with
    | tup hs ha => exact .tup (Same.seqT e hs) (RpAll.same' e ds _ ha)
  | .ref a, _, h => by cases h; exact .ref a
  | .inst C fs, _, h => by
    cases h with
    | inst h1 h2 h3 => exact .inst h1 (h2.elim (fun ⟨x, y, z⟩ => .inl ⟨e _ _ x, e _ _ y, z⟩) fun ⟨x, y⟩ => .inr ⟨e _ _ x, e _ _ y⟩) (RpFld.same' e fs _ h3)
  | .dict kvs, _, h => by
    cases h with
    | dict h1 h2 => exact .dict (e _ _ h1) (RpKv.same' e kvs _ h2)
  | .ob o, _, h => by
    cases h with
    | ob hp => exact .ob (o.st e hp)
theorem RpFld.same' (e : Same G G') : ∀ (ds : List (Option D)) (vs : List (Option V)), RpFld K G vs ds → RpFld K G' vs ds
  | [], _, _ => .nil
  | none :: ds, _, h => by
    cases h with
    | no h2 => exact .no (RpFld.same' e ds _ h2)
    | no0 h2 => exact .no0 (RpFld.same' e ds _ h2)
  | some d :: ds, _, h => by
    cases h with
    | cons h1 h2 => exact .cons (Rp.same' e d _ h1) (RpFld.same' e ds _ h2)
theorem RpKv.same' (e : Same G G') : ∀ (ds : List (Key × D)) (vs : List (Key × V)), RpKv K G vs ds → RpKv K G' vs ds
  | [], _, h => by cases h; exact .nil
  | (k, d) :: ds, _, h => by
    cases h with
    | cons h1 h2 => exact .cons (Rp.same' e d _ h1) (RpKv.same' e ds _ h2)
theorem RpAll.same' (e : Same G G') : ∀ (ds : List D) (vs : List V), RpAll K G vs ds → RpAll K G' vs ds
  | [], _, h => by cases h; exact .nil
  | d :: ds, _, h => by
    cases h with
    | cons h1 h2 => exact .cons (Rp.same' e d _ h1) (RpAll.same' e ds _ h2)
end
theorem Rp.same {d : D} {v : V} (h : Rp K G v d) (e : Same G G') : Rp K G' v d := Rp.same' e d v h
theorem RpAll.same {d : List D} {v : List V} (h : RpAll K G v d) (e : Same G G') : RpAll K G' v d := RpAll.same' e d v h
mutual
theorem Rp.dp : ∀ (d : D) (v : V), d.pur = true → Rp K G v d → Dp K G v d.toP
  | .none, _, _, h => by cases h; exact .non
  | .bool b, _, _, h => by cases h; exact .bl b
  | .int i, _, _, h => by cases h; exact .int i
  | .str x, _, _, h => by cases h; exact .str x
  | .list ds, _, hp, h => by
    cases h with
    | lst hs ha => exact .lst (SqL.of hs) (RpAll.dp ds _ (by simpa [D.pur] using hp) ha)
  | .tuple ds, _, hp, h => by
    cases h with
    | tup hs ha => exact .tup hs (RpAll.dp ds _ (by simpa [D.pur] using hp) ha)
  | .ref _, _, hp, _ => by simp [D.pur] at hp
  | .inst _ _, _, hp, _ => by simp [D.pur] at hp
  | .dict _, _, hp, _ => by simp [D.pur] at hp
  | .ob o, _, hp, _ => by simp [D.pur] at hp
theorem RpAll.dp : ∀ (ds : List D) (vs : List V), D.purs ds = true → RpAll K G vs ds → DpAll K G vs (D.toPs ds)
  | [], _, _, h => by cases h; exact .nil
  | d :: ds, _, hp, h => by
    cases h with
    | cons h1 h2 =>
      have hp' : D.pur d = true ∧ D.purs ds = true := by simpa [D.purs] using hp
      exact .cons (Rp.dp d _ hp'.1 h1) (RpAll.dp ds _ hp'.2 h2)
end
theorem RpFld.get : ∀ {vs : List (Option V)} {ds : List (Option D)} {i : Nat} {d : D}, RpFld K G vs ds → ds[i]? = some (some d) → ∃ v, vs[i]? = some (some v) ∧ Rp K G v d
  | _, _, _, _, .nil, e => by simp at e
  | _, _, 0, _, .no _, e => by simp at e
  | _, _, i + 1, d, .no t, e => by
    obtain ⟨v, h1, h2⟩ := RpFld.get (i := i) (d := d) t (by simpa using e)
    exact ⟨v, by simpa using h1, h2⟩
  | _, _, 0, _, .no0 _, e => by simp at e
  | _, _, i + 1, d, .no0 t, e => by
    obtain ⟨v, h1, h2⟩ := RpFld.get (i := i) (d := d) t (by simpa using e)
    simp at h1
  | _, _, 0, _, .cons r _, e => by simp at e; subst e; exact ⟨_, rfl, r⟩
  | _, _, i + 1, d, .cons _ t, e => by
    obtain ⟨v, h1, h2⟩ := RpFld.get (i := i) (d := d) t (by simpa using e)
    exact ⟨v, by simpa using h1, h2⟩
theorem RpFld.of : ∀ {ds : List (Option D)} {vs : List (Option V)}, (∀ (i : Nat) (d : D), ds[i]? = some (some d) → ∃ v, vs[i]? = some (some v) ∧ Rp K G v d) → RpFld K G vs ds
  | [], _, _ => .nil
  | none :: ds, [], h => .no0 (RpFld.of fun i d e => by
    obtain ⟨v, h1, _⟩ := h (i + 1) d (by simpa using e)
    simp at h1)
  | none :: ds, v :: vs, h => .no (RpFld.of fun i d e => by
    obtain ⟨v, h1, h2⟩ := h (i + 1) d (by simpa using e)
    exact ⟨v, by simpa using h1, h2⟩)
  | some d :: ds, [], h => by
    obtain ⟨v, h1, _⟩ := h 0 d rfl
    simp at h1
  | some d :: ds, v :: vs, h => by
    obtain ⟨w, h1, h2⟩ := h 0 d rfl
    have e : v = some w := by simpa using h1
    subst e
    exact .cons h2 (RpFld.of fun i d e => by
      obtain ⟨v, h1, h2⟩ := h (i + 1) d (by simpa using e)
      exact ⟨v, by simpa using h1, h2⟩)
theorem RpAll.length : ∀ {vs : List V} {ds : List D}, RpAll K G vs ds → vs.length = ds.length
  | _, _, .nil => rfl
  | _, _, .cons _ t => by simp [t.length]
theorem RpAll.get : ∀ {vs : List V} {ds : List D} {i : Nat} {d : D}, RpAll K G vs ds → ds[i]? = some d → ∃ v, vs[i]? = some v ∧ Rp K G v d
  | _, _, _, _, .nil, e => by simp at e
  | _, _, 0, _, .cons r _, e => by simp at e; subst e; exact ⟨_, rfl, r⟩
  | _, _, i + 1, d, .cons _ t, e => by
    obtain ⟨v, h1, h2⟩ := RpAll.get (i := i) (d := d) t (by simpa using e)
    exact ⟨v, by simpa using h1, h2⟩
theorem RpAll.getV : ∀ {vs : List V} {ds : List D} {i : Nat} {v : V}, RpAll K G vs ds → vs[i]? = some v → ∃ d, ds[i]? = some d ∧ Rp K G v d
  | _, _, _, _, .nil, e => by simp at e
  | _, _, 0, _, .cons r _, e => by simp at e; subst e; exact ⟨_, rfl, r⟩
  | _, _, i + 1, d, .cons _ t, e => by
    obtain ⟨v, h1, h2⟩ := RpAll.getV (i := i) (v := d) t (by simpa using e)
    exact ⟨v, by simpa using h1, h2⟩
theorem RpAll.append : ∀ {vs ws : List V} {ds es : List D}, RpAll K G vs ds → RpAll K G ws es → RpAll K G (vs ++ ws) (ds ++ es)
  | _, _, _, _, .nil, h => h
  | _, _, _, _, .cons r t, h => .cons r (t.append h)
theorem RpAll.take : ∀ {vs : List V} {ds : List D} (n : Nat), RpAll K G vs ds → RpAll K G (vs.take n) (ds.take n)
  | _, _, 0, _ => .nil
  | _, _, _ + 1, .nil => .nil
  | _, _, n + 1, .cons r t => .cons r (t.take n)
theorem RpAll.drop : ∀ {vs : List V} {ds : List D} (n : Nat), RpAll K G vs ds → RpAll K G (vs.drop n) (ds.drop n)
  | _, _, 0, h => h
  | _, _, _ + 1, .nil => .nil
  | _, _, n + 1, .cons _ t => t.drop n
theorem RpAll.reverse : ∀ {vs : List V} {ds : List D}, RpAll K G vs ds → RpAll K G vs.reverse ds.reverse
  | _, _, .nil => .nil
  | _, _, .cons r t => by
    rw [List.reverse_cons, List.reverse_cons]
    exact t.reverse.append (.cons r .nil)
theorem RpAll.set {d : D} {v : V} (r : Rp K G v d) : ∀ {vs : List V} {ds : List D} (i : Nat), RpAll K G vs ds → RpAll K G (vs.set i v) (ds.set i d)
  | _, _, _, .nil => .nil
  | _, _, 0, .cons _ t => .cons r t
  | _, _, i + 1, .cons q t => .cons q (RpAll.set r i t)
theorem RpAll.ints : ∀ (xs : List Int), RpAll K G (xs.map V.int) (xs.map D.int)
  | [] => .nil
  | x :: xs => .cons (.int x) (RpAll.ints xs)
theorem RpAll.intsV : ∀ (xs : List Int) {vs : List V}, RpAll K G vs (xs.map D.int) → vs = xs.map V.int
  | [], _, h => by cases h; rfl
  | x :: xs, _, h => by
    cases h with
    | cons a b => cases a; rw [RpAll.intsV xs b]; rfl
theorem RpAll.blsV : ∀ (xs : List Bool) {vs : List V}, RpAll K G vs (xs.map D.bool) → vs = xs.map V.bl
  | [], _, h => by cases h; rfl
  | x :: xs, _, h => by
    cases h with
    | cons a b => cases a; rw [RpAll.blsV xs b]; rfl
theorem RpAll.strsV : ∀ (xs : List Str) {vs : List V}, RpAll K G vs (xs.map D.str) → vs = xs.map V.str
  | [], _, h => by cases h; rfl
  | x :: xs, _, h => by
    cases h with
    | cons a b => cases a; rw [RpAll.strsV xs b]; rfl
end

structure Wn where
  p : V → Hp → Hp → Prop
  st : ∀ {v : V} {G G' O O' : Hp}, Same G G' → Same O O' → p v G O → p v G' O'
inductive Sl where
  | st (d : D)
  | lst (ds : List D)
  | dK (kvs : List (Key × D))
  | dT (kvs : List (List Key × D))
  | own (o : Wn)
inductive KvOk {κ : Type} (K : PySem.W.Frag) (G : Hp) : List (κ × V) → List (κ × D) → Prop
  | nil : KvOk K G [] []
  | cons {k : κ} {v : V} {d : D} {vs : List (κ × V)} {ds : List (κ × D)} : Rp K G v d → KvOk K G vs ds → KvOk K G ((k, v) :: vs) ((k, d) :: ds)
theorem KvOk.same {κ : Type} {K : PySem.W.Frag} {G G' : Hp} (e : Same G G') : ∀ {vs : List (κ × V)} {ds : List (κ × D)}, KvOk K G vs ds → KvOk K G' vs ds
  | _, _, .nil => .nil
  | _, _, .cons r t => .cons (r.same e) (t.same e)
def SlOk (K : PySem.W.Frag) : Sl → V → Hp → Hp → Prop
  | .st d, v, G, _ => Rp K G v d
  | .lst ds, v, G, O => ∃ p xs, v = .ref p ∧ O p = some (.lst xs) ∧ RpAll K G xs ds
  | .dK kvs, v, G, O => ∃ p xs, v = .ref p ∧ O p = some (.dK xs) ∧ KvOk K G xs kvs
  | .dT kvs, v, G, O => ∃ p xs, v = .ref p ∧ O p = some (.dT xs) ∧ KvOk K G xs kvs
  | .own o, v, G, O => o.p v G O
theorem SlOk.same {K : PySem.W.Frag} {s : Sl} {v : V} {G G' O O' : Hp} (h : SlOk K s v G O) (e : Same G G') (f : Same O O') : SlOk K s v G' O' := by
  cases s with
  | st d => exact Rp.same (d := d) h e
  | lst ds => obtain ⟨p, xs, a, b, c⟩ := h; exact ⟨p, xs, a, f _ _ b, c.same e⟩
  | dK ds => obtain ⟨p, xs, a, b, c⟩ := h; exact ⟨p, xs, a, f _ _ b, c.same e⟩
  | dT ds => obtain ⟨p, xs, a, b, c⟩ := h; exact ⟨p, xs, a, f _ _ b, c.same e⟩
  | own o => exact o.st e f h

structure MS where
  cells : List Int
  great : List Int
  spot : Int
  c : Addr
  g : Addr
def sC : Str := "cells"
def sG : Str := "great"
def sS : Str := "spot"
def MuOk : Option (Addr × MS) → Hp → Hp → Prop
  | none, _, _ => True
  | some (a, m), G, O => O a = some (.dK [(.inr sC, .ref m.c), (.inr sG, .ref m.g), (.inr sS, .int m.spot)]) ∧ G m.c = some (.lst (m.cells.map V.int)) ∧ O m.g = some (.lst (m.great.map V.int))
theorem MuOk.same {m : Option (Addr × MS)} {G G' O O' : Hp} (h : MuOk m G O) (e : Same G G') (f : Same O O') : MuOk m G' O' := by
  cases m with
  | none => trivial
  | some am => obtain ⟨a, b, d⟩ := h; exact ⟨f _ _ a, e _ _ b, f _ _ d⟩

structure En where
  sl : List (Option Sl)
  mu : Option (Addr × MS) := none
structure LenOk (K : PySem.W.Frag) (H : Hp) : Prop where
  l : ∀ a xs, SqL K H a xs → xs.length ≤ sizeLine
  t : ∀ a xs, SqT K H a xs → xs.length ≤ sizeLine
theorem inv_lens {X : Cx} {pins : List (Addr × Obj)} {σ : L2.St} {H : Hp} {s : Shared} (I : Inv X pins σ H s) : LenOk X.K H :=
  ⟨fun _ _ h => let ⟨_, _, _, z⟩ := I.list h; z, fun _ _ h => let ⟨_, _, _, z⟩ := I.tuple h; z⟩
structure EnOk (K : PySem.W.Frag) (Γ : En) (π : Tag) (H : Hp) (σ : L2.St) : Prop where
  at_ : ∀ i s, Γ.sl[i]? = some (some s) → ∃ v, σ[i]? = some (some v) ∧ SlOk K s v (cut H π 0) (cut H π (i + 3))
  mu : MuOk Γ.mu (cut H π 0) (cut H π 2)
  len : LenOk K H
  sl : Γ.sl.length ≤ σ.length
def Stp (π : Tag) (H : Hp) (π' : Tag) (H' : Hp) : Prop := ∀ a o, H a = some o → π a ≠ 2 → H' a = some o ∧ π' a = π a
def Fix (π : Tag) (H : Hp) (π' : Tag) (H' : Hp) : Prop := ∀ a o, H a = some o → π a ≤ 1 → H' a = some o ∧ π' a = π a
def Pur (π : Tag) (H : Hp) (π' : Tag) (H' : Hp) : Prop := ∀ a o, H a = some o → H' a = some o ∧ π' a = π a
theorem Pur.refl {π : Tag} {H : Hp} : Pur π H π H := fun _ _ h => ⟨h, rfl⟩
theorem Pur.trans {π π1 π2 : Tag} {H H1 H2 : Hp} (a : Pur π H π1 H1) (b : Pur π1 H1 π2 H2) : Pur π H π2 H2 := fun x o h =>
  let ⟨h1, h2⟩ := a x o h
  let ⟨h3, h4⟩ := b x o h1
  ⟨h3, h4.trans h2⟩
theorem Pur.stp {π π1 : Tag} {H H1 : Hp} (a : Pur π H π1 H1) : Stp π H π1 H1 := fun x o h _ => a x o h
theorem Stp.refl {π : Tag} {H : Hp} : Stp π H π H := fun _ _ h _ => ⟨h, rfl⟩
theorem Stp.trans {π π1 π2 : Tag} {H H1 H2 : Hp} (a : Stp π H π1 H1) (b : Stp π1 H1 π2 H2) : Stp π H π2 H2 := fun x o h t =>
  let ⟨h1, h2⟩ := a x o h t
  let ⟨h3, h4⟩ := b x o h1 (by rw [h2]; exact t)
  ⟨h3, h4.trans h2⟩
theorem Stp.part {π π1 : Tag} {H H1 : Hp} (a : Stp π H π1 H1) {t : Nat} (ht : t ≠ 2) : Same (cut H π t) (cut H1 π1 t) := cut_same fun x o e h =>
  let ⟨h1, h2⟩ := a x o h (by omega)
  ⟨h1, h2.trans e⟩
theorem Stp.fix {π π1 : Tag} {H H1 : Hp} (a : Stp π H π1 H1) : Fix π H π1 H1 := fun x o h t => a x o h (by omega)
theorem Fix.refl {π : Tag} {H : Hp} : Fix π H π H := fun _ _ h _ => ⟨h, rfl⟩
theorem Fix.trans {π π1 π2 : Tag} {H H1 H2 : Hp} (a : Fix π H π1 H1) (b : Fix π1 H1 π2 H2) : Fix π H π2 H2 := fun x o h t =>
  let ⟨h1, h2⟩ := a x o h t
  let ⟨h3, h4⟩ := b x o h1 (by rw [h2]; exact t)
  ⟨h3, h4.trans h2⟩
theorem Fix.zero {π π1 : Tag} {H H1 : Hp} (a : Fix π H π1 H1) : Same (Y.cut H π 0) (Y.cut H1 π1 0) := cut_same fun x o t h =>
  let ⟨h1, h2⟩ := a x o h (by omega)
  ⟨h1, h2.trans t⟩
theorem Stp.zero {π π1 : Tag} {H H1 : Hp} (a : Stp π H π1 H1) : Same (cut H π 0) (cut H1 π1 0) := cut_same fun x o t h =>
  let ⟨h1, h2⟩ := a x o h (by omega)
  ⟨h1, h2.trans t⟩
theorem Pur.cut {π π1 : Tag} {H H1 : Hp} (a : Pur π H π1 H1) (t : Nat) : Same (cut H π t) (cut H1 π1 t) := cut_same fun x o e h =>
  let ⟨h1, h2⟩ := a x o h
  ⟨h1, h2.trans e⟩
theorem EnOk.pur {K : PySem.W.Frag} {Γ : En} {π π' : Tag} {H H' : Hp} {σ : L2.St} (h : EnOk K Γ π H σ) (p : Pur π H π' H') (l : LenOk K H') : EnOk K Γ π' H' σ :=
  ⟨fun i s e => let ⟨v, h1, h2⟩ := h.at_ i s e; ⟨v, h1, h2.same (p.cut 0) (p.cut (i + 3))⟩, h.mu.same (p.cut 0) (p.cut 2), l, h.sl⟩
theorem Pur.new {π : Tag} {H : Hp} {p : Addr} {o : HO} (t : Nat) (h : H p = none) : Pur π H (setT π p t) (upd H p o) := fun a u e => by
  have n : a ≠ p := ne_of_none e h
  exact ⟨by rw [upd_ne n]; exact e, setT_ne n⟩
theorem cut_new {π : Tag} {H : Hp} {p : Addr} {o : HO} {t : Nat} : cut (upd H p o) (setT π p t) t p = some o := cut_at setT_same upd_same

def Kx (K : PySem.W.Frag) (Γ' : En) (d : D) (π : Tag) (H : Hp) (σ : L2.St) (Q : VK) : Prop := ∀ v π' H', Stp π H π' H' → EnOk K Γ' π' H' σ → Rp K (cut H' π' 0) v d → Q v H'
def rE (K : PySem.W.Frag) (Γ Γ' : En) (d : D) : TE := fun σ H Q => ∃ π, EnOk K Γ π H σ ∧ Kx K Γ' d π H σ Q
def XE (X : Cx) (Γ : En) (e : Expr) (Γ' : En) (d : D) : Prop := PE X e (rE X.K Γ Γ' d)
def rT (K : PySem.W.Frag) (Γ Γ' : En) (b : Bool) : TT := fun σ H Q => ∃ π, EnOk K Γ π H σ ∧ ∀ π' H', Stp π H π' H' → EnOk K Γ' π' H' σ → Q b H'
def XT (X : Cx) (Γ : En) (e : Expr) (Γ' : En) (b : Bool) : Prop := PT X e (rT X.K Γ Γ' b)
def XW (X : Cx) (Γ : En) (e : Expr) (Γ' : En) (b : Bool) : Prop := PW X e (rT X.K Γ Γ' b)
def rA (K : PySem.W.Frag) (Γ Γ' : En) (ds : List D) : TA := fun σ H Q => ∃ π, EnOk K Γ π H σ ∧ ∀ vs π' H', Stp π H π' H' → EnOk K Γ' π' H' σ → RpAll K (cut H' π' 0) vs ds → Q vs H'
def XA (X : Cx) (Γ : En) (es : List Expr) (Γ' : En) (ds : List D) : Prop := PA X es (rA X.K Γ Γ' ds)

def lenQ (K : PySem.W.Frag) (Q : VK) : VK := fun v H' => LenOk K H' → Q v H'
theorem PE.lenQ {X : Cx} {e : Expr} {t t' : TE} (h : PE X e t) (i : ∀ σ H Q, t' σ H Q → t σ H (lenQ X.K Q)) : PE X e t' := ⟨fun pins s σ H Q I q =>
  thn (h.run pins s σ H _ I (i σ H Q q)) fun _ _ ⟨v, H', I', r, z⟩ => ⟨v, H', I', r, z (inv_lens I')⟩⟩
theorem PT.imp {X : Cx} {e : Expr} {t t' : TT} (h : PT X e t) (i : ∀ σ H Q, t' σ H Q → t σ H Q) : PT X e t' := ⟨fun pins s σ H Q I q => h.run pins s σ H Q I (i σ H Q q)⟩
theorem PW.imp {X : Cx} {e : Expr} {t t' : TT} (h : PW X e t) (i : ∀ σ H Q, t' σ H Q → t σ H Q) : PW X e t' := ⟨fun w pins s σ H Q I q => h.run w pins s σ H Q I (i σ H Q q)⟩
theorem PA.imp {X : Cx} {e : List Expr} {t t' : TA} (h : PA X e t) (i : ∀ σ H Q, t' σ H Q → t σ H Q) : PA X e t' := ⟨fun p pins s σ H Q I q => h.run p pins s σ H Q I (i σ H Q q)⟩
theorem PS.imp {X : Cx} {e : Stmt} {t t' : TS} (h : PS X e t) (i : ∀ D σ H, t' D σ H → t D σ H) : PS X e t' := ⟨fun pins s σ H D I q => h.run pins s σ H D I (i D σ H q)⟩
theorem PSs.imp {X : Cx} {e : List Stmt} {t t' : TS} (h : PSs X e t) (i : ∀ D σ H, t' D σ H → t D σ H) : PSs X e t' := ⟨fun pins s σ H D I q => h.run pins s σ H D I (i D σ H q)⟩
theorem xe_of {X : Cx} {e : Expr} {t : TE} {Γ Γ' : En} {d : D} (h : PE X e t) (i : ∀ σ H π Q, EnOk X.K Γ π H σ → Kx X.K Γ' d π H σ Q → t σ H (lenQ X.K Q)) : XE X Γ e Γ' d :=
  PE.lenQ h fun σ H Q ⟨π, en, k⟩ => i σ H π Q en k

def KxF (K : PySem.W.Frag) (Γ' : En) (ds : List D) (π : Tag) (H : Hp) (σ : L2.St) (Q : VK) : Prop := ∀ p xs π' H', Stp π H π' H' → EnOk K Γ' π' H' σ → π' p = 1 → H' p = some (.lst xs) → (∀ o, H p = some o → π p = 2) → RpAll K (cut H' π' 0) xs ds → Q (.ref p) H'
def rF (K : PySem.W.Frag) (Γ Γ' : En) (ds : List D) : TE := fun σ H Q => ∃ π, EnOk K Γ π H σ ∧ KxF K Γ' ds π H σ Q
def XF (X : Cx) (Γ : En) (e : Expr) (Γ' : En) (ds : List D) : Prop := PE X e (rF X.K Γ Γ' ds)
theorem xf_of {X : Cx} {e : Expr} {t : TE} {Γ Γ' : En} {d : List D} (h : PE X e t) (i : ∀ σ H π Q, EnOk X.K Γ π H σ → KxF X.K Γ' d π H σ Q → t σ H (lenQ X.K Q)) : XF X Γ e Γ' d :=
  PE.lenQ h fun σ H Q ⟨π, en, k⟩ => i σ H π Q en k
theorem cut_retag {H : Hp} {π : Tag} {p : Addr} {t u : Nat} (h : π p ≠ t) : Same (cut H π t) (cut H (setT π p u) t) := cut_same fun a o q e => ⟨e, by rw [setT_ne (fun z => h (by rw [← z]; exact q))]; exact q⟩
theorem EnOk.retag {K : PySem.W.Frag} {Γ : En} {π : Tag} {H : Hp} {σ : L2.St} (h : EnOk K Γ π H σ) {p : Addr} (u : Nat) (hp : π p = 1) : EnOk K Γ (setT π p u) H σ :=
  ⟨fun i s e => let ⟨v, h1, h2⟩ := h.at_ i s e; ⟨v, h1, h2.same (cut_retag (by omega)) (cut_retag (by omega))⟩, h.mu.same (cut_retag (by omega)) (cut_retag (by omega)), h.len, h.sl⟩
theorem XF.e {X : Cx} {Γ Γ' : En} {e : Expr} {ds : List D} (h : XF X Γ e Γ' ds) : XE X Γ e Γ' (.list ds) := ⟨fun pins s σ H Q I ⟨π, en, kx⟩ => h.run pins s σ H Q I ⟨π, en, fun p xs π' H' st en' tg hp fr r => by
  refine kx (.ref p) (setT π' p 0) H' (fun a o q n2 => ?_) (en'.retag 0 tg) (.lst (cut_at setT_same hp) (r.same (cut_retag (by omega))))
  have h1 := st a o q n2
  refine ⟨h1.1, ?_⟩
  rw [setT_ne (fun z => n2 (by rw [z]; exact fr o (by rw [← z]; exact q)))]
  exact h1.2⟩⟩

structure Rw where
  P : Program
  w : World
  K : PySem.W.Frag
  mg : Str → Option Value
  base : Heap
structure CxIs (R : Rw) (k : Nat) (X : Cx) (N : List Str) (sc : Scope) : Prop where
  P : X.prog = R.P
  w : X.w = R.w
  K : X.K = R.K
  mg : X.mg = R.mg
  base : X.base = R.base
  n : X.N = N
  sc : X.env.scope = sc
  calm : X.calm = true
  nd : N.Nodup
  room : Room k X.A
theorem CxIs.vis {R : Rw} {k : Nat} {X : Cx} {N : List Str} {sc : Scope} (c : CxIs R k X N sc) {x : Str} (h : Vis sc x) : Vis X.env.scope x := by rw [c.sc]; exact h
theorem CxIs.gl {R : Rw} {k : Nat} {X : Cx} {N : List Str} {sc : Scope} (c : CxIs R k X N sc) {x : Str} (h : sc.names.lookup x = some .globalImplicit) : Gl X x := by
  show X.env.scope.names.lookup x = _
  rw [c.sc]
  exact h
theorem CxIs.none {R : Rw} {k : Nat} {X : Cx} {N : List Str} {sc : Scope} (c : CxIs R k X N sc) {x : Str} (h : R.mg x = none) : X.mg x = none := by rw [c.mg]; exact h
theorem CxIs.u {R : Rw} {k : Nat} {X : Cx} {N : List Str} {sc : Scope} (c : CxIs R k X N sc) : X.A.units + 64 < cLine := c.room.units
structure Blt (mg : Str → Option Value) : Prop where
  len : mg "len" = none
  all : mg "all" = none
  any : mg "any" = none
  tuple : mg "tuple" = none
  list : mg "list" = none
  sorted : mg "sorted" = none
  set : mg "set" = none
  range : mg "range" = none
  zip : mg "zip" = none
  enumerate : mg "enumerate" = none
  isinstance : mg "isinstance" = none
  int : mg "int" = none
  str : mg "str" = none
  bool : mg "bool" = none
  repr : mg "repr" = none
  sum : mg "sum" = none
  max : mg "max" = none
  min : mg "min" = none
  valueError : mg "ValueError" = none
  overflowError : mg "OverflowError" = none

section
variable {R : Rw} {k : Nat} {X : Cx} {N : List Str} {sc : Scope} {Γ Γ1 Γ2 Γ3 : En} {a b c e : Expr} {pos p : Pos}
theorem xe_st (C : CxIs R k X N sc) (i : Nat) {x : Str} {d : D} (hΓ : Γ.sl[i]? = some (some (.st d))) (hN : N[i]? = some x) (hv : Vis sc x) (hd : (x == ("__debug__" : Str)) = false := by decide) (hcd : (x == ("__classdict__" : Str)) = false := by decide) :
    XE X Γ (.Name x pos) Γ d := xe_of (pe_var (i := i) (by rw [C.n]; exact hN) (C.vis hv) hd hcd) fun σ H π Q h k => by
  obtain ⟨v, h1, h2⟩ := h.at_ i _ hΓ
  exact ⟨v, h1, fun _ => k v π H Stp.refl h h2⟩
theorem xe_c {v : V} {d : D} (h : PE X e (tC v)) (hd : ∀ G, Rp X.K G v d) : XE X Γ e Γ d := xe_of h fun σ H π Q h k _ => k v π H Stp.refl h (hd _)
theorem xe_int {i : Int} {j : Nat} : XE X Γ (.Constant (.int i) j pos) Γ (.int i) := xe_c pe_int fun _ => .int i
theorem xe_bl {i : Bool} {j : Nat} : XE X Γ (.Constant (.bool i) j pos) Γ (.bool i) := xe_c pe_bl fun _ => .bl i
theorem xe_non {j : Nat} : XE X Γ (.Constant .none j pos) Γ .none := xe_c pe_non fun _ => .non
theorem xe_str {i : Str} {j : Nat} : XE X Γ (.Constant (.str i) j pos) Γ (.str i) := xe_c pe_str fun _ => .str i

def RV (K : PySem.W.Frag) (r : R2) (da db d : D) : Prop := ∀ (Γ : En) (π : Tag) (H : Hp) (σ : L2.St) (x y : V) (Q : VK), EnOk K Γ π H σ → Rp K (cut H π 0) x da → Rp K (cut H π 0) y db → Kx K Γ d π H σ Q → r x y H (lenQ K Q)
theorem tOp_of {r : R2} {da db d : D} (hr : RV X.K r da db d) : ∀ σ H π Q, EnOk X.K Γ π H σ → Kx X.K Γ2 d π H σ Q → tOp r (rE X.K Γ Γ1 da) (rE X.K Γ1 Γ2 db) σ H (lenQ X.K Q) := fun σ H π Q h k =>
  ⟨π, h, fun x π1 H1 s1 e1 r1 => ⟨π1, e1, fun y π2 H2 s2 e2 r2 => hr Γ2 π2 H2 σ x y Q e2 (r1.same s2.zero) r2 fun v π3 H3 s3 e3 r3 => k v π3 H3 ((s1.trans s2).trans s3) e3 r3⟩⟩
theorem xe_op {op : Operator} {r : R2} {da db d : D} (ho : OpR X (binaryOp op) r) (ha : XE X Γ a Γ1 da) (hb : XE X Γ1 b Γ2 db) (hr : RV X.K r da db d) : XE X Γ (.BinOp a op b pos) Γ2 d := xe_of (pe_op ho ha hb) (tOp_of hr)
theorem xe_cmpR {op : CmpOp} {r : R2} {da db d : D} (ho : OpR X (compareOp op) r) (ha : XE X Γ a Γ1 da) (hb : XE X Γ1 b Γ2 db) (hr : RV X.K r da db d) (hm : behindInMarks op b = false) : XE X Γ (.Compare a [op] [b] pos) Γ2 d := xe_of (pe_cmpR ho ha hb hm) (tOp_of hr)
structure XB (X : Cx) (Γ : En) (x : Expr) (Γ' : En) (b : Bool) : Prop where
  e : XE X Γ x Γ' (.bool b)
  t : XT X Γ x Γ' b
theorem rv_val {K : PySem.W.Frag} {r : R2} {da db z : D} {zv : V} (hz : ∀ G, Rp K G zv z) (h : ∀ G H x y Q, Same G H → LenOk K H → Rp K G x da → Rp K G y db → Q zv H → r x y H Q) : RV K r da db z := fun Γ π H σ x y Q e rx ry k =>
  h _ H x y _ cut_sub e.len rx ry fun _ => k zv π H Stp.refl e (hz _)
def RB (K : PySem.W.Frag) (r : R2) (da db : D) (kk : Bool) : Prop := ∀ (G H : Hp) (x y : V) (Q : VK), Same G H → LenOk K H → Rp K G x da → Rp K G y db → Q (.bl kk) H → r x y H Q
theorem xb_cmpR {op : CmpOp} {r : R2} {da db : D} {kk : Bool} (ho : OpR X (compareOp op) r) (ha : XE X Γ a Γ1 da) (hb : XE X Γ1 b Γ2 db) (hr : RB X.K r da db kk) (hm : behindInMarks op b = false) : XB X Γ (.Compare a [op] [b] pos) Γ2 kk :=
  ⟨xe_cmpR ho ha hb (rv_val (zv := .bl kk) (fun _ => .bl _) hr) hm, PT.imp (pt_cmpR ho ha hb hm) fun σ H Q ⟨π, en, q⟩ => ⟨π, en, fun x π1 H1 s1 e1 r1 => ⟨π1, e1, fun y π2 H2 s2 e2 r2 =>
    hr _ H2 x y _ cut_sub e2.len (r1.same s2.zero) r2 ⟨kk, rfl, q π2 H2 (s1.trans s2) e2⟩⟩⟩⟩
theorem KxF.new {K : PySem.W.Frag} {ds : List D} {π : Tag} {H : Hp} {σ : L2.St} {Q : VK} (k : KxF K Γ ds π H σ Q) (en : EnOk K Γ π H σ) {p : Addr} {xs : List V} (hp : H p = none) (r : RpAll K (cut H π 0) xs ds) : lenQ K Q (.ref p) (upd H p (.lst xs)) := fun l =>
  k p xs (setT π p 1) _ (Pur.new 1 hp).stp (en.pur (Pur.new 1 hp) l) setT_same upd_same (fun o q => by rw [hp] at q; cases q) (r.same ((Pur.new 1 hp).cut 0))
theorem KxF.step {K : PySem.W.Frag} {Γ' : En} {ds : List D} {π π' : Tag} {H H' : Hp} {σ : L2.St} {Q : VK} (k : KxF K Γ' ds π H σ Q) (s : Stp π H π' H') : KxF K Γ' ds π' H' σ Q := fun p xs π2 H2 s2 e2 t2 h2 fr r2 => k p xs π2 H2 (s.trans s2) e2 t2 h2 (fun o q => by
  by_cases h : π p = 2
  · exact h
  · have h1 := s p o q h
    have h3 := fr o h1.1
    exact absurd (h1.2.symm.trans h3) h) r2
theorem Kx.step {K : PySem.W.Frag} {Γ' : En} {d : D} {π π' : Tag} {H H' : Hp} {σ : L2.St} {Q : VK} (k : Kx K Γ' d π H σ Q) (s : Stp π H π' H') : Kx K Γ' d π' H' σ Q := fun v π2 H2 s2 e2 r2 => k v π2 H2 (s.trans s2) e2 r2
theorem Kx.new {K : PySem.W.Frag} {d : D} {π : Tag} {H : Hp} {σ : L2.St} {Q : VK} (k : Kx K Γ d π H σ Q) (en : EnOk K Γ π H σ) {p : Addr} {o : HO} (hp : H p = none) (r : ∀ G, Same (cut H π 0) G → G p = some o → Rp K G (.ref p) d) : lenQ K Q (.ref p) (upd H p o) := fun l =>
  k (.ref p) (setT π p 0) _ (Pur.new 0 hp).stp (en.pur (Pur.new 0 hp) l) (r _ ((Pur.new 0 hp).cut 0) cut_new)
end
end Y
set_option Elab.async false
set_option linter.all false
set_option maxRecDepth 100000
set_option maxHeartbeats 4000000
namespace Y
open PySem PySem.Spec PyProof.Rows L2
section
variable {R : Rw} {k : Nat} {X : Cx} {N : List Str} {sc : Scope} {Γ Γ1 Γ2 Γ3 : En} {a b c e : Expr} {es : List Expr} {pos p : Pos}

theorem rv_I0 {K : PySem.W.Frag} {g : Int → Int → V} {i j : Int} {z : D} (hz : ∀ G, Rp K G (g i j) z) : RV K (rI0 g) (.int i) (.int j) z :=
  rv_val hz fun G H x y Q _ _ rx ry q => by cases rx; cases ry; exact ⟨i, j, rfl, rfl, q⟩
theorem rv_I {K : PySem.W.Frag} {C : Int → Int → Prop} {g : Int → Int → V} {i j : Int} {z : D} (hc : C i j) (hz : ∀ G, Rp K G (g i j) z) : RV K (rI C g) (.int i) (.int j) z :=
  rv_val hz fun G H x y Q _ _ rx ry q => by cases rx; cases ry; exact ⟨i, j, rfl, rfl, hc, q⟩
theorem rb_I0 {K : PySem.W.Frag} {g : Int → Int → Bool} {i j : Int} : RB K (rI0 fun i j => .bl (g i j)) (.int i) (.int j) (g i j) := fun G H x y Q _ _ rx ry q => by cases rx; cases ry; exact ⟨i, j, rfl, rfl, q⟩
theorem xe_sub {i j : Int} (ha : XE X Γ a Γ1 (.int i)) (hb : XE X Γ1 b Γ2 (.int j)) : XE X Γ (.BinOp a .Sub b pos) Γ2 (.int (i - j)) := xe_op op_sub ha hb (rv_I0 fun _ => .int _)

inductive AddR : D → D → D → Prop
  | int (i j : Int) : AddR (.int i) (.int j) (.int (i + j))
  | str (x y : Str) (h : x.length + y.length ≤ 100000) : AddR (.str x) (.str y) (.str (x ++ y))
  | tup (xs ys : List D) (h : xs.length + ys.length ≤ 100000) : AddR (.tuple xs) (.tuple ys) (.tuple (xs ++ ys))
  | lst (xs ys : List D) (h : xs.length + ys.length ≤ 100000) : AddR (.list xs) (.list ys) (.list (xs ++ ys))
theorem size100 {n : Nat} (h : n ≤ 100000) : n ≤ sizeLine := Nat.le_trans h (by decide)
theorem xf_add {xs ys : List D} (ha : XE X Γ a Γ1 (.list xs)) (hb : XE X Γ1 b Γ2 (.list ys)) (h : xs.length + ys.length ≤ 100000) : XF X Γ (.BinOp a .Add b pos) Γ2 (xs ++ ys) := xf_of (pe_op op_cat ha hb) fun σ H π Q en k =>
  ⟨π, en, fun x π1 H1 st1 e1 r1 => ⟨π1, e1, fun y π2 H2 st2 e2 r2 => by
    cases r1.same st2.zero with
    | lst s1 r1 =>
      cases r2 with
      | lst s2 r2 =>
        exact ⟨_, _, _, _, rfl, rfl, cut_sub _ _ s1, cut_sub _ _ s2, by rw [r1.length, r2.length]; exact size100 h, fun p hp => ((k.step st1).step st2).new e2 hp (r1.append r2)⟩⟩⟩
theorem xe_add {x y z : D} (ha : XE X Γ a Γ1 x) (hb : XE X Γ1 b Γ2 y) (h : AddR x y z) : XE X Γ (.BinOp a .Add b pos) Γ2 z := by
  cases h with
  | int i j => exact xe_op op_add ha hb (rv_I0 fun _ => .int _)
  | str x y h => exact xe_op op_add_str ha hb (rv_val (zv := .str (x ++ y)) (fun _ => .str _) fun G H u v Q _ _ rx ry q => by cases rx; cases ry; exact ⟨x, y, rfl, rfl, size100 h, q⟩)
  | tup xs ys h =>
    refine xe_op op_catA ha hb fun Γ π H σ x y Q en rx ry k => ?_
    cases rx with
    | tup s1 r1 =>
      cases ry with
      | tup s2 r2 =>
        rename_i a1 v1 a2 v2
        refine ⟨a1, a2, v1, v2, rfl, rfl, Same.seqT cut_sub s1, Same.seqT cut_sub s2, by rw [r1.length, r2.length]; exact size100 h, fun z => ?_, fun z z2 => ?_, fun z z2 p hp => ?_⟩
        · subst z; cases r1; exact fun _ => k _ π H Stp.refl en (.tup s2 r2)
        · subst z2
          cases r2
          rw [List.append_nil] at k
          exact fun _ => k _ π H Stp.refl en (.tup s1 r1)
        · exact k.new en hp fun G sm hg => .tup (SqT.of hg) ((r1.same sm).append (r2.same sm))
  | lst xs ys h => exact (xf_add ha hb h).e

theorem xb_lt {i j : Int} (ha : XE X Γ a Γ1 (.int i)) (hb : XE X Γ1 b Γ2 (.int j)) : XB X Γ (.Compare a [.Lt] [b] pos) Γ2 (decide (i < j)) := xb_cmpR op_lt ha hb rb_I0 (nomark _)
theorem xb_le {i j : Int} (ha : XE X Γ a Γ1 (.int i)) (hb : XE X Γ1 b Γ2 (.int j)) : XB X Γ (.Compare a [.LtE] [b] pos) Γ2 (decide (i ≤ j)) := xb_cmpR op_le ha hb rb_I0 (nomark _)
theorem xb_gt {i j : Int} (ha : XE X Γ a Γ1 (.int i)) (hb : XE X Γ1 b Γ2 (.int j)) : XB X Γ (.Compare a [.Gt] [b] pos) Γ2 (decide (j < i)) := xb_cmpR op_gt ha hb rb_I0 (nomark _)
theorem xb_ge {i j : Int} (ha : XE X Γ a Γ1 (.int i)) (hb : XE X Γ1 b Γ2 (.int j)) : XB X Γ (.Compare a [.GtE] [b] pos) Γ2 (decide (j ≤ i)) := xb_cmpR op_ge ha hb rb_I0 (nomark _)
def fit : Nat → D → Bool
  | _, .none => true
  | _, .bool _ => true
  | _, .int _ => true
  | _, .str s => PyData.strOk s
  | _, .ob _ => false
  | _, .ref _ => false
  | _, .inst _ _ => false
  | _, .dict _ => false
  | 0, .list _ => false
  | 0, .tuple _ => false
  | n + 1, .list xs => xs.all (fit n)
  | n + 1, .tuple xs => xs.all (fit n)
mutual
theorem fit_pur : ∀ (d : D) (n : Nat), fit n d = true → d.pur = true
  | .none, _, _ => rfl
  | .bool _, _, _ => rfl
  | .int _, _, _ => rfl
  | .str _, _, _ => rfl
  | .ob _, 0, h => by simp [fit] at h
  | .ob _, _ + 1, h => by simp [fit] at h
  | .ref _, 0, h => by simp [fit] at h
  | .ref _, _ + 1, h => by simp [fit] at h
  | .inst _ _, 0, h => by simp [fit] at h
  | .inst _ _, _ + 1, h => by simp [fit] at h
  | .dict _, 0, h => by simp [fit] at h
  | .dict _, _ + 1, h => by simp [fit] at h
  | .list xs, 0, h => by simp [fit] at h
  | .list xs, n + 1, h => by
    show D.purs xs = true
    exact fit_purs xs n (by simpa [fit] using h)
  | .tuple xs, 0, h => by simp [fit] at h
  | .tuple xs, n + 1, h => by
    show D.purs xs = true
    exact fit_purs xs n (by simpa [fit] using h)
theorem fit_purs : ∀ (ds : List D) (n : Nat), (∀ d ∈ ds, fit n d = true) → D.purs ds = true
  | [], _, _ => rfl
  | d :: ds, n, h => by
    show (D.pur d && D.purs ds) = true
    rw [fit_pur d n (h d List.mem_cons_self), fit_purs ds n fun x hx => h x (List.mem_cons_of_mem _ hx)]
    rfl
end
mutual
theorem fit_lay : ∀ (d : D) (n : Nat), fit n d = true → d.toP.canLay0 = true ∧ d.toP.depth ≤ n
  | .none, _, _ => by simp [D.toP, PyData.canLay0, PyData.depth]
  | .bool _, _, _ => by simp [D.toP, PyData.canLay0, PyData.depth]
  | .int _, _, _ => by simp [D.toP, PyData.canLay0, PyData.depth]
  | .str _, 0, h => by simpa [D.toP, PyData.canLay0, PyData.depth, fit] using h
  | .str _, _ + 1, h => by simpa [D.toP, PyData.canLay0, PyData.depth, fit] using h
  | .ob _, 0, h => by simp [fit] at h
  | .ob _, _ + 1, h => by simp [fit] at h
  | .ref _, 0, h => by simp [fit] at h
  | .ref _, _ + 1, h => by simp [fit] at h
  | .inst _ _, 0, h => by simp [fit] at h
  | .inst _ _, _ + 1, h => by simp [fit] at h
  | .dict _, 0, h => by simp [fit] at h
  | .dict _, _ + 1, h => by simp [fit] at h
  | .list xs, 0, h => by simp [fit] at h
  | .list xs, n + 1, h => by
    obtain ⟨h1, h2⟩ := fit_lays xs n (by simpa [fit] using h)
    simp only [D.toP, PyData.canLay0, PyData.depth]
    exact ⟨h1, by omega⟩
  | .tuple xs, 0, h => by simp [fit] at h
  | .tuple xs, n + 1, h => by
    obtain ⟨h1, h2⟩ := fit_lays xs n (by simpa [fit] using h)
    simp only [D.toP, PyData.canLay0, PyData.depth]
    exact ⟨h1, by omega⟩
theorem fit_lays : ∀ (ds : List D) (n : Nat), (∀ d ∈ ds, fit n d = true) → PyData.canLayAll0 (D.toPs ds) = true ∧ PyData.depthAll (D.toPs ds) ≤ n
  | [], _, _ => by simp [D.toPs, PyData.canLayAll0, PyData.depthAll]
  | d :: ds, n, h => by
    obtain ⟨h1, h2⟩ := fit_lay d n (h d List.mem_cons_self)
    obtain ⟨h3, h4⟩ := fit_lays ds n fun x hx => h x (List.mem_cons_of_mem _ hx)
    simp only [D.toPs, PyData.canLayAll0, PyData.depthAll, h1, h3]
    exact ⟨rfl, by omega⟩
end
theorem fit_shaped {d : D} {n : Nat} (h : fit n d = true) (hn : n ≤ 64 := by decide) : SeqAt.shaped d.toP = true := by
  obtain ⟨h1, h2⟩ := fit_lay d n h
  unfold SeqAt.shaped
  rw [h1, decide_eq_true (by omega)]
  rfl
theorem fit_lmap {α : Type} {f : α → D} {n : Nat} (h : ∀ x, fit n (f x) = true) (xs : List α) : fit (n + 1) (.list (xs.map f)) = true := by
  simp only [fit, List.all_eq_true, List.mem_map]
  rintro d ⟨x, _, rfl⟩
  exact h x
theorem fit_tmap {α : Type} {f : α → D} {n : Nat} (h : ∀ x, fit n (f x) = true) (xs : List α) : fit (n + 1) (.tuple (xs.map f)) = true := by
  simp only [fit, List.all_eq_true, List.mem_map]
  rintro d ⟨x, _, rfl⟩
  exact h x
def deq (x y : D) : Bool := PyData.eqv x.toP y.toP
theorem xb_eq {x y : D} {m n : Nat} (C : CxIs R k X N sc) (ha : XE X Γ a Γ1 x) (hb : XE X Γ1 b Γ2 y) (hx : fit m x = true) (hy : fit n y = true) (hm : m ≤ 64 := by decide) (hn : n ≤ 64 := by decide) :
    XB X Γ (.Compare a [.Eq] [b] pos) Γ2 (deq x y) := xb_cmpR (op_eqD C.u) ha hb (fun G H u v Q sm _ rx ry q => ⟨_, _, ((rx.same sm).dp _ _ (fit_pur _ _ hx)), ((ry.same sm).dp _ _ (fit_pur _ _ hy)), fit_shaped hx hm, fit_shaped hy hn, q⟩) (nomark _)
theorem xb_ne {x y : D} {m n : Nat} (C : CxIs R k X N sc) (ha : XE X Γ a Γ1 x) (hb : XE X Γ1 b Γ2 y) (hx : fit m x = true) (hy : fit n y = true) (hm : m ≤ 64 := by decide) (hn : n ≤ 64 := by decide) :
    XB X Γ (.Compare a [.NotEq] [b] pos) Γ2 (!deq x y) := xb_cmpR (op_neD C.u) ha hb (fun G H u v Q sm _ rx ry q => ⟨_, _, ((rx.same sm).dp _ _ (fit_pur _ _ hx)), ((ry.same sm).dp _ _ (fit_pur _ _ hy)), fit_shaped hx hm, fit_shaped hy hn, q⟩) (nomark _)
def rOrd (K : PySem.W.Frag) (f : PyData → PyData → Bool) : R2 := fun x y H Q => ∃ d e, Dp K H x d ∧ Dp K H y e ∧ PySem.W.alike d e = true ∧ d ≠ .none ∧ d.depth ≤ 64 ∧ Q (.bl (f d e)) H
theorem room64 {A : Around} {m n : Nat} (hu : A.units + 64 < cLine) (h : m ≤ 64) : A.units + min m n < cLine := by
  have := Nat.min_le_left m n
  omega
theorem op_ltD (hu : X.A.units + 64 < cLine) : OpR X (compareOp .Lt) (rOrd X.K fun d e => PySem.W.dataLt d e) := by
  intro pins s σ H x y v u Q I rx ry ⟨d, e, hd, he, al, nn, dp, q⟩
  obtain ⟨as, r1⟩ := Dp.reads I d x v hd rx
  obtain ⟨bs, r2⟩ := Dp.reads I e y u he ry
  exact PySem.W.lt_data r1 r2 al nn (room64 hu dp) ⟨.bl _, H, I, rfl, q⟩
theorem op_gtD (hu : X.A.units + 64 < cLine) : OpR X (compareOp .Gt) (rOrd X.K fun d e => PySem.W.dataLt e d) := by
  intro pins s σ H x y v u Q I rx ry ⟨d, e, hd, he, al, nn, dp, q⟩
  obtain ⟨as, r1⟩ := Dp.reads I d x v hd rx
  obtain ⟨bs, r2⟩ := Dp.reads I e y u he ry
  exact PySem.W.gt_data r1 r2 al nn (room64 hu dp) ⟨.bl _, H, I, rfl, q⟩
theorem xb_ltD {x y : D} {m n : Nat} (C : CxIs R k X N sc) (ha : XE X Γ a Γ1 x) (hb : XE X Γ1 b Γ2 y) (hx : fit m x = true) (hy : fit n y = true) (al : PySem.W.alike x.toP y.toP = true) (nn : x.toP ≠ .none) (hm : m ≤ 64 := by decide) :
    XB X Γ (.Compare a [.Lt] [b] pos) Γ2 (PySem.W.dataLt x.toP y.toP) := xb_cmpR (op_ltD C.u) ha hb (fun G H u v Q sm _ rx ry q => ⟨_, _, ((rx.same sm).dp _ _ (fit_pur _ _ hx)), ((ry.same sm).dp _ _ (fit_pur _ _ hy)), al, nn, Nat.le_trans (fit_lay _ _ hx).2 hm, q⟩) (nomark _)
theorem xb_gtD {x y : D} {m n : Nat} (C : CxIs R k X N sc) (ha : XE X Γ a Γ1 x) (hb : XE X Γ1 b Γ2 y) (hx : fit m x = true) (hy : fit n y = true) (al : PySem.W.alike x.toP y.toP = true) (nn : x.toP ≠ .none) (hm : m ≤ 64 := by decide) :
    XB X Γ (.Compare a [.Gt] [b] pos) Γ2 (PySem.W.dataLt y.toP x.toP) := xb_cmpR (op_gtD C.u) ha hb (fun G H u v Q sm _ rx ry q => ⟨_, _, ((rx.same sm).dp _ _ (fit_pur _ _ hx)), ((ry.same sm).dp _ _ (fit_pur _ _ hy)), al, nn, Nat.le_trans (fit_lay _ _ hx).2 hm, q⟩) (nomark _)
inductive SeqD : D → List D → Prop
  | lst (xs : List D) : SeqD (.list xs) xs
  | tup (xs : List D) : SeqD (.tuple xs) xs
def rInS (K : PySem.W.Frag) (neg : Bool) : R2 := fun x y H Q => ∃ d ds, Dp K H x d ∧ (Dp K H y (.list ds) ∨ Dp K H y (.tuple ds)) ∧ d.canLay0 = true ∧ PyData.canLayAll0 ds = true ∧ d.depth ≤ 63 ∧ Q (.bl (if neg = true then !(ds.any fun z => PyData.eqv z d) else ds.any fun z => PyData.eqv z d)) H
theorem room63 {A : Around} {m n : Nat} (hu : A.units + 64 < cLine) (h : n ≤ 63) : A.units + 1 + min m n < cLine := by
  have := Nat.min_le_right m n
  omega
theorem op_inS (hu : X.A.units + 64 < cLine) : OpR X (compareOp .In) (rInS X.K false) := by
  intro pins s σ H x y v u Q I rx ry ⟨d, ds, hd, he, cd, cs, dp, q⟩
  obtain ⟨as, r1⟩ := Dp.reads I d x v hd rx
  rcases he with he | he
  · obtain ⟨bs, r2⟩ := Dp.reads I _ y u he ry
    exact SeqAt.in_list_reads r2 r1 cs cd (room63 hu dp) ⟨.bl _, H, I, rfl, q⟩
  · obtain ⟨bs, r2⟩ := Dp.reads I _ y u he ry
    exact SeqAt.in_tuple_reads r2 r1 cs cd (room63 hu dp) ⟨.bl _, H, I, rfl, q⟩
theorem op_notInS (hu : X.A.units + 64 < cLine) : OpR X (compareOp .NotIn) (rInS X.K true) := by
  intro pins s σ H x y v u Q I rx ry ⟨d, ds, hd, he, cd, cs, dp, q⟩
  obtain ⟨as, r1⟩ := Dp.reads I d x v hd rx
  rcases he with he | he
  · obtain ⟨bs, r2⟩ := Dp.reads I _ y u he ry
    exact SeqAt.notIn_list_reads r2 r1 cs cd (room63 hu dp) ⟨.bl _, H, I, rfl, q⟩
  · obtain ⟨bs, r2⟩ := Dp.reads I _ y u he ry
    exact SeqAt.notIn_tuple_reads r2 r1 cs cd (room63 hu dp) ⟨.bl _, H, I, rfl, q⟩
theorem toPs_eq : ∀ ds : List D, D.toPs ds = ds.map D.toP
  | [] => by simp [D.toPs]
  | d :: ds => by simp only [D.toPs, List.map_cons, toPs_eq ds]
def dIn (x : D) (ds : List D) : Bool := ds.any fun z => deq z x
theorem any_toPs (ds : List D) (x : D) : ((D.toPs ds).any fun z => PyData.eqv z x.toP) = dIn x ds := by
  rw [toPs_eq, List.any_map]
  rfl
theorem rv_in {K : PySem.W.Frag} {neg : Bool} {x y : D} {ds : List D} {m n : Nat} (hs : SeqD y ds) (hx : fit m x = true) (hy : fit n y = true) (hm : m ≤ 63) :
    RB K (rInS K neg) x y (if neg = true then !dIn x ds else dIn x ds) := fun G H u v Q sm _ rx ry q => by
  have l1 := fit_lay x m hx
  have l2 := fit_lay y n hy
  have d1 := (rx.same sm).dp _ _ (fit_pur _ _ hx)
  have d2 := (ry.same sm).dp _ _ (fit_pur _ _ hy)
  refine ⟨x.toP, D.toPs ds, d1, ?_, l1.1, ?_, Nat.le_trans l1.2 hm, by rw [any_toPs]; exact q⟩
  · cases hs with
    | lst => exact .inl d2
    | tup => exact .inr d2
  · cases hs with
    | lst => have h := l2.1; simpa only [D.toP, PyData.canLay0] using h
    | tup => have h := l2.1; simpa only [D.toP, PyData.canLay0] using h
theorem xb_in {x y : D} {ds : List D} {m n : Nat} (C : CxIs R k X N sc) (ha : XE X Γ a Γ1 x) (hb : XE X Γ1 b Γ2 y) (hs : SeqD y ds) (hx : fit m x = true) (hy : fit n y = true) (hk : behindInMarks .In b = false) (hm : m ≤ 63 := by decide) :
    XB X Γ (.Compare a [.In] [b] pos) Γ2 (dIn x ds) := xb_cmpR (op_inS C.u) ha hb (rv_in (neg := false) hs hx hy hm) hk
theorem xb_notIn {x y : D} {ds : List D} {m n : Nat} (C : CxIs R k X N sc) (ha : XE X Γ a Γ1 x) (hb : XE X Γ1 b Γ2 y) (hs : SeqD y ds) (hx : fit m x = true) (hy : fit n y = true) (hk : behindInMarks .NotIn b = false) (hm : m ≤ 63 := by decide) :
    XB X Γ (.Compare a [.NotIn] [b] pos) Γ2 (!dIn x ds) := xb_cmpR (op_notInS C.u) ha hb (rv_in (neg := true) hs hx hy hm) hk

abbrev tI (s : List Int) : D := .tuple (s.map D.int)
abbrev lI (s : List Int) : D := .list (s.map D.int)
abbrev tT (s : List (List Int)) : D := .tuple (s.map tI)
abbrev lT (s : List (List Int)) : D := .list (s.map tI)
theorem toPs_map {α : Type} (f : α → D) (xs : List α) : D.toPs (xs.map f) = xs.map fun x => (f x).toP := by
  rw [toPs_eq, List.map_map]
  rfl
theorem toP_tI (s : List Int) : (tI s).toP = .tuple (s.map PyData.int) := by
  show PyData.tuple (D.toPs _) = _
  rw [toPs_map]
  rfl
theorem toP_lI (s : List Int) : (lI s).toP = .list (s.map PyData.int) := by
  show PyData.list (D.toPs _) = _
  rw [toPs_map]
  rfl
theorem fit_tI (s : List Int) : fit 1 (tI s) = true := fit_tmap (fun _ => rfl) s
theorem fit_lI (s : List Int) : fit 1 (lI s) = true := fit_lmap (fun _ => rfl) s
theorem fit_tT (s : List (List Int)) : fit 2 (tT s) = true := fit_tmap fit_tI s
theorem fit_lT (s : List (List Int)) : fit 2 (lT s) = true := fit_lmap fit_tI s
theorem deq_int (i j : Int) : deq (.int i) (.int j) = decide (i = j) := by
  show (i == j) = _
  by_cases h : i = j <;> simp [h]
theorem eqvAll_map {α : Type} [DecidableEq α] {f : α → D} (h : ∀ x y, deq (f x) (f y) = decide (x = y)) : ∀ xs ys : List α, PyData.eqvAll (D.toPs (xs.map f)) (D.toPs (ys.map f)) = decide (xs = ys)
  | [], [] => by simp [D.toPs, PyData.eqvAll]
  | [], _ :: _ => by simp [D.toPs, PyData.eqvAll]
  | _ :: _, [] => by simp [D.toPs, PyData.eqvAll]
  | x :: xs, y :: ys => by
    have h1 : PyData.eqv (f x).toP (f y).toP = decide (x = y) := h x y
    simp only [List.map_cons, D.toPs, PyData.eqvAll, h1, eqvAll_map h xs ys]
    by_cases e1 : x = y <;> by_cases e2 : xs = ys <;> simp [e1, e2]
theorem deq_tmap {α : Type} [DecidableEq α] {f : α → D} (h : ∀ x y, deq (f x) (f y) = decide (x = y)) (xs ys : List α) : deq (.tuple (xs.map f)) (.tuple (ys.map f)) = decide (xs = ys) := by
  show PyData.eqv (.tuple _) (.tuple _) = _
  simp only [PyData.eqv]
  exact eqvAll_map h xs ys
theorem deq_lmap {α : Type} [DecidableEq α] {f : α → D} (h : ∀ x y, deq (f x) (f y) = decide (x = y)) (xs ys : List α) : deq (.list (xs.map f)) (.list (ys.map f)) = decide (xs = ys) := by
  show PyData.eqv (.list _) (.list _) = _
  simp only [PyData.eqv]
  exact eqvAll_map h xs ys
theorem deq_tI (s t : List Int) : deq (tI s) (tI t) = decide (s = t) := deq_tmap deq_int s t
theorem deq_tT (s t : List (List Int)) : deq (tT s) (tT t) = decide (s = t) := deq_tmap deq_tI s t
theorem deq_lT (s t : List (List Int)) : deq (lT s) (lT t) = decide (s = t) := deq_lmap deq_tI s t
theorem dIn_map {α : Type} [DecidableEq α] {f : α → D} (h : ∀ x y, deq (f x) (f y) = decide (x = y)) (x : α) (xs : List α) : dIn (f x) (xs.map f) = decide (x ∈ xs) := by
  unfold dIn
  rw [List.any_map]
  induction xs with
  | nil => simp
  | cons y ys ih =>
    rw [List.any_cons, ih]
    show (deq (f y) (f x) || _) = _
    rw [h]
    by_cases e : y = x
    · subst e; simp
    · by_cases e2 : x ∈ ys
      · simp [e2]
      · have e3 : ¬ x = y := fun z => e z.symm
        simp [e, e2, e3]
theorem dIn_int (x : Int) (xs : List Int) : dIn (.int x) (xs.map D.int) = decide (x ∈ xs) := (dIn_map deq_int x xs).trans (decide_eq_decide.mpr Iff.rfl)
theorem dIn_tI (x : List Int) (xs : List (List Int)) : dIn (tI x) (xs.map tI) = decide (x ∈ xs) := (dIn_map deq_tI x xs).trans (decide_eq_decide.mpr Iff.rfl)
end
end Y
set_option Elab.async false
set_option linter.all false
set_option maxRecDepth 100000
set_option maxHeartbeats 4000000
namespace Y
open PySem PySem.Spec PyProof.Rows L2
section
variable {R : Rw} {k : Nat} {X : Cx} {N : List Str} {sc : Scope} {Γ Γ1 Γ2 Γ3 : En} {a b c e : Expr} {es : List Expr} {pos p : Pos}

abbrev IsGl (sc : Scope) (x : Str) : Prop := sc.names.lookup x = some .globalImplicit
theorem pe_no : PE X e (fun _ _ _ => False) := ⟨fun _ _ _ _ _ _ h => h.elim⟩
theorem pt_no : PT X e (fun _ _ _ => False) := ⟨fun _ _ _ _ _ _ h => h.elim⟩
theorem pw_no : PW X e (fun _ _ _ => False) := ⟨fun _ _ _ _ _ _ _ h => h.elim⟩
theorem ifT {A B : Prop} (h : A) : if true = true then A else B := by rw [if_pos rfl]; exact h
theorem ifF {A B : Prop} (h : B) : if false = true then A else B := by rw [if_neg (by decide)]; exact h

theorem xt_val {k : Bool} (h : XE X Γ e Γ1 (.bool k)) (he : ∀ whole, isTrue e X.env whole = (do let v ← whole; standAt e.pos; holding [v] (truthy v)) := by intro _; rfl) : XT X Γ e Γ1 k := PT.imp (pt_val h he) fun σ H Q ⟨π, en, q⟩ =>
  ⟨π, en, fun v π' H' s e r => by cases r; exact ⟨k, rfl, q π' H' s e⟩⟩
theorem xt_not {k : Bool} (h : XT X Γ e Γ1 k) : XT X Γ (.UnaryOp .Not e pos) Γ1 (!k) := PT.imp (pt_not h) fun σ H Q ⟨π, en, q⟩ =>
  ⟨π, en, fun π' H' s e => q π' H' s e⟩
theorem xt_w {k : Bool} (h : XW X Γ e Γ1 k) : XT X Γ e Γ1 k := PW.pt h
theorem xw_and1 {k : Bool} (h : XT X Γ a Γ1 k) : XW X Γ (.BoolOp .And [a] pos) Γ1 k := pw_and1 h
theorem xw_or1 {k : Bool} (h : XT X Γ a Γ1 k) : XW X Γ (.BoolOp .Or [a] pos) Γ1 k := pw_or1 h
theorem xw_and {k l : Bool} {rest : List Expr} (h1 : XT X Γ a Γ1 k) (h2 : k = true → XW X Γ1 (.BoolOp .And (b :: rest) pos) Γ1 l) : XW X Γ (.BoolOp .And (a :: b :: rest) pos) Γ1 (k && l) := by
  cases k with
  | true => exact PW.imp (pw_and h1 (h2 rfl)) fun σ H Q ⟨π, en, q⟩ => ⟨π, en, fun π' H' s e => ifT ⟨π', e, fun π2 H2 s2 e2 => q π2 H2 (s.trans s2) e2⟩⟩
  | false => exact PW.imp (pw_and h1 pw_no) fun σ H Q ⟨π, en, q⟩ => ⟨π, en, fun π' H' s e => ifF (q π' H' s e)⟩
theorem xw_or {k l : Bool} {rest : List Expr} (h1 : XT X Γ a Γ1 k) (h2 : k = false → XW X Γ1 (.BoolOp .Or (b :: rest) pos) Γ1 l) : XW X Γ (.BoolOp .Or (a :: b :: rest) pos) Γ1 (k || l) := by
  cases k with
  | true => exact PW.imp (pw_or h1 pw_no) fun σ H Q ⟨π, en, q⟩ => ⟨π, en, fun π' H' s e => ifT (q π' H' s e)⟩
  | false => exact PW.imp (pw_or h1 (h2 rfl)) fun σ H Q ⟨π, en, q⟩ => ⟨π, en, fun π' H' s e => ifF ⟨π', e, fun π2 H2 s2 e2 => q π2 H2 (s.trans s2) e2⟩⟩
theorem xe_one {op : BoolOp} {d : D} (h : XE X Γ a Γ1 d) : XE X Γ (.BoolOp op [a] pos) Γ1 d := pe_one h
theorem xe_and {k l : Bool} {rest : List Expr} (h1 : XE X Γ a Γ1 (.bool k)) (h2 : k = true → XE X Γ1 (.BoolOp .And (b :: rest) pos) Γ1 (.bool l)) : XE X Γ (.BoolOp .And (a :: b :: rest) pos) Γ1 (.bool (k && l)) := by
  cases k with
  | true => exact xe_of (pe_and h1 (h2 rfl)) fun σ H π Q en q => ⟨π, en, fun v π' H' s e r => by
      cases r
      exact ⟨true, rfl, ifT ⟨π', e, fun v π2 H2 s2 e2 r2 _ => q v π2 H2 (s.trans s2) e2 r2⟩⟩⟩
  | false => exact xe_of (pe_and h1 pe_no) fun σ H π Q en q => ⟨π, en, fun v π' H' s e r => by
      cases r
      exact ⟨false, rfl, ifF fun _ => q _ π' H' s e (.bl false)⟩⟩
theorem xe_or {k l : Bool} {rest : List Expr} (h1 : XE X Γ a Γ1 (.bool k)) (h2 : k = false → XE X Γ1 (.BoolOp .Or (b :: rest) pos) Γ1 (.bool l)) : XE X Γ (.BoolOp .Or (a :: b :: rest) pos) Γ1 (.bool (k || l)) := by
  cases k with
  | false => exact xe_of (pe_or h1 (h2 rfl)) fun σ H π Q en q => ⟨π, en, fun v π' H' s e r => by
      cases r
      exact ⟨false, rfl, ifF ⟨π', e, fun v π2 H2 s2 e2 r2 _ => q v π2 H2 (s.trans s2) e2 r2⟩⟩⟩
  | true => exact xe_of (pe_or h1 pe_no) fun σ H π Q en q => ⟨π, en, fun v π' H' s e r => by
      cases r
      exact ⟨true, rfl, ifT fun _ => q _ π' H' s e (.bl true)⟩⟩
theorem xe_not {k : Bool} (h : XE X Γ a Γ1 (.bool k)) : XE X Γ (.UnaryOp .Not a pos) Γ1 (.bool (!k)) := xe_of (pe_not h) fun σ H π Q en q => ⟨π, en, fun v π' H' s e r => by
  cases r
  exact ⟨k, rfl, fun _ => q _ π' H' s e (.bl _)⟩⟩
theorem xe_if {k : Bool} {d : D} (h : XT X Γ c Γ1 k) (h1 : k = true → XE X Γ1 a Γ2 d) (h2 : k = false → XE X Γ1 b Γ2 d) : XE X Γ (.IfExp c a b pos) Γ2 d := by
  cases k with
  | true => exact xe_of (pe_ifExp h (h1 rfl) pe_no) fun σ H π Q en q => ⟨π, en, fun π' H' s e => ifT ⟨π', e, fun v π2 H2 s2 e2 r2 _ => q v π2 H2 (s.trans s2) e2 r2⟩⟩
  | false => exact xe_of (pe_ifExp h pe_no (h2 rfl)) fun σ H π Q en q => ⟨π, en, fun π' H' s e => ifF ⟨π', e, fun v π2 H2 s2 e2 r2 _ => q v π2 H2 (s.trans s2) e2 r2⟩⟩
theorem xe_ite {k : Bool} {d d' : D} (h : XT X Γ c Γ1 k) (h1 : k = true → XE X Γ1 a Γ2 d) (h2 : k = false → XE X Γ1 b Γ2 d') : XE X Γ (.IfExp c a b pos) Γ2 (if k = true then d else d') := by
  refine xe_if h (fun e => ?_) (fun e => ?_)
  · rw [if_pos e]; exact h1 e
  · rw [e, if_neg (by decide)]; exact h2 e
theorem xb_chain_le {i j k : Int} (ha : XE X Γ a Γ1 (.int i)) (hb : XE X Γ1 b Γ2 (.int j)) (hc : XE X Γ2 c Γ2 (.int k)) (hm : lastMarks [.LtE, .LtE] [b, c] = false := by with_unfolding_all rfl) :
    XB X Γ (.Compare a [.LtE, .LtE] [b, c] pos) Γ2 (decide (i ≤ j) && decide (j ≤ k)) := by
  have key : ∀ σ H (Q : VK), (∃ π, EnOk X.K Γ π H σ ∧ ∀ π' H', Stp π H π' H' → EnOk X.K Γ2 π' H' σ → Q (.bl (decide (i ≤ j) && decide (j ≤ k))) H') → tChain (rI0 fun i j => .bl (decide (i ≤ j))) (rI0 fun i j => .bl (decide (i ≤ j))) (rE X.K Γ Γ1 (.int i)) (rE X.K Γ1 Γ2 (.int j)) (rE X.K Γ2 Γ2 (.int k)) σ H Q := fun σ H Q ⟨π, en, q⟩ =>
    ⟨π, en, fun v1 π1 H1 s1 e1 r1 => ⟨π1, e1, fun v2 π2 H2 s2 e2 r2 => by
      cases r1
      cases r2
      refine ⟨i, j, rfl, rfl, decide (i ≤ j), rfl, ?_⟩
      by_cases h : i ≤ j
      · rw [decide_eq_true h] at q ⊢
        refine ifT ⟨π2, e2, fun v3 π3 H3 s3 e3 r3 => ?_⟩
        cases r3
        exact ⟨j, k, rfl, rfl, q π3 H3 ((s1.trans s2).trans s3) e3⟩
      · rw [decide_eq_false h] at q ⊢
        exact ifF (q π2 H2 (s1.trans s2) e2)⟩⟩
  refine ⟨xe_of (pe_chain op_le op_le ha hb hc hm) fun σ H π Q en q => key σ H _ ⟨π, en, fun π' H' s e _ => q _ π' H' s e (.bl _)⟩, PT.imp (pt_chain op_le op_le ha hb hc hm) fun σ H Q ⟨π, en, q⟩ => key σ H _ ⟨π, en, fun π' H' s e => ⟨_, rfl, q π' H' s e⟩⟩⟩
theorem xb_chain_lt {i j k : Int} (ha : XE X Γ a Γ1 (.int i)) (hb : XE X Γ1 b Γ2 (.int j)) (hc : XE X Γ2 c Γ2 (.int k)) (hm : lastMarks [.Lt, .Lt] [b, c] = false := by with_unfolding_all rfl) :
    XB X Γ (.Compare a [.Lt, .Lt] [b, c] pos) Γ2 (decide (i < j) && decide (j < k)) := by
  have key : ∀ σ H (Q : VK), (∃ π, EnOk X.K Γ π H σ ∧ ∀ π' H', Stp π H π' H' → EnOk X.K Γ2 π' H' σ → Q (.bl (decide (i < j) && decide (j < k))) H') → tChain (rI0 fun i j => .bl (decide (i < j))) (rI0 fun i j => .bl (decide (i < j))) (rE X.K Γ Γ1 (.int i)) (rE X.K Γ1 Γ2 (.int j)) (rE X.K Γ2 Γ2 (.int k)) σ H Q := fun σ H Q ⟨π, en, q⟩ =>
    ⟨π, en, fun v1 π1 H1 s1 e1 r1 => ⟨π1, e1, fun v2 π2 H2 s2 e2 r2 => by
      cases r1
      cases r2
      refine ⟨i, j, rfl, rfl, decide (i < j), rfl, ?_⟩
      by_cases h : i < j
      · rw [decide_eq_true h] at q ⊢
        refine ifT ⟨π2, e2, fun v3 π3 H3 s3 e3 r3 => ?_⟩
        cases r3
        exact ⟨j, k, rfl, rfl, q π3 H3 ((s1.trans s2).trans s3) e3⟩
      · rw [decide_eq_false h] at q ⊢
        exact ifF (q π2 H2 (s1.trans s2) e2)⟩⟩
  refine ⟨xe_of (pe_chain op_lt op_lt ha hb hc hm) fun σ H π Q en q => key σ H _ ⟨π, en, fun π' H' s e _ => q _ π' H' s e (.bl _)⟩, PT.imp (pt_chain op_lt op_lt ha hb hc hm) fun σ H Q ⟨π, en, q⟩ => key σ H _ ⟨π, en, fun π' H' s e => ⟨_, rfl, q π' H' s e⟩⟩⟩
theorem xb_chain_le_lt {i j k : Int} (ha : XE X Γ a Γ1 (.int i)) (hb : XE X Γ1 b Γ2 (.int j)) (hc : XE X Γ2 c Γ2 (.int k)) (hm : lastMarks [.LtE, .Lt] [b, c] = false := by with_unfolding_all rfl) :
    XB X Γ (.Compare a [.LtE, .Lt] [b, c] pos) Γ2 (decide (i ≤ j) && decide (j < k)) := by
  have key : ∀ σ H (Q : VK), (∃ π, EnOk X.K Γ π H σ ∧ ∀ π' H', Stp π H π' H' → EnOk X.K Γ2 π' H' σ → Q (.bl (decide (i ≤ j) && decide (j < k))) H') → tChain (rI0 fun i j => .bl (decide (i ≤ j))) (rI0 fun i j => .bl (decide (i < j))) (rE X.K Γ Γ1 (.int i)) (rE X.K Γ1 Γ2 (.int j)) (rE X.K Γ2 Γ2 (.int k)) σ H Q := fun σ H Q ⟨π, en, q⟩ =>
    ⟨π, en, fun v1 π1 H1 s1 e1 r1 => ⟨π1, e1, fun v2 π2 H2 s2 e2 r2 => by
      cases r1
      cases r2
      refine ⟨i, j, rfl, rfl, decide (i ≤ j), rfl, ?_⟩
      by_cases h : i ≤ j
      · rw [decide_eq_true h] at q ⊢
        refine ifT ⟨π2, e2, fun v3 π3 H3 s3 e3 r3 => ?_⟩
        cases r3
        exact ⟨j, k, rfl, rfl, q π3 H3 ((s1.trans s2).trans s3) e3⟩
      · rw [decide_eq_false h] at q ⊢
        exact ifF (q π2 H2 (s1.trans s2) e2)⟩⟩
  refine ⟨xe_of (pe_chain op_le op_lt ha hb hc hm) fun σ H π Q en q => key σ H _ ⟨π, en, fun π' H' s e _ => q _ π' H' s e (.bl _)⟩, PT.imp (pt_chain op_le op_lt ha hb hc hm) fun σ H Q ⟨π, en, q⟩ => key σ H _ ⟨π, en, fun π' H' s e => ⟨_, rfl, q π' H' s e⟩⟩⟩
inductive NoneR (K : PySem.W.Frag) : D → Bool → Prop
  | non : NoneR K .none true
  | of {d : D} (h : ∀ G v, Rp K G v d → v ≠ .non) : NoneR K d false
theorem NoneR.eq {K : PySem.W.Frag} {d : D} {k : Bool} {v : V} {G : Hp} (h : NoneR K d k) (r : Rp K G v d) : decide (v = .non) = k := by
  cases h with
  | non => cases r; rfl
  | of h => exact decide_eq_false (h _ _ r)
theorem xb_isN {d : D} {k : Bool} {j : Nat} (h : XE X Γ a Γ1 d) (hk : NoneR X.K d k) : XB X Γ (.Compare a [.Is] [.Constant .none j p] pos) Γ1 k := ⟨xe_of (pe_cmp (pc_isN h) rfl) fun σ H π Q en q => ⟨π, en, fun v π' H' s e r _ => by
  rw [hk.eq r]
  exact q _ π' H' s e (.bl _)⟩, PT.imp (pt_cmp (pc_isN h)) fun σ H Q ⟨π, en, q⟩ => ⟨π, en, fun v π' H' s e r => ⟨_, rfl, by rw [hk.eq r]; exact q π' H' s e⟩⟩⟩
theorem xb_notN {d : D} {k : Bool} {j : Nat} (h : XE X Γ a Γ1 d) (hk : NoneR X.K d k) : XB X Γ (.Compare a [.IsNot] [.Constant .none j p] pos) Γ1 (!k) := ⟨xe_of (pe_cmp (pc_notN h) rfl) fun σ H π Q en q => ⟨π, en, fun v π' H' s e r _ => by
  rw [hk.eq r]
  exact q _ π' H' s e (.bl _)⟩, PT.imp (pt_cmp (pc_notN h)) fun σ H Q ⟨π, en, q⟩ => ⟨π, en, fun v π' H' s e r => ⟨_, rfl, by rw [hk.eq r]; exact q π' H' s e⟩⟩⟩
theorem xb_not {k : Bool} (h : XB X Γ a Γ1 k) : XB X Γ (.UnaryOp .Not a pos) Γ1 (!k) := ⟨xe_not h.e, xt_not h.t⟩
theorem xb_of {k : Bool} (h : XE X Γ e Γ1 (.bool k)) (he : ∀ whole, isTrue e X.env whole = (do let v ← whole; standAt e.pos; holding [v] (truthy v)) := by intro _; rfl) : XB X Γ e Γ1 k := ⟨h, xt_val h he⟩
structure XBs (X : Cx) (op : BoolOp) (Γ : En) (es : List Expr) (pos : Pos) (b : Bool) : Prop where
  e : XE X Γ (.BoolOp op es pos) Γ (.bool b)
  w : XW X Γ (.BoolOp op es pos) Γ b
theorem xbs_and1 {k : Bool} (h : XB X Γ a Γ k) : XBs X .And Γ [a] pos k := ⟨xe_one h.e, xw_and1 h.t⟩
theorem xbs_or1 {k : Bool} (h : XB X Γ a Γ k) : XBs X .Or Γ [a] pos k := ⟨xe_one h.e, xw_or1 h.t⟩
theorem xbs_and {k l : Bool} {rest : List Expr} (h1 : XB X Γ a Γ k) (h2 : k = true → XBs X .And Γ (b :: rest) pos l) : XBs X .And Γ (a :: b :: rest) pos (k && l) := ⟨xe_and h1.e fun z => (h2 z).e, xw_and h1.t fun z => (h2 z).w⟩
theorem xbs_or {k l : Bool} {rest : List Expr} (h1 : XB X Γ a Γ k) (h2 : k = false → XBs X .Or Γ (b :: rest) pos l) : XBs X .Or Γ (a :: b :: rest) pos (k || l) := ⟨xe_or h1.e fun z => (h2 z).e, xw_or h1.t fun z => (h2 z).w⟩
theorem XBs.xb {op : BoolOp} {k : Bool} (h : XBs X op Γ es pos k) : XB X Γ (.BoolOp op es pos) Γ k := ⟨h.e, PW.pt h.w⟩

theorem xa_nil : XA X Γ [] Γ [] := PA.imp pa_nil fun σ H Q ⟨π, en, q⟩ => q [] π H Stp.refl en .nil
theorem xa_cons {d : D} {ds : List D} (h : XE X Γ e Γ1 d) (hr : XA X Γ1 es Γ2 ds) (hs : starEach (e :: es) X.env = (false, eval e X.env) :: starEach es X.env := by rfl) : XA X Γ (e :: es) Γ2 (d :: ds) :=
  PA.imp (pa_cons h hr hs) fun σ H Q ⟨π, en, q⟩ => ⟨π, en, fun v π1 H1 s1 e1 r1 => ⟨π1, e1, fun vs π2 H2 s2 e2 r2 => q (v :: vs) π2 H2 (s1.trans s2) e2 (.cons (r1.same s2.zero) r2)⟩⟩
theorem xe_tup {ds : List D} {x1} (h : XA X Γ es Γ1 ds) (hl : ds.length ≤ 100000 := by first | decide | simp) : XE X Γ (.Tuple es x1 pos) Γ1 (.tuple ds) := xe_of (pe_tup h) fun σ H π Q en q => ⟨π, en, fun vs π1 H1 s1 e1 r1 =>
  ⟨by rw [r1.length]; exact size100 hl, fun p hp => Kx.new (fun v π2 H2 s2 e2 r2 => q v π2 H2 (s1.trans s2) e2 r2) e1 hp fun G sm hg => .tup (SqT.of hg) (r1.same sm)⟩⟩
theorem xf_lst {ds : List D} (h : XA X Γ es Γ1 ds) (hl : ds.length ≤ 100000 := by first | decide | simp) : XF X Γ (.List es pos) Γ1 ds := xf_of (pe_lst h) fun σ H π Q en q => ⟨π, en, fun vs π1 H1 s1 e1 r1 =>
  ⟨by rw [r1.length]; exact size100 hl, fun p hp => (q.step s1).new e1 hp r1⟩⟩
theorem xe_lst {ds : List D} (h : XA X Γ es Γ1 ds) (hl : ds.length ≤ 100000 := by first | decide | simp) : XE X Γ (.List es pos) Γ1 (.list ds) := (xf_lst h hl).e

def RC (K : PySem.W.Frag) (r : List V → Hp → VK → Prop) (ds : List D) (d : D) : Prop := ∀ (Γ : En) (π : Tag) (H : Hp) (σ : L2.St) (vs : List V) (Q : VK), EnOk K Γ π H σ → RpAll K (cut H π 0) vs ds → Kx K Γ d π H σ Q → r vs H (lenQ K Q)
theorem tCB_of {r : List V → Hp → VK → Prop} {ds : List D} {d : D} (hr : RC X.K r ds d) : ∀ σ H π Q, EnOk X.K Γ π H σ → Kx X.K Γ2 d π H σ Q → tCB r (rA X.K Γ Γ2 ds) σ H (lenQ X.K Q) := fun σ H π Q h k =>
  ⟨π, h, fun vs π1 H1 s1 e1 r1 => hr Γ2 π1 H1 σ vs Q e1 r1 fun v π3 H3 s3 e3 r3 => k v π3 H3 (s1.trans s3) e3 r3⟩
theorem xe_callB {x : Str} {id : String} {r : List V → Hp → VK → Prop} {ds : List D} {d : D} (C : CxIs R k X N sc) (hc : CallR X (.builtin id) r) (hg : IsGl sc x) (hm : X.mg x = none) (hv : bootBuiltins x = some (.builtin id)) (ha : XA X Γ (e :: es) Γ1 ds) (hr : RC X.K r ds d)
    (hn : x ≠ "__name__" := by decide) (hdb : (x == ("__debug__" : Str)) = false := by decide) (he : starEach (e :: es) X.env = (false, eval e X.env) :: starEach es X.env := by rfl) (hpl : (backTo pos (starEach es X.env)).any (·.1) = false := by rfl) :
    XE X Γ (.Call (.Name x p) (e :: es) [] pos) Γ1 d := xe_of (pe_callB hc (C.gl hg) hm hv ha hn hdb he hpl) (tCB_of hr)
theorem xe_callTy {x : Str} {T : String} {r : List V → Hp → VK → Prop} {ds : List D} {d : D} (C : CxIs R k X N sc) (hc : CallR X (.type T) r) (hg : IsGl sc x) (hm : X.mg x = none) (hv : bootBuiltins x = some (.type T)) (ha : XA X Γ (e :: es) Γ1 ds) (hr : RC X.K r ds d)
    (hn : x ≠ "__name__" := by decide) (hdb : (x == ("__debug__" : Str)) = false := by decide) (he : starEach (e :: es) X.env = (false, eval e X.env) :: starEach es X.env := by rfl) (hpl : (backTo pos (starEach es X.env)).any (·.1) = false := by rfl) :
    XE X Γ (.Call (.Name x p) (e :: es) [] pos) Γ1 d := xe_of (pe_callTy hc (C.gl hg) hm hv ha hn hdb he hpl) (tCB_of hr)
theorem rc_val {K : PySem.W.Frag} {r : List V → Hp → VK → Prop} {ds : List D} {z : D} {zv : V} (hz : ∀ G, Rp K G zv z) (h : ∀ G H vs Q, Same G H → LenOk K H → RpAll K G vs ds → Q zv H → r vs H Q) : RC K r ds z := fun Γ π H σ vs Q e rx k =>
  h _ H vs _ cut_sub e.len rx fun _ => k zv π H Stp.refl e (hz _)
inductive LenR : D → Nat → Prop
  | lst (xs : List D) : LenR (.list xs) xs.length
  | tup (xs : List D) : LenR (.tuple xs) xs.length
  | str (x : Str) (h : x.length ≤ 100000) : LenR (.str x) x.length
theorem rc_len {d : D} {n : Nat} (h : LenR d n) : RC X.K (fun xs H Q => ∃ x n, xs = [x] ∧ LenV X.K x H n ∧ Q (.int n) H) [d] (.int n) := rc_val (zv := .int n) (fun _ => .int _) fun G H vs Q sm _ r q => by
  cases r with
  | cons r1 r2 =>
    cases r2
    refine ⟨_, n, rfl, ?_, q⟩
    cases h with
    | lst xs =>
      cases r1 with
      | lst a b => exact .inl ⟨_, SqL.of (sm _ _ a), b.length.symm⟩
    | tup xs =>
      cases r1 with
      | tup a b => exact .inr ⟨_, Same.seqT sm a, b.length.symm⟩
    | str x h => cases r1; exact ⟨size100 h, rfl⟩
theorem xe_len {d : D} {n : Nat} (C : CxIs R k X N sc) (hg : IsGl sc "len") (B : Blt R.mg) (h : XE X Γ e Γ1 d) (hl : LenR d n) (hs : starEach [e] X.env = (false, eval e X.env) :: starEach [] X.env := by rfl) :
    XE X Γ (.Call (.Name "len" p) [e] [] pos) Γ1 (.int n) := xe_callB C call_len hg (C.none B.len) PySem.boot_len (xa_cons h xa_nil hs) (rc_len hl) (he := hs)
theorem xe_all {bs : List Bool} (C : CxIs R k X N sc) (hg : IsGl sc "all") (B : Blt R.mg) (h : XE X Γ e Γ1 (.list (bs.map D.bool))) (hs : starEach [e] X.env = (false, eval e X.env) :: starEach [] X.env := by rfl) :
    XE X Γ (.Call (.Name "all" p) [e] [] pos) Γ1 (.bool (bs.all id)) := xe_callB C (cr_all C.calm) hg (C.none B.all) (by decide +kernel) (xa_cons h xa_nil hs) (rc_val (zv := .bl _) (fun _ => .bl _) fun G H vs Q sm _ r q => by
      cases r with
      | cons r1 r2 =>
        cases r2
        cases r1 with
        | lst a b => exact ⟨_, bs, rfl, SqL.of (by rw [← RpAll.blsV _ b]; exact sm _ _ a), q⟩) (he := hs)
theorem xe_any {bs : List Bool} (C : CxIs R k X N sc) (hg : IsGl sc "any") (B : Blt R.mg) (h : XE X Γ e Γ1 (.list (bs.map D.bool))) (hs : starEach [e] X.env = (false, eval e X.env) :: starEach [] X.env := by rfl) :
    XE X Γ (.Call (.Name "any" p) [e] [] pos) Γ1 (.bool (bs.any id)) := xe_callB C (cr_any C.calm) hg (C.none B.any) (by decide +kernel) (xa_cons h xa_nil hs) (rc_val (zv := .bl _) (fun _ => .bl _) fun G H vs Q sm _ r q => by
      cases r with
      | cons r1 r2 =>
        cases r2
        cases r1 with
        | lst a b => exact ⟨_, bs, rfl, SqL.of (by rw [← RpAll.blsV _ b]; exact sm _ _ a), q⟩) (he := hs)
theorem xe_tuple {d : D} {ds : List D} (C : CxIs R k X N sc) (hg : IsGl sc "tuple") (B : Blt R.mg) (h : XE X Γ e Γ1 d) (hd : SeqD d ds) (hs : starEach [e] X.env = (false, eval e X.env) :: starEach [] X.env := by rfl) :
    XE X Γ (.Call (.Name "tuple" p) [e] [] pos) Γ1 (.tuple ds) := xe_callTy C call_tuple_of hg (C.none B.tuple) (by decide +kernel) (xa_cons h xa_nil hs) (fun Γ π H σ vs Q en r k => by
      cases r with
      | cons r1 r2 =>
        cases r2
        cases hd with
        | lst =>
          cases r1 with
          | lst a b => exact ⟨_, _, rfl, .inl ⟨SqL.of (cut_sub _ _ a), fun l hl => k.new en hl fun G sm hg => .tup (SqT.of hg) (b.same sm)⟩⟩
        | tup =>
          cases r1 with
          | tup a b => exact ⟨_, _, rfl, .inr ⟨Same.seqT cut_sub a, fun _ => k _ π H Stp.refl en (.tup a b)⟩⟩) (he := hs)
def RCF (K : PySem.W.Frag) (r : List V → Hp → VK → Prop) (ds : List D) (d : List D) : Prop := ∀ (Γ : En) (π : Tag) (H : Hp) (σ : L2.St) (vs : List V) (Q : VK), EnOk K Γ π H σ → RpAll K (cut H π 0) vs ds → KxF K Γ d π H σ Q → r vs H (lenQ K Q)
theorem tCB_ofF {r : List V → Hp → VK → Prop} {ds d : List D} (hr : RCF X.K r ds d) : ∀ σ H π Q, EnOk X.K Γ π H σ → KxF X.K Γ2 d π H σ Q → tCB r (rA X.K Γ Γ2 ds) σ H (lenQ X.K Q) := fun σ H π Q h k =>
  ⟨π, h, fun vs π1 H1 s1 e1 r1 => hr Γ2 π1 H1 σ vs Q e1 r1 (k.step s1)⟩
theorem xf_list {d : D} {ds : List D} (C : CxIs R k X N sc) (hg : IsGl sc "list") (B : Blt R.mg) (h : XE X Γ e Γ1 d) (hd : SeqD d ds) (hs : starEach [e] X.env = (false, eval e X.env) :: starEach [] X.env := by rfl) :
    XF X Γ (.Call (.Name "list" p) [e] [] pos) Γ1 ds := xf_of (pe_callTy call_list_of (C.gl hg) (C.none B.list) (by decide +kernel) (xa_cons h xa_nil hs) (he := hs)) (tCB_ofF fun Γ π H σ vs Q en r k => by
      cases r with
      | cons r1 r2 =>
        cases r2
        cases hd with
        | lst =>
          cases r1 with
          | lst a b => exact ⟨_, _, rfl, .inl (SqL.of (cut_sub _ _ a)), fun l hl => k.new en hl b⟩
        | tup =>
          cases r1 with
          | tup a b => exact ⟨_, _, rfl, .inr (Same.seqT cut_sub a), fun l hl => k.new en hl b⟩)
end
end Y
set_option Elab.async false
set_option linter.all false
set_option maxRecDepth 100000
set_option maxHeartbeats 4000000
namespace Y
open PySem PySem.Spec PyProof.Rows L2
theorem rd_upd {H : Hp} {p a : Addr} {o u : HO} (hp : H p = none) (h : Rd (upd H p o) a u) : (a = p ∧ (o = u ∨ ∃ b, o = .frz b u)) ∨ Rd H a u := by
  by_cases e : a = p
  · subst e
    rcases h with h | ⟨b, h⟩
    · rw [upd_same] at h; exact .inl ⟨rfl, .inl (Option.some.inj h)⟩
    · rw [upd_same] at h; exact .inl ⟨rfl, .inr ⟨b, Option.some.inj h⟩⟩
  · rcases h with h | ⟨b, h⟩
    · rw [upd_ne e] at h; exact .inr (.inl h)
    · rw [upd_ne e] at h; exact .inr (.inr ⟨b, h⟩)
theorem LenOk.tup {K : PySem.W.Frag} {H : Hp} {p : Addr} {xs : List V} (l : LenOk K H) (hp : H p = none) (hx : xs.length ≤ sizeLine) : LenOk K (upd H p (.tup xs)) := by
  refine ⟨fun a ys h => ?_, fun a ys h => ?_⟩
  · rcases h with h | h
    · rcases rd_upd hp h with ⟨_, q | ⟨b, q⟩⟩ | h
      · cases q
      · cases q
      · exact l.l a ys (.inl h)
    · exact l.l a ys (.inr h)
  · rcases h with h | h
    · rcases rd_upd hp h with ⟨_, q | ⟨b, q⟩⟩ | h
      · cases q; exact hx
      · cases q
      · exact l.t a ys (.inl h)
    · exact l.t a ys (.inr h)
theorem LenOk.lst {K : PySem.W.Frag} {H : Hp} {p : Addr} {xs : List V} (l : LenOk K H) (hx : xs.length ≤ sizeLine) : LenOk K (upd H p (.lst xs)) := by
  refine ⟨fun a ys h => ?_, fun a ys h => ?_⟩
  · rcases h with h | h
    · by_cases e : a = p
      · subst e
        rcases h with h | ⟨b, h⟩
        · rw [upd_same] at h; cases h; exact hx
        · rw [upd_same] at h; cases h
      · rcases h with h | ⟨b, h⟩
        · rw [upd_ne e] at h; exact l.l a ys (.inl (.inl h))
        · rw [upd_ne e] at h; exact l.l a ys (.inl (.inr ⟨b, h⟩))
    · exact l.l a ys (.inr h)
  · rcases h with h | h
    · by_cases e : a = p
      · subst e
        rcases h with h | ⟨b, h⟩
        · rw [upd_same] at h; cases h
        · rw [upd_same] at h; cases h
      · rcases h with h | ⟨b, h⟩
        · rw [upd_ne e] at h; exact l.t a ys (.inl (.inl h))
        · rw [upd_ne e] at h; exact l.t a ys (.inl (.inr ⟨b, h⟩))
    · exact l.t a ys (.inr h)

theorem cut_frame {H : Hp} {π : Tag} {p : Addr} {o : HO} {t : Nat} (hp : π p = 1) (ht : t ≠ 1) : Same (cut H π t) (cut (upd H p o) π t) := cut_same fun a u e h => ⟨by rw [upd_ne (fun z => ht (by rw [← e, z]; exact hp))]; exact h, e⟩
structure ItOk (K : PySem.W.Frag) (f : Bool) (J : It) (ds : List D) (P : Tag → Hp → Prop) : Prop where
  cl : ∀ π H π' H', P π H → Stp π H π' H' → P π' H'
  clF : f = true → ∀ π H π' H', P π H → Fix π H π' H' → P π' H'
  fr : ∀ π H p o, P π H → π p = 1 → P π (upd H p o)
  go : ∀ i π H, i < ds.length → P π H → LenOk K H → J.go i H
  stop : ∀ π H, P π H → J.stop ds.length H
  bd : ∀ π H, P π H → LenOk K H → ds.length ≤ sizeLine
  yld : ∀ i d π H x H', ds[i]? = some d → P π H → LenOk K H → J.yld i H x H' → ∃ π', Pur π H π' H' ∧ Rp K (cut H' π' 0) x d ∧ LenOk K H'
def rI (K : PySem.W.Frag) (f : Bool) (Γ Γ' : En) (ds : List D) : TI := fun σ H R => ∃ π, EnOk K Γ π H σ ∧ ∀ J P π' H', Stp π H π' H' → EnOk K Γ' π' H' σ → ItOk K f J ds P → P π' H' → R J H'
def XI (X : Cx) (f : Bool) (Γ : En) (tg iter : Expr) (Γ' : En) (ds : List D) : Prop := PI X tg iter (rI X.K f Γ Γ' ds)
theorem PI.imp {X : Cx} {tg e : Expr} {t t' : TI} (h : PI X tg e t) (i : ∀ σ H Q, t' σ H Q → t σ H Q) : PI X tg e t' := ⟨fun pins s σ H Q I q => h.run pins s σ H Q I (i σ H Q q)⟩

theorem itl_stable {K : PySem.W.Frag} {a : Addr} {xs : List V} {ds : List D} {G : Hp} (h : G a = some (.lst xs)) (r : RpAll K G xs ds) : ItOk K true (Itl K a) ds (fun π H => Same G (cut H π 0)) where
  cl := fun π H π' H' p s => p.trans s.zero
  clF := fun _ π H π' H' p s => p.trans s.zero
  fr := fun π H q o p t => p.trans (cut_frame t (by omega))
  go := fun i π H hi p _ => by
    have hi' : i < xs.length := by rw [r.length]; exact hi
    exact ⟨xs, xs[i], SqL.of (cut_sub _ _ (p _ _ h)), List.getElem?_eq_getElem hi'⟩
  stop := fun π H p => ⟨xs, SqL.of (cut_sub _ _ (p _ _ h)), by rw [r.length]; exact Nat.le_refl _⟩
  bd := fun π H p l => by rw [← r.length]; exact l.l _ _ (SqL.of (cut_sub _ _ (p _ _ h)))
  yld := fun i d π H x H' hd p l y => by
    obtain ⟨e, y⟩ := y
    subst e
    obtain ⟨v, hv, rv⟩ := r.get hd
    have e := y xs (SqL.of (cut_sub _ _ (p _ _ h)))
    rw [hv] at e
    cases e
    exact ⟨π, Pur.refl, rv.same p, l⟩
theorem itt_stable {K : PySem.W.Frag} {a : Addr} {xs : List V} {ds : List D} {G : Hp} (h : SqT K G a xs) (r : RpAll K G xs ds) : ItOk K true (Itt K a) ds (fun π H => Same G (cut H π 0)) where
  cl := fun π H π' H' p s => p.trans s.zero
  clF := fun _ π H π' H' p s => p.trans s.zero
  fr := fun π H q o p t => p.trans (cut_frame t (by omega))
  go := fun i π H hi p _ => by
    have hi' : i < xs.length := by rw [r.length]; exact hi
    exact ⟨xs, xs[i], Same.seqT (p.trans cut_sub) h, List.getElem?_eq_getElem hi'⟩
  stop := fun π H p => ⟨xs, Same.seqT (p.trans cut_sub) h, by rw [r.length]; exact Nat.le_refl _⟩
  bd := fun π H p l => by rw [← r.length]; exact l.t _ _ (Same.seqT (p.trans cut_sub) h)
  yld := fun i d π H x H' hd p l y => by
    obtain ⟨e, y⟩ := y
    subst e
    obtain ⟨v, hv, rv⟩ := r.get hd
    have e := y xs (Same.seqT (p.trans cut_sub) h)
    rw [hv] at e
    cases e
    exact ⟨π, Pur.refl, rv.same p, l⟩
theorem itl_own {K : PySem.W.Frag} {a : Addr} {xs : List V} {ds : List D} {G : Hp} {t : Nat} (ht : t ≠ 2) (ht1 : t ≠ 1) (r : RpAll K G xs ds) : ItOk K false (Itl K a) ds (fun π H => Same G (cut H π 0) ∧ cut H π t a = some (.lst xs)) where
  clF := fun z => by cases z
  fr := fun π H q o p t => ⟨p.1.trans (cut_frame t (by omega)), cut_frame t ht1 _ _ p.2⟩
  cl := fun π H π' H' p s => ⟨p.1.trans s.zero, s.part ht _ _ p.2⟩
  go := fun i π H hi p _ => by
    have hi' : i < xs.length := by rw [r.length]; exact hi
    exact ⟨xs, xs[i], SqL.of (cut_sub _ _ p.2), List.getElem?_eq_getElem hi'⟩
  stop := fun π H p => ⟨xs, SqL.of (cut_sub _ _ p.2), by rw [r.length]; exact Nat.le_refl _⟩
  bd := fun π H p l => by rw [← r.length]; exact l.l _ _ (SqL.of (cut_sub _ _ p.2))
  yld := fun i d π H x H' hd p l y => by
    obtain ⟨e, y⟩ := y
    subst e
    obtain ⟨v, hv, rv⟩ := r.get hd
    have e := y xs (SqL.of (cut_sub _ _ p.2))
    rw [hv] at e
    cases e
    exact ⟨π, Pur.refl, rv.same p.1, l⟩
theorem itr_ok {K : PySem.W.Frag} {lo : Int} {n : Nat} (hn : n ≤ 100000) : ItOk K true (Itr lo n) ((List.range n).map fun i => D.int (lo + (i : Nat))) (fun _ _ => True) where
  cl := fun _ _ _ _ _ _ => True.intro
  clF := fun _ _ _ _ _ _ _ => True.intro
  fr := fun _ _ _ _ _ _ => True.intro
  go := fun i π H hi _ _ => by
    show i < n
    simpa using hi
  stop := fun π H _ => by simp [Itr]
  bd := fun π H _ _ => by simpa using size100 hn
  yld := fun i d π H x H' hd _ l y => by
    obtain ⟨e, y⟩ := y
    subst e
    subst y
    have hn : i < n := by
      obtain ⟨h, _⟩ := List.getElem?_eq_some_iff.mp hd
      simpa using h
    have : d = .int (lo + (i : Nat)) := by
      rw [List.getElem?_map, List.getElem?_range hn] at hd
      exact (Option.some.inj hd).symm
    subst this
    exact ⟨π, Pur.refl, .int _, l⟩
section
variable {R : Rw} {k : Nat} {X : Cx} {N : List Str} {sc : Scope} {Γ Γ1 Γ2 Γ3 : En} {a b c e tg iter : Expr} {es : List Expr} {pos p : Pos}
theorem xi_seq {d : D} {ds : List D} (h : XE X Γ e Γ1 d) (hd : SeqD d ds) : XI X true Γ tg e Γ1 ds := by
  cases hd with
  | lst =>
    refine PI.imp (pi_list h) fun σ H Q ⟨π, en, q⟩ => ⟨π, en, fun v π' H' s e r => ?_⟩
    cases r with
    | lst a b => exact ⟨_, rfl, ⟨_, SqL.of (cut_sub _ _ a)⟩, q _ _ π' H' s e (itl_stable a b) (Same.refl _)⟩
  | tup =>
    refine PI.imp (pi_tup h) fun σ H Q ⟨π, en, q⟩ => ⟨π, en, fun v π' H' s e r => ?_⟩
    cases r with
    | tup a b => exact ⟨_, rfl, ⟨_, Same.seqT cut_sub a⟩, q _ _ π' H' s e (itt_stable a b) (Same.refl _)⟩
theorem xi_own (C : CxIs R k X N sc) (i : Nat) {x : Str} {ds : List D} (hΓ : Γ.sl[i]? = some (some (.lst ds))) (hN : N[i]? = some x) (hv : Vis sc x) (hd : (x == ("__debug__" : Str)) = false := by decide) (hcd : (x == ("__classdict__" : Str)) = false := by decide) :
    XI X false Γ tg (.Name x pos) Γ ds := PI.imp (pi_list (pe_var (i := i) (by rw [C.n]; exact hN) (C.vis hv) hd hcd)) fun σ H Q ⟨π, en, q⟩ => by
  obtain ⟨v, h1, p, xs, rfl, h2, h3⟩ := en.at_ i _ hΓ
  exact ⟨.ref p, h1, p, rfl, ⟨xs, SqL.of (cut_sub _ _ h2)⟩, q _ _ π H Stp.refl en (itl_own (t := i + 3) (by omega) (by omega) h3) ⟨Same.refl _, h2⟩⟩
theorem xi_range1 {n : Int} (C : CxIs R k X N sc) (B : Blt R.mg) (hg : IsGl sc "range") (h : XE X Γ e Γ1 (.int n)) (h0 : 0 ≤ n) (h1 : n ≤ 100000) (hs : starEach [e] X.env = (false, eval e X.env) :: starEach [] X.env := by rfl) (hs2 : starEach [e] X.env = [(false, eval e X.env)] := by rfl) :
    XI X true Γ tg (.Call (.Name "range" p) [e] [] pos) Γ1 ((List.range n.toNat).map fun i => D.int (i : Nat)) := PI.imp (pi_range1 (C.gl hg) (C.none B.range) (xa_cons h xa_nil hs) hs2) fun σ H Q ⟨π, en, q⟩ => ⟨π, en, fun vs π' H' s e r => by
  cases r with
  | cons r1 r2 =>
    cases r2
    cases r1
    refine ⟨n, rfl, by omega, by omega, q _ (fun _ _ => True) π' H' s e ?_ True.intro⟩
    have := itr_ok (K := X.K) (lo := 0) (n := n.toNat) (by omega)
    simpa only [Int.zero_add] using this⟩
theorem xi_range2 {lo n : Int} (C : CxIs R k X N sc) (B : Blt R.mg) (hg : IsGl sc "range") (h : XE X Γ a Γ1 (.int lo)) (h' : XE X Γ1 b Γ2 (.int n)) (h0 : 0 ≤ lo ∧ lo ≤ 100000 ∧ -100000 ≤ n ∧ n ≤ 100000) (hs : starEach [a, b] X.env = (false, eval a X.env) :: starEach [b] X.env := by rfl) (hs1 : starEach [b] X.env = (false, eval b X.env) :: starEach [] X.env := by rfl) (hs2 : starEach [a, b] X.env = [(false, eval a X.env), (false, eval b X.env)] := by rfl) (hs3 : starEach [b] X.env = [(false, eval b X.env)] := by rfl) :
    XI X true Γ tg (.Call (.Name "range" p) [a, b] [] pos) Γ2 ((List.range (n - lo).toNat).map fun i => D.int (lo + (i : Nat))) := PI.imp (pi_range2 (C.gl hg) (C.none B.range) (xa_cons h (xa_cons h' xa_nil hs1) hs) hs2 hs3) fun σ H Q ⟨π, en, q⟩ => ⟨π, en, fun vs π' H' s e r => by
  cases r with
  | cons r1 r2 =>
    cases r2 with
    | cons r2 r3 =>
      cases r3
      cases r1
      cases r2
      exact ⟨lo, n, rfl, by omega, q _ _ π' H' s e (itr_ok (by omega)) True.intro⟩⟩

theorem relabel_eq {scope : Scope} {env : Env} {sc : Scope} (h : env.scope = sc) : relabel scope env = relS scope sc := by
  subst h
  rfl
theorem CxIs.blk (C : CxIs R k X N sc) (s : Shared) (H : Hp) (scope : Scope) (cA : Addr) (cl : List (Str × Addr)) (fp : List Addr) : CxIs R k (X.blk s H scope (compEnvC scope cl cA X.env) fp) N (relS scope sc) :=
  ⟨C.P, C.w, C.K, C.mg, C.base, C.n, relabel_eq C.sc, C.calm, C.nd, C.room⟩

def En.setS (Γ : En) (i : Nat) (s : Sl) : En := ⟨Γ.sl.set i (some s), Γ.mu⟩
def En.del (Γ : En) (i : Nat) : En := ⟨Γ.sl.set i none, Γ.mu⟩
theorem EnOk.setS {K : PySem.W.Frag} {Γ : En} {π : Tag} {H : Hp} {σ : L2.St} (h : EnOk K Γ π H σ) {i : Nat} {s : Sl} {v : V} (r : SlOk K s v (cut H π 0) (cut H π (i + 3))) : EnOk K (Γ.setS i s) π H (σ.set i (some v)) := by
  refine ⟨fun j t e => ?_, h.mu, h.len, by show (Γ.sl.set i (some s)).length ≤ (σ.set i (some v)).length; rw [List.length_set, List.length_set]; exact h.sl⟩
  have e' : (Γ.sl.set i (some s))[j]? = some (some t) := e
  by_cases hj : i = j
  · subst hj
    have hl : i < Γ.sl.length := by
      obtain ⟨q, _⟩ := List.getElem?_eq_some_iff.mp e'
      simpa using q
    rw [List.getElem?_set_self hl] at e'
    cases e'
    exact ⟨v, List.getElem?_set_self (Nat.lt_of_lt_of_le hl h.sl), r⟩
  · rw [List.getElem?_set_ne hj] at e'
    rw [List.getElem?_set_ne hj]
    exact h.at_ j t e'
theorem EnOk.del {K : PySem.W.Frag} {Γ : En} {π : Tag} {H : Hp} {σ : L2.St} (h : EnOk K Γ π H σ) (i : Nat) (x : Option V) : EnOk K (Γ.del i) π H (σ.set i x) := by
  refine ⟨fun j t e => ?_, h.mu, h.len, by show (Γ.sl.set i none).length ≤ (σ.set i x).length; rw [List.length_set, List.length_set]; exact h.sl⟩
  have e' : (Γ.sl.set i none)[j]? = some (some t) := e
  by_cases hj : i = j
  · subst hj
    have hl : i < Γ.sl.length := by
      obtain ⟨q, _⟩ := List.getElem?_eq_some_iff.mp e'
      simpa using q
    rw [List.getElem?_set_self hl] at e'
    cases e'
  · rw [List.getElem?_set_ne hj] at e'
    rw [List.getElem?_set_ne hj]
    exact h.at_ j t e'
def rG (K : PySem.W.Frag) (js : List Nat) (Γ : En) (d : D) (Γ' : En) : TG := fun v σ H Q => ∃ π, EnOk K Γ π H σ ∧ Rp K (cut H π 0) v d ∧ ∀ σ', σ'.length = σ.length → (∀ j, j ∉ js → σ'[j]? = σ[j]?) → EnOk K Γ' π H σ' → Q σ' H
def XG (X : Cx) (js : List Nat) (Γ : En) (tg : Expr) (d : D) (Γ' : En) : Prop := PG X tg (rG X.K js Γ d Γ')
def rGs (K : PySem.W.Frag) (js : List Nat) (Γ : En) (ds : List D) (Γ' : En) : TGs := fun vs σ H Q => ∃ π, EnOk K Γ π H σ ∧ RpAll K (cut H π 0) vs ds ∧ ∀ σ', σ'.length = σ.length → (∀ j, j ∉ js → σ'[j]? = σ[j]?) → EnOk K Γ' π H σ' → Q σ' H
def XGs (X : Cx) (js : List Nat) (Γ : En) (tgs : List Expr) (ds : List D) (Γ' : En) : Prop := PGs X tgs (rGs X.K js Γ ds Γ')
theorem PG.imp {X : Cx} {e : Expr} {t t' : TG} (h : PG X e t) (i : ∀ v σ H Q, t' v σ H Q → t v σ H Q) : PG X e t' := ⟨fun pins s σ H v u Q I r q => h.run pins s σ H v u Q I r (i v σ H Q q)⟩
theorem PGs.imp {X : Cx} {e : List Expr} {t t' : TGs} (h : PGs X e t) (i : ∀ v σ H Q, t' v σ H Q → t v σ H Q) : PGs X e t' := ⟨fun pins s σ H v u Q I r q => h.run pins s σ H v u Q I r (i v σ H Q q)⟩
theorem xg_name (C : CxIs R k X N sc) (i : Nat) {x : Str} {d : D} (hN : N[i]? = some x) (hx : Loc sc x) (hf : X.fn x = true ∨ sc.names.lookup x = some .local) : XG X [i] Γ (.Name x pos) d (Γ.setS i (.st d)) :=
  PG.imp (pg_name (i := i) (by rw [C.n]; exact C.nd) (by rw [C.n]; exact hN) (by rw [C.sc]; exact hx) (by rw [C.sc]; exact hf)) fun v σ H Q ⟨π, en, r, q⟩ =>
    q _ (List.length_set ..) (fun j hj => List.getElem?_set_ne (fun z => hj (by simp [z]))) (en.setS r)
theorem xgs_nil : XGs X [] Γ [] [] Γ := PGs.imp pgs_nil fun v σ H Q ⟨π, en, r, q⟩ => by
  cases r
  exact ⟨rfl, q σ rfl (fun _ _ => rfl) en⟩
theorem xgs_cons {js js' : List Nat} {d : D} {ds : List D} (h : XG X js Γ e d Γ1) (hr : XGs X js' Γ1 es ds Γ2) (hs : (assignEach (e :: es) X.env).map (·.2) = assign e X.env :: (assignEach es X.env).map (·.2) := by rfl) : XGs X (js ++ js') Γ (e :: es) (d :: ds) Γ2 :=
  PGs.imp (pgs_cons h hr hs) fun v σ H Q ⟨π, en, r, q⟩ => by
    cases r with
    | cons r1 r2 => exact ⟨_, _, rfl, π, en, r1, fun σ1 l1 n1 e1 => ⟨π, e1, r2, fun σ2 l2 n2 e2 => q σ2 (l2.trans l1) (fun j hj => (n2 j fun z => hj (List.mem_append_right _ z)).trans (n1 j fun z => hj (List.mem_append_left _ z))) e2⟩⟩
theorem xg_tup {js : List Nat} {kk n : Nat} {ds : List D} (C : CxIs R k X N sc) (h : XGs X js Γ es ds Γ1) (hl : ds.length = n) (hn : (assignEach es X.env).length = n := by rfl) (hst : (assignEach es X.env).findIdx? (·.1) = none := by rfl) : XG X js Γ (.Tuple es kk pos) (.tuple ds) Γ1 :=
  PG.imp (pg_tup (n := n) C.calm h hn hst) fun v σ H Q ⟨π, en, r, q⟩ => by
    cases r with
    | tup a b => exact ⟨_, _, rfl, Same.seqT cut_sub a, by rw [b.length]; exact hl, π, en, b, q⟩

def wipeL (sl : List (Option Sl)) : List Nat → List (Option Sl)
  | [] => sl
  | v :: vs => (wipeL sl vs).set v none
def En.wipe (Γ : En) (vs : List Nat) : En := ⟨wipeL Γ.sl vs, Γ.mu⟩
theorem EnOk.wipe {K : PySem.W.Frag} {Γ : En} {π : Tag} {H : Hp} {σ : L2.St} (h : EnOk K Γ π H σ) : ∀ vs : List Nat, EnOk K (Γ.wipe vs) π H (L2.wipe σ vs)
  | [] => h
  | v :: vs => (h.wipe vs).del v none
theorem wipe_at (σ : L2.St) (j : Nat) : ∀ vs : List Nat, (L2.wipe σ vs)[j]? = if j ∈ vs then σ[j]?.map (fun _ => none) else σ[j]?
  | [] => by simp [L2.wipe]
  | v :: vs => by
    unfold L2.wipe
    by_cases e : v = j
    · subst e
      rw [if_pos List.mem_cons_self]
      by_cases hl : v < σ.length
      · rw [List.getElem?_set_self (by rw [wipe_length]; exact hl), List.getElem?_eq_getElem hl]
        rfl
      · rw [List.getElem?_eq_none (by rw [List.length_set, wipe_length]; omega), List.getElem?_eq_none (by omega)]
        rfl
    · rw [List.getElem?_set_ne e, wipe_at σ j vs]
      have e' : ¬ j = v := fun z => e z.symm
      simp [e']
theorem wipe_eq {σ σ' : L2.St} {vs : List Nat} (hl : σ'.length = (L2.wipe σ vs).length) (h : ∀ j, j ∉ vs → σ'[j]? = (L2.wipe σ vs)[j]?) : L2.wipe σ' vs = L2.wipe σ vs := by
  apply List.ext_getElem?
  intro j
  rw [wipe_at]
  by_cases hj : j ∈ vs
  · rw [if_pos hj, wipe_at, if_pos hj]
    rw [wipe_length] at hl
    by_cases hlt : j < σ.length
    · rw [List.getElem?_eq_getElem hlt, List.getElem?_eq_getElem (by omega)]
      rfl
    · rw [List.getElem?_eq_none (by omega), List.getElem?_eq_none (by omega)]
  · rw [if_neg hj]
    exact h j hj
def XTs (X : Cx) (Γ : En) (ifs : List Expr) (Γ' : En) (b : Bool) : Prop := PTs X ifs (rT X.K Γ Γ' b)
theorem xts_nil : XTs X Γ [] Γ true := ⟨fun pins s σ H Q I ⟨π, en, q⟩ => pts_nil.run pins s σ H Q I (q π H Stp.refl en)⟩
theorem xts_one {c : Expr} {b : Bool} (h : XT X Γ c Γ1 b) : XTs X Γ [c] Γ1 b := pts_one h
def kept (b : Nat → Bool) (y : Nat → D) (n : Nat) : List D := ((List.range n).filter b).map y
theorem kept_yes {b : Nat → Bool} {y : Nat → D} {n : Nat} (h : b n = true) : kept b y (n + 1) = kept b y n ++ [y n] := by
  unfold kept
  rw [List.range_succ, List.filter_append, List.map_append]
  simp [h]
theorem kept_no {b : Nat → Bool} {y : Nat → D} {n : Nat} (h : b n = false) : kept b y (n + 1) = kept b y n := by
  unfold kept
  rw [List.range_succ, List.filter_append, List.map_append]
  simp [h]
theorem kept_len (b : Nat → Bool) (y : Nat → D) (n : Nat) : (kept b y n).length ≤ n := by
  unfold kept
  rw [List.length_map]
  exact Nat.le_trans (List.length_filter_le _ _) (by simp)
theorem lc_reading {K : PySem.W.Frag} {f : Bool} {ds : List D} {vs : List Nat} {mus : Nat → Option (Addr × MS)} {b : Nat → Bool} {y : Nat → D} {Γt Γu Γv : Nat → En}
    (hv1 : ∀ k, k < ds.length → b k = true → (Γv k).mu = mus (k + 1)) (hv2 : ∀ k, k < ds.length → b k = false → (Γu k).mu = mus (k + 1)) :
    ∀ σ H π Q, EnOk K Γ π H σ → KxF K ⟨Γ1.sl, mus ds.length⟩ (kept b y ds.length) π H σ Q →
      tLc (rI K f Γ ⟨Γ1.sl, mus 0⟩ ds) (fun v σ H Q => ∃ k d, ds[k]? = some d ∧ rG K vs (En.wipe ⟨Γ1.sl, mus k⟩ vs) d (Γt k) v σ H Q) (fun σ H Q => ∃ k, k < ds.length ∧ rT K (Γt k) (Γu k) (b k) σ H Q)
        (fun σ H Q => ∃ k, k < ds.length ∧ b k = true ∧ rE K (Γu k) (Γv k) (y k) σ H Q) vs σ H (lenQ K Q) := by
  intro σ H π Q en kx
  refine ⟨π, en, fun J P π1 H1 s1 e1 it p1 D hD => ?_⟩
  refine ⟨fun i m H' => i + m = ds.length ∧ ∃ π' acc, Stp π1 H1 π' H' ∧ EnOk K ⟨Γ1.sl, mus i⟩ π' H' σ ∧ π' D = 1 ∧ H' D = some (.lst acc) ∧ RpAll K (cut H' π' 0) acc (kept b y i), ⟨ds.length, by omega, setT π1 D 1, [], ?_⟩, ?_⟩
  · have pn := Pur.new (o := .lst []) 1 (π := π1) hD
    exact ⟨pn.stp, e1.pur pn (e1.len.lst (by simp)), setT_same, upd_same, .nil⟩
  · rintro i m H' ⟨him, π', acc, st, e', tD, hA, rA⟩
    have p' := it.cl _ _ _ _ p1 st
    have hbd := it.bd π' H' p' e'.len
    by_cases hi : i < ds.length
    · obtain ⟨d, hd⟩ : ∃ d, ds[i]? = some d := ⟨ds[i], List.getElem?_eq_getElem hi⟩
      refine .inr ⟨it.go i π' H' hi p' e'.len, fun H'' => ∃ π'' acc', Stp π1 H1 π'' H'' ∧ EnOk K ⟨Γ1.sl, mus (i + 1)⟩ π'' H'' σ ∧ π'' D = 1 ∧ H'' D = some (.lst acc') ∧ RpAll K (cut H'' π'' 0) acc' (kept b y (i + 1)), fun H'' h => ⟨m - 1, by omega, by omega, h⟩, fun x H2 yl => ?_⟩
      obtain ⟨π2, pu, rx, l2⟩ := it.yld i d π' H' x H2 hd p' e'.len yl
      refine ⟨i, d, hd, π2, (e'.pur pu l2).wipe vs, rx, fun σ2 hl2 hn2 e2 => ⟨wipe_eq hl2 hn2, i, hi, π2, e2, fun π3 H3 s3 e3 => ?_⟩⟩
      have s13 : Stp π' H' π3 H3 := pu.stp.trans s3
      have slots : ∀ {π4 : Tag} {H4 : Hp}, Stp π' H' π4 H4 → LenOk K H4 → (MuOk (mus (i + 1)) (cut H4 π4 0) (cut H4 π4 2)) → EnOk K ⟨Γ1.sl, mus (i + 1)⟩ π4 H4 σ := fun s4 l4 mu4 =>
        ⟨fun j t q => let ⟨v, h1, h2⟩ := e'.at_ j t q; ⟨v, h1, h2.same s4.zero (s4.part (by omega))⟩, mu4, l4, e'.sl⟩
      cases hb : b i with
      | true =>
        refine ifT ⟨i, hi, hb, π3, e3, fun v π4 H4 s4 e4 r4 => ?_⟩
        have s14 := s13.trans s4
        obtain ⟨hA4, tD4⟩ := s14 D _ hA (by omega)
        have tD4' : π4 D = 1 := tD4.trans tD
        have nD : ∀ a, π4 a ≠ 1 → a ≠ D := fun a h z => h (by rw [z]; exact tD4')
        have hlk : (acc ++ [v]).length ≤ sizeLine := by
          have := rA.length
          have := kept_len b y i
          simp
          omega
        have sm0 : ∀ t, t ≠ 1 → Same (cut H4 π4 t) (cut (upd H4 D (.lst (acc ++ [v]))) π4 t) := fun t ht => cut_same fun a o q h => ⟨by rw [upd_ne (nD a (by omega))]; exact h, q⟩
        refine ⟨acc, hA4, by have := rA.length; have := kept_len b y i; omega, π4, acc ++ [v], ?_, ?_, tD4', upd_same, ?_⟩
        · intro a o h h2
          have := (st.trans s14) a o h h2
          refine ⟨?_, this.2⟩
          rw [upd_ne (fun z => by rw [z, hD] at h; cases h)]
          exact this.1
        · refine ⟨fun j t q => ?_, ?_, e4.len.lst hlk, e'.sl⟩
          · obtain ⟨w, h1, h2⟩ := e'.at_ j t q
            exact ⟨w, h1, h2.same (s14.zero.trans (sm0 0 (by omega))) ((s14.part (by omega)).trans (sm0 (j + 3) (by omega)))⟩
          · have := e4.mu
            rw [hv1 i hi hb] at this
            exact this.same (sm0 0 (by omega)) (sm0 2 (by omega))
        · rw [kept_yes hb]
          exact (rA.same (s14.zero.trans (sm0 0 (by omega)))).append (.cons (r4.same (sm0 0 (by omega))) .nil)
      | false =>
        refine ifF ?_
        obtain ⟨hA3, tD3⟩ := s13 D _ hA (by omega)
        refine ⟨π3, acc, st.trans s13, slots s13 e3.len ?_, tD3.trans tD, hA3, ?_⟩
        · have := e3.mu
          rw [hv2 i hi hb] at this
          exact this
        · rw [kept_no hb]
          exact rA.same s13.zero
    · have hie : i = ds.length := by omega
      subst hie
      refine .inl ⟨it.stop π' H' p', fun l => ?_⟩
      exact kx D acc π' H' (s1.trans st) e' tD hA (fun o q => by
        by_cases h : π D = 2
        · exact h
        · have := (s1 D o q h).1
          rw [hD] at this
          cases this) rA
theorem pg_ex {X : Cx} {tg : Expr} {α : Type} {t : α → TG} {C : α → Prop} (h : ∀ k, C k → PG X tg (t k)) : PG X tg (fun v σ H Q => ∃ k, C k ∧ t k v σ H Q) := ⟨fun pins s σ H v u Q I r ⟨k, c, q⟩ => (h k c).run pins s σ H v u Q I r q⟩
theorem pts_ex {X : Cx} {tg : List Expr} {α : Type} {t : α → TT} {C : α → Prop} (h : ∀ k, C k → PTs X tg (t k)) : PTs X tg (fun σ H Q => ∃ k, C k ∧ t k σ H Q) := ⟨fun pins s σ H Q I ⟨k, c, q⟩ => (h k c).run pins s σ H Q I q⟩
theorem pe_ex {X : Cx} {tg : Expr} {α : Type} {t : α → TE} {C : α → Prop} (h : ∀ k, C k → PE X tg (t k)) : PE X tg (fun σ H Q => ∃ k, C k ∧ t k σ H Q) := ⟨fun pins s σ H Q I ⟨k, c, q⟩ => (h k c).run pins s σ H Q I q⟩

theorem kept_get {α : Type} (c : α → Bool) (g : α → D) : ∀ (xs : List α) (b : Nat → Bool) (y : Nat → D), (∀ k x, xs[k]? = some x → b k = c x ∧ y k = g x) → kept b y xs.length = (xs.filter c).map g := by
  intro xs b y h
  have key : ∀ n, n ≤ xs.length → kept b y n = ((xs.take n).filter c).map g := by
    intro n
    induction n with
    | zero => intro _; simp [kept]
    | succ n ih =>
      intro hn
      have hlt : n < xs.length := by omega
      have hg := List.getElem?_eq_getElem hlt
      obtain ⟨h1, h2⟩ := h n _ hg
      have ht : xs.take (n + 1) = xs.take n ++ [xs[n]] := by rw [List.take_succ, hg]; rfl
      rw [ht, List.filter_append, List.map_append, List.filter_cons]
      cases hb : b n with
      | true =>
        rw [kept_yes hb, ih (by omega), h2]
        rw [hb] at h1
        rw [← h1]
        rfl
      | false =>
        rw [kept_no hb, ih (by omega)]
        rw [hb] at h1
        rw [← h1]
        simp
  have := key xs.length (Nat.le_refl _)
  rw [this, List.take_length]
structure BlkX (R : Rw) (k : Nat) (N : List Str) (sc scope : Scope) (X X' : Cx) : Prop where
  c : CxIs R k X' N (relS scope sc)
  fn : X'.fn = fun x => scope.names.lookup x == some .cell
  a : X'.A = X.A
abbrev slotsOf (own : List (Str × Nat)) : List Nat := own.map (·.2)
theorem lc_parts {own : List (Str × Nat)} {scope : Scope} {elt : Expr} {ifs : List Expr} {ds : List D} {mus : Nat → Option (Addr × MS)} {b : Nat → Bool} {y : Nat → D} {Γt Γu Γv : Nat → En} (C : CxIs R k X N sc)
    (h : ∀ X', BlkX R k N sc scope X X' → ∀ j d, ds[j]? = some d → XG X' (slotsOf own) (En.wipe ⟨Γ1.sl, mus j⟩ (slotsOf own)) tg d (Γt j) ∧ XTs X' (Γt j) ifs (Γu j) (b j) ∧ (b j = true → XE X' (Γu j) elt (Γv j) (y j))) :
    ∀ (s : Shared) (H : Hp) (cA : Addr) (cl : List (Str × Addr)) (fp : List Addr),
      PG (X.blk s H scope (compEnvC scope cl cA X.env) fp) tg (fun v σ H Q => ∃ k d, ds[k]? = some d ∧ rG X.K (slotsOf own) (En.wipe ⟨Γ1.sl, mus k⟩ (slotsOf own)) d (Γt k) v σ H Q) ∧
      PTs (X.blk s H scope (compEnvC scope cl cA X.env) fp) ifs (fun σ H Q => ∃ k, k < ds.length ∧ rT X.K (Γt k) (Γu k) (b k) σ H Q) ∧
      PE (X.blk s H scope (compEnvC scope cl cA X.env) fp) elt (fun σ H Q => ∃ k, k < ds.length ∧ b k = true ∧ rE X.K (Γu k) (Γv k) (y k) σ H Q) := fun s H cA cl fp => by
  have hX := h (X.blk s H scope (compEnvC scope cl cA X.env) fp) ⟨C.blk s H scope cA cl fp, rfl, rfl⟩
  refine ⟨⟨fun pins s σ H v u Q I r ⟨j, d, hd, q⟩ => (hX j d hd).1.run pins s σ H v u Q I r q⟩, ⟨fun pins s σ H Q I ⟨j, hj, q⟩ => (hX j _ (List.getElem?_eq_getElem hj)).2.1.run pins s σ H Q I q⟩, ⟨fun pins s σ H Q I ⟨j, hj, hb, q⟩ => ((hX j _ (List.getElem?_eq_getElem hj)).2.2 hb).run pins s σ H Q I q⟩⟩
theorem xf_lcG {fb : Bool} {own : List (Str × Nat)} {scope : Scope} {elt : Expr} {ifs : List Expr} {ds : List D} {mus : Nat → Option (Addr × MS)} {b : Nat → Bool} {y : Nat → D} {Γt Γu Γv : Nat → En} (C : CxIs R k X N sc) (hi : XI X fb Γ tg iter ⟨Γ1.sl, mus 0⟩ ds) (ok : blkC N sc scope own = true)
    (h : ∀ X', BlkX R k N sc scope X X' → ∀ j d, ds[j]? = some d → XG X' (slotsOf own) (En.wipe ⟨Γ1.sl, mus j⟩ (slotsOf own)) tg d (Γt j) ∧ XTs X' (Γt j) ifs (Γu j) (b j) ∧ (b j = true → XE X' (Γu j) elt (Γv j) (y j)))
    (hv1 : ∀ k, k < ds.length → b k = true → (Γv k).mu = mus (k + 1)) (hv2 : ∀ k, k < ds.length → b k = false → (Γu k).mu = mus (k + 1)) (hs : ∀ x, foldedSetIterable iter X.env x = pure x := by intro _; rfl) :
    XF X Γ (.ListComp elt [⟨tg, iter, ifs, 0⟩] scope pos) ⟨Γ1.sl, mus ds.length⟩ (kept b y ds.length) := by
  have hp := lc_parts (own := own) C h
  exact xf_of (pe_lc (own := own) C.calm (by rw [C.n]; exact C.nd) hi (by rw [C.n, C.sc]; exact blkOk_by ok) (fun s H c cl fp => (hp s H c cl fp).1) (fun s H c cl fp => (hp s H c cl fp).2.1) (fun s H c cl fp => (hp s H c cl fp).2.2) hs) (lc_reading hv1 hv2)
theorem xf_lc {fb : Bool} {α : Type} {xs : List α} {f : α → D} {c : α → Bool} {g : α → D} {Γt : α → En} {own : List (Str × Nat)} {scope : Scope} {elt : Expr} {ifs : List Expr} (C : CxIs R k X N sc) (hi : XI X fb Γ tg iter Γ1 (xs.map f)) (ok : blkC N sc scope own = true)
    (h : ∀ X', BlkX R k N sc scope X X' → ∀ x, x ∈ xs → XG X' (slotsOf own) (Γ1.wipe (slotsOf own)) tg (f x) (Γt x) ∧ XTs X' (Γt x) ifs (Γt x) (c x) ∧ (c x = true → XE X' (Γt x) elt (Γt x) (g x)))
    (hmu : ∀ x, (Γt x).mu = Γ1.mu) (hs : ∀ x, foldedSetIterable iter X.env x = pure x := by intro _; rfl) :
    XF X Γ (.ListComp elt [⟨tg, iter, ifs, 0⟩] scope pos) Γ1 ((xs.filter c).map g) := by
  let pick : Nat → Option α := fun j => xs[j]?
  have key := xf_lcG (pos := pos) (b := fun j => (xs[j]?.map c).getD false) (y := fun j => (xs[j]?.map g).getD .none) (Γt := fun j => (xs[j]?.map Γt).getD Γ1) (Γu := fun j => (xs[j]?.map Γt).getD Γ1) (Γv := fun j => (xs[j]?.map Γt).getD Γ1) (mus := fun _ => Γ1.mu) (Γ1 := Γ1) (ds := xs.map f) C hi ok
    (fun X' B j d hd => by
      rw [List.getElem?_map] at hd
      cases hx : xs[j]? with
      | none => rw [hx] at hd; cases hd
      | some x =>
        rw [hx] at hd
        cases hd
        exact h X' B x (List.mem_of_getElem? hx)) (fun j hj _ => by
      rw [List.length_map] at hj
      simp only [List.getElem?_eq_getElem hj, Option.map_some, Option.getD_some]
      exact hmu _) (fun j hj _ => by
      rw [List.length_map] at hj
      simp only [List.getElem?_eq_getElem hj, Option.map_some, Option.getD_some]
      exact hmu _) hs
  rw [List.length_map, kept_get c g xs _ _ (fun j x hx => by simp [hx])] at key
  exact key
end
end Y
set_option Elab.async false
set_option linter.all false
set_option maxRecDepth 100000
set_option maxHeartbeats 4000000
namespace Y
open PySem PySem.Spec PyProof.Rows L2
structure Xc where
  C : Addr
  fs : List (Str × D)
def XRp (K : PySem.W.Frag) (G : Hp) (x : Xc) (cls : Value) (dd : Option Addr) : Prop := cls = .ref x.C ∧ ((x.fs = [] ∧ dd = none) ∨ ∃ d vs, dd = some d ∧ G d = some (.xd vs) ∧ KvOk K G vs x.fs)
structure Po where
  nx : En → Prop := fun _ => False
  rt : En → D → Prop := fun _ _ => False
  xc : En → Xc → Prop := fun _ _ => False
  bk : En → Prop := fun _ => False
  ct : En → Prop := fun _ => False
structure Kb (K : PySem.W.Frag) (E : WX) (po : Po) (D : Ends) (π : Tag) (H : Hp) : Prop where
  nx : ∀ Γ' σ' π' H', po.nx Γ' → Fix π H π' H' → EnOk K Γ' π' H' σ' → D.nx σ' H'
  rt : ∀ Γ' d v σ' π' H', po.rt Γ' d → Fix π H π' H' → EnOk K Γ' π' H' σ' → Rp K (cut H' π' 0) v d → D.rt v H'
  xc : ∀ Γ' x cls dd σ' π' H', po.xc Γ' x → Fix π H π' H' → EnOk K Γ' π' H' σ' → XRp K (cut H' π' 0) x cls dd → E cls dd σ' H'
  bk : ∀ Γ' σ' π' H', po.bk Γ' → Fix π H π' H' → EnOk K Γ' π' H' σ' → D.bk σ' H'
  ct : ∀ Γ' σ' π' H', po.ct Γ' → Fix π H π' H' → EnOk K Γ' π' H' σ' → D.ct σ' H'
def rB (K : PySem.W.Frag) (E : WX) (Γ : En) (po : Po) : TS := fun D σ H => ∃ π, EnOk K Γ π H σ ∧ Kb K E po D π H
def BS (X : Cx) (E : WX) (Γ : En) (ss : List Stmt) (po : Po) : Prop := PSs X ss (rB X.K E Γ po)
def ST (X : Cx) (E : WX) (Γ : En) (st : Stmt) (po : Po) : Prop := PS X st (rB X.K E Γ po)
theorem Kb.step {K : PySem.W.Frag} {E : WX} {po : Po} {D : Ends} {π π' : Tag} {H H' : Hp} (k : Kb K E po D π H) (s : Fix π H π' H') : Kb K E po D π' H' :=
  ⟨fun a b c d e f g => k.nx a b c d e (s.trans f) g, fun a b c d e f g h i j => k.rt a b c d e f g (s.trans h) i j, fun a b c d e f g h i j l => k.xc a b c d e f g h (s.trans i) j l, fun a b c d e f g => k.bk a b c d e (s.trans f) g, fun a b c d e f g => k.ct a b c d e (s.trans f) g⟩

def lenD (K : PySem.W.Frag) (D : Ends) : Ends := ⟨fun σ H => LenOk K H → D.nx σ H, fun v H => LenOk K H → D.rt v H, fun σ H => LenOk K H → D.bk σ H, fun σ H => LenOk K H → D.ct σ H⟩
theorem SP.len {X : Cx} {pins : List (Addr × Obj)} {D : Ends} {f : Flow} {s' : Shared} (h : SP X pins (lenD X.K D) f s') : SP X pins D f s' := by
  cases f with
  | next => obtain ⟨σ', H', I, q⟩ := h; exact ⟨σ', H', I, q (inv_lens I)⟩
  | brk => obtain ⟨σ', H', I, q⟩ := h; exact ⟨σ', H', I, q (inv_lens I)⟩
  | cont => obtain ⟨σ', H', I, q⟩ := h; exact ⟨σ', H', I, q (inv_lens I)⟩
  | ret u => obtain ⟨v, σ', H', I, r, q⟩ := h; exact ⟨v, σ', H', I, r, q (inv_lens I)⟩
theorem PS.len {X : Cx} {st : Stmt} {t t' : TS} (h : PS X st t) (i : ∀ D σ H, t' D σ H → t (lenD X.K D) σ H) : PS X st t' := ⟨fun pins s σ H D I q => thn (h.run pins s σ H _ I (i D σ H q)) fun _ _ z => SP.len z⟩
theorem PSs.len {X : Cx} {st : List Stmt} {t t' : TS} (h : PSs X st t) (i : ∀ D σ H, t' D σ H → t (lenD X.K D) σ H) : PSs X st t' := ⟨fun pins s σ H D I q => thn (h.run pins s σ H _ I (i D σ H q)) fun _ _ z => SP.len z⟩

section
variable {R : Rw} {k : Nat} {X : Cx} {N : List Str} {sc : Scope} {E : WX} {Γ Γ1 Γ2 Γ3 : En} {po po' : Po} {a b c e tg iter : Expr} {es : List Expr} {pos p : Pos} {st : Stmt} {ss rest : List Stmt}
theorem bs_nil (h : po.nx Γ) : BS X E Γ [] po := PSs.imp pss_nil fun D σ H ⟨π, en, k⟩ => k.nx Γ σ π H h Fix.refl en
theorem bs_cons (h : ST X E Γ st { po with nx := po'.nx }) (hr : ∀ Γ', po'.nx Γ' → BS X E Γ' rest po) : BS X E Γ (st :: rest) po := by
  have hr' : PSs X rest (fun D σ H => ∃ Γ', po'.nx Γ' ∧ rB X.K E Γ' po D σ H) := ⟨fun pins s σ H D I ⟨Γ', hn, q⟩ => (hr Γ' hn).run pins s σ H D I q⟩
  refine PSs.imp (pss_cons h hr') fun D σ H ⟨π, en, kb⟩ => ⟨π, en, ?_⟩
  exact ⟨fun Γ' σ' π' H' hn f e => ⟨Γ', hn, π', e, kb.step f⟩, kb.rt, kb.xc, kb.bk, kb.ct⟩
theorem bs_then (h : ST X E Γ st { po with nx := fun Γ' => Γ' = Γ1 }) (hr : BS X E Γ1 rest po) : BS X E Γ (st :: rest) po := bs_cons (po' := { nx := fun Γ' => Γ' = Γ1 }) h fun Γ' e => by subst e; exact hr
theorem bs_one (h : ST X E Γ st po) : BS X E Γ [st] po := pss_one h
theorem bs_last (h : ST X E Γ st { po with nx := fun _ => False }) : BS X E Γ (st :: rest) po := bs_cons (po' := {}) h fun _ z => z.elim

theorem st_ret {d : D} (h : XE X Γ e Γ1 d) (hr : po.rt Γ1 d) : ST X E Γ (.Return (some e) pos) po := PS.imp (ps_ret h) fun D σ H ⟨π, en, kb⟩ => ⟨π, en, fun v π' H' s e r => kb.rt Γ1 d v σ π' H' hr s.fix e r⟩
theorem st_pass (h : po.nx Γ) : ST X E Γ (.Pass pos) po := PS.imp ps_pass fun D σ H ⟨π, en, k⟩ => k.nx Γ σ π H h Fix.refl en
theorem st_brk (h : po.bk Γ) : ST X E Γ (.Break pos) po := PS.imp ps_break fun D σ H ⟨π, en, k⟩ => k.bk Γ σ π H h Fix.refl en
theorem st_ct (h : po.ct Γ) : ST X E Γ (.Continue pos) po := PS.imp ps_continue fun D σ H ⟨π, en, k⟩ => k.ct Γ σ π H h Fix.refl en
theorem st_expr {d : D} (h : XE X Γ e Γ1 d) (hr : po.nx Γ1) (hs : swapsWith e none pos.line X.env = pure false := by rfl) : ST X E Γ (.Expr e pos) po := PS.imp (ps_expr h hs) fun D σ H ⟨π, en, kb⟩ => ⟨π, en, fun v π' H' s e r => kb.nx Γ1 σ π' H' hr s.fix e⟩
theorem st_if {k : Bool} {sa sb : List Stmt} (h : XT X Γ c Γ1 k) (h1 : k = true → BS X E Γ1 sa po) (h2 : k = false → BS X E Γ1 sb po) : ST X E Γ (.If c sa sb pos) po := by
  cases k with
  | true => exact PS.imp (ps_if h (h1 rfl) pss_never) fun D σ H ⟨π, en, kb⟩ => ⟨π, en, fun π' H' s e => ifT ⟨π', e, kb.step s.fix⟩⟩
  | false => exact PS.imp (ps_if h pss_never (h2 rfl)) fun D σ H ⟨π, en, kb⟩ => ⟨π, en, fun π' H' s e => ifF ⟨π', e, kb.step s.fix⟩⟩
theorem st_asg {js : List Nat} {d : D} (h : XE X Γ e Γ1 d) (hg : XG X js Γ1 tg d Γ2) (hr : po.nx Γ2) (hs : swapsWithSole [tg] e pos.line X.env = pure false := by rfl) (hw : swappedStores [tg] e X.env = pure none := by rfl) (h1 : (assignEach [tg] X.env).map (·.2) = [assign tg X.env] := by rfl) : ST X E Γ (.Assign [tg] e pos) po :=
  PS.imp (ps_asg h hg hs hw h1) fun D σ H ⟨π, en, kb⟩ => ⟨π, en, fun v π' H' s e r => ⟨π', e, r, fun σ' _ _ e' => kb.nx Γ2 σ' π' H' hr s.fix e'⟩⟩
theorem st_set {d : D} {x : Str} (C : CxIs R k X N sc) (i : Nat) (h : XE X Γ e Γ1 d) (hN : N[i]? = some x) (hx : Loc sc x) (hf : X.fn x = true ∨ sc.names.lookup x = some .local) (hr : po.nx (Γ1.setS i (.st d))) (hs : swapsWith e (some (.Name x p)) pos.line X.env = pure false := by rfl) : ST X E Γ (.Assign [.Name x p] e pos) po :=
  PS.imp (ps_set (i := i) (by rw [C.n]; exact C.nd) (by rw [C.n]; exact hN) (by rw [C.sc]; exact hx) h hs (by rw [C.sc]; exact hf)) fun D σ H ⟨π, en, kb⟩ => ⟨π, en, fun v π' H' s e r => kb.nx _ _ π' H' hr s.fix (e.setS r)⟩
theorem EnOk.owned {K : PySem.W.Frag} {π : Tag} {H : Hp} {σ : L2.St} {p : Addr} {xs : List V} {ds : List D} (h : EnOk K Γ π H σ) (tg : π p = 1) (hp : H p = some (.lst xs)) (r : RpAll K (cut H π 0) xs ds) (i : Nat) : EnOk K (Γ.setS i (.lst ds)) (setT π p (i + 3)) H (σ.set i (some (.ref p))) :=
  (h.retag (i + 3) tg).setS ⟨p, xs, rfl, cut_at setT_same hp, r.same (cut_retag (by omega))⟩
theorem fix_retag {π π' : Tag} {H H' : Hp} {p : Addr} {t : Nat} (s : Stp π H π' H') (fr : ∀ o, H p = some o → π p = 2) : Fix π H (setT π' p t) H' := fun a o h n => by
  have h1 := s a o h (by omega)
  refine ⟨h1.1, ?_⟩
  rw [setT_ne (fun z => by have := fr o (by rw [← z]; exact h); rw [z] at n; omega)]
  exact h1.2
theorem st_own {ds : List D} {x : Str} (C : CxIs R k X N sc) (i : Nat) (h : XF X Γ e Γ1 ds) (hN : N[i]? = some x) (hx : Loc sc x) (hf : X.fn x = true ∨ sc.names.lookup x = some .local) (hr : po.nx (Γ1.setS i (.lst ds))) (hs : swapsWith e (some (.Name x p)) pos.line X.env = pure false := by rfl) : ST X E Γ (.Assign [.Name x p] e pos) po :=
  PS.imp (ps_set (i := i) (by rw [C.n]; exact C.nd) (by rw [C.n]; exact hN) (by rw [C.sc]; exact hx) h hs (by rw [C.sc]; exact hf)) fun D σ H ⟨π, en, kb⟩ => ⟨π, en, fun q xs π' H' s e tg hq fr r => kb.nx _ _ (setT π' q (i + 3)) H' hr (fix_retag s fr) (e.owned tg hq r i)⟩

theorem xs_lcG {fb : Bool} {own : List (Str × Nat)} {scope : Scope} {elt : Expr} {ifs : List Expr} {ds : List D} {mus : Nat → Option (Addr × MS)} {b : Nat → Bool} {y : Nat → D} {Γt Γu Γv : Nat → En} {x : Str} {spos : Pos} (C : CxIs R k X N sc) (i : Nat) (hN : N[i]? = some x) (hx : sc.names.lookup x = some .local) (hk : sc.kind = .function) (hl : (p.line == pos.line) = true)
    (hany : (scope.names.any fun (n, k) => n == x && (k == .local || k == .cell)) = false) (hi : XI X fb Γ tg iter ⟨Γ1.sl, mus 0⟩ ds) (ok : blkC N sc scope own = true)
    (h : ∀ X', BlkX R k N sc scope X X' → ∀ j d, ds[j]? = some d → XG X' (slotsOf own) (En.wipe ⟨Γ1.sl, mus j⟩ (slotsOf own)) tg d (Γt j) ∧ XTs X' (Γt j) ifs (Γu j) (b j) ∧ (b j = true → XE X' (Γu j) elt (Γv j) (y j)))
    (hv1 : ∀ k, k < ds.length → b k = true → (Γv k).mu = mus (k + 1)) (hv2 : ∀ k, k < ds.length → b k = false → (Γu k).mu = mus (k + 1)) (hs : ∀ x, foldedSetIterable iter X.env x = pure x := by intro _; rfl) :
    PS X (.Assign [.Name x p] (.ListComp elt [⟨tg, iter, ifs, 0⟩] scope pos) spos) (fun D σ H => ∃ π, EnOk X.K Γ π H σ ∧ KxF X.K ⟨Γ1.sl, mus ds.length⟩ (kept b y ds.length) π H σ (fun v H' => D.nx (σ.set i (some v)) H')) := by
  have hp := lc_parts (own := own) C h
  refine PS.len (ps_setLc (i := i) (own := own) C.calm (by rw [C.n]; exact C.nd) (by rw [C.n]; exact hN) (by rw [C.sc]; exact hx) (sw_true (by rw [C.sc]; exact hk) (by rw [C.sc]; exact hx) hl hany) hi (by rw [C.n, C.sc]; exact blkOk_by ok) (fun s H c cl fp => (hp s H c cl fp).1) (fun s H c cl fp => (hp s H c cl fp).2.1) (fun s H c cl fp => (hp s H c cl fp).2.2) hs) fun D σ H ⟨π, en, kx⟩ => ?_
  exact lc_reading hv1 hv2 σ H π (fun v H' => D.nx (σ.set i (some v)) H') en kx
end
end Y
set_option Elab.async false
set_option linter.all false
set_option maxRecDepth 100000
set_option maxHeartbeats 4000000
namespace Y
open PySem PySem.Spec PyProof.Rows L2
def leL : List (Option Sl) → List (Option Sl) → Prop
  | [], _ => True
  | none :: a, _ :: b => leL a b
  | some s :: a, x :: b => x = some s ∧ leL a b
  | _ :: _, [] => False
structure Le (A B : En) : Prop where
  sl : leL A.sl B.sl
  mu : A.mu = B.mu
theorem leL_at : ∀ {a b : List (Option Sl)}, leL a b → ∀ (i : Nat) (s : Sl), a[i]? = some (some s) → b[i]? = some (some s)
  | [], _, _, i, s, h => by simp at h
  | none :: a, x :: b, h, 0, s, q => by simp at q
  | none :: a, x :: b, h, i + 1, s, q => by
    have := leL_at (a := a) (b := b) h i s (by simpa using q)
    simpa using this
  | some t :: a, x :: b, h, 0, s, q => by
    have e : t = s := by simpa using q
    subst e
    rw [h.1]
    rfl
  | some t :: a, x :: b, h, i + 1, s, q => by
    have := leL_at (a := a) (b := b) h.2 i s (by simpa using q)
    simpa using this
  | none :: _, [], h, _, _, _ => h.elim
  | some _ :: _, [], h, _, _, _ => h.elim
theorem leL_len : ∀ {a b : List (Option Sl)}, leL a b → a.length ≤ b.length
  | [], _, _ => Nat.zero_le _
  | none :: a, x :: b, h => Nat.succ_le_succ (leL_len (a := a) (b := b) h)
  | some t :: a, x :: b, h => Nat.succ_le_succ (leL_len (a := a) (b := b) h.2)
  | none :: _, [], h => h.elim
  | some _ :: _, [], h => h.elim
theorem EnOk.le {K : PySem.W.Frag} {A B : En} {π : Tag} {H : Hp} {σ : L2.St} (h : EnOk K B π H σ) (l : Le A B) : EnOk K A π H σ :=
  ⟨fun i s e => h.at_ i s (leL_at l.sl i s e), by rw [l.mu]; exact h.mu, h.len, Nat.le_trans (leL_len l.sl) h.sl⟩
theorem leL_refl : ∀ a : List (Option Sl), leL a a
  | [] => True.intro
  | none :: a => leL_refl a
  | some _ :: a => ⟨rfl, leL_refl a⟩
theorem Le.refl (A : En) : Le A A := ⟨leL_refl _, rfl⟩

section
variable {R : Rw} {k : Nat} {X : Cx} {N : List Str} {sc : Scope} {E : WX} {Γ Γ1 Γ2 Γ3 : En} {po po' : Po} {a b c e tg iter : Expr} {es : List Expr} {pos p : Pos} {st : Stmt} {ss rest body : List Stmt}
theorem bs_le (l : Le Γ1 Γ) (h : BS X E Γ1 ss po) : BS X E Γ ss po := PSs.imp h fun D σ H ⟨π, en, kb⟩ => ⟨π, en.le l, kb⟩
theorem bs_post (h : BS X E Γ ss po) (h1 : ∀ Γ, po.nx Γ → po'.nx Γ) (h2 : ∀ Γ d, po.rt Γ d → po'.rt Γ d) (h3 : ∀ Γ x, po.xc Γ x → po'.xc Γ x) (h4 : ∀ Γ, po.bk Γ → po'.bk Γ) (h5 : ∀ Γ, po.ct Γ → po'.ct Γ) : BS X E Γ ss po' := PSs.imp h fun D σ H ⟨π, en, kb⟩ =>
  ⟨π, en, fun a b c d e f g => kb.nx a b c d (h1 _ e) f g, fun a b c d e f g h i j => kb.rt a b c d e f (h2 _ _ g) h i j, fun a b c d e f g h i j l => kb.xc a b c d e f g (h3 _ _ h) i j l, fun a b c d e f g => kb.bk a b c d (h4 _ e) f g, fun a b c d e f g => kb.ct a b c d (h5 _ e) f g⟩

theorem st_for {js : List Nat} {ds : List D} (C : CxIs R k X N sc) (hp : PassesOwn (model X.prog X.w) X.A X.env X.xe) (hi : XI X true Γ tg iter Γ1 ds) (Γs : Nat → En) (h0 : Le (Γs 0) Γ1) (Γt : Nat → En) (hg : ∀ j d, ds[j]? = some d → XG X js (Γs j) tg d (Γt j))
    (hb : ∀ j d, ds[j]? = some d → BS X E (Γt j) body { nx := fun Γ' => Le (Γs (j + 1)) Γ', ct := fun Γ' => Le (Γs (j + 1)) Γ', bk := po.nx, rt := po.rt, xc := po.xc }) (hn : po.nx (Γs ds.length))
    (hs : ∀ x, foldedSetIterable iter X.env x = pure x := by intro _; rfl) : ST X E Γ (.For tg iter body [] pos) po := by
  have hg' : PG X tg (fun v σ H Q => ∃ j d, ds[j]? = some d ∧ rG X.K js (Γs j) d (Γt j) v σ H Q) := ⟨fun pins s σ H v u Q I r ⟨j, d, hd, q⟩ => (hg j d hd).run pins s σ H v u Q I r q⟩
  have hb' : PSs X body (fun D σ H => ∃ j d, ds[j]? = some d ∧ rB X.K E (Γt j) { nx := fun Γ' => Le (Γs (j + 1)) Γ', ct := fun Γ' => Le (Γs (j + 1)) Γ', bk := po.nx, rt := po.rt, xc := po.xc } D σ H) := ⟨fun pins s σ H D I ⟨j, d, hd, q⟩ => (hb j d hd).run pins s σ H D I q⟩
  refine PS.imp (ps_for hp C.calm hi hg' hb' hs) fun D σ H ⟨π, en, kb⟩ => ⟨π, en, fun J P π1 H1 s1 e1 it p1 => ?_⟩
  refine ⟨fun i m σ' H' => i + m = ds.length ∧ ∃ π', Fix π1 H1 π' H' ∧ EnOk X.K (Γs i) π' H' σ', ⟨ds.length, by omega, π1, Fix.refl, e1.le h0⟩, ?_⟩
  rintro i m σ' H' ⟨him, π', fx, e'⟩
  have p' := it.clF rfl _ _ _ _ p1 fx
  by_cases hi : i < ds.length
  · obtain ⟨d, hd⟩ : ∃ d, ds[i]? = some d := ⟨ds[i], List.getElem?_eq_getElem hi⟩
    refine .inr ⟨it.go i π' H' hi p' e'.len, fun σ'' H'' => ∃ π'', Fix π1 H1 π'' H'' ∧ EnOk X.K (Γs (i + 1)) π'' H'' σ'', fun σ'' H'' h => ⟨m - 1, by omega, by omega, h⟩, fun x H2 yl => ?_⟩
    obtain ⟨π2, pu, rx, l2⟩ := it.yld i d π' H' x H2 hd p' e'.len yl
    have f2 := fx.trans pu.stp.fix
    have f0 := s1.fix.trans f2
    refine ⟨i, d, hd, π2, e'.pur pu l2, rx, fun σ2 _ _ e2 => ⟨i, d, hd, π2, e2, ?_⟩⟩
    exact ⟨fun Γ' σ3 π3 H3 h f e => ⟨π3, f2.trans f, e.le h⟩, fun a b c d e f g h i j => kb.rt a b c d e f g (f0.trans h) i j, fun a b c d e f g h i j l => kb.xc a b c d e f g h (f0.trans i) j l, fun a b c d e f g => kb.nx a b c d e (f0.trans f) g, fun Γ' σ3 π3 H3 h f e => ⟨π3, f2.trans f, e.le h⟩⟩
  · have hie : i = ds.length := by omega
    subst hie
    exact .inl ⟨it.stop π' H' p', kb.nx _ σ' π' H' hn (s1.fix.trans fx) e'⟩

theorem st_while {α : Type} (hp : PassesOwn (model X.prog X.w) X.A X.env X.xe) (Γs : α → En) (Iv : α → Prop) (cond : α → Bool) (nxt : α → α) (ms : α → Nat) (x0 : α) (i0 : Iv x0) (h0 : Le (Γs x0) Γ) (hc : ∀ x, Iv x → XT X (Γs x) c (Γs x) (cond x))
    (hb : ∀ x, Iv x → cond x = true → BS X E (Γs x) body { nx := fun Γ' => Le (Γs (nxt x)) Γ', ct := fun Γ' => Le (Γs (nxt x)) Γ', bk := po.nx, rt := po.rt, xc := po.xc }) (hm : ∀ x, Iv x → cond x = true → Iv (nxt x) ∧ ms (nxt x) < ms x)
    (hn : ∀ x, Iv x → cond x = false → po.nx (Γs x)) : ST X E Γ (.While c body [] pos) po := by
  have hc' : PT X c (fun σ H Q => ∃ x, Iv x ∧ rT X.K (Γs x) (Γs x) (cond x) σ H Q) := ⟨fun pins s σ H Q I ⟨x, hx, q⟩ => (hc x hx).run pins s σ H Q I q⟩
  have hb' : PSs X body (fun D σ H => ∃ x, Iv x ∧ cond x = true ∧ rB X.K E (Γs x) { nx := fun Γ' => Le (Γs (nxt x)) Γ', ct := fun Γ' => Le (Γs (nxt x)) Γ', bk := po.nx, rt := po.rt, xc := po.xc } D σ H) := ⟨fun pins s σ H D I ⟨x, hx, hq, q⟩ => (hb x hx hq).run pins s σ H D I q⟩
  refine PS.imp (ps_while hp hc' hb') fun D σ H ⟨π, en, kb⟩ => ?_
  refine ⟨fun m σ' H' => ∃ x π', Iv x ∧ ms x = m ∧ Fix π H π' H' ∧ EnOk X.K (Γs x) π' H' σ', ⟨ms x0, x0, π, i0, rfl, Fix.refl, en.le h0⟩, ?_⟩
  rintro m σ' H' ⟨x, π', hx, rfl, fx, e'⟩
  refine ⟨x, hx, π', e', fun π2 H2 s2 e2 => ?_⟩
  have f2 := fx.trans s2.fix
  cases hq : cond x with
  | true =>
    refine ifT ⟨fun σ'' H'' => ∃ π'', Fix π H π'' H'' ∧ EnOk X.K (Γs (nxt x)) π'' H'' σ'', fun σ'' H'' ⟨π'', f, e⟩ => ⟨ms (nxt x), (hm x hx hq).2, nxt x, π'', (hm x hx hq).1, rfl, f, e⟩, x, hx, hq, π2, e2, ?_⟩
    exact ⟨fun Γ' σ3 π3 H3 h f e => ⟨π3, f2.trans f, e.le h⟩, fun a b c d e f g h i j => kb.rt a b c d e f g (f2.trans h) i j, fun a b c d e f g h i j l => kb.xc a b c d e f g h (f2.trans i) j l, fun a b c d e f g => kb.nx a b c d e (f2.trans f) g, fun Γ' σ3 π3 H3 h f e => ⟨π3, f2.trans f, e.le h⟩⟩
  | false => exact ifF (kb.nx _ σ' π2 H2 (hn x hx hq) f2 e2)
end
end Y
set_option Elab.async false
set_option linter.all false
set_option maxRecDepth 100000
set_option maxHeartbeats 4000000
namespace Y
open PySem PySem.Spec PyProof.Rows L2
section
variable {R : Rw} {k : Nat} {X : Cx} {N : List Str} {sc : Scope} {E : WX} {Γ Γ1 Γ2 Γ3 : En} {po po' : Po} {a b c e tg iter : Expr} {es : List Expr} {pos p apos npos : Pos} {st : Stmt} {ss rest body : List Stmt}
theorem EnOk.put {K : PySem.W.Frag} {π : Tag} {H : Hp} {σ : L2.St} {q : Addr} {i : Nat} {o : HO} {s' : Sl} (h : EnOk K Γ π H σ) (hv : σ[i]? = some (some (.ref q))) (hq : π q = i + 3) (r : ∀ G O, Same (cut H π 0) G → O q = some o → SlOk K s' (.ref q) G O) (l : LenOk K (upd H q o)) : EnOk K (Γ.setS i s') π (upd H q o) σ := by
  have n : ∀ t, t ≠ i + 3 → Same (cut H π t) (cut (upd H q o) π t) := fun t ht => cut_same fun a u e z => ⟨by rw [upd_ne (fun w => ht (by rw [← e, w]; exact hq))]; exact z, e⟩
  refine ⟨fun j t e => ?_, h.mu.same (n 0 (by omega)) (n 2 (by omega)), l, by show (Γ.sl.set i (some s')).length ≤ σ.length; rw [List.length_set]; exact h.sl⟩
  have e' : (Γ.sl.set i (some s'))[j]? = some (some t) := e
  by_cases hj : i = j
  · subst hj
    have hl : i < Γ.sl.length := by
      obtain ⟨z, _⟩ := List.getElem?_eq_some_iff.mp e'
      simpa using z
    rw [List.getElem?_set_self hl] at e'
    cases e'
    exact ⟨_, hv, r _ _ (n 0 (by omega)) (cut_at hq upd_same)⟩
  · rw [List.getElem?_set_ne hj] at e'
    obtain ⟨v, h1, h2⟩ := h.at_ j t e'
    exact ⟨v, h1, h2.same (n 0 (by omega)) (n (j + 3) (by omega))⟩
theorem fix_put {π : Tag} {H : Hp} {q : Addr} {o : HO} {i : Nat} (hq : π q = i + 3) : Fix π H π (upd H q o) := fun a u h n => ⟨by rw [upd_ne (fun z => by rw [z] at n; omega)]; exact h, rfl⟩
theorem EnOk.lstAt {K : PySem.W.Frag} {π : Tag} {H : Hp} {σ : L2.St} {i : Nat} {ds : List D} {v : V} (h : EnOk K Γ π H σ) (hΓ : Γ.sl[i]? = some (some (.lst ds))) (hv : σ[i]? = some (some v)) : ∃ q xs, v = .ref q ∧ π q = i + 3 ∧ H q = some (.lst xs) ∧ RpAll K (cut H π 0) xs ds := by
  obtain ⟨w, h1, q, xs, h2, h3, h4⟩ := h.at_ i _ hΓ
  rw [hv] at h1
  cases h1
  exact ⟨q, xs, h2, (cut_some h3).1, (cut_some h3).2, h4⟩
theorem pe_own (C : CxIs R k X N sc) (i : Nat) {x : Str} {ds : List D} (hΓ : Γ.sl[i]? = some (some (.lst ds))) (hN : N[i]? = some x) (hv : Vis sc x) (hd : (x == ("__debug__" : Str)) = false) (hcd : (x == ("__classdict__" : Str)) = false) :
    PE X (.Name x pos) (fun σ H Q => ∃ π, EnOk X.K Γ π H σ ∧ ∀ q xs, σ[i]? = some (some (.ref q)) → H q = some (.lst xs) → Q (.ref q) H) := ⟨fun pins s σ H Q I ⟨π, en, z⟩ => by
  obtain ⟨w, h1, q, xs, h2, h3, h4⟩ := en.at_ i _ hΓ
  subst h2
  exact (pe_var (i := i) (by rw [C.n]; exact hN) (C.vis hv) hd hcd).run pins s σ H Q I ⟨_, h1, z q xs h1 (cut_some h3).2⟩⟩
theorem st_append (C : CxIs R k X N sc) (i : Nat) {x : Str} {ds : List D} {d : D} (hΓ : Γ.sl[i]? = some (some (.lst ds))) (hΓ1 : Γ1.sl[i]? = some (some (.lst ds))) (hN : N[i]? = some x) (hv : Vis sc x) (h : XE X Γ e Γ1 d) (hl : ds.length < 100000) (hr : po.nx (Γ1.setS i (.lst (ds ++ [d]))))
    (hd : (x == ("__debug__" : Str)) = false := by decide) (hcd : (x == ("__classdict__" : Str)) = false := by decide) (hs : starEach [e] X.env = (false, eval e X.env) :: starEach [] X.env := by rfl) (hsw : swapsWith (.Call (.Attribute (.Name x npos) "append" apos) [e] [] p) none pos.line X.env = pure false := by rfl)
    (hbase : attributeBase (.Name x npos) "append" X.env (eval (.Name x npos) X.env) = eval (.Name x npos) X.env := by rfl)
    (hfew : ((backTo p (starEach [e] X.env)).all (fun x => !x.1) && (backToKw p (keywordEach [] X.env)).all (fun x => x.1.isSome) && decide (([e] : List Expr).length + ([] : List Keyword).length + (if ([] : List Keyword).isEmpty then 0 else 1) < 30)) = true := by rfl)
    (hline : (apos.endLine == p.line) = true := by rfl) : ST X E Γ (.Expr (.Call (.Attribute (.Name x npos) "append" apos) [e] [] p) pos) po := by
  refine PS.len (ps_expr (pe_bm PySem.F.plainAttrs_list PySem.F.slot_list_append PySem.F.type_list_append mt_append (pe_own C i hΓ hN hv hd hcd) (xa_cons h xa_nil hs) hbase hfew hline hs) hsw) fun D σ H ⟨π, en, kb⟩ => ?_
  refine ⟨π, en, fun q xs hσ hq => ⟨.inl ⟨rfl, xs, SqL.of hq⟩, π, en, fun vs π1 H1 s1 e1 r1 => ?_⟩⟩
  cases r1 with
  | cons r1 r2 =>
    cases r2
    obtain ⟨q', xs', h1, h2, h3, h4⟩ := e1.lstAt hΓ1 hσ
    cases h1
    have hlen : xs'.length < 100000 := by rw [h4.length]; exact hl
    refine ⟨q, xs', _, rfl, rfl, h3, Nat.lt_of_lt_of_le hlen (by decide), fun l => kb.nx _ σ π1 _ hr (s1.fix.trans (fix_put h2)) (e1.put hσ h2 (fun G O sm ho => ⟨q, _, rfl, ho, (h4.same sm).append (.cons (r1.same sm) .nil)⟩) l)⟩
theorem st_extend (C : CxIs R k X N sc) (i : Nat) {x : Str} {ds d : List D} (hΓ : Γ.sl[i]? = some (some (.lst ds))) (hΓ1 : Γ1.sl[i]? = some (some (.lst ds))) (hN : N[i]? = some x) (hv : Vis sc x) (h : XE X Γ e Γ1 (.list d)) (hl : ds.length + d.length ≤ 100000) (hr : po.nx (Γ1.setS i (.lst (ds ++ d))))
    (hd : (x == ("__debug__" : Str)) = false := by decide) (hcd : (x == ("__classdict__" : Str)) = false := by decide) (hs : starEach [e] X.env = (false, eval e X.env) :: starEach [] X.env := by rfl) (hsw : swapsWith (.Call (.Attribute (.Name x npos) "extend" apos) [e] [] p) none pos.line X.env = pure false := by rfl)
    (hbase : attributeBase (.Name x npos) "extend" X.env (eval (.Name x npos) X.env) = eval (.Name x npos) X.env := by rfl)
    (hfew : ((backTo p (starEach [e] X.env)).all (fun x => !x.1) && (backToKw p (keywordEach [] X.env)).all (fun x => x.1.isSome) && decide (([e] : List Expr).length + ([] : List Keyword).length + (if ([] : List Keyword).isEmpty then 0 else 1) < 30)) = true := by rfl)
    (hline : (apos.endLine == p.line) = true := by rfl) : ST X E Γ (.Expr (.Call (.Attribute (.Name x npos) "extend" apos) [e] [] p) pos) po := by
  refine PS.len (ps_expr (pe_bm PySem.F.plainAttrs_list PySem.F.slot_list_extend PySem.F.type_list_extend mt_extend (pe_own C i hΓ hN hv hd hcd) (xa_cons h xa_nil hs) hbase hfew hline hs) hsw) fun D σ H ⟨π, en, kb⟩ => ?_
  refine ⟨π, en, fun q xs hσ hq => ⟨.inl ⟨rfl, xs, SqL.of hq⟩, π, en, fun vs π1 H1 s1 e1 r1 => ?_⟩⟩
  cases r1 with
  | cons r1 r2 =>
    cases r2
    obtain ⟨q', xs', h1, h2, h3, h4⟩ := e1.lstAt hΓ1 hσ
    cases h1
    cases r1 with
    | lst a b =>
      refine ⟨q, _, xs', _, rfl, rfl, h3, cut_sub _ _ a, by rw [h4.length, b.length]; exact size100 hl, fun l => kb.nx _ σ π1 _ hr (s1.fix.trans (fix_put h2)) (e1.put hσ h2 (fun G O sm ho => ⟨q, _, rfl, ho, (h4.same sm).append (b.same sm)⟩) l)⟩
theorem st_retOwn (C : CxIs R k X N sc) (i : Nat) {x : Str} {ds : List D} (hΓ : Γ.sl[i]? = some (some (.lst ds))) (hN : N[i]? = some x) (hv : Vis sc x) (hr : po.rt (Γ.del i) (.list ds)) (hd : (x == ("__debug__" : Str)) = false := by decide) (hcd : (x == ("__classdict__" : Str)) = false := by decide) :
    ST X E Γ (.Return (some (.Name x npos)) pos) po := by
  refine PS.imp (ps_ret (pe_own C i hΓ hN hv hd hcd)) fun D σ H ⟨π, en, kb⟩ => ⟨π, en, fun q xs hσ hq => ?_⟩
  obtain ⟨q', xs', h1, h2, h3, h4⟩ := en.lstAt hΓ hσ
  cases h1
  have e1 := en.del i none
  refine kb.rt _ _ (.ref q) (σ.set i none) (setT π q 0) H hr (fun a o h n => ⟨h, setT_ne (fun z => by rw [z] at n; omega)⟩) ⟨fun j t e => ?_, e1.mu.same (cut_retag (by omega)) (cut_retag (by omega)), e1.len, e1.sl⟩ (.lst (cut_at setT_same h3) (h4.same (cut_retag (by omega))))
  obtain ⟨v, g1, g2⟩ := e1.at_ j t e
  have hj : i ≠ j := fun z => by
    subst z
    have e' : (Γ.sl.set i none)[i]? = some (some t) := e
    by_cases hl : i < Γ.sl.length
    · rw [List.getElem?_set_self hl] at e'; cases e'
    · rw [List.getElem?_eq_none (by rw [List.length_set]; omega)] at e'; cases e'
  exact ⟨v, g1, g2.same (cut_retag (by omega)) (cut_retag (by omega))⟩
theorem bs_pub (i : Nat) {ds : List D} (hΓ : Γ.sl[i]? = some (some (.lst ds))) (h : BS X E (Γ.setS i (.st (.list ds))) ss po) : BS X E Γ ss po := PSs.imp h fun D σ H ⟨π, en, kb⟩ => by
  obtain ⟨w, hσ, _⟩ := en.at_ i _ hΓ
  obtain ⟨q, xs, rfl, h2, h3, h4⟩ := en.lstAt hΓ hσ
  refine ⟨setT π q 0, ⟨fun j t e => ?_, en.mu.same (cut_retag (by omega)) (cut_retag (by omega)), en.len, by show (Γ.sl.set i _).length ≤ σ.length; rw [List.length_set]; exact en.sl⟩, kb.step fun a o h n => ⟨h, setT_ne (fun z => by rw [z] at n; omega)⟩⟩
  have e' : (Γ.sl.set i (some (.st (.list ds))))[j]? = some (some t) := e
  by_cases hj : i = j
  · subst hj
    have hl : i < Γ.sl.length := by
      obtain ⟨z, _⟩ := List.getElem?_eq_some_iff.mp e'
      simpa using z
    rw [List.getElem?_set_self hl] at e'
    cases e'
    exact ⟨_, hσ, .lst (cut_at setT_same h3) (h4.same (cut_retag (by omega)))⟩
  · rw [List.getElem?_set_ne hj] at e'
    obtain ⟨v, g1, g2⟩ := en.at_ j t e'
    exact ⟨v, g1, g2.same (cut_retag (by omega)) (cut_retag (by omega))⟩

def pubS : Option Sl → Option Sl
  | some (.lst ds) => some (.st (.list ds))
  | s => s
def En.pub (Γ : En) : En := ⟨Γ.sl.map pubS, Γ.mu⟩
inductive Scal : D → Prop
  | non : Scal .none
  | bl (b : Bool) : Scal (.bool b)
  | int (i : Int) : Scal (.int i)
  | str (s : Str) : Scal (.str s)
theorem Scal.any {K : PySem.W.Frag} {G G' : Hp} {v : V} {d : D} (h : Scal d) (r : Rp K G v d) : Rp K G' v d := by
  cases h with
  | non => cases r; exact .non
  | bl b => cases r; exact .bl b
  | int i => cases r; exact .int i
  | str s => cases r; exact .str s
open Classical in
noncomputable def pubT (Γ : En) (σ : L2.St) (π : Tag) : Tag := fun a => if (∃ i ds, Γ.sl[i]? = some (some (Sl.lst ds)) ∧ π a = i + 3) then 0 else π a
theorem pubT_keep {σ : L2.St} {π : Tag} {a : Addr} (h : π a < 3) : pubT Γ σ π a = π a := by
  unfold pubT
  rw [if_neg]
  rintro ⟨i, ds, _, e⟩
  omega
theorem pubT_or {σ : L2.St} {π : Tag} {a : Addr} : pubT Γ σ π a = π a ∨ (pubT Γ σ π a = 0 ∧ 3 ≤ π a) := by
  unfold pubT
  by_cases h : ∃ i ds, Γ.sl[i]? = some (some (Sl.lst ds)) ∧ π a = i + 3
  · rw [if_pos h]
    obtain ⟨i, _, _, e⟩ := h
    exact .inr ⟨rfl, by omega⟩
  · rw [if_neg h]
    exact .inl rfl
theorem pub_zero {σ : L2.St} {π : Tag} {H : Hp} : Same (cut H π 0) (cut H (pubT Γ σ π) 0) := cut_same fun a o e h => ⟨h, (pubT_keep (by omega)).trans e⟩
theorem EnOk.pub {K : PySem.W.Frag} {π : Tag} {H : Hp} {σ : L2.St} (h : EnOk K Γ π H σ) : EnOk K Γ.pub (pubT Γ σ π) H σ := by
  refine ⟨fun j t e => ?_, h.mu.same pub_zero (cut_same fun a o e h => ⟨h, (pubT_keep (by omega)).trans e⟩), h.len, by show (Γ.sl.map pubS).length ≤ _; rw [List.length_map]; exact h.sl⟩
  have e' : (Γ.sl.map pubS)[j]? = some (some t) := e
  rw [List.getElem?_map] at e'
  cases hs : Γ.sl[j]? with
  | none => rw [hs] at e'; cases e'
  | some os =>
    rw [hs] at e'
    have e2 : pubS os = some t := Option.some.inj e'
    cases os with
    | none => cases e2
    | some s =>
      obtain ⟨v, h1, h2⟩ := h.at_ j s hs
      refine ⟨v, h1, ?_⟩
      cases s with
      | lst ds =>
        cases e2
        obtain ⟨q, xs, rfl, g1, g2⟩ := h2
        obtain ⟨g3, g4⟩ := cut_some g1
        refine .lst (cut_at ?_ g4) (g2.same pub_zero)
        unfold pubT
        rw [if_pos ⟨j, ds, hs, g3⟩]
      | st d => cases e2; exact Rp.same h2 pub_zero
      | dK ds =>
        cases e2
        refine SlOk.same (s := .dK ds) h2 pub_zero (cut_same fun a o e z => ⟨z, ?_⟩)
        unfold pubT
        rw [if_neg]; exact e
        rintro ⟨i, ds', hi, e3⟩
        have : i = j := by omega
        subst this
        rw [hs] at hi
        cases hi
      | dT ds =>
        cases e2
        refine SlOk.same (s := .dT ds) h2 pub_zero (cut_same fun a o e z => ⟨z, ?_⟩)
        unfold pubT
        rw [if_neg]; exact e
        rintro ⟨i, ds', hi, e3⟩
        have : i = j := by omega
        subst this
        rw [hs] at hi
        cases hi
      | own o =>
        cases e2
        refine SlOk.same (s := .own o) h2 pub_zero (cut_same fun a o e z => ⟨z, ?_⟩)
        unfold pubT
        rw [if_neg]; exact e
        rintro ⟨i, ds', hi, e3⟩
        have : i = j := by omega
        subst this
        rw [hs] at hi
        cases hi
def cOf (mu : Option (Addr × MS)) : Option Addr := mu.map (·.2.c)
theorem pub_back {K : PySem.W.Frag} {π π1 : Tag} {H H1 : Hp} {σ : L2.St} {Γ' : En} (en : EnOk K Γ π H σ) (s1 : Stp (pubT Γ σ π) H π1 H1) (e1 : EnOk K Γ' π1 H1 σ) (hc : cOf Γ'.mu = cOf Γ.mu) :
    ∃ π2, Stp π H π2 H1 ∧ EnOk K ⟨Γ.sl, Γ'.mu⟩ π2 H1 σ := by
  have hne : ∀ a, π a ≠ 2 → pubT Γ σ π a ≠ 2 := fun a h => by rcases pubT_or (Γ := Γ) (σ := σ) (π := π) (a := a) with z | ⟨z, _⟩ <;> omega
  refine ⟨fun a => open Classical in if (H a).isSome ∧ π a ≠ 2 then π a else π1 a, fun a o h n => ⟨(s1 a o h (hne a n)).1, if_pos ⟨by rw [h]; rfl, n⟩⟩, ?_⟩
  have sm : ∀ t, t ≠ 2 → Same (cut H π t) (cut H1 (fun a => open Classical in if (H a).isSome ∧ π a ≠ 2 then π a else π1 a) t) := fun t ht => cut_same fun a o e h => ⟨(s1 a o h (hne a (by omega))).1, by rw [if_pos ⟨by rw [h]; rfl, by omega⟩]; exact e⟩
  have sm2 : Same (cut H1 π1 2) (cut H1 (fun a => open Classical in if (H a).isSome ∧ π a ≠ 2 then π a else π1 a) 2) := cut_same fun a o e h => ⟨h, by
    by_cases hc : (H a).isSome ∧ π a ≠ 2
    · exfalso
      obtain ⟨o', ho'⟩ := Option.isSome_iff_exists.mp hc.1
      have := (s1 a o' ho' (hne a hc.2)).2
      exact hne a hc.2 (this.symm.trans e)
    · rw [if_neg hc]; exact e⟩
  refine ⟨fun j t e => let ⟨v, h1, h2⟩ := en.at_ j t e; ⟨v, h1, h2.same (sm 0 (by omega)) (sm (j + 3) (by omega))⟩, ?_, e1.len, en.sl⟩
  have m0 := en.mu
  have m1 := e1.mu
  show MuOk Γ'.mu _ _
  revert m0 m1 hc
  cases Γ'.mu with
  | none => intro _ _ _; trivial
  | some am' =>
    cases Γ.mu with
    | none => intro z; cases z
    | some am =>
      intro z m0 m1
      have z' : am'.2.c = am.2.c := Option.some.inj z
      obtain ⟨a1, b1, d1⟩ := m1
      obtain ⟨a0, b0, d0⟩ := m0
      refine ⟨sm2 _ _ a1, ?_, sm2 _ _ d1⟩
      obtain ⟨b2, b3⟩ := cut_some b1
      obtain ⟨b4, b5⟩ := cut_some (sm 0 (by omega) _ _ b0)
      rw [z'] at b3 ⊢
      exact cut_at b4 b3
theorem xe_scal {d : D} (h : XE X Γ.pub e Γ1 d) (hd : Scal d) (hc : cOf Γ1.mu = cOf Γ.mu := by rfl) : XE X Γ e ⟨Γ.sl, Γ1.mu⟩ d := ⟨fun pins s σ H Q I ⟨π, en, kx⟩ => h.run pins s σ H Q I ⟨pubT Γ σ π, en.pub, fun v π1 H1 s1 e1 r1 => by
  obtain ⟨π2, s2, e2⟩ := pub_back en s1 e1 hc
  exact kx v π2 H1 s2 e2 (hd.any r1)⟩⟩
theorem xt_scal {b : Bool} (h : XT X Γ.pub e Γ1 b) (hc : cOf Γ1.mu = cOf Γ.mu := by rfl) : XT X Γ e ⟨Γ.sl, Γ1.mu⟩ b := ⟨fun pins s σ H Q I ⟨π, en, kx⟩ => h.run pins s σ H Q I ⟨pubT Γ σ π, en.pub, fun π1 H1 s1 e1 => by
  obtain ⟨π2, s2, e2⟩ := pub_back en s1 e1 hc
  exact kx π2 H1 s2 e2⟩⟩
theorem xb_scal {b : Bool} (h : XB X Γ.pub e Γ1 b) (hc : cOf Γ1.mu = cOf Γ.mu := by rfl) : XB X Γ e ⟨Γ.sl, Γ1.mu⟩ b := ⟨xe_scal h.e (.bl b) hc, xt_scal h.t hc⟩
end
end Y
set_option Elab.async false
set_option linter.all false
set_option maxRecDepth 100000
set_option maxHeartbeats 4000000
namespace Y
open PySem PySem.Spec PyProof.Rows L2
inductive Res where
  | ret (d : D)
  | exc (x : Xc)
abbrev Mu := Option (Addr × MS)
abbrev Out := Mu → Res → Prop
def one (mu' : Mu) (r : Res) : Out := fun m q => m = mu' ∧ q = r
abbrev SpcG := Mu → List D → Out → Prop
abbrev Spc := Mu → List D → Mu → Res → Prop
def det (S : Spc) : SpcG := fun mu ds P => ∃ mu' r, S mu ds mu' r ∧ P = one mu' r
def SpD (K : PySem.W.Frag) (S : SpcG) : Sp := fun vs H Q E => ∃ π ds mu P, S mu ds P ∧ RpAll K (cut H π 0) vs ds ∧ MuOk mu (cut H π 0) (cut H π 2) ∧ LenOk K H ∧
  (∀ mu' d, P mu' (.ret d) → ∀ v π' H', Stp π H π' H' → MuOk mu' (cut H' π' 0) (cut H' π' 2) → LenOk K H' → Rp K (cut H' π' 0) v d → Q v H') ∧
  (∀ mu' x, P mu' (.exc x) → ∀ cls dd π' H', Stp π H π' H' → MuOk mu' (cut H' π' 0) (cut H' π' 2) → LenOk K H' → XRp K (cut H' π' 0) x cls dd → E cls dd H')
structure DefG (R : Rw) (x : Str) (k : Nat) (S : SpcG) : Prop where
  ex : ∃ f fd ps, FnOk R.P R.w R.K R.mg R.base (L2.CX R.P R.w) k f fd ps (SpD R.K S) ∧ R.mg x = some (.ref f) ∧ PySem.W.keepIn R.K (.ref f) = true ∧ Binds R.K fd ps []
abbrev Def (R : Rw) (x : Str) (k : Nat) (S : Spc) : Prop := DefG R x k (det S)
structure MethG (R : Rw) (C : Addr) (m : Str) (k : Nat) (S : SpcG) : Prop where
  ex : ∃ f fd ps, FnOk R.P R.w R.K R.mg R.base (L2.CX R.P R.w) k f fd ps (SpD R.K S) ∧ PySem.W.findIn R.K (.ref C) m = some (some (.ref f)) ∧ PySem.W.isFn R.K (.ref f) = true ∧ PySem.W.keepIn R.K (.ref f) = true ∧ Binds R.K fd ps []
abbrev MethD (R : Rw) (C : Addr) (m : Str) (k : Nat) (S : Spc) : Prop := MethG R C m k (det S)
theorem DefG.mono {R : Rw} {x : Str} {j k : Nat} {S : SpcG} (h : DefG R x j S) (l : j ≤ k) : DefG R x k S :=
  let ⟨f, fd, ps, F, m, kp, b⟩ := h.ex; ⟨f, fd, ps, F.mono l, m, kp, b⟩
theorem DefG.imp {R : Rw} {x : Str} {k : Nat} {S S' : SpcG} (h : DefG R x k S) (i : ∀ mu ds P, S' mu ds P → S mu ds P) : DefG R x k S' :=
  let ⟨f, fd, ps, F, m, kp, b⟩ := h.ex
  ⟨f, fd, ps, F.imp fun vs H Q E ⟨π, ds, mu, P, hS, q⟩ => ⟨π, ds, mu, P, i _ _ _ hS, q⟩, m, kp, b⟩

theorem XRp.same {K : PySem.W.Frag} {G G' : Hp} {x : Xc} {cls : Value} {dd : Option Addr} (h : XRp K G x cls dd) (e : Same G G') : XRp K G' x cls dd := by
  obtain ⟨h1, h2⟩ := h
  refine ⟨h1, ?_⟩
  rcases h2 with h2 | ⟨d, vs, a, b, c⟩
  · exact .inl h2
  · exact .inr ⟨d, vs, a, e _ _ b, c.same e⟩

section
variable {R : Rw} {k j : Nat} {X : Cx} {N : List Str} {sc : Scope} {E : WX} {Γ Γ1 Γ2 Γ3 : En} {a b c e tg iter : Expr} {es : List Expr} {pos p : Pos}
theorem EnOk.stp {K : PySem.W.Frag} {Γ : En} {π π' : Tag} {H H' : Hp} {σ : L2.St} {mu' : Mu} (h : EnOk K Γ π H σ) (s : Stp π H π' H') (m : MuOk mu' (cut H' π' 0) (cut H' π' 2)) (l : LenOk K H') : EnOk K ⟨Γ.sl, mu'⟩ π' H' σ :=
  ⟨fun i s' e => let ⟨v, h1, h2⟩ := h.at_ i s' e; ⟨v, h1, h2.same s.zero (s.part (by omega))⟩, m, l, h.sl⟩
theorem passNo {CXn : CXT} (h : ∀ outer H s e s', ¬ CXn outer H s (fun _ _ _ => False) e s') : Passes CXn X (fun _ _ _ => False) := fun _ _ _ _ _ _ _ c => (h _ _ _ _ _ c).elim
theorem cx_no {P : Program} {w : World} {outer : List Env} {H : Hp} {s : Shared} {e : Value} {s' : Shared} : ¬ L2.CX P w outer H s (fun _ _ _ => False) e s' := fun ⟨_, _, _, _, _, _, _, _, _, _, _, _, z⟩ => z
theorem xe_call {x : Str} {S : Spc} {ds : List D} {mu' : Mu} {d : D} (C : CxIs R k X N sc) (F : Def R x j S) (hj : j ≤ k) (hg : IsGl sc x) (ha : XA X Γ (e :: es) Γ1 ds) (hS : S Γ1.mu ds mu' (.ret d)) (hdb : (x == ("__debug__" : Str)) = false := by decide)
    (he : starEach (e :: es) X.env = (false, eval e X.env) :: starEach es X.env := by rfl) (hpl : (backTo pos (starEach es X.env)).any (·.1) = false := by rfl) : XE X Γ (.Call (.Name x p) (e :: es) [] pos) ⟨Γ1.sl, mu'⟩ d := by
  obtain ⟨f, fd, ps, F, hm, kp, hb⟩ := F.ex
  have F' : FnOk X.prog X.w X.K X.mg X.base (L2.CX X.prog X.w) j f fd ps (SpD X.K (det S)) := by rw [C.P, C.w, C.K, C.mg, C.base]; exact F
  refine xe_of (pe_call F' (C.room.mono hj) (C.gl hg) (by rw [C.mg]; exact hm) (by rw [C.K]; exact kp) (by rw [C.K]; exact hb) .nil (passNo (X := X) fun _ _ _ _ _ => cx_no) ha hdb he hpl) fun σ H π Q en kx => ?_
  refine ⟨π, en, fun vs π1 H1 s1 e1 r1 => ?_⟩
  show SpD X.K (det S) (vs ++ []) H1 _ _
  rw [List.append_nil]
  exact ⟨π1, ds, Γ1.mu, _, ⟨mu', .ret d, hS, rfl⟩, r1, e1.mu, e1.len, fun _ _ ⟨h1, h2⟩ v π' H' s m l r _ => by cases h1; cases h2; exact kx v π' H' (s1.trans s) (e1.stp s m l) r, fun _ _ ⟨_, h2⟩ => nomatch h2⟩
theorem xe_call0 {x : Str} {S : Spc} {mu' : Mu} {d : D} (C : CxIs R k X N sc) (F : Def R x j S) (hj : j ≤ k) (hg : IsGl sc x) (hS : S Γ.mu [] mu' (.ret d)) (hdb : (x == ("__debug__" : Str)) = false := by decide) : XE X Γ (.Call (.Name x p) [] [] pos) ⟨Γ.sl, mu'⟩ d := by
  obtain ⟨f, fd, ps, F, hm, kp, hb⟩ := F.ex
  have F' : FnOk X.prog X.w X.K X.mg X.base (L2.CX X.prog X.w) j f fd ps (SpD X.K (det S)) := by rw [C.P, C.w, C.K, C.mg, C.base]; exact F
  refine xe_of (pe_call0 F' (C.room.mono hj) (C.gl hg) (by rw [C.mg]; exact hm) (by rw [C.K]; exact kp) (by rw [C.K]; exact hb) .nil (passNo (X := X) fun _ _ _ _ _ => cx_no) hdb) fun σ H π Q en kx => ?_
  exact ⟨π, [], Γ.mu, _, ⟨mu', .ret d, hS, rfl⟩, .nil, en.mu, en.len, fun _ _ ⟨h1, h2⟩ v π' H' s m l r _ => by cases h1; cases h2; exact kx v π' H' s (en.stp s m l) r, fun _ _ ⟨_, h2⟩ => nomatch h2⟩

structure FCx (R : Rw) (k : Nat) (X : Cx) (N : List Str) (sc : Scope) (E : WX) : Prop extends CxIs R k X N sc where
  hp : PassesOwn (model X.prog X.w) X.A X.env X.xe
  tk : Takes X E
  fn : X.fn = fun _ => true
def En.start (n : Nat) (ds : List D) (mu : Mu) : En := ⟨ds.map (fun d => some (.st d)) ++ List.replicate (n - ds.length) none, mu⟩
theorem start_ok {K : PySem.W.Frag} {π : Tag} {H : Hp} {vs : List V} {ds : List D} {mu : Mu} (r : RpAll K (cut H π 0) vs ds) (m : MuOk mu (cut H π 0) (cut H π 2)) (l : LenOk K H) : EnOk K (En.start N.length ds mu) π H (L2.start N vs) := by
  refine ⟨fun i s e => ?_, m, l, ?_⟩
  · have e' : (ds.map (fun d => some (Sl.st d)) ++ List.replicate (N.length - ds.length) none)[i]? = some (some s) := e
    by_cases hi : i < ds.length
    · rw [List.getElem?_append_left (by simpa using hi), List.getElem?_map, List.getElem?_eq_getElem hi] at e'
      cases e'
      obtain ⟨v, h1, h2⟩ := r.get (List.getElem?_eq_getElem hi)
      refine ⟨v, ?_, h2⟩
      have hlt : i < vs.length := by rw [r.length]; exact hi
      unfold L2.start
      rw [List.getElem?_append_left (by simpa using hlt), List.getElem?_map, h1]
      rfl
    · rw [List.getElem?_append_right (by simpa using hi), List.getElem?_replicate] at e'
      split at e' <;> cases e'
  · show (ds.map (fun d => some (Sl.st d)) ++ List.replicate (N.length - ds.length) none).length ≤ (L2.start N vs).length
    unfold L2.start
    have := r.length
    simp
    omega
def calT (π : Tag) : Tag := fun a => if π a = 0 then 0 else if π a = 2 then 2 else 1
theorem calT_0 {π : Tag} {a : Addr} : calT π a = 0 ↔ π a = 0 := by
  unfold calT
  split
  · simp_all
  · split
    · simp_all
    · simp_all
theorem calT_2 {π : Tag} {a : Addr} : calT π a = 2 ↔ π a = 2 := by
  unfold calT
  split
  · constructor
    · intro z; omega
    · intro z; omega
  · split
    · simp_all
    · constructor
      · intro z; omega
      · intro z; omega
theorem calT_le {π : Tag} {a : Addr} (h : π a ≠ 2) : calT π a ≤ 1 := by
  unfold calT
  rw [if_neg h]
  split <;> omega
theorem cal_back {π π1 : Tag} {H H1 : Hp} (f : Fix (calT π) H π1 H1) : ∃ π2, Stp π H π2 H1 ∧ Same (cut H1 π1 0) (cut H1 π2 0) ∧ Same (cut H1 π1 2) (cut H1 π2 2) := by
  refine ⟨fun a => open Classical in if (H a).isSome ∧ π a ≠ 2 then π a else π1 a, fun a o h n => ⟨(f a o h (calT_le n)).1, if_pos ⟨by rw [h]; rfl, n⟩⟩, ?_, ?_⟩
  · refine cut_same fun a o e h => ⟨h, ?_⟩
    by_cases hc : (H a).isSome ∧ π a ≠ 2
    · rw [if_pos hc]
      obtain ⟨o', ho'⟩ := Option.isSome_iff_exists.mp hc.1
      exact calT_0.mp ((f a o' ho' (calT_le hc.2)).2.symm.trans e)
    · rw [if_neg hc]; exact e
  · refine cut_same fun a o e h => ⟨h, ?_⟩
    by_cases hc : (H a).isSome ∧ π a ≠ 2
    · rw [if_pos hc]
      obtain ⟨o', ho'⟩ := Option.isSome_iff_exists.mp hc.1
      exact calT_2.mp ((f a o' ho' (calT_le hc.2)).2.symm.trans e)
    · rw [if_neg hc]; exact e
theorem fn_okG {x qual : Str} {st : Stmt} {f : Addr} {fd : FuncData} {ps : List Str} {S : SpcG} (F : Fun R.K x qual st f fd) (SC : FnScope N ps (defScope st)) (hlen : ∀ mu ds P, S mu ds P → ds.length = ps.length)
    (hbody : ∀ (X : Cx) (E : WX), FCx R k X N (defScope st) E → ∀ mu ds P, S mu ds P → BS X E (En.start N.length ds mu) (defBody st)
      { nx := fun Γ' => P Γ'.mu (.ret .none), rt := fun Γ' d => P Γ'.mu (.ret d), xc := fun Γ' x => P Γ'.mu (.exc x) }) : FnOk R.P R.w R.K R.mg R.base (L2.CX R.P R.w) (k + 1) f fd ps (SpD R.K S) := by
  refine F.okX SC (fun vs H Q E ⟨π, ds, mu, P, hS, ra, _⟩ => by rw [ra.length]; exact hlen _ _ _ hS) fun cdv A outer s H vs Q E hr ⟨π, ds, mu, P, hS, ra, m0, l0, hq, hx⟩ => ?_
  have hbd := hbody (cxOf (L2.CX R.P R.w) R.P R.w R.K R.mg R.base N qual (defScope st) f cdv A outer s H E) (fun cls d _ H => E cls d H) ⟨⟨rfl, rfl, rfl, rfl, rfl, rfl, rfl, rfl, SC.nd, hr⟩, passes_of rfl, takes_of rfl rfl rfl rfl, rfl⟩ mu ds P hS
  refine ⟨_, hbd, calT π, start_ok (ra.same (cut_same fun a o e h => ⟨h, calT_0.mpr e⟩)) (m0.same (cut_same fun a o e h => ⟨h, calT_0.mpr e⟩) (cut_same fun a o e h => ⟨h, calT_2.mpr e⟩)) l0, ?_⟩
  · refine ⟨fun Γ' σ' π' H' hP fx en => ?_, fun Γ' d v σ' π' H' hP fx en rd => ?_, fun Γ' x cls dd σ' π' H' hP fx en rx => ?_, fun _ _ _ _ z => z.elim, fun _ _ _ _ z => z.elim⟩
    · obtain ⟨π2, s2, c0, c2⟩ := cal_back fx
      exact hq _ _ hP .non π2 H' s2 (en.mu.same c0 c2) en.len .non
    · obtain ⟨π2, s2, c0, c2⟩ := cal_back fx
      exact hq _ _ hP v π2 H' s2 (en.mu.same c0 c2) en.len (rd.same c0)
    · obtain ⟨π2, s2, c0, c2⟩ := cal_back fx
      exact hx _ _ hP cls dd π2 H' s2 (en.mu.same c0 c2) en.len (rx.same c0)
theorem def_okG {x qual : Str} {st : Stmt} {f : Addr} {fd : FuncData} {ps : List Str} {S : SpcG} (F : Fun R.K x qual st f fd) (hm : R.mg x = some (.ref f)) (hb : Binds R.K fd ps []) (SC : FnScope N ps (defScope st)) (hlen : ∀ mu ds P, S mu ds P → ds.length = ps.length)
    (hbody : ∀ (X : Cx) (E : WX), FCx R k X N (defScope st) E → ∀ mu ds P, S mu ds P → BS X E (En.start N.length ds mu) (defBody st)
      { nx := fun Γ' => P Γ'.mu (.ret .none), rt := fun Γ' d => P Γ'.mu (.ret d), xc := fun Γ' x => P Γ'.mu (.exc x) }) : DefG R x (k + 1) S :=
  ⟨f, fd, ps, fn_okG F SC hlen hbody, hm, F.kp, hb⟩
theorem def_ok {x qual : Str} {st : Stmt} {f : Addr} {fd : FuncData} {ps : List Str} {S : Spc} (F : Fun R.K x qual st f fd) (hm : R.mg x = some (.ref f)) (hb : Binds R.K fd ps []) (SC : FnScope N ps (defScope st)) (hlen : ∀ mu ds mu' r, S mu ds mu' r → ds.length = ps.length)
    (hbody : ∀ (X : Cx) (E : WX), FCx R k X N (defScope st) E → ∀ mu ds mu' r, S mu ds mu' r → BS X E (En.start N.length ds mu) (defBody st)
      { nx := fun Γ' => Γ'.mu = mu' ∧ r = .ret .none, rt := fun Γ' d => Γ'.mu = mu' ∧ r = .ret d, xc := fun Γ' x => Γ'.mu = mu' ∧ r = .exc x }) : Def R x (k + 1) S :=
  def_okG F hm hb SC (fun mu ds P ⟨mu', r, h, _⟩ => hlen mu ds mu' r h) fun X E C mu ds P ⟨mu', r, h, e⟩ => by
    subst e
    exact PSs.imp (hbody X E C mu ds mu' r h) fun D σ H ⟨π, en, kb⟩ => ⟨π, en, fun a b c d e f g => kb.nx a b c d ⟨e.1, e.2.symm⟩ f g, fun a b c d e f g h i j => kb.rt a b c d e f ⟨g.1, g.2.symm⟩ h i j, fun a b c d e f g h i j l => kb.xc a b c d e f g ⟨h.1, h.2.symm⟩ i j l, fun _ _ _ _ z => z.elim, fun _ _ _ _ z => z.elim⟩
end
end Y
set_option Elab.async false
set_option linter.all false
set_option maxRecDepth 100000
set_option maxHeartbeats 4000000
namespace Y
open PySem PySem.Spec PyProof.Rows L2
section
variable {R : Rw} {k j : Nat} {X : Cx} {N : List Str} {sc : Scope} {E : WX} {Γ Γ1 Γ2 Γ3 : En} {po po' : Po} {a b c e tg iter : Expr} {es : List Expr} {pos p apos npos spos : Pos} {st : Stmt} {ss rest body : List Stmt}
theorem xs_lc {fb : Bool} {α : Type} {xs : List α} {f : α → D} {c : α → Bool} {g : α → D} {Γt : α → En} {own : List (Str × Nat)} {scope : Scope} {elt : Expr} {ifs : List Expr} {x : Str} (C : CxIs R k X N sc) (i : Nat) (hN : N[i]? = some x) (hx : sc.names.lookup x = some .local) (hk : sc.kind = .function) (hl : (p.line == pos.line) = true)
    (hany : (scope.names.any fun (n, k) => n == x && (k == .local || k == .cell)) = false) (hi : XI X fb Γ tg iter Γ1 (xs.map f)) (ok : blkC N sc scope own = true)
    (h : ∀ X', BlkX R k N sc scope X X' → ∀ x, x ∈ xs → XG X' (slotsOf own) (Γ1.wipe (slotsOf own)) tg (f x) (Γt x) ∧ XTs X' (Γt x) ifs (Γt x) (c x) ∧ (c x = true → XE X' (Γt x) elt (Γt x) (g x)))
    (hmu : ∀ x, (Γt x).mu = Γ1.mu) (hs : ∀ x, foldedSetIterable iter X.env x = pure x := by intro _; rfl) :
    PS X (.Assign [.Name x p] (.ListComp elt [⟨tg, iter, ifs, 0⟩] scope pos) spos) (fun D σ H => ∃ π, EnOk X.K Γ π H σ ∧ KxF X.K Γ1 ((xs.filter c).map g) π H σ (fun v H' => D.nx (σ.set i (some v)) H')) := by
  have key := xs_lcG (spos := spos) (pos := pos) (p := p) (b := fun j => (xs[j]?.map c).getD false) (y := fun j => (xs[j]?.map g).getD .none) (Γt := fun j => (xs[j]?.map Γt).getD Γ1) (Γu := fun j => (xs[j]?.map Γt).getD Γ1) (Γv := fun j => (xs[j]?.map Γt).getD Γ1) (mus := fun _ => Γ1.mu) (Γ1 := Γ1) (ds := xs.map f) C i hN hx hk hl hany hi ok
    (fun X' B j d hd => by
      rw [List.getElem?_map] at hd
      cases hx : xs[j]? with
      | none => rw [hx] at hd; cases hd
      | some x =>
        rw [hx] at hd
        cases hd
        exact h X' B x (List.mem_of_getElem? hx)) (fun j hj _ => by
      rw [List.length_map] at hj
      simp only [List.getElem?_eq_getElem hj, Option.map_some, Option.getD_some]
      exact hmu _) (fun j hj _ => by
      rw [List.length_map] at hj
      simp only [List.getElem?_eq_getElem hj, Option.map_some, Option.getD_some]
      exact hmu _) hs
  rw [List.length_map, kept_get c g xs _ _ (fun j x hx => by simp [hx])] at key
  exact key
theorem st_ofS {i : Nat} {ds ds' : List D} (h : PS X st (fun D σ H => ∃ π, EnOk X.K Γ π H σ ∧ KxF X.K Γ1 ds π H σ (fun v H' => D.nx (σ.set i (some v)) H'))) (he : ds = ds') (hr : po.nx (Γ1.setS i (.st (.list ds')))) : ST X E Γ st po := by
  subst he
  exact PS.imp h fun D σ H ⟨π, en, kb⟩ => ⟨π, en, fun q xs π' H' s e tg hq fr r => kb.nx _ _ (setT π' q 0) H' hr (fix_retag s fr) ((e.retag 0 tg).setS (.lst (cut_at setT_same hq) (r.same (cut_retag (by omega)))))⟩
theorem st_ofO {i : Nat} {ds ds' : List D} (h : PS X st (fun D σ H => ∃ π, EnOk X.K Γ π H σ ∧ KxF X.K Γ1 ds π H σ (fun v H' => D.nx (σ.set i (some v)) H'))) (he : ds = ds') (hr : po.nx (Γ1.setS i (.lst ds'))) : ST X E Γ st po := by
  subst he
  exact PS.imp h fun D σ H ⟨π, en, kb⟩ => ⟨π, en, fun q xs π' H' s e tg hq fr r => kb.nx _ _ (setT π' q (i + 3)) H' hr (fix_retag s fr) (e.owned tg hq r i)⟩
theorem XE.to {d d' : D} (h : XE X Γ e Γ1 d) (q : d = d') : XE X Γ e Γ1 d' := by subst q; exact h
theorem XF.to {d d' : List D} (h : XF X Γ e Γ1 d) (q : d = d') : XF X Γ e Γ1 d' := by subst q; exact h
theorem XB.to {d d' : Bool} (h : XB X Γ e Γ1 d) (q : d = d') : XB X Γ e Γ1 d' := by subst q; exact h
theorem XT.to {d d' : Bool} (h : XT X Γ e Γ1 d) (q : d = d') : XT X Γ e Γ1 d' := by subst q; exact h
theorem xe_gint {x : Str} {i : Int} {t : Tok} (C : CxIs R k X N sc) (hg : IsGl sc x) (hm : R.mg x = some (.int i t)) (hd : (x == ("__debug__" : Str)) = false := by decide) : XE X Γ (.Name x pos) Γ (.int i) := xe_c (pe_glob (v := .int i) (C.gl hg) (by rw [C.mg]; exact hm) ⟨t, rfl⟩ hd) fun _ => .int i
theorem xe_gstr {x : Str} {i : Str} {t : Tok} (C : CxIs R k X N sc) (hg : IsGl sc x) (hm : R.mg x = some (.str i t)) (hd : (x == ("__debug__" : Str)) = false := by decide) : XE X Γ (.Name x pos) Γ (.str i) := xe_c (pe_glob (v := .str i) (C.gl hg) (by rw [C.mg]; exact hm) ⟨t, rfl⟩ hd) fun _ => .str i
def tyO (n : String) : Ob := ⟨fun v _ => v = .ty n, fun _ h => h⟩
theorem xe_ty {x : Str} {T : String} (C : CxIs R k X N sc) (hg : IsGl sc x) (hm : R.mg x = none) (hv : bootBuiltins x = some (.type T)) (hn : x ≠ "__name__" := by decide) (hd : (x == ("__debug__" : Str)) = false := by decide) : XE X Γ (.Name x pos) Γ (.ob (tyO T)) :=
  xe_c (pe_bltn (v := .ty T) (C.gl hg) (C.none hm) hv rfl hn hd) fun _ => .ob rfl
theorem xe_gref {x : Str} {a : Addr} (C : CxIs R k X N sc) (hg : IsGl sc x) (hm : R.mg x = some (.ref a)) (hd : (x == ("__debug__" : Str)) = false := by decide) : XE X Γ (.Name x pos) Γ (.ref a) := xe_c (pe_glob (v := .ref a) (C.gl hg) (by rw [C.mg]; exact hm) rfl hd) fun _ => .ref a
inductive TyD (K : PySem.W.Frag) : D → Value → Prop
  | non : TyD K .none (.type "NoneType")
  | bl (b : Bool) : TyD K (.bool b) (.type "bool")
  | int (i : Int) : TyD K (.int i) (.type "int")
  | str (s : Str) : TyD K (.str s) (.type "str")
  | lst (xs : List D) : TyD K (.list xs) (.type "list")
  | tup (xs : List D) : TyD K (.tuple xs) (.type "tuple")
  | dict (kvs : List (Key × D)) : TyD K (.dict kvs) (.type "dict")
  | ob {o : Ob} {t : Value} (h : ∀ G H v, Same G H → o.p v G → TyX K H v t) : TyD K (.ob o) t
theorem TyD.tyX {K : PySem.W.Frag} {d : D} {t : Value} {G H : Hp} {v : V} (h : TyD K d t) (sm : Same G H) (r : Rp K G v d) : TyX K H v t := by
  cases h with
  | non => cases r; exact .base .non
  | bl b => cases r; exact .base (.bl b)
  | int i => cases r; exact .base (.int i)
  | str s => cases r; exact .base (.str s)
  | lst xs =>
    cases r with
    | lst a b => exact .base (.lst (sm _ _ a))
  | tup xs =>
    cases r with
    | tup a b =>
      rcases a with (a | ⟨o, a⟩) | ⟨o, its, n, a, b, c⟩
      · exact .base (.tup (sm _ _ a))
      · exact .fTuple (sm _ _ a)
      · exact .kTuple a b
  | dict kvs =>
    cases r with
    | dict a b => exact .base (.dK (sm _ _ a))
  | ob h =>
    cases r with
    | ob r => exact h G H v sm r
theorem xb_isi {d : D} {t : Value} {T x : Str} {n : String} {bb : Bool} {np : Pos} (C : CxIs R k X N sc) (B : Blt R.mg) (hi : IsGl sc "isinstance") (h : XE X Γ e Γ1 d) (hT : XE X Γ1 c Γ1 (.ob (tyO n))) (ht : TyD R.K d t) (hb : PySem.W.kitOne R.K t (.type n) = some bb)
    (he : starEach [e, c] X.env = (false, eval e X.env) :: starEach [c] X.env := by rfl) (he2 : starEach [c] X.env = (false, eval c X.env) :: starEach [] X.env := by rfl) (hpl : (backTo pos (starEach [c] X.env)).any (·.1) = false := by rfl) : XB X Γ (.Call (.Name "isinstance" p) [e, c] [] pos) Γ1 bb := by
  refine xb_of (xe_callB C call_isi hi (C.none B.isinstance) (by decide +kernel) (xa_cons h (xa_cons hT xa_nil he2) he) (rc_val (zv := .bl bb) (fun _ => .bl _) fun G H vs Q sm _ r q => ?_) (he := he) (hpl := hpl))
  cases r with
  | cons r1 r2 =>
    cases r2 with
    | cons r2 r3 =>
      cases r3
      cases r2 with
      | ob r2 =>
        cases r2
        refine ⟨_, _, t, .type n, bb, rfl, .ty n, ?_, by rw [C.K]; exact hb, q⟩
        rw [C.K]
        rw [C.K] at r1
        exact ht.tyX sm r1
end
end Y
set_option Elab.async false
set_option linter.all false
set_option maxRecDepth 100000
set_option maxHeartbeats 4000000
namespace Y
open PySem PySem.Spec PyProof.Rows L2
section
variable {R : Rw} {k j : Nat} {X : Cx} {N : List Str} {sc : Scope} {E : WX} {Γ Γ1 Γ2 Γ3 : En} {po po' : Po} {a b c e tg iter : Expr} {es : List Expr} {pos p apos npos spos : Pos} {st : Stmt} {ss rest body : List Stmt}
theorem eachIs_of {β : Type} {K : PySem.W.Frag} {G : Hp} {enc : β → D} : ∀ {bs : List β} {xs : List V} {us : List Value}, RpAll K G xs (bs.map enc) → Vals xs us → PySem.W.EachIs (fun u b => ∃ v, RelV v u ∧ Rp K G v (enc b)) us bs
  | [], _, _, h, r => by
    cases h
    cases r
    exact .nil
  | b :: bs, _, _, h, r => by
    cases h with
    | cons h1 h2 =>
      cases r with
      | cons r1 r2 => exact .cons ⟨_, r1, h1⟩ (eachIs_of h2 r2)
theorem eachIs_back {β : Type} {K : PySem.W.Frag} {G : Hp} {enc : β → D} : ∀ {bs : List β} {us : List Value}, PySem.W.EachIs (fun u b => ∃ v, RelV v u ∧ Rp K G v (enc b)) us bs → ∃ xs, Vals xs us ∧ RpAll K G xs (bs.map enc)
  | _, _, .nil => ⟨[], .nil, .nil⟩
  | _, _, .cons ⟨v, r, h⟩ t => let ⟨xs, a, b⟩ := eachIs_back t; ⟨v :: xs, .cons r a, .cons h b⟩
def leP {β : Type} (enc : β → D) : β → β → Bool := PySem.W.dataLe false fun b => (enc b).toP
def rSrt (K : PySem.W.Frag) : List V → Hp → VK → Prop := fun vs H Q => ∃ (β : Type) (enc : β → D) (bs : List β) (a : Addr) (xs : List V) (G : Hp), vs = [.ref a] ∧ Same G H ∧ H a = some (.lst xs) ∧ RpAll K G xs (bs.map enc) ∧
  (∀ b ∈ bs, fit 32 (enc b) = true) ∧ PySem.W.AllAlike (bs.map fun b => (enc b).toP) ∧ PySem.W.Sortable (bs.map fun b => (enc b).toP) ∧
  ∀ ys p, H p = none → RpAll K G ys ((bs.mergeSort (leP enc)).map enc) → Q (.ref p) (upd H p (.lst ys))
theorem cr_srt (hu : X.A.units + 64 < cLine) : CallR X (.builtin "sorted") (rSrt X.K) := by
  intro pins s σ H vs us Q I r ⟨β, enc, bs, a, xs, G, e, sm, ha, ra, hf, hal, hk, q⟩
  subst e
  cases r with
  | cons r rr =>
    cases rr
    cases r
    obtain ⟨its, rv, pl, hz⟩ := I.list (SqL.of ha)
    have e1 := eachIs_of ra rv
    have e2 : PySem.W.EachIs (fun v b => ∃ as, Reads s.heap v ((enc b).toP) as) its bs := by
      have key : ∀ {bs : List β} {us : List Value}, (∀ b ∈ bs, fit 32 (enc b) = true) → PySem.W.EachIs (fun u b => ∃ v, RelV v u ∧ Rp X.K G v (enc b)) us bs → PySem.W.EachIs (fun v b => ∃ as, Reads s.heap v ((enc b).toP) as) us bs := by
        intro bs us hf h
        induction h with
        | nil => exact .nil
        | cons h t ih =>
          obtain ⟨v, r, h⟩ := h
          exact .cons (Dp.reads I _ v _ ((h.same sm).dp _ _ (fit_pur _ _ (hf _ List.mem_cons_self))) r) (ih fun b hb => hf b (List.mem_cons_of_mem _ hb))
      exact key hf e1
    have hl : its.length = bs.length := e1.length
    have hlx : xs.length = its.length := rv.length
    refine PySem.W.sorted_data (enc := fun b => (enc b).toP) pl.isList e1 e2 hal hk (by omega) (fun b hb => ?_) fun out ho hout => ?_
    · have := (fit_lay _ _ (hf b hb)).2
      omega
    · obtain ⟨ys, ry, rp⟩ := eachIs_back hout
      obtain ⟨c, hat⟩ := PyProof.Rows.sortedAll_at s.heap its (List.toArray out)
      refine ⟨.ref (s.heap.objs.size + 1), _, I.laid (t' := s.toks) (o := .lst ys) (fun b u e => PyProof.Rows.sortedAll_old e) (Nat.le_succ _) ?_, rfl, q ys _ (I.hok.fresh (Nat.le_succ _)) rp⟩
      refine ⟨?_, out, c, ry, hat⟩
      have := ry.length
      omega

theorem xf_sorted {β : Type} {enc : β → D} {bs : List β} (C : CxIs R k X N sc) (B : Blt R.mg) (hg : IsGl sc "sorted") (h : XE X Γ e Γ1 (.list (bs.map enc))) (hf : ∀ b ∈ bs, fit 32 (enc b) = true) (hal : PySem.W.AllAlike (bs.map fun b => (enc b).toP)) (hk : PySem.W.Sortable (bs.map fun b => (enc b).toP))
    (hs : starEach [e] X.env = (false, eval e X.env) :: starEach [] X.env := by rfl) : XF X Γ (.Call (.Name "sorted" p) [e] [] pos) Γ1 ((bs.mergeSort (leP enc)).map enc) :=
  xf_of (pe_callB (cr_srt C.u) (C.gl hg) (C.none B.sorted) (by decide +kernel) (xa_cons h xa_nil hs) (he := hs)) (tCB_ofF fun Γ π H σ vs Q en r k => by
    cases r with
    | cons r1 r2 =>
      cases r2
      cases r1 with
      | lst a b => exact ⟨β, enc, bs, _, _, _, rfl, cut_sub, cut_sub _ _ a, b, hf, hal, hk, fun ys p hp ry => k.new en hp ry⟩)
theorem alike_ints (xs ys : List Int) : PySem.W.alike (tI xs).toP (tI ys).toP = true := by
  rw [toP_tI, toP_tI]
  exact PySem.W.alike_ints xs ys
theorem leP_int : leP D.int = fun a b => decide (a ≤ b) := PySem.W.dataLe_int (fun b => b)
theorem dataLt_tI (xs ys : List Int) : PySem.W.dataLt (tI xs).toP (tI ys).toP = decide (xs < ys) := by
  have h := PySem.W.dataLt_ints xs ys
  unfold PySem.W.rowLt at h
  rw [toP_tI, toP_tI]
  unfold PySem.W.dataLt
  exact h
theorem leP_tI : leP tI = fun a b => decide (a ≤ b) := by
  funext a b
  unfold leP
  rw [PySem.W.dataLe_eq]
  simp only [cond_false]
  rw [dataLt_tI]
  by_cases h : b < a
  · rw [decide_eq_true h, decide_eq_false (fun z => List.not_le.mpr h z)]
    rfl
  · rw [decide_eq_false h, decide_eq_true (List.not_lt.mp h)]
    rfl
theorem xf_sortI {bs : List Int} (C : CxIs R k X N sc) (B : Blt R.mg) (hg : IsGl sc "sorted") (h : XE X Γ e Γ1 (lI bs)) (hs : starEach [e] X.env = (false, eval e X.env) :: starEach [] X.env := by rfl) :
    XF X Γ (.Call (.Name "sorted" p) [e] [] pos) Γ1 ((bs.mergeSort fun a b => decide (a ≤ b)).map D.int) := by
  have := xf_sorted (enc := D.int) (bs := bs) (p := p) (pos := pos) C B hg h (fun _ _ => rfl) (PySem.W.AllAlike.of fun _ _ => by simp [D.toP, PySem.W.alike]) (PySem.W.Sortable.others fun b => ⟨fun z => by simp [D.toP] at z, fun xs z => by simp [D.toP] at z⟩) hs
  rw [leP_int] at this
  exact this
theorem xf_sortT {bs : List (List Int)} (C : CxIs R k X N sc) (B : Blt R.mg) (hg : IsGl sc "sorted") (h : XE X Γ e Γ1 (lT bs)) (hne : ∀ b ∈ bs, b ≠ []) (hs : starEach [e] X.env = (false, eval e X.env) :: starEach [] X.env := by rfl) :
    XF X Γ (.Call (.Name "sorted" p) [e] [] pos) Γ1 ((bs.mergeSort fun a b => decide (a ≤ b)).map tI) := by
  have := xf_sorted (enc := tI) (bs := bs) (p := p) (pos := pos) C B hg h (fun b _ => fit_tmap (n := 31) (fun _ => rfl) b) (PySem.W.AllAlike.of fun _ _ => alike_ints _ _) (.inl fun d hd => by
    obtain ⟨b, hb, rfl⟩ := List.mem_map.mp hd
    rw [toP_tI]
    cases b with
    | nil => exact absurd rfl (hne _ hb)
    | cons x r => exact ⟨.int x, r.map .int, rfl⟩) hs
  rw [leP_tI] at this
  exact this

theorem atI_get {α : Type} {xs : List α} {i : Int} {v : α} (h : atI xs i = some v) : ∃ j, ixN xs.length i = some j ∧ xs[j]? = some v := by
  unfold atI at h
  cases q : ixN xs.length i with
  | none => rw [q] at h; cases h
  | some j => rw [q] at h; exact ⟨j, rfl, h⟩
theorem RpAll.atI {K : PySem.W.Frag} {G : Hp} {vs : List V} {ds : List D} {i : Int} {d : D} (r : RpAll K G vs ds) (h : L2.atI ds i = some d) : ∃ v, L2.atI vs i = some v ∧ Rp K G v d := by
  obtain ⟨j, h1, h2⟩ := atI_get h
  obtain ⟨v, h3, h4⟩ := r.get h2
  refine ⟨v, ?_, h4⟩
  unfold L2.atI
  rw [r.length, h1]
  exact h3
theorem xe_ix {d z : D} {ds : List D} {i : Int} (ha : XE X Γ a Γ1 d) (hb : XE X Γ1 b Γ2 (.int i)) (hd : SeqD d ds) (hz : atI ds i = some z) (hs : PlainIx b := by exact fun _ _ => rfl) : XE X Γ (.Subscript a b pos) Γ2 z := by
  refine xe_of (pe_ix ix_seq ha hb hs) (tOp_of fun Γ π H σ x y Q en rx ry k => ?_)
  cases ry
  cases hd with
  | lst =>
    cases rx with
    | lst g r =>
      obtain ⟨v, h1, h2⟩ := r.atI hz
      exact .inl ⟨_, _, i, v, rfl, rfl, SqL.of (cut_sub _ _ g), h1, fun _ => k v π H Stp.refl en h2⟩
  | tup =>
    cases rx with
    | tup g r =>
      obtain ⟨v, h1, h2⟩ := r.atI hz
      exact .inr (.inl ⟨_, _, i, v, rfl, rfl, Same.seqT cut_sub g, h1, fun _ => k v π H Stp.refl en h2⟩)
def cutL {α : Type} (xs : List α) (lo hi : Option Int) : List α := (xs.drop (HT.sIx xs.length 0 lo)).take (HT.sIx xs.length xs.length hi - HT.sIx xs.length 0 lo)
theorem RpAll.cutL {K : PySem.W.Frag} {G : Hp} {vs : List V} {ds : List D} {lo hi : Option Int} (r : RpAll K G vs ds) : RpAll K G (cutV vs lo hi) (Y.cutL ds lo hi) := by
  unfold cutV Y.cutL
  rw [r.length]
  exact (r.drop _).take _
def rO (K : PySem.W.Frag) (Γ Γ' : En) (o : Option Int) : TO := fun σ H Q => ∃ π, EnOk K Γ π H σ ∧ ∀ π' H', Stp π H π' H' → EnOk K Γ' π' H' σ → Q o H'
def XO (X : Cx) (Γ : En) (e : Option Expr) (Γ' : En) (o : Option Int) : Prop := PO X e (rO X.K Γ Γ' o)
theorem PO.imp {X : Cx} {e : Option Expr} {t t' : TO} (h : PO X e t) (i : ∀ σ H Q, t' σ H Q → t σ H Q) : PO X e t' := ⟨fun pins s σ H Q I q => h.run pins s σ H Q I (i σ H Q q)⟩
theorem xo_none : XO X Γ none Γ none := PO.imp po_none fun σ H Q ⟨π, en, q⟩ => q π H Stp.refl en
theorem xo_some {i : Int} (h : XE X Γ e Γ1 (.int i)) : XO X Γ (some e) Γ1 (some i) := PO.imp (po_some h) fun σ H Q ⟨π, en, q⟩ => ⟨π, en, fun v π' H' s e r => by cases r; exact ⟨i, rfl, q π' H' s e⟩⟩
theorem xf_slL {lo hi : Option Expr} {ol oh : Option Int} {ds : List D} (ha : XE X Γ a Γ1 (.list ds)) (h1 : XO X Γ1 lo Γ2 ol) (h2 : XO X Γ2 hi Γ3 oh) : XF X Γ (.Subscript a (.Slice lo hi none p) pos) Γ3 (cutL ds ol oh) :=
  xf_of (pe_slice sl_list ha h1 h2) fun σ H π Q en k => ⟨π, en, fun x π1 H1 s1 e1 r1 => ⟨π1, e1, fun π2 H2 s2 e2 => ⟨π2, e2, fun π3 H3 s3 e3 => by
    cases r1.same (s2.zero.trans s3.zero) with
    | lst g r => exact ⟨_, _, rfl, SqL.of (cut_sub _ _ g), fun p hp => (((k.step s1).step s2).step s3).new e3 hp r.cutL⟩⟩⟩⟩
theorem cutL_whole {α : Type} (xs : List α) {lo hi : Option Int} (h : HT.sIx xs.length 0 lo = 0 ∧ HT.sIx xs.length xs.length hi = xs.length) : cutL xs lo hi = xs := by
  unfold cutL
  rw [h.1, h.2]
  simp
theorem xe_slT {lo hi : Option Expr} {ol oh : Option Int} {ds : List D} (ha : XE X Γ a Γ1 (.tuple ds)) (h1 : XO X Γ1 lo Γ2 ol) (h2 : XO X Γ2 hi Γ3 oh) : XE X Γ (.Subscript a (.Slice lo hi none p) pos) Γ3 (.tuple (cutL ds ol oh)) :=
  xe_of (pe_slice sl_tupA ha h1 h2) fun σ H π Q en k => ⟨π, en, fun x π1 H1 s1 e1 r1 => ⟨π1, e1, fun π2 H2 s2 e2 => ⟨π2, e2, fun π3 H3 s3 e3 => by
    cases r1.same (s2.zero.trans s3.zero) with
    | tup g r =>
      refine ⟨_, _, rfl, Same.seqT cut_sub g, fun w _ => ?_, fun w p hp => (((k.step s1).step s2).step s3).new e3 hp fun G sm hg => .tup (SqT.of hg) ((r.same sm).cutL)⟩
      rw [r.length] at w
      exact k _ π3 H3 ((s1.trans s2).trans s3) e3 (by rw [cutL_whole ds w]; exact .tup g r)⟩⟩⟩
end
end Y
set_option Elab.async false
set_option linter.all false
set_option maxRecDepth 100000
set_option maxHeartbeats 4000000
namespace Y
open PySem PySem.Spec PyProof.Rows L2
section
variable {P : Program} {w : World} {A : Around} {E : Value → Shared → Prop} {s : Shared}
abbrev set0 (w : World) : Obj := { cls := .type "set", dict := none, data := .set #[] 0 (.fresh 0 0 (!w.params.followText "set-order")) }
theorem call_set_lstI {l : Addr} {items : Array Value} (ns : List Int) {Q : Value → Shared → Prop} (hh : A.handled = none) (hl : s.heap.IsList l items) (hit : IntsAre items.toList ns) (hb : ns.length + 1 < scanBound)
    (h : ∀ (h' : Heap) (tk c : Nat), SetR w h' s.heap.objs.size (fun j => decide (j ∈ ns)) c → c ≤ ns.length → (∀ b o, s.heap.get? b = some o → h'.get? b = some o) → Q (.ref s.heap.objs.size) { s with heap := h', toks := tk }) :
    wpAny (model P w) A (call (.type "set") [.ref l]) Q E s := by
  have sz : items.size = ns.length := by have q := IntsAre.length hit; rwa [Array.length_toList] at q
  obtain ⟨c, tl, hmro⟩ := F.called_set.mro
  have hmade := F.called_set.made
  have hsub := F.called_set.sub
  have h1 := F.called_set.notType
  have h2 := F.called_set.canCreate
  have hct := F.typeCall_set_1 (.ref l)
  refine wpAny_call (codeAny_of_tree ?_)
  show wpAny _ _ (callAny (.type "set") _) _ _ _
  refine wpAny_pure ⟨Code.quiet_builtin _ (by decide +kernel), codeAny_builtin F.entry_type_call ?_⟩
  rw [Around.under_plain (weight_type_call_type "set" [.ref l] []) rfl]
  repeat (any_goals (first | assumption | wp_step))
  refine codeAny_mono (code_set_led1 (.ref l) (E := E) (Q₁ := fun ob t => ob = .ref s.heap.objs.size ∧ t = { s with heap := s.heap.push (set0 w) }) ⟨rfl, rfl⟩) fun r s1 hr => ?_
  cases r with
  | error e => exact hr
  | ok fl =>
    cases fl with
    | ret ob =>
      obtain ⟨rfl, rfl⟩ := hr
      have hS : (s.heap.push (set0 w)).get? s.heap.objs.size = some (set0 w) := Heap.get?_push_size _ rfl
      have hT : Shared.TypeIs { s with heap := s.heap.push (set0 w) } (.ref s.heap.objs.size) "set" := ⟨_, hS, rfl⟩
      have hli := F.called_set.init.lookup
      have hbi := F.called_set.init.bind (.ref s.heap.objs.size)
      repeat (any_goals (first | assumption | wp_step))
      refine codeAny_mono (codeAny_call_builtin (R := wants (fun r t => r = .none ∧ ∃ h' tk c, t = { s with heap := h', toks := tk } ∧ SetR w h' s.heap.objs.size (fun j => decide (j ∈ ns)) c ∧ c ≤ ns.length ∧ ∀ b o, s.heap.get? b = some o → h'.get? b = some o) E)
        F.called_set.init.plain F.entry_set_init (check_set_init_1 hT ?_)) fun r2 s2 hr2 => ?_
      · obtain ⟨⟨ocls, odict, odata, oslots⟩, hol, hcl, nl, hdl⟩ := hl
        simp only at hcl hdl
        subst hcl; subst hdl
        have hol' : (s.heap.push (set0 w)).get? l = some { cls := .type "list", dict := odict, data := .seq items nl, slots := oslots } := Heap.get?_push_of_some _ hol
        have k1 := F.sub_list_set
        have k2 := F.sub_list_frozenset
        have k3 : (Value.type "list" == Value.type "dict") = false := by decide
        have hl1 : (s.heap.push (set0 w)).IsList l items := ⟨_, hol', rfl, nl, rfl⟩
        unfold Builtin.«set.__init__» noKeywords Builtin.Frozenset.updateFrom
        generalize hPI : pyIter = PI
        wp_walk
        subst hPI
        refine wpAny_pyIter_list hl1 ?_
        refine wpAny_bind (wpAny_runValue ?_)
        have lS : l < s.heap.objs.size := Heap.lt_size hol
        have hh3 : A.in1.in1.in1.handled = none := by simp [hh]
        have nI : l ≠ (s.heap.push (set0 w)).objs.size := by rw [Heap.size_push]; exact Nat.ne_of_lt (Nat.lt_succ_of_lt lS)
        have nF : s.heap.objs.size ∉ [(s.heap.push (set0 w)).objs.size, l] := by
          rw [Heap.size_push]
          simp only [List.mem_cons, List.not_mem_nil, or_false, not_or]
          exact ⟨Nat.ne_of_lt (Nat.lt_succ_self _), Nat.ne_of_gt lS⟩
        have hv : ∀ (i : Nat) (v : Value), items[i]? = some v → ∃ k t, ns[i]? = some k ∧ v = .int k t := fun i v hv => by
          have hi : i < ns.length := by rw [← sz]; exact (Array.getElem?_eq_some_iff.mp hv).1
          obtain ⟨t, e⟩ := PyProof.Rows.IntsAre.int_at hit i v (by rwa [Array.getElem?_toList])
          exact ⟨ns[i], t, List.getElem?_eq_getElem hi, by rw [e, List.getD_eq_getElem?_getD, List.getElem?_eq_getElem hi] <;> rfl⟩
        refine set_update_ints ((Walks.list hh3 _ l nI items).toS) s.heap.objs.size nF ns sz hb hv (items.size - 0) 0 _ (by omega) (Nat.zero_le _) ⟨⟨_, Heap.get?_push_size _ rfl, rfl, rfl⟩, (hl1.push _)⟩ ?s0 ?r0
        case s0 => exact ⟨0, Nat.le_refl 0, setR_new_at (Heap.get?_push_of_some _ hS)⟩
        case r0 =>
          intro s' c' hm hc' hS'
          obtain ⟨h', g2, d', tk', os'⟩ := s'
          have eg : g2 = s.gens := hm.gens
          have ed : d' = s.drawn := hm.drawn
          have eo : os' = s.os := hm.os
          subst eg; subst ed; subst eo
          refine wpAny_pure ?_
          rw [sz] at hc'
          refine wpAny_pure ⟨rfl, h', tk', c', rfl, hS', hc', fun b o e => ?_⟩
          have b0 : b < s.heap.objs.size := Heap.lt_size e
          refine hm.heap b o ?_ (Heap.get?_push_of_some _ (Heap.get?_push_of_some _ e))
          rw [Heap.size_push]
          simp only [List.mem_cons, List.not_mem_nil, or_false, not_or]
          exact ⟨Nat.ne_of_lt b0, Nat.ne_of_lt (Nat.lt_succ_of_lt b0)⟩
      · cases r2 with
        | error e => exact hr2
        | ok fl2 =>
          cases fl2 with
          | ret r =>
            obtain ⟨rfl, h', tk, c', rfl, hS', hc', hk'⟩ := hr2
            repeat (any_goals (first | assumption | wp_step))
            exact h _ _ _ hS' hc' hk'
          | _ => exact hr2.elim
    | _ => exact hr.elim
end
end Y
set_option Elab.async false
set_option linter.all false
set_option maxRecDepth 100000
set_option maxHeartbeats 4000000
namespace Y
open PySem PySem.Spec PyProof.Rows L2
abbrev tit (l : Addr) : Obj := { cls := .type "tuple_iterator", data := .fields #[.ref l, .int 0 0] }
abbrev enm (i : Addr) : Obj := { cls := .type "enumerate", data := .fields #[.none, .bool false, .ref i, rawInt 0, .none, .none] }
theorem meets_enumT (l : Addr) (items : Array Value) (n : Nat) (dct : Option Addr) (sl : Array (Option Value)) :
    Meets (Builtin.«enumerate.__new__» ⟨[.type "enumerate", .ref l], []⟩) (fun _ R s => s.heap.get? l = some { cls := .type "tuple", dict := dct, data := .seq items n, slots := sl } ∧
      R (.ok (.ret (.ref (s.heap.push (tit l)).objs.size))) { s with heap := (s.heap.push (tit l)).push (enm s.heap.objs.size) }) :=
  .of_wp fun prog w A R s h => by
    obtain ⟨hp, g, d, tk, os⟩ := s
    obtain ⟨hl, h⟩ := h
    have hsub := sub_enumerate
    have hL : Heap.IsTuple (Shared.heap ⟨hp, g, d, tk, os⟩) l items := ⟨_, hl, rfl, n, rfl⟩
    wp_walk using AutoSeq1.wpAny_loadPart' hl
    refine wpAny_stack_any fun st => wpAny_pure ?_
    split
    · rename_i c _ _ _ _ _
      cases (c == Value.type "enumerate") <;>
      · wp_walk using AutoSeq1.wpAny_loadPart' hl, wpAny_pyIter_tuple hL
        exact ⟨_, rfl, h⟩
    · wp_walk using AutoSeq1.wpAny_loadPart' hl, wpAny_pyIter_tuple hL
      exact ⟨_, rfl, h⟩
section
variable {prog : Program} {w : World} {A : Around} {E : Value → Shared → Prop} {s : Shared}
theorem call_enumT {l : Addr} {items : Array Value} {Q : Value → Shared → Prop} (hL : s.heap.IsTuple l items)
    (h : ∀ h', IsEnum h' (s.heap.objs.size + 1) s.heap.objs.size 0 .none → h'.IsTupleIter s.heap.objs.size l 0 → (∀ b o, s.heap.get? b = some o → h'.get? b = some o) → Q (.ref (s.heap.objs.size + 1)) { s with heap := h' }) :
    wpAny (model prog w) A (call (.type "enumerate") [.ref l]) Q E s := by
  obtain ⟨⟨c, dct, dt, sl⟩, hl, hc, n, hd⟩ := hL
  replace hc : c = .type "tuple" := hc
  replace hd : dt = .seq items n := hd
  subst hc hd
  refine callType_new F.called_enumerate (by decide) (F.typeCall_enumerate_1 _) (F.newCall_enumerate_1 _) (fun obj => F.args_object_init_2 obj _) F.entry_enumerate_new (meets_enumT l items n dct sl) ⟨hl, ?_⟩
  have hz : (s.heap.push (tit l)).objs.size = s.heap.objs.size + 1 := Heap.size_push ..
  show _ ∧ _
  rw [hz]
  have he : IsEnum ((s.heap.push (tit l)).push (enm s.heap.objs.size)) (s.heap.objs.size + 1) s.heap.objs.size 0 .none := by
    have := Heap.get?_push_size (s.heap.push (tit l)) (o := enm s.heap.objs.size) rfl
    rw [hz] at this
    exact this
  exact ⟨⟨_, he, rfl⟩, h _ he ⟨_, Heap.get?_push_of_some _ (Heap.get?_push_size _ rfl), rfl, rfl⟩ fun b o x => Heap.get?_push_of_some _ (Heap.get?_push_of_some _ x)⟩
end
def IteT (K : PySem.W.Frag) (a : Addr) : It :=
  ⟨fun i H => ∃ (xs : List V) (x : V), SqT K H a xs ∧ xs[i]? = some x, fun i H v H' => ∃ T x, v = .ref T ∧ H T = none ∧ H' = upd H T (.tup [.int (i : Nat), x]) ∧ ∀ xs, SqT K H a xs → xs[i]? = some x, fun i H => ∃ xs : List V, SqT K H a xs ∧ xs.length = i⟩
theorem turn_enumT {P : Program} {w : World} {K : PySem.W.Frag} {elts : List Expr} {kk : Nat} {tpos : Pos} (a e it : Addr) (hai : a ≠ it) (hea : e ≠ a) :
    Turn P w K (.Tuple elts kk tpos) (IteT K a) [e, it] e (fun i h => (∃ old, IsEnum h e it ((i : Nat) : Int) old) ∧ h.IsTupleIter it a i ∧ e ≠ it) where
  mem := by simp
  obj := fun i h st b hb => by
    obtain ⟨⟨old, he⟩, ⟨o, ho, hc, hd⟩, _⟩ := st
    have e' : b = e ∨ b = it := by simpa using hb
    rcases e' with z | z
    · rw [z]; exact ⟨_, he, fun v q => nomatch q⟩
    · rw [z]; exact ⟨o, ho, fun v q => by rw [hd] at q; cases q⟩
  keep := fun i h h' st k => by
    obtain ⟨⟨old, he⟩, ⟨o, ho, hr⟩, hne⟩ := st
    exact ⟨⟨old, k e (by simp) _ he⟩, ⟨o, k it (by simp) o ho, hr⟩, hne⟩
  item := by
    intro X hP hw hK hc i pins s σ H E I hf st hg
    subst hP hw hK
    obtain ⟨⟨old, he⟩, hit, hne⟩ := st
    obtain ⟨xs, x, hq, hx⟩ := hg
    obtain ⟨its, rv, p, hz⟩ := I.tuple hq
    obtain ⟨u, hu, ru⟩ := rv.get hx
    have hel : e < s.heap.objs.size := Heap.lt_size he
    have hil : it < s.heap.objs.size := by obtain ⟨_, q, _⟩ := hit; exact Heap.lt_size q
    have hi : i < its.toArray.size := by
      have := (List.getElem?_eq_some_iff.mp hu).1
      simpa using this
    refine wpAny_pyNext_enum_itemD (Draws.tuple (A := X.A.in1) (by simpa using I.ok.hd hc) it a hai its.toArray) he ⟨hit, p⟩ hi hne (by simp [hne, hea]) fun x' h' tk hx' ho hit' hT hsz hk => ?_
    have ex : x' = u := by
      have h1 : its.toArray[i]? = some x' := hx'
      rw [List.getElem?_toArray, hu] at h1
      exact (Option.some.inj h1).symm
    subst ex
    refine ⟨_, rfl, wpAny_letOwnedTupleGo_enum (s := { s with heap := h', toks := tk + 1 }) ho fun h'' he' sb => ?_⟩
    have hT2 : h''.get? s.heap.objs.size = some { cls := .type "tuple", data := .seq #[.int i tk, x'] } := (sb.2 _ (Nat.ne_of_gt hel)).trans hT
    have new : ObjOk X.prog X.w (upd H s.heap.objs.size (.tup [.int (i : Nat), x])) h'' s.heap.objs.size (.tup [.int (i : Nat), x]) :=
      ⟨by show 2 ≤ sizeLine; decide, [.int i tk, x'], .cons ⟨_, rfl⟩ (.cons ru .nil), ⟨_, hT2, rfl, _, rfl⟩⟩
    have I1 : Inv X pins σ (upd H s.heap.objs.size (.tup [.int (i : Nat), x])) { s with heap := h'', toks := tk + 1 } :=
      I.turnedNew (ch := [e, it]) (fun b ob hb q => (sb.2 b (fun z => hb (by simp [z]))).trans (hk b ob (fun z => hb (by simp [z])) (fun z => hb (by simp [z])) q)) hf (Nat.le_refl _) new
    refine ⟨.ref s.heap.objs.size, _, I1, rfl, ⟨_, x, rfl, I.hok.fresh (Nat.le_refl _), rfl, fun ys hy => by rw [I.tuple_inj hy hq]; exact hx⟩, ⟨⟨x', ?_⟩, ?_, hne⟩, fun b hb => ?_⟩
    · have e1 : ((i + 1 : Nat) : Int) = (i : Int) + 1 := by omega
      rw [e1]
      exact he'
    · obtain ⟨o, ho', hr⟩ := hit'.1
      exact ⟨o, (sb.2 it (Ne.symm hne)).trans ho', hr⟩
    · have hb' : b < s.heap.objs.size := by
        have e' : b = e ∨ b = it := by simpa using hb
        rcases e' with z | z
        · rw [z]; exact hel
        · rw [z]; exact hil
      rw [upd_ne (Nat.ne_of_lt hb')]
      exact (hf b hb).1
  done := by
    intro X hP hw hK hc i pins s σ H E I hf st hg
    subst hP hw hK
    obtain ⟨⟨old, he⟩, hit, hne⟩ := st
    obtain ⟨xs, hq, hx⟩ := hg
    obtain ⟨its, rv, p, hz⟩ := I.tuple hq
    obtain ⟨f0, f1, f2, f3, f4, f5⟩ := hf it (by simp)
    have hl : its.toArray.size = i := by rw [List.size_toArray, ← rv.length]; exact hx
    refine wpAny_pyNext_enum_endD (Draws.tuple (A := X.A.in1) (by simpa using I.ok.hd hc) it a hai its.toArray) he (by rw [hl]; exact ⟨hit, p⟩) fun h' eb => ⟨rfl, I.turned (t' := s.toks) (fun b o hb q => eb b o hb q) f0 f1 f3 f4 f5⟩
  self := fun A i s Q E st h => let ⟨⟨_, he⟩, _⟩ := st; wpAny_pyIter_enum he h
def iEnumT (K : PySem.W.Frag) (ta : TA) : TI := fun σ H R => ta σ H fun vs H1 => ∃ a xs, vs = [.ref a] ∧ SqT K H1 a xs ∧ R (IteT K a) H1
theorem pi_enumT {X : Cx} {e : Expr} {ta : TA} {p pos tpos : Pos} {elts : List Expr} {kk : Nat} (hg : Gl X "enumerate") (hm : X.mg "enumerate" = none) (ha : PA X [e] ta) (hs : starEach [e] X.env = [(false, eval e X.env)] := by rfl) :
    PI X (.Tuple elts kk tpos) (.Call (.Name "enumerate" p) [e] [] pos) (iEnumT X.K ta) := by
  refine ⟨fun pins s σ H R I h => ?_⟩
  refine Call_ (ld_blt I hg hm boot_enumerate (PyProof.Rows.callWith_type1 (thn (ha.run pos pins s σ H _ I h) fun us s1 ⟨vs, H1, I1, r1, q1⟩ => ?_) hs rfl))
  obtain ⟨a, xs, ex, hq, q⟩ := q1
  subst ex
  cases r1 with
  | cons r rr =>
    cases rr
    cases r
    obtain ⟨its, rv, p', hz⟩ := I1.tuple hq
    refine call_enumT p' fun h' he hit hk => wpAny_pyIter_enum he ?_
    have ha : a < s1.heap.objs.size := by obtain ⟨o, ho, _⟩ := p'; exact Heap.lt_size ho
    refine ⟨s1.heap.objs.size + 1, [s1.heap.objs.size + 1, s1.heap.objs.size], _, _, H1, rfl, I1.kept (t' := s1.toks) hk, turn_enumT a (s1.heap.objs.size + 1) s1.heap.objs.size (Nat.ne_of_lt ha) (Nat.ne_of_gt (Nat.lt_succ_of_lt ha)), ⟨⟨.none, he⟩, hit, Nat.succ_ne_self _⟩, fun b hb => ?_, q⟩
    have e' : b = s1.heap.objs.size + 1 ∨ b = s1.heap.objs.size := by simpa using hb
    have hle : s1.heap.objs.size ≤ b := by
      rcases e' with z | z
      · rw [z]; exact Nat.le_succ _
      · rw [z]; exact Nat.le_refl _
    exact I1.fpOk hle (I1.hok.fresh hle)
end Y
set_option Elab.async false
set_option linter.all false
set_option maxRecDepth 100000
set_option maxHeartbeats 4000000
namespace Y
open PySem PySem.Spec PyProof.Rows L2
section
variable {R : Rw} {k j : Nat} {X : Cx} {N : List Str} {sc : Scope} {E : WX} {Γ Γ1 Γ2 Γ3 : En} {po po' : Po} {a b c e tg iter : Expr} {es elts : List Expr} {pos p apos npos spos tpos : Pos} {st : Stmt} {ss rest body : List Stmt} {kk : Nat}
theorem xe_mul {i j : Int} (ha : XE X Γ a Γ1 (.int i)) (hb : XE X Γ1 b Γ2 (.int j)) (h : (-(2 ^ 64) < i ∧ i < 2 ^ 64) ∨ (-(2 ^ 64) < j ∧ j < 2 ^ 64)) : XE X Γ (.BinOp a .Mult b pos) Γ2 (.int (i * j)) := xe_op op_mul ha hb (rv_I h fun _ => .int _)
theorem xe_mod {i j : Int} (ha : XE X Γ a Γ1 (.int i)) (hb : XE X Γ1 b Γ2 (.int j)) (h : 0 < j) : XE X Γ (.BinOp a .Mod b pos) Γ2 (.int (i % j)) := xe_op op_mod ha hb (rv_I h fun _ => .int _)
theorem xe_fdiv {i j : Int} (ha : XE X Γ a Γ1 (.int i)) (hb : XE X Γ1 b Γ2 (.int j)) (h : 0 < j ∧ j < 1073741824) : XE X Γ (.BinOp a .FloorDiv b pos) Γ2 (.int (i / j)) := xe_op op_fdiv ha hb (rv_I h fun _ => .int _)
theorem xe_pow {i j : Int} (ha : XE X Γ a Γ1 (.int i)) (hb : XE X Γ1 b Γ2 (.int j)) (h : 0 ≤ j ∧ j ≤ 1000000 ∧ i.natAbs < 2 ^ 64) : XE X Γ (.BinOp a .Pow b pos) Γ2 (.int (i ^ j.toNat)) := xe_op op_pow ha hb (rv_I h fun _ => .int _)
theorem xe_neg {i : Int} (ha : XE X Γ a Γ1 (.int i)) : XE X Γ (.UnaryOp .USub a pos) Γ1 (.int (-i)) := xe_of (pe_un un_neg ha) fun σ H π Q en kx => ⟨π, en, fun v π' H' s e r => by cases r; exact ⟨i, rfl, fun _ => kx _ π' H' s e (.int _)⟩⟩
theorem xe_int1 {i : Int} (C : CxIs R k X N sc) (B : Blt R.mg) (hg : IsGl sc "int") (h : XE X Γ e Γ1 (.int i)) (hs : starEach [e] X.env = (false, eval e X.env) :: starEach [] X.env := by rfl) : XE X Γ (.Call (.Name "int" p) [e] [] pos) Γ1 (.int i) :=
  xe_callTy C call_int1 hg (C.none B.int) (by decide +kernel) (xa_cons h xa_nil hs) (rc_val (zv := .int i) (fun _ => .int _) fun G H vs Q sm _ r q => by
    cases r with
    | cons r1 r2 => cases r2; cases r1; exact .inl ⟨i, rfl, q⟩) (he := hs)
theorem xe_int1b {i : Bool} (C : CxIs R k X N sc) (B : Blt R.mg) (hg : IsGl sc "int") (h : XE X Γ e Γ1 (.bool i)) (hs : starEach [e] X.env = (false, eval e X.env) :: starEach [] X.env := by rfl) : XE X Γ (.Call (.Name "int" p) [e] [] pos) Γ1 (.int (if i then 1 else 0)) :=
  xe_callTy C call_int1 hg (C.none B.int) (by decide +kernel) (xa_cons h xa_nil hs) (rc_val (zv := .int (if i then 1 else 0)) (fun _ => .int _) fun G H vs Q sm _ r q => by
    cases r with
    | cons r1 r2 => cases r2; cases r1; exact .inr ⟨i, rfl, q⟩) (he := hs)
theorem xb_isB {x y : Bool} (ha : XE X Γ a Γ1 (.bool x)) (hb : XE X Γ1 b Γ2 (.bool y)) (hm : behindInMarks .Is b = false) : XB X Γ (.Compare a [.Is] [b] pos) Γ2 (decide (x = y)) := xb_cmpR op_is_bl ha hb (fun G H u v Q sm _ rx ry q => by cases rx; cases ry; exact ⟨x, y, rfl, rfl, q⟩) hm
theorem xb_notB {x y : Bool} (ha : XE X Γ a Γ1 (.bool x)) (hb : XE X Γ1 b Γ2 (.bool y)) (hm : behindInMarks .IsNot b = false) : XB X Γ (.Compare a [.IsNot] [b] pos) Γ2 (!decide (x = y)) := xb_cmpR op_isnot_bl ha hb (fun G H u v Q sm _ rx ry q => by cases rx; cases ry; exact ⟨x, y, rfl, rfl, q⟩) hm
theorem rg_ok {K : PySem.W.Frag} {G : Hp} (n : Int) : RpAll K G (rgV 0 n) ((List.range n.toNat).map fun i => D.int (i : Nat)) := by
  unfold rgV
  have e : (n - 0).toNat = n.toNat := by rw [Int.sub_zero]
  rw [e]
  generalize List.range n.toNat = l
  induction l with
  | nil => exact .nil
  | cons x l ih =>
    refine .cons ?_ ih
    show Rp K G (.int (0 + (x : Int))) (.int (x : Int))
    rw [Int.zero_add]
    exact .int _
theorem xe_tupRg {n : Int} {p2 q2 : Pos} (C : CxIs R k X N sc) (B : Blt R.mg) (hg : IsGl sc "tuple") (hg2 : IsGl sc "range") (h : XE X Γ e Γ1 (.int n)) (hn : n ≤ 100000) (h0 : 0 ≤ n) (hs : starEach [e] X.env = (false, eval e X.env) :: starEach [] X.env := by rfl)
    (hs2 : starEach [.Call (.Name "range" p2) [e] [] q2] X.env = (false, eval (.Call (.Name "range" p2) [e] [] q2) X.env) :: starEach [] X.env := by rfl) :
    XE X Γ (.Call (.Name "tuple" p) [.Call (.Name "range" p2) [e] [] q2] [] pos) Γ1 (.tuple ((List.range n.toNat).map fun i => D.int (i : Nat))) :=
  xe_of (pe_tupRg C.calm (C.gl hg) (C.none B.tuple) (prg_1 (C.gl hg2) (C.none B.range) h hs) hs2) fun σ H π Q en kx => ⟨π, en, fun v π' H' s e r => by
    cases r
    exact ⟨n, rfl, RgOk.of_le (by omega) (by omega) (by omega) (by omega), fun q hq => (kx.step s).new e hq fun G sm hg => .tup (SqT.of hg) (rg_ok n)⟩⟩
theorem xf_lstRg {n : Int} {p2 q2 : Pos} (C : CxIs R k X N sc) (B : Blt R.mg) (hg : IsGl sc "list") (hg2 : IsGl sc "range") (h : XE X Γ e Γ1 (.int n)) (hn : n ≤ 100000) (h0 : 0 ≤ n) (hs : starEach [e] X.env = (false, eval e X.env) :: starEach [] X.env := by rfl)
    (hs2 : starEach [.Call (.Name "range" p2) [e] [] q2] X.env = (false, eval (.Call (.Name "range" p2) [e] [] q2) X.env) :: starEach [] X.env := by rfl) :
    XF X Γ (.Call (.Name "list" p) [.Call (.Name "range" p2) [e] [] q2] [] pos) Γ1 ((List.range n.toNat).map fun i => D.int (i : Nat)) :=
  xf_of (pe_listRg C.calm (C.gl hg) (C.none B.list) (prg_1 (C.gl hg2) (C.none B.range) h hs) hs2) fun σ H π Q en kx => ⟨π, en, fun v π' H' s e r => by
    cases r
    exact ⟨n, rfl, RgOk.of_le (by omega) (by omega) (by omega) (by omega), fun q hq => (kx.step s).new e hq (rg_ok n)⟩⟩

def enumD (ds : List D) : List D := (List.range ds.length).map fun i => .tuple [.int (i : Nat), ds.getD i .none]
theorem enumD_get {ds : List D} {i : Nat} {d : D} (h : (enumD ds)[i]? = some d) : ∃ x, ds[i]? = some x ∧ d = .tuple [.int (i : Nat), x] := by
  unfold enumD at h
  rw [List.getElem?_map] at h
  by_cases hi : i < ds.length
  · rw [List.getElem?_range hi] at h
    refine ⟨ds[i], List.getElem?_eq_getElem hi, ?_⟩
    have : d = .tuple [.int (i : Nat), ds.getD i .none] := (Option.some.inj h).symm
    rw [List.getD_eq_getElem?_getD, List.getElem?_eq_getElem hi] at this
    exact this
  · rw [List.getElem?_eq_none (by simpa using hi)] at h
    cases h
theorem enumD_len (ds : List D) : (enumD ds).length = ds.length := by simp [enumD]
theorem pair_new {K : PySem.W.Frag} {π : Tag} {H : Hp} {T : Addr} {x y : V} {d d' : D} (hT : H T = none) (l : LenOk K H) (rx : Rp K (cut H π 0) x d) (ry : Rp K (cut H π 0) y d') : ∃ π', Pur π H π' (upd H T (.tup [x, y])) ∧ Rp K (cut (upd H T (.tup [x, y])) π' 0) (.ref T) (.tuple [d, d']) ∧ LenOk K (upd H T (.tup [x, y])) :=
  ⟨setT π T 0, Pur.new 0 hT, .tup (SqT.of cut_new) (.cons (rx.same ((Pur.new 0 hT).cut 0)) (.cons (ry.same ((Pur.new 0 hT).cut 0)) .nil)), l.tup hT (by show 2 ≤ sizeLine; decide)⟩
theorem ite_stable {K : PySem.W.Frag} {a : Addr} {xs : List V} {ds : List D} {G : Hp} (h : SqL K G a xs) (r : RpAll K G xs ds) : ItOk K true (Ite K a) (enumD ds) (fun π H => Same G (cut H π 0)) where
  cl := fun π H π' H' p s => p.trans s.zero
  clF := fun _ π H π' H' p s => p.trans s.zero
  fr := fun π H q o p t => p.trans (cut_frame t (by omega))
  go := fun i π H hi p _ => by
    rw [enumD_len] at hi
    have hi' : i < xs.length := by rw [r.length]; exact hi
    exact ⟨xs, xs[i], (p.trans cut_sub).seq h, List.getElem?_eq_getElem hi'⟩
  stop := fun π H p => ⟨xs, (p.trans cut_sub).seq h, by rw [enumD_len, r.length]; exact Nat.le_refl _⟩
  bd := fun π H p l => by rw [enumD_len, ← r.length]; exact l.l _ _ ((p.trans cut_sub).seq h)
  yld := fun i d π H x H' hd p l y => by
    obtain ⟨T, z, rfl, hT, rfl, hz⟩ := y
    obtain ⟨d', h1, rfl⟩ := enumD_get hd
    obtain ⟨v, hv, rv⟩ := r.get h1
    have e := hz xs ((p.trans cut_sub).seq h)
    rw [hv] at e
    cases e
    exact pair_new hT l (.int _) (rv.same p)
theorem iteT_stable {K : PySem.W.Frag} {a : Addr} {xs : List V} {ds : List D} {G : Hp} (h : SqT K G a xs) (r : RpAll K G xs ds) : ItOk K true (IteT K a) (enumD ds) (fun π H => Same G (cut H π 0)) where
  cl := fun π H π' H' p s => p.trans s.zero
  clF := fun _ π H π' H' p s => p.trans s.zero
  fr := fun π H q o p t => p.trans (cut_frame t (by omega))
  go := fun i π H hi p _ => by
    rw [enumD_len] at hi
    have hi' : i < xs.length := by rw [r.length]; exact hi
    exact ⟨xs, xs[i], Same.seqT (p.trans cut_sub) h, List.getElem?_eq_getElem hi'⟩
  stop := fun π H p => ⟨xs, Same.seqT (p.trans cut_sub) h, by rw [enumD_len, r.length]⟩
  bd := fun π H p l => by rw [enumD_len, ← r.length]; exact l.t _ _ (Same.seqT (p.trans cut_sub) h)
  yld := fun i d π H x H' hd p l y => by
    obtain ⟨T, z, rfl, hT, rfl, hz⟩ := y
    obtain ⟨d', h1, rfl⟩ := enumD_get hd
    obtain ⟨v, hv, rv⟩ := r.get h1
    have e := hz xs (Same.seqT (p.trans cut_sub) h)
    rw [hv] at e
    cases e
    exact pair_new hT l (.int _) (rv.same p)
theorem xi_enum {d : D} {ds : List D} (C : CxIs R k X N sc) (B : Blt R.mg) (hg : IsGl sc "enumerate") (h : XE X Γ e Γ1 d) (hd : SeqD d ds) (hs : starEach [e] X.env = (false, eval e X.env) :: starEach [] X.env := by rfl) (hs2 : starEach [e] X.env = [(false, eval e X.env)] := by rfl) :
    XI X true Γ (.Tuple elts kk tpos) (.Call (.Name "enumerate" p) [e] [] pos) Γ1 (enumD ds) := by
  cases hd with
  | lst =>
    refine PI.imp (pi_enum (C.gl hg) (C.none B.enumerate) (xa_cons h xa_nil hs) hs2) fun σ H Q ⟨π, en, q⟩ => ⟨π, en, fun vs π' H' s e r => ?_⟩
    cases r with
    | cons r1 r2 =>
      cases r2
      cases r1 with
      | lst a b => exact ⟨_, _, rfl, SqL.of (cut_sub _ _ a), q _ _ π' H' s e (ite_stable (SqL.of a) b) (Same.refl _)⟩
  | tup =>
    refine PI.imp (pi_enumT (C.gl hg) (C.none B.enumerate) (xa_cons h xa_nil hs) hs2) fun σ H Q ⟨π, en, q⟩ => ⟨π, en, fun vs π' H' s e r => ?_⟩
    cases r with
    | cons r1 r2 =>
      cases r2
      cases r1 with
      | tup a b => exact ⟨_, _, rfl, Same.seqT cut_sub a, q _ _ π' H' s e (iteT_stable a b) (Same.refl _)⟩

def zipD (ds es : List D) : List D := List.zipWith (fun x y => D.tuple [x, y]) ds es
theorem zipD_get {ds es : List D} {i : Nat} {d : D} (h : (zipD ds es)[i]? = some d) : ∃ x y, ds[i]? = some x ∧ es[i]? = some y ∧ d = .tuple [x, y] := by
  unfold zipD at h
  rw [List.getElem?_zipWith] at h
  cases h1 : ds[i]? with
  | none => rw [h1] at h; simp at h
  | some x =>
    cases h2 : es[i]? with
    | none => rw [h1, h2] at h; simp at h
    | some y =>
      rw [h1, h2] at h
      exact ⟨x, y, rfl, rfl, by simpa using h.symm⟩
theorem zipD_len (ds es : List D) : (zipD ds es).length = min ds.length es.length := by simp [zipD]
theorem itzT_stable {K : PySem.W.Frag} {a b : Addr} {xs ys : List V} {ds es : List D} {G : Hp} (h : SqT K G a xs) (r : RpAll K G xs ds) (h' : SqT K G b ys) (r' : RpAll K G ys es) : ItOk K true (RZ.ItzT K a b) (zipD ds es) (fun π H => Same G (cut H π 0)) where
  cl := fun π H π' H' p s => p.trans s.zero
  clF := fun _ π H π' H' p s => p.trans s.zero
  fr := fun π H q o p t => p.trans (cut_frame t (by omega))
  go := fun i π H hi p _ => by
    rw [zipD_len] at hi
    have h1 : i < xs.length := by rw [r.length]; omega
    have h2 : i < ys.length := by rw [r'.length]; omega
    exact ⟨xs, ys, xs[i], ys[i], Same.seqT (p.trans cut_sub) h, Same.seqT (p.trans cut_sub) h', List.getElem?_eq_getElem h1, List.getElem?_eq_getElem h2⟩
  stop := fun π H p => ⟨xs, ys, Same.seqT (p.trans cut_sub) h, Same.seqT (p.trans cut_sub) h', by rw [zipD_len, r.length, r'.length]; omega⟩
  bd := fun π H p l => by
    have := l.t _ _ (Same.seqT (p.trans cut_sub) h)
    rw [zipD_len, ← r.length]
    omega
  yld := fun i d π H x H' hd p l y => by
    obtain ⟨T, z, z', rfl, hT, rfl, hz, hz'⟩ := y
    obtain ⟨d1, d2, g1, g2, rfl⟩ := zipD_get hd
    obtain ⟨v, hv, rv⟩ := r.get g1
    obtain ⟨v', hv', rv'⟩ := r'.get g2
    have e := hz xs (Same.seqT (p.trans cut_sub) h)
    have e' := hz' ys (Same.seqT (p.trans cut_sub) h')
    rw [hv] at e
    rw [hv'] at e'
    cases e
    cases e'
    exact pair_new hT l (rv.same p) (rv'.same p)
theorem itz_stable {K : PySem.W.Frag} {a b : Addr} {xs ys : List V} {ds es : List D} {G : Hp} (h : SqL K G a xs) (r : RpAll K G xs ds) (h' : SqL K G b ys) (r' : RpAll K G ys es) : ItOk K true (Itz K a b) (zipD ds es) (fun π H => Same G (cut H π 0)) where
  cl := fun π H π' H' p s => p.trans s.zero
  clF := fun _ π H π' H' p s => p.trans s.zero
  fr := fun π H q o p t => p.trans (cut_frame t (by omega))
  go := fun i π H hi p _ => by
    rw [zipD_len] at hi
    have h1 : i < xs.length := by rw [r.length]; omega
    have h2 : i < ys.length := by rw [r'.length]; omega
    exact ⟨xs, ys, xs[i], ys[i], (p.trans cut_sub).seq h, (p.trans cut_sub).seq h', List.getElem?_eq_getElem h1, List.getElem?_eq_getElem h2⟩
  stop := fun π H p => ⟨xs, ys, (p.trans cut_sub).seq h, (p.trans cut_sub).seq h', by rw [zipD_len, r.length, r'.length]; omega⟩
  bd := fun π H p l => by
    have := l.l _ _ ((p.trans cut_sub).seq h)
    rw [zipD_len, ← r.length]
    omega
  yld := fun i d π H x H' hd p l y => by
    obtain ⟨T, z, z', rfl, hT, rfl, hz, hz'⟩ := y
    obtain ⟨d1, d2, g1, g2, rfl⟩ := zipD_get hd
    obtain ⟨v, hv, rv⟩ := r.get g1
    obtain ⟨v', hv', rv'⟩ := r'.get g2
    have e := hz xs ((p.trans cut_sub).seq h)
    have e' := hz' ys ((p.trans cut_sub).seq h')
    rw [hv] at e
    rw [hv'] at e'
    cases e
    cases e'
    exact pair_new hT l (rv.same p) (rv'.same p)
theorem xi_zipT {ds ds' : List D} (C : CxIs R k X N sc) (B : Blt R.mg) (hg : IsGl sc "zip") (h : XE X Γ a Γ1 (.tuple ds)) (h' : XE X Γ1 b Γ2 (.tuple ds')) (hs : starEach [a, b] X.env = (false, eval a X.env) :: starEach [b] X.env := by rfl) (hs1 : starEach [b] X.env = (false, eval b X.env) :: starEach [] X.env := by rfl) (hpl : (backTo pos (starEach [b] X.env)).any (·.1) = false := by rfl) :
    XI X true Γ (.Tuple elts kk tpos) (.Call (.Name "zip" p) [a, b] [] pos) Γ2 (zipD ds ds') := by
  refine PI.imp (RZ.pi_zipA (C.gl hg) (C.none B.zip) (xa_cons h (xa_cons h' xa_nil hs1) hs) hs hpl) fun σ H Q ⟨π, en, q⟩ => ⟨π, en, fun vs π' H' s e r => ?_⟩
  cases r with
  | cons r1 r2 =>
    cases r2 with
    | cons r2 r3 =>
      cases r3
      cases r1 with
      | tup a b =>
        cases r2 with
        | tup a' b' => exact ⟨_, _, _, _, rfl, .inr ⟨Same.seqT cut_sub a, Same.seqT cut_sub a', q _ _ π' H' s e (itzT_stable a b a' b') (Same.refl _)⟩⟩
theorem xi_zipL {ds ds' : List D} (C : CxIs R k X N sc) (B : Blt R.mg) (hg : IsGl sc "zip") (h : XE X Γ a Γ1 (.list ds)) (h' : XE X Γ1 b Γ2 (.list ds')) (hs : starEach [a, b] X.env = (false, eval a X.env) :: starEach [b] X.env := by rfl) (hs1 : starEach [b] X.env = (false, eval b X.env) :: starEach [] X.env := by rfl) (hpl : (backTo pos (starEach [b] X.env)).any (·.1) = false := by rfl) :
    XI X true Γ (.Tuple elts kk tpos) (.Call (.Name "zip" p) [a, b] [] pos) Γ2 (zipD ds ds') := by
  refine PI.imp (RZ.pi_zipA (C.gl hg) (C.none B.zip) (xa_cons h (xa_cons h' xa_nil hs1) hs) hs hpl) fun σ H Q ⟨π, en, q⟩ => ⟨π, en, fun vs π' H' s e r => ?_⟩
  cases r with
  | cons r1 r2 =>
    cases r2 with
    | cons r2 r3 =>
      cases r3
      cases r1 with
      | lst a b =>
        cases r2 with
        | lst a' b' => exact ⟨_, _, _, _, rfl, .inl ⟨SqL.of (cut_sub _ _ a), SqL.of (cut_sub _ _ a'), q _ _ π' H' s e (itz_stable (SqL.of a) b (SqL.of a') b') (Same.refl _)⟩⟩
def setOb (w : World) (ns : List Int) : Ob := ⟨fun v G => ∃ a S n, v = .ref a ∧ G a = some (SetO w a S n) ∧ (∀ k : Int, S k = true ↔ k ∈ ns) ∧ n ≤ ns.length, fun sm ⟨a, S, n, h1, h2, h3, h4⟩ => ⟨a, S, n, h1, sm _ _ h2, h3, h4⟩⟩
def rSetI (K : PySem.W.Frag) (w : World) : List V → Hp → VK → Prop := fun vs H Q => ∃ (a : Addr) (ns : List Int), vs = [.ref a] ∧ (SqL K H a (ns.map V.int) ∨ SqT K H a (ns.map V.int)) ∧ ns.length ≤ 1000 ∧ ∀ p n, H p = none → n ≤ ns.length → Q (.ref p) (upd H p (SetO w p (fun j => decide (j ∈ ns)) n))
theorem cr_setI (hc : X.calm = true) : CallR X (.type "set") (rSetI X.K X.w) := by
  intro pins s σ H vs us Q I r ⟨a, ns, e, hq, hl, q⟩
  subst e
  cases r with
  | cons r rr =>
    cases rr
    cases r
    have hd := I.ok.hd hc
    rcases hq with hq | hq
    · obtain ⟨its, rv, pl, hz⟩ := I.list hq
      refine call_set_lstI ns hd pl.isList (ints_of_vals rv) (by unfold scanBound; omega) fun h' tk c R1 hcn kk => ?_
      exact ⟨.ref _, _, I.laid (o := SetO X.w s.heap.objs.size (fun j => decide (j ∈ ns)) c) kk (Nat.le_refl _) (setO_new R1), rfl, q _ c (I.hok.fresh (Nat.le_refl _)) hcn⟩
    · obtain ⟨its, rv, pl, hz⟩ := I.tuple hq
      refine call_set_tupI ns hd (show s.heap.IsTuple a its.toArray from pl) (ints_of_vals rv) (by unfold scanBound; omega) fun h' tk c R1 hcn kk => ?_
      exact ⟨.ref _, _, I.laid (o := SetO X.w s.heap.objs.size (fun j => decide (j ∈ ns)) c) kk (Nat.le_refl _) (setO_new R1), rfl, q _ c (I.hok.fresh (Nat.le_refl _)) hcn⟩
theorem xe_setI {d : D} {ns : List Int} (C : CxIs R k X N sc) (B : Blt R.mg) (hg : IsGl sc "set") (h : XE X Γ e Γ1 d) (hd : SeqD d (ns.map D.int)) (hl : ns.length ≤ 1000) (hs : starEach [e] X.env = (false, eval e X.env) :: starEach [] X.env := by rfl) :
    XE X Γ (.Call (.Name "set" p) [e] [] pos) Γ1 (.ob (setOb R.w ns)) := xe_callTy C (cr_setI C.calm) hg (C.none B.set) (by decide +kernel) (xa_cons h xa_nil hs) (fun Γ π H σ vs Q en r k => by
    rw [C.w]
    cases r with
    | cons r1 r2 =>
      cases r2
      have fin : ∀ p n, H p = none → n ≤ ns.length → lenQ X.K Q (.ref p) (upd H p (SetO R.w p (fun j => decide (j ∈ ns)) n)) := fun p n hp hn => k.new en hp fun G sm hg => .ob ⟨p, _, n, rfl, hg, fun j => by simp, hn⟩
      cases hd with
      | lst =>
        cases r1 with
        | lst a b => exact ⟨_, ns, rfl, .inl (SqL.of (by rw [← b.intsV]; exact cut_sub _ _ a)), hl, fin⟩
      | tup =>
        cases r1 with
        | tup a b => exact ⟨_, ns, rfl, .inr (by rw [← b.intsV]; exact Same.seqT cut_sub a), hl, fin⟩) (he := hs)
def sortedSet (ns : List Int) : List Int := (ns.mergeSort fun a b => decide (a ≤ b)).eraseDups
theorem pw_ext : ∀ {l m : List Int}, l.Pairwise (· < ·) → m.Pairwise (· < ·) → (∀ k, k ∈ l ↔ k ∈ m) → l = m
  | [], [], _, _, _ => rfl
  | [], y :: m, _, _, h => by
    have := (h y).mpr List.mem_cons_self
    cases this
  | x :: l, [], _, _, h => by
    have := (h x).mp List.mem_cons_self
    cases this
  | x :: l, y :: m, hl, hm, h => by
    obtain ⟨a1, a2⟩ := List.pairwise_cons.mp hl
    obtain ⟨b1, b2⟩ := List.pairwise_cons.mp hm
    have e : x = y := by
      rcases List.mem_cons.mp ((h x).mp List.mem_cons_self) with e | h1
      · exact e
      · rcases List.mem_cons.mp ((h y).mpr List.mem_cons_self) with e | h2
        · exact e.symm
        · have := b1 x h1
          have := a1 y h2
          omega
    subst e
    rw [pw_ext a2 b2 fun k => ?_]
    constructor
    · intro hk
      rcases List.mem_cons.mp ((h k).mp (List.mem_cons_of_mem _ hk)) with e | h1
      · subst e; exact absurd (a1 _ hk) (Int.lt_irrefl _)
      · exact h1
    · intro hk
      rcases List.mem_cons.mp ((h k).mpr (List.mem_cons_of_mem _ hk)) with e | h1
      · subst e; exact absurd (b1 _ hk) (Int.lt_irrefl _)
      · exact h1
theorem xf_sortSet {ns ms : List Int} (C : CxIs R k X N sc) (B : Blt R.mg) (hg : IsGl sc "sorted") (h : XE X Γ e Γ1 (.ob (setOb R.w ns))) (hl : ns.length < 64) (hm : ms.Pairwise (· < ·)) (hmm : ∀ k, k ∈ ms ↔ k ∈ ns) (hs : starEach [e] X.env = (false, eval e X.env) :: starEach [] X.env := by rfl) :
    XF X Γ (.Call (.Name "sorted" p) [e] [] pos) Γ1 (ms.map D.int) := xf_of (pe_callB (cr_sortedSet C.calm) (C.gl hg) (C.none B.sorted) (by decide +kernel) (xa_cons h xa_nil hs) (he := hs)) (tCB_ofF fun Γ π H σ vs Q en r k => by
    rw [C.w]
    cases r with
    | cons r1 r2 =>
      cases r2
      cases r1 with
      | ob r1 =>
        obtain ⟨a, S, n, rfl, h1, h2, h3⟩ := r1
        refine ⟨a, S, n, rfl, cut_sub _ _ h1, by omega, fun os p so mo lo hp => ?_⟩
        have e : os = ms := pw_ext so hm fun k => by rw [mo, h2, hmm]
        subst e
        exact k.new en hp (RpAll.ints os))
end
end Y
set_option Elab.async false
set_option linter.all false
set_option maxRecDepth 100000
set_option maxHeartbeats 4000000
namespace Y
open PySem PySem.Spec PyProof.Rows L2
section
variable {κ : Type} [DecidableEq κ] {α : Type}
def getG (kvs : List (κ × α)) (k : κ) : Option α := (kvs.find? fun kv => decide (kv.1 = k)).map (·.2)
def putG (kvs : List (κ × α)) (k : κ) (v : α) : List (κ × α) :=
  if (kvs.any fun kv => decide (kv.1 = k)) = true then kvs.map (fun kv => if kv.1 = k then (kv.1, v) else kv) else kvs ++ [(k, v)]
variable {K : PySem.W.Frag} {G : Hp}
theorem KvOk.get (k : κ) : ∀ {vs : List (κ × V)} {ds : List (κ × D)}, KvOk K G vs ds → (getG ds k = none ∧ valV vs k = none) ∨ ∃ d v, getG ds k = some d ∧ valV vs k = some v ∧ Rp K G v d
  | _, _, .nil => .inl ⟨rfl, rfl⟩
  | _, _, .cons (k := k') (v := v) (d := d) r t => by
    by_cases e : k' = k
    · exact .inr ⟨d, v, by simp [getG, List.find?_cons, e], by simp [valV, List.find?_cons, e], r⟩
    · rcases t.get k with ⟨h1, h2⟩ | ⟨d', v', h1, h2, h3⟩
      · exact .inl ⟨by simpa [getG, List.find?_cons, e] using h1, by simpa [valV, List.find?_cons, e] using h2⟩
      · exact .inr ⟨d', v', by simpa [getG, List.find?_cons, e] using h1, by simpa [valV, List.find?_cons, e] using h2, h3⟩
theorem KvOk.any (k : κ) : ∀ {vs : List (κ × V)} {ds : List (κ × D)}, KvOk K G vs ds → (vs.any fun kv => decide (kv.1 = k)) = (ds.any fun kv => decide (kv.1 = k))
  | _, _, .nil => rfl
  | _, _, .cons r t => by rw [List.any_cons, List.any_cons, t.any k]
theorem KvOk.map (k : κ) {v : V} {d : D} (h : Rp K G v d) : ∀ {vs : List (κ × V)} {ds : List (κ × D)}, KvOk K G vs ds → KvOk K G (vs.map fun kv => if kv.1 = k then (kv.1, v) else kv) (ds.map fun kv => if kv.1 = k then (kv.1, d) else kv)
  | _, _, .nil => .nil
  | _, _, .cons (k := k') (v := v') (d := d') r t => by
    rw [List.map_cons, List.map_cons]
    by_cases e : k' = k
    · rw [if_pos e, if_pos e]; exact .cons h (t.map k h)
    · rw [if_neg e, if_neg e]; exact .cons r (t.map k h)
theorem KvOk.append : ∀ {vs ws : List (κ × V)} {ds es : List (κ × D)}, KvOk K G vs ds → KvOk K G ws es → KvOk K G (vs ++ ws) (ds ++ es)
  | _, _, _, _, .nil, h => h
  | _, _, _, _, .cons r t, h => .cons r (t.append h)
theorem KvOk.put (k : κ) {v : V} {d : D} (h : Rp K G v d) {vs : List (κ × V)} {ds : List (κ × D)} (t : KvOk K G vs ds) : KvOk K G (putK vs k v) (putG ds k d) := by
  unfold putK putG
  rw [t.any k]
  split
  · exact t.map k h
  · exact t.append (.cons h .nil)
theorem KvOk.len : ∀ {vs : List (κ × V)} {ds : List (κ × D)}, KvOk K G vs ds → vs.length = ds.length
  | _, _, .nil => rfl
  | _, _, .cons _ t => by simp [t.len]
theorem KvOk.keys : ∀ {vs : List (κ × V)} {ds : List (κ × D)}, KvOk K G vs ds → vs.map (·.1) = ds.map (·.1)
  | _, _, .nil => rfl
  | _, _, .cons _ t => by simp [t.keys]
theorem putG_len (kvs : List (κ × α)) (k : κ) (v : α) : (putG kvs k v).length ≤ kvs.length + 1 := by
  unfold putG
  split <;> simp
end
def kD : Key → D
  | .inl i => .int i
  | .inr x => .str x
theorem kD_V {K : PySem.W.Frag} {G : Hp} {v : V} {q : Key} (r : Rp K G v (kD q)) : v = kV q := by
  cases q with
  | inl i => cases r; rfl
  | inr x => cases r; rfl
theorem LenOk.other {K : PySem.W.Frag} {H : Hp} {p : Addr} {o : HO} (l : LenOk K H) (h : ∀ xs, o ≠ .lst xs ∧ o ≠ .tup xs ∧ (∀ b, o ≠ .frz b (.lst xs)) ∧ ∀ b, o ≠ .frz b (.tup xs)) : LenOk K (upd H p o) := by
  have key : ∀ a u, (∃ xs : List V, u = HO.lst xs ∨ u = HO.tup xs) → Rd (upd H p o) a u → Rd H a u := fun a u ⟨xs, hu⟩ r => by
    by_cases e : a = p
    · subst e
      rcases r with r | ⟨b, r⟩
      · rw [upd_same] at r
        rcases hu with rfl | rfl
        · exact absurd (Option.some.inj r) (h xs).1
        · exact absurd (Option.some.inj r) (h xs).2.1
      · rw [upd_same] at r
        rcases hu with rfl | rfl
        · exact absurd (Option.some.inj r) ((h xs).2.2.1 b)
        · exact absurd (Option.some.inj r) ((h xs).2.2.2 b)
    · rcases r with r | ⟨b, r⟩
      · rw [upd_ne e] at r; exact .inl r
      · rw [upd_ne e] at r; exact .inr ⟨b, r⟩
  refine ⟨fun a xs q => ?_, fun a xs q => ?_⟩
  · rcases q with q | q
    · exact l.l a xs (.inl (key a _ ⟨xs, .inl rfl⟩ q))
    · exact l.l a xs (.inr q)
  · rcases q with q | q
    · exact l.t a xs (.inl (key a _ ⟨xs, .inr rfl⟩ q))
    · exact l.t a xs (.inr q)
section
variable {R : Rw} {k j : Nat} {X : Cx} {N : List Str} {sc : Scope} {E : WX} {Γ Γ1 Γ2 Γ3 : En} {po po' : Po} {a b c e f tg iter : Expr} {es elts : List Expr} {pos p apos npos spos tpos cpos : Pos} {st : Stmt} {ss rest body : List Stmt} {kk : Nat}
theorem EnOk.dKAt {K : PySem.W.Frag} {π : Tag} {H : Hp} {σ : L2.St} {i : Nat} {ds : List (Key × D)} {v : V} (h : EnOk K Γ π H σ) (hΓ : Γ.sl[i]? = some (some (.dK ds))) (hv : σ[i]? = some (some v)) : ∃ q xs, v = .ref q ∧ π q = i + 3 ∧ H q = some (.dK xs) ∧ KvOk K (cut H π 0) xs ds := by
  obtain ⟨w, h1, q, xs, h2, h3, h4⟩ := h.at_ i _ hΓ
  rw [hv] at h1
  cases h1
  exact ⟨q, xs, h2, (cut_some h3).1, (cut_some h3).2, h4⟩
theorem pe_ownK (C : CxIs R k X N sc) (i : Nat) {x : Str} {ds : List (Key × D)} (hΓ : Γ.sl[i]? = some (some (.dK ds))) (hN : N[i]? = some x) (hv : Vis sc x) (hd : (x == ("__debug__" : Str)) = false := by decide) (hcd : (x == ("__classdict__" : Str)) = false := by decide) :
    PE X (.Name x pos) (fun σ H Q => ∃ π, EnOk X.K Γ π H σ ∧ ∀ q xs, σ[i]? = some (some (.ref q)) → π q = i + 3 → H q = some (.dK xs) → KvOk X.K (cut H π 0) xs ds → Q (.ref q) H) := ⟨fun pins s σ H Q I ⟨π, en, z⟩ => by
  obtain ⟨w, h1, h2⟩ := en.at_ i _ hΓ
  obtain ⟨q, xs, rfl, h3, h4, h5⟩ := en.dKAt hΓ h1
  exact (pe_var (i := i) (by rw [C.n]; exact hN) (C.vis hv) hd hcd).run pins s σ H Q I ⟨_, h1, z q xs h1 h3 h4 h5⟩⟩
theorem xe_dget2 (C : CxIs R k X N sc) (i : Nat) {x : Str} {ds : List (Key × D)} {q : Key} {d : D} (hΓ : Γ.sl[i]? = some (some (.dK ds))) (hΓ2 : Γ2.sl[i]? = some (some (.dK ds))) (hN : N[i]? = some x) (hv : Vis sc x) (he : XE X Γ e Γ1 (kD q)) (hf : XE X Γ1 f Γ2 d)
    (hd : (x == ("__debug__" : Str)) = false := by decide) (hcd : (x == ("__classdict__" : Str)) = false := by decide) (m : M2 X (.Name x npos) "get" apos e f cpos := by exact ⟨rfl, rfl, rfl, rfl⟩) :
    XE X Γ (.Call (.Attribute (.Name x npos) "get" apos) [e, f] [] cpos) Γ2 ((getG ds q).getD d) := by
  refine xe_of (pe_dget2 (hu_of C.room) (pe_ownK C i hΓ hN hv hd hcd) he hf m) fun σ H π Q en kx => ?_
  refine ⟨π, en, fun w xs hσ tg hw kv => ⟨w, rfl, .inl ⟨xs, .inl hw⟩, π, en, fun v1 π1 H1 s1 e1 r1 => ⟨π1, e1, fun v2 π2 H2 s2 e2 r2 => ?_⟩⟩⟩
  obtain ⟨w', xs', h1, h2, h3, h4⟩ := e2.dKAt hΓ2 hσ
  cases h1
  rw [kD_V r1]
  refine ⟨valV xs' q, DGet.k h3, fun _ => ?_⟩
  rcases h4.get q with ⟨g1, g2⟩ | ⟨d', v', g1, g2, g3⟩
  · rw [g1] at kx
    rw [g2]
    exact kx v2 π2 H2 (s1.trans s2) e2 r2
  · rw [g1] at kx
    rw [g2]
    exact kx v' π2 H2 (s1.trans s2) e2 g3
theorem xe_dix (C : CxIs R k X N sc) (i : Nat) {x : Str} {ds : List (Key × D)} {q : Key} {d : D} (hΓ : Γ.sl[i]? = some (some (.dK ds))) (hΓ1 : Γ1.sl[i]? = some (some (.dK ds))) (hN : N[i]? = some x) (hv : Vis sc x) (he : XE X Γ e Γ1 (kD q)) (hg : getG ds q = some d) (hs : NoSl e := by exact fun _ _ => rfl)
    (hd : (x == ("__debug__" : Str)) = false := by decide) (hcd : (x == ("__classdict__" : Str)) = false := by decide) : XE X Γ (.Subscript (.Name x npos) e pos) Γ1 d := by
  refine xe_of (pe_dget (hu_of C.room) (pe_ownK C i hΓ hN hv hd hcd) he hs) fun σ H π Q en kx => ?_
  refine ⟨π, en, fun w xs hσ tg hw kv => ⟨π, en, fun v1 π1 H1 s1 e1 r1 => ?_⟩⟩
  obtain ⟨w', xs', h1, h2, h3, h4⟩ := e1.dKAt hΓ1 hσ
  cases h1
  rw [kD_V r1]
  rcases h4.get q with ⟨g1, g2⟩ | ⟨d', v', g1, g2, g3⟩
  · rw [hg] at g1; cases g1
  · rw [hg] at g1
    cases g1
    exact ⟨w, v', rfl, by rw [← g2]; exact DGet.k h3, fun _ => kx v' π1 H1 s1 e1 g3⟩
theorem st_dnew (C : CxIs R k X N sc) (i : Nat) {x : Str} (hN : N[i]? = some x) (hx : Loc sc x) (hf : X.fn x = true ∨ sc.names.lookup x = some .local) (hr : po.nx (Γ.setS i (.dK []))) (hs : swapsWith (.Dict [] [] p) (some (.Name x npos)) pos.line X.env = pure false := by rfl) : ST X E Γ (.Assign [.Name x npos] (.Dict [] [] p) pos) po :=
  PS.len (ps_set (i := i) (by rw [C.n]; exact C.nd) (by rw [C.n]; exact hN) (by rw [C.sc]; exact hx) pe_dnewK hs (by rw [C.sc]; exact hf)) fun D σ H ⟨π, en, kb⟩ q hq l =>
    kb.nx _ _ (setT π q (i + 3)) _ hr (fun a o h n => ⟨by rw [upd_ne (ne_of_none h hq)]; exact h, setT_ne (ne_of_none h hq)⟩) ((en.pur (Pur.new (i + 3) hq) l).setS ⟨q, [], rfl, cut_at setT_same upd_same, .nil⟩)
theorem st_dput (C : CxIs R k X N sc) (i : Nat) {x : Str} {ds : List (Key × D)} {q : Key} {d : D} (hΓ : Γ.sl[i]? = some (some (.dK ds))) (hN : N[i]? = some x) (hv : Vis sc x) (hval : XE X Γ f Γ d) (he : XE X Γ e Γ (kD q)) (hl : ds.length < 100000) (hr : po.nx (Γ.setS i (.dK (putG ds q d))))
    (hs : swapsWith f (some (.Subscript (.Name x npos) e p)) pos.line X.env = pure false := by rfl) (hd : (x == ("__debug__" : Str)) = false := by decide) (hcd : (x == ("__classdict__" : Str)) = false := by decide) : ST X E Γ (.Assign [.Subscript (.Name x npos) e p] f pos) po := by
  refine PS.len (ps_dput (hu_of C.room) (pe_ownK C i hΓ hN hv hd hcd) he hval hs) fun D σ H ⟨π, en, kb⟩ => ?_
  refine ⟨π, en, fun v1 π1 H1 s1 e1 r1 => ⟨π1, e1, fun w xs hσ tg hw kv => ⟨π1, e1, fun v2 π2 H2 s2 e2 r2 => ?_⟩⟩⟩
  obtain ⟨w', xs', h1, h2, h3, h4⟩ := e2.dKAt hΓ hσ
  cases h1
  rw [kD_V r2]
  refine ⟨w, _, rfl, DPut.k h3 (by rw [h4.len]; exact Nat.lt_of_lt_of_le hl (by decide)), fun l => ?_⟩
  refine kb.nx _ σ π2 _ hr ((s1.trans s2).fix.trans (fix_put h2)) (e2.put hσ h2 (fun G O sm ho => ⟨w, _, rfl, ho, (h4.same sm).put q (r1.same (s2.zero.trans sm))⟩) l)
theorem xe_dlen (C : CxIs R k X N sc) (B : Blt R.mg) (hg : IsGl sc "len") (i : Nat) {x : Str} {ds : List (Key × D)} (hΓ : Γ.sl[i]? = some (some (.dK ds))) (hN : N[i]? = some x) (hv : Vis sc x) (hd : (x == ("__debug__" : Str)) = false := by decide) (hcd : (x == ("__classdict__" : Str)) = false := by decide)
    (hs : starEach [.Name x npos] X.env = (false, eval (.Name x npos) X.env) :: starEach [] X.env := by rfl) : XE X Γ (.Call (.Name "len" p) [.Name x npos] [] pos) Γ (.int ds.length) := by
  refine xe_of (pe_callB call_lenD (C.gl hg) (C.none B.len) PySem.boot_len (pa_cons (pe_ownK C i hΓ hN hv hd hcd) pa_nil hs) (he := hs)) fun σ H π Q en kx => ?_
  refine ⟨π, en, fun w xs hσ tg hw kv => ⟨w, xs, rfl, hw, fun _ => ?_⟩⟩
  rw [kv.len]
  exact kx _ π H Stp.refl en (.int _)
end
end Y
set_option Elab.async false
set_option linter.all false
set_option maxRecDepth 100000
set_option maxHeartbeats 400000
namespace Y
open PySem PySem.Spec PyProof.Rows L2
section
variable {R : Rw} {k j : Nat} {X : Cx} {N : List Str} {sc : Scope} {E : WX} {Γ Γ1 Γ2 Γ3 : En} {po po' : Po} {a b c e f tg iter : Expr} {es elts : List Expr} {pos p apos npos spos tpos cpos p1 p2 p3 : Pos} {st : Stmt} {ss rest body : List Stmt} {kk : Nat} {al : Addr} {ms : MS}
theorem keyCG : ¬ sC = sG := by decide
theorem keyCS : ¬ sC = sS := by decide
theorem keyGS : ¬ sG = sS := by decide
theorem keyGC : ¬ sG = sC := by decide
theorem keySG : ¬ sS = sG := by decide
abbrev mDict (ms : MS) : List (Key × V) := [(.inr sC, .ref ms.c), (.inr sG, .ref ms.g), (.inr sS, .int ms.spot)]
theorem val_C : valV (mDict ms) (.inr sC) = some (.ref ms.c) := by simp [valV, List.find?_cons]
theorem val_G : valV (mDict ms) (.inr sG) = some (.ref ms.g) := by simp [valV, List.find?_cons, keyCG]
theorem val_S : valV (mDict ms) (.inr sS) = some (.int ms.spot) := by simp [valV, List.find?_cons, keyCS, keyGS]
theorem put_S (i : Int) : putK (mDict ms) (.inr sS) (.int i) = mDict { ms with spot := i } := by simp [putK, keyCS, keyGS]
theorem put_G (g : Addr) : putK (mDict ms) (.inr sG) (.ref g) = mDict { ms with g := g } := by simp [putK, keyCG, keyGS, keySG]
theorem EnOk.muAt {K : PySem.W.Frag} {π : Tag} {H : Hp} {σ : L2.St} (h : EnOk K Γ π H σ) (hm : Γ.mu = some (al, ms)) : (π al = 2 ∧ H al = some (.dK (mDict ms))) ∧ cut H π 0 ms.c = some (.lst (ms.cells.map V.int)) ∧ π ms.g = 2 ∧ H ms.g = some (.lst (ms.great.map V.int)) := by
  have := h.mu
  rw [hm] at this
  obtain ⟨h1, h2, h3⟩ := this
  exact ⟨cut_some h1, h2, cut_some h3⟩
theorem xe_mget {x : Str} {d : D} {i : Nat} (C : CxIs R k X N sc) (hm : Γ.mu = some (al, ms)) (he : XE X Γ e Γ (.ref al)) (hv : ∀ G : Hp, G ms.c = some (.lst (ms.cells.map V.int)) → ∃ v, valV (mDict ms) (.inr x) = some v ∧ Rp X.K G v d) : XE X Γ (.Subscript e (.Constant (.str x) i p) pos) Γ d := by
  refine xe_of (pe_dget (hu_of C.room) he (pe_str (x := x)) (by exact fun _ _ => rfl)) fun σ H π Q en kx => ⟨π, en, fun v π1 H1 s1 e1 r1 => ?_⟩
  cases r1 with
  | ref =>
    obtain ⟨⟨h1, h2⟩, h3, h4, h5⟩ := e1.muAt hm
    obtain ⟨w, h6, h7⟩ := hv _ h3
    exact ⟨al, w, rfl, .inl ⟨_, .inr x, .inl h2, rfl, h6.symm⟩, fun _ => kx w π1 H1 s1 e1 h7⟩
theorem xe_mspot {i : Nat} (C : CxIs R k X N sc) (hm : Γ.mu = some (al, ms)) (he : XE X Γ e Γ (.ref al)) : XE X Γ (.Subscript e (.Constant (.str "spot") i p) pos) Γ (.int ms.spot) := xe_mget C hm he fun G h => ⟨_, val_S, .int _⟩
theorem xe_mcells {i : Nat} (C : CxIs R k X N sc) (hm : Γ.mu = some (al, ms)) (he : XE X Γ e Γ (.ref al)) : XE X Γ (.Subscript e (.Constant (.str "cells") i p) pos) Γ (lI ms.cells) := xe_mget C hm he fun G h => ⟨_, val_C, .lst h (RpAll.ints _)⟩
theorem xe_mgreat {i : Nat} (C : CxIs R k X N sc) (hm : Γ.mu = some (al, ms)) (he : XE X Γ e Γ (.ref al)) : XE X Γ (.Subscript e (.Constant (.str "great") i p) pos) Γ (.ref ms.g) := xe_mget C hm he fun G h => ⟨_, val_G, .ref _⟩
theorem fix_mu {π : Tag} {H : Hp} {q : Addr} {o : HO} (hq : π q = 2) : Fix π H π (upd H q o) := fun a u h n => ⟨by rw [upd_ne (fun z => by rw [z] at n; omega)]; exact h, rfl⟩
theorem EnOk.mput {K : PySem.W.Frag} {π : Tag} {H : Hp} {σ : L2.St} {q : Addr} {o : HO} {mu' : Mu} (h : EnOk K Γ π H σ) (hq : π q = 2) (l : LenOk K (upd H q o)) (m : ∀ G O, Same (cut H π 0) G → (∀ a u, a ≠ q → cut H π 2 a = some u → O a = some u) → O q = some o → MuOk mu' G O) : EnOk K ⟨Γ.sl, mu'⟩ π (upd H q o) σ := by
  have n : ∀ t, t ≠ 2 → Same (cut H π t) (cut (upd H q o) π t) := fun t ht => cut_same fun a u e z => ⟨by rw [upd_ne (fun w => ht (by rw [← e, w]; exact hq))]; exact z, e⟩
  refine ⟨fun i s e => let ⟨v, h1, h2⟩ := h.at_ i s e; ⟨v, h1, h2.same (n 0 (by omega)) (n (i + 3) (by omega))⟩, m _ _ (n 0 (by omega)) (fun a u ne z => ?_) (cut_at hq upd_same), l, h.sl⟩
  obtain ⟨z1, z2⟩ := cut_some z
  exact cut_at z1 (by rw [upd_ne ne]; exact z2)
theorem st_mspot {i : Int} {n : Nat} (C : CxIs R k X N sc) (hm : Γ.mu = some (al, ms)) (he : XE X Γ e Γ (.ref al)) (hv : XE X Γ f Γ (.int i)) (hr : po.nx ⟨Γ.sl, some (al, { ms with spot := i })⟩) (hs : swapsWith f (some (.Subscript e (.Constant (.str "spot") n p) apos)) pos.line X.env = pure false := by rfl) :
    ST X E Γ (.Assign [.Subscript e (.Constant (.str "spot") n p) apos] f pos) po := by
  refine PS.len (ps_dput (hu_of C.room) he (pe_str (x := "spot")) hv hs) fun D σ H ⟨π, en, kb⟩ => ⟨π, en, fun v π1 H1 s1 e1 r1 => ⟨π1, e1, fun v2 π2 H2 s2 e2 r2 => ?_⟩⟩
  cases r1
  cases r2 with
  | ref =>
    obtain ⟨⟨h1, h2⟩, h3, h4, h5⟩ := e2.muAt hm
    refine ⟨al, _, rfl, .inl ⟨_, .inr sS, h2, rfl, by show 3 < sizeLine; decide, rfl⟩, fun l => ?_⟩
    rw [put_S] at l ⊢
    refine kb.nx _ σ π2 _ hr ((s1.trans s2).fix.trans (fix_mu h1)) (e2.mput h1 l fun G O sm oth hq => ⟨hq, sm _ _ h3, oth _ _ (fun z => ?_) (cut_at h4 h5)⟩)
    have z' : ms.g = al := z
    rw [z', h2] at h5
    cases h5
theorem xe_mix {i v : Int} (hm : Γ.mu = some (al, ms)) (he : XE X Γ e Γ (.ref ms.g)) (hi : XE X Γ f Γ (.int i)) (hz : atI ms.great i = some v) (hs : PlainIx f := by exact fun _ _ => rfl) : XE X Γ (.Subscript e f pos) Γ (.int v) := by
  refine xe_of (pe_ix ix_seq he hi hs) fun σ H π Q en kx => ⟨π, en, fun v1 π1 H1 s1 e1 r1 => ⟨π1, e1, fun v2 π2 H2 s2 e2 r2 => ?_⟩⟩
  cases r2
  cases r1 with
  | ref =>
    obtain ⟨_, h3, h4, h5⟩ := e2.muAt hm
    refine .inl ⟨_, _, i, .int v, rfl, rfl, SqL.of h5, ?_, fun _ => kx _ π2 H2 (s1.trans s2) e2 (.int _)⟩
    obtain ⟨j, g1, g2⟩ := atI_get hz
    unfold L2.atI
    rw [List.length_map, g1]
    simp [g2]
theorem xe_mlen (C : CxIs R k X N sc) (B : Blt R.mg) (hg : IsGl sc "len") (hm : Γ.mu = some (al, ms)) (he : XE X Γ e Γ (.ref ms.g)) (hs : starEach [e] X.env = (false, eval e X.env) :: starEach [] X.env := by rfl) : XE X Γ (.Call (.Name "len" p) [e] [] pos) Γ (.int ms.great.length) := by
  refine xe_of (pe_callB call_len (C.gl hg) (C.none B.len) PySem.boot_len (pa_cons he pa_nil hs) (he := hs)) fun σ H π Q en kx => ⟨π, en, fun v1 π1 H1 s1 e1 r1 => ?_⟩
  cases r1 with
  | ref =>
    obtain ⟨_, h3, h4, h5⟩ := e1.muAt hm
    exact ⟨_, _, rfl, .inl ⟨_, SqL.of h5, by rw [List.length_map]⟩, fun _ => kx _ π1 H1 s1 e1 (.int _)⟩
theorem xb_mne (C : CxIs R k X N sc) (hm : Γ.mu = some (al, ms)) (he : XE X Γ e Γ (.ref ms.g)) : XB X Γ (.Compare e [.NotEq] [.List [] p] pos) Γ (!deq (lI ms.great) (lI [])) := by
  have key : ∀ σ H (Q : VK), (∃ π, EnOk X.K Γ π H σ ∧ ∀ π' H', Stp π H π' H' → EnOk X.K Γ π' H' σ → Q (.bl (!deq (lI ms.great) (lI []))) H') → tOp (rNeD X.K) (rE X.K Γ Γ (.ref ms.g)) (rF X.K Γ Γ []) σ H Q := fun σ H Q ⟨π, en, q⟩ =>
    ⟨π, en, fun v1 π1 H1 s1 e1 r1 => ⟨π1, e1, fun q' xs π2 H2 s2 e2 tg hq fr r => by
      cases r1 with
      | ref =>
        obtain ⟨_, h3, h4, h5⟩ := e2.muAt hm
        cases r
        have d1 : Rp X.K H2 (.ref ms.g) (lI ms.great) := .lst h5 (RpAll.ints _)
        have d2 : Rp X.K H2 (.ref q') (lI []) := .lst hq .nil
        exact ⟨_, _, d1.dp _ _ (fit_pur _ _ (fit_lI _)), d2.dp _ _ (fit_pur _ _ (fit_lI _)), fit_shaped (fit_lI _), fit_shaped (fit_lI _), q π2 H2 (s1.trans s2) e2⟩⟩⟩
  exact ⟨xe_of (pe_cmpR (op_neD C.u) he (xf_lst xa_nil) (nomark _)) fun σ H π Q en q => key σ H _ ⟨π, en, fun π' H' s e _ => q _ π' H' s e (.bl _)⟩, PT.imp (pt_cmpR (op_neD C.u) he (xf_lst xa_nil) (nomark _)) fun σ H Q ⟨π, en, q⟩ => key σ H _ ⟨π, en, fun π' H' s e => ⟨_, rfl, q π' H' s e⟩⟩⟩
theorem st_mlot {i v : Int} {jj : Nat} (hm : Γ.mu = some (al, ms)) (he : XE X Γ e Γ (.ref ms.g)) (hi : XE X Γ f Γ (.int i)) (hv : XE X Γ c Γ (.int v)) (hj : ixN ms.great.length i = some jj) (hr : po.nx ⟨Γ.sl, some (al, { ms with great := ms.great.set jj v })⟩)
    (ha : ∀ v, assign (.Subscript e f p) X.env v = (do let ov ← holding [v] (eval e X.env); let iv ← holding [v, ov] (eval f X.env); standAt p; holding [v, ov, iv] (setItem ov iv v); release [v, ov, iv] []) := by intro _; rfl)
    (hs : swapsWithSole [.Subscript e f p] c pos.line X.env = pure false := by rfl) (hw : swappedStores [.Subscript e f p] c X.env = pure none := by rfl) (h1 : (assignEach [.Subscript e f p] X.env).map (·.2) = [assign (.Subscript e f p) X.env] := by rfl) : ST X E Γ (.Assign [.Subscript e f p] c pos) po := by
  refine PS.len (ps_asg hv (pg_sub he hi set_list ha) hs hw h1) fun D σ H ⟨π, en, kb⟩ => ⟨π, en, fun v1 π1 H1 s1 e1 r1 => ⟨π1, e1, fun v2 π2 H2 s2 e2 r2 => ⟨π2, e2, fun v3 π3 H3 s3 e3 r3 => ?_⟩⟩⟩
  cases r1
  cases r3
  cases r2 with
  | ref =>
    obtain ⟨⟨g1, g2⟩, h3, h4, h5⟩ := e3.muAt hm
    refine ⟨_, _, i, jj, rfl, rfl, h5, by rw [List.length_map]; exact hj, fun l => ?_⟩
    have e' : (List.map V.int ms.great).set jj (V.int v) = (ms.great.set jj v).map V.int := (List.map_set).symm
    rw [e'] at l ⊢
    refine kb.nx _ σ π3 _ hr (((s1.trans s2).trans s3).fix.trans (fix_mu h4)) (e3.mput h4 l fun G O sm oth hq => ⟨oth _ _ (fun z => ?_) (cut_at g1 g2), sm _ _ h3, hq⟩)
    have z' : al = ms.g := z
    rw [← z', g2] at h5
    cases h5
theorem LenOk.dict {K : PySem.W.Frag} {H : Hp} {p : Addr} (l : LenOk K H) (kvs : List (Key × V)) : LenOk K (upd H p (.dK kvs)) := l.other fun xs => ⟨fun h => (by cases h), fun h => (by cases h), fun b h => (by cases h), fun b h => (by cases h)⟩
theorem st_mnew {cells : List Int} {x : Str} {n1 n2 n3 n4 : Nat} (C : CxIs R k X N sc) (i : Nat) (hN : N[i]? = some x) (hx : Loc sc x) (hf : X.fn x = true ∨ sc.names.lookup x = some .local) (hv : XE X Γ f Γ (lI cells)) (hr : ∀ al c g, po.nx (En.setS ⟨Γ.sl, some (al, ⟨cells, [], 0, c, g⟩)⟩ i (.st (.ref al))))
    (hs : swapsWith (.Dict [some (.Constant (.str "cells") n1 p1), some (.Constant (.str "great") n2 p2), some (.Constant (.str "spot") n3 p3)] [f, .List [] apos, .Constant (.int 0) n4 tpos] p) (some (.Name x npos)) pos.line X.env = pure false := by rfl) :
    ST X E Γ (.Assign [.Name x npos] (.Dict [some (.Constant (.str "cells") n1 p1), some (.Constant (.str "great") n2 p2), some (.Constant (.str "spot") n3 p3)] [f, .List [] apos, .Constant (.int 0) n4 tpos] p) pos) po := by
  refine PS.len (ps_set (i := i) (by rw [C.n]; exact C.nd) (by rw [C.n]; exact hN) (by rw [C.sc]; exact hx) (pe_disp (pps_cons (pe_str (x := "cells")) hv (pps_cons (pe_str (x := "great")) (xf_lst (Γ := Γ) (Γ1 := Γ) xa_nil) (pps_cons (pe_str (x := "spot")) (pe_int (i := 0)) pps_nil))) rfl rfl (by simp) (by simp)) hs (by rw [C.sc]; exact hf)) fun D σ H ⟨π, en, kb⟩ q hq => ?_
  have pn := Pur.new (o := .dK []) 1 (π := π) hq
  have e0 := en.pur pn (en.len.dict [])
  refine ⟨_, e0, fun v1 π1 H1 s1 e1 r1 => ⟨π1, e1, fun g xs π2 H2 s2 e2 tg hg fr r2 => ?_⟩⟩
  cases r2
  cases r1 with
  | lst hc rc =>
    rename_i ca cvs
    have s12 := s1.trans s2
    obtain ⟨hq2, tq2⟩ := s12 q _ (upd_same) (by rw [setT_same]; decide)
    rw [setT_same] at tq2
    have hc2 := s2.zero _ _ hc
    have ec := rc.intsV
    subst ec
    refine ⟨hq2, [(.inr sC, .ref ca), (.inr sG, .ref g), (.inr sS, .int 0)], rfl, by simp, fun l => ?_⟩
    have em : mergeK [] [((.inr sC : Key), V.ref ca), (.inr sG, .ref g), (.inr sS, .int 0)] = [(.inr sC, .ref ca), (.inr sG, .ref g), (.inr sS, .int 0)] := by simp [mergeK, putK, keyCG, keyCS, keyGS]
    rw [em] at l ⊢
    have ngq : g ≠ q := fun z => by rw [z, hq2] at hg; cases hg
    have keep : ∀ t, t ≠ 1 → t ≠ 2 → Same (cut H2 π2 t) (cut (upd H2 q (.dK [(.inr sC, .ref ca), (.inr sG, .ref g), (.inr sS, .int 0)])) (setT (setT π2 q 2) g 2) t) := fun t t1 t2 => cut_same fun a o e z => by
      have na : a ≠ q := fun w => t1 (by rw [← e, w]; exact tq2)
      have nb : a ≠ g := fun w => t1 (by rw [← e, w]; exact tg)
      exact ⟨by rw [upd_ne na]; exact z, by rw [setT_ne nb, setT_ne na]; exact e⟩
    refine kb.nx _ _ (setT (setT π2 q 2) g 2) _ (hr q ca g) (fun a o h n => ?_) (EnOk.setS (Γ := ⟨Γ.sl, some (q, ⟨cells, [], 0, ca, g⟩)⟩) (s := .st (.ref q)) ⟨fun j s e => let ⟨v, h1, h2⟩ := e2.at_ j s e; ⟨v, h1, h2.same (keep 0 (by omega) (by omega)) (keep (j + 3) (by omega) (by omega))⟩, ⟨?_, keep 0 (by omega) (by omega) _ _ hc2, ?_⟩, l, e2.sl⟩ (Rp.ref _))
    · have na : a ≠ q := fun w => by rw [w, hq] at h; cases h
      have h1 := s12 a o (by rw [upd_ne na]; exact h) (by rw [setT_ne na]; omega)
      have nb : a ≠ g := fun w => by
        have h2 := s1 a o (by rw [upd_ne na]; exact h) (by rw [setT_ne na]; omega)
        have h3 := fr o (by rw [← w]; exact h2.1)
        rw [← w] at h3
        have h4 := h2.2
        rw [setT_ne na] at h4
        omega
      refine ⟨by rw [upd_ne na]; exact h1.1, ?_⟩
      rw [setT_ne nb, setT_ne na, h1.2, setT_ne na]
    · exact cut_at (by rw [setT_ne (Ne.symm ngq)]; exact setT_same) upd_same
    · exact cut_at setT_same (by rw [upd_ne ngq]; exact hg)
theorem st_mgreat {ns : List Int} {n : Nat} (C : CxIs R k X N sc) (hm : Γ.mu = some (al, ms)) (he : XE X Γ e Γ (.ref al)) (hv : XF X Γ f Γ (ns.map D.int)) (hr : ∀ g, po.nx ⟨Γ.sl, some (al, { ms with great := ns, g := g })⟩) (hs : swapsWith f (some (.Subscript e (.Constant (.str "great") n p) apos)) pos.line X.env = pure false := by rfl) :
    ST X E Γ (.Assign [.Subscript e (.Constant (.str "great") n p) apos] f pos) po := by
  have he' : PE X e (fun σ H Q => Q (.ref al) H ∧ ∃ π, EnOk X.K Γ π H σ ∧ ∀ v π' H', Stp π H π' H' → EnOk X.K Γ π' H' σ → v = .ref al → Q v H') := ⟨fun pins s σ H Q I ⟨_, π, en, kx⟩ => he.run pins s σ H Q I ⟨π, en, fun v π' H' s e r => by
    cases r with
    | ref => exact kx _ π' H' s e rfl⟩⟩
  refine PS.len (ps_dput (hu_of C.room) he (pe_str (x := "great")) hv hs) fun D σ H ⟨π, en, kb⟩ => ⟨π, en, fun g xs π1 H1 s1 e1 tg hg fr r1 => ⟨setT π1 g 1, e1.retag 1 tg, fun v2 π2 H2 s2 e2 r2 => ?_⟩⟩
  have eg := r1.intsV
  subst eg
  cases r2 with
  | ref =>
    obtain ⟨hg2, tg2⟩ := s2 g _ hg (by rw [setT_same]; decide)
    rw [setT_same] at tg2
    obtain ⟨⟨h1, h2⟩, h3, h4, h5⟩ := e2.muAt hm
    refine ⟨al, _, rfl, .inl ⟨_, .inr sG, h2, rfl, by show 3 < sizeLine; decide, rfl⟩, fun l => ?_⟩
    rw [put_G] at l ⊢
    have nga : al ≠ g := fun z => by rw [← z] at tg2; omega
    have keep : ∀ t, t ≠ 1 → t ≠ 2 → Same (cut H2 π2 t) (cut (upd H2 al (.dK (mDict { ms with g := g }))) (setT π2 g 2) t) := fun t t1 t2 => cut_same fun a o e z => by
      have na : a ≠ al := fun w => t2 (by rw [← e, w]; exact h1)
      have nb : a ≠ g := fun w => t1 (by rw [← e, w]; exact tg2)
      exact ⟨by rw [upd_ne na]; exact z, by rw [setT_ne nb]; exact e⟩
    refine kb.nx _ σ (setT π2 g 2) _ (hr g) (fun a o h n => ?_) ⟨fun j s e => let ⟨v, h1, h2⟩ := e2.at_ j s e; ⟨v, h1, h2.same (keep 0 (by omega) (by omega)) (keep (j + 3) (by omega) (by omega))⟩, ⟨?_, keep 0 (by omega) (by omega) _ _ h3, ?_⟩, l, e2.sl⟩
    · have h6 := s1 a o h (by omega)
      have nb : a ≠ g := fun w => by
        have := fr o (by rw [← w]; exact h)
        rw [← w] at this
        omega
      have h7 := s2 a o h6.1 (by rw [setT_ne nb]; omega)
      have na : a ≠ al := fun w => by
        have z2 := h7.2
        rw [setT_ne nb] at z2
        rw [← w] at h1
        omega
      refine ⟨by rw [upd_ne na]; exact h7.1, ?_⟩
      rw [setT_ne nb, h7.2, setT_ne nb, h6.2]
    · exact cut_at (by rw [setT_ne nga]; exact h1) upd_same
    · exact cut_at setT_same (by rw [upd_ne (Ne.symm nga)]; exact hg2)
theorem st_callG {x y : Str} {S : SpcG} {ds : List D} {P : Out} (C : CxIs R k X N sc) (i : Nat) (F : DefG R x j S) (hj : j ≤ k) (hg : IsGl sc x) (ha : XA X Γ (e :: es) Γ1 ds) (hS : S Γ1.mu ds P) (hP : ∀ mu' x, ¬ P mu' (.exc x)) (hN : N[i]? = some y) (hy : Loc sc y) (hf : X.fn y = true ∨ sc.names.lookup y = some .local)
    (hr : ∀ mu' d, P mu' (.ret d) → po.nx (En.setS ⟨Γ1.sl, mu'⟩ i (.st d))) (hdb : (x == ("__debug__" : Str)) = false := by decide) (hs : swapsWith (.Call (.Name x p) (e :: es) [] pos) (some (.Name y npos)) spos.line X.env = pure false := by rfl)
    (he : starEach (e :: es) X.env = (false, eval e X.env) :: starEach es X.env := by rfl) (hpl : (backTo pos (starEach es X.env)).any (·.1) = false := by rfl) : ST X E Γ (.Assign [.Name y npos] (.Call (.Name x p) (e :: es) [] pos) spos) po := by
  obtain ⟨f, fd, ps, F, hm, kp, hb⟩ := F.ex
  have F' : FnOk X.prog X.w X.K X.mg X.base (L2.CX X.prog X.w) j f fd ps (SpD X.K S) := by rw [C.P, C.w, C.K, C.mg, C.base]; exact F
  refine PS.imp (ps_set (i := i) (by rw [C.n]; exact C.nd) (by rw [C.n]; exact hN) (by rw [C.sc]; exact hy) (pe_call F' (C.room.mono hj) (C.gl hg) (by rw [C.mg]; exact hm) (by rw [C.K]; exact kp) (by rw [C.K]; exact hb) .nil (passNo (X := X) fun _ _ _ _ _ => cx_no) ha hdb he hpl) hs (by rw [C.sc]; exact hf)) fun D σ H ⟨π, en, kb⟩ => ?_
  refine ⟨π, en, fun vs π1 H1 s1 e1 r1 => ?_⟩
  show SpD X.K S (vs ++ []) H1 _ _
  rw [List.append_nil]
  exact ⟨π1, ds, Γ1.mu, P, hS, r1, e1.mu, e1.len, fun mu' d hp v π' H' s m l r => kb.nx _ _ π' H' (hr mu' d hp) (s1.trans s).fix ((e1.stp s m l).setS r), fun mu' x hp => (hP _ _ hp).elim⟩
end
end Y
set_option Elab.async false
set_option linter.all false
set_option maxRecDepth 100000
set_option maxHeartbeats 400000
namespace Y
open PySem PySem.Spec PyProof.Rows L2
def maxI : List Int → Int
  | [] => 0
  | [x] => x
  | x :: y :: r => max x (maxI (y :: r))
theorem maxI_mem : ∀ {ns : List Int}, ns ≠ [] → maxI ns ∈ ns
  | [], h => absurd rfl h
  | [x], _ => by simp [maxI]
  | x :: y :: r, _ => by
    have := maxI_mem (ns := y :: r) (by simp)
    simp only [maxI]
    rcases Int.le_total x (maxI (y :: r)) with h | h
    · rw [Int.max_eq_right h]; exact List.mem_cons_of_mem _ this
    · rw [Int.max_eq_left h]; exact List.mem_cons_self
theorem le_maxI : ∀ {ns : List Int} {y : Int}, y ∈ ns → y ≤ maxI ns
  | [x], y, h => by simp at h; simp [maxI, h]
  | x :: z :: r, y, h => by
    simp only [maxI]
    rcases List.mem_cons.mp h with e | h
    · subst e; exact Int.le_max_left _ _
    · exact Int.le_trans (le_maxI h) (Int.le_max_right _ _)
theorem maxI_eq {ns : List Int} {m : Int} (h : m ∈ ns) (hm : ∀ y ∈ ns, y ≤ m) : m = maxI ns := Int.le_antisymm (le_maxI h) (hm _ (maxI_mem (by intro z; subst z; cases h)))
section
variable {X : Cx} {s : Shared}
theorem max_walked {P : Program} {w : World} {A : Around} {E : Value → Shared → Prop} {Q : Value → Shared → Prop} {x : Value} (ns : List Int) (hne : 0 < ns.length) {I : Addr} {fp wr : List Addr} {St : Nat → Heap → Prop} {s2 : Shared} (W : Walks P w A.in1 I fp wr ns.length (fun i v => ∃ t, v = .int (ns.getD i 0) t) St) (st : St 0 s2.heap) (hfp : ∀ b ∈ fp, b < s2.heap.objs.size)
    (hi : ∀ {R : Value → Shared → Prop}, R (.ref I) s2 → wpAny (model P w) A.in1 (pyIter x) R E s) (h : ∀ h' tk t, (∀ b o, b ∉ wr → s2.heap.get? b = some o → h'.get? b = some o) → Q (.int (maxI ns) t) { s2 with heap := h', toks := tk }) : wpAny (model P w) A (call (.builtin "max") [x]) Q E s := by
  refine call_max_walk (hi ⟨I, fp, wr, ns.length, _, St, fun i j => decide (ns.getD i 0 > ns.getD j 0), rfl, W, st, hfp, hne, CmpOf.ints_gt (fun i => ns.getD i 0) (fun i v z => z), fun v h' tk hv hk => ?_⟩)
  obtain ⟨t, rfl⟩ := hv
  obtain ⟨m1, m2⟩ := argBest_gt (fun i => ns.getD i 0) (ns.length - 1)
  have e : ns.getD (argBest (fun i j => decide (ns.getD i 0 > ns.getD j 0)) (ns.length - 1)) 0 = maxI ns := by
    have m1' : argBest (fun i j => decide (ns.getD i 0 > ns.getD j 0)) (ns.length - 1) ≤ ns.length - 1 := m1
    refine maxI_eq (PySem.getD_mem (by omega)) fun y hy => ?_
    obtain ⟨j, hj, e⟩ := List.mem_iff_getElem.mp hy
    have z := m2 j (by omega)
    have e3 : ns.getD j 0 = y := by rw [List.getD_eq_getElem?_getD, List.getElem?_eq_getElem hj, ← e] <;> rfl
    rw [← e3]
    exact z
  rw [e]
  exact h h' tk t hk
def rMaxAny (K : PySem.W.Frag) : List V → Hp → VK → Prop := fun vs H Q => ∃ (a : Addr) (ns : List Int), vs = [.ref a] ∧ ns ≠ [] ∧ (SqL K H a (ns.map V.int) ∨ SqT K H a (ns.map V.int) ∨ ∃ kvs : List (Key × V), H a = some (.dK kvs) ∧ kvs.map (·.1) = ns.map Sum.inl) ∧ Q (.int (maxI ns)) H
theorem ints_at {its : List Value} {ns : List Int} (h : IntsAre its ns) {i : Nat} {v : Value} (e : its.toArray[i]? = some v) : ∃ t, v = .int (ns.getD i 0) t := by
  have := PyProof.Rows.IntsAre.int_at h i v (by simpa using e)
  exact this
theorem cr_maxAny (hc : X.calm = true) : CallR X (.builtin "max") (rMaxAny X.K) := by
  intro pins s σ H vs us Q I r ⟨a, ns, e, hne, hs, q⟩
  subst e
  have hne' : 0 < ns.length := List.length_pos_iff.mpr hne
  rw [Vals.ref1 r]
  rcases hs with hs | hs | ⟨kvs, hk, ek⟩
  · obtain ⟨its, rv, hl, _⟩ := I.list hs
    refine max_raw (I.ok.hd hc) hl.isList rv.ints hne' fun h' tk m t' hk h1 h2 => ⟨.int _, H, I.kept hk, ⟨_, rfl⟩, ?_⟩
    rw [maxI_eq h1 h2]
    exact q
  · obtain ⟨its, rv, hl, _⟩ := I.tuple hs
    have hT : s.heap.IsTuple a its.toArray := hl
    have hi := ints_of_vals rv
    have hz : its.toArray.size = ns.length := by have := hi.length; simpa using this
    have ha : a < s.heap.objs.size := by obtain ⟨o, ho, _⟩ := hT; exact Heap.lt_size ho
    have W := (Walks.tuple (prog := X.prog) (w := X.w) (A := X.A.in1) (show X.A.in1.handled = none from I.ok.hd hc) s.heap.objs.size a (Nat.ne_of_lt ha) its.toArray).mono_item (P' := fun i v => ∃ t, v = .int (ns.getD i 0) t) fun i v _ e => ints_at hi e
    rw [hz] at W
    refine max_walked (s2 := { s with heap := s.heap.push { cls := .type "tuple_iterator", data := .fields #[.ref a, .int 0 0] } }) ns hne' W ⟨⟨_, Heap.get?_push_size _ rfl, rfl, rfl⟩, hT.push _⟩ (fun b hb => ?_) (fun {R} hR => wpAny_pyIter_tuple hT hR) fun h' tk t hk => ⟨.int _, H, I.kept (t' := tk) fun b o e => hk b o (fun z => ?_) (Heap.get?_push_of_some _ e), ⟨t, rfl⟩, q⟩
    · show b < (s.heap.push _).objs.size
      rw [Heap.size_push]
      have : b = s.heap.objs.size ∨ b = a := by simpa using hb
      rcases this with z | z
      · rw [z]; exact Nat.lt_succ_self _
      · rw [z]; exact Nat.lt_succ_of_lt ha
    · rw [List.mem_singleton.mp z] at e
      exact absurd (Heap.lt_size e) (Nat.lt_irrefl _)
  · obtain ⟨hz, hsy, vs', kv, hd⟩ := dk_of I.hok hk
    obtain ⟨es, ep, hraw, hsz, hat⟩ := hd.raw
    obtain ⟨o, ho, hx, hdat⟩ := id hraw
    have ha : a < s.heap.objs.size := Heap.lt_size ho
    have hl1 : kvs.length = ns.length := by have := congrArg List.length ek; simpa using this
    have hl2 : kvs.length = vs'.length := Paired.length kv
    have W := (Walks.rawKeys (prog := X.prog) (w := X.w) (A := X.A.in1) (show X.A.in1.handled = none from I.ok.hd hc) s.heap.objs.size a (Nat.ne_of_lt ha) es ep).mono_item (P' := fun i v => ∃ t, v = .int (ns.getD i 0) t) fun i v hi ⟨hi', e⟩ => by
      have i1 : i < kvs.length := by omega
      have i2 : i < ns.length := by omega
      obtain ⟨u, hu, ru⟩ := kv_get kv (k := kvs[i].1) (v := kvs[i].2) (List.getElem?_eq_getElem i1)
      have h1 := (hat i hi' _ _ hu).1
      have h2 : kvs[i].1 = Sum.inl ns[i] := by
        have z : (kvs.map (·.1))[i]? = (ns.map Sum.inl)[i]? := by rw [ek]
        rw [List.getElem?_map, List.getElem?_map, List.getElem?_eq_getElem i1, List.getElem?_eq_getElem i2] at z
        exact Option.some.inj z
      rw [h2] at h1
      have h3 : RelV (kV (.inl ns[i])) es[i].key := relV_key (show keyIs _ _ = true from h1)
      obtain ⟨t, ht⟩ := h3
      refine ⟨t, ?_⟩
      rw [e, ht, List.getD_eq_getElem?_getD, List.getElem?_eq_getElem i2]
      rfl
    have hz' : es.size = ns.length := by omega
    have W' : Walks X.prog X.w X.A.in1 s.heap.objs.size [s.heap.objs.size, a] [s.heap.objs.size] ns.length (fun i v => ∃ t, v = .int (ns.getD i 0) t) (fun i h => h.IsKeyIter s.heap.objs.size a i es.size ep ∧ h.DictRaw a es ep) := by
      rw [← hz']
      exact W
    refine max_walked (s2 := { s with heap := s.heap.push { cls := .type "dict_keyiterator", data := .fields #[.ref a, .int 0 0, .int es.size 0, .int ep 0] } }) ns hne' W' ⟨⟨_, Heap.get?_push_size _ rfl, rfl, rfl⟩, hraw.at fun o e => Heap.get?_push_of_some _ e⟩ (fun b hb => ?_) (fun {R} hR => iter_keys hsy ho hx hdat hR) fun h' tk t hk => ⟨.int _, H, I.kept (t' := tk) fun b o e => hk b o (fun z => ?_) (Heap.get?_push_of_some _ e), ⟨t, rfl⟩, q⟩
    · show b < (s.heap.push _).objs.size
      rw [Heap.size_push]
      have : b = s.heap.objs.size ∨ b = a := by simpa using hb
      rcases this with z | z
      · rw [z]; exact Nat.lt_succ_self _
      · rw [z]; exact Nat.lt_succ_of_lt ha
    · rw [List.mem_singleton.mp z] at e
      exact absurd (Heap.lt_size e) (Nat.lt_irrefl _)
end
section
variable {R : Rw} {k j : Nat} {X : Cx} {N : List Str} {sc : Scope} {E : WX} {Γ Γ1 Γ2 Γ3 : En} {po po' : Po} {a b c e f tg iter : Expr} {es elts : List Expr} {pos p apos npos spos tpos cpos p1 p2 p3 : Pos} {st : Stmt} {ss rest body : List Stmt} {kk : Nat}
theorem xe_max {d : D} {ns : List Int} (C : CxIs R k X N sc) (B : Blt R.mg) (hg : IsGl sc "max") (h : XE X Γ e Γ1 d) (hd : SeqD d (ns.map D.int)) (hne : ns ≠ []) (hs : starEach [e] X.env = (false, eval e X.env) :: starEach [] X.env := by rfl) :
    XE X Γ (.Call (.Name "max" p) [e] [] pos) Γ1 (.int (maxI ns)) := xe_callB C (cr_maxAny C.calm) hg (C.none B.max) (by decide +kernel) (xa_cons h xa_nil hs) (rc_val (zv := .int _) (fun _ => .int _) fun G H vs Q sm _ r q => by
    cases r with
    | cons r1 r2 =>
      cases r2
      cases hd with
      | lst =>
        cases r1 with
        | lst a b => exact ⟨_, ns, rfl, hne, .inl (SqL.of (by rw [← b.intsV]; exact sm _ _ a)), q⟩
      | tup =>
        cases r1 with
        | tup a b => exact ⟨_, ns, rfl, hne, .inr (.inl (by rw [← b.intsV]; exact Same.seqT sm a)), q⟩) (he := hs)
theorem xe_maxK (C : CxIs R k X N sc) (B : Blt R.mg) (hg : IsGl sc "max") (i : Nat) {x : Str} {ds : List (Key × D)} {ns : List Int} (hΓ : Γ.sl[i]? = some (some (.dK ds))) (hN : N[i]? = some x) (hv : Vis sc x) (hk : ds.map (·.1) = ns.map Sum.inl) (hne : ns ≠ []) (hd : (x == ("__debug__" : Str)) = false := by decide) (hcd : (x == ("__classdict__" : Str)) = false := by decide)
    (hs : starEach [.Name x npos] X.env = (false, eval (.Name x npos) X.env) :: starEach [] X.env := by rfl) : XE X Γ (.Call (.Name "max" p) [.Name x npos] [] pos) Γ (.int (maxI ns)) := by
  refine xe_of (pe_callB (cr_maxAny C.calm) (C.gl hg) (C.none B.max) (by decide +kernel) (pa_cons (pe_ownK C i hΓ hN hv hd hcd) pa_nil hs) (he := hs)) fun σ H π Q en kx => ?_
  refine ⟨π, en, fun w xs hσ tg hw kv => ⟨w, ns, rfl, hne, .inr (.inr ⟨xs, hw, by rw [kv.keys]; exact hk⟩), fun _ => ?_⟩⟩
  exact kx _ π H Stp.refl en (.int _)
end
end Y
set_option Elab.async false
set_option linter.all false
set_option maxRecDepth 100000
set_option maxHeartbeats 400000
namespace Y
open PySem PySem.Spec PyProof.Rows L2
section
variable {R : Rw} {k j : Nat} {X : Cx} {N : List Str} {sc : Scope} {E : WX} {Γ Γ1 Γ2 Γ3 : En} {po po' : Po} {a b c e f tg iter : Expr} {es elts : List Expr} {pos p apos npos spos tpos cpos p1 p2 p3 : Pos} {st : Stmt} {ss rest body : List Stmt} {kk : Nat}
def KxP (K : PySem.W.Frag) (Γ' : En) (d : D) (π : Tag) (H : Hp) (σ : L2.St) (Q : VK) : Prop := ∀ v π' H', Fix π H π' H' → EnOk K Γ' π' H' σ → Rp K (cut H' π' 0) v d → Q v H'
def rP (K : PySem.W.Frag) (Γ Γ' : En) (d : D) : TE := fun σ H Q => ∃ π, EnOk K Γ π H σ ∧ KxP K Γ' d π H σ Q
def XP (X : Cx) (Γ : En) (e : Expr) (Γ' : En) (d : D) : Prop := PE X e (rP X.K Γ Γ' d)
theorem RpAll.erase {K : PySem.W.Frag} {G : Hp} : ∀ {vs : List V} {ds : List D} (i : Nat), RpAll K G vs ds → RpAll K G (vs.eraseIdx i) (ds.eraseIdx i)
  | _, _, _, .nil => .nil
  | _, _, 0, .cons _ t => t
  | _, _, i + 1, .cons r t => .cons r (t.erase i)
theorem seqIx {i n : Nat} (h : i < n) : seqIndex? (i : Int) n = some i := by
  unfold seqIndex?
  have h1 : ¬ ((i : Int) < 0) := by omega
  simp only [h1, if_false]
  rw [if_pos (by simp; exact h)]
  simp
theorem xp_pop (C : CxIs R k X N sc) (i : Nat) {x : Str} {ds : List D} {m : Nat} {d : D} (hΓ : Γ.sl[i]? = some (some (.lst ds))) (hΓ1 : Γ1.sl[i]? = some (some (.lst ds))) (hN : N[i]? = some x) (hv : Vis sc x) (h : XE X Γ e Γ1 (.int (m : Nat))) (hm : ds[m]? = some d)
    (hd : (x == ("__debug__" : Str)) = false := by decide) (hcd : (x == ("__classdict__" : Str)) = false := by decide) (hs : starEach [e] X.env = (false, eval e X.env) :: starEach [] X.env := by rfl)
    (hbase : attributeBase (.Name x npos) "pop" X.env (eval (.Name x npos) X.env) = eval (.Name x npos) X.env := by rfl)
    (hfew : ((backTo p (starEach [e] X.env)).all (fun x => !x.1) && (backToKw p (keywordEach [] X.env)).all (fun x => x.1.isSome) && decide (([e] : List Expr).length + ([] : List Keyword).length + (if ([] : List Keyword).isEmpty then 0 else 1) < 30)) = true := by rfl)
    (hline : (apos.endLine == p.line) = true := by rfl) : XP X Γ (.Call (.Attribute (.Name x npos) "pop" apos) [e] [] p) (Γ1.setS i (.lst (ds.eraseIdx m))) d := by
  refine PE.lenQ (pe_bm PySem.F.plainAttrs_list PySem.F.slot_list_pop PySem.F.type_list_pop mt_popAt (pe_own C i hΓ hN hv hd hcd) (xa_cons h xa_nil hs) hbase hfew hline hs) fun σ H Q ⟨π, en, kb⟩ => ?_
  refine ⟨π, en, fun q xs hσ hq => ⟨.inl ⟨rfl, xs, SqL.of hq⟩, π, en, fun vs π1 H1 s1 e1 r1 => ?_⟩⟩
  cases r1 with
  | cons r1 r2 =>
    cases r2
    cases r1
    obtain ⟨q', xs', h1, h2, h3, h4⟩ := e1.lstAt hΓ1 hσ
    cases h1
    obtain ⟨v, hv1, hv2⟩ := h4.get hm
    have hl := e1.len.l _ _ (SqL.of h3)
    have hlt : m < xs'.length := by
      obtain ⟨z, _⟩ := List.getElem?_eq_some_iff.mp hv1
      exact z
    have hlt2 : m < 2 ^ 62 := by
      have : sizeLine < 2 ^ 62 := by decide
      omega
    refine ⟨q, xs', (m : Int), m, v, rfl, rfl, h3, by omega, by omega, seqIx hlt, hv1, fun l => ?_⟩
    have n0 : Same (cut H1 π1 0) (cut (upd H1 q (.lst (xs'.eraseIdx m))) π1 0) := cut_same fun a u e z => ⟨by rw [upd_ne (fun w => by rw [w] at e; omega)]; exact z, e⟩
    exact kb v π1 _ (s1.fix.trans (fix_put h2)) (e1.put hσ h2 (fun G O sm ho => ⟨q, _, rfl, ho, (h4.erase m).same sm⟩) l) (hv2.same n0)
theorem st_setP {d : D} {x : Str} (C : CxIs R k X N sc) (i : Nat) (h : XP X Γ e Γ1 d) (hN : N[i]? = some x) (hx : Loc sc x) (hf : X.fn x = true ∨ sc.names.lookup x = some .local) (hr : po.nx (Γ1.setS i (.st d))) (hs : swapsWith e (some (.Name x p)) pos.line X.env = pure false := by rfl) : ST X E Γ (.Assign [.Name x p] e pos) po :=
  PS.imp (ps_set (i := i) (by rw [C.n]; exact C.nd) (by rw [C.n]; exact hN) (by rw [C.sc]; exact hx) h hs (by rw [C.sc]; exact hf)) fun D σ H ⟨π, en, kb⟩ => ⟨π, en, fun v π' H' s e r => kb.nx _ _ π' H' hr s (e.setS r)⟩
theorem st_appendP (C : CxIs R k X N sc) (i : Nat) {x : Str} {ds ds' : List D} {d : D} (hΓ : Γ.sl[i]? = some (some (.lst ds'))) (hΓ1 : Γ1.sl[i]? = some (some (.lst ds))) (hN : N[i]? = some x) (hv : Vis sc x) (h : XP X Γ e Γ1 d) (hl : ds.length < 100000) (hr : po.nx (Γ1.setS i (.lst (ds ++ [d]))))
    (hd : (x == ("__debug__" : Str)) = false := by decide) (hcd : (x == ("__classdict__" : Str)) = false := by decide) (hs : starEach [e] X.env = (false, eval e X.env) :: starEach [] X.env := by rfl) (hsw : swapsWith (.Call (.Attribute (.Name x npos) "append" apos) [e] [] p) none pos.line X.env = pure false := by rfl)
    (hbase : attributeBase (.Name x npos) "append" X.env (eval (.Name x npos) X.env) = eval (.Name x npos) X.env := by rfl)
    (hfew : ((backTo p (starEach [e] X.env)).all (fun x => !x.1) && (backToKw p (keywordEach [] X.env)).all (fun x => x.1.isSome) && decide (([e] : List Expr).length + ([] : List Keyword).length + (if ([] : List Keyword).isEmpty then 0 else 1) < 30)) = true := by rfl)
    (hline : (apos.endLine == p.line) = true := by rfl) : ST X E Γ (.Expr (.Call (.Attribute (.Name x npos) "append" apos) [e] [] p) pos) po := by
  refine PS.len (ps_expr (pe_bm PySem.F.plainAttrs_list PySem.F.slot_list_append PySem.F.type_list_append mt_append (pe_own C i hΓ hN hv hd hcd) (pa_cons h pa_nil hs) hbase hfew hline hs) hsw) fun D σ H ⟨π, en, kb⟩ => ?_
  refine ⟨π, en, fun q xs hσ hq => ⟨.inl ⟨rfl, xs, SqL.of hq⟩, π, en, fun v π1 H1 s1 e1 r1 => ?_⟩⟩
  obtain ⟨q', xs', h1, h2, h3, h4⟩ := e1.lstAt hΓ1 hσ
  cases h1
  have hlen : xs'.length < 100000 := by rw [h4.length]; exact hl
  refine ⟨q, xs', _, rfl, rfl, h3, Nat.lt_of_lt_of_le hlen (by decide), fun l => kb.nx _ σ π1 _ hr (s1.trans (fix_put h2)) (e1.put hσ h2 (fun G O sm ho => ⟨q, _, rfl, ho, (h4.same sm).append (.cons (r1.same sm) .nil)⟩) l)⟩
theorem st_setIx (C : CxIs R k X N sc) (i : Nat) {x : Str} {ds : List D} {d : D} {z : Int} {m : Nat} (hΓ : Γ.sl[i]? = some (some (.lst ds))) (hN : N[i]? = some x) (hv : Vis sc x) (hi : XE X Γ f Γ (.int z)) (hval : XE X Γ c Γ d) (hm : ixN ds.length z = some m) (hr : po.nx (Γ.setS i (.lst (ds.set m d))))
    (hd : (x == ("__debug__" : Str)) = false := by decide) (hcd : (x == ("__classdict__" : Str)) = false := by decide)
    (ha : ∀ v, assign (.Subscript (.Name x npos) f p) X.env v = (do let ov ← holding [v] (eval (.Name x npos) X.env); let iv ← holding [v, ov] (eval f X.env); standAt p; holding [v, ov, iv] (setItem ov iv v); release [v, ov, iv] []) := by intro _; rfl)
    (hs : swapsWithSole [.Subscript (.Name x npos) f p] c pos.line X.env = pure false := by rfl) (hw : swappedStores [.Subscript (.Name x npos) f p] c X.env = pure none := by rfl) (h1 : (assignEach [.Subscript (.Name x npos) f p] X.env).map (·.2) = [assign (.Subscript (.Name x npos) f p) X.env] := by rfl) : ST X E Γ (.Assign [.Subscript (.Name x npos) f p] c pos) po := by
  refine PS.len (ps_asg hval (pg_sub (pe_own C i hΓ hN hv hd hcd) hi set_list ha) hs hw h1) fun D σ H ⟨π, en, kb⟩ => ⟨π, en, fun v1 π1 H1 s1 e1 r1 => ⟨π1, e1, fun q xs hσ hq => ⟨π1, e1, fun v3 π3 H3 s3 e3 r3 => ?_⟩⟩⟩
  cases r3
  obtain ⟨q', xs', h1, h2, h3, h4⟩ := e3.lstAt hΓ hσ
  cases h1
  refine ⟨q, xs', z, m, rfl, rfl, h3, by rw [h4.length]; exact hm, fun l => ?_⟩
  exact kb.nx _ σ π3 _ hr ((s1.trans s3).fix.trans (fix_put h2)) (e3.put hσ h2 (fun G O sm ho => ⟨q, _, rfl, ho, RpAll.set ((r1.same s3.zero).same sm) m (h4.same sm)⟩) l)

theorem setT_setS {K : PySem.W.Frag} {π : Tag} {H : Hp} {σ : L2.St} {d : D} {v : V} {i : Nat} (h : EnOk K Γ π H σ) (r : Rp K (cut H π 0) v d) : EnOk K (Γ.setS i (.st d)) π H (σ.set i (some v)) := h.setS r
theorem st_parEE {x y : Str} {i j : Nat} {d1 d2 : D} {px py pt pt2 : Pos} {kt k2 : Nat} (C : CxIs R k X N sc) (ha : XE X Γ a Γ1 d1) (hb : XE X Γ1 b Γ2 d2) (hi : N[i]? = some x) (hj : N[j]? = some y) (hij : i ≠ j) (hx : sc.names.lookup x = some .local) (hy : sc.names.lookup y = some .local) (hr : po.nx ((Γ2.setS i (.st d1)).setS j (.st d2)))
    (hw : swappedStores [.Tuple [.Name x px, .Name y py] kt pt] (.Tuple [a, b] k2 pt2) X.env = pure (some [x, y]) := by rfl) (hs : swapsWithSole [.Tuple [.Name x px, .Name y py] kt pt] (.Tuple [a, b] k2 pt2) pos.line X.env = pure false := by rfl)
    (h1 : starEach [a, b] X.env = (false, eval a X.env) :: starEach [b] X.env := by rfl) (h2 : starEach [b] X.env = (false, eval b X.env) :: starEach [] X.env := by rfl) : ST X E Γ (.Assign [.Tuple [.Name x px, .Name y py] kt pt] (.Tuple [a, b] k2 pt2) pos) po :=
  PS.imp (ps_par (i := i) (j := j) C.calm (by rw [C.n]; exact C.nd) (by rw [C.n]; exact hi) (by rw [C.n]; exact hj) hij (by rw [C.sc]; exact hx) (by rw [C.sc]; exact hy) (pa_cons ha (pa_cons hb pa_nil h2) h1) hw hs) fun D σ H ⟨π, en, kb⟩ => ⟨π, en, fun v1 π1 H1 s1 e1 r1 => ⟨π1, e1, fun v2 π2 H2 s2 e2 r2 =>
    ⟨v1, v2, rfl, kb.nx _ _ π2 H2 hr (s1.trans s2).fix (setT_setS (setT_setS e2 (r1.same s2.zero)) r2)⟩⟩⟩
theorem st_parEF {x y : Str} {i j : Nat} {d1 : D} {ds : List D} {px py pt pt2 : Pos} {kt k2 : Nat} (C : CxIs R k X N sc) (ha : XE X Γ a Γ1 d1) (hb : XF X Γ1 b Γ2 ds) (hi : N[i]? = some x) (hj : N[j]? = some y) (hij : i ≠ j) (hx : sc.names.lookup x = some .local) (hy : sc.names.lookup y = some .local) (hr : po.nx ((Γ2.setS i (.st d1)).setS j (.lst ds)))
    (hw : swappedStores [.Tuple [.Name x px, .Name y py] kt pt] (.Tuple [a, b] k2 pt2) X.env = pure (some [x, y]) := by rfl) (hs : swapsWithSole [.Tuple [.Name x px, .Name y py] kt pt] (.Tuple [a, b] k2 pt2) pos.line X.env = pure false := by rfl)
    (h1 : starEach [a, b] X.env = (false, eval a X.env) :: starEach [b] X.env := by rfl) (h2 : starEach [b] X.env = (false, eval b X.env) :: starEach [] X.env := by rfl) : ST X E Γ (.Assign [.Tuple [.Name x px, .Name y py] kt pt] (.Tuple [a, b] k2 pt2) pos) po :=
  PS.imp (ps_par (i := i) (j := j) C.calm (by rw [C.n]; exact C.nd) (by rw [C.n]; exact hi) (by rw [C.n]; exact hj) hij (by rw [C.sc]; exact hx) (by rw [C.sc]; exact hy) (pa_cons ha (pa_cons hb pa_nil h2) h1) hw hs) fun D σ H ⟨π, en, kb⟩ => ⟨π, en, fun v1 π1 H1 s1 e1 r1 => ⟨π1, e1, fun q xs π2 H2 s2 e2 tg hq fr r2 => by
    refine ⟨v1, .ref q, rfl, kb.nx _ _ (setT π2 q (j + 3)) H2 hr (s1.fix.trans (fix_retag s2 fr)) ?_⟩
    exact (setT_setS e2 (r1.same s2.zero)).owned tg hq r2 j⟩⟩
theorem st_parFF {x y : Str} {i j : Nat} {ds ds' : List D} {px py pt pt2 : Pos} {kt k2 : Nat} (C : CxIs R k X N sc) (ha : XF X Γ a Γ1 ds) (hb : XF X Γ1 b Γ2 ds') (hi : N[i]? = some x) (hj : N[j]? = some y) (hij : i ≠ j) (hx : sc.names.lookup x = some .local) (hy : sc.names.lookup y = some .local) (hr : po.nx ((Γ2.setS i (.lst ds)).setS j (.lst ds')))
    (hw : swappedStores [.Tuple [.Name x px, .Name y py] kt pt] (.Tuple [a, b] k2 pt2) X.env = pure (some [x, y]) := by rfl) (hs : swapsWithSole [.Tuple [.Name x px, .Name y py] kt pt] (.Tuple [a, b] k2 pt2) pos.line X.env = pure false := by rfl)
    (h1 : starEach [a, b] X.env = (false, eval a X.env) :: starEach [b] X.env := by rfl) (h2 : starEach [b] X.env = (false, eval b X.env) :: starEach [] X.env := by rfl) : ST X E Γ (.Assign [.Tuple [.Name x px, .Name y py] kt pt] (.Tuple [a, b] k2 pt2) pos) po :=
  PS.imp (ps_par (i := i) (j := j) C.calm (by rw [C.n]; exact C.nd) (by rw [C.n]; exact hi) (by rw [C.n]; exact hj) hij (by rw [C.sc]; exact hx) (by rw [C.sc]; exact hy) (pa_cons ha (pa_cons hb pa_nil h2) h1) hw hs) fun D σ H ⟨π, en, kb⟩ => ⟨π, en, fun q xs π1 H1 s1 e1 tg hq fr r1 => ⟨π1, e1, fun q' xs' π2 H2 s2 e2 tg' hq' fr' r2 => by
    obtain ⟨hq2, tq2⟩ := s2 q _ hq (by omega)
    have tq2' : π2 q = 1 := tq2.trans tg
    have nq : q' ≠ q := fun z => by
      have := fr' _ (by rw [z]; exact hq)
      rw [z] at this
      omega
    have e3 := e2.owned tq2' hq2 (r1.same s2.zero) i
    have e4 := e3.owned (p := q') (xs := xs') (ds := ds') (by rw [setT_ne nq]; exact tg') hq' (r2.same (cut_retag (by omega))) j
    refine ⟨.ref q, .ref q', rfl, kb.nx _ _ _ H2 hr (fun b o h n => ?_) e4⟩
    have h3 := s1 b o h (by omega)
    have nb : b ≠ q := fun z => by
      have := fr o (by rw [← z]; exact h)
      rw [← z] at this
      omega
    have nb' : b ≠ q' := fun z => by
      have := fr' o (by rw [← z]; exact h3.1)
      rw [← z] at this
      have := h3.2
      omega
    have h4 := s2 b o h3.1 (by have := h3.2; omega)
    exact ⟨h4.1, by rw [setT_ne nb', setT_ne nb, h4.2, h3.2]⟩⟩⟩

theorem xb_isiT {d : D} {t : Value} {ns : List String} {bb : Bool} {kt : Nat} {q : Pos} (C : CxIs R k X N sc) (B : Blt R.mg) (hi : IsGl sc "isinstance") (h : XE X Γ e Γ1 d) (hT : XA X Γ1 es Γ1 (ns.map fun n => .ob (tyO n))) (ht : TyD R.K d t) (hb : PySem.W.kitAny R.K t (ns.map Value.type) = some bb) (hl : ns.length ≤ 100 := by decide)
    (he : starEach [e, .Tuple es kt q] X.env = (false, eval e X.env) :: starEach [.Tuple es kt q] X.env := by rfl) (he2 : starEach [.Tuple es kt q] X.env = (false, eval (.Tuple es kt q) X.env) :: starEach [] X.env := by rfl) (hpl : (backTo pos (starEach [.Tuple es kt q] X.env)).any (·.1) = false := by rfl) : XB X Γ (.Call (.Name "isinstance" p) [e, .Tuple es kt q] [] pos) Γ1 bb := by
  refine xb_of (xe_of (pe_callB call_isiT (C.gl hi) (C.none B.isinstance) (by decide +kernel) (pa_cons h (pa_cons (pe_tup hT) pa_nil he2) he) (he := he) (hpl := hpl)) fun σ H π Q en kx => ⟨π, en, fun v π1 H1 s1 e1 r1 => ⟨π1, e1, fun cs π2 H2 s2 e2 r2 => ?_⟩⟩)
  have hlen := r2.length
  rw [List.length_map] at hlen
  have key : ∀ {G : Hp} {ns : List String} {cs : List V}, RpAll X.K G cs (ns.map fun n => D.ob (tyO n)) → Paired ClsV cs (ns.map Value.type) := by
    intro G ns
    induction ns with
    | nil => intro cs r; cases r; exact .nil
    | cons n ns ih =>
      intro cs r
      cases r with
      | cons ra rb =>
        cases ra with
        | ob ra => cases ra; exact .cons (.ty n) (ih rb)
  refine ⟨by rw [hlen]; exact size100 (by omega), fun tp htp => ⟨v, tp, cs, t, _, bb, rfl, upd_same, key r2, ?_, by rw [C.K]; exact hb, fun l => ?_⟩⟩
  · have sm : Same (cut H1 π1 0) (upd H2 tp (.tup cs)) := (s2.zero.trans cut_sub).trans fun a o z => by rw [upd_ne (ne_of_none z htp)]; exact z
    rw [C.K]
    rw [C.K] at r1
    exact ht.tyX sm r1
  · have pn := Pur.new (o := .tup cs) 0 (π := π2) htp
    exact kx _ (setT π2 tp 0) _ ((s1.trans s2).trans pn.stp) (e2.pur pn l) (.bl _)
theorem upd_upd {H : Hp} {p : Addr} {o o' : HO} : upd (upd H p o) p o' = upd H p o' := by
  funext b
  by_cases h : b = p
  · subst h; rw [upd_same, upd_same]
  · rw [upd_ne h, upd_ne h, upd_ne h]
theorem KvOk.vals {κ : Type} {K : PySem.W.Frag} {G : Hp} : ∀ {vs : List (κ × V)} {ds : List (κ × D)}, KvOk K G vs ds → RpAll K G (vs.map (·.2)) (ds.map (·.2))
  | _, _, .nil => .nil
  | _, _, .cons r t => .cons r t.vals
theorem val_nodup : ∀ {xs : List (Key × V)} {n : Nat} {q : Key} {v : V}, (xs.map (·.1)).Nodup → xs[n]? = some (q, v) → valV xs q = some v
  | [], _, _, _, _, h => by simp at h
  | x :: xs, 0, q, v, _, h => by
    have : x = (q, v) := by simpa using h
    subst this
    exact valV_pos rfl
  | x :: xs, n + 1, q, v, nd, h => by
    have h' : xs[n]? = some (q, v) := by simpa using h
    rw [List.map_cons, List.nodup_cons] at nd
    have ne : x.1 ≠ q := fun z => nd.1 (by rw [z]; exact List.mem_map.mpr ⟨_, List.mem_of_getElem? h', rfl⟩)
    have := val_nodup nd.2 h'
    unfold valV at this ⊢
    rw [List.find?_cons]
    simp only [ne, decide_false]
    exact this
theorem xf_dvals {x y : Str} {scope : Scope} {ds : List (Key × D)} {q1 q2 q3 q4 q5 : Pos} (C : CxIs R k X N sc) (i jv : Nat) (hΓ : Γ.sl[i]? = some (some (.dK ds))) (hN : N[i]? = some x) (hv : Vis sc x) (hv2 : Vis (relS scope sc) x) (hNy : N[jv]? = some y) (hy : Loc (relS scope sc) y) (hvy : Vis (relS scope sc) y) (hf : (relS scope sc).names.lookup y = some .local) (hij : jv ≠ i) (ok : blkC N sc scope [(y, jv)] = true)
    (nd : (ds.map (·.1)).Nodup) (hl : ds.length ≤ 100000) (hjl : jv < Γ.sl.length) (hd : (x == ("__debug__" : Str)) = false := by decide) (hcd : (x == ("__classdict__" : Str)) = false := by decide) (hd' : (y == ("__debug__" : Str)) = false := by decide) (hcd' : (y == ("__classdict__" : Str)) = false := by decide) (hs : ∀ z, foldedSetIterable (.Name x q5) X.env z = pure z := by intro _; rfl) :
    XF X Γ (.ListComp (.Subscript (.Name x q1) (.Name y q2) q3) [⟨.Name y q4, .Name x q5, [], 0⟩] scope pos) Γ (ds.map (·.2)) := by
  refine xf_of (pe_lock (pe_lc (own := [(y, jv)]) C.calm (by rw [C.n]; exact C.nd) (pi_keys (pe_var (i := i) (by rw [C.n]; exact hN) (C.vis hv) hd hcd)) (by rw [C.n, C.sc]; exact blkOk_by ok)
    (fun s H c cl fp => let B := C.blk s H scope c cl fp; pg_name (i := jv) (by rw [B.n]; exact C.nd) (by rw [B.n]; exact hNy) (by rw [B.sc]; exact hy) (.inr (by rw [B.sc]; exact hf))) (fun s H c cl fp => pts_nil)
    (fun s H c cl fp => let B := C.blk s H scope c cl fp; pe_dget (hu_of B.room) (pe_var (i := i) (by rw [B.n]; exact hN) (B.vis hv2) hd hcd) (pe_var (i := jv) (by rw [B.n]; exact hNy) (B.vis hvy) hd' hcd') (by exact fun _ _ => rfl)) hs)) fun σ H π Q en kx => ?_
  obtain ⟨w, hσ, _⟩ := en.at_ i _ hΓ
  obtain ⟨q, xs, rfl, tq, hq, kv⟩ := en.dKAt hΓ hσ
  refine ⟨q, .dK xs, hq, True.intro, fun od => ⟨_, hσ, q, od, rfl, .inl ⟨xs, upd_same, fun D hD => ?_⟩⟩⟩
  have hDq : D ≠ q := fun z => by rw [z, upd_same] at hD; cases hD
  have hDH : H D = none := by rw [upd_ne hDq] at hD; exact hD
  have ndx : (xs.map (·.1)).Nodup := by rw [kv.keys]; exact nd
  have hlenx : xs.length ≤ 100000 := by rw [kv.len]; exact hl
  refine ⟨fun n m H' => n + m = xs.length ∧ H' = upd (upd H q (.frz od (.dK xs))) D (.lst ((xs.take n).map (·.2))), ⟨xs.length, by omega, by simp⟩, ?_⟩
  rintro n m H' ⟨hnm, rfl⟩
  have hq' : upd (upd H q (.frz od (.dK xs))) D (.lst ((xs.take n).map (·.2))) q = some (.frz od (.dK xs)) := by rw [upd_ne (Ne.symm hDq), upd_same]
  by_cases hn : n < xs.length
  · refine .inr ⟨⟨hq', hn⟩, fun H' => H' = upd (upd H q (.frz od (.dK xs))) D (.lst ((xs.take (n + 1)).map (·.2))), fun H' h => ⟨m - 1, by omega, by omega, h⟩, ?_⟩
    rintro x' H' ⟨rfl, kk, vv, hkv, rfl⟩
    obtain ⟨hn', hget⟩ := List.getElem?_eq_some_iff.mp hkv
    have hjl : jv < σ.length := Nat.lt_of_lt_of_le hjl en.sl
    refine ⟨?_, ?_⟩
    · show ((L2.wipe σ [jv]).set jv (some (kV kk))).set jv none = _
      rw [List.set_set]
      show (σ.set jv none).set jv none = σ.set jv none
      rw [List.set_set]
    · show tDGet (tVar i) (tVar jv) _ _ _
      refine ⟨.ref q, ?_, kV kk, ?_, q, vv, rfl, .inl ⟨xs, kk, .inr ⟨od, hq'⟩, rfl, ?_⟩, (xs.take n).map (·.2), upd_same, ?_, ?_⟩
      · show ((σ.set jv none).set jv (some (kV kk)))[i]? = _
        rw [List.getElem?_set_ne hij, List.getElem?_set_ne hij]
        exact hσ
      · show ((σ.set jv none).set jv (some (kV kk)))[jv]? = _
        rw [List.getElem?_set_self (by rw [List.length_set]; exact hjl)]
      · exact (val_nodup ndx hkv).symm
      · rw [List.length_map, List.length_take]
        have : (100000 : Nat) < sizeLine := by decide
        omega
      · rw [upd_upd]
        have : xs.take (n + 1) = xs.take n ++ [(kk, vv)] := by rw [List.take_succ, hkv]; rfl
        rw [this, List.map_append]
        rfl
  · have : n = xs.length := by omega
    subst this
    refine .inl ⟨⟨hq', Nat.le_refl _⟩, hq', ?_⟩
    have e : upd (upd (upd H q (.frz od (.dK xs))) D (.lst ((xs.take xs.length).map (·.2)))) q (.dK xs) = upd H D (.lst (xs.map (·.2))) := by
      funext b
      rw [List.take_length]
      by_cases h1 : b = q
      · subst h1
        rw [upd_same, upd_ne (Ne.symm hDq)]
        exact hq.symm
      · rw [upd_ne h1]
        by_cases h2 : b = D
        · subst h2; rw [upd_same, upd_same]
        · rw [upd_ne h2, upd_ne h1, upd_ne h2]
    rw [e]
    exact kx.new en hDH kv.vals
end
end Y
set_option Elab.async false
set_option linter.all false
set_option maxRecDepth 100000
set_option maxHeartbeats 400000
namespace Y
open PySem PySem.Spec PyProof.Rows L2
section
variable {α β : Type}
def fl2 (c : α → Bool) (ys : α → List β) (c1 : α → β → Bool) (g : α → β → D) (x : α) : List D := if c x = true then ((ys x).filter (c1 x)).map (g x) else []
theorem fl2_bound {h : α → List D} {xs : List α} {n : Nat} {x : α} {m : List D} (hx : xs[n]? = some x) (hm : m.length ≤ (h x).length) : ((xs.take n).flatMap h ++ m).length ≤ (xs.flatMap h).length := by
  have e : xs = xs.take n ++ x :: xs.drop (n + 1) := by
    obtain ⟨hl, hx'⟩ := List.getElem?_eq_some_iff.mp hx
    rw [← hx', ← List.drop_eq_getElem_cons hl, List.take_append_drop]
  have e2 : (xs.flatMap h).length = ((xs.take n).flatMap h).length + (h x).length + ((xs.drop (n + 1)).flatMap h).length := by
    conv => lhs; rw [e]
    rw [List.flatMap_append, List.flatMap_cons, List.length_append, List.length_append]
    omega
  rw [List.length_append, e2]
  omega
theorem filt_bound (p : β → Bool) (g : β → D) (ys : List β) (j : Nat) : (((ys.take j).filter p).map g).length ≤ ((ys.filter p).map g).length := by
  rw [List.length_map, List.length_map]
  have : ys.filter p = (ys.take j).filter p ++ (ys.drop j).filter p := by rw [← List.filter_append, List.take_append_drop]
  rw [this, List.length_append]
  omega
end
theorem EnOk.frame {K : PySem.W.Frag} {Γ : En} {π : Tag} {H : Hp} {σ : L2.St} {p : Addr} {o : HO} (h : EnOk K Γ π H σ) (hp : π p = 1) (l : LenOk K (upd H p o)) : EnOk K Γ π (upd H p o) σ :=
  ⟨fun i s e => let ⟨v, h1, h2⟩ := h.at_ i s e; ⟨v, h1, h2.same (cut_frame hp (by omega)) (cut_frame hp (by omega))⟩, h.mu.same (cut_frame hp (by omega)) (cut_frame hp (by omega)), l, h.sl⟩
section
variable {R : Rw} {k : Nat} {X : Cx} {N : List Str} {sc : Scope} {Γ Γ1 Γ2 Γ3 : En} {a b c e tg iter tg1 iter1 elt : Expr} {es : List Expr} {pos p : Pos}
theorem xf_lc2 {fb fb1 : Bool} {α β : Type} {xs : List α} {f : α → D} {cn : α → Bool} {ys : α → List β} {f1 : α → β → D} {cn1 : α → β → Bool} {g : α → β → D} {Γt : α → En} {Γs : α → β → En} {own : List (Str × Nat)} {vs1 : List Nat} {scope : Scope} {ifs ifs1 : List Expr} (C : CxIs R k X N sc) (hi : XI X fb Γ tg iter Γ1 (xs.map f)) (ok : blkC N sc scope own = true) (hv : ∀ i ∈ vs1, i ∈ slotsOf own)
    (h : ∀ X', BlkX R k N sc scope X X' → ∀ x, x ∈ xs → XG X' (slotsOf own) (Γ1.wipe (slotsOf own)) tg (f x) (Γt x) ∧ XTs X' (Γt x) ifs (Γt x) (cn x) ∧ (cn x = true → XI X' fb1 (Γt x) tg1 iter1 (Γt x) ((ys x).map (f1 x))) ∧
      ∀ y, y ∈ ys x → XG X' vs1 ((Γt x).wipe vs1) tg1 (f1 x y) (Γs x y) ∧ XTs X' (Γs x y) ifs1 (Γs x y) (cn1 x y) ∧ (cn1 x y = true → XE X' (Γs x y) elt (Γs x y) (g x y)))
    (hmu : ∀ x, (Γt x).mu = Γ1.mu) (hmu1 : ∀ x y, (Γs x y).mu = Γ1.mu) (hl : (xs.flatMap (fl2 cn ys cn1 g)).length ≤ 100000) (hs : ∀ x, foldedSetIterable iter X.env x = pure x := by intro _; rfl) (hs1 : ∀ env x, foldedSetIterable iter1 env x = pure x := by intro _ _; rfl) :
    XF X Γ (.ListComp elt [⟨tg, iter, ifs, 0⟩, ⟨tg1, iter1, ifs1, 0⟩] scope pos) Γ1 (xs.flatMap (fl2 cn ys cn1 g)) := by
  have hX := fun s H cA cl fp => h (X.blk s H scope (compEnvC scope cl cA X.env) fp) ⟨C.blk s H scope cA cl fp, rfl, rfl⟩
  refine xf_of (pe_lc2 (own := own) (vs1 := vs1) C.calm (by rw [C.n]; exact C.nd) hi (by rw [C.n, C.sc]; exact blkOk_by ok) hv
    (g := fun v σ H Q => ∃ x, x ∈ xs ∧ rG X.K (slotsOf own) (Γ1.wipe (slotsOf own)) (f x) (Γt x) v σ H Q)
    (tt := fun σ H Q => ∃ x, x ∈ xs ∧ rT X.K (Γt x) (Γt x) (cn x) σ H Q)
    (wi1 := fun σ H Q => ∃ x, (x ∈ xs ∧ cn x = true) ∧ Y.rI X.K fb1 (Γt x) (Γt x) ((ys x).map (f1 x)) σ H Q)
    (g1 := fun v σ H Q => ∃ xy : α × β, (xy.1 ∈ xs ∧ xy.2 ∈ ys xy.1) ∧ rG X.K vs1 ((Γt xy.1).wipe vs1) (f1 xy.1 xy.2) (Γs xy.1 xy.2) v σ H Q)
    (tt1 := fun σ H Q => ∃ xy : α × β, (xy.1 ∈ xs ∧ xy.2 ∈ ys xy.1) ∧ rT X.K (Γs xy.1 xy.2) (Γs xy.1 xy.2) (cn1 xy.1 xy.2) σ H Q)
    (te := fun σ H Q => ∃ xy : α × β, (xy.1 ∈ xs ∧ xy.2 ∈ ys xy.1 ∧ cn1 xy.1 xy.2 = true) ∧ rE X.K (Γs xy.1 xy.2) (Γs xy.1 xy.2) (g xy.1 xy.2) σ H Q)
    (fun s H c cl fp => pg_ex fun x hx => (hX s H c cl fp x hx).1) (fun s H c cl fp => pts_ex fun x hx => (hX s H c cl fp x hx).2.1)
    (fun s H c cl fp => ⟨fun pins s' σ H' Q I ⟨x, ⟨hx, hc⟩, q⟩ => ((hX s H c cl fp x hx).2.2.1 hc).run pins s' σ H' Q I q⟩)
    (fun s H c cl fp => pg_ex fun xy hx => ((hX s H c cl fp xy.1 hx.1).2.2.2 xy.2 hx.2).1) (fun s H c cl fp => pts_ex fun xy hx => ((hX s H c cl fp xy.1 hx.1).2.2.2 xy.2 hx.2).2.1)
    (fun s H c cl fp => pe_ex fun xy hx => ((hX s H c cl fp xy.1 hx.1).2.2.2 xy.2 hx.2.1).2.2 hx.2.2) hs hs1) fun σ H π Q en kx => ?_
  refine ⟨π, en, fun J P π1 H1 s1 e1 it p1 D hD => ?_⟩
  have lenf : (xs.map f).length = xs.length := List.length_map ..
  have hsz : (100000 : Nat) < sizeLine := by decide
  refine ⟨fun i m H' => i + m = xs.length ∧ ∃ π' acc, Stp π1 H1 π' H' ∧ EnOk X.K Γ1 π' H' σ ∧ π' D = 1 ∧ H' D = some (.lst acc) ∧ RpAll X.K (cut H' π' 0) acc ((xs.take i).flatMap (fl2 cn ys cn1 g)), ⟨xs.length, by omega, setT π1 D 1, [], ?_⟩, ?_⟩
  · have pn := Pur.new (o := .lst []) 1 (π := π1) hD
    exact ⟨pn.stp, e1.pur pn (e1.len.lst (by simp)), setT_same, upd_same, .nil⟩
  rintro i m H' ⟨him, π', acc, st, e', tD, hA, rA⟩
  have p' := it.cl _ _ _ _ p1 st
  by_cases hi : i < xs.length
  · obtain ⟨x, hx⟩ : ∃ x, xs[i]? = some x := ⟨xs[i], List.getElem?_eq_getElem hi⟩
    have hxm : x ∈ xs := List.mem_of_getElem? hx
    have htake : xs.take (i + 1) = xs.take i ++ [x] := by rw [List.take_succ, hx]; rfl
    have hF : (xs.take (i + 1)).flatMap (fl2 cn ys cn1 g) = (xs.take i).flatMap (fl2 cn ys cn1 g) ++ fl2 cn ys cn1 g x := by rw [htake, List.flatMap_append]; simp
    refine .inr ⟨it.go i π' H' (by rw [lenf]; exact hi) p' e'.len, fun H'' => ∃ π'' acc', Stp π1 H1 π'' H'' ∧ EnOk X.K Γ1 π'' H'' σ ∧ π'' D = 1 ∧ H'' D = some (.lst acc') ∧ RpAll X.K (cut H'' π'' 0) acc' ((xs.take (i + 1)).flatMap (fl2 cn ys cn1 g)), fun H'' h => ⟨m - 1, by omega, by omega, h⟩, fun v H2 yl => ?_⟩
    obtain ⟨π2, pu, rx, l2⟩ := it.yld i (f x) π' H' v H2 (by rw [List.getElem?_map, hx]; rfl) p' e'.len yl
    refine ⟨x, hxm, π2, (e'.pur pu l2).wipe (slotsOf own), rx, fun σ2 hl2 hn2 e2 => ⟨wipe_eq hl2 hn2, x, hxm, π2, e2, fun π3 H3 s3 e3 => ?_⟩⟩
    have s13 : Stp π' H' π3 H3 := pu.stp.trans s3
    have slots : ∀ {π4 : Tag} {H4 : Hp}, Stp π' H' π4 H4 → LenOk X.K H4 → MuOk Γ1.mu (cut H4 π4 0) (cut H4 π4 2) → EnOk X.K Γ1 π4 H4 σ := fun s4 l4 mu4 =>
      ⟨fun j t q => let ⟨v, h1, h2⟩ := e'.at_ j t q; ⟨v, h1, h2.same s4.zero (s4.part (by omega))⟩, mu4, l4, e'.sl⟩
    cases hc : cn x with
    | false =>
      refine ifF ?_
      obtain ⟨hA3, tD3⟩ := s13 D _ hA (by omega)
      refine ⟨π3, acc, st.trans s13, slots s13 e3.len (by rw [← hmu x]; exact e3.mu), tD3.trans tD, hA3, ?_⟩
      rw [hF]
      have : fl2 cn ys cn1 g x = [] := by unfold fl2; rw [if_neg (by rw [hc]; decide)]
      rw [this, List.append_nil]
      exact rA.same s13.zero
    | true =>
      have hfx : fl2 cn ys cn1 g x = ((ys x).filter (cn1 x)).map (g x) := by unfold fl2; rw [if_pos hc]
      refine ifT ⟨x, ⟨hxm, hc⟩, π3, e3, fun J1 P1 π4 H4 s4 e4 it1 p4 => ?_⟩
      have s14 := s13.trans s4
      have leny : ((ys x).map (f1 x)).length = (ys x).length := List.length_map ..
      refine ⟨fun j m H'' => j + m = (ys x).length ∧ ∃ π'' acc', Stp π1 H1 π'' H'' ∧ P1 π'' H'' ∧ EnOk X.K Γ1 π'' H'' σ ∧ EnOk X.K (Γt x) π'' H'' σ2 ∧ π'' D = 1 ∧ H'' D = some (.lst acc') ∧ RpAll X.K (cut H'' π'' 0) acc' ((xs.take i).flatMap (fl2 cn ys cn1 g) ++ (((ys x).take j).filter (cn1 x)).map (g x)), ⟨(ys x).length, by omega, π4, acc, st.trans s14, p4, slots s14 e4.len (by rw [← hmu x]; exact e4.mu), e4, ?_⟩, ?_⟩
      · obtain ⟨hA4, tD4⟩ := s14 D _ hA (by omega)
        refine ⟨tD4.trans tD, hA4, ?_⟩
        simp only [List.take_zero, List.filter_nil, List.map_nil, List.append_nil]
        exact rA.same s14.zero
      rintro j m' H'' ⟨hjm, π5, acc5, s5, p5, n5, e5, tD5, hA5, rA5⟩
      by_cases hj : j < (ys x).length
      · obtain ⟨y, hy⟩ : ∃ y, (ys x)[j]? = some y := ⟨(ys x)[j], List.getElem?_eq_getElem hj⟩
        have hym : y ∈ ys x := List.mem_of_getElem? hy
        have htk : (ys x).take (j + 1) = (ys x).take j ++ [y] := by rw [List.take_succ, hy]; rfl
        refine .inr ⟨it1.go j π5 H'' (by rw [leny]; exact hj) p5 e5.len, fun H6 => ∃ π'' acc', Stp π1 H1 π'' H6 ∧ P1 π'' H6 ∧ EnOk X.K Γ1 π'' H6 σ ∧ EnOk X.K (Γt x) π'' H6 σ2 ∧ π'' D = 1 ∧ H6 D = some (.lst acc') ∧ RpAll X.K (cut H6 π'' 0) acc' ((xs.take i).flatMap (fl2 cn ys cn1 g) ++ (((ys x).take (j + 1)).filter (cn1 x)).map (g x)), fun H6 h => ⟨m' - 1, by omega, by omega, h⟩, fun v6 H6 yl6 => ?_⟩
        obtain ⟨π6, pu6, rx6, l6⟩ := it1.yld j (f1 x y) π5 H'' v6 H6 (by rw [List.getElem?_map, hy]; rfl) p5 e5.len yl6
        refine ⟨(x, y), ⟨hxm, hym⟩, π6, (e5.pur pu6 l6).wipe vs1, rx6, fun σ3 hl3 hn3 e7 => ⟨wipe_eq hl3 hn3, (x, y), ⟨hxm, hym⟩, π6, e7, fun π8 H8 s8 e8 => ?_⟩⟩
        have s58 : Stp π5 H'' π8 H8 := pu6.stp.trans s8
        have m8 : MuOk Γ1.mu (cut H8 π8 0) (cut H8 π8 2) := by rw [← hmu1 x y]; exact e8.mu
        cases hc1 : cn1 x y with
        | false =>
          refine ifF ?_
          obtain ⟨hA8, tD8⟩ := s58 D _ hA5 (by omega)
          have n8 := n5.stp s58 m8 e8.len
          have q8 := e5.stp (mu' := (Γt x).mu) s58 (by rw [hmu x]; exact m8) e8.len
          refine ⟨π8, acc5, s5.trans s58, it1.cl _ _ _ _ p5 s58, n8, q8, tD8.trans tD5, hA8, ?_⟩
          have : ((ys x).take (j + 1)).filter (cn1 x) = ((ys x).take j).filter (cn1 x) := by rw [htk, List.filter_append]; simp [hc1]
          rw [this]
          exact rA5.same s58.zero
        | true =>
          refine ifT ⟨(x, y), ⟨hxm, hym, hc1⟩, π8, e8, fun v9 π9 H9 s9 e9 r9 => ?_⟩
          have s59 := s58.trans s9
          obtain ⟨hA9, tD9⟩ := s59 D _ hA5 (by omega)
          have tD9' : π9 D = 1 := tD9.trans tD5
          have m9 : MuOk Γ1.mu (cut H9 π9 0) (cut H9 π9 2) := by rw [← hmu1 x y]; exact e9.mu
          have hG : (((ys x).take (j + 1)).filter (cn1 x)).map (g x) = (((ys x).take j).filter (cn1 x)).map (g x) ++ [g x y] := by rw [htk, List.filter_append, List.map_append]; simp [hc1]
          have hbnd : acc5.length + 1 ≤ 100000 := by
            have h1 := rA5.length
            have h2 := fl2_bound (h := fl2 cn ys cn1 g) (m := (((ys x).take (j + 1)).filter (cn1 x)).map (g x)) hx (by rw [hfx]; exact filt_bound _ _ _ _)
            rw [hG] at h2
            simp only [List.length_append, List.length_cons, List.length_nil] at h1 h2
            omega
          have l10 : LenOk X.K (upd H9 D (.lst (acc5 ++ [v9]))) := e9.len.lst (by simp; omega)
          have n9 := (n5.stp s59 m9 e9.len).frame tD9' l10
          have q9 := (e5.stp (mu' := (Γt x).mu) s59 (by rw [hmu x]; exact m9) e9.len).frame tD9' l10
          refine ⟨acc5, hA9, by omega, π9, acc5 ++ [v9], fun a o h h2 => ?_, it1.fr _ _ _ _ (it1.cl _ _ _ _ p5 s59) tD9', n9, q9, tD9', upd_same, ?_⟩
          · have h3 := (s5.trans s59) a o h h2
            exact ⟨by rw [upd_ne (ne_of_none h hD)]; exact h3.1, h3.2⟩
          · rw [hG, ← List.append_assoc]
            exact (rA5.same (s59.zero.trans (cut_frame tD9' (by omega)))).append (.cons (r9.same (cut_frame tD9' (by omega))) .nil)
      · have hje : j = (ys x).length := by omega
        subst hje
        refine .inl ⟨by have := it1.stop π5 H'' p5; rw [leny] at this; exact this, π5, acc5, s5, n5, tD5, hA5, ?_⟩
        rw [hF, hfx]
        rw [List.take_length] at rA5
        exact rA5
  · have hie : i = xs.length := by omega
    subst hie
    refine .inl ⟨by have := it.stop π' H' p'; rw [lenf] at this; exact this, fun l => ?_⟩
    rw [List.take_length] at rA
    exact kx D acc π' H' (s1.trans st) e' tD hA (fun o q => by
      by_cases h : π D = 2
      · exact h
      · have := (s1 D o q h).1
        rw [hD] at this
        cases this) rA
end
end Y
set_option Elab.async false
set_option linter.all false
set_option maxRecDepth 100000
set_option maxHeartbeats 400000
namespace Y
open PySem PySem.Spec PyProof.Rows L2
def FldOk (K : PySem.W.Frag) (G : Hp) (vs : List (Option V)) (fs : List (Option D)) : Prop := ∀ (i : Nat) (d : D), fs[i]? = some (some d) → ∃ v, vs[i]? = some (some v) ∧ Rp K G v d
theorem FldOk.same {K : PySem.W.Frag} {G G' : Hp} {vs : List (Option V)} {fs : List (Option D)} (h : FldOk K G vs fs) (e : Same G G') : FldOk K G' vs fs := fun i d q => let ⟨v, h1, h2⟩ := h i d q; ⟨v, h1, h2.same e⟩
def putF (i : Nat) (d : D) (fs : List (Option D)) : List (Option D) := (fs ++ List.replicate (i + 1 - fs.length) none).set i (some d)
theorem putF_ne {i j : Nat} {d x : D} {fs : List (Option D)} (h : j ≠ i) (e : (putF i d fs)[j]? = some (some x)) : fs[j]? = some (some x) := by
  unfold putF at e
  rw [List.getElem?_set_ne (Ne.symm h)] at e
  by_cases hj : j < fs.length
  · rw [List.getElem?_append_left hj] at e; exact e
  · rw [List.getElem?_append_right (by omega), List.getElem?_replicate] at e
    split at e <;> cases e
theorem putF_get {i : Nat} {d : D} {fs : List (Option D)} : (putF i d fs)[i]? = some (some d) := by
  unfold putF
  exact List.getElem?_set_self (by simp only [List.length_append, List.length_replicate]; omega)
theorem FldOk.put {K : PySem.W.Frag} {G : Hp} {vs : List (Option V)} {fs : List (Option D)} {i : Nat} {v : V} {d : D} (h : FldOk K G vs fs) (r : Rp K G v d) : FldOk K G (SlX.putS i v vs) (putF i d fs) := fun j x e => by
  by_cases hj : j = i
  · subst hj
    rw [putF_get] at e
    cases e
    exact ⟨v, SlX.putS_get _ _ _, r⟩
  · obtain ⟨w, h1, h2⟩ := h j x (putF_ne hj e)
    exact ⟨w, (SlX.putS_ne hj).mpr h1, h2⟩
def insO (K : PySem.W.Frag) (C a : Addr) (fs : List (Option D)) : Wn where
  p v G O := ∃ dx vs, v = .ref a ∧ dx ≠ a ∧ ((O a = some (.ins C dx []) ∧ O dx = some (.own a) ∧ vs = []) ∨ (O a = some (SlX.SlO a C dx vs) ∧ O dx = some (.xd []))) ∧ FldOk K G vs fs
  st := fun e f ⟨dx, vs, h1, h2, h3, h4⟩ => ⟨dx, vs, h1, h2, h3.elim (fun ⟨x, y, z⟩ => .inl ⟨f _ _ x, f _ _ y, z⟩) fun ⟨x, y⟩ => .inr ⟨f _ _ x, f _ _ y⟩, h4.same e⟩
theorem rp_inst {K : PySem.W.Frag} {C : Addr} {fs : List (Option D)} {v : V} {G : Hp} (h : Rp K G v (.inst C fs)) : ∃ a, (insO K C a fs).p v G G := by
  cases h with
  | inst h1 h2 h3 => exact ⟨_, _, _, rfl, h1, h2, fun i d e => h3.get e⟩
theorem inst_rp {K : PySem.W.Frag} {C a : Addr} {fs : List (Option D)} {v : V} {G : Hp} (h : (insO K C a fs).p v G G) : Rp K G v (.inst C fs) := by
  obtain ⟨dx, vs, rfl, h1, h2, h3⟩ := h
  exact .inst h1 h2 (RpFld.of h3)
theorem insO.slt {K : PySem.W.Frag} {C a : Addr} {fs : List (Option D)} {v : V} {G O H : Hp} (h : (insO K C a fs).p v G O) (f : Same O H) : ∃ dx vs, v = .ref a ∧ dx ≠ a ∧ SlX.Slt H a C dx vs ∧ FldOk K G vs fs ∧ (∃ o, O a = some o) ∧ ∃ o, O dx = some o := by
  obtain ⟨dx, vs, h1, h2, h3, h4⟩ := h
  rcases h3 with ⟨x, y, z⟩ | ⟨x, y⟩
  · exact ⟨dx, vs, h1, h2, .inl ⟨f _ _ x, z⟩, h4, ⟨_, x⟩, ⟨_, y⟩⟩
  · exact ⟨dx, vs, h1, h2, .inr ⟨f _ _ x, f _ _ y⟩, h4, ⟨_, x⟩, ⟨_, y⟩⟩
section
variable {R : Rw} {k j : Nat} {X : Cx} {N : List Str} {sc : Scope} {E : WX} {Γ Γ1 Γ2 Γ3 : En} {po po' : Po} {a b c e f tg iter : Expr} {es elts : List Expr} {pos p apos npos spos tpos cpos p1 p2 p3 : Pos} {st : Stmt} {ss rest body : List Stmt} {kk : Nat}
theorem xe_fld {C pd : Addr} {fs : List (Option D)} {d : D} {fn : Str} {i : Nat} (CI : CxIs R k X N sc) (h : XE X Γ e Γ1 (.inst C fs)) (c : SlX.SCls R.K C) (t : SlX.Slot1 R.K C fn pd i) (hf : fs[i]? = some (some d)) (hb : attributeBase e fn X.env (eval e X.env) = eval e X.env := by rfl) : XE X Γ (.Attribute e fn pos) Γ1 d := by
  refine xe_of (SlX.pe_sl h hb) fun σ H π Q en kx => ⟨π, en, fun v π1 H1 s1 e1 r1 => ?_⟩
  rw [CI.K] at r1
  obtain ⟨a, r1⟩ := rp_inst r1
  obtain ⟨dx, vs, rfl, hne, hs, hfl, _⟩ := insO.slt r1 cut_sub
  obtain ⟨v, h1, h2⟩ := hfl i d hf
  rw [CI.K]
  refine ⟨a, C, dx, pd, vs, i, v, rfl, hs, c, t, h1, fun _ => kx v π1 H1 s1 e1 (by rw [CI.K]; exact h2)⟩
theorem pe_ownI (C : CxIs R k X N sc) (i : Nat) {x : Str} {o : Wn} (hΓ : Γ.sl[i]? = some (some (.own o))) (hN : N[i]? = some x) (hv : Vis sc x) (hd : (x == ("__debug__" : Str)) = false := by decide) (hcd : (x == ("__classdict__" : Str)) = false := by decide) :
    PE X (.Name x pos) (fun σ H Q => ∃ π, EnOk X.K Γ π H σ ∧ ∀ v, σ[i]? = some (some v) → o.p v (cut H π 0) (cut H π (i + 3)) → Q v H) := ⟨fun pins s σ H Q I ⟨π, en, z⟩ => by
  obtain ⟨w, h1, h2⟩ := en.at_ i _ hΓ
  exact (pe_var (i := i) (by rw [C.n]; exact hN) (C.vis hv) hd hcd).run pins s σ H Q I ⟨_, h1, z w h1 h2⟩⟩
theorem xe_fldOwn {C pd a : Addr} {fs : List (Option D)} {d : D} {x fn : Str} {i m : Nat} (CI : CxIs R k X N sc) (hΓ : Γ.sl[m]? = some (some (.own (insO R.K C a fs)))) (hN : N[m]? = some x) (hv : Vis sc x) (c : SlX.SCls R.K C) (t : SlX.Slot1 R.K C fn pd i) (hf : fs[i]? = some (some d)) (hd : (x == ("__debug__" : Str)) = false := by decide) (hcd : (x == ("__classdict__" : Str)) = false := by decide)
    (hb : attributeBase (.Name x npos) fn X.env (eval (.Name x npos) X.env) = eval (.Name x npos) X.env := by rfl) : XE X Γ (.Attribute (.Name x npos) fn pos) Γ d := by
  refine xe_of (SlX.pe_sl (pe_ownI CI m hΓ hN hv hd hcd) hb) fun σ H π Q en kx => ⟨π, en, fun v hσ r1 => ?_⟩
  obtain ⟨dx, vs, rfl, hne, hs, hfl, _⟩ := insO.slt r1 cut_sub
  obtain ⟨v, h1, h2⟩ := hfl i d hf
  rw [CI.K]
  refine ⟨a, C, dx, pd, vs, i, v, rfl, hs, c, t, h1, fun _ => kx v π H Stp.refl en (by rw [CI.K]; exact h2)⟩
theorem st_fput {C pd a : Addr} {fs : List (Option D)} {d : D} {x fn : Str} {i m : Nat} (CI : CxIs R k X N sc) (hΓ : Γ1.sl[m]? = some (some (.own (insO R.K C a fs)))) (hN : N[m]? = some x) (hv : Vis sc x) (c : SlX.SCls R.K C) (t : SlX.Slot1 R.K C fn pd i) (he : XE X Γ f Γ1 d) (hr : po.nx (Γ1.setS m (.own (insO R.K C a (putF i d fs))))) (hd : (x == ("__debug__" : Str)) = false := by decide) (hcd : (x == ("__classdict__" : Str)) = false := by decide)
    (hs : swapsWith f (some (.Attribute (.Name x npos) fn p)) pos.line X.env = pure false := by rfl) : ST X E Γ (.Assign [.Attribute (.Name x npos) fn p] f pos) po := by
  refine PS.len (SlX.ps_sl (pe_ownI CI m hΓ hN hv hd hcd) he hs) fun D σ H ⟨π, en, kb⟩ => ⟨π, en, fun v1 π1 H1 s1 e1 r1 => ⟨π1, e1, fun v hσ r2 => ?_⟩⟩
  obtain ⟨dx, vs, rfl, hne, hsl, hfl, ⟨o1, ho1⟩, ⟨o2, ho2⟩⟩ := insO.slt r2 cut_sub
  obtain ⟨ta, ha⟩ := cut_some ho1
  obtain ⟨tdx, hdx⟩ := cut_some ho2
  rw [CI.K]
  refine ⟨a, C, dx, pd, vs, i, rfl, hsl, c, t, fun l => ?_⟩
  have nn : ∀ t', t' ≠ m + 3 → Same (cut H1 π1 t') (cut (SlX.slH H1 a C dx (SlX.putS i v1 vs)) π1 t') := fun t' ht => cut_same fun b u e z => by
    have n1 : b ≠ a := fun w => ht (by rw [← e, w]; exact ta)
    have n2 : b ≠ dx := fun w => ht (by rw [← e, w]; exact tdx)
    exact ⟨by rw [SlX.slH_ne n1 n2]; exact z, e⟩
  have hA : SlX.slH H1 a C dx (SlX.putS i v1 vs) a = some (SlX.SlO a C dx (SlX.putS i v1 vs)) := upd_same
  have hB : SlX.slH H1 a C dx (SlX.putS i v1 vs) dx = some (.xd []) := by unfold SlX.slH; rw [upd_ne hne, upd_same]
  rw [CI.K] at r1
  refine kb.nx _ σ π1 _ hr (s1.fix.trans fun b u h n => ?_) ⟨fun j s q => ?_, e1.mu.same (nn 0 (by omega)) (nn 2 (by omega)), (by rw [CI.K]; exact l), by show (Γ1.sl.set m _).length ≤ _; rw [List.length_set]; exact e1.sl⟩
  · have n1 : b ≠ a := fun w => by rw [w] at n; omega
    have n2 : b ≠ dx := fun w => by rw [w] at n; omega
    exact ⟨by rw [SlX.slH_ne n1 n2]; exact h, rfl⟩
  · have q' : (Γ1.sl.set m (some (.own (insO R.K C a (putF i d fs)))))[j]? = some (some s) := q
    by_cases hj : m = j
    · subst hj
      have hl : m < Γ1.sl.length := by
        obtain ⟨z, _⟩ := List.getElem?_eq_some_iff.mp q'
        simpa using z
      rw [List.getElem?_set_self hl] at q'
      cases q'
      exact ⟨_, hσ, dx, _, rfl, hne, .inr ⟨cut_at ta hA, cut_at tdx hB⟩, (hfl.put r1).same (nn 0 (by omega))⟩
    · rw [List.getElem?_set_ne hj] at q'
      obtain ⟨v, h1, h2⟩ := e1.at_ j s q'
      exact ⟨v, h1, h2.same (nn 0 (by omega)) (nn (j + 3) (by omega))⟩
inductive ResI where
  | ok (fs : List (Option D))
  | exc (x : Xc)
abbrev SpcI := Mu → List D → Mu → ResI → Prop
def StpI (π : Tag) (H : Hp) (π' : Tag) (H' : Hp) : Prop := ∀ a o, H a = some o → π a ≠ 2 → π a ≠ 3 → H' a = some o ∧ π' a = π a
def SpI (K : PySem.W.Frag) (C : Addr) (S : SpcI) : Sp := fun vs H Q E => ∃ π x dx vs' ds mu mu' r, S mu ds mu' r ∧ vs = .ref x :: vs' ∧ dx ≠ x ∧ H x = some (.ins C dx []) ∧ H dx = some (.own x) ∧ π x = 3 ∧ π dx = 3 ∧ RpAll K (cut H π 0) vs' ds ∧ MuOk mu (cut H π 0) (cut H π 2) ∧ LenOk K H ∧
  match r with
  | .ok fs => ∀ π' H', StpI π H π' H' → MuOk mu' (cut H' π' 0) (cut H' π' 2) → LenOk K H' → (insO K C x fs).p (.ref x) (cut H' π' 0) (cut H' π' 3) → Q .non H'
  | .exc x => ∀ cls dd π' H', StpI π H π' H' → MuOk mu' (cut H' π' 0) (cut H' π' 2) → LenOk K H' → XRp K (cut H' π' 0) x cls dd → E cls dd H'
structure ClsD (R : Rw) (x : Str) (C : Addr) (k : Nat) (S : SpcI) : Prop where
  ex : ∃ f fd ps, FnOk R.P R.w R.K R.mg R.base (L2.CX R.P R.w) k f fd ps (SpI R.K C S) ∧ Mk R.K C f ∧ Binds R.K fd ps []
  mg : R.mg x = some (.ref C)
def En.startI (K : PySem.W.Frag) (C x : Addr) (n : Nat) (ds : List D) (mu : Mu) : En := ⟨some (.own (insO K C x [])) :: (ds.map (fun d => some (.st d)) ++ List.replicate (n - 1 - ds.length) none), mu⟩
theorem startI_ok {K : PySem.W.Frag} {C x dx : Addr} {π : Tag} {H : Hp} {vs : List V} {ds : List D} {mu : Mu} (hne : dx ≠ x) (hx : H x = some (.ins C dx [])) (hdx : H dx = some (.own x)) (tx : π x = 3) (tdx : π dx = 3) (r : RpAll K (cut H π 0) vs ds) (m : MuOk mu (cut H π 0) (cut H π 2)) (l : LenOk K H) (hn : 0 < N.length) : EnOk K (En.startI K C x N.length ds mu) π H (L2.start N (.ref x :: vs)) := by
  refine ⟨fun i s e => ?_, m, l, ?_⟩
  · cases i with
    | zero =>
      have e' : some (Sl.own (insO K C x [])) = some s := by simpa [En.startI] using e
      cases e'
      exact ⟨.ref x, rfl, dx, [], rfl, hne, .inl ⟨cut_at tx hx, cut_at tdx hdx, rfl⟩, fun i d q => by simp at q⟩
    | succ i =>
      have e' : (ds.map (fun d => some (Sl.st d)) ++ List.replicate (N.length - 1 - ds.length) none)[i]? = some (some s) := by simpa [En.startI] using e
      by_cases hi : i < ds.length
      · rw [List.getElem?_append_left (by simpa using hi), List.getElem?_map, List.getElem?_eq_getElem hi] at e'
        cases e'
        obtain ⟨v, h1, h2⟩ := r.get (List.getElem?_eq_getElem hi)
        refine ⟨v, ?_, h2⟩
        have hlt : i < vs.length := by rw [r.length]; exact hi
        unfold L2.start
        rw [List.getElem?_append_left (by simpa using hlt), List.getElem?_map, List.getElem?_cons_succ, h1]
        rfl
      · rw [List.getElem?_append_right (by simpa using hi), List.getElem?_replicate] at e'
        split at e' <;> cases e'
  · show (some (Sl.own (insO K C x [])) :: (ds.map (fun d => some (Sl.st d)) ++ List.replicate (N.length - 1 - ds.length) none)).length ≤ (L2.start N (.ref x :: vs)).length
    unfold L2.start
    have := r.length
    simp
    omega
theorem init_ok {x qual : Str} {st : Stmt} {f C : Addr} {fd : FuncData} {ps : List Str} {S : SpcI} (F : Fun R.K x qual st f fd) (M : Mk R.K C f) {nm : Str} (hm : R.mg nm = some (.ref C)) (hb : Binds R.K fd ps []) (SC : FnScope N ps (defScope st)) (hn : 0 < N.length) (hlen : ∀ mu ds mu' r, S mu ds mu' r → ds.length + 1 = ps.length)
    (hbody : ∀ (X : Cx) (E : WX), FCx R k X N (defScope st) E → ∀ a mu ds mu' r, S mu ds mu' r → BS X E (En.startI R.K C a N.length ds mu) (defBody st)
      { nx := fun Γ' => Γ'.mu = mu' ∧ ∃ fs, r = .ok fs ∧ Γ'.sl[0]? = some (some (.own (insO R.K C a fs))), rt := fun _ _ => False, xc := fun Γ' x => Γ'.mu = mu' ∧ r = .exc x }) : ClsD R nm C (k + 1) S := by
  refine ⟨⟨f, fd, ps, ?_, M, hb⟩, hm⟩
  refine F.okX SC (fun vs H Q E ⟨π, x, dx, vs', ds, mu, mu', r, hS, ev, _, _, _, _, _, ra, _⟩ => by rw [ev, List.length_cons, ra.length]; exact hlen _ _ _ _ hS) fun cdv A outer s H vs Q E hr ⟨π, x, dx, vs', ds, mu, mu', r, hS, ev, hne, hx, hdx, tx, tdx, ra, m0, l0, hq⟩ => ?_
  subst ev
  have hbd := hbody (cxOf (L2.CX R.P R.w) R.P R.w R.K R.mg R.base N qual (defScope st) f cdv A outer s H E) (fun cls d _ H => E cls d H) ⟨⟨rfl, rfl, rfl, rfl, rfl, rfl, rfl, rfl, SC.nd, hr⟩, passes_of rfl, takes_of rfl rfl rfl rfl, rfl⟩ x mu ds mu' r hS
  let ρ : Tag := fun a => if π a = 0 then 0 else if π a = 2 then 2 else if π a = 3 then 3 else 1
  have r0 : ∀ a, ρ a = 0 ↔ π a = 0 := fun a => by show (if π a = 0 then 0 else if π a = 2 then 2 else if π a = 3 then 3 else 1) = 0 ↔ _; split <;> (try split) <;> (try split) <;> simp_all
  have r2 : ∀ a, ρ a = 2 ↔ π a = 2 := fun a => by show (if π a = 0 then 0 else if π a = 2 then 2 else if π a = 3 then 3 else 1) = 2 ↔ _; split <;> (try split) <;> (try split) <;> simp_all
  have r3 : ∀ a, ρ a = 3 ↔ π a = 3 := fun a => by show (if π a = 0 then 0 else if π a = 2 then 2 else if π a = 3 then 3 else 1) = 3 ↔ _; split <;> (try split) <;> (try split) <;> simp_all
  have rle : ∀ a, π a ≠ 2 → π a ≠ 3 → ρ a ≤ 1 := fun a h2 h3 => by show (if π a = 0 then 0 else if π a = 2 then 2 else if π a = 3 then 3 else 1) ≤ 1; rw [if_neg h2, if_neg h3]; split <;> omega
  have back : ∀ {π1 : Tag} {H1 : Hp}, Fix ρ H π1 H1 → ∃ π2, StpI π H π2 H1 ∧ Same (cut H1 π1 0) (cut H1 π2 0) ∧ Same (cut H1 π1 2) (cut H1 π2 2) ∧ Same (cut H1 π1 3) (cut H1 π2 3) := by
    intro π1 H1 fx
    have sm : ∀ t, (t = 0 ∨ t = 2 ∨ t = 3) → Same (cut H1 π1 t) (cut H1 (fun a => open Classical in if (H a).isSome ∧ π a ≠ 2 ∧ π a ≠ 3 then π a else π1 a) t) := fun t ht => cut_same fun a o e h => ⟨h, by
      by_cases hc : (H a).isSome ∧ π a ≠ 2 ∧ π a ≠ 3
      · rw [if_pos hc]
        obtain ⟨o', ho'⟩ := Option.isSome_iff_exists.mp hc.1
        have hρ := (fx a o' ho' (rle a hc.2.1 hc.2.2)).2
        rw [e] at hρ
        rcases ht with z | z | z
        · rw [z]; exact (r0 a).mp (by rw [← hρ]; exact z)
        · exact absurd ((r2 a).mp (by rw [← hρ]; exact z)) hc.2.1
        · exact absurd ((r3 a).mp (by rw [← hρ]; exact z)) hc.2.2
      · rw [if_neg hc]; exact e⟩
    exact ⟨fun a => open Classical in if (H a).isSome ∧ π a ≠ 2 ∧ π a ≠ 3 then π a else π1 a, fun a o h n2 n3 => ⟨(fx a o h (rle a n2 n3)).1, if_pos ⟨by rw [h]; rfl, n2, n3⟩⟩, sm 0 (.inl rfl), sm 2 (.inr (.inl rfl)), sm 3 (.inr (.inr rfl))⟩
  have s0 : Same (cut H π 0) (cut H ρ 0) := cut_same fun a o e h => ⟨h, (r0 a).mpr e⟩
  refine ⟨_, hbd, ρ, startI_ok hne hx hdx ((r3 x).mpr tx) ((r3 dx).mpr tdx) (ra.same s0) (m0.same s0 (cut_same fun a o e h => ⟨h, (r2 a).mpr e⟩)) l0 hn, ?_⟩
  refine ⟨fun Γ' σ' π' H' ⟨hmu, fs, hr, hsl⟩ fx en => ?_, fun _ _ _ _ _ _ z => z.elim, fun Γ' x cls dd σ' π' H' ⟨hmu, hr⟩ fx en rx => ?_, fun _ _ _ _ z => z.elim, fun _ _ _ _ z => z.elim⟩
  · subst hr
    obtain ⟨π2, s2, c0, c2, c3⟩ := back fx
    obtain ⟨v, _, hv⟩ := en.at_ 0 _ hsl
    obtain ⟨dx', vs1, rfl, h4⟩ := id hv
    exact hq π2 H' s2 (by rw [← hmu]; exact en.mu.same c0 c2) en.len ((insO R.K C x fs).st c0 c3 hv)
  · subst hr
    obtain ⟨π2, s2, c0, c2, c3⟩ := back fx
    exact hq cls dd π2 H' s2 (by rw [← hmu]; exact en.mu.same c0 c2) en.len (rx.same c0)
theorem make_back {K : PySem.W.Frag} {C x dx : Addr} {π1 π' : Tag} {H1 H' : Hp} {fs : List (Option D)} (hx : H1 x = none) (hdx : H1 dx = none) (s : StpI (setT (setT (calT π1) dx 3) x 3) (upd (upd H1 dx (.own x)) x (.ins C dx [])) π' H') :
    ∃ π2, Stp π1 H1 π2 H' ∧ Same (cut H' π' 0) (cut H' π2 0) ∧ Same (cut H' π' 2) (cut H' π2 2) ∧ Same (cut H' π' 3) (cut H' π2 0) := by
  have keep : ∀ a o, H1 a = some o → π1 a ≠ 2 → H' a = some o ∧ π' a = calT π1 a := fun a o h n => by
    have na : a ≠ x := ne_of_none h hx
    have nb : a ≠ dx := ne_of_none h hdx
    have h1 : calT π1 a ≤ 1 := calT_le n
    have := s a o (by rw [upd_ne na, upd_ne nb]; exact h) (by rw [setT_ne na, setT_ne nb]; omega) (by rw [setT_ne na, setT_ne nb]; omega)
    rw [setT_ne na, setT_ne nb] at this
    exact this
  refine ⟨fun a => open Classical in if (H1 a).isSome ∧ π1 a ≠ 2 then π1 a else if π' a = 3 then 0 else π' a, fun a o h n => ⟨(keep a o h n).1, if_pos ⟨by rw [h]; rfl, n⟩⟩, cut_same fun a o e h => ⟨h, ?_⟩, cut_same fun a o e h => ⟨h, ?_⟩, fun a o z => cut_at ?_ (cut_some z).2⟩
  · by_cases hc : (H1 a).isSome ∧ π1 a ≠ 2
    · rw [if_pos hc]
      obtain ⟨o', ho'⟩ := Option.isSome_iff_exists.mp hc.1
      exact calT_0.mp ((keep a o' ho' hc.2).2.symm.trans e)
    · rw [if_neg hc, if_neg (by omega)]; exact e
  · by_cases hc : (H1 a).isSome ∧ π1 a ≠ 2
    · rw [if_pos hc]
      obtain ⟨o', ho'⟩ := Option.isSome_iff_exists.mp hc.1
      exact calT_2.mp ((keep a o' ho' hc.2).2.symm.trans e)
    · rw [if_neg hc, if_neg (by omega)]; exact e
  · have e := (cut_some z).1
    by_cases hc : (H1 a).isSome ∧ π1 a ≠ 2
    · exfalso
      obtain ⟨o', ho'⟩ := Option.isSome_iff_exists.mp hc.1
      have h1 := (keep a o' ho' hc.2).2
      have h2 : calT π1 a ≤ 1 := calT_le hc.2
      omega
    · rw [if_neg hc, if_pos e]
theorem LenOk.made {K : PySem.W.Frag} {H : Hp} {C x dx : Addr} (l : LenOk K H) : LenOk K (upd (upd H dx (.own x)) x (.ins C dx [])) := (l.other fun xs => ⟨fun h => (by cases h), fun h => (by cases h), fun b h => (by cases h), fun b h => (by cases h)⟩).other fun xs => ⟨fun h => (by cases h), fun h => (by cases h), fun b h => (by cases h), fun b h => (by cases h)⟩
theorem spI_make {K : PySem.W.Frag} {C : Addr} {S : SpcI} {mu' : Mu} {r : ResI} {vs : List V} {ds : List D} {π1 : Tag} {H1 : Hp} {σ : L2.St} {Q : VK} {E : XK} (hS : S Γ1.mu ds mu' r) (e1 : EnOk K Γ1 π1 H1 σ) (r1 : RpAll K (cut H1 π1 0) vs ds)
    (hq : ∀ fs, r = .ok fs → ∀ v π2 H', Stp π1 H1 π2 H' → EnOk K ⟨Γ1.sl, mu'⟩ π2 H' σ → Rp K (cut H' π2 0) v (.inst C fs) → Q v H')
    (hx : ∀ x, r = .exc x → ∀ cls dd π2 H', Stp π1 H1 π2 H' → EnOk K ⟨Γ1.sl, mu'⟩ π2 H' σ → XRp K (cut H' π2 0) x cls dd → E cls dd H') :
    ∀ x dx, H1 x = none → H1 dx = none → dx ≠ x → SpI K C S (.ref x :: (vs ++ [])) (upd (upd H1 dx (.own x)) x (.ins C dx [])) (fun v H2 => v = .non ∧ Q (.ref x) H2) E := fun x dx nx ndx hne => by
  have sm : ∀ t, t ≠ 1 → t ≠ 3 → (t = 0 ∨ t = 2) → Same (cut H1 π1 t) (cut (upd (upd H1 dx (.own x)) x (.ins C dx [])) (setT (setT (calT π1) dx 3) x 3) t) := fun t _ _ ht => cut_same fun a o e h => by
    have na : a ≠ x := ne_of_none h nx
    have nb : a ≠ dx := ne_of_none h ndx
    refine ⟨by rw [upd_ne na, upd_ne nb]; exact h, ?_⟩
    rw [setT_ne na, setT_ne nb]
    rcases ht with z | z
    · rw [z]; exact calT_0.mpr (e.trans z)
    · rw [z]; exact calT_2.mpr (e.trans z)
  rw [List.append_nil]
  refine ⟨setT (setT (calT π1) dx 3) x 3, x, dx, vs, ds, Γ1.mu, mu', r, hS, rfl, hne, upd_same, by rw [upd_ne hne, upd_same], setT_same, by rw [setT_ne hne, setT_same], r1.same (sm 0 (by omega) (by omega) (.inl rfl)), e1.mu.same (sm 0 (by omega) (by omega) (.inl rfl)) (sm 2 (by omega) (by omega) (.inr rfl)), e1.len.made, ?_⟩
  cases r with
  | ok fs =>
    intro π' H' st mu l hi
    obtain ⟨π2, s2, c0, c2, c3⟩ := make_back (K := K) (fs := fs) nx ndx st
    exact ⟨rfl, hq fs rfl _ π2 H' s2 (e1.stp s2 (mu.same c0 c2) l) (inst_rp ((insO K C x fs).st c0 c3 hi))⟩
  | exc xc =>
    intro cls dd π' H' st mu l hxr
    obtain ⟨π2, s2, c0, c2, c3⟩ := make_back (K := K) (fs := []) nx ndx st
    exact hx xc rfl cls dd π2 H' s2 (e1.stp s2 (mu.same c0 c2) l) (hxr.same c0)
theorem xe_make {x : Str} {C : Addr} {S : SpcI} {ds : List D} {mu' : Mu} {fs : List (Option D)} (CI : CxIs R k X N sc) (F : ClsD R x C j S) (hj : j + 1 ≤ k) (hg : IsGl sc x) (ha : XA X Γ (e :: es) Γ1 ds) (hS : S Γ1.mu ds mu' (.ok fs)) (hdb : (x == ("__debug__" : Str)) = false := by decide)
    (he : starEach (e :: es) X.env = (false, eval e X.env) :: starEach es X.env := by rfl) (hpl : (backTo pos (starEach es X.env)).any (·.1) = false := by rfl) : XE X Γ (.Call (.Name x p) (e :: es) [] pos) ⟨Γ1.sl, mu'⟩ (.inst C fs) := by
  obtain ⟨f, fd, ps, F', M, hb⟩ := F.ex
  have F2 : FnOk X.prog X.w X.K X.mg X.base (L2.CX X.prog X.w) j f fd ps (SpI X.K C S) := by rw [CI.P, CI.w, CI.K, CI.mg, CI.base]; exact F'
  refine xe_of (pe_make (by rw [CI.K]; exact M) F2 (CI.room.mono hj) (CI.gl hg) (by rw [CI.mg]; exact F.mg) (by rw [CI.K]; exact hb) .nil (passNo (X := X) fun _ _ _ _ _ => cx_no) ha hdb he hpl) fun σ H π Q en kx => ?_
  refine ⟨π, en, fun vs π1 H1 s1 e1 r1 => ?_⟩
  exact spI_make (Q := lenQ X.K Q) hS e1 r1 (fun fs' hf v π2 H' s2 e2 rv _ => by
    cases hf
    refine kx v π2 H' (s1.trans s2) e2 ?_
    rw [CI.K] at rv
    rw [CI.K]
    exact rv) (fun _ z => nomatch z)
end
end Y
set_option Elab.async false
set_option linter.all false
set_option maxRecDepth 100000
set_option maxHeartbeats 400000
namespace Y
open PySem PySem.Spec PyProof.Rows L2
section
variable {X : Cx} {CX : CXT} {C g : Addr} {n : Nat} {sp : Sp} {E : XK}
def rLenOwn (C : Addr) (sp : Sp) (E : XK) : List V → Hp → VK → Prop := fun xs H Q => ∃ a dx vs, xs = [V.ref a] ∧ SlX.Slt H a C dx vs ∧ sp [.ref a] H (fun z H' => ∃ i : Int, z = .int i ∧ 0 ≤ i ∧ i < 2 ^ 63 ∧ Q (.int i) H') E
theorem call_lenOwn (hs : PySem.W.findIn X.K (.ref C) "__len__" = some (some (.ref g))) (hf : PySem.W.isFn X.K (.ref g) = true) (F : FnR X.prog X.w X.K X.mg X.base CX n g sp) (hr : Room (n + 1) X.A) (hx : Passes CX X E) : CallR X (.builtin "len") (rLenOwn C sp E) := by
  intro pins s σ H xs us Q I r h
  obtain ⟨a, dx, vs, e, hsl, q⟩ := h
  subst e
  rw [Vals.ref1 r]
  obtain ⟨sl, od, _, J, _⟩ := SlX.slt_inst I hsl
  obtain ⟨m, hF⟩ := I.fr
  refine PySem.W.len_K hF I.ok.mod.kin J hs hf (wpAny_mono (wpAny_call (SlX.run_at (us := [.ref a]) (ws := [.ref a]) F hr.in1 I.env0.in1 hx I (.cons rfl .nil) q)) (fun w s' z => ?_) fun _ _ x => x)
  obtain ⟨z', H', I', rz, i, ei, h0, h1, qz⟩ := z
  subst ei
  obtain ⟨t, ew⟩ := rz
  subst ew
  exact ⟨⟨h0, h1⟩, .int i, H', I'.tok _, ⟨_, rfl⟩, qz⟩
end
section
variable {R : Rw} {k j : Nat} {X : Cx} {N : List Str} {sc : Scope} {E : WX} {Γ Γ1 Γ2 Γ3 : En} {po po' : Po} {a b c e f tg iter o : Expr} {es elts : List Expr} {pos p apos npos spos tpos cpos p1 p2 p3 : Pos} {st : Stmt} {ss rest body : List Stmt} {kk : Nat}
theorem fnR_of {S : SpcG} {f : Addr} {fd : FuncData} {ps : List Str} (C : CxIs R k X N sc) (F : FnOk R.P R.w R.K R.mg R.base (L2.CX R.P R.w) j f fd ps (SpD R.K S)) (hb : Binds R.K fd ps []) : FnR X.prog X.w X.K X.mg X.base (L2.CX X.prog X.w) j f (SpD X.K S) := by
  rw [C.P, C.w, C.K, C.mg, C.base]
  have := F.raw hb .nil
  exact this.imp fun vs H Q E h => by rw [List.append_nil]; exact h
theorem xe_lenI {C : Addr} {fs : List (Option D)} {S : Spc} {n : Int} {mu' : Mu} (CI : CxIs R k X N sc) (B : Blt R.mg) (hg : IsGl sc "len") (F : MethD R C "__len__" j S) (hj : j + 1 ≤ k) (h : XE X Γ e Γ1 (.inst C fs)) (hS : S Γ1.mu [.inst C fs] mu' (.ret (.int n))) (h0 : 0 ≤ n) (h1 : n < 2 ^ 63) (hs : starEach [e] X.env = (false, eval e X.env) :: starEach [] X.env := by rfl) :
    XE X Γ (.Call (.Name "len" p) [e] [] pos) ⟨Γ1.sl, mu'⟩ (.int n) := by
  obtain ⟨f, fd, ps, F', hfi, hfn, hkp, hb⟩ := F.ex
  refine xe_of (pe_callB (call_lenOwn (C := C) (by rw [CI.K]; exact hfi) (by rw [CI.K]; exact hfn) (fnR_of CI F' hb) (CI.room.mono hj) (passNo (X := X) fun _ _ _ _ _ => cx_no)) (CI.gl hg) (CI.none B.len) PySem.boot_len (xa_cons h xa_nil hs) (he := hs)) fun σ H π Q en kx => ⟨π, en, fun vs π1 H1 s1 e1 r1 => ?_⟩
  cases r1 with
  | cons r1 r2 =>
    cases r2
    · have q0 := r1
      rw [CI.K] at q0
      obtain ⟨a, q1⟩ := rp_inst q0
      obtain ⟨dx, vs, rfl, hne, hsl, hfl, _⟩ := insO.slt q1 cut_sub
      refine ⟨a, dx, vs, rfl, hsl, π1, _, Γ1.mu, _, ⟨mu', .ret (.int n), hS, rfl⟩, .cons r1 .nil, e1.mu, e1.len, fun _ _ ⟨h3, h4⟩ v π' H' s m l r => ?_, fun _ _ ⟨_, h2⟩ => nomatch h2⟩
      cases h3
      cases h4
      cases r
      exact ⟨n, rfl, h0, h1, fun _ => kx _ π' H' (s1.trans s) (e1.stp s m l) (.int n)⟩
theorem xe_meth {C : Addr} {fs : List (Option D)} {S : Spc} {mu' : Mu} {m : Str} {ds : List D} {d : D} {pl : Sem Bool} (CI : CxIs R k X N sc) (F : MethD R C m j S) (c : SlX.SCls R.K C) (hj : j ≤ k) (h : XE X Γ o Γ1 (.inst C fs)) (ha : XA X Γ1 (e :: es) Γ2 ds) (hS : S Γ2.mu (.inst C fs :: ds) mu' (.ret d))
    (hst : starEach (e :: es) X.env = (false, eval e X.env) :: starEach es X.env := by rfl) (hpl : (backTo pos (starEach es X.env)).any (·.1) = false := by rfl)
    (ht : eval (.Call (.Attribute o m apos) (e :: es) [] pos) X.env = (do
      let ov ← eval o X.env
      standAt apos.atName
      let (f, first) ← holding [ov] (getMethod ov m pl)
      callWith pos f first (backTo pos (starEach (e :: es) X.env)) (backToKw pos (keywordEach [] X.env))) := by rfl) : XE X Γ (.Call (.Attribute o m apos) (e :: es) [] pos) ⟨Γ2.sl, mu'⟩ d := by
  obtain ⟨f, fd, ps, F', hfi, hfn, hkp, hb⟩ := F.ex
  refine xe_of (SlX.pe_methSl (pl := pl) h (by rw [CI.K]; exact c) (by rw [CI.K]; exact ⟨hfi, hfn, hkp⟩) (fnR_of CI F' hb) (CI.room.mono hj) (passNo (X := X) fun _ _ _ _ _ => cx_no) ha hst hpl ht) fun σ H π Q en kx => ⟨π, en, fun v π1 H1 s1 e1 r1 => ?_⟩
  · have q0 := r1
    rw [CI.K] at q0
    obtain ⟨a, q1⟩ := rp_inst q0
    obtain ⟨dx, vs, rfl, hne, hsl, hfl, _⟩ := insO.slt q1 cut_sub
    refine ⟨a, dx, vs, rfl, hsl, π1, e1, fun ws π2 H2 s2 e2 r2 => ⟨π2, _, Γ2.mu, _, ⟨mu', .ret d, hS, rfl⟩, .cons (r1.same s2.zero) r2, e2.mu, e2.len, fun _ _ ⟨h3, h4⟩ v π' H' s m l r => ?_, fun _ _ ⟨_, h2⟩ => nomatch h2⟩⟩
    cases h3
    cases h4
    exact fun _ => kx _ π' H' ((s1.trans s2).trans s) (e2.stp s m l) r
end
end Y
set_option Elab.async false
set_option linter.all false
set_option maxRecDepth 100000
set_option maxHeartbeats 400000
namespace Y
open PySem PySem.Spec PyProof.Rows L2
def txt (d : D) : Str := d.toP.shown
def Shw (d : D) : Prop := fit 32 d = true ∧ d.toP.showable = true ∧ (txt d).length ≤ 1000000
theorem size1M {n : Nat} (h : n ≤ 1000000) : n ≤ sizeLine := Nat.le_trans h (by decide)
section
variable {X : Cx}
def rRepr (K : PySem.W.Frag) : List V → Hp → VK → Prop := fun vs H Q => ∃ (G : Hp) (v : V) (d : D), vs = [v] ∧ Same G H ∧ Rp K G v d ∧ Shw d ∧ Q (.str (txt d)) H
theorem cr_repr (hg : X.A.guards = some []) (hu : X.A.units + 64 < cLine) : CallR X (.builtin "repr") (rRepr X.K) := by
  intro pins s σ H vs us Q I r ⟨G, v, d, e, sm, rd, ⟨hf, hs, hl⟩, q⟩
  subst e
  cases r with
  | cons r rr =>
    cases rr
    have hp := (rd.same sm).dp _ _ (fit_pur _ _ hf)
    have hlay := fit_lay _ _ hf
    obtain ⟨as, rds⟩ := Dp.reads I _ v _ hp r
    have hsm : d.toP.hasDict = true → sysModules ∉ as := PyData.noDict_hsm (PyData.hasDict_of_canLay _ hlay.1)
    have go : ∀ (a : Addr), Reads s.heap (.ref a) d.toP as → wpAny (model X.prog X.w) X.A (call (.builtin "repr") [.ref a]) (EP X pins σ Q) X.xe s := fun a ra =>
      repr_of_reads' ra hs hsm hg (by omega) (fun _ _ e => e) (fun h' u tk hk => ⟨.str (txt d), H, I.kept (t' := tk) hk, ⟨u, rfl⟩, q⟩) (size1M hl)
    cases d with
    | none =>
      cases rd
      cases r
      exact P.repr_of_none ⟨.str (txt .none), H, I.tok _, ⟨_, rfl⟩, q⟩
    | bool b =>
      cases rd
      cases r
      exact P.repr_of_bool ⟨.str (txt (.bool b)), H, I.tok _, ⟨_, rfl⟩, q⟩
    | int i =>
      cases rd
      obtain ⟨t, rfl⟩ := r
      exact P.repr_of_int (of_decide_eq_true hs) ⟨.str (txt (.int i)), H, I.tok _, ⟨_, rfl⟩, q⟩
    | str x =>
      cases rd
      obtain ⟨t, rfl⟩ := r
      exact P.repr_of_str ⟨.str (txt (.str x)), H, I.tok _, ⟨_, rfl⟩, q⟩ (size1M hl)
    | list xs =>
      cases rd with
      | lst g ra => cases r; exact go _ rds
    | tuple xs =>
      cases rd with
      | tup g ra => cases r; exact go _ rds
    | ob o => simp [fit] at hf
    | ref o => simp [fit] at hf
    | inst o p => simp [fit] at hf
    | dict o => simp [fit] at hf
end
section
variable {R : Rw} {k j : Nat} {X : Cx} {N : List Str} {sc : Scope} {E : WX} {Γ Γ1 Γ2 Γ3 : En} {po po' : Po} {a b c e f tg iter o : Expr} {es elts : List Expr} {pos p apos npos spos tpos cpos p1 p2 p3 : Pos} {st : Stmt} {ss rest body : List Stmt} {kk : Nat}
theorem xe_repr {d : D} (C : CxIs R k X N sc) (B : Blt R.mg) (hgd : X.A.guards = some []) (hg : IsGl sc "repr") (h : XE X Γ e Γ1 d) (hd : Shw d) (hs : starEach [e] X.env = (false, eval e X.env) :: starEach [] X.env := by rfl) : XE X Γ (.Call (.Name "repr" p) [e] [] pos) Γ1 (.str (txt d)) :=
  xe_callB C (cr_repr hgd C.u) hg (C.none B.repr) (by decide +kernel) (xa_cons h xa_nil hs) (rc_val (zv := .str _) (fun _ => .str _) fun G H vs Q sm _ r q => by
    cases r with
    | cons r1 r2 =>
      cases r2
      exact ⟨G, _, d, rfl, sm, r1, hd, q⟩) (he := hs)
structure FnG (P : Program) (w : World) (K : PySem.W.Frag) (mg : Str → Option Value) (base : Heap) (CX : CXT) (k : Nat) (f : Addr) (n : Nat) (sp : Sp) : Prop where
  len : ∀ vs H Q E, sp vs H Q E → vs.length = n
  run : ∀ (A : Around) (outer : List Env) (s : Shared) (H : Hp) (us : List Value) (vs : List V) (Q : VK) (E : XK), Room k A → A.guards = some [] → Env0 P w K mg base A outer s H → us.length = n → Vals vs us → sp vs H Q E → codeAny (model P w) A (.call (.ref f) ⟨us, []⟩) (CR CX outer P w H s Q E) s
theorem FnG.mono {P : Program} {w : World} {K : PySem.W.Frag} {mg : Str → Option Value} {base : Heap} {CX : CXT} {k j : Nat} {f : Addr} {n : Nat} {sp : Sp} (F : FnG P w K mg base CX j f n sp) (h : j ≤ k) : FnG P w K mg base CX k f n sp := ⟨F.len, fun A o s H us vs Q E r => F.run A o s H us vs Q E (r.mono h)⟩
theorem fnG_ok {P : Program} {w : World} {K : PySem.W.Frag} {mg : Str → Option Value} {base : Heap} {CX : CXT} {x qual : Str} {st : Stmt} {f : Addr} {fd : FuncData} {ps : List Str} {sp : Sp} (F : Fun K x qual st f fd) (hb : Binds K fd ps []) (S : FnScope N ps (defScope st)) (len : ∀ vs H Q E, sp vs H Q E → vs.length = ps.length)
    (hbody : ∀ (cdv : Value) (A : Around) (outer : List Env) (s : Shared) (H : Hp) (vs : List V) (Q : VK) (E : XK), Room k (A.deeper (envOfC qual (defScope st) s.heap.objs.size f cdv)) → A.guards = some [] → sp vs H Q E →
      ∃ t, PSs (cxOf CX P w K mg base N qual (defScope st) f cdv A outer s H E) (defBody st) t ∧ t { nx := fun _ H' => Q .non H', rt := Q } (L2.start N vs) H) : FnG P w K mg base CX (k + 1) f ps.length sp := by
  refine ⟨len, fun A outer s H us vs Q E room gds env hus rel hsp => ?_⟩
  obtain ⟨oc, od, kV, doc, pm, an, cdv, ct, osl, efd, lk, hcd⟩ := F.ex
  subst efd
  have kin : K.In s.heap := env.mod.kin.keeps fun b o e => (env.bs b o e).1
  have hz : ps.zip (us ++ []) = ps.zip us := by rw [List.append_nil]
  have bnd := hb s us kin (by rw [List.append_nil]; exact hus)
  rw [hz] at bnd
  refine codeAny_call_function room.depth (kin _ _ lk) rfl S.co S.gen rfl (PySem.W.codeRec_of kin hcd) (bnd _ _ _ _ (wpAny_newFunctionEnv_cells S.kind (fun y hy => ?_) fun en0 hen s1 inn => ?_))
  · rcases S.par y.1 (List.of_mem_zip hy).1 with q | q
    · exact .inl q
    · exact .inr ⟨q, PySem.W.cellsFrom_some _ _ _ (.inl q)⟩
  · subst hen
    obtain ⟨t, ht, hq⟩ := hbody cdv A outer s H vs Q E (room.deeper _) gds hsp
    have J : Inv (cxOf CX P w K mg base N qual (defScope st) f cdv A outer s H E) [] (L2.start N vs) H s1 := inv_start S room.hd env (len _ _ _ _ hsp) rel inn
    refine ⟨(env.mod.nolimit.keeps fun b o e => (env.bs b o e).1).keeps inn.toInCall.keep, codeAny_func (wpAny_mono (ht.run [] s1 _ H _ J hq) (fun fl s' z => ?_) fun _ _ z => z)⟩
    cases fl with
    | next => obtain ⟨σ', H', J', q⟩ := z; exact ⟨.non, H', J'.os, J'.bare, J'.base, J'.hok, rfl, q⟩
    | ret u => obtain ⟨v, σ', H', J', rv, q⟩ := z; exact ⟨v, H', J'.os, J'.bare, J'.base, J'.hok, rv, q⟩
    | brk => obtain ⟨_, _, _, q⟩ := z; exact q.elim
    | cont => obtain ⟨_, _, _, q⟩ := z; exact q.elim
structure DefR (R : Rw) (x : Str) (k : Nat) (S : SpcG) : Prop where
  ex : ∃ f n, FnG R.P R.w R.K R.mg R.base (L2.CX R.P R.w) k f n (SpD R.K S) ∧ R.mg x = some (.ref f) ∧ PySem.W.keepIn R.K (.ref f) = true
theorem bodyG {x qual : Str} {st : Stmt} {f : Addr} {fd : FuncData} {ps : List Str} {S : SpcG} (F : Fun R.K x qual st f fd) (hb : Binds R.K fd ps []) (SC : FnScope N ps (defScope st)) (hlen : ∀ mu ds P, S mu ds P → ds.length = ps.length)
    (hbody : ∀ (X : Cx) (E : WX), FCx R k X N (defScope st) E → X.A.guards = some [] → ∀ mu ds P, S mu ds P → BS X E (En.start N.length ds mu) (defBody st)
      { nx := fun Γ' => P Γ'.mu (.ret .none), rt := fun Γ' d => P Γ'.mu (.ret d), xc := fun Γ' x => P Γ'.mu (.exc x) }) : FnG R.P R.w R.K R.mg R.base (L2.CX R.P R.w) (k + 1) f ps.length (SpD R.K S) := by
  refine fnG_ok F hb SC (fun vs H Q E ⟨π, ds, mu, P, hS, ra, _⟩ => by rw [ra.length]; exact hlen _ _ _ hS) fun cdv A outer s H vs Q E hr hgd ⟨π, ds, mu, P, hS, ra, m0, l0, hq, hx⟩ => ?_
  have hbd := hbody (cxOf (L2.CX R.P R.w) R.P R.w R.K R.mg R.base N qual (defScope st) f cdv A outer s H E) (fun cls d _ H => E cls d H) ⟨⟨rfl, rfl, rfl, rfl, rfl, rfl, rfl, rfl, SC.nd, hr⟩, passes_of rfl, takes_of rfl rfl rfl rfl, rfl⟩ hgd mu ds P hS
  refine ⟨_, hbd, calT π, start_ok (ra.same (cut_same fun a o e h => ⟨h, calT_0.mpr e⟩)) (m0.same (cut_same fun a o e h => ⟨h, calT_0.mpr e⟩) (cut_same fun a o e h => ⟨h, calT_2.mpr e⟩)) l0, ?_⟩
  refine ⟨fun Γ' σ' π' H' hP fx en => ?_, fun Γ' d v σ' π' H' hP fx en rd => ?_, fun Γ' x cls dd σ' π' H' hP fx en rx => ?_, fun _ _ _ _ z => z.elim, fun _ _ _ _ z => z.elim⟩
  · obtain ⟨π2, s2, c0, c2⟩ := cal_back fx
    exact hq _ _ hP .non π2 H' s2 (en.mu.same c0 c2) en.len .non
  · obtain ⟨π2, s2, c0, c2⟩ := cal_back fx
    exact hq _ _ hP v π2 H' s2 (en.mu.same c0 c2) en.len (rd.same c0)
  · obtain ⟨π2, s2, c0, c2⟩ := cal_back fx
    exact hx _ _ hP cls dd π2 H' s2 (en.mu.same c0 c2) en.len (rx.same c0)
theorem defR_ok {x qual : Str} {st : Stmt} {f : Addr} {fd : FuncData} {ps : List Str} {S : Spc} (F : Fun R.K x qual st f fd) (hm : R.mg x = some (.ref f)) (hb : Binds R.K fd ps []) (SC : FnScope N ps (defScope st)) (hlen : ∀ mu ds mu' r, S mu ds mu' r → ds.length = ps.length)
    (hbody : ∀ (X : Cx) (E : WX), FCx R k X N (defScope st) E → X.A.guards = some [] → ∀ mu ds mu' r, S mu ds mu' r → BS X E (En.start N.length ds mu) (defBody st)
      { nx := fun Γ' => Γ'.mu = mu' ∧ r = .ret .none, rt := fun Γ' d => Γ'.mu = mu' ∧ r = .ret d, xc := fun Γ' x => Γ'.mu = mu' ∧ r = .exc x }) : DefR R x (k + 1) (det S) :=
  ⟨f, ps.length, bodyG F hb SC (fun mu ds P ⟨mu', r, h, _⟩ => hlen mu ds mu' r h) fun X E C hgd mu ds P ⟨mu', r, h, e⟩ => by
    subst e
    exact PSs.imp (hbody X E C hgd mu ds mu' r h) fun D σ H ⟨π, en, kb⟩ => ⟨π, en, fun a b c d e f g => kb.nx a b c d ⟨e.1, e.2.symm⟩ f g, fun a b c d e f g h i j => kb.rt a b c d e f ⟨g.1, g.2.symm⟩ h i j, fun a b c d e f g h i j l => kb.xc a b c d e f g ⟨h.1, h.2.symm⟩ i j l, fun _ _ _ _ z => z.elim, fun _ _ _ _ z => z.elim⟩, hm, F.kp⟩
theorem pe_callGd {P : Sp} {x : Str} {f : Addr} {n : Nat} {E' : XK} {t : TA} (C : CxIs R k X N sc) (hgd : X.A.guards = some []) (F : FnG X.prog X.w X.K X.mg X.base (L2.CX X.prog X.w) j f n P) (hj : j ≤ k) (hg : IsGl sc x) (hm : R.mg x = some (.ref f)) (kp : PySem.W.keepIn R.K (.ref f) = true) (hx : Passes (L2.CX X.prog X.w) X E') (ha : PA X (e :: es) t) (hdb : (x == ("__debug__" : Str)) = false)
    (he : starEach (e :: es) X.env = (false, eval e X.env) :: starEach es X.env) (hpl : (backTo pos (starEach es X.env)).any (·.1) = false) : PE X (.Call (.Name x p) (e :: es) [] pos) (fun σ H Q => t σ H fun vs H1 => P vs H1 Q E') := by
  refine ⟨fun pins s σ H Q I h => wpAny_Call_Name_kw (ld_glob I (C.gl hg) (by rw [C.mg]; exact hm) ?_ hdb)⟩
  refine PySem.W.callWith_K (h₀ := X.base) I.ok.mod.kin (by rw [C.K]; exact kp) (thn (ha.run pos pins s σ H _ I h) fun us s1 ⟨vs, H1, I1, r, q⟩ => ⟨I1.kIn, wpAny_call (codeAny_mono (F.run X.A X.stack s1 H1 us vs Q E' (C.room.mono hj) hgd I1.env0 (by rw [← r.length]; exact F.len _ _ _ _ q) r q) fun res s' hq => ?_)⟩) he hpl
  cases res with
  | error e => exact hx pins σ H1 s1 e s' I1 hq
  | ok fl =>
    cases fl with
    | ret u => exact I1.after hq
    | next => exact hq.elim
    | brk => exact hq.elim
    | cont => exact hq.elim
theorem xe_callR {x : Str} {S : Spc} {ds : List D} {mu' : Mu} {d : D} (C : CxIs R k X N sc) (hgd : X.A.guards = some []) (F : DefR R x j (det S)) (hj : j ≤ k) (hg : IsGl sc x) (ha : XA X Γ (e :: es) Γ1 ds) (hS : S Γ1.mu ds mu' (.ret d)) (hdb : (x == ("__debug__" : Str)) = false := by decide)
    (he : starEach (e :: es) X.env = (false, eval e X.env) :: starEach es X.env := by rfl) (hpl : (backTo pos (starEach es X.env)).any (·.1) = false := by rfl) : XE X Γ (.Call (.Name x p) (e :: es) [] pos) ⟨Γ1.sl, mu'⟩ d := by
  obtain ⟨f, n, F, hm, kp⟩ := F.ex
  have F' : FnG X.prog X.w X.K X.mg X.base (L2.CX X.prog X.w) j f n (SpD X.K (det S)) := by rw [C.P, C.w, C.K, C.mg, C.base]; exact F
  refine xe_of (pe_callGd C hgd F' hj hg hm kp (passNo (X := X) fun _ _ _ _ _ => cx_no) ha hdb he hpl) fun σ H π Q en kx => ⟨π, en, fun vs π1 H1 s1 e1 r1 => ?_⟩
  exact ⟨π1, ds, Γ1.mu, _, ⟨mu', .ret d, hS, rfl⟩, r1, e1.mu, e1.len, fun _ _ ⟨h1, h2⟩ v π' H' s m l r _ => by cases h1; cases h2; exact kx v π' H' (s1.trans s) (e1.stp s m l) r, fun _ _ ⟨_, h2⟩ => nomatch h2⟩
end
end Y
set_option Elab.async false
set_option linter.all false
set_option maxRecDepth 100000
set_option maxHeartbeats 400000
namespace Y
open PySem PySem.Spec PyProof.Rows L2
def heap0 (K : PySem.W.Frag) (a : Addr) (o : Obj) (xs : List V) : Hp := fun b => if b = a ∧ K.lookup a = none then some (.frz o (.lst xs)) else none
theorem heap0_some {K : PySem.W.Frag} {a b : Addr} {o : Obj} {xs : List V} {u : HO} (h : heap0 K a o xs b = some u) : b = a ∧ K.lookup a = none ∧ u = .frz o (.lst xs) := by
  unfold heap0 at h
  split at h
  · rename_i q
    cases h
    exact ⟨q.1, q.2, rfl⟩
  · cases h
theorem enter_law {P : Program} {w : World} {K : PySem.W.Frag} {mg mb : Str → Option Value} {k : Nat} {fa a : Addr} {sp : Sp} {t : Shared} {vs : List Value} {ns : List Int}
    (kin : K.In t.heap) (gl : t.heap.Ns mainGlobals mg) (bl : t.heap.Ns builtinsNs mb) (boot : ∀ x : Str, x ≠ "__name__" → mb x = bootBuiltins x) (free : t.heap.NoLimit) (qui : t.gens = #[])
    (hob : t.heap.get? a = some { cls := .type "list", data := .seq vs.toArray }) (hin : IntsAre vs ns) (sho : ns.length ≤ sizeLine) (room : Room k callerA)
    (F : ∀ base : Heap, K.In base → base.Ns mainGlobals mg → FnG P w K mg base (L2.CX P w) k fa 1 sp)
    (start : ∀ H : Hp, SqL K H a (ns.map V.int) → (∀ p xs, SqL K H p xs → xs.length ≤ sizeLine) → (∀ p xs, SqT K H p xs → xs.length ≤ sizeLine) → sp [.ref a] H (fun v _ => v = .bl true) fun _ _ _ => False) :
    codeAny (model P w) callerA (.call (.ref fa) ⟨[.ref a], []⟩) (fun r s' => r = .ok (.ret (.bool true)) ∧ OldK t.heap s'.heap ∧ s'.os = t.os ∧ AllBare s'.gens) t := by
  have rel := vals_ints hin
  let o : Obj := { cls := .type "list", data := .seq vs.toArray }
  let H := heap0 K a o (ns.map V.int)
  have hok : HOk P w H t.heap := fun b u e => by
    obtain ⟨rfl, _, rfl⟩ := heap0_some e
    exact ⟨hob, by rw [List.length_map]; exact sho, vs, _, rel, hob⟩
  have seen : ∀ {b : Addr} {u : Obj}, t.heap.get? b = some u → (∀ vs', u.data ≠ .seq vs' 0) ∨ b ≠ a → (hidT t.heap H).get? b = some u := fun {b u} e d => hidT_get e (by
    cases q : H b with
    | none => rfl
    | some z =>
      obtain ⟨rfl, _, _⟩ := heap0_some q
      rcases d with d | d
      · rw [hob] at e
        cases e
        exact absurd rfl (d vs.toArray)
      · exact absurd rfl d)
  have spaces : ∀ {b : Addr} {m : Str → Option Value}, t.heap.Ns b m → (hidT t.heap H).Ns b m := fun {b m} ⟨u, es, ep, e, d, r⟩ => ⟨u, es, ep, seen e (.inl fun vs' z => by rw [d] at z; cases z), d, r⟩
  have kin' : K.In (hidT t.heap H) := fun b u e => by
    by_cases hb : b = a
    · subst hb
      refine hidT_get (kin _ _ e) ?_
      cases q : H b with
      | none => rfl
      | some z =>
        obtain ⟨_, n, _⟩ := heap0_some q
        rw [n] at e
        cases e
    · exact seen (kin b u e) (.inr hb)
  have seq : SqL K H a (ns.map V.int) := by
    cases lk : K.lookup a with
    | none => exact .inl (.inr ⟨o, if_pos ⟨rfl, lk⟩⟩)
    | some u =>
      have e := kin a u lk
      rw [hob] at e
      cases e
      exact .inr ⟨_, vs.toArray, _, lk, rfl, rfl, rfl, by rw [List.size_toArray, hin.length]; exact sho, by simpa using rel⟩
  have env : Env0 P w K mg (hidT t.heap H) callerA [] t H := ⟨rfl, ⟨kin', spaces gl, ⟨mb, spaces bl, boot⟩, let ⟨mc, h1, h2⟩ := free; ⟨mc, spaces h1, h2⟩⟩, fun b u e => of_hidT e, Nat.le_of_eq (hidT_size _ _), trivial, (fun b hb => nomatch hb), hok, .of_eq qui⟩
  have lenL : ∀ p xs, SqL K H p xs → xs.length ≤ sizeLine := fun p xs q => by
    rcases q with q | ⟨_, its, _, _, _, _, _, z, r⟩
    · exact (q.ok hok).1
    · rw [r.length, Array.length_toList]; exact z
  have lenT : ∀ p xs, SqT K H p xs → xs.length ≤ sizeLine := fun p xs q => by
    rcases q with q | ⟨_, its, _, _, _, _, z, r⟩
    · exact (q.ok hok).1
    · rw [r.length, Array.length_toList]; exact z
  refine codeAny_mono ((F _ kin' (spaces gl)).run callerA [] t H [.ref a] [.ref a] _ _ room rfl env rfl (.cons rfl .nil) (start H seq lenL lenT)) fun r s' h => ?_
  cases r with
  | error e => exact (cx_no h).elim
  | ok fl =>
    cases fl with
    | next => exact h.elim
    | brk => exact h.elim
    | cont => exact h.elim
    | ret u =>
      obtain ⟨v, H', os, bare, un, hok', rv, q⟩ := h
      have q' : v = .bl true := q
      subst q'
      obtain rfl : u = Value.bool true := rv
      refine ⟨rfl, OldK.of_keep fun b ob e => ?_, os, bare⟩
      cases z : H b with
      | none => exact un.keep b ob e z (fun y => nomatch y) (by simp)
      | some hu =>
        obtain ⟨rfl, _, rfl⟩ := heap0_some z
        obtain ⟨e2, _⟩ := hok' b _ (un.frzs b _ _ z)
        rw [hob] at e
        cases e
        exact e2
def scrO (K : PySem.W.Frag) (ns : List Int) : Ob := ⟨fun v G => ∃ a, v = .ref a ∧ SqL K G a (ns.map V.int), fun sm ⟨a, h1, h2⟩ => ⟨a, h1, sm.seq h2⟩⟩
theorem itl_seq {K : PySem.W.Frag} {a : Addr} {xs : List V} {ds : List D} {G : Hp} (h : SqL K G a xs) (r : RpAll K G xs ds) : ItOk K true (Itl K a) ds (fun π H => Same G (cut H π 0)) where
  cl := fun π H π' H' p s => p.trans s.zero
  clF := fun _ π H π' H' p s => p.trans s.zero
  fr := fun π H q o p t => p.trans (cut_frame t (by omega))
  go := fun i π H hi p _ => by
    have hi' : i < xs.length := by rw [r.length]; exact hi
    exact ⟨xs, xs[i], (p.trans cut_sub).seq h, List.getElem?_eq_getElem hi'⟩
  stop := fun π H p => ⟨xs, (p.trans cut_sub).seq h, by rw [r.length]; exact Nat.le_refl _⟩
  bd := fun π H p l => by rw [← r.length]; exact l.l _ _ ((p.trans cut_sub).seq h)
  yld := fun i d π H x H' hd p l y => by
    obtain ⟨e, y⟩ := y
    subst e
    obtain ⟨v, hv, rv⟩ := r.get hd
    have e := y xs ((p.trans cut_sub).seq h)
    rw [hv] at e
    cases e
    exact ⟨π, Pur.refl, rv.same p, l⟩
section
variable {R : Rw} {k j : Nat} {X : Cx} {N : List Str} {sc : Scope} {E : WX} {Γ Γ1 Γ2 Γ3 : En} {po po' : Po} {a b c e f tg iter o : Expr} {es elts : List Expr} {pos p apos npos spos tpos cpos p1 p2 p3 : Pos} {st : Stmt} {ss rest body : List Stmt} {kk : Nat}
theorem xi_scr {ns : List Int} (C : CxIs R k X N sc) (h : XE X Γ e Γ1 (.ob (scrO R.K ns))) : XI X true Γ tg e Γ1 (ns.map D.int) := by
  refine PI.imp (pi_list h) fun σ H Q ⟨π, en, q⟩ => ⟨π, en, fun v π' H' s e r => ?_⟩
  cases r with
  | ob r =>
    obtain ⟨a, rfl, hq⟩ := r
    rw [← C.K] at hq
    exact ⟨a, rfl, ⟨_, (cut_sub).seq hq⟩, q _ _ π' H' s e (itl_seq hq (RpAll.ints ns)) (Same.refl _)⟩
theorem xi_enumScr {ns : List Int} (C : CxIs R k X N sc) (B : Blt R.mg) (hg : IsGl sc "enumerate") (h : XE X Γ e Γ1 (.ob (scrO R.K ns))) (hs : starEach [e] X.env = (false, eval e X.env) :: starEach [] X.env := by rfl) (hs2 : starEach [e] X.env = [(false, eval e X.env)] := by rfl) :
    XI X true Γ (.Tuple elts kk tpos) (.Call (.Name "enumerate" p) [e] [] pos) Γ1 (enumD (ns.map D.int)) := by
  refine PI.imp (pi_enum (C.gl hg) (C.none B.enumerate) (xa_cons h xa_nil hs) hs2) fun σ H Q ⟨π, en, q⟩ => ⟨π, en, fun vs π' H' s e r => ?_⟩
  cases r with
  | cons r1 r2 =>
    cases r2
    cases r1 with
    | ob r =>
      obtain ⟨a, rfl, hq⟩ := r
      rw [← C.K] at hq
      exact ⟨a, _, rfl, (cut_sub).seq hq, q _ _ π' H' s e (ite_stable hq (RpAll.ints ns)) (Same.refl _)⟩
end
def S_law (K : PySem.W.Frag) : SpcG := fun mu ds P => mu = none ∧ ∃ ns : List Int, ns.length ≤ 63 ∧ (∀ z ∈ ns, Builtin.Int.intBits z ≤ 1048576) ∧ ds = [.ob (scrO K ns)] ∧ P = fun _ r => r = .ret (.bool true)
theorem walk_law {l : PySem.W.OpenLaw} {k : Nat} {q : Program} {loose : List Str} {XP : (Str → Option Value) → Heap → Prop} {YP : World → Heap → Prop} {d : DefRec} {K : Params → PySem.W.Frag}
    (hn : l.most = some 63) (hdf : d.params.defaults = []) (room : Room k callerA) (hY : ∀ (w : World) (h : Heap), YP w h → (K w.params).In h)
    (F : ∀ (w : World) (mg : Str → Option Value) (fa : Addr) (h : Heap), (K w.params).In h → h.Ns mainGlobals mg → mg d.name = some (.ref fa) →
      ∀ base : Heap, (K w.params).In base → base.Ns mainGlobals mg → FnG l.prog w (K w.params) mg base (L2.CX l.prog w) k fa 1 (SpD (K w.params) (S_law (K w.params)))) :
    PySem.W.WalkO q loose XP YP l.row.toRowW d [] (fun f vs => PySem.call f vs) := by
  refine Att.attach_callB hn hdf fun w s₀ s₁ mg mb fa o pm cd doc a vs ns G Y ho hd hcd hmg hob hin hlen hbits hg => ?_
  have KX := hY w _ Y
  refine enter_law KX G.T.g G.T.b G.T.builtins G.T.nolimit hg hob hin (Nat.le_trans hlen (by decide)) room (F w mg fa _ KX G.T.g hmg) fun H sq l1 l2 => ?_
  refine ⟨fun _ => 0, [.ob (scrO (K w.params) ns)], none, _, ⟨rfl, ns, hlen, hbits, rfl, rfl⟩, .cons (.ob ⟨a, rfl, ?_⟩) .nil, True.intro, ⟨l1, l2⟩, fun mu' d' hp v π' H' _ _ _ r => ?_, fun mu' x hp => nomatch hp⟩
  · have : cut H (fun _ => 0) 0 = H := by funext b; unfold cut; rw [if_pos rfl]
    rw [this]
    exact sq
  · cases hp
    cases r
    rfl
end Y
set_option Elab.async false
set_option linter.all false
set_option maxRecDepth 100000
set_option maxHeartbeats 400000
namespace Y
open PySem PySem.Spec PyProof.Rows L2
def isI : D → Bool
  | .int _ => true
  | .bool _ => true
  | _ => false
def isB : D → Bool
  | .bool _ => true
  | _ => false
def isT : D → Bool
  | .tuple _ => true
  | _ => false
def isL : D → Bool
  | .list _ => true
  | _ => false
def isS : D → Bool
  | .str _ => true
  | _ => false
structure AnyT (K : PySem.W.Frag) (d : D) (u : Value) : Prop where
  ty : TyD K d u
  i : PySem.W.kitOne K u (.type "int") = some (isI d)
  b : PySem.W.kitOne K u (.type "bool") = some (isB d)
  t : PySem.W.kitOne K u (.type "tuple") = some (isT d)
  l : PySem.W.kitOne K u (.type "list") = some (isL d)
  s : PySem.W.kitOne K u (.type "str") = some (isS d)
def AnyV (K : PySem.W.Frag) (d : D) : Prop := ∃ t, AnyT K d t
def noOb : D → Bool
  | .ob _ => false
  | .ref _ => false
  | .inst _ _ => false
  | _ => true
theorem any_of {K : PySem.W.Frag} {d : D} (h : noOb d = true) : AnyV K d := by
  cases d with
  | none => exact ⟨_, .non, rfl, rfl, rfl, rfl, rfl⟩
  | bool b => exact ⟨_, .bl b, rfl, rfl, rfl, rfl, rfl⟩
  | int i => exact ⟨_, .int i, rfl, rfl, rfl, rfl, rfl⟩
  | str s => exact ⟨_, .str s, rfl, rfl, rfl, rfl, rfl⟩
  | list xs => exact ⟨_, .lst xs, rfl, rfl, rfl, rfl, rfl⟩
  | tuple xs => exact ⟨_, .tup xs, rfl, rfl, rfl, rfl, rfl⟩
  | dict kvs => exact ⟨_, .dict kvs, rfl, rfl, rfl, rfl, rfl⟩
  | ref a => cases h
  | inst C fs => cases h
  | ob o => cases h
theorem filt_true {α : Type} (xs : List α) : xs.filter (fun _ => true) = xs := by simp
section
variable {R : Rw} {k j : Nat} {X : Cx} {N : List Str} {sc : Scope} {E : WX} {Γ Γ1 Γ2 Γ3 : En} {po po' : Po} {a b c e f tg iter o : Expr} {es elts : List Expr} {pos p apos npos spos tpos cpos p1 p2 p3 : Pos} {st : Stmt} {ss rest body : List Stmt} {kk : Nat}
theorem XBs.t {op : BoolOp} {b : Bool} (h : XBs X op Γ es pos b) : XT X Γ (.BoolOp op es pos) Γ b := PW.pt h.w
theorem XI.to {fb : Bool} {ds ds' : List D} (h : XI X fb Γ tg iter Γ1 ds) (q : ds = ds') : XI X fb Γ tg iter Γ1 ds' := by subst q; exact h
theorem xe_dict0 : XE X Γ (.Dict [] [] pos) Γ (.dict []) := xe_of pe_dnewK fun σ H π Q en kx q hq => kx.new en hq fun G sm hg => .dict hg .nil
theorem xb_isInt {d : D} (C : CxIs R k X N sc) (B : Blt R.mg) (hi : IsGl sc "isinstance") (hT : IsGl sc "int") (h : XE X Γ e Γ1 d) (hd : AnyV R.K d) (he : starEach [e, .Name "int" p1] X.env = (false, eval e X.env) :: starEach [.Name "int" p1] X.env := by rfl) : XB X Γ (.Call (.Name "isinstance" p) [e, .Name "int" p1] [] pos) Γ1 (isI d) := by
  obtain ⟨t, q⟩ := hd
  exact xb_isi (T := "int") (x := "int") (np := p1) C B hi h (xe_ty C hT B.int (by decide +kernel)) q.ty q.i (he := he)
theorem xb_isBool {d : D} (C : CxIs R k X N sc) (B : Blt R.mg) (hi : IsGl sc "isinstance") (hT : IsGl sc "bool") (h : XE X Γ e Γ1 d) (hd : AnyV R.K d) (he : starEach [e, .Name "bool" p1] X.env = (false, eval e X.env) :: starEach [.Name "bool" p1] X.env := by rfl) : XB X Γ (.Call (.Name "isinstance" p) [e, .Name "bool" p1] [] pos) Γ1 (isB d) := by
  obtain ⟨t, q⟩ := hd
  exact xb_isi (T := "bool") (x := "bool") (np := p1) C B hi h (xe_ty C hT B.bool (by decide +kernel)) q.ty q.b (he := he)
theorem xb_isTup {d : D} (C : CxIs R k X N sc) (B : Blt R.mg) (hi : IsGl sc "isinstance") (hT : IsGl sc "tuple") (h : XE X Γ e Γ1 d) (hd : AnyV R.K d) (he : starEach [e, .Name "tuple" p1] X.env = (false, eval e X.env) :: starEach [.Name "tuple" p1] X.env := by rfl) : XB X Γ (.Call (.Name "isinstance" p) [e, .Name "tuple" p1] [] pos) Γ1 (isT d) := by
  obtain ⟨t, q⟩ := hd
  exact xb_isi (T := "tuple") (x := "tuple") (np := p1) C B hi h (xe_ty C hT B.tuple (by decide +kernel)) q.ty q.t (he := he)
theorem xb_isStr {d : D} (C : CxIs R k X N sc) (B : Blt R.mg) (hi : IsGl sc "isinstance") (hT : IsGl sc "str") (h : XE X Γ e Γ1 d) (hd : AnyV R.K d) (he : starEach [e, .Name "str" p1] X.env = (false, eval e X.env) :: starEach [.Name "str" p1] X.env := by rfl) : XB X Γ (.Call (.Name "isinstance" p) [e, .Name "str" p1] [] pos) Γ1 (isS d) := by
  obtain ⟨t, q⟩ := hd
  exact xb_isi (T := "str") (x := "str") (np := p1) C B hi h (xe_ty C hT B.str (by decide +kernel)) q.ty q.s (he := he)
theorem xb_isLT {d : D} {q : Pos} {kt : Nat} (C : CxIs R k X N sc) (B : Blt R.mg) (hi : IsGl sc "isinstance") (hL : IsGl sc "list") (hT : IsGl sc "tuple") (h : XE X Γ e Γ1 d) (hd : AnyV R.K d) (he : starEach [e, .Tuple [.Name "list" p1, .Name "tuple" p2] kt q] X.env = (false, eval e X.env) :: starEach [.Tuple [.Name "list" p1, .Name "tuple" p2] kt q] X.env := by rfl) : XB X Γ (.Call (.Name "isinstance" p) [e, .Tuple [.Name "list" p1, .Name "tuple" p2] kt q] [] pos) Γ1 (isL d || isT d) := by
  obtain ⟨t, z⟩ := hd
  refine xb_isiT (ns := ["list", "tuple"]) C B hi h (xa_cons (xe_ty C hL B.list (by decide +kernel)) (xa_cons (xe_ty C hT B.tuple (by decide +kernel)) xa_nil)) z.ty ?_ (he := he)
  show PySem.W.kitAny R.K t [.type "list", .type "tuple"] = _
  unfold PySem.W.kitAny
  rw [z.l]
  cases hl : isL d with
  | true => rfl
  | false =>
    show PySem.W.kitAny R.K t [.type "tuple"] = _
    unfold PySem.W.kitAny
    rw [z.t]
    cases ht : isT d <;> rfl
theorem xf_lcD {fb : Bool} {ds : List D} {c : D → Bool} {g : D → D} {Γt : D → En} {own : List (Str × Nat)} {scope : Scope} {elt : Expr} {ifs : List Expr} (C : CxIs R k X N sc) (hi : XI X fb Γ tg iter Γ1 ds) (ok : blkC N sc scope own = true)
    (h : ∀ X', BlkX R k N sc scope X X' → ∀ x, x ∈ ds → XG X' (slotsOf own) (Γ1.wipe (slotsOf own)) tg x (Γt x) ∧ XTs X' (Γt x) ifs (Γt x) (c x) ∧ (c x = true → XE X' (Γt x) elt (Γt x) (g x)))
    (hmu : ∀ x, (Γt x).mu = Γ1.mu) (hs : ∀ x, foldedSetIterable iter X.env x = pure x := by intro _; rfl) :
    XF X Γ (.ListComp elt [⟨tg, iter, ifs, 0⟩] scope pos) Γ1 ((ds.filter c).map g) :=
  xf_lc (xs := ds) (f := fun d => d) (Γt := Γt) C (by rw [List.map_id']; exact hi) ok h hmu hs
theorem xe_allLc {fb : Bool} {α : Type} {xs : List α} {f : α → D} {c g : α → Bool} {Γt : α → En} {own : List (Str × Nat)} {scope : Scope} {elt : Expr} {ifs : List Expr} (C : CxIs R k X N sc) (B : Blt R.mg) (hg : IsGl sc "all") (hi : XI X fb Γ tg iter Γ1 (xs.map f)) (ok : blkC N sc scope own = true)
    (h : ∀ X', BlkX R k N sc scope X X' → ∀ x, x ∈ xs → XG X' (slotsOf own) (Γ1.wipe (slotsOf own)) tg (f x) (Γt x) ∧ XTs X' (Γt x) ifs (Γt x) (c x) ∧ (c x = true → XE X' (Γt x) elt (Γt x) (.bool (g x))))
    (hmu : ∀ x, (Γt x).mu = Γ1.mu) (hs : ∀ x, foldedSetIterable iter X.env x = pure x := by intro _; rfl) (hs2 : starEach [.ListComp elt [⟨tg, iter, ifs, 0⟩] scope cpos] X.env = (false, eval (.ListComp elt [⟨tg, iter, ifs, 0⟩] scope cpos) X.env) :: starEach [] X.env := by rfl) :
    XE X Γ (.Call (.Name "all" p) [.ListComp elt [⟨tg, iter, ifs, 0⟩] scope cpos] [] pos) Γ1 (.bool ((xs.filter c).all g)) := by
  have h1 := XF.e (xf_lc (g := fun x => .bool (g x)) (pos := cpos) C hi ok h hmu hs)
  have h2 := xe_all (p := p) (pos := pos) (bs := (xs.filter c).map g) C hg B (by rw [List.map_map]; exact h1) hs2
  refine XE.to h2 ?_
  rw [List.all_map]
  rfl
theorem xe_anyLc {fb : Bool} {α : Type} {xs : List α} {f : α → D} {c g : α → Bool} {Γt : α → En} {own : List (Str × Nat)} {scope : Scope} {elt : Expr} {ifs : List Expr} (C : CxIs R k X N sc) (B : Blt R.mg) (hg : IsGl sc "any") (hi : XI X fb Γ tg iter Γ1 (xs.map f)) (ok : blkC N sc scope own = true)
    (h : ∀ X', BlkX R k N sc scope X X' → ∀ x, x ∈ xs → XG X' (slotsOf own) (Γ1.wipe (slotsOf own)) tg (f x) (Γt x) ∧ XTs X' (Γt x) ifs (Γt x) (c x) ∧ (c x = true → XE X' (Γt x) elt (Γt x) (.bool (g x))))
    (hmu : ∀ x, (Γt x).mu = Γ1.mu) (hs : ∀ x, foldedSetIterable iter X.env x = pure x := by intro _; rfl) (hs2 : starEach [.ListComp elt [⟨tg, iter, ifs, 0⟩] scope cpos] X.env = (false, eval (.ListComp elt [⟨tg, iter, ifs, 0⟩] scope cpos) X.env) :: starEach [] X.env := by rfl) :
    XE X Γ (.Call (.Name "any" p) [.ListComp elt [⟨tg, iter, ifs, 0⟩] scope cpos] [] pos) Γ1 (.bool ((xs.filter c).any g)) := by
  have h1 := XF.e (xf_lc (g := fun x => .bool (g x)) (pos := cpos) C hi ok h hmu hs)
  have h2 := xe_any (p := p) (pos := pos) (bs := (xs.filter c).map g) C hg B (by rw [List.map_map]; exact h1) hs2
  refine XE.to h2 ?_
  rw [List.any_map]
  rfl
theorem sw_cell {elt : Expr} {gs : List Comprehension} {scope : Scope} {ps py : Pos} {y : Str} {l : Nat} {env : Env} (hy : env.scope.names.lookup y = some .cell) : swapsWith (.ListComp elt gs scope ps) (some (.Name y py)) l env = pure false := by
  have ky : env.kindOf y = some .cell := hy
  unfold swapsWith
  simp only [ky]
  show pure (env.blockKind == .function && (some NameKind.cell == some NameKind.local) && _ && _) = _
  have e : (some NameKind.cell == some NameKind.local) = false := rfl
  rw [e, Bool.and_false, Bool.false_and, Bool.false_and]
theorem sc_set {elt : Expr} {gs : List Comprehension} {scope : Scope} {x : Str} {d : D} (C : FCx R k X N sc E) (i : Nat) (h : XE X Γ (.ListComp elt gs scope cpos) Γ1 d) (hN : N[i]? = some x) (hr : po.nx (Γ1.setS i (.st d))) (hx : sc.names.lookup x = some .cell := by rfl) : ST X E Γ (.Assign [.Name x p] (.ListComp elt gs scope cpos) pos) po := st_set C.toCxIs i h hN (.inr hx) (.inl (by rw [C.fn])) hr (sw_cell (by rw [C.sc]; exact hx))
theorem sc_own {elt : Expr} {gs : List Comprehension} {scope : Scope} {x : Str} {ds : List D} (C : FCx R k X N sc E) (i : Nat) (h : XF X Γ (.ListComp elt gs scope cpos) Γ1 ds) (hN : N[i]? = some x) (hr : po.nx (Γ1.setS i (.lst ds))) (hx : sc.names.lookup x = some .cell := by rfl) : ST X E Γ (.Assign [.Name x p] (.ListComp elt gs scope cpos) pos) po := st_own C.toCxIs i h hN (.inr hx) (.inl (by rw [C.fn])) hr (sw_cell (by rw [C.sc]; exact hx))
theorem XG.sub {js js' : List Nat} {d : D} (h : XG X js Γ tg d Γ1) (hs : ∀ j ∈ js, j ∈ js') : XG X js' Γ tg d Γ1 := PG.imp h fun v σ H Q ⟨π, en, r, q⟩ => ⟨π, en, r, fun σ' l n e => q σ' l (fun j hj => n j fun z => hj (hs j z)) e⟩
theorem xe_v (C : CxIs R k X N sc) (i : Nat) {x : Str} {d : D} (hΓ : Γ.sl[i]? = some (some (.st d))) (hN : N[i]? = some x) (hv : Vis sc x := by first | exact .inl rfl | exact .inr (.inl rfl) | exact .inr (.inr rfl)) (hd : (x == ("__debug__" : Str)) = false := by decide) (hcd : (x == ("__classdict__" : Str)) = false := by decide) : XE X Γ (.Name x pos) Γ d := xe_st C i hΓ hN hv hd hcd
theorem xi_o (C : CxIs R k X N sc) (i : Nat) {x : Str} {ds : List D} (hΓ : Γ.sl[i]? = some (some (.lst ds))) (hN : N[i]? = some x) (hv : Vis sc x := by first | exact .inl rfl | exact .inr (.inl rfl) | exact .inr (.inr rfl)) (hd : (x == ("__debug__" : Str)) = false := by decide) (hcd : (x == ("__classdict__" : Str)) = false := by decide) : XI X false Γ tg (.Name x pos) Γ ds := xi_own C i hΓ hN hv hd hcd
theorem xg_f (C : FCx R k X N sc E) (i : Nat) {x : Str} {d : D} (hN : N[i]? = some x) (hx : Loc sc x := by first | exact .inl rfl | exact .inr rfl) : XG X [i] Γ (.Name x pos) d (Γ.setS i (.st d)) := xg_name C.toCxIs i hN hx (.inl (by rw [C.fn]))
theorem xg_b {scope : Scope} {X' : Cx} (B : BlkX R k N sc scope X X') (i : Nat) {x : Str} {d : D} (hN : N[i]? = some x) (hx : Loc (relS scope sc) x := by first | exact .inl rfl | exact .inr rfl) (hf : (scope.names.lookup x == some .cell) = true ∨ (relS scope sc).names.lookup x = some .local := by first | exact .inr rfl | exact .inl rfl) : XG X' [i] Γ (.Name x pos) d (Γ.setS i (.st d)) :=
  xg_name B.c i hN hx (hf.elim (fun h => .inl (by rw [B.fn]; exact h)) .inr)
theorem sf_set (C : FCx R k X N sc E) (i : Nat) {x : Str} {d : D} (h : XE X Γ e Γ1 d) (hN : N[i]? = some x) (hr : po.nx (Γ1.setS i (.st d))) (hx : Loc sc x := by first | exact .inl rfl | exact .inr rfl) (hs : swapsWith e (some (.Name x p)) pos.line X.env = pure false := by rfl) : ST X E Γ (.Assign [.Name x p] e pos) po := st_set C.toCxIs i h hN hx (.inl (by rw [C.fn])) hr hs
theorem sf_own (C : FCx R k X N sc E) (i : Nat) {x : Str} {ds : List D} (h : XF X Γ e Γ1 ds) (hN : N[i]? = some x) (hr : po.nx (Γ1.setS i (.lst ds))) (hx : Loc sc x := by first | exact .inl rfl | exact .inr rfl) (hs : swapsWith e (some (.Name x p)) pos.line X.env = pure false := by rfl) : ST X E Γ (.Assign [.Name x p] e pos) po := st_own C.toCxIs i h hN hx (.inl (by rw [C.fn])) hr hs
theorem map_get {α : Type} {g : α → D} {xs : List α} {i : Nat} {d : D} (h : (xs.map g)[i]? = some d) : ∃ x, xs[i]? = some x ∧ d = g x := by
  rw [List.getElem?_map] at h
  cases q : xs[i]? with
  | none => rw [q] at h; cases h
  | some x => rw [q] at h; exact ⟨x, rfl, (Option.some.inj h).symm⟩
theorem getD_of {α : Type} {xs : List α} {i : Nat} {x y : α} (h : xs[i]? = some x) : xs.getD i y = x := by rw [List.getD_eq_getElem?_getD, h]; rfl
end
end Y
set_option Elab.async false
set_option linter.all false
set_option maxRecDepth 100000
set_option maxHeartbeats 400000
namespace Y
open PySem PySem.Spec PyProof.Rows L2
inductive Fl (ρ ω : Type) where
  | go (w : ω)
  | ret (r : ρ)
def Fl.elim {ρ ω σ : Type} (x : Fl ρ ω) (f : ω → σ) (g : ρ → σ) : σ := match x with
  | .go w => f w
  | .ret r => g r
def forF {α ρ ω : Type} (step : ω → α → Fl ρ ω) : List α → ω → Fl ρ ω
  | [], w => .go w
  | x :: xs, w => (step w x).elim (fun w' => forF step xs w') .ret
theorem forF_append {α ρ ω : Type} (step : ω → α → Fl ρ ω) : ∀ (xs ys : List α) (w : ω), forF step (xs ++ ys) w = (forF step xs w).elim (fun w' => forF step ys w') .ret
  | [], ys, w => rfl
  | x :: xs, ys, w => by
    show (step w x).elim (fun w' => forF step (xs ++ ys) w') .ret = ((step w x).elim (fun w' => forF step xs w') .ret).elim (fun w' => forF step ys w') .ret
    cases step w x with
    | go w' => exact forF_append step xs ys w'
    | ret r => rfl
def fK {ω : Type} (Γs : ω → En) (v : ω) : Po := { nx := fun Γ' => Le (Γs v) Γ', ct := fun Γ' => Le (Γs v) Γ' }
def rK {ρ : Type} (g : ρ → Mu → D → Prop) (v : ρ) : Po := { rt := fun Γ' d => g v Γ'.mu d }
def lK {ρ ω : Type} (Γs : ω → En) (g : ρ → Mu → D → Prop) (v : Fl ρ ω) : Po := { nx := fun Γ' => ∃ w, v = .go w ∧ Le (Γs w) Γ', ct := fun Γ' => ∃ w, v = .go w ∧ Le (Γs w) Γ', rt := fun Γ' d => ∃ r, v = .ret r ∧ g r Γ'.mu d }
def gP {ρ : Type} (enc : ρ → D) (mu : Mu) : ρ → Mu → D → Prop := fun v m d => m = mu ∧ d = enc v
def gM {ρ : Type} (enc : ρ → D) (a : Addr) : ρ × MS → Mu → D → Prop := fun v m d => m = some (a, v.2) ∧ d = enc v.1
section
variable {R : Rw} {k : Nat} {X : Cx} {N : List Str} {sc : Scope} {E : WX} {Γ Γ1 Γ2 Γ3 : En} {po po' : Po} {a b c e tg iter : Expr} {es : List Expr} {pos p : Pos} {st : Stmt} {ss rest : List Stmt}
def botE : En := ⟨[some (.own ⟨fun _ _ _ => False, fun _ _ h => h⟩)], none⟩
theorem botE_no {K : PySem.W.Frag} {π : Tag} {H : Hp} {σ : L2.St} (h : EnOk K botE π H σ) : False := by
  obtain ⟨v, _, h2⟩ := h.at_ 0 _ rfl
  exact h2
theorem bs_bot : BS X E botE ss po := ⟨fun pins s σ H D I ⟨π, en, _⟩ => (botE_no en).elim⟩
theorem st_nxbot {nx : En → Prop} (h : ST X E Γ st { po with nx := fun Γ' => nx Γ' ∨ Γ' = botE }) : ST X E Γ st { po with nx := nx } := PS.imp h fun D σ H ⟨π, en, kb⟩ => ⟨π, en, ⟨fun Γ' σ' π' H' hn f e => by
  rcases hn with hn | hn
  · exact kb.nx Γ' σ' π' H' hn f e
  · subst hn; exact (botE_no e).elim, kb.rt, kb.xc, kb.bk, kb.ct⟩⟩
theorem st_post (h : ST X E Γ st po) (h1 : ∀ Γ, po.nx Γ → po'.nx Γ) (h2 : ∀ Γ d, po.rt Γ d → po'.rt Γ d) (h3 : ∀ Γ x, po.xc Γ x → po'.xc Γ x) (h4 : ∀ Γ, po.bk Γ → po'.bk Γ) (h5 : ∀ Γ, po.ct Γ → po'.ct Γ) : ST X E Γ st po' := PS.imp h fun D σ H ⟨π, en, kb⟩ => ⟨π, en,
  ⟨fun a b c d e f g => kb.nx a b c d (h1 a e) f g, fun a b c d e f g h i j => kb.rt a b c d e f (h2 a b g) h i j, fun a b c d e f g h i j l => kb.xc a b c d e f g (h3 a b h) i j l, fun a b c d e f g => kb.bk a b c d (h4 a e) f g, fun a b c d e f g => kb.ct a b c d (h5 a e) f g⟩⟩
theorem bs_bind {τ ρ : Type} (K : ρ → Po) (m : τ → ρ) (Γf : τ → En) (v : τ) (P : τ → Prop) (h : ST X E Γ st { K (m v) with nx := fun Γ' => Γ' = Γf v }) (hp : P v) (hr : ∀ x, P x → BS X E (Γf x) rest (K (m x))) : BS X E Γ (st :: rest) (K (m v)) := bs_then h (hr v hp)
theorem bs_bind2 {τ τ2 ρ : Type} (K : ρ → Po) (m : τ → τ2 → ρ) (Γf : τ → τ2 → En) (v : τ) (v2 : τ2) (P : τ → τ2 → Prop) (h : ST X E Γ st { K (m v v2) with nx := fun Γ' => Γ' = Γf v v2 }) (hp : P v v2) (hr : ∀ x y, P x y → BS X E (Γf x y) rest (K (m x y))) : BS X E Γ (st :: rest) (K (m v v2)) := bs_then h (hr v v2 hp)
theorem bs_bind3 {τ τ2 τ3 ρ : Type} (K : ρ → Po) (m : τ → τ2 → τ3 → ρ) (Γf : τ → τ2 → τ3 → En) (v : τ) (v2 : τ2) (v3 : τ3) (P : τ → τ2 → τ3 → Prop) (h : ST X E Γ st { K (m v v2 v3) with nx := fun Γ' => Γ' = Γf v v2 v3 }) (hp : P v v2 v3) (hr : ∀ x y z, P x y z → BS X E (Γf x y z) rest (K (m x y z))) : BS X E Γ (st :: rest) (K (m v v2 v3)) := bs_then h (hr v v2 v3 hp)
theorem bs_bind4 {τ τ2 τ3 τ4 ρ : Type} (K : ρ → Po) (m : τ → τ2 → τ3 → τ4 → ρ) (Γf : τ → τ2 → τ3 → τ4 → En) (v : τ) (v2 : τ2) (v3 : τ3) (v4 : τ4) (P : τ → τ2 → τ3 → τ4 → Prop) (h : ST X E Γ st { K (m v v2 v3 v4) with nx := fun Γ' => Γ' = Γf v v2 v3 v4 }) (hp : P v v2 v3 v4) (hr : ∀ x y z w, P x y z w → BS X E (Γf x y z w) rest (K (m x y z w))) : BS X E Γ (st :: rest) (K (m v v2 v3 v4)) := bs_then h (hr v v2 v3 v4 hp)
theorem st_fold {α ω : Type} {js : List Nat} (C : FCx R k X N sc E) (f : α → D) (xs : List α) (w0 : ω) (step : ω → α → ω) (Γs : ω → En) (Γt : ω → α → En)
    (hi : XI X true Γ tg iter Γ1 (xs.map f)) (h0 : Le (Γs w0) Γ1) (hg : ∀ w x, XG X js (Γs w) tg (f x) (Γt w x))
    (hb : ∀ i x, xs[i]? = some x → BS X E (Γt ((xs.take i).foldl step w0) x) ss (fK Γs (step ((xs.take i).foldl step w0) x)))
    (hn : po.nx (Γs (xs.foldl step w0))) (hs : ∀ x, foldedSetIterable iter X.env x = pure x := by intro _; rfl) : ST X E Γ (.For tg iter ss [] pos) po := by
  refine st_for (js := js) C.toCxIs C.hp hi (fun i => Γs ((xs.take i).foldl step w0)) h0 (fun i => (xs[i]?.map fun x => Γt ((xs.take i).foldl step w0) x).getD botE) (fun j d hd => ?_) (fun j d hd => ?_) ?_ hs
  · rw [List.getElem?_map] at hd
    cases hx : xs[j]? with
    | none => rw [hx] at hd; cases hd
    | some x =>
      rw [hx] at hd
      cases hd
      exact hg _ x
  · rw [List.getElem?_map] at hd
    cases hx : xs[j]? with
    | none => rw [hx] at hd; cases hd
    | some x =>
      rw [hx] at hd
      cases hd
      have e : (xs.take (j + 1)).foldl step w0 = step ((xs.take j).foldl step w0) x := by rw [List.take_succ, hx, List.foldl_append]; rfl
      refine bs_post (hb j x hx) (fun _ h => ?_) (fun _ _ h => h.elim) (fun _ _ h => h.elim) (fun _ h => h.elim) (fun _ h => ?_)
      · show Le (Γs ((xs.take (j + 1)).foldl step w0)) _
        rw [e]; exact h
      · show Le (Γs ((xs.take (j + 1)).foldl step w0)) _
        rw [e]; exact h
  · show po.nx (Γs ((xs.take (xs.map f).length).foldl step w0))
    rw [List.length_map, List.take_length]
    exact hn
theorem bs_fold {α ω ρ : Type} {js : List Nat} (C : FCx R k X N sc E) (K : ρ → Po) (m : ω → ρ) (f : α → D) (xs : List α) (w0 : ω) (step : ω → α → ω) (Γs : ω → En) (Γt : ω → α → En) (P : ω → Prop)
    (hi : XI X true Γ tg iter Γ1 (xs.map f)) (h0 : Le (Γs w0) Γ1) (hg : ∀ w x, XG X js (Γs w) tg (f x) (Γt w x))
    (hb : ∀ i x, xs[i]? = some x → BS X E (Γt ((xs.take i).foldl step w0) x) ss (fK Γs (step ((xs.take i).foldl step w0) x)))
    (hp : P (xs.foldl step w0)) (hr : ∀ w, P w → BS X E (Γs w) rest (K (m w))) (hs : ∀ x, foldedSetIterable iter X.env x = pure x := by intro _; rfl) : BS X E Γ (.For tg iter ss [] pos :: rest) (K (m (xs.foldl step w0))) :=
  bs_then (Γ1 := Γs (xs.foldl step w0)) (st_fold C f xs w0 step Γs Γt hi h0 hg hb rfl hs) (hr _ hp)
theorem st_forF {α ω ρ : Type} {js : List Nat} (C : FCx R k X N sc E) (g : ρ → Mu → D → Prop) (f : α → D) (xs : List α) (w0 : ω) (step : ω → α → Fl ρ ω) (Γs : ω → En) (Γt : ω → α → En)
    (hi : XI X true Γ tg iter Γ1 (xs.map f)) (h0 : Le (Γs w0) Γ1) (hg : ∀ w x, XG X js (Γs w) tg (f x) (Γt w x))
    (hb : ∀ i x w, xs[i]? = some x → forF step (xs.take i) w0 = .go w → BS X E (Γt w x) ss (lK Γs g (step w x)))
    (hs : ∀ x, foldedSetIterable iter X.env x = pure x := by intro _; rfl) : ST X E Γ (.For tg iter ss [] pos) { lK Γs g (forF step xs w0) with ct := fun _ => False } := by
  let G : Fl ρ ω → En := fun v => v.elim Γs fun _ => botE
  let GT : Nat → En := fun j => (xs[j]?.map fun x => (forF step (xs.take j) w0).elim (fun w => Γt w x) fun _ => botE).getD botE
  refine st_post (po := { lK Γs g (forF step xs w0) with nx := (lK Γs g (forF step xs w0)).nx, ct := fun _ => False }) (st_nxbot (po := { lK Γs g (forF step xs w0) with ct := fun _ => False }) ?_) (fun _ h => h) (fun _ _ h => h) (fun _ _ h => h) (fun _ h => h) (fun _ h => h)
  refine st_for (js := js) C.toCxIs C.hp hi (fun i => G (forF step (xs.take i) w0)) h0 GT (fun j d hd => ?_) (fun j d hd => ?_) ?_ hs
  · rw [List.getElem?_map] at hd
    cases hx : xs[j]? with
    | none => rw [hx] at hd; cases hd
    | some x =>
      rw [hx] at hd
      cases hd
      simp only [GT, G, hx, Option.map_some, Option.getD_some]
      cases forF step (xs.take j) w0 with
      | go w => exact hg w x
      | ret r => exact ⟨fun pins s σ H v u Q I r ⟨π, en, _⟩ => (botE_no en).elim⟩
  · rw [List.getElem?_map] at hd
    cases hx : xs[j]? with
    | none => rw [hx] at hd; cases hd
    | some x =>
      rw [hx] at hd
      cases hd
      simp only [GT, G, hx, Option.map_some, Option.getD_some]
      have e : forF step (xs.take (j + 1)) w0 = (forF step (xs.take j) w0).elim (fun w => step w x) .ret := by
        rw [List.take_succ, hx, forF_append]
        cases forF step (xs.take j) w0 with
        | go w =>
          show (step w x).elim (fun w' => .go w') .ret = step w x
          cases step w x <;> rfl
        | ret r => rfl
      have e2 : forF step xs w0 = (forF step (xs.take (j + 1)) w0).elim (fun w' => forF step (xs.drop (j + 1)) w') .ret := by
        have := forF_append step (xs.take (j + 1)) (xs.drop (j + 1)) w0
        rw [List.take_append_drop] at this
        exact this
      cases hw : forF step (xs.take j) w0 with
      | ret r => exact bs_bot
      | go w =>
        rw [hw] at e
        refine bs_post (hb j x w hx hw) (fun Γ' h => ?_) (fun Γ' d h => ?_) (fun _ _ h => h.elim) (fun _ h => h.elim) (fun Γ' h => ?_)
        · obtain ⟨w', h1, h2⟩ := h
          show Le (G (forF step (xs.take (j + 1)) w0)) _
          rw [e]
          show Le (G (step w x)) _
          rw [h1]; exact h2
        · obtain ⟨r, h1, h2⟩ := h
          refine ⟨r, ?_, h2⟩
          rw [e2, e]
          show (step w x).elim (fun w' => forF step (xs.drop (j + 1)) w') .ret = _
          rw [h1]
          rfl
        · obtain ⟨w', h1, h2⟩ := h
          show Le (G (forF step (xs.take (j + 1)) w0)) _
          rw [e]
          show Le (G (step w x)) _
          rw [h1]; exact h2
  · rw [List.length_map, List.take_length]
    cases forF step xs w0 with
    | go w => exact .inl ⟨w, rfl, Le.refl _⟩
    | ret r => exact .inr rfl
end
end Y
set_option Elab.async false
set_option linter.all false
set_option maxRecDepth 100000
set_option maxHeartbeats 400000
namespace Y
open PySem PySem.Spec PyProof.Rows L2
def ins (x : Int) : List Int → List Int
  | [] => [x]
  | y :: r => if x < y then x :: y :: r else if x = y then y :: r else y :: ins x r
def norm (ns : List Int) : List Int := ns.foldr ins []
theorem mem_ins {x z : Int} : ∀ {l : List Int}, z ∈ ins x l ↔ z = x ∨ z ∈ l
  | [] => by simp [ins]
  | y :: r => by
    unfold ins
    split
    · simp
    · split
      · rename_i h1 h2
        subst h2
        simp
      · rw [List.mem_cons, mem_ins, List.mem_cons]
        constructor
        · rintro (h | h | h)
          · exact .inr (.inl h)
          · exact .inl h
          · exact .inr (.inr h)
        · rintro (h | h | h)
          · exact .inr (.inl h)
          · exact .inl h
          · exact .inr (.inr h)
theorem mem_norm {z : Int} : ∀ {ns : List Int}, z ∈ norm ns ↔ z ∈ ns
  | [] => by simp [norm]
  | x :: ns => by
    show z ∈ ins x (norm ns) ↔ _
    rw [mem_ins, mem_norm, List.mem_cons]
theorem pw_ins {x : Int} : ∀ {l : List Int}, l.Pairwise (· < ·) → (ins x l).Pairwise (· < ·)
  | [], _ => by simp [ins]
  | y :: r, h => by
    obtain ⟨h1, h2⟩ := List.pairwise_cons.mp h
    unfold ins
    split
    · rename_i hxy
      refine List.pairwise_cons.mpr ⟨fun z hz => ?_, h⟩
      rcases List.mem_cons.mp hz with e | hz
      · rw [e]; exact hxy
      · exact Int.lt_trans hxy (h1 z hz)
    · split
      · exact h
      · rename_i n1 n2
        refine List.pairwise_cons.mpr ⟨fun z hz => ?_, pw_ins h2⟩
        rcases mem_ins.mp hz with e | hz
        · rw [e]; omega
        · exact h1 z hz
theorem pw_norm : ∀ ns : List Int, (norm ns).Pairwise (· < ·)
  | [] => .nil
  | x :: ns => pw_ins (pw_norm ns)
theorem len_ins (x : Int) : ∀ l : List Int, (ins x l).length ≤ l.length + 1
  | [] => by simp [ins]
  | y :: r => by
    unfold ins
    split
    · simp
    · split
      · simp
      · have := len_ins x r
        simp
        omega
theorem len_norm : ∀ ns : List Int, (norm ns).length ≤ ns.length
  | [] => Nat.le_refl _
  | x :: ns => by
    have h1 := len_ins x (norm ns)
    have h2 := len_norm ns
    show (ins x (norm ns)).length ≤ ns.length + 1
    omega
theorem norm_eq {ns ms : List Int} (h : ∀ k, k ∈ ns ↔ k ∈ ms) : norm ns = norm ms := pw_ext (pw_norm _) (pw_norm _) fun k => by rw [mem_norm, mem_norm, h]
def srt (ss : List (List Int)) : List (List Int) := ss.mergeSort fun a b => decide (a ≤ b)

end Y
set_option Elab.async false
set_option linter.all false
set_option maxRecDepth 100000
set_option maxHeartbeats 400000
namespace Y
open PySem PySem.Spec PyProof.Rows L2
abbrev Sls := List (Option Sl)
abbrev CE := Sls → Mu → Option (D × Mu)
abbrev CL := Sls → Mu → Option (List D × Mu)
abbrev CB := Sls → Mu → Option (Bool × Mu)
abbrev CG := Sls → D → Option Sls
structure Pl where
  R : Rw
  k : Nat
  N : List Str
  sc : Scope
  g : Bool
structure Ctx (P : Pl) (X : Cx) : Prop where
  c : CxIs P.R P.k X P.N P.sc
  gd : P.g = true → X.A.guards = some []
def Pl.blk (P : Pl) (scope : Scope) : Pl := { P with sc := relS scope P.sc }
theorem Ctx.blk {P : Pl} {X X' : Cx} {scope : Scope} (C : Ctx P X) (B : BlkX P.R P.k P.N P.sc scope X X') : Ctx (P.blk scope) X' := ⟨B.c, fun h => by rw [B.a]; exact C.gd h⟩
def SoE (P : Pl) (e : Expr) (f : CE) : Prop := ∀ X, Ctx P X → ∀ sl mu d mu', f sl mu = some (d, mu') → XE X ⟨sl, mu⟩ e ⟨sl, mu'⟩ d
def SoF (P : Pl) (e : Expr) (f : CL) : Prop := ∀ X, Ctx P X → ∀ sl mu d mu', f sl mu = some (d, mu') → XF X ⟨sl, mu⟩ e ⟨sl, mu'⟩ d
def SoB (P : Pl) (e : Expr) (f : CB) : Prop := ∀ X, Ctx P X → ∀ sl mu d mu', f sl mu = some (d, mu') → XB X ⟨sl, mu⟩ e ⟨sl, mu'⟩ d
def SoT (P : Pl) (e : Expr) (f : CB) : Prop := ∀ X, Ctx P X → ∀ sl mu d mu', f sl mu = some (d, mu') → XT X ⟨sl, mu⟩ e ⟨sl, mu'⟩ d
def SoA (P : Pl) (es : List Expr) (f : CL) : Prop := ∀ X, Ctx P X → ∀ sl mu d mu', f sl mu = some (d, mu') → XA X ⟨sl, mu⟩ es ⟨sl, mu'⟩ d
def SoI (P : Pl) (fb : Bool) (tg it : Expr) (f : CL) : Prop := ∀ X, Ctx P X → ∀ sl mu d mu', f sl mu = some (d, mu') → XI X fb ⟨sl, mu⟩ tg it ⟨sl, mu'⟩ d
def NoStar (e : Expr) : Prop := ∀ (es : List Expr) (env : Env), starEach (e :: es) env = (false, eval e env) :: starEach es env
def NoStars (es : List Expr) : Prop := ∀ (pos : Pos) (env : Env), (backTo pos (starEach es env)).any (·.1) = false
section
variable {P : Pl} {a b c e : Expr} {es : List Expr} {pos p p2 q2 : Pos} {f h : CE} {fa : CL}
def cBin (op : D → D → Option D) (f h : CE) : CE := fun sl mu => (f sl mu).bind fun x => (h sl x.2).bind fun y => (op x.1 y.1).map fun d => (d, y.2)
theorem cBin_inv {op : D → D → Option D} {sl : Sls} {mu mu' : Mu} {d : D} (q : cBin op f h sl mu = some (d, mu')) : ∃ x m y, f sl mu = some (x, m) ∧ h sl m = some (y, mu') ∧ op x y = some d := by
  unfold cBin at q
  obtain ⟨⟨x, m⟩, h1, q⟩ := Option.bind_eq_some_iff.mp q
  obtain ⟨⟨y, m2⟩, h2, q⟩ := Option.bind_eq_some_iff.mp q
  obtain ⟨z, h3, q⟩ := Option.map_eq_some_iff.mp q
  cases q
  exact ⟨x, m, y, h1, h2, h3⟩
def cCmp (op : D → D → Option Bool) (f h : CE) : CB := fun sl mu => (f sl mu).bind fun x => (h sl x.2).bind fun y => (op x.1 y.1).map fun d => (d, y.2)
theorem cCmp_inv {op : D → D → Option Bool} {sl : Sls} {mu mu' : Mu} {d : Bool} (q : cCmp op f h sl mu = some (d, mu')) : ∃ x m y, f sl mu = some (x, m) ∧ h sl m = some (y, mu') ∧ op x y = some d := by
  unfold cCmp at q
  obtain ⟨⟨x, m⟩, h1, q⟩ := Option.bind_eq_some_iff.mp q
  obtain ⟨⟨y, m2⟩, h2, q⟩ := Option.bind_eq_some_iff.mp q
  obtain ⟨z, h3, q⟩ := Option.map_eq_some_iff.mp q
  cases q
  exact ⟨x, m, y, h1, h2, h3⟩
def cUn (op : D → Option D) (f : CE) : CE := fun sl mu => (f sl mu).bind fun x => (op x.1).map fun d => (d, x.2)
theorem cUn_inv {op : D → Option D} {sl : Sls} {mu mu' : Mu} {d : D} (q : cUn op f sl mu = some (d, mu')) : ∃ x, f sl mu = some (x, mu') ∧ op x = some d := by
  unfold cUn at q
  obtain ⟨⟨x, m⟩, h1, q⟩ := Option.bind_eq_some_iff.mp q
  obtain ⟨z, h3, q⟩ := Option.map_eq_some_iff.mp q
  cases q
  exact ⟨x, h1, h3⟩
def cUnL (op : D → Option (List D)) (f : CE) : CL := fun sl mu => (f sl mu).bind fun x => (op x.1).map fun d => (d, x.2)
theorem cUnL_inv {op : D → Option (List D)} {sl : Sls} {mu mu' : Mu} {d : List D} (q : cUnL op f sl mu = some (d, mu')) : ∃ x, f sl mu = some (x, mu') ∧ op x = some d := by
  unfold cUnL at q
  obtain ⟨⟨x, m⟩, h1, q⟩ := Option.bind_eq_some_iff.mp q
  obtain ⟨z, h3, q⟩ := Option.map_eq_some_iff.mp q
  cases q
  exact ⟨x, h1, h3⟩
def cUnB (op : D → Option Bool) (f : CE) : CB := fun sl mu => (f sl mu).bind fun x => (op x.1).map fun d => (d, x.2)
theorem cUnB_inv {op : D → Option Bool} {sl : Sls} {mu mu' : Mu} {d : Bool} (q : cUnB op f sl mu = some (d, mu')) : ∃ x, f sl mu = some (x, mu') ∧ op x = some d := by
  unfold cUnB at q
  obtain ⟨⟨x, m⟩, h1, q⟩ := Option.bind_eq_some_iff.mp q
  obtain ⟨z, h3, q⟩ := Option.map_eq_some_iff.mp q
  cases q
  exact ⟨x, h1, h3⟩
def cV (i : Nat) : CE := fun sl mu => match sl[i]? with
  | some (some (.st d)) => some (d, mu)
  | _ => none
theorem so_v (i : Nat) {x : Str} (hN : P.N[i]? = some x) (hv : Vis P.sc x := by first | exact .inl rfl | exact .inr (.inl rfl) | exact .inr (.inr rfl)) (hd : (x == ("__debug__" : Str)) = false := by decide) (hcd : (x == ("__classdict__" : Str)) = false := by decide) : SoE P (.Name x pos) (cV i) := fun X C sl mu d mu' q => by
  unfold cV at q
  split at q
  · cases q
    exact xe_st C.c i (by assumption) hN hv hd hcd
  · cases q
def cK (d : D) : CE := fun _ mu => some (d, mu)
theorem so_int {i : Int} {j : Nat} : SoE P (.Constant (.int i) j pos) (cK (.int i)) := fun X C sl mu d mu' q => by cases q; exact xe_int
theorem so_str {i : Str} {j : Nat} : SoE P (.Constant (.str i) j pos) (cK (.str i)) := fun X C sl mu d mu' q => by cases q; exact xe_str
theorem so_bl {i : Bool} {j : Nat} : SoE P (.Constant (.bool i) j pos) (cK (.bool i)) := fun X C sl mu d mu' q => by cases q; exact xe_bl
theorem so_non {j : Nat} : SoE P (.Constant .none j pos) (cK .none) := fun X C sl mu d mu' q => by cases q; exact xe_non
theorem so_dict0 : SoE P (.Dict [] [] pos) (cK (.dict [])) := fun X C sl mu d mu' q => by cases q; exact xe_dict0
theorem so_gint {x : Str} {i : Int} {t : Tok} (hm : P.R.mg x = some (.int i t)) (hg : IsGl P.sc x := by rfl) (hd : (x == ("__debug__" : Str)) = false := by decide) : SoE P (.Name x pos) (cK (.int i)) := fun X C sl mu d mu' q => by cases q; exact xe_gint C.c hg hm hd
theorem so_gstr {x : Str} {i : Str} {t : Tok} (hm : P.R.mg x = some (.str i t)) (hg : IsGl P.sc x := by rfl) (hd : (x == ("__debug__" : Str)) = false := by decide) : SoE P (.Name x pos) (cK (.str i)) := fun X C sl mu d mu' q => by cases q; exact xe_gstr C.c hg hm hd
def oAdd : D → D → Option D
  | .int i, .int j => some (.int (i + j))
  | .str x, .str y => if x.length + y.length ≤ 100000 then some (.str (x ++ y)) else none
  | .tuple x, .tuple y => if x.length + y.length ≤ 100000 then some (.tuple (x ++ y)) else none
  | .list x, .list y => if x.length + y.length ≤ 100000 then some (.list (x ++ y)) else none
  | _, _ => none
theorem oAdd_ok {x y d : D} (h : oAdd x y = some d) : AddR x y d := by
  unfold oAdd at h
  split at h
  · cases h; exact .int _ _
  · split at h
    · cases h; exact .str _ _ (by assumption)
    · cases h
  · split at h
    · cases h; exact .tup _ _ (by assumption)
    · cases h
  · split at h
    · cases h; exact .lst _ _ (by assumption)
    · cases h
  · cases h
theorem so_add (ha : SoE P a f) (hb : SoE P b h) : SoE P (.BinOp a .Add b pos) (cBin oAdd f h) := fun X C sl mu d mu' q => by
  obtain ⟨x, m, y, h1, h2, h3⟩ := cBin_inv q
  exact xe_add (ha X C _ _ _ _ h1) (hb X C _ _ _ _ h2) (oAdd_ok h3)
def oSub : D → D → Option D
  | .int i, .int j => some (.int (i - j))
  | _, _ => none
theorem so_sub (ha : SoE P a f) (hb : SoE P b h) : SoE P (.BinOp a .Sub b pos) (cBin oSub f h) := fun X C sl mu d mu' q => by
  obtain ⟨x, m, y, h1, h2, h3⟩ := cBin_inv q
  unfold oSub at h3
  split at h3
  · cases h3; exact xe_sub (ha X C _ _ _ _ h1) (hb X C _ _ _ _ h2)
  · cases h3
def oMul : D → D → Option D
  | .int i, .int j => if (-(2 ^ 64) < i ∧ i < 2 ^ 64) ∨ (-(2 ^ 64) < j ∧ j < 2 ^ 64) then some (.int (i * j)) else none
  | _, _ => none
theorem so_mul (ha : SoE P a f) (hb : SoE P b h) : SoE P (.BinOp a .Mult b pos) (cBin oMul f h) := fun X C sl mu d mu' q => by
  obtain ⟨x, m, y, h1, h2, h3⟩ := cBin_inv q
  unfold oMul at h3
  split at h3
  · split at h3
    · cases h3; exact xe_mul (ha X C _ _ _ _ h1) (hb X C _ _ _ _ h2) (by assumption)
    · cases h3
  · cases h3
def oMod : D → D → Option D
  | .int i, .int j => if 0 < j then some (.int (i % j)) else none
  | _, _ => none
theorem so_mod (ha : SoE P a f) (hb : SoE P b h) : SoE P (.BinOp a .Mod b pos) (cBin oMod f h) := fun X C sl mu d mu' q => by
  obtain ⟨x, m, y, h1, h2, h3⟩ := cBin_inv q
  unfold oMod at h3
  split at h3
  · split at h3
    · cases h3; exact xe_mod (ha X C _ _ _ _ h1) (hb X C _ _ _ _ h2) (by assumption)
    · cases h3
  · cases h3
def oFdiv : D → D → Option D
  | .int i, .int j => if 0 < j ∧ j < 1073741824 then some (.int (i / j)) else none
  | _, _ => none
theorem so_fdiv (ha : SoE P a f) (hb : SoE P b h) : SoE P (.BinOp a .FloorDiv b pos) (cBin oFdiv f h) := fun X C sl mu d mu' q => by
  obtain ⟨x, m, y, h1, h2, h3⟩ := cBin_inv q
  unfold oFdiv at h3
  split at h3
  · split at h3
    · cases h3; exact xe_fdiv (ha X C _ _ _ _ h1) (hb X C _ _ _ _ h2) (by assumption)
    · cases h3
  · cases h3
def oPow : D → D → Option D
  | .int i, .int j => if 0 ≤ j ∧ j ≤ 1000000 ∧ i.natAbs < 2 ^ 64 then some (.int (i ^ j.toNat)) else none
  | _, _ => none
theorem so_pow (ha : SoE P a f) (hb : SoE P b h) : SoE P (.BinOp a .Pow b pos) (cBin oPow f h) := fun X C sl mu d mu' q => by
  obtain ⟨x, m, y, h1, h2, h3⟩ := cBin_inv q
  unfold oPow at h3
  split at h3
  · split at h3
    · cases h3; exact xe_pow (ha X C _ _ _ _ h1) (hb X C _ _ _ _ h2) (by assumption)
    · cases h3
  · cases h3
def oNeg : D → Option D
  | .int i => some (.int (-i))
  | _ => none
theorem so_neg (ha : SoE P a f) : SoE P (.UnaryOp .USub a pos) (cUn oNeg f) := fun X C sl mu d mu' q => by
  obtain ⟨x, h1, h3⟩ := cUn_inv q
  unfold oNeg at h3
  split at h3
  · cases h3; exact xe_neg (ha X C _ _ _ _ h1)
  · cases h3
def cB (f : CB) : CE := fun sl mu => (f sl mu).map fun x => (.bool x.1, x.2)
theorem cB_inv {f : CB} {sl : Sls} {mu mu' : Mu} {d : D} (q : cB f sl mu = some (d, mu')) : ∃ b, f sl mu = some (b, mu') ∧ d = .bool b := by
  unfold cB at q
  obtain ⟨⟨x, m⟩, h1, q⟩ := Option.map_eq_some_iff.mp q
  cases q
  exact ⟨x, h1, rfl⟩
theorem SoB.val {f : CB} (hf : SoB P e f) : SoE P e (cB f) := fun X C sl mu d mu' q => by
  obtain ⟨b, h1, rfl⟩ := cB_inv q
  exact (hf X C _ _ _ _ h1).e
theorem SoB.tst {f : CB} (hf : SoB P e f) : SoT P e f := fun X C sl mu d mu' q => (hf X C _ _ _ _ q).t
def oB : D → Option Bool
  | .bool b => some b
  | _ => none
def cT (f : CE) : CB := cUnB oB f
theorem so_tv (he : SoE P e f) (ht : ∀ env whole, isTrue e env whole = (do let v ← whole; standAt e.pos; holding [v] (truthy v)) := by intro _ _; rfl) : SoB P e (cT f) := fun X C sl mu d mu' q => by
  obtain ⟨x, h1, h2⟩ := cUnB_inv q
  unfold oB at h2
  split at h2
  · cases h2; exact xb_of (he X C _ _ _ _ h1) (ht _)
  · cases h2
def bLt : D → D → Option Bool
  | .int i, .int j => some (decide (i < j))
  | x, y => if fit 32 x = true ∧ fit 32 y = true ∧ PySem.W.alike x.toP y.toP = true ∧ noNone x = true then some (PySem.W.dataLt x.toP y.toP) else none
where noNone : D → Bool
  | .tuple _ => true
  | .list _ => true
  | .str _ => true
  | _ => false
theorem noNone_ok {x : D} (h : bLt.noNone x = true) : x.toP ≠ .none := by
  cases x <;> simp_all [bLt.noNone, D.toP]
theorem so_lt (ha : SoE P a f) (hb : SoE P b h) : SoB P (.Compare a [.Lt] [b] pos) (cCmp bLt f h) := fun X C sl mu d mu' q => by
  obtain ⟨x, m, y, h1, h2, h3⟩ := cCmp_inv q
  unfold bLt at h3
  split at h3
  · cases h3; exact xb_lt (ha X C _ _ _ _ h1) (hb X C _ _ _ _ h2)
  · split at h3
    · rename_i w; cases h3; exact xb_ltD C.c (ha X C _ _ _ _ h1) (hb X C _ _ _ _ h2) w.1 w.2.1 w.2.2.1 (noNone_ok w.2.2.2)
    · cases h3
def bGt (x y : D) : Option Bool := match x, y with
  | .int i, .int j => some (decide (j < i))
  | x, y => if fit 32 x = true ∧ fit 32 y = true ∧ PySem.W.alike x.toP y.toP = true ∧ bLt.noNone x = true then some (PySem.W.dataLt y.toP x.toP) else none
theorem so_gt (ha : SoE P a f) (hb : SoE P b h) : SoB P (.Compare a [.Gt] [b] pos) (cCmp bGt f h) := fun X C sl mu d mu' q => by
  obtain ⟨x, m, y, h1, h2, h3⟩ := cCmp_inv q
  unfold bGt at h3
  split at h3
  · cases h3; exact xb_gt (ha X C _ _ _ _ h1) (hb X C _ _ _ _ h2)
  · split at h3
    · rename_i w; cases h3; exact xb_gtD C.c (ha X C _ _ _ _ h1) (hb X C _ _ _ _ h2) w.1 w.2.1 w.2.2.1 (noNone_ok w.2.2.2)
    · cases h3
def bLe : D → D → Option Bool
  | .int i, .int j => some (decide (i ≤ j))
  | _, _ => none
theorem so_le (ha : SoE P a f) (hb : SoE P b h) : SoB P (.Compare a [.LtE] [b] pos) (cCmp bLe f h) := fun X C sl mu d mu' q => by
  obtain ⟨x, m, y, h1, h2, h3⟩ := cCmp_inv q
  unfold bLe at h3
  split at h3
  · cases h3; exact xb_le (ha X C _ _ _ _ h1) (hb X C _ _ _ _ h2)
  · cases h3
def bGe : D → D → Option Bool
  | .int i, .int j => some (decide (j ≤ i))
  | _, _ => none
theorem so_ge (ha : SoE P a f) (hb : SoE P b h) : SoB P (.Compare a [.GtE] [b] pos) (cCmp bGe f h) := fun X C sl mu d mu' q => by
  obtain ⟨x, m, y, h1, h2, h3⟩ := cCmp_inv q
  unfold bGe at h3
  split at h3
  · cases h3; exact xb_ge (ha X C _ _ _ _ h1) (hb X C _ _ _ _ h2)
  · cases h3
def bEq (x y : D) : Option Bool := if fit 32 x = true ∧ fit 32 y = true then some (deq x y) else none
def bNe (x y : D) : Option Bool := if fit 32 x = true ∧ fit 32 y = true then some (!deq x y) else none
theorem so_eq (ha : SoE P a f) (hb : SoE P b h) : SoB P (.Compare a [.Eq] [b] pos) (cCmp bEq f h) := fun X C sl mu d mu' q => by
  obtain ⟨x, m, y, h1, h2, h3⟩ := cCmp_inv q
  unfold bEq at h3
  split at h3
  · rename_i w; cases h3; exact xb_eq C.c (ha X C _ _ _ _ h1) (hb X C _ _ _ _ h2) w.1 w.2
  · cases h3
theorem so_ne (ha : SoE P a f) (hb : SoE P b h) : SoB P (.Compare a [.NotEq] [b] pos) (cCmp bNe f h) := fun X C sl mu d mu' q => by
  obtain ⟨x, m, y, h1, h2, h3⟩ := cCmp_inv q
  unfold bNe at h3
  split at h3
  · rename_i w; cases h3; exact xb_ne C.c (ha X C _ _ _ _ h1) (hb X C _ _ _ _ h2) w.1 w.2
  · cases h3
def oSeq : D → Option (List D)
  | .list xs => some xs
  | .tuple xs => some xs
  | _ => none
theorem oSeq_ok {d : D} {ds : List D} (h : oSeq d = some ds) : SeqD d ds := by
  unfold oSeq at h
  split at h
  · cases h; exact .lst _
  · cases h; exact .tup _
  · cases h
def bIn (x y : D) : Option Bool := if fit 31 x = true ∧ fit 32 y = true then (oSeq y).map fun ds => dIn x ds else none
def bNin (x y : D) : Option Bool := if fit 31 x = true ∧ fit 32 y = true then (oSeq y).map fun ds => !dIn x ds else none
theorem so_in (ha : SoE P a f) (hb : SoE P b h) (hk : behindInMarks .In b = false := by rfl) : SoB P (.Compare a [.In] [b] pos) (cCmp bIn f h) := fun X C sl mu d mu' q => by
  obtain ⟨x, m, y, h1, h2, h3⟩ := cCmp_inv q
  unfold bIn at h3
  split at h3
  · rename_i w
    obtain ⟨ds, h4, rfl⟩ := Option.map_eq_some_iff.mp h3
    exact xb_in C.c (ha X C _ _ _ _ h1) (hb X C _ _ _ _ h2) (oSeq_ok h4) w.1 w.2 hk
  · cases h3
theorem so_nin (ha : SoE P a f) (hb : SoE P b h) (hk : behindInMarks .NotIn b = false := by rfl) : SoB P (.Compare a [.NotIn] [b] pos) (cCmp bNin f h) := fun X C sl mu d mu' q => by
  obtain ⟨x, m, y, h1, h2, h3⟩ := cCmp_inv q
  unfold bNin at h3
  split at h3
  · rename_i w
    obtain ⟨ds, h4, rfl⟩ := Option.map_eq_some_iff.mp h3
    exact xb_notIn C.c (ha X C _ _ _ _ h1) (hb X C _ _ _ _ h2) (oSeq_ok h4) w.1 w.2 hk
  · cases h3
def bNon : D → Option Bool
  | .none => some true
  | .ob _ => none
  | _ => some false
theorem bNon_ok {K : PySem.W.Frag} {d : D} {b : Bool} (h : bNon d = some b) : NoneR K d b := by
  cases d <;> simp only [bNon, Option.some.injEq, reduceCtorEq] at h <;> subst h <;> first | exact .non | exact .of fun G v r => by cases r <;> simp
theorem so_isN {j : Nat} (ha : SoE P a f) : SoB P (.Compare a [.Is] [.Constant .none j p] pos) (cUnB bNon f) := fun X C sl mu d mu' q => by
  obtain ⟨x, h1, h3⟩ := cUnB_inv q
  exact xb_isN (ha X C _ _ _ _ h1) (bNon_ok h3)
def bNotNon (d : D) : Option Bool := (bNon d).map (!·)
theorem so_notN {j : Nat} (ha : SoE P a f) : SoB P (.Compare a [.IsNot] [.Constant .none j p] pos) (cUnB bNotNon f) := fun X C sl mu d mu' q => by
  obtain ⟨x, h1, h3⟩ := cUnB_inv q
  unfold bNotNon at h3
  obtain ⟨b, h4, rfl⟩ := Option.map_eq_some_iff.mp h3
  exact xb_notN (ha X C _ _ _ _ h1) (bNon_ok h4)
def bIsB : D → D → Option Bool
  | .bool x, .bool y => some (decide (x = y))
  | _, _ => none
def bNotB : D → D → Option Bool
  | .bool x, .bool y => some (!decide (x = y))
  | _, _ => none
theorem so_isB (ha : SoE P a f) (hb : SoE P b h) (hk : behindInMarks .Is b = false := by rfl) : SoB P (.Compare a [.Is] [b] pos) (cCmp bIsB f h) := fun X C sl mu d mu' q => by
  obtain ⟨x, m, y, h1, h2, h3⟩ := cCmp_inv q
  unfold bIsB at h3
  split at h3
  · cases h3; exact xb_isB (ha X C _ _ _ _ h1) (hb X C _ _ _ _ h2) hk
  · cases h3
theorem so_notB (ha : SoE P a f) (hb : SoE P b h) (hk : behindInMarks .IsNot b = false := by rfl) : SoB P (.Compare a [.IsNot] [b] pos) (cCmp bNotB f h) := fun X C sl mu d mu' q => by
  obtain ⟨x, m, y, h1, h2, h3⟩ := cCmp_inv q
  unfold bNotB at h3
  split at h3
  · cases h3; exact xb_notB (ha X C _ _ _ _ h1) (hb X C _ _ _ _ h2) hk
  · cases h3
def cNot (f : CB) : CB := fun sl mu => (f sl mu).map fun x => (!x.1, x.2)
theorem so_not {f : CB} (ha : SoB P a f) : SoB P (.UnaryOp .Not a pos) (cNot f) := fun X C sl mu d mu' q => by
  unfold cNot at q
  obtain ⟨⟨x, m⟩, h1, q⟩ := Option.map_eq_some_iff.mp q
  cases q
  exact xb_not (ha X C _ _ _ _ h1)
end
end Y
set_option Elab.async false
set_option linter.all false
set_option maxRecDepth 100000
set_option maxHeartbeats 400000
namespace Y
open PySem PySem.Spec PyProof.Rows L2
section
variable {R : Rw} {k : Nat} {X : Cx} {N : List Str} {sc : Scope} {Γ Γ1 Γ2 Γ3 : En} {a b c e : Expr} {es : List Expr} {pos p : Pos}
structure XBS (X : Cx) (op : BoolOp) (Γ : En) (es : List Expr) (pos : Pos) (Γ' : En) (b : Bool) : Prop where
  e : XE X Γ (.BoolOp op es pos) Γ' (.bool b)
  w : XW X Γ (.BoolOp op es pos) Γ' b
theorem xbS_one {op : BoolOp} {k : Bool} (h : XB X Γ a Γ1 k) : XBS X op Γ [a] pos Γ1 k := by
  refine ⟨xe_one h.e, ?_⟩
  cases op with
  | And => exact xw_and1 h.t
  | Or => exact xw_or1 h.t
theorem xbS_andT {l : Bool} {rest : List Expr} (h1 : XB X Γ a Γ1 true) (h2 : XBS X .And Γ1 (b :: rest) pos Γ2 l) : XBS X .And Γ (a :: b :: rest) pos Γ2 l :=
  ⟨xe_of (pe_and h1.e h2.e) fun σ H π Q en q => ⟨π, en, fun v π' H' s e r => by
      cases r
      exact ⟨true, rfl, ifT ⟨π', e, fun v π2 H2 s2 e2 r2 _ => q v π2 H2 (s.trans s2) e2 r2⟩⟩⟩,
   PW.imp (pw_and h1.t h2.w) fun σ H Q ⟨π, en, q⟩ => ⟨π, en, fun π' H' s e => ifT ⟨π', e, fun π2 H2 s2 e2 => q π2 H2 (s.trans s2) e2⟩⟩⟩
theorem xbS_andF {rest : List Expr} (h1 : XB X Γ a Γ1 false) : XBS X .And Γ (a :: b :: rest) pos Γ1 false :=
  ⟨xe_of (pe_and h1.e pe_no) fun σ H π Q en q => ⟨π, en, fun v π' H' s e r => by
      cases r
      exact ⟨false, rfl, ifF fun _ => q _ π' H' s e (.bl false)⟩⟩,
   PW.imp (pw_and h1.t pw_no) fun σ H Q ⟨π, en, q⟩ => ⟨π, en, fun π' H' s e => ifF (q π' H' s e)⟩⟩
theorem xbS_orF {l : Bool} {rest : List Expr} (h1 : XB X Γ a Γ1 false) (h2 : XBS X .Or Γ1 (b :: rest) pos Γ2 l) : XBS X .Or Γ (a :: b :: rest) pos Γ2 l :=
  ⟨xe_of (pe_or h1.e h2.e) fun σ H π Q en q => ⟨π, en, fun v π' H' s e r => by
      cases r
      exact ⟨false, rfl, ifF ⟨π', e, fun v π2 H2 s2 e2 r2 _ => q v π2 H2 (s.trans s2) e2 r2⟩⟩⟩,
   PW.imp (pw_or h1.t h2.w) fun σ H Q ⟨π, en, q⟩ => ⟨π, en, fun π' H' s e => ifF ⟨π', e, fun π2 H2 s2 e2 => q π2 H2 (s.trans s2) e2⟩⟩⟩
theorem xbS_orT {rest : List Expr} (h1 : XB X Γ a Γ1 true) : XBS X .Or Γ (a :: b :: rest) pos Γ1 true :=
  ⟨xe_of (pe_or h1.e pe_no) fun σ H π Q en q => ⟨π, en, fun v π' H' s e r => by
      cases r
      exact ⟨true, rfl, ifT fun _ => q _ π' H' s e (.bl true)⟩⟩,
   PW.imp (pw_or h1.t pw_no) fun σ H Q ⟨π, en, q⟩ => ⟨π, en, fun π' H' s e => ifT (q π' H' s e)⟩⟩
end
section
variable {P : Pl} {a b c e o tg : Expr} {es : List Expr} {pos p p2 q2 tpos : Pos} {f h f3 : CE} {fa : CL} {u v : CB} {kk : Nat}
def SoBs (P : Pl) (op : BoolOp) (es : List Expr) (pos : Pos) (f : CB) : Prop := ∀ X, Ctx P X → ∀ sl mu d mu', f sl mu = some (d, mu') → XBS X op ⟨sl, mu⟩ es pos ⟨sl, mu'⟩ d
def cAnd (f h : CB) : CB := fun sl mu => (f sl mu).bind fun x => cond x.1 (h sl x.2) (some (false, x.2))
def cOr (f h : CB) : CB := fun sl mu => (f sl mu).bind fun x => cond x.1 (some (true, x.2)) (h sl x.2)
theorem so_b1 {op : BoolOp} (ha : SoB P a u) : SoBs P op [a] pos u := fun X C sl mu d mu' q => xbS_one (ha X C _ _ _ _ q)
theorem so_and {rest : List Expr} (ha : SoB P a u) (hb : SoBs P .And (b :: rest) pos v) : SoBs P .And (a :: b :: rest) pos (cAnd u v) := fun X C sl mu d mu' q => by
  unfold cAnd at q
  obtain ⟨⟨x, m⟩, h1, q⟩ := Option.bind_eq_some_iff.mp q
  cases x with
  | true => exact xbS_andT (ha X C _ _ _ _ h1) (hb X C _ _ _ _ (by simpa using q))
  | false =>
    have q' : some (false, m) = some (d, mu') := by simpa using q
    cases q'
    exact xbS_andF (ha X C _ _ _ _ h1)
theorem so_or {rest : List Expr} (ha : SoB P a u) (hb : SoBs P .Or (b :: rest) pos v) : SoBs P .Or (a :: b :: rest) pos (cOr u v) := fun X C sl mu d mu' q => by
  unfold cOr at q
  obtain ⟨⟨x, m⟩, h1, q⟩ := Option.bind_eq_some_iff.mp q
  cases x with
  | false => exact xbS_orF (ha X C _ _ _ _ h1) (hb X C _ _ _ _ (by simpa using q))
  | true =>
    have q' : some (true, m) = some (d, mu') := by simpa using q
    cases q'
    exact xbS_orT (ha X C _ _ _ _ h1)
theorem SoBs.bb {op : BoolOp} (hf : SoBs P op es pos u) : SoB P (.BoolOp op es pos) u := fun X C sl mu d mu' q => ⟨(hf X C _ _ _ _ q).e, PW.pt (hf X C _ _ _ _ q).w⟩
def cChain (op1 op2 : Int → Int → Bool) (f h f3 : CE) : CB := fun sl mu => (f sl mu).bind fun x => (h sl x.2).bind fun y => (f3 sl y.2).bind fun z => match x.1, y.1, z.1 with
  | .int i, .int j, .int k => some (op1 i j && op2 j k, y.2)
  | _, _, _ => none
theorem cChain_inv {op1 op2 : Int → Int → Bool} {sl : Sls} {mu mu' : Mu} {d : Bool} (q : cChain op1 op2 f h f3 sl mu = some (d, mu')) : ∃ i j k m m2, f sl mu = some (.int i, m) ∧ h sl m = some (.int j, mu') ∧ f3 sl mu' = some (.int k, m2) ∧ d = (op1 i j && op2 j k) := by
  unfold cChain at q
  obtain ⟨⟨x, m⟩, h1, q⟩ := Option.bind_eq_some_iff.mp q
  obtain ⟨⟨y, m2⟩, h2, q⟩ := Option.bind_eq_some_iff.mp q
  obtain ⟨⟨z, m3⟩, h3, q⟩ := Option.bind_eq_some_iff.mp q
  dsimp only at q
  split at q
  · cases q
    exact ⟨_, _, _, _, _, h1, h2, h3, rfl⟩
  · cases q
def Calm (f : CE) : Prop := ∀ sl mu d mu', f sl mu = some (d, mu') → mu' = mu
theorem calm_v (i : Nat) : Calm (cV i) := fun sl mu d mu' q => by
  unfold cV at q
  split at q
  · cases q; rfl
  · cases q
theorem calm_k (x : D) : Calm (cK x) := fun sl mu d mu' q => by cases q; rfl
theorem calm_un {op : D → Option D} (hf : Calm f) : Calm (cUn op f) := fun sl mu d mu' q => by
  obtain ⟨x, h1, _⟩ := cUn_inv q
  exact hf _ _ _ _ h1
theorem calm_bin {op : D → D → Option D} (hf : Calm f) (hh : Calm h) : Calm (cBin op f h) := fun sl mu d mu' q => by
  obtain ⟨x, m, y, h1, h2, _⟩ := cBin_inv q
  have e1 := hf _ _ _ _ h1
  have e2 := hh _ _ _ _ h2
  rw [e2, e1]
def iLe (i j : Int) : Bool := decide (i ≤ j)
def iLt (i j : Int) : Bool := decide (i < j)
theorem so_chLeLe (ha : SoE P a f) (hb : SoE P b h) (hc : SoE P c f3) (h3 : Calm f3) (hm : lastMarks [.LtE, .LtE] [b, c] = false := by with_unfolding_all rfl) : SoB P (.Compare a [.LtE, .LtE] [b, c] pos) (cChain iLe iLe f h f3) := fun X C sl mu d mu' q => by
  obtain ⟨i, j, k, m, m2, h1, h2, h4, rfl⟩ := cChain_inv q
  have e := h3 _ _ _ _ h4
  subst e
  exact xb_chain_le (ha X C _ _ _ _ h1) (hb X C _ _ _ _ h2) (hc X C _ _ _ _ h4) hm
theorem so_chLtLt (ha : SoE P a f) (hb : SoE P b h) (hc : SoE P c f3) (h3 : Calm f3) (hm : lastMarks [.Lt, .Lt] [b, c] = false := by with_unfolding_all rfl) : SoB P (.Compare a [.Lt, .Lt] [b, c] pos) (cChain iLt iLt f h f3) := fun X C sl mu d mu' q => by
  obtain ⟨i, j, k, m, m2, h1, h2, h4, rfl⟩ := cChain_inv q
  have e := h3 _ _ _ _ h4
  subst e
  exact xb_chain_lt (ha X C _ _ _ _ h1) (hb X C _ _ _ _ h2) (hc X C _ _ _ _ h4) hm
theorem so_chLeLt (ha : SoE P a f) (hb : SoE P b h) (hc : SoE P c f3) (h3 : Calm f3) (hm : lastMarks [.LtE, .Lt] [b, c] = false := by with_unfolding_all rfl) : SoB P (.Compare a [.LtE, .Lt] [b, c] pos) (cChain iLe iLt f h f3) := fun X C sl mu d mu' q => by
  obtain ⟨i, j, k, m, m2, h1, h2, h4, rfl⟩ := cChain_inv q
  have e := h3 _ _ _ _ h4
  subst e
  exact xb_chain_le_lt (ha X C _ _ _ _ h1) (hb X C _ _ _ _ h2) (hc X C _ _ _ _ h4) hm
def cIf (c : CB) (f h : CE) : CE := fun sl mu => (c sl mu).bind fun x => cond x.1 (f sl x.2) (h sl x.2)
theorem so_if (hc : SoB P c u) (ha : SoE P a f) (hb : SoE P b h) : SoE P (.IfExp c a b pos) (cIf u f h) := fun X C sl mu d mu' q => by
  unfold cIf at q
  obtain ⟨⟨x, m⟩, h1, q⟩ := Option.bind_eq_some_iff.mp q
  refine xe_if (hc X C _ _ _ _ h1).t (fun z => ?_) (fun z => ?_)
  · subst z; exact ha X C _ _ _ _ (by simpa using q)
  · subst z; exact hb X C _ _ _ _ (by simpa using q)
def cNil : CL := fun _ mu => some ([], mu)
def cCons (f : CE) (fa : CL) : CL := fun sl mu => (f sl mu).bind fun x => (fa sl x.2).map fun y => (x.1 :: y.1, y.2)
theorem so_nil : SoA P [] cNil := fun X C sl mu d mu' q => by cases q; exact xa_nil
theorem so_cons (he : SoE P e f) (hes : SoA P es fa) (hs : NoStar e := by exact fun _ _ => rfl) : SoA P (e :: es) (cCons f fa) := fun X C sl mu d mu' q => by
  unfold cCons at q
  obtain ⟨⟨x, m⟩, h1, q⟩ := Option.bind_eq_some_iff.mp q
  obtain ⟨⟨y, m2⟩, h2, q⟩ := Option.map_eq_some_iff.mp q
  cases q
  exact xa_cons (he X C _ _ _ _ h1) (hes X C _ _ _ _ h2) (hs _ _)
def cLst (fa : CL) : CL := fun sl mu => (fa sl mu).bind fun x => if x.1.length ≤ 100000 then some x else none
def cTup (fa : CL) : CE := fun sl mu => (fa sl mu).bind fun x => if x.1.length ≤ 100000 then some (.tuple x.1, x.2) else none
theorem so_tup {x1} (ha : SoA P es fa) : SoE P (.Tuple es x1 pos) (cTup fa) := fun X C sl mu d mu' q => by
  unfold cTup at q
  obtain ⟨⟨x, m⟩, h1, q⟩ := Option.bind_eq_some_iff.mp q
  dsimp only at q
  split at q
  · cases q; exact xe_tup (ha X C _ _ _ _ h1) (by assumption)
  · cases q
theorem so_lst (ha : SoA P es fa) : SoF P (.List es pos) (cLst fa) := fun X C sl mu d mu' q => by
  unfold cLst at q
  obtain ⟨⟨x, m⟩, h1, q⟩ := Option.bind_eq_some_iff.mp q
  dsimp only at q
  split at q
  · cases q; exact xf_lst (ha X C _ _ _ _ h1) (by assumption)
  · cases q
def cL (f : CL) : CE := fun sl mu => (f sl mu).map fun x => (.list x.1, x.2)
theorem SoF.val {f : CL} (hf : SoF P e f) : SoE P e (cL f) := fun X C sl mu d mu' q => by
  unfold cL at q
  obtain ⟨⟨x, m⟩, h1, q⟩ := Option.map_eq_some_iff.mp q
  cases q
  exact XF.e (hf X C _ _ _ _ h1)
def oAddL : D → D → Option (List D)
  | .list x, .list y => if x.length + y.length ≤ 100000 then some (x ++ y) else none
  | _, _ => none
def cBinL (op : D → D → Option (List D)) (f h : CE) : CL := fun sl mu => (f sl mu).bind fun x => (h sl x.2).bind fun y => (op x.1 y.1).map fun d => (d, y.2)
theorem so_addL (ha : SoE P a f) (hb : SoE P b h) : SoF P (.BinOp a .Add b pos) (cBinL oAddL f h) := fun X C sl mu d mu' q => by
  unfold cBinL at q
  obtain ⟨⟨x, m⟩, h1, q⟩ := Option.bind_eq_some_iff.mp q
  obtain ⟨⟨y, m2⟩, h2, q⟩ := Option.bind_eq_some_iff.mp q
  obtain ⟨z, h3, q⟩ := Option.map_eq_some_iff.mp q
  cases q
  dsimp only at h3
  cases x <;> simp only [oAddL, reduceCtorEq] at h3
  cases y <;> simp only [oAddL, reduceCtorEq] at h3
  split at h3
  · cases h3; exact xf_add (ha X C _ _ _ _ h1) (hb X C _ _ _ _ h2) (by assumption)
  · cases h3
def oIx : D → D → Option D
  | .list xs, .int i => atI xs i
  | .tuple xs, .int i => atI xs i
  | _, _ => none
theorem so_ix (ha : SoE P a f) (hb : SoE P b h) (hs : PlainIx b := by exact fun _ _ => rfl) : SoE P (.Subscript a b pos) (cBin oIx f h) := fun X C sl mu d mu' q => by
  obtain ⟨x, m, y, h1, h2, h3⟩ := cBin_inv q
  unfold oIx at h3
  split at h3
  · exact xe_ix (ha X C _ _ _ _ h1) (hb X C _ _ _ _ h2) (.lst _) h3 hs
  · exact xe_ix (ha X C _ _ _ _ h1) (hb X C _ _ _ _ h2) (.tup _) h3 hs
  · cases h3
abbrev CO := Sls → Mu → Option (Option Int × Mu)
def SoO (P : Pl) (e : Option Expr) (f : CO) : Prop := ∀ X, Ctx P X → ∀ sl mu d mu', f sl mu = some (d, mu') → XO X ⟨sl, mu⟩ e ⟨sl, mu'⟩ d
def cO0 : CO := fun _ mu => some (none, mu)
def cO1 (f : CE) : CO := fun sl mu => (f sl mu).bind fun x => match x.1 with
  | .int i => some (some i, x.2)
  | _ => none
theorem so_o0 : SoO P none cO0 := fun X C sl mu d mu' q => by cases q; exact xo_none
theorem so_o1 (he : SoE P e f) : SoO P (some e) (cO1 f) := fun X C sl mu d mu' q => by
  unfold cO1 at q
  obtain ⟨⟨x, m⟩, h1, q⟩ := Option.bind_eq_some_iff.mp q
  dsimp only at q
  split at q
  · cases q; exact xo_some (he X C _ _ _ _ h1)
  · cases q
def cSl (f : CE) (lo hi : CO) : CE := fun sl mu => (f sl mu).bind fun x => (lo sl x.2).bind fun l => (hi sl l.2).bind fun h => match x.1 with
  | .list xs => some (.list (cutL xs l.1 h.1), h.2)
  | .tuple xs => some (.tuple (cutL xs l.1 h.1), h.2)
  | _ => none
def cSlL (f : CE) (lo hi : CO) : CL := fun sl mu => (f sl mu).bind fun x => (lo sl x.2).bind fun l => (hi sl l.2).bind fun h => match x.1 with
  | .list xs => some (cutL xs l.1 h.1, h.2)
  | _ => none
theorem so_sl {lo hi : Option Expr} {fl fh : CO} (ha : SoE P a f) (hl : SoO P lo fl) (hh : SoO P hi fh) : SoE P (.Subscript a (.Slice lo hi none p) pos) (cSl f fl fh) := fun X C sl mu d mu' q => by
  unfold cSl at q
  obtain ⟨⟨x, m⟩, h1, q⟩ := Option.bind_eq_some_iff.mp q
  obtain ⟨⟨l, m2⟩, h2, q⟩ := Option.bind_eq_some_iff.mp q
  obtain ⟨⟨r, m3⟩, h3, q⟩ := Option.bind_eq_some_iff.mp q
  dsimp only at q
  split at q
  · cases q; exact XF.e (xf_slL (ha X C _ _ _ _ h1) (hl X C _ _ _ _ h2) (hh X C _ _ _ _ h3))
  · cases q; exact xe_slT (ha X C _ _ _ _ h1) (hl X C _ _ _ _ h2) (hh X C _ _ _ _ h3)
  · cases q
theorem so_slL {lo hi : Option Expr} {fl fh : CO} (ha : SoE P a f) (hl : SoO P lo fl) (hh : SoO P hi fh) : SoF P (.Subscript a (.Slice lo hi none p) pos) (cSlL f fl fh) := fun X C sl mu d mu' q => by
  unfold cSlL at q
  obtain ⟨⟨x, m⟩, h1, q⟩ := Option.bind_eq_some_iff.mp q
  obtain ⟨⟨l, m2⟩, h2, q⟩ := Option.bind_eq_some_iff.mp q
  obtain ⟨⟨r, m3⟩, h3, q⟩ := Option.bind_eq_some_iff.mp q
  dsimp only at q
  split at q
  · cases q; exact xf_slL (ha X C _ _ _ _ h1) (hl X C _ _ _ _ h2) (hh X C _ _ _ _ h3)
  · cases q
def oLen : D → Option D
  | .list xs => some (.int (xs.length : Nat))
  | .tuple xs => some (.int (xs.length : Nat))
  | .str x => if x.length ≤ 100000 then some (.int (x.length : Nat)) else none
  | _ => none
theorem so_len (B : Blt P.R.mg) (ha : SoE P e f) (hg : IsGl P.sc "len" := by rfl) (hs : NoStar e := by exact fun _ _ => rfl) : SoE P (.Call (.Name "len" p) [e] [] pos) (cUn oLen f) := fun X C sl mu d mu' q => by
  obtain ⟨x, h1, h3⟩ := cUn_inv q
  unfold oLen at h3
  split at h3
  · cases h3; exact xe_len C.c hg B (ha X C _ _ _ _ h1) (.lst _) (hs _ _)
  · cases h3; exact xe_len C.c hg B (ha X C _ _ _ _ h1) (.tup _) (hs _ _)
  · split at h3
    · cases h3; exact xe_len C.c hg B (ha X C _ _ _ _ h1) (.str _ (by assumption)) (hs _ _)
    · cases h3
  · cases h3
def bools : List D → Option (List Bool)
  | [] => some []
  | .bool b :: ds => (bools ds).map (b :: ·)
  | _ => none
theorem bools_ok : ∀ {ds : List D} {bs : List Bool}, bools ds = some bs → ds = bs.map D.bool
  | [], bs, h => by cases h; rfl
  | d :: ds, bs, h => by
    cases d <;> simp only [bools, reduceCtorEq] at h
    obtain ⟨cs, h1, rfl⟩ := Option.map_eq_some_iff.mp h
    rw [bools_ok h1]
    rfl
def oAll : D → Option D
  | .list xs => (bools xs).map fun bs => .bool (bs.all id)
  | _ => none
def oAny : D → Option D
  | .list xs => (bools xs).map fun bs => .bool (bs.any id)
  | _ => none
theorem so_all (B : Blt P.R.mg) (ha : SoE P e f) (hg : IsGl P.sc "all" := by rfl) (hs : NoStar e := by exact fun _ _ => rfl) : SoE P (.Call (.Name "all" p) [e] [] pos) (cUn oAll f) := fun X C sl mu d mu' q => by
  obtain ⟨x, h1, h3⟩ := cUn_inv q
  unfold oAll at h3
  split at h3
  · obtain ⟨bs, h4, rfl⟩ := Option.map_eq_some_iff.mp h3
    rw [bools_ok h4] at h1
    exact xe_all C.c hg B (ha X C _ _ _ _ h1) (hs _ _)
  · cases h3
theorem so_any (B : Blt P.R.mg) (ha : SoE P e f) (hg : IsGl P.sc "any" := by rfl) (hs : NoStar e := by exact fun _ _ => rfl) : SoE P (.Call (.Name "any" p) [e] [] pos) (cUn oAny f) := fun X C sl mu d mu' q => by
  obtain ⟨x, h1, h3⟩ := cUn_inv q
  unfold oAny at h3
  split at h3
  · obtain ⟨bs, h4, rfl⟩ := Option.map_eq_some_iff.mp h3
    rw [bools_ok h4] at h1
    exact xe_any C.c hg B (ha X C _ _ _ _ h1) (hs _ _)
  · cases h3
def oTuple (d : D) : Option D := (oSeq d).map .tuple
theorem so_tuple (B : Blt P.R.mg) (ha : SoE P e f) (hg : IsGl P.sc "tuple" := by rfl) (hs : NoStar e := by exact fun _ _ => rfl) : SoE P (.Call (.Name "tuple" p) [e] [] pos) (cUn oTuple f) := fun X C sl mu d mu' q => by
  obtain ⟨x, h1, h3⟩ := cUn_inv q
  unfold oTuple at h3
  obtain ⟨ds, h4, rfl⟩ := Option.map_eq_some_iff.mp h3
  exact xe_tuple C.c hg B (ha X C _ _ _ _ h1) (oSeq_ok h4) (hs _ _)
theorem so_list (B : Blt P.R.mg) (ha : SoE P e f) (hg : IsGl P.sc "list" := by rfl) (hs : NoStar e := by exact fun _ _ => rfl) : SoF P (.Call (.Name "list" p) [e] [] pos) (cUnL oSeq f) := fun X C sl mu d mu' q => by
  obtain ⟨x, h1, h3⟩ := cUnL_inv q
  exact xf_list C.c hg B (ha X C _ _ _ _ h1) (oSeq_ok h3) (hs _ _)
def rngD (n : Int) : List D := (List.range n.toNat).map fun i => D.int (i : Nat)
def oRng : D → Option (List D)
  | .int n => if 0 ≤ n ∧ n ≤ 100000 then some (rngD n) else none
  | _ => none
theorem so_tupRg (B : Blt P.R.mg) (ha : SoE P e f) (hg : IsGl P.sc "tuple" := by rfl) (hg2 : IsGl P.sc "range" := by rfl) (hs : NoStar e := by exact fun _ _ => rfl) : SoE P (.Call (.Name "tuple" p) [.Call (.Name "range" p2) [e] [] q2] [] pos) (cUn (fun d => (oRng d).map .tuple) f) := fun X C sl mu d mu' q => by
  obtain ⟨x, h1, h3⟩ := cUn_inv q
  obtain ⟨ds, h4, rfl⟩ := Option.map_eq_some_iff.mp h3
  unfold oRng at h4
  split at h4
  · split at h4
    · rename_i w; cases h4; exact xe_tupRg C.c B hg hg2 (ha X C _ _ _ _ h1) w.2 w.1 (hs _ _) rfl
    · cases h4
  · cases h4
theorem so_lstRg (B : Blt P.R.mg) (ha : SoE P e f) (hg : IsGl P.sc "list" := by rfl) (hg2 : IsGl P.sc "range" := by rfl) (hs : NoStar e := by exact fun _ _ => rfl) : SoF P (.Call (.Name "list" p) [.Call (.Name "range" p2) [e] [] q2] [] pos) (cUnL oRng f) := fun X C sl mu d mu' q => by
  obtain ⟨x, h1, h3⟩ := cUnL_inv q
  unfold oRng at h3
  split at h3
  · split at h3
    · rename_i w; cases h3; exact xf_lstRg C.c B hg hg2 (ha X C _ _ _ _ h1) w.2 w.1 (hs _ _) rfl
    · cases h3
  · cases h3
def intsD : List D → Option (List Int)
  | [] => some []
  | .int b :: ds => (intsD ds).map (b :: ·)
  | _ => none
theorem intsD_ok : ∀ {ds : List D} {bs : List Int}, intsD ds = some bs → ds = bs.map D.int
  | [], bs, h => by cases h; rfl
  | d :: ds, bs, h => by
    cases d <;> simp only [intsD, reduceCtorEq] at h
    obtain ⟨cs, h1, rfl⟩ := Option.map_eq_some_iff.mp h
    rw [intsD_ok h1]
    rfl
def oSset (d : D) : Option (List D) := (oSeq d).bind fun ds => (intsD ds).bind fun ns => if ns.length < 64 then some ((norm ns).map D.int) else none
theorem so_sset (B : Blt P.R.mg) (ha : SoE P e f) (hg : IsGl P.sc "sorted" := by rfl) (hg2 : IsGl P.sc "set" := by rfl) (hs : NoStar e := by exact fun _ _ => rfl) : SoF P (.Call (.Name "sorted" p) [.Call (.Name "set" p2) [e] [] q2] [] pos) (cUnL oSset f) := fun X C sl mu d mu' q => by
  obtain ⟨x, h1, h3⟩ := cUnL_inv q
  unfold oSset at h3
  obtain ⟨ds, h4, h3⟩ := Option.bind_eq_some_iff.mp h3
  obtain ⟨ns, h5, h3⟩ := Option.bind_eq_some_iff.mp h3
  split at h3
  · cases h3
    have hd := oSeq_ok h4
    rw [intsD_ok h5] at hd
    exact xf_sortSet C.c B hg (xe_setI C.c B hg2 (ha X C _ _ _ _ h1) hd (by omega) (hs _ _)) (by assumption) (pw_norm ns) (fun k => mem_norm) rfl
  · cases h3
def sortOk (ds : List D) : Bool := ds.all (fit 32) && (ds.all fun x => ds.all fun y => PySem.W.alike x.toP y.toP) && (ds.all neT || ds.all notT)
where
  neT : D → Bool
    | .tuple (_ :: _) => true
    | _ => false
  notT : D → Bool
    | .int _ => true
    | .str _ => true
    | _ => false
def srtD (ds : List D) : List D := ds.mergeSort (leP fun d => d)
def oSorted : D → Option (List D)
  | .list ds => if sortOk ds = true then some (srtD ds) else none
  | _ => none
theorem so_sorted (B : Blt P.R.mg) (ha : SoE P e f) (hg : IsGl P.sc "sorted" := by rfl) (hs : NoStar e := by exact fun _ _ => rfl) : SoF P (.Call (.Name "sorted" p) [e] [] pos) (cUnL oSorted f) := fun X C sl mu d mu' q => by
  obtain ⟨x, h1, h3⟩ := cUnL_inv q
  unfold oSorted at h3
  split at h3
  · rename_i ds
    split at h3
    · rename_i w
      cases h3
      unfold sortOk at w
      rw [Bool.and_eq_true, Bool.and_eq_true] at w
      have key := xf_sorted (enc := fun d : D => d) (bs := ds) (p := p) (pos := pos) C.c B hg (by rw [List.map_id']; exact ha X C _ _ _ _ h1) (fun b hb => List.all_eq_true.mp w.1.1 b hb) ?_ ?_ (hs _ _)
      · rw [List.map_id'] at key
        exact key
      · have h4 := w.1.2
        intro a ha b hb
        obtain ⟨x, hx, rfl⟩ := List.mem_map.mp ha
        obtain ⟨y, hy, rfl⟩ := List.mem_map.mp hb
        exact List.all_eq_true.mp (List.all_eq_true.mp h4 x hx) y hy
      · have h4 := w.2
        rw [Bool.or_eq_true] at h4
        rcases h4 with h4 | h4
        · refine .inl fun d hd => ?_
          obtain ⟨x, hx, rfl⟩ := List.mem_map.mp hd
          have := List.all_eq_true.mp h4 x hx
          cases x <;> simp only [sortOk.neT, Bool.false_eq_true] at this
          rename_i xs
          cases xs with
          | nil => simp [sortOk.neT] at this
          | cons y r => exact ⟨y.toP, D.toPs r, by simp [D.toP, D.toPs]⟩
        · refine .inr fun d hd => ?_
          obtain ⟨x, hx, rfl⟩ := List.mem_map.mp hd
          have := List.all_eq_true.mp h4 x hx
          cases x <;> simp only [sortOk.notT, Bool.false_eq_true] at this
          · exact ⟨fun z => by simp [D.toP] at z, fun xs z => by simp [D.toP] at z⟩
          · exact ⟨fun z => by simp [D.toP] at z, fun xs z => by simp [D.toP] at z⟩
    · cases h3
  · cases h3
end
end Y
set_option Elab.async false
set_option linter.all false
set_option maxRecDepth 100000
set_option maxHeartbeats 400000
namespace Y
open PySem PySem.Spec PyProof.Rows L2
section
variable {P : Pl} {a b c e o tg iter elt : Expr} {es elts : List Expr} {pos p p2 q2 tpos apos npos cpos : Pos} {f h f3 : CE} {fa it : CL} {u v : CB} {kk : Nat}
def oInt : D → Option D
  | .int i => some (.int i)
  | .bool b => some (.int (if b then 1 else 0))
  | _ => none
theorem so_intc (B : Blt P.R.mg) (ha : SoE P e f) (hg : IsGl P.sc "int" := by rfl) (hs : NoStar e := by exact fun _ _ => rfl) : SoE P (.Call (.Name "int" p) [e] [] pos) (cUn oInt f) := fun X C sl mu d mu' q => by
  obtain ⟨x, h1, h3⟩ := cUn_inv q
  unfold oInt at h3
  split at h3
  · cases h3; exact xe_int1 C.c B hg (ha X C _ _ _ _ h1) (hs _ _)
  · cases h3; exact xe_int1b C.c B hg (ha X C _ _ _ _ h1) (hs _ _)
  · cases h3
def oMax (d : D) : Option D := (oSeq d).bind fun ds => (intsD ds).bind fun ns => if ns ≠ [] then some (.int (maxI ns)) else none
theorem so_max (B : Blt P.R.mg) (ha : SoE P e f) (hg : IsGl P.sc "max" := by rfl) (hs : NoStar e := by exact fun _ _ => rfl) : SoE P (.Call (.Name "max" p) [e] [] pos) (cUn oMax f) := fun X C sl mu d mu' q => by
  obtain ⟨x, h1, h3⟩ := cUn_inv q
  unfold oMax at h3
  obtain ⟨ds, h4, h3⟩ := Option.bind_eq_some_iff.mp h3
  obtain ⟨ns, h5, h3⟩ := Option.bind_eq_some_iff.mp h3
  split at h3
  · cases h3
    have hd := oSeq_ok h4
    rw [intsD_ok h5] at hd
    exact xe_max C.c B hg (ha X C _ _ _ _ h1) hd (by assumption) (hs _ _)
  · cases h3
def shwB (d : D) : Bool := fit 32 d && d.toP.showable && decide ((txt d).length ≤ 1000000)
def oRepr (d : D) : Option D := if shwB d = true then some (.str (txt d)) else none
theorem so_repr (B : Blt P.R.mg) (hgd : P.g = true) (ha : SoE P e f) (hg : IsGl P.sc "repr" := by rfl) (hs : NoStar e := by exact fun _ _ => rfl) : SoE P (.Call (.Name "repr" p) [e] [] pos) (cUn oRepr f) := fun X C sl mu d mu' q => by
  obtain ⟨x, h1, h3⟩ := cUn_inv q
  unfold oRepr at h3
  split at h3
  · rename_i w
    cases h3
    unfold shwB at w
    rw [Bool.and_eq_true, Bool.and_eq_true] at w
    exact xe_repr C.c B (C.gd hgd) hg (ha X C _ _ _ _ h1) ⟨w.1.1, w.1.2, of_decide_eq_true w.2⟩ (hs _ _)
  · cases h3
def oIs (T : D → Bool) (d : D) : Option Bool := if noOb d = true then some (T d) else none
theorem so_isInt {p1 : Pos} (B : Blt P.R.mg) (ha : SoE P e f) (hi : IsGl P.sc "isinstance" := by rfl) (hT : IsGl P.sc "int" := by rfl) (hs : NoStar e := by exact fun _ _ => rfl) : SoB P (.Call (.Name "isinstance" p) [e, .Name "int" p1] [] pos) (cUnB (oIs isI) f) := fun X C sl mu d mu' q => by
  obtain ⟨x, h1, h3⟩ := cUnB_inv q
  unfold oIs at h3
  split at h3
  · cases h3; exact xb_isInt C.c B hi hT (ha X C _ _ _ _ h1) (any_of (by assumption)) (hs _ _)
  · cases h3
theorem so_isBool {p1 : Pos} (B : Blt P.R.mg) (ha : SoE P e f) (hi : IsGl P.sc "isinstance" := by rfl) (hT : IsGl P.sc "bool" := by rfl) (hs : NoStar e := by exact fun _ _ => rfl) : SoB P (.Call (.Name "isinstance" p) [e, .Name "bool" p1] [] pos) (cUnB (oIs isB) f) := fun X C sl mu d mu' q => by
  obtain ⟨x, h1, h3⟩ := cUnB_inv q
  unfold oIs at h3
  split at h3
  · cases h3; exact xb_isBool C.c B hi hT (ha X C _ _ _ _ h1) (any_of (by assumption)) (hs _ _)
  · cases h3
theorem so_isTup {p1 : Pos} (B : Blt P.R.mg) (ha : SoE P e f) (hi : IsGl P.sc "isinstance" := by rfl) (hT : IsGl P.sc "tuple" := by rfl) (hs : NoStar e := by exact fun _ _ => rfl) : SoB P (.Call (.Name "isinstance" p) [e, .Name "tuple" p1] [] pos) (cUnB (oIs isT) f) := fun X C sl mu d mu' q => by
  obtain ⟨x, h1, h3⟩ := cUnB_inv q
  unfold oIs at h3
  split at h3
  · cases h3; exact xb_isTup C.c B hi hT (ha X C _ _ _ _ h1) (any_of (by assumption)) (hs _ _)
  · cases h3
theorem so_isStr {p1 : Pos} (B : Blt P.R.mg) (ha : SoE P e f) (hi : IsGl P.sc "isinstance" := by rfl) (hT : IsGl P.sc "str" := by rfl) (hs : NoStar e := by exact fun _ _ => rfl) : SoB P (.Call (.Name "isinstance" p) [e, .Name "str" p1] [] pos) (cUnB (oIs isS) f) := fun X C sl mu d mu' q => by
  obtain ⟨x, h1, h3⟩ := cUnB_inv q
  unfold oIs at h3
  split at h3
  · cases h3; exact xb_isStr C.c B hi hT (ha X C _ _ _ _ h1) (any_of (by assumption)) (hs _ _)
  · cases h3
def isLT (d : D) : Bool := isL d || isT d
theorem so_isLT {p1 p2 q : Pos} {kt : Nat} (B : Blt P.R.mg) (ha : SoE P e f) (hi : IsGl P.sc "isinstance" := by rfl) (hL : IsGl P.sc "list" := by rfl) (hT : IsGl P.sc "tuple" := by rfl) (hs : NoStar e := by exact fun _ _ => rfl) : SoB P (.Call (.Name "isinstance" p) [e, .Tuple [.Name "list" p1, .Name "tuple" p2] kt q] [] pos) (cUnB (oIs isLT) f) := fun X C sl mu d mu' q => by
  obtain ⟨x, h1, h3⟩ := cUnB_inv q
  unfold oIs at h3
  split at h3
  · cases h3; exact xb_isLT C.c B hi hL hT (ha X C _ _ _ _ h1) (any_of (by assumption)) (hs _ _)
  · cases h3
abbrev Sem := Mu → List D → Option (Mu × Res)
def spec (n : Nat) (s : Y.Sem) : Spc := fun mu ds mu' r => ds.length = n ∧ s mu ds = some (mu', r)
def retOf : Option (Mu × Res) → Option (D × Mu)
  | some (mu, .ret d) => some (d, mu)
  | _ => none
theorem retOf_inv {x : Option (Mu × Res)} {d : D} {mu : Mu} (h : retOf x = some (d, mu)) : x = some (mu, .ret d) := by
  unfold retOf at h
  split at h
  · cases h; rfl
  · cases h
def cCall (n : Nat) (s : Y.Sem) (fa : CL) : CE := fun sl mu => (fa sl mu).bind fun x => if x.1.length = n then retOf (s x.2 x.1) else none
theorem cCall_inv {n : Nat} {s : Y.Sem} {sl : Sls} {mu mu' : Mu} {d : D} (q : cCall n s fa sl mu = some (d, mu')) : ∃ ds m, fa sl mu = some (ds, m) ∧ spec n s m ds mu' (.ret d) := by
  unfold cCall at q
  obtain ⟨⟨x, m⟩, h1, q⟩ := Option.bind_eq_some_iff.mp q
  dsimp only at q
  split at q
  · exact ⟨x, m, h1, by assumption, retOf_inv q⟩
  · cases q
theorem so_call {x : Str} {n j : Nat} {s : Y.Sem} (F : Def P.R x j (spec n s)) (ha : SoA P (e :: es) fa) (hj : j ≤ P.k := by (dsimp only [Pl.blk]; decide)) (hg : IsGl P.sc x := by rfl) (hdb : (x == ("__debug__" : Str)) = false := by decide) (hs : NoStar e := by exact fun _ _ => rfl) (hss : NoStars es := by exact fun _ _ => rfl) : SoE P (.Call (.Name x p) (e :: es) [] pos) (cCall n s fa) := fun X C sl mu d mu' q => by
  obtain ⟨ds, m, h1, h2⟩ := cCall_inv q
  exact xe_call C.c F hj hg (ha X C _ _ _ _ h1) h2 hdb (hs _ _) (hss _ _)
theorem so_callR {x : Str} {n j : Nat} {s : Y.Sem} (hgd : P.g = true) (F : DefR P.R x j (det (spec n s))) (ha : SoA P (e :: es) fa) (hj : j ≤ P.k := by (dsimp only [Pl.blk]; decide)) (hg : IsGl P.sc x := by rfl) (hdb : (x == ("__debug__" : Str)) = false := by decide) (hs : NoStar e := by exact fun _ _ => rfl) (hss : NoStars es := by exact fun _ _ => rfl) : SoE P (.Call (.Name x p) (e :: es) [] pos) (cCall n s fa) := fun X C sl mu d mu' q => by
  obtain ⟨ds, m, h1, h2⟩ := cCall_inv q
  exact xe_callR C.c (C.gd hgd) F hj hg (ha X C _ _ _ _ h1) h2 hdb (hs _ _) (hss _ _)
abbrev SemI := Mu → List D → Option (Mu × ResI)
def specI (n : Nat) (s : SemI) : SpcI := fun mu ds mu' r => ds.length = n ∧ s mu ds = some (mu', r)
def cMake (C : Addr) (n : Nat) (s : SemI) (fa : CL) : CE := fun sl mu => (fa sl mu).bind fun x => if x.1.length = n then (match s x.2 x.1 with
  | some (mu', .ok fs) => some (.inst C fs, mu')
  | _ => none) else none
theorem so_make {x : Str} {C : Addr} {n j : Nat} {s : SemI} (F : ClsD P.R x C j (specI n s)) (ha : SoA P (e :: es) fa) (hj : j + 1 ≤ P.k := by (dsimp only [Pl.blk]; decide)) (hg : IsGl P.sc x := by rfl) (hdb : (x == ("__debug__" : Str)) = false := by decide) (hs : NoStar e := by exact fun _ _ => rfl) (hss : NoStars es := by exact fun _ _ => rfl) : SoE P (.Call (.Name x p) (e :: es) [] pos) (cMake C n s fa) := fun X Cx sl mu d mu' q => by
  unfold cMake at q
  obtain ⟨⟨ds, m⟩, h1, q⟩ := Option.bind_eq_some_iff.mp q
  dsimp only at q
  split at q
  · rename_i w
    split at q
    · rename_i z
      cases q
      exact xe_make Cx.c F hj hg (ha X Cx _ _ _ _ h1) ⟨w, z⟩ hdb (hs _ _) (hss _ _)
    · cases q
  · cases q
def oFld (C : Addr) (i : Nat) : D → Option D
  | .inst C' fs => if C' = C then (fs[i]?).join else none
  | _ => none
theorem so_fld {C pd : Addr} {fn : Str} {i : Nat} (c : SlX.SCls P.R.K C) (t : SlX.Slot1 P.R.K C fn pd i) (ha : SoE P e f) (hb : ∀ env, attributeBase e fn env (eval e env) = eval e env := by intro _; rfl) : SoE P (.Attribute e fn pos) (cUn (oFld C i) f) := fun X Cx sl mu d mu' q => by
  obtain ⟨x, h1, h3⟩ := cUn_inv q
  unfold oFld at h3
  split at h3
  · split at h3
    · rename_i w
      subst w
      refine xe_fld Cx.c (ha X Cx _ _ _ _ h1) c t ?_ (hb _)
      rename_i fs
      cases hq : fs[i]? with
      | none => rw [hq] at h3; cases h3
      | some o => rw [hq] at h3; exact congrArg some h3
    · cases h3
  · cases h3
def cLenI (C : Addr) (s : Y.Sem) (f : CE) : CE := fun sl mu => (f sl mu).bind fun x => match x.1 with
  | .inst C' fs => if C' = C then (match s x.2 [.inst C' fs] with
    | some (mu', .ret (.int n)) => if 0 ≤ n ∧ n < 2 ^ 63 then some (.int n, mu') else none
    | _ => none) else none
  | d => (oLen d).map fun z => (z, x.2)
theorem so_lenI {C : Addr} {j : Nat} {s : Y.Sem} (B : Blt P.R.mg) (F : MethD P.R C "__len__" j (spec 1 s)) (ha : SoE P e f) (hj : j + 1 ≤ P.k := by (dsimp only [Pl.blk]; decide)) (hg : IsGl P.sc "len" := by rfl) (hs : NoStar e := by exact fun _ _ => rfl) : SoE P (.Call (.Name "len" p) [e] [] pos) (cLenI C s f) := fun X Cx sl mu d mu' q => by
  unfold cLenI at q
  obtain ⟨⟨x, m⟩, h1, q0⟩ := Option.bind_eq_some_iff.mp q
  clear q
  dsimp only at q0
  split at q0
  · rename_i C' fs
    split at q0
    · rename_i w
      subst w
      split at q0
      · rename_i z
        split at q0
        · rename_i w
          cases q0
          exact xe_lenI Cx.c B hg F hj (ha X Cx _ _ _ _ h1) ⟨rfl, z⟩ w.1 w.2 (hs _ _)
        · cases q0
      · cases q0
    · cases q0
  · obtain ⟨z, h3, q1⟩ := Option.map_eq_some_iff.mp q0
    cases q1
    exact so_len B ha hg hs X Cx sl mu d mu' (by unfold cUn; rw [h1]; show (oLen x).map _ = _; rw [h3]; rfl)
def cMeth (C : Addr) (n : Nat) (s : Y.Sem) (f : CE) (fa : CL) : CE := fun sl mu => (f sl mu).bind fun x => (fa sl x.2).bind fun y => match x.1 with
  | .inst C' fs => if C' = C ∧ y.1.length + 1 = n then retOf (s y.2 (.inst C' fs :: y.1)) else none
  | _ => none
theorem so_meth {C : Addr} {m : Str} {n j : Nat} {s : Y.Sem} (pl : PySem.Sem Bool) (F : MethD P.R C m j (spec n s)) (c : SlX.SCls P.R.K C) (ho : SoE P o f) (ha : SoA P (e :: es) fa) (hj : j ≤ P.k := by (dsimp only [Pl.blk]; decide)) (hs : NoStar e := by exact fun _ _ => rfl) (hss : NoStars es := by exact fun _ _ => rfl)
    (ht : ∀ env, eval (.Call (.Attribute o m apos) (e :: es) [] pos) env = (do
      let ov ← eval o env
      standAt apos.atName
      let (f, first) ← holding [ov] (getMethod ov m pl)
      callWith pos f first (backTo pos (starEach (e :: es) env)) (backToKw pos (keywordEach [] env))) := by intro _; rfl) : SoE P (.Call (.Attribute o m apos) (e :: es) [] pos) (cMeth C n s f fa) := fun X Cx sl mu d mu' q => by
  unfold cMeth at q
  obtain ⟨⟨x, m1⟩, h1, q0⟩ := Option.bind_eq_some_iff.mp q
  clear q
  obtain ⟨⟨y, m2⟩, h2, q1⟩ := Option.bind_eq_some_iff.mp q0
  clear q0
  dsimp only at q1
  split at q1
  · split at q1
    · rename_i w
      obtain ⟨w1, w2⟩ := w
      subst w1
      exact xe_meth Cx.c F c hj (ho X Cx _ _ _ _ h1) (ha X Cx _ _ _ _ h2) ⟨by simpa using w2, retOf_inv q1⟩ (hs _ _) (hss _ _) (ht _)
    · cases q1
  · cases q1
def cSq (f : CE) : CL := cUnL oSeq f
theorem si_seq (ha : SoE P e f) : SoI P true tg e (cSq f) := fun X C sl mu d mu' q => by
  obtain ⟨x, h1, h3⟩ := cUnL_inv q
  exact xi_seq (ha X C _ _ _ _ h1) (oSeq_ok h3)
def cOw (i : Nat) : CL := fun sl mu => match sl[i]? with
  | some (some (.lst ds)) => some (ds, mu)
  | _ => none
theorem si_own (i : Nat) {x : Str} (hN : P.N[i]? = some x) (hv : Vis P.sc x := by first | exact .inl rfl | exact .inr (.inl rfl) | exact .inr (.inr rfl)) (hd : (x == ("__debug__" : Str)) = false := by decide) (hcd : (x == ("__classdict__" : Str)) = false := by decide) : SoI P false tg (.Name x pos) (cOw i) := fun X C sl mu d mu' q => by
  unfold cOw at q
  split at q
  · cases q
    exact xi_own C.c i (by assumption) hN hv hd hcd
  · cases q
theorem si_rng (B : Blt P.R.mg) (ha : SoE P e f) (hg : IsGl P.sc "range" := by rfl) (hs : NoStar e := by exact fun _ _ => rfl) : SoI P true tg (.Call (.Name "range" p) [e] [] pos) (cUnL oRng f) := fun X C sl mu d mu' q => by
  obtain ⟨x, h1, h3⟩ := cUnL_inv q
  unfold oRng at h3
  split at h3
  · split at h3
    · rename_i w; cases h3; exact xi_range1 C.c B hg (ha X C _ _ _ _ h1) w.1 w.2 (hs _ _) (hs _ _)
    · cases h3
  · cases h3
def oRng2 : D → D → Option (List D)
  | .int lo, .int n => if 0 ≤ lo ∧ lo ≤ 100000 ∧ -100000 ≤ n ∧ n ≤ 100000 then some ((List.range (n - lo).toNat).map fun i => D.int (lo + (i : Nat))) else none
  | _, _ => none
theorem si_rng2 (B : Blt P.R.mg) (ha : SoE P a f) (hb : SoE P b h) (hg : IsGl P.sc "range" := by rfl) (hs : NoStar a := by exact fun _ _ => rfl) (hs2 : NoStar b := by exact fun _ _ => rfl) : SoI P true tg (.Call (.Name "range" p) [a, b] [] pos) (cBinL oRng2 f h) := fun X C sl mu d mu' q => by
  unfold cBinL at q
  obtain ⟨⟨x, m⟩, h1, q⟩ := Option.bind_eq_some_iff.mp q
  obtain ⟨⟨y, m2⟩, h2, q⟩ := Option.bind_eq_some_iff.mp q
  obtain ⟨z, h3, q⟩ := Option.map_eq_some_iff.mp q
  cases q
  dsimp only at h3
  cases x <;> simp only [oRng2, reduceCtorEq] at h3
  cases y <;> simp only [oRng2, reduceCtorEq] at h3
  split at h3
  · rename_i w; cases h3; exact xi_range2 C.c B hg (ha X C _ _ _ _ h1) (hb X C _ _ _ _ h2) w (hs _ _) (hs2 _ _) ((hs _ _).trans (by rw [hs2]; rfl)) (hs2 _ _)
  · cases h3
def oEnum (d : D) : Option (List D) := (oSeq d).map enumD
theorem si_enum (B : Blt P.R.mg) (ha : SoE P e f) (hg : IsGl P.sc "enumerate" := by rfl) (hs : NoStar e := by exact fun _ _ => rfl) : SoI P true (.Tuple elts kk tpos) (.Call (.Name "enumerate" p) [e] [] pos) (cUnL oEnum f) := fun X C sl mu d mu' q => by
  obtain ⟨x, h1, h3⟩ := cUnL_inv q
  unfold oEnum at h3
  obtain ⟨ds, h4, rfl⟩ := Option.map_eq_some_iff.mp h3
  exact xi_enum C.c B hg (ha X C _ _ _ _ h1) (oSeq_ok h4) (hs _ _) (hs _ _)
def oZip : D → D → Option (List D)
  | .tuple x, .tuple y => some (zipD x y)
  | .list x, .list y => some (zipD x y)
  | _, _ => none
theorem si_zip (B : Blt P.R.mg) (ha : SoE P a f) (hb : SoE P b h) (hg : IsGl P.sc "zip" := by rfl) (hs : NoStar a := by exact fun _ _ => rfl) (hs2 : NoStar b := by exact fun _ _ => rfl) (hss : NoStars [b] := by exact fun _ _ => rfl) : SoI P true (.Tuple elts kk tpos) (.Call (.Name "zip" p) [a, b] [] pos) (cBinL oZip f h) := fun X C sl mu d mu' q => by
  unfold cBinL at q
  obtain ⟨⟨x, m⟩, h1, q⟩ := Option.bind_eq_some_iff.mp q
  obtain ⟨⟨y, m2⟩, h2, q⟩ := Option.bind_eq_some_iff.mp q
  obtain ⟨z, h3, q⟩ := Option.map_eq_some_iff.mp q
  cases q
  dsimp only at h3
  cases x <;> simp only [oZip, reduceCtorEq] at h3
  · cases y <;> simp only [oZip, reduceCtorEq] at h3
    cases h3
    exact xi_zipL C.c B hg (ha X C _ _ _ _ h1) (hb X C _ _ _ _ h2) (hs _ _) (hs2 _ _) (hss _ _)
  · cases y <;> simp only [oZip, reduceCtorEq] at h3
    cases h3
    exact xi_zipT C.c B hg (ha X C _ _ _ _ h1) (hb X C _ _ _ _ h2) (hs _ _) (hs2 _ _) (hss _ _)
end
end Y
set_option Elab.async false
set_option linter.all false
set_option maxRecDepth 100000
set_option maxHeartbeats 400000
namespace Y
open PySem PySem.Spec PyProof.Rows L2
def SoG (P : Pl) (fn : Str → Bool) (js : List Nat) (tg : Expr) (G : CG) : Prop := ∀ X, Ctx P X → X.fn = fn → ∀ sl mu d sl', G sl d = some sl' → XG X js ⟨sl, mu⟩ tg d ⟨sl', mu⟩
abbrev CGs := Sls → List D → Option Sls
def SoGs (P : Pl) (fn : Str → Bool) (js : List Nat) (tgs : List Expr) (G : CGs) : Prop := ∀ X, Ctx P X → X.fn = fn → ∀ sl mu d sl', G sl d = some sl' → XGs X js ⟨sl, mu⟩ tgs d ⟨sl', mu⟩
def fnT : Str → Bool := fun _ => true
def fnB (scope : Scope) : Str → Bool := fun x => scope.names.lookup x == some .cell
def tN (i : Nat) : CG := fun sl d => some (sl.set i (some (.st d)))
def tT0 : CGs := fun sl ds => if ds.length = 0 then some sl else none
def tT1 (G : CG) (Gs : CGs) : CGs := fun sl ds => match ds with
  | d :: ds => (G sl d).bind fun sl1 => Gs sl1 ds
  | [] => none
def tTp (Gs : CGs) : CG := fun sl d => match d with
  | .tuple ds => Gs sl ds
  | _ => none
section
variable {P : Pl} {fn : Str → Bool} {js js' : List Nat} {e tg : Expr} {es : List Expr} {pos : Pos} {G : CG} {Gs : CGs}
theorem sg_n (i : Nat) {x : Str} (hN : P.N[i]? = some x) (hf : fn x = true ∨ P.sc.names.lookup x = some .local := by first | exact .inl rfl | exact .inr rfl) (hx : Loc P.sc x := by first | exact .inl rfl | exact .inr rfl) : SoG P fn [i] (.Name x pos) (tN i) := fun X C hfn sl mu d sl' q => by
  cases q
  exact xg_name C.c i hN hx (by rw [hfn]; exact hf)
theorem sg_0 : SoGs P fn [] [] tT0 := fun X C hfn sl mu d sl' q => by
  unfold tT0 at q
  split at q
  · cases q
    have : d = [] := List.length_eq_zero_iff.mp (by assumption)
    subst this
    exact xgs_nil
  · cases q
theorem sg_1 (h : SoG P fn js e G) (hr : SoGs P fn js' es Gs) (hs : ∀ env, (assignEach (e :: es) env).map (·.2) = assign e env :: (assignEach es env).map (·.2) := by intro _; rfl) : SoGs P fn (js ++ js') (e :: es) (tT1 G Gs) := fun X C hfn sl mu d sl' q => by
  cases d with
  | nil => cases q
  | cons d ds =>
    obtain ⟨sl1, h1, h2⟩ := Option.bind_eq_some_iff.mp (show (G sl d).bind (fun sl1 => Gs sl1 ds) = some sl' from q)
    exact xgs_cons (h X C hfn _ _ _ _ h1) (hr X C hfn _ _ _ _ h2) (hs _)
theorem gs_len {n : Nat} {m : Nat} {ds : List D} {sl sl' : Sls} (h : ∀ sl ds sl', Gs sl ds = some sl' → ds.length = n) (q : Gs sl ds = some sl') : ds.length = n := h _ _ _ q
def GsN (Gs : CGs) (n : Nat) : Prop := ∀ sl ds sl', Gs sl ds = some sl' → ds.length = n
theorem gsn_0 : GsN tT0 0 := fun sl ds sl' q => by
  unfold tT0 at q
  split at q
  · assumption
  · cases q
theorem gsn_1 {n : Nat} (h : GsN Gs n) : GsN (tT1 G Gs) (n + 1) := fun sl ds sl' q => by
  cases ds with
  | nil => cases q
  | cons d ds =>
    obtain ⟨sl1, h1, h2⟩ := Option.bind_eq_some_iff.mp (show (G sl d).bind (fun sl1 => Gs sl1 ds) = some sl' from q)
    rw [List.length_cons, h _ _ _ h2]
theorem sg_t {kk n : Nat} (h : SoGs P fn js es Gs) (hn : GsN Gs n) (hl : ∀ env, (assignEach es env).length = n := by intro _; rfl) (hst : ∀ env, (assignEach es env).findIdx? (·.1) = none := by intro _; rfl) : SoG P fn js (.Tuple es kk pos) (tTp Gs) := fun X C hfn sl mu d sl' q => by
  cases d <;> simp only [tTp, reduceCtorEq] at q
  exact xg_tup (n := n) C.c (h X C hfn _ _ _ _ q) (hn _ _ _ q) (hl _) (hst _)
end
def SoTs (P : Pl) (ifs : List Expr) (f : CB) : Prop := ∀ X, Ctx P X → ∀ sl mu d mu', f sl mu = some (d, mu') → XTs X ⟨sl, mu⟩ ifs ⟨sl, mu'⟩ d
def cTt : CB := fun _ mu => some (true, mu)
theorem so_ts0 {P : Pl} : SoTs P [] cTt := fun X C sl mu d mu' q => by cases q; exact xts_nil
theorem so_ts1 {P : Pl} {e : Expr} {f : CB} (h : SoB P e f) : SoTs P [e] f := fun X C sl mu d mu' q => xts_one (h X C _ _ _ _ q).t
def lcBody (sl : Sls) (own : List Nat) (G : CG) (c : CB) (y : CE) : D → Mu → Option (Option D × Mu) := fun d mu =>
  (G (wipeL sl own) d).bind fun sl1 => (c sl1 mu).bind fun b => cond b.1 ((y sl1 b.2).map fun v => (some v.1, v.2)) (some (none, b.2))
def lcRun (F : D → Mu → Option (Option D × Mu)) : List D → Mu → Option (List D × Mu)
  | [], mu => some ([], mu)
  | d :: ds, mu => (F d mu).bind fun x => (lcRun F ds x.2).map fun r => (x.1.toList ++ r.1, r.2)
theorem kept_cons (b : Nat → Bool) (y : Nat → D) (n : Nat) : kept b y (n + 1) = (if b 0 = true then [y 0] else []) ++ kept (fun j => b (j + 1)) (fun j => y (j + 1)) n := by
  unfold kept
  rw [List.range_succ_eq_map, List.filter_cons, List.filter_map]
  split
  · simp [List.map_map, Function.comp_def]
  · simp [List.map_map, Function.comp_def]
theorem lc_trace {sl : Sls} {own : List Nat} {G : CG} {c : CB} {y : CE} : ∀ {ds : List D} {mu mu' : Mu} {vs : List D}, lcRun (lcBody sl own G c y) ds mu = some (vs, mu') →
    ∃ (mus m1 : Nat → Mu) (sls : Nat → Sls) (b : Nat → Bool) (yv : Nat → D), mus 0 = mu ∧ mus ds.length = mu' ∧ vs = kept b yv ds.length ∧ ∀ (j : Nat) (d : D), ds[j]? = some d → G (wipeL sl own) d = some (sls j) ∧ c (sls j) (mus j) = some (b j, m1 j) ∧ (b j = true → y (sls j) (m1 j) = some (yv j, mus (j + 1))) ∧ (b j = false → m1 j = mus (j + 1))
  | [], mu, mu', vs, q => by
    cases q
    exact ⟨fun _ => mu, fun _ => mu, fun _ => [], fun _ => true, fun _ => .none, rfl, rfl, rfl, fun j d h => by simp at h⟩
  | d :: ds, mu, mu', vs, q => by
    obtain ⟨⟨x, m⟩, h1, q⟩ := Option.bind_eq_some_iff.mp (show (lcBody sl own G c y d mu).bind (fun x => (lcRun (lcBody sl own G c y) ds x.2).map fun r => (x.1.toList ++ r.1, r.2)) = some (vs, mu') from q)
    obtain ⟨⟨r, m2⟩, h2, q⟩ := Option.map_eq_some_iff.mp q
    cases q
    obtain ⟨mus, m1, sls, b, yv, e0, e1, e2, ih⟩ := lc_trace h2
    unfold lcBody at h1
    obtain ⟨sl1, g1, h1⟩ := Option.bind_eq_some_iff.mp h1
    obtain ⟨⟨b0, mb⟩, g2, h1⟩ := Option.bind_eq_some_iff.mp h1
    dsimp only at h1
    cases b0 with
    | true =>
      rw [cond_true] at h1
      obtain ⟨⟨v, mv⟩, g3, h1⟩ := Option.map_eq_some_iff.mp h1
      cases h1
      refine ⟨fun j => match j with | 0 => mu | j + 1 => mus j, fun j => match j with | 0 => mb | j + 1 => m1 j, fun j => match j with | 0 => sl1 | j + 1 => sls j, fun j => match j with | 0 => true | j + 1 => b j, fun j => match j with | 0 => v | j + 1 => yv j, rfl, e1, ?_, fun j d' hj => ?_⟩
      · rw [List.length_cons, kept_cons, e2]
        rfl
      · cases j with
        | zero =>
          have : d' = d := by simpa using hj.symm
          subst this
          exact ⟨g1, g2, fun _ => (by rw [g3]; exact congrArg (fun z => some (v, z)) e0.symm), fun z => (by cases z)⟩
        | succ j => exact ih j d' (by simpa using hj)
    | false =>
      rw [cond_false] at h1
      cases h1
      refine ⟨fun j => match j with | 0 => mu | j + 1 => mus j, fun j => match j with | 0 => m | j + 1 => m1 j, fun j => match j with | 0 => sl1 | j + 1 => sls j, fun j => match j with | 0 => false | j + 1 => b j, fun j => match j with | 0 => .none | j + 1 => yv j, rfl, e1, ?_, fun j d' hj => ?_⟩
      · rw [List.length_cons, kept_cons, e2]
        rfl
      · cases j with
        | zero =>
          have : d' = d := by simpa using hj.symm
          subst this
          exact ⟨g1, g2, fun z => (by cases z), fun _ => e0.symm⟩
        | succ j => exact ih j d' (by simpa using hj)
def cLc (it : CL) (own : List Nat) (G : CG) (c : CB) (y : CE) : CL := fun sl mu => (it sl mu).bind fun x => lcRun (lcBody sl own G c y) x.1 x.2
section
variable {P : Pl} {tg iter elt : Expr} {ifs : List Expr} {pos p : Pos} {fb : Bool} {it : CL} {G : CG} {c : CB} {y : CE} {js : List Nat} {scope : Scope}
theorem wipe_eqE (sl : Sls) (mu : Mu) (own : List Nat) : En.wipe ⟨sl, mu⟩ own = ⟨wipeL sl own, mu⟩ := rfl
theorem lc_prep {own : List (Str × Nat)} (hg : SoG (P.blk scope) (fnB scope) js tg G) (hjs : ∀ j ∈ js, j ∈ slotsOf own) (hc : SoTs (P.blk scope) ifs c) (hy : SoE (P.blk scope) elt y) {X : Cx} (C : Ctx P X) {sl : Sls} {mu mu' : Mu} {ds vs : List D} (q : lcRun (lcBody sl (slotsOf own) G c y) ds mu = some (vs, mu')) :
    ∃ (mus m1 : Nat → Mu) (sls : Nat → Sls) (b : Nat → Bool) (yv : Nat → D), mus 0 = mu ∧ mus ds.length = mu' ∧ vs = kept b yv ds.length ∧
      (∀ X', BlkX P.R P.k P.N P.sc scope X X' → ∀ j d, ds[j]? = some d → XG X' (slotsOf own) (En.wipe ⟨sl, mus j⟩ (slotsOf own)) tg d ⟨sls j, mus j⟩ ∧ XTs X' ⟨sls j, mus j⟩ ifs ⟨sls j, m1 j⟩ (b j) ∧ (b j = true → XE X' ⟨sls j, m1 j⟩ elt ⟨sls j, mus (j + 1)⟩ (yv j))) ∧
      (∀ j, j < ds.length → b j = false → m1 j = mus (j + 1)) := by
  obtain ⟨mus, m1, sls, b, yv, e0, e1, e2, h⟩ := lc_trace q
  refine ⟨mus, m1, sls, b, yv, e0, e1, e2, fun X' B j d hd => ?_, fun j hj hb => (h j _ (List.getElem?_eq_getElem hj)).2.2.2 hb⟩
  obtain ⟨h1, h2, h3, h4⟩ := h j d hd
  have CB := C.blk B
  exact ⟨XG.sub (hg X' CB B.fn _ (mus j) _ _ h1) hjs, hc X' CB _ _ _ _ h2, fun z => hy X' CB _ _ _ _ (h3 z)⟩
theorem so_lc (own : List (Str × Nat)) (hi : SoI P fb tg iter it) (hg : SoG (P.blk scope) (fnB scope) js tg G) (hc : SoTs (P.blk scope) ifs c) (hy : SoE (P.blk scope) elt y) (hjs : ∀ j ∈ js, j ∈ slotsOf own := by decide) (ok : blkC P.N P.sc scope own = true := by (dsimp only [Pl.blk]; decide +kernel)) (hs : ∀ env x, foldedSetIterable iter env x = pure x := by intro _ _; rfl) :
    SoF P (.ListComp elt [⟨tg, iter, ifs, 0⟩] scope pos) (cLc it (slotsOf own) G c y) := fun X C sl mu d mu' q => by
  unfold cLc at q
  obtain ⟨⟨ds, m⟩, h1, q⟩ := Option.bind_eq_some_iff.mp q
  obtain ⟨mus, m1, sls, b, yv, e0, e1, e2, h, h5⟩ := lc_prep hg hjs hc hy C q
  subst e2
  rw [← e1]
  have h0 := hi X C _ _ _ _ h1
  dsimp only at e0
  rw [← e0] at h0
  exact xf_lcG (Γ1 := ⟨sl, m⟩) (mus := mus) (b := b) (y := yv) (Γt := fun j => ⟨sls j, mus j⟩) (Γu := fun j => ⟨sls j, m1 j⟩) (Γv := fun j => ⟨sls j, mus (j + 1)⟩) C.c h0 ok (fun X' B j d hd => h X' B j d hd) (fun _ _ _ => rfl) (fun j hj hb => h5 j hj hb) (hs _)
end
def CalmB (f : CB) : Prop := ∀ sl mu d mu', f sl mu = some (d, mu') → mu' = mu
def CalmL (f : CL) : Prop := ∀ sl mu d mu', f sl mu = some (d, mu') → mu' = mu
theorem calm_tt : CalmB cTt := fun sl mu d mu' q => by cases q; rfl
theorem calm_ow (i : Nat) : CalmL (cOw i) := fun sl mu d mu' q => by
  unfold cOw at q
  split at q
  · cases q; rfl
  · cases q
theorem calm_unL {op : D → Option (List D)} {f : CE} (hf : Calm f) : CalmL (cUnL op f) := fun sl mu d mu' q => by
  obtain ⟨x, h1, _⟩ := cUnL_inv q
  exact hf _ _ _ _ h1
theorem calm_unB {op : D → Option Bool} {f : CE} (hf : Calm f) : CalmB (cUnB op f) := fun sl mu d mu' q => by
  obtain ⟨x, h1, _⟩ := cUnB_inv q
  exact hf _ _ _ _ h1
theorem calm_cmp {op : D → D → Option Bool} {f h : CE} (hf : Calm f) (hh : Calm h) : CalmB (cCmp op f h) := fun sl mu d mu' q => by
  obtain ⟨x, m, y, h1, h2, _⟩ := cCmp_inv q
  have e1 := hf _ _ _ _ h1
  have e2 := hh _ _ _ _ h2
  rw [e2, e1]
theorem calm_cons {f : CE} {fa : CL} (hf : Calm f) (hh : CalmL fa) : CalmL (cCons f fa) := fun sl mu d mu' q => by
  unfold cCons at q
  obtain ⟨⟨x, m⟩, h1, q⟩ := Option.bind_eq_some_iff.mp q
  obtain ⟨⟨y, m2⟩, h2, q⟩ := Option.map_eq_some_iff.mp q
  cases q
  have e1 := hf _ _ _ _ h1
  have e2 := hh _ _ _ _ h2
  simp only at e1 e2
  rw [e2, e1]
theorem calm_nil : CalmL cNil := fun sl mu d mu' q => by cases q; rfl
theorem calm_tup {fa : CL} (hh : CalmL fa) : Calm (cTup fa) := fun sl mu d mu' q => by
  unfold cTup at q
  obtain ⟨⟨x, m⟩, h1, q⟩ := Option.bind_eq_some_iff.mp q
  dsimp only at q
  split at q
  · cases q; exact hh _ _ _ _ h1
  · cases q
def lc2In (it2 : CL) (own2 : List Nat) (G2 : CG) (c2 : CB) (y : CE) (sl1 : Sls) (mu : Mu) : Option (List D) := ((it2 sl1 mu).bind fun x => lcRun (lcBody sl1 own2 G2 c2 y) x.1 x.2).map (·.1)
def lc2Body (sl : Sls) (own : List Nat) (G : CG) (c : CB) (it2 : CL) (own2 : List Nat) (G2 : CG) (c2 : CB) (y : CE) (mu : Mu) : D → Option (List D) := fun d =>
  (G (wipeL sl own) d).bind fun sl1 => (c sl1 mu).bind fun b => cond b.1 (lc2In it2 own2 G2 c2 y sl1 mu) (some [])
def lc2Run (F : D → Option (List D)) : List D → Option (List D)
  | [] => some []
  | d :: ds => (F d).bind fun x => (lc2Run F ds).map fun r => x ++ r
def cLc2 (it : CL) (own : List Nat) (G : CG) (c : CB) (it2 : CL) (own2 : List Nat) (G2 : CG) (c2 : CB) (y : CE) : CL := fun sl mu => (it sl mu).bind fun x => (lc2Run (lc2Body sl own G c it2 own2 G2 c2 y x.2) x.1).bind fun vs => if vs.length ≤ 100000 then some (vs, x.2) else none
theorem lc2_all {F : D → Option (List D)} : ∀ {ds vs : List D}, lc2Run F ds = some vs → (∀ d ∈ ds, ∃ x, F d = some x) ∧ vs = ds.flatMap fun d => (F d).getD []
  | [], vs, q => by cases q; exact ⟨fun d h => (by cases h), rfl⟩
  | d :: ds, vs, q => by
    obtain ⟨x, h1, q⟩ := Option.bind_eq_some_iff.mp (show (F d).bind (fun x => (lc2Run F ds).map fun r => x ++ r) = some vs from q)
    obtain ⟨r, h2, q⟩ := Option.map_eq_some_iff.mp q
    obtain ⟨g1, g2⟩ := lc2_all h2
    refine ⟨fun z hz => ?_, ?_⟩
    · rcases List.mem_cons.mp hz with e | e
      · subst e; exact ⟨x, h1⟩
      · exact g1 z e
    · rw [List.flatMap_cons, h1, ← q, g2]
      rfl
theorem lcRun_pure {F : D → Mu → Option (Option D × Mu)} {mu : Mu} (hF : ∀ d m z m', F d m = some (z, m') → m' = m) : ∀ {ds vs : List D} {mu' : Mu}, lcRun F ds mu = some (vs, mu') → mu' = mu ∧ (∀ d ∈ ds, ∃ z, F d mu = some (z, mu)) ∧ vs = ds.filterMap fun d => ((F d mu).map (·.1)).join
  | [], vs, mu', q => by cases q; exact ⟨rfl, fun d h => (by cases h), rfl⟩
  | d :: ds, vs, mu', q => by
    obtain ⟨⟨x, m⟩, h1, q⟩ := Option.bind_eq_some_iff.mp (show (F d mu).bind (fun x => (lcRun F ds x.2).map fun r => (x.1.toList ++ r.1, r.2)) = some (vs, mu') from q)
    obtain ⟨⟨r, m2⟩, h2, q⟩ := Option.map_eq_some_iff.mp q
    cases q
    have e := hF _ _ _ _ h1
    subst e
    obtain ⟨g0, g1, g2⟩ := lcRun_pure hF h2
    refine ⟨g0, fun z hz => ?_, ?_⟩
    · rcases List.mem_cons.mp hz with e | e
      · subst e; exact ⟨x, h1⟩
      · exact g1 z e
    · dsimp only
      rw [List.filterMap_cons, h1, g2]
      cases x with
      | none => rfl
      | some v => rfl
theorem lcBody_calm {sl : Sls} {own : List Nat} {G : CG} {c : CB} {y : CE} (hc : CalmB c) (hy : Calm y) : ∀ d m z m', lcBody sl own G c y d m = some (z, m') → m' = m := fun d m z m' q => by
  unfold lcBody at q
  obtain ⟨sl1, g1, q1⟩ := Option.bind_eq_some_iff.mp q
  obtain ⟨⟨b0, mb⟩, g2, q2⟩ := Option.bind_eq_some_iff.mp q1
  have e := hc _ _ _ _ g2
  clear q q1
  dsimp only at q2
  cases b0 with
  | true =>
    obtain ⟨⟨v, mv⟩, g3, h1⟩ := Option.map_eq_some_iff.mp q2
    have e2 := hy _ _ _ _ g3
    have e3 : mv = m' := congrArg Prod.snd h1
    rw [← e3, e2, e]
  | false =>
    have e3 : mb = m' := congrArg Prod.snd (Option.some.inj q2)
    rw [← e3, e]
section
variable {P : Pl} {tg iter tg1 iter1 elt : Expr} {ifs ifs1 : List Expr} {pos p : Pos} {fb fb1 : Bool} {it it2 : CL} {G G2 : CG} {c c2 : CB} {y : CE} {js js2 : List Nat} {scope : Scope}
theorem so_lc2 (own : List (Str × Nat)) (own2 : List Nat) (hi : SoI P fb tg iter it) (hg : SoG (P.blk scope) (fnB scope) js tg G) (hc : SoTs (P.blk scope) ifs c) (hi2 : SoI (P.blk scope) fb1 tg1 iter1 it2) (hg2 : SoG (P.blk scope) (fnB scope) js2 tg1 G2) (hc2 : SoTs (P.blk scope) ifs1 c2) (hy : SoE (P.blk scope) elt y)
    (k1 : CalmB c) (k2 : CalmL it2) (k3 : CalmB c2) (k4 : Calm y)
    (hjs : ∀ j ∈ js, j ∈ slotsOf own := by decide) (hjs2 : ∀ j ∈ js2, j ∈ own2 := by decide) (hv : ∀ j ∈ own2, j ∈ slotsOf own := by decide) (ok : blkC P.N P.sc scope own = true := by (dsimp only [Pl.blk]; decide +kernel)) (hs : ∀ env x, foldedSetIterable iter env x = pure x := by intro _ _; rfl) (hs1 : ∀ env x, foldedSetIterable iter1 env x = pure x := by intro _ _; rfl) :
    SoF P (.ListComp elt [⟨tg, iter, ifs, 0⟩, ⟨tg1, iter1, ifs1, 0⟩] scope pos) (cLc2 it (slotsOf own) G c it2 own2 G2 c2 y) := fun X C sl mu d mu' q => by
  unfold cLc2 at q
  obtain ⟨⟨ds, m⟩, h1, q⟩ := Option.bind_eq_some_iff.mp q
  obtain ⟨vs, h2, q⟩ := Option.bind_eq_some_iff.mp q
  dsimp only at q h2
  split at q
  · rename_i hlen
    have q1 : vs = d ∧ m = mu' := by simpa using q
    obtain ⟨q1, q2⟩ := q1
    subst q1 q2
    obtain ⟨ha, ev⟩ := lc2_all h2
    let S1 : D → Sls := fun d => (G (wipeL sl (slotsOf own)) d).getD []
    let CN : D → Bool := fun d => ((c (S1 d) m).map (·.1)).getD false
    let YS : D → List D := fun d => if CN d = true then ((it2 (S1 d) m).map (·.1)).getD [] else []
    let S2 : D → D → Sls := fun d e => (G2 (wipeL (S1 d) own2) e).getD []
    let CN1 : D → D → Bool := fun d e => ((c2 (S2 d e) m).map (·.1)).getD false
    let GG : D → D → D := fun d e => ((y (S2 d e) m).map (·.1)).getD .none
    have f1 : ∀ d ∈ ds, G (wipeL sl (slotsOf own)) d = some (S1 d) ∧ c (S1 d) m = some (CN d, m) ∧ (CN d = true → it2 (S1 d) m = some (YS d, m) ∧ ∀ e ∈ YS d, G2 (wipeL (S1 d) own2) e = some (S2 d e) ∧ c2 (S2 d e) m = some (CN1 d e, m) ∧ (CN1 d e = true → y (S2 d e) m = some (GG d e, m))) ∧ (lc2Body sl (slotsOf own) G c it2 own2 G2 c2 y m d).getD [] = fl2 CN YS CN1 GG d := by
      intro d hd
      obtain ⟨x, hx⟩ := ha d hd
      have hx0 := hx
      unfold lc2Body at hx
      obtain ⟨sl1, g1, hx⟩ := Option.bind_eq_some_iff.mp hx
      obtain ⟨⟨b, mb⟩, g2, hx⟩ := Option.bind_eq_some_iff.mp hx
      have em := k1 _ _ _ _ g2
      rw [em] at g2
      have e1 : S1 d = sl1 := by show (G _ d).getD [] = _; rw [g1]; rfl
      have e2 : CN d = b := by show ((c (S1 d) m).map (·.1)).getD false = _; rw [e1, g2]; rfl
      dsimp only at hx
      refine ⟨by rw [e1]; exact g1, by rw [e1, e2]; exact g2, ?_⟩
      cases b with
      | false =>
        rw [cond_false] at hx
        cases hx
        refine ⟨fun z => (by rw [e2] at z; cases z), ?_⟩
        rw [hx0]
        unfold fl2
        rw [e2]
        rfl
      | true =>
        rw [cond_true] at hx
        unfold lc2In at hx
        obtain ⟨⟨r, mr⟩, g3, hx⟩ := Option.map_eq_some_iff.mp hx
        obtain ⟨⟨ys, my⟩, g4, g5⟩ := Option.bind_eq_some_iff.mp g3
        have em := k2 _ _ _ _ g4
        rw [em] at g4 g5
        have e3 : YS d = ys := by show (if CN d = true then ((it2 (S1 d) m).map (·.1)).getD [] else []) = _; rw [e2, if_pos rfl, e1, g4]; rfl
        obtain ⟨e4, g6, g7⟩ := lcRun_pure (lcBody_calm k3 k4) g5
        have f2 : ∀ e ∈ YS d, G2 (wipeL (S1 d) own2) e = some (S2 d e) ∧ c2 (S2 d e) m = some (CN1 d e, m) ∧ (CN1 d e = true → y (S2 d e) m = some (GG d e, m)) ∧ ((lcBody sl1 own2 G2 c2 y e m).map (·.1)).join = if CN1 d e = true then some (GG d e) else none := by
          intro e he
          rw [e3] at he
          obtain ⟨z, hz⟩ := g6 e he
          have hz0 := hz
          unfold lcBody at hz
          obtain ⟨sl2, w1, hz⟩ := Option.bind_eq_some_iff.mp hz
          obtain ⟨⟨b2, mb2⟩, w2, hz⟩ := Option.bind_eq_some_iff.mp hz
          have em := k3 _ _ _ _ w2
          rw [em] at w2
          have e5 : S2 d e = sl2 := by show (G2 (wipeL (S1 d) own2) e).getD [] = _; rw [e1, w1]; rfl
          have e6 : CN1 d e = b2 := by show ((c2 (S2 d e) m).map (·.1)).getD false = _; rw [e5, w2]; rfl
          dsimp only at hz
          refine ⟨by rw [e1, e5]; exact w1, by rw [e5, e6]; exact w2, ?_⟩
          cases b2 with
          | false =>
            rw [cond_false] at hz
            cases hz
            refine ⟨fun q => (by rw [e6] at q; cases q), ?_⟩
            rw [hz0, e6]
            rfl
          | true =>
            rw [cond_true] at hz
            obtain ⟨⟨v, mv⟩, w3, hz⟩ := Option.map_eq_some_iff.mp hz
            rw [em] at w3
            have em2 := k4 _ _ _ _ w3
            rw [em2] at w3
            have e7 : GG d e = v := by show ((y (S2 d e) m).map (·.1)).getD .none = _; rw [e5, w3]; rfl
            have ez : some v = z := congrArg Prod.fst hz
            subst ez
            refine ⟨fun _ => (by rw [e5, e7]; exact w3), ?_⟩
            rw [hz0, e6, e7]
            rfl
        refine ⟨fun _ => ⟨(by rw [e1, e3]; exact g4), fun e he => ⟨(f2 e he).1, (f2 e he).2.1, (f2 e he).2.2.1⟩⟩, ?_⟩
        rw [hx0]
        have ex : x = r := hx.symm
        unfold fl2
        rw [e2, if_pos rfl, ex]
        show r = _
        dsimp only at g7
        rw [g7, e3]
        have key : ∀ l : List D, (∀ e ∈ l, e ∈ YS d) → (l.filterMap fun e => ((lcBody sl1 own2 G2 c2 y e m).map (·.1)).join) = (l.filter (CN1 d)).map (GG d) := by
          intro l
          induction l with
          | nil => intro _; rfl
          | cons e l ih =>
            intro hl
            rw [List.filterMap_cons, (f2 e (hl e List.mem_cons_self)).2.2.2, List.filter_cons]
            cases hb : CN1 d e with
            | true => rw [if_pos rfl, if_pos rfl, List.map_cons, ih fun z hz => hl z (List.mem_cons_of_mem _ hz)]
            | false => rw [if_neg (by decide), if_neg (by decide), ih fun z hz => hl z (List.mem_cons_of_mem _ hz)]
        exact key ys fun e he => by rw [e3]; exact he
    have ev2 : vs = ds.flatMap (fl2 CN YS CN1 GG) := by
      rw [ev]
      have key : ∀ l : List D, (∀ d ∈ l, d ∈ ds) → (l.flatMap fun d => (lc2Body sl (slotsOf own) G c it2 own2 G2 c2 y m d).getD []) = l.flatMap (fl2 CN YS CN1 GG) := by
        intro l
        induction l with
        | nil => intro _; rfl
        | cons e l ih => intro hl; rw [List.flatMap_cons, List.flatMap_cons, (f1 e (hl e List.mem_cons_self)).2.2.2, ih fun z hz => hl z (List.mem_cons_of_mem _ hz)]
      exact key ds fun _ h => h
    rw [ev2]
    refine XF.to (xf_lc2 (fb1 := fb1) (own := own) (vs1 := own2) (xs := ds) (f := fun d => d) (cn := CN) (ys := YS) (f1 := fun _ e => e) (cn1 := CN1) (g := GG) (Γt := fun d => ⟨S1 d, m⟩) (Γs := fun d e => ⟨S2 d e, m⟩) C.c (by rw [List.map_id']; exact hi X C _ _ _ _ h1) ok hv (fun X' B x hx => ?_) (fun _ => rfl) (fun _ _ => rfl) ?_ (hs _) hs1) rfl
    · have CB := C.blk B
      obtain ⟨w1, w2, w3, _⟩ := f1 x hx
      refine ⟨XG.sub (hg X' CB B.fn _ m _ _ w1) hjs, hc X' CB _ _ _ _ w2, fun z => ?_, fun e he => ?_⟩
      · rw [List.map_id']; exact hi2 X' CB _ _ _ _ (w3 z).1
      · have hcn : CN x = true := by
          cases hb : CN x with
          | true => rfl
          | false =>
            have he' : e ∈ (if CN x = true then ((it2 (S1 x) m).map (·.1)).getD [] else []) := he
            rw [hb, if_neg (by decide)] at he'
            cases he'
        obtain ⟨v1, v2, v3⟩ := (w3 hcn).2 e he
        exact ⟨XG.sub (hg2 X' CB B.fn _ m _ _ v1) hjs2, hc2 X' CB _ _ _ _ v2, fun z => hy X' CB _ _ _ _ (v3 z)⟩
    · rw [← ev2]; exact hlen
  · cases q
end
end Y
set_option Elab.async false
set_option linter.all false
set_option maxRecDepth 100000
set_option maxHeartbeats 400000
namespace Y
open PySem PySem.Spec PyProof.Rows L2
theorem sw_psY {ts : List Expr} {v : Expr} {env : Env} {sc : Scope} {r : PySem.Sem (Option (List Str))} (h : env.scope = sc) (e : swappedStores ts v { env with scope := sc } = r) : swappedStores ts v env = r := by subst h; exact e
def pubSls (sl : Sls) : Sls := sl.map pubS
def scalB : D → Bool
  | .none => true
  | .bool _ => true
  | .int _ => true
  | .str _ => true
  | _ => false
theorem scalB_ok {d : D} (h : scalB d = true) : Scal d := by
  cases d <;> simp only [scalB, Bool.false_eq_true] at h
  · exact .non
  · exact .bl _
  · exact .int _
  · exact .str _
def KeepC (f : Sls → Mu → Option (α × Mu)) : Prop := ∀ sl mu d mu', f sl mu = some (d, mu') → cOf mu' = cOf mu
def cScal (f : CE) : CE := fun sl mu => (f (pubSls sl) mu).bind fun x => if scalB x.1 = true then some x else none
def cScalB (f : CB) : CB := fun sl mu => f (pubSls sl) mu
section
variable {P : Pl} {e : Expr} {f : CE} {u : CB}
theorem so_scal (h : SoE P e f) (hc : KeepC f) : SoE P e (cScal f) := fun X C sl mu d mu' q => by
  unfold cScal at q
  obtain ⟨⟨x, m⟩, h1, q⟩ := Option.bind_eq_some_iff.mp q
  dsimp only at q
  split at q
  · cases q
    exact xe_scal (Γ := ⟨sl, mu⟩) (h X C _ _ _ _ h1) (scalB_ok (by assumption)) (hc _ _ _ _ h1)
  · cases q
theorem so_scalB (h : SoB P e u) (hc : KeepC u) : SoB P e (cScalB u) := fun X C sl mu d mu' q => xb_scal (Γ := ⟨sl, mu⟩) (h X C _ _ _ _ q) (hc _ _ _ _ q)
theorem keep_calm {α : Type} {f : Sls → Mu → Option (α × Mu)} (h : ∀ sl mu d mu', f sl mu = some (d, mu') → mu' = mu) : KeepC f := fun sl mu d mu' q => by rw [h _ _ _ _ q]
end
inductive SO where
  | nx (Γ : En)
  | rt (d : D) (mu : Mu)
  | ex (x : Xc) (mu : Mu)
  | bk (Γ : En)
  | ct (Γ : En)
def poO : SO → Po
  | .nx Γ => { nx := fun Γ' => Γ' = Γ }
  | .rt d mu => { rt := fun Γ' d' => Γ'.mu = mu ∧ d' = d }
  | .ex x mu => { xc := fun Γ' x' => Γ'.mu = mu ∧ x' = x }
  | .bk Γ => { bk := fun Γ' => Γ' = Γ }
  | .ct Γ => { ct := fun Γ' => Γ' = Γ }
abbrev CS := En → Option SO
structure FCtx (P : Pl) (X : Cx) (E : WX) : Prop where
  c : FCx P.R P.k X P.N P.sc E
  gd : P.g = true → X.A.guards = some []
theorem FCtx.x {P : Pl} {X : Cx} {E : WX} (C : FCtx P X E) : Ctx P X := ⟨C.c.toCxIs, C.gd⟩
def SoS (P : Pl) (st : Stmt) (f : CS) : Prop := ∀ X E, FCtx P X E → ∀ Γ o, f Γ = some o → ST X E Γ st (poO o)
def SoK (P : Pl) (ss : List Stmt) (f : CS) : Prop := ∀ X E, FCtx P X E → ∀ Γ o, f Γ = some o → BS X E Γ ss (poO o)
def bNil : CS := fun Γ => some (.nx Γ)
def bCons (s b : CS) : CS := fun Γ => (s Γ).bind fun o => match o with
  | .nx Γ' => b Γ'
  | o => some o
section
variable {P : Pl} {a b c e tg iter : Expr} {es : List Expr} {st : Stmt} {ss sa sb rest body : List Stmt} {pos p npos apos spos cpos : Pos} {f h : CE} {fl : CL} {u : CB} {s t w : CS}
theorem sk_nil : SoK P [] bNil := fun X E C Γ o q => by cases q; exact bs_nil rfl
theorem sk_one (hs : SoS P st s) : SoK P [st] s := fun X E C Γ o q => bs_one (hs X E C Γ o q)
theorem sk_cons (hs : SoS P st s) (hr : SoK P rest t) : SoK P (st :: rest) (bCons s t) := fun X E C Γ o q => by
  unfold bCons at q
  obtain ⟨o1, h1, q⟩ := Option.bind_eq_some_iff.mp q
  have h2 := hs X E C Γ o1 h1
  cases o1 with
  | nx Γ' => exact bs_then (Γ1 := Γ') (PS.imp h2 fun D σ H ⟨π, en, kb⟩ => ⟨π, en, kb.nx, fun _ _ _ _ _ _ z => z.elim, fun _ _ _ _ _ _ _ z => z.elim, fun _ _ _ _ z => z.elim, fun _ _ _ _ z => z.elim⟩) (hr X E C Γ' o q)
  | rt d mu => cases q; exact bs_last h2
  | ex x mu => cases q; exact bs_last h2
  | bk Γ' => cases q; exact bs_last h2
  | ct Γ' => cases q; exact bs_last h2
def bPub (i : Nat) (b : CS) : CS := fun Γ => match Γ.sl[i]? with
  | some (some (.lst ds)) => b ⟨Γ.sl.set i (some (.st (.list ds))), Γ.mu⟩
  | _ => b Γ
theorem sk_pub (i : Nat) (h : SoK P ss t) : SoK P ss (bPub i t) := fun X E C Γ o q => by
  unfold bPub at q
  split at q
  · exact bs_pub i (by assumption) (h X E C _ o q)
  · exact h X E C _ o q
def sNo : CS := fun _ => none
theorem ss_no : SoS P st sNo := fun X E C Γ o q => by cases q
def sRet (f : CE) : CS := fun Γ => (f Γ.sl Γ.mu).map fun x => .rt x.1 x.2
theorem ss_ret (h : SoE P e f) : SoS P (.Return (some e) pos) (sRet f) := fun X E C Γ o q => by
  unfold sRet at q
  obtain ⟨⟨x, m⟩, h1, q⟩ := Option.map_eq_some_iff.mp q
  cases q
  exact st_ret (h X C.x _ _ _ _ h1) ⟨rfl, rfl⟩
def sPass : CS := fun Γ => some (.nx Γ)
theorem ss_pass : SoS P (.Pass pos) sPass := fun X E C Γ o q => by cases q; exact st_pass rfl
theorem ss_brk : SoS P (.Break pos) (fun Γ => some (.bk Γ)) := fun X E C Γ o q => by cases q; exact st_brk rfl
theorem ss_cont : SoS P (.Continue pos) (fun Γ => some (.ct Γ)) := fun X E C Γ o q => by cases q; exact st_ct rfl
def sExpr (f : CE) : CS := fun Γ => (f Γ.sl Γ.mu).map fun x => .nx ⟨Γ.sl, x.2⟩
theorem ss_expr (h : SoE P e f) (hs : ∀ env, swapsWith e none pos.line env = pure false := by intro _; rfl) : SoS P (.Expr e pos) (sExpr f) := fun X E C Γ o q => by
  unfold sExpr at q
  obtain ⟨⟨x, m⟩, h1, q⟩ := Option.map_eq_some_iff.mp q
  cases q
  exact st_expr (h X C.x _ _ _ _ h1) rfl (hs _)
def sSet (i : Nat) (f : CE) : CS := fun Γ => (f Γ.sl Γ.mu).map fun x => .nx ⟨Γ.sl.set i (some (.st x.1)), x.2⟩
theorem ss_set (i : Nat) {x : Str} (h : SoE P e f) (hN : P.N[i]? = some x) (hx : Loc P.sc x := by first | exact .inl rfl | exact .inr rfl) (hs : ∀ env, swapsWith e (some (.Name x p)) pos.line env = pure false := by intro _; rfl) : SoS P (.Assign [.Name x p] e pos) (sSet i f) := fun X E C Γ o q => by
  unfold sSet at q
  obtain ⟨⟨x, m⟩, h1, q⟩ := Option.map_eq_some_iff.mp q
  cases q
  exact sf_set C.c i (h X C.x _ _ _ _ h1) hN rfl hx (hs _)
def sOwn (i : Nat) (f : CL) : CS := fun Γ => (f Γ.sl Γ.mu).map fun x => .nx ⟨Γ.sl.set i (some (.lst x.1)), x.2⟩
theorem ss_own (i : Nat) {x : Str} (h : SoF P e fl) (hN : P.N[i]? = some x) (hx : Loc P.sc x := by first | exact .inl rfl | exact .inr rfl) (hs : ∀ env, swapsWith e (some (.Name x p)) pos.line env = pure false := by intro _; rfl) : SoS P (.Assign [.Name x p] e pos) (sOwn i fl) := fun X E C Γ o q => by
  unfold sOwn at q
  obtain ⟨⟨x, m⟩, h1, q⟩ := Option.map_eq_some_iff.mp q
  cases q
  exact sf_own C.c i (h X C.x _ _ _ _ h1) hN rfl hx (hs _)
theorem ss_setC (i : Nat) {x : Str} {elt : Expr} {gs : List Comprehension} {scope : Scope} (h : SoE P (.ListComp elt gs scope cpos) f) (hN : P.N[i]? = some x) (hx : P.sc.names.lookup x = some .cell := by rfl) : SoS P (.Assign [.Name x p] (.ListComp elt gs scope cpos) pos) (sSet i f) := fun X E C Γ o q => by
  unfold sSet at q
  obtain ⟨⟨x, m⟩, h1, q⟩ := Option.map_eq_some_iff.mp q
  cases q
  exact sc_set C.c i (h X C.x _ _ _ _ h1) hN rfl hx
theorem ss_ownC (i : Nat) {x : Str} {elt : Expr} {gs : List Comprehension} {scope : Scope} (h : SoF P (.ListComp elt gs scope cpos) fl) (hN : P.N[i]? = some x) (hx : P.sc.names.lookup x = some .cell := by rfl) : SoS P (.Assign [.Name x p] (.ListComp elt gs scope cpos) pos) (sOwn i fl) := fun X E C Γ o q => by
  unfold sOwn at q
  obtain ⟨⟨x, m⟩, h1, q⟩ := Option.map_eq_some_iff.mp q
  cases q
  exact sc_own C.c i (h X C.x _ _ _ _ h1) hN rfl hx
theorem lc_setL {tg iter elt : Expr} {ifs : List Expr} {fb : Bool} {it : CL} {G : CG} {cc : CB} {y : CE} {js : List Nat} {scope : Scope} {x : Str} (i : Nat) (own : List (Str × Nat)) (hi : SoI P fb tg iter it) (hg : SoG (P.blk scope) (fnB scope) js tg G) (hc : SoTs (P.blk scope) ifs cc) (hy : SoE (P.blk scope) elt y) (hN : P.N[i]? = some x) (hx : P.sc.names.lookup x = some .local) (hk : P.sc.kind = .function) (hl : (p.line == cpos.line) = true)
    (hany : (scope.names.any fun (n, k) => n == x && (k == .local || k == .cell)) = false) (hjs : ∀ j ∈ js, j ∈ slotsOf own) (ok : blkC P.N P.sc scope own = true) (hs : ∀ env x, foldedSetIterable iter env x = pure x) {X : Cx} (C : Ctx P X) {sl : Sls} {mu mu' : Mu} {vs : List D} (q : cLc it (slotsOf own) G cc y sl mu = some (vs, mu')) :
    PS X (.Assign [.Name x p] (.ListComp elt [⟨tg, iter, ifs, 0⟩] scope cpos) spos) (fun D σ H => ∃ π, EnOk X.K ⟨sl, mu⟩ π H σ ∧ KxF X.K ⟨sl, mu'⟩ vs π H σ (fun v H' => D.nx (σ.set i (some v)) H')) := by
  unfold cLc at q
  obtain ⟨⟨ds, m⟩, h1, q⟩ := Option.bind_eq_some_iff.mp q
  obtain ⟨mus, m1, sls, b, yv, e0, e1, e2, h, h5⟩ := lc_prep hg hjs hc hy C q
  subst e2
  rw [← e1]
  have h0 := hi X C _ _ _ _ h1
  dsimp only at e0
  rw [← e0] at h0
  exact xs_lcG (Γ1 := ⟨sl, m⟩) (mus := mus) (b := b) (y := yv) (Γt := fun j => ⟨sls j, mus j⟩) (Γu := fun j => ⟨sls j, m1 j⟩) (Γv := fun j => ⟨sls j, mus (j + 1)⟩) C.c i hN hx hk hl hany h0 ok (fun X' B j d hd => h X' B j d hd) (fun _ _ _ => rfl) (fun j hj hb => h5 j hj hb) (hs _)
theorem ss_setL {tg iter elt : Expr} {ifs : List Expr} {fb : Bool} {it : CL} {G : CG} {cc : CB} {y : CE} {js : List Nat} {scope : Scope} {x : Str} (i : Nat) (own : List (Str × Nat)) (hi : SoI P fb tg iter it) (hg : SoG (P.blk scope) (fnB scope) js tg G) (hc : SoTs (P.blk scope) ifs cc) (hy : SoE (P.blk scope) elt y) (hN : P.N[i]? = some x) (hx : P.sc.names.lookup x = some .local := by rfl) (hk : P.sc.kind = .function := by rfl) (hl : (p.line == cpos.line) = true := by rfl)
    (hany : (scope.names.any fun (n, k) => n == x && (k == .local || k == .cell)) = false := by decide +kernel) (hjs : ∀ j ∈ js, j ∈ slotsOf own := by decide) (ok : blkC P.N P.sc scope own = true := by (dsimp only [Pl.blk]; decide +kernel)) (hs : ∀ env x, foldedSetIterable iter env x = pure x := by intro _ _; rfl) : SoS P (.Assign [.Name x p] (.ListComp elt [⟨tg, iter, ifs, 0⟩] scope cpos) spos) (sSet i (cL (cLc it (slotsOf own) G cc y))) := fun X E C Γ o q => by
  unfold sSet cL at q
  obtain ⟨⟨x, m⟩, h1, q⟩ := Option.map_eq_some_iff.mp q
  obtain ⟨⟨vs, m2⟩, h2, h1⟩ := Option.map_eq_some_iff.mp h1
  cases h1
  cases q
  exact st_ofS (i := i) (lc_setL i own hi hg hc hy hN hx hk hl hany hjs ok hs C.x h2) rfl rfl
theorem ss_ownL {tg iter elt : Expr} {ifs : List Expr} {fb : Bool} {it : CL} {G : CG} {cc : CB} {y : CE} {js : List Nat} {scope : Scope} {x : Str} (i : Nat) (own : List (Str × Nat)) (hi : SoI P fb tg iter it) (hg : SoG (P.blk scope) (fnB scope) js tg G) (hc : SoTs (P.blk scope) ifs cc) (hy : SoE (P.blk scope) elt y) (hN : P.N[i]? = some x) (hx : P.sc.names.lookup x = some .local := by rfl) (hk : P.sc.kind = .function := by rfl) (hl : (p.line == cpos.line) = true := by rfl)
    (hany : (scope.names.any fun (n, k) => n == x && (k == .local || k == .cell)) = false := by decide +kernel) (hjs : ∀ j ∈ js, j ∈ slotsOf own := by decide) (ok : blkC P.N P.sc scope own = true := by (dsimp only [Pl.blk]; decide +kernel)) (hs : ∀ env x, foldedSetIterable iter env x = pure x := by intro _ _; rfl) : SoS P (.Assign [.Name x p] (.ListComp elt [⟨tg, iter, ifs, 0⟩] scope cpos) spos) (sOwn i (cLc it (slotsOf own) G cc y)) := fun X E C Γ o q => by
  unfold sOwn at q
  obtain ⟨⟨vs, m⟩, h1, q⟩ := Option.map_eq_some_iff.mp q
  cases q
  exact st_ofO (i := i) (lc_setL i own hi hg hc hy hN hx hk hl hany hjs ok hs C.x h1) rfl rfl
def sAsg (G : CG) (f : CE) : CS := fun Γ => (f Γ.sl Γ.mu).bind fun x => (G Γ.sl x.1).map fun sl => .nx ⟨sl, x.2⟩
theorem ss_asg {js : List Nat} {G : CG} (h : SoE P e f) (hg : SoG P fnT js tg G) (hs : ∀ env, swapsWithSole [tg] e pos.line env = pure false := by intro _; rfl) (hw : ∀ env : Env, env.scope = P.sc → swappedStores [tg] e env = pure none := by intro env h; first | rfl | exact sw_psY h rfl) (h1 : ∀ env, (assignEach [tg] env).map (·.2) = [assign tg env] := by intro _; rfl) : SoS P (.Assign [tg] e pos) (sAsg G f) := fun X E C Γ o q => by
  unfold sAsg at q
  obtain ⟨⟨x, m⟩, g1, q⟩ := Option.bind_eq_some_iff.mp q
  obtain ⟨sl, g2, q⟩ := Option.map_eq_some_iff.mp q
  cases q
  exact st_asg (h X C.x _ _ _ _ g1) (hg X C.x C.c.fn _ _ _ _ g2) rfl (hs _) (hw _ C.c.sc) (h1 _)
def sIf (c : CB) (s t : CS) : CS := fun Γ => (c Γ.sl Γ.mu).bind fun x => cond x.1 (s ⟨Γ.sl, x.2⟩) (t ⟨Γ.sl, x.2⟩)
theorem ss_if (hc : SoB P c u) (ha : SoK P sa s) (hb : SoK P sb t) : SoS P (.If c sa sb pos) (sIf u s t) := fun X E C Γ o q => by
  unfold sIf at q
  obtain ⟨⟨x, m⟩, h1, q⟩ := Option.bind_eq_some_iff.mp q
  refine st_if (hc X C.x _ _ _ _ h1).t (fun z => ?_) (fun z => ?_)
  · subst z; exact ha X E C _ _ (by simpa using q)
  · subst z; exact hb X E C _ _ (by simpa using q)
def lstAt (sl : Sls) (i : Nat) : Option (List D) := match sl[i]? with
  | some (some (.lst ds)) => some ds
  | _ => none
theorem lstAt_ok {sl : Sls} {i : Nat} {ds : List D} (h : lstAt sl i = some ds) : sl[i]? = some (some (.lst ds)) := by
  unfold lstAt at h
  split at h
  · cases h; assumption
  · cases h
def sApp (i : Nat) (f : CE) : CS := fun Γ => (lstAt Γ.sl i).bind fun ds => (f Γ.sl Γ.mu).bind fun x => if ds.length < 100000 then some (.nx ⟨Γ.sl.set i (some (.lst (ds ++ [x.1]))), x.2⟩) else none
theorem ss_app (i : Nat) {x : Str} (h : SoE P e f) (hN : P.N[i]? = some x) (hv : Vis P.sc x := by first | exact .inl rfl | exact .inr (.inl rfl) | exact .inr (.inr rfl)) (hs : NoStar e := by exact fun _ _ => rfl) (hd : (x == ("__debug__" : Str)) = false := by decide) (hcd : (x == ("__classdict__" : Str)) = false := by decide)
    (hsw : ∀ env, swapsWith (.Call (.Attribute (.Name x npos) "append" apos) [e] [] p) none pos.line env = pure false := by intro _; rfl) (hbase : ∀ env, attributeBase (.Name x npos) "append" env (eval (.Name x npos) env) = eval (.Name x npos) env := by intro _; rfl)
    (hfew : ∀ env, ((backTo p (starEach [e] env)).all (fun x => !x.1) && (backToKw p (keywordEach [] env)).all (fun x => x.1.isSome) && decide (([e] : List Expr).length + ([] : List Keyword).length + (if ([] : List Keyword).isEmpty then 0 else 1) < 30)) = true := by intro _; rfl)
    (hline : (apos.endLine == p.line) = true := by rfl) : SoS P (.Expr (.Call (.Attribute (.Name x npos) "append" apos) [e] [] p) pos) (sApp i f) := fun X E C Γ o q => by
  unfold sApp at q
  obtain ⟨ds, h1, q⟩ := Option.bind_eq_some_iff.mp q
  obtain ⟨⟨y, m⟩, h2, q⟩ := Option.bind_eq_some_iff.mp q
  dsimp only at q
  split at q
  · cases q
    exact st_append C.c.toCxIs i (lstAt_ok h1) (Γ1 := ⟨Γ.sl, m⟩) (lstAt_ok h1) hN hv (h X C.x _ _ _ _ h2) (by assumption) rfl hd hcd (hs _ _) (hsw _) (hbase _) (hfew _) hline
  · cases q
def sExt (i : Nat) (f : CE) : CS := fun Γ => (lstAt Γ.sl i).bind fun ds => (f Γ.sl Γ.mu).bind fun x => match x.1 with
  | .list es => if ds.length + es.length ≤ 100000 then some (.nx ⟨Γ.sl.set i (some (.lst (ds ++ es))), x.2⟩) else none
  | _ => none
theorem ss_ext (i : Nat) {x : Str} (h : SoE P e f) (hN : P.N[i]? = some x) (hv : Vis P.sc x := by first | exact .inl rfl | exact .inr (.inl rfl) | exact .inr (.inr rfl)) (hs : NoStar e := by exact fun _ _ => rfl) (hd : (x == ("__debug__" : Str)) = false := by decide) (hcd : (x == ("__classdict__" : Str)) = false := by decide)
    (hsw : ∀ env, swapsWith (.Call (.Attribute (.Name x npos) "extend" apos) [e] [] p) none pos.line env = pure false := by intro _; rfl) (hbase : ∀ env, attributeBase (.Name x npos) "extend" env (eval (.Name x npos) env) = eval (.Name x npos) env := by intro _; rfl)
    (hfew : ∀ env, ((backTo p (starEach [e] env)).all (fun x => !x.1) && (backToKw p (keywordEach [] env)).all (fun x => x.1.isSome) && decide (([e] : List Expr).length + ([] : List Keyword).length + (if ([] : List Keyword).isEmpty then 0 else 1) < 30)) = true := by intro _; rfl)
    (hline : (apos.endLine == p.line) = true := by rfl) : SoS P (.Expr (.Call (.Attribute (.Name x npos) "extend" apos) [e] [] p) pos) (sExt i f) := fun X E C Γ o q => by
  unfold sExt at q
  obtain ⟨ds, h1, q⟩ := Option.bind_eq_some_iff.mp q
  obtain ⟨⟨y, m⟩, h2, q⟩ := Option.bind_eq_some_iff.mp q
  dsimp only at q
  split at q
  · split at q
    · cases q
      exact st_extend C.c.toCxIs i (lstAt_ok h1) (Γ1 := ⟨Γ.sl, m⟩) (lstAt_ok h1) hN hv (h X C.x _ _ _ _ h2) (by assumption) rfl hd hcd (hs _ _) (hsw _) (hbase _) (hfew _) hline
    · cases q
  · cases q
end
end Y
set_option Elab.async false
set_option linter.all false
set_option maxRecDepth 100000
set_option maxHeartbeats 400000
namespace Y
open PySem PySem.Spec PyProof.Rows L2
section
variable {P : Pl} {a b c e tg iter : Expr} {es : List Expr} {st : Stmt} {ss sa sb rest body : List Stmt} {pos p npos apos spos cpos px py pt pt2 p1 : Pos} {f h : CE} {fl fl2 : CL} {u : CB} {s t w : CS}
def sParEE (i j : Nat) (f h : CE) : CS := fun Γ => (f Γ.sl Γ.mu).bind fun x => (h Γ.sl x.2).map fun y => .nx ⟨(Γ.sl.set i (some (.st x.1))).set j (some (.st y.1)), y.2⟩
theorem ss_parEE {x y : Str} {kt k2 : Nat} (i j : Nat) (ha : SoE P a f) (hb : SoE P b h) (hi : P.N[i]? = some x) (hj : P.N[j]? = some y) (hij : i ≠ j := by decide) (hx : P.sc.names.lookup x = some .local := by rfl) (hy : P.sc.names.lookup y = some .local := by rfl)
    (hw : ∀ env : Env, env.scope = P.sc → swappedStores [.Tuple [.Name x px, .Name y py] kt pt] (.Tuple [a, b] k2 pt2) env = pure (some [x, y]) := by intro env h; exact sw_psY h rfl) (hs : ∀ env, swapsWithSole [.Tuple [.Name x px, .Name y py] kt pt] (.Tuple [a, b] k2 pt2) pos.line env = pure false := by intro _; rfl)
    (h1 : NoStar a := by exact fun _ _ => rfl) (h2 : NoStar b := by exact fun _ _ => rfl) : SoS P (.Assign [.Tuple [.Name x px, .Name y py] kt pt] (.Tuple [a, b] k2 pt2) pos) (sParEE i j f h) := fun X E C Γ o q => by
  unfold sParEE at q
  obtain ⟨⟨u, m⟩, g1, q⟩ := Option.bind_eq_some_iff.mp q
  obtain ⟨⟨v, m2⟩, g2, q⟩ := Option.map_eq_some_iff.mp q
  cases q
  exact st_parEE C.c.toCxIs (ha X C.x _ _ _ _ g1) (hb X C.x _ _ _ _ g2) hi hj hij hx hy rfl (hw _ C.c.sc) (hs _) (h1 _ _) (h2 _ _)
def sParEF (i j : Nat) (f : CE) (h : CL) : CS := fun Γ => (f Γ.sl Γ.mu).bind fun x => (h Γ.sl x.2).map fun y => .nx ⟨(Γ.sl.set i (some (.st x.1))).set j (some (.lst y.1)), y.2⟩
theorem ss_parEF {x y : Str} {kt k2 : Nat} (i j : Nat) (ha : SoE P a f) (hb : SoF P b fl) (hi : P.N[i]? = some x) (hj : P.N[j]? = some y) (hij : i ≠ j := by decide) (hx : P.sc.names.lookup x = some .local := by rfl) (hy : P.sc.names.lookup y = some .local := by rfl)
    (hw : ∀ env : Env, env.scope = P.sc → swappedStores [.Tuple [.Name x px, .Name y py] kt pt] (.Tuple [a, b] k2 pt2) env = pure (some [x, y]) := by intro env h; exact sw_psY h rfl) (hs : ∀ env, swapsWithSole [.Tuple [.Name x px, .Name y py] kt pt] (.Tuple [a, b] k2 pt2) pos.line env = pure false := by intro _; rfl)
    (h1 : NoStar a := by exact fun _ _ => rfl) (h2 : NoStar b := by exact fun _ _ => rfl) : SoS P (.Assign [.Tuple [.Name x px, .Name y py] kt pt] (.Tuple [a, b] k2 pt2) pos) (sParEF i j f fl) := fun X E C Γ o q => by
  unfold sParEF at q
  obtain ⟨⟨u, m⟩, g1, q⟩ := Option.bind_eq_some_iff.mp q
  obtain ⟨⟨v, m2⟩, g2, q⟩ := Option.map_eq_some_iff.mp q
  cases q
  exact st_parEF C.c.toCxIs (ha X C.x _ _ _ _ g1) (hb X C.x _ _ _ _ g2) hi hj hij hx hy rfl (hw _ C.c.sc) (hs _) (h1 _ _) (h2 _ _)
theorem ss_parEFc {x y : Str} {kt k2 : Nat} (i j : Nat) (ha : SoE P a f) (hb : SoF P b fl) (hi : P.N[i]? = some x) (hj : P.N[j]? = some y) (hij : i ≠ j := by decide) (hx : Loc P.sc x := by first | exact .inl rfl | exact .inr rfl) (hy : Loc P.sc y := by first | exact .inl rfl | exact .inr rfl)
    (hw : ∀ env : Env, env.scope = P.sc → swappedStores [.Tuple [.Name x px, .Name y py] kt pt] (.Tuple [a, b] k2 pt2) env = pure none := by intro env h; exact sw_psY h rfl) (hs : ∀ env, swapsWithSole [.Tuple [.Name x px, .Name y py] kt pt] (.Tuple [a, b] k2 pt2) pos.line env = pure false := by intro _; rfl)
    (h1 : NoStar a := by exact fun _ _ => rfl) (h2 : NoStar b := by exact fun _ _ => rfl) : SoS P (.Assign [.Tuple [.Name x px, .Name y py] kt pt] (.Tuple [a, b] k2 pt2) pos) (sParEF i j f fl) := fun X E CC Γ o q => by
  unfold sParEF at q
  obtain ⟨⟨u, m⟩, g1, q⟩ := Option.bind_eq_some_iff.mp q
  obtain ⟨⟨v, m2⟩, g2, q⟩ := Option.map_eq_some_iff.mp q
  cases q
  have C := CC.c
  refine PS.len (ps_asg (pe_tup (pa_cons (ha X CC.x _ _ _ _ g1) (pa_cons (hb X CC.x _ _ _ _ g2) pa_nil (h2 _ _)) (h1 _ _))) (pg_tup (n := 2) C.calm (pgs_cons (pg_name (i := i) (by rw [C.n]; exact C.nd) (by rw [C.n]; exact hi) (by rw [C.sc]; exact hx) (.inl (by rw [C.fn]))) (pgs_cons (pg_name (i := j) (by rw [C.n]; exact C.nd) (by rw [C.n]; exact hj) (by rw [C.sc]; exact hy) (.inl (by rw [C.fn]))) pgs_nil))) (hs _) (hw _ C.sc)) fun D σ H ⟨π, en, kb⟩ => ⟨π, en, fun v1 π1 H1 s1 e1 r1 => ⟨π1, e1, fun q xs π2 H2 s2 e2 tg hq fr r2 => ⟨size100 (n := 2) (by decide), fun p hp => ⟨p, [v1, .ref q], rfl, SqT.of upd_same, rfl, v1, [.ref q], rfl, .ref q, [], rfl, rfl, fun l => ?_⟩⟩⟩⟩
  have hne : q ≠ p := fun z => by rw [z, hp] at hq; cases hq
  have pu : Pur π2 H2 (setT π2 p 1) (upd H2 p (.tup [v1, .ref q])) := Pur.new 1 hp
  have e3 := e2.pur pu l
  have e4 := setT_setS (i := i) e3 ((r1.same s2.zero).same (pu.cut 0))
  have e5 := e4.owned (p := q) (xs := xs) (ds := v) (by rw [setT_ne hne]; exact tg) (by rw [upd_ne hne]; exact hq) (r2.same (pu.cut 0)) j
  refine kb.nx _ _ _ _ rfl (s1.fix.trans (fix_retag (s2.trans pu.stp) fr)) e5
def sParFF (i j : Nat) (f h : CL) : CS := fun Γ => (f Γ.sl Γ.mu).bind fun x => (h Γ.sl x.2).map fun y => .nx ⟨(Γ.sl.set i (some (.lst x.1))).set j (some (.lst y.1)), y.2⟩
theorem ss_parFF {x y : Str} {kt k2 : Nat} (i j : Nat) (ha : SoF P a fl) (hb : SoF P b fl2) (hi : P.N[i]? = some x) (hj : P.N[j]? = some y) (hij : i ≠ j := by decide) (hx : P.sc.names.lookup x = some .local := by rfl) (hy : P.sc.names.lookup y = some .local := by rfl)
    (hw : ∀ env : Env, env.scope = P.sc → swappedStores [.Tuple [.Name x px, .Name y py] kt pt] (.Tuple [a, b] k2 pt2) env = pure (some [x, y]) := by intro env h; exact sw_psY h rfl) (hs : ∀ env, swapsWithSole [.Tuple [.Name x px, .Name y py] kt pt] (.Tuple [a, b] k2 pt2) pos.line env = pure false := by intro _; rfl)
    (h1 : NoStar a := by exact fun _ _ => rfl) (h2 : NoStar b := by exact fun _ _ => rfl) : SoS P (.Assign [.Tuple [.Name x px, .Name y py] kt pt] (.Tuple [a, b] k2 pt2) pos) (sParFF i j fl fl2) := fun X E C Γ o q => by
  unfold sParFF at q
  obtain ⟨⟨u, m⟩, g1, q⟩ := Option.bind_eq_some_iff.mp q
  obtain ⟨⟨v, m2⟩, g2, q⟩ := Option.map_eq_some_iff.mp q
  cases q
  exact st_parFF C.c.toCxIs (ha X C.x _ _ _ _ g1) (hb X C.x _ _ _ _ g2) hi hj hij hx hy rfl (hw _ C.c.sc) (hs _) (h1 _ _) (h2 _ _)
def popAt (sl : Sls) (mu : Mu) (j : Nat) (f : CE) : Option (D × List D × Mu) := (lstAt sl j).bind fun ds => (f sl mu).bind fun x => match x.1 with
  | .int i => if 0 ≤ i then (ds[i.toNat]?).map fun d => (d, ds.eraseIdx i.toNat, x.2) else none
  | _ => none
theorem popAt_inv {sl : Sls} {mu m : Mu} {j : Nat} {d : D} {rest : List D} (q : popAt sl mu j f = some (d, rest, m)) : ∃ (ds : List D) (n : Nat), lstAt sl j = some ds ∧ f sl mu = some (.int (n : Nat), m) ∧ ds[n]? = some d ∧ rest = ds.eraseIdx n := by
  unfold popAt at q
  obtain ⟨ds, h1, q⟩ := Option.bind_eq_some_iff.mp q
  obtain ⟨⟨y, m⟩, h2, q⟩ := Option.bind_eq_some_iff.mp q
  dsimp only at q
  split at q
  · split at q
    · obtain ⟨d, h3, q⟩ := Option.map_eq_some_iff.mp q
      cases q
      refine ⟨ds, _, h1, ?_, h3, rfl⟩
      rw [h2, Int.toNat_of_nonneg (by assumption)]
    · cases q
  · cases q
def sSetPop (i j : Nat) (f : CE) : CS := fun Γ => (popAt Γ.sl Γ.mu j f).map fun x => .nx ⟨(Γ.sl.set j (some (.lst x.2.1))).set i (some (.st x.1)), x.2.2⟩
theorem ss_setPop {x y : Str} (i j : Nat) (h : SoE P e f) (hj : P.N[j]? = some x) (hi : P.N[i]? = some y) (hv : Vis P.sc x := by first | exact .inl rfl | exact .inr (.inl rfl) | exact .inr (.inr rfl)) (hy : Loc P.sc y := by first | exact .inl rfl | exact .inr rfl) (hs : NoStar e := by exact fun _ _ => rfl) (hd : (x == ("__debug__" : Str)) = false := by decide) (hcd : (x == ("__classdict__" : Str)) = false := by decide)
    (hsw : ∀ env, swapsWith (.Call (.Attribute (.Name x npos) "pop" apos) [e] [] p) (some (.Name y p1)) pos.line env = pure false := by intro _; rfl) (hbase : ∀ env, attributeBase (.Name x npos) "pop" env (eval (.Name x npos) env) = eval (.Name x npos) env := by intro _; rfl)
    (hfew : ∀ env, ((backTo p (starEach [e] env)).all (fun x => !x.1) && (backToKw p (keywordEach [] env)).all (fun x => x.1.isSome) && decide (([e] : List Expr).length + ([] : List Keyword).length + (if ([] : List Keyword).isEmpty then 0 else 1) < 30)) = true := by intro _; rfl)
    (hline : (apos.endLine == p.line) = true := by rfl) : SoS P (.Assign [.Name y p1] (.Call (.Attribute (.Name x npos) "pop" apos) [e] [] p) pos) (sSetPop i j f) := fun X E C Γ o q => by
  unfold sSetPop at q
  obtain ⟨⟨d, rest, m⟩, h1, q⟩ := Option.map_eq_some_iff.mp q
  cases q
  obtain ⟨ds, n, g1, g2, g3, g4⟩ := popAt_inv h1
  subst g4
  exact st_setP C.c.toCxIs i (xp_pop (m := n) C.c.toCxIs j (lstAt_ok g1) (Γ1 := ⟨Γ.sl, m⟩) (lstAt_ok g1) hj hv (h X C.x _ _ _ _ g2) g3 hd hcd (hs _ _) (hbase _) (hfew _) hline) hi hy (.inl (by rw [C.c.fn])) rfl (hsw _)
def sAppPop (i j : Nat) (f : CE) : CS := fun Γ => (lstAt Γ.sl i).bind fun es => (popAt Γ.sl Γ.mu j f).bind fun x => if es.length < 100000 then some (.nx ⟨(Γ.sl.set j (some (.lst x.2.1))).set i (some (.lst (es ++ [x.1]))), x.2.2⟩) else none
theorem ss_appPop {x y : Str} {apos2 npos2 p2 : Pos} (i j : Nat) (h : SoE P e f) (hj : P.N[j]? = some x) (hi : P.N[i]? = some y) (hij : j ≠ i := by decide) (hv : Vis P.sc x := by first | exact .inl rfl | exact .inr (.inl rfl) | exact .inr (.inr rfl)) (hy : Vis P.sc y := by first | exact .inl rfl | exact .inr (.inl rfl) | exact .inr (.inr rfl)) (hs : NoStar e := by exact fun _ _ => rfl) (hd : (x == ("__debug__" : Str)) = false := by decide) (hcd : (x == ("__classdict__" : Str)) = false := by decide) (hd2 : (y == ("__debug__" : Str)) = false := by decide) (hcd2 : (y == ("__classdict__" : Str)) = false := by decide)
    (hbase : ∀ env, attributeBase (.Name x npos) "pop" env (eval (.Name x npos) env) = eval (.Name x npos) env := by intro _; rfl)
    (hfew : ∀ env, ((backTo p (starEach [e] env)).all (fun x => !x.1) && (backToKw p (keywordEach [] env)).all (fun x => x.1.isSome) && decide (([e] : List Expr).length + ([] : List Keyword).length + (if ([] : List Keyword).isEmpty then 0 else 1) < 30)) = true := by intro _; rfl)
    (hline : (apos.endLine == p.line) = true := by rfl)
    (hs2 : NoStar (.Call (.Attribute (.Name x npos) "pop" apos) [e] [] p) := by exact fun _ _ => rfl)
    (hsw : ∀ env, swapsWith (.Call (.Attribute (.Name y npos2) "append" apos2) [.Call (.Attribute (.Name x npos) "pop" apos) [e] [] p] [] p2) none pos.line env = pure false := by intro _; rfl) (hbase2 : ∀ env, attributeBase (.Name y npos2) "append" env (eval (.Name y npos2) env) = eval (.Name y npos2) env := by intro _; rfl)
    (hfew2 : ∀ env, ((backTo p2 (starEach [.Call (.Attribute (.Name x npos) "pop" apos) [e] [] p] env)).all (fun x => !x.1) && (backToKw p2 (keywordEach [] env)).all (fun x => x.1.isSome) && decide (([.Call (.Attribute (.Name x npos) "pop" apos) [e] [] p] : List Expr).length + ([] : List Keyword).length + (if ([] : List Keyword).isEmpty then 0 else 1) < 30)) = true := by intro _; rfl)
    (hline2 : (apos2.endLine == p2.line) = true := by rfl) : SoS P (.Expr (.Call (.Attribute (.Name y npos2) "append" apos2) [.Call (.Attribute (.Name x npos) "pop" apos) [e] [] p] [] p2) pos) (sAppPop i j f) := fun X E C Γ o q => by
  unfold sAppPop at q
  obtain ⟨es, h0, q⟩ := Option.bind_eq_some_iff.mp q
  obtain ⟨⟨d, rest, m⟩, h1, q⟩ := Option.bind_eq_some_iff.mp q
  dsimp only at q
  split at q
  · cases q
    obtain ⟨ds, n, g1, g2, g3, g4⟩ := popAt_inv h1
    subst g4
    refine st_appendP C.c.toCxIs i (lstAt_ok h0) ?_ hi hy (xp_pop (m := n) C.c.toCxIs j (lstAt_ok g1) (Γ1 := ⟨Γ.sl, m⟩) (lstAt_ok g1) hj hv (h X C.x _ _ _ _ g2) g3 hd hcd (hs _ _) (hbase _) (hfew _) hline) (ds := es) (by assumption) rfl hd2 hcd2 (hs2 _ _) (hsw _) (hbase2 _) (hfew2 _) hline2
    show (Γ.sl.set j _)[i]? = _
    rw [List.getElem?_set_ne hij]
    exact lstAt_ok h0
  · cases q
def dKAt (sl : Sls) (i : Nat) : Option (List (Key × D)) := match sl[i]? with
  | some (some (.dK ds)) => some ds
  | _ => none
theorem dKAt_ok {sl : Sls} {i : Nat} {ds : List (Key × D)} (h : dKAt sl i = some ds) : sl[i]? = some (some (.dK ds)) := by
  unfold dKAt at h
  split at h
  · cases h; assumption
  · cases h
def oKey : D → Option Key
  | .int i => some (.inl i)
  | .str x => some (.inr x)
  | _ => none
theorem oKey_ok {d : D} {q : Key} (h : oKey d = some q) : d = kD q := by
  cases d <;> simp only [oKey, reduceCtorEq, Option.some.injEq] at h <;> subst h <;> rfl
def sDNew (i : Nat) : CS := fun Γ => some (.nx ⟨Γ.sl.set i (some (.dK [])), Γ.mu⟩)
theorem ss_dnew (i : Nat) {x : Str} (hN : P.N[i]? = some x) (hx : Loc P.sc x := by first | exact .inl rfl | exact .inr rfl) (hs : ∀ env, swapsWith (.Dict [] [] p) (some (.Name x npos)) pos.line env = pure false := by intro _; rfl) : SoS P (.Assign [.Name x npos] (.Dict [] [] p) pos) (sDNew i) := fun X E C Γ o q => by
  cases q
  exact st_dnew C.c.toCxIs i hN hx (.inl (by rw [C.c.fn])) rfl (hs _)
def cDGet2 (i : Nat) (f h : CE) : CE := fun sl mu => (dKAt sl i).bind fun ds => (f sl mu).bind fun x => (h sl x.2).bind fun y => (oKey x.1).map fun k => ((getG ds k).getD y.1, y.2)
theorem so_dget2 (i : Nat) {x : Str} (he : SoE P e f) (hf : SoE P c h) (hN : P.N[i]? = some x) (hv : Vis P.sc x := by first | exact .inl rfl | exact .inr (.inl rfl) | exact .inr (.inr rfl)) (hd : (x == ("__debug__" : Str)) = false := by decide) (hcd : (x == ("__classdict__" : Str)) = false := by decide) (m : ∀ X : Cx, M2 X (.Name x npos) "get" apos e c cpos := by exact fun _ => ⟨rfl, rfl, rfl, rfl⟩) :
    SoE P (.Call (.Attribute (.Name x npos) "get" apos) [e, c] [] cpos) (cDGet2 i f h) := fun X C sl mu d mu' q => by
  unfold cDGet2 at q
  obtain ⟨ds, h0, q⟩ := Option.bind_eq_some_iff.mp q
  obtain ⟨⟨y, m1⟩, h1, q⟩ := Option.bind_eq_some_iff.mp q
  obtain ⟨⟨z, m2⟩, h2, q⟩ := Option.bind_eq_some_iff.mp q
  obtain ⟨k, h3, q⟩ := Option.map_eq_some_iff.mp q
  cases q
  dsimp only at h3
  have h4 := he X C _ _ _ _ h1
  rw [oKey_ok h3] at h4
  exact xe_dget2 C.c i (dKAt_ok h0) (Γ2 := ⟨sl, m2⟩) (dKAt_ok h0) hN hv h4 (hf X C _ _ _ _ h2) hd hcd (m X)
def cDIx (i : Nat) (f : CE) : CE := fun sl mu => (dKAt sl i).bind fun ds => (f sl mu).bind fun x => (oKey x.1).bind fun k => (getG ds k).map fun d => (d, x.2)
theorem so_dix (i : Nat) {x : Str} (he : SoE P e f) (hN : P.N[i]? = some x) (hv : Vis P.sc x := by first | exact .inl rfl | exact .inr (.inl rfl) | exact .inr (.inr rfl)) (hs : NoSl e := by exact fun _ _ => rfl) (hd : (x == ("__debug__" : Str)) = false := by decide) (hcd : (x == ("__classdict__" : Str)) = false := by decide) : SoE P (.Subscript (.Name x npos) e pos) (cDIx i f) := fun X C sl mu d mu' q => by
  unfold cDIx at q
  obtain ⟨ds, h0, q⟩ := Option.bind_eq_some_iff.mp q
  obtain ⟨⟨y, m1⟩, h1, q⟩ := Option.bind_eq_some_iff.mp q
  obtain ⟨k, h3, q⟩ := Option.bind_eq_some_iff.mp q
  obtain ⟨z, h2, q⟩ := Option.map_eq_some_iff.mp q
  cases q
  dsimp only at h3
  have h4 := he X C _ _ _ _ h1
  rw [oKey_ok h3] at h4
  exact xe_dix C.c i (dKAt_ok h0) (Γ1 := ⟨sl, m1⟩) (dKAt_ok h0) hN hv h4 h2 hs hd hcd
def sDPut (i : Nat) (f h : CE) : CS := fun Γ => (dKAt Γ.sl i).bind fun ds => (h Γ.sl Γ.mu).bind fun y => (f Γ.sl Γ.mu).bind fun x => (oKey x.1).bind fun k => if ds.length < 100000 then some (.nx ⟨Γ.sl.set i (some (.dK (putG ds k y.1))), Γ.mu⟩) else none
theorem ss_dput (i : Nat) {x : Str} (he : SoE P e f) (hf : SoE P c h) (k1 : Calm f) (k2 : Calm h) (hN : P.N[i]? = some x) (hv : Vis P.sc x := by first | exact .inl rfl | exact .inr (.inl rfl) | exact .inr (.inr rfl)) (hs : ∀ env, swapsWith c (some (.Subscript (.Name x npos) e p)) pos.line env = pure false := by intro _; rfl) (hd : (x == ("__debug__" : Str)) = false := by decide) (hcd : (x == ("__classdict__" : Str)) = false := by decide) : SoS P (.Assign [.Subscript (.Name x npos) e p] c pos) (sDPut i f h) := fun X E C Γ o q => by
  unfold sDPut at q
  obtain ⟨ds, h0, q⟩ := Option.bind_eq_some_iff.mp q
  obtain ⟨⟨z, m2⟩, h2, q⟩ := Option.bind_eq_some_iff.mp q
  obtain ⟨⟨y, m1⟩, h1, q⟩ := Option.bind_eq_some_iff.mp q
  obtain ⟨k, h3, q⟩ := Option.bind_eq_some_iff.mp q
  dsimp only at h3 q
  split at q
  · cases q
    have e1 := k1 _ _ _ _ h1
    have e2 := k2 _ _ _ _ h2
    subst e1
    rw [e2] at h2
    have h4 := he X C.x _ _ _ _ h1
    rw [oKey_ok h3] at h4
    exact st_dput C.c.toCxIs i (dKAt_ok h0) hN hv (hf X C.x _ _ _ _ h2) h4 (by assumption) rfl (hs _) hd hcd
  · cases q
def cDLen (i : Nat) : CE := fun sl mu => (dKAt sl i).map fun ds => (.int (ds.length : Nat), mu)
theorem so_dlen (B : Blt P.R.mg) (i : Nat) {x : Str} (hN : P.N[i]? = some x) (hg : IsGl P.sc "len" := by rfl) (hv : Vis P.sc x := by first | exact .inl rfl | exact .inr (.inl rfl) | exact .inr (.inr rfl)) (hd : (x == ("__debug__" : Str)) = false := by decide) (hcd : (x == ("__classdict__" : Str)) = false := by decide) : SoE P (.Call (.Name "len" p) [.Name x npos] [] pos) (cDLen i) := fun X C sl mu d mu' q => by
  unfold cDLen at q
  obtain ⟨ds, h0, q⟩ := Option.map_eq_some_iff.mp q
  cases q
  exact xe_dlen C.c B hg i (dKAt_ok h0) hN hv hd hcd
def intKeys : List (Key × D) → Option (List Int)
  | [] => some []
  | (.inl i, _) :: ds => (intKeys ds).map (i :: ·)
  | _ => none
theorem intKeys_ok : ∀ {ds : List (Key × D)} {ns : List Int}, intKeys ds = some ns → ds.map (·.1) = ns.map Sum.inl
  | [], ns, h => by cases h; rfl
  | (.inl i, d) :: ds, ns, h => by
    obtain ⟨ms, h1, rfl⟩ := Option.map_eq_some_iff.mp (show (intKeys ds).map (i :: ·) = some ns from h)
    rw [List.map_cons, List.map_cons, intKeys_ok h1]
  | (.inr i, d) :: ds, ns, h => by cases h
def cDMax (i : Nat) : CE := fun sl mu => (dKAt sl i).bind fun ds => (intKeys ds).bind fun ns => if ns ≠ [] then some (.int (maxI ns), mu) else none
theorem so_dmax (B : Blt P.R.mg) (i : Nat) {x : Str} (hN : P.N[i]? = some x) (hg : IsGl P.sc "max" := by rfl) (hv : Vis P.sc x := by first | exact .inl rfl | exact .inr (.inl rfl) | exact .inr (.inr rfl)) (hd : (x == ("__debug__" : Str)) = false := by decide) (hcd : (x == ("__classdict__" : Str)) = false := by decide) : SoE P (.Call (.Name "max" p) [.Name x npos] [] pos) (cDMax i) := fun X C sl mu d mu' q => by
  unfold cDMax at q
  obtain ⟨ds, h0, q⟩ := Option.bind_eq_some_iff.mp q
  obtain ⟨ns, h1, q⟩ := Option.bind_eq_some_iff.mp q
  split at q
  · cases q
    exact xe_maxK C.c B hg i (dKAt_ok h0) hN hv (intKeys_ok h1) (by assumption) hd hcd
  · cases q
def nodupB [DecidableEq κ] : List κ → Bool
  | [] => true
  | k :: ks => !(decide (k ∈ ks)) && nodupB ks
theorem nodupB_ok {κ : Type} [DecidableEq κ] : ∀ {l : List κ}, nodupB l = true → l.Nodup
  | [], _ => List.nodup_nil
  | k :: ks, h => by
    unfold nodupB at h
    rw [Bool.and_eq_true] at h
    have h1 : k ∉ ks := by simpa using h.1
    exact List.nodup_cons.mpr ⟨h1, nodupB_ok h.2⟩
def cDVals (i jv : Nat) : CL := fun sl mu => (dKAt sl i).bind fun ds => if nodupB (ds.map (·.1)) = true ∧ ds.length ≤ 100000 ∧ jv < sl.length then some (ds.map (·.2), mu) else none
theorem so_dvals {x y : Str} {scope : Scope} {q1 q2 q3 q4 q5 : Pos} (i jv : Nat) (hN : P.N[i]? = some x) (hNy : P.N[jv]? = some y) (hv : Vis P.sc x := by first | exact .inl rfl | exact .inr (.inl rfl) | exact .inr (.inr rfl)) (hv2 : Vis (relS scope P.sc) x := by first | exact .inl rfl | exact .inr (.inl rfl) | exact .inr (.inr rfl)) (hy : Loc (relS scope P.sc) y := by first | exact .inl rfl | exact .inr rfl) (hvy : Vis (relS scope P.sc) y := by first | exact .inl rfl | exact .inr (.inl rfl) | exact .inr (.inr rfl)) (hf : (relS scope P.sc).names.lookup y = some .local := by rfl) (hij : jv ≠ i := by decide) (ok : blkC P.N P.sc scope [(y, jv)] = true := by (dsimp only [Pl.blk]; decide +kernel))
    (hd : (x == ("__debug__" : Str)) = false := by decide) (hcd : (x == ("__classdict__" : Str)) = false := by decide) (hd' : (y == ("__debug__" : Str)) = false := by decide) (hcd' : (y == ("__classdict__" : Str)) = false := by decide) (hs : ∀ env z, foldedSetIterable (.Name x q5) env z = pure z := by intro _ _; rfl) :
    SoF P (.ListComp (.Subscript (.Name x q1) (.Name y q2) q3) [⟨.Name y q4, .Name x q5, [], 0⟩] scope pos) (cDVals i jv) := fun X C sl mu d mu' q => by
  unfold cDVals at q
  obtain ⟨ds, h0, q⟩ := Option.bind_eq_some_iff.mp q
  split at q
  · rename_i w
    cases q
    exact xf_dvals C.c i jv (dKAt_ok h0) hN hv hv2 hNy hy hvy hf hij ok (nodupB_ok w.1) w.2.1 w.2.2 hd hcd hd' hcd' (hs _)
  · cases q
end
end Y
set_option Elab.async false
set_option linter.all false
set_option maxRecDepth 100000
set_option maxHeartbeats 400000
namespace Y
open PySem PySem.Spec PyProof.Rows L2
def forRun (G : CG) (body : CS) : List D → CS
  | [], Γ => some (.nx Γ)
  | d :: ds, Γ => (G Γ.sl d).bind fun sl => (body ⟨sl, Γ.mu⟩).bind fun o => match o with
    | .nx Γ' => forRun G body ds Γ'
    | .ct Γ' => forRun G body ds Γ'
    | .bk Γ' => some (.nx Γ')
    | o => some o
def ForStep (G : CG) (body : CS) (o : SO) (Γs Γt Γn : En) (d : D) : Prop := (Γs = botE ∧ Γt = botE ∧ Γn = botE) ∨ (G Γs.sl d = some Γt.sl ∧ Γt.mu = Γs.mu ∧ ∃ o', body Γt = some o' ∧ match o' with
  | .nx Γ' => Γn = Γ'
  | .ct Γ' => Γn = Γ'
  | .bk Γ' => Γn = botE ∧ o = .nx Γ'
  | o' => Γn = botE ∧ o = o')
theorem for_trace {G : CG} {body : CS} : ∀ {ds : List D} {Γ : En} {o : SO}, forRun G body ds Γ = some o → ∃ (Γs Γt : Nat → En), Γs 0 = Γ ∧ (∀ (j : Nat) (d : D), ds[j]? = some d → ForStep G body o (Γs j) (Γt j) (Γs (j + 1)) d) ∧ (Γs ds.length = botE ∨ o = .nx (Γs ds.length))
  | [], Γ, o, q => by
    cases q
    exact ⟨fun _ => Γ, fun _ => Γ, rfl, fun j d h => by simp at h, .inr rfl⟩
  | d :: ds, Γ, o, q => by
    obtain ⟨sl, h1, q1⟩ := Option.bind_eq_some_iff.mp (show (G Γ.sl d).bind (fun sl => (body ⟨sl, Γ.mu⟩).bind fun o => match o with
      | .nx Γ' => forRun G body ds Γ'
      | .ct Γ' => forRun G body ds Γ'
      | .bk Γ' => some (.nx Γ')
      | o => some o) = some o from q)
    obtain ⟨o', h2, q2⟩ := Option.bind_eq_some_iff.mp q1
    have on : ∀ Γ', forRun G body ds Γ' = some o → (o' = .nx Γ' ∨ o' = .ct Γ') → ∃ (Γs Γt : Nat → En), Γs 0 = Γ ∧ (∀ (j : Nat) (d' : D), (d :: ds)[j]? = some d' → ForStep G body o (Γs j) (Γt j) (Γs (j + 1)) d') ∧ (Γs (d :: ds).length = botE ∨ o = .nx (Γs (d :: ds).length)) := by
      intro Γ' hq ho
      obtain ⟨Γs, Γt, e0, ih, e1⟩ := for_trace hq
      refine ⟨fun j => match j with | 0 => Γ | j + 1 => Γs j, fun j => match j with | 0 => ⟨sl, Γ.mu⟩ | j + 1 => Γt j, rfl, fun j d' hj => ?_, e1⟩
      cases j with
      | zero =>
        have : d' = d := by simpa using hj.symm
        subst this
        refine .inr ⟨h1, rfl, o', h2, ?_⟩
        rcases ho with ho | ho
        · subst ho; exact e0
        · subst ho; exact e0
      | succ j => exact ih j d' (by simpa using hj)
    have off : ((∃ Γ', o' = .bk Γ' ∧ o = .nx Γ') ∨ ((∃ d mu, o' = .rt d mu) ∧ o = o') ∨ ((∃ d mu, o' = .ex d mu) ∧ o = o')) → ∃ (Γs Γt : Nat → En), Γs 0 = Γ ∧ (∀ (j : Nat) (d' : D), (d :: ds)[j]? = some d' → ForStep G body o (Γs j) (Γt j) (Γs (j + 1)) d') ∧ (Γs (d :: ds).length = botE ∨ o = .nx (Γs (d :: ds).length)) := by
      intro ho
      refine ⟨fun j => match j with | 0 => Γ | j + 1 => botE, fun j => match j with | 0 => ⟨sl, Γ.mu⟩ | j + 1 => botE, rfl, fun j d' hj => ?_, .inl rfl⟩
      cases j with
      | zero =>
        have : d' = d := by simpa using hj.symm
        subst this
        refine .inr ⟨h1, rfl, o', h2, ?_⟩
        rcases ho with ⟨Γ', rfl, ho⟩ | ⟨⟨_, _, rfl⟩, ho⟩ | ⟨⟨_, _, rfl⟩, ho⟩
        · exact ⟨rfl, ho⟩
        · exact ⟨rfl, ho⟩
        · exact ⟨rfl, ho⟩
      | succ j => exact .inl ⟨rfl, rfl, rfl⟩
    cases o' with
    | nx Γ' => exact on Γ' q2 (.inl rfl)
    | ct Γ' => exact on Γ' q2 (.inr rfl)
    | bk Γ' => exact off (.inl ⟨Γ', rfl, by cases q2; rfl⟩)
    | rt d mu => exact off (.inr (.inl ⟨⟨_, _, rfl⟩, by cases q2; rfl⟩))
    | ex d mu => exact off (.inr (.inr ⟨⟨_, _, rfl⟩, by cases q2; rfl⟩))
def sFor (it : CL) (G : CG) (body : CS) : CS := fun Γ => (it Γ.sl Γ.mu).bind fun x => forRun G body x.1 ⟨Γ.sl, x.2⟩
section
variable {P : Pl} {a b c e tg iter : Expr} {es : List Expr} {st : Stmt} {ss sa sb rest body : List Stmt} {pos p npos apos spos cpos px py pt pt2 p1 : Pos} {f h : CE} {fl fl2 it : CL} {u : CB} {s t w : CS} {G : CG} {js : List Nat}
theorem poO_nx {X : Cx} {E : WX} {Γ : En} {o : SO} (h : ST X E Γ st { poO o with nx := fun Γ' => (poO o).nx Γ' ∨ Γ' = botE }) : ST X E Γ st (poO o) := st_nxbot (po := poO o) h
theorem ss_for (hi : SoI P true tg iter it) (hg : SoG P fnT js tg G) (hb : SoK P body s) (hs : ∀ env x, foldedSetIterable iter env x = pure x := by intro _ _; rfl) : SoS P (.For tg iter body [] pos) (sFor it G s) := fun X E C Γ o q => by
  unfold sFor at q
  obtain ⟨⟨ds, m⟩, h1, q⟩ := Option.bind_eq_some_iff.mp q
  obtain ⟨Γs, Γt, e0, h2, h3⟩ := for_trace q
  refine poO_nx (st_for (js := js) (po := { poO o with nx := fun Γ' => (poO o).nx Γ' ∨ Γ' = botE }) C.c.toCxIs C.c.hp (hi X C.x _ _ _ _ h1) Γs (by rw [e0]; exact Le.refl _) Γt (fun j d hd => ?_) (fun j d hd => ?_) ?_ (hs _))
  · rcases h2 j d hd with ⟨z1, z2, z3⟩ | ⟨z1, z2, _⟩
    · rw [z1]
      exact ⟨fun pins s σ H v u Q I r ⟨π, en, _⟩ => (botE_no en).elim⟩
    · have := hg X C.x C.c.fn (Γs j).sl (Γs j).mu d (Γt j).sl z1
      have e : (⟨(Γt j).sl, (Γs j).mu⟩ : En) = Γt j := by rw [← z2]
      rw [e] at this
      exact this
  · rcases h2 j d hd with ⟨z1, z2, z3⟩ | ⟨z1, z2, o', z3, z4⟩
    · rw [z2]; exact bs_bot
    · have hb' := hb X E C _ _ z3
      cases o' with
      | nx Γ' =>
        dsimp only at z4
        refine bs_post hb' (fun Γ'' h => ?_) (fun _ _ h => h.elim) (fun _ _ h => h.elim) (fun _ h => h.elim) (fun _ h => h.elim)
        have h' : Γ'' = Γ' := h
        subst h'
        rw [z4]; exact Le.refl _
      | ct Γ' =>
        dsimp only at z4
        refine bs_post hb' (fun _ h => h.elim) (fun _ _ h => h.elim) (fun _ _ h => h.elim) (fun _ h => h.elim) (fun Γ'' h => ?_)
        have h' : Γ'' = Γ' := h
        subst h'
        rw [z4]; exact Le.refl _
      | bk Γ' =>
        obtain ⟨z4, z5⟩ := z4
        subst z5
        exact bs_post hb' (fun _ h => h.elim) (fun _ _ h => h.elim) (fun _ _ h => h.elim) (fun _ h => .inl h) (fun _ h => h.elim)
      | rt d' mu =>
        obtain ⟨z4, z5⟩ := z4
        subst z5
        exact bs_post hb' (fun _ h => h.elim) (fun _ _ h => h) (fun _ _ h => h.elim) (fun _ h => h.elim) (fun _ h => h.elim)
      | ex x mu =>
        obtain ⟨z4, z5⟩ := z4
        subst z5
        exact bs_post hb' (fun _ h => h.elim) (fun _ _ h => h.elim) (fun _ _ h => h) (fun _ h => h.elim) (fun _ h => h.elim)
  · rcases h3 with h3 | h3
    · exact .inr h3
    · subst h3; exact .inl rfl
def whRun (c : CB) (body : CS) : Nat → CS
  | 0, _ => none
  | n + 1, Γ => (c Γ.sl Γ.mu).bind fun x => cond x.1 ((body ⟨Γ.sl, x.2⟩).bind fun o => (match o with
    | .nx Γ' => whRun c body n Γ'
    | .ct Γ' => whRun c body n Γ'
    | .bk Γ' => some (.nx Γ')
    | o => some o)) (some (.nx ⟨Γ.sl, x.2⟩))
theorem ss_while (n : Nat) (hc : SoB P c u) (k1 : CalmB u) (hb : SoK P body s) : SoS P (.While c body [] pos) (whRun u s n) := fun X E C Γ o q => by
  have key : ∀ (n : Nat) (Γ : En), whRun u s n Γ = some o → ∃ m, u Γ.sl Γ.mu = some (m, Γ.mu) := fun n Γ q => by
    cases n with
    | zero => cases q
    | succ n =>
      obtain ⟨⟨x, m⟩, h1, _⟩ := Option.bind_eq_some_iff.mp (show (u Γ.sl Γ.mu).bind _ = some o from q)
      have e := k1 _ _ _ _ h1
      rw [e] at h1
      exact ⟨x, h1⟩
  let Iv : Option (Nat × En) → Prop := fun x => match x with
    | none => True
    | some (n, Γ) => whRun u s n Γ = some o
  let Γs : Option (Nat × En) → En := fun x => match x with
    | none => botE
    | some (_, Γ) => Γ
  let cond : Option (Nat × En) → Bool := fun x => match x with
    | none => false
    | some (_, Γ) => ((u Γ.sl Γ.mu).map (·.1)).getD false
  let nxt : Option (Nat × En) → Option (Nat × En) := fun x => match x with
    | none => none
    | some (n, Γ) => match s Γ with
      | some (.nx Γ') => some (n - 1, Γ')
      | some (.ct Γ') => some (n - 1, Γ')
      | _ => none
  let ms : Option (Nat × En) → Nat := fun x => match x with
    | none => 0
    | some (n, _) => n + 1
  have step : ∀ (n : Nat) (Γ : En), whRun u s n Γ = some o → cond (some (n, Γ)) = true → ∃ n' o', n = n' + 1 ∧ s Γ = some o' ∧ (match o' with
      | .nx Γ' => whRun u s n' Γ'
      | .ct Γ' => whRun u s n' Γ'
      | .bk Γ' => some (.nx Γ')
      | o => some o) = some o := fun n Γ q hcd => by
    obtain ⟨b, hb⟩ := key n Γ q
    have hb' : b = true := by
      have : ((u Γ.sl Γ.mu).map (·.1)).getD false = true := hcd
      rw [hb] at this
      exact this
    subst hb'
    cases n with
    | zero => cases q
    | succ n =>
      obtain ⟨⟨x, m⟩, h1, q1⟩ := Option.bind_eq_some_iff.mp (show (u Γ.sl Γ.mu).bind _ = some o from q)
      rw [hb] at h1
      cases h1
      dsimp only at q1
      rw [cond_true] at q1
      obtain ⟨o', h2, q2⟩ := Option.bind_eq_some_iff.mp q1
      exact ⟨n, o', rfl, h2, q2⟩
  refine poO_nx (st_while (po := { poO o with nx := fun Γ' => (poO o).nx Γ' ∨ Γ' = botE }) C.c.hp Γs Iv cond nxt ms (some (n, Γ)) q (Le.refl _) (fun x hx => ?_) (fun x hx hcd => ?_) (fun x hx hcd => ?_) (fun x hx hcd => ?_))
  · cases x with
    | none => exact ⟨fun pins s σ H Q I ⟨π, en, _⟩ => (botE_no en).elim⟩
    | some x =>
      obtain ⟨n, Γ⟩ := x
      obtain ⟨b, hb⟩ := key n Γ hx
      have e : cond (some (n, Γ)) = b := by
        show ((u Γ.sl Γ.mu).map (·.1)).getD false = b
        rw [hb]; rfl
      rw [e]
      exact (hc X C.x _ _ _ _ hb).t
  · cases x with
    | none => cases hcd
    | some x =>
      obtain ⟨n, Γ⟩ := x
      obtain ⟨n', o', rfl, h2, h3⟩ := step n Γ hx hcd
      have hb' := hb X E C _ _ h2
      cases o' with
      | nx Γ' =>
        have e : Γs (nxt (some (n' + 1, Γ))) = Γ' := by
          show Γs (match s Γ with | some (.nx Γ') => some (n' + 1 - 1, Γ') | some (.ct Γ') => some (n' + 1 - 1, Γ') | _ => none) = _
          rw [h2]
        refine bs_post hb' (fun Γ'' h => ?_) (fun _ _ h => h.elim) (fun _ _ h => h.elim) (fun _ h => h.elim) (fun _ h => h.elim)
        have h' : Γ'' = Γ' := h
        subst h'
        rw [e]; exact Le.refl _
      | ct Γ' =>
        have e : Γs (nxt (some (n' + 1, Γ))) = Γ' := by
          show Γs (match s Γ with | some (.nx Γ') => some (n' + 1 - 1, Γ') | some (.ct Γ') => some (n' + 1 - 1, Γ') | _ => none) = _
          rw [h2]
        refine bs_post hb' (fun _ h => h.elim) (fun _ _ h => h.elim) (fun _ _ h => h.elim) (fun _ h => h.elim) (fun Γ'' h => ?_)
        have h' : Γ'' = Γ' := h
        subst h'
        rw [e]; exact Le.refl _
      | bk Γ' =>
        cases h3
        exact bs_post hb' (fun _ h => h.elim) (fun _ _ h => h.elim) (fun _ _ h => h.elim) (fun _ h => .inl h) (fun _ h => h.elim)
      | rt d' mu =>
        cases h3
        exact bs_post hb' (fun _ h => h.elim) (fun _ _ h => h) (fun _ _ h => h.elim) (fun _ h => h.elim) (fun _ h => h.elim)
      | ex x mu =>
        cases h3
        exact bs_post hb' (fun _ h => h.elim) (fun _ _ h => h.elim) (fun _ _ h => h) (fun _ h => h.elim) (fun _ h => h.elim)
  · cases x with
    | none => cases hcd
    | some x =>
      obtain ⟨n, Γ⟩ := x
      obtain ⟨n', o', rfl, h2, h3⟩ := step n Γ hx hcd
      show Iv (match s Γ with | some (.nx Γ') => some (n' + 1 - 1, Γ') | some (.ct Γ') => some (n' + 1 - 1, Γ') | _ => none) ∧ ms (match s Γ with | some (.nx Γ') => some (n' + 1 - 1, Γ') | some (.ct Γ') => some (n' + 1 - 1, Γ') | _ => none) < n' + 1 + 1
      rw [h2]
      cases o' with
      | nx Γ' => exact ⟨h3, Nat.lt_succ_self _⟩
      | ct Γ' => exact ⟨h3, Nat.lt_succ_self _⟩
      | bk Γ' => exact ⟨True.intro, Nat.succ_pos _⟩
      | rt d' mu => exact ⟨True.intro, Nat.succ_pos _⟩
      | ex x mu => exact ⟨True.intro, Nat.succ_pos _⟩
  · cases x with
    | none => exact .inr rfl
    | some x =>
      obtain ⟨n, Γ⟩ := x
      obtain ⟨b, hb⟩ := key n Γ hx
      have hb' : b = false := by
        have : ((u Γ.sl Γ.mu).map (·.1)).getD false = false := hcd
        rw [hb] at this
        exact this
      subst hb'
      cases n with
      | zero => cases hx
      | succ n =>
        obtain ⟨⟨x, m⟩, h1, q1⟩ := Option.bind_eq_some_iff.mp (show (u Γ.sl Γ.mu).bind _ = some o from hx)
        rw [hb] at h1
        cases h1
        dsimp only at q1
        rw [cond_false] at q1
        cases q1
        exact .inl rfl
end
def fnRes : SO → Option (Mu × Res)
  | .nx Γ => some (Γ.mu, .ret .none)
  | .rt d mu' => some (mu', .ret d)
  | .ex x mu' => some (mu', .exc x)
  | _ => none
def fnRun (n : Nat) (b : CS) : Y.Sem := fun mu ds => (b (En.start n ds mu)).bind fnRes
theorem fn_post {X : Cx} {E : WX} {Γ : En} {ss : List Stmt} {o : SO} {mu' : Mu} {r : Res} (h : BS X E Γ ss (poO o)) (q : fnRes o = some (mu', r)) : BS X E Γ ss { nx := fun Γ' => Γ'.mu = mu' ∧ r = .ret .none, rt := fun Γ' d => Γ'.mu = mu' ∧ r = .ret d, xc := fun Γ' x => Γ'.mu = mu' ∧ r = .exc x } := by
  cases o with
  | nx Γ' =>
    cases q
    exact bs_post h (fun _ z => by cases z; exact ⟨rfl, rfl⟩) (fun _ _ z => z.elim) (fun _ _ z => z.elim) (fun _ z => z.elim) (fun _ z => z.elim)
  | rt d mu =>
    cases q
    exact bs_post h (fun _ z => z.elim) (fun _ _ z => ⟨z.1, by rw [z.2]⟩) (fun _ _ z => z.elim) (fun _ z => z.elim) (fun _ z => z.elim)
  | ex d mu =>
    cases q
    exact bs_post h (fun _ z => z.elim) (fun _ _ z => z.elim) (fun _ _ z => ⟨z.1, by rw [z.2]⟩) (fun _ z => z.elim) (fun _ z => z.elim)
  | bk _ => cases q
  | ct _ => cases q
theorem so_fn {R : Rw} {k : Nat} {N : List Str} {x qual : Str} {st : Stmt} {f : Addr} {fd : FuncData} {ps : List Str} {b : CS} (F : Fun R.K x qual st f fd) (hm : R.mg x = some (.ref f)) (hb : Binds R.K fd ps []) (SC : FnScope N ps (defScope st)) (h : SoK ⟨R, k, N, defScope st, false⟩ (defBody st) b) : Def R x (k + 1) (spec ps.length (fnRun N.length b)) :=
  def_ok F hm hb SC (fun _ _ _ _ q => q.1) fun X E C mu ds mu' r ⟨_, q⟩ => by
    unfold fnRun at q
    obtain ⟨o, h1, q⟩ := Option.bind_eq_some_iff.mp q
    exact fn_post (h X E ⟨C, fun z => by cases z⟩ _ _ h1) q
theorem so_fnR {R : Rw} {k : Nat} {N : List Str} {x qual : Str} {st : Stmt} {f : Addr} {fd : FuncData} {ps : List Str} {b : CS} (F : Fun R.K x qual st f fd) (hm : R.mg x = some (.ref f)) (hb : Binds R.K fd ps []) (SC : FnScope N ps (defScope st)) (h : SoK ⟨R, k, N, defScope st, true⟩ (defBody st) b) : DefR R x (k + 1) (det (spec ps.length (fnRun N.length b))) :=
  defR_ok F hm hb SC (fun _ _ _ _ q => q.1) fun X E C hgd mu ds mu' r ⟨_, q⟩ => by
    unfold fnRun at q
    obtain ⟨o, h1, q⟩ := Option.bind_eq_some_iff.mp q
    exact fn_post (h X E ⟨C, fun _ => hgd⟩ _ _ h1) q
theorem so_meth_fn {R : Rw} {k : Nat} {N : List Str} {x qual m : Str} {st : Stmt} {f C : Addr} {fd : FuncData} {ps : List Str} {b : CS} (F : Fun R.K x qual st f fd) (hfi : PySem.W.findIn R.K (.ref C) m = some (some (.ref f))) (hfn : PySem.W.isFn R.K (.ref f) = true) (hb : Binds R.K fd ps []) (SC : FnScope N ps (defScope st)) (h : SoK ⟨R, k, N, defScope st, false⟩ (defBody st) b) : MethD R C m (k + 1) (spec ps.length (fnRun N.length b)) :=
  ⟨f, fd, ps, fn_okG F SC (fun mu ds P ⟨mu', r, q, _⟩ => q.1) fun X E CI mu ds P ⟨mu', r, ⟨_, q⟩, e⟩ => by
    subst e
    unfold fnRun at q
    obtain ⟨o, h1, q⟩ := Option.bind_eq_some_iff.mp q
    exact bs_post (fn_post (h X E ⟨CI, fun z => by cases z⟩ _ _ h1) q) (fun _ z => ⟨z.1, z.2.symm⟩) (fun _ _ z => ⟨z.1, z.2.symm⟩) (fun _ _ z => ⟨z.1, z.2.symm⟩) (fun _ z => z) (fun _ z => z), hfi, hfn, F.kp, hb⟩
end Y
set_option Elab.async false
set_option linter.all false
set_option maxRecDepth 100000
set_option maxHeartbeats 400000
namespace HT
open PySem PySem.Spec PyProof.Rows
section
variable {prog : Program} {w : World} {A : Around} {E : Value → Shared → Prop} {s : Shared}
theorem adjust_rev (n : Nat) : Builtin.Slice.sliceAdjust none none (-1) (n : Int) = ((n : Int) - 1, -1) := by
  unfold Builtin.Slice.sliceAdjust
  simp
theorem places_rev (n : Nat) : Builtin.Slice.slicePlaces ((n : Int) - 1) (-1) (-1) = n := by
  unfold Builtin.Slice.slicePlaces
  have h1 : ¬ ((-1 : Int) > 0) := by omega
  simp only [h1, if_false]
  by_cases h : (n : Int) - 1 > -1
  · simp only [h, if_true]
    have : (-(-1) : Int) = 1 := by decide
    rw [this, Int.ediv_one]
    omega
  · simp only [h, if_false]
    omega
theorem sliceApplied_rev {sl : Addr} {vl vu vs : Value} {n : Nat} {Q : Int × Int × Nat → Shared → Prop} (hs : s.heap.IsSliceOf sl vl vu vs) (pl : IsPart vl none) (pu : IsPart vu none) (ps : IsPart vs (some (-1)))
    (h : Q ((n : Int) - 1, -1, n) s) : wpAny (model prog w) A (Builtin.Slice.sliceApplied (.ref sl) (pure (n : Int))) Q E s := by
  obtain ⟨os, hos, hcs, hds⟩ := id hs
  unfold Builtin.Slice.sliceApplied Builtin.Slice.sliceFields
  refine wpAny_bind (wpAny_bind (wpAny_field hos hds (x := vl) rfl (wpAny_bind (wpAny_field hos hds (x := vu) rfl (wpAny_bind (wpAny_field hos hds (x := vs) rfl (wpAny_pure ?_)))))))
  refine wpAny_bind (slicePart_ ps ?_)
  show wpAny _ _ (if ((-1 : Int) == 0) = true then _ else _) _ _ s
  rw [if_neg (by decide)]
  refine wpAny_bind (slicePart_ pl (wpAny_bind (slicePart_ pu (wpAny_bind (wpAny_pure ?_)))))
  show wpAny _ _ (match Builtin.Slice.sliceAdjust none none (-1) (n : Int) with | (lo, hi) => pure (lo, (-1 : Int), Builtin.Slice.slicePlaces lo hi (-1))) _ _ s
  rw [adjust_rev n]
  show wpAny _ _ (pure ((n : Int) - 1, (-1 : Int), Builtin.Slice.slicePlaces ((n : Int) - 1) (-1) (-1))) _ _ s
  rw [places_rev]
  exact wpAny_pure h
theorem pick_rev (xs : Array Value) : ((List.range xs.size).filterMap fun (m : Nat) => xs[((xs.size : Int) - 1 + (m : Int) * (-1)).toNat]?).toArray = xs.toList.reverse.toArray := by
  have e : (List.range xs.size).filterMap (fun (m : Nat) => xs[((xs.size : Int) - 1 + (m : Int) * (-1)).toNat]?) = ((List.range xs.size).map fun k => xs.size - 1 - k).filterMap (xs[·]?) := by
    rw [List.filterMap_map]
    have key : ∀ l : List Nat, (∀ m ∈ l, m < xs.size) → l.filterMap (fun (m : Nat) => xs[((xs.size : Int) - 1 + (m : Int) * (-1)).toNat]?) = l.filterMap ((fun x => xs[x]?) ∘ fun k => xs.size - 1 - k) := by
      intro l
      induction l with
      | nil => intro _; rfl
      | cons m l ih =>
        intro hl
        have := hl m List.mem_cons_self
        have e : ((xs.size : Int) - 1 + (m : Int) * (-1)).toNat = xs.size - 1 - m := by omega
        rw [List.filterMap_cons, List.filterMap_cons, ih fun z hz => hl z (List.mem_cons_of_mem _ hz), e]
        rfl
    exact key _ fun m hm => List.mem_range.mp hm
  rw [e, PySem.W.krv_range, List.filterMap_reverse, PySem.W.krv_all]
theorem getItem_tuple_rev {t sl : Addr} {items : Array Value} {vl vu vs : Value} {Q : Value → Shared → Prop} (ht : IsTup s.heap t items) (hs : s.heap.IsSliceOf sl vl vu vs) (pl : IsPart vl none) (pu : IsPart vu none) (ps : IsPart vs (some (-1)))
    (h : Q (.ref s.heap.objs.size) { s with heap := s.heap.push { cls := .type "tuple", data := .seq items.toList.reverse.toArray } })
    (hsz : items.size ≤ sizeLine) : wpAny (model prog w) A (getItem (.ref t) (.ref sl)) Q E s := by
  have htake : sizeOk (.seq items.toList.reverse.toArray) := by
    show items.toList.reverse.toArray.size ≤ sizeLine
    rw [List.size_toArray, List.length_reverse, Array.length_toList]
    exact hsz
  obtain ⟨os, hos, hcs, hds⟩ := id hs
  have hTs : s.TypeIs (.ref sl) "slice" := ⟨os, hos, hcs⟩
  unfold getItem
  try with_reducible refine wpAny_holding ?_
  first | refine wpAny_bind (wpAny_pure ?_) | skip
  refine wpAny_bind (wpAny_sequenceKey ht.typeIs (by decide) ?_)
  refine wpAny_bind (wpAny_callSpecial?_slot (name := Str.ofString "__getitem__") ht.typeIs PyProof.Rows.slot_tuple_getitem
    (wpAny_call_entry PyProof.Rows.slot_tuple_getitem ht.typeIs entry_tuple_getitem ?_ (args_tuple_getitem _ _)))
  show wpAny _ _ (Builtin.Tuple.tupleItemsOf (.ref t) >>= _) _ _ s
  refine wpAny_bind (tupleItemsOf_ ht ?_)
  refine wpAny_bind (wpAny_typeOf hTs ?_)
  rw [if_pos (by decide)]
  refine wpAny_bind (sliceApplied_rev hs pl pu ps ?_)
  have hno : ¬ ((((items.size : Int) - 1) == 0 && (-1 : Int) == 1 && items.size == items.size) = true) := by simp
  show wpAny _ _ (if (((items.size : Int) - 1) == 0 && (-1 : Int) == 1 && items.size == items.size) = true then _ else _) _ _ s
  rw [if_neg hno, pick_rev]
  first
    | exact wpAny_bind (m := Builtin.Tuple.tupleExact _) (wpAny_newObj_type (wpAny_pure ⟨_, rfl, wpAny_pure h⟩) htake)
    | exact wpAny_bind (m := Builtin.Tuple.tupleExact _) (wpAny_newObj_type (wpAny_bind (wpAny_pure (wpAny_pure ⟨_, rfl, wpAny_pure h⟩))) htake)
    | exact wpAny_bind (wpAny_bind (m := Builtin.Tuple.tupleExact _) (wpAny_newObj_type (wpAny_pure (wpAny_pure ⟨_, rfl, wpAny_pure h⟩)) htake))
    | exact wpAny_bind (wpAny_bind (m := Builtin.Tuple.tupleExact _) (wpAny_newObj_type (wpAny_pure ⟨_, rfl, wpAny_pure h⟩) htake))
end
end HT
namespace Y
open PySem PySem.Spec PyProof.Rows L2
section
variable {X : Cx}
def tRevT (K : PySem.W.Frag) (te : TE) : TE := fun σ H Q => te σ H fun x H1 => ∃ a xs, x = .ref a ∧ SqT K H1 a xs ∧ ∀ p, H1 p = none → Q (.ref p) (upd H1 p (.tup xs.reverse))
theorem pe_revT {e : Expr} {te : TE} {k : Nat} {p1 p2 p3 pos : Pos} (he : PE X e te) : PE X (.Subscript e (.Slice none none (some (.UnaryOp .USub (.Constant (.int 1) k p1) p2)) p3) pos) (tRevT X.K te) := by
  refine ⟨fun pins s σ H Q I h => ?_⟩
  refine Subscript_ (thn (he.run pins s σ H _ I h) fun v s1 ⟨x, H1, I1, r1, q1⟩ => ?_)
  obtain ⟨a, xs, ex, hx, q⟩ := q1
  subst ex
  cases r1
  have hst : PO X (some (.UnaryOp .USub (.Constant (.int 1) k p1) p2)) (tPart (tUn (rU fun i => .int (-i)) (tC (.int 1)))) := po_some (pe_un un_neg pe_int)
  refine wpAny_Slice (thn (po_none.run pins s1 σ H1 (fun o H2 => o = none ∧ H2 = H1) I1 ⟨rfl, rfl⟩) fun vl s2 ⟨l, H2, I2, pl, el, e2⟩ => ?_)
  subst el e2
  refine thn (po_none.run pins s2 σ H2 (fun o H3 => o = none ∧ H3 = H2) I2 ⟨rfl, rfl⟩) fun vu s3 ⟨u, H3, I3, pu, eu, e3⟩ => ?_
  subst eu e3
  refine thn (hst.run pins s3 σ H3 (fun o H4 => o = some (-1) ∧ H4 = H3) I3 ⟨1, rfl, -1, rfl, rfl, rfl⟩) fun vs s4 ⟨o, H4, I4, ps, eo, e4⟩ => ?_
  subst eo e4
  have I5 : Inv X pins σ H4 { s4 with heap := s4.heap.push { cls := .type "slice", data := .fields #[vl, vu, vs] } } := I4.kept (t' := s4.toks) fun b ob q => Heap.get?_push_of_some _ q
  obtain ⟨its, r, ht, hz⟩ := I5.tuple hx
  have hlen := r.length
  show wpAny (model X.prog X.w) X.A (subscriptTail e (.Slice none none (some (.UnaryOp .USub (.Constant (.int 1) k p1) p2)) p3) (.ref a) (.ref s4.heap.objs.size)) (EP X pins σ Q) X.xe { s4 with heap := s4.heap.push { cls := .type "slice", data := .fields #[vl, vu, vs] } }
  refine tail_any (ops := [.ref a, .ref s4.heap.objs.size]) ht.typeIs (PyProof.Rows.slot_tuple_getitem.lookup) ?_ (by with_unfolding_all rfl)
  refine HT.getItem_tuple_rev ht (Heap.IsSliceOf.new _ vl vu vs) pl pu ps ?_ (by rw [List.size_toArray]; omega)
  refine ⟨.ref _, _, I5.laid (t' := s4.toks) (o := .tup xs.reverse) (fun b ob q => Heap.get?_push_of_some _ q) (Nat.le_refl _) ?_, rfl, q _ (I5.hok.fresh (Nat.le_refl _))⟩
  exact ⟨by rw [List.length_reverse]; exact hz, _, r.reverse, IsTup.new _ _⟩
end
section
variable {P : Pl} {a b c e o tg iter elt : Expr} {es elts : List Expr} {pos p p1 p2 p3 q2 tpos apos npos cpos : Pos} {f h f3 : CE} {fa it : CL} {u v : CB} {kk : Nat}
def oRev : D → Option D
  | .list xs => some (.list xs.reverse)
  | .tuple xs => some (.tuple xs.reverse)
  | _ => none
theorem so_rev {k : Nat} (ha : SoE P e f) : SoE P (.Subscript e (.Slice none none (some (.UnaryOp .USub (.Constant (.int 1) k p1) p2)) p3) pos) (cUn oRev f) := fun X C sl mu d mu' q => by
  obtain ⟨x, h1, h3⟩ := cUn_inv q
  unfold oRev at h3
  split at h3
  · cases h3
    refine XF.e (xf_of (pe_revL (ha X C _ _ _ _ h1)) fun σ H π Q en kx => ⟨π, en, fun v π1 H1 s1 e1 r1 => ?_⟩)
    cases r1 with
    | lst g r => exact ⟨_, _, rfl, SqL.of (cut_sub _ _ g), fun p hp => (kx.step s1).new e1 hp r.reverse⟩
  · cases h3
    refine xe_of (pe_revT (ha X C _ _ _ _ h1)) fun σ H π Q en kx => ⟨π, en, fun v π1 H1 s1 e1 r1 => ?_⟩
    cases r1 with
    | tup g r => exact ⟨_, _, rfl, Same.seqT cut_sub g, fun p hp => (kx.step s1).new e1 hp fun G sm hg => .tup (SqT.of hg) ((r.same sm).reverse)⟩
  · cases h3
theorem XI.weak {X : Cx} {Γ Γ1 : En} {ds : List D} (h : XI X true Γ tg iter Γ1 ds) : XI X false Γ tg iter Γ1 ds := PI.imp h fun σ H Q ⟨π, en, q⟩ => ⟨π, en, fun J P π' H' s e it p => q J P π' H' s e ⟨it.cl, fun z => (by cases z), it.fr, it.go, it.stop, it.bd, it.yld⟩ p⟩
def cOwS (i : Nat) : CL := fun sl mu => match sl[i]? with
  | some (some (.lst ds)) => some (ds, mu)
  | some (some (.st d)) => (oSeq d).map fun ds => (ds, mu)
  | _ => none
theorem si_ownS (i : Nat) {x : Str} (hN : P.N[i]? = some x) (hv : Vis P.sc x := by first | exact .inl rfl | exact .inr (.inl rfl) | exact .inr (.inr rfl)) (hd : (x == ("__debug__" : Str)) = false := by decide) (hcd : (x == ("__classdict__" : Str)) = false := by decide) : SoI P false tg (.Name x pos) (cOwS i) := fun X C sl mu d mu' q => by
  unfold cOwS at q
  split at q
  · cases q
    exact xi_own C.c i (by assumption) hN hv hd hcd
  · obtain ⟨ds, h1, q⟩ := Option.map_eq_some_iff.mp q
    cases q
    exact XI.weak (xi_seq (xe_st C.c i (by assumption) hN hv hd hcd) (oSeq_ok h1))
  · cases q
theorem calm_ows (i : Nat) : CalmL (cOwS i) := fun sl mu d mu' q => by
  unfold cOwS at q
  split at q
  · cases q; rfl
  · obtain ⟨ds, h1, q⟩ := Option.map_eq_some_iff.mp q
    cases q; rfl
  · cases q
theorem calm_b (hu : CalmB u) : Calm (cB u) := fun sl mu d mu' q => by
  obtain ⟨b, h1, _⟩ := cB_inv q
  exact hu _ _ _ _ h1
theorem calm_not (hu : CalmB u) : CalmB (cNot u) := fun sl mu d mu' q => by
  unfold cNot at q
  obtain ⟨⟨x, m⟩, h1, q⟩ := Option.map_eq_some_iff.mp q
  cases q
  exact hu _ _ _ _ h1
theorem calm_and (hu : CalmB u) (hv : CalmB v) : CalmB (cAnd u v) := fun sl mu d mu' q => by
  unfold cAnd at q
  obtain ⟨⟨x, m⟩, h1, q⟩ := Option.bind_eq_some_iff.mp q
  have e := hu _ _ _ _ h1
  dsimp only at q e
  cases x with
  | true => rw [hv _ _ _ _ q, e]
  | false => cases q; exact e
theorem calm_or (hu : CalmB u) (hv : CalmB v) : CalmB (cOr u v) := fun sl mu d mu' q => by
  unfold cOr at q
  obtain ⟨⟨x, m⟩, h1, q⟩ := Option.bind_eq_some_iff.mp q
  have e := hu _ _ _ _ h1
  dsimp only at q e
  cases x with
  | true => cases q; exact e
  | false => rw [hv _ _ _ _ q, e]
theorem calm_l (hu : CalmL fa) : Calm (cL fa) := fun sl mu d mu' q => by
  unfold cL at q
  obtain ⟨⟨x, m⟩, h1, q⟩ := Option.map_eq_some_iff.mp q
  cases q
  exact hu _ _ _ _ h1
theorem calm_lst (hu : CalmL fa) : CalmL (cLst fa) := fun sl mu d mu' q => by
  unfold cLst at q
  obtain ⟨⟨x, m⟩, h1, q⟩ := Option.bind_eq_some_iff.mp q
  dsimp only at q
  split at q
  · cases q; exact hu _ _ _ _ h1
  · cases q
theorem calm_if (hu : CalmB u) (hf : Calm f) (hh : Calm h) : Calm (cIf u f h) := fun sl mu d mu' q => by
  unfold cIf at q
  obtain ⟨⟨x, m⟩, h1, q⟩ := Option.bind_eq_some_iff.mp q
  have e := hu _ _ _ _ h1
  dsimp only at q e
  cases x with
  | true => rw [hf _ _ _ _ q, e]
  | false => rw [hh _ _ _ _ q, e]
theorem calm_dget2 {i : Nat} (hf : Calm f) (hh : Calm h) : Calm (cDGet2 i f h) := fun sl mu d mu' q => by
  unfold cDGet2 at q
  obtain ⟨ds, h0, q⟩ := Option.bind_eq_some_iff.mp q
  obtain ⟨⟨y, m1⟩, h1, q⟩ := Option.bind_eq_some_iff.mp q
  obtain ⟨⟨z, m2⟩, h2, q⟩ := Option.bind_eq_some_iff.mp q
  obtain ⟨k, h3, q⟩ := Option.map_eq_some_iff.mp q
  cases q
  have e1 := hf _ _ _ _ h1
  have e2 := hh _ _ _ _ h2
  simp only at e1 e2
  rw [e2, e1]
theorem calm_dix {i : Nat} (hf : Calm f) : Calm (cDIx i f) := fun sl mu d mu' q => by
  unfold cDIx at q
  obtain ⟨ds, h0, q⟩ := Option.bind_eq_some_iff.mp q
  obtain ⟨⟨y, m1⟩, h1, q⟩ := Option.bind_eq_some_iff.mp q
  obtain ⟨k, h3, q⟩ := Option.bind_eq_some_iff.mp q
  obtain ⟨z, h2, q⟩ := Option.map_eq_some_iff.mp q
  cases q
  exact hf _ _ _ _ h1
theorem calm_dlen (i : Nat) : Calm (cDLen i) := fun sl mu d mu' q => by
  unfold cDLen at q
  obtain ⟨ds, h0, q⟩ := Option.map_eq_some_iff.mp q
  cases q; rfl
theorem calm_dmax (i : Nat) : Calm (cDMax i) := fun sl mu d mu' q => by
  unfold cDMax at q
  obtain ⟨ds, h0, q⟩ := Option.bind_eq_some_iff.mp q
  obtain ⟨ns, h1, q⟩ := Option.bind_eq_some_iff.mp q
  split at q
  · cases q; rfl
  · cases q
theorem calm_scal (hf : Calm f) : Calm (cScal f) := fun sl mu d mu' q => by
  unfold cScal at q
  obtain ⟨⟨x, m⟩, h1, q⟩ := Option.bind_eq_some_iff.mp q
  dsimp only at q
  split at q
  · cases q; exact hf _ _ _ _ h1
  · cases q
theorem calm_scalB (hu : CalmB u) : CalmB (cScalB u) := fun sl mu d mu' q => hu _ _ _ _ q
theorem calm_chain {o1 o2 : Int → Int → Bool} (hf : Calm f) (hh : Calm h) (h3 : Calm f3) : CalmB (cChain o1 o2 f h f3) := fun sl mu d mu' q => by
  obtain ⟨i, j, k, m, m2, g1, g2, g4, rfl⟩ := cChain_inv q
  rw [hh _ _ _ _ g2, hf _ _ _ _ g1]
theorem calm_binL {op : D → D → Option (List D)} (hf : Calm f) (hh : Calm h) : CalmL (cBinL op f h) := fun sl mu d mu' q => by
  unfold cBinL at q
  obtain ⟨⟨x, m⟩, h1, q⟩ := Option.bind_eq_some_iff.mp q
  obtain ⟨⟨y, m2⟩, h2, q⟩ := Option.bind_eq_some_iff.mp q
  obtain ⟨z, h3, q⟩ := Option.map_eq_some_iff.mp q
  cases q
  have e1 := hf _ _ _ _ h1
  have e2 := hh _ _ _ _ h2
  simp only at e1 e2
  rw [e2, e1]
def CalmO (f : CO) : Prop := ∀ sl mu d mu', f sl mu = some (d, mu') → mu' = mu
theorem calm_o0 : CalmO cO0 := fun sl mu d mu' q => by cases q; rfl
theorem calm_o1 (hf : Calm f) : CalmO (cO1 f) := fun sl mu d mu' q => by
  unfold cO1 at q
  obtain ⟨⟨x, m⟩, h1, q⟩ := Option.bind_eq_some_iff.mp q
  dsimp only at q
  split at q
  · cases q; exact hf _ _ _ _ h1
  · cases q
theorem calm_sl {lo hi : CO} (hf : Calm f) (hl : CalmO lo) (hh : CalmO hi) : Calm (cSl f lo hi) := fun sl mu d mu' q => by
  unfold cSl at q
  obtain ⟨⟨x, m⟩, h1, q⟩ := Option.bind_eq_some_iff.mp q
  obtain ⟨⟨l, m2⟩, h2, q⟩ := Option.bind_eq_some_iff.mp q
  obtain ⟨⟨r, m3⟩, h3, q⟩ := Option.bind_eq_some_iff.mp q
  have e1 := hf _ _ _ _ h1
  have e2 := hl _ _ _ _ h2
  have e3 := hh _ _ _ _ h3
  dsimp only at q e1 e2 e3
  split at q
  · cases q; rw [e3, e2, e1]
  · cases q; rw [e3, e2, e1]
  · cases q
end
end Y
set_option Elab.async false
set_option linter.all false
set_option maxRecDepth 100000
set_option maxHeartbeats 400000
namespace Y
open PySem PySem.Spec PyProof.Rows L2
structure WebC (K : PySem.W.Frag) (C : Addr) : Prop where
  c : SlX.SCls K C
  s0 : ∃ p, SlX.Slot1 K C "stars" p 0
  s1 : ∃ p, SlX.Slot1 K C "ties" p 1
end Y
namespace Y
open PySem PySem.Spec PyProof.Rows L2
def webInit (need : Y.Sem) : SemI := fun mu ds => match ds with
  | [d] => match need mu [d] with
    | some (mu', .ret (.int n)) => if 0 ≤ n ∧ n ≤ 100000 then (oSeq d).map fun xs => (mu', .ok [some (.tuple xs), some (.tuple (rngD n))]) else none
    | _ => none
  | _ => none
theorem webInit_inv {need : Y.Sem} {mu mu' : Mu} {ds : List D} {r : ResI} (q : webInit need mu ds = some (mu', r)) : ∃ d n xs, ds = [d] ∧ need mu [d] = some (mu', .ret (.int n)) ∧ 0 ≤ n ∧ n ≤ 100000 ∧ oSeq d = some xs ∧ r = .ok [some (.tuple xs), some (.tuple (rngD n))] := by
  unfold webInit at q
  split at q
  · split at q
    · split at q
      · rename_i w
        obtain ⟨xs, h1, q⟩ := Option.map_eq_some_iff.mp q
        cases q
        exact ⟨_, _, xs, rfl, by assumption, w.1, w.2, h1, rfl⟩
      · cases q
    · cases q
  · cases q
end Y
namespace Y
open PySem PySem.Spec PyProof.Rows L2
theorem SoE.go {P : Pl} {X : Cx} {e : Expr} {f : CE} {sl : Sls} {mu mu' : Mu} {d : D} (C : Ctx P X) (q : f sl mu = some (d, mu')) (h : SoE P e f) : XE X ⟨sl, mu⟩ e ⟨sl, mu'⟩ d := h X C sl mu d mu' q
end Y
set_option Elab.async false
set_option linter.all false
set_option maxRecDepth 100000
set_option maxHeartbeats 400000
namespace Y
open PySem PySem.Spec PyProof.Rows L2
def lcRunA {α : Type} (F : α → Mu → Option (Option D × Mu)) : List α → Mu → Option (List D × Mu)
  | [], mu => some ([], mu)
  | d :: ds, mu => (F d mu).bind fun x => (lcRunA F ds x.2).map fun r => (x.1.toList ++ r.1, r.2)
theorem lcRun_A {α : Type} (F : D → Mu → Option (Option D × Mu)) (f : α → D) : ∀ (xs : List α) (mu : Mu), lcRun F (xs.map f) mu = lcRunA (fun x m => F (f x) m) xs mu
  | [], _ => rfl
  | x :: xs, mu => by
    show (F (f x) mu).bind _ = (F (f x) mu).bind _
    congr 1
    funext r
    rw [lcRun_A F f xs]
theorem lcRunA_pure {α : Type} (g : α → Option D) : ∀ (xs : List α) (mu : Mu), lcRunA (fun x m => some (g x, m)) xs mu = some (xs.filterMap g, mu)
  | [], _ => rfl
  | x :: xs, mu => by
    show (lcRunA (fun x m => some (g x, m)) xs mu).map _ = _
    rw [lcRunA_pure g xs, List.filterMap_cons]
    cases g x <;> rfl
theorem lcRunA_mem {α : Type} {F : α → Mu → Option (Option D × Mu)} {g : α → Option D} {mu : Mu} : ∀ {xs : List α}, (∀ x ∈ xs, F x mu = some (g x, mu)) → lcRunA F xs mu = some (xs.filterMap g, mu)
  | [], _ => rfl
  | x :: xs, h => by
    show (F x mu).bind _ = _
    rw [h x List.mem_cons_self]
    show (lcRunA F xs mu).map _ = _
    rw [lcRunA_mem fun y hy => h y (List.mem_cons_of_mem _ hy), List.filterMap_cons]
    cases g x <;> rfl
theorem lcRun_mem {α : Type} {F : D → Mu → Option (Option D × Mu)} {f : α → D} {g : α → Option D} {mu : Mu} {xs : List α} (h : ∀ x ∈ xs, F (f x) mu = some (g x, mu)) : lcRun F (xs.map f) mu = some (xs.filterMap g, mu) := by
  rw [lcRun_A]
  exact lcRunA_mem h
theorem fm_some {α β : Type} (h : α → β) (xs : List α) : xs.filterMap (fun x => some (h x)) = xs.map h := by
  induction xs with
  | nil => rfl
  | cons x xs ih => rw [List.filterMap_cons, List.map_cons, ih]
theorem fm_if {α β : Type} (c : α → Bool) (h : α → β) (xs : List α) : xs.filterMap (fun x => cond (c x) (some (h x)) none) = (xs.filter c).map h := by
  induction xs with
  | nil => rfl
  | cons x xs ih =>
    rw [List.filterMap_cons, List.filter_cons]
    cases hc : c x with
    | true => simp [ih]
    | false => simp [ih]
theorem cond_pair {α β : Type} (b : Bool) (x y : α) (z : β) : (cond b (some (x, z)) (some (y, z))) = some (cond b x y, z) := by cases b <;> rfl
def lc2RunA {α : Type} (F : α → Option (List D)) : List α → Option (List D)
  | [] => some []
  | d :: ds => (F d).bind fun x => (lc2RunA F ds).map fun r => x ++ r
theorem lc2Run_A {α : Type} (F : D → Option (List D)) (f : α → D) : ∀ (xs : List α), lc2Run F (xs.map f) = lc2RunA (fun x => F (f x)) xs
  | [] => rfl
  | x :: xs => by
    show (F (f x)).bind _ = (F (f x)).bind _
    congr 1
    funext r
    rw [lc2Run_A F f xs]
theorem lc2RunA_pure {α : Type} (g : α → List D) : ∀ (xs : List α), lc2RunA (fun x => some (g x)) xs = some (xs.flatMap g)
  | [] => rfl
  | x :: xs => by
    show (lc2RunA (fun x => some (g x)) xs).map _ = _
    rw [lc2RunA_pure g xs, List.flatMap_cons]
    rfl
theorem bCons_nx {s b : CS} {Γ Γ' : En} (h : s Γ = some (.nx Γ')) : bCons s b Γ = b Γ' := by unfold bCons; rw [h]; rfl
theorem bCons_rt {s b : CS} {Γ : En} {d : D} {mu : Mu} (h : s Γ = some (.rt d mu)) : bCons s b Γ = some (.rt d mu) := by unfold bCons; rw [h]; rfl
theorem fnRun_rt {n : Nat} {b : CS} {mu mu' : Mu} {ds : List D} {d : D} (h : b (En.start n ds mu) = some (.rt d mu')) : fnRun n b mu ds = some (mu', .ret d) := by unfold fnRun; rw [h]; rfl
theorem fit_int (n : Nat) (i : Int) : fit n (.int i) = true := by cases n <;> rfl
theorem fit_bool (n : Nat) (i : Bool) : fit n (.bool i) = true := by cases n <;> rfl
theorem fit_non (n : Nat) : fit n .none = true := by cases n <;> rfl
theorem fit_tIn (n : Nat) (s : List Int) : fit (n + 1) (tI s) = true := fit_tmap (fun _ => fit_int n _) s
theorem fit_lIn (n : Nat) (s : List Int) : fit (n + 1) (lI s) = true := fit_lmap (fun _ => fit_int n _) s
theorem fit_tTn (n : Nat) (s : List (List Int)) : fit (n + 2) (tT s) = true := fit_tmap (fit_tIn n) s
theorem fit_lTn (n : Nat) (s : List (List Int)) : fit (n + 2) (lT s) = true := fit_lmap (fit_tIn n) s
theorem tI_nil : tI [] = D.tuple [] := rfl
theorem lI_nil : lI [] = D.list [] := rfl
theorem bIn_i (x : Int) (t : List Int) : bIn (.int x) (tI t) = some (decide (x ∈ t)) := by
  unfold bIn
  rw [if_pos ⟨fit_int _ _, fit_tIn 31 t⟩]
  show some (dIn (.int x) (t.map D.int)) = _
  rw [dIn_int]
theorem bIn_iL (x : Int) (t : List Int) : bIn (.int x) (lI t) = some (decide (x ∈ t)) := by
  unfold bIn
  rw [if_pos ⟨fit_int _ _, fit_lIn 31 t⟩]
  show some (dIn (.int x) (t.map D.int)) = _
  rw [dIn_int]
theorem bNin_i (x : Int) (t : List Int) : bNin (.int x) (tI t) = some (!decide (x ∈ t)) := by
  unfold bNin
  rw [if_pos ⟨fit_int _ _, fit_tIn 31 t⟩]
  show some (!dIn (.int x) (t.map D.int)) = _
  rw [dIn_int]
theorem bNin_iL (x : Int) (t : List Int) : bNin (.int x) (lI t) = some (!decide (x ∈ t)) := by
  unfold bNin
  rw [if_pos ⟨fit_int _ _, fit_lIn 31 t⟩]
  show some (!dIn (.int x) (t.map D.int)) = _
  rw [dIn_int]
theorem bIn_t (x : List Int) (t : List (List Int)) : bIn (tI x) (tT t) = some (decide (x ∈ t)) := by
  unfold bIn
  rw [if_pos ⟨fit_tIn _ _, fit_tTn 30 t⟩]
  show some (dIn (tI x) (t.map tI)) = _
  rw [dIn_tI]
theorem bIn_tL (x : List Int) (t : List (List Int)) : bIn (tI x) (lT t) = some (decide (x ∈ t)) := by
  unfold bIn
  rw [if_pos ⟨fit_tIn _ _, fit_lTn 30 t⟩]
  show some (dIn (tI x) (t.map tI)) = _
  rw [dIn_tI]
theorem bNin_t (x : List Int) (t : List (List Int)) : bNin (tI x) (tT t) = some (!decide (x ∈ t)) := by
  unfold bNin
  rw [if_pos ⟨fit_tIn _ _, fit_tTn 30 t⟩]
  show some (!dIn (tI x) (t.map tI)) = _
  rw [dIn_tI]
theorem bNin_tL (x : List Int) (t : List (List Int)) : bNin (tI x) (lT t) = some (!decide (x ∈ t)) := by
  unfold bNin
  rw [if_pos ⟨fit_tIn _ _, fit_lTn 30 t⟩]
  show some (!dIn (tI x) (t.map tI)) = _
  rw [dIn_tI]
theorem bEq_i (x y : Int) : bEq (.int x) (.int y) = some (decide (x = y)) := by
  unfold bEq
  rw [if_pos ⟨fit_int _ _, fit_int _ _⟩, deq_int]
theorem bNe_i (x y : Int) : bNe (.int x) (.int y) = some (!decide (x = y)) := by
  unfold bNe
  rw [if_pos ⟨fit_int _ _, fit_int _ _⟩, deq_int]
theorem bEq_t (x y : List Int) : bEq (tI x) (tI y) = some (decide (x = y)) := by
  unfold bEq
  rw [if_pos ⟨fit_tIn 31 _, fit_tIn 31 _⟩, deq_tI]
theorem bNe_t (x y : List Int) : bNe (tI x) (tI y) = some (!decide (x = y)) := by
  unfold bNe
  rw [if_pos ⟨fit_tIn 31 _, fit_tIn 31 _⟩, deq_tI]
theorem deq_lI (s t : List Int) : deq (lI s) (lI t) = decide (s = t) := deq_lmap deq_int s t
theorem bEq_l (x y : List Int) : bEq (lI x) (lI y) = some (decide (x = y)) := by
  unfold bEq
  rw [if_pos ⟨fit_lIn 31 _, fit_lIn 31 _⟩, deq_lI]
theorem bNe_l (x y : List Int) : bNe (lI x) (lI y) = some (!decide (x = y)) := by
  unfold bNe
  rw [if_pos ⟨fit_lIn 31 _, fit_lIn 31 _⟩, deq_lI]
theorem bEq_tT (x y : List (List Int)) : bEq (tT x) (tT y) = some (decide (x = y)) := by
  unfold bEq
  rw [if_pos ⟨fit_tTn 30 _, fit_tTn 30 _⟩, deq_tT]
theorem bNe_tT (x y : List (List Int)) : bNe (tT x) (tT y) = some (!decide (x = y)) := by
  unfold bNe
  rw [if_pos ⟨fit_tTn 30 _, fit_tTn 30 _⟩, deq_tT]
theorem bEq_lT (x y : List (List Int)) : bEq (lT x) (lT y) = some (decide (x = y)) := by
  unfold bEq
  rw [if_pos ⟨fit_lTn 30 _, fit_lTn 30 _⟩, deq_lT]
theorem bNe_lT (x y : List (List Int)) : bNe (lT x) (lT y) = some (!decide (x = y)) := by
  unfold bNe
  rw [if_pos ⟨fit_lTn 30 _, fit_lTn 30 _⟩, deq_lT]
theorem bNe_t0 (x : List Int) : bNe (tI x) (.tuple []) = some (!decide (x = [])) := bNe_t x []
theorem bEq_t0 (x : List Int) : bEq (tI x) (.tuple []) = some (decide (x = [])) := bEq_t x []
theorem bNe_l0 (x : List Int) : bNe (lI x) (.list []) = some (!decide (x = [])) := bNe_l x []
theorem bNe_lT0 (x : List (List Int)) : bNe (lT x) (.list []) = some (!decide (x = [])) := bNe_lT x []
theorem bEq_tT0 (x : List (List Int)) : bEq (tT x) (.tuple []) = some (decide (x = [])) := bEq_tT x []
theorem ints_map : ∀ s : List Int, intsD (s.map D.int) = some s
  | [] => rfl
  | x :: s => by rw [List.map_cons, intsD, ints_map s]; rfl
theorem bools_map : ∀ s : List Bool, bools (s.map D.bool) = some s
  | [] => rfl
  | x :: s => by rw [List.map_cons, bools, bools_map s]; rfl
theorem oSset_t {s : List Int} (h : s.length < 64) : oSset (tI s) = some ((norm s).map D.int) := by
  unfold oSset
  show (intsD (s.map D.int)).bind _ = _
  rw [ints_map]
  show (if s.length < 64 then _ else _) = _
  rw [if_pos h]
theorem oSset_l {s : List Int} (h : s.length < 64) : oSset (lI s) = some ((norm s).map D.int) := by
  unfold oSset
  show (intsD (s.map D.int)).bind _ = _
  rw [ints_map]
  show (if s.length < 64 then _ else _) = _
  rw [if_pos h]
theorem oAll_map {α : Type} (c : α → Bool) (xs : List α) : oAll (.list (xs.map fun x => .bool (c x))) = some (.bool (xs.all c)) := by
  show (bools _).map _ = _
  have : (xs.map fun x => D.bool (c x)) = (xs.map c).map D.bool := by rw [List.map_map]; rfl
  rw [this, bools_map]
  show some (D.bool ((xs.map c).all id)) = _
  rw [List.all_map]
  rfl
theorem oAny_map {α : Type} (c : α → Bool) (xs : List α) : oAny (.list (xs.map fun x => .bool (c x))) = some (.bool (xs.any c)) := by
  show (bools _).map _ = _
  have : (xs.map fun x => D.bool (c x)) = (xs.map c).map D.bool := by rw [List.map_map]; rfl
  rw [this, bools_map]
  show some (D.bool ((xs.map c).any id)) = _
  rw [List.any_map]
  rfl
theorem sortOk_T {ss : List (List Int)} (h : ∀ s ∈ ss, s ≠ []) : sortOk (ss.map tI) = true := by
  unfold sortOk
  rw [Bool.and_eq_true, Bool.and_eq_true]
  refine ⟨⟨?_, ?_⟩, ?_⟩
  · rw [List.all_map, List.all_eq_true]
    intro s _
    exact fit_tIn 31 s
  · rw [List.all_eq_true]
    intro x hx
    obtain ⟨s, _, rfl⟩ := List.mem_map.mp hx
    rw [List.all_eq_true]
    intro y hy
    obtain ⟨t, _, rfl⟩ := List.mem_map.mp hy
    exact alike_ints s t
  · rw [Bool.or_eq_true]
    left
    rw [List.all_map, List.all_eq_true]
    intro s hs
    have := h s hs
    cases s with
    | nil => exact absurd rfl this
    | cons x r => rfl
theorem srtD_T (ss : List (List Int)) : srtD (ss.map tI) = (srt ss).map tI := by
  unfold srtD srt
  refine (List.map_mergeSort (s := leP fun d => d) (f := tI) fun a _ b _ => ?_).symm
  have := congrFun (congrFun leP_tI a) b
  exact this.symm
theorem oSorted_T {ss : List (List Int)} (h : ∀ s ∈ ss, s ≠ []) : oSorted (lT ss) = some ((srt ss).map tI) := by
  show (if sortOk (ss.map tI) = true then some (srtD (ss.map tI)) else none) = _
  rw [if_pos (sortOk_T h), srtD_T]
theorem oSeq_l (xs : List D) : oSeq (.list xs) = some xs := rfl
theorem oSeq_t (xs : List D) : oSeq (.tuple xs) = some xs := rfl
theorem oSeq_tI (s : List Int) : oSeq (tI s) = some (s.map D.int) := rfl
theorem oSeq_lI (s : List Int) : oSeq (lI s) = some (s.map D.int) := rfl
theorem oSeq_tT (s : List (List Int)) : oSeq (tT s) = some (s.map tI) := rfl
theorem oSeq_lT (s : List (List Int)) : oSeq (lT s) = some (s.map tI) := rfl
theorem bLt_i (i j : Int) : bLt (.int i) (.int j) = some (decide (i < j)) := rfl
theorem bGt_i (i j : Int) : bGt (.int i) (.int j) = some (decide (j < i)) := rfl
theorem bLe_i (i j : Int) : bLe (.int i) (.int j) = some (decide (i ≤ j)) := rfl
theorem bGe_i (i j : Int) : bGe (.int i) (.int j) = some (decide (j ≤ i)) := rfl
theorem oLen_l (xs : List D) : oLen (.list xs) = some (.int (xs.length : Nat)) := rfl
theorem oLen_t (xs : List D) : oLen (.tuple xs) = some (.int (xs.length : Nat)) := rfl
theorem oLen_tI (xs : List Int) : oLen (tI xs) = some (.int (xs.length : Nat)) := by show some (D.int _) = _; rw [List.length_map]
theorem oLen_lI (xs : List Int) : oLen (lI xs) = some (.int (xs.length : Nat)) := by show some (D.int _) = _; rw [List.length_map]
theorem oLen_tT (xs : List (List Int)) : oLen (tT xs) = some (.int (xs.length : Nat)) := by show some (D.int _) = _; rw [List.length_map]
theorem oLen_lT (xs : List (List Int)) : oLen (lT xs) = some (.int (xs.length : Nat)) := by show some (D.int _) = _; rw [List.length_map]
end Y
set_option Elab.async false
set_option linter.all false
set_option maxRecDepth 100000
set_option maxHeartbeats 400000
namespace Y
open PySem PySem.Spec PyProof.Rows L2
def insB {α : Type} (le : α → α → Bool) (x : α) : List α → List α
  | [] => [x]
  | y :: ys => cond (le x y) (x :: y :: ys) (y :: insB le x ys)
def isort {α : Type} (le : α → α → Bool) (xs : List α) : List α := xs.foldr (insB le) []
theorem insB_perm {α : Type} (le : α → α → Bool) (x : α) : ∀ ys : List α, (insB le x ys).Perm (x :: ys)
  | [] => List.Perm.refl _
  | y :: ys => by
    unfold insB
    cases le x y with
    | true => exact List.Perm.refl _
    | false => exact ((insB_perm le x ys).cons y).trans (List.Perm.swap x y ys)
theorem isort_perm {α : Type} (le : α → α → Bool) : ∀ xs : List α, (isort le xs).Perm xs
  | [] => List.Perm.refl _
  | x :: xs => (insB_perm le x _).trans ((isort_perm le xs).cons x)
theorem insB_pw {α : Type} {le : α → α → Bool} (tr : ∀ a b c, le a b = true → le b c = true → le a c = true) (to : ∀ a b, (le a b || le b a) = true) (x : α) : ∀ {ys : List α}, ys.Pairwise (fun a b => le a b = true) → (insB le x ys).Pairwise (fun a b => le a b = true)
  | [], _ => by
    unfold insB
    exact List.pairwise_singleton _ _
  | y :: ys, h => by
    obtain ⟨h1, h2⟩ := List.pairwise_cons.mp h
    unfold insB
    cases hc : le x y with
    | true =>
      refine List.pairwise_cons.mpr ⟨fun z hz => ?_, h⟩
      rcases List.mem_cons.mp hz with e | e
      · subst e; exact hc
      · exact tr _ _ _ hc (h1 z e)
    | false =>
      have hyx : le y x = true := by have := to x y; rw [hc] at this; simpa using this
      refine List.pairwise_cons.mpr ⟨fun z hz => ?_, insB_pw tr to x h2⟩
      rcases List.mem_cons.mp ((insB_perm le x ys).mem_iff.mp hz) with e | e
      · subst e; exact hyx
      · exact h1 z e
theorem isort_pw {α : Type} {le : α → α → Bool} (tr : ∀ a b c, le a b = true → le b c = true → le a c = true) (to : ∀ a b, (le a b || le b a) = true) : ∀ xs : List α, (isort le xs).Pairwise (fun a b => le a b = true)
  | [] => List.Pairwise.nil
  | x :: xs => insB_pw tr to x (isort_pw tr to xs)
theorem mergeSort_isort {α : Type} {le : α → α → Bool} (tr : ∀ a b c, le a b = true → le b c = true → le a c = true) (to : ∀ a b, (le a b || le b a) = true) (as : ∀ a b, le a b = true → le b a = true → a = b) (xs : List α) : xs.mergeSort le = isort le xs :=
  List.Perm.eq_of_pairwise (fun a b _ _ h1 h2 => as a b h1 h2) (List.pairwise_mergeSort tr to xs) (isort_pw tr to xs) ((List.mergeSort_perm xs le).trans (isort_perm le xs).symm)
def leT (a b : List Int) : Bool := decide (a ≤ b)
theorem leT_tr (a b c : List Int) (h1 : leT a b = true) (h2 : leT b c = true) : leT a c = true := decide_eq_true (List.le_trans (of_decide_eq_true h1) (of_decide_eq_true h2))
theorem leT_to (a b : List Int) : (leT a b || leT b a) = true := by
  rw [Bool.or_eq_true]
  rcases List.le_total a b with h | h
  · exact .inl (decide_eq_true h)
  · exact .inr (decide_eq_true h)
theorem leT_as (a b : List Int) (h1 : leT a b = true) (h2 : leT b a = true) : a = b := List.le_antisymm (of_decide_eq_true h1) (of_decide_eq_true h2)
theorem srt_eq (ss : List (List Int)) : srt ss = isort leT ss := mergeSort_isort leT_tr leT_to leT_as ss
theorem srt_perm (ss : List (List Int)) : (srt ss).Perm ss := List.mergeSort_perm _ _
theorem srt_pw (ss : List (List Int)) : (srt ss).Pairwise (· ≤ ·) := (List.pairwise_mergeSort leT_tr leT_to ss).imp fun h => of_decide_eq_true h
theorem srt_len (ss : List (List Int)) : (srt ss).length = ss.length := List.length_mergeSort _
theorem srt_uniq {ss ts : List (List Int)} (h : ss.Perm ts) (hp : ts.Pairwise (· ≤ ·)) : srt ss = ts := List.Perm.eq_of_pairwise (le := fun a b : List Int => a ≤ b) (fun a b _ _ h1 h2 => List.le_antisymm h1 h2) (srt_pw ss) hp ((srt_perm ss).trans h)
theorem srt_congr {ss ts : List (List Int)} (h : ss.Perm ts) : srt ss = srt ts := srt_uniq (h.trans (srt_perm ts).symm) (srt_pw ts)
def pr (s : List Int) : D := .tuple [.int (s.length : Nat), tI s]
def leS (a b : List Int) : Bool := decide (a.length < b.length) || (decide (a.length = b.length) && decide (a ≤ b))
theorem fit_pr (n : Nat) (s : List Int) : fit (n + 2) (pr s) = true := by
  show ([D.int (s.length : Nat), tI s].all (fit (n + 1))) = true
  rw [List.all_cons, List.all_cons, fit_tIn n s, fit_int]
  rfl
theorem alike_pr (s t : List Int) : PySem.W.alike (pr s).toP (pr t).toP = true := by
  have := alike_ints s t
  simp only [pr, D.toP, D.toPs, PySem.W.alike, PySem.W.alikeAll] at this ⊢
  rw [this]
  rfl
theorem dataLt_pr (s t : List Int) : PySem.W.dataLt (pr s).toP (pr t).toP = (decide (s.length < t.length) || (decide (s.length = t.length) && decide (s < t))) := by
  have e : ∀ s : List Int, (pr s).toP = .tuple [.int (s.length : Nat), (tI s).toP] := fun s => by simp only [pr, D.toP, D.toPs]
  rw [e, e, PySem.W.dataLt_tuple, PySem.W.dataLt_cons (by simp only [PySem.W.alike])]
  have e1 : PyData.eqv (.int (s.length : Nat)) (.int (t.length : Nat)) = decide (s.length = t.length) := by
    have := deq_int (s.length : Nat) (t.length : Nat)
    show deq (.int (s.length : Nat)) (.int (t.length : Nat)) = _
    rw [this]
    by_cases h : s.length = t.length
    · rw [decide_eq_true h, decide_eq_true (by omega)]
    · rw [decide_eq_false h, decide_eq_false (by omega)]
  rw [e1]
  by_cases h : s.length = t.length
  · rw [decide_eq_true h, if_pos rfl, decide_eq_false (show ¬ s.length < t.length by omega), PySem.W.dataLt_cons (alike_ints s t)]
    have e2 : PyData.eqv (tI s).toP (tI t).toP = decide (s = t) := deq_tI s t
    rw [e2, dataLt_tI]
    by_cases h2 : s = t
    · subst h2
      rw [decide_eq_true rfl, if_pos rfl, decide_eq_false (show ¬ s < s from List.lt_irrefl s)]
      rfl
    · rw [decide_eq_false h2, if_neg (by decide)]
      simp
  · rw [decide_eq_false h, if_neg (by decide), PySem.W.dataLt_int]
    simp
theorem leP_pr : leP pr = leS := by
  funext a b
  unfold leP
  rw [PySem.W.dataLe_eq]
  simp only [cond_false]
  rw [dataLt_pr]
  unfold leS
  by_cases h1 : b.length < a.length
  · have h2 : ¬ a.length < b.length := by omega
    have h3 : ¬ a.length = b.length := by omega
    simp [h1, h2, h3]
  · by_cases h2 : a.length < b.length
    · have h3 : ¬ b.length = a.length := by omega
      simp [h1, h2, h3]
    · have h3 : a.length = b.length := by omega
      by_cases h4 : b < a
      · have : ¬ a ≤ b := fun z => List.not_le.mpr h4 z
        simp [h3, h4]
      · have : a ≤ b := List.not_lt.mp h4
        simp [h3, h4, this]
theorem leS_tr (a b c : List Int) (h1 : leS a b = true) (h2 : leS b c = true) : leS a c = true := by
  unfold leS at *
  simp only [Bool.or_eq_true, Bool.and_eq_true, decide_eq_true_eq] at *
  rcases h1 with h1 | ⟨h1, h1'⟩
  · rcases h2 with h2 | ⟨h2, _⟩
    · exact .inl (by omega)
    · exact .inl (by omega)
  · rcases h2 with h2 | ⟨h2, h2'⟩
    · exact .inl (by omega)
    · exact .inr ⟨by omega, List.le_trans h1' h2'⟩
theorem leS_to (a b : List Int) : (leS a b || leS b a) = true := by
  unfold leS
  simp only [Bool.or_eq_true, Bool.and_eq_true, decide_eq_true_eq]
  rcases Nat.lt_trichotomy a.length b.length with h | h | h
  · exact .inl (.inl h)
  · rcases List.le_total a b with h' | h'
    · exact .inl (.inr ⟨h, h'⟩)
    · exact .inr (.inr ⟨h.symm, h'⟩)
  · exact .inr (.inl h)
theorem leS_as (a b : List Int) (h1 : leS a b = true) (h2 : leS b a = true) : a = b := by
  unfold leS at *
  simp only [Bool.or_eq_true, Bool.and_eq_true, decide_eq_true_eq] at *
  rcases h1 with h1 | ⟨h1, h1'⟩
  · rcases h2 with h2 | ⟨h2, _⟩ <;> omega
  · rcases h2 with h2 | ⟨h2, h2'⟩
    · omega
    · exact List.le_antisymm h1' h2'
def bySize (ss : List (List Int)) : List (List Int) := isort leS ss
theorem sortOk_pr (ss : List (List Int)) : sortOk (ss.map pr) = true := by
  unfold sortOk
  rw [Bool.and_eq_true, Bool.and_eq_true]
  refine ⟨⟨?_, ?_⟩, ?_⟩
  · rw [List.all_map, List.all_eq_true]
    intro s _
    exact fit_pr 30 s
  · rw [List.all_eq_true]
    intro x hx
    obtain ⟨s, _, rfl⟩ := List.mem_map.mp hx
    rw [List.all_eq_true]
    intro y hy
    obtain ⟨t, _, rfl⟩ := List.mem_map.mp hy
    exact alike_pr s t
  · rw [Bool.or_eq_true]
    left
    rw [List.all_map, List.all_eq_true]
    intro s hs
    rfl
theorem oSorted_pr (ss : List (List Int)) : oSorted (.list (ss.map pr)) = some ((bySize ss).map pr) := by
  show (if sortOk (ss.map pr) = true then some (srtD (ss.map pr)) else none) = _
  rw [if_pos (sortOk_pr ss)]
  have e : srtD (ss.map pr) = (ss.mergeSort leS).map pr := by
    unfold srtD
    refine (List.map_mergeSort (s := leP fun d => d) (f := pr) fun a _ b _ => ?_).symm
    have := congrFun (congrFun leP_pr a) b
    exact this.symm
  rw [e, mergeSort_isort leS_tr leS_to leS_as]
  rfl
theorem bySize_perm (ss : List (List Int)) : (bySize ss).Perm ss := isort_perm _ _
def tot (ss : List (List Int)) : Nat := (ss.map List.length).sum
theorem tot_cons (s : List Int) (ss : List (List Int)) : tot (s :: ss) = s.length + tot ss := by simp [tot]
theorem tot_append (a b : List (List Int)) : tot (a ++ b) = tot a + tot b := by simp [tot]
theorem tot_filter (p : List Int → Bool) : ∀ ss : List (List Int), tot (ss.filter p) + tot (ss.filter fun s => !p s) = tot ss
  | [] => rfl
  | s :: ss => by
    have := tot_filter p ss
    rw [tot_cons, List.filter_cons, List.filter_cons]
    cases h : p s
    · rw [if_neg (by decide), if_pos (by decide), tot_cons]; omega
    · rw [if_pos rfl, if_neg (by decide), tot_cons]; omega
theorem tot_filter_le (p : List Int → Bool) (ss : List (List Int)) : tot (ss.filter p) ≤ tot ss := by
  have := tot_filter p ss
  omega
theorem flat_len (ss : List (List Int)) : ss.flatten.length = tot ss := by simp [tot, List.length_flatten]
def within (ss : List (List Int)) (t : List Int) : List (List Int) := (ss.map fun s => s.filter fun x => decide (x ∈ t)).filter fun s => !decide (s = [])
theorem tot_within (ss : List (List Int)) (t : List Int) : tot (within ss t) ≤ tot ss := by
  unfold within
  refine Nat.le_trans (tot_filter_le _ _) ?_
  induction ss with
  | nil => exact Nat.le_refl _
  | cons s ss ih =>
    rw [List.map_cons, tot_cons, tot_cons]
    have := List.length_filter_le (fun x => decide (x ∈ t)) s
    omega
theorem len_within (ss : List (List Int)) (t : List Int) : (within ss t).length ≤ ss.length := by
  unfold within
  refine Nat.le_trans (List.length_filter_le _ _) ?_
  rw [List.length_map]
  exact Nat.le_refl _
theorem within_ne (ss : List (List Int)) (t : List Int) : ∀ s ∈ within ss t, s ≠ [] := fun s hs => by
  have := (List.mem_filter.mp hs).2
  simpa using this
def meets (star s : List Int) : Bool := star.any fun t => decide (t ∈ s)
def gStep (found : List (List Int)) (star : List Int) : List (List Int) :=
  (found.filter fun s => !decide (s ∈ found.filter (meets star))) ++ [norm ((found.filter (meets star)).flatten ++ star)]
def gath (ss : List (List Int)) : List (List Int) := ss.foldl gStep []
theorem tot_gStep (found : List (List Int)) (star : List Int) : tot (gStep found star) ≤ tot found + star.length := by
  unfold gStep
  rw [tot_append]
  have h1 := tot_filter (meets star) found
  have h2 := len_norm ((found.filter (meets star)).flatten ++ star)
  rw [List.length_append, flat_len] at h2
  have h3 : tot (found.filter fun s => !decide (s ∈ found.filter (meets star))) ≤ tot (found.filter fun s => !(meets star s)) := by
    have key : ∀ (ss all : List (List Int)), (∀ s ∈ ss, s ∈ all) → tot (ss.filter fun s => !decide (s ∈ all.filter (meets star))) ≤ tot (ss.filter fun s => !(meets star s)) := by
      intro ss all
      induction ss with
      | nil => intro _; exact Nat.le_refl _
      | cons s ss ih =>
        intro hall
        have ih' := ih fun z hz => hall z (List.mem_cons_of_mem _ hz)
        rw [List.filter_cons, List.filter_cons]
        cases hs : meets star s with
        | true =>
          have : s ∈ all.filter (meets star) := List.mem_filter.mpr ⟨hall s List.mem_cons_self, hs⟩
          rw [decide_eq_true this]
          simpa using ih'
        | false =>
          rw [if_pos (by rfl : (!false) = true), tot_cons]
          split
          · rw [tot_cons]; omega
          · omega
    exact key found found fun s h => h
  have h4 : tot [norm ((found.filter (meets star)).flatten ++ star)] = (norm ((found.filter (meets star)).flatten ++ star)).length := by simp [tot]
  rw [h4]
  omega
theorem tot_foldG : ∀ (ss acc : List (List Int)), tot (ss.foldl gStep acc) ≤ tot acc + tot ss
  | [], acc => by simp [tot]
  | s :: ss, acc => by
    rw [List.foldl_cons, tot_cons]
    have := tot_foldG ss (gStep acc s)
    have := tot_gStep acc s
    omega
theorem tot_gath (ss : List (List Int)) : tot (gath ss) ≤ tot ss := by
  have := tot_foldG ss []
  have e : tot [] = 0 := rfl
  unfold gath
  omega
theorem len_gStep (acc : List (List Int)) (s : List Int) : (gStep acc s).length ≤ acc.length + 1 := by
  unfold gStep
  rw [List.length_append]
  have := List.length_filter_le (fun s' => !decide (s' ∈ acc.filter (meets s))) acc
  simp only [List.length_cons, List.length_nil]
  omega
theorem gStep_ne {acc : List (List Int)} {s : List Int} (h : s ≠ []) (ha : ∀ z ∈ acc, z ≠ []) : ∀ z ∈ gStep acc s, z ≠ [] := fun z hz => by
  unfold gStep at hz
  rcases List.mem_append.mp hz with hz | hz
  · exact ha z (List.mem_filter.mp hz).1
  · rw [List.mem_singleton.mp hz]
    intro e
    obtain ⟨x, hx⟩ := List.exists_mem_of_ne_nil s h
    have : x ∈ norm ((acc.filter (meets s)).flatten ++ s) := mem_norm.mpr (List.mem_append_right _ hx)
    rw [e] at this
    cases this
theorem foldG_ne : ∀ {ss acc : List (List Int)}, (∀ s ∈ ss, s ≠ []) → (∀ s ∈ acc, s ≠ []) → ∀ s ∈ ss.foldl gStep acc, s ≠ []
  | [], _, _, h => h
  | s :: ss, acc, h1, h2 => foldG_ne (ss := ss) (acc := gStep acc s) (fun z hz => h1 z (List.mem_cons_of_mem _ hz)) (gStep_ne (h1 s List.mem_cons_self) h2)
theorem gath_ne {ss : List (List Int)} (h : ∀ s ∈ ss, s ≠ []) : ∀ s ∈ gath ss, s ≠ [] := foldG_ne h fun s hs => by cases hs
def goesR (ss : List (List Int)) (t : List Int) : Bool :=
  cond (decide ((t.length : Int) = 1)) (decide (((within ss t).length : Int) = 1))
    (cond (decide ((t.length : Int) = 0) || (!decide (((within ss t).length : Int) = (t.length : Int)) || !((within ss t).all fun s => decide ((s.length : Int) = 2)))) false (decide (((gath (within ss t)).length : Int) = 1)))
def subs (ts : List Int) : List (List Int) := ts.foldl (fun acc t => acc ++ acc.map (· ++ [t])) [[]]
def setsOf (ts : List Int) : List (List Int) := bySize (subs ts)
theorem len_foldS : ∀ (ts : List Int) (acc : List (List Int)), (ts.foldl (fun acc t => acc ++ acc.map (· ++ [t])) acc).length = acc.length * 2 ^ ts.length
  | [], acc => by simp
  | t :: ts, acc => by
    rw [List.foldl_cons, len_foldS ts, List.length_append, List.length_map, List.length_cons, Nat.pow_succ]
    rw [← Nat.two_mul, Nat.mul_comm 2, Nat.mul_assoc, Nat.mul_comm (2 ^ ts.length) 2]
theorem len_subs (ts : List Int) : (subs ts).length = 2 ^ ts.length := by
  have := len_foldS ts [[]]
  simpa [subs] using this
theorem len_setsOf (ts : List Int) : (setsOf ts).length = 2 ^ ts.length := by
  unfold setsOf
  rw [(bySize_perm _).length_eq, len_subs]
theorem foldS_len : ∀ (ts : List Int) (acc : List (List Int)) (n : Nat), (∀ s ∈ acc, s.length ≤ n) → ∀ s ∈ ts.foldl (fun acc t => acc ++ acc.map (· ++ [t])) acc, s.length ≤ n + ts.length
  | [], acc, n, h => h
  | t :: ts, acc, n, h => fun s hs => by
    rw [List.foldl_cons] at hs
    have := foldS_len ts _ (n + 1) (fun z hz => ?_) s hs
    · rw [List.length_cons]; omega
    · rcases List.mem_append.mp hz with hz | hz
      · have := h z hz; omega
      · obtain ⟨y, hy, rfl⟩ := List.mem_map.mp hz
        have := h y hy
        rw [List.length_append]
        simp
        exact this
theorem subs_len {ts s : List Int} (h : s ∈ subs ts) : s.length ≤ ts.length := by
  have := foldS_len ts [[]] 0 (fun z hz => by rw [List.mem_singleton.mp hz]; exact Nat.le_refl _) s h
  omega
theorem mem_setsOf {ts s : List Int} : s ∈ setsOf ts ↔ s ∈ subs ts := (bySize_perm _).mem_iff
def rng (n : Nat) : List Int := (List.range n).map Int.ofNat
theorem rng_len (n : Nat) : (rng n).length = n := by simp [rng]
theorem rng_D (n : Nat) : rngD (n : Int) = (rng n).map D.int := by
  unfold rngD rng
  rw [List.map_map, Int.toNat_natCast]
  rfl
def rounds (ss : List (List Int)) (n : Nat) : List (List Int) := (setsOf (rng n)).filter (goesR ss)
def webD (C : Addr) (ss : List (List Int)) (n : Nat) : D := .inst C [some (tT ss), some (tI (rng n))]
end Y
namespace Y
open PySem PySem.Spec PyProof.Rows L2
theorem forRun_inv {α : Type} {G : CG} {body : CS} (f : α → D) (Iv : List α → En → Prop) (hs : ∀ x xs Γ, Iv (x :: xs) Γ → ∃ sl Γ', G Γ.sl (f x) = some sl ∧ (body ⟨sl, Γ.mu⟩ = some (.nx Γ') ∨ body ⟨sl, Γ.mu⟩ = some (.ct Γ')) ∧ Iv xs Γ') :
    ∀ (xs : List α) (Γ : En), Iv xs Γ → ∃ Γ', forRun G body (xs.map f) Γ = some (.nx Γ') ∧ Iv [] Γ'
  | [], Γ, h => ⟨Γ, rfl, h⟩
  | x :: xs, Γ, h => by
    obtain ⟨sl, Γ', h1, h2, h3⟩ := hs x xs Γ h
    obtain ⟨Γ2, h4, h5⟩ := forRun_inv f Iv hs xs Γ' h3
    refine ⟨Γ2, ?_, h5⟩
    show (G Γ.sl (f x)).bind _ = _
    rw [h1]
    show (body ⟨sl, Γ.mu⟩).bind _ = _
    rcases h2 with h2 | h2
    · rw [h2]; exact h4
    · rw [h2]; exact h4
theorem sFor_eq {it : CL} {G : CG} {body : CS} {Γ : En} {ds : List D} {mu : Mu} (h : it Γ.sl Γ.mu = some (ds, mu)) : sFor it G body Γ = forRun G body ds ⟨Γ.sl, mu⟩ := by
  unfold sFor
  rw [h]
  rfl
theorem lc2_flat {js : List (List Int)} : (js.flatMap fun x => x.map D.int) = js.flatten.map D.int := by
  induction js with
  | nil => rfl
  | cons s js ih => rw [List.flatMap_cons, ih, List.flatten_cons, List.map_append]
end Y
set_option Elab.async false
set_option linter.all false
set_option maxRecDepth 100000
set_option maxHeartbeats 400000
namespace Y
open PySem PySem.Spec PyProof.Rows L2
theorem bFor {α : Type} {it : CL} {G : CG} {body rest : CS} {Γ : En} {r : Option SO} (f : α → D) (xs : List α) (mu : Mu) (Iv : List α → En → Prop)
    (hit : it Γ.sl Γ.mu = some (xs.map f, mu)) (h0 : Iv xs ⟨Γ.sl, mu⟩)
    (hs : ∀ x xs Γ, Iv (x :: xs) Γ → ∃ sl Γ', G Γ.sl (f x) = some sl ∧ (body ⟨sl, Γ.mu⟩ = some (.nx Γ') ∨ body ⟨sl, Γ.mu⟩ = some (.ct Γ')) ∧ Iv xs Γ')
    (hr : ∀ Γ, Iv [] Γ → rest Γ = r) : bCons (sFor it G body) rest Γ = r := by
  obtain ⟨Γ', h1, h2⟩ := forRun_inv (G := G) (body := body) f Iv hs xs _ h0
  rw [bCons_nx (Γ' := Γ') ((sFor_eq hit).trans h1)]
  exact hr _ h2
theorem bForP {α : Type} {it : CL} {G : CG} {body rest : CS} {Γ : En} (P : Option SO → Prop) (f : α → D) (xs : List α) (mu : Mu) (Iv : List α → En → Prop)
    (hit : it Γ.sl Γ.mu = some (xs.map f, mu)) (h0 : Iv xs ⟨Γ.sl, mu⟩)
    (hs : ∀ x xs Γ, Iv (x :: xs) Γ → ∃ sl Γ', G Γ.sl (f x) = some sl ∧ (body ⟨sl, Γ.mu⟩ = some (.nx Γ') ∨ body ⟨sl, Γ.mu⟩ = some (.ct Γ')) ∧ Iv xs Γ')
    (hr : ∀ Γ, Iv [] Γ → P (rest Γ)) : P (bCons (sFor it G body) rest Γ) := by
  obtain ⟨Γ', h1, h2⟩ := forRun_inv (G := G) (body := body) f Iv hs xs _ h0
  rw [bCons_nx (Γ' := Γ') ((sFor_eq hit).trans h1)]
  exact hr _ h2
theorem sForI {α : Type} {it : CL} {G : CG} {body : CS} {Γ : En} (f : α → D) (xs : List α) (mu : Mu) (Iv : List α → En → Prop)
    (hit : it Γ.sl Γ.mu = some (xs.map f, mu)) (h0 : Iv xs ⟨Γ.sl, mu⟩)
    (hs : ∀ x xs Γ, Iv (x :: xs) Γ → ∃ sl Γ', G Γ.sl (f x) = some sl ∧ (body ⟨sl, Γ.mu⟩ = some (.nx Γ') ∨ body ⟨sl, Γ.mu⟩ = some (.ct Γ')) ∧ Iv xs Γ') : ∃ Γ', sFor it G body Γ = some (.nx Γ') ∧ Iv [] Γ' := by
  obtain ⟨Γ', h1, h2⟩ := forRun_inv (G := G) (body := body) f Iv hs xs _ h0
  exact ⟨Γ', (sFor_eq hit).trans h1, h2⟩
theorem whRunI {c : CB} {body : CS} (Iv : Nat → En → Prop)
    (hs : ∀ n Γ, Iv (n + 1) Γ → c Γ.sl Γ.mu = some (true, Γ.mu) ∧ ∃ Γ', body ⟨Γ.sl, Γ.mu⟩ = some (.nx Γ') ∧ Iv n Γ')
    (h0 : ∀ Γ, Iv 0 Γ → c Γ.sl Γ.mu = some (false, Γ.mu)) : ∀ (n fuel : Nat) (Γ : En), n < fuel → Iv n Γ → ∃ Γ', whRun c body fuel Γ = some (.nx Γ') ∧ Iv 0 Γ'
  | _, 0, _, h, _ => absurd h (Nat.not_lt_zero _)
  | 0, fuel + 1, Γ, _, h => ⟨⟨Γ.sl, Γ.mu⟩, by show (c Γ.sl Γ.mu).bind _ = _; rw [h0 Γ h]; rfl, h⟩
  | n + 1, fuel + 1, Γ, hl, h => by
    obtain ⟨h1, Γ1, h2, h3⟩ := hs n Γ h
    obtain ⟨Γ2, h4, h5⟩ := whRunI Iv hs h0 n fuel Γ1 (by omega) h3
    refine ⟨Γ2, ?_, h5⟩
    show (c Γ.sl Γ.mu).bind _ = _
    rw [h1]
    show (body ⟨Γ.sl, Γ.mu⟩).bind _ = _
    rw [h2]
    exact h4
theorem sIf_t {c : CB} {s t : CS} {Γ : En} {mu : Mu} (h : c Γ.sl Γ.mu = some (true, mu)) : sIf c s t Γ = s ⟨Γ.sl, mu⟩ := by unfold sIf; rw [h]; rfl
theorem sIf_f {c : CB} {s t : CS} {Γ : En} {mu : Mu} (h : c Γ.sl Γ.mu = some (false, mu)) : sIf c s t Γ = t ⟨Γ.sl, mu⟩ := by unfold sIf; rw [h]; rfl
def grows : List Int → Bool
  | [] => true
  | x :: xs => (match xs with | [] => true | y :: _ => decide (x < y)) && grows xs
theorem grows_zip : ∀ t : List Int, (t.zip (t.drop 1)).all (fun p => decide (p.1 < p.2)) = grows t
  | [] => rfl
  | [x] => rfl
  | x :: y :: t => by
    have := grows_zip (y :: t)
    show (decide (x < y) && ((y :: t).zip ((y :: t).drop 1)).all _) = _
    rw [this]
    rfl
theorem grows_of : ∀ {t : List Int}, t.Pairwise (· < ·) → grows t = true
  | [], _ => rfl
  | [x], _ => rfl
  | x :: y :: t, h => by
    have h1 := List.rel_of_pairwise_cons h List.mem_cons_self
    show (decide (x < y) && grows (y :: t)) = true
    rw [decide_eq_true h1, grows_of (List.Pairwise.of_cons h)]
    rfl
def inRg (t : List Int) (n : Int) : Bool := t.all fun x => decide (0 ≤ x) && decide (x ≤ n - 1)
def isSet (t : List Int) (n : Int) : Bool := inRg t n && grows t
theorem zipD_map : ∀ (s t : List Int), zipD (s.map D.int) (t.map D.int) = (s.zip t).map fun p => .tuple [.int p.1, .int p.2]
  | [], t => by cases t <;> rfl
  | s :: ss, [] => rfl
  | s :: ss, t :: ts => by
    show _ :: _ = _ :: _
    exact congrArg (D.tuple [.int s, .int t] :: ·) (zipD_map ss ts)
theorem cut1 {α : Type} (xs : List α) : cutL xs (some 1) none = xs.drop 1 := by
  have h : HT.sIx xs.length 0 (some 1) = min 1 xs.length := by
    unfold HT.sIx
    simp
  unfold cutL
  rw [h, show HT.sIx xs.length xs.length none = xs.length from rfl]
  cases xs with
  | nil => rfl
  | cons x xs => simp
end Y
set_option Elab.async false
set_option linter.all false
set_option maxRecDepth 100000
set_option maxHeartbeats 400000
namespace Y
open PySem PySem.Spec PyProof.Rows L2
structure OkW (ss : List (List Int)) (n : Nat) : Prop where
  ne : ∀ s ∈ ss, s ≠ []
  st : ∀ s ∈ ss, s.Pairwise (· < ·)
  so : ss.Pairwise (· ≤ ·)
  two : ∀ t, ss.flatten.count t ≤ 2
  all : ∀ t, t ∈ ss.flatten ↔ 0 ≤ t ∧ t < (n : Int)
  le : n ≤ 12
theorem two_len : ∀ (n : Nat) (l : List Int), (∀ t, l.count t ≤ 2) → (∀ t ∈ l, 0 ≤ t ∧ t < (n : Int)) → l.length ≤ 2 * n
  | 0, l, _, h => by
    cases l with
    | nil => simp
    | cons x l => have := h x List.mem_cons_self; omega
  | n + 1, l, h2, h => by
    have h3 := two_len n (l.filter fun t => !decide (t = (n : Int))) (fun t => Nat.le_trans (List.Sublist.count_le t List.filter_sublist) (h2 t)) (fun t ht => by
      obtain ⟨h4, h5⟩ := List.mem_filter.mp ht
      have := h t h4
      have h6 : t ≠ (n : Int) := by simpa using h5
      omega)
    have h4 : l.length = (l.filter fun t => !decide (t = (n : Int))).length + l.count (n : Int) := by
      rw [List.count_eq_countP, List.countP_eq_length_filter]
      clear h3 h2 h
      induction l with
      | nil => rfl
      | cons x l ih =>
        by_cases e : x = (n : Int)
        · simp [List.filter_cons, e, ih]; omega
        · simp [List.filter_cons, e, ih]; omega
    have := h2 (n : Int)
    omega
theorem len_le_tot : ∀ {ss : List (List Int)}, (∀ s ∈ ss, s ≠ []) → ss.length ≤ tot ss
  | [], _ => Nat.zero_le _
  | s :: ss, h => by
    rw [tot_cons, List.length_cons]
    have h1 := len_le_tot fun s hs => h s (List.mem_cons_of_mem _ hs)
    have h2 := List.length_pos_iff.mpr (h s List.mem_cons_self)
    omega
theorem OkW.tot {ss : List (List Int)} {n : Nat} (h : OkW ss n) : tot ss ≤ 24 := by
  have := two_len n ss.flatten h.two fun t ht => (h.all t).mp ht
  rw [flat_len] at this
  have := h.le
  omega
theorem OkW.len {ss : List (List Int)} {n : Nat} (h : OkW ss n) : ss.length ≤ 24 := Nat.le_trans (len_le_tot h.ne) h.tot
theorem nodup_len : ∀ {l m : List Int}, l.Nodup → (∀ x ∈ l, x ∈ m) → l.length ≤ m.length
  | [], m, _, _ => Nat.zero_le _
  | x :: l, m, hn, hs => by
    have hx := hs x List.mem_cons_self
    have h1 := nodup_len (l := l) (m := m.erase x) hn.of_cons fun y hy => (List.mem_erase_of_ne (fun e => by subst e; exact (List.nodup_cons.mp hn).1 hy)).mpr (hs y (List.mem_cons_of_mem _ hy))
    rw [List.length_erase_of_mem hx] at h1
    have := List.length_pos_of_mem hx
    rw [List.length_cons]
    omega
def keysOf (p : List Int) : List Int := p.foldl (fun ks t => if t ∈ ks then ks else ks ++ [t]) []
theorem keysOf_snoc (p : List Int) (t : Int) : keysOf (p ++ [t]) = if t ∈ keysOf p then keysOf p else keysOf p ++ [t] := by
  unfold keysOf
  rw [List.foldl_append]
  rfl
theorem rev_ind {P : List Int → Prop} (h0 : P []) (hs : ∀ p t, P p → P (p ++ [t])) (p : List Int) : P p := by
  have : ∀ q : List Int, P q.reverse := fun q => by
    induction q with
    | nil => exact h0
    | cons x q ih => rw [List.reverse_cons]; exact hs _ _ ih
  have := this p.reverse
  rwa [List.reverse_reverse] at this
theorem mem_keysOf (p : List Int) : ∀ x, x ∈ keysOf p ↔ x ∈ p := by
  refine rev_ind (P := fun p => ∀ x, x ∈ keysOf p ↔ x ∈ p) (fun x => Iff.rfl) (fun p t ih x => ?_) p
  rw [keysOf_snoc]
  split
  · rename_i h
    rw [ih] at h
    rw [ih, List.mem_append, List.mem_singleton]
    exact ⟨.inl, fun z => z.elim id fun e => e ▸ h⟩
  · rw [List.mem_append, List.mem_append, ih]
theorem keysOf_nodup (p : List Int) : (keysOf p).Nodup := by
  refine rev_ind (P := fun p => (keysOf p).Nodup) List.nodup_nil (fun p t ih => ?_) p
  rw [keysOf_snoc]
  split
  · exact ih
  · rename_i h
    rw [List.nodup_append]
    exact ⟨ih, by simp, fun a ha b hb => by rw [List.mem_singleton.mp hb]; rintro rfl; exact h ha⟩
def cntD (p : List Int) : List (Key × D) := (keysOf p).map fun t => (Sum.inl t, .int (p.count t : Nat))
theorem getG_map (g : Int → D) (t : Int) : ∀ ks : List Int, getG (ks.map fun t => ((Sum.inl t : Key), g t)) (Sum.inl t) = if t ∈ ks then some (g t) else none
  | [] => rfl
  | k :: ks => by
    have ih := getG_map g t ks
    unfold getG at *
    rw [List.map_cons, List.find?_cons]
    by_cases e : k = t
    · subst e
      simp
    · have : decide ((Sum.inl k : Key) = Sum.inl t) = false := by simpa using e
      simp only [this]
      rw [ih]
      have : (t ∈ k :: ks) = (t ∈ ks) := by simp [Ne.symm e]
      simp only [this]
theorem any_map (g : Int → D) (t : Int) (ks : List Int) : ((ks.map fun t => ((Sum.inl t : Key), g t)).any fun kv => decide (kv.1 = Sum.inl t)) = decide (t ∈ ks) := by
  induction ks with
  | nil => rfl
  | cons k ks ih =>
    rw [List.map_cons, List.any_cons, ih]
    by_cases e : k = t
    · simp [e]
    · have : decide ((Sum.inl k : Key) = Sum.inl t) = false := by simpa using e
      rw [this]
      simp [Ne.symm e]
theorem putG_map (g : Int → D) (v : D) (t : Int) (ks : List Int) : putG (ks.map fun t => ((Sum.inl t : Key), g t)) (Sum.inl t) v = (if t ∈ ks then ks else ks ++ [t]).map fun x => ((Sum.inl x : Key), if x = t then v else g x) := by
  unfold putG
  rw [any_map]
  by_cases h : t ∈ ks
  · rw [if_pos (by simpa using h), if_pos h, List.map_map]
    refine List.map_congr_left fun x _ => ?_
    by_cases e : x = t
    · simp [e]
    · simp [e]
  · rw [if_neg (by simpa using h), if_neg h, List.map_append]
    have : (ks.map fun x => ((Sum.inl x : Key), if x = t then v else g x)) = ks.map fun t => (Sum.inl t, g t) := List.map_congr_left fun x hx => by
      rw [if_neg (fun e : x = t => h (e ▸ hx))]
    rw [this]
    simp
theorem cntD_put (p : List Int) (t : Int) : putG (cntD p) (Sum.inl t) (.int ((p.count t : Nat) + 1)) = cntD (p ++ [t]) := by
  unfold cntD
  rw [putG_map, keysOf_snoc]
  refine List.map_congr_left fun x hx => ?_
  by_cases e : x = t
  · subst e; simp
  · rw [if_neg e, List.count_append]; simp [e, Ne.symm e]
theorem cntD_get (p : List Int) (t : Int) : (getG (cntD p) (Sum.inl t)).getD (.int 0) = .int (p.count t : Nat) := by
  unfold cntD
  rw [getG_map]
  by_cases h : t ∈ keysOf p
  · rw [if_pos h]; rfl
  · rw [if_neg h]
    have : p.count t = 0 := List.count_eq_zero.mpr fun z => h ((mem_keysOf _ _).mpr z)
    rw [this]; rfl
theorem cntD_at (p : List Int) (t : Int) : getG (cntD (p ++ [t])) (Sum.inl t) = some (.int ((p ++ [t]).count t : Nat)) := by
  unfold cntD
  rw [getG_map, if_pos ((mem_keysOf _ _).mpr (by simp))]
theorem cntD_len (p : List Int) : (cntD p).length = (keysOf p).length := List.length_map _
theorem keysOf_len (p : List Int) : (keysOf p).length ≤ p.length := nodup_len (keysOf_nodup p) fun x hx => (mem_keysOf _ _).mp hx
theorem intKeys_map (g : Int → D) : ∀ ks : List Int, intKeys (ks.map fun t => ((Sum.inl t : Key), g t)) = some ks
  | [] => rfl
  | k :: ks => by
    show (intKeys (ks.map _)).map _ = _
    rw [intKeys_map g ks]
    rfl
theorem cntD_keys (p : List Int) : intKeys (cntD p) = some (keysOf p) := intKeys_map _ _
theorem rng_mem {n : Nat} {t : Int} : t ∈ rng n ↔ 0 ≤ t ∧ t < (n : Int) := by
  unfold rng
  rw [List.mem_map]
  constructor
  · rintro ⟨k, hk, rfl⟩
    have := List.mem_range.mp hk
    exact ⟨Int.natCast_nonneg k, Int.ofNat_lt.mpr this⟩
  · rintro ⟨h1, h2⟩
    exact ⟨t.toNat, List.mem_range.mpr (by omega), Int.toNat_of_nonneg h1⟩
theorem rng_pw (n : Nat) : (rng n).Pairwise (· < ·) := by
  unfold rng
  rw [List.pairwise_map]
  exact List.pairwise_lt_range.imp fun h => Int.ofNat_lt.mpr h
theorem rng_nodup (n : Nat) : (rng n).Nodup := (rng_pw n).imp fun h e => by omega
theorem keys_len {p : List Int} {n : Nat} (h : ∀ t, t ∈ p ↔ 0 ≤ t ∧ t < (n : Int)) : (keysOf p).length = n := by
  have h1 := nodup_len (m := rng n) (keysOf_nodup p) fun x hx => rng_mem.mpr ((h x).mp ((mem_keysOf _ _).mp hx))
  have h2 := nodup_len (m := keysOf p) (rng_nodup n) fun x hx => (mem_keysOf _ _).mpr ((h x).mpr (rng_mem.mp hx))
  rw [rng_len] at h1 h2
  omega
theorem keys_max {p : List Int} {n : Nat} (h : ∀ t, t ∈ p ↔ 0 ≤ t ∧ t < (n : Int)) (hn : 0 < n) : maxI (keysOf p) = (n : Int) - 1 := by
  refine (maxI_eq ((mem_keysOf _ _).mpr ((h _).mpr (by omega))) fun y hy => ?_).symm
  have := (h y).mp ((mem_keysOf _ _).mp hy)
  omega
def enumF {α : Type} : Nat → List α → List (Nat × α)
  | _, [] => []
  | k, x :: xs => (k, x) :: enumF (k + 1) xs
theorem enumF_len {α : Type} : ∀ (k : Nat) (xs : List α), (enumF k xs).length = xs.length
  | _, [] => rfl
  | k, x :: xs => congrArg (· + 1) (enumF_len (k + 1) xs)
theorem enumF_get {α : Type} : ∀ (k : Nat) (xs : List α) (i : Nat), (enumF k xs)[i]? = (xs[i]?).map fun x => (k + i, x)
  | _, [], i => by simp [enumF]
  | k, x :: xs, 0 => by simp [enumF]
  | k, x :: xs, i + 1 => by
    rw [enumF, List.getElem?_cons_succ, List.getElem?_cons_succ, enumF_get, Nat.add_right_comm, Nat.add_assoc]
theorem enumD_map {α : Type} (f : α → D) (xs : List α) : enumD (xs.map f) = (enumF 0 xs).map fun p => .tuple [.int (p.1 : Nat), f p.2] := by
  refine List.ext_getElem? fun i => ?_
  unfold enumD
  rw [List.getElem?_map, List.getElem?_map, enumF_get]
  by_cases h : i < xs.length
  · rw [List.getElem?_range (by simpa using h), List.getElem?_eq_getElem h]
    simp [h]
  · rw [List.getElem?_eq_none (by simpa using h), List.getElem?_eq_none (by simpa using h)]
    rfl
theorem atI_nat {α : Type} (xs : List α) (i : Nat) : atI xs (i : Int) = xs[i]? := by
  unfold atI ixN
  rw [if_pos (Int.natCast_nonneg i)]
  by_cases h : i < xs.length
  · rw [if_pos (Int.ofNat_lt.mpr h)]; rfl
  · rw [if_neg (fun z => h (Int.ofNat_lt.mp z))]
    exact (List.getElem?_eq_none (Nat.le_of_not_lt h)).symm
theorem lt_irr (a b : List Int) (h : a ≤ b) : decide (b < a) = false := by
  refine decide_eq_false fun h2 => ?_
  exact absurd h (List.not_le.mpr h2)
theorem bGt_t (a b : List Int) : bGt (tI a) (tI b) = some (decide (b < a)) := by
  show (if _ then some (PySem.W.dataLt _ _) else none) = _
  rw [if_pos ⟨fit_tIn 31 a, fit_tIn 31 b, alike_ints a b, rfl⟩, dataLt_tI]
theorem perm_of {α : Type} [DecidableEq α] : ∀ {l m : List α}, (∀ x, x ∈ l ↔ x ∈ m) → l.Nodup → m.Nodup → l.Perm m
  | [], m, h, _, _ => by
    cases m with
    | nil => exact .nil
    | cons x m => exact absurd ((h x).mpr List.mem_cons_self) (by simp)
  | x :: l, m, h, hl, hm => by
    have hx : x ∈ m := (h x).mp List.mem_cons_self
    obtain ⟨h1, h2⟩ := List.nodup_cons.mp hl
    refine (List.Perm.cons x (perm_of (l := l) (m := m.erase x) (fun y => ?_) h2 (hm.erase x))).trans (List.perm_cons_erase hx).symm
    by_cases e : y = x
    · subst e
      exact ⟨fun z => absurd z h1, fun z => absurd z hm.not_mem_erase⟩
    · rw [List.mem_erase_of_ne e, ← h y]
      simp [e]
end Y
set_option Elab.async false
set_option linter.all false
set_option maxRecDepth 100000
set_option maxHeartbeats 400000
namespace Y
open PySem PySem.Spec PyProof.Rows L2
theorem shownAll_map : ∀ xs : List PyData, PyData.shownAll xs = xs.map PyData.shown
  | [] => rfl
  | x :: xs => congrArg (PyData.shown x :: ·) (shownAll_map xs)
theorem showableAll_map : ∀ xs : List PyData, PyData.showableAll xs = xs.all PyData.showable
  | [] => rfl
  | x :: xs => congrArg (PyData.showable x && ·) (showableAll_map xs)
def okS (x : Str) : Prop := PyData.strOk x = true
theorem okS_app {a b : Str} (ha : okS a) (hb : okS b) : okS (a ++ b) := by
  unfold okS PyData.strOk at *
  show (a.cps ++ b.cps).all _ = true
  rw [Array.all_append, ha, hb]
  rfl
theorem okS_of (s : String) : okS (Str.ofString s) := by
  unfold okS PyData.strOk
  rw [Str.ofString_eq_toList]
  show (s.toList.map Char.toNat).toArray.all _ = true
  rw [List.all_toArray, List.all_map, List.all_eq_true]
  intro c _
  have h := c.valid
  show decide (c.toNat < 0x110000) = true
  refine decide_eq_true ?_
  rcases h with h | h
  · exact Nat.lt_trans h (by decide)
  · exact h.2
theorem okS_join {sep : Str} (h : okS sep) : ∀ {ts : List Str}, (∀ t ∈ ts, okS t) → okS (Str.join sep ts)
  | [], _ => (show PyData.strOk Str.empty = true by simp [PyData.strOk, Str.empty])
  | [x], h1 => h1 x List.mem_cons_self
  | x :: y :: r, h1 => okS_app (okS_app (h1 x List.mem_cons_self) h) (okS_join h fun t ht => h1 t (List.mem_cons_of_mem _ ht))
theorem okS_tup {ts : List Str} (h : ∀ t ∈ ts, okS t) : okS (tupleText ts) := okS_app (okS_app (okS_of _) (okS_join (okS_of _) h)) (okS_of _)
theorem okS_from : ∀ {ts : List Str} (k : Nat) {acc : Str}, okS acc → (∀ t ∈ ts, okS t) → okS (textFrom k acc ts)
  | [], _, acc, ha, _ => ha
  | t :: r, k, acc, ha, h => okS_from (k + 1) (okS_app (okS_app ha (okS_of _)) (h t List.mem_cons_self)) fun t ht => h t (List.mem_cons_of_mem _ ht)
theorem okS_list {ts : List Str} (h : ∀ t ∈ ts, okS t) : okS (listText ts) := okS_app (okS_from 0 (okS_of _) h) (okS_of _)
structure Shn (d : D) (n : Nat) : Prop where
  fit : fit 32 d = true
  shw : d.toP.showable = true
  len : (txt d).length ≤ n
  ok : okS (txt d)
theorem Shn.le {d : D} {n m : Nat} (h : Shn d n) (hm : n ≤ m) : Shn d m := ⟨h.fit, h.shw, Nat.le_trans h.len hm, h.ok⟩
theorem Shn.repr {d : D} {n : Nat} (h : Shn d n) (hn : n ≤ 1000000) : oRepr d = some (.str (txt d)) := by
  unfold oRepr shwB
  rw [h.fit, h.shw, decide_eq_true (Nat.le_trans h.len hn)]
  rfl
theorem deq_str (t : Str) : deq (.str t) (.str t) = true := by
  show PyData.eqv (.str t) (.str t) = true
  simp [PyData.eqv]
theorem Shn.same {d : D} {n : Nat} (h : Shn d n) : bEq (.str (txt d)) (.str (txt d)) = some true := by
  unfold bEq
  rw [if_pos ⟨h.ok, h.ok⟩, deq_str]
theorem sum_le {ts : List Str} {n : Nat} (h : ∀ t ∈ ts, t.length ≤ n) : (ts.map (·.length)).sum ≤ n * ts.length := by
  induction ts with
  | nil => simp
  | cons t ts ih =>
    have h1 := h t List.mem_cons_self
    have h2 := ih fun t ht => h t (List.mem_cons_of_mem _ ht)
    rw [List.map_cons, List.sum_cons, List.length_cons, Nat.mul_succ]
    omega
theorem toP_tuple (ds : List D) : (D.tuple ds).toP = .tuple (ds.map D.toP) := by
  show PyData.tuple (D.toPs ds) = _
  rw [toPs_eq]
theorem toP_list (ds : List D) : (D.list ds).toP = .list (ds.map D.toP) := by
  show PyData.list (D.toPs ds) = _
  rw [toPs_eq]
theorem shn_bool (b : Bool) : Shn (.bool b) 5 := ⟨rfl, rfl, by cases b <;> decide, by cases b <;> exact okS_of _⟩
theorem shn_int {i : Int} (h : i.natAbs < 10 ^ 12) : Shn (.int i) 13 := ⟨rfl, decide_eq_true (by
  by_cases h0 : i.natAbs = 0
  · rw [h0]; decide
  · exact Nat.lt_of_lt_of_le ((Nat.log2_lt h0).mpr (Nat.lt_trans h (show 10 ^ 12 < 2 ^ 40 by decide))) (by decide)), PyData.shown_int_le h, okS_of _⟩
theorem shn_tup {ds : List D} {n : Nat} (hf : fit 32 (.tuple ds) = true) (h : ∀ d ∈ ds, Shn d n) : Shn (.tuple ds) ((n + 2) * ds.length + 3) := by
  have e : txt (.tuple ds) = tupleText (ds.map txt) := by
    show (D.tuple ds).toP.shown = _
    rw [toP_tuple]
    show tupleText (PyData.shownAll _) = _
    rw [shownAll_map, List.map_map]
    rfl
  have hl : ∀ t ∈ ds.map txt, t.length ≤ n := fun t ht => by
    obtain ⟨d, hd, rfl⟩ := List.mem_map.mp ht
    exact (h d hd).len
  refine ⟨hf, ?_, ?_, ?_⟩
  · rw [toP_tuple]
    show PyData.showableAll _ = true
    rw [showableAll_map, List.all_map, List.all_eq_true]
    exact fun d hd => (h d hd).shw
  · rw [e]
    have h1 := tupleText_len_le (ds.map txt)
    have h2 := sum_le hl
    rw [List.length_map] at h1 h2
    rw [Nat.add_mul]
    omega
  · rw [e]
    exact okS_tup fun t ht => by
      obtain ⟨d, hd, rfl⟩ := List.mem_map.mp ht
      exact (h d hd).ok
theorem shn_tI {s : List Int} {m : Nat} (h : ∀ x ∈ s, x.natAbs < 10 ^ 12) (hm : s.length ≤ m) : Shn (tI s) (15 * m + 3) := by
  have := shn_tup (ds := s.map D.int) (n := 13) (fit_tIn 31 s) fun d hd => by
    obtain ⟨x, hx, rfl⟩ := List.mem_map.mp hd
    exact shn_int (h x hx)
  exact this.le (by rw [List.length_map]; omega)
theorem shn_tT {ss : List (List Int)} {m k : Nat} (h : ∀ s ∈ ss, ∀ x ∈ s, x.natAbs < 10 ^ 12) (hm : ∀ s ∈ ss, s.length ≤ m) (hk : ss.length ≤ k) : Shn (tT ss) ((15 * m + 5) * k + 3) := by
  have := shn_tup (ds := ss.map tI) (n := 15 * m + 3) (fit_tTn 30 ss) fun d hd => by
    obtain ⟨s, hs, rfl⟩ := List.mem_map.mp hd
    exact shn_tI (h s hs) (hm s hs)
  refine this.le ?_
  rw [List.length_map]
  exact Nat.add_le_add_right (Nat.mul_le_mul_left (15 * m + 5) hk) 3
end Y
set_option Elab.async false
set_option linter.all false
set_option maxRecDepth 100000
set_option maxHeartbeats 400000
namespace T
open PySem PySem.Spec PyProof.Rows L2 Y
def topS (i : Nat) : Stmt := PySem.Challenge.pw_samerounds_k05_whole_rounds.main.body.getD i (.Pass ⟨0, 0, 0, 0⟩)
def inS (s : Stmt) (i : Nat) : Stmt := match s with | .ClassDef _ _ _ b _ _ _ _ _ _ _ => b.getD i (.Pass ⟨0, 0, 0, 0⟩) | _ => .Pass ⟨0, 0, 0, 0⟩
abbrev s_is_whole : Stmt := topS 9
abbrev P_is_whole : List Str := ["value"]
abbrev N_is_whole : List Str := ["value"]
theorem sc_is_whole : FnScope N_is_whole P_is_whole (defScope s_is_whole) := ⟨rfl, rfl, rfl, by decide +kernel, rfl, by decide +kernel, by decide +kernel⟩
abbrev s_is_among : Stmt := topS 10
abbrev P_is_among : List Str := ["value", "least", "most"]
abbrev N_is_among : List Str := ["value", "least", "most"]
theorem sc_is_among : FnScope N_is_among P_is_among (defScope s_is_among) := ⟨rfl, rfl, rfl, by decide +kernel, rfl, by decide +kernel, by decide +kernel⟩
abbrev s_is_list : Stmt := topS 11
abbrev P_is_list : List Str := ["value"]
abbrev N_is_list : List Str := ["value"]
theorem sc_is_list : FnScope N_is_list P_is_list (defScope s_is_list) := ⟨rfl, rfl, rfl, by decide +kernel, rfl, by decide +kernel, by decide +kernel⟩
abbrev s_is_set_of : Stmt := topS 12
abbrev P_is_set_of : List Str := ["value", "many"]
abbrev N_is_set_of : List Str := ["value", "many", "tie", "one", "other"]
theorem sc_is_set_of : FnScope N_is_set_of P_is_set_of (defScope s_is_set_of) := ⟨rfl, rfl, rfl, by decide +kernel, rfl, by decide +kernel, by decide +kernel⟩
abbrev s_need_stars : Stmt := topS 13
abbrev P_need_stars : List Str := ["stars"]
abbrev N_need_stars : List Str := ["stars", "counts", "number", "star", "tie"]
theorem sc_need_stars : FnScope N_need_stars P_need_stars (defScope s_need_stars) := ⟨rfl, rfl, rfl, by decide +kernel, rfl, by decide +kernel, by decide +kernel⟩
abbrev s_is_end : Stmt := topS 15
abbrev P_is_end : List Str := ["value"]
abbrev N_is_end : List Str := ["value", "place"]
theorem sc_is_end : FnScope N_is_end P_is_end (defScope s_is_end) := ⟨rfl, rfl, rfl, by decide +kernel, rfl, by decide +kernel, by decide +kernel⟩
abbrev s_web_of : Stmt := topS 16
abbrev P_web_of : List Str := ["ends"]
abbrev N_web_of : List Str := ["ends", "found", "tie", "pair", "place"]
theorem sc_web_of : FnScope N_web_of P_web_of (defScope s_web_of) := ⟨rfl, rfl, rfl, by decide +kernel, rfl, by decide +kernel, by decide +kernel⟩
abbrev s_gathered : Stmt := topS 17
abbrev P_gathered : List Str := ["stars"]
abbrev N_gathered : List Str := ["stars", "found", "star", "joined", "some", "tie"]
theorem sc_gathered : FnScope N_gathered P_gathered (defScope s_gathered) := ⟨rfl, rfl, rfl, by decide +kernel, rfl, by decide +kernel, by decide +kernel⟩
abbrev s_within : Stmt := topS 19
abbrev P_within : List Str := ["stars", "some"]
abbrev N_within : List Str := ["stars", "some", "found", "star", "tie"]
theorem sc_within : FnScope N_within P_within (defScope s_within) := ⟨rfl, rfl, rfl, by decide +kernel, rfl, by decide +kernel, by decide +kernel⟩
abbrev s_goes_round : Stmt := topS 20
abbrev P_goes_round : List Str := ["stars", "some"]
abbrev N_goes_round : List Str := ["stars", "some", "inner", "star"]
theorem sc_goes_round : FnScope N_goes_round P_goes_round (defScope s_goes_round) := ⟨rfl, rfl, rfl, by decide +kernel, rfl, by decide +kernel, by decide +kernel⟩
abbrev s_is_round : Stmt := topS 21
abbrev P_is_round : List Str := ["web", "value"]
abbrev N_is_round : List Str := ["web", "value"]
theorem sc_is_round : FnScope N_is_round P_is_round (defScope s_is_round) := ⟨rfl, rfl, rfl, by decide +kernel, rfl, by decide +kernel, by decide +kernel⟩
abbrev s_sets_of : Stmt := topS 22
abbrev P_sets_of : List Str := ["ties"]
abbrev N_sets_of : List Str := ["ties", "found", "tie", "some", "count"]
theorem sc_sets_of : FnScope N_sets_of P_sets_of (defScope s_sets_of) := ⟨rfl, rfl, rfl, by decide +kernel, rfl, by decide +kernel, by decide +kernel⟩
abbrev s_rounds : Stmt := topS 23
abbrev P_rounds : List Str := ["web"]
abbrev N_rounds : List Str := ["web", "some"]
theorem sc_rounds : FnScope N_rounds P_rounds (defScope s_rounds) := ⟨rfl, rfl, rfl, by decide +kernel, rfl, by decide +kernel, by decide +kernel⟩
abbrev s__law_mixed : Stmt := topS 25
abbrev P__law_mixed : List Str := ["cell", "n"]
abbrev N__law_mixed : List Str := ["cell", "n", "blend"]
theorem sc__law_mixed : FnScope N__law_mixed P__law_mixed (defScope s__law_mixed) := ⟨rfl, rfl, rfl, by decide +kernel, rfl, by decide +kernel, by decide +kernel⟩
abbrev s__law_folded : Stmt := topS 26
abbrev P__law_folded : List Str := ["script"]
abbrev N__law_folded : List Str := ["script", "found", "n", "cell"]
theorem sc__law_folded : FnScope N__law_folded P__law_folded (defScope s__law_folded) := ⟨rfl, rfl, rfl, by decide +kernel, rfl, by decide +kernel, by decide +kernel⟩
abbrev s__law_draw : Stmt := topS 27
abbrev P__law_draw : List Str := ["m", "limit"]
abbrev N__law_draw : List Str := ["m", "limit", "n", "lot", "here", "cell"]
theorem sc__law_draw : FnScope N__law_draw P__law_draw (defScope s__law_draw) := ⟨rfl, rfl, rfl, by decide +kernel, rfl, by decide +kernel, by decide +kernel⟩
abbrev s__law_begun : Stmt := topS 28
abbrev P__law_begun : List Str := ["script"]
abbrev N__law_begun : List Str := ["script", "m", "cell"]
theorem sc__law_begun : FnScope N__law_begun P__law_begun (defScope s__law_begun) := ⟨rfl, rfl, rfl, by decide +kernel, rfl, by decide +kernel, by decide +kernel⟩
abbrev s__law_like : Stmt := topS 29
abbrev P__law_like : List Str := ["told", "due"]
abbrev N__law_like : List Str := ["told", "due"]
theorem sc__law_like : FnScope N__law_like P__law_like (defScope s__law_like) := ⟨rfl, rfl, rfl, by decide +kernel, rfl, by decide +kernel, by decide +kernel⟩
abbrev s__law_ends : Stmt := topS 30
abbrev P__law_ends : List Str := ["m", "most"]
abbrev N__law_ends : List Str := ["m", "most", "many", "way", "places", "found", "tie", "old", "fresh", "number"]
theorem sc__law_ends : FnScope N__law_ends P__law_ends (defScope s__law_ends) := ⟨rfl, rfl, rfl, by decide +kernel, rfl, by decide +kernel, by decide +kernel⟩
abbrev s__law_order : Stmt := topS 31
abbrev P__law_order : List Str := ["m", "many"]
abbrev N__law_order : List Str := ["m", "many", "rest", "found"]
theorem sc__law_order : FnScope N__law_order P__law_order (defScope s__law_order) := ⟨rfl, rfl, rfl, by decide +kernel, rfl, by decide +kernel, by decide +kernel⟩
abbrev s__law_stars : Stmt := topS 32
abbrev P__law_stars : List Str := ["ends"]
abbrev N__law_stars : List Str := ["ends", "found", "place", "star", "tie"]
theorem sc__law_stars : FnScope N__law_stars P__law_stars (defScope s__law_stars) := ⟨rfl, rfl, rfl, by decide +kernel, rfl, by decide +kernel, by decide +kernel⟩
abbrev s__law_web : Stmt := topS 33
abbrev P__law_web : List Str := ["m", "most"]
abbrev N__law_web : List Str := ["m", "most"]
theorem sc__law_web : FnScope N__law_web P__law_web (defScope s__law_web) := ⟨rfl, rfl, rfl, by decide +kernel, rfl, by decide +kernel, by decide +kernel⟩
abbrev s__law_many : Stmt := topS 34
abbrev P__law_many : List Str := ["stars"]
abbrev N__law_many : List Str := ["stars", "star"]
theorem sc__law_many : FnScope N__law_many P__law_many (defScope s__law_many) := ⟨rfl, rfl, rfl, by decide +kernel, rfl, by decide +kernel, by decide +kernel⟩
abbrev s__law_within : Stmt := topS 35
abbrev P__law_within : List Str := ["stars", "some"]
abbrev N__law_within : List Str := ["stars", "some", "found", "star", "tie"]
theorem sc__law_within : FnScope N__law_within P__law_within (defScope s__law_within) := ⟨rfl, rfl, rfl, by decide +kernel, rfl, by decide +kernel, by decide +kernel⟩
abbrev s__law_lots : Stmt := topS 36
abbrev P__law_lots : List Str := ["stars"]
abbrev N__law_lots : List Str := ["stars", "found", "star", "joined", "some", "tie", "more"]
theorem sc__law_lots : FnScope N__law_lots P__law_lots (defScope s__law_lots) := ⟨rfl, rfl, rfl, by decide +kernel, rfl, by decide +kernel, by decide +kernel⟩
abbrev s__law_is_round : Stmt := topS 37
abbrev P__law_is_round : List Str := ["stars", "some"]
abbrev N__law_is_round : List Str := ["stars", "some", "inner", "star"]
theorem sc__law_is_round : FnScope N__law_is_round P__law_is_round (defScope s__law_is_round) := ⟨rfl, rfl, rfl, by decide +kernel, rfl, by decide +kernel, by decide +kernel⟩
abbrev s__law_sets : Stmt := topS 38
abbrev P__law_sets : List Str := ["many"]
abbrev N__law_sets : List Str := ["many", "found", "tie", "some", "pair"]
theorem sc__law_sets : FnScope N__law_sets P__law_sets (defScope s__law_sets) := ⟨rfl, rfl, rfl, by decide +kernel, rfl, by decide +kernel, by decide +kernel⟩
abbrev s__law_rounds : Stmt := topS 39
abbrev P__law_rounds : List Str := ["stars"]
abbrev N__law_rounds : List Str := ["stars", "some"]
theorem sc__law_rounds : FnScope N__law_rounds P__law_rounds (defScope s__law_rounds) := ⟨rfl, rfl, rfl, by decide +kernel, rfl, by decide +kernel, by decide +kernel⟩
abbrev s__law_odd_set : Stmt := topS 40
abbrev P__law_odd_set : List Str := ["m", "many"]
abbrev N__law_odd_set : List Str := ["m", "many", "some"]
theorem sc__law_odd_set : FnScope N__law_odd_set P__law_odd_set (defScope s__law_odd_set) := ⟨rfl, rfl, rfl, by decide +kernel, rfl, by decide +kernel, by decide +kernel⟩
abbrev s_law : Stmt := topS 41
abbrev P_law : List Str := ["script"]
abbrev N_law : List Str := ["script", "m", "turn", "stars", "web", "due", "some", "again", "one", "odd", "four"]
theorem sc_law : FnScope N_law P_law (defScope s_law) := ⟨rfl, rfl, rfl, by decide +kernel, rfl, by decide +kernel, by decide +kernel⟩
abbrev s_Web_init : Stmt := inS (topS 14) 1
abbrev P_Web_init : List Str := ["self", "stars"]
abbrev N_Web_init : List Str := ["self", "stars"]
theorem sc_Web_init : FnScope N_Web_init P_Web_init (defScope s_Web_init) := ⟨rfl, rfl, rfl, by decide +kernel, rfl, by decide +kernel, by decide +kernel⟩
abbrev s_Web_len : Stmt := inS (topS 14) 2
abbrev P_Web_len : List Str := ["self"]
abbrev N_Web_len : List Str := ["self"]
theorem sc_Web_len : FnScope N_Web_len P_Web_len (defScope s_Web_len) := ⟨rfl, rfl, rfl, by decide +kernel, rfl, by decide +kernel, by decide +kernel⟩
structure Facts (R : Rw) (C : Addr) : Prop where
  B : Blt R.mg
  W : WebC R.K C
  mgW : R.mg "Web" = some (.ref C)
  fn_is_whole : ∃ f fd, Fun R.K "is_whole" "is_whole" s_is_whole f fd ∧ R.mg "is_whole" = some (.ref f) ∧ Binds R.K fd P_is_whole []
  fn_is_among : ∃ f fd, Fun R.K "is_among" "is_among" s_is_among f fd ∧ R.mg "is_among" = some (.ref f) ∧ Binds R.K fd P_is_among []
  fn_is_list : ∃ f fd, Fun R.K "is_list" "is_list" s_is_list f fd ∧ R.mg "is_list" = some (.ref f) ∧ Binds R.K fd P_is_list []
  fn_is_set_of : ∃ f fd, Fun R.K "is_set_of" "is_set_of" s_is_set_of f fd ∧ R.mg "is_set_of" = some (.ref f) ∧ Binds R.K fd P_is_set_of []
  fn_need_stars : ∃ f fd, Fun R.K "need_stars" "need_stars" s_need_stars f fd ∧ R.mg "need_stars" = some (.ref f) ∧ Binds R.K fd P_need_stars []
  fn_is_end : ∃ f fd, Fun R.K "is_end" "is_end" s_is_end f fd ∧ R.mg "is_end" = some (.ref f) ∧ Binds R.K fd P_is_end []
  fn_web_of : ∃ f fd, Fun R.K "web_of" "web_of" s_web_of f fd ∧ R.mg "web_of" = some (.ref f) ∧ Binds R.K fd P_web_of []
  fn_gathered : ∃ f fd, Fun R.K "gathered" "gathered" s_gathered f fd ∧ R.mg "gathered" = some (.ref f) ∧ Binds R.K fd P_gathered []
  fn_within : ∃ f fd, Fun R.K "within" "within" s_within f fd ∧ R.mg "within" = some (.ref f) ∧ Binds R.K fd P_within []
  fn_goes_round : ∃ f fd, Fun R.K "goes_round" "goes_round" s_goes_round f fd ∧ R.mg "goes_round" = some (.ref f) ∧ Binds R.K fd P_goes_round []
  fn_is_round : ∃ f fd, Fun R.K "is_round" "is_round" s_is_round f fd ∧ R.mg "is_round" = some (.ref f) ∧ Binds R.K fd P_is_round []
  fn_sets_of : ∃ f fd, Fun R.K "sets_of" "sets_of" s_sets_of f fd ∧ R.mg "sets_of" = some (.ref f) ∧ Binds R.K fd P_sets_of []
  fn_rounds : ∃ f fd, Fun R.K "rounds" "rounds" s_rounds f fd ∧ R.mg "rounds" = some (.ref f) ∧ Binds R.K fd P_rounds []
  fn__law_mixed : ∃ f fd, Fun R.K "_law_mixed" "_law_mixed" s__law_mixed f fd ∧ R.mg "_law_mixed" = some (.ref f) ∧ Binds R.K fd P__law_mixed []
  fn__law_folded : ∃ f fd, Fun R.K "_law_folded" "_law_folded" s__law_folded f fd ∧ R.mg "_law_folded" = some (.ref f) ∧ Binds R.K fd P__law_folded []
  fn__law_draw : ∃ f fd, Fun R.K "_law_draw" "_law_draw" s__law_draw f fd ∧ R.mg "_law_draw" = some (.ref f) ∧ Binds R.K fd P__law_draw []
  fn__law_begun : ∃ f fd, Fun R.K "_law_begun" "_law_begun" s__law_begun f fd ∧ R.mg "_law_begun" = some (.ref f) ∧ Binds R.K fd P__law_begun []
  fn__law_like : ∃ f fd, Fun R.K "_law_like" "_law_like" s__law_like f fd ∧ R.mg "_law_like" = some (.ref f) ∧ Binds R.K fd P__law_like []
  fn__law_ends : ∃ f fd, Fun R.K "_law_ends" "_law_ends" s__law_ends f fd ∧ R.mg "_law_ends" = some (.ref f) ∧ Binds R.K fd P__law_ends []
  fn__law_order : ∃ f fd, Fun R.K "_law_order" "_law_order" s__law_order f fd ∧ R.mg "_law_order" = some (.ref f) ∧ Binds R.K fd P__law_order []
  fn__law_stars : ∃ f fd, Fun R.K "_law_stars" "_law_stars" s__law_stars f fd ∧ R.mg "_law_stars" = some (.ref f) ∧ Binds R.K fd P__law_stars []
  fn__law_web : ∃ f fd, Fun R.K "_law_web" "_law_web" s__law_web f fd ∧ R.mg "_law_web" = some (.ref f) ∧ Binds R.K fd P__law_web []
  fn__law_many : ∃ f fd, Fun R.K "_law_many" "_law_many" s__law_many f fd ∧ R.mg "_law_many" = some (.ref f) ∧ Binds R.K fd P__law_many []
  fn__law_within : ∃ f fd, Fun R.K "_law_within" "_law_within" s__law_within f fd ∧ R.mg "_law_within" = some (.ref f) ∧ Binds R.K fd P__law_within []
  fn__law_lots : ∃ f fd, Fun R.K "_law_lots" "_law_lots" s__law_lots f fd ∧ R.mg "_law_lots" = some (.ref f) ∧ Binds R.K fd P__law_lots []
  fn__law_is_round : ∃ f fd, Fun R.K "_law_is_round" "_law_is_round" s__law_is_round f fd ∧ R.mg "_law_is_round" = some (.ref f) ∧ Binds R.K fd P__law_is_round []
  fn__law_sets : ∃ f fd, Fun R.K "_law_sets" "_law_sets" s__law_sets f fd ∧ R.mg "_law_sets" = some (.ref f) ∧ Binds R.K fd P__law_sets []
  fn__law_rounds : ∃ f fd, Fun R.K "_law_rounds" "_law_rounds" s__law_rounds f fd ∧ R.mg "_law_rounds" = some (.ref f) ∧ Binds R.K fd P__law_rounds []
  fn__law_odd_set : ∃ f fd, Fun R.K "_law_odd_set" "_law_odd_set" s__law_odd_set f fd ∧ R.mg "_law_odd_set" = some (.ref f) ∧ Binds R.K fd P__law_odd_set []
  fn_law : ∃ f fd, Fun R.K "law" "law" s_law f fd ∧ R.mg "law" = some (.ref f) ∧ Binds R.K fd P_law []
  me_Web_init : ∃ f fd, Fun R.K "__init__" "Web.__init__" s_Web_init f fd ∧ Mk R.K C f ∧ Binds R.K fd P_Web_init []
  me_Web_len : ∃ f fd, Fun R.K "__len__" "Web.__len__" s_Web_len f fd ∧ PySem.W.findIn R.K (.ref C) "__len__" = some (some (.ref f)) ∧ PySem.W.isFn R.K (.ref f) = true ∧ Binds R.K fd P_Web_len []
  g_MOST_TIES : ∃ t, R.mg "MOST_TIES" = some (.int (12) t)
  g_MOST_END : ∃ t, R.mg "MOST_END" = some (.int (23) t)
variable {R : Rw} {k j j1 j2 j3 : Nat} {f C : Addr} {fd : FuncData}
def mixed (cell n : Int) : Int := ((cell * (1 + 2 * n) * 48271) % 2147483647 + 7919 * n * n + 104729 * n) * 69621 % 2147483629 / 7
def Sm (n : Int) : Prop := -(2 ^ 63) < n ∧ n < 2 ^ 63
def S__law_mixed : Spc := fun mu ds mu' r => ∃ c n, Sm c ∧ Sm n ∧ ds = [.int c, .int n] ∧ mu' = mu ∧ r = .ret (.int (mixed c n))
theorem d__law_mixed (B : Blt R.mg) (F : Fun R.K "_law_mixed" "_law_mixed" s__law_mixed f fd) (hm : R.mg "_law_mixed" = some (.ref f)) (hb : Binds R.K fd P__law_mixed []) : Def R "_law_mixed" (k + 1) S__law_mixed := by
  refine def_ok F hm hb sc__law_mixed (fun _ _ _ _ ⟨_, _, _, _, e, _⟩ => by rw [e]; rfl) fun X E CI mu ds mu' r ⟨c, n, hc, hn, e1, e2, e3⟩ => ?_
  subst e1 e2 e3
  obtain ⟨c1, c2⟩ := hc
  obtain ⟨n1, n2⟩ := hn
  refine bs_then (Γ1 := ⟨[some (.st (.int c)), some (.st (.int n)), some (.st (.int ((c * (1 + 2 * n) * 48271) % 2147483647 + 7919 * n * n + 104729 * n)))], mu'⟩)
    (sf_set CI 2 (xe_add (xe_add (xe_mod (xe_int1 CI.toCxIs B rfl (xe_mul (xe_mul (xe_v CI.toCxIs 0 rfl rfl) (xe_add xe_int (xe_mul xe_int (xe_v CI.toCxIs 1 rfl rfl) (.inl (by decide))) (.int _ _)) (.inl (by omega))) xe_int (.inr (by decide)))) xe_int (by decide)) (xe_mul (xe_mul xe_int (xe_v CI.toCxIs 1 rfl rfl) (.inl (by decide))) (xe_v CI.toCxIs 1 rfl rfl) (.inr (by omega))) (.int _ _)) (xe_mul xe_int (xe_v CI.toCxIs 1 rfl rfl) (.inl (by decide))) (.int _ _)) rfl rfl) ?_
  exact bs_one (st_ret (xe_fdiv (xe_mod (xe_int1 CI.toCxIs B rfl (xe_mul (xe_v CI.toCxIs 2 rfl rfl) xe_int (.inr (by decide)))) xe_int (by decide)) xe_int (by decide)) ⟨rfl, rfl⟩)
theorem mixed_bd (c n : Int) : 0 ≤ mixed c n ∧ mixed c n < 2147483629 := by
  unfold mixed
  omega
structure OkM (B : Nat) (ms : MS) : Prop where
  len : ms.cells.length = 64
  cell : ∀ c ∈ ms.cells, 0 ≤ c ∧ c < 2147483647
  glen : ms.great.length ≤ 63
  spot : 0 ≤ ms.spot
  room : ms.spot + B ≤ 2 ^ 60
def cellAt (ms : MS) (n : Int) : Int := ms.cells.getD (n % 64).toNat 0
def plainV (ms : MS) (limit : Int) : Int := mixed (mixed (cellAt ms ms.spot + 31 * (ms.spot / 64)) ms.spot) (ms.spot + 7) % limit
def hereN (ms : MS) : Nat := (ms.spot % ms.great.length).toNat
def greatC (ms : MS) : Int := ms.great.getD (hereN ms) 0
def isG (ms : MS) : Bool := decide (ms.great ≠ []) && decide (0 < greatC ms)
def drawV (ms : MS) (limit : Int) : Int := if isG ms = true then greatC ms % limit else plainV ms limit
def drawS (ms : MS) (limit : Int) : MS := if isG ms = true then { ms with spot := ms.spot + 1, great := ms.great.set (hereN ms) (greatC ms / limit) } else { ms with spot := ms.spot + 1 }
theorem drawV_bd {ms : MS} {limit : Int} (h : 0 < limit) : 0 ≤ drawV ms limit ∧ drawV ms limit < limit := by
  unfold drawV plainV
  split
  · exact ⟨Int.emod_nonneg _ (by omega), Int.emod_lt_of_pos _ h⟩
  · exact ⟨Int.emod_nonneg _ (by omega), Int.emod_lt_of_pos _ h⟩
theorem drawS_ok {ms : MS} {limit : Int} {B : Nat} (h : OkM (B + 1) ms) : OkM B (drawS ms limit) := by
  obtain ⟨h1, h2, h3, h4, h5⟩ := h
  unfold drawS
  split
  · exact ⟨h1, h2, by simpa using h3, by show 0 ≤ ms.spot + 1; omega, by show ms.spot + 1 + B ≤ _; omega⟩
  · exact ⟨h1, h2, h3, by show 0 ≤ ms.spot + 1; omega, by show ms.spot + 1 + B ≤ _; omega⟩
theorem drawS_c {ms : MS} {limit : Int} : (drawS ms limit).c = ms.c := by unfold drawS; split <;> rfl
theorem drawS_g {ms : MS} {limit : Int} : (drawS ms limit).g = ms.g := by unfold drawS; split <;> rfl
def S__law_draw : Spc := fun mu ds mu' r => ∃ a ms limit, OkM 1 ms ∧ 0 < limit ∧ limit < 1073741824 ∧ mu = some (a, ms) ∧ ds = [.ref a, .int limit] ∧ mu' = some (a, drawS ms limit) ∧ r = .ret (.int (drawV ms limit))
theorem ixN_nn {n : Nat} {i : Int} (h0 : 0 ≤ i) (h1 : i < n) : ixN n i = some i.toNat := by
  unfold ixN
  rw [if_pos h0, if_pos h1]
theorem atI_nn {α : Type} {xs : List α} {i : Int} {v : α} (h0 : 0 ≤ i) (h1 : xs[i.toNat]? = some v) : atI xs i = some v := by
  obtain ⟨h2, _⟩ := List.getElem?_eq_some_iff.mp h1
  unfold atI
  rw [ixN_nn h0 (by omega)]
  exact h1
theorem getD_get {α : Type} {xs : List α} {i : Nat} {y : α} (h : i < xs.length) : xs[i]? = some (xs.getD i y) := by
  rw [List.getD_eq_getElem?_getD, List.getElem?_eq_getElem h]
  rfl
def Γd (a : Addr) (limit n : Int) (ms : MS) : En := ⟨[some (.st (.ref a)), some (.st (.int limit)), some (.st (.int n)), none, none, none], some (a, ms)⟩
theorem d__law_draw (B : Blt R.mg) (h_mixed : Def R "_law_mixed" j S__law_mixed) (hj : j ≤ k) (F : Fun R.K "_law_draw" "_law_draw" s__law_draw f fd) (hm : R.mg "_law_draw" = some (.ref f)) (hb : Binds R.K fd P__law_draw []) : Def R "_law_draw" (k + 1) S__law_draw := by
  refine def_ok F hm hb sc__law_draw (fun _ _ _ _ ⟨_, _, _, _, _, _, _, e, _⟩ => by rw [e]; rfl) fun X E CI mu ds mu' r ⟨a, ms, limit, ok, hl0, hl1, e0, e1, e2, e3⟩ => ?_
  subst e0 e1 e2 e3
  refine bs_then (Γ1 := Γd a limit ms.spot ms) (sf_set CI 2 (xe_mspot CI.toCxIs rfl (xe_v CI.toCxIs 0 rfl rfl)) rfl rfl) ?_
  refine bs_then (Γ1 := Γd a limit ms.spot { ms with spot := ms.spot + 1 }) (st_mspot CI.toCxIs rfl (xe_v CI.toCxIs 0 rfl rfl) (xe_add (xe_v CI.toCxIs 2 rfl rfl) xe_int (.int _ _)) rfl) ?_
  have hne : (!deq (lI ms.great) (lI [])) = decide (ms.great ≠ []) := by
    rw [show deq (lI ms.great) (lI []) = decide (ms.great = []) from deq_lmap deq_int ms.great []]
    simp
  refine bs_cons (po' := { nx := fun Γ' => Le (Γd a limit ms.spot { ms with spot := ms.spot + 1 }) Γ' ∧ isG ms = false }) (st_if (k := decide (ms.great ≠ [])) (XT.to (XB.t (xb_mne CI.toCxIs rfl (xe_mgreat CI.toCxIs rfl (xe_v CI.toCxIs 0 rfl rfl)))) hne) (fun z => ?_) fun z => bs_nil ⟨Le.refl _, by unfold isG; rw [z]; rfl⟩) fun Γ' hΓ => ?_
  · have hg : ms.great ≠ [] := of_decide_eq_true z
    have hlen : 0 < ms.great.length := List.length_pos_iff.mpr hg
    have i0 : 0 ≤ ms.spot % ms.great.length := Int.emod_nonneg _ (by omega)
    have i1 : ms.spot % ms.great.length < ms.great.length := Int.emod_lt_of_pos _ (by omega)
    have hh : hereN ms < ms.great.length := by unfold hereN; omega
    have hat : atI ms.great (ms.spot % ms.great.length) = some (greatC ms) := atI_nn i0 (getD_get hh)
    refine bs_then (Γ1 := ⟨[some (.st (.ref a)), some (.st (.int limit)), some (.st (.int ms.spot)), some (.st (.ref ms.g)), none, none], some (a, { ms with spot := ms.spot + 1 })⟩) (sf_set CI 3 (xe_mgreat CI.toCxIs rfl (xe_v CI.toCxIs 0 rfl rfl)) rfl rfl) ?_
    refine bs_then (Γ1 := ⟨[some (.st (.ref a)), some (.st (.int limit)), some (.st (.int ms.spot)), some (.st (.ref ms.g)), some (.st (.int (ms.spot % ms.great.length))), none], some (a, { ms with spot := ms.spot + 1 })⟩) (sf_set CI 4 (xe_mod (xe_int1 CI.toCxIs B rfl (xe_v CI.toCxIs 2 rfl rfl)) (xe_mlen (ms := { ms with spot := ms.spot + 1 }) CI.toCxIs B rfl rfl (xe_v CI.toCxIs 3 rfl rfl)) (by show (0 : Int) < (ms.great.length : Nat); omega)) rfl rfl) ?_
    refine bs_then (Γ1 := ⟨[some (.st (.ref a)), some (.st (.int limit)), some (.st (.int ms.spot)), some (.st (.ref ms.g)), some (.st (.int (ms.spot % ms.great.length))), some (.st (.int (greatC ms)))], some (a, { ms with spot := ms.spot + 1 })⟩) (sf_set CI 5 (xe_mix (ms := { ms with spot := ms.spot + 1 }) rfl (xe_v CI.toCxIs 3 rfl rfl) (xe_v CI.toCxIs 4 rfl rfl) hat) rfl rfl) ?_
    refine bs_one (st_if (k := decide (0 < greatC ms)) (XB.t (xb_gt (xe_v CI.toCxIs 5 rfl rfl) xe_int)) (fun z2 => ?_) fun z2 => bs_nil ⟨⟨⟨rfl, rfl, rfl, True.intro⟩, rfl⟩, by unfold isG; rw [z2, Bool.and_false]⟩)
    have hG : isG ms = true := by unfold isG; rw [z, z2]; rfl
    refine bs_then (Γ1 := ⟨[some (.st (.ref a)), some (.st (.int limit)), some (.st (.int ms.spot)), some (.st (.ref ms.g)), some (.st (.int (ms.spot % ms.great.length))), some (.st (.int (greatC ms)))], some (a, drawS ms limit)⟩) (st_mlot (ms := { ms with spot := ms.spot + 1 }) rfl (xe_v CI.toCxIs 3 rfl rfl) (xe_v CI.toCxIs 4 rfl rfl) (xe_fdiv (xe_v CI.toCxIs 5 rfl rfl) (xe_v CI.toCxIs 1 rfl rfl) ⟨hl0, hl1⟩) (ixN_nn i0 i1) (by unfold drawS; rw [if_pos hG]; rfl)) ?_
    exact bs_one (st_ret (xe_mod (xe_int1 CI.toCxIs B rfl (xe_v CI.toCxIs 5 rfl rfl)) (xe_v CI.toCxIs 1 rfl rfl) hl0) ⟨rfl, by unfold drawV; rw [if_pos hG]⟩)
  · obtain ⟨le, hG⟩ := hΓ
    refine bs_le le ?_
    have hS : drawS ms limit = { ms with spot := ms.spot + 1 } := by unfold drawS; rw [if_neg (by rw [hG]; decide)]
    have hV : drawV ms limit = plainV ms limit := by unfold drawV; rw [if_neg (by rw [hG]; decide)]
    rw [hS, hV]
    obtain ⟨o1, o2, o3, o4, o5⟩ := ok
    have i0 : 0 ≤ ms.spot % 64 := Int.emod_nonneg _ (by omega)
    have i1 : ms.spot % 64 < 64 := Int.emod_lt_of_pos _ (by omega)
    have hlt : (ms.spot % 64).toNat < ms.cells.length := by omega
    have hat : atI (ms.cells.map D.int) (ms.spot % 64) = some (.int (cellAt ms ms.spot)) := atI_nn i0 (by rw [List.getElem?_map, getD_get (y := 0) hlt]; rfl)
    have hc := o2 (cellAt ms ms.spot) (List.mem_of_getElem? (getD_get (y := 0) hlt))
    have hm1 := mixed_bd (cellAt ms ms.spot + 31 * (ms.spot / 64)) ms.spot
    refine bs_then (Γ1 := ⟨[some (.st (.ref a)), some (.st (.int limit)), some (.st (.int ms.spot)), some (.st (lI ms.cells)), none, none], some (a, { ms with spot := ms.spot + 1 })⟩) (sf_set CI 3 (xe_mcells (ms := { ms with spot := ms.spot + 1 }) CI.toCxIs rfl (xe_v CI.toCxIs 0 rfl rfl)) rfl rfl) ?_
    exact bs_one (st_ret (xe_mod (xe_int1 CI.toCxIs B rfl (xe_call CI.toCxIs h_mixed hj rfl (xa_cons (xe_call CI.toCxIs h_mixed hj rfl (xa_cons (xe_add (xe_ix (xe_v CI.toCxIs 3 rfl rfl) (xe_mod (xe_int1 CI.toCxIs B rfl (xe_v CI.toCxIs 2 rfl rfl)) xe_int (by decide)) (.lst _) hat) (xe_mul xe_int (xe_fdiv (xe_v CI.toCxIs 2 rfl rfl) xe_int (by decide)) (.inl (by decide))) (.int _ _)) (xa_cons (xe_v CI.toCxIs 2 rfl rfl) xa_nil)) ⟨_, _, ⟨by omega, by omega⟩, ⟨by omega, by omega⟩, rfl, rfl, rfl⟩) (xa_cons (xe_add (xe_v CI.toCxIs 2 rfl rfl) xe_int (.int _ _)) xa_nil)) ⟨_, _, ⟨by omega, by omega⟩, ⟨by omega, by omega⟩, rfl, rfl, rfl⟩)) (xe_v CI.toCxIs 1 rfl rfl) hl0) ⟨rfl, rfl⟩)
def foldA (ns : List Int) : Nat → List Int
  | 0 => (List.range 64).map fun n => 17 + Int.ofNat n
  | i + 1 => (foldA ns i).set (i % 64) (((foldA ns i).getD (i % 64) 0 * 48271 + ns.getD i 0) % 2147483647)
def foldB (ns : List Int) : Nat → List Int
  | 0 => foldA ns ns.length
  | i + 1 => (foldB ns i).set (i + 1) (((foldB ns i).getD (i + 1) 0 + (foldB ns i).getD i 0 * 16807) % 2147483647)
theorem foldA_len (ns : List Int) : ∀ i, (foldA ns i).length = 64
  | 0 => by simp [foldA]
  | i + 1 => by rw [foldA, List.length_set]; exact foldA_len ns i
theorem foldB_len (ns : List Int) : ∀ i, (foldB ns i).length = 64
  | 0 => foldA_len ns _
  | i + 1 => by rw [foldB, List.length_set]; exact foldB_len ns i
theorem foldA_bd (ns : List Int) : ∀ i, ∀ c ∈ foldA ns i, 0 ≤ c ∧ c < 2147483647
  | 0, c, h => by
    obtain ⟨n, hn, rfl⟩ := List.mem_map.mp h
    have := List.mem_range.mp hn
    show 0 ≤ 17 + (n : Int) ∧ 17 + (n : Int) < _
    omega
  | i + 1, c, h => by
    rw [foldA] at h
    rcases List.mem_or_eq_of_mem_set h with h | h
    · exact foldA_bd ns i c h
    · subst h; omega
theorem foldB_bd (ns : List Int) : ∀ i, ∀ c ∈ foldB ns i, 0 ≤ c ∧ c < 2147483647
  | 0, c, h => foldA_bd ns _ c h
  | i + 1, c, h => by
    rw [foldB] at h
    rcases List.mem_or_eq_of_mem_set h with h | h
    · exact foldB_bd ns i c h
    · subst h; omega
@[irreducible] def fold63 (ns : List Int) : List Int := foldB ns 63
theorem fold63_eq (ns : List Int) : fold63 ns = foldB ns 63 := by unfold fold63; rfl
def S__law_folded (K : PySem.W.Frag) : Spc := fun mu ds mu' r => ∃ ns, ds = [.ob (scrO K ns)] ∧ mu' = mu ∧ r = .ret (lI (fold63 ns))
theorem at_int {xs : List Int} {i : Int} {m : Nat} (hi : i = (m : Int)) (h : m < xs.length) : atI (xs.map D.int) i = some (.int (xs.getD m 0)) := by
  subst hi
  refine atI_nn (by omega) ?_
  rw [Int.toNat_natCast, List.getElem?_map, getD_get (y := 0) h]
  rfl
theorem d__law_folded (B : Blt R.mg) (F : Fun R.K "_law_folded" "_law_folded" s__law_folded f fd) (hm : R.mg "_law_folded" = some (.ref f)) (hb : Binds R.K fd P__law_folded []) : Def R "_law_folded" (k + 1) (S__law_folded R.K) := by
  refine def_ok F hm hb sc__law_folded (fun _ _ _ _ ⟨_, e, _⟩ => by rw [e]; rfl) fun X E CI mu ds mu' r ⟨ns, e1, e2, e3⟩ => ?_
  rw [fold63_eq] at e3
  subst e1 e2 e3
  refine bs_then (Γ1 := ⟨[some (.st (.ob (scrO R.K ns))), some (.lst ((foldA ns 0).map D.int)), none, none], mu'⟩) (st_ofO (i := 1) (xs_lc (own := [("n", 2)]) (xs := List.range 64) (f := fun i => D.int (i : Nat)) (c := fun _ => true) (g := fun i => D.int (17 + (i : Nat))) CI.toCxIs 1 rfl rfl rfl rfl (by decide +kernel) (xi_range1 CI.toCxIs B rfl xe_int (by decide) (by decide)) (by decide +kernel)
    (fun X' B' n hn => ⟨xg_b B' 2 rfl, xts_nil, fun _ => xe_add xe_int (xe_v B'.c 2 rfl rfl) (.int _ _)⟩) (fun _ => rfl)) (by rw [filt_true, foldA, List.map_map]; rfl) rfl) ?_
  refine bs_then (Γ1 := ⟨[some (.st (.ob (scrO R.K ns))), some (.lst ((foldA ns ns.length).map D.int)), none, none], mu'⟩) (st_for (js := [2, 3]) CI.toCxIs CI.hp (xi_enumScr CI.toCxIs B rfl (xe_v CI.toCxIs 0 rfl rfl)) (fun i => ⟨[some (.st (.ob (scrO R.K ns))), some (.lst ((foldA ns i).map D.int)), none, none], mu'⟩) ⟨⟨rfl, rfl, True.intro⟩, rfl⟩ (fun i => ⟨[some (.st (.ob (scrO R.K ns))), some (.lst ((foldA ns i).map D.int)), some (.st (.int (i : Nat))), some (.st (.int (ns.getD i 0)))], mu'⟩) (fun i d hd => ?_) (fun i d hd => ?_) ?_) ?_
  · obtain ⟨x, hx, rfl⟩ := enumD_get hd
    obtain ⟨z, hz, rfl⟩ := map_get hx
    rw [getD_of hz]
    exact xg_tup (n := 2) CI.toCxIs (xgs_cons (xg_f CI 2 rfl) (xgs_cons (xg_f CI 3 rfl) xgs_nil)) rfl
  · have h64 := foldA_len ns i
    have him : ((i : Nat) : Int) % 64 = ((i % 64 : Nat) : Int) := by omega
    have hlt : i % 64 < (foldA ns i).length := by rw [h64]; exact Nat.mod_lt _ (by decide)
    rw [foldA]
    generalize foldA ns i = fs at *
    refine bs_one (st_setIx CI.toCxIs 1 (m := i % 64) (d := .int ((fs.getD (i % 64) 0 * 48271 + ns.getD i 0) % 2147483647)) rfl rfl (.inl rfl) (xe_mod (xe_int1 CI.toCxIs B rfl (xe_v CI.toCxIs 2 rfl rfl)) xe_int (by decide)) (xe_scal (xe_mod (xe_int1 CI.toCxIs B rfl (xe_add (xe_mul (xe_ix (xe_v CI.toCxIs 1 rfl rfl) (xe_mod (xe_int1 CI.toCxIs B rfl (xe_v CI.toCxIs 2 rfl rfl)) xe_int (by decide)) (.lst _) (at_int him hlt)) xe_int (.inr (by decide))) (xe_v CI.toCxIs 3 rfl rfl) (.int _ _))) xe_int (by decide)) (.int _)) ?_ ?_)
    · rw [List.length_map, him, ixN_nn (by omega) (by omega), Int.toNat_natCast]
    · have e : (fs.map D.int).set (i % 64) (.int ((fs.getD (i % 64) 0 * 48271 + ns.getD i 0) % 2147483647)) = (fs.set (i % 64) ((fs.getD (i % 64) 0 * 48271 + ns.getD i 0) % 2147483647)).map D.int := (List.map_set).symm
      show Le _ (En.setS _ 1 (.lst ((fs.map D.int).set (i % 64) _)))
      rw [e]
      exact ⟨⟨rfl, rfl, True.intro⟩, rfl⟩
  · rw [enumD_len, List.length_map]
  · refine bs_then (Γ1 := ⟨[some (.st (.ob (scrO R.K ns))), some (.lst ((foldB ns 63).map D.int)), none, none], mu'⟩) (st_for (js := [2]) CI.toCxIs CI.hp (xi_range2 CI.toCxIs B rfl xe_int xe_int (by decide)) (fun i => ⟨[some (.st (.ob (scrO R.K ns))), some (.lst ((foldB ns i).map D.int)), none, none], mu'⟩) ⟨⟨rfl, rfl, True.intro⟩, rfl⟩ (fun i => ⟨[some (.st (.ob (scrO R.K ns))), some (.lst ((foldB ns i).map D.int)), some (.st (.int (1 + (i : Nat)))), none], mu'⟩) (fun i d hd => ?_) (fun i d hd => ?_) ?_) ?_
    · obtain ⟨x, hx, rfl⟩ := map_get hd
      obtain ⟨hl, e⟩ := List.getElem?_eq_some_iff.mp hx
      have : x = i := by rw [← e]; simp
      subst this
      exact xg_f CI 2 rfl
    · obtain ⟨x, hx, _⟩ := map_get hd
      obtain ⟨hl, _⟩ := List.getElem?_eq_some_iff.mp hx
      have hi : i < 63 := by simpa using hl
      have h64 := foldB_len ns i
      rw [foldB]
      generalize foldB ns i = fs at *
      have e1 : (1 : Int) + (i : Nat) = ((i + 1 : Nat) : Int) := by omega
      have e2 : (1 : Int) + (i : Nat) - 1 = ((i : Nat) : Int) := by omega
      refine bs_one (st_setIx CI.toCxIs 1 (m := i + 1) (d := .int ((fs.getD (i + 1) 0 + fs.getD i 0 * 16807) % 2147483647)) rfl rfl (.inl rfl) (xe_v CI.toCxIs 2 rfl rfl) (xe_scal (xe_mod (xe_int1 CI.toCxIs B rfl (xe_add (xe_ix (xe_v CI.toCxIs 1 rfl rfl) (xe_v CI.toCxIs 2 rfl rfl) (.lst _) (at_int e1 (by omega))) (xe_mul (xe_ix (xe_v CI.toCxIs 1 rfl rfl) (xe_sub (xe_v CI.toCxIs 2 rfl rfl) xe_int) (.lst _) (at_int e2 (by omega))) xe_int (.inr (by decide))) (.int _ _))) xe_int (by decide)) (.int _)) ?_ ?_)
      · rw [List.length_map, e1, ixN_nn (by omega) (by omega), Int.toNat_natCast]
      · have e : (fs.map D.int).set (i + 1) (.int ((fs.getD (i + 1) 0 + fs.getD i 0 * 16807) % 2147483647)) = (fs.set (i + 1) ((fs.getD (i + 1) 0 + fs.getD i 0 * 16807) % 2147483647)).map D.int := (List.map_set).symm
        show Le _ (En.setS _ 1 (.lst ((fs.map D.int).set (i + 1) _)))
        rw [e]
        exact ⟨⟨rfl, rfl, True.intro⟩, rfl⟩
    · rfl
    · exact bs_one (st_retOwn CI.toCxIs 1 rfl rfl (.inl rfl) ⟨rfl, rfl⟩)
@[irreducible] def gr (z : Int) : Int := if (10 : Int) ^ 18 ≤ z then z else 0
theorem gr_eq (z : Int) : (if decide ((10 : Int) ^ (18 : Int).toNat ≤ z) = true then D.int z else D.int 0) = .int (gr z) := by
  unfold gr
  have e18 : (18 : Int).toNat = 18 := rfl
  rw [e18]
  by_cases h : (10 : Int) ^ 18 ≤ z
  · rw [if_pos (decide_eq_true h), if_pos h]
  · rw [if_neg (by rw [decide_eq_false h]; decide), if_neg h]
def S__law_begun (K : PySem.W.Frag) : SpcG := fun mu ds P => ∃ ns : List Int, ns.length ≤ 63 ∧ ds = [.ob (scrO K ns)] ∧ P = fun mu' r => ∃ a ms, OkM (2 ^ 59) ms ∧ mu' = some (a, ms) ∧ r = .ret (.ref a)
theorem d__law_begun (B : Blt R.mg) (h_fold : Def R "_law_folded" j (S__law_folded R.K)) (hj : j ≤ k) (F : Fun R.K "_law_begun" "_law_begun" s__law_begun f fd) (hm : R.mg "_law_begun" = some (.ref f)) (hb : Binds R.K fd P__law_begun []) : DefG R "_law_begun" (k + 1) (S__law_begun R.K) := by
  refine def_okG F hm hb sc__law_begun (fun _ _ _ ⟨_, _, e, _⟩ => by rw [e]; rfl) fun X E CI mu ds P ⟨ns, hl, e1, e2⟩ => ?_
  subst e1 e2
  refine bs_cons (po' := { nx := fun Γ' => ∃ a c g, Γ' = ⟨[some (.st (.ob (scrO R.K ns))), some (.st (.ref a)), none], some (a, ⟨fold63 ns, [], 0, c, g⟩)⟩ }) (st_mnew CI.toCxIs 1 rfl (.inl rfl) (.inr rfl) (xe_call CI.toCxIs h_fold hj rfl (xa_cons (xe_v CI.toCxIs 0 rfl rfl) xa_nil) ⟨ns, rfl, rfl, rfl⟩) fun a c g => ⟨a, c, g, rfl⟩) fun Γ' ⟨a, c, g, e⟩ => ?_
  subst e
  refine bs_cons (po' := { nx := fun Γ' => ∃ g', Γ' = ⟨[some (.st (.ob (scrO R.K ns))), some (.st (.ref a)), none], some (a, ⟨fold63 ns, ns.map gr, 0, c, g'⟩)⟩ }) (st_mgreat (ms := ⟨fold63 ns, [], 0, c, g⟩) (ns := ns.map gr) CI.toCxIs rfl (xe_v CI.toCxIs 1 rfl rfl) (XF.to (xf_lc (own := [("cell", 2)]) (xs := ns) (f := D.int) (c := fun _ => true) (g := fun z => .int (gr z)) CI.toCxIs (xi_scr CI.toCxIs (xe_v CI.toCxIs 0 rfl rfl)) (by decide +kernel)
    (fun X' B' z hz => ⟨xg_b B' 2 rfl, xts_nil, fun _ => XE.to (xe_ite (XB.t (xb_ge (xe_v B'.c 2 rfl rfl) (xe_pow xe_int xe_int (by decide)))) (fun _ => xe_v B'.c 2 rfl rfl) (fun _ => xe_int)) (gr_eq z)⟩) (fun _ => rfl)) (by rw [filt_true, List.map_map]; rfl)) fun g' => ⟨g', rfl⟩) fun Γ' ⟨g', e⟩ => ?_
  · subst e
    refine bs_one (st_ret (xe_v CI.toCxIs 1 rfl rfl) ⟨a, _, ⟨by show (fold63 ns).length = 64; rw [fold63_eq]; exact foldB_len ns 63, by show ∀ c ∈ fold63 ns, _; rw [fold63_eq]; exact foldB_bd ns 63, ?_, ?_, ?_⟩, rfl, rfl⟩)
    · show (ns.map _).length ≤ 63
      rw [List.length_map]; exact hl
    · show (0 : Int) ≤ 0; decide
    · show (0 : Int) + _ ≤ _; decide

open Classical in
noncomputable def sem_draw : Y.Sem := fun mu ds => match mu, ds with
  | some (a, ms), [.ref a', .int lim] => if a' = a ∧ OkM 1 ms ∧ 0 < lim ∧ lim < 1073741824 then some (some (a, drawS ms lim), .ret (.int (drawV ms lim))) else none
  | _, _ => none
theorem sem_draw_eq {a : Addr} {ms : MS} {lim : Int} (ok : OkM 1 ms) (h0 : 0 < lim) (h1 : lim < 1073741824) : sem_draw (some (a, ms)) [.ref a, .int lim] = some (some (a, drawS ms lim), .ret (.int (drawV ms lim))) := by
  unfold sem_draw
  exact if_pos ⟨rfl, ok, h0, h1⟩
theorem sem_draw_spec {mu mu' : Mu} {ds : List D} {r : Res} (h : spec 2 sem_draw mu ds mu' r) : S__law_draw mu ds mu' r := by
  obtain ⟨_, h⟩ := h
  unfold sem_draw at h
  split at h
  · split at h
    · rename_i w
      cases h
      obtain ⟨w1, w2, w3, w4⟩ := w
      subst w1
      exact ⟨_, _, _, w2, w3, w4, rfl, rfl, rfl, rfl⟩
    · cases h
  · cases h
theorem w__law_mixed (A : Facts R C) : Def R "_law_mixed" 1 S__law_mixed := by
  obtain ⟨f, fd, F, hm, hb⟩ := A.fn__law_mixed
  exact d__law_mixed (k := 0) A.B F hm hb
theorem w__law_draw (A : Facts R C) : Def R "_law_draw" 2 (spec 2 sem_draw) := by
  obtain ⟨f, fd, F, hm, hb⟩ := A.fn__law_draw
  exact (d__law_draw (k := 1) A.B (w__law_mixed A) (by decide) F hm hb).imp fun mu ds P ⟨mu', r, h, e⟩ => ⟨mu', r, sem_draw_spec h, e⟩
theorem w__law_folded (A : Facts R C) : Def R "_law_folded" 1 (S__law_folded R.K) := by
  obtain ⟨f, fd, F, hm, hb⟩ := A.fn__law_folded
  exact d__law_folded (k := 0) A.B F hm hb
theorem w__law_begun (A : Facts R C) : DefG R "_law_begun" 2 (S__law_begun R.K) := by
  obtain ⟨f, fd, F, hm, hb⟩ := A.fn__law_begun
  exact d__law_begun (k := 1) A.B (w__law_folded A) (by decide) F hm hb
end T
set_option Elab.async false
set_option linter.all false
set_option maxRecDepth 100000
set_option maxHeartbeats 400000
namespace T
open PySem PySem.Spec PyProof.Rows L2 Y
noncomputable def f_is_whole (C : Addr) : Y.Sem := fnRun 1 (sRet (cB (cAnd (cUnB (oIs isI) (cV 0)) (cNot (cUnB (oIs isB) (cV 0))))))
theorem w_is_whole {R : Rw} {C : Addr} (A : Facts R C) : Def R "is_whole" 1 (spec 1 (f_is_whole C)) := by
  obtain ⟨f, fd, F, hm, hb⟩ := A.fn_is_whole
  exact so_fn (k := 0) F hm hb sc_is_whole (sk_one (ss_ret (SoB.val (SoBs.bb (so_and (so_isInt A.B (so_v 0 rfl)) (so_b1 (so_not (so_isBool A.B (so_v 0 rfl)))))))))
noncomputable def f_is_among (C : Addr) : Y.Sem := fnRun 3 (sRet (cB (cAnd (cT (cCall 1 (f_is_whole C) (cCons (cV 0) (cNil)))) (cChain iLe iLe (cV 1) (cV 0) (cV 2)))))
theorem w_is_among {R : Rw} {C : Addr} (A : Facts R C) : Def R "is_among" 2 (spec 3 (f_is_among C)) := by
  obtain ⟨f, fd, F, hm, hb⟩ := A.fn_is_among
  exact so_fn (k := 1) F hm hb sc_is_among (sk_one (ss_ret (SoB.val (SoBs.bb (so_and (so_tv (so_call (w_is_whole A) (so_cons (so_v 0 rfl) (so_nil)))) (so_b1 (so_chLeLe (so_v 1 rfl) (so_v 0 rfl) (so_v 2 rfl) (by repeat (first | apply calm_scalB | apply calm_scal | exact calm_v _ | exact calm_k _ | exact calm_tt | exact calm_nil | exact calm_ow _ | exact calm_ows _ | exact calm_dlen _ | exact calm_dmax _ | apply calm_un | apply calm_bin | apply calm_cmp | apply calm_unL | apply calm_unB | apply calm_cons | apply calm_tup | apply calm_b | apply calm_not | apply calm_and | apply calm_or | apply calm_l | apply calm_lst | apply calm_if | apply calm_dget2 | apply calm_dix | apply calm_chain | apply calm_binL | apply calm_sl | exact calm_o0 | apply calm_o1)))))))))
noncomputable def f_is_set_of (C : Addr) : Y.Sem := fnRun 5 (bCons (sIf (cOr (cNot (cUnB (oIs isT) (cV 0))) (cNot (cT (cUn oAll (cL (cLc (cSq (cV 0)) [2] (tN 2) (cTt) (cCall 3 (f_is_among C) (cCons (cV 2) (cCons (cK (.int (0))) (cCons (cBin oSub (cV 1) (cK (.int (1)))) (cNil))))))))))) (sRet (cK (.bool false))) (bNil)) (sRet (cUn oAll (cL (cLc (cBinL oZip (cV 0) (cSl (cV 0) (cO1 (cK (.int (1)))) (cO0))) [3, 4] (tTp (tT1 (tN 3) (tT1 (tN 4) (tT0)))) (cTt) (cB (cCmp bLt (cV 3) (cV 4))))))))
theorem w_is_set_of {R : Rw} {C : Addr} (A : Facts R C) : Def R "is_set_of" 3 (spec 2 (f_is_set_of C)) := by
  obtain ⟨f, fd, F, hm, hb⟩ := A.fn_is_set_of
  exact so_fn (k := 2) F hm hb sc_is_set_of (sk_cons (ss_if (SoBs.bb (so_or (so_not (so_isTup A.B (so_v 0 rfl))) (so_b1 (so_not (so_tv (so_all A.B (SoF.val (so_lc [("tie", 2)] (si_seq (so_v 0 rfl)) (sg_n 2 rfl) (so_ts0) (so_call (w_is_among A) (so_cons (so_v 2 rfl) (so_cons (so_int) (so_cons (so_sub (so_v 1 rfl) (so_int)) (so_nil))))))))))))) (sk_one (ss_ret (so_bl))) (sk_nil)) (sk_one (ss_ret (so_all A.B (SoF.val (so_lc [("one", 3), ("other", 4)] (si_zip A.B (so_v 0 rfl) (so_sl (so_v 0 rfl) (so_o1 (so_int)) (so_o0))) (sg_t (sg_1 (sg_n 3 rfl) (sg_1 (sg_n 4 rfl) (sg_0))) (gsn_1 (gsn_1 (gsn_0)))) (so_ts0) (SoB.val (so_lt (so_v 3 rfl) (so_v 4 rfl)))))))))
noncomputable def f_is_list (C : Addr) : Y.Sem := fnRun 1 (sRet (cB (cUnB (oIs isLT) (cV 0))))
theorem w_is_list {R : Rw} {C : Addr} (A : Facts R C) : Def R "is_list" 1 (spec 1 (f_is_list C)) := by
  obtain ⟨f, fd, F, hm, hb⟩ := A.fn_is_list
  exact so_fn (k := 0) F hm hb sc_is_list (sk_one (ss_ret (SoB.val (so_isLT A.B (so_v 0 rfl)))))
noncomputable def f_need_stars (C : Addr) : Y.Sem := fnRun 5 (bCons (sIf (cNot (cT (cCall 1 (f_is_list C) (cCons (cV 0) (cNil))))) (sNo) (bNil)) (bCons (sDNew 1) (bCons (sFor (cUnL oEnum (cV 0)) (tTp (tT1 (tN 2) (tT1 (tN 3) (tT0)))) (bCons (sIf (cOr (cNot (cT (cCall 2 (f_is_set_of C) (cCons (cV 3) (cCons (cK (.int (12))) (cNil)))))) (cOr (cCmp bEq (cV 3) (cTup (cNil))) (cAnd (cCmp bGt (cV 2) (cK (.int (0)))) (cCmp bGt (cBin oIx (cV 0) (cBin oSub (cV 2) (cK (.int (1))))) (cV 3))))) (sNo) (bNil)) (sFor (cSq (cV 3)) (tN 4) (bCons (sDPut 1 (cV 4) (cBin oAdd (cDGet2 1 (cV 4) (cK (.int (0)))) (cK (.int (1))))) (sIf (cCmp bGt (cDIx 1 (cV 4)) (cK (.int (2)))) (sNo) (bNil)))))) (bCons (sIf (cAnd (cCmp bGt (cDLen 1) (cK (.int (0)))) (cCmp bNe (cBin oAdd (cDMax 1) (cK (.int (1)))) (cDLen 1))) (sNo) (bNil)) (sRet (cDLen 1))))))
theorem w_need_stars {R : Rw} {C : Addr} (A : Facts R C) : Def R "need_stars" 4 (spec 1 (f_need_stars C)) := by
  obtain ⟨f, fd, F, hm, hb⟩ := A.fn_need_stars
  obtain ⟨_, g_MOST_TIES⟩ := A.g_MOST_TIES
  exact so_fn (k := 3) F hm hb sc_need_stars (sk_cons (ss_if (so_not (so_tv (so_call (w_is_list A) (so_cons (so_v 0 rfl) (so_nil))))) (sk_one (ss_no)) (sk_nil)) (sk_cons (ss_dnew 1 rfl) (sk_cons (ss_for (si_enum A.B (so_v 0 rfl)) (sg_t (sg_1 (sg_n 2 rfl) (sg_1 (sg_n 3 rfl) (sg_0))) (gsn_1 (gsn_1 (gsn_0)))) (sk_cons (ss_if (SoBs.bb (so_or (so_not (so_tv (so_call (w_is_set_of A) (so_cons (so_v 3 rfl) (so_cons (so_gint g_MOST_TIES) (so_nil)))))) (so_or (so_eq (so_v 3 rfl) (so_tup (so_nil))) (so_b1 (SoBs.bb (so_and (so_gt (so_v 2 rfl) (so_int)) (so_b1 (so_gt (so_ix (so_v 0 rfl) (so_sub (so_v 2 rfl) (so_int))) (so_v 3 rfl))))))))) (sk_one (ss_no)) (sk_nil)) (sk_one (ss_for (si_seq (so_v 3 rfl)) (sg_n 4 rfl) (sk_cons (ss_dput 1 (so_v 4 rfl) (so_add (so_dget2 1 (so_v 4 rfl) (so_int) rfl) (so_int)) (by repeat (first | apply calm_scalB | apply calm_scal | exact calm_v _ | exact calm_k _ | exact calm_tt | exact calm_nil | exact calm_ow _ | exact calm_ows _ | exact calm_dlen _ | exact calm_dmax _ | apply calm_un | apply calm_bin | apply calm_cmp | apply calm_unL | apply calm_unB | apply calm_cons | apply calm_tup | apply calm_b | apply calm_not | apply calm_and | apply calm_or | apply calm_l | apply calm_lst | apply calm_if | apply calm_dget2 | apply calm_dix | apply calm_chain | apply calm_binL | apply calm_sl | exact calm_o0 | apply calm_o1)) (by repeat (first | apply calm_scalB | apply calm_scal | exact calm_v _ | exact calm_k _ | exact calm_tt | exact calm_nil | exact calm_ow _ | exact calm_ows _ | exact calm_dlen _ | exact calm_dmax _ | apply calm_un | apply calm_bin | apply calm_cmp | apply calm_unL | apply calm_unB | apply calm_cons | apply calm_tup | apply calm_b | apply calm_not | apply calm_and | apply calm_or | apply calm_l | apply calm_lst | apply calm_if | apply calm_dget2 | apply calm_dix | apply calm_chain | apply calm_binL | apply calm_sl | exact calm_o0 | apply calm_o1)) rfl) (sk_one (ss_if (so_gt (so_dix 1 (so_v 4 rfl) rfl) (so_int)) (sk_one (ss_no)) (sk_nil)))))))) (sk_cons (ss_if (SoBs.bb (so_and (so_gt (so_dlen A.B 1 rfl) (so_int)) (so_b1 (so_ne (so_add (so_dmax A.B 1 rfl) (so_int)) (so_dlen A.B 1 rfl))))) (sk_one (ss_no)) (sk_nil)) (sk_one (ss_ret (so_dlen A.B 1 rfl)))))))
noncomputable def f_Web_len (C : Addr) : Y.Sem := fnRun 1 (sRet (cUn oLen (cUn (oFld C 1) (cV 0))))
theorem w_Web_len {R : Rw} {C : Addr} (A : Facts R C) : MethD R C "__len__" 1 (spec 1 (f_Web_len C)) := by
  obtain ⟨f, fd, F, hfi, hfn, hb⟩ := A.me_Web_len
  obtain ⟨_, sl1⟩ := A.W.s1
  exact so_meth_fn (k := 0) F hfi hfn hb sc_Web_len (sk_one (ss_ret (so_len A.B (so_fld A.W.c sl1 (so_v 0 rfl)))))
noncomputable def f_is_end (C : Addr) : Y.Sem := fnRun 2 (bCons (sIf (cOr (cNot (cUnB (oIs isT) (cV 0))) (cCmp bNe (cUn oLen (cV 0)) (cK (.int (2))))) (sRet (cK (.bool false))) (bNil)) (sRet (cUn oAll (cL (cLc (cSq (cV 0)) [1] (tN 1) (cTt) (cCall 3 (f_is_among C) (cCons (cV 1) (cCons (cK (.int (0))) (cCons (cK (.int (23))) (cNil))))))))))
theorem w_is_end {R : Rw} {C : Addr} (A : Facts R C) : Def R "is_end" 3 (spec 1 (f_is_end C)) := by
  obtain ⟨f, fd, F, hm, hb⟩ := A.fn_is_end
  obtain ⟨_, g_MOST_END⟩ := A.g_MOST_END
  exact so_fn (k := 2) F hm hb sc_is_end (sk_cons (ss_if (SoBs.bb (so_or (so_not (so_isTup A.B (so_v 0 rfl))) (so_b1 (so_ne (so_len A.B (so_v 0 rfl)) (so_int))))) (sk_one (ss_ret (so_bl))) (sk_nil)) (sk_one (ss_ret (so_all A.B (SoF.val (so_lc [("place", 1)] (si_seq (so_v 0 rfl)) (sg_n 1 rfl) (so_ts0) (so_call (w_is_among A) (so_cons (so_v 1 rfl) (so_cons (so_int) (so_cons (so_gint g_MOST_END) (so_nil)))))))))))
noncomputable def f_Web_init (C : Addr) : Y.SemI := webInit (f_need_stars C)
theorem w_Web_init {R : Rw} {C : Addr} (A : Facts R C) : ClsD R "Web" C 5 (specI 1 (f_Web_init C)) := by
  obtain ⟨f, fd, F, M, hb⟩ := A.me_Web_init
  obtain ⟨_, sl0⟩ := A.W.s0
  obtain ⟨_, sl1⟩ := A.W.s1
  refine init_ok (k := 4) F M A.mgW hb sc_Web_init (by decide) (fun _ _ _ _ q => by rw [q.1]; rfl) fun X E CI a mu ds mu' r ⟨hl, q⟩ => ?_
  obtain ⟨d, n, xs, rfl, h1, h2, h3, h4, rfl⟩ := webInit_inv q
  have C1 : Ctx ⟨R, 4, N_Web_init, defScope s_Web_init, false⟩ X := ⟨CI.toCxIs, fun z => by cases z⟩
  have q1 : cUn (fun d => (oRng d).map .tuple) (cCall 1 (f_need_stars C) (cCons (cV 1) cNil)) [some (.own (insO R.K C a [])), some (.st d)] mu = some (.tuple (rngD n), mu') := by
    unfold cUn cCall cCons cNil cV
    simp only [List.getElem?_cons_succ, List.getElem?_cons_zero, Option.bind_some, Option.map_some, List.length_cons, List.length_nil, if_true]
    rw [h1]
    simp only [retOf, Option.bind_some, oRng]
    rw [if_pos ⟨h2, h3⟩]
    rfl
  have q2 : cUn oTuple (cV 1) [some (.own (insO R.K C a [none, some (.tuple (rngD n))])), some (.st d)] mu' = some (.tuple xs, mu') := by
    unfold cUn cV oTuple
    simp only [List.getElem?_cons_succ, List.getElem?_cons_zero, Option.bind_some]
    rw [h4]
    rfl
  refine bs_then (Γ1 := ⟨[some (.own (insO R.K C a [none, some (.tuple (rngD n))])), some (.st d)], mu'⟩) (st_fput (Γ1 := ⟨[some (.own (insO R.K C a [])), some (.st d)], mu'⟩) (m := 0) CI.toCxIs rfl rfl (.inl rfl) A.W.c sl1 (SoE.go C1 q1 (so_tupRg A.B (so_call (w_need_stars A) (so_cons (so_v 1 rfl) so_nil)))) rfl) ?_
  exact bs_one (st_fput (m := 0) (Γ1 := ⟨[some (.own (insO R.K C a [none, some (.tuple (rngD n))])), some (.st d)], mu'⟩) CI.toCxIs rfl rfl (.inl rfl) A.W.c sl0 (SoE.go C1 q2 (so_tuple A.B (so_v 1 rfl))) ⟨rfl, _, rfl, rfl⟩)
noncomputable def f_web_of (C : Addr) : Y.Sem := fnRun 5 (bCons (sIf (cNot (cT (cCall 1 (f_is_list C) (cCons (cV 0) (cNil))))) (sNo) (bNil)) (bCons (sIf (cCmp bGt (cUn oLen (cV 0)) (cK (.int (12)))) (sNo) (bNil)) (bCons (sDNew 1) (bCons (sFor (cUnL oEnum (cV 0)) (tTp (tT1 (tN 2) (tT1 (tN 3) (tT0)))) (bCons (sIf (cNot (cT (cCall 1 (f_is_end C) (cCons (cV 3) (cNil))))) (sNo) (bNil)) (sFor (cSq (cL (cUnL oSset (cV 3)))) (tN 4) (sDPut 1 (cV 4) (cBin oAdd (cDGet2 1 (cV 4) (cTup (cNil))) (cTup (cCons (cV 2) (cNil)))))))) (sRet (cMake C 1 (f_Web_init C) (cCons (cL (cUnL oSorted (cL (cDVals 1 4)))) (cNil))))))))
theorem w_web_of {R : Rw} {C : Addr} (A : Facts R C) : Def R "web_of" 7 (spec 1 (f_web_of C)) := by
  obtain ⟨f, fd, F, hm, hb⟩ := A.fn_web_of
  obtain ⟨_, g_MOST_TIES⟩ := A.g_MOST_TIES
  exact so_fn (k := 6) F hm hb sc_web_of (sk_cons (ss_if (so_not (so_tv (so_call (w_is_list A) (so_cons (so_v 0 rfl) (so_nil))))) (sk_one (ss_no)) (sk_nil)) (sk_cons (ss_if (so_gt (so_len A.B (so_v 0 rfl)) (so_gint g_MOST_TIES)) (sk_one (ss_no)) (sk_nil)) (sk_cons (ss_dnew 1 rfl) (sk_cons (ss_for (si_enum A.B (so_v 0 rfl)) (sg_t (sg_1 (sg_n 2 rfl) (sg_1 (sg_n 3 rfl) (sg_0))) (gsn_1 (gsn_1 (gsn_0)))) (sk_cons (ss_if (so_not (so_tv (so_call (w_is_end A) (so_cons (so_v 3 rfl) (so_nil))))) (sk_one (ss_no)) (sk_nil)) (sk_one (ss_for (si_seq (SoF.val (so_sset A.B (so_v 3 rfl)))) (sg_n 4 rfl) (sk_one (ss_dput 1 (so_v 4 rfl) (so_add (so_dget2 1 (so_v 4 rfl) (so_tup (so_nil)) rfl) (so_tup (so_cons (so_v 2 rfl) (so_nil)))) (by repeat (first | apply calm_scalB | apply calm_scal | exact calm_v _ | exact calm_k _ | exact calm_tt | exact calm_nil | exact calm_ow _ | exact calm_ows _ | exact calm_dlen _ | exact calm_dmax _ | apply calm_un | apply calm_bin | apply calm_cmp | apply calm_unL | apply calm_unB | apply calm_cons | apply calm_tup | apply calm_b | apply calm_not | apply calm_and | apply calm_or | apply calm_l | apply calm_lst | apply calm_if | apply calm_dget2 | apply calm_dix | apply calm_chain | apply calm_binL | apply calm_sl | exact calm_o0 | apply calm_o1)) (by repeat (first | apply calm_scalB | apply calm_scal | exact calm_v _ | exact calm_k _ | exact calm_tt | exact calm_nil | exact calm_ow _ | exact calm_ows _ | exact calm_dlen _ | exact calm_dmax _ | apply calm_un | apply calm_bin | apply calm_cmp | apply calm_unL | apply calm_unB | apply calm_cons | apply calm_tup | apply calm_b | apply calm_not | apply calm_and | apply calm_or | apply calm_l | apply calm_lst | apply calm_if | apply calm_dget2 | apply calm_dix | apply calm_chain | apply calm_binL | apply calm_sl | exact calm_o0 | apply calm_o1)) rfl)))))) (sk_one (ss_ret (so_make (w_Web_init A) (so_cons (SoF.val (so_sorted A.B (SoF.val (so_dvals 1 4 rfl rfl)))) (so_nil)))))))))
noncomputable def f_gathered (C : Addr) : Y.Sem := fnRun 6 (bCons (sOwn 1 (cLst (cNil))) (bCons (sFor (cSq (cV 0)) (tN 2) (bCons (sSet 3 (cL (cLc (cOwS 1) [4] (tN 4) (cT (cUn oAny (cL (cLc (cSq (cV 2)) [5] (tN 5) (cTt) (cB (cCmp bIn (cV 5) (cV 4))))))) (cV 4)))) (bCons (sOwn 1 (cLc (cOwS 1) [4] (tN 4) (cCmp bNin (cV 4) (cV 3)) (cV 4))) (sApp 1 (cUn oTuple (cL (cUnL oSset (cBin oAdd (cL (cLc2 (cSq (cV 3)) [4, 5] (tN 4) (cTt) (cSq (cV 4)) [5] (tN 5) (cTt) (cV 5))) (cL (cUnL oSeq (cV 2))))))))))) (bPub 1 (sRet (cL (cUnL oSorted (cV 1)))))))
theorem w_gathered {R : Rw} {C : Addr} (A : Facts R C) : Def R "gathered" 1 (spec 1 (f_gathered C)) := by
  obtain ⟨f, fd, F, hm, hb⟩ := A.fn_gathered
  exact so_fn (k := 0) F hm hb sc_gathered (sk_cons (ss_own 1 (so_lst (so_nil)) rfl) (sk_cons (ss_for (si_seq (so_v 0 rfl)) (sg_n 2 rfl) (sk_cons (ss_setC 3 (SoF.val (so_lc [("some", 4)] (si_ownS 1 rfl) (sg_n 4 rfl) (so_ts1 (so_tv (so_any A.B (SoF.val (so_lc [("tie", 5)] (si_seq (so_v 2 rfl)) (sg_n 5 rfl) (so_ts0) (SoB.val (so_in (so_v 5 rfl) (so_v 4 rfl)))))))) (so_v 4 rfl))) rfl) (sk_cons (ss_ownL 1 [("some", 4)] (si_ownS 1 rfl) (sg_n 4 rfl) (so_ts1 (so_nin (so_v 4 rfl) (so_v 3 rfl))) (so_v 4 rfl) rfl) (sk_one (ss_app 1 (so_tuple A.B (SoF.val (so_sset A.B (so_add (SoF.val (so_lc2 [("some", 4), ("tie", 5)] [5] (si_seq (so_v 3 rfl)) (sg_n 4 rfl) (so_ts0) (si_seq (so_v 4 rfl)) (sg_n 5 rfl) (so_ts0) (so_v 5 rfl) (by repeat (first | apply calm_scalB | apply calm_scal | exact calm_v _ | exact calm_k _ | exact calm_tt | exact calm_nil | exact calm_ow _ | exact calm_ows _ | exact calm_dlen _ | exact calm_dmax _ | apply calm_un | apply calm_bin | apply calm_cmp | apply calm_unL | apply calm_unB | apply calm_cons | apply calm_tup | apply calm_b | apply calm_not | apply calm_and | apply calm_or | apply calm_l | apply calm_lst | apply calm_if | apply calm_dget2 | apply calm_dix | apply calm_chain | apply calm_binL | apply calm_sl | exact calm_o0 | apply calm_o1)) (by repeat (first | apply calm_scalB | apply calm_scal | exact calm_v _ | exact calm_k _ | exact calm_tt | exact calm_nil | exact calm_ow _ | exact calm_ows _ | exact calm_dlen _ | exact calm_dmax _ | apply calm_un | apply calm_bin | apply calm_cmp | apply calm_unL | apply calm_unB | apply calm_cons | apply calm_tup | apply calm_b | apply calm_not | apply calm_and | apply calm_or | apply calm_l | apply calm_lst | apply calm_if | apply calm_dget2 | apply calm_dix | apply calm_chain | apply calm_binL | apply calm_sl | exact calm_o0 | apply calm_o1)) (by repeat (first | apply calm_scalB | apply calm_scal | exact calm_v _ | exact calm_k _ | exact calm_tt | exact calm_nil | exact calm_ow _ | exact calm_ows _ | exact calm_dlen _ | exact calm_dmax _ | apply calm_un | apply calm_bin | apply calm_cmp | apply calm_unL | apply calm_unB | apply calm_cons | apply calm_tup | apply calm_b | apply calm_not | apply calm_and | apply calm_or | apply calm_l | apply calm_lst | apply calm_if | apply calm_dget2 | apply calm_dix | apply calm_chain | apply calm_binL | apply calm_sl | exact calm_o0 | apply calm_o1)) (by repeat (first | apply calm_scalB | apply calm_scal | exact calm_v _ | exact calm_k _ | exact calm_tt | exact calm_nil | exact calm_ow _ | exact calm_ows _ | exact calm_dlen _ | exact calm_dmax _ | apply calm_un | apply calm_bin | apply calm_cmp | apply calm_unL | apply calm_unB | apply calm_cons | apply calm_tup | apply calm_b | apply calm_not | apply calm_and | apply calm_or | apply calm_l | apply calm_lst | apply calm_if | apply calm_dget2 | apply calm_dix | apply calm_chain | apply calm_binL | apply calm_sl | exact calm_o0 | apply calm_o1)))) (SoF.val (so_list A.B (so_v 2 rfl))))))) rfl))))) (sk_pub 1 (sk_one (ss_ret (SoF.val (so_sorted A.B (so_v 1 rfl))))))))
noncomputable def f_within (C : Addr) : Y.Sem := fnRun 5 (bCons (sSet 2 (cL (cLc (cSq (cV 0)) [3] (tN 3) (cTt) (cUn oTuple (cL (cLc (cSq (cV 3)) [4] (tN 4) (cCmp bIn (cV 4) (cV 1)) (cV 4))))))) (sRet (cL (cLc (cSq (cV 2)) [3] (tN 3) (cCmp bNe (cV 3) (cTup (cNil))) (cV 3)))))
theorem w_within {R : Rw} {C : Addr} (A : Facts R C) : Def R "within" 1 (spec 2 (f_within C)) := by
  obtain ⟨f, fd, F, hm, hb⟩ := A.fn_within
  exact so_fn (k := 0) F hm hb sc_within (sk_cons (ss_setL 2 [("star", 3)] (si_seq (so_v 0 rfl)) (sg_n 3 rfl) (so_ts0) (so_tuple A.B (SoF.val (so_lc [("tie", 4)] (si_seq (so_v 3 rfl)) (sg_n 4 rfl) (so_ts1 (so_in (so_v 4 rfl) (so_v 1 rfl))) (so_v 4 rfl)))) rfl) (sk_one (ss_ret (SoF.val (so_lc [("star", 3)] (si_seq (so_v 2 rfl)) (sg_n 3 rfl) (so_ts1 (so_ne (so_v 3 rfl) (so_tup (so_nil)))) (so_v 3 rfl))))))
noncomputable def f_goes_round (C : Addr) : Y.Sem := fnRun 4 (bCons (sSet 2 (cCall 2 (f_within C) (cCons (cV 0) (cCons (cV 1) (cNil))))) (bCons (sIf (cCmp bEq (cUn oLen (cV 1)) (cK (.int (1)))) (sRet (cB (cCmp bEq (cUn oLen (cV 2)) (cK (.int (1)))))) (bNil)) (bCons (sIf (cOr (cCmp bEq (cUn oLen (cV 1)) (cK (.int (0)))) (cOr (cCmp bNe (cUn oLen (cV 2)) (cUn oLen (cV 1))) (cNot (cT (cUn oAll (cL (cLc (cSq (cV 2)) [3] (tN 3) (cTt) (cB (cCmp bEq (cUn oLen (cV 3)) (cK (.int (2)))))))))))) (sRet (cK (.bool false))) (bNil)) (sRet (cB (cCmp bEq (cUn oLen (cCall 1 (f_gathered C) (cCons (cV 2) (cNil)))) (cK (.int (1)))))))))
theorem w_goes_round {R : Rw} {C : Addr} (A : Facts R C) : Def R "goes_round" 2 (spec 2 (f_goes_round C)) := by
  obtain ⟨f, fd, F, hm, hb⟩ := A.fn_goes_round
  exact so_fn (k := 1) F hm hb sc_goes_round (sk_cons (ss_set 2 (so_call (w_within A) (so_cons (so_v 0 rfl) (so_cons (so_v 1 rfl) (so_nil)))) rfl) (sk_cons (ss_if (so_eq (so_len A.B (so_v 1 rfl)) (so_int)) (sk_one (ss_ret (SoB.val (so_eq (so_len A.B (so_v 2 rfl)) (so_int))))) (sk_nil)) (sk_cons (ss_if (SoBs.bb (so_or (so_eq (so_len A.B (so_v 1 rfl)) (so_int)) (so_or (so_ne (so_len A.B (so_v 2 rfl)) (so_len A.B (so_v 1 rfl))) (so_b1 (so_not (so_tv (so_all A.B (SoF.val (so_lc [("star", 3)] (si_seq (so_v 2 rfl)) (sg_n 3 rfl) (so_ts0) (SoB.val (so_eq (so_len A.B (so_v 3 rfl)) (so_int)))))))))))) (sk_one (ss_ret (so_bl))) (sk_nil)) (sk_one (ss_ret (SoB.val (so_eq (so_len A.B (so_call (w_gathered A) (so_cons (so_v 2 rfl) (so_nil)))) (so_int))))))))
noncomputable def f_is_round (C : Addr) : Y.Sem := fnRun 2 (sRet (cB (cAnd (cT (cCall 2 (f_is_set_of C) (cCons (cV 1) (cCons (cLenI C (f_Web_len C) (cV 0)) (cNil))))) (cT (cCall 2 (f_goes_round C) (cCons (cUn (oFld C 0) (cV 0)) (cCons (cV 1) (cNil))))))))
theorem w_is_round {R : Rw} {C : Addr} (A : Facts R C) : Def R "is_round" 4 (spec 2 (f_is_round C)) := by
  obtain ⟨f, fd, F, hm, hb⟩ := A.fn_is_round
  obtain ⟨_, sl0⟩ := A.W.s0
  exact so_fn (k := 3) F hm hb sc_is_round (sk_one (ss_ret (SoB.val (SoBs.bb (so_and (so_tv (so_call (w_is_set_of A) (so_cons (so_v 1 rfl) (so_cons (so_lenI A.B (w_Web_len A) (so_v 0 rfl)) (so_nil))))) (so_b1 (so_tv (so_call (w_goes_round A) (so_cons (so_fld A.W.c sl0 (so_v 0 rfl)) (so_cons (so_v 1 rfl) (so_nil)))))))))))
noncomputable def f_sets_of (C : Addr) : Y.Sem := fnRun 5 (bCons (sOwn 1 (cLst (cCons (cTup (cNil)) (cNil)))) (bCons (sFor (cSq (cV 0)) (tN 2) (sExt 1 (cL (cLc (cOwS 1) [3] (tN 3) (cTt) (cBin oAdd (cV 3) (cTup (cCons (cV 2) (cNil)))))))) (sRet (cL (cLc (cSq (cL (cUnL oSorted (cL (cLc (cOwS 1) [3] (tN 3) (cTt) (cTup (cCons (cUn oLen (cV 3)) (cCons (cV 3) (cNil))))))))) [4, 3] (tTp (tT1 (tN 4) (tT1 (tN 3) (tT0)))) (cTt) (cV 3))))))
theorem w_sets_of {R : Rw} {C : Addr} (A : Facts R C) : Def R "sets_of" 1 (spec 1 (f_sets_of C)) := by
  obtain ⟨f, fd, F, hm, hb⟩ := A.fn_sets_of
  exact so_fn (k := 0) F hm hb sc_sets_of (sk_cons (ss_own 1 (so_lst (so_cons (so_tup (so_nil)) (so_nil))) rfl) (sk_cons (ss_for (si_seq (so_v 0 rfl)) (sg_n 2 rfl) (sk_one (ss_ext 1 (SoF.val (so_lc [("some", 3)] (si_ownS 1 rfl) (sg_n 3 rfl) (so_ts0) (so_add (so_v 3 rfl) (so_tup (so_cons (so_v 2 rfl) (so_nil)))))) rfl))) (sk_one (ss_ret (SoF.val (so_lc [("count", 4), ("some", 3)] (si_seq (SoF.val (so_sorted A.B (SoF.val (so_lc [("some", 3)] (si_ownS 1 rfl) (sg_n 3 rfl) (so_ts0) (so_tup (so_cons (so_len A.B (so_v 3 rfl)) (so_cons (so_v 3 rfl) (so_nil))))))))) (sg_t (sg_1 (sg_n 4 rfl) (sg_1 (sg_n 3 rfl) (sg_0))) (gsn_1 (gsn_1 (gsn_0)))) (so_ts0) (so_v 3 rfl)))))))
noncomputable def f_rounds (C : Addr) : Y.Sem := fnRun 2 (sRet (cUn oTuple (cL (cLc (cSq (cCall 1 (f_sets_of C) (cCons (cUn (oFld C 1) (cV 0)) (cNil)))) [1] (tN 1) (cT (cCall 2 (f_goes_round C) (cCons (cUn (oFld C 0) (cV 0)) (cCons (cV 1) (cNil))))) (cV 1)))))
theorem w_rounds {R : Rw} {C : Addr} (A : Facts R C) : Def R "rounds" 3 (spec 1 (f_rounds C)) := by
  obtain ⟨f, fd, F, hm, hb⟩ := A.fn_rounds
  obtain ⟨_, sl0⟩ := A.W.s0
  obtain ⟨_, sl1⟩ := A.W.s1
  exact so_fn (k := 2) F hm hb sc_rounds (sk_one (ss_ret (so_tuple A.B (SoF.val (so_lc [("some", 1)] (si_seq (so_call (w_sets_of A) (so_cons (so_fld A.W.c sl1 (so_v 0 rfl)) (so_nil)))) (sg_n 1 rfl) (so_ts1 (so_tv (so_call (w_goes_round A) (so_cons (so_fld A.W.c sl0 (so_v 0 rfl)) (so_cons (so_v 1 rfl) (so_nil)))))) (so_v 1 rfl))))))
noncomputable def f__law_like (C : Addr) : Y.Sem := fnRun 2 (sRet (cB (cCmp bEq (cUn oRepr (cV 0)) (cUn oRepr (cV 1)))))
theorem w__law_like {R : Rw} {C : Addr} (A : Facts R C) : DefR R "_law_like" 1 (det (spec 2 (f__law_like C))) := by
  obtain ⟨f, fd, F, hm, hb⟩ := A.fn__law_like
  exact so_fnR (k := 0) F hm hb sc__law_like (sk_one (ss_ret (SoB.val (so_eq (so_repr A.B rfl (so_v 0 rfl)) (so_repr A.B rfl (so_v 1 rfl))))))
noncomputable def f__law_order (C : Addr) : Y.Sem := fnRun 4 (bCons (sParFF 2 3 (cUnL oRng (cV 1)) (cLst (cNil))) (bCons (whRun (cScalB (cCmp bNe (cV 2) (cL (cLst (cNil))))) (sAppPop 3 2 (cCall 2 sem_draw (cCons (cV 0) (cCons (cScal (cUn oLen (cV 2))) (cNil))))) 100001) (bPub 3 (sRet (cV 3)))))
theorem w__law_order {R : Rw} {C : Addr} (A : Facts R C) : Def R "_law_order" 3 (spec 2 (f__law_order C)) := by
  obtain ⟨f, fd, F, hm, hb⟩ := A.fn__law_order
  exact so_fn (k := 2) F hm hb sc__law_order (sk_cons (ss_parFF 2 3 (so_lstRg A.B (so_v 1 rfl)) (so_lst (so_nil)) rfl rfl) (sk_cons (ss_while 100001 (so_scalB (so_ne (so_v 2 rfl) (SoF.val (so_lst (so_nil)))) (keep_calm (by repeat (first | apply calm_scalB | apply calm_scal | exact calm_v _ | exact calm_k _ | exact calm_tt | exact calm_nil | exact calm_ow _ | exact calm_ows _ | exact calm_dlen _ | exact calm_dmax _ | apply calm_un | apply calm_bin | apply calm_cmp | apply calm_unL | apply calm_unB | apply calm_cons | apply calm_tup | apply calm_b | apply calm_not | apply calm_and | apply calm_or | apply calm_l | apply calm_lst | apply calm_if | apply calm_dget2 | apply calm_dix | apply calm_chain | apply calm_binL | apply calm_sl | exact calm_o0 | apply calm_o1)))) (by repeat (first | apply calm_scalB | apply calm_scal | exact calm_v _ | exact calm_k _ | exact calm_tt | exact calm_nil | exact calm_ow _ | exact calm_ows _ | exact calm_dlen _ | exact calm_dmax _ | apply calm_un | apply calm_bin | apply calm_cmp | apply calm_unL | apply calm_unB | apply calm_cons | apply calm_tup | apply calm_b | apply calm_not | apply calm_and | apply calm_or | apply calm_l | apply calm_lst | apply calm_if | apply calm_dget2 | apply calm_dix | apply calm_chain | apply calm_binL | apply calm_sl | exact calm_o0 | apply calm_o1)) (sk_one (ss_appPop 3 2 (so_call (w__law_draw A) (so_cons (so_v 0 rfl) (so_cons (so_scal (so_len A.B (so_v 2 rfl)) (keep_calm (by repeat (first | apply calm_scalB | apply calm_scal | exact calm_v _ | exact calm_k _ | exact calm_tt | exact calm_nil | exact calm_ow _ | exact calm_ows _ | exact calm_dlen _ | exact calm_dmax _ | apply calm_un | apply calm_bin | apply calm_cmp | apply calm_unL | apply calm_unB | apply calm_cons | apply calm_tup | apply calm_b | apply calm_not | apply calm_and | apply calm_or | apply calm_l | apply calm_lst | apply calm_if | apply calm_dget2 | apply calm_dix | apply calm_chain | apply calm_binL | apply calm_sl | exact calm_o0 | apply calm_o1)))) (so_nil)))) rfl rfl))) (sk_pub 3 (sk_one (ss_ret (so_v 3 rfl))))))
noncomputable def f__law_ends (C : Addr) : Y.Sem := fnRun 10 (bCons (sParEE 2 3 (cCall 2 sem_draw (cCons (cV 0) (cCons (cBin oAdd (cV 1) (cK (.int (1)))) (cNil)))) (cCall 2 sem_draw (cCons (cV 0) (cCons (cK (.int (6))) (cNil))))) (bCons (sParEF 4 5 (cBin oIx (cL (cLst (cCons (cK (.int (3))) (cCons (cK (.int (5))) (cCons (cK (.int (8))) (cCons (cK (.int (24))) (cNil))))))) (cCall 2 sem_draw (cCons (cV 0) (cCons (cK (.int (4))) (cNil))))) (cLst (cNil))) (bCons (sFor (cUnL oRng (cV 2)) (tN 6) (sIf (cCmp bEq (cV 3) (cK (.int (0)))) (sApp 5 (cTup (cCons (cCall 2 sem_draw (cCons (cV 0) (cCons (cV 4) (cNil)))) (cCons (cCall 2 sem_draw (cCons (cV 0) (cCons (cV 4) (cNil)))) (cNil))))) (sIf (cCmp bEq (cV 3) (cK (.int (1)))) (sApp 5 (cTup (cCons (cV 6) (cCons (cBin oMod (cUn oInt (cBin oAdd (cV 6) (cK (.int (1))))) (cV 2)) (cNil))))) (sIf (cCmp bEq (cV 3) (cK (.int (2)))) (sApp 5 (cTup (cCons (cCall 2 sem_draw (cCons (cV 0) (cCons (cK (.int (4))) (cNil)))) (cCons (cBin oAdd (cK (.int (4))) (cCall 2 sem_draw (cCons (cV 0) (cCons (cK (.int (4))) (cNil))))) (cNil))))) (sIf (cAnd (cCmp bEq (cV 3) (cK (.int (3)))) (cScalB (cCmp bNe (cV 5) (cL (cLst (cNil)))))) (bCons (sSetPop 7 5 (cCall 2 sem_draw (cCons (cV 0) (cCons (cScal (cUn oLen (cV 5))) (cNil))))) (bCons (sSet 8 (cBin oIx (cL (cLst (cCons (cL (cLst (cCons (cTup (cCons (cBin oIx (cV 7) (cK (.int (0)))) (cCons (cBin oSub (cK (.int (23))) (cV 6)) (cNil)))) (cCons (cTup (cCons (cBin oSub (cK (.int (23))) (cV 6)) (cCons (cBin oIx (cV 7) (cK (.int (1)))) (cNil)))) (cNil))))) (cCons (cL (cLst (cCons (cV 7) (cCons (cV 7) (cNil))))) (cNil))))) (cCall 2 sem_draw (cCons (cV 0) (cCons (cK (.int (2))) (cNil)))))) (bPub 5 (sOwn 5 (cBinL oAddL (cV 5) (cV 8)))))) (sIf (cCmp bEq (cV 3) (cK (.int (4)))) (sApp 5 (cBin oIx (cL (cLst (cCons (cTup (cCons (cK (.int (0))) (cCons (cK (.int (1))) (cNil)))) (cCons (cTup (cCons (cK (.int (0))) (cCons (cK (.int (2))) (cNil)))) (cCons (cTup (cCons (cK (.int (0))) (cCons (cK (.int (3))) (cNil)))) (cCons (cTup (cCons (cK (.int (1))) (cCons (cK (.int (2))) (cNil)))) (cCons (cTup (cCons (cK (.int (1))) (cCons (cK (.int (3))) (cNil)))) (cCons (cTup (cCons (cK (.int (2))) (cCons (cK (.int (3))) (cNil)))) (cNil))))))))) (cCall 2 sem_draw (cCons (cV 0) (cCons (cK (.int (6))) (cNil)))))) (sApp 5 (cIf (cCmp bLt (cV 6) (cK (.int (2)))) (cTup (cCons (cK (.int (0))) (cCons (cK (.int (1))) (cNil)))) (cTup (cCons (cCall 2 sem_draw (cCons (cV 0) (cCons (cK (.int (3))) (cNil)))) (cCons (cBin oAdd (cK (.int (1))) (cCall 2 sem_draw (cCons (cV 0) (cCons (cK (.int (4))) (cNil))))) (cNil)))))))))))) (bPub 5 (sRet (cL (cLc (cSq (cCall 2 (f__law_order C) (cCons (cV 0) (cCons (cScal (cUn oLen (cV 5))) (cNil))))) [9] (tN 9) (cTt) (cBin oIx (cV 5) (cV 9)))))))))
theorem w__law_ends {R : Rw} {C : Addr} (A : Facts R C) : Def R "_law_ends" 4 (spec 2 (f__law_ends C)) := by
  obtain ⟨f, fd, F, hm, hb⟩ := A.fn__law_ends
  exact so_fn (k := 3) F hm hb sc__law_ends (sk_cons (ss_parEE 2 3 (so_call (w__law_draw A) (so_cons (so_v 0 rfl) (so_cons (so_add (so_v 1 rfl) (so_int)) (so_nil)))) (so_call (w__law_draw A) (so_cons (so_v 0 rfl) (so_cons (so_int) (so_nil)))) rfl rfl) (sk_cons (ss_parEFc 4 5 (so_ix (SoF.val (so_lst (so_cons (so_int) (so_cons (so_int) (so_cons (so_int) (so_cons (so_int) (so_nil))))))) (so_call (w__law_draw A) (so_cons (so_v 0 rfl) (so_cons (so_int) (so_nil))))) (so_lst (so_nil)) rfl rfl) (sk_cons (ss_for (si_rng A.B (so_v 2 rfl)) (sg_n 6 rfl) (sk_one (ss_if (so_eq (so_v 3 rfl) (so_int)) (sk_one (ss_app 5 (so_tup (so_cons (so_call (w__law_draw A) (so_cons (so_v 0 rfl) (so_cons (so_v 4 rfl) (so_nil)))) (so_cons (so_call (w__law_draw A) (so_cons (so_v 0 rfl) (so_cons (so_v 4 rfl) (so_nil)))) (so_nil)))) rfl)) (sk_one (ss_if (so_eq (so_v 3 rfl) (so_int)) (sk_one (ss_app 5 (so_tup (so_cons (so_v 6 rfl) (so_cons (so_mod (so_intc A.B (so_add (so_v 6 rfl) (so_int))) (so_v 2 rfl)) (so_nil)))) rfl)) (sk_one (ss_if (so_eq (so_v 3 rfl) (so_int)) (sk_one (ss_app 5 (so_tup (so_cons (so_call (w__law_draw A) (so_cons (so_v 0 rfl) (so_cons (so_int) (so_nil)))) (so_cons (so_add (so_int) (so_call (w__law_draw A) (so_cons (so_v 0 rfl) (so_cons (so_int) (so_nil))))) (so_nil)))) rfl)) (sk_one (ss_if (SoBs.bb (so_and (so_eq (so_v 3 rfl) (so_int)) (so_b1 (so_scalB (so_ne (so_v 5 rfl) (SoF.val (so_lst (so_nil)))) (keep_calm (by repeat (first | apply calm_scalB | apply calm_scal | exact calm_v _ | exact calm_k _ | exact calm_tt | exact calm_nil | exact calm_ow _ | exact calm_ows _ | exact calm_dlen _ | exact calm_dmax _ | apply calm_un | apply calm_bin | apply calm_cmp | apply calm_unL | apply calm_unB | apply calm_cons | apply calm_tup | apply calm_b | apply calm_not | apply calm_and | apply calm_or | apply calm_l | apply calm_lst | apply calm_if | apply calm_dget2 | apply calm_dix | apply calm_chain | apply calm_binL | apply calm_sl | exact calm_o0 | apply calm_o1))))))) (sk_cons (ss_setPop 7 5 (so_call (w__law_draw A) (so_cons (so_v 0 rfl) (so_cons (so_scal (so_len A.B (so_v 5 rfl)) (keep_calm (by repeat (first | apply calm_scalB | apply calm_scal | exact calm_v _ | exact calm_k _ | exact calm_tt | exact calm_nil | exact calm_ow _ | exact calm_ows _ | exact calm_dlen _ | exact calm_dmax _ | apply calm_un | apply calm_bin | apply calm_cmp | apply calm_unL | apply calm_unB | apply calm_cons | apply calm_tup | apply calm_b | apply calm_not | apply calm_and | apply calm_or | apply calm_l | apply calm_lst | apply calm_if | apply calm_dget2 | apply calm_dix | apply calm_chain | apply calm_binL | apply calm_sl | exact calm_o0 | apply calm_o1)))) (so_nil)))) rfl rfl) (sk_cons (ss_set 8 (so_ix (SoF.val (so_lst (so_cons (SoF.val (so_lst (so_cons (so_tup (so_cons (so_ix (so_v 7 rfl) (so_int)) (so_cons (so_sub (so_int) (so_v 6 rfl)) (so_nil)))) (so_cons (so_tup (so_cons (so_sub (so_int) (so_v 6 rfl)) (so_cons (so_ix (so_v 7 rfl) (so_int)) (so_nil)))) (so_nil))))) (so_cons (SoF.val (so_lst (so_cons (so_v 7 rfl) (so_cons (so_v 7 rfl) (so_nil))))) (so_nil))))) (so_call (w__law_draw A) (so_cons (so_v 0 rfl) (so_cons (so_int) (so_nil))))) rfl) (sk_pub 5 (sk_one (ss_own 5 (so_addL (so_v 5 rfl) (so_v 8 rfl)) rfl))))) (sk_one (ss_if (so_eq (so_v 3 rfl) (so_int)) (sk_one (ss_app 5 (so_ix (SoF.val (so_lst (so_cons (so_tup (so_cons (so_int) (so_cons (so_int) (so_nil)))) (so_cons (so_tup (so_cons (so_int) (so_cons (so_int) (so_nil)))) (so_cons (so_tup (so_cons (so_int) (so_cons (so_int) (so_nil)))) (so_cons (so_tup (so_cons (so_int) (so_cons (so_int) (so_nil)))) (so_cons (so_tup (so_cons (so_int) (so_cons (so_int) (so_nil)))) (so_cons (so_tup (so_cons (so_int) (so_cons (so_int) (so_nil)))) (so_nil))))))))) (so_call (w__law_draw A) (so_cons (so_v 0 rfl) (so_cons (so_int) (so_nil))))) rfl)) (sk_one (ss_app 5 (so_if (so_lt (so_v 6 rfl) (so_int)) (so_tup (so_cons (so_int) (so_cons (so_int) (so_nil)))) (so_tup (so_cons (so_call (w__law_draw A) (so_cons (so_v 0 rfl) (so_cons (so_int) (so_nil)))) (so_cons (so_add (so_int) (so_call (w__law_draw A) (so_cons (so_v 0 rfl) (so_cons (so_int) (so_nil))))) (so_nil))))) rfl))))))))))))) (sk_pub 5 (sk_one (ss_ret (SoF.val (so_lc [("number", 9)] (si_seq (so_call (w__law_order A) (so_cons (so_v 0 rfl) (so_cons (so_scal (so_len A.B (so_v 5 rfl)) (keep_calm (by repeat (first | apply calm_scalB | apply calm_scal | exact calm_v _ | exact calm_k _ | exact calm_tt | exact calm_nil | exact calm_ow _ | exact calm_ows _ | exact calm_dlen _ | exact calm_dmax _ | apply calm_un | apply calm_bin | apply calm_cmp | apply calm_unL | apply calm_unB | apply calm_cons | apply calm_tup | apply calm_b | apply calm_not | apply calm_and | apply calm_or | apply calm_l | apply calm_lst | apply calm_if | apply calm_dget2 | apply calm_dix | apply calm_chain | apply calm_binL | apply calm_sl | exact calm_o0 | apply calm_o1)))) (so_nil))))) (sg_n 9 rfl) (so_ts0) (so_ix (so_v 5 rfl) (so_v 9 rfl))))))))))
noncomputable def f__law_stars (C : Addr) : Y.Sem := fnRun 5 (bCons (sOwn 1 (cLst (cNil))) (bCons (sFor (cUnL oRng (cK (.int (24)))) (tN 2) (bCons (sSet 3 (cUn oTuple (cL (cLc (cUnL oRng (cUn oLen (cV 0))) [4] (tN 4) (cCmp bIn (cV 2) (cBin oIx (cV 0) (cV 4))) (cV 4))))) (sIf (cCmp bNe (cV 3) (cTup (cNil))) (sApp 1 (cV 3)) (bNil)))) (bPub 1 (sRet (cUn oTuple (cL (cUnL oSorted (cV 1))))))))
theorem w__law_stars {R : Rw} {C : Addr} (A : Facts R C) : Def R "_law_stars" 1 (spec 1 (f__law_stars C)) := by
  obtain ⟨f, fd, F, hm, hb⟩ := A.fn__law_stars
  exact so_fn (k := 0) F hm hb sc__law_stars (sk_cons (ss_own 1 (so_lst (so_nil)) rfl) (sk_cons (ss_for (si_rng A.B (so_int)) (sg_n 2 rfl) (sk_cons (ss_set 3 (so_tuple A.B (SoF.val (so_lc [("tie", 4)] (si_rng A.B (so_len A.B (so_v 0 rfl))) (sg_n 4 rfl) (so_ts1 (so_in (so_v 2 rfl) (so_ix (so_v 0 rfl) (so_v 4 rfl)))) (so_v 4 rfl)))) rfl) (sk_one (ss_if (so_ne (so_v 3 rfl) (so_tup (so_nil))) (sk_one (ss_app 1 (so_v 3 rfl) rfl)) (sk_nil))))) (sk_pub 1 (sk_one (ss_ret (so_tuple A.B (SoF.val (so_sorted A.B (so_v 1 rfl)))))))))
noncomputable def f__law_web (C : Addr) : Y.Sem := fnRun 2 (sRet (cCall 1 (f__law_stars C) (cCons (cCall 2 (f__law_ends C) (cCons (cV 0) (cCons (cV 1) (cNil)))) (cNil))))
theorem w__law_web {R : Rw} {C : Addr} (A : Facts R C) : Def R "_law_web" 5 (spec 2 (f__law_web C)) := by
  obtain ⟨f, fd, F, hm, hb⟩ := A.fn__law_web
  exact so_fn (k := 4) F hm hb sc__law_web (sk_one (ss_ret (so_call (w__law_stars A) (so_cons (so_call (w__law_ends A) (so_cons (so_v 0 rfl) (so_cons (so_v 1 rfl) (so_nil)))) (so_nil)))))
noncomputable def f__law_lots (C : Addr) : Y.Sem := fnRun 7 (bCons (sSet 1 (cL (cLst (cNil)))) (bCons (sFor (cSq (cV 0)) (tN 2) (bCons (sSet 3 (cL (cLc (cSq (cV 1)) [4] (tN 4) (cCmp bNe (cL (cLc (cSq (cV 2)) [5] (tN 5) (cCmp bIn (cV 5) (cV 4)) (cV 5))) (cL (cLst (cNil)))) (cV 4)))) (bCons (sSet 6 (cL (cUnL oSeq (cV 2)))) (bCons (sFor (cSq (cV 3)) (tN 4) (sSet 6 (cBin oAdd (cV 6) (cL (cUnL oSeq (cV 4)))))) (sSet 1 (cBin oAdd (cL (cLc (cSq (cV 1)) [4] (tN 4) (cCmp bNin (cV 4) (cV 3)) (cV 4))) (cL (cLst (cCons (cUn oTuple (cL (cUnL oSset (cV 6)))) (cNil)))))))))) (sRet (cL (cUnL oSorted (cV 1))))))
theorem w__law_lots {R : Rw} {C : Addr} (A : Facts R C) : Def R "_law_lots" 1 (spec 1 (f__law_lots C)) := by
  obtain ⟨f, fd, F, hm, hb⟩ := A.fn__law_lots
  exact so_fn (k := 0) F hm hb sc__law_lots (sk_cons (ss_set 1 (SoF.val (so_lst (so_nil))) rfl) (sk_cons (ss_for (si_seq (so_v 0 rfl)) (sg_n 2 rfl) (sk_cons (ss_setC 3 (SoF.val (so_lc [("some", 4)] (si_seq (so_v 1 rfl)) (sg_n 4 rfl) (so_ts1 (so_ne (SoF.val (so_lc [("tie", 5)] (si_seq (so_v 2 rfl)) (sg_n 5 rfl) (so_ts1 (so_in (so_v 5 rfl) (so_v 4 rfl))) (so_v 5 rfl))) (SoF.val (so_lst (so_nil))))) (so_v 4 rfl))) rfl) (sk_cons (ss_set 6 (SoF.val (so_list A.B (so_v 2 rfl))) rfl) (sk_cons (ss_for (si_seq (so_v 3 rfl)) (sg_n 4 rfl) (sk_one (ss_set 6 (so_add (so_v 6 rfl) (SoF.val (so_list A.B (so_v 4 rfl)))) rfl))) (sk_one (ss_set 1 (so_add (SoF.val (so_lc [("some", 4)] (si_seq (so_v 1 rfl)) (sg_n 4 rfl) (so_ts1 (so_nin (so_v 4 rfl) (so_v 3 rfl))) (so_v 4 rfl))) (SoF.val (so_lst (so_cons (so_tuple A.B (SoF.val (so_sset A.B (so_v 6 rfl)))) (so_nil))))) rfl)))))) (sk_one (ss_ret (SoF.val (so_sorted A.B (so_v 1 rfl)))))))
noncomputable def f__law_within (C : Addr) : Y.Sem := fnRun 5 (bCons (sSet 2 (cL (cLc (cSq (cV 0)) [3] (tN 3) (cTt) (cUn oTuple (cL (cLc (cSq (cV 3)) [4] (tN 4) (cCmp bIn (cV 4) (cV 1)) (cV 4))))))) (sRet (cL (cLc (cSq (cV 2)) [3] (tN 3) (cCmp bNe (cV 3) (cTup (cNil))) (cV 3)))))
theorem w__law_within {R : Rw} {C : Addr} (A : Facts R C) : Def R "_law_within" 1 (spec 2 (f__law_within C)) := by
  obtain ⟨f, fd, F, hm, hb⟩ := A.fn__law_within
  exact so_fn (k := 0) F hm hb sc__law_within (sk_cons (ss_setL 2 [("star", 3)] (si_seq (so_v 0 rfl)) (sg_n 3 rfl) (so_ts0) (so_tuple A.B (SoF.val (so_lc [("tie", 4)] (si_seq (so_v 3 rfl)) (sg_n 4 rfl) (so_ts1 (so_in (so_v 4 rfl) (so_v 1 rfl))) (so_v 4 rfl)))) rfl) (sk_one (ss_ret (SoF.val (so_lc [("star", 3)] (si_seq (so_v 2 rfl)) (sg_n 3 rfl) (so_ts1 (so_ne (so_v 3 rfl) (so_tup (so_nil)))) (so_v 3 rfl))))))
noncomputable def f__law_is_round (C : Addr) : Y.Sem := fnRun 4 (bCons (sSet 2 (cCall 2 (f__law_within C) (cCons (cV 0) (cCons (cV 1) (cNil))))) (bCons (sIf (cCmp bLt (cUn oLen (cV 1)) (cK (.int (2)))) (sRet (cB (cAnd (cCmp bEq (cUn oLen (cV 1)) (cK (.int (1)))) (cCmp bEq (cUn oLen (cV 2)) (cK (.int (1))))))) (bNil)) (bCons (sIf (cOr (cCmp bNe (cUn oLen (cV 2)) (cUn oLen (cV 1))) (cCmp bNe (cL (cLc (cSq (cV 2)) [3] (tN 3) (cCmp bNe (cUn oLen (cV 3)) (cK (.int (2)))) (cV 3))) (cL (cLst (cNil))))) (sRet (cK (.bool false))) (bNil)) (sRet (cB (cCmp bEq (cUn oLen (cCall 1 (f__law_lots C) (cCons (cV 2) (cNil)))) (cK (.int (1)))))))))
theorem w__law_is_round {R : Rw} {C : Addr} (A : Facts R C) : Def R "_law_is_round" 2 (spec 2 (f__law_is_round C)) := by
  obtain ⟨f, fd, F, hm, hb⟩ := A.fn__law_is_round
  exact so_fn (k := 1) F hm hb sc__law_is_round (sk_cons (ss_set 2 (so_call (w__law_within A) (so_cons (so_v 0 rfl) (so_cons (so_v 1 rfl) (so_nil)))) rfl) (sk_cons (ss_if (so_lt (so_len A.B (so_v 1 rfl)) (so_int)) (sk_one (ss_ret (SoB.val (SoBs.bb (so_and (so_eq (so_len A.B (so_v 1 rfl)) (so_int)) (so_b1 (so_eq (so_len A.B (so_v 2 rfl)) (so_int)))))))) (sk_nil)) (sk_cons (ss_if (SoBs.bb (so_or (so_ne (so_len A.B (so_v 2 rfl)) (so_len A.B (so_v 1 rfl))) (so_b1 (so_ne (SoF.val (so_lc [("star", 3)] (si_seq (so_v 2 rfl)) (sg_n 3 rfl) (so_ts1 (so_ne (so_len A.B (so_v 3 rfl)) (so_int))) (so_v 3 rfl))) (SoF.val (so_lst (so_nil))))))) (sk_one (ss_ret (so_bl))) (sk_nil)) (sk_one (ss_ret (SoB.val (so_eq (so_len A.B (so_call (w__law_lots A) (so_cons (so_v 2 rfl) (so_nil)))) (so_int))))))))
noncomputable def f__law_many (C : Addr) : Y.Sem := fnRun 2 (sRet (cBin oAdd (cK (.int (1))) (cUn oMax (cBin oAdd (cL (cLst (cCons (cUn oNeg (cK (.int (1)))) (cNil)))) (cL (cLc (cSq (cV 0)) [1] (tN 1) (cTt) (cUn oMax (cV 1))))))))
theorem w__law_many {R : Rw} {C : Addr} (A : Facts R C) : Def R "_law_many" 1 (spec 1 (f__law_many C)) := by
  obtain ⟨f, fd, F, hm, hb⟩ := A.fn__law_many
  exact so_fn (k := 0) F hm hb sc__law_many (sk_one (ss_ret (so_add (so_int) (so_max A.B (so_add (SoF.val (so_lst (so_cons (so_neg (so_int)) (so_nil)))) (SoF.val (so_lc [("star", 1)] (si_seq (so_v 0 rfl)) (sg_n 1 rfl) (so_ts0) (so_max A.B (so_v 1 rfl)))))))))
noncomputable def f__law_sets (C : Addr) : Y.Sem := fnRun 5 (bCons (sSet 1 (cL (cLst (cCons (cTup (cNil)) (cNil))))) (bCons (sFor (cUnL oRng (cV 0)) (tN 2) (sSet 1 (cBin oAdd (cV 1) (cL (cLc (cSq (cV 1)) [3] (tN 3) (cTt) (cBin oAdd (cV 3) (cTup (cCons (cV 2) (cNil))))))))) (sRet (cL (cLc (cSq (cL (cUnL oSorted (cL (cLc (cSq (cV 1)) [3] (tN 3) (cTt) (cTup (cCons (cUn oLen (cV 3)) (cCons (cV 3) (cNil))))))))) [4] (tN 4) (cTt) (cBin oIx (cV 4) (cK (.int (1)))))))))
theorem w__law_sets {R : Rw} {C : Addr} (A : Facts R C) : Def R "_law_sets" 1 (spec 1 (f__law_sets C)) := by
  obtain ⟨f, fd, F, hm, hb⟩ := A.fn__law_sets
  exact so_fn (k := 0) F hm hb sc__law_sets (sk_cons (ss_set 1 (SoF.val (so_lst (so_cons (so_tup (so_nil)) (so_nil)))) rfl) (sk_cons (ss_for (si_rng A.B (so_v 0 rfl)) (sg_n 2 rfl) (sk_one (ss_set 1 (so_add (so_v 1 rfl) (SoF.val (so_lc [("some", 3)] (si_seq (so_v 1 rfl)) (sg_n 3 rfl) (so_ts0) (so_add (so_v 3 rfl) (so_tup (so_cons (so_v 2 rfl) (so_nil))))))) rfl))) (sk_one (ss_ret (SoF.val (so_lc [("pair", 4)] (si_seq (SoF.val (so_sorted A.B (SoF.val (so_lc [("some", 3)] (si_seq (so_v 1 rfl)) (sg_n 3 rfl) (so_ts0) (so_tup (so_cons (so_len A.B (so_v 3 rfl)) (so_cons (so_v 3 rfl) (so_nil))))))))) (sg_n 4 rfl) (so_ts0) (so_ix (so_v 4 rfl) (so_int))))))))
noncomputable def f__law_rounds (C : Addr) : Y.Sem := fnRun 2 (sRet (cL (cLc (cSq (cCall 1 (f__law_sets C) (cCons (cCall 1 (f__law_many C) (cCons (cV 0) (cNil))) (cNil)))) [1] (tN 1) (cT (cCall 2 (f__law_is_round C) (cCons (cV 0) (cCons (cV 1) (cNil))))) (cV 1))))
theorem w__law_rounds {R : Rw} {C : Addr} (A : Facts R C) : Def R "_law_rounds" 3 (spec 1 (f__law_rounds C)) := by
  obtain ⟨f, fd, F, hm, hb⟩ := A.fn__law_rounds
  exact so_fn (k := 2) F hm hb sc__law_rounds (sk_one (ss_ret (SoF.val (so_lc [("some", 1)] (si_seq (so_call (w__law_sets A) (so_cons (so_call (w__law_many A) (so_cons (so_v 0 rfl) (so_nil))) (so_nil)))) (sg_n 1 rfl) (so_ts1 (so_tv (so_call (w__law_is_round A) (so_cons (so_v 0 rfl) (so_cons (so_v 1 rfl) (so_nil)))))) (so_v 1 rfl)))))
noncomputable def f__law_odd_set (C : Addr) : Y.Sem := fnRun 3 (bCons (sSet 2 (cL (cLst (cCons (cK .none) (cCons (cL (cLst (cCons (cK (.int (0))) (cNil)))) (cCons (cTup (cCons (cV 1) (cNil))) (cCons (cTup (cCons (cUn oNeg (cK (.int (1)))) (cNil))) (cCons (cTup (cCons (cK (.int (0))) (cCons (cK (.int (0))) (cNil)))) (cCons (cTup (cCons (cK (.bool true)) (cNil))) (cCons (cK (.str "0")) (cCons (cK (.int (0))) (cCons (cK (.dict [])) (cCons (cTup (cCons (cK (.str "0")) (cNil))) (cCons (cTup (cCons (cK (.int (1))) (cCons (cK (.int (0))) (cNil)))) (cNil))))))))))))))) (sRet (cBin oIx (cV 2) (cCall 2 sem_draw (cCons (cV 0) (cCons (cK (.int (11))) (cNil)))))))
theorem w__law_odd_set {R : Rw} {C : Addr} (A : Facts R C) : Def R "_law_odd_set" 3 (spec 2 (f__law_odd_set C)) := by
  obtain ⟨f, fd, F, hm, hb⟩ := A.fn__law_odd_set
  exact so_fn (k := 2) F hm hb sc__law_odd_set (sk_cons (ss_set 2 (SoF.val (so_lst (so_cons (so_non) (so_cons (SoF.val (so_lst (so_cons (so_int) (so_nil)))) (so_cons (so_tup (so_cons (so_v 1 rfl) (so_nil))) (so_cons (so_tup (so_cons (so_neg (so_int)) (so_nil))) (so_cons (so_tup (so_cons (so_int) (so_cons (so_int) (so_nil)))) (so_cons (so_tup (so_cons (so_bl) (so_nil))) (so_cons (so_str) (so_cons (so_int) (so_cons (so_dict0) (so_cons (so_tup (so_cons (so_str) (so_nil))) (so_cons (so_tup (so_cons (so_int) (so_cons (so_int) (so_nil)))) (so_nil)))))))))))))) rfl) (sk_one (ss_ret (so_ix (so_v 2 rfl) (so_call (w__law_draw A) (so_cons (so_v 0 rfl) (so_cons (so_int) (so_nil))))))))
noncomputable def f_law_rest (C : Addr) : CS := bCons (sFor (cUnL oRng (cK (.int (2)))) (tN 2) (bCons (sSet 3 (cCall 2 (f__law_web C) (cCons (cV 1) (cCons (cBin oIx (cL (cLst (cCons (cK (.int (10))) (cCons (cK (.int (7))) (cNil))))) (cV 2)) (cNil))))) (bCons (sParEE 4 5 (cMake C 1 (f_Web_init C) (cCons (cV 3) (cNil))) (cCall 1 (f__law_rounds C) (cCons (cV 3) (cNil)))) (bCons (sIf (cNot (cT (cCall 2 (f__law_like C) (cCons (cCall 1 (f_rounds C) (cCons (cV 4) (cNil))) (cCons (cUn oTuple (cV 5)) (cNil)))))) (sRet (cK (.bool false))) (bNil)) (bCons (sSet 6 (cCall 1 (f__law_sets C) (cCons (cCall 1 (f__law_many C) (cCons (cV 3) (cNil))) (cNil)))) (bCons (sFor (cUnL oRng (cK (.int (12)))) (tN 7) (bCons (sSet 8 (cBin oIx (cV 6) (cCall 2 sem_draw (cCons (cV 1) (cCons (cUn oLen (cV 6)) (cNil)))))) (sIf (cNot (cT (cCall 2 (f__law_like C) (cCons (cCall 2 (f_is_round C) (cCons (cV 4) (cCons (cV 8) (cNil)))) (cCons (cB (cCmp bIn (cV 8) (cV 5))) (cNil)))))) (sRet (cK (.bool false))) (bNil)))) (bCons (sFor (cSq (cBin oAdd (cSl (cV 5) (cO0) (cO1 (cK (.int (3))))) (cSl (cV 5) (cO1 (cUn oNeg (cK (.int (2))))) (cO0)))) (tN 8) (sIf (cCmp bGt (cUn oLen (cV 8)) (cK (.int (1)))) (sFor (cSq (cTup (cCons (cUn oRev (cV 8)) (cCons (cBin oAdd (cSl (cV 8) (cO0) (cO1 (cUn oNeg (cK (.int (2)))))) (cSl (cUn oRev (cV 8)) (cO0) (cO1 (cK (.int (2)))))) (cCons (cBin oAdd (cV 8) (cSl (cV 8) (cO1 (cUn oNeg (cK (.int (1))))) (cO0))) (cCons (cBin oAdd (cV 8) (cTup (cCons (cK (.int (99))) (cNil)))) (cCons (cL (cUnL oSeq (cV 8))) (cNil)))))))) (tN 9) (sIf (cCmp bNotB (cCall 2 (f_is_round C) (cCons (cV 4) (cCons (cV 9) (cNil)))) (cK (.bool false))) (sRet (cK (.bool false))) (bNil))) (bNil))) (sFor (cSq (cTup (cCons (cCall 2 (f__law_odd_set C) (cCons (cV 1) (cCons (cCall 1 (f__law_many C) (cCons (cV 3) (cNil))) (cNil)))) (cCons (cL (cLst (cCons (cK (.int (0))) (cNil)))) (cCons (cK .none) (cCons (cTup (cCons (cK (.int (0))) (cCons (cK (.int (99))) (cNil)))) (cCons (cK (.str "01")) (cCons (cV 5) (cNil))))))))) (tN 9) (sIf (cCmp bNotB (cCall 2 (f_is_round C) (cCons (cV 4) (cCons (cV 9) (cNil)))) (cK (.bool false))) (sRet (cK (.bool false))) (bNil)))))))))) (bCons (sSet 10 (cCall 1 (f_web_of C) (cCons (cL (cLst (cCons (cTup (cCons (cK (.int (0))) (cCons (cK (.int (1))) (cNil)))) (cCons (cTup (cCons (cK (.int (0))) (cCons (cK (.int (2))) (cNil)))) (cCons (cTup (cCons (cK (.int (0))) (cCons (cK (.int (3))) (cNil)))) (cCons (cTup (cCons (cK (.int (1))) (cCons (cK (.int (2))) (cNil)))) (cCons (cTup (cCons (cK (.int (1))) (cCons (cK (.int (3))) (cNil)))) (cCons (cTup (cCons (cK (.int (2))) (cCons (cK (.int (3))) (cNil)))) (cNil))))))))) (cNil)))) (bCons (sIf (cOr (cCmp bNe (cSl (cCall 1 (f_rounds C) (cCons (cV 10) (cNil))) (cO0) (cO1 (cK (.int (4))))) (cTup (cCons (cTup (cCons (cK (.int (0))) (cCons (cK (.int (1))) (cCons (cK (.int (3))) (cNil))))) (cCons (cTup (cCons (cK (.int (0))) (cCons (cK (.int (2))) (cCons (cK (.int (4))) (cNil))))) (cCons (cTup (cCons (cK (.int (1))) (cCons (cK (.int (2))) (cCons (cK (.int (5))) (cNil))))) (cCons (cTup (cCons (cK (.int (3))) (cCons (cK (.int (4))) (cCons (cK (.int (5))) (cNil))))) (cNil))))))) (cCmp bNe (cUn oLen (cCall 1 (f_rounds C) (cCons (cV 10) (cNil)))) (cK (.int (7))))) (sRet (cK (.bool false))) (bNil)) (sRet (cB (cAnd (cCmp bEq (cCall 1 (f_rounds C) (cCons (cCall 1 (f_web_of C) (cCons (cL (cLst (cCons (cTup (cCons (cK (.int (0))) (cCons (cK (.int (0))) (cNil)))) (cCons (cTup (cCons (cK (.int (0))) (cCons (cK (.int (1))) (cNil)))) (cCons (cTup (cCons (cK (.int (0))) (cCons (cK (.int (1))) (cNil)))) (cNil)))))) (cNil))) (cNil))) (cTup (cCons (cTup (cCons (cK (.int (0))) (cNil))) (cCons (cTup (cCons (cK (.int (1))) (cCons (cK (.int (2))) (cNil)))) (cNil))))) (cCmp bEq (cCall 1 (f_rounds C) (cCons (cMake C 1 (f_Web_init C) (cCons (cL (cLst (cNil))) (cNil))) (cNil))) (cTup (cNil))))))))
theorem k_law_rest {R : Rw} {C : Addr} (A : Facts R C) : SoK ⟨R, 19, N_law, defScope s_law, true⟩ ((defBody s_law).drop 1) (f_law_rest C) := by
  exact (sk_cons (ss_for (si_rng A.B (so_int)) (sg_n 2 rfl) (sk_cons (ss_set 3 (so_call (w__law_web A) (so_cons (so_v 1 rfl) (so_cons (so_ix (SoF.val (so_lst (so_cons (so_int) (so_cons (so_int) (so_nil))))) (so_v 2 rfl)) (so_nil)))) rfl) (sk_cons (ss_parEE 4 5 (so_make (w_Web_init A) (so_cons (so_v 3 rfl) (so_nil))) (so_call (w__law_rounds A) (so_cons (so_v 3 rfl) (so_nil))) rfl rfl) (sk_cons (ss_if (so_not (so_tv (so_callR rfl (w__law_like A) (so_cons (so_call (w_rounds A) (so_cons (so_v 4 rfl) (so_nil))) (so_cons (so_tuple A.B (so_v 5 rfl)) (so_nil)))))) (sk_one (ss_ret (so_bl))) (sk_nil)) (sk_cons (ss_set 6 (so_call (w__law_sets A) (so_cons (so_call (w__law_many A) (so_cons (so_v 3 rfl) (so_nil))) (so_nil))) rfl) (sk_cons (ss_for (si_rng A.B (so_int)) (sg_n 7 rfl) (sk_cons (ss_set 8 (so_ix (so_v 6 rfl) (so_call (w__law_draw A) (so_cons (so_v 1 rfl) (so_cons (so_len A.B (so_v 6 rfl)) (so_nil))))) rfl) (sk_one (ss_if (so_not (so_tv (so_callR rfl (w__law_like A) (so_cons (so_call (w_is_round A) (so_cons (so_v 4 rfl) (so_cons (so_v 8 rfl) (so_nil)))) (so_cons (SoB.val (so_in (so_v 8 rfl) (so_v 5 rfl))) (so_nil)))))) (sk_one (ss_ret (so_bl))) (sk_nil))))) (sk_cons (ss_for (si_seq (so_add (so_sl (so_v 5 rfl) (so_o0) (so_o1 (so_int))) (so_sl (so_v 5 rfl) (so_o1 (so_neg (so_int))) (so_o0)))) (sg_n 8 rfl) (sk_one (ss_if (so_gt (so_len A.B (so_v 8 rfl)) (so_int)) (sk_one (ss_for (si_seq (so_tup (so_cons (so_rev (so_v 8 rfl)) (so_cons (so_add (so_sl (so_v 8 rfl) (so_o0) (so_o1 (so_neg (so_int)))) (so_sl (so_rev (so_v 8 rfl)) (so_o0) (so_o1 (so_int)))) (so_cons (so_add (so_v 8 rfl) (so_sl (so_v 8 rfl) (so_o1 (so_neg (so_int))) (so_o0))) (so_cons (so_add (so_v 8 rfl) (so_tup (so_cons (so_int) (so_nil)))) (so_cons (SoF.val (so_list A.B (so_v 8 rfl))) (so_nil)))))))) (sg_n 9 rfl) (sk_one (ss_if (so_notB (so_call (w_is_round A) (so_cons (so_v 4 rfl) (so_cons (so_v 9 rfl) (so_nil)))) (so_bl)) (sk_one (ss_ret (so_bl))) (sk_nil))))) (sk_nil)))) (sk_one (ss_for (si_seq (so_tup (so_cons (so_call (w__law_odd_set A) (so_cons (so_v 1 rfl) (so_cons (so_call (w__law_many A) (so_cons (so_v 3 rfl) (so_nil))) (so_nil)))) (so_cons (SoF.val (so_lst (so_cons (so_int) (so_nil)))) (so_cons (so_non) (so_cons (so_tup (so_cons (so_int) (so_cons (so_int) (so_nil)))) (so_cons (so_str) (so_cons (so_v 5 rfl) (so_nil))))))))) (sg_n 9 rfl) (sk_one (ss_if (so_notB (so_call (w_is_round A) (so_cons (so_v 4 rfl) (so_cons (so_v 9 rfl) (so_nil)))) (so_bl)) (sk_one (ss_ret (so_bl))) (sk_nil)))))))))))) (sk_cons (ss_set 10 (so_call (w_web_of A) (so_cons (SoF.val (so_lst (so_cons (so_tup (so_cons (so_int) (so_cons (so_int) (so_nil)))) (so_cons (so_tup (so_cons (so_int) (so_cons (so_int) (so_nil)))) (so_cons (so_tup (so_cons (so_int) (so_cons (so_int) (so_nil)))) (so_cons (so_tup (so_cons (so_int) (so_cons (so_int) (so_nil)))) (so_cons (so_tup (so_cons (so_int) (so_cons (so_int) (so_nil)))) (so_cons (so_tup (so_cons (so_int) (so_cons (so_int) (so_nil)))) (so_nil))))))))) (so_nil))) rfl) (sk_cons (ss_if (SoBs.bb (so_or (so_ne (so_sl (so_call (w_rounds A) (so_cons (so_v 10 rfl) (so_nil))) (so_o0) (so_o1 (so_int))) (so_tup (so_cons (so_tup (so_cons (so_int) (so_cons (so_int) (so_cons (so_int) (so_nil))))) (so_cons (so_tup (so_cons (so_int) (so_cons (so_int) (so_cons (so_int) (so_nil))))) (so_cons (so_tup (so_cons (so_int) (so_cons (so_int) (so_cons (so_int) (so_nil))))) (so_cons (so_tup (so_cons (so_int) (so_cons (so_int) (so_cons (so_int) (so_nil))))) (so_nil))))))) (so_b1 (so_ne (so_len A.B (so_call (w_rounds A) (so_cons (so_v 10 rfl) (so_nil)))) (so_int))))) (sk_one (ss_ret (so_bl))) (sk_nil)) (sk_one (ss_ret (SoB.val (SoBs.bb (so_and (so_eq (so_call (w_rounds A) (so_cons (so_call (w_web_of A) (so_cons (SoF.val (so_lst (so_cons (so_tup (so_cons (so_int) (so_cons (so_int) (so_nil)))) (so_cons (so_tup (so_cons (so_int) (so_cons (so_int) (so_nil)))) (so_cons (so_tup (so_cons (so_int) (so_cons (so_int) (so_nil)))) (so_nil)))))) (so_nil))) (so_nil))) (so_tup (so_cons (so_tup (so_cons (so_int) (so_nil))) (so_cons (so_tup (so_cons (so_int) (so_cons (so_int) (so_nil)))) (so_nil))))) (so_b1 (so_eq (so_call (w_rounds A) (so_cons (so_make (w_Web_init A) (so_cons (SoF.val (so_lst (so_nil))) (so_nil))) (so_nil))) (so_tup (so_nil))))))))))))
theorem w_law {R : Rw} {C : Addr} (A : Facts R C) (H : ∀ (q : D) (a : Addr) (ms : MS), OkM (2 ^ 59) ms → ∃ mu', f_law_rest C ⟨[some (.st q), some (.st (.ref a)), none, none, none, none, none, none, none, none, none], some (a, ms)⟩ = some (.rt (.bool true) mu')) :
    ∀ {fa : Addr}, R.mg "law" = some (.ref fa) → FnG R.P R.w R.K R.mg R.base (L2.CX R.P R.w) 20 fa 1 (SpD R.K (S_law R.K)) := by
  intro fa hfa
  obtain ⟨f, fd, F, hm, hb⟩ := A.fn_law
  obtain rfl : f = fa := by have := hm.symm.trans hfa; injection this with this; injection this
  refine bodyG (k := 19) (N := N_law) F hb sc_law (fun mu ds P hS => by obtain ⟨_, ns, _, _, e, _⟩ := hS; rw [e]; rfl) fun X E CI hgd mu ds P hS => ?_
  obtain ⟨rfl, ns, hl, _, rfl, rfl⟩ := hS
  refine bs_cons (po' := { nx := fun Γ' => ∃ a ms, OkM (2 ^ 59) ms ∧ Γ' = ⟨[some (.st (.ob (scrO R.K ns))), some (.st (.ref a)), none, none, none, none, none, none, none, none, none], some (a, ms)⟩ }) (st_callG CI.toCxIs 1 (w__law_begun A) (by decide) rfl (xa_cons (xe_v CI.toCxIs 0 rfl rfl) xa_nil) ⟨ns, hl, rfl, rfl⟩ (fun _ _ ⟨_, _, _, _, z⟩ => by cases z) rfl (.inl rfl) (.inr rfl) fun mu' d ⟨a, ms, ok, e1, e2⟩ => ?_) fun Γ' ⟨a, ms, ok, e⟩ => ?_
  · subst e1; cases e2; exact ⟨a, ms, ok, rfl⟩
  · subst e
    obtain ⟨mu', h⟩ := H (.ob (scrO R.K ns)) a ms ok
    exact bs_post (k_law_rest A X E ⟨CI, fun _ => hgd⟩ _ _ h) (fun _ z => z.elim) (fun _ _ z => congrArg Res.ret z.2) (fun _ _ z => z.elim) (fun _ z => z.elim) (fun _ z => z.elim)
end T
set_option Elab.async false
set_option linter.all false
set_option maxRecDepth 100000
set_option maxHeartbeats 400000
namespace T
open PySem PySem.Spec PyProof.Rows L2 Y
variable {C : Addr} {mu : Mu}
def whole : D → Bool
  | .int _ => true
  | _ => false
theorem r_is_whole {d : D} (h : noOb d = true) : f_is_whole C mu [d] = some (mu, .ret (.bool (whole d))) := by
  cases d <;> first | rfl | cases h
def among (d : D) (lo hi : Int) : Bool := match d with
  | .int i => decide (lo ≤ i) && decide (i ≤ hi)
  | _ => false
theorem r_is_among {d : D} {lo hi : Int} (h : noOb d = true) : f_is_among C mu [d, .int lo, .int hi] = some (mu, .ret (.bool (among d lo hi))) := by
  cases d <;> first | rfl | cases h
theorem r_within {ss : List (List Int)} {t : List Int} : f_within C mu [tT ss, tI t] = some (mu, .ret (lT (within ss t))) := by
  unfold f_within
  refine fnRun_rt ?_
  rw [bCons_nx (Γ' := ⟨[some (.st (tT ss)), some (.st (tI t)), some (.st (lT (ss.map fun s => s.filter fun x => decide (x ∈ t)))), none, none], mu⟩)]
  · simp only [fnRun, fnRes, bCons, bNil, bPub, sNo, sSet, sRet, sIf, sExpr, sOwn, sApp, sExt, sAsg, sParEE, sParEF, sParFF, lstAt, cL, cLc, cSq, cUn, cUnL, cUnB, cV, cK, cB, cT, oB, cNot, cAnd, cOr, cIf, cCmp, cBin, cBinL, cChain, iLe, iLt, cTt, cTup, cLst, cNil, cCons, cCall, retOf, cMake, cLenI, oFld, cOwS, cOw, cScal, cScalB, pubSls, pubS, scalB, cSl, cSlL, cO0, cO1, En.start, List.map_cons, List.map_nil, List.length_cons, List.length_nil, List.replicate, List.cons_append, List.nil_append, List.getElem?_cons_zero, List.getElem?_cons_succ, Option.bind_some, Option.map_some, Option.bind_none, Option.map_none, oSeq_l, oSeq_t, oSeq_tI, oSeq_lI, oSeq_tT, oSeq_lT, oTuple, oInt, oLen_l, oLen_t, oLen_tI, oLen_lI, oLen_tT, oLen_lT, oNeg, oAdd, oAddL, oSub, oMod, oEnum, List.set_cons_zero, List.set_cons_succ, lcRun_A, lcBody, tN, tTp, tT1, tT0, wipeL, cond_pair, lcRunA_pure, fm_some, fm_if, if_true, cond_true, cond_false, Nat.reduceAdd, Nat.reduceLeDiff, Nat.zero_add, ite_true, ite_false, Bool.and_true, Bool.true_and, reduceIte, Nat.zero_le, Option.join_some, bLt_i, bGt_i, bLe_i, bGe_i, oIs, noOb, bNon, bNotNon, bIsB, bNotB, bIn_i, bIn_iL, bNin_i, bNin_iL, bIn_t, bIn_tL, bNin_t, bNin_tL, bEq_i, bNe_i, bEq_t, bNe_t, bEq_l, bNe_l, bEq_tT, bNe_tT, bEq_lT, bNe_lT, bNe_t0, bEq_t0, bNe_l0, bNe_lT0, bEq_tT0, oAll_map, oAny_map]
    rfl
  · simp only [fnRun, fnRes, bCons, bNil, bPub, sNo, sSet, sRet, sIf, sExpr, sOwn, sApp, sExt, sAsg, sParEE, sParEF, sParFF, lstAt, cL, cLc, cSq, cUn, cUnL, cUnB, cV, cK, cB, cT, oB, cNot, cAnd, cOr, cIf, cCmp, cBin, cBinL, cChain, iLe, iLt, cTt, cTup, cLst, cNil, cCons, cCall, retOf, cMake, cLenI, oFld, cOwS, cOw, cScal, cScalB, pubSls, pubS, scalB, cSl, cSlL, cO0, cO1, En.start, List.map_cons, List.map_nil, List.length_cons, List.length_nil, List.replicate, List.cons_append, List.nil_append, List.getElem?_cons_zero, List.getElem?_cons_succ, Option.bind_some, Option.map_some, Option.bind_none, Option.map_none, oSeq_l, oSeq_t, oSeq_tI, oSeq_lI, oSeq_tT, oSeq_lT, oTuple, oInt, oLen_l, oLen_t, oLen_tI, oLen_lI, oLen_tT, oLen_lT, oNeg, oAdd, oAddL, oSub, oMod, oEnum, List.set_cons_zero, List.set_cons_succ, lcRun_A, lcBody, tN, tTp, tT1, tT0, wipeL, cond_pair, lcRunA_pure, fm_some, fm_if, if_true, cond_true, cond_false, Nat.reduceAdd, Nat.reduceLeDiff, Nat.zero_add, ite_true, ite_false, Bool.and_true, Bool.true_and, reduceIte, Nat.zero_le, Option.join_some, bLt_i, bGt_i, bLe_i, bGe_i, oIs, noOb, bNon, bNotNon, bIsB, bNotB, bIn_i, bIn_iL, bNin_i, bNin_iL, bIn_t, bIn_tL, bNin_t, bNin_tL, bEq_i, bNe_i, bEq_t, bNe_t, bEq_l, bNe_l, bEq_tT, bNe_tT, bEq_lT, bNe_lT, bNe_t0, bEq_t0, bNe_l0, bNe_lT0, bEq_tT0, oAll_map, oAny_map]
    rw [lT, List.map_map]
    rfl
theorem r_withinL {ss : List (List Int)} {t : List Int} : f_within C mu [lT ss, tI t] = some (mu, .ret (lT (within ss t))) := by
  unfold f_within
  refine fnRun_rt ?_
  rw [bCons_nx (Γ' := ⟨[some (.st (lT ss)), some (.st (tI t)), some (.st (lT (ss.map fun s => s.filter fun x => decide (x ∈ t)))), none, none], mu⟩)]
  · simp only [fnRun, fnRes, bCons, bNil, bPub, sNo, sSet, sRet, sIf, sExpr, sOwn, sApp, sExt, sAsg, sParEE, sParEF, sParFF, lstAt, cL, cLc, cSq, cUn, cUnL, cUnB, cV, cK, cB, cT, oB, cNot, cAnd, cOr, cIf, cCmp, cBin, cBinL, cChain, iLe, iLt, cTt, cTup, cLst, cNil, cCons, cCall, retOf, cMake, cLenI, oFld, cOwS, cOw, cScal, cScalB, pubSls, pubS, scalB, cSl, cSlL, cO0, cO1, En.start, List.map_cons, List.map_nil, List.length_cons, List.length_nil, List.replicate, List.cons_append, List.nil_append, List.getElem?_cons_zero, List.getElem?_cons_succ, Option.bind_some, Option.map_some, Option.bind_none, Option.map_none, oSeq_l, oSeq_t, oSeq_tI, oSeq_lI, oSeq_tT, oSeq_lT, oTuple, oInt, oLen_l, oLen_t, oLen_tI, oLen_lI, oLen_tT, oLen_lT, oNeg, oAdd, oAddL, oSub, oMod, oEnum, List.set_cons_zero, List.set_cons_succ, lcRun_A, lcBody, tN, tTp, tT1, tT0, wipeL, cond_pair, lcRunA_pure, fm_some, fm_if, if_true, cond_true, cond_false, Nat.reduceAdd, Nat.reduceLeDiff, Nat.zero_add, ite_true, ite_false, Bool.and_true, Bool.true_and, reduceIte, Nat.zero_le, Option.join_some, bLt_i, bGt_i, bLe_i, bGe_i, oIs, noOb, bNon, bNotNon, bIsB, bNotB, bIn_i, bIn_iL, bNin_i, bNin_iL, bIn_t, bIn_tL, bNin_t, bNin_tL, bEq_i, bNe_i, bEq_t, bNe_t, bEq_l, bNe_l, bEq_tT, bNe_tT, bEq_lT, bNe_lT, bNe_t0, bEq_t0, bNe_l0, bNe_lT0, bEq_tT0, oAll_map, oAny_map]
    rfl
  · simp only [fnRun, fnRes, bCons, bNil, bPub, sNo, sSet, sRet, sIf, sExpr, sOwn, sApp, sExt, sAsg, sParEE, sParEF, sParFF, lstAt, cL, cLc, cSq, cUn, cUnL, cUnB, cV, cK, cB, cT, oB, cNot, cAnd, cOr, cIf, cCmp, cBin, cBinL, cChain, iLe, iLt, cTt, cTup, cLst, cNil, cCons, cCall, retOf, cMake, cLenI, oFld, cOwS, cOw, cScal, cScalB, pubSls, pubS, scalB, cSl, cSlL, cO0, cO1, En.start, List.map_cons, List.map_nil, List.length_cons, List.length_nil, List.replicate, List.cons_append, List.nil_append, List.getElem?_cons_zero, List.getElem?_cons_succ, Option.bind_some, Option.map_some, Option.bind_none, Option.map_none, oSeq_l, oSeq_t, oSeq_tI, oSeq_lI, oSeq_tT, oSeq_lT, oTuple, oInt, oLen_l, oLen_t, oLen_tI, oLen_lI, oLen_tT, oLen_lT, oNeg, oAdd, oAddL, oSub, oMod, oEnum, List.set_cons_zero, List.set_cons_succ, lcRun_A, lcBody, tN, tTp, tT1, tT0, wipeL, cond_pair, lcRunA_pure, fm_some, fm_if, if_true, cond_true, cond_false, Nat.reduceAdd, Nat.reduceLeDiff, Nat.zero_add, ite_true, ite_false, Bool.and_true, Bool.true_and, reduceIte, Nat.zero_le, Option.join_some, bLt_i, bGt_i, bLe_i, bGe_i, oIs, noOb, bNon, bNotNon, bIsB, bNotB, bIn_i, bIn_iL, bNin_i, bNin_iL, bIn_t, bIn_tL, bNin_t, bNin_tL, bEq_i, bNe_i, bEq_t, bNe_t, bEq_l, bNe_l, bEq_tT, bNe_tT, bEq_lT, bNe_lT, bNe_t0, bEq_t0, bNe_l0, bNe_lT0, bEq_tT0, oAll_map, oAny_map]
    rw [lT, lT, List.map_map]
    rfl
theorem g_body {q : D} {fs : List (List Int)} {s : List Int} {b : Option Sl} (h : tot fs + s.length < 60) (hl : fs.length < 1000) :
    (bCons (sSet 3 (cL (cLc (cOwS 1) [4] (tN 4) (cT (cUn oAny (cL (cLc (cSq (cV 2)) [5] (tN 5) cTt (cB (cCmp bIn (cV 5) (cV 4))))))) (cV 4))))
          (bCons (sOwn 1 (cLc (cOwS 1) [4] (tN 4) (cCmp bNin (cV 4) (cV 3)) (cV 4)))
            (sApp 1 (cUn oTuple (cL (cUnL oSset (cBin oAdd (cL (cLc2 (cSq (cV 3)) [4, 5] (tN 4) cTt (cSq (cV 4)) [5] (tN 5) cTt (cV 5))) (cL (cUnL oSeq (cV 2)))))))))) ⟨[some (.st q), some (.lst (fs.map tI)), some (.st (tI s)), b, none, none], mu⟩
      = some (.nx ⟨[some (.st q), some (.lst ((gStep fs s).map tI)), some (.st (tI s)), some (.st (lT (fs.filter (meets s)))), none, none], mu⟩) := by
  rw [bCons_nx (Γ' := ⟨[some (.st q), some (.lst (fs.map tI)), some (.st (tI s)), some (.st (lT (fs.filter (meets s)))), none, none], mu⟩)]
  · rw [bCons_nx (Γ' := ⟨[some (.st q), some (.lst ((fs.filter fun s' => !decide (s' ∈ fs.filter (meets s))).map tI)), some (.st (tI s)), some (.st (lT (fs.filter (meets s)))), none, none], mu⟩)]
    · have h1 := tot_filter_le (meets s) fs
      have hlen : ((fs.filter (meets s)).flatten ++ s).length < 64 := by rw [List.length_append, flat_len]; omega
      have e : cLc2 (cUnL oSeq (cV 3)) [4, 5] (tN 4) cTt (cUnL oSeq (cV 4)) [5] (tN 5) cTt (cV 5) [some (.st q), some (.lst ((fs.filter fun s' => !decide (s' ∈ fs.filter (meets s))).map tI)), some (.st (tI s)), some (.st (lT (fs.filter (meets s)))), none, none] mu = some ((fs.filter (meets s)).flatten.map D.int, mu) := by
        simp only [cLc2, lc2Body, lc2In, lc2Run_A, lc2RunA_pure, lc2_flat, fnRun, fnRes, bCons, bNil, bPub, sNo, sSet, sRet, sIf, sExpr, sOwn, sApp, sExt, sAsg, sParEE, sParEF, sParFF, lstAt, cL, cLc, cSq, cUn, cUnL, cUnB, cV, cK, cB, cT, oB, cNot, cAnd, cOr, cIf, cCmp, cBin, cBinL, cChain, iLe, iLt, cTt, cTup, cLst, cNil, cCons, cCall, retOf, cMake, cLenI, oFld, cOwS, cOw, cScal, cScalB, pubSls, pubS, scalB, cSl, cSlL, cO0, cO1, En.start, List.map_cons, List.map_nil, List.length_cons, List.length_nil, List.replicate, List.cons_append, List.nil_append, List.getElem?_cons_zero, List.getElem?_cons_succ, Option.bind_some, Option.map_some, Option.bind_none, Option.map_none, oSeq_l, oSeq_t, oSeq_tI, oSeq_lI, oSeq_tT, oSeq_lT, oTuple, oInt, oLen_l, oLen_t, oLen_tI, oLen_lI, oLen_tT, oLen_lT, oNeg, oAdd, oAddL, oSub, oMod, oEnum, List.set_cons_zero, List.set_cons_succ, lcRun_A, lcBody, tN, tTp, tT1, tT0, wipeL, cond_pair, lcRunA_pure, fm_some, fm_if, if_true, cond_true, cond_false, Nat.reduceAdd, Nat.reduceLeDiff, Nat.zero_add, ite_true, ite_false, Bool.and_true, Bool.true_and, reduceIte, Nat.zero_le, Option.join_some, bLt_i, bGt_i, bLe_i, bGe_i, oIs, noOb, bNon, bNotNon, bIsB, bNotB, bIn_i, bIn_iL, bNin_i, bNin_iL, bIn_t, bIn_tL, bNin_t, bNin_tL, bEq_i, bNe_i, bEq_t, bNe_t, bEq_l, bNe_l, bEq_tT, bNe_tT, bEq_lT, bNe_lT, bNe_t0, bEq_t0, bNe_l0, bNe_lT0, bEq_tT0, oAll_map, oAny_map]
        rw [if_pos (by rw [List.length_map, flat_len]; omega)]
      simp only [e, fnRun, fnRes, bCons, bNil, bPub, sNo, sSet, sRet, sIf, sExpr, sOwn, sApp, sExt, sAsg, sParEE, sParEF, sParFF, lstAt, cL, cLc, cSq, cUn, cUnL, cUnB, cV, cK, cB, cT, oB, cNot, cAnd, cOr, cIf, cCmp, cBin, cBinL, cChain, iLe, iLt, cTt, cTup, cLst, cNil, cCons, cCall, retOf, cMake, cLenI, oFld, cOwS, cOw, cScal, cScalB, pubSls, pubS, scalB, cSl, cSlL, cO0, cO1, En.start, List.map_cons, List.map_nil, List.length_cons, List.length_nil, List.replicate, List.cons_append, List.nil_append, List.getElem?_cons_zero, List.getElem?_cons_succ, Option.bind_some, Option.map_some, Option.bind_none, Option.map_none, oSeq_l, oSeq_t, oSeq_tI, oSeq_lI, oSeq_tT, oSeq_lT, oTuple, oInt, oLen_l, oLen_t, oLen_tI, oLen_lI, oLen_tT, oLen_lT, oNeg, oAdd, oAddL, oSub, oMod, oEnum, List.set_cons_zero, List.set_cons_succ, lcRun_A, lcBody, tN, tTp, tT1, tT0, wipeL, cond_pair, lcRunA_pure, fm_some, fm_if, if_true, cond_true, cond_false, Nat.reduceAdd, Nat.reduceLeDiff, Nat.zero_add, ite_true, ite_false, Bool.and_true, Bool.true_and, reduceIte, Nat.zero_le, Option.join_some, bLt_i, bGt_i, bLe_i, bGe_i, oIs, noOb, bNon, bNotNon, bIsB, bNotB, bIn_i, bIn_iL, bNin_i, bNin_iL, bIn_t, bIn_tL, bNin_t, bNin_tL, bEq_i, bNe_i, bEq_t, bNe_t, bEq_l, bNe_l, bEq_tT, bNe_tT, bEq_lT, bNe_lT, bNe_t0, bEq_t0, bNe_l0, bNe_lT0, bEq_tT0, oAll_map, oAny_map, List.length_map, flat_len]
      rw [if_pos (by omega), ← List.map_append]
      simp only [fnRun, fnRes, bCons, bNil, bPub, sNo, sSet, sRet, sIf, sExpr, sOwn, sApp, sExt, sAsg, sParEE, sParEF, sParFF, lstAt, cL, cLc, cSq, cUn, cUnL, cUnB, cV, cK, cB, cT, oB, cNot, cAnd, cOr, cIf, cCmp, cBin, cBinL, cChain, iLe, iLt, cTt, cTup, cLst, cNil, cCons, cCall, retOf, cMake, cLenI, oFld, cOwS, cOw, cScal, cScalB, pubSls, pubS, scalB, cSl, cSlL, cO0, cO1, En.start, List.map_cons, List.map_nil, List.length_cons, List.length_nil, List.replicate, List.cons_append, List.nil_append, List.getElem?_cons_zero, List.getElem?_cons_succ, Option.bind_some, Option.map_some, Option.bind_none, Option.map_none, oSeq_l, oSeq_t, oSeq_tI, oSeq_lI, oSeq_tT, oSeq_lT, oTuple, oInt, oLen_l, oLen_t, oLen_tI, oLen_lI, oLen_tT, oLen_lT, oNeg, oAdd, oAddL, oSub, oMod, oEnum, List.set_cons_zero, List.set_cons_succ, lcRun_A, lcBody, tN, tTp, tT1, tT0, wipeL, cond_pair, lcRunA_pure, fm_some, fm_if, if_true, cond_true, cond_false, Nat.reduceAdd, Nat.reduceLeDiff, Nat.zero_add, ite_true, ite_false, Bool.and_true, Bool.true_and, reduceIte, Nat.zero_le, Option.join_some, bLt_i, bGt_i, bLe_i, bGe_i, oIs, noOb, bNon, bNotNon, bIsB, bNotB, bIn_i, bIn_iL, bNin_i, bNin_iL, bIn_t, bIn_tL, bNin_t, bNin_tL, bEq_i, bNe_i, bEq_t, bNe_t, bEq_l, bNe_l, bEq_tT, bNe_tT, bEq_lT, bNe_lT, bNe_t0, bEq_t0, bNe_l0, bNe_lT0, bEq_tT0, oAll_map, oAny_map]
      rw [oSset_l hlen]
      simp only [fnRun, fnRes, bCons, bNil, bPub, sNo, sSet, sRet, sIf, sExpr, sOwn, sApp, sExt, sAsg, sParEE, sParEF, sParFF, lstAt, cL, cLc, cSq, cUn, cUnL, cUnB, cV, cK, cB, cT, oB, cNot, cAnd, cOr, cIf, cCmp, cBin, cBinL, cChain, iLe, iLt, cTt, cTup, cLst, cNil, cCons, cCall, retOf, cMake, cLenI, oFld, cOwS, cOw, cScal, cScalB, pubSls, pubS, scalB, cSl, cSlL, cO0, cO1, En.start, List.map_cons, List.map_nil, List.length_cons, List.length_nil, List.replicate, List.cons_append, List.nil_append, List.getElem?_cons_zero, List.getElem?_cons_succ, Option.bind_some, Option.map_some, Option.bind_none, Option.map_none, oSeq_l, oSeq_t, oSeq_tI, oSeq_lI, oSeq_tT, oSeq_lT, oTuple, oInt, oLen_l, oLen_t, oLen_tI, oLen_lI, oLen_tT, oLen_lT, oNeg, oAdd, oAddL, oSub, oMod, oEnum, List.set_cons_zero, List.set_cons_succ, lcRun_A, lcBody, tN, tTp, tT1, tT0, wipeL, cond_pair, lcRunA_pure, fm_some, fm_if, if_true, cond_true, cond_false, Nat.reduceAdd, Nat.reduceLeDiff, Nat.zero_add, ite_true, ite_false, Bool.and_true, Bool.true_and, reduceIte, Nat.zero_le, Option.join_some, bLt_i, bGt_i, bLe_i, bGe_i, oIs, noOb, bNon, bNotNon, bIsB, bNotB, bIn_i, bIn_iL, bNin_i, bNin_iL, bIn_t, bIn_tL, bNin_t, bNin_tL, bEq_i, bNe_i, bEq_t, bNe_t, bEq_l, bNe_l, bEq_tT, bNe_tT, bEq_lT, bNe_lT, bNe_t0, bEq_t0, bNe_l0, bNe_lT0, bEq_tT0, oAll_map, oAny_map, List.length_map]
      have h2 := List.length_filter_le (fun s' => !decide (s' ∈ fs.filter (meets s))) fs
      rw [if_pos (by omega)]
      unfold gStep
      rw [List.map_append]
      rfl
    · simp only [fnRun, fnRes, bCons, bNil, bPub, sNo, sSet, sRet, sIf, sExpr, sOwn, sApp, sExt, sAsg, sParEE, sParEF, sParFF, lstAt, cL, cLc, cSq, cUn, cUnL, cUnB, cV, cK, cB, cT, oB, cNot, cAnd, cOr, cIf, cCmp, cBin, cBinL, cChain, iLe, iLt, cTt, cTup, cLst, cNil, cCons, cCall, retOf, cMake, cLenI, oFld, cOwS, cOw, cScal, cScalB, pubSls, pubS, scalB, cSl, cSlL, cO0, cO1, En.start, List.map_cons, List.map_nil, List.length_cons, List.length_nil, List.replicate, List.cons_append, List.nil_append, List.getElem?_cons_zero, List.getElem?_cons_succ, Option.bind_some, Option.map_some, Option.bind_none, Option.map_none, oSeq_l, oSeq_t, oSeq_tI, oSeq_lI, oSeq_tT, oSeq_lT, oTuple, oInt, oLen_l, oLen_t, oLen_tI, oLen_lI, oLen_tT, oLen_lT, oNeg, oAdd, oAddL, oSub, oMod, oEnum, List.set_cons_zero, List.set_cons_succ, lcRun_A, lcBody, tN, tTp, tT1, tT0, wipeL, cond_pair, lcRunA_pure, fm_some, fm_if, if_true, cond_true, cond_false, Nat.reduceAdd, Nat.reduceLeDiff, Nat.zero_add, ite_true, ite_false, Bool.and_true, Bool.true_and, reduceIte, Nat.zero_le, Option.join_some, bLt_i, bGt_i, bLe_i, bGe_i, oIs, noOb, bNon, bNotNon, bIsB, bNotB, bIn_i, bIn_iL, bNin_i, bNin_iL, bIn_t, bIn_tL, bNin_t, bNin_tL, bEq_i, bNe_i, bEq_t, bNe_t, bEq_l, bNe_l, bEq_tT, bNe_tT, bEq_lT, bNe_lT, bNe_t0, bEq_t0, bNe_l0, bNe_lT0, bEq_tT0, oAll_map, oAny_map]
  · simp only [fnRun, fnRes, bCons, bNil, bPub, sNo, sSet, sRet, sIf, sExpr, sOwn, sApp, sExt, sAsg, sParEE, sParEF, sParFF, lstAt, cL, cLc, cSq, cUn, cUnL, cUnB, cV, cK, cB, cT, oB, cNot, cAnd, cOr, cIf, cCmp, cBin, cBinL, cChain, iLe, iLt, cTt, cTup, cLst, cNil, cCons, cCall, retOf, cMake, cLenI, oFld, cOwS, cOw, cScal, cScalB, pubSls, pubS, scalB, cSl, cSlL, cO0, cO1, En.start, List.map_cons, List.map_nil, List.length_cons, List.length_nil, List.replicate, List.cons_append, List.nil_append, List.getElem?_cons_zero, List.getElem?_cons_succ, Option.bind_some, Option.map_some, Option.bind_none, Option.map_none, oSeq_l, oSeq_t, oSeq_tI, oSeq_lI, oSeq_tT, oSeq_lT, oTuple, oInt, oLen_l, oLen_t, oLen_tI, oLen_lI, oLen_tT, oLen_lT, oNeg, oAdd, oAddL, oSub, oMod, oEnum, List.set_cons_zero, List.set_cons_succ, lcRun_A, lcBody, tN, tTp, tT1, tT0, wipeL, cond_pair, lcRunA_pure, fm_some, fm_if, if_true, cond_true, cond_false, Nat.reduceAdd, Nat.reduceLeDiff, Nat.zero_add, ite_true, ite_false, Bool.and_true, Bool.true_and, reduceIte, Nat.zero_le, Option.join_some, bLt_i, bGt_i, bLe_i, bGe_i, oIs, noOb, bNon, bNotNon, bIsB, bNotB, bIn_i, bIn_iL, bNin_i, bNin_iL, bIn_t, bIn_tL, bNin_t, bNin_tL, bEq_i, bNe_i, bEq_t, bNe_t, bEq_l, bNe_l, bEq_tT, bNe_tT, bEq_lT, bNe_lT, bNe_t0, bEq_t0, bNe_l0, bNe_lT0, bEq_tT0, oAll_map, oAny_map]
    rfl
theorem r_gath {q : D} {ss : List (List Int)} (hq : oSeq q = some (ss.map tI)) (h : tot ss < 60) (hl : ss.length < 1000) (hne : ∀ s ∈ ss, s ≠ []) : f_gathered C mu [q] = some (mu, .ret (lT (srt (gath ss)))) := by
  unfold f_gathered
  refine fnRun_rt ?_
  rw [bCons_nx (Γ' := ⟨[some (.st q), some (.lst []), none, none, none, none], mu⟩) (by rfl)]
  refine bFor tI ss mu (fun rest Γ => ∃ fs a b, Γ = ⟨[some (.st q), some (.lst (fs.map tI)), a, b, none, none], mu⟩ ∧ rest.foldl gStep fs = gath ss ∧ tot fs + tot rest < 60 ∧ fs.length + rest.length < 1000 ∧ (∀ s ∈ fs, s ≠ []) ∧ ∀ s ∈ rest, s ≠ []) ?_ ?_ ?_ ?_
  · show (oSeq q).map _ = _
    rw [hq]
    rfl
  · exact ⟨[], none, none, rfl, rfl, by show tot [] + tot ss < 60; have : tot [] = 0 := rfl; omega, by simpa using hl, (fun s hs => by cases hs), hne⟩
  · rintro x xs Γ ⟨fs, a, b, rfl, h1, h2, h3, h4, h5⟩
    rw [tot_cons] at h2
    rw [List.length_cons] at h3
    exact ⟨_, _, rfl, .inl (g_body (fs := fs) (s := x) (b := b) (by omega) (by omega)), gStep fs x, _, _, rfl, h1, by have := tot_gStep fs x; omega, by have := len_gStep fs x; omega, gStep_ne (h5 x List.mem_cons_self) h4, fun s hs => h5 s (List.mem_cons_of_mem _ hs)⟩
  · rintro Γ ⟨fs, a, b, rfl, h3, h4, h5, h6, h7⟩
    have h3' : fs = gath ss := h3
    simp only [fnRun, fnRes, bCons, bNil, bPub, sNo, sSet, sRet, sIf, sExpr, sOwn, sApp, sExt, sAsg, sParEE, sParEF, sParFF, lstAt, cL, cLc, cSq, cUn, cUnL, cUnB, cV, cK, cB, cT, oB, cNot, cAnd, cOr, cIf, cCmp, cBin, cBinL, cChain, iLe, iLt, cTt, cTup, cLst, cNil, cCons, cCall, retOf, cMake, cLenI, oFld, cOwS, cOw, cScal, cScalB, pubSls, pubS, scalB, cSl, cSlL, cO0, cO1, En.start, List.map_cons, List.map_nil, List.length_cons, List.length_nil, List.replicate, List.cons_append, List.nil_append, List.getElem?_cons_zero, List.getElem?_cons_succ, Option.bind_some, Option.map_some, Option.bind_none, Option.map_none, oSeq_l, oSeq_t, oSeq_tI, oSeq_lI, oSeq_tT, oSeq_lT, oTuple, oInt, oLen_l, oLen_t, oLen_tI, oLen_lI, oLen_tT, oLen_lT, oNeg, oAdd, oAddL, oSub, oMod, oEnum, List.set_cons_zero, List.set_cons_succ, lcRun_A, lcBody, tN, tTp, tT1, tT0, wipeL, cond_pair, lcRunA_pure, fm_some, fm_if, if_true, cond_true, cond_false, Nat.reduceAdd, Nat.reduceLeDiff, Nat.zero_add, ite_true, ite_false, Bool.and_true, Bool.true_and, reduceIte, Nat.zero_le, Option.join_some, bLt_i, bGt_i, bLe_i, bGe_i, oIs, noOb, bNon, bNotNon, bIsB, bNotB, bIn_i, bIn_iL, bNin_i, bNin_iL, bIn_t, bIn_tL, bNin_t, bNin_tL, bEq_i, bNe_i, bEq_t, bNe_t, bEq_l, bNe_l, bEq_tT, bNe_tT, bEq_lT, bNe_lT, bNe_t0, bEq_t0, bNe_l0, bNe_lT0, bEq_tT0, oAll_map, oAny_map]
    rw [← lT, oSorted_T h6, h3']
    rfl
theorem r_goes {q : D} {ss : List (List Int)} {t : List Int} (hq : q = tT ss ∨ q = lT ss) (h : tot ss < 60) (hl : ss.length < 1000) : f_goes_round C mu [q, tI t] = some (mu, .ret (.bool (goesR ss t))) := by
  have e : f_within C mu [q, tI t] = some (mu, .ret (lT (within ss t))) := by
    rcases hq with rfl | rfl
    · exact r_within
    · exact r_withinL
  have h1 := tot_within ss t
  have h2 := len_within ss t
  have g := r_gath (C := C) (mu := mu) (q := lT (within ss t)) rfl (by omega) (by omega) (within_ne ss t)
  unfold f_goes_round
  refine fnRun_rt ?_
  rw [bCons_nx (Γ' := ⟨[some (.st q), some (.st (tI t)), some (.st (lT (within ss t))), none], mu⟩) (by simp only [fnRun, fnRes, bCons, bNil, bPub, sNo, sSet, sRet, sIf, sExpr, sOwn, sApp, sExt, sAsg, sParEE, sParEF, sParFF, lstAt, cL, cLc, cSq, cUn, cUnL, cUnB, cV, cK, cB, cT, oB, cNot, cAnd, cOr, cIf, cCmp, cBin, cBinL, cChain, iLe, iLt, cTt, cTup, cLst, cNil, cCons, cCall, retOf, cMake, cLenI, oFld, cOwS, cOw, cScal, cScalB, pubSls, pubS, scalB, cSl, cSlL, cO0, cO1, En.start, List.map_cons, List.map_nil, List.length_cons, List.length_nil, List.replicate, List.cons_append, List.nil_append, List.getElem?_cons_zero, List.getElem?_cons_succ, Option.bind_some, Option.map_some, Option.bind_none, Option.map_none, oSeq_l, oSeq_t, oSeq_tI, oSeq_lI, oSeq_tT, oSeq_lT, oTuple, oInt, oLen_l, oLen_t, oLen_tI, oLen_lI, oLen_tT, oLen_lT, oNeg, oAdd, oAddL, oSub, oMod, oEnum, List.set_cons_zero, List.set_cons_succ, lcRun_A, lcBody, tN, tTp, tT1, tT0, wipeL, cond_pair, lcRunA_pure, fm_some, fm_if, if_true, cond_true, cond_false, Nat.reduceAdd, Nat.reduceLeDiff, Nat.zero_add, ite_true, ite_false, Bool.and_true, Bool.true_and, reduceIte, Nat.zero_le, Option.join_some, bLt_i, bGt_i, bLe_i, bGe_i, oIs, noOb, bNon, bNotNon, bIsB, bNotB, bIn_i, bIn_iL, bNin_i, bNin_iL, bIn_t, bIn_tL, bNin_t, bNin_tL, bEq_i, bNe_i, bEq_t, bNe_t, bEq_l, bNe_l, bEq_tT, bNe_tT, bEq_lT, bNe_lT, bNe_t0, bEq_t0, bNe_l0, bNe_lT0, bEq_tT0, oAll_map, oAny_map, e])]
  unfold goesR
  simp only [fnRun, fnRes, bCons, bNil, bPub, sNo, sSet, sRet, sIf, sExpr, sOwn, sApp, sExt, sAsg, sParEE, sParEF, sParFF, lstAt, cL, cLc, cSq, cUn, cUnL, cUnB, cV, cK, cB, cT, oB, cNot, cAnd, cOr, cIf, cCmp, cBin, cBinL, cChain, iLe, iLt, cTt, cTup, cLst, cNil, cCons, cCall, retOf, cMake, cLenI, oFld, cOwS, cOw, cScal, cScalB, pubSls, pubS, scalB, cSl, cSlL, cO0, cO1, En.start, List.map_cons, List.map_nil, List.length_cons, List.length_nil, List.replicate, List.cons_append, List.nil_append, List.getElem?_cons_zero, List.getElem?_cons_succ, Option.bind_some, Option.map_some, Option.bind_none, Option.map_none, oSeq_l, oSeq_t, oSeq_tI, oSeq_lI, oSeq_tT, oSeq_lT, oTuple, oInt, oLen_l, oLen_t, oLen_tI, oLen_lI, oLen_tT, oLen_lT, oNeg, oAdd, oAddL, oSub, oMod, oEnum, List.set_cons_zero, List.set_cons_succ, lcRun_A, lcBody, tN, tTp, tT1, tT0, wipeL, cond_pair, lcRunA_pure, fm_some, fm_if, if_true, cond_true, cond_false, Nat.reduceAdd, Nat.reduceLeDiff, Nat.zero_add, ite_true, ite_false, Bool.and_true, Bool.true_and, reduceIte, Nat.zero_le, Option.join_some, bLt_i, bGt_i, bLe_i, bGe_i, oIs, noOb, bNon, bNotNon, bIsB, bNotB, bIn_i, bIn_iL, bNin_i, bNin_iL, bIn_t, bIn_tL, bNin_t, bNin_tL, bEq_i, bNe_i, bEq_t, bNe_t, bEq_l, bNe_l, bEq_tT, bNe_tT, bEq_lT, bNe_lT, bNe_t0, bEq_t0, bNe_l0, bNe_lT0, bEq_tT0, oAll_map, oAny_map, e, g, List.length_map, srt_len]
  cases decide ((t.length : Int) = 1)
  · simp only [fnRun, fnRes, bCons, bNil, bPub, sNo, sSet, sRet, sIf, sExpr, sOwn, sApp, sExt, sAsg, sParEE, sParEF, sParFF, lstAt, cL, cLc, cSq, cUn, cUnL, cUnB, cV, cK, cB, cT, oB, cNot, cAnd, cOr, cIf, cCmp, cBin, cBinL, cChain, iLe, iLt, cTt, cTup, cLst, cNil, cCons, cCall, retOf, cMake, cLenI, oFld, cOwS, cOw, cScal, cScalB, pubSls, pubS, scalB, cSl, cSlL, cO0, cO1, En.start, List.map_cons, List.map_nil, List.length_cons, List.length_nil, List.replicate, List.cons_append, List.nil_append, List.getElem?_cons_zero, List.getElem?_cons_succ, Option.bind_some, Option.map_some, Option.bind_none, Option.map_none, oSeq_l, oSeq_t, oSeq_tI, oSeq_lI, oSeq_tT, oSeq_lT, oTuple, oInt, oLen_l, oLen_t, oLen_tI, oLen_lI, oLen_tT, oLen_lT, oNeg, oAdd, oAddL, oSub, oMod, oEnum, List.set_cons_zero, List.set_cons_succ, lcRun_A, lcBody, tN, tTp, tT1, tT0, wipeL, cond_pair, lcRunA_pure, fm_some, fm_if, if_true, cond_true, cond_false, Nat.reduceAdd, Nat.reduceLeDiff, Nat.zero_add, ite_true, ite_false, Bool.and_true, Bool.true_and, reduceIte, Nat.zero_le, Option.join_some, bLt_i, bGt_i, bLe_i, bGe_i, oIs, noOb, bNon, bNotNon, bIsB, bNotB, bIn_i, bIn_iL, bNin_i, bNin_iL, bIn_t, bIn_tL, bNin_t, bNin_tL, bEq_i, bNe_i, bEq_t, bNe_t, bEq_l, bNe_l, bEq_tT, bNe_tT, bEq_lT, bNe_lT, bNe_t0, bEq_t0, bNe_l0, bNe_lT0, bEq_tT0, oAll_map, oAny_map, e, g, List.length_map, srt_len]
    cases decide ((t.length : Int) = 0)
    · cases decide (((within ss t).length : Int) = t.length)
      · rfl
      · simp only [fnRun, fnRes, bCons, bNil, bPub, sNo, sSet, sRet, sIf, sExpr, sOwn, sApp, sExt, sAsg, sParEE, sParEF, sParFF, lstAt, cL, cLc, cSq, cUn, cUnL, cUnB, cV, cK, cB, cT, oB, cNot, cAnd, cOr, cIf, cCmp, cBin, cBinL, cChain, iLe, iLt, cTt, cTup, cLst, cNil, cCons, cCall, retOf, cMake, cLenI, oFld, cOwS, cOw, cScal, cScalB, pubSls, pubS, scalB, cSl, cSlL, cO0, cO1, En.start, List.map_cons, List.map_nil, List.length_cons, List.length_nil, List.replicate, List.cons_append, List.nil_append, List.getElem?_cons_zero, List.getElem?_cons_succ, Option.bind_some, Option.map_some, Option.bind_none, Option.map_none, oSeq_l, oSeq_t, oSeq_tI, oSeq_lI, oSeq_tT, oSeq_lT, oTuple, oInt, oLen_l, oLen_t, oLen_tI, oLen_lI, oLen_tT, oLen_lT, oNeg, oAdd, oAddL, oSub, oMod, oEnum, List.set_cons_zero, List.set_cons_succ, lcRun_A, lcBody, tN, tTp, tT1, tT0, wipeL, cond_pair, lcRunA_pure, fm_some, fm_if, if_true, cond_true, cond_false, Nat.reduceAdd, Nat.reduceLeDiff, Nat.zero_add, ite_true, ite_false, Bool.and_true, Bool.true_and, reduceIte, Nat.zero_le, Option.join_some, bLt_i, bGt_i, bLe_i, bGe_i, oIs, noOb, bNon, bNotNon, bIsB, bNotB, bIn_i, bIn_iL, bNin_i, bNin_iL, bIn_t, bIn_tL, bNin_t, bNin_tL, bEq_i, bNe_i, bEq_t, bNe_t, bEq_l, bNe_l, bEq_tT, bNe_tT, bEq_lT, bNe_lT, bNe_t0, bEq_t0, bNe_l0, bNe_lT0, bEq_tT0, oAll_map, oAny_map, e, g, List.length_map, srt_len, Bool.not_true, Bool.false_or]
        cases ((within ss t).all fun s => decide ((s.length : Int) = 2))
        · rfl
        · simp only [fnRun, fnRes, bCons, bNil, bPub, sNo, sSet, sRet, sIf, sExpr, sOwn, sApp, sExt, sAsg, sParEE, sParEF, sParFF, lstAt, cL, cLc, cSq, cUn, cUnL, cUnB, cV, cK, cB, cT, oB, cNot, cAnd, cOr, cIf, cCmp, cBin, cBinL, cChain, iLe, iLt, cTt, cTup, cLst, cNil, cCons, cCall, retOf, cMake, cLenI, oFld, cOwS, cOw, cScal, cScalB, pubSls, pubS, scalB, cSl, cSlL, cO0, cO1, En.start, List.map_cons, List.map_nil, List.length_cons, List.length_nil, List.replicate, List.cons_append, List.nil_append, List.getElem?_cons_zero, List.getElem?_cons_succ, Option.bind_some, Option.map_some, Option.bind_none, Option.map_none, oSeq_l, oSeq_t, oSeq_tI, oSeq_lI, oSeq_tT, oSeq_lT, oTuple, oInt, oLen_l, oLen_t, oLen_tI, oLen_lI, oLen_tT, oLen_lT, oNeg, oAdd, oAddL, oSub, oMod, oEnum, List.set_cons_zero, List.set_cons_succ, lcRun_A, lcBody, tN, tTp, tT1, tT0, wipeL, cond_pair, lcRunA_pure, fm_some, fm_if, if_true, cond_true, cond_false, Nat.reduceAdd, Nat.reduceLeDiff, Nat.zero_add, ite_true, ite_false, Bool.and_true, Bool.true_and, reduceIte, Nat.zero_le, Option.join_some, bLt_i, bGt_i, bLe_i, bGe_i, oIs, noOb, bNon, bNotNon, bIsB, bNotB, bIn_i, bIn_iL, bNin_i, bNin_iL, bIn_t, bIn_tL, bNin_t, bNin_tL, bEq_i, bNe_i, bEq_t, bNe_t, bEq_l, bNe_l, bEq_tT, bNe_tT, bEq_lT, bNe_lT, bNe_t0, bEq_t0, bNe_l0, bNe_lT0, bEq_tT0, oAll_map, oAny_map, e, g, List.length_map, srt_len, Bool.not_true]
    · rfl
  · rfl
theorem r_isset {t : List Int} {n : Int} : f_is_set_of C mu [tI t, .int n] = some (mu, .ret (.bool (isSet t n))) := by
  have e : ∀ (x : Int) (mu : Mu), f_is_among C mu [.int x, .int 0, .int (n - 1)] = some (mu, .ret (.bool (decide (0 ≤ x) && decide (x ≤ n - 1)))) := fun x _ => r_is_among rfl
  unfold f_is_set_of
  refine fnRun_rt ?_
  cases c : inRg t n
  · refine bCons_rt ?_
    have c' := c
    unfold inRg at c'
    simp only [fnRun, fnRes, bCons, bNil, bPub, sNo, sSet, sRet, sIf, sExpr, sOwn, sApp, sExt, sAsg, sParEE, sParEF, sParFF, lstAt, cL, cLc, cSq, cUn, cUnL, cUnB, cV, cK, cB, cT, oB, cNot, cAnd, cOr, cIf, cCmp, cBin, cBinL, cChain, iLe, iLt, cTt, cTup, cLst, cNil, cCons, cCall, retOf, cMake, cLenI, oFld, cOwS, cOw, cScal, cScalB, pubSls, pubS, scalB, cSl, cSlL, cO0, cO1, En.start, List.map_cons, List.map_nil, List.length_cons, List.length_nil, List.replicate, List.cons_append, List.nil_append, List.getElem?_cons_zero, List.getElem?_cons_succ, Option.bind_some, Option.map_some, Option.bind_none, Option.map_none, oSeq_l, oSeq_t, oSeq_tI, oSeq_lI, oSeq_tT, oSeq_lT, oTuple, oInt, oLen_l, oLen_t, oLen_tI, oLen_lI, oLen_tT, oLen_lT, oNeg, oAdd, oAddL, oSub, oMod, oEnum, List.set_cons_zero, List.set_cons_succ, lcRun_A, lcBody, tN, tTp, tT1, tT0, wipeL, cond_pair, lcRunA_pure, fm_some, fm_if, if_true, cond_true, cond_false, Nat.reduceAdd, Nat.reduceLeDiff, Nat.zero_add, ite_true, ite_false, Bool.and_true, Bool.true_and, reduceIte, Nat.zero_le, Option.join_some, bLt_i, bGt_i, bLe_i, bGe_i, oIs, noOb, bNon, bNotNon, bIsB, bNotB, bIn_i, bIn_iL, bNin_i, bNin_iL, bIn_t, bIn_tL, bNin_t, bNin_tL, bEq_i, bNe_i, bEq_t, bNe_t, bEq_l, bNe_l, bEq_tT, bNe_tT, bEq_lT, bNe_lT, bNe_t0, bEq_t0, bNe_l0, bNe_lT0, bEq_tT0, oAll_map, oAny_map, e, isT, Bool.not_true, c', isSet, c, Bool.not_false, Bool.false_and]
  · have c' := c
    unfold inRg at c'
    rw [bCons_nx (Γ' := ⟨[some (.st (tI t)), some (.st (.int n)), none, none, none], mu⟩)]
    · have z := zipD_map t (t.drop 1)
      simp only [fnRun, fnRes, bCons, bNil, bPub, sNo, sSet, sRet, sIf, sExpr, sOwn, sApp, sExt, sAsg, sParEE, sParEF, sParFF, lstAt, cL, cLc, cSq, cUn, cUnL, cUnB, cV, cK, cB, cT, oB, cNot, cAnd, cOr, cIf, cCmp, cBin, cBinL, cChain, iLe, iLt, cTt, cTup, cLst, cNil, cCons, cCall, retOf, cMake, cLenI, oFld, cOwS, cOw, cScal, cScalB, pubSls, pubS, scalB, cSl, cSlL, cO0, cO1, En.start, List.map_cons, List.map_nil, List.length_cons, List.length_nil, List.replicate, List.cons_append, List.nil_append, List.getElem?_cons_zero, List.getElem?_cons_succ, Option.bind_some, Option.map_some, Option.bind_none, Option.map_none, oSeq_l, oSeq_t, oSeq_tI, oSeq_lI, oSeq_tT, oSeq_lT, oTuple, oInt, oLen_l, oLen_t, oLen_tI, oLen_lI, oLen_tT, oLen_lT, oNeg, oAdd, oAddL, oSub, oMod, oEnum, List.set_cons_zero, List.set_cons_succ, lcRun_A, lcBody, tN, tTp, tT1, tT0, wipeL, cond_pair, lcRunA_pure, fm_some, fm_if, if_true, cond_true, cond_false, Nat.reduceAdd, Nat.reduceLeDiff, Nat.zero_add, ite_true, ite_false, Bool.and_true, Bool.true_and, reduceIte, Nat.zero_le, Option.join_some, bLt_i, bGt_i, bLe_i, bGe_i, oIs, noOb, bNon, bNotNon, bIsB, bNotB, bIn_i, bIn_iL, bNin_i, bNin_iL, bIn_t, bIn_tL, bNin_t, bNin_tL, bEq_i, bNe_i, bEq_t, bNe_t, bEq_l, bNe_l, bEq_tT, bNe_tT, bEq_lT, bNe_lT, bNe_t0, bEq_t0, bNe_l0, bNe_lT0, bEq_tT0, oAll_map, oAny_map, oZip, cut1, ← List.map_drop, z, isSet, c, grows_zip]
    · simp only [fnRun, fnRes, bCons, bNil, bPub, sNo, sSet, sRet, sIf, sExpr, sOwn, sApp, sExt, sAsg, sParEE, sParEF, sParFF, lstAt, cL, cLc, cSq, cUn, cUnL, cUnB, cV, cK, cB, cT, oB, cNot, cAnd, cOr, cIf, cCmp, cBin, cBinL, cChain, iLe, iLt, cTt, cTup, cLst, cNil, cCons, cCall, retOf, cMake, cLenI, oFld, cOwS, cOw, cScal, cScalB, pubSls, pubS, scalB, cSl, cSlL, cO0, cO1, En.start, List.map_cons, List.map_nil, List.length_cons, List.length_nil, List.replicate, List.cons_append, List.nil_append, List.getElem?_cons_zero, List.getElem?_cons_succ, Option.bind_some, Option.map_some, Option.bind_none, Option.map_none, oSeq_l, oSeq_t, oSeq_tI, oSeq_lI, oSeq_tT, oSeq_lT, oTuple, oInt, oLen_l, oLen_t, oLen_tI, oLen_lI, oLen_tT, oLen_lT, oNeg, oAdd, oAddL, oSub, oMod, oEnum, List.set_cons_zero, List.set_cons_succ, lcRun_A, lcBody, tN, tTp, tT1, tT0, wipeL, cond_pair, lcRunA_pure, fm_some, fm_if, if_true, cond_true, cond_false, Nat.reduceAdd, Nat.reduceLeDiff, Nat.zero_add, ite_true, ite_false, Bool.and_true, Bool.true_and, reduceIte, Nat.zero_le, Option.join_some, bLt_i, bGt_i, bLe_i, bGe_i, oIs, noOb, bNon, bNotNon, bIsB, bNotB, bIn_i, bIn_iL, bNin_i, bNin_iL, bIn_t, bIn_tL, bNin_t, bNin_tL, bEq_i, bNe_i, bEq_t, bNe_t, bEq_l, bNe_l, bEq_tT, bNe_tT, bEq_lT, bNe_lT, bNe_t0, bEq_t0, bNe_l0, bNe_lT0, bEq_tT0, oAll_map, oAny_map, e, isT, Bool.not_true, c']
theorem r_isset0 {d : D} {n : D} (h : noOb d = true) (ht : isT d = false) : f_is_set_of C mu [d, n] = some (mu, .ret (.bool false)) := by
  unfold f_is_set_of
  refine fnRun_rt (bCons_rt ?_)
  have e : oIs isT d = some false := by unfold oIs; rw [if_pos h, ht]
  show ((cUnB (oIs isT) (cV 0) _ mu).map _ |>.bind _ |>.bind _) = _
  have e2 : cUnB (oIs isT) (cV 0) (En.start 5 [d, n] mu).sl mu = some (false, mu) := by
    show (oIs isT d).map _ = _
    rw [e]
    rfl
  rw [e2]
  rfl
theorem r_weblen {ss : List (List Int)} {n : Nat} : f_Web_len C mu [webD C ss n] = some (mu, .ret (.int n)) := by
  unfold f_Web_len webD
  refine fnRun_rt ?_
  simp only [fnRun, fnRes, bCons, bNil, bPub, sNo, sSet, sRet, sIf, sExpr, sOwn, sApp, sExt, sAsg, sParEE, sParEF, sParFF, lstAt, cL, cLc, cSq, cUn, cUnL, cUnB, cV, cK, cB, cT, oB, cNot, cAnd, cOr, cIf, cCmp, cBin, cBinL, cChain, iLe, iLt, cTt, cTup, cLst, cNil, cCons, cCall, retOf, cMake, cLenI, oFld, cOwS, cOw, cScal, cScalB, pubSls, pubS, scalB, cSl, cSlL, cO0, cO1, En.start, List.map_cons, List.map_nil, List.length_cons, List.length_nil, List.replicate, List.cons_append, List.nil_append, List.getElem?_cons_zero, List.getElem?_cons_succ, Option.bind_some, Option.map_some, Option.bind_none, Option.map_none, oSeq_l, oSeq_t, oSeq_tI, oSeq_lI, oSeq_tT, oSeq_lT, oTuple, oInt, oLen_l, oLen_t, oLen_tI, oLen_lI, oLen_tT, oLen_lT, oNeg, oAdd, oAddL, oSub, oMod, oEnum, List.set_cons_zero, List.set_cons_succ, lcRun_A, lcBody, tN, tTp, tT1, tT0, wipeL, cond_pair, lcRunA_pure, fm_some, fm_if, if_true, cond_true, cond_false, Nat.reduceAdd, Nat.reduceLeDiff, Nat.zero_add, ite_true, ite_false, Bool.and_true, Bool.true_and, reduceIte, Nat.zero_le, Option.join_some, bLt_i, bGt_i, bLe_i, bGe_i, oIs, noOb, bNon, bNotNon, bIsB, bNotB, if_pos, List.length_map, rng_len]
theorem r_isround {ss : List (List Int)} {n : Nat} {t : List Int} (hn : n ≤ 12) (h : tot ss < 60) (hl : ss.length < 1000) : f_is_round C mu [webD C ss n, tI t] = some (mu, .ret (.bool (isSet t n && goesR ss t))) := by
  have e1 := r_weblen (C := C) (mu := mu) (ss := ss) (n := n)
  have e2 := r_isset (C := C) (mu := mu) (t := t) (n := n)
  have e3 := r_goes (C := C) (mu := mu) (q := tT ss) (t := t) (.inl rfl) h hl
  have w : (0 : Int) ≤ n ∧ (n : Int) < 2 ^ 63 := by omega
  unfold webD at *
  unfold f_is_round
  refine fnRun_rt ?_
  simp only [fnRun, fnRes, bCons, bNil, bPub, sNo, sSet, sRet, sIf, sExpr, sOwn, sApp, sExt, sAsg, sParEE, sParEF, sParFF, lstAt, cL, cLc, cSq, cUn, cUnL, cUnB, cV, cK, cB, cT, oB, cNot, cAnd, cOr, cIf, cCmp, cBin, cBinL, cChain, iLe, iLt, cTt, cTup, cLst, cNil, cCons, cCall, retOf, cMake, cLenI, oFld, cOwS, cOw, cScal, cScalB, pubSls, pubS, scalB, cSl, cSlL, cO0, cO1, En.start, List.map_cons, List.map_nil, List.length_cons, List.length_nil, List.replicate, List.cons_append, List.nil_append, List.getElem?_cons_zero, List.getElem?_cons_succ, Option.bind_some, Option.map_some, Option.bind_none, Option.map_none, oSeq_l, oSeq_t, oSeq_tI, oSeq_lI, oSeq_tT, oSeq_lT, oTuple, oInt, oLen_l, oLen_t, oLen_tI, oLen_lI, oLen_tT, oLen_lT, oNeg, oAdd, oAddL, oSub, oMod, oEnum, List.set_cons_zero, List.set_cons_succ, lcRun_A, lcBody, tN, tTp, tT1, tT0, wipeL, cond_pair, lcRunA_pure, fm_some, fm_if, if_true, cond_true, cond_false, Nat.reduceAdd, Nat.reduceLeDiff, Nat.zero_add, ite_true, ite_false, Bool.and_true, Bool.true_and, reduceIte, Nat.zero_le, Option.join_some, bLt_i, bGt_i, bLe_i, bGe_i, oIs, noOb, bNon, bNotNon, bIsB, bNotB, e1, e2, if_pos w]
  cases isSet t n
  · simp only [fnRun, fnRes, bCons, bNil, bPub, sNo, sSet, sRet, sIf, sExpr, sOwn, sApp, sExt, sAsg, sParEE, sParEF, sParFF, lstAt, cL, cLc, cSq, cUn, cUnL, cUnB, cV, cK, cB, cT, oB, cNot, cAnd, cOr, cIf, cCmp, cBin, cBinL, cChain, iLe, iLt, cTt, cTup, cLst, cNil, cCons, cCall, retOf, cMake, cLenI, oFld, cOwS, cOw, cScal, cScalB, pubSls, pubS, scalB, cSl, cSlL, cO0, cO1, En.start, List.map_cons, List.map_nil, List.length_cons, List.length_nil, List.replicate, List.cons_append, List.nil_append, List.getElem?_cons_zero, List.getElem?_cons_succ, Option.bind_some, Option.map_some, Option.bind_none, Option.map_none, oSeq_l, oSeq_t, oSeq_tI, oSeq_lI, oSeq_tT, oSeq_lT, oTuple, oInt, oLen_l, oLen_t, oLen_tI, oLen_lI, oLen_tT, oLen_lT, oNeg, oAdd, oAddL, oSub, oMod, oEnum, List.set_cons_zero, List.set_cons_succ, lcRun_A, lcBody, tN, tTp, tT1, tT0, wipeL, cond_pair, lcRunA_pure, fm_some, fm_if, if_true, cond_true, cond_false, Nat.reduceAdd, Nat.reduceLeDiff, Nat.zero_add, ite_true, ite_false, Bool.and_true, Bool.true_and, reduceIte, Nat.zero_le, Option.join_some, bLt_i, bGt_i, bLe_i, bGe_i, oIs, noOb, bNon, bNotNon, bIsB, bNotB, e3, Bool.false_and]
  · simp only [fnRun, fnRes, bCons, bNil, bPub, sNo, sSet, sRet, sIf, sExpr, sOwn, sApp, sExt, sAsg, sParEE, sParEF, sParFF, lstAt, cL, cLc, cSq, cUn, cUnL, cUnB, cV, cK, cB, cT, oB, cNot, cAnd, cOr, cIf, cCmp, cBin, cBinL, cChain, iLe, iLt, cTt, cTup, cLst, cNil, cCons, cCall, retOf, cMake, cLenI, oFld, cOwS, cOw, cScal, cScalB, pubSls, pubS, scalB, cSl, cSlL, cO0, cO1, En.start, List.map_cons, List.map_nil, List.length_cons, List.length_nil, List.replicate, List.cons_append, List.nil_append, List.getElem?_cons_zero, List.getElem?_cons_succ, Option.bind_some, Option.map_some, Option.bind_none, Option.map_none, oSeq_l, oSeq_t, oSeq_tI, oSeq_lI, oSeq_tT, oSeq_lT, oTuple, oInt, oLen_l, oLen_t, oLen_tI, oLen_lI, oLen_tT, oLen_lT, oNeg, oAdd, oAddL, oSub, oMod, oEnum, List.set_cons_zero, List.set_cons_succ, lcRun_A, lcBody, tN, tTp, tT1, tT0, wipeL, cond_pair, lcRunA_pure, fm_some, fm_if, if_true, cond_true, cond_false, Nat.reduceAdd, Nat.reduceLeDiff, Nat.zero_add, ite_true, ite_false, Bool.and_true, Bool.true_and, reduceIte, Nat.zero_le, Option.join_some, bLt_i, bGt_i, bLe_i, bGe_i, oIs, noOb, bNon, bNotNon, bIsB, bNotB, e3]
theorem r_isround0 {ss : List (List Int)} {n : Nat} {d : D} (hn : n ≤ 12) (hd : f_is_set_of C mu [d, .int n] = some (mu, .ret (.bool false))) : f_is_round C mu [webD C ss n, d] = some (mu, .ret (.bool false)) := by
  have e1 := r_weblen (C := C) (mu := mu) (ss := ss) (n := n)
  have w : (0 : Int) ≤ n ∧ (n : Int) < 2 ^ 63 := by omega
  unfold webD at *
  unfold f_is_round
  refine fnRun_rt ?_
  simp only [fnRun, fnRes, bCons, bNil, bPub, sNo, sSet, sRet, sIf, sExpr, sOwn, sApp, sExt, sAsg, sParEE, sParEF, sParFF, lstAt, cL, cLc, cSq, cUn, cUnL, cUnB, cV, cK, cB, cT, oB, cNot, cAnd, cOr, cIf, cCmp, cBin, cBinL, cChain, iLe, iLt, cTt, cTup, cLst, cNil, cCons, cCall, retOf, cMake, cLenI, oFld, cOwS, cOw, cScal, cScalB, pubSls, pubS, scalB, cSl, cSlL, cO0, cO1, En.start, List.map_cons, List.map_nil, List.length_cons, List.length_nil, List.replicate, List.cons_append, List.nil_append, List.getElem?_cons_zero, List.getElem?_cons_succ, Option.bind_some, Option.map_some, Option.bind_none, Option.map_none, oSeq_l, oSeq_t, oSeq_tI, oSeq_lI, oSeq_tT, oSeq_lT, oTuple, oInt, oLen_l, oLen_t, oLen_tI, oLen_lI, oLen_tT, oLen_lT, oNeg, oAdd, oAddL, oSub, oMod, oEnum, List.set_cons_zero, List.set_cons_succ, lcRun_A, lcBody, tN, tTp, tT1, tT0, wipeL, cond_pair, lcRunA_pure, fm_some, fm_if, if_true, cond_true, cond_false, Nat.reduceAdd, Nat.reduceLeDiff, Nat.zero_add, ite_true, ite_false, Bool.and_true, Bool.true_and, reduceIte, Nat.zero_le, Option.join_some, bLt_i, bGt_i, bLe_i, bGe_i, oIs, noOb, bNon, bNotNon, bIsB, bNotB, e1, hd, if_pos w]
theorem s_ext {q : D} {fs : List (List Int)} {t : Int} (h : 2 * fs.length < 100000) (hx : ∀ s ∈ fs, s.length < 1000) :
    sExt 1 (cL (cLc (cOwS 1) [3] (tN 3) (cTt) (cBin oAdd (cV 3) (cTup (cCons (cV 2) (cNil)))))) ⟨[some (.st q), some (.lst (fs.map tI)), some (.st (.int t)), none, none], mu⟩
      = some (.nx ⟨[some (.st q), some (.lst ((fs ++ fs.map (· ++ [t])).map tI)), some (.st (.int t)), none, none], mu⟩) := by
  simp only [fnRun, fnRes, bCons, bNil, bPub, sNo, sSet, sRet, sIf, sExpr, sOwn, sApp, sExt, sAsg, sParEE, sParEF, sParFF, lstAt, cL, cLc, cSq, cUn, cUnL, cUnB, cV, cK, cB, cT, oB, cNot, cAnd, cOr, cIf, cCmp, cBin, cBinL, cChain, iLe, iLt, cTt, cTup, cLst, cNil, cCons, cCall, retOf, cMake, cLenI, oFld, cOwS, cOw, cScal, cScalB, pubSls, pubS, scalB, cSl, cSlL, cO0, cO1, En.start, List.map_cons, List.map_nil, List.length_cons, List.length_nil, List.replicate, List.cons_append, List.nil_append, List.getElem?_cons_zero, List.getElem?_cons_succ, Option.bind_some, Option.map_some, Option.bind_none, Option.map_none, oSeq_l, oSeq_t, oSeq_tI, oSeq_lI, oSeq_tT, oSeq_lT, oTuple, oInt, oLen_l, oLen_t, oLen_tI, oLen_lI, oLen_tT, oLen_lT, oNeg, oAdd, oAddL, oSub, oMod, oEnum, List.set_cons_zero, List.set_cons_succ, lcRun_A, lcBody, tN, tTp, tT1, tT0, wipeL, cond_pair, lcRunA_pure, fm_some, fm_if, if_true, cond_true, cond_false, Nat.reduceAdd, Nat.reduceLeDiff, Nat.zero_add, ite_true, ite_false, Bool.and_true, Bool.true_and, reduceIte, Nat.zero_le, Option.join_some, bLt_i, bGt_i, bLe_i, bGe_i, oIs, noOb, bNon, bNotNon, bIsB, bNotB]
  rw [lcRunA_mem (g := fun x => some (tI (x ++ [t]))) (fun x hm => by
    have := hx x hm
    rw [if_pos (by rw [List.length_map]; omega)]
    rw [tI, List.map_append]
    rfl)]
  simp only [fnRun, fnRes, bCons, bNil, bPub, sNo, sSet, sRet, sIf, sExpr, sOwn, sApp, sExt, sAsg, sParEE, sParEF, sParFF, lstAt, cL, cLc, cSq, cUn, cUnL, cUnB, cV, cK, cB, cT, oB, cNot, cAnd, cOr, cIf, cCmp, cBin, cBinL, cChain, iLe, iLt, cTt, cTup, cLst, cNil, cCons, cCall, retOf, cMake, cLenI, oFld, cOwS, cOw, cScal, cScalB, pubSls, pubS, scalB, cSl, cSlL, cO0, cO1, En.start, List.map_cons, List.map_nil, List.length_cons, List.length_nil, List.replicate, List.cons_append, List.nil_append, List.getElem?_cons_zero, List.getElem?_cons_succ, Option.bind_some, Option.map_some, Option.bind_none, Option.map_none, oSeq_l, oSeq_t, oSeq_tI, oSeq_lI, oSeq_tT, oSeq_lT, oTuple, oInt, oLen_l, oLen_t, oLen_tI, oLen_lI, oLen_tT, oLen_lT, oNeg, oAdd, oAddL, oSub, oMod, oEnum, List.set_cons_zero, List.set_cons_succ, lcRun_A, lcBody, tN, tTp, tT1, tT0, wipeL, cond_pair, lcRunA_pure, fm_some, fm_if, if_true, cond_true, cond_false, Nat.reduceAdd, Nat.reduceLeDiff, Nat.zero_add, ite_true, ite_false, Bool.and_true, Bool.true_and, reduceIte, Nat.zero_le, Option.join_some, bLt_i, bGt_i, bLe_i, bGe_i, oIs, noOb, bNon, bNotNon, bIsB, bNotB, List.length_map]
  rw [if_pos (by omega), List.map_append, List.map_map]
  rfl
theorem r_sets {ts : List Int} (h : ts.length ≤ 12) : f_sets_of C mu [tI ts] = some (mu, .ret (lT (setsOf ts))) := by
  unfold f_sets_of
  refine fnRun_rt ?_
  rw [bCons_nx (Γ' := ⟨[some (.st (tI ts)), some (.lst ([[]].map tI)), none, none, none], mu⟩) (by rfl)]
  refine bFor D.int ts mu (fun rest Γ => ∃ fs a, Γ = ⟨[some (.st (tI ts)), some (.lst (fs.map tI)), a, none, none], mu⟩ ∧ rest.foldl (fun acc t => acc ++ acc.map (· ++ [t])) fs = subs ts ∧ fs.length * 2 ^ rest.length < 9000 ∧ ∀ s ∈ fs, s.length + rest.length ≤ 12) ?_ ?_ ?_ ?_
  · rfl
  · exact ⟨[[]], none, rfl, rfl, by
      have := Nat.pow_le_pow_right (n := 2) (by decide) h
      show 1 * 2 ^ ts.length < 9000
      omega, fun s hs => by cases List.mem_singleton.mp hs; simpa using h⟩
  · rintro x xs Γ ⟨fs, a, rfl, h1, h2, h3⟩
    have hp := Nat.pow_pos (n := xs.length) (show 0 < 2 by decide)
    have h2' : fs.length * 2 * 2 ^ xs.length < 9000 := by rw [List.length_cons, Nat.pow_succ, Nat.mul_comm (2 ^ xs.length), ← Nat.mul_assoc] at h2; exact h2
    refine ⟨_, _, rfl, .inl (s_ext ?_ fun s hs => ?_), _, _, rfl, h1, ?_, fun s hs => ?_⟩
    · have := Nat.le_mul_of_pos_right (fs.length * 2) hp
      omega
    · have := h3 s hs
      omega
    · rw [List.length_append, List.length_map, ← Nat.mul_two]
      exact h2'
    · rcases List.mem_append.mp hs with hs | hs
      · have := h3 s hs
        rw [List.length_cons] at this
        omega
      · obtain ⟨s', hs2, rfl⟩ := List.mem_map.mp hs
        have := h3 s' hs2
        rw [List.length_cons] at this
        rw [List.length_append, List.length_singleton]
        omega
  · rintro Γ ⟨fs, a, rfl, h1, h2, h4⟩
    have h3 : fs = subs ts := h1
    have h4 := oSorted_pr fs
    have e : ∀ s : List Int, D.tuple [.int (s.length : Nat), tI s] = pr s := fun _ => rfl
    simp only [fnRun, fnRes, bCons, bNil, bPub, sNo, sSet, sRet, sIf, sExpr, sOwn, sApp, sExt, sAsg, sParEE, sParEF, sParFF, lstAt, cL, cLc, cSq, cUn, cUnL, cUnB, cV, cK, cB, cT, oB, cNot, cAnd, cOr, cIf, cCmp, cBin, cBinL, cChain, iLe, iLt, cTt, cTup, cLst, cNil, cCons, cCall, retOf, cMake, cLenI, oFld, cOwS, cOw, cScal, cScalB, pubSls, pubS, scalB, cSl, cSlL, cO0, cO1, En.start, List.map_cons, List.map_nil, List.length_cons, List.length_nil, List.replicate, List.cons_append, List.nil_append, List.getElem?_cons_zero, List.getElem?_cons_succ, Option.bind_some, Option.map_some, Option.bind_none, Option.map_none, oSeq_l, oSeq_t, oSeq_tI, oSeq_lI, oSeq_tT, oSeq_lT, oTuple, oInt, oLen_l, oLen_t, oLen_tI, oLen_lI, oLen_tT, oLen_lT, oNeg, oAdd, oAddL, oSub, oMod, oEnum, List.set_cons_zero, List.set_cons_succ, lcRun_A, lcBody, tN, tTp, tT1, tT0, wipeL, cond_pair, lcRunA_pure, fm_some, fm_if, if_true, cond_true, cond_false, Nat.reduceAdd, Nat.reduceLeDiff, Nat.zero_add, ite_true, ite_false, Bool.and_true, Bool.true_and, reduceIte, Nat.zero_le, Option.join_some, bLt_i, bGt_i, bLe_i, bGe_i, oIs, noOb, bNon, bNotNon, bIsB, bNotB, List.length_map, e]
    have e2 : (fs.map fun x => pr x) = fs.map pr := rfl
    rw [e2, h4]
    simp only [fnRun, fnRes, bCons, bNil, bPub, sNo, sSet, sRet, sIf, sExpr, sOwn, sApp, sExt, sAsg, sParEE, sParEF, sParFF, lstAt, cL, cLc, cSq, cUn, cUnL, cUnB, cV, cK, cB, cT, oB, cNot, cAnd, cOr, cIf, cCmp, cBin, cBinL, cChain, iLe, iLt, cTt, cTup, cLst, cNil, cCons, cCall, retOf, cMake, cLenI, oFld, cOwS, cOw, cScal, cScalB, pubSls, pubS, scalB, cSl, cSlL, cO0, cO1, En.start, List.map_cons, List.map_nil, List.length_cons, List.length_nil, List.replicate, List.cons_append, List.nil_append, List.getElem?_cons_zero, List.getElem?_cons_succ, Option.bind_some, Option.map_some, Option.bind_none, Option.map_none, oSeq_l, oSeq_t, oSeq_tI, oSeq_lI, oSeq_tT, oSeq_lT, oTuple, oInt, oLen_l, oLen_t, oLen_tI, oLen_lI, oLen_tT, oLen_lT, oNeg, oAdd, oAddL, oSub, oMod, oEnum, List.set_cons_zero, List.set_cons_succ, lcRun_A, lcBody, tN, tTp, tT1, tT0, wipeL, cond_pair, lcRunA_pure, fm_some, fm_if, if_true, cond_true, cond_false, Nat.reduceAdd, Nat.reduceLeDiff, Nat.zero_add, ite_true, ite_false, Bool.and_true, Bool.true_and, reduceIte, Nat.zero_le, Option.join_some, bLt_i, bGt_i, bLe_i, bGe_i, oIs, noOb, bNon, bNotNon, bIsB, bNotB, pr]
    rw [h3]
    rfl
theorem r_rounds {ss : List (List Int)} {n : Nat} (hn : n ≤ 12) (h : tot ss < 60) (hl : ss.length < 1000) : f_rounds C mu [webD C ss n] = some (mu, .ret (tT (rounds ss n))) := by
  have e1 := r_sets (C := C) (mu := mu) (ts := rng n) (by rw [rng_len]; exact hn)
  have e3 : ∀ (t : List Int) (mu : Mu), f_goes_round C mu [tT ss, tI t] = some (mu, .ret (.bool (goesR ss t))) := fun t mu => r_goes (C := C) (mu := mu) (q := tT ss) (t := t) (.inl rfl) h hl
  unfold webD at *
  unfold f_rounds
  refine fnRun_rt ?_
  simp only [fnRun, fnRes, bCons, bNil, bPub, sNo, sSet, sRet, sIf, sExpr, sOwn, sApp, sExt, sAsg, sParEE, sParEF, sParFF, lstAt, cL, cLc, cSq, cUn, cUnL, cUnB, cV, cK, cB, cT, oB, cNot, cAnd, cOr, cIf, cCmp, cBin, cBinL, cChain, iLe, iLt, cTt, cTup, cLst, cNil, cCons, cCall, retOf, cMake, cLenI, oFld, cOwS, cOw, cScal, cScalB, pubSls, pubS, scalB, cSl, cSlL, cO0, cO1, En.start, List.map_cons, List.map_nil, List.length_cons, List.length_nil, List.replicate, List.cons_append, List.nil_append, List.getElem?_cons_zero, List.getElem?_cons_succ, Option.bind_some, Option.map_some, Option.bind_none, Option.map_none, oSeq_l, oSeq_t, oSeq_tI, oSeq_lI, oSeq_tT, oSeq_lT, oTuple, oInt, oLen_l, oLen_t, oLen_tI, oLen_lI, oLen_tT, oLen_lT, oNeg, oAdd, oAddL, oSub, oMod, oEnum, List.set_cons_zero, List.set_cons_succ, lcRun_A, lcBody, tN, tTp, tT1, tT0, wipeL, cond_pair, lcRunA_pure, fm_some, fm_if, if_true, cond_true, cond_false, Nat.reduceAdd, Nat.reduceLeDiff, Nat.zero_add, ite_true, ite_false, Bool.and_true, Bool.true_and, reduceIte, Nat.zero_le, Option.join_some, bLt_i, bGt_i, bLe_i, bGe_i, oIs, noOb, bNon, bNotNon, bIsB, bNotB, e1, e3]
  rfl
end T
set_option Elab.async false
set_option linter.all false
set_option maxRecDepth 100000
set_option maxHeartbeats 400000
namespace T
open PySem PySem.Spec PyProof.Rows L2 Y
variable {C : Addr} {mu : Mu}
theorem isSet_of {s : List Int} {n m : Nat} (h1 : s.Pairwise (· < ·)) (h2 : ∀ t ∈ s, 0 ≤ t ∧ t < (n : Int)) (hm : n ≤ m) : isSet s m = true := by
  unfold isSet inRg
  rw [grows_of h1, Bool.and_true, List.all_eq_true]
  intro x hx
  have := h2 x hx
  rw [Bool.and_eq_true, decide_eq_true_eq, decide_eq_true_eq]
  omega
theorem n_in {q : D} {k : Nat} {star p : List Int} {t : Int} (h : (p ++ [t]).count t ≤ 2) (hp : p.length < 1000) :
    (bCons (sDPut 1 (cV 4) (cBin oAdd (cDGet2 1 (cV 4) (cK (.int (0)))) (cK (.int (1))))) (sIf (cCmp bGt (cDIx 1 (cV 4)) (cK (.int (2)))) (sNo) (bNil))) ⟨[some (.st q), some (.dK (cntD p)), some (.st (.int k)), some (.st (tI star)), some (.st (.int t))], mu⟩
      = some (.nx ⟨[some (.st q), some (.dK (cntD (p ++ [t]))), some (.st (.int k)), some (.st (tI star)), some (.st (.int t))], mu⟩) := by
  have h1 := keysOf_len p
  rw [bCons_nx (Γ' := ⟨[some (.st q), some (.dK (cntD (p ++ [t]))), some (.st (.int k)), some (.st (tI star)), some (.st (.int t))], mu⟩)]
  · simp only [fnRun, fnRes, bCons, bNil, bPub, sNo, sSet, sRet, sIf, sExpr, sOwn, sApp, sExt, sAsg, sParEE, sParEF, sParFF, lstAt, cL, cLc, cSq, cUn, cUnL, cUnB, cV, cK, cB, cT, oB, cNot, cAnd, cOr, cIf, cCmp, cBin, cBinL, cChain, iLe, iLt, cTt, cTup, cLst, cNil, cCons, cCall, retOf, cMake, cLenI, oFld, cOwS, cOw, cScal, cScalB, pubSls, pubS, scalB, cSl, cSlL, cO0, cO1, En.start, List.map_cons, List.map_nil, List.length_cons, List.length_nil, List.replicate, List.cons_append, List.nil_append, List.getElem?_cons_zero, List.getElem?_cons_succ, Option.bind_some, Option.map_some, Option.bind_none, Option.map_none, oSeq_l, oSeq_t, oSeq_tI, oSeq_lI, oSeq_tT, oSeq_lT, oTuple, oInt, oLen_l, oLen_t, oLen_tI, oLen_lI, oLen_tT, oLen_lT, oNeg, oAdd, oAddL, oSub, oMod, oEnum, List.set_cons_zero, List.set_cons_succ, lcRun_A, lcBody, tN, tTp, tT1, tT0, wipeL, cond_pair, lcRunA_pure, fm_some, fm_if, if_true, cond_true, cond_false, Nat.reduceAdd, Nat.reduceLeDiff, Nat.zero_add, ite_true, ite_false, Bool.and_true, Bool.true_and, reduceIte, Nat.zero_le, Option.join_some, bLt_i, bGt_i, bLe_i, bGe_i, oIs, noOb, bNon, bNotNon, bIsB, bNotB, cDIx, dKAt, oKey, cntD_at]
    rw [decide_eq_false (by omega)]
    rfl
  · simp only [fnRun, fnRes, bCons, bNil, bPub, sNo, sSet, sRet, sIf, sExpr, sOwn, sApp, sExt, sAsg, sParEE, sParEF, sParFF, lstAt, cL, cLc, cSq, cUn, cUnL, cUnB, cV, cK, cB, cT, oB, cNot, cAnd, cOr, cIf, cCmp, cBin, cBinL, cChain, iLe, iLt, cTt, cTup, cLst, cNil, cCons, cCall, retOf, cMake, cLenI, oFld, cOwS, cOw, cScal, cScalB, pubSls, pubS, scalB, cSl, cSlL, cO0, cO1, En.start, List.map_cons, List.map_nil, List.length_cons, List.length_nil, List.replicate, List.cons_append, List.nil_append, List.getElem?_cons_zero, List.getElem?_cons_succ, Option.bind_some, Option.map_some, Option.bind_none, Option.map_none, oSeq_l, oSeq_t, oSeq_tI, oSeq_lI, oSeq_tT, oSeq_lT, oTuple, oInt, oLen_l, oLen_t, oLen_tI, oLen_lI, oLen_tT, oLen_lT, oNeg, oAdd, oAddL, oSub, oMod, oEnum, List.set_cons_zero, List.set_cons_succ, lcRun_A, lcBody, tN, tTp, tT1, tT0, wipeL, cond_pair, lcRunA_pure, fm_some, fm_if, if_true, cond_true, cond_false, Nat.reduceAdd, Nat.reduceLeDiff, Nat.zero_add, ite_true, ite_false, Bool.and_true, Bool.true_and, reduceIte, Nat.zero_le, Option.join_some, bLt_i, bGt_i, bLe_i, bGe_i, oIs, noOb, bNon, bNotNon, bIsB, bNotB, Y.sDPut, cDGet2, dKAt, oKey, cntD_get, cntD_len, cntD_put]
    rw [if_pos (by omega)]
theorem n_body {q : D} {ss pre suf : List (List Int)} {s : List Int} {b : Option Sl} {n : Nat} (ok : OkW ss n) (he : pre ++ s :: suf = ss) (hq : q = tT ss ∨ q = lT ss) :
    ∃ b', (bCons (sIf (cOr (cNot (cT (cCall 2 (f_is_set_of C) (cCons (cV 3) (cCons (cK (.int (12))) (cNil)))))) (cOr (cCmp bEq (cV 3) (cTup (cNil))) (cAnd (cCmp bGt (cV 2) (cK (.int (0)))) (cCmp bGt (cBin oIx (cV 0) (cBin oSub (cV 2) (cK (.int (1))))) (cV 3))))) (sNo) (bNil)) (sFor (cSq (cV 3)) (tN 4) (bCons (sDPut 1 (cV 4) (cBin oAdd (cDGet2 1 (cV 4) (cK (.int (0)))) (cK (.int (1))))) (sIf (cCmp bGt (cDIx 1 (cV 4)) (cK (.int (2)))) (sNo) (bNil))))) ⟨[some (.st q), some (.dK (cntD pre.flatten)), some (.st (.int (pre.length : Nat))), some (.st (tI s)), b], mu⟩
      = some (.nx ⟨[some (.st q), some (.dK (cntD (pre ++ [s]).flatten)), some (.st (.int (pre.length : Nat))), some (.st (tI s)), b'], mu⟩) := by
  have hs : s ∈ ss := he ▸ List.mem_append_right _ List.mem_cons_self
  have e1 := r_isset (C := C) (mu := mu) (t := s) (n := 12)
  have e2 : isSet s 12 = true := isSet_of (m := 12) (ok.st s hs) (fun t ht => (ok.all t).mp (List.mem_flatten.mpr ⟨s, hs, ht⟩)) ok.le
  rw [e2] at e1
  have hflat : ss.flatten = pre.flatten ++ (s ++ suf.flatten) := by rw [← he, List.flatten_append, List.flatten_cons]
  have hlen := ok.tot
  rw [← flat_len, hflat, List.length_append, List.length_append] at hlen
  have h1 : ∃ Γ', sFor (cSq (cV 3)) (tN 4) (bCons (sDPut 1 (cV 4) (cBin oAdd (cDGet2 1 (cV 4) (cK (.int (0)))) (cK (.int (1))))) (sIf (cCmp bGt (cDIx 1 (cV 4)) (cK (.int (2)))) (sNo) (bNil))) ⟨[some (.st q), some (.dK (cntD pre.flatten)), some (.st (.int (pre.length : Nat))), some (.st (tI s)), b], mu⟩ = some (.nx Γ') ∧ ∃ b', Γ' = ⟨[some (.st q), some (.dK (cntD (pre ++ [s]).flatten)), some (.st (.int (pre.length : Nat))), some (.st (tI s)), b'], mu⟩ := by
    obtain ⟨Γ', h1, p, b', rfl, h2⟩ := sForI (it := cSq (cV 3)) (G := tN 4) (body := bCons (sDPut 1 (cV 4) (cBin oAdd (cDGet2 1 (cV 4) (cK (.int (0)))) (cK (.int (1))))) (sIf (cCmp bGt (cDIx 1 (cV 4)) (cK (.int (2)))) (sNo) (bNil))) (Γ := ⟨[some (.st q), some (.dK (cntD pre.flatten)), some (.st (.int (pre.length : Nat))), some (.st (tI s)), b], mu⟩) D.int s mu (fun rest Γ => ∃ p b, Γ = ⟨[some (.st q), some (.dK (cntD p)), some (.st (.int (pre.length : Nat))), some (.st (tI s)), b], mu⟩ ∧ p ++ rest = pre.flatten ++ s) rfl ⟨_, _, rfl, rfl⟩ (by
      rintro x xs Γ ⟨p, b, rfl, h2⟩
      refine ⟨_, _, rfl, .inl (n_in (p := p) ?_ ?_), p ++ [x], _, rfl, by rw [List.append_assoc]; exact h2⟩
      · refine Nat.le_trans (List.Sublist.count_le x ?_) (ok.two x)
        rw [hflat, ← List.append_assoc, ← h2]
        refine List.Sublist.trans ?_ (List.sublist_append_left _ _)
        rw [List.append_cons p x xs]
        exact List.sublist_append_left _ _
      · have := congrArg List.length h2
        rw [List.length_append, List.length_append] at this
        omega)
    refine ⟨_, h1, b', ?_⟩
    rw [List.append_nil] at h2
    rw [h2, List.flatten_append, List.flatten_singleton]
  obtain ⟨Γ', h1, b', rfl⟩ := h1
  refine ⟨b', ?_⟩
  rw [bCons_nx (Γ' := ⟨[some (.st q), some (.dK (cntD pre.flatten)), some (.st (.int (pre.length : Nat))), some (.st (tI s)), b], mu⟩)]
  · exact h1
  · have e3 : decide (s = []) = false := decide_eq_false (ok.ne s hs)
    have e4 : ∀ z zs, pre = zs ++ [z] → oIx q (.int ((pre.length : Nat) - 1)) = some (tI z) ∧ z ≤ s := by
      rintro z zs rfl
      have e5 : (((zs ++ [z]).length : Nat) : Int) - 1 = (zs.length : Nat) := by rw [List.length_append, List.length_singleton]; omega
      have e6 : (ss.map tI)[zs.length]? = some (tI z) := by
        rw [List.getElem?_map, ← he]
        simp
      refine ⟨?_, ?_⟩
      · rw [e5]
        rcases hq with rfl | rfl
        · show atI (ss.map tI) _ = _
          rw [Y.atI_nat, e6]
        · show atI (ss.map tI) _ = _
          rw [Y.atI_nat, e6]
      · have := ok.so
        rw [← he, List.append_assoc] at this
        have := (List.pairwise_append.mp this).2.1
        exact List.rel_of_pairwise_cons this List.mem_cons_self
    simp only [fnRun, fnRes, bCons, bNil, bPub, sNo, sSet, sRet, sIf, sExpr, sOwn, sApp, sExt, sAsg, sParEE, sParEF, sParFF, lstAt, cL, cLc, cSq, cUn, cUnL, cUnB, cV, cK, cB, cT, oB, cNot, cAnd, cOr, cIf, cCmp, cBin, cBinL, cChain, iLe, iLt, cTt, cTup, cLst, cNil, cCons, cCall, retOf, cMake, cLenI, oFld, cOwS, cOw, cScal, cScalB, pubSls, pubS, scalB, cSl, cSlL, cO0, cO1, En.start, List.map_cons, List.map_nil, List.length_cons, List.length_nil, List.replicate, List.cons_append, List.nil_append, List.getElem?_cons_zero, List.getElem?_cons_succ, Option.bind_some, Option.map_some, Option.bind_none, Option.map_none, oSeq_l, oSeq_t, oSeq_tI, oSeq_lI, oSeq_tT, oSeq_lT, oTuple, oInt, oLen_l, oLen_t, oLen_tI, oLen_lI, oLen_tT, oLen_lT, oNeg, oAdd, oAddL, oSub, oMod, oEnum, List.set_cons_zero, List.set_cons_succ, lcRun_A, lcBody, tN, tTp, tT1, tT0, wipeL, cond_pair, lcRunA_pure, fm_some, fm_if, if_true, cond_true, cond_false, Nat.reduceAdd, Nat.reduceLeDiff, Nat.zero_add, ite_true, ite_false, Bool.and_true, Bool.true_and, reduceIte, Nat.zero_le, Option.join_some, bLt_i, bGt_i, bLe_i, bGe_i, oIs, noOb, bNon, bNotNon, bIsB, bNotB, bIn_i, bIn_iL, bNin_i, bNin_iL, bIn_t, bIn_tL, bNin_t, bNin_tL, bEq_i, bNe_i, bEq_t, bNe_t, bEq_l, bNe_l, bEq_tT, bNe_tT, bEq_lT, bNe_lT, bNe_t0, bEq_t0, bNe_l0, bNe_lT0, bEq_tT0, oAll_map, oAny_map, e1, Bool.not_true, e3]
    rcases List.eq_nil_or_concat pre with hp | ⟨zs, z, hp⟩
    · subst hp
      rfl
    · rw [List.concat_eq_append] at hp
      obtain ⟨e5, e6⟩ := e4 z zs hp
      have e7 : decide ((0 : Int) < (pre.length : Nat)) = true := by
        rw [hp, List.length_append, List.length_singleton]
        exact decide_eq_true (by omega)
      simp only [fnRun, fnRes, bCons, bNil, bPub, sNo, sSet, sRet, sIf, sExpr, sOwn, sApp, sExt, sAsg, sParEE, sParEF, sParFF, lstAt, cL, cLc, cSq, cUn, cUnL, cUnB, cV, cK, cB, cT, oB, cNot, cAnd, cOr, cIf, cCmp, cBin, cBinL, cChain, iLe, iLt, cTt, cTup, cLst, cNil, cCons, cCall, retOf, cMake, cLenI, oFld, cOwS, cOw, cScal, cScalB, pubSls, pubS, scalB, cSl, cSlL, cO0, cO1, En.start, List.map_cons, List.map_nil, List.length_cons, List.length_nil, List.replicate, List.cons_append, List.nil_append, List.getElem?_cons_zero, List.getElem?_cons_succ, Option.bind_some, Option.map_some, Option.bind_none, Option.map_none, oSeq_l, oSeq_t, oSeq_tI, oSeq_lI, oSeq_tT, oSeq_lT, oTuple, oInt, oLen_l, oLen_t, oLen_tI, oLen_lI, oLen_tT, oLen_lT, oNeg, oAdd, oAddL, oSub, oMod, oEnum, List.set_cons_zero, List.set_cons_succ, lcRun_A, lcBody, tN, tTp, tT1, tT0, wipeL, cond_pair, lcRunA_pure, fm_some, fm_if, if_true, cond_true, cond_false, Nat.reduceAdd, Nat.reduceLeDiff, Nat.zero_add, ite_true, ite_false, Bool.and_true, Bool.true_and, reduceIte, Nat.zero_le, Option.join_some, bLt_i, bGt_i, bLe_i, bGe_i, oIs, noOb, bNon, bNotNon, bIsB, bNotB, e7, e5, bGt_t, lt_irr _ _ e6]
theorem r_need {q : D} {ss : List (List Int)} {n : Nat} (ok : OkW ss n) (hq : q = tT ss ∨ q = lT ss) : f_need_stars C mu [q] = some (mu, .ret (.int n)) := by
  have e0 : oSeq q = some (ss.map tI) := by rcases hq with rfl | rfl <;> rfl
  have e1 : f_is_list C mu [q] = some (mu, .ret (.bool true)) := by rcases hq with rfl | rfl <;> rfl
  unfold f_need_stars
  refine fnRun_rt ?_
  rw [bCons_nx (Γ' := ⟨[some (.st q), none, none, none, none], mu⟩) (by simp only [fnRun, fnRes, bCons, bNil, bPub, sNo, sSet, sRet, sIf, sExpr, sOwn, sApp, sExt, sAsg, sParEE, sParEF, sParFF, lstAt, cL, cLc, cSq, cUn, cUnL, cUnB, cV, cK, cB, cT, oB, cNot, cAnd, cOr, cIf, cCmp, cBin, cBinL, cChain, iLe, iLt, cTt, cTup, cLst, cNil, cCons, cCall, retOf, cMake, cLenI, oFld, cOwS, cOw, cScal, cScalB, pubSls, pubS, scalB, cSl, cSlL, cO0, cO1, En.start, List.map_cons, List.map_nil, List.length_cons, List.length_nil, List.replicate, List.cons_append, List.nil_append, List.getElem?_cons_zero, List.getElem?_cons_succ, Option.bind_some, Option.map_some, Option.bind_none, Option.map_none, oSeq_l, oSeq_t, oSeq_tI, oSeq_lI, oSeq_tT, oSeq_lT, oTuple, oInt, oLen_l, oLen_t, oLen_tI, oLen_lI, oLen_tT, oLen_lT, oNeg, oAdd, oAddL, oSub, oMod, oEnum, List.set_cons_zero, List.set_cons_succ, lcRun_A, lcBody, tN, tTp, tT1, tT0, wipeL, cond_pair, lcRunA_pure, fm_some, fm_if, if_true, cond_true, cond_false, Nat.reduceAdd, Nat.reduceLeDiff, Nat.zero_add, ite_true, ite_false, Bool.and_true, Bool.true_and, reduceIte, Nat.zero_le, Option.join_some, bLt_i, bGt_i, bLe_i, bGe_i, oIs, noOb, bNon, bNotNon, bIsB, bNotB, e1, Bool.not_true])]
  rw [bCons_nx (Γ' := ⟨[some (.st q), some (.dK (cntD [])), none, none, none], mu⟩) (by rfl)]
  refine bFor (fun p : Nat × List Int => .tuple [.int (p.1 : Nat), tI p.2]) (enumF 0 ss) mu (fun rest Γ => ∃ pre suf a b c, rest = enumF pre.length suf ∧ pre ++ suf = ss ∧ Γ = ⟨[some (.st q), some (.dK (cntD pre.flatten)), a, b, c], mu⟩) ?_ ?_ ?_ ?_
  · simp only [fnRun, fnRes, bCons, bNil, bPub, sNo, sSet, sRet, sIf, sExpr, sOwn, sApp, sExt, sAsg, sParEE, sParEF, sParFF, lstAt, cL, cLc, cSq, cUn, cUnL, cUnB, cV, cK, cB, cT, oB, cNot, cAnd, cOr, cIf, cCmp, cBin, cBinL, cChain, iLe, iLt, cTt, cTup, cLst, cNil, cCons, cCall, retOf, cMake, cLenI, oFld, cOwS, cOw, cScal, cScalB, pubSls, pubS, scalB, cSl, cSlL, cO0, cO1, En.start, List.map_cons, List.map_nil, List.length_cons, List.length_nil, List.replicate, List.cons_append, List.nil_append, List.getElem?_cons_zero, List.getElem?_cons_succ, Option.bind_some, Option.map_some, Option.bind_none, Option.map_none, oSeq_l, oSeq_t, oSeq_tI, oSeq_lI, oSeq_tT, oSeq_lT, oTuple, oInt, oLen_l, oLen_t, oLen_tI, oLen_lI, oLen_tT, oLen_lT, oNeg, oAdd, oAddL, oSub, oMod, oEnum, List.set_cons_zero, List.set_cons_succ, lcRun_A, lcBody, tN, tTp, tT1, tT0, wipeL, cond_pair, lcRunA_pure, fm_some, fm_if, if_true, cond_true, cond_false, Nat.reduceAdd, Nat.reduceLeDiff, Nat.zero_add, ite_true, ite_false, Bool.and_true, Bool.true_and, reduceIte, Nat.zero_le, Option.join_some, bLt_i, bGt_i, bLe_i, bGe_i, oIs, noOb, bNon, bNotNon, bIsB, bNotB, e0, enumD_map]
  · exact ⟨[], ss, none, none, none, rfl, rfl, rfl⟩
  · rintro x xs Γ ⟨pre, suf, a, b, c, h1, h2, rfl⟩
    cases suf with
    | nil => cases h1
    | cons s suf =>
      cases h1
      obtain ⟨b', h3⟩ := n_body (C := C) (mu := mu) (q := q) (b := c) ok h2 hq
      exact ⟨_, _, rfl, .inl h3, pre ++ [s], suf, _, _, _, by rw [List.length_append]; rfl, by rw [← List.append_cons]; exact h2, rfl⟩
  · rintro Γ ⟨pre, suf, a, b, c, h1, h2, rfl⟩
    cases suf with
    | cons s suf => cases h1
    | nil =>
      rw [List.append_nil] at h2
      subst h2
      have k1 := keys_len ok.all
      have k2 := cntD_len pre.flatten
      rw [bCons_nx (Γ' := ⟨[some (.st q), some (.dK (cntD pre.flatten)), a, b, c], mu⟩)]
      · simp only [fnRun, fnRes, bCons, bNil, bPub, sNo, sSet, sRet, sIf, sExpr, sOwn, sApp, sExt, sAsg, sParEE, sParEF, sParFF, lstAt, cL, cLc, cSq, cUn, cUnL, cUnB, cV, cK, cB, cT, oB, cNot, cAnd, cOr, cIf, cCmp, cBin, cBinL, cChain, iLe, iLt, cTt, cTup, cLst, cNil, cCons, cCall, retOf, cMake, cLenI, oFld, cOwS, cOw, cScal, cScalB, pubSls, pubS, scalB, cSl, cSlL, cO0, cO1, En.start, List.map_cons, List.map_nil, List.length_cons, List.length_nil, List.replicate, List.cons_append, List.nil_append, List.getElem?_cons_zero, List.getElem?_cons_succ, Option.bind_some, Option.map_some, Option.bind_none, Option.map_none, oSeq_l, oSeq_t, oSeq_tI, oSeq_lI, oSeq_tT, oSeq_lT, oTuple, oInt, oLen_l, oLen_t, oLen_tI, oLen_lI, oLen_tT, oLen_lT, oNeg, oAdd, oAddL, oSub, oMod, oEnum, List.set_cons_zero, List.set_cons_succ, lcRun_A, lcBody, tN, tTp, tT1, tT0, wipeL, cond_pair, lcRunA_pure, fm_some, fm_if, if_true, cond_true, cond_false, Nat.reduceAdd, Nat.reduceLeDiff, Nat.zero_add, ite_true, ite_false, Bool.and_true, Bool.true_and, reduceIte, Nat.zero_le, Option.join_some, bLt_i, bGt_i, bLe_i, bGe_i, oIs, noOb, bNon, bNotNon, bIsB, bNotB, cDLen, dKAt, k2, k1]
      · by_cases hn : 0 < n
        · have k3 := keys_max ok.all hn
          have k4 : keysOf pre.flatten ≠ [] := by intro z; rw [z] at k1; simp at k1; omega
          simp only [fnRun, fnRes, bCons, bNil, bPub, sNo, sSet, sRet, sIf, sExpr, sOwn, sApp, sExt, sAsg, sParEE, sParEF, sParFF, lstAt, cL, cLc, cSq, cUn, cUnL, cUnB, cV, cK, cB, cT, oB, cNot, cAnd, cOr, cIf, cCmp, cBin, cBinL, cChain, iLe, iLt, cTt, cTup, cLst, cNil, cCons, cCall, retOf, cMake, cLenI, oFld, cOwS, cOw, cScal, cScalB, pubSls, pubS, scalB, cSl, cSlL, cO0, cO1, En.start, List.map_cons, List.map_nil, List.length_cons, List.length_nil, List.replicate, List.cons_append, List.nil_append, List.getElem?_cons_zero, List.getElem?_cons_succ, Option.bind_some, Option.map_some, Option.bind_none, Option.map_none, oSeq_l, oSeq_t, oSeq_tI, oSeq_lI, oSeq_tT, oSeq_lT, oTuple, oInt, oLen_l, oLen_t, oLen_tI, oLen_lI, oLen_tT, oLen_lT, oNeg, oAdd, oAddL, oSub, oMod, oEnum, List.set_cons_zero, List.set_cons_succ, lcRun_A, lcBody, tN, tTp, tT1, tT0, wipeL, cond_pair, lcRunA_pure, fm_some, fm_if, if_true, cond_true, cond_false, Nat.reduceAdd, Nat.reduceLeDiff, Nat.zero_add, ite_true, ite_false, Bool.and_true, Bool.true_and, reduceIte, Nat.zero_le, Option.join_some, bLt_i, bGt_i, bLe_i, bGe_i, oIs, noOb, bNon, bNotNon, bIsB, bNotB, bIn_i, bIn_iL, bNin_i, bNin_iL, bIn_t, bIn_tL, bNin_t, bNin_tL, bEq_i, bNe_i, bEq_t, bNe_t, bEq_l, bNe_l, bEq_tT, bNe_tT, bEq_lT, bNe_lT, bNe_t0, bEq_t0, bNe_l0, bNe_lT0, bEq_tT0, oAll_map, oAny_map, cDLen, cDMax, dKAt, k2, k1, cntD_keys, if_pos k4, k3]
          rw [decide_eq_true (by omega), decide_eq_true (by omega)]
          rfl
        · have hn0 : n = 0 := by omega
          simp only [fnRun, fnRes, bCons, bNil, bPub, sNo, sSet, sRet, sIf, sExpr, sOwn, sApp, sExt, sAsg, sParEE, sParEF, sParFF, lstAt, cL, cLc, cSq, cUn, cUnL, cUnB, cV, cK, cB, cT, oB, cNot, cAnd, cOr, cIf, cCmp, cBin, cBinL, cChain, iLe, iLt, cTt, cTup, cLst, cNil, cCons, cCall, retOf, cMake, cLenI, oFld, cOwS, cOw, cScal, cScalB, pubSls, pubS, scalB, cSl, cSlL, cO0, cO1, En.start, List.map_cons, List.map_nil, List.length_cons, List.length_nil, List.replicate, List.cons_append, List.nil_append, List.getElem?_cons_zero, List.getElem?_cons_succ, Option.bind_some, Option.map_some, Option.bind_none, Option.map_none, oSeq_l, oSeq_t, oSeq_tI, oSeq_lI, oSeq_tT, oSeq_lT, oTuple, oInt, oLen_l, oLen_t, oLen_tI, oLen_lI, oLen_tT, oLen_lT, oNeg, oAdd, oAddL, oSub, oMod, oEnum, List.set_cons_zero, List.set_cons_succ, lcRun_A, lcBody, tN, tTp, tT1, tT0, wipeL, cond_pair, lcRunA_pure, fm_some, fm_if, if_true, cond_true, cond_false, Nat.reduceAdd, Nat.reduceLeDiff, Nat.zero_add, ite_true, ite_false, Bool.and_true, Bool.true_and, reduceIte, Nat.zero_le, Option.join_some, bLt_i, bGt_i, bLe_i, bGe_i, oIs, noOb, bNon, bNotNon, bIsB, bNotB, bIn_i, bIn_iL, bNin_i, bNin_iL, bIn_t, bIn_tL, bNin_t, bNin_tL, bEq_i, bNe_i, bEq_t, bNe_t, bEq_l, bNe_l, bEq_tT, bNe_tT, bEq_lT, bNe_lT, bNe_t0, bEq_t0, bNe_l0, bNe_lT0, bEq_tT0, oAll_map, oAny_map, cDLen, cDMax, dKAt, k2, k1]
          rw [decide_eq_false (by omega)]
          rfl
theorem r_web {q : D} {ss : List (List Int)} {n : Nat} (ok : OkW ss n) (hq : q = tT ss ∨ q = lT ss) : f_Web_init C mu [q] = some (mu, .ok [some (tT ss), some (tI (rng n))]) := by
  have e0 : oSeq q = some (ss.map tI) := by rcases hq with rfl | rfl <;> rfl
  unfold f_Web_init webInit
  have h := ok.le
  simp only [r_need ok hq, e0, rng_D]
  rw [if_pos (by omega)]
  rfl
end T
set_option Elab.async false
set_option linter.all false
set_option maxRecDepth 100000
set_option maxHeartbeats 400000
namespace T
open PySem PySem.Spec PyProof.Rows L2 Y
variable {C : Addr} {mu : Mu}
theorem rl_within {ss : List (List Int)} {t : List Int} : f__law_within C mu [tT ss, tI t] = some (mu, .ret (lT (within ss t))) := by
  unfold f__law_within
  refine fnRun_rt ?_
  rw [bCons_nx (Γ' := ⟨[some (.st (tT ss)), some (.st (tI t)), some (.st (lT (ss.map fun s => s.filter fun x => decide (x ∈ t)))), none, none], mu⟩)]
  · simp only [List.length_map, fnRun, fnRes, bCons, bNil, bPub, sNo, sSet, sRet, sIf, sExpr, sOwn, sApp, sExt, sAsg, sParEE, sParEF, sParFF, lstAt, cL, cLc, cSq, cUn, cUnL, cUnB, cV, cK, cB, cT, oB, cNot, cAnd, cOr, cIf, cCmp, cBin, cBinL, cChain, iLe, iLt, cTt, cTup, cLst, cNil, cCons, cCall, retOf, cMake, cLenI, oFld, cOwS, cOw, cScal, cScalB, pubSls, pubS, scalB, cSl, cSlL, cO0, cO1, En.start, List.map_cons, List.map_nil, List.length_cons, List.length_nil, List.replicate, List.cons_append, List.nil_append, List.getElem?_cons_zero, List.getElem?_cons_succ, Option.bind_some, Option.map_some, Option.bind_none, Option.map_none, oSeq_l, oSeq_t, oSeq_tI, oSeq_lI, oSeq_tT, oSeq_lT, oTuple, oInt, oLen_l, oLen_t, oLen_tI, oLen_lI, oLen_tT, oLen_lT, oNeg, oAdd, oAddL, oSub, oMod, oEnum, List.set_cons_zero, List.set_cons_succ, lcRun_A, lcBody, tN, tTp, tT1, tT0, wipeL, cond_pair, lcRunA_pure, fm_some, fm_if, if_true, cond_true, cond_false, Nat.reduceAdd, Nat.reduceLeDiff, Nat.zero_add, ite_true, ite_false, Bool.and_true, Bool.true_and, reduceIte, Nat.zero_le, Option.join_some, bLt_i, bGt_i, bLe_i, bGe_i, oIs, noOb, bNon, bNotNon, bIsB, bNotB, bIn_i, bIn_iL, bNin_i, bNin_iL, bIn_t, bIn_tL, bNin_t, bNin_tL, bEq_i, bNe_i, bEq_t, bNe_t, bEq_l, bNe_l, bEq_tT, bNe_tT, bEq_lT, bNe_lT, bNe_t0, bEq_t0, bNe_l0, bNe_lT0, bEq_tT0, oAll_map, oAny_map]
    rfl
  · simp only [List.length_map, fnRun, fnRes, bCons, bNil, bPub, sNo, sSet, sRet, sIf, sExpr, sOwn, sApp, sExt, sAsg, sParEE, sParEF, sParFF, lstAt, cL, cLc, cSq, cUn, cUnL, cUnB, cV, cK, cB, cT, oB, cNot, cAnd, cOr, cIf, cCmp, cBin, cBinL, cChain, iLe, iLt, cTt, cTup, cLst, cNil, cCons, cCall, retOf, cMake, cLenI, oFld, cOwS, cOw, cScal, cScalB, pubSls, pubS, scalB, cSl, cSlL, cO0, cO1, En.start, List.map_cons, List.map_nil, List.length_cons, List.length_nil, List.replicate, List.cons_append, List.nil_append, List.getElem?_cons_zero, List.getElem?_cons_succ, Option.bind_some, Option.map_some, Option.bind_none, Option.map_none, oSeq_l, oSeq_t, oSeq_tI, oSeq_lI, oSeq_tT, oSeq_lT, oTuple, oInt, oLen_l, oLen_t, oLen_tI, oLen_lI, oLen_tT, oLen_lT, oNeg, oAdd, oAddL, oSub, oMod, oEnum, List.set_cons_zero, List.set_cons_succ, lcRun_A, lcBody, tN, tTp, tT1, tT0, wipeL, cond_pair, lcRunA_pure, fm_some, fm_if, if_true, cond_true, cond_false, Nat.reduceAdd, Nat.reduceLeDiff, Nat.zero_add, ite_true, ite_false, Bool.and_true, Bool.true_and, reduceIte, Nat.zero_le, Option.join_some, bLt_i, bGt_i, bLe_i, bGe_i, oIs, noOb, bNon, bNotNon, bIsB, bNotB, bIn_i, bIn_iL, bNin_i, bNin_iL, bIn_t, bIn_tL, bNin_t, bNin_tL, bEq_i, bNe_i, bEq_t, bNe_t, bEq_l, bNe_l, bEq_tT, bNe_tT, bEq_lT, bNe_lT, bNe_t0, bEq_t0, bNe_l0, bNe_lT0, bEq_tT0, oAll_map, oAny_map]
    rw [lT, List.map_map]
    rfl
theorem l_more {a0 a1 a2 a3 a5 : Option Sl} {js : List (List Int)} {more : List Int} (h : more.length + tot js < 1000) : ∃ a4, sFor (cSq (cV 3)) (tN 4) (sSet 6 (cBin oAdd (cV 6) (cL (cUnL oSeq (cV 4))))) ⟨[a0, a1, a2, some (.st (lT js)), a3, a5, some (.st (lI more))], mu⟩
    = some (.nx ⟨[a0, a1, a2, some (.st (lT js)), a4, a5, some (.st (lI (more ++ js.flatten)))], mu⟩) := by
  obtain ⟨Γ', h1, m, a4, rfl, h3, h4⟩ := sForI (it := cSq (cV 3)) (G := tN 4) (body := sSet 6 (cBin oAdd (cV 6) (cL (cUnL oSeq (cV 4))))) (Γ := ⟨[a0, a1, a2, some (.st (lT js)), a3, a5, some (.st (lI more))], mu⟩) tI js mu
    (fun rest Γ => ∃ m a4, Γ = ⟨[a0, a1, a2, some (.st (lT js)), a4, a5, some (.st (lI m))], mu⟩ ∧ m ++ rest.flatten = more ++ js.flatten ∧ m.length + tot rest < 1000) rfl ⟨more, a3, rfl, rfl, h⟩ (by
    rintro x xs Γ ⟨m, a4, rfl, h1, h2⟩
    rw [tot_cons] at h2
    refine ⟨_, ⟨[a0, a1, a2, some (.st (lT js)), some (.st (tI x)), a5, some (.st (lI (m ++ x)))], mu⟩, rfl, .inl ?_, m ++ x, _, rfl, ?_, ?_⟩
    · simp only [List.length_map, fnRun, fnRes, bCons, bNil, bPub, sNo, sSet, sRet, sIf, sExpr, sOwn, sApp, sExt, sAsg, sParEE, sParEF, sParFF, lstAt, cL, cLc, cSq, cUn, cUnL, cUnB, cV, cK, cB, cT, oB, cNot, cAnd, cOr, cIf, cCmp, cBin, cBinL, cChain, iLe, iLt, cTt, cTup, cLst, cNil, cCons, cCall, retOf, cMake, cLenI, oFld, cOwS, cOw, cScal, cScalB, pubSls, pubS, scalB, cSl, cSlL, cO0, cO1, En.start, List.map_cons, List.map_nil, List.length_cons, List.length_nil, List.replicate, List.cons_append, List.nil_append, List.getElem?_cons_zero, List.getElem?_cons_succ, Option.bind_some, Option.map_some, Option.bind_none, Option.map_none, oSeq_l, oSeq_t, oSeq_tI, oSeq_lI, oSeq_tT, oSeq_lT, oTuple, oInt, oLen_l, oLen_t, oLen_tI, oLen_lI, oLen_tT, oLen_lT, oNeg, oAdd, oAddL, oSub, oMod, oEnum, List.set_cons_zero, List.set_cons_succ, lcRun_A, lcBody, tN, tTp, tT1, tT0, wipeL, cond_pair, lcRunA_pure, fm_some, fm_if, if_true, cond_true, cond_false, Nat.reduceAdd, Nat.reduceLeDiff, Nat.zero_add, ite_true, ite_false, Bool.and_true, Bool.true_and, reduceIte, Nat.zero_le, Option.join_some, bLt_i, bGt_i, bLe_i, bGe_i, oIs, noOb, bNon, bNotNon, bIsB, bNotB, List.length_map]
      rw [if_pos (by omega), lI, List.map_append]
      rfl
    · rw [List.append_assoc, ← List.flatten_cons, h1]
    · rw [List.length_append]; omega)
  refine ⟨a4, ?_⟩
  rw [List.flatten_nil, List.append_nil] at h3
  rw [h1, h3]
theorem meets_filter (s t : List Int) : (!decide ((s.filter fun x => decide (x ∈ t)) = [])) = meets s t := by
  unfold meets
  cases h : (s.any fun x => decide (x ∈ t)) with
  | true =>
    obtain ⟨x, h1, h2⟩ := List.any_eq_true.mp h
    have : x ∈ s.filter fun x => decide (x ∈ t) := List.mem_filter.mpr ⟨h1, h2⟩
    rw [decide_eq_false (fun z => by rw [z] at this; cases this)]
    rfl
  | false =>
    rw [decide_eq_true (List.filter_eq_nil_iff.mpr fun x hx hz => by rw [List.any_eq_false] at h; exact h x hx hz)]
    rfl
theorem l_body {q : D} {fs : List (List Int)} {s : List Int} {a3 a4 a6 : Option Sl} (h : tot fs + s.length < 60) (hl : fs.length < 1000) : ∃ b3 b4 b6,
    (bCons (sSet 3 (cL (cLc (cSq (cV 1)) [4] (tN 4) (cCmp bNe (cL (cLc (cSq (cV 2)) [5] (tN 5) (cCmp bIn (cV 5) (cV 4)) (cV 5))) (cL (cLst (cNil)))) (cV 4)))) (bCons (sSet 6 (cL (cUnL oSeq (cV 2)))) (bCons (sFor (cSq (cV 3)) (tN 4) (sSet 6 (cBin oAdd (cV 6) (cL (cUnL oSeq (cV 4)))))) (sSet 1 (cBin oAdd (cL (cLc (cSq (cV 1)) [4] (tN 4) (cCmp bNin (cV 4) (cV 3)) (cV 4))) (cL (cLst (cCons (cUn oTuple (cL (cUnL oSset (cV 6)))) (cNil))))))))) ⟨[some (.st q), some (.st (lT fs)), some (.st (tI s)), a3, a4, none, a6], mu⟩
      = some (.nx ⟨[some (.st q), some (.st (lT (gStep fs s))), some (.st (tI s)), b3, b4, none, b6], mu⟩) := by
  have h1 := tot_filter_le (meets s) fs
  obtain ⟨b4, e⟩ := l_more (mu := mu) (a0 := some (.st q)) (a1 := some (.st (lT fs))) (a2 := some (.st (tI s))) (a3 := a4) (a5 := none) (js := fs.filter (meets s)) (more := s) (by omega)
  refine ⟨some (.st (lT (fs.filter (meets s)))), b4, some (.st (lI (s ++ (fs.filter (meets s)).flatten))), ?_⟩
  rw [bCons_nx (Γ' := ⟨[some (.st q), some (.st (lT fs)), some (.st (tI s)), some (.st (lT (fs.filter (meets s)))), a4, none, a6], mu⟩)]
  · rw [bCons_nx (Γ' := ⟨[some (.st q), some (.st (lT fs)), some (.st (tI s)), some (.st (lT (fs.filter (meets s)))), a4, none, some (.st (lI s))], mu⟩) rfl]
    rw [bCons_nx e]
    have hlen : (s ++ (fs.filter (meets s)).flatten).length < 64 := by rw [List.length_append, flat_len]; omega
    have h2 := List.length_filter_le (fun s' => !decide (s' ∈ fs.filter (meets s))) fs
    simp only [List.length_map, fnRun, fnRes, bCons, bNil, bPub, sNo, sSet, sRet, sIf, sExpr, sOwn, sApp, sExt, sAsg, sParEE, sParEF, sParFF, lstAt, cL, cLc, cSq, cUn, cUnL, cUnB, cV, cK, cB, cT, oB, cNot, cAnd, cOr, cIf, cCmp, cBin, cBinL, cChain, iLe, iLt, cTt, cTup, cLst, cNil, cCons, cCall, retOf, cMake, cLenI, oFld, cOwS, cOw, cScal, cScalB, pubSls, pubS, scalB, cSl, cSlL, cO0, cO1, En.start, List.map_cons, List.map_nil, List.length_cons, List.length_nil, List.replicate, List.cons_append, List.nil_append, List.getElem?_cons_zero, List.getElem?_cons_succ, Option.bind_some, Option.map_some, Option.bind_none, Option.map_none, oSeq_l, oSeq_t, oSeq_tI, oSeq_lI, oSeq_tT, oSeq_lT, oTuple, oInt, oLen_l, oLen_t, oLen_tI, oLen_lI, oLen_tT, oLen_lT, oNeg, oAdd, oAddL, oSub, oMod, oEnum, List.set_cons_zero, List.set_cons_succ, lcRun_A, lcBody, tN, tTp, tT1, tT0, wipeL, cond_pair, lcRunA_pure, fm_some, fm_if, if_true, cond_true, cond_false, Nat.reduceAdd, Nat.reduceLeDiff, Nat.zero_add, ite_true, ite_false, Bool.and_true, Bool.true_and, reduceIte, Nat.zero_le, Option.join_some, bLt_i, bGt_i, bLe_i, bGe_i, oIs, noOb, bNon, bNotNon, bIsB, bNotB, bIn_i, bIn_iL, bNin_i, bNin_iL, bIn_t, bIn_tL, bNin_t, bNin_tL, bEq_i, bNe_i, bEq_t, bNe_t, bEq_l, bNe_l, bEq_tT, bNe_tT, bEq_lT, bNe_lT, bNe_t0, bEq_t0, bNe_l0, bNe_lT0, bEq_tT0, oAll_map, oAny_map, oSset_l hlen, List.length_map]
    rw [if_pos (by omega)]
    simp only [List.length_map, fnRun, fnRes, bCons, bNil, bPub, sNo, sSet, sRet, sIf, sExpr, sOwn, sApp, sExt, sAsg, sParEE, sParEF, sParFF, lstAt, cL, cLc, cSq, cUn, cUnL, cUnB, cV, cK, cB, cT, oB, cNot, cAnd, cOr, cIf, cCmp, cBin, cBinL, cChain, iLe, iLt, cTt, cTup, cLst, cNil, cCons, cCall, retOf, cMake, cLenI, oFld, cOwS, cOw, cScal, cScalB, pubSls, pubS, scalB, cSl, cSlL, cO0, cO1, En.start, List.map_cons, List.map_nil, List.length_cons, List.length_nil, List.replicate, List.cons_append, List.nil_append, List.getElem?_cons_zero, List.getElem?_cons_succ, Option.bind_some, Option.map_some, Option.bind_none, Option.map_none, oSeq_l, oSeq_t, oSeq_tI, oSeq_lI, oSeq_tT, oSeq_lT, oTuple, oInt, oLen_l, oLen_t, oLen_tI, oLen_lI, oLen_tT, oLen_lT, oNeg, oAdd, oAddL, oSub, oMod, oEnum, List.set_cons_zero, List.set_cons_succ, lcRun_A, lcBody, tN, tTp, tT1, tT0, wipeL, cond_pair, lcRunA_pure, fm_some, fm_if, if_true, cond_true, cond_false, Nat.reduceAdd, Nat.reduceLeDiff, Nat.zero_add, ite_true, ite_false, Bool.and_true, Bool.true_and, reduceIte, Nat.zero_le, Option.join_some, bLt_i, bGt_i, bLe_i, bGe_i, oIs, noOb, bNon, bNotNon, bIsB, bNotB]
    unfold gStep
    rw [show ∀ a b : List (List Int), lT (a ++ b) = D.list (a.map tI ++ b.map tI) from fun a b => congrArg D.list List.map_append]
    rw [norm_eq (ns := s ++ (fs.filter (meets s)).flatten) (ms := (fs.filter (meets s)).flatten ++ s) (fun k => by rw [List.mem_append, List.mem_append, or_comm])]
    rfl
  · simp only [List.length_map, fnRun, fnRes, bCons, bNil, bPub, sNo, sSet, sRet, sIf, sExpr, sOwn, sApp, sExt, sAsg, sParEE, sParEF, sParFF, lstAt, cL, cLc, cSq, cUn, cUnL, cUnB, cV, cK, cB, cT, oB, cNot, cAnd, cOr, cIf, cCmp, cBin, cBinL, cChain, iLe, iLt, cTt, cTup, cLst, cNil, cCons, cCall, retOf, cMake, cLenI, oFld, cOwS, cOw, cScal, cScalB, pubSls, pubS, scalB, cSl, cSlL, cO0, cO1, En.start, List.map_cons, List.map_nil, List.length_cons, List.length_nil, List.replicate, List.cons_append, List.nil_append, List.getElem?_cons_zero, List.getElem?_cons_succ, Option.bind_some, Option.map_some, Option.bind_none, Option.map_none, oSeq_l, oSeq_t, oSeq_tI, oSeq_lI, oSeq_tT, oSeq_lT, oTuple, oInt, oLen_l, oLen_t, oLen_tI, oLen_lI, oLen_tT, oLen_lT, oNeg, oAdd, oAddL, oSub, oMod, oEnum, List.set_cons_zero, List.set_cons_succ, lcRun_A, lcBody, tN, tTp, tT1, tT0, wipeL, cond_pair, lcRunA_pure, fm_some, fm_if, if_true, cond_true, cond_false, Nat.reduceAdd, Nat.reduceLeDiff, Nat.zero_add, ite_true, ite_false, Bool.and_true, Bool.true_and, reduceIte, Nat.zero_le, Option.join_some, bLt_i, bGt_i, bLe_i, bGe_i, oIs, noOb, bNon, bNotNon, bIsB, bNotB, bIn_i, bIn_iL, bNin_i, bNin_iL, bIn_t, bIn_tL, bNin_t, bNin_tL, bEq_i, bNe_i, bEq_t, bNe_t, bEq_l, bNe_l, bEq_tT, bNe_tT, bEq_lT, bNe_lT, bNe_t0, bEq_t0, bNe_l0, bNe_lT0, bEq_tT0, oAll_map, oAny_map]
    have e7 : (fun x => !decide ((s.filter fun y => decide (y ∈ x)) = [])) = meets s := funext fun x => meets_filter s x
    simp only [meets_filter]
theorem rl_lots {ss : List (List Int)} (h : tot ss < 60) (hl : ss.length < 1000) (hne : ∀ s ∈ ss, s ≠ []) : f__law_lots C mu [lT ss] = some (mu, .ret (lT (srt (gath ss)))) := by
  unfold f__law_lots
  refine fnRun_rt ?_
  rw [bCons_nx (Γ' := ⟨[some (.st (lT ss)), some (.st (lT [])), none, none, none, none, none], mu⟩) (by rfl)]
  refine bFor tI ss mu (fun rest Γ => ∃ fs a b c d, Γ = ⟨[some (.st (lT ss)), some (.st (lT fs)), a, b, c, none, d], mu⟩ ∧ rest.foldl gStep fs = gath ss ∧ tot fs + tot rest < 60 ∧ fs.length + rest.length < 1000 ∧ (∀ s ∈ fs, s ≠ []) ∧ ∀ s ∈ rest, s ≠ []) ?_ ?_ ?_ ?_
  · rfl
  · exact ⟨[], none, none, none, none, rfl, rfl, by show tot [] + tot ss < 60; have : tot [] = 0 := rfl; omega, by simpa using hl, (fun s hs => by cases hs), hne⟩
  · rintro x xs Γ ⟨fs, a, b, c, d, rfl, h1, h2, h3, h4, h5⟩
    rw [tot_cons] at h2
    rw [List.length_cons] at h3
    obtain ⟨b3, b4, b6, e⟩ := l_body (mu := mu) (q := lT ss) (fs := fs) (s := x) (a3 := b) (a4 := c) (a6 := d) (by omega) (by omega)
    exact ⟨_, _, rfl, .inl e, gStep fs x, _, _, _, _, rfl, h1, by have := tot_gStep fs x; omega, by have := len_gStep fs x; omega, gStep_ne (h5 x List.mem_cons_self) h4, fun s hs => h5 s (List.mem_cons_of_mem _ hs)⟩
  · rintro Γ ⟨fs, a, b, c, d, rfl, h3, h4, h5, h6, h7⟩
    have h3' : fs = gath ss := h3
    simp only [List.length_map, fnRun, fnRes, bCons, bNil, bPub, sNo, sSet, sRet, sIf, sExpr, sOwn, sApp, sExt, sAsg, sParEE, sParEF, sParFF, lstAt, cL, cLc, cSq, cUn, cUnL, cUnB, cV, cK, cB, cT, oB, cNot, cAnd, cOr, cIf, cCmp, cBin, cBinL, cChain, iLe, iLt, cTt, cTup, cLst, cNil, cCons, cCall, retOf, cMake, cLenI, oFld, cOwS, cOw, cScal, cScalB, pubSls, pubS, scalB, cSl, cSlL, cO0, cO1, En.start, List.map_cons, List.map_nil, List.length_cons, List.length_nil, List.replicate, List.cons_append, List.nil_append, List.getElem?_cons_zero, List.getElem?_cons_succ, Option.bind_some, Option.map_some, Option.bind_none, Option.map_none, oSeq_l, oSeq_t, oSeq_tI, oSeq_lI, oSeq_tT, oSeq_lT, oTuple, oInt, oLen_l, oLen_t, oLen_tI, oLen_lI, oLen_tT, oLen_lT, oNeg, oAdd, oAddL, oSub, oMod, oEnum, List.set_cons_zero, List.set_cons_succ, lcRun_A, lcBody, tN, tTp, tT1, tT0, wipeL, cond_pair, lcRunA_pure, fm_some, fm_if, if_true, cond_true, cond_false, Nat.reduceAdd, Nat.reduceLeDiff, Nat.zero_add, ite_true, ite_false, Bool.and_true, Bool.true_and, reduceIte, Nat.zero_le, Option.join_some, bLt_i, bGt_i, bLe_i, bGe_i, oIs, noOb, bNon, bNotNon, bIsB, bNotB, bIn_i, bIn_iL, bNin_i, bNin_iL, bIn_t, bIn_tL, bNin_t, bNin_tL, bEq_i, bNe_i, bEq_t, bNe_t, bEq_l, bNe_l, bEq_tT, bNe_tT, bEq_lT, bNe_lT, bNe_t0, bEq_t0, bNe_l0, bNe_lT0, bEq_tT0, oAll_map, oAny_map]
    rw [oSorted_T h6, h3']
    rfl
theorem all_filter2 (ss : List (List Int)) : (!decide ((ss.filter fun s => !decide ((s.length : Int) = 2)) = [])) = !(ss.all fun s => decide ((s.length : Int) = 2)) := by
  congr 1
  rw [Bool.eq_iff_iff, decide_eq_true_eq, List.filter_eq_nil_iff, List.all_eq_true]
  exact ⟨fun h x hx => by have := h x hx; simpa using this, fun h x hx => by have := h x hx; simpa using this⟩
theorem rl_isround {ss : List (List Int)} {t : List Int} (h : tot ss < 60) (hl : ss.length < 1000) : f__law_is_round C mu [tT ss, tI t] = some (mu, .ret (.bool (goesR ss t))) := by
  have e : f__law_within C mu [tT ss, tI t] = some (mu, .ret (lT (within ss t))) := rl_within
  have h1 := tot_within ss t
  have h2 := len_within ss t
  have g := rl_lots (C := C) (mu := mu) (ss := within ss t) (by omega) (by omega) (within_ne ss t)
  have e8 : bNe (lT ((within ss t).filter fun s => !decide ((s.length : Int) = 2))) (D.list []) = some (!((within ss t).all fun s => decide ((s.length : Int) = 2))) := (bNe_lT0 _).trans (congrArg some (all_filter2 _))
  unfold f__law_is_round
  refine fnRun_rt ?_
  rw [bCons_nx (Γ' := ⟨[some (.st (tT ss)), some (.st (tI t)), some (.st (lT (within ss t))), none], mu⟩) (by simp only [List.length_map, fnRun, fnRes, bCons, bNil, bPub, sNo, sSet, sRet, sIf, sExpr, sOwn, sApp, sExt, sAsg, sParEE, sParEF, sParFF, lstAt, cL, cLc, cSq, cUn, cUnL, cUnB, cV, cK, cB, cT, oB, cNot, cAnd, cOr, cIf, cCmp, cBin, cBinL, cChain, iLe, iLt, cTt, cTup, cLst, cNil, cCons, cCall, retOf, cMake, cLenI, oFld, cOwS, cOw, cScal, cScalB, pubSls, pubS, scalB, cSl, cSlL, cO0, cO1, En.start, List.map_cons, List.map_nil, List.length_cons, List.length_nil, List.replicate, List.cons_append, List.nil_append, List.getElem?_cons_zero, List.getElem?_cons_succ, Option.bind_some, Option.map_some, Option.bind_none, Option.map_none, oSeq_l, oSeq_t, oSeq_tI, oSeq_lI, oSeq_tT, oSeq_lT, oTuple, oInt, oLen_l, oLen_t, oLen_tI, oLen_lI, oLen_tT, oLen_lT, oNeg, oAdd, oAddL, oSub, oMod, oEnum, List.set_cons_zero, List.set_cons_succ, lcRun_A, lcBody, tN, tTp, tT1, tT0, wipeL, cond_pair, lcRunA_pure, fm_some, fm_if, if_true, cond_true, cond_false, Nat.reduceAdd, Nat.reduceLeDiff, Nat.zero_add, ite_true, ite_false, Bool.and_true, Bool.true_and, reduceIte, Nat.zero_le, Option.join_some, bLt_i, bGt_i, bLe_i, bGe_i, oIs, noOb, bNon, bNotNon, bIsB, bNotB, bIn_i, bIn_iL, bNin_i, bNin_iL, bIn_t, bIn_tL, bNin_t, bNin_tL, bEq_i, bNe_i, bEq_t, bNe_t, bEq_l, bNe_l, bEq_tT, bNe_tT, bEq_lT, bNe_lT, bNe_t0, bEq_t0, bNe_l0, bNe_lT0, bEq_tT0, oAll_map, oAny_map, e])]
  unfold goesR
  simp only [List.length_map, fnRun, fnRes, bCons, bNil, bPub, sNo, sSet, sRet, sIf, sExpr, sOwn, sApp, sExt, sAsg, sParEE, sParEF, sParFF, lstAt, cL, cLc, cSq, cUn, cUnL, cUnB, cV, cK, cB, cT, oB, cNot, cAnd, cOr, cIf, cCmp, cBin, cBinL, cChain, iLe, iLt, cTt, cTup, cLst, cNil, cCons, cCall, retOf, cMake, cLenI, oFld, cOwS, cOw, cScal, cScalB, pubSls, pubS, scalB, cSl, cSlL, cO0, cO1, En.start, List.map_cons, List.map_nil, List.length_cons, List.length_nil, List.replicate, List.cons_append, List.nil_append, List.getElem?_cons_zero, List.getElem?_cons_succ, Option.bind_some, Option.map_some, Option.bind_none, Option.map_none, oSeq_l, oSeq_t, oSeq_tI, oSeq_lI, oSeq_tT, oSeq_lT, oTuple, oInt, oLen_l, oLen_t, oLen_tI, oLen_lI, oLen_tT, oLen_lT, oNeg, oAdd, oAddL, oSub, oMod, oEnum, List.set_cons_zero, List.set_cons_succ, lcRun_A, lcBody, tN, tTp, tT1, tT0, wipeL, cond_pair, lcRunA_pure, fm_some, fm_if, if_true, cond_true, cond_false, Nat.reduceAdd, Nat.reduceLeDiff, Nat.zero_add, ite_true, ite_false, Bool.and_true, Bool.true_and, reduceIte, Nat.zero_le, Option.join_some, bLt_i, bGt_i, bLe_i, bGe_i, oIs, noOb, bNon, bNotNon, bIsB, bNotB, bIn_i, bIn_iL, bNin_i, bNin_iL, bIn_t, bIn_tL, bNin_t, bNin_tL, bEq_i, bNe_i, bEq_t, bNe_t, bEq_l, bNe_l, bEq_tT, bNe_tT, bEq_lT, bNe_lT, bNe_t0, bEq_t0, bNe_l0, bNe_lT0, bEq_tT0, oAll_map, oAny_map]
  by_cases c1 : (t.length : Int) < 2
  · rw [decide_eq_true c1]
    by_cases c2 : (t.length : Int) = 1
    · simp only [List.length_map, fnRun, fnRes, bCons, bNil, bPub, sNo, sSet, sRet, sIf, sExpr, sOwn, sApp, sExt, sAsg, sParEE, sParEF, sParFF, lstAt, cL, cLc, cSq, cUn, cUnL, cUnB, cV, cK, cB, cT, oB, cNot, cAnd, cOr, cIf, cCmp, cBin, cBinL, cChain, iLe, iLt, cTt, cTup, cLst, cNil, cCons, cCall, retOf, cMake, cLenI, oFld, cOwS, cOw, cScal, cScalB, pubSls, pubS, scalB, cSl, cSlL, cO0, cO1, En.start, List.map_cons, List.map_nil, List.length_cons, List.length_nil, List.replicate, List.cons_append, List.nil_append, List.getElem?_cons_zero, List.getElem?_cons_succ, Option.bind_some, Option.map_some, Option.bind_none, Option.map_none, oSeq_l, oSeq_t, oSeq_tI, oSeq_lI, oSeq_tT, oSeq_lT, oTuple, oInt, oLen_l, oLen_t, oLen_tI, oLen_lI, oLen_tT, oLen_lT, oNeg, oAdd, oAddL, oSub, oMod, oEnum, List.set_cons_zero, List.set_cons_succ, lcRun_A, lcBody, tN, tTp, tT1, tT0, wipeL, cond_pair, lcRunA_pure, fm_some, fm_if, if_true, cond_true, cond_false, Nat.reduceAdd, Nat.reduceLeDiff, Nat.zero_add, ite_true, ite_false, Bool.and_true, Bool.true_and, reduceIte, Nat.zero_le, Option.join_some, bLt_i, bGt_i, bLe_i, bGe_i, oIs, noOb, bNon, bNotNon, bIsB, bNotB, c2, decide_true]
    · have c3 : (t.length : Int) = 0 := by omega
      simp only [List.length_map, fnRun, fnRes, bCons, bNil, bPub, sNo, sSet, sRet, sIf, sExpr, sOwn, sApp, sExt, sAsg, sParEE, sParEF, sParFF, lstAt, cL, cLc, cSq, cUn, cUnL, cUnB, cV, cK, cB, cT, oB, cNot, cAnd, cOr, cIf, cCmp, cBin, cBinL, cChain, iLe, iLt, cTt, cTup, cLst, cNil, cCons, cCall, retOf, cMake, cLenI, oFld, cOwS, cOw, cScal, cScalB, pubSls, pubS, scalB, cSl, cSlL, cO0, cO1, En.start, List.map_cons, List.map_nil, List.length_cons, List.length_nil, List.replicate, List.cons_append, List.nil_append, List.getElem?_cons_zero, List.getElem?_cons_succ, Option.bind_some, Option.map_some, Option.bind_none, Option.map_none, oSeq_l, oSeq_t, oSeq_tI, oSeq_lI, oSeq_tT, oSeq_lT, oTuple, oInt, oLen_l, oLen_t, oLen_tI, oLen_lI, oLen_tT, oLen_lT, oNeg, oAdd, oAddL, oSub, oMod, oEnum, List.set_cons_zero, List.set_cons_succ, lcRun_A, lcBody, tN, tTp, tT1, tT0, wipeL, cond_pair, lcRunA_pure, fm_some, fm_if, if_true, cond_true, cond_false, Nat.reduceAdd, Nat.reduceLeDiff, Nat.zero_add, ite_true, ite_false, Bool.and_true, Bool.true_and, reduceIte, Nat.zero_le, Option.join_some, bLt_i, bGt_i, bLe_i, bGe_i, oIs, noOb, bNon, bNotNon, bIsB, bNotB, c2, decide_false, c3, decide_true, Bool.true_or]
  · rw [decide_eq_false c1, decide_eq_false (show ¬ (t.length : Int) = 1 by omega), decide_eq_false (show ¬ (t.length : Int) = 0 by omega)]
    simp only [List.length_map, fnRun, fnRes, bCons, bNil, bPub, sNo, sSet, sRet, sIf, sExpr, sOwn, sApp, sExt, sAsg, sParEE, sParEF, sParFF, lstAt, cL, cLc, cSq, cUn, cUnL, cUnB, cV, cK, cB, cT, oB, cNot, cAnd, cOr, cIf, cCmp, cBin, cBinL, cChain, iLe, iLt, cTt, cTup, cLst, cNil, cCons, cCall, retOf, cMake, cLenI, oFld, cOwS, cOw, cScal, cScalB, pubSls, pubS, scalB, cSl, cSlL, cO0, cO1, En.start, List.map_cons, List.map_nil, List.length_cons, List.length_nil, List.replicate, List.cons_append, List.nil_append, List.getElem?_cons_zero, List.getElem?_cons_succ, Option.bind_some, Option.map_some, Option.bind_none, Option.map_none, oSeq_l, oSeq_t, oSeq_tI, oSeq_lI, oSeq_tT, oSeq_lT, oTuple, oInt, oLen_l, oLen_t, oLen_tI, oLen_lI, oLen_tT, oLen_lT, oNeg, oAdd, oAddL, oSub, oMod, oEnum, List.set_cons_zero, List.set_cons_succ, lcRun_A, lcBody, tN, tTp, tT1, tT0, wipeL, cond_pair, lcRunA_pure, fm_some, fm_if, if_true, cond_true, cond_false, Nat.reduceAdd, Nat.reduceLeDiff, Nat.zero_add, ite_true, ite_false, Bool.and_true, Bool.true_and, reduceIte, Nat.zero_le, Option.join_some, bLt_i, bGt_i, bLe_i, bGe_i, oIs, noOb, bNon, bNotNon, bIsB, bNotB, bIn_i, bIn_iL, bNin_i, bNin_iL, bIn_t, bIn_tL, bNin_t, bNin_tL, bEq_i, bNe_i, bEq_t, bNe_t, bEq_l, bNe_l, bEq_tT, bNe_tT, bEq_lT, bNe_lT, bNe_t0, bEq_t0, bNe_l0, bNe_lT0, bEq_tT0, oAll_map, oAny_map, Bool.false_or]
    cases decide (((within ss t).length : Int) = t.length)
    · rfl
    · simp only [List.length_map, fnRun, fnRes, bCons, bNil, bPub, sNo, sSet, sRet, sIf, sExpr, sOwn, sApp, sExt, sAsg, sParEE, sParEF, sParFF, lstAt, cL, cLc, cSq, cUn, cUnL, cUnB, cV, cK, cB, cT, oB, cNot, cAnd, cOr, cIf, cCmp, cBin, cBinL, cChain, iLe, iLt, cTt, cTup, cLst, cNil, cCons, cCall, retOf, cMake, cLenI, oFld, cOwS, cOw, cScal, cScalB, pubSls, pubS, scalB, cSl, cSlL, cO0, cO1, En.start, List.map_cons, List.map_nil, List.length_cons, List.length_nil, List.replicate, List.cons_append, List.nil_append, List.getElem?_cons_zero, List.getElem?_cons_succ, Option.bind_some, Option.map_some, Option.bind_none, Option.map_none, oSeq_l, oSeq_t, oSeq_tI, oSeq_lI, oSeq_tT, oSeq_lT, oTuple, oInt, oLen_l, oLen_t, oLen_tI, oLen_lI, oLen_tT, oLen_lT, oNeg, oAdd, oAddL, oSub, oMod, oEnum, List.set_cons_zero, List.set_cons_succ, lcRun_A, lcBody, tN, tTp, tT1, tT0, wipeL, cond_pair, lcRunA_pure, fm_some, fm_if, if_true, cond_true, cond_false, Nat.reduceAdd, Nat.reduceLeDiff, Nat.zero_add, ite_true, ite_false, Bool.and_true, Bool.true_and, reduceIte, Nat.zero_le, Option.join_some, bLt_i, bGt_i, bLe_i, bGe_i, oIs, noOb, bNon, bNotNon, bIsB, bNotB, bIn_i, bIn_iL, bNin_i, bNin_iL, bIn_t, bIn_tL, bNin_t, bNin_tL, bEq_i, bNe_i, bEq_t, bNe_t, bEq_l, bNe_l, bEq_tT, bNe_tT, bEq_lT, bNe_lT, bNe_t0, bEq_t0, bNe_l0, bNe_lT0, bEq_tT0, oAll_map, oAny_map, Bool.not_true, Bool.false_or, e8]
      rw [all_filter2]
      cases ((within ss t).all fun s => decide ((s.length : Int) = 2))
      · rfl
      · simp only [List.length_map, fnRun, fnRes, bCons, bNil, bPub, sNo, sSet, sRet, sIf, sExpr, sOwn, sApp, sExt, sAsg, sParEE, sParEF, sParFF, lstAt, cL, cLc, cSq, cUn, cUnL, cUnB, cV, cK, cB, cT, oB, cNot, cAnd, cOr, cIf, cCmp, cBin, cBinL, cChain, iLe, iLt, cTt, cTup, cLst, cNil, cCons, cCall, retOf, cMake, cLenI, oFld, cOwS, cOw, cScal, cScalB, pubSls, pubS, scalB, cSl, cSlL, cO0, cO1, En.start, List.map_cons, List.map_nil, List.length_cons, List.length_nil, List.replicate, List.cons_append, List.nil_append, List.getElem?_cons_zero, List.getElem?_cons_succ, Option.bind_some, Option.map_some, Option.bind_none, Option.map_none, oSeq_l, oSeq_t, oSeq_tI, oSeq_lI, oSeq_tT, oSeq_lT, oTuple, oInt, oLen_l, oLen_t, oLen_tI, oLen_lI, oLen_tT, oLen_lT, oNeg, oAdd, oAddL, oSub, oMod, oEnum, List.set_cons_zero, List.set_cons_succ, lcRun_A, lcBody, tN, tTp, tT1, tT0, wipeL, cond_pair, lcRunA_pure, fm_some, fm_if, if_true, cond_true, cond_false, Nat.reduceAdd, Nat.reduceLeDiff, Nat.zero_add, ite_true, ite_false, Bool.and_true, Bool.true_and, reduceIte, Nat.zero_le, Option.join_some, bLt_i, bGt_i, bLe_i, bGe_i, oIs, noOb, bNon, bNotNon, bIsB, bNotB, bIn_i, bIn_iL, bNin_i, bNin_iL, bIn_t, bIn_tL, bNin_t, bNin_tL, bEq_i, bNe_i, bEq_t, bNe_t, bEq_l, bNe_l, bEq_tT, bNe_tT, bEq_lT, bNe_lT, bNe_t0, bEq_t0, bNe_l0, bNe_lT0, bEq_tT0, oAll_map, oAny_map, Bool.not_true, g, srt_len]
theorem oMax_t {s : List Int} (h : s ≠ []) : oMax (tI s) = some (.int (maxI s)) := by
  unfold oMax
  rw [oSeq_tI, Option.bind_some, Y.ints_map, Option.bind_some, if_pos h]
theorem rl_many {ss : List (List Int)} {n : Nat} (ok : OkW ss n) : f__law_many C mu [tT ss] = some (mu, .ret (.int n)) := by
  have hm : maxI (-1 :: ss.map maxI) = (n : Int) - 1 := by
    refine (maxI_eq ?_ ?_).symm
    · by_cases hn : 0 < n
      · obtain ⟨s, h1, h2⟩ := List.mem_flatten.mp ((ok.all ((n : Int) - 1)).mpr (by omega))
        refine List.mem_cons_of_mem _ (List.mem_map.mpr ⟨s, h1, ?_⟩)
        refine (maxI_eq h2 fun y hy => ?_).symm
        have := (ok.all y).mp (List.mem_flatten.mpr ⟨s, h1, hy⟩)
        omega
      · rw [show ((n : Int) - 1) = -1 by omega]
        exact List.mem_cons_self
    · intro y hy
      rcases List.mem_cons.mp hy with rfl | hy
      · omega
      · obtain ⟨s, h1, rfl⟩ := List.mem_map.mp hy
        have := (ok.all _).mp (List.mem_flatten.mpr ⟨s, h1, maxI_mem (ok.ne s h1)⟩)
        omega
  have e1 : oMax (.list (.int (-1) :: ss.map fun s => .int (maxI s))) = some (.int ((n : Int) - 1)) := by
    have : (D.int (-1) :: ss.map fun s => D.int (maxI s)) = (-1 :: ss.map maxI).map D.int := by rw [List.map_cons, List.map_map]; rfl
    rw [this]
    unfold oMax
    rw [oSeq_l, Option.bind_some, Y.ints_map, Option.bind_some, if_pos (by simp), hm]
  have hl := ok.len
  unfold f__law_many
  refine fnRun_rt ?_
  simp only [List.length_map, fnRun, fnRes, bCons, bNil, bPub, sNo, sSet, sRet, sIf, sExpr, sOwn, sApp, sExt, sAsg, sParEE, sParEF, sParFF, lstAt, cL, cLc, cSq, cUn, cUnL, cUnB, cV, cK, cB, cT, oB, cNot, cAnd, cOr, cIf, cCmp, cBin, cBinL, cChain, iLe, iLt, cTt, cTup, cLst, cNil, cCons, cCall, retOf, cMake, cLenI, oFld, cOwS, cOw, cScal, cScalB, pubSls, pubS, scalB, cSl, cSlL, cO0, cO1, En.start, List.map_cons, List.map_nil, List.length_cons, List.length_nil, List.replicate, List.cons_append, List.nil_append, List.getElem?_cons_zero, List.getElem?_cons_succ, Option.bind_some, Option.map_some, Option.bind_none, Option.map_none, oSeq_l, oSeq_t, oSeq_tI, oSeq_lI, oSeq_tT, oSeq_lT, oTuple, oInt, oLen_l, oLen_t, oLen_tI, oLen_lI, oLen_tT, oLen_lT, oNeg, oAdd, oAddL, oSub, oMod, oEnum, List.set_cons_zero, List.set_cons_succ, lcRun_A, lcBody, tN, tTp, tT1, tT0, wipeL, cond_pair, lcRunA_pure, fm_some, fm_if, if_true, cond_true, cond_false, Nat.reduceAdd, Nat.reduceLeDiff, Nat.zero_add, ite_true, ite_false, Bool.and_true, Bool.true_and, reduceIte, Nat.zero_le, Option.join_some, bLt_i, bGt_i, bLe_i, bGe_i, oIs, noOb, bNon, bNotNon, bIsB, bNotB]
  rw [lcRunA_mem (g := fun s => some (.int (maxI s))) (fun s hs => by rw [oMax_t (ok.ne s hs)]; rfl)]
  simp only [List.length_map, fnRun, fnRes, bCons, bNil, bPub, sNo, sSet, sRet, sIf, sExpr, sOwn, sApp, sExt, sAsg, sParEE, sParEF, sParFF, lstAt, cL, cLc, cSq, cUn, cUnL, cUnB, cV, cK, cB, cT, oB, cNot, cAnd, cOr, cIf, cCmp, cBin, cBinL, cChain, iLe, iLt, cTt, cTup, cLst, cNil, cCons, cCall, retOf, cMake, cLenI, oFld, cOwS, cOw, cScal, cScalB, pubSls, pubS, scalB, cSl, cSlL, cO0, cO1, En.start, List.map_cons, List.map_nil, List.length_cons, List.length_nil, List.replicate, List.cons_append, List.nil_append, List.getElem?_cons_zero, List.getElem?_cons_succ, Option.bind_some, Option.map_some, Option.bind_none, Option.map_none, oSeq_l, oSeq_t, oSeq_tI, oSeq_lI, oSeq_tT, oSeq_lT, oTuple, oInt, oLen_l, oLen_t, oLen_tI, oLen_lI, oLen_tT, oLen_lT, oNeg, oAdd, oAddL, oSub, oMod, oEnum, List.set_cons_zero, List.set_cons_succ, lcRun_A, lcBody, tN, tTp, tT1, tT0, wipeL, cond_pair, lcRunA_pure, fm_some, fm_if, if_true, cond_true, cond_false, Nat.reduceAdd, Nat.reduceLeDiff, Nat.zero_add, ite_true, ite_false, Bool.and_true, Bool.true_and, reduceIte, Nat.zero_le, Option.join_some, bLt_i, bGt_i, bLe_i, bGe_i, oIs, noOb, bNon, bNotNon, bIsB, bNotB]
  rw [if_pos (by omega)]
  simp only [List.length_map, fnRun, fnRes, bCons, bNil, bPub, sNo, sSet, sRet, sIf, sExpr, sOwn, sApp, sExt, sAsg, sParEE, sParEF, sParFF, lstAt, cL, cLc, cSq, cUn, cUnL, cUnB, cV, cK, cB, cT, oB, cNot, cAnd, cOr, cIf, cCmp, cBin, cBinL, cChain, iLe, iLt, cTt, cTup, cLst, cNil, cCons, cCall, retOf, cMake, cLenI, oFld, cOwS, cOw, cScal, cScalB, pubSls, pubS, scalB, cSl, cSlL, cO0, cO1, En.start, List.map_cons, List.map_nil, List.length_cons, List.length_nil, List.replicate, List.cons_append, List.nil_append, List.getElem?_cons_zero, List.getElem?_cons_succ, Option.bind_some, Option.map_some, Option.bind_none, Option.map_none, oSeq_l, oSeq_t, oSeq_tI, oSeq_lI, oSeq_tT, oSeq_lT, oTuple, oInt, oLen_l, oLen_t, oLen_tI, oLen_lI, oLen_tT, oLen_lT, oNeg, oAdd, oAddL, oSub, oMod, oEnum, List.set_cons_zero, List.set_cons_succ, lcRun_A, lcBody, tN, tTp, tT1, tT0, wipeL, cond_pair, lcRunA_pure, fm_some, fm_if, if_true, cond_true, cond_false, Nat.reduceAdd, Nat.reduceLeDiff, Nat.zero_add, ite_true, ite_false, Bool.and_true, Bool.true_and, reduceIte, Nat.zero_le, Option.join_some, bLt_i, bGt_i, bLe_i, bGe_i, oIs, noOb, bNon, bNotNon, bIsB, bNotB, e1]
  rw [show (1 : Int) + ((n : Int) - 1) = n by omega]
theorem ls_ext {q : D} {fs : List (List Int)} {t : Int} {a3 a4 : Option Sl} (h : 2 * fs.length < 100000) (hx : ∀ s ∈ fs, s.length < 1000) :
    (sSet 1 (cBin oAdd (cV 1) (cL (cLc (cSq (cV 1)) [3] (tN 3) (cTt) (cBin oAdd (cV 3) (cTup (cCons (cV 2) (cNil)))))))) ⟨[some (.st q), some (.st (lT fs)), some (.st (.int t)), none, none], mu⟩
      = some (.nx ⟨[some (.st q), some (.st (lT (fs ++ fs.map (· ++ [t])))), some (.st (.int t)), none, none], mu⟩) := by
  simp only [List.length_map, fnRun, fnRes, bCons, bNil, bPub, sNo, sSet, sRet, sIf, sExpr, sOwn, sApp, sExt, sAsg, sParEE, sParEF, sParFF, lstAt, cL, cLc, cSq, cUn, cUnL, cUnB, cV, cK, cB, cT, oB, cNot, cAnd, cOr, cIf, cCmp, cBin, cBinL, cChain, iLe, iLt, cTt, cTup, cLst, cNil, cCons, cCall, retOf, cMake, cLenI, oFld, cOwS, cOw, cScal, cScalB, pubSls, pubS, scalB, cSl, cSlL, cO0, cO1, En.start, List.map_cons, List.map_nil, List.length_cons, List.length_nil, List.replicate, List.cons_append, List.nil_append, List.getElem?_cons_zero, List.getElem?_cons_succ, Option.bind_some, Option.map_some, Option.bind_none, Option.map_none, oSeq_l, oSeq_t, oSeq_tI, oSeq_lI, oSeq_tT, oSeq_lT, oTuple, oInt, oLen_l, oLen_t, oLen_tI, oLen_lI, oLen_tT, oLen_lT, oNeg, oAdd, oAddL, oSub, oMod, oEnum, List.set_cons_zero, List.set_cons_succ, lcRun_A, lcBody, tN, tTp, tT1, tT0, wipeL, cond_pair, lcRunA_pure, fm_some, fm_if, if_true, cond_true, cond_false, Nat.reduceAdd, Nat.reduceLeDiff, Nat.zero_add, ite_true, ite_false, Bool.and_true, Bool.true_and, reduceIte, Nat.zero_le, Option.join_some, bLt_i, bGt_i, bLe_i, bGe_i, oIs, noOb, bNon, bNotNon, bIsB, bNotB]
  rw [lcRunA_mem (g := fun x => some (tI (x ++ [t]))) (fun x hm => by
    have := hx x hm
    rw [if_pos (by omega)]
    rw [tI, List.map_append]
    rfl)]
  simp only [List.length_map, fnRun, fnRes, bCons, bNil, bPub, sNo, sSet, sRet, sIf, sExpr, sOwn, sApp, sExt, sAsg, sParEE, sParEF, sParFF, lstAt, cL, cLc, cSq, cUn, cUnL, cUnB, cV, cK, cB, cT, oB, cNot, cAnd, cOr, cIf, cCmp, cBin, cBinL, cChain, iLe, iLt, cTt, cTup, cLst, cNil, cCons, cCall, retOf, cMake, cLenI, oFld, cOwS, cOw, cScal, cScalB, pubSls, pubS, scalB, cSl, cSlL, cO0, cO1, En.start, List.map_cons, List.map_nil, List.length_cons, List.length_nil, List.replicate, List.cons_append, List.nil_append, List.getElem?_cons_zero, List.getElem?_cons_succ, Option.bind_some, Option.map_some, Option.bind_none, Option.map_none, oSeq_l, oSeq_t, oSeq_tI, oSeq_lI, oSeq_tT, oSeq_lT, oTuple, oInt, oLen_l, oLen_t, oLen_tI, oLen_lI, oLen_tT, oLen_lT, oNeg, oAdd, oAddL, oSub, oMod, oEnum, List.set_cons_zero, List.set_cons_succ, lcRun_A, lcBody, tN, tTp, tT1, tT0, wipeL, cond_pair, lcRunA_pure, fm_some, fm_if, if_true, cond_true, cond_false, Nat.reduceAdd, Nat.reduceLeDiff, Nat.zero_add, ite_true, ite_false, Bool.and_true, Bool.true_and, reduceIte, Nat.zero_le, Option.join_some, bLt_i, bGt_i, bLe_i, bGe_i, oIs, noOb, bNon, bNotNon, bIsB, bNotB]
  rw [if_pos (by omega)]
  simp only [List.length_map, fnRun, fnRes, bCons, bNil, bPub, sNo, sSet, sRet, sIf, sExpr, sOwn, sApp, sExt, sAsg, sParEE, sParEF, sParFF, lstAt, cL, cLc, cSq, cUn, cUnL, cUnB, cV, cK, cB, cT, oB, cNot, cAnd, cOr, cIf, cCmp, cBin, cBinL, cChain, iLe, iLt, cTt, cTup, cLst, cNil, cCons, cCall, retOf, cMake, cLenI, oFld, cOwS, cOw, cScal, cScalB, pubSls, pubS, scalB, cSl, cSlL, cO0, cO1, En.start, List.map_cons, List.map_nil, List.length_cons, List.length_nil, List.replicate, List.cons_append, List.nil_append, List.getElem?_cons_zero, List.getElem?_cons_succ, Option.bind_some, Option.map_some, Option.bind_none, Option.map_none, oSeq_l, oSeq_t, oSeq_tI, oSeq_lI, oSeq_tT, oSeq_lT, oTuple, oInt, oLen_l, oLen_t, oLen_tI, oLen_lI, oLen_tT, oLen_lT, oNeg, oAdd, oAddL, oSub, oMod, oEnum, List.set_cons_zero, List.set_cons_succ, lcRun_A, lcBody, tN, tTp, tT1, tT0, wipeL, cond_pair, lcRunA_pure, fm_some, fm_if, if_true, cond_true, cond_false, Nat.reduceAdd, Nat.reduceLeDiff, Nat.zero_add, ite_true, ite_false, Bool.and_true, Bool.true_and, reduceIte, Nat.zero_le, Option.join_some, bLt_i, bGt_i, bLe_i, bGe_i, oIs, noOb, bNon, bNotNon, bIsB, bNotB]
  rw [lT, List.map_append, List.map_map]
  rfl
theorem oRng_n {n : Nat} (h : n ≤ 100) : oRng (.int n) = some ((rng n).map D.int) := by
  rw [← rng_D]
  show (if _ then _ else _) = _
  rw [if_pos (by omega)]
theorem rl_sets {n : Nat} (h : n ≤ 12) : f__law_sets C mu [.int n] = some (mu, .ret (lT (setsOf (rng n)))) := by
  unfold f__law_sets
  refine fnRun_rt ?_
  rw [bCons_nx (Γ' := ⟨[some (.st (.int n)), some (.st (lT [[]])), none, none, none], mu⟩) (by rfl)]
  have hr := rng_len n
  refine bFor D.int (rng n) mu (fun rest Γ => ∃ fs a, Γ = ⟨[some (.st (.int n)), some (.st (lT fs)), a, none, none], mu⟩ ∧ rest.foldl (fun acc t => acc ++ acc.map (· ++ [t])) fs = subs (rng n) ∧ fs.length * 2 ^ rest.length < 9000 ∧ ∀ s ∈ fs, s.length + rest.length ≤ 12) ?_ ?_ ?_ ?_
  · simp only [List.length_map, fnRun, fnRes, bCons, bNil, bPub, sNo, sSet, sRet, sIf, sExpr, sOwn, sApp, sExt, sAsg, sParEE, sParEF, sParFF, lstAt, cL, cLc, cSq, cUn, cUnL, cUnB, cV, cK, cB, cT, oB, cNot, cAnd, cOr, cIf, cCmp, cBin, cBinL, cChain, iLe, iLt, cTt, cTup, cLst, cNil, cCons, cCall, retOf, cMake, cLenI, oFld, cOwS, cOw, cScal, cScalB, pubSls, pubS, scalB, cSl, cSlL, cO0, cO1, En.start, List.map_cons, List.map_nil, List.length_cons, List.length_nil, List.replicate, List.cons_append, List.nil_append, List.getElem?_cons_zero, List.getElem?_cons_succ, Option.bind_some, Option.map_some, Option.bind_none, Option.map_none, oSeq_l, oSeq_t, oSeq_tI, oSeq_lI, oSeq_tT, oSeq_lT, oTuple, oInt, oLen_l, oLen_t, oLen_tI, oLen_lI, oLen_tT, oLen_lT, oNeg, oAdd, oAddL, oSub, oMod, oEnum, List.set_cons_zero, List.set_cons_succ, lcRun_A, lcBody, tN, tTp, tT1, tT0, wipeL, cond_pair, lcRunA_pure, fm_some, fm_if, if_true, cond_true, cond_false, Nat.reduceAdd, Nat.reduceLeDiff, Nat.zero_add, ite_true, ite_false, Bool.and_true, Bool.true_and, reduceIte, Nat.zero_le, Option.join_some, bLt_i, bGt_i, bLe_i, bGe_i, oIs, noOb, bNon, bNotNon, bIsB, bNotB, oRng_n (n := n) (by omega)]
  · exact ⟨[[]], none, rfl, rfl, by
      have := Nat.pow_le_pow_right (n := 2) (by decide) h
      show 1 * 2 ^ (rng n).length < 9000
      rw [hr]
      omega, fun s hs => by cases List.mem_singleton.mp hs; simpa [hr] using h⟩
  · rintro x xs Γ ⟨fs, a, rfl, h1, h2, h3⟩
    have hp := Nat.pow_pos (n := xs.length) (show 0 < 2 by decide)
    have h2' : fs.length * 2 * 2 ^ xs.length < 9000 := by rw [List.length_cons, Nat.pow_succ, Nat.mul_comm (2 ^ xs.length), ← Nat.mul_assoc] at h2; exact h2
    refine ⟨_, _, rfl, .inl (ls_ext (a3 := none) (a4 := none) ?_ fun s hs => ?_), _, _, rfl, h1, ?_, fun s hs => ?_⟩
    · have := Nat.le_mul_of_pos_right (fs.length * 2) hp
      omega
    · have := h3 s hs
      omega
    · rw [List.length_append, List.length_map, ← Nat.mul_two]
      exact h2'
    · rcases List.mem_append.mp hs with hs | hs
      · have := h3 s hs
        rw [List.length_cons] at this
        omega
      · obtain ⟨s', hs2, rfl⟩ := List.mem_map.mp hs
        have := h3 s' hs2
        rw [List.length_cons] at this
        rw [List.length_append, List.length_singleton]
        omega
  · rintro Γ ⟨fs, a, rfl, h1, h2, h4⟩
    have h3 : fs = subs (rng n) := h1
    have h4 := oSorted_pr fs
    have e : ∀ s : List Int, D.tuple [.int (s.length : Nat), tI s] = pr s := fun _ => rfl
    simp only [List.length_map, fnRun, fnRes, bCons, bNil, bPub, sNo, sSet, sRet, sIf, sExpr, sOwn, sApp, sExt, sAsg, sParEE, sParEF, sParFF, lstAt, cL, cLc, cSq, cUn, cUnL, cUnB, cV, cK, cB, cT, oB, cNot, cAnd, cOr, cIf, cCmp, cBin, cBinL, cChain, iLe, iLt, cTt, cTup, cLst, cNil, cCons, cCall, retOf, cMake, cLenI, oFld, cOwS, cOw, cScal, cScalB, pubSls, pubS, scalB, cSl, cSlL, cO0, cO1, En.start, List.map_cons, List.map_nil, List.length_cons, List.length_nil, List.replicate, List.cons_append, List.nil_append, List.getElem?_cons_zero, List.getElem?_cons_succ, Option.bind_some, Option.map_some, Option.bind_none, Option.map_none, oSeq_l, oSeq_t, oSeq_tI, oSeq_lI, oSeq_tT, oSeq_lT, oTuple, oInt, oLen_l, oLen_t, oLen_tI, oLen_lI, oLen_tT, oLen_lT, oNeg, oAdd, oAddL, oSub, oMod, oEnum, List.set_cons_zero, List.set_cons_succ, lcRun_A, lcBody, tN, tTp, tT1, tT0, wipeL, cond_pair, lcRunA_pure, fm_some, fm_if, if_true, cond_true, cond_false, Nat.reduceAdd, Nat.reduceLeDiff, Nat.zero_add, ite_true, ite_false, Bool.and_true, Bool.true_and, reduceIte, Nat.zero_le, Option.join_some, bLt_i, bGt_i, bLe_i, bGe_i, oIs, noOb, bNon, bNotNon, bIsB, bNotB, e]
    have e2 : (fs.map fun x => pr x) = fs.map pr := rfl
    have e3 : ∀ s, oIx (pr s) (.int 1) = some (tI s) := fun s => rfl
    rw [e2, h4]
    simp only [List.length_map, fnRun, fnRes, bCons, bNil, bPub, sNo, sSet, sRet, sIf, sExpr, sOwn, sApp, sExt, sAsg, sParEE, sParEF, sParFF, lstAt, cL, cLc, cSq, cUn, cUnL, cUnB, cV, cK, cB, cT, oB, cNot, cAnd, cOr, cIf, cCmp, cBin, cBinL, cChain, iLe, iLt, cTt, cTup, cLst, cNil, cCons, cCall, retOf, cMake, cLenI, oFld, cOwS, cOw, cScal, cScalB, pubSls, pubS, scalB, cSl, cSlL, cO0, cO1, En.start, List.map_cons, List.map_nil, List.length_cons, List.length_nil, List.replicate, List.cons_append, List.nil_append, List.getElem?_cons_zero, List.getElem?_cons_succ, Option.bind_some, Option.map_some, Option.bind_none, Option.map_none, oSeq_l, oSeq_t, oSeq_tI, oSeq_lI, oSeq_tT, oSeq_lT, oTuple, oInt, oLen_l, oLen_t, oLen_tI, oLen_lI, oLen_tT, oLen_lT, oNeg, oAdd, oAddL, oSub, oMod, oEnum, List.set_cons_zero, List.set_cons_succ, lcRun_A, lcBody, tN, tTp, tT1, tT0, wipeL, cond_pair, lcRunA_pure, fm_some, fm_if, if_true, cond_true, cond_false, Nat.reduceAdd, Nat.reduceLeDiff, Nat.zero_add, ite_true, ite_false, Bool.and_true, Bool.true_and, reduceIte, Nat.zero_le, Option.join_some, bLt_i, bGt_i, bLe_i, bGe_i, oIs, noOb, bNon, bNotNon, bIsB, bNotB, e3]
    rw [h3]
    rfl
theorem rl_rounds {ss : List (List Int)} {n : Nat} (ok : OkW ss n) : f__law_rounds C mu [tT ss] = some (mu, .ret (lT (rounds ss n))) := by
  have ht := ok.tot
  have hl := ok.len
  have e0 := rl_many (C := C) (mu := mu) ok
  have e1 := rl_sets (C := C) (mu := mu) ok.le
  have e3 : ∀ (t : List Int) (mu : Mu), f__law_is_round C mu [tT ss, tI t] = some (mu, .ret (.bool (goesR ss t))) := fun t mu => rl_isround (by omega) (by omega)
  unfold f__law_rounds
  refine fnRun_rt ?_
  simp only [List.length_map, fnRun, fnRes, bCons, bNil, bPub, sNo, sSet, sRet, sIf, sExpr, sOwn, sApp, sExt, sAsg, sParEE, sParEF, sParFF, lstAt, cL, cLc, cSq, cUn, cUnL, cUnB, cV, cK, cB, cT, oB, cNot, cAnd, cOr, cIf, cCmp, cBin, cBinL, cChain, iLe, iLt, cTt, cTup, cLst, cNil, cCons, cCall, retOf, cMake, cLenI, oFld, cOwS, cOw, cScal, cScalB, pubSls, pubS, scalB, cSl, cSlL, cO0, cO1, En.start, List.map_cons, List.map_nil, List.length_cons, List.length_nil, List.replicate, List.cons_append, List.nil_append, List.getElem?_cons_zero, List.getElem?_cons_succ, Option.bind_some, Option.map_some, Option.bind_none, Option.map_none, oSeq_l, oSeq_t, oSeq_tI, oSeq_lI, oSeq_tT, oSeq_lT, oTuple, oInt, oLen_l, oLen_t, oLen_tI, oLen_lI, oLen_tT, oLen_lT, oNeg, oAdd, oAddL, oSub, oMod, oEnum, List.set_cons_zero, List.set_cons_succ, lcRun_A, lcBody, tN, tTp, tT1, tT0, wipeL, cond_pair, lcRunA_pure, fm_some, fm_if, if_true, cond_true, cond_false, Nat.reduceAdd, Nat.reduceLeDiff, Nat.zero_add, ite_true, ite_false, Bool.and_true, Bool.true_and, reduceIte, Nat.zero_le, Option.join_some, bLt_i, bGt_i, bLe_i, bGe_i, oIs, noOb, bNon, bNotNon, bIsB, bNotB, e0, e1, e3]
  rfl
end T
set_option Elab.async false
set_option linter.all false
set_option maxRecDepth 100000
set_option maxHeartbeats 800000
namespace T
open PySem PySem.Spec PyProof.Rows L2 Y
variable {C : Addr} {mu : Mu}
def Mo (a : Addr) (B : Nat) (mu : Mu) : Prop := ∃ ms, mu = some (a, ms) ∧ OkM B ms
theorem OkM.le {B B' : Nat} {ms : MS} (h : OkM B ms) (hb : B' ≤ B) : OkM B' ms := ⟨h.len, h.cell, h.glen, h.spot, by have := h.room; omega⟩
theorem Mo.le {a : Addr} {B B' : Nat} {mu : Mu} (h : Mo a B mu) (hb : B' ≤ B) : Mo a B' mu := by
  obtain ⟨ms, h1, h2⟩ := h
  exact ⟨ms, h1, h2.le hb⟩
theorem Mo.draw {a : Addr} {B : Nat} {mu : Mu} (h : Mo a (B + 1) mu) (lim : Int) (h0 : 0 < lim) (h1 : lim < 1073741824) : ∃ v mu', sem_draw mu [.ref a, .int lim] = some (mu', .ret (.int v)) ∧ 0 ≤ v ∧ v < lim ∧ Mo a B mu' := by
  obtain ⟨ms, rfl, ok⟩ := h
  exact ⟨_, _, sem_draw_eq (ok.le (Nat.le_add_left 1 B)) h0 h1, (drawV_bd h0).1, (drawV_bd h0).2, _, rfl, drawS_ok ok⟩
theorem map_erase {α β : Type} (f : α → β) : ∀ (l : List α) (i : Nat), (l.map f).eraseIdx i = (l.eraseIdx i).map f
  | [], i => by simp
  | x :: l, 0 => rfl
  | x :: l, i + 1 => congrArg (f x :: ·) (map_erase f l i)
theorem erase_perm {α : Type} : ∀ {l : List α} {i : Nat} {x : α}, l[i]? = some x → l.Perm (x :: l.eraseIdx i)
  | [], i, x, h => by simp at h
  | y :: l, 0, x, h => by
    simp at h
    subst h
    exact .refl _
  | y :: l, i + 1, x, h => by
    rw [List.getElem?_cons_succ] at h
    exact ((erase_perm h).cons y).trans (.swap _ _ _)
theorem rl_order {a : Addr} {B k : Nat} (hk : k ≤ 1000) (m : Mo a (B + k) mu) : ∃ xs mu', f__law_order C mu [.ref a, .int k] = some (mu', .ret (lI xs)) ∧ xs.Perm (rng k) ∧ Mo a B mu' := by
  have key : ∃ Γ', whRun (cScalB (cCmp bNe (cV 2) (cL (cLst (cNil))))) (sAppPop 3 2 (cCall 2 sem_draw (cCons (cV 0) (cCons (cScal (cUn oLen (cV 2))) (cNil))))) 100001 ⟨[some (.st (.ref a)), some (.st (.int k)), some (.lst ((rng k).map D.int)), some (.lst [])], mu⟩ = some (.nx Γ') ∧ ∃ (rest xs : List Int) (mu' : Mu), Γ' = ⟨[some (.st (.ref a)), some (.st (.int k)), some (.lst (rest.map D.int)), some (.lst (xs.map D.int))], mu'⟩ ∧ rest.length = 0 ∧ (xs ++ rest).Perm (rng k) ∧ Mo a (B + 0) mu' := by
    refine whRunI (fun n Γ => ∃ (rest xs : List Int) (mu' : Mu), Γ = ⟨[some (.st (.ref a)), some (.st (.int k)), some (.lst (rest.map D.int)), some (.lst (xs.map D.int))], mu'⟩ ∧ rest.length = n ∧ (xs ++ rest).Perm (rng k) ∧ Mo a (B + n) mu') ?_ ?_ k _ _ (by omega) ⟨rng k, [], mu, rfl, rng_len k, .refl _, m⟩
    · rintro n Γ ⟨rest, xs, mu', rfl, h1, h2, h3⟩
      have hlen := h2.length_eq
      rw [List.length_append, rng_len] at hlen
      obtain ⟨v, mu2, e, v0, v1, m2⟩ := h3.draw (rest.length : Nat) (by omega) (by omega)
      refine ⟨?_, ?_⟩
      · have : decide (rest = []) = false := decide_eq_false (by rintro rfl; simp at h1)
        simp only [List.length_map, fnRun, fnRes, bCons, bNil, bPub, sNo, sSet, sRet, sIf, sExpr, sOwn, sApp, sExt, sAsg, sParEE, sParEF, sParFF, lstAt, cL, cLc, cSq, cUn, cUnL, cUnB, cV, cK, cB, cT, oB, cNot, cAnd, cOr, cIf, cCmp, cBin, cBinL, cChain, iLe, iLt, cTt, cTup, cLst, cNil, cCons, cCall, retOf, cMake, cLenI, oFld, cOwS, cOw, cScal, cScalB, pubSls, pubS, scalB, cSl, cSlL, cO0, cO1, En.start, List.map_cons, List.map_nil, List.length_cons, List.length_nil, List.replicate, List.cons_append, List.nil_append, List.getElem?_cons_zero, List.getElem?_cons_succ, Option.bind_some, Option.map_some, Option.bind_none, Option.map_none, oSeq_l, oSeq_t, oSeq_tI, oSeq_lI, oSeq_tT, oSeq_lT, oTuple, oInt, oLen_l, oLen_t, oLen_tI, oLen_lI, oLen_tT, oLen_lT, oNeg, oAdd, oAddL, oSub, oMod, oEnum, List.set_cons_zero, List.set_cons_succ, lcRun_A, lcBody, tN, tTp, tT1, tT0, wipeL, cond_pair, lcRunA_pure, fm_some, fm_if, if_true, cond_true, cond_false, Nat.reduceAdd, Nat.reduceLeDiff, Nat.zero_add, ite_true, ite_false, Bool.and_true, Bool.true_and, reduceIte, Nat.zero_le, Option.join_some, bLt_i, bGt_i, bLe_i, bGe_i, oIs, noOb, bNon, bNotNon, bIsB, bNotB, bIn_i, bIn_iL, bNin_i, bNin_iL, bIn_t, bIn_tL, bNin_t, bNin_tL, bEq_i, bNe_i, bEq_t, bNe_t, bEq_l, bNe_l, bEq_tT, bNe_tT, bEq_lT, bNe_lT, bNe_t0, bEq_t0, bNe_l0, bNe_lT0, bEq_tT0, oAll_map, oAny_map, this, Bool.not_false]
      · have hv : v.toNat < rest.length := by omega
        have hx : rest[v.toNat]? = some rest[v.toNat] := List.getElem?_eq_getElem hv
        refine ⟨⟨[some (.st (.ref a)), some (.st (.int k)), some (.lst ((rest.eraseIdx v.toNat).map D.int)), some (.lst ((xs ++ [rest[v.toNat]]).map D.int))], mu2⟩, ?_, _, _, _, rfl, ?_, ?_, m2⟩
        · simp only [sAppPop, popAt, List.length_map, fnRun, fnRes, bCons, bNil, bPub, sNo, sSet, sRet, sIf, sExpr, sOwn, sApp, sExt, sAsg, sParEE, sParEF, sParFF, lstAt, cL, cLc, cSq, cUn, cUnL, cUnB, cV, cK, cB, cT, oB, cNot, cAnd, cOr, cIf, cCmp, cBin, cBinL, cChain, iLe, iLt, cTt, cTup, cLst, cNil, cCons, cCall, retOf, cMake, cLenI, oFld, cOwS, cOw, cScal, cScalB, pubSls, pubS, scalB, cSl, cSlL, cO0, cO1, En.start, List.map_cons, List.map_nil, List.length_cons, List.length_nil, List.replicate, List.cons_append, List.nil_append, List.getElem?_cons_zero, List.getElem?_cons_succ, Option.bind_some, Option.map_some, Option.bind_none, Option.map_none, oSeq_l, oSeq_t, oSeq_tI, oSeq_lI, oSeq_tT, oSeq_lT, oTuple, oInt, oLen_l, oLen_t, oLen_tI, oLen_lI, oLen_tT, oLen_lT, oNeg, oAdd, oAddL, oSub, oMod, oEnum, List.set_cons_zero, List.set_cons_succ, lcRun_A, lcBody, tN, tTp, tT1, tT0, wipeL, cond_pair, lcRunA_pure, fm_some, fm_if, if_true, cond_true, cond_false, Nat.reduceAdd, Nat.reduceLeDiff, Nat.zero_add, ite_true, ite_false, Bool.and_true, Bool.true_and, reduceIte, Nat.zero_le, Option.join_some, bLt_i, bGt_i, bLe_i, bGe_i, oIs, noOb, bNon, bNotNon, bIsB, bNotB, e, if_pos v0, List.getElem?_map, hx, map_erase]
          rw [if_pos (by omega), List.map_append]
          rfl
        · rw [List.length_eraseIdx_of_lt hv]; omega
        · refine List.Perm.trans ?_ h2
          rw [List.append_assoc]
          exact List.Perm.append_left _ (erase_perm hx).symm
    · rintro Γ ⟨rest, xs, mu', rfl, h1, h2, h3⟩
      have : rest = [] := List.eq_nil_of_length_eq_zero h1
      subst this
      simp only [List.length_map, fnRun, fnRes, bCons, bNil, bPub, sNo, sSet, sRet, sIf, sExpr, sOwn, sApp, sExt, sAsg, sParEE, sParEF, sParFF, lstAt, cL, cLc, cSq, cUn, cUnL, cUnB, cV, cK, cB, cT, oB, cNot, cAnd, cOr, cIf, cCmp, cBin, cBinL, cChain, iLe, iLt, cTt, cTup, cLst, cNil, cCons, cCall, retOf, cMake, cLenI, oFld, cOwS, cOw, cScal, cScalB, pubSls, pubS, scalB, cSl, cSlL, cO0, cO1, En.start, List.map_cons, List.map_nil, List.length_cons, List.length_nil, List.replicate, List.cons_append, List.nil_append, List.getElem?_cons_zero, List.getElem?_cons_succ, Option.bind_some, Option.map_some, Option.bind_none, Option.map_none, oSeq_l, oSeq_t, oSeq_tI, oSeq_lI, oSeq_tT, oSeq_lT, oTuple, oInt, oLen_l, oLen_t, oLen_tI, oLen_lI, oLen_tT, oLen_lT, oNeg, oAdd, oAddL, oSub, oMod, oEnum, List.set_cons_zero, List.set_cons_succ, lcRun_A, lcBody, tN, tTp, tT1, tT0, wipeL, cond_pair, lcRunA_pure, fm_some, fm_if, if_true, cond_true, cond_false, Nat.reduceAdd, Nat.reduceLeDiff, Nat.zero_add, ite_true, ite_false, Bool.and_true, Bool.true_and, reduceIte, Nat.zero_le, Option.join_some, bLt_i, bGt_i, bLe_i, bGe_i, oIs, noOb, bNon, bNotNon, bIsB, bNotB, bIn_i, bIn_iL, bNin_i, bNin_iL, bIn_t, bIn_tL, bNin_t, bNin_tL, bEq_i, bNe_i, bEq_t, bNe_t, bEq_l, bNe_l, bEq_tT, bNe_tT, bEq_lT, bNe_lT, bNe_t0, bEq_t0, bNe_l0, bNe_lT0, bEq_tT0, oAll_map, oAny_map]
      rfl
  obtain ⟨Γ', e, rest, xs, mu', rfl, h1, h2, h3⟩ := key
  have : rest = [] := List.eq_nil_of_length_eq_zero h1
  subst this
  refine ⟨xs, mu', ?_, by simpa using h2, h3⟩
  unfold f__law_order
  refine fnRun_rt ?_
  rw [bCons_nx (Γ' := ⟨[some (.st (.ref a)), some (.st (.int k)), some (.lst ((rng k).map D.int)), some (.lst [])], mu⟩), bCons_nx e]
  · rfl
  · have : oRng (.int k) = some ((rng k).map D.int) := by
      rw [← rng_D]
      show (if _ then _ else _) = _
      rw [if_pos (by omega)]
    simp only [List.length_map, fnRun, fnRes, bCons, bNil, bPub, sNo, sSet, sRet, sIf, sExpr, sOwn, sApp, sExt, sAsg, sParEE, sParEF, sParFF, lstAt, cL, cLc, cSq, cUn, cUnL, cUnB, cV, cK, cB, cT, oB, cNot, cAnd, cOr, cIf, cCmp, cBin, cBinL, cChain, iLe, iLt, cTt, cTup, cLst, cNil, cCons, cCall, retOf, cMake, cLenI, oFld, cOwS, cOw, cScal, cScalB, pubSls, pubS, scalB, cSl, cSlL, cO0, cO1, En.start, List.map_cons, List.map_nil, List.length_cons, List.length_nil, List.replicate, List.cons_append, List.nil_append, List.getElem?_cons_zero, List.getElem?_cons_succ, Option.bind_some, Option.map_some, Option.bind_none, Option.map_none, oSeq_l, oSeq_t, oSeq_tI, oSeq_lI, oSeq_tT, oSeq_lT, oTuple, oInt, oLen_l, oLen_t, oLen_tI, oLen_lI, oLen_tT, oLen_lT, oNeg, oAdd, oAddL, oSub, oMod, oEnum, List.set_cons_zero, List.set_cons_succ, lcRun_A, lcBody, tN, tTp, tT1, tT0, wipeL, cond_pair, lcRunA_pure, fm_some, fm_if, if_true, cond_true, cond_false, Nat.reduceAdd, Nat.reduceLeDiff, Nat.zero_add, ite_true, ite_false, Bool.and_true, Bool.true_and, reduceIte, Nat.zero_le, Option.join_some, bLt_i, bGt_i, bLe_i, bGe_i, oIs, noOb, bNon, bNotNon, bIsB, bNotB, this]
theorem sSet_nx {i : Nat} {f : Y.CE} {Γ : En} {d : D} {mu' : Mu} (h : f Γ.sl Γ.mu = some (d, mu')) : sSet i f Γ = some (.nx ⟨Γ.sl.set i (some (.st d)), mu'⟩) := by unfold sSet; rw [h]; rfl
def P2 (s : List Int) : Prop := ∃ x y, s = [x, y] ∧ 0 ≤ x ∧ x ≤ 23 ∧ 0 ≤ y ∧ y ≤ 23
theorem P2.snoc {f : List (List Int)} {x y : Int} (h : ∀ s ∈ f, P2 s) (h1 : 0 ≤ x) (h2 : x ≤ 23) (h3 : 0 ≤ y) (h4 : y ≤ 23) : ∀ s ∈ f ++ [[x, y]], P2 s := fun s hs => by
  rcases List.mem_append.mp hs with hs | hs
  · exact h s hs
  · rw [List.mem_singleton.mp hs]; exact ⟨x, y, rfl, h1, h2, h3, h4⟩
theorem map_snoc (f : List (List Int)) (s : List Int) : (f ++ [s]).map tI = f.map tI ++ [tI s] := List.map_append
theorem oIx_nat (xs : List D) (i : Nat) : oIx (.list xs) (.int (i : Nat)) = xs[i]? := Y.atI_nat xs i
theorem rl_ends {a : Addr} {B most : Nat} (hk : most ≤ 10) (m : Mo a (B + 100) mu) : ∃ es mu', f__law_ends C mu [.ref a, .int most] = some (mu', .ret (lT es)) ∧ es.length ≤ 10 ∧ (∀ s ∈ es, P2 s) ∧ Mo a B mu' := by
  obtain ⟨many, mu1, e1, b0, b1, m⟩ := Mo.draw (B := B + 99) m ((most : Int) + 1) (by omega) (by omega)
  obtain ⟨way, mu2, e2, w0, w1, m⟩ := Mo.draw (B := B + 98) m 6 (by omega) (by omega)
  obtain ⟨pl, mu3, e3, p0, p1, m⟩ := Mo.draw (B := B + 97) m 4 (by omega) (by omega)
  obtain ⟨n, rfl⟩ := Int.eq_ofNat_of_zero_le b0
  have hp : ∃ places : Int, oIx (.list [.int 3, .int 5, .int 8, .int 24]) (.int pl) = some (.int places) ∧ 0 < places ∧ places ≤ 24 := by
    obtain ⟨k, rfl⟩ := Int.eq_ofNat_of_zero_le p0
    rcases k with _ | _ | _ | _ | k
    · exact ⟨3, rfl, by omega, by omega⟩
    · exact ⟨5, rfl, by omega, by omega⟩
    · exact ⟨8, rfl, by omega, by omega⟩
    · exact ⟨24, rfl, by omega, by omega⟩
    · omega
  obtain ⟨places, ep, q0, q1⟩ := hp
  have hr := rng_len n
  have fin : ∀ (found : List (List Int)) (a6 a7 a8 : Option Sl) (mu4 : Mu), found.length = n → (∀ s ∈ found, P2 s) → Mo a (B + 20) mu4 → ∃ es mu', (bPub 5 (sRet (cL (cLc (cSq (cCall 2 (f__law_order C) (cCons (cV 0) (cCons (cScal (cUn oLen (cV 5))) (cNil))))) [9] (tN 9) (cTt) (cBin oIx (cV 5) (cV 9)))))) ⟨[some (.st (.ref a)), some (.st (.int most)), some (.st (.int n)), some (.st (.int way)), some (.st (.int places)), some (.lst (found.map tI)), a6, a7, a8, none], mu4⟩ = some (.rt (lT es) mu') ∧ es.length ≤ 10 ∧ (∀ s ∈ es, P2 s) ∧ Mo a B mu' := by
    intro found a6 a7 a8 mu4 h1 h2 h3
    obtain ⟨xs, mu5, e5, hx, m5⟩ := rl_order (C := C) (mu := mu4) (a := a) (B := B) (k := n) (by omega) (h3.le (by omega))
    have hxm : ∀ x ∈ xs, 0 ≤ x ∧ x < (n : Int) := fun x h => rng_mem.mp (hx.mem_iff.mp h)
    have hxl := hx.length_eq
    rw [hr] at hxl
    refine ⟨xs.map fun x => found.getD x.toNat [], mu5, ?_, ?_, ?_, m5⟩
    · simp only [List.length_map, fnRun, fnRes, bCons, bNil, bPub, sNo, sSet, sRet, sIf, sExpr, sOwn, sApp, sExt, sAsg, sParEE, sParEF, sParFF, lstAt, cL, cLc, cSq, cUn, cUnL, cUnB, cV, cK, cB, cT, oB, cNot, cAnd, cOr, cIf, cCmp, cBin, cBinL, cChain, iLe, iLt, cTt, cTup, cLst, cNil, cCons, cCall, retOf, cMake, cLenI, oFld, cOwS, cOw, cScal, cScalB, pubSls, pubS, scalB, cSl, cSlL, cO0, cO1, En.start, List.map_cons, List.map_nil, List.length_cons, List.length_nil, List.replicate, List.cons_append, List.nil_append, List.getElem?_cons_zero, List.getElem?_cons_succ, Option.bind_some, Option.map_some, Option.bind_none, Option.map_none, oSeq_l, oSeq_t, oSeq_tI, oSeq_lI, oSeq_tT, oSeq_lT, oTuple, oInt, oLen_l, oLen_t, oLen_tI, oLen_lI, oLen_tT, oLen_lT, oNeg, oAdd, oAddL, oSub, oMod, oEnum, List.set_cons_zero, List.set_cons_succ, lcRun_A, lcBody, tN, tTp, tT1, tT0, wipeL, cond_pair, lcRunA_pure, fm_some, fm_if, if_true, cond_true, cond_false, Nat.reduceAdd, Nat.reduceLeDiff, Nat.zero_add, ite_true, ite_false, Bool.and_true, Bool.true_and, reduceIte, Nat.zero_le, Option.join_some, bLt_i, bGt_i, bLe_i, bGe_i, oIs, noOb, bNon, bNotNon, bIsB, bNotB, h1, e5]
      rw [lcRunA_mem (g := fun x => some (tI (found.getD x.toNat []))) (fun x hm => by
        obtain ⟨h4, h5⟩ := hxm x hm
        obtain ⟨k, rfl⟩ := Int.eq_ofNat_of_zero_le h4
        have hk : k < found.length := by omega
        have e6 : oIx (.list (found.map tI)) (.int (k : Nat)) = some (tI (found.getD k [])) := by
          rw [oIx_nat, List.getElem?_map, List.getElem?_eq_getElem hk, List.getD_eq_getElem?_getD, List.getElem?_eq_getElem hk]
          rfl
        rw [e6]
        rfl)]
      simp only [List.length_map, fnRun, fnRes, bCons, bNil, bPub, sNo, sSet, sRet, sIf, sExpr, sOwn, sApp, sExt, sAsg, sParEE, sParEF, sParFF, lstAt, cL, cLc, cSq, cUn, cUnL, cUnB, cV, cK, cB, cT, oB, cNot, cAnd, cOr, cIf, cCmp, cBin, cBinL, cChain, iLe, iLt, cTt, cTup, cLst, cNil, cCons, cCall, retOf, cMake, cLenI, oFld, cOwS, cOw, cScal, cScalB, pubSls, pubS, scalB, cSl, cSlL, cO0, cO1, En.start, List.map_cons, List.map_nil, List.length_cons, List.length_nil, List.replicate, List.cons_append, List.nil_append, List.getElem?_cons_zero, List.getElem?_cons_succ, Option.bind_some, Option.map_some, Option.bind_none, Option.map_none, oSeq_l, oSeq_t, oSeq_tI, oSeq_lI, oSeq_tT, oSeq_lT, oTuple, oInt, oLen_l, oLen_t, oLen_tI, oLen_lI, oLen_tT, oLen_lT, oNeg, oAdd, oAddL, oSub, oMod, oEnum, List.set_cons_zero, List.set_cons_succ, lcRun_A, lcBody, tN, tTp, tT1, tT0, wipeL, cond_pair, lcRunA_pure, fm_some, fm_if, if_true, cond_true, cond_false, Nat.reduceAdd, Nat.reduceLeDiff, Nat.zero_add, ite_true, ite_false, Bool.and_true, Bool.true_and, reduceIte, Nat.zero_le, Option.join_some, bLt_i, bGt_i, bLe_i, bGe_i, oIs, noOb, bNon, bNotNon, bIsB, bNotB]
      rw [lT, List.map_map]
      rfl
    · rw [List.length_map]; omega
    · intro s hs
      obtain ⟨x, hm, rfl⟩ := List.mem_map.mp hs
      obtain ⟨h4, h5⟩ := hxm x hm
      have hk : x.toNat < found.length := by omega
      rw [List.getD_eq_getElem?_getD, List.getElem?_eq_getElem hk]
      exact h2 _ (List.getElem_mem hk)
  suffices H : ∃ es mu', _ = some (SO.rt (lT es) mu') ∧ es.length ≤ 10 ∧ (∀ s ∈ es, P2 s) ∧ Mo a B mu' by
    obtain ⟨es, mu', e, h⟩ := H
    unfold f__law_ends
    exact ⟨es, mu', fnRun_rt e, h⟩
  rw [bCons_nx (Γ' := ⟨[some (.st (.ref a)), some (.st (.int most)), some (.st (.int n)), some (.st (.int way)), none, none, none, none, none, none], mu2⟩) (by simp only [List.length_map, fnRun, fnRes, bCons, bNil, bPub, sNo, sSet, sRet, sIf, sExpr, sOwn, sApp, sExt, sAsg, sParEE, sParEF, sParFF, lstAt, cL, cLc, cSq, cUn, cUnL, cUnB, cV, cK, cB, cT, oB, cNot, cAnd, cOr, cIf, cCmp, cBin, cBinL, cChain, iLe, iLt, cTt, cTup, cLst, cNil, cCons, cCall, retOf, cMake, cLenI, oFld, cOwS, cOw, cScal, cScalB, pubSls, pubS, scalB, cSl, cSlL, cO0, cO1, En.start, List.map_cons, List.map_nil, List.length_cons, List.length_nil, List.replicate, List.cons_append, List.nil_append, List.getElem?_cons_zero, List.getElem?_cons_succ, Option.bind_some, Option.map_some, Option.bind_none, Option.map_none, oSeq_l, oSeq_t, oSeq_tI, oSeq_lI, oSeq_tT, oSeq_lT, oTuple, oInt, oLen_l, oLen_t, oLen_tI, oLen_lI, oLen_tT, oLen_lT, oNeg, oAdd, oAddL, oSub, oMod, oEnum, List.set_cons_zero, List.set_cons_succ, lcRun_A, lcBody, tN, tTp, tT1, tT0, wipeL, cond_pair, lcRunA_pure, fm_some, fm_if, if_true, cond_true, cond_false, Nat.reduceAdd, Nat.reduceLeDiff, Nat.zero_add, ite_true, ite_false, Bool.and_true, Bool.true_and, reduceIte, Nat.zero_le, Option.join_some, bLt_i, bGt_i, bLe_i, bGe_i, oIs, noOb, bNon, bNotNon, bIsB, bNotB, e1, e2])]
  rw [bCons_nx (Γ' := ⟨[some (.st (.ref a)), some (.st (.int most)), some (.st (.int n)), some (.st (.int way)), some (.st (.int places)), some (.lst []), none, none, none, none], mu3⟩) (by simp only [List.length_map, fnRun, fnRes, bCons, bNil, bPub, sNo, sSet, sRet, sIf, sExpr, sOwn, sApp, sExt, sAsg, sParEE, sParEF, sParFF, lstAt, cL, cLc, cSq, cUn, cUnL, cUnB, cV, cK, cB, cT, oB, cNot, cAnd, cOr, cIf, cCmp, cBin, cBinL, cChain, iLe, iLt, cTt, cTup, cLst, cNil, cCons, cCall, retOf, cMake, cLenI, oFld, cOwS, cOw, cScal, cScalB, pubSls, pubS, scalB, cSl, cSlL, cO0, cO1, En.start, List.map_cons, List.map_nil, List.length_cons, List.length_nil, List.replicate, List.cons_append, List.nil_append, List.getElem?_cons_zero, List.getElem?_cons_succ, Option.bind_some, Option.map_some, Option.bind_none, Option.map_none, oSeq_l, oSeq_t, oSeq_tI, oSeq_lI, oSeq_tT, oSeq_lT, oTuple, oInt, oLen_l, oLen_t, oLen_tI, oLen_lI, oLen_tT, oLen_lT, oNeg, oAdd, oAddL, oSub, oMod, oEnum, List.set_cons_zero, List.set_cons_succ, lcRun_A, lcBody, tN, tTp, tT1, tT0, wipeL, cond_pair, lcRunA_pure, fm_some, fm_if, if_true, cond_true, cond_false, Nat.reduceAdd, Nat.reduceLeDiff, Nat.zero_add, ite_true, ite_false, Bool.and_true, Bool.true_and, reduceIte, Nat.zero_le, Option.join_some, bLt_i, bGt_i, bLe_i, bGe_i, oIs, noOb, bNon, bNotNon, bIsB, bNotB, e3, ep])]
  have er : oRng (.int (n : Nat)) = some ((rng n).map D.int) := oRng_n (by omega)
  refine bForP (fun r => ∃ es mu', r = some (SO.rt (lT es) mu') ∧ es.length ≤ 10 ∧ (∀ s ∈ es, P2 s) ∧ Mo a B mu') D.int (rng n) mu3 (fun rest Γ => ∃ (found : List (List Int)) (a6 a7 a8 : Option Sl) (mu4 : Mu), Γ = ⟨[some (.st (.ref a)), some (.st (.int most)), some (.st (.int n)), some (.st (.int way)), some (.st (.int places)), some (.lst (found.map tI)), a6, a7, a8, none], mu4⟩ ∧ found.length + rest.length = n ∧ (∀ s ∈ found, P2 s) ∧ (∀ t ∈ rest, 0 ≤ t ∧ t < (n : Int)) ∧ Mo a (B + 20 + 4 * rest.length) mu4) ?_ ?_ ?_ ?_
  · simp only [List.length_map, fnRun, fnRes, bCons, bNil, bPub, sNo, sSet, sRet, sIf, sExpr, sOwn, sApp, sExt, sAsg, sParEE, sParEF, sParFF, lstAt, cL, cLc, cSq, cUn, cUnL, cUnB, cV, cK, cB, cT, oB, cNot, cAnd, cOr, cIf, cCmp, cBin, cBinL, cChain, iLe, iLt, cTt, cTup, cLst, cNil, cCons, cCall, retOf, cMake, cLenI, oFld, cOwS, cOw, cScal, cScalB, pubSls, pubS, scalB, cSl, cSlL, cO0, cO1, En.start, List.map_cons, List.map_nil, List.length_cons, List.length_nil, List.replicate, List.cons_append, List.nil_append, List.getElem?_cons_zero, List.getElem?_cons_succ, Option.bind_some, Option.map_some, Option.bind_none, Option.map_none, oSeq_l, oSeq_t, oSeq_tI, oSeq_lI, oSeq_tT, oSeq_lT, oTuple, oInt, oLen_l, oLen_t, oLen_tI, oLen_lI, oLen_tT, oLen_lT, oNeg, oAdd, oAddL, oSub, oMod, oEnum, List.set_cons_zero, List.set_cons_succ, lcRun_A, lcBody, tN, tTp, tT1, tT0, wipeL, cond_pair, lcRunA_pure, fm_some, fm_if, if_true, cond_true, cond_false, Nat.reduceAdd, Nat.reduceLeDiff, Nat.zero_add, ite_true, ite_false, Bool.and_true, Bool.true_and, reduceIte, Nat.zero_le, Option.join_some, bLt_i, bGt_i, bLe_i, bGe_i, oIs, noOb, bNon, bNotNon, bIsB, bNotB, er]
  · exact ⟨[], none, none, none, mu3, rfl, by rw [hr]; simp, (fun s hs => by cases hs), (fun t ht => rng_mem.mp ht), m.le (by rw [hr]; omega)⟩
  · rintro t rest Γ ⟨found, a6, a7, a8, mu4, rfl, h1, h2, h3, h4⟩
    rw [List.length_cons] at h1 h4
    obtain ⟨t0, t1⟩ := h3 t List.mem_cons_self
    have h3' : ∀ t ∈ rest, 0 ≤ t ∧ t < (n : Int) := fun t ht => h3 t (List.mem_cons_of_mem _ ht)
    have hw : way = 0 ∨ way = 1 ∨ way = 2 ∨ (way = 3 ∧ found ≠ []) ∨ way = 4 ∨ (way = 3 ∧ found = []) ∨ way = 5 := by
      by_cases hf : found = []
      · have : way = 0 ∨ way = 1 ∨ way = 2 ∨ way = 3 ∨ way = 4 ∨ way = 5 := by omega
        rcases this with h | h | h | h | h | h <;> simp [h, hf]
      · have : way = 0 ∨ way = 1 ∨ way = 2 ∨ way = 3 ∨ way = 4 ∨ way = 5 := by omega
        rcases this with h | h | h | h | h | h <;> simp [h, hf]
    rcases hw with rfl | rfl | rfl | ⟨rfl, hf⟩ | rfl | hw
    · obtain ⟨x, mu5, e5, x0, x1, m5⟩ := Mo.draw (B := B + 20 + 4 * rest.length + 3) h4 places (by omega) (by omega)
      obtain ⟨y, mu6, e6, y0, y1, m6⟩ := Mo.draw (B := B + 20 + 4 * rest.length + 2) m5 places (by omega) (by omega)
      refine ⟨_, ⟨[some (.st (.ref a)), some (.st (.int most)), some (.st (.int n)), some (.st (.int 0)), some (.st (.int places)), some (.lst ((found ++ [[x, y]]).map tI)), some (.st (.int t)), a7, a8, none], mu6⟩, rfl, .inl ?_, _, _, _, _, _, rfl, ?_, P2.snoc h2 x0 (by omega) y0 (by omega), h3', m6.le (by omega)⟩
      · simp only [List.length_map, fnRun, fnRes, bCons, bNil, bPub, sNo, sSet, sRet, sIf, sExpr, sOwn, sApp, sExt, sAsg, sParEE, sParEF, sParFF, lstAt, cL, cLc, cSq, cUn, cUnL, cUnB, cV, cK, cB, cT, oB, cNot, cAnd, cOr, cIf, cCmp, cBin, cBinL, cChain, iLe, iLt, cTt, cTup, cLst, cNil, cCons, cCall, retOf, cMake, cLenI, oFld, cOwS, cOw, cScal, cScalB, pubSls, pubS, scalB, cSl, cSlL, cO0, cO1, En.start, List.map_cons, List.map_nil, List.length_cons, List.length_nil, List.replicate, List.cons_append, List.nil_append, List.getElem?_cons_zero, List.getElem?_cons_succ, Option.bind_some, Option.map_some, Option.bind_none, Option.map_none, oSeq_l, oSeq_t, oSeq_tI, oSeq_lI, oSeq_tT, oSeq_lT, oTuple, oInt, oLen_l, oLen_t, oLen_tI, oLen_lI, oLen_tT, oLen_lT, oNeg, oAdd, oAddL, oSub, oMod, oEnum, List.set_cons_zero, List.set_cons_succ, lcRun_A, lcBody, tN, tTp, tT1, tT0, wipeL, cond_pair, lcRunA_pure, fm_some, fm_if, if_true, cond_true, cond_false, Nat.reduceAdd, Nat.reduceLeDiff, Nat.zero_add, ite_true, ite_false, Bool.and_true, Bool.true_and, reduceIte, Nat.zero_le, Option.join_some, bLt_i, bGt_i, bLe_i, bGe_i, oIs, noOb, bNon, bNotNon, bIsB, bNotB, bIn_i, bIn_iL, bNin_i, bNin_iL, bIn_t, bIn_tL, bNin_t, bNin_tL, bEq_i, bNe_i, bEq_t, bNe_t, bEq_l, bNe_l, bEq_tT, bNe_tT, bEq_lT, bNe_lT, bNe_t0, bEq_t0, bNe_l0, bNe_lT0, bEq_tT0, oAll_map, oAny_map, e5, e6, decide_true]
        rw [if_pos (by omega), map_snoc]
        rfl
      · rw [List.length_append, List.length_singleton]; omega
    · have hz : 0 < (n : Int) := by omega
      have z0 := Int.emod_nonneg (t + 1) (show (n : Int) ≠ 0 by omega)
      have z1 := Int.emod_lt_of_pos (t + 1) hz
      refine ⟨_, ⟨[some (.st (.ref a)), some (.st (.int most)), some (.st (.int n)), some (.st (.int 1)), some (.st (.int places)), some (.lst ((found ++ [[t, (t + 1) % (n : Int)]]).map tI)), some (.st (.int t)), a7, a8, none], mu4⟩, rfl, .inl ?_, _, _, _, _, _, rfl, ?_, P2.snoc h2 t0 (by omega) z0 (by omega), h3', h4.le (by omega)⟩
      · simp only [List.length_map, fnRun, fnRes, bCons, bNil, bPub, sNo, sSet, sRet, sIf, sExpr, sOwn, sApp, sExt, sAsg, sParEE, sParEF, sParFF, lstAt, cL, cLc, cSq, cUn, cUnL, cUnB, cV, cK, cB, cT, oB, cNot, cAnd, cOr, cIf, cCmp, cBin, cBinL, cChain, iLe, iLt, cTt, cTup, cLst, cNil, cCons, cCall, retOf, cMake, cLenI, oFld, cOwS, cOw, cScal, cScalB, pubSls, pubS, scalB, cSl, cSlL, cO0, cO1, En.start, List.map_cons, List.map_nil, List.length_cons, List.length_nil, List.replicate, List.cons_append, List.nil_append, List.getElem?_cons_zero, List.getElem?_cons_succ, Option.bind_some, Option.map_some, Option.bind_none, Option.map_none, oSeq_l, oSeq_t, oSeq_tI, oSeq_lI, oSeq_tT, oSeq_lT, oTuple, oInt, oLen_l, oLen_t, oLen_tI, oLen_lI, oLen_tT, oLen_lT, oNeg, oAdd, oAddL, oSub, oMod, oEnum, List.set_cons_zero, List.set_cons_succ, lcRun_A, lcBody, tN, tTp, tT1, tT0, wipeL, cond_pair, lcRunA_pure, fm_some, fm_if, if_true, cond_true, cond_false, Nat.reduceAdd, Nat.reduceLeDiff, Nat.zero_add, ite_true, ite_false, Bool.and_true, Bool.true_and, reduceIte, Nat.zero_le, Option.join_some, bLt_i, bGt_i, bLe_i, bGe_i, oIs, noOb, bNon, bNotNon, bIsB, bNotB, bIn_i, bIn_iL, bNin_i, bNin_iL, bIn_t, bIn_tL, bNin_t, bNin_tL, bEq_i, bNe_i, bEq_t, bNe_t, bEq_l, bNe_l, bEq_tT, bNe_tT, bEq_lT, bNe_lT, bNe_t0, bEq_t0, bNe_l0, bNe_lT0, bEq_tT0, oAll_map, oAny_map, Int.reduceEq, decide_true, decide_false]
        rw [if_pos hz]
        simp only [List.length_map, fnRun, fnRes, bCons, bNil, bPub, sNo, sSet, sRet, sIf, sExpr, sOwn, sApp, sExt, sAsg, sParEE, sParEF, sParFF, lstAt, cL, cLc, cSq, cUn, cUnL, cUnB, cV, cK, cB, cT, oB, cNot, cAnd, cOr, cIf, cCmp, cBin, cBinL, cChain, iLe, iLt, cTt, cTup, cLst, cNil, cCons, cCall, retOf, cMake, cLenI, oFld, cOwS, cOw, cScal, cScalB, pubSls, pubS, scalB, cSl, cSlL, cO0, cO1, En.start, List.map_cons, List.map_nil, List.length_cons, List.length_nil, List.replicate, List.cons_append, List.nil_append, List.getElem?_cons_zero, List.getElem?_cons_succ, Option.bind_some, Option.map_some, Option.bind_none, Option.map_none, oSeq_l, oSeq_t, oSeq_tI, oSeq_lI, oSeq_tT, oSeq_lT, oTuple, oInt, oLen_l, oLen_t, oLen_tI, oLen_lI, oLen_tT, oLen_lT, oNeg, oAdd, oAddL, oSub, oMod, oEnum, List.set_cons_zero, List.set_cons_succ, lcRun_A, lcBody, tN, tTp, tT1, tT0, wipeL, cond_pair, lcRunA_pure, fm_some, fm_if, if_true, cond_true, cond_false, Nat.reduceAdd, Nat.reduceLeDiff, Nat.zero_add, ite_true, ite_false, Bool.and_true, Bool.true_and, reduceIte, Nat.zero_le, Option.join_some, bLt_i, bGt_i, bLe_i, bGe_i, oIs, noOb, bNon, bNotNon, bIsB, bNotB]
        rw [if_pos (by omega), map_snoc]
        rfl
      · rw [List.length_append, List.length_singleton]; omega
    · obtain ⟨x, mu5, e5, x0, x1, m5⟩ := Mo.draw (B := B + 20 + 4 * rest.length + 3) h4 4 (by omega) (by omega)
      obtain ⟨y, mu6, e6, y0, y1, m6⟩ := Mo.draw (B := B + 20 + 4 * rest.length + 2) m5 4 (by omega) (by omega)
      refine ⟨_, ⟨[some (.st (.ref a)), some (.st (.int most)), some (.st (.int n)), some (.st (.int 2)), some (.st (.int places)), some (.lst ((found ++ [[x, 4 + y]]).map tI)), some (.st (.int t)), a7, a8, none], mu6⟩, rfl, .inl ?_, _, _, _, _, _, rfl, ?_, P2.snoc h2 x0 (by omega) (by omega) (by omega), h3', m6.le (by omega)⟩
      · simp only [List.length_map, fnRun, fnRes, bCons, bNil, bPub, sNo, sSet, sRet, sIf, sExpr, sOwn, sApp, sExt, sAsg, sParEE, sParEF, sParFF, lstAt, cL, cLc, cSq, cUn, cUnL, cUnB, cV, cK, cB, cT, oB, cNot, cAnd, cOr, cIf, cCmp, cBin, cBinL, cChain, iLe, iLt, cTt, cTup, cLst, cNil, cCons, cCall, retOf, cMake, cLenI, oFld, cOwS, cOw, cScal, cScalB, pubSls, pubS, scalB, cSl, cSlL, cO0, cO1, En.start, List.map_cons, List.map_nil, List.length_cons, List.length_nil, List.replicate, List.cons_append, List.nil_append, List.getElem?_cons_zero, List.getElem?_cons_succ, Option.bind_some, Option.map_some, Option.bind_none, Option.map_none, oSeq_l, oSeq_t, oSeq_tI, oSeq_lI, oSeq_tT, oSeq_lT, oTuple, oInt, oLen_l, oLen_t, oLen_tI, oLen_lI, oLen_tT, oLen_lT, oNeg, oAdd, oAddL, oSub, oMod, oEnum, List.set_cons_zero, List.set_cons_succ, lcRun_A, lcBody, tN, tTp, tT1, tT0, wipeL, cond_pair, lcRunA_pure, fm_some, fm_if, if_true, cond_true, cond_false, Nat.reduceAdd, Nat.reduceLeDiff, Nat.zero_add, ite_true, ite_false, Bool.and_true, Bool.true_and, reduceIte, Nat.zero_le, Option.join_some, bLt_i, bGt_i, bLe_i, bGe_i, oIs, noOb, bNon, bNotNon, bIsB, bNotB, bIn_i, bIn_iL, bNin_i, bNin_iL, bIn_t, bIn_tL, bNin_t, bNin_tL, bEq_i, bNe_i, bEq_t, bNe_t, bEq_l, bNe_l, bEq_tT, bNe_tT, bEq_lT, bNe_lT, bNe_t0, bEq_t0, bNe_l0, bNe_lT0, bEq_tT0, oAll_map, oAny_map, e5, e6, Int.reduceEq, decide_true, decide_false]
        rw [if_pos (by omega), map_snoc]
        rfl
      · rw [List.length_append, List.length_singleton]; omega
    · have hfl : 0 < found.length := List.length_pos_iff.mpr hf
      obtain ⟨x, mu5, e5, x0, x1, m5⟩ := Mo.draw (B := B + 20 + 4 * rest.length + 3) h4 (found.length : Nat) (by omega) (by omega)
      obtain ⟨y, mu6, e6, y0, y1, m6⟩ := Mo.draw (B := B + 20 + 4 * rest.length + 2) m5 2 (by omega) (by omega)
      have hv : x.toNat < found.length := by omega
      have hx : found[x.toNat]? = some found[x.toNat] := List.getElem?_eq_getElem hv
      obtain ⟨u, v, eo, u0, u1, v0, v1⟩ := h2 _ (List.getElem_mem hv)
      have hfresh : ∃ fresh : List (List Int), oIx (.list [.list [.tuple [.int u, .int (23 - t)], .tuple [.int (23 - t), .int v]], .list [tI [u, v], tI [u, v]]]) (.int y) = some (lT fresh) ∧ fresh.length = 2 ∧ ∀ s ∈ fresh, P2 s := by
        obtain ⟨k, rfl⟩ := Int.eq_ofNat_of_zero_le y0
        rcases k with _ | _ | k
        · exact ⟨[[u, 23 - t], [23 - t, v]], rfl, rfl, fun s hs => by
            rcases List.mem_cons.mp hs with rfl | hs
            · exact ⟨_, _, rfl, u0, u1, by omega, by omega⟩
            · rw [List.mem_singleton.mp hs]; exact ⟨_, _, rfl, by omega, by omega, v0, v1⟩⟩
        · exact ⟨[[u, v], [u, v]], rfl, rfl, fun s hs => by
            rcases List.mem_cons.mp hs with rfl | hs
            · exact ⟨_, _, rfl, u0, u1, v0, v1⟩
            · rw [List.mem_singleton.mp hs]; exact ⟨_, _, rfl, u0, u1, v0, v1⟩⟩
        · omega
      obtain ⟨fresh, ef, hf2, hfp⟩ := hfresh
      have hel := List.length_eraseIdx_of_lt hv
      refine ⟨_, ⟨[some (.st (.ref a)), some (.st (.int most)), some (.st (.int n)), some (.st (.int 3)), some (.st (.int places)), some (.lst ((found.eraseIdx x.toNat ++ fresh).map tI)), some (.st (.int t)), some (.st (tI [u, v])), some (.st (lT fresh)), none], mu6⟩, rfl, .inl ?_, _, _, _, _, _, rfl, ?_, ?_, h3', m6.le (by omega)⟩
      · have hnf : decide (found = []) = false := decide_eq_false hf
        have o0 : oIx (tI [u, v]) (.int 0) = some (.int u) := rfl
        have o1 : oIx (tI [u, v]) (.int 1) = some (.int v) := rfl
        simp only [sSetPop, popAt, List.length_map, fnRun, fnRes, bCons, bNil, bPub, sNo, sSet, sRet, sIf, sExpr, sOwn, sApp, sExt, sAsg, sParEE, sParEF, sParFF, lstAt, cL, cLc, cSq, cUn, cUnL, cUnB, cV, cK, cB, cT, oB, cNot, cAnd, cOr, cIf, cCmp, cBin, cBinL, cChain, iLe, iLt, cTt, cTup, cLst, cNil, cCons, cCall, retOf, cMake, cLenI, oFld, cOwS, cOw, cScal, cScalB, pubSls, pubS, scalB, cSl, cSlL, cO0, cO1, En.start, List.map_cons, List.map_nil, List.length_cons, List.length_nil, List.replicate, List.cons_append, List.nil_append, List.getElem?_cons_zero, List.getElem?_cons_succ, Option.bind_some, Option.map_some, Option.bind_none, Option.map_none, oSeq_l, oSeq_t, oSeq_tI, oSeq_lI, oSeq_tT, oSeq_lT, oTuple, oInt, oLen_l, oLen_t, oLen_tI, oLen_lI, oLen_tT, oLen_lT, oNeg, oAdd, oAddL, oSub, oMod, oEnum, List.set_cons_zero, List.set_cons_succ, lcRun_A, lcBody, tN, tTp, tT1, tT0, wipeL, cond_pair, lcRunA_pure, fm_some, fm_if, if_true, cond_true, cond_false, Nat.reduceAdd, Nat.reduceLeDiff, Nat.zero_add, ite_true, ite_false, Bool.and_true, Bool.true_and, reduceIte, Nat.zero_le, Option.join_some, bLt_i, bGt_i, bLe_i, bGe_i, oIs, noOb, bNon, bNotNon, bIsB, bNotB, bIn_i, bIn_iL, bNin_i, bNin_iL, bIn_t, bIn_tL, bNin_t, bNin_tL, bEq_i, bNe_i, bEq_t, bNe_t, bEq_l, bNe_l, bEq_tT, bNe_tT, bEq_lT, bNe_lT, bNe_t0, bEq_t0, bNe_l0, bNe_lT0, bEq_tT0, oAll_map, oAny_map, e5, e6, Int.reduceEq, decide_true, decide_false, hnf, Bool.not_false, if_pos x0, List.getElem?_map, hx, map_erase, eo]
        rw [o0, o1]
        simp only [List.length_map, fnRun, fnRes, bCons, bNil, bPub, sNo, sSet, sRet, sIf, sExpr, sOwn, sApp, sExt, sAsg, sParEE, sParEF, sParFF, lstAt, cL, cLc, cSq, cUn, cUnL, cUnB, cV, cK, cB, cT, oB, cNot, cAnd, cOr, cIf, cCmp, cBin, cBinL, cChain, iLe, iLt, cTt, cTup, cLst, cNil, cCons, cCall, retOf, cMake, cLenI, oFld, cOwS, cOw, cScal, cScalB, pubSls, pubS, scalB, cSl, cSlL, cO0, cO1, En.start, List.map_cons, List.map_nil, List.length_cons, List.length_nil, List.replicate, List.cons_append, List.nil_append, List.getElem?_cons_zero, List.getElem?_cons_succ, Option.bind_some, Option.map_some, Option.bind_none, Option.map_none, oSeq_l, oSeq_t, oSeq_tI, oSeq_lI, oSeq_tT, oSeq_lT, oTuple, oInt, oLen_l, oLen_t, oLen_tI, oLen_lI, oLen_tT, oLen_lT, oNeg, oAdd, oAddL, oSub, oMod, oEnum, List.set_cons_zero, List.set_cons_succ, lcRun_A, lcBody, tN, tTp, tT1, tT0, wipeL, cond_pair, lcRunA_pure, fm_some, fm_if, if_true, cond_true, cond_false, Nat.reduceAdd, Nat.reduceLeDiff, Nat.zero_add, ite_true, ite_false, Bool.and_true, Bool.true_and, reduceIte, Nat.zero_le, Option.join_some, bLt_i, bGt_i, bLe_i, bGe_i, oIs, noOb, bNon, bNotNon, bIsB, bNotB, e6, ef, hel, oAddL]
        rw [if_pos (by omega), List.map_append]
        rfl
      · rw [List.length_append, hel]; omega
      · intro s hs
        rcases List.mem_append.mp hs with hs | hs
        · exact h2 s (List.mem_of_mem_eraseIdx hs)
        · exact hfp s hs
    · obtain ⟨x, mu5, e5, x0, x1, m5⟩ := Mo.draw (B := B + 20 + 4 * rest.length + 3) h4 6 (by omega) (by omega)
      have hfresh : ∃ u v : Int, oIx (.list [.tuple [.int 0, .int 1], .tuple [.int 0, .int 2], .tuple [.int 0, .int 3], .tuple [.int 1, .int 2], .tuple [.int 1, .int 3], .tuple [.int 2, .int 3]]) (.int x) = some (tI [u, v]) ∧ 0 ≤ u ∧ u ≤ 23 ∧ 0 ≤ v ∧ v ≤ 23 := by
        obtain ⟨k, rfl⟩ := Int.eq_ofNat_of_zero_le x0
        rcases k with _ | _ | _ | _ | _ | _ | k
        · exact ⟨0, 1, rfl, by omega, by omega, by omega, by omega⟩
        · exact ⟨0, 2, rfl, by omega, by omega, by omega, by omega⟩
        · exact ⟨0, 3, rfl, by omega, by omega, by omega, by omega⟩
        · exact ⟨1, 2, rfl, by omega, by omega, by omega, by omega⟩
        · exact ⟨1, 3, rfl, by omega, by omega, by omega, by omega⟩
        · exact ⟨2, 3, rfl, by omega, by omega, by omega, by omega⟩
        · omega
      obtain ⟨u, v, eu, u0, u1, v0, v1⟩ := hfresh
      refine ⟨_, ⟨[some (.st (.ref a)), some (.st (.int most)), some (.st (.int n)), some (.st (.int 4)), some (.st (.int places)), some (.lst ((found ++ [[u, v]]).map tI)), some (.st (.int t)), a7, a8, none], mu5⟩, rfl, .inl ?_, _, _, _, _, _, rfl, ?_, P2.snoc h2 u0 u1 v0 v1, h3', m5.le (by omega)⟩
      · simp only [List.length_map, fnRun, fnRes, bCons, bNil, bPub, sNo, sSet, sRet, sIf, sExpr, sOwn, sApp, sExt, sAsg, sParEE, sParEF, sParFF, lstAt, cL, cLc, cSq, cUn, cUnL, cUnB, cV, cK, cB, cT, oB, cNot, cAnd, cOr, cIf, cCmp, cBin, cBinL, cChain, iLe, iLt, cTt, cTup, cLst, cNil, cCons, cCall, retOf, cMake, cLenI, oFld, cOwS, cOw, cScal, cScalB, pubSls, pubS, scalB, cSl, cSlL, cO0, cO1, En.start, List.map_cons, List.map_nil, List.length_cons, List.length_nil, List.replicate, List.cons_append, List.nil_append, List.getElem?_cons_zero, List.getElem?_cons_succ, Option.bind_some, Option.map_some, Option.bind_none, Option.map_none, oSeq_l, oSeq_t, oSeq_tI, oSeq_lI, oSeq_tT, oSeq_lT, oTuple, oInt, oLen_l, oLen_t, oLen_tI, oLen_lI, oLen_tT, oLen_lT, oNeg, oAdd, oAddL, oSub, oMod, oEnum, List.set_cons_zero, List.set_cons_succ, lcRun_A, lcBody, tN, tTp, tT1, tT0, wipeL, cond_pair, lcRunA_pure, fm_some, fm_if, if_true, cond_true, cond_false, Nat.reduceAdd, Nat.reduceLeDiff, Nat.zero_add, ite_true, ite_false, Bool.and_true, Bool.true_and, reduceIte, Nat.zero_le, Option.join_some, bLt_i, bGt_i, bLe_i, bGe_i, oIs, noOb, bNon, bNotNon, bIsB, bNotB, bIn_i, bIn_iL, bNin_i, bNin_iL, bIn_t, bIn_tL, bNin_t, bNin_tL, bEq_i, bNe_i, bEq_t, bNe_t, bEq_l, bNe_l, bEq_tT, bNe_tT, bEq_lT, bNe_lT, bNe_t0, bEq_t0, bNe_l0, bNe_lT0, bEq_tT0, oAll_map, oAny_map, e5, Int.reduceEq, decide_true, decide_false, eu]
        rw [if_pos (by omega), map_snoc]
      · rw [List.length_append, List.length_singleton]; omega
    · have bz : bNe (D.list []) (D.list []) = some false := rfl
      by_cases ht : t < 2
      · refine ⟨_, ⟨[some (.st (.ref a)), some (.st (.int most)), some (.st (.int n)), some (.st (.int way)), some (.st (.int places)), some (.lst ((found ++ [[0, 1]]).map tI)), some (.st (.int t)), a7, a8, none], mu4⟩, rfl, .inl ?_, _, _, _, _, _, rfl, ?_, P2.snoc h2 (by omega) (by omega) (by omega) (by omega), h3', h4.le (by omega)⟩
        · rcases hw with ⟨rfl, rfl⟩ | rfl
          · simp only [List.length_map, fnRun, fnRes, bCons, bNil, bPub, sNo, sSet, sRet, sIf, sExpr, sOwn, sApp, sExt, sAsg, sParEE, sParEF, sParFF, lstAt, cL, cLc, cSq, cUn, cUnL, cUnB, cV, cK, cB, cT, oB, cNot, cAnd, cOr, cIf, cCmp, cBin, cBinL, cChain, iLe, iLt, cTt, cTup, cLst, cNil, cCons, cCall, retOf, cMake, cLenI, oFld, cOwS, cOw, cScal, cScalB, pubSls, pubS, scalB, cSl, cSlL, cO0, cO1, En.start, List.map_cons, List.map_nil, List.length_cons, List.length_nil, List.replicate, List.cons_append, List.nil_append, List.getElem?_cons_zero, List.getElem?_cons_succ, Option.bind_some, Option.map_some, Option.bind_none, Option.map_none, oSeq_l, oSeq_t, oSeq_tI, oSeq_lI, oSeq_tT, oSeq_lT, oTuple, oInt, oLen_l, oLen_t, oLen_tI, oLen_lI, oLen_tT, oLen_lT, oNeg, oAdd, oAddL, oSub, oMod, oEnum, List.set_cons_zero, List.set_cons_succ, lcRun_A, lcBody, tN, tTp, tT1, tT0, wipeL, cond_pair, lcRunA_pure, fm_some, fm_if, if_true, cond_true, cond_false, Nat.reduceAdd, Nat.reduceLeDiff, Nat.zero_add, ite_true, ite_false, Bool.and_true, Bool.true_and, reduceIte, Nat.zero_le, Option.join_some, bLt_i, bGt_i, bLe_i, bGe_i, oIs, noOb, bNon, bNotNon, bIsB, bNotB, bIn_i, bIn_iL, bNin_i, bNin_iL, bIn_t, bIn_tL, bNin_t, bNin_tL, bEq_i, bNe_i, bEq_t, bNe_t, bEq_l, bNe_l, bEq_tT, bNe_tT, bEq_lT, bNe_lT, bNe_t0, bEq_t0, bNe_l0, bNe_lT0, bEq_tT0, oAll_map, oAny_map, Int.reduceEq, decide_true, decide_false, decide_eq_true ht, Bool.not_true, bz]
            rfl
          · simp only [List.length_map, fnRun, fnRes, bCons, bNil, bPub, sNo, sSet, sRet, sIf, sExpr, sOwn, sApp, sExt, sAsg, sParEE, sParEF, sParFF, lstAt, cL, cLc, cSq, cUn, cUnL, cUnB, cV, cK, cB, cT, oB, cNot, cAnd, cOr, cIf, cCmp, cBin, cBinL, cChain, iLe, iLt, cTt, cTup, cLst, cNil, cCons, cCall, retOf, cMake, cLenI, oFld, cOwS, cOw, cScal, cScalB, pubSls, pubS, scalB, cSl, cSlL, cO0, cO1, En.start, List.map_cons, List.map_nil, List.length_cons, List.length_nil, List.replicate, List.cons_append, List.nil_append, List.getElem?_cons_zero, List.getElem?_cons_succ, Option.bind_some, Option.map_some, Option.bind_none, Option.map_none, oSeq_l, oSeq_t, oSeq_tI, oSeq_lI, oSeq_tT, oSeq_lT, oTuple, oInt, oLen_l, oLen_t, oLen_tI, oLen_lI, oLen_tT, oLen_lT, oNeg, oAdd, oAddL, oSub, oMod, oEnum, List.set_cons_zero, List.set_cons_succ, lcRun_A, lcBody, tN, tTp, tT1, tT0, wipeL, cond_pair, lcRunA_pure, fm_some, fm_if, if_true, cond_true, cond_false, Nat.reduceAdd, Nat.reduceLeDiff, Nat.zero_add, ite_true, ite_false, Bool.and_true, Bool.true_and, reduceIte, Nat.zero_le, Option.join_some, bLt_i, bGt_i, bLe_i, bGe_i, oIs, noOb, bNon, bNotNon, bIsB, bNotB, bIn_i, bIn_iL, bNin_i, bNin_iL, bIn_t, bIn_tL, bNin_t, bNin_tL, bEq_i, bNe_i, bEq_t, bNe_t, bEq_l, bNe_l, bEq_tT, bNe_tT, bEq_lT, bNe_lT, bNe_t0, bEq_t0, bNe_l0, bNe_lT0, bEq_tT0, oAll_map, oAny_map, Int.reduceEq, decide_true, decide_false, decide_eq_true ht]
            rw [if_pos (by omega), map_snoc]
            rfl
        · rw [List.length_append, List.length_singleton]; omega
      · obtain ⟨x, mu5, e5, x0, x1, m5⟩ := Mo.draw (B := B + 20 + 4 * rest.length + 3) h4 3 (by omega) (by omega)
        obtain ⟨y, mu6, e6, y0, y1, m6⟩ := Mo.draw (B := B + 20 + 4 * rest.length + 2) m5 4 (by omega) (by omega)
        refine ⟨_, ⟨[some (.st (.ref a)), some (.st (.int most)), some (.st (.int n)), some (.st (.int way)), some (.st (.int places)), some (.lst ((found ++ [[x, 1 + y]]).map tI)), some (.st (.int t)), a7, a8, none], mu6⟩, rfl, .inl ?_, _, _, _, _, _, rfl, ?_, P2.snoc h2 (by omega) (by omega) (by omega) (by omega), h3', m6.le (by omega)⟩
        · rcases hw with ⟨rfl, rfl⟩ | rfl
          · simp only [List.length_map, fnRun, fnRes, bCons, bNil, bPub, sNo, sSet, sRet, sIf, sExpr, sOwn, sApp, sExt, sAsg, sParEE, sParEF, sParFF, lstAt, cL, cLc, cSq, cUn, cUnL, cUnB, cV, cK, cB, cT, oB, cNot, cAnd, cOr, cIf, cCmp, cBin, cBinL, cChain, iLe, iLt, cTt, cTup, cLst, cNil, cCons, cCall, retOf, cMake, cLenI, oFld, cOwS, cOw, cScal, cScalB, pubSls, pubS, scalB, cSl, cSlL, cO0, cO1, En.start, List.map_cons, List.map_nil, List.length_cons, List.length_nil, List.replicate, List.cons_append, List.nil_append, List.getElem?_cons_zero, List.getElem?_cons_succ, Option.bind_some, Option.map_some, Option.bind_none, Option.map_none, oSeq_l, oSeq_t, oSeq_tI, oSeq_lI, oSeq_tT, oSeq_lT, oTuple, oInt, oLen_l, oLen_t, oLen_tI, oLen_lI, oLen_tT, oLen_lT, oNeg, oAdd, oAddL, oSub, oMod, oEnum, List.set_cons_zero, List.set_cons_succ, lcRun_A, lcBody, tN, tTp, tT1, tT0, wipeL, cond_pair, lcRunA_pure, fm_some, fm_if, if_true, cond_true, cond_false, Nat.reduceAdd, Nat.reduceLeDiff, Nat.zero_add, ite_true, ite_false, Bool.and_true, Bool.true_and, reduceIte, Nat.zero_le, Option.join_some, bLt_i, bGt_i, bLe_i, bGe_i, oIs, noOb, bNon, bNotNon, bIsB, bNotB, bIn_i, bIn_iL, bNin_i, bNin_iL, bIn_t, bIn_tL, bNin_t, bNin_tL, bEq_i, bNe_i, bEq_t, bNe_t, bEq_l, bNe_l, bEq_tT, bNe_tT, bEq_lT, bNe_lT, bNe_t0, bEq_t0, bNe_l0, bNe_lT0, bEq_tT0, oAll_map, oAny_map, Int.reduceEq, decide_true, decide_false, decide_eq_false ht, Bool.not_true, e5, e6, bz]
            rfl
          · simp only [List.length_map, fnRun, fnRes, bCons, bNil, bPub, sNo, sSet, sRet, sIf, sExpr, sOwn, sApp, sExt, sAsg, sParEE, sParEF, sParFF, lstAt, cL, cLc, cSq, cUn, cUnL, cUnB, cV, cK, cB, cT, oB, cNot, cAnd, cOr, cIf, cCmp, cBin, cBinL, cChain, iLe, iLt, cTt, cTup, cLst, cNil, cCons, cCall, retOf, cMake, cLenI, oFld, cOwS, cOw, cScal, cScalB, pubSls, pubS, scalB, cSl, cSlL, cO0, cO1, En.start, List.map_cons, List.map_nil, List.length_cons, List.length_nil, List.replicate, List.cons_append, List.nil_append, List.getElem?_cons_zero, List.getElem?_cons_succ, Option.bind_some, Option.map_some, Option.bind_none, Option.map_none, oSeq_l, oSeq_t, oSeq_tI, oSeq_lI, oSeq_tT, oSeq_lT, oTuple, oInt, oLen_l, oLen_t, oLen_tI, oLen_lI, oLen_tT, oLen_lT, oNeg, oAdd, oAddL, oSub, oMod, oEnum, List.set_cons_zero, List.set_cons_succ, lcRun_A, lcBody, tN, tTp, tT1, tT0, wipeL, cond_pair, lcRunA_pure, fm_some, fm_if, if_true, cond_true, cond_false, Nat.reduceAdd, Nat.reduceLeDiff, Nat.zero_add, ite_true, ite_false, Bool.and_true, Bool.true_and, reduceIte, Nat.zero_le, Option.join_some, bLt_i, bGt_i, bLe_i, bGe_i, oIs, noOb, bNon, bNotNon, bIsB, bNotB, bIn_i, bIn_iL, bNin_i, bNin_iL, bIn_t, bIn_tL, bNin_t, bNin_tL, bEq_i, bNe_i, bEq_t, bNe_t, bEq_l, bNe_l, bEq_tT, bNe_tT, bEq_lT, bNe_lT, bNe_t0, bEq_t0, bNe_l0, bNe_lT0, bEq_tT0, oAll_map, oAny_map, Int.reduceEq, decide_true, decide_false, decide_eq_false ht, e5, e6]
            rw [if_pos (by omega), map_snoc]
            rfl
        · rw [List.length_append, List.length_singleton]; omega
  · rintro Γ ⟨found, a6, a7, a8, mu4, rfl, h1, h2, h3, h4⟩
    exact fin found a6 a7 a8 mu4 h1 h2 (h4.le (by omega))
def starOf (es : List (List Int)) (p : Int) : List Int := (rng es.length).filter fun t => decide (p ∈ es.getD t.toNat [])
def starsL (es : List (List Int)) : List (List Int) := ((rng 24).map (starOf es)).filter fun s => !decide (s = [])
theorem rl_stars {es : List (List Int)} (h : es.length ≤ 12) : f__law_stars C mu [lT es] = some (mu, .ret (tT (srt (starsL es)))) := by
  have er : oRng (.int 24) = some ((rng 24).map D.int) := oRng_n (n := 24) (by omega)
  have er2 : oRng (.int es.length) = some ((rng es.length).map D.int) := oRng_n (by omega)
  have star : ∀ (p : Int) (a : Option Sl) (b : Option Sl) (mu : Mu), cUn oTuple (cL (cLc (cUnL oRng (cUn oLen (cV 0))) [4] (tN 4) (cCmp bIn (cV 2) (cBin oIx (cV 0) (cV 4))) (cV 4))) [some (.st (lT es)), a, some (.st (.int p)), b, none] mu = some (tI (starOf es p), mu) := by
    intro p a b mu
    have er3 : oRng (.int (es.map tI).length) = some ((rng es.length).map D.int) := by rw [List.length_map]; exact er2
    simp only [List.length_map, fnRun, fnRes, bCons, bNil, bPub, sNo, sSet, sRet, sIf, sExpr, sOwn, sApp, sExt, sAsg, sParEE, sParEF, sParFF, lstAt, cL, cLc, cSq, cUn, cUnL, cUnB, cV, cK, cB, cT, oB, cNot, cAnd, cOr, cIf, cCmp, cBin, cBinL, cChain, iLe, iLt, cTt, cTup, cLst, cNil, cCons, cCall, retOf, cMake, cLenI, oFld, cOwS, cOw, cScal, cScalB, pubSls, pubS, scalB, cSl, cSlL, cO0, cO1, En.start, List.map_cons, List.map_nil, List.length_cons, List.length_nil, List.replicate, List.cons_append, List.nil_append, List.getElem?_cons_zero, List.getElem?_cons_succ, Option.bind_some, Option.map_some, Option.bind_none, Option.map_none, oSeq_l, oSeq_t, oSeq_tI, oSeq_lI, oSeq_tT, oSeq_lT, oTuple, oInt, oLen_l, oLen_t, oLen_tI, oLen_lI, oLen_tT, oLen_lT, oNeg, oAdd, oAddL, oSub, oMod, oEnum, List.set_cons_zero, List.set_cons_succ, lcRun_A, lcBody, tN, tTp, tT1, tT0, wipeL, cond_pair, lcRunA_pure, fm_some, fm_if, if_true, cond_true, cond_false, Nat.reduceAdd, Nat.reduceLeDiff, Nat.zero_add, ite_true, ite_false, Bool.and_true, Bool.true_and, reduceIte, Nat.zero_le, Option.join_some, bLt_i, bGt_i, bLe_i, bGe_i, oIs, noOb, bNon, bNotNon, bIsB, bNotB, er2]
    rw [lcRunA_mem (g := fun t => cond (decide (p ∈ es.getD t.toNat [])) (some (.int t)) none) (fun t ht => by
      obtain ⟨h1, h2⟩ := rng_mem.mp ht
      obtain ⟨k, rfl⟩ := Int.eq_ofNat_of_zero_le h1
      have hk : k < es.length := by omega
      have e6 : oIx (.list (es.map tI)) (.int (k : Nat)) = some (tI (es.getD k [])) := by
        rw [oIx_nat, List.getElem?_map, List.getElem?_eq_getElem hk, List.getD_eq_getElem?_getD, List.getElem?_eq_getElem hk]
        rfl
      simp only [List.length_map, fnRun, fnRes, bCons, bNil, bPub, sNo, sSet, sRet, sIf, sExpr, sOwn, sApp, sExt, sAsg, sParEE, sParEF, sParFF, lstAt, cL, cLc, cSq, cUn, cUnL, cUnB, cV, cK, cB, cT, oB, cNot, cAnd, cOr, cIf, cCmp, cBin, cBinL, cChain, iLe, iLt, cTt, cTup, cLst, cNil, cCons, cCall, retOf, cMake, cLenI, oFld, cOwS, cOw, cScal, cScalB, pubSls, pubS, scalB, cSl, cSlL, cO0, cO1, En.start, List.map_cons, List.map_nil, List.length_cons, List.length_nil, List.replicate, List.cons_append, List.nil_append, List.getElem?_cons_zero, List.getElem?_cons_succ, Option.bind_some, Option.map_some, Option.bind_none, Option.map_none, oSeq_l, oSeq_t, oSeq_tI, oSeq_lI, oSeq_tT, oSeq_lT, oTuple, oInt, oLen_l, oLen_t, oLen_tI, oLen_lI, oLen_tT, oLen_lT, oNeg, oAdd, oAddL, oSub, oMod, oEnum, List.set_cons_zero, List.set_cons_succ, lcRun_A, lcBody, tN, tTp, tT1, tT0, wipeL, cond_pair, lcRunA_pure, fm_some, fm_if, if_true, cond_true, cond_false, Nat.reduceAdd, Nat.reduceLeDiff, Nat.zero_add, ite_true, ite_false, Bool.and_true, Bool.true_and, reduceIte, Nat.zero_le, Option.join_some, bLt_i, bGt_i, bLe_i, bGe_i, oIs, noOb, bNon, bNotNon, bIsB, bNotB, bIn_i, bIn_iL, bNin_i, bNin_iL, bIn_t, bIn_tL, bNin_t, bNin_tL, bEq_i, bNe_i, bEq_t, bNe_t, bEq_l, bNe_l, bEq_tT, bNe_tT, bEq_lT, bNe_lT, bNe_t0, bEq_t0, bNe_l0, bNe_lT0, bEq_tT0, oAll_map, oAny_map, e6]
      rw [Int.toNat_natCast]
      try (cases decide (p ∈ es.getD k []) <;> rfl))]
    simp only [List.length_map, fnRun, fnRes, bCons, bNil, bPub, sNo, sSet, sRet, sIf, sExpr, sOwn, sApp, sExt, sAsg, sParEE, sParEF, sParFF, lstAt, cL, cLc, cSq, cUn, cUnL, cUnB, cV, cK, cB, cT, oB, cNot, cAnd, cOr, cIf, cCmp, cBin, cBinL, cChain, iLe, iLt, cTt, cTup, cLst, cNil, cCons, cCall, retOf, cMake, cLenI, oFld, cOwS, cOw, cScal, cScalB, pubSls, pubS, scalB, cSl, cSlL, cO0, cO1, En.start, List.map_cons, List.map_nil, List.length_cons, List.length_nil, List.replicate, List.cons_append, List.nil_append, List.getElem?_cons_zero, List.getElem?_cons_succ, Option.bind_some, Option.map_some, Option.bind_none, Option.map_none, oSeq_l, oSeq_t, oSeq_tI, oSeq_lI, oSeq_tT, oSeq_lT, oTuple, oInt, oLen_l, oLen_t, oLen_tI, oLen_lI, oLen_tT, oLen_lT, oNeg, oAdd, oAddL, oSub, oMod, oEnum, List.set_cons_zero, List.set_cons_succ, lcRun_A, lcBody, tN, tTp, tT1, tT0, wipeL, cond_pair, lcRunA_pure, fm_some, fm_if, if_true, cond_true, cond_false, Nat.reduceAdd, Nat.reduceLeDiff, Nat.zero_add, ite_true, ite_false, Bool.and_true, Bool.true_and, reduceIte, Nat.zero_le, Option.join_some, bLt_i, bGt_i, bLe_i, bGe_i, oIs, noOb, bNon, bNotNon, bIsB, bNotB]
    try rfl
  unfold f__law_stars
  refine fnRun_rt ?_
  rw [bCons_nx (Γ' := ⟨[some (.st (lT es)), some (.lst []), none, none, none], mu⟩) (by rfl)]
  refine bFor D.int (rng 24) mu (fun rest Γ => ∃ (found : List (List Int)) (a b : Option Sl), Γ = ⟨[some (.st (lT es)), some (.lst (found.map tI)), a, b, none], mu⟩ ∧ found ++ (rest.map (starOf es)).filter (fun s => !decide (s = [])) = starsL es ∧ (∀ s ∈ found, s ≠ []) ∧ found.length + rest.length ≤ 24) ?_ ?_ ?_ ?_
  · simp only [List.length_map, fnRun, fnRes, bCons, bNil, bPub, sNo, sSet, sRet, sIf, sExpr, sOwn, sApp, sExt, sAsg, sParEE, sParEF, sParFF, lstAt, cL, cLc, cSq, cUn, cUnL, cUnB, cV, cK, cB, cT, oB, cNot, cAnd, cOr, cIf, cCmp, cBin, cBinL, cChain, iLe, iLt, cTt, cTup, cLst, cNil, cCons, cCall, retOf, cMake, cLenI, oFld, cOwS, cOw, cScal, cScalB, pubSls, pubS, scalB, cSl, cSlL, cO0, cO1, En.start, List.map_cons, List.map_nil, List.length_cons, List.length_nil, List.replicate, List.cons_append, List.nil_append, List.getElem?_cons_zero, List.getElem?_cons_succ, Option.bind_some, Option.map_some, Option.bind_none, Option.map_none, oSeq_l, oSeq_t, oSeq_tI, oSeq_lI, oSeq_tT, oSeq_lT, oTuple, oInt, oLen_l, oLen_t, oLen_tI, oLen_lI, oLen_tT, oLen_lT, oNeg, oAdd, oAddL, oSub, oMod, oEnum, List.set_cons_zero, List.set_cons_succ, lcRun_A, lcBody, tN, tTp, tT1, tT0, wipeL, cond_pair, lcRunA_pure, fm_some, fm_if, if_true, cond_true, cond_false, Nat.reduceAdd, Nat.reduceLeDiff, Nat.zero_add, ite_true, ite_false, Bool.and_true, Bool.true_and, reduceIte, Nat.zero_le, Option.join_some, bLt_i, bGt_i, bLe_i, bGe_i, oIs, noOb, bNon, bNotNon, bIsB, bNotB, er]
  · exact ⟨[], none, none, rfl, rfl, (fun s hs => by cases hs), by rw [rng_len]; simp⟩
  · rintro p rest Γ ⟨found, a, b, rfl, h1, h2, h3⟩
    rw [List.length_cons] at h3
    by_cases hs : starOf es p = []
    · refine ⟨_, ⟨[some (.st (lT es)), some (.lst (found.map tI)), some (.st (.int p)), some (.st (tI (starOf es p))), none], mu⟩, rfl, .inl ?_, found, _, _, rfl, ?_, h2, by omega⟩
      · rw [bCons_nx (Γ' := ⟨[some (.st (lT es)), some (.lst (found.map tI)), some (.st (.int p)), some (.st (tI (starOf es p))), none], mu⟩)]
        · simp only [List.length_map, fnRun, fnRes, bCons, bNil, bPub, sNo, sSet, sRet, sIf, sExpr, sOwn, sApp, sExt, sAsg, sParEE, sParEF, sParFF, lstAt, cL, cLc, cSq, cUn, cUnL, cUnB, cV, cK, cB, cT, oB, cNot, cAnd, cOr, cIf, cCmp, cBin, cBinL, cChain, iLe, iLt, cTt, cTup, cLst, cNil, cCons, cCall, retOf, cMake, cLenI, oFld, cOwS, cOw, cScal, cScalB, pubSls, pubS, scalB, cSl, cSlL, cO0, cO1, En.start, List.map_cons, List.map_nil, List.length_cons, List.length_nil, List.replicate, List.cons_append, List.nil_append, List.getElem?_cons_zero, List.getElem?_cons_succ, Option.bind_some, Option.map_some, Option.bind_none, Option.map_none, oSeq_l, oSeq_t, oSeq_tI, oSeq_lI, oSeq_tT, oSeq_lT, oTuple, oInt, oLen_l, oLen_t, oLen_tI, oLen_lI, oLen_tT, oLen_lT, oNeg, oAdd, oAddL, oSub, oMod, oEnum, List.set_cons_zero, List.set_cons_succ, lcRun_A, lcBody, tN, tTp, tT1, tT0, wipeL, cond_pair, lcRunA_pure, fm_some, fm_if, if_true, cond_true, cond_false, Nat.reduceAdd, Nat.reduceLeDiff, Nat.zero_add, ite_true, ite_false, Bool.and_true, Bool.true_and, reduceIte, Nat.zero_le, Option.join_some, bLt_i, bGt_i, bLe_i, bGe_i, oIs, noOb, bNon, bNotNon, bIsB, bNotB, bIn_i, bIn_iL, bNin_i, bNin_iL, bIn_t, bIn_tL, bNin_t, bNin_tL, bEq_i, bNe_i, bEq_t, bNe_t, bEq_l, bNe_l, bEq_tT, bNe_tT, bEq_lT, bNe_lT, bNe_t0, bEq_t0, bNe_l0, bNe_lT0, bEq_tT0, oAll_map, oAny_map, hs, decide_true, Bool.not_true, bNe_t0]
          try rfl
        · exact sSet_nx (star p _ _ _)
      · rw [← h1, List.map_cons, List.filter_cons, hs]
        rfl
    · refine ⟨_, ⟨[some (.st (lT es)), some (.lst ((found ++ [starOf es p]).map tI)), some (.st (.int p)), some (.st (tI (starOf es p))), none], mu⟩, rfl, .inl ?_, found ++ [starOf es p], _, _, rfl, ?_, ?_, by rw [List.length_append, List.length_singleton]; omega⟩
      · rw [bCons_nx (Γ' := ⟨[some (.st (lT es)), some (.lst (found.map tI)), some (.st (.int p)), some (.st (tI (starOf es p))), none], mu⟩)]
        · simp only [List.length_map, fnRun, fnRes, bCons, bNil, bPub, sNo, sSet, sRet, sIf, sExpr, sOwn, sApp, sExt, sAsg, sParEE, sParEF, sParFF, lstAt, cL, cLc, cSq, cUn, cUnL, cUnB, cV, cK, cB, cT, oB, cNot, cAnd, cOr, cIf, cCmp, cBin, cBinL, cChain, iLe, iLt, cTt, cTup, cLst, cNil, cCons, cCall, retOf, cMake, cLenI, oFld, cOwS, cOw, cScal, cScalB, pubSls, pubS, scalB, cSl, cSlL, cO0, cO1, En.start, List.map_cons, List.map_nil, List.length_cons, List.length_nil, List.replicate, List.cons_append, List.nil_append, List.getElem?_cons_zero, List.getElem?_cons_succ, Option.bind_some, Option.map_some, Option.bind_none, Option.map_none, oSeq_l, oSeq_t, oSeq_tI, oSeq_lI, oSeq_tT, oSeq_lT, oTuple, oInt, oLen_l, oLen_t, oLen_tI, oLen_lI, oLen_tT, oLen_lT, oNeg, oAdd, oAddL, oSub, oMod, oEnum, List.set_cons_zero, List.set_cons_succ, lcRun_A, lcBody, tN, tTp, tT1, tT0, wipeL, cond_pair, lcRunA_pure, fm_some, fm_if, if_true, cond_true, cond_false, Nat.reduceAdd, Nat.reduceLeDiff, Nat.zero_add, ite_true, ite_false, Bool.and_true, Bool.true_and, reduceIte, Nat.zero_le, Option.join_some, bLt_i, bGt_i, bLe_i, bGe_i, oIs, noOb, bNon, bNotNon, bIsB, bNotB, bIn_i, bIn_iL, bNin_i, bNin_iL, bIn_t, bIn_tL, bNin_t, bNin_tL, bEq_i, bNe_i, bEq_t, bNe_t, bEq_l, bNe_l, bEq_tT, bNe_tT, bEq_lT, bNe_lT, bNe_t0, bEq_t0, bNe_l0, bNe_lT0, bEq_tT0, oAll_map, oAny_map, decide_eq_false hs, Bool.not_false, bNe_t0]
          rw [if_pos (by omega), map_snoc]
        · exact sSet_nx (star p _ _ _)
      · rw [← h1, List.map_cons, List.filter_cons, decide_eq_false hs, List.append_assoc]
        rfl
      · intro s hs2
        rcases List.mem_append.mp hs2 with hs2 | hs2
        · exact h2 s hs2
        · rw [List.mem_singleton.mp hs2]; exact hs
  · rintro Γ ⟨found, a, b, rfl, h1, h2, h3⟩
    have h1' : found = starsL es := by rw [← h1]; simp
    simp only [List.length_map, fnRun, fnRes, bCons, bNil, bPub, sNo, sSet, sRet, sIf, sExpr, sOwn, sApp, sExt, sAsg, sParEE, sParEF, sParFF, lstAt, cL, cLc, cSq, cUn, cUnL, cUnB, cV, cK, cB, cT, oB, cNot, cAnd, cOr, cIf, cCmp, cBin, cBinL, cChain, iLe, iLt, cTt, cTup, cLst, cNil, cCons, cCall, retOf, cMake, cLenI, oFld, cOwS, cOw, cScal, cScalB, pubSls, pubS, scalB, cSl, cSlL, cO0, cO1, En.start, List.map_cons, List.map_nil, List.length_cons, List.length_nil, List.replicate, List.cons_append, List.nil_append, List.getElem?_cons_zero, List.getElem?_cons_succ, Option.bind_some, Option.map_some, Option.bind_none, Option.map_none, oSeq_l, oSeq_t, oSeq_tI, oSeq_lI, oSeq_tT, oSeq_lT, oTuple, oInt, oLen_l, oLen_t, oLen_tI, oLen_lI, oLen_tT, oLen_lT, oNeg, oAdd, oAddL, oSub, oMod, oEnum, List.set_cons_zero, List.set_cons_succ, lcRun_A, lcBody, tN, tTp, tT1, tT0, wipeL, cond_pair, lcRunA_pure, fm_some, fm_if, if_true, cond_true, cond_false, Nat.reduceAdd, Nat.reduceLeDiff, Nat.zero_add, ite_true, ite_false, Bool.and_true, Bool.true_and, reduceIte, Nat.zero_le, Option.join_some, bLt_i, bGt_i, bLe_i, bGe_i, oIs, noOb, bNon, bNotNon, bIsB, bNotB, bIn_i, bIn_iL, bNin_i, bNin_iL, bIn_t, bIn_tL, bNin_t, bNin_tL, bEq_i, bNe_i, bEq_t, bNe_t, bEq_l, bNe_l, bEq_tT, bNe_tT, bEq_lT, bNe_lT, bNe_t0, bEq_t0, bNe_l0, bNe_lT0, bEq_tT0, oAll_map, oAny_map]
    rw [← lT, oSorted_T h2, h1']
    rfl
theorem cnt_filter (l : List Int) (hn : l.Nodup) (c : Int → Bool) (t : Int) : (l.filter c).count t = if t ∈ l ∧ c t = true then 1 else 0 := by
  by_cases h : t ∈ l ∧ c t = true
  · rw [if_pos h]
    have h1 : t ∈ l.filter c := List.mem_filter.mpr h
    have h2 := List.one_le_count_iff.mpr h1
    have h3 := List.nodup_iff_count.mp (hn.filter c) t
    omega
  · rw [if_neg h]
    exact List.count_eq_zero.mpr fun z => h (List.mem_filter.mp z)
theorem cnt_flat (es : List (List Int)) (hp : ∀ s ∈ es, P2 s) (t : Int) : ∀ ps : List Int, ps.Nodup → (ps.map (starOf es)).flatten.count t ≤ 2 := by
  intro ps hn
  by_cases ht : t ∈ rng es.length
  · obtain ⟨h1, h2⟩ := rng_mem.mp ht
    have hk : t.toNat < es.length := by omega
    obtain ⟨x, y, e, _⟩ := hp _ (List.getElem_mem hk)
    have e2 : es.getD t.toNat [] = [x, y] := by rw [List.getD_eq_getElem?_getD, List.getElem?_eq_getElem hk, ← e]; rfl
    have key : ∀ ps : List Int, (ps.map (starOf es)).flatten.count t ≤ ps.count x + ps.count y := by
      intro ps
      induction ps with
      | nil => simp
      | cons p ps ih =>
        have hc : (starOf es p).count t ≤ (if p = x then 1 else 0) + (if p = y then 1 else 0) := by
          unfold starOf
          rw [cnt_filter _ (rng_nodup _), e2]
          by_cases hx : p = x
          · rw [if_pos hx]; split <;> omega
          · by_cases hy : p = y
            · rw [if_pos hy]; split <;> omega
            · rw [if_neg (by simp [hx, hy])]; omega
        rw [List.map_cons, List.flatten_cons, List.count_append, List.count_cons, List.count_cons]
        simp only [beq_iff_eq]
        omega
    have h3 := List.nodup_iff_count.mp hn x
    have h4 := List.nodup_iff_count.mp hn y
    have := key ps
    omega
  · have : (ps.map (starOf es)).flatten.count t = 0 := List.count_eq_zero.mpr fun z => by
      obtain ⟨s, h1, h2⟩ := List.mem_flatten.mp z
      obtain ⟨p, _, rfl⟩ := List.mem_map.mp h1
      exact ht (List.mem_filter.mp h2).1
    omega
theorem flat_filter (ss : List (List Int)) : (ss.filter fun s => !decide (s = [])).flatten = ss.flatten := by
  induction ss with
  | nil => rfl
  | cons s ss ih =>
    rw [List.filter_cons]
    by_cases h : s = []
    · subst h; simpa using ih
    · rw [decide_eq_false h]
      show (s :: _).flatten = _
      rw [List.flatten_cons, List.flatten_cons, ih]
theorem starsL_ok {es : List (List Int)} (h : es.length ≤ 12) (hp : ∀ s ∈ es, P2 s) : OkW (srt (starsL es)) es.length := by
  have pf := (srt_perm (starsL es)).flatten
  have hmem : ∀ s ∈ srt (starsL es), s ≠ [] ∧ ∃ p, s = starOf es p := fun s hs => by
    obtain ⟨h1, h2⟩ := List.mem_filter.mp ((srt_perm _).mem_iff.mp hs)
    obtain ⟨p, _, rfl⟩ := List.mem_map.mp h1
    exact ⟨by simpa using h2, p, rfl⟩
  refine ⟨fun s hs => (hmem s hs).1, fun s hs => ?_, srt_pw _, fun t => ?_, fun t => ?_, h⟩
  · obtain ⟨p, rfl⟩ := (hmem s hs).2
    exact (rng_pw _).filter _
  · rw [pf.count_eq, starsL, flat_filter]
    exact cnt_flat es hp t (rng 24) (rng_nodup 24)
  · rw [pf.mem_iff, starsL, flat_filter]
    constructor
    · intro z
      obtain ⟨s, h1, h2⟩ := List.mem_flatten.mp z
      obtain ⟨p, _, rfl⟩ := List.mem_map.mp h1
      exact rng_mem.mp (List.mem_filter.mp h2).1
    · intro z
      have hk : t.toNat < es.length := by omega
      obtain ⟨x, y, e, x0, x1, _⟩ := hp _ (List.getElem_mem hk)
      refine List.mem_flatten.mpr ⟨starOf es x, List.mem_map.mpr ⟨x, rng_mem.mpr (by omega), rfl⟩, List.mem_filter.mpr ⟨rng_mem.mpr z, ?_⟩⟩
      rw [List.getD_eq_getElem?_getD, List.getElem?_eq_getElem hk]
      show decide (x ∈ es[t.toNat]) = true
      rw [e]
      simp
theorem rl_web {a : Addr} {B most : Nat} (hk : most ≤ 10) (m : Mo a (B + 100) mu) : ∃ ss n mu', f__law_web C mu [.ref a, .int most] = some (mu', .ret (tT ss)) ∧ OkW ss n ∧ n ≤ 10 ∧ Mo a B mu' := by
  obtain ⟨es, mu', e1, h1, h2, h3⟩ := rl_ends (C := C) hk m
  have e2 := rl_stars (C := C) (mu := mu') (es := es) (by omega)
  refine ⟨_, _, mu', ?_, starsL_ok (by omega) h2, h1, h3⟩
  unfold f__law_web
  refine fnRun_rt ?_
  simp only [List.length_map, fnRun, fnRes, bCons, bNil, bPub, sNo, sSet, sRet, sIf, sExpr, sOwn, sApp, sExt, sAsg, sParEE, sParEF, sParFF, lstAt, cL, cLc, cSq, cUn, cUnL, cUnB, cV, cK, cB, cT, oB, cNot, cAnd, cOr, cIf, cCmp, cBin, cBinL, cChain, iLe, iLt, cTt, cTup, cLst, cNil, cCons, cCall, retOf, cMake, cLenI, oFld, cOwS, cOw, cScal, cScalB, pubSls, pubS, scalB, cSl, cSlL, cO0, cO1, En.start, List.map_cons, List.map_nil, List.length_cons, List.length_nil, List.replicate, List.cons_append, List.nil_append, List.getElem?_cons_zero, List.getElem?_cons_succ, Option.bind_some, Option.map_some, Option.bind_none, Option.map_none, oSeq_l, oSeq_t, oSeq_tI, oSeq_lI, oSeq_tT, oSeq_lT, oTuple, oInt, oLen_l, oLen_t, oLen_tI, oLen_lI, oLen_tT, oLen_lT, oNeg, oAdd, oAddL, oSub, oMod, oEnum, List.set_cons_zero, List.set_cons_succ, lcRun_A, lcBody, tN, tTp, tT1, tT0, wipeL, cond_pair, lcRunA_pure, fm_some, fm_if, if_true, cond_true, cond_false, Nat.reduceAdd, Nat.reduceLeDiff, Nat.zero_add, ite_true, ite_false, Bool.and_true, Bool.true_and, reduceIte, Nat.zero_le, Option.join_some, bLt_i, bGt_i, bLe_i, bGe_i, oIs, noOb, bNon, bNotNon, bIsB, bNotB, e1, e2]
end T
set_option Elab.async false
set_option linter.all false
set_option maxRecDepth 100000
set_option maxHeartbeats 800000
namespace T
open PySem PySem.Spec PyProof.Rows L2 Y
variable {C : Addr} {mu : Mu}
theorem rl_like {d : D} {n : Nat} (h : Shn d n) (hn : n ≤ 1000000) : f__law_like C mu [d, d] = some (mu, .ret (.bool true)) := by
  unfold f__law_like
  refine fnRun_rt ?_
  simp only [List.length_map, fnRun, fnRes, bCons, bNil, bPub, sNo, sSet, sRet, sIf, sExpr, sOwn, sApp, sExt, sAsg, sParEE, sParEF, sParFF, lstAt, cL, cLc, cSq, cUn, cUnL, cUnB, cV, cK, cB, cT, oB, cNot, cAnd, cOr, cIf, cCmp, cBin, cBinL, cChain, iLe, iLt, cTt, cTup, cLst, cNil, cCons, cCall, retOf, cMake, cLenI, oFld, cOwS, cOw, cScal, cScalB, pubSls, pubS, scalB, cSl, cSlL, cO0, cO1, En.start, List.map_cons, List.map_nil, List.length_cons, List.length_nil, List.replicate, List.cons_append, List.nil_append, List.getElem?_cons_zero, List.getElem?_cons_succ, Option.bind_some, Option.map_some, Option.bind_none, Option.map_none, oSeq_l, oSeq_t, oSeq_tI, oSeq_lI, oSeq_tT, oSeq_lT, oTuple, oInt, oLen_l, oLen_t, oLen_tI, oLen_lI, oLen_tT, oLen_lT, oNeg, oAdd, oAddL, oSub, oMod, oEnum, List.set_cons_zero, List.set_cons_succ, lcRun_A, lcBody, tN, tTp, tT1, tT0, wipeL, cond_pair, lcRunA_pure, fm_some, fm_if, if_true, cond_true, cond_false, Nat.reduceAdd, Nat.reduceLeDiff, Nat.zero_add, ite_true, ite_false, Bool.and_true, Bool.true_and, reduceIte, Nat.zero_le, Option.join_some, bLt_i, bGt_i, bLe_i, bGe_i, oIs, noOb, bNon, bNotNon, bIsB, bNotB, h.repr hn, h.same]
theorem rounds_mem {ss : List (List Int)} {n : Nat} {s : List Int} (h : s ∈ rounds ss n) : s ∈ subs (rng n) := mem_setsOf.mp (List.mem_filter.mp h).1
theorem foldS_sub : ∀ (ts : List Int) (acc : List (List Int)) (pre : List Int), (∀ s ∈ acc, s.Sublist pre) → ∀ s ∈ ts.foldl (fun acc t => acc ++ acc.map (· ++ [t])) acc, s.Sublist (pre ++ ts)
  | [], acc, pre, h, s, hs => by rw [List.append_nil]; exact h s hs
  | t :: ts, acc, pre, h, s, hs => by
    have := foldS_sub ts (acc ++ acc.map (· ++ [t])) (pre ++ [t]) (fun s hs => by
      rcases List.mem_append.mp hs with hs | hs
      · exact (h s hs).trans (List.sublist_append_left _ _)
      · obtain ⟨s', hs', rfl⟩ := List.mem_map.mp hs
        exact (h s' hs').append (List.Sublist.refl _)) s hs
    rwa [List.append_assoc] at this
theorem subs_sub {ts s : List Int} (h : s ∈ subs ts) : s.Sublist ts := by
  have := foldS_sub ts [[]] [] (fun s hs => by rw [List.mem_singleton.mp hs]; exact .refl _) s h
  rwa [List.nil_append] at this
theorem sub_ok {n : Nat} {s : List Int} (h : s ∈ subs (rng n)) : s.Pairwise (· < ·) ∧ (∀ x ∈ s, 0 ≤ x ∧ x < (n : Int)) ∧ s.length ≤ n :=
  ⟨(rng_pw n).sublist (subs_sub h), fun x hx => rng_mem.mp ((subs_sub h).subset hx), by have := (subs_sub h).length_le; rwa [rng_len] at this⟩
theorem rounds_shn {ss : List (List Int)} {n : Nat} (hn : n ≤ 10) : Shn (tT (rounds ss n)) 158723 := by
  have hl : (rounds ss n).length ≤ 1024 := by
    refine Nat.le_trans (List.length_filter_le _ _) ?_
    rw [len_setsOf, rng_len]
    exact Nat.pow_le_pow_right (by decide) hn
  exact (shn_tT (m := 10) (k := 1024) (fun s hs x hx => by have := (sub_ok (rounds_mem hs)).2.1 x hx; omega) (fun s hs => by have := (sub_ok (rounds_mem hs)).2.2; omega) hl).le (by decide)
theorem odd_no {ss : List (List Int)} {n : Nat} {t : List Int} (hn : n ≤ 12) (h : isSet t n = false) : f_is_round C mu [webD C ss n, tI t] = some (mu, .ret (.bool false)) :=
  r_isround0 hn (by rw [r_isset, h])
theorem odd_no0 {ss : List (List Int)} {n : Nat} {d : D} (hn : n ≤ 12) (h : noOb d = true) (ht : isT d = false) : f_is_round C mu [webD C ss n, d] = some (mu, .ret (.bool false)) :=
  r_isround0 hn (r_isset0 h ht)
theorem noOb_lI (s : List Int) : noOb (lI s) = true := rfl
theorem grows_no : ∀ (p : List Int) (x y : Int) (r : List Int), y ≤ x → grows (p ++ x :: y :: r) = false
  | [], x, y, r, h => by
    show (decide (x < y) && _) = false
    rw [decide_eq_false (by omega)]
    rfl
  | z :: p, x, y, r, h => by
    show ((match p ++ x :: y :: r with | [] => true | y :: _ => decide (z < y)) && grows (p ++ x :: y :: r)) = false
    rw [grows_no p x y r h, Bool.and_false]
theorem isSet_no {t p r : List Int} {x y : Int} {n : Int} (e : t = p ++ x :: y :: r) (h : y ≤ x) : isSet t n = false := by
  unfold isSet
  rw [e, grows_no p x y r h, Bool.and_false]
theorem two_last {s : List Int} (h : 1 < s.length) : ∃ p x y, s = p ++ [x, y] := by
  rcases List.eq_nil_or_concat s with rfl | ⟨q, y, rfl⟩
  · simp at h
  · rw [List.concat_eq_append] at *
    rcases List.eq_nil_or_concat q with rfl | ⟨p, x, rfl⟩
    · simp at h
    · exact ⟨p, x, y, by rw [List.concat_eq_append, List.append_assoc]; rfl⟩
theorem map_cutL {α β : Type} (f : α → β) (xs : List α) (lo hi : Option Int) : cutL (xs.map f) lo hi = (cutL xs lo hi).map f := by
  unfold cutL
  rw [List.length_map, List.map_take, List.map_drop]
theorem r_isend {s : List Int} (h : P2 s) : f_is_end C mu [tI s] = some (mu, .ret (.bool true)) := by
  have e : ∀ (x : Int) (mu : Mu), f_is_among C mu [.int x, .int 0, .int 23] = some (mu, .ret (.bool (decide (0 ≤ x) && decide (x ≤ 23)))) := fun x _ => r_is_among rfl
  have hl : s.length = 2 := by obtain ⟨x, y, rfl, _⟩ := h; rfl
  have ha : (s.all fun x => decide (0 ≤ x) && decide (x ≤ 23)) = true := by
    obtain ⟨x, y, rfl, x0, x1, y0, y1⟩ := h
    simp [x0, x1, y0, y1]
  unfold f_is_end
  refine fnRun_rt ?_
  rw [bCons_nx (Γ' := ⟨[some (.st (tI s)), none], mu⟩)]
  · simp only [List.length_map, fnRun, fnRes, bCons, bNil, bPub, sNo, sSet, sRet, sIf, sExpr, sOwn, sApp, sExt, sAsg, sParEE, sParEF, sParFF, lstAt, cL, cLc, cSq, cUn, cUnL, cUnB, cV, cK, cB, cT, oB, cNot, cAnd, cOr, cIf, cCmp, cBin, cBinL, cChain, iLe, iLt, cTt, cTup, cLst, cNil, cCons, cCall, retOf, cMake, cLenI, oFld, cOwS, cOw, cScal, cScalB, pubSls, pubS, scalB, cSl, cSlL, cO0, cO1, En.start, List.map_cons, List.map_nil, List.length_cons, List.length_nil, List.replicate, List.cons_append, List.nil_append, List.getElem?_cons_zero, List.getElem?_cons_succ, Option.bind_some, Option.map_some, Option.bind_none, Option.map_none, oSeq_l, oSeq_t, oSeq_tI, oSeq_lI, oSeq_tT, oSeq_lT, oTuple, oInt, oLen_l, oLen_t, oLen_tI, oLen_lI, oLen_tT, oLen_lT, oNeg, oAdd, oAddL, oSub, oMod, oEnum, List.set_cons_zero, List.set_cons_succ, lcRun_A, lcBody, tN, tTp, tT1, tT0, wipeL, cond_pair, lcRunA_pure, fm_some, fm_if, if_true, cond_true, cond_false, Nat.reduceAdd, Nat.reduceLeDiff, Nat.zero_add, ite_true, ite_false, Bool.and_true, Bool.true_and, reduceIte, Nat.zero_le, Option.join_some, bLt_i, bGt_i, bLe_i, bGe_i, oIs, noOb, bNon, bNotNon, bIsB, bNotB, bIn_i, bIn_iL, bNin_i, bNin_iL, bIn_t, bIn_tL, bNin_t, bNin_tL, bEq_i, bNe_i, bEq_t, bNe_t, bEq_l, bNe_l, bEq_tT, bNe_tT, bEq_lT, bNe_lT, bNe_t0, bEq_t0, bNe_l0, bNe_lT0, bEq_tT0, oAll_map, oAny_map, e, ha]
  · simp only [List.length_map, fnRun, fnRes, bCons, bNil, bPub, sNo, sSet, sRet, sIf, sExpr, sOwn, sApp, sExt, sAsg, sParEE, sParEF, sParFF, lstAt, cL, cLc, cSq, cUn, cUnL, cUnB, cV, cK, cB, cT, oB, cNot, cAnd, cOr, cIf, cCmp, cBin, cBinL, cChain, iLe, iLt, cTt, cTup, cLst, cNil, cCons, cCall, retOf, cMake, cLenI, oFld, cOwS, cOw, cScal, cScalB, pubSls, pubS, scalB, cSl, cSlL, cO0, cO1, En.start, List.map_cons, List.map_nil, List.length_cons, List.length_nil, List.replicate, List.cons_append, List.nil_append, List.getElem?_cons_zero, List.getElem?_cons_succ, Option.bind_some, Option.map_some, Option.bind_none, Option.map_none, oSeq_l, oSeq_t, oSeq_tI, oSeq_lI, oSeq_tT, oSeq_lT, oTuple, oInt, oLen_l, oLen_t, oLen_tI, oLen_lI, oLen_tT, oLen_lT, oNeg, oAdd, oAddL, oSub, oMod, oEnum, List.set_cons_zero, List.set_cons_succ, lcRun_A, lcBody, tN, tTp, tT1, tT0, wipeL, cond_pair, lcRunA_pure, fm_some, fm_if, if_true, cond_true, cond_false, Nat.reduceAdd, Nat.reduceLeDiff, Nat.zero_add, ite_true, ite_false, Bool.and_true, Bool.true_and, reduceIte, Nat.zero_le, Option.join_some, bLt_i, bGt_i, bLe_i, bGe_i, oIs, noOb, bNon, bNotNon, bIsB, bNotB, bIn_i, bIn_iL, bNin_i, bNin_iL, bIn_t, bIn_tL, bNin_t, bNin_tL, bEq_i, bNe_i, bEq_t, bNe_t, bEq_l, bNe_l, bEq_tT, bNe_tT, bEq_lT, bNe_lT, bNe_t0, bEq_t0, bNe_l0, bNe_lT0, bEq_tT0, oAll_map, oAny_map, isT, hl, Bool.not_true]
    rfl
def stJ (es : List (List Int)) (j : Nat) (p : Int) : List Int := (rng j).filter fun t => decide (p ∈ es.getD t.toNat [])
def flJ (es : List (List Int)) (j : Nat) : List Int := ((es.take j).map norm).flatten
def dW (es : List (List Int)) (j : Nat) (q : List Int) : List (Key × D) := (keysOf (flJ es j ++ q)).map fun p => (Sum.inl p, tI (stJ es j p ++ if p ∈ q then [(j : Int)] else []))
theorem rng_succ (j : Nat) : rng (j + 1) = rng j ++ [(j : Int)] := by
  unfold rng
  rw [List.range_succ, List.map_append]
  rfl
theorem stJ_succ {es : List (List Int)} {j : Nat} (p : Int) : stJ es (j + 1) p = stJ es j p ++ if p ∈ es.getD j [] then [(j : Int)] else [] := by
  unfold stJ
  rw [rng_succ, List.filter_append]
  congr 1
  rw [List.filter_cons, Int.toNat_natCast]
  by_cases h : p ∈ es.getD j []
  · rw [if_pos h, decide_eq_true h]; rfl
  · rw [if_neg h, decide_eq_false h]; rfl
theorem flJ_succ {es : List (List Int)} {j : Nat} (h : j < es.length) : flJ es (j + 1) = flJ es j ++ norm (es.getD j []) := by
  unfold flJ
  rw [List.take_succ, List.getElem?_eq_getElem h, List.map_append, List.flatten_append, List.getD_eq_getElem?_getD, List.getElem?_eq_getElem h]
  simp
theorem flJ_mem {es : List (List Int)} : ∀ {j : Nat}, j ≤ es.length → ∀ p, p ∈ flJ es j ↔ stJ es j p ≠ []
  | 0, _, p => by simp [flJ, stJ, rng]
  | j + 1, h, p => by
    rw [flJ_succ h, List.mem_append, flJ_mem (Nat.le_of_succ_le h), stJ_succ, mem_norm]
    by_cases hp : p ∈ es.getD j []
    · rw [if_pos hp]
      exact ⟨fun _ z => by simp at z, fun _ => .inr hp⟩
    · rw [if_neg hp, List.append_nil]
      exact ⟨fun z => z.elim id fun z => absurd z hp, .inl⟩
theorem dW_succ {es : List (List Int)} {j : Nat} (h : j < es.length) : dW es j (norm (es.getD j [])) = dW es (j + 1) [] := by
  unfold dW
  rw [flJ_succ h, List.append_nil]
  refine List.map_congr_left fun p _ => ?_
  rw [stJ_succ]
  simp only [mem_norm, List.not_mem_nil, if_false, List.append_nil]
theorem dW_get {es : List (List Int)} {j : Nat} {q : List Int} {x : Int} (h : j ≤ es.length) (hx : x ∉ q) : (getG (dW es j q) (Sum.inl x)).getD (.tuple []) = tI (stJ es j x) := by
  unfold dW
  rw [getG_map (fun p => tI (stJ es j p ++ if p ∈ q then [(j : Int)] else []))]
  by_cases hm : x ∈ keysOf (flJ es j ++ q)
  · rw [if_pos hm, if_neg hx, List.append_nil]; rfl
  · rw [if_neg hm]
    have : ¬ stJ es j x ≠ [] := fun z => hm ((mem_keysOf _ _).mpr (List.mem_append_left _ ((flJ_mem h x).mpr z)))
    have h2 : stJ es j x = [] := by by_cases z : stJ es j x = []; exact z; exact absurd z this
    rw [h2]; rfl
theorem dW_put {es : List (List Int)} {j : Nat} {q : List Int} {x : Int} (hx : x ∉ q) : putG (dW es j q) (Sum.inl x) (tI (stJ es j x ++ [(j : Int)])) = dW es j (q ++ [x]) := by
  unfold dW
  rw [putG_map (fun p => tI (stJ es j p ++ if p ∈ q then [(j : Int)] else [])), ← List.append_assoc, keysOf_snoc]
  refine List.map_congr_left fun y _ => ?_
  by_cases e : y = x
  · subst e; simp
  · simp [e]
theorem dW_len {es : List (List Int)} {j : Nat} {q : List Int} : (dW es j q).length ≤ (flJ es j).length + q.length := by
  unfold dW
  rw [List.length_map]
  have := keysOf_len (flJ es j ++ q)
  rwa [List.length_append] at this
theorem flJ_len {es : List (List Int)} (hp : ∀ s ∈ es, P2 s) (hl : es.length ≤ 12) (j : Nat) : (flJ es j).length ≤ 24 := by
  unfold flJ
  have h2 : ∀ ss : List (List Int), (∀ s ∈ ss, P2 s) → ((ss.map norm).flatten).length ≤ 2 * ss.length := by
    intro ss
    induction ss with
    | nil => intro _; simp
    | cons s ss ih =>
      intro h
      have h1 := ih fun s hs => h s (List.mem_cons_of_mem _ hs)
      obtain ⟨x, y, e, _⟩ := h s List.mem_cons_self
      have h3 := len_norm s
      rw [e] at h3
      rw [List.map_cons, List.flatten_cons, List.length_append, List.length_cons, e]
      simp only [List.length_cons, List.length_nil] at h3
      omega
  have := h2 (es.take j) fun s hs => hp s (List.mem_of_mem_take hs)
  have h3 : (es.take j).length ≤ es.length := by rw [List.length_take]; exact Nat.min_le_right _ _
  omega
theorem w_in {q0 : D} {es : List (List Int)} {j : Nat} {s3 : Option Sl} {q : List Int} {x : Int} (hp : ∀ s ∈ es, P2 s) (hl : es.length ≤ 12) (h : j ≤ es.length) (hx : x ∉ q) (hq : q.length < 100) :
    Y.sDPut 1 (cV 4) (cBin oAdd (cDGet2 1 (cV 4) (cTup (cNil))) (cTup (cCons (cV 2) (cNil)))) ⟨[some (.st q0), some (.dK (dW es j q)), some (.st (.int (j : Nat))), s3, some (.st (.int x))], mu⟩
      = some (.nx ⟨[some (.st q0), some (.dK (dW es j (q ++ [x]))), some (.st (.int (j : Nat))), s3, some (.st (.int x))], mu⟩) := by
  have h1 := flJ_len hp hl j
  have h2 := dW_len (es := es) (j := j) (q := q)
  have h3 : (stJ es j x).length ≤ j := by unfold stJ; exact Nat.le_trans (List.length_filter_le _ _) (by rw [rng_len]; exact Nat.le_refl _)
  simp only [List.length_map, fnRun, fnRes, bCons, bNil, bPub, sNo, sSet, sRet, sIf, sExpr, sOwn, sApp, sExt, sAsg, sParEE, sParEF, sParFF, lstAt, cL, cLc, cSq, cUn, cUnL, cUnB, cV, cK, cB, cT, oB, cNot, cAnd, cOr, cIf, cCmp, cBin, cBinL, cChain, iLe, iLt, cTt, cTup, cLst, cNil, cCons, cCall, retOf, cMake, cLenI, oFld, cOwS, cOw, cScal, cScalB, pubSls, pubS, scalB, cSl, cSlL, cO0, cO1, En.start, List.map_cons, List.map_nil, List.length_cons, List.length_nil, List.replicate, List.cons_append, List.nil_append, List.getElem?_cons_zero, List.getElem?_cons_succ, Option.bind_some, Option.map_some, Option.bind_none, Option.map_none, oSeq_l, oSeq_t, oSeq_tI, oSeq_lI, oSeq_tT, oSeq_lT, oTuple, oInt, oLen_l, oLen_t, oLen_tI, oLen_lI, oLen_tT, oLen_lT, oNeg, oAdd, oAddL, oSub, oMod, oEnum, List.set_cons_zero, List.set_cons_succ, lcRun_A, lcBody, tN, tTp, tT1, tT0, wipeL, cond_pair, lcRunA_pure, fm_some, fm_if, if_true, cond_true, cond_false, Nat.reduceAdd, Nat.reduceLeDiff, Nat.zero_add, ite_true, ite_false, Bool.and_true, Bool.true_and, reduceIte, Nat.zero_le, Option.join_some, bLt_i, bGt_i, bLe_i, bGe_i, oIs, noOb, bNon, bNotNon, bIsB, bNotB, Y.sDPut, cDGet2, dKAt, oKey, dW_get h hx]
  rw [if_pos (by omega)]
  simp only [List.length_map, fnRun, fnRes, bCons, bNil, bPub, sNo, sSet, sRet, sIf, sExpr, sOwn, sApp, sExt, sAsg, sParEE, sParEF, sParFF, lstAt, cL, cLc, cSq, cUn, cUnL, cUnB, cV, cK, cB, cT, oB, cNot, cAnd, cOr, cIf, cCmp, cBin, cBinL, cChain, iLe, iLt, cTt, cTup, cLst, cNil, cCons, cCall, retOf, cMake, cLenI, oFld, cOwS, cOw, cScal, cScalB, pubSls, pubS, scalB, cSl, cSlL, cO0, cO1, En.start, List.map_cons, List.map_nil, List.length_cons, List.length_nil, List.replicate, List.cons_append, List.nil_append, List.getElem?_cons_zero, List.getElem?_cons_succ, Option.bind_some, Option.map_some, Option.bind_none, Option.map_none, oSeq_l, oSeq_t, oSeq_tI, oSeq_lI, oSeq_tT, oSeq_lT, oTuple, oInt, oLen_l, oLen_t, oLen_tI, oLen_lI, oLen_tT, oLen_lT, oNeg, oAdd, oAddL, oSub, oMod, oEnum, List.set_cons_zero, List.set_cons_succ, lcRun_A, lcBody, tN, tTp, tT1, tT0, wipeL, cond_pair, lcRunA_pure, fm_some, fm_if, if_true, cond_true, cond_false, Nat.reduceAdd, Nat.reduceLeDiff, Nat.zero_add, ite_true, ite_false, Bool.and_true, Bool.true_and, reduceIte, Nat.zero_le, Option.join_some, bLt_i, bGt_i, bLe_i, bGe_i, oIs, noOb, bNon, bNotNon, bIsB, bNotB]
  rw [if_pos (by omega)]
  have := dW_put (es := es) (j := j) hx
  rw [tI, List.map_append] at this
  rw [← this]
  rfl
theorem nodupB_of {κ : Type} [DecidableEq κ] : ∀ {l : List κ}, l.Nodup → nodupB l = true
  | [], _ => rfl
  | k :: ks, h => by
    unfold nodupB
    obtain ⟨h1, h2⟩ := List.nodup_cons.mp h
    rw [decide_eq_false h1, nodupB_of h2]
    rfl
theorem map_inl_nodup {l : List Int} (h : l.Nodup) : (l.map fun x => (Sum.inl x : Key)).Nodup := by
  unfold List.Nodup at *
  rw [List.pairwise_map]
  exact h.imp fun h e => h (Sum.inl.inj e)
theorem w_stars {es : List (List Int)} (hp : ∀ s ∈ es, P2 s) : srt ((keysOf (flJ es es.length)).map (stJ es es.length)) = srt (starsL es) := by
  have hm := flJ_mem (es := es) (Nat.le_refl _)
  refine srt_congr ?_
  have e1 : starsL es = ((rng 24).filter fun p => !decide (starOf es p = [])).map (starOf es) := by
    unfold starsL
    rw [List.filter_map]
    rfl
  rw [e1]
  refine List.Perm.map _ ?_
  have h1 := keysOf_nodup (flJ es es.length)
  have h2 : ((rng 24).filter fun p => !decide (starOf es p = [])).Nodup := (rng_nodup 24).filter _
  refine perm_of (fun p => ?_) h1 h2
  rw [mem_keysOf, hm, List.mem_filter]
  constructor
  · intro z
    have z2 : starOf es p ≠ [] := z
    refine ⟨?_, by simp [z2]⟩
    obtain ⟨t, ht⟩ := List.exists_mem_of_ne_nil _ z
    obtain ⟨h3, h4⟩ := List.mem_filter.mp ht
    obtain ⟨h5, h6⟩ := rng_mem.mp h3
    have hk : t.toNat < es.length := by omega
    obtain ⟨x, y, e, x0, x1, y0, y1⟩ := hp _ (List.getElem_mem hk)
    rw [List.getD_eq_getElem?_getD, List.getElem?_eq_getElem hk] at h4
    have h7 : p ∈ es[t.toNat] := of_decide_eq_true h4
    rw [e] at h7
    refine rng_mem.mpr ?_
    rcases List.mem_cons.mp h7 with rfl | h7
    · omega
    · rw [List.mem_singleton.mp h7]; omega
  · rintro ⟨_, z⟩ z2
    have : starOf es p = [] := z2
    simp [this] at z
theorem r_webof {es : List (List Int)} (hl : es.length ≤ 12) (hp : ∀ s ∈ es, P2 s) : f_web_of C mu [lT es] = some (mu, .ret (webD C (srt (starsL es)) es.length)) := by
  have e1 : f_is_list C mu [lT es] = some (mu, .ret (.bool true)) := rfl
  unfold f_web_of
  refine fnRun_rt ?_
  rw [bCons_nx (Γ' := ⟨[some (.st (lT es)), none, none, none, none], mu⟩) (by simp only [List.length_map, fnRun, fnRes, bCons, bNil, bPub, sNo, sSet, sRet, sIf, sExpr, sOwn, sApp, sExt, sAsg, sParEE, sParEF, sParFF, lstAt, cL, cLc, cSq, cUn, cUnL, cUnB, cV, cK, cB, cT, oB, cNot, cAnd, cOr, cIf, cCmp, cBin, cBinL, cChain, iLe, iLt, cTt, cTup, cLst, cNil, cCons, cCall, retOf, cMake, cLenI, oFld, cOwS, cOw, cScal, cScalB, pubSls, pubS, scalB, cSl, cSlL, cO0, cO1, En.start, List.map_cons, List.map_nil, List.length_cons, List.length_nil, List.replicate, List.cons_append, List.nil_append, List.getElem?_cons_zero, List.getElem?_cons_succ, Option.bind_some, Option.map_some, Option.bind_none, Option.map_none, oSeq_l, oSeq_t, oSeq_tI, oSeq_lI, oSeq_tT, oSeq_lT, oTuple, oInt, oLen_l, oLen_t, oLen_tI, oLen_lI, oLen_tT, oLen_lT, oNeg, oAdd, oAddL, oSub, oMod, oEnum, List.set_cons_zero, List.set_cons_succ, lcRun_A, lcBody, tN, tTp, tT1, tT0, wipeL, cond_pair, lcRunA_pure, fm_some, fm_if, if_true, cond_true, cond_false, Nat.reduceAdd, Nat.reduceLeDiff, Nat.zero_add, ite_true, ite_false, Bool.and_true, Bool.true_and, reduceIte, Nat.zero_le, Option.join_some, bLt_i, bGt_i, bLe_i, bGe_i, oIs, noOb, bNon, bNotNon, bIsB, bNotB, e1, Bool.not_true])]
  rw [bCons_nx (Γ' := ⟨[some (.st (lT es)), none, none, none, none], mu⟩) (by simp only [List.length_map, fnRun, fnRes, bCons, bNil, bPub, sNo, sSet, sRet, sIf, sExpr, sOwn, sApp, sExt, sAsg, sParEE, sParEF, sParFF, lstAt, cL, cLc, cSq, cUn, cUnL, cUnB, cV, cK, cB, cT, oB, cNot, cAnd, cOr, cIf, cCmp, cBin, cBinL, cChain, iLe, iLt, cTt, cTup, cLst, cNil, cCons, cCall, retOf, cMake, cLenI, oFld, cOwS, cOw, cScal, cScalB, pubSls, pubS, scalB, cSl, cSlL, cO0, cO1, En.start, List.map_cons, List.map_nil, List.length_cons, List.length_nil, List.replicate, List.cons_append, List.nil_append, List.getElem?_cons_zero, List.getElem?_cons_succ, Option.bind_some, Option.map_some, Option.bind_none, Option.map_none, oSeq_l, oSeq_t, oSeq_tI, oSeq_lI, oSeq_tT, oSeq_lT, oTuple, oInt, oLen_l, oLen_t, oLen_tI, oLen_lI, oLen_tT, oLen_lT, oNeg, oAdd, oAddL, oSub, oMod, oEnum, List.set_cons_zero, List.set_cons_succ, lcRun_A, lcBody, tN, tTp, tT1, tT0, wipeL, cond_pair, lcRunA_pure, fm_some, fm_if, if_true, cond_true, cond_false, Nat.reduceAdd, Nat.reduceLeDiff, Nat.zero_add, ite_true, ite_false, Bool.and_true, Bool.true_and, reduceIte, Nat.zero_le, Option.join_some, bLt_i, bGt_i, bLe_i, bGe_i, oIs, noOb, bNon, bNotNon, bIsB, bNotB]; rw [decide_eq_false (by omega)]; rfl)]
  rw [bCons_nx (Γ' := ⟨[some (.st (lT es)), some (.dK (dW es 0 [])), none, none, none], mu⟩) (by rfl)]
  refine bFor (fun p : Nat × List Int => .tuple [.int (p.1 : Nat), tI p.2]) (enumF 0 es) mu (fun rest Γ => ∃ pre suf a b c, rest = enumF pre.length suf ∧ pre ++ suf = es ∧ Γ = ⟨[some (.st (lT es)), some (.dK (dW es pre.length [])), a, b, c], mu⟩) ?_ ?_ ?_ ?_
  · simp only [List.length_map, fnRun, fnRes, bCons, bNil, bPub, sNo, sSet, sRet, sIf, sExpr, sOwn, sApp, sExt, sAsg, sParEE, sParEF, sParFF, lstAt, cL, cLc, cSq, cUn, cUnL, cUnB, cV, cK, cB, cT, oB, cNot, cAnd, cOr, cIf, cCmp, cBin, cBinL, cChain, iLe, iLt, cTt, cTup, cLst, cNil, cCons, cCall, retOf, cMake, cLenI, oFld, cOwS, cOw, cScal, cScalB, pubSls, pubS, scalB, cSl, cSlL, cO0, cO1, En.start, List.map_cons, List.map_nil, List.length_cons, List.length_nil, List.replicate, List.cons_append, List.nil_append, List.getElem?_cons_zero, List.getElem?_cons_succ, Option.bind_some, Option.map_some, Option.bind_none, Option.map_none, oSeq_l, oSeq_t, oSeq_tI, oSeq_lI, oSeq_tT, oSeq_lT, oTuple, oInt, oLen_l, oLen_t, oLen_tI, oLen_lI, oLen_tT, oLen_lT, oNeg, oAdd, oAddL, oSub, oMod, oEnum, List.set_cons_zero, List.set_cons_succ, lcRun_A, lcBody, tN, tTp, tT1, tT0, wipeL, cond_pair, lcRunA_pure, fm_some, fm_if, if_true, cond_true, cond_false, Nat.reduceAdd, Nat.reduceLeDiff, Nat.zero_add, ite_true, ite_false, Bool.and_true, Bool.true_and, reduceIte, Nat.zero_le, Option.join_some, bLt_i, bGt_i, bLe_i, bGe_i, oIs, noOb, bNon, bNotNon, bIsB, bNotB, enumD_map]
  · exact ⟨[], es, none, none, none, rfl, rfl, rfl⟩
  · rintro x xs Γ ⟨pre, suf, a, b, c, h1, h2, rfl⟩
    cases suf with
    | nil => cases h1
    | cons s suf =>
      cases h1
      have hj : pre.length < es.length := by rw [← h2, List.length_append, List.length_cons]; omega
      have hg : es.getD pre.length [] = s := by rw [← h2, List.getD_eq_getElem?_getD]; simp
      have hs : P2 s := hp s (by rw [← h2]; exact List.mem_append_right _ List.mem_cons_self)
      have e2 := r_isend (C := C) (mu := mu) hs
      have hsl : s.length < 64 := by obtain ⟨_, _, rfl, _⟩ := hs; simp
      have hnl : (norm s).length < 64 := Nat.lt_of_le_of_lt (len_norm s) hsl
      obtain ⟨Γ', h3, q, c', rfl, h4⟩ := sForI (it := cSq (cL (cUnL oSset (cV 3)))) (G := tN 4) (body := Y.sDPut 1 (cV 4) (cBin oAdd (cDGet2 1 (cV 4) (cTup (cNil))) (cTup (cCons (cV 2) (cNil))))) (Γ := ⟨[some (.st (lT es)), some (.dK (dW es pre.length [])), some (.st (.int (pre.length : Nat))), some (.st (tI s)), c], mu⟩) D.int (norm s) mu
        (fun rest Γ => ∃ q c', Γ = ⟨[some (.st (lT es)), some (.dK (dW es pre.length q)), some (.st (.int (pre.length : Nat))), some (.st (tI s)), c'], mu⟩ ∧ q ++ rest = norm s) (by simp only [List.length_map, fnRun, fnRes, bCons, bNil, bPub, sNo, sSet, sRet, sIf, sExpr, sOwn, sApp, sExt, sAsg, sParEE, sParEF, sParFF, lstAt, cL, cLc, cSq, cUn, cUnL, cUnB, cV, cK, cB, cT, oB, cNot, cAnd, cOr, cIf, cCmp, cBin, cBinL, cChain, iLe, iLt, cTt, cTup, cLst, cNil, cCons, cCall, retOf, cMake, cLenI, oFld, cOwS, cOw, cScal, cScalB, pubSls, pubS, scalB, cSl, cSlL, cO0, cO1, En.start, List.map_cons, List.map_nil, List.length_cons, List.length_nil, List.replicate, List.cons_append, List.nil_append, List.getElem?_cons_zero, List.getElem?_cons_succ, Option.bind_some, Option.map_some, Option.bind_none, Option.map_none, oSeq_l, oSeq_t, oSeq_tI, oSeq_lI, oSeq_tT, oSeq_lT, oTuple, oInt, oLen_l, oLen_t, oLen_tI, oLen_lI, oLen_tT, oLen_lT, oNeg, oAdd, oAddL, oSub, oMod, oEnum, List.set_cons_zero, List.set_cons_succ, lcRun_A, lcBody, tN, tTp, tT1, tT0, wipeL, cond_pair, lcRunA_pure, fm_some, fm_if, if_true, cond_true, cond_false, Nat.reduceAdd, Nat.reduceLeDiff, Nat.zero_add, ite_true, ite_false, Bool.and_true, Bool.true_and, reduceIte, Nat.zero_le, Option.join_some, bLt_i, bGt_i, bLe_i, bGe_i, oIs, noOb, bNon, bNotNon, bIsB, bNotB, oSset_t hsl]) ⟨[], c, rfl, rfl⟩ (by
          rintro x xs Γ ⟨q, c', rfl, h5⟩
          have hnd : (q ++ x :: xs).Nodup := by rw [h5]; exact (pw_norm s).imp fun h e => by omega
          have hx : x ∉ q := fun z => (List.nodup_append.mp hnd).2.2 x z x List.mem_cons_self rfl
          have hql : q.length < 100 := by have := congrArg List.length h5; rw [List.length_append] at this; omega
          exact ⟨_, _, rfl, .inl (w_in hp hl (Nat.le_of_lt hj) hx hql), q ++ [x], _, rfl, by rw [List.append_assoc]; exact h5⟩)
      refine ⟨_, ⟨[some (.st (lT es)), some (.dK (dW es pre.length q)), some (.st (.int (pre.length : Nat))), some (.st (tI s)), c'], mu⟩, rfl, .inl ?_, pre ++ [s], suf, some (.st (.int (pre.length : Nat))), some (.st (tI s)), c', by rw [List.length_append]; rfl, by rw [← List.append_cons]; exact h2, ?Q⟩
      case Q =>
        rw [List.append_nil] at h4
        subst h4
        rw [List.length_append, List.length_singleton]
        have := dW_succ (es := es) hj
        rw [hg] at this
        rw [← this]
      · rw [bCons_nx (Γ' := ⟨[some (.st (lT es)), some (.dK (dW es pre.length [])), some (.st (.int (pre.length : Nat))), some (.st (tI s)), c], mu⟩) (by simp only [List.length_map, fnRun, fnRes, bCons, bNil, bPub, sNo, sSet, sRet, sIf, sExpr, sOwn, sApp, sExt, sAsg, sParEE, sParEF, sParFF, lstAt, cL, cLc, cSq, cUn, cUnL, cUnB, cV, cK, cB, cT, oB, cNot, cAnd, cOr, cIf, cCmp, cBin, cBinL, cChain, iLe, iLt, cTt, cTup, cLst, cNil, cCons, cCall, retOf, cMake, cLenI, oFld, cOwS, cOw, cScal, cScalB, pubSls, pubS, scalB, cSl, cSlL, cO0, cO1, En.start, List.map_cons, List.map_nil, List.length_cons, List.length_nil, List.replicate, List.cons_append, List.nil_append, List.getElem?_cons_zero, List.getElem?_cons_succ, Option.bind_some, Option.map_some, Option.bind_none, Option.map_none, oSeq_l, oSeq_t, oSeq_tI, oSeq_lI, oSeq_tT, oSeq_lT, oTuple, oInt, oLen_l, oLen_t, oLen_tI, oLen_lI, oLen_tT, oLen_lT, oNeg, oAdd, oAddL, oSub, oMod, oEnum, List.set_cons_zero, List.set_cons_succ, lcRun_A, lcBody, tN, tTp, tT1, tT0, wipeL, cond_pair, lcRunA_pure, fm_some, fm_if, if_true, cond_true, cond_false, Nat.reduceAdd, Nat.reduceLeDiff, Nat.zero_add, ite_true, ite_false, Bool.and_true, Bool.true_and, reduceIte, Nat.zero_le, Option.join_some, bLt_i, bGt_i, bLe_i, bGe_i, oIs, noOb, bNon, bNotNon, bIsB, bNotB, e2, Bool.not_true])]
        exact h3
  · rintro Γ ⟨pre, suf, a, b, c, h1, h2, rfl⟩
    cases suf with
    | cons s suf => cases h1
    | nil =>
      rw [List.append_nil] at h2
      subst h2
      have hv : cDVals 1 4 [some (.st (lT pre)), some (.dK (dW pre pre.length [])), a, b, c] mu = some (((keysOf (flJ pre pre.length)).map (stJ pre pre.length)).map tI, mu) := by
        have h3 := dW_len (es := pre) (j := pre.length) (q := [])
        have h4 := flJ_len hp hl pre.length
        have h5 : (dW pre pre.length []).map (·.1) = (keysOf (flJ pre pre.length)).map fun x => (Sum.inl x : Key) := by unfold dW; rw [List.map_map, List.append_nil]; rfl
        unfold cDVals
        show (if nodupB ((dW pre pre.length []).map (·.1)) = true ∧ (dW pre pre.length []).length ≤ 100000 ∧ 4 < 5 then some ((dW pre pre.length []).map (·.2), mu) else none) = _
        rw [if_pos ⟨by rw [h5]; exact nodupB_of (map_inl_nodup (keysOf_nodup _)), by rw [List.length_nil] at h3; omega, by decide⟩]
        unfold dW
        rw [List.map_map, List.append_nil, List.map_map]
        simp only [List.not_mem_nil, if_false, List.append_nil]
        rfl
      have hne : ∀ s ∈ (keysOf (flJ pre pre.length)).map (stJ pre pre.length), s ≠ [] := fun s hs => by
        obtain ⟨p, h6, rfl⟩ := List.mem_map.mp hs
        exact (flJ_mem (Nat.le_refl _) p).mp ((mem_keysOf _ _).mp h6)
      have hw := r_web (C := C) (mu := mu) (q := lT (srt (starsL pre))) (starsL_ok hl hp) (.inr rfl)
      have hso := oSorted_T hne
      rw [w_stars hp] at hso
      simp only [List.length_map, fnRun, fnRes, bCons, bNil, bPub, sNo, sSet, sRet, sIf, sExpr, sOwn, sApp, sExt, sAsg, sParEE, sParEF, sParFF, lstAt, cL, cLc, cSq, cUn, cUnL, cUnB, cV, cK, cB, cT, oB, cNot, cAnd, cOr, cIf, cCmp, cBin, cBinL, cChain, iLe, iLt, cTt, cTup, cLst, cNil, cCons, cCall, retOf, cMake, cLenI, oFld, cOwS, cOw, cScal, cScalB, pubSls, pubS, scalB, cSl, cSlL, cO0, cO1, En.start, List.map_cons, List.map_nil, List.length_cons, List.length_nil, List.replicate, List.cons_append, List.nil_append, List.getElem?_cons_zero, List.getElem?_cons_succ, Option.bind_some, Option.map_some, Option.bind_none, Option.map_none, oSeq_l, oSeq_t, oSeq_tI, oSeq_lI, oSeq_tT, oSeq_lT, oTuple, oInt, oLen_l, oLen_t, oLen_tI, oLen_lI, oLen_tT, oLen_lT, oNeg, oAdd, oAddL, oSub, oMod, oEnum, List.set_cons_zero, List.set_cons_succ, lcRun_A, lcBody, tN, tTp, tT1, tT0, wipeL, cond_pair, lcRunA_pure, fm_some, fm_if, if_true, cond_true, cond_false, Nat.reduceAdd, Nat.reduceLeDiff, Nat.zero_add, ite_true, ite_false, Bool.and_true, Bool.true_and, reduceIte, Nat.zero_le, Option.join_some, bLt_i, bGt_i, bLe_i, bGe_i, oIs, noOb, bNon, bNotNon, bIsB, bNotB, hv]
      rw [← lT, hso]
      simp only [List.length_map, fnRun, fnRes, bCons, bNil, bPub, sNo, sSet, sRet, sIf, sExpr, sOwn, sApp, sExt, sAsg, sParEE, sParEF, sParFF, lstAt, cL, cLc, cSq, cUn, cUnL, cUnB, cV, cK, cB, cT, oB, cNot, cAnd, cOr, cIf, cCmp, cBin, cBinL, cChain, iLe, iLt, cTt, cTup, cLst, cNil, cCons, cCall, retOf, cMake, cLenI, oFld, cOwS, cOw, cScal, cScalB, pubSls, pubS, scalB, cSl, cSlL, cO0, cO1, En.start, List.map_cons, List.map_nil, List.length_cons, List.length_nil, List.replicate, List.cons_append, List.nil_append, List.getElem?_cons_zero, List.getElem?_cons_succ, Option.bind_some, Option.map_some, Option.bind_none, Option.map_none, oSeq_l, oSeq_t, oSeq_tI, oSeq_lI, oSeq_tT, oSeq_lT, oTuple, oInt, oLen_l, oLen_t, oLen_tI, oLen_lI, oLen_tT, oLen_lT, oNeg, oAdd, oAddL, oSub, oMod, oEnum, List.set_cons_zero, List.set_cons_succ, lcRun_A, lcBody, tN, tTp, tT1, tT0, wipeL, cond_pair, lcRunA_pure, fm_some, fm_if, if_true, cond_true, cond_false, Nat.reduceAdd, Nat.reduceLeDiff, Nat.zero_add, ite_true, ite_false, Bool.and_true, Bool.true_and, reduceIte, Nat.zero_le, Option.join_some, bLt_i, bGt_i, bLe_i, bGe_i, oIs, noOb, bNon, bNotNon, bIsB, bNotB]
      rw [← lT, hw]
      rfl
end T
set_option Elab.async false
set_option linter.all false
set_option maxRecDepth 100000
set_option maxHeartbeats 800000
namespace T
open PySem PySem.Spec PyProof.Rows L2 Y
variable {C : Addr} {mu : Mu}
theorem sForP {α : Type} {it : CL} {G : CG} {body : CS} {Γ : En} (P : Option SO → Prop) (f : α → D) (xs : List α) (mu : Mu) (Iv : List α → En → Prop)
    (hit : it Γ.sl Γ.mu = some (xs.map f, mu)) (h0 : Iv xs ⟨Γ.sl, mu⟩)
    (hs : ∀ x xs Γ, Iv (x :: xs) Γ → ∃ sl Γ', G Γ.sl (f x) = some sl ∧ (body ⟨sl, Γ.mu⟩ = some (.nx Γ') ∨ body ⟨sl, Γ.mu⟩ = some (.ct Γ')) ∧ Iv xs Γ')
    (hr : ∀ Γ, Iv [] Γ → P (some (.nx Γ))) : P (sFor it G body Γ) := by
  obtain ⟨Γ', h1, h2⟩ := sForI (body := body) (G := G) f xs mu Iv hit h0 hs
  rw [h1]
  exact hr _ h2
theorem cut_mem {α : Type} {xs : List α} {lo hi : Option Int} {x : α} (h : x ∈ cutL xs lo hi) : x ∈ xs := List.mem_of_mem_drop (List.mem_of_mem_take h)
theorem cut_len {α : Type} (xs : List α) (lo hi : Option Int) : (cutL xs lo hi).length ≤ xs.length := by
  unfold cutL
  rw [List.length_take, List.length_drop]
  omega
theorem cut_m2 {α : Type} (p : List α) (x y : α) : cutL (p ++ [x, y]) none (some (-2)) = p := by
  have h : HT.sIx (p ++ [x, y]).length (p ++ [x, y]).length (some (-2)) = p.length := by
    show (if (-2 : Int) < 0 then ((-2 : Int) + ((p ++ [x, y]).length : Nat)).toNat else min (-2 : Int).toNat (p ++ [x, y]).length) = _
    rw [if_pos (by decide), List.length_append]
    simp only [List.length_cons, List.length_nil]
    omega
  show ((p ++ [x, y]).drop 0).take (HT.sIx (p ++ [x, y]).length (p ++ [x, y]).length (some (-2)) - 0) = p
  rw [h]
  simp
theorem cut_h2 {α : Type} (p : List α) (x y : α) : cutL (x :: y :: p) none (some 2) = [x, y] := by
  unfold cutL HT.sIx
  simp
theorem cut_l1 {α : Type} (p : List α) (y : α) : cutL (p ++ [y]) (some (-1)) none = [y] := by
  have h : HT.sIx (p ++ [y]).length 0 (some (-1)) = p.length := by
    show (if (-1 : Int) < 0 then ((-1 : Int) + ((p ++ [y]).length : Nat)).toNat else min (-1 : Int).toNat (p ++ [y]).length) = _
    rw [if_pos (by decide), List.length_append]
    simp only [List.length_cons, List.length_nil]
    omega
  show ((p ++ [y]).drop (HT.sIx (p ++ [y]).length 0 (some (-1)))).take ((p ++ [y]).length - HT.sIx (p ++ [y]).length 0 (some (-1))) = [y]
  rw [h]
  simp
theorem oRev_t (s : List Int) : oRev (tI s) = some (tI s.reverse) := by
  show some (D.tuple (s.map D.int).reverse) = _
  rw [← List.map_reverse]
def odds (s : List Int) : List D := [tI s.reverse, tI (cutL s none (some (-2)) ++ cutL s.reverse none (some 2)), tI (s ++ cutL s (some (-1)) none), tI (s ++ [99]), lI s]
def NoR (C : Addr) (w : D) (d : D) : Prop := ∀ mu, f_is_round C mu [w, d] = some (mu, .ret (.bool false))
theorem odds_no {ss : List (List Int)} {n : Nat} {s : List Int} (hn : n ≤ 12) (h : s ∈ subs (rng n)) (hl : 1 < s.length) : ∀ d ∈ odds s, NoR C (webD C ss n) d := by
  obtain ⟨h1, h2, h3⟩ := sub_ok h
  obtain ⟨p, x, y, rfl⟩ := two_last hl
  have hxy : x < y := by
    have := (List.pairwise_append.mp h1).2.1
    exact List.rel_of_pairwise_cons this List.mem_cons_self
  intro d hd mu
  unfold odds at hd
  simp only [List.mem_cons, List.not_mem_nil, or_false] at hd
  rcases hd with rfl | rfl | rfl | rfl | rfl
  · exact odd_no hn (isSet_no (p := []) (x := y) (y := x) (r := p.reverse) (by simp) (by omega))
  · rw [cut_m2, show (p ++ [x, y]).reverse = y :: x :: p.reverse by simp, cut_h2]
    exact odd_no hn (isSet_no (p := p) (x := y) (y := x) (r := []) rfl (by omega))
  · rw [show p ++ [x, y] = (p ++ [x]) ++ [y] by simp, cut_l1]
    exact odd_no hn (isSet_no (p := p ++ [x]) (x := y) (y := y) (r := []) (by simp) (by omega))
  · refine odd_no hn ?_
    unfold isSet inRg
    rw [List.all_append]
    have : ([(99 : Int)].all fun x => decide (0 ≤ x) && decide (x ≤ (n : Int) - 1)) = false := by
      simp
      omega
    rw [this, Bool.and_false, Bool.false_and]
  · exact odd_no0 hn rfl rfl
theorem odd_body {sl : Y.Sls} {w d : D} (h4 : sl[4]? = some (some (.st w))) (h9 : sl[9]? = some (some (.st d))) (h : NoR C w d) : sIf (cCmp bNotB (cCall 2 (f_is_round C) (cCons (cV 4) (cCons (cV 9) (cNil)))) (cK (.bool false))) (sRet (cK (.bool false))) (bNil) ⟨sl, mu⟩ = some (.nx ⟨sl, mu⟩) := by
  have e4 : ∀ mu : Mu, cV 4 sl mu = some (w, mu) := fun mu => by unfold cV; rw [h4]
  have e9 : ∀ mu : Mu, cV 9 sl mu = some (d, mu) := fun mu => by unfold cV; rw [h9]
  simp only [fnRun, sIf, cCmp, cCall, cCons, cNil, e4, e9, Option.bind_some, Option.map_some, List.length_cons, List.length_nil, Nat.reduceAdd, if_true, retOf, h mu, cK, bNotB, decide_true, Bool.not_true, cond_false, bNil]
theorem rl_odd {a : Addr} {B n : Nat} {ss : List (List Int)} (hn : n ≤ 10) (m : Mo a (B + 1) mu) : ∃ d mu', f__law_odd_set C mu [.ref a, .int n] = some (mu', .ret d) ∧ NoR C (webD C ss n) d ∧ Mo a B mu' := by
  obtain ⟨v, mu', e, v0, v1, m'⟩ := m.draw 11 (by omega) (by omega)
  have key : ∃ d, oIx (.list [.none, .list [.int 0], .tuple [.int n], .tuple [.int (-1)], .tuple [.int 0, .int 0], .tuple [.bool true], .str "0", .int 0, .dict [], .tuple [.str "0"], .tuple [.int 1, .int 0]]) (.int v) = some d ∧ NoR C (webD C ss n) d := by
    obtain ⟨k, rfl⟩ := Int.eq_ofNat_of_zero_le v0
    have hn' : n ≤ 12 := by omega
    rcases k with _ | _ | _ | _ | _ | _ | _ | _ | _ | _ | _ | k
    · exact ⟨_, rfl, fun mu => odd_no0 hn' rfl rfl⟩
    · exact ⟨_, rfl, fun mu => odd_no0 hn' rfl rfl⟩
    · refine ⟨tI [n], rfl, fun mu => odd_no hn' ?_⟩
      unfold isSet inRg
      rw [show ([(n : Int)].all fun x => decide (0 ≤ x) && decide (x ≤ (n : Int) - 1)) = false by simp; omega]
      rfl
    · refine ⟨tI [-1], rfl, fun mu => odd_no hn' rfl⟩
    · refine ⟨tI [0, 0], rfl, fun mu => odd_no hn' (isSet_no (p := []) (x := 0) (y := 0) (r := []) rfl (by omega))⟩
    · exact ⟨_, rfl, fun mu => r_isround0 hn' rfl⟩
    · exact ⟨_, rfl, fun mu => odd_no0 hn' rfl rfl⟩
    · exact ⟨_, rfl, fun mu => odd_no0 hn' rfl rfl⟩
    · exact ⟨_, rfl, fun mu => odd_no0 hn' rfl rfl⟩
    · exact ⟨_, rfl, fun mu => r_isround0 hn' rfl⟩
    · refine ⟨tI [1, 0], rfl, fun mu => odd_no hn' (isSet_no (p := []) (x := 1) (y := 0) (r := []) rfl (by omega))⟩
    · omega
  obtain ⟨d, ed, hd⟩ := key
  refine ⟨d, mu', ?_, hd, m'⟩
  unfold f__law_odd_set
  refine fnRun_rt ?_
  simp only [List.length_map, fnRun, fnRes, bCons, bNil, bPub, sNo, sSet, sRet, sIf, sExpr, sOwn, sApp, sExt, sAsg, sParEE, sParEF, sParFF, lstAt, cL, cLc, cSq, cUn, cUnL, cUnB, cV, cK, cB, cT, oB, cNot, cAnd, cOr, cIf, cCmp, cBin, cBinL, cChain, iLe, iLt, cTt, cTup, cLst, cNil, cCons, cCall, retOf, cMake, cLenI, oFld, cOwS, cOw, cScal, cScalB, pubSls, pubS, scalB, cSl, cSlL, cO0, cO1, En.start, List.map_cons, List.map_nil, List.length_cons, List.length_nil, List.replicate, List.cons_append, List.nil_append, List.getElem?_cons_zero, List.getElem?_cons_succ, Option.bind_some, Option.map_some, Option.bind_none, Option.map_none, oSeq_l, oSeq_t, oSeq_tI, oSeq_lI, oSeq_tT, oSeq_lT, oTuple, oInt, oLen_l, oLen_t, oLen_tI, oLen_lI, oLen_tT, oLen_lT, oNeg, oAdd, oAddL, oSub, oMod, oEnum, List.set_cons_zero, List.set_cons_succ, lcRun_A, lcBody, tN, tTp, tT1, tT0, wipeL, cond_pair, lcRunA_pure, fm_some, fm_if, if_true, cond_true, cond_false, Nat.reduceAdd, Nat.reduceLeDiff, Nat.zero_add, ite_true, ite_false, Bool.and_true, Bool.true_and, reduceIte, Nat.zero_le, Option.join_some, bLt_i, bGt_i, bLe_i, bGe_i, oIs, noOb, bNon, bNotNon, bIsB, bNotB, e, ed]
end T
set_option Elab.async false
set_option linter.all false
set_option maxRecDepth 100000
set_option maxHeartbeats 800000
namespace T
open PySem PySem.Spec PyProof.Rows L2 Y
variable {C : Addr} {mu : Mu}
theorem like_no {a b : D} {sl : Y.Sls} {mu mu1 mu2 : Mu} {fa fb : Y.CE} {k : Nat} (h1 : fa sl mu = some (a, mu1)) (h2 : fb sl mu1 = some (b, mu2)) (e : a = b) (hs : Shn a k) (hk : k ≤ 1000000) :
    sIf (cNot (cT (cCall 2 (f__law_like C) (cCons fa (cCons fb (cNil)))))) (sRet (cK (.bool false))) (bNil) ⟨sl, mu⟩ = some (.nx ⟨sl, mu2⟩) := by
  subst e
  simp only [List.length_map, fnRun, fnRes, bCons, bNil, bPub, sNo, sSet, sRet, sIf, sExpr, sOwn, sApp, sExt, sAsg, sParEE, sParEF, sParFF, lstAt, cL, cLc, cSq, cUn, cUnL, cUnB, cV, cK, cB, cT, oB, cNot, cAnd, cOr, cIf, cCmp, cBin, cBinL, cChain, iLe, iLt, cTt, cTup, cLst, cNil, cCons, cCall, retOf, cMake, cLenI, oFld, cOwS, cOw, cScal, cScalB, pubSls, pubS, scalB, cSl, cSlL, cO0, cO1, En.start, List.map_cons, List.map_nil, List.length_cons, List.length_nil, List.replicate, List.cons_append, List.nil_append, List.getElem?_cons_zero, List.getElem?_cons_succ, Option.bind_some, Option.map_some, Option.bind_none, Option.map_none, oSeq_l, oSeq_t, oSeq_tI, oSeq_lI, oSeq_tT, oSeq_lT, oTuple, oInt, oLen_l, oLen_t, oLen_tI, oLen_lI, oLen_tT, oLen_lT, oNeg, oAdd, oAddL, oSub, oMod, oEnum, List.set_cons_zero, List.set_cons_succ, lcRun_A, lcBody, tN, tTp, tT1, tT0, wipeL, cond_pair, lcRunA_pure, fm_some, fm_if, if_true, cond_true, cond_false, Nat.reduceAdd, Nat.reduceLeDiff, Nat.zero_add, ite_true, ite_false, Bool.and_true, Bool.true_and, reduceIte, Nat.zero_le, Option.join_some, bLt_i, bGt_i, bLe_i, bGe_i, oIs, noOb, bNon, bNotNon, bIsB, bNotB, h1, h2, rl_like hs hk, Bool.not_true]
theorem in_rounds {ss : List (List Int)} {n : Nat} {s : List Int} (h : s ∈ setsOf (rng n)) : (isSet s n && goesR ss s) = decide (s ∈ rounds ss n) := by
  obtain ⟨h1, h2, h3⟩ := sub_ok (mem_setsOf.mp h)
  rw [isSet_of h1 h2 (Nat.le_refl n), Bool.true_and, Bool.eq_iff_iff, decide_eq_true_eq, rounds, List.mem_filter]
  exact ⟨fun z => ⟨h, z⟩, fun z => z.2⟩
noncomputable def forBody (C : Addr) : CS := bCons (sSet 3 (cCall 2 (f__law_web C) (cCons (cV 1) (cCons (cBin oIx (cL (cLst (cCons (cK (.int (10))) (cCons (cK (.int (7))) (cNil))))) (cV 2)) (cNil))))) (bCons (sParEE 4 5 (cMake C 1 (f_Web_init C) (cCons (cV 3) (cNil))) (cCall 1 (f__law_rounds C) (cCons (cV 3) (cNil)))) (bCons (sIf (cNot (cT (cCall 2 (f__law_like C) (cCons (cCall 1 (f_rounds C) (cCons (cV 4) (cNil))) (cCons (cUn oTuple (cV 5)) (cNil)))))) (sRet (cK (.bool false))) (bNil)) (bCons (sSet 6 (cCall 1 (f__law_sets C) (cCons (cCall 1 (f__law_many C) (cCons (cV 3) (cNil))) (cNil)))) (bCons (sFor (cUnL oRng (cK (.int (12)))) (tN 7) (bCons (sSet 8 (cBin oIx (cV 6) (cCall 2 sem_draw (cCons (cV 1) (cCons (cUn oLen (cV 6)) (cNil)))))) (sIf (cNot (cT (cCall 2 (f__law_like C) (cCons (cCall 2 (f_is_round C) (cCons (cV 4) (cCons (cV 8) (cNil)))) (cCons (cB (cCmp bIn (cV 8) (cV 5))) (cNil)))))) (sRet (cK (.bool false))) (bNil)))) (bCons (sFor (cSq (cBin oAdd (cSl (cV 5) (cO0) (cO1 (cK (.int (3))))) (cSl (cV 5) (cO1 (cUn oNeg (cK (.int (2))))) (cO0)))) (tN 8) (sIf (cCmp bGt (cUn oLen (cV 8)) (cK (.int (1)))) (sFor (cSq (cTup (cCons (cUn oRev (cV 8)) (cCons (cBin oAdd (cSl (cV 8) (cO0) (cO1 (cUn oNeg (cK (.int (2)))))) (cSl (cUn oRev (cV 8)) (cO0) (cO1 (cK (.int (2)))))) (cCons (cBin oAdd (cV 8) (cSl (cV 8) (cO1 (cUn oNeg (cK (.int (1))))) (cO0))) (cCons (cBin oAdd (cV 8) (cTup (cCons (cK (.int (99))) (cNil)))) (cCons (cL (cUnL oSeq (cV 8))) (cNil)))))))) (tN 9) (sIf (cCmp bNotB (cCall 2 (f_is_round C) (cCons (cV 4) (cCons (cV 9) (cNil)))) (cK (.bool false))) (sRet (cK (.bool false))) (bNil))) (bNil))) (sFor (cSq (cTup (cCons (cCall 2 (f__law_odd_set C) (cCons (cV 1) (cCons (cCall 1 (f__law_many C) (cCons (cV 3) (cNil))) (cNil)))) (cCons (cL (cLst (cCons (cK (.int (0))) (cNil)))) (cCons (cK .none) (cCons (cTup (cCons (cK (.int (0))) (cCons (cK (.int (99))) (cNil)))) (cCons (cK (.str "01")) (cCons (cV 5) (cNil))))))))) (tN 9) (sIf (cCmp bNotB (cCall 2 (f_is_round C) (cCons (cV 4) (cCons (cV 9) (cNil)))) (cK (.bool false))) (sRet (cK (.bool false))) (bNil))))))))
theorem law_turn {q : D} {a : Addr} {B most : Nat} {t : Int} {x3 x4 x5 x6 x7 x8 x9 : Option Sl} (hm : oIx (.list [.int 10, .int 7]) (.int t) = some (.int (most : Nat))) (hk : most ≤ 10) (m : Mo a (B + 200) mu) :
    ∃ y3 y4 y5 y6 y7 y8 y9 mu', forBody C ⟨[some (.st q), some (.st (.ref a)), some (.st (.int t)), x3, x4, x5, x6, x7, x8, x9, none], mu⟩ = some (.nx ⟨[some (.st q), some (.st (.ref a)), some (.st (.int t)), y3, y4, y5, y6, y7, y8, y9, none], mu'⟩) ∧ Mo a B mu' := by
  obtain ⟨ss, n, mu1, e1, ok, hn, m1⟩ := rl_web (C := C) (B := B + 100) hk m
  have hn' : n ≤ 12 := by omega
  have ht : tot ss < 60 := by have := ok.tot; omega
  have hl : ss.length < 1000 := by have := ok.len; omega
  have ew : ∀ mu : Mu, f_Web_init C mu [tT ss] = some (mu, .ok [some (tT ss), some (tI (rng n))]) := fun mu => r_web ok (.inl rfl)
  have er : ∀ mu : Mu, f_rounds C mu [webD C ss n] = some (mu, .ret (tT (rounds ss n))) := fun mu => r_rounds hn' ht hl
  have ed : ∀ mu : Mu, f__law_rounds C mu [tT ss] = some (mu, .ret (lT (rounds ss n))) := fun mu => rl_rounds ok
  have em : ∀ mu : Mu, f__law_many C mu [tT ss] = some (mu, .ret (.int n)) := fun mu => rl_many ok
  have es : ∀ mu : Mu, f__law_sets C mu [.int n] = some (mu, .ret (lT (setsOf (rng n)))) := fun mu => rl_sets hn'
  have hsl : (setsOf (rng n)).length ≤ 1024 := by
    rw [len_setsOf, rng_len]
    exact Nat.pow_le_pow_right (by decide) hn
  have hsp : 0 < (setsOf (rng n)).length := by
    rw [len_setsOf]
    exact Nat.pow_pos (by decide)
  have hrl : (rounds ss n).length ≤ 1024 := Nat.le_trans (List.length_filter_le _ _) hsl
  unfold forBody
  suffices H : ∃ Γ', _ = some (SO.nx Γ') ∧ ∃ y3 y4 y5 y6 y7 y8 y9 mu', Γ' = ⟨[some (.st q), some (.st (.ref a)), some (.st (.int t)), y3, y4, y5, y6, y7, y8, y9, none], mu'⟩ ∧ Mo a B mu' by
    obtain ⟨Γ', e, y3, y4, y5, y6, y7, y8, y9, mu', rfl, h⟩ := H
    exact ⟨y3, y4, y5, y6, y7, y8, y9, mu', e, h⟩
  rw [bCons_nx (Γ' := ⟨[some (.st q), some (.st (.ref a)), some (.st (.int t)), some (.st (tT ss)), x4, x5, x6, x7, x8, x9, none], mu1⟩) (by simp only [List.length_map, fnRun, fnRes, bCons, bNil, bPub, sNo, sSet, sRet, sIf, sExpr, sOwn, sApp, sExt, sAsg, sParEE, sParEF, sParFF, lstAt, cL, cLc, cSq, cUn, cUnL, cUnB, cV, cK, cB, cT, oB, cNot, cAnd, cOr, cIf, cCmp, cBin, cBinL, cChain, iLe, iLt, cTt, cTup, cLst, cNil, cCons, cCall, retOf, cMake, cLenI, oFld, cOwS, cOw, cScal, cScalB, pubSls, pubS, scalB, cSl, cSlL, cO0, cO1, En.start, List.map_cons, List.map_nil, List.length_cons, List.length_nil, List.replicate, List.cons_append, List.nil_append, List.getElem?_cons_zero, List.getElem?_cons_succ, Option.bind_some, Option.map_some, Option.bind_none, Option.map_none, oSeq_l, oSeq_t, oSeq_tI, oSeq_lI, oSeq_tT, oSeq_lT, oTuple, oInt, oLen_l, oLen_t, oLen_tI, oLen_lI, oLen_tT, oLen_lT, oNeg, oAdd, oAddL, oSub, oMod, oEnum, List.set_cons_zero, List.set_cons_succ, lcRun_A, lcBody, tN, tTp, tT1, tT0, wipeL, cond_pair, lcRunA_pure, fm_some, fm_if, if_true, cond_true, cond_false, Nat.reduceAdd, Nat.reduceLeDiff, Nat.zero_add, ite_true, ite_false, Bool.and_true, Bool.true_and, reduceIte, Nat.zero_le, Option.join_some, bLt_i, bGt_i, bLe_i, bGe_i, oIs, noOb, bNon, bNotNon, bIsB, bNotB, hm, e1])]
  rw [bCons_nx (Γ' := ⟨[some (.st q), some (.st (.ref a)), some (.st (.int t)), some (.st (tT ss)), some (.st (webD C ss n)), some (.st (lT (rounds ss n))), x6, x7, x8, x9, none], mu1⟩) (by simp only [List.length_map, fnRun, fnRes, bCons, bNil, bPub, sNo, sSet, sRet, sIf, sExpr, sOwn, sApp, sExt, sAsg, sParEE, sParEF, sParFF, lstAt, cL, cLc, cSq, cUn, cUnL, cUnB, cV, cK, cB, cT, oB, cNot, cAnd, cOr, cIf, cCmp, cBin, cBinL, cChain, iLe, iLt, cTt, cTup, cLst, cNil, cCons, cCall, retOf, cMake, cLenI, oFld, cOwS, cOw, cScal, cScalB, pubSls, pubS, scalB, cSl, cSlL, cO0, cO1, En.start, List.map_cons, List.map_nil, List.length_cons, List.length_nil, List.replicate, List.cons_append, List.nil_append, List.getElem?_cons_zero, List.getElem?_cons_succ, Option.bind_some, Option.map_some, Option.bind_none, Option.map_none, oSeq_l, oSeq_t, oSeq_tI, oSeq_lI, oSeq_tT, oSeq_lT, oTuple, oInt, oLen_l, oLen_t, oLen_tI, oLen_lI, oLen_tT, oLen_lT, oNeg, oAdd, oAddL, oSub, oMod, oEnum, List.set_cons_zero, List.set_cons_succ, lcRun_A, lcBody, tN, tTp, tT1, tT0, wipeL, cond_pair, lcRunA_pure, fm_some, fm_if, if_true, cond_true, cond_false, Nat.reduceAdd, Nat.reduceLeDiff, Nat.zero_add, ite_true, ite_false, Bool.and_true, Bool.true_and, reduceIte, Nat.zero_le, Option.join_some, bLt_i, bGt_i, bLe_i, bGe_i, oIs, noOb, bNon, bNotNon, bIsB, bNotB, ew, ed, webD])]
  rw [bCons_nx (Γ' := ⟨[some (.st q), some (.st (.ref a)), some (.st (.int t)), some (.st (tT ss)), some (.st (webD C ss n)), some (.st (lT (rounds ss n))), x6, x7, x8, x9, none], mu1⟩) (like_no (a := tT (rounds ss n)) (b := tT (rounds ss n)) (mu1 := mu1) (by simp only [List.length_map, fnRun, fnRes, bCons, bNil, bPub, sNo, sSet, sRet, sIf, sExpr, sOwn, sApp, sExt, sAsg, sParEE, sParEF, sParFF, lstAt, cL, cLc, cSq, cUn, cUnL, cUnB, cV, cK, cB, cT, oB, cNot, cAnd, cOr, cIf, cCmp, cBin, cBinL, cChain, iLe, iLt, cTt, cTup, cLst, cNil, cCons, cCall, retOf, cMake, cLenI, oFld, cOwS, cOw, cScal, cScalB, pubSls, pubS, scalB, cSl, cSlL, cO0, cO1, En.start, List.map_cons, List.map_nil, List.length_cons, List.length_nil, List.replicate, List.cons_append, List.nil_append, List.getElem?_cons_zero, List.getElem?_cons_succ, Option.bind_some, Option.map_some, Option.bind_none, Option.map_none, oSeq_l, oSeq_t, oSeq_tI, oSeq_lI, oSeq_tT, oSeq_lT, oTuple, oInt, oLen_l, oLen_t, oLen_tI, oLen_lI, oLen_tT, oLen_lT, oNeg, oAdd, oAddL, oSub, oMod, oEnum, List.set_cons_zero, List.set_cons_succ, lcRun_A, lcBody, tN, tTp, tT1, tT0, wipeL, cond_pair, lcRunA_pure, fm_some, fm_if, if_true, cond_true, cond_false, Nat.reduceAdd, Nat.reduceLeDiff, Nat.zero_add, ite_true, ite_false, Bool.and_true, Bool.true_and, reduceIte, Nat.zero_le, Option.join_some, bLt_i, bGt_i, bLe_i, bGe_i, oIs, noOb, bNon, bNotNon, bIsB, bNotB, er]) (by simp only [List.length_map, fnRun, fnRes, bCons, bNil, bPub, sNo, sSet, sRet, sIf, sExpr, sOwn, sApp, sExt, sAsg, sParEE, sParEF, sParFF, lstAt, cL, cLc, cSq, cUn, cUnL, cUnB, cV, cK, cB, cT, oB, cNot, cAnd, cOr, cIf, cCmp, cBin, cBinL, cChain, iLe, iLt, cTt, cTup, cLst, cNil, cCons, cCall, retOf, cMake, cLenI, oFld, cOwS, cOw, cScal, cScalB, pubSls, pubS, scalB, cSl, cSlL, cO0, cO1, En.start, List.map_cons, List.map_nil, List.length_cons, List.length_nil, List.replicate, List.cons_append, List.nil_append, List.getElem?_cons_zero, List.getElem?_cons_succ, Option.bind_some, Option.map_some, Option.bind_none, Option.map_none, oSeq_l, oSeq_t, oSeq_tI, oSeq_lI, oSeq_tT, oSeq_lT, oTuple, oInt, oLen_l, oLen_t, oLen_tI, oLen_lI, oLen_tT, oLen_lT, oNeg, oAdd, oAddL, oSub, oMod, oEnum, List.set_cons_zero, List.set_cons_succ, lcRun_A, lcBody, tN, tTp, tT1, tT0, wipeL, cond_pair, lcRunA_pure, fm_some, fm_if, if_true, cond_true, cond_false, Nat.reduceAdd, Nat.reduceLeDiff, Nat.zero_add, ite_true, ite_false, Bool.and_true, Bool.true_and, reduceIte, Nat.zero_le, Option.join_some, bLt_i, bGt_i, bLe_i, bGe_i, oIs, noOb, bNon, bNotNon, bIsB, bNotB]) rfl (rounds_shn hn) (by decide))]
  rw [bCons_nx (Γ' := ⟨[some (.st q), some (.st (.ref a)), some (.st (.int t)), some (.st (tT ss)), some (.st (webD C ss n)), some (.st (lT (rounds ss n))), some (.st (lT (setsOf (rng n)))), x7, x8, x9, none], mu1⟩) (by simp only [List.length_map, fnRun, fnRes, bCons, bNil, bPub, sNo, sSet, sRet, sIf, sExpr, sOwn, sApp, sExt, sAsg, sParEE, sParEF, sParFF, lstAt, cL, cLc, cSq, cUn, cUnL, cUnB, cV, cK, cB, cT, oB, cNot, cAnd, cOr, cIf, cCmp, cBin, cBinL, cChain, iLe, iLt, cTt, cTup, cLst, cNil, cCons, cCall, retOf, cMake, cLenI, oFld, cOwS, cOw, cScal, cScalB, pubSls, pubS, scalB, cSl, cSlL, cO0, cO1, En.start, List.map_cons, List.map_nil, List.length_cons, List.length_nil, List.replicate, List.cons_append, List.nil_append, List.getElem?_cons_zero, List.getElem?_cons_succ, Option.bind_some, Option.map_some, Option.bind_none, Option.map_none, oSeq_l, oSeq_t, oSeq_tI, oSeq_lI, oSeq_tT, oSeq_lT, oTuple, oInt, oLen_l, oLen_t, oLen_tI, oLen_lI, oLen_tT, oLen_lT, oNeg, oAdd, oAddL, oSub, oMod, oEnum, List.set_cons_zero, List.set_cons_succ, lcRun_A, lcBody, tN, tTp, tT1, tT0, wipeL, cond_pair, lcRunA_pure, fm_some, fm_if, if_true, cond_true, cond_false, Nat.reduceAdd, Nat.reduceLeDiff, Nat.zero_add, ite_true, ite_false, Bool.and_true, Bool.true_and, reduceIte, Nat.zero_le, Option.join_some, bLt_i, bGt_i, bLe_i, bGe_i, oIs, noOb, bNon, bNotNon, bIsB, bNotB, em, es])]
  refine bForP (fun r => ∃ Γ', r = some (SO.nx Γ') ∧ ∃ y3 y4 y5 y6 y7 y8 y9 mu', Γ' = ⟨[some (.st q), some (.st (.ref a)), some (.st (.int t)), y3, y4, y5, y6, y7, y8, y9, none], mu'⟩ ∧ Mo a B mu') D.int (rng 12) mu1 (fun rest Γ => ∃ x7 x8 mu2, Γ = ⟨[some (.st q), some (.st (.ref a)), some (.st (.int t)), some (.st (tT ss)), some (.st (webD C ss n)), some (.st (lT (rounds ss n))), some (.st (lT (setsOf (rng n)))), x7, x8, x9, none], mu2⟩ ∧ Mo a (B + 50 + rest.length) mu2) ?_ ?_ ?_ ?_
  · simp only [List.length_map, fnRun, fnRes, bCons, bNil, bPub, sNo, sSet, sRet, sIf, sExpr, sOwn, sApp, sExt, sAsg, sParEE, sParEF, sParFF, lstAt, cL, cLc, cSq, cUn, cUnL, cUnB, cV, cK, cB, cT, oB, cNot, cAnd, cOr, cIf, cCmp, cBin, cBinL, cChain, iLe, iLt, cTt, cTup, cLst, cNil, cCons, cCall, retOf, cMake, cLenI, oFld, cOwS, cOw, cScal, cScalB, pubSls, pubS, scalB, cSl, cSlL, cO0, cO1, En.start, List.map_cons, List.map_nil, List.length_cons, List.length_nil, List.replicate, List.cons_append, List.nil_append, List.getElem?_cons_zero, List.getElem?_cons_succ, Option.bind_some, Option.map_some, Option.bind_none, Option.map_none, oSeq_l, oSeq_t, oSeq_tI, oSeq_lI, oSeq_tT, oSeq_lT, oTuple, oInt, oLen_l, oLen_t, oLen_tI, oLen_lI, oLen_tT, oLen_lT, oNeg, oAdd, oAddL, oSub, oMod, oEnum, List.set_cons_zero, List.set_cons_succ, lcRun_A, lcBody, tN, tTp, tT1, tT0, wipeL, cond_pair, lcRunA_pure, fm_some, fm_if, if_true, cond_true, cond_false, Nat.reduceAdd, Nat.reduceLeDiff, Nat.zero_add, ite_true, ite_false, Bool.and_true, Bool.true_and, reduceIte, Nat.zero_le, Option.join_some, bLt_i, bGt_i, bLe_i, bGe_i, oIs, noOb, bNon, bNotNon, bIsB, bNotB, oRng_n (n := 12) (by omega)]
    exact congrArg _ (congrArg (fun z => (z, mu1)) rfl)
  · exact ⟨x7, x8, mu1, rfl, m1.le (by rw [rng_len]; omega)⟩
  · rintro x xs Γ ⟨x7, x8, mu2, rfl, m2⟩
    rw [List.length_cons] at m2
    obtain ⟨v, mu3, e3, v0, v1, m3⟩ := Mo.draw (B := B + 50 + xs.length) m2 ((setsOf (rng n)).length : Nat) (by omega) (by omega)
    obtain ⟨k, rfl⟩ := Int.eq_ofNat_of_zero_le v0
    have hk : k < (setsOf (rng n)).length := by omega
    have hx : (setsOf (rng n))[k]? = some (setsOf (rng n))[k] := List.getElem?_eq_getElem hk
    have hmem := List.getElem_mem hk
    generalize (setsOf (rng n))[k] = s at hx hmem
    have eo : oIx (lT (setsOf (rng n))) (.int (k : Nat)) = some (tI s) := by
      rw [lT, oIx_nat, List.getElem?_map, hx]
      rfl
    refine ⟨_, ⟨[some (.st q), some (.st (.ref a)), some (.st (.int t)), some (.st (tT ss)), some (.st (webD C ss n)), some (.st (lT (rounds ss n))), some (.st (lT (setsOf (rng n)))), some (.st (.int x)), some (.st (tI s)), x9, none], mu3⟩, rfl, .inl ?_, _, _, _, rfl, m3⟩
    rw [bCons_nx (Γ' := ⟨[some (.st q), some (.st (.ref a)), some (.st (.int t)), some (.st (tT ss)), some (.st (webD C ss n)), some (.st (lT (rounds ss n))), some (.st (lT (setsOf (rng n)))), some (.st (.int x)), some (.st (tI s)), x9, none], mu3⟩) (by simp only [List.length_map, fnRun, fnRes, bCons, bNil, bPub, sNo, sSet, sRet, sIf, sExpr, sOwn, sApp, sExt, sAsg, sParEE, sParEF, sParFF, lstAt, cL, cLc, cSq, cUn, cUnL, cUnB, cV, cK, cB, cT, oB, cNot, cAnd, cOr, cIf, cCmp, cBin, cBinL, cChain, iLe, iLt, cTt, cTup, cLst, cNil, cCons, cCall, retOf, cMake, cLenI, oFld, cOwS, cOw, cScal, cScalB, pubSls, pubS, scalB, cSl, cSlL, cO0, cO1, En.start, List.map_cons, List.map_nil, List.length_cons, List.length_nil, List.replicate, List.cons_append, List.nil_append, List.getElem?_cons_zero, List.getElem?_cons_succ, Option.bind_some, Option.map_some, Option.bind_none, Option.map_none, oSeq_l, oSeq_t, oSeq_tI, oSeq_lI, oSeq_tT, oSeq_lT, oTuple, oInt, oLen_l, oLen_t, oLen_tI, oLen_lI, oLen_tT, oLen_lT, oNeg, oAdd, oAddL, oSub, oMod, oEnum, List.set_cons_zero, List.set_cons_succ, lcRun_A, lcBody, tN, tTp, tT1, tT0, wipeL, cond_pair, lcRunA_pure, fm_some, fm_if, if_true, cond_true, cond_false, Nat.reduceAdd, Nat.reduceLeDiff, Nat.zero_add, ite_true, ite_false, Bool.and_true, Bool.true_and, reduceIte, Nat.zero_le, Option.join_some, bLt_i, bGt_i, bLe_i, bGe_i, oIs, noOb, bNon, bNotNon, bIsB, bNotB, e3, eo])]
    have ei : ∀ mu : Mu, f_is_round C mu [webD C ss n, tI s] = some (mu, .ret (.bool (isSet s n && goesR ss s))) := fun mu => r_isround hn' ht hl
    exact like_no (a := .bool (isSet s n && goesR ss s)) (b := .bool (decide (s ∈ rounds ss n))) (mu1 := mu3) (by simp only [List.length_map, fnRun, fnRes, bCons, bNil, bPub, sNo, sSet, sRet, sIf, sExpr, sOwn, sApp, sExt, sAsg, sParEE, sParEF, sParFF, lstAt, cL, cLc, cSq, cUn, cUnL, cUnB, cV, cK, cB, cT, oB, cNot, cAnd, cOr, cIf, cCmp, cBin, cBinL, cChain, iLe, iLt, cTt, cTup, cLst, cNil, cCons, cCall, retOf, cMake, cLenI, oFld, cOwS, cOw, cScal, cScalB, pubSls, pubS, scalB, cSl, cSlL, cO0, cO1, En.start, List.map_cons, List.map_nil, List.length_cons, List.length_nil, List.replicate, List.cons_append, List.nil_append, List.getElem?_cons_zero, List.getElem?_cons_succ, Option.bind_some, Option.map_some, Option.bind_none, Option.map_none, oSeq_l, oSeq_t, oSeq_tI, oSeq_lI, oSeq_tT, oSeq_lT, oTuple, oInt, oLen_l, oLen_t, oLen_tI, oLen_lI, oLen_tT, oLen_lT, oNeg, oAdd, oAddL, oSub, oMod, oEnum, List.set_cons_zero, List.set_cons_succ, lcRun_A, lcBody, tN, tTp, tT1, tT0, wipeL, cond_pair, lcRunA_pure, fm_some, fm_if, if_true, cond_true, cond_false, Nat.reduceAdd, Nat.reduceLeDiff, Nat.zero_add, ite_true, ite_false, Bool.and_true, Bool.true_and, reduceIte, Nat.zero_le, Option.join_some, bLt_i, bGt_i, bLe_i, bGe_i, oIs, noOb, bNon, bNotNon, bIsB, bNotB, ei]) (by simp only [List.length_map, fnRun, fnRes, bCons, bNil, bPub, sNo, sSet, sRet, sIf, sExpr, sOwn, sApp, sExt, sAsg, sParEE, sParEF, sParFF, lstAt, cL, cLc, cSq, cUn, cUnL, cUnB, cV, cK, cB, cT, oB, cNot, cAnd, cOr, cIf, cCmp, cBin, cBinL, cChain, iLe, iLt, cTt, cTup, cLst, cNil, cCons, cCall, retOf, cMake, cLenI, oFld, cOwS, cOw, cScal, cScalB, pubSls, pubS, scalB, cSl, cSlL, cO0, cO1, En.start, List.map_cons, List.map_nil, List.length_cons, List.length_nil, List.replicate, List.cons_append, List.nil_append, List.getElem?_cons_zero, List.getElem?_cons_succ, Option.bind_some, Option.map_some, Option.bind_none, Option.map_none, oSeq_l, oSeq_t, oSeq_tI, oSeq_lI, oSeq_tT, oSeq_lT, oTuple, oInt, oLen_l, oLen_t, oLen_tI, oLen_lI, oLen_tT, oLen_lT, oNeg, oAdd, oAddL, oSub, oMod, oEnum, List.set_cons_zero, List.set_cons_succ, lcRun_A, lcBody, tN, tTp, tT1, tT0, wipeL, cond_pair, lcRunA_pure, fm_some, fm_if, if_true, cond_true, cond_false, Nat.reduceAdd, Nat.reduceLeDiff, Nat.zero_add, ite_true, ite_false, Bool.and_true, Bool.true_and, reduceIte, Nat.zero_le, Option.join_some, bLt_i, bGt_i, bLe_i, bGe_i, oIs, noOb, bNon, bNotNon, bIsB, bNotB, bIn_i, bIn_iL, bNin_i, bNin_iL, bIn_t, bIn_tL, bNin_t, bNin_tL, bEq_i, bNe_i, bEq_t, bNe_t, bEq_l, bNe_l, bEq_tT, bNe_tT, bEq_lT, bNe_lT, bNe_t0, bEq_t0, bNe_l0, bNe_lT0, bEq_tT0, oAll_map, oAny_map]) (congrArg D.bool (in_rounds hmem)) (shn_bool _) (by decide)
  · rintro Γ ⟨x7, x8, mu2, rfl, m2⟩
    have hmem : ∀ s ∈ cutL (rounds ss n) none (some 3) ++ cutL (rounds ss n) (some (-2)) none, s ∈ subs (rng n) := fun s hs => by
      rcases List.mem_append.mp hs with hs | hs
      · exact rounds_mem (cut_mem hs)
      · exact rounds_mem (cut_mem hs)
    have c1 := cut_len (rounds ss n) none (some 3)
    have c2 := cut_len (rounds ss n) (some (-2)) none
    refine bForP (fun r => ∃ Γ', r = some (SO.nx Γ') ∧ ∃ y3 y4 y5 y6 y7 y8 y9 mu', Γ' = ⟨[some (.st q), some (.st (.ref a)), some (.st (.int t)), y3, y4, y5, y6, y7, y8, y9, none], mu'⟩ ∧ Mo a B mu') tI (cutL (rounds ss n) none (some 3) ++ cutL (rounds ss n) (some (-2)) none) mu2 (fun rest Γ => ∃ x8 x9, Γ = ⟨[some (.st q), some (.st (.ref a)), some (.st (.int t)), some (.st (tT ss)), some (.st (webD C ss n)), some (.st (lT (rounds ss n))), some (.st (lT (setsOf (rng n)))), x7, x8, x9, none], mu2⟩ ∧ ∀ s ∈ rest, s ∈ subs (rng n)) ?_ ?_ ?_ ?_
    · simp only [List.length_map, fnRun, fnRes, bCons, bNil, bPub, sNo, sSet, sRet, sIf, sExpr, sOwn, sApp, sExt, sAsg, sParEE, sParEF, sParFF, lstAt, cL, cLc, cSq, cUn, cUnL, cUnB, cV, cK, cB, cT, oB, cNot, cAnd, cOr, cIf, cCmp, cBin, cBinL, cChain, iLe, iLt, cTt, cTup, cLst, cNil, cCons, cCall, retOf, cMake, cLenI, oFld, cOwS, cOw, cScal, cScalB, pubSls, pubS, scalB, cSl, cSlL, cO0, cO1, En.start, List.map_cons, List.map_nil, List.length_cons, List.length_nil, List.replicate, List.cons_append, List.nil_append, List.getElem?_cons_zero, List.getElem?_cons_succ, Option.bind_some, Option.map_some, Option.bind_none, Option.map_none, oSeq_l, oSeq_t, oSeq_tI, oSeq_lI, oSeq_tT, oSeq_lT, oTuple, oInt, oLen_l, oLen_t, oLen_tI, oLen_lI, oLen_tT, oLen_lT, oNeg, oAdd, oAddL, oSub, oMod, oEnum, List.set_cons_zero, List.set_cons_succ, lcRun_A, lcBody, tN, tTp, tT1, tT0, wipeL, cond_pair, lcRunA_pure, fm_some, fm_if, if_true, cond_true, cond_false, Nat.reduceAdd, Nat.reduceLeDiff, Nat.zero_add, ite_true, ite_false, Bool.and_true, Bool.true_and, reduceIte, Nat.zero_le, Option.join_some, bLt_i, bGt_i, bLe_i, bGe_i, oIs, noOb, bNon, bNotNon, bIsB, bNotB, map_cutL]
      rw [if_pos (by omega)]
      simp only [List.length_map, fnRun, fnRes, bCons, bNil, bPub, sNo, sSet, sRet, sIf, sExpr, sOwn, sApp, sExt, sAsg, sParEE, sParEF, sParFF, lstAt, cL, cLc, cSq, cUn, cUnL, cUnB, cV, cK, cB, cT, oB, cNot, cAnd, cOr, cIf, cCmp, cBin, cBinL, cChain, iLe, iLt, cTt, cTup, cLst, cNil, cCons, cCall, retOf, cMake, cLenI, oFld, cOwS, cOw, cScal, cScalB, pubSls, pubS, scalB, cSl, cSlL, cO0, cO1, En.start, List.map_cons, List.map_nil, List.length_cons, List.length_nil, List.replicate, List.cons_append, List.nil_append, List.getElem?_cons_zero, List.getElem?_cons_succ, Option.bind_some, Option.map_some, Option.bind_none, Option.map_none, oSeq_l, oSeq_t, oSeq_tI, oSeq_lI, oSeq_tT, oSeq_lT, oTuple, oInt, oLen_l, oLen_t, oLen_tI, oLen_lI, oLen_tT, oLen_lT, oNeg, oAdd, oAddL, oSub, oMod, oEnum, List.set_cons_zero, List.set_cons_succ, lcRun_A, lcBody, tN, tTp, tT1, tT0, wipeL, cond_pair, lcRunA_pure, fm_some, fm_if, if_true, cond_true, cond_false, Nat.reduceAdd, Nat.reduceLeDiff, Nat.zero_add, ite_true, ite_false, Bool.and_true, Bool.true_and, reduceIte, Nat.zero_le, Option.join_some, bLt_i, bGt_i, bLe_i, bGe_i, oIs, noOb, bNon, bNotNon, bIsB, bNotB]
      rw [List.map_append]
    · exact ⟨x8, x9, rfl, hmem⟩
    · rintro s rest Γ ⟨x8, x9, rfl, hr⟩
      have hs := hr s List.mem_cons_self
      have hr' : ∀ s ∈ rest, s ∈ subs (rng n) := fun s hs => hr s (List.mem_cons_of_mem _ hs)
      obtain ⟨o1, o2, o3⟩ := sub_ok hs
      by_cases hlen : 1 < s.length
      · have c3 := cut_len s none (some (-2))
        have c4 := cut_len s.reverse none (some 2)
        have c5 := cut_len s (some (-1)) none
        rw [List.length_reverse] at c4
        have hodds := odds_no (C := C) (ss := ss) hn' hs hlen
        have H : ∃ Γ', sIf (cCmp bGt (cUn oLen (cV 8)) (cK (.int (1)))) (sFor (cSq (cTup (cCons (cUn oRev (cV 8)) (cCons (cBin oAdd (cSl (cV 8) (cO0) (cO1 (cUn oNeg (cK (.int (2)))))) (cSl (cUn oRev (cV 8)) (cO0) (cO1 (cK (.int (2)))))) (cCons (cBin oAdd (cV 8) (cSl (cV 8) (cO1 (cUn oNeg (cK (.int (1))))) (cO0))) (cCons (cBin oAdd (cV 8) (cTup (cCons (cK (.int (99))) (cNil)))) (cCons (cL (cUnL oSeq (cV 8))) (cNil)))))))) (tN 9) (sIf (cCmp bNotB (cCall 2 (f_is_round C) (cCons (cV 4) (cCons (cV 9) (cNil)))) (cK (.bool false))) (sRet (cK (.bool false))) (bNil))) (bNil) ⟨[some (.st q), some (.st (.ref a)), some (.st (.int t)), some (.st (tT ss)), some (.st (webD C ss n)), some (.st (lT (rounds ss n))), some (.st (lT (setsOf (rng n)))), x7, some (.st (tI s)), x9, none], mu2⟩ = some (.nx Γ') ∧ ∃ x9, Γ' = ⟨[some (.st q), some (.st (.ref a)), some (.st (.int t)), some (.st (tT ss)), some (.st (webD C ss n)), some (.st (lT (rounds ss n))), some (.st (lT (setsOf (rng n)))), x7, some (.st (tI s)), x9, none], mu2⟩ := by
          rw [sIf_t (mu := mu2) (by simp only [List.length_map, fnRun, fnRes, bCons, bNil, bPub, sNo, sSet, sRet, sIf, sExpr, sOwn, sApp, sExt, sAsg, sParEE, sParEF, sParFF, lstAt, cL, cLc, cSq, cUn, cUnL, cUnB, cV, cK, cB, cT, oB, cNot, cAnd, cOr, cIf, cCmp, cBin, cBinL, cChain, iLe, iLt, cTt, cTup, cLst, cNil, cCons, cCall, retOf, cMake, cLenI, oFld, cOwS, cOw, cScal, cScalB, pubSls, pubS, scalB, cSl, cSlL, cO0, cO1, En.start, List.map_cons, List.map_nil, List.length_cons, List.length_nil, List.replicate, List.cons_append, List.nil_append, List.getElem?_cons_zero, List.getElem?_cons_succ, Option.bind_some, Option.map_some, Option.bind_none, Option.map_none, oSeq_l, oSeq_t, oSeq_tI, oSeq_lI, oSeq_tT, oSeq_lT, oTuple, oInt, oLen_l, oLen_t, oLen_tI, oLen_lI, oLen_tT, oLen_lT, oNeg, oAdd, oAddL, oSub, oMod, oEnum, List.set_cons_zero, List.set_cons_succ, lcRun_A, lcBody, tN, tTp, tT1, tT0, wipeL, cond_pair, lcRunA_pure, fm_some, fm_if, if_true, cond_true, cond_false, Nat.reduceAdd, Nat.reduceLeDiff, Nat.zero_add, ite_true, ite_false, Bool.and_true, Bool.true_and, reduceIte, Nat.zero_le, Option.join_some, bLt_i, bGt_i, bLe_i, bGe_i, oIs, noOb, bNon, bNotNon, bIsB, bNotB]; rw [decide_eq_true (by omega)])]
          refine sForP (fun r => ∃ Γ', r = some (.nx Γ') ∧ ∃ x9, Γ' = ⟨[some (.st q), some (.st (.ref a)), some (.st (.int t)), some (.st (tT ss)), some (.st (webD C ss n)), some (.st (lT (rounds ss n))), some (.st (lT (setsOf (rng n)))), x7, some (.st (tI s)), x9, none], mu2⟩) (fun d : D => d) (odds s) mu2 (fun rest Γ => (∀ d ∈ rest, NoR C (webD C ss n) d) ∧ ∃ x9, Γ = ⟨[some (.st q), some (.st (.ref a)), some (.st (.int t)), some (.st (tT ss)), some (.st (webD C ss n)), some (.st (lT (rounds ss n))), some (.st (lT (setsOf (rng n)))), x7, some (.st (tI s)), x9, none], mu2⟩) ?_ ?_ ?_ ?_
          · rw [List.map_id']
            simp only [List.length_map, fnRun, fnRes, bCons, bNil, bPub, sNo, sSet, sRet, sIf, sExpr, sOwn, sApp, sExt, sAsg, sParEE, sParEF, sParFF, lstAt, cL, cLc, cSq, cUn, cUnL, cUnB, cV, cK, cB, cT, oB, cNot, cAnd, cOr, cIf, cCmp, cBin, cBinL, cChain, iLe, iLt, cTt, cTup, cLst, cNil, cCons, cCall, retOf, cMake, cLenI, oFld, cOwS, cOw, cScal, cScalB, pubSls, pubS, scalB, cSl, cSlL, cO0, cO1, En.start, List.map_cons, List.map_nil, List.length_cons, List.length_nil, List.replicate, List.cons_append, List.nil_append, List.getElem?_cons_zero, List.getElem?_cons_succ, Option.bind_some, Option.map_some, Option.bind_none, Option.map_none, oSeq_l, oSeq_t, oSeq_tI, oSeq_lI, oSeq_tT, oSeq_lT, oTuple, oInt, oLen_l, oLen_t, oLen_tI, oLen_lI, oLen_tT, oLen_lT, oNeg, oAdd, oAddL, oSub, oMod, oEnum, List.set_cons_zero, List.set_cons_succ, lcRun_A, lcBody, tN, tTp, tT1, tT0, wipeL, cond_pair, lcRunA_pure, fm_some, fm_if, if_true, cond_true, cond_false, Nat.reduceAdd, Nat.reduceLeDiff, Nat.zero_add, ite_true, ite_false, Bool.and_true, Bool.true_and, reduceIte, Nat.zero_le, Option.join_some, bLt_i, bGt_i, bLe_i, bGe_i, oIs, noOb, bNon, bNotNon, bIsB, bNotB, oRev_t, map_cutL]
            rw [if_pos (by omega), if_pos (by omega), if_pos (by omega)]
            simp only [List.length_map, fnRun, fnRes, bCons, bNil, bPub, sNo, sSet, sRet, sIf, sExpr, sOwn, sApp, sExt, sAsg, sParEE, sParEF, sParFF, lstAt, cL, cLc, cSq, cUn, cUnL, cUnB, cV, cK, cB, cT, oB, cNot, cAnd, cOr, cIf, cCmp, cBin, cBinL, cChain, iLe, iLt, cTt, cTup, cLst, cNil, cCons, cCall, retOf, cMake, cLenI, oFld, cOwS, cOw, cScal, cScalB, pubSls, pubS, scalB, cSl, cSlL, cO0, cO1, En.start, List.map_cons, List.map_nil, List.length_cons, List.length_nil, List.replicate, List.cons_append, List.nil_append, List.getElem?_cons_zero, List.getElem?_cons_succ, Option.bind_some, Option.map_some, Option.bind_none, Option.map_none, oSeq_l, oSeq_t, oSeq_tI, oSeq_lI, oSeq_tT, oSeq_lT, oTuple, oInt, oLen_l, oLen_t, oLen_tI, oLen_lI, oLen_tT, oLen_lT, oNeg, oAdd, oAddL, oSub, oMod, oEnum, List.set_cons_zero, List.set_cons_succ, lcRun_A, lcBody, tN, tTp, tT1, tT0, wipeL, cond_pair, lcRunA_pure, fm_some, fm_if, if_true, cond_true, cond_false, Nat.reduceAdd, Nat.reduceLeDiff, Nat.zero_add, ite_true, ite_false, Bool.and_true, Bool.true_and, reduceIte, Nat.zero_le, Option.join_some, bLt_i, bGt_i, bLe_i, bGe_i, oIs, noOb, bNon, bNotNon, bIsB, bNotB]
            unfold odds
            rw [tI, tI, tI, tI, List.map_append, List.map_append, List.map_append]
            rfl
          · exact ⟨hodds, x9, rfl⟩
          · rintro d ds Γ ⟨h1, x9, rfl⟩
            exact ⟨_, _, rfl, .inl (odd_body (w := webD C ss n) (d := d) rfl rfl (h1 d List.mem_cons_self)), fun d hd => h1 d (List.mem_cons_of_mem _ hd), _, rfl⟩
          · rintro Γ ⟨_, x9, rfl⟩
            exact ⟨_, rfl, x9, rfl⟩
        obtain ⟨Γ', h1, x9', rfl⟩ := H
        exact ⟨_, _, rfl, .inl h1, _, _, rfl, hr'⟩
      · refine ⟨_, ⟨[some (.st q), some (.st (.ref a)), some (.st (.int t)), some (.st (tT ss)), some (.st (webD C ss n)), some (.st (lT (rounds ss n))), some (.st (lT (setsOf (rng n)))), x7, some (.st (tI s)), x9, none], mu2⟩, rfl, .inl ?_, _, _, rfl, hr'⟩
        rw [sIf_f (mu := mu2) (by simp only [List.length_map, fnRun, fnRes, bCons, bNil, bPub, sNo, sSet, sRet, sIf, sExpr, sOwn, sApp, sExt, sAsg, sParEE, sParEF, sParFF, lstAt, cL, cLc, cSq, cUn, cUnL, cUnB, cV, cK, cB, cT, oB, cNot, cAnd, cOr, cIf, cCmp, cBin, cBinL, cChain, iLe, iLt, cTt, cTup, cLst, cNil, cCons, cCall, retOf, cMake, cLenI, oFld, cOwS, cOw, cScal, cScalB, pubSls, pubS, scalB, cSl, cSlL, cO0, cO1, En.start, List.map_cons, List.map_nil, List.length_cons, List.length_nil, List.replicate, List.cons_append, List.nil_append, List.getElem?_cons_zero, List.getElem?_cons_succ, Option.bind_some, Option.map_some, Option.bind_none, Option.map_none, oSeq_l, oSeq_t, oSeq_tI, oSeq_lI, oSeq_tT, oSeq_lT, oTuple, oInt, oLen_l, oLen_t, oLen_tI, oLen_lI, oLen_tT, oLen_lT, oNeg, oAdd, oAddL, oSub, oMod, oEnum, List.set_cons_zero, List.set_cons_succ, lcRun_A, lcBody, tN, tTp, tT1, tT0, wipeL, cond_pair, lcRunA_pure, fm_some, fm_if, if_true, cond_true, cond_false, Nat.reduceAdd, Nat.reduceLeDiff, Nat.zero_add, ite_true, ite_false, Bool.and_true, Bool.true_and, reduceIte, Nat.zero_le, Option.join_some, bLt_i, bGt_i, bLe_i, bGe_i, oIs, noOb, bNon, bNotNon, bIsB, bNotB]; rw [decide_eq_false (by omega)])]
        rfl
    · rintro Γ ⟨x8, x9, rfl, _⟩
      obtain ⟨d, mu3, e3, hd, m3⟩ := rl_odd (C := C) (B := B + 40) (ss := ss) hn (m2.le (by simp))
      refine sForP (fun r => ∃ Γ', r = some (SO.nx Γ') ∧ ∃ y3 y4 y5 y6 y7 y8 y9 mu', Γ' = ⟨[some (.st q), some (.st (.ref a)), some (.st (.int t)), y3, y4, y5, y6, y7, y8, y9, none], mu'⟩ ∧ Mo a B mu') (fun d : D => d) [d, .list [.int 0], .none, tI [0, 99], .str "01", lT (rounds ss n)] mu3 (fun rest Γ => (∀ d ∈ rest, NoR C (webD C ss n) d) ∧ ∃ x9, Γ = ⟨[some (.st q), some (.st (.ref a)), some (.st (.int t)), some (.st (tT ss)), some (.st (webD C ss n)), some (.st (lT (rounds ss n))), some (.st (lT (setsOf (rng n)))), x7, x8, x9, none], mu3⟩) ?_ ?_ ?_ ?_
      · rw [List.map_id']
        simp only [List.length_map, fnRun, fnRes, bCons, bNil, bPub, sNo, sSet, sRet, sIf, sExpr, sOwn, sApp, sExt, sAsg, sParEE, sParEF, sParFF, lstAt, cL, cLc, cSq, cUn, cUnL, cUnB, cV, cK, cB, cT, oB, cNot, cAnd, cOr, cIf, cCmp, cBin, cBinL, cChain, iLe, iLt, cTt, cTup, cLst, cNil, cCons, cCall, retOf, cMake, cLenI, oFld, cOwS, cOw, cScal, cScalB, pubSls, pubS, scalB, cSl, cSlL, cO0, cO1, En.start, List.map_cons, List.map_nil, List.length_cons, List.length_nil, List.replicate, List.cons_append, List.nil_append, List.getElem?_cons_zero, List.getElem?_cons_succ, Option.bind_some, Option.map_some, Option.bind_none, Option.map_none, oSeq_l, oSeq_t, oSeq_tI, oSeq_lI, oSeq_tT, oSeq_lT, oTuple, oInt, oLen_l, oLen_t, oLen_tI, oLen_lI, oLen_tT, oLen_lT, oNeg, oAdd, oAddL, oSub, oMod, oEnum, List.set_cons_zero, List.set_cons_succ, lcRun_A, lcBody, tN, tTp, tT1, tT0, wipeL, cond_pair, lcRunA_pure, fm_some, fm_if, if_true, cond_true, cond_false, Nat.reduceAdd, Nat.reduceLeDiff, Nat.zero_add, ite_true, ite_false, Bool.and_true, Bool.true_and, reduceIte, Nat.zero_le, Option.join_some, bLt_i, bGt_i, bLe_i, bGe_i, oIs, noOb, bNon, bNotNon, bIsB, bNotB, em, e3]
        try rfl
      · refine ⟨fun d' hd' => ?_, x9, rfl⟩
        simp only [List.mem_cons, List.not_mem_nil, or_false] at hd'
        rcases hd' with rfl | rfl | rfl | rfl | rfl | rfl
        · exact hd
        · exact fun mu => odd_no0 hn' rfl rfl
        · exact fun mu => odd_no0 hn' rfl rfl
        · refine fun mu => odd_no hn' ?_
          unfold isSet inRg
          rw [show ([(0 : Int), 99].all fun x => decide (0 ≤ x) && decide (x ≤ (n : Int) - 1)) = false from by simp; try omega]
          rfl
        · exact fun mu => odd_no0 hn' rfl rfl
        · exact fun mu => odd_no0 hn' rfl rfl
      · rintro d ds Γ ⟨h1, x9, rfl⟩
        exact ⟨_, _, rfl, .inl (odd_body (w := webD C ss n) (d := d) rfl rfl (h1 d List.mem_cons_self)), fun d hd => h1 d (List.mem_cons_of_mem _ hd), _, rfl⟩
      · rintro Γ ⟨_, x9, rfl⟩
        exact ⟨_, rfl, _, _, _, _, _, _, _, _, rfl, m3.le (by omega)⟩
theorem law_true (q : D) (a : Addr) (ms : MS) (ok : OkM (2 ^ 59) ms) : ∃ mu', f_law_rest C ⟨[some (.st q), some (.st (.ref a)), none, none, none, none, none, none, none, none, none], some (a, ms)⟩ = some (.rt (.bool true) mu') := by
  have m0 : Mo a (2 ^ 59) (some (a, ms)) := ⟨ms, rfl, ok⟩
  have p4 : ∀ s ∈ ([[0, 1], [0, 2], [0, 3], [1, 2], [1, 3], [2, 3]] : List (List Int)), P2 s := by
    intro s hs
    simp only [List.mem_cons, List.not_mem_nil, or_false] at hs
    rcases hs with rfl | rfl | rfl | rfl | rfl | rfl <;> exact ⟨_, _, rfl, by decide, by decide, by decide, by decide⟩
  have p3 : ∀ s ∈ ([[0, 0], [0, 1], [0, 1]] : List (List Int)), P2 s := by
    intro s hs
    simp only [List.mem_cons, List.not_mem_nil, or_false] at hs
    rcases hs with rfl | rfl | rfl <;> exact ⟨_, _, rfl, by decide, by decide, by decide, by decide⟩
  have o4 := starsL_ok (es := [[0, 1], [0, 2], [0, 3], [1, 2], [1, 3], [2, 3]]) (by decide) p4
  have o3 := starsL_ok (es := [[0, 0], [0, 1], [0, 1]]) (by decide) p3
  have o0 : OkW [] 0 := ⟨fun s hs => (by cases hs), fun s hs => (by cases hs), List.Pairwise.nil, fun t => (by simp), fun t => (by simp; try omega), by decide⟩
  have w4 : ∀ mu : Mu, f_web_of C mu [lT [[0, 1], [0, 2], [0, 3], [1, 2], [1, 3], [2, 3]]] = some (mu, .ret (webD C (srt (starsL [[0, 1], [0, 2], [0, 3], [1, 2], [1, 3], [2, 3]])) 6)) := fun mu => r_webof (by decide) p4
  have w3 : ∀ mu : Mu, f_web_of C mu [lT [[0, 0], [0, 1], [0, 1]]] = some (mu, .ret (webD C (srt (starsL [[0, 0], [0, 1], [0, 1]])) 3)) := fun mu => r_webof (by decide) p3
  have w0 : ∀ mu : Mu, f_Web_init C mu [.list []] = some (mu, .ok [some (tT []), some (tI (rng 0))]) := fun mu => r_web (q := lT []) o0 (.inr rfl)
  have v4 : rounds (srt (starsL [[0, 1], [0, 2], [0, 3], [1, 2], [1, 3], [2, 3]])) 6 = [[0, 1, 3], [0, 2, 4], [1, 2, 5], [3, 4, 5], [0, 1, 4, 5], [0, 2, 3, 5], [1, 2, 3, 4]] := by rw [srt_eq]; decide +kernel
  have v3 : rounds (srt (starsL [[0, 0], [0, 1], [0, 1]])) 3 = [[0], [1, 2]] := by rw [srt_eq]; decide +kernel
  have r4 : ∀ mu : Mu, f_rounds C mu [webD C (srt (starsL [[0, 1], [0, 2], [0, 3], [1, 2], [1, 3], [2, 3]])) 6] = some (mu, .ret (tT [[0, 1, 3], [0, 2, 4], [1, 2, 5], [3, 4, 5], [0, 1, 4, 5], [0, 2, 3, 5], [1, 2, 3, 4]])) := fun mu => by
    rw [← v4]
    exact r_rounds (by decide) (by have := o4.tot; omega) (by have := o4.len; omega)
  have r3 : ∀ mu : Mu, f_rounds C mu [webD C (srt (starsL [[0, 0], [0, 1], [0, 1]])) 3] = some (mu, .ret (tT [[0], [1, 2]])) := fun mu => by
    rw [← v3]
    exact r_rounds (by decide) (by have := o3.tot; omega) (by have := o3.len; omega)
  have r0 : ∀ mu : Mu, f_rounds C mu [.inst C [some (tT []), some (tI (rng 0))]] = some (mu, .ret (tT [])) := fun mu => by
    have : rounds [] 0 = [] := by decide +kernel
    have h := r_rounds (C := C) (mu := mu) (ss := []) (n := 0) (by decide) (by decide) (by decide)
    rw [this] at h
    exact h
  unfold f_law_rest
  refine bForP (fun r => ∃ mu', r = some (.rt (.bool true) mu')) D.int (rng 2) (some (a, ms)) (fun rest Γ => ∃ x2 x3 x4 x5 x6 x7 x8 x9 mu, Γ = ⟨[some (.st q), some (.st (.ref a)), x2, x3, x4, x5, x6, x7, x8, x9, none], mu⟩ ∧ Mo a (10 + 200 * rest.length) mu ∧ ∀ t ∈ rest, t = 0 ∨ t = 1) ?_ ?_ ?_ ?_
  · simp only [List.length_map, fnRun, fnRes, bCons, bNil, bPub, sNo, sSet, sRet, sIf, sExpr, sOwn, sApp, sExt, sAsg, sParEE, sParEF, sParFF, lstAt, cL, cLc, cSq, cUn, cUnL, cUnB, cV, cK, cB, cT, oB, cNot, cAnd, cOr, cIf, cCmp, cBin, cBinL, cChain, iLe, iLt, cTt, cTup, cLst, cNil, cCons, cCall, retOf, cMake, cLenI, oFld, cOwS, cOw, cScal, cScalB, pubSls, pubS, scalB, cSl, cSlL, cO0, cO1, En.start, List.map_cons, List.map_nil, List.length_cons, List.length_nil, List.replicate, List.cons_append, List.nil_append, List.getElem?_cons_zero, List.getElem?_cons_succ, Option.bind_some, Option.map_some, Option.bind_none, Option.map_none, oSeq_l, oSeq_t, oSeq_tI, oSeq_lI, oSeq_tT, oSeq_lT, oTuple, oInt, oLen_l, oLen_t, oLen_tI, oLen_lI, oLen_tT, oLen_lT, oNeg, oAdd, oAddL, oSub, oMod, oEnum, List.set_cons_zero, List.set_cons_succ, lcRun_A, lcBody, tN, tTp, tT1, tT0, wipeL, cond_pair, lcRunA_pure, fm_some, fm_if, if_true, cond_true, cond_false, Nat.reduceAdd, Nat.reduceLeDiff, Nat.zero_add, ite_true, ite_false, Bool.and_true, Bool.true_and, reduceIte, Nat.zero_le, Option.join_some, bLt_i, bGt_i, bLe_i, bGe_i, oIs, noOb, bNon, bNotNon, bIsB, bNotB, oRng_n (n := 2) (by omega)]
    exact congrArg _ (congrArg (fun z => (z, some (a, ms))) rfl)
  · exact ⟨_, _, _, _, _, _, _, _, _, rfl, m0.le (by decide), fun t ht => by
      have := rng_mem.mp ht
      omega⟩
  · rintro t rest Γ ⟨x2, x3, x4, x5, x6, x7, x8, x9, mu, rfl, m, ht⟩
    rw [List.length_cons] at m
    have hm : ∃ most : Nat, oIx (.list [.int 10, .int 7]) (.int t) = some (.int (most : Nat)) ∧ most ≤ 10 := by
      rcases ht t List.mem_cons_self with rfl | rfl
      · exact ⟨10, rfl, by decide⟩
      · exact ⟨7, rfl, by decide⟩
    obtain ⟨most, e1, e2⟩ := hm
    obtain ⟨y3, y4, y5, y6, y7, y8, y9, mu', e3, m3⟩ := law_turn (C := C) (q := q) (B := 10 + 200 * rest.length) (x3 := x3) (x4 := x4) (x5 := x5) (x6 := x6) (x7 := x7) (x8 := x8) (x9 := x9) e1 e2 (m.le (by omega))
    exact ⟨_, _, rfl, .inl e3, _, _, _, _, _, _, _, _, _, rfl, m3, fun t h => ht t (List.mem_cons_of_mem _ h)⟩
  · rintro Γ ⟨x2, x3, x4, x5, x6, x7, x8, x9, mu, rfl, m, _⟩
    refine ⟨mu, ?_⟩
    rw [bCons_nx (Γ' := ⟨[some (.st q), some (.st (.ref a)), x2, x3, x4, x5, x6, x7, x8, x9, some (.st (webD C (srt (starsL [[0, 1], [0, 2], [0, 3], [1, 2], [1, 3], [2, 3]])) 6))], mu⟩)]
    · rw [bCons_nx (Γ' := ⟨[some (.st q), some (.st (.ref a)), x2, x3, x4, x5, x6, x7, x8, x9, some (.st (webD C (srt (starsL [[0, 1], [0, 2], [0, 3], [1, 2], [1, 3], [2, 3]])) 6))], mu⟩)]
      · have t0 : tT [] = D.tuple [] := rfl
        have z3 : D.list [.tuple [.int 0, .int 0], .tuple [.int 0, .int 1], .tuple [.int 0, .int 1]] = lT [[0, 0], [0, 1], [0, 1]] := rfl
        have y3 : D.tuple [.tuple [.int 0], .tuple [.int 1, .int 2]] = tT [[0], [1, 2]] := rfl
        have y0 : D.tuple [] = tT [] := rfl
        simp only [List.length_map, fnRun, fnRes, bCons, bNil, bPub, sNo, sSet, sRet, sIf, sExpr, sOwn, sApp, sExt, sAsg, sParEE, sParEF, sParFF, lstAt, cL, cLc, cSq, cUn, cUnL, cUnB, cV, cK, cB, cT, oB, cNot, cAnd, cOr, cIf, cCmp, cBin, cBinL, cChain, iLe, iLt, cTt, cTup, cLst, cNil, cCons, cCall, retOf, cMake, cLenI, oFld, cOwS, cOw, cScal, cScalB, pubSls, pubS, scalB, cSl, cSlL, cO0, cO1, En.start, List.map_cons, List.map_nil, List.length_cons, List.length_nil, List.replicate, List.cons_append, List.nil_append, List.getElem?_cons_zero, List.getElem?_cons_succ, Option.bind_some, Option.map_some, Option.bind_none, Option.map_none, oSeq_l, oSeq_t, oSeq_tI, oSeq_lI, oSeq_tT, oSeq_lT, oTuple, oInt, oLen_l, oLen_t, oLen_tI, oLen_lI, oLen_tT, oLen_lT, oNeg, oAdd, oAddL, oSub, oMod, oEnum, List.set_cons_zero, List.set_cons_succ, lcRun_A, lcBody, tN, tTp, tT1, tT0, wipeL, cond_pair, lcRunA_pure, fm_some, fm_if, if_true, cond_true, cond_false, Nat.reduceAdd, Nat.reduceLeDiff, Nat.zero_add, ite_true, ite_false, Bool.and_true, Bool.true_and, reduceIte, Nat.zero_le, Option.join_some, bLt_i, bGt_i, bLe_i, bGe_i, oIs, noOb, bNon, bNotNon, bIsB, bNotB, z3, w3, r3, y3, bEq_tT, bEq_tT0, decide_true, w0, r0]
      · have y4 : D.tuple [.tuple [.int 0, .int 1, .int 3], .tuple [.int 0, .int 2, .int 4], .tuple [.int 1, .int 2, .int 5], .tuple [.int 3, .int 4, .int 5]] = tT [[0, 1, 3], [0, 2, 4], [1, 2, 5], [3, 4, 5]] := rfl
        have k4 : cSl (cCall 1 (f_rounds C) (cCons (cV 10) (cNil))) (cO0) (cO1 (cK (.int (4)))) [some (.st q), some (.st (.ref a)), x2, x3, x4, x5, x6, x7, x8, x9, some (.st (webD C (srt (starsL [[0, 1], [0, 2], [0, 3], [1, 2], [1, 3], [2, 3]])) 6))] mu = some (tT [[0, 1, 3], [0, 2, 4], [1, 2, 5], [3, 4, 5]], mu) := by
          simp only [List.length_map, fnRun, fnRes, bCons, bNil, bPub, sNo, sSet, sRet, sIf, sExpr, sOwn, sApp, sExt, sAsg, sParEE, sParEF, sParFF, lstAt, cL, cLc, cSq, cUn, cUnL, cUnB, cV, cK, cB, cT, oB, cNot, cAnd, cOr, cIf, cCmp, cBin, cBinL, cChain, iLe, iLt, cTt, cTup, cLst, cNil, cCons, cCall, retOf, cMake, cLenI, oFld, cOwS, cOw, cScal, cScalB, pubSls, pubS, scalB, cSl, cSlL, cO0, cO1, En.start, List.map_cons, List.map_nil, List.length_cons, List.length_nil, List.replicate, List.cons_append, List.nil_append, List.getElem?_cons_zero, List.getElem?_cons_succ, Option.bind_some, Option.map_some, Option.bind_none, Option.map_none, oSeq_l, oSeq_t, oSeq_tI, oSeq_lI, oSeq_tT, oSeq_lT, oTuple, oInt, oLen_l, oLen_t, oLen_tI, oLen_lI, oLen_tT, oLen_lT, oNeg, oAdd, oAddL, oSub, oMod, oEnum, List.set_cons_zero, List.set_cons_succ, lcRun_A, lcBody, tN, tTp, tT1, tT0, wipeL, cond_pair, lcRunA_pure, fm_some, fm_if, if_true, cond_true, cond_false, Nat.reduceAdd, Nat.reduceLeDiff, Nat.zero_add, ite_true, ite_false, Bool.and_true, Bool.true_and, reduceIte, Nat.zero_le, Option.join_some, bLt_i, bGt_i, bLe_i, bGe_i, oIs, noOb, bNon, bNotNon, bIsB, bNotB, r4]
          rfl
        have l4 : cUn oLen (cCall 1 (f_rounds C) (cCons (cV 10) (cNil))) [some (.st q), some (.st (.ref a)), x2, x3, x4, x5, x6, x7, x8, x9, some (.st (webD C (srt (starsL [[0, 1], [0, 2], [0, 3], [1, 2], [1, 3], [2, 3]])) 6))] mu = some (.int 7, mu) := by
          simp only [List.length_map, fnRun, fnRes, bCons, bNil, bPub, sNo, sSet, sRet, sIf, sExpr, sOwn, sApp, sExt, sAsg, sParEE, sParEF, sParFF, lstAt, cL, cLc, cSq, cUn, cUnL, cUnB, cV, cK, cB, cT, oB, cNot, cAnd, cOr, cIf, cCmp, cBin, cBinL, cChain, iLe, iLt, cTt, cTup, cLst, cNil, cCons, cCall, retOf, cMake, cLenI, oFld, cOwS, cOw, cScal, cScalB, pubSls, pubS, scalB, cSl, cSlL, cO0, cO1, En.start, List.map_cons, List.map_nil, List.length_cons, List.length_nil, List.replicate, List.cons_append, List.nil_append, List.getElem?_cons_zero, List.getElem?_cons_succ, Option.bind_some, Option.map_some, Option.bind_none, Option.map_none, oSeq_l, oSeq_t, oSeq_tI, oSeq_lI, oSeq_tT, oSeq_lT, oTuple, oInt, oLen_l, oLen_t, oLen_tI, oLen_lI, oLen_tT, oLen_lT, oNeg, oAdd, oAddL, oSub, oMod, oEnum, List.set_cons_zero, List.set_cons_succ, lcRun_A, lcBody, tN, tTp, tT1, tT0, wipeL, cond_pair, lcRunA_pure, fm_some, fm_if, if_true, cond_true, cond_false, Nat.reduceAdd, Nat.reduceLeDiff, Nat.zero_add, ite_true, ite_false, Bool.and_true, Bool.true_and, reduceIte, Nat.zero_le, Option.join_some, bLt_i, bGt_i, bLe_i, bGe_i, oIs, noOb, bNon, bNotNon, bIsB, bNotB, r4]
          rfl
        rw [sIf_f (mu := mu)]
        · rfl
        · unfold cOr cCmp
          rw [k4]
          simp only [Option.bind_some]
          simp only [cTup, cCons, cNil, cK, Option.bind_some, Option.map_some, List.length_cons, List.length_nil, Nat.reduceAdd, Nat.reduceLeDiff, if_true, y4, bNe_tT, decide_true, Bool.not_true, cond_false]
          rw [l4]
          rfl
    · have z4 : D.list [.tuple [.int 0, .int 1], .tuple [.int 0, .int 2], .tuple [.int 0, .int 3], .tuple [.int 1, .int 2], .tuple [.int 1, .int 3], .tuple [.int 2, .int 3]] = lT [[0, 1], [0, 2], [0, 3], [1, 2], [1, 3], [2, 3]] := rfl
      simp only [List.length_map, fnRun, fnRes, bCons, bNil, bPub, sNo, sSet, sRet, sIf, sExpr, sOwn, sApp, sExt, sAsg, sParEE, sParEF, sParFF, lstAt, cL, cLc, cSq, cUn, cUnL, cUnB, cV, cK, cB, cT, oB, cNot, cAnd, cOr, cIf, cCmp, cBin, cBinL, cChain, iLe, iLt, cTt, cTup, cLst, cNil, cCons, cCall, retOf, cMake, cLenI, oFld, cOwS, cOw, cScal, cScalB, pubSls, pubS, scalB, cSl, cSlL, cO0, cO1, En.start, List.map_cons, List.map_nil, List.length_cons, List.length_nil, List.replicate, List.cons_append, List.nil_append, List.getElem?_cons_zero, List.getElem?_cons_succ, Option.bind_some, Option.map_some, Option.bind_none, Option.map_none, oSeq_l, oSeq_t, oSeq_tI, oSeq_lI, oSeq_tT, oSeq_lT, oTuple, oInt, oLen_l, oLen_t, oLen_tI, oLen_lI, oLen_tT, oLen_lT, oNeg, oAdd, oAddL, oSub, oMod, oEnum, List.set_cons_zero, List.set_cons_succ, lcRun_A, lcBody, tN, tTp, tT1, tT0, wipeL, cond_pair, lcRunA_pure, fm_some, fm_if, if_true, cond_true, cond_false, Nat.reduceAdd, Nat.reduceLeDiff, Nat.zero_add, ite_true, ite_false, Bool.and_true, Bool.true_and, reduceIte, Nat.zero_le, Option.join_some, bLt_i, bGt_i, bLe_i, bGe_i, oIs, noOb, bNon, bNotNon, bIsB, bNotB, z4, w4]
end T
set_option Elab.async false
set_option linter.all false
set_option maxRecDepth 100000
set_option maxHeartbeats 400000
namespace T
open PySem PySem.Spec PyProof.Rows L2 Y
theorem facts_mk {K : PySem.W.Frag} {h : Heap} {mg : Str → Option Value} (X : K.In h) (G : h.Ns mainGlobals mg)
    {C p0 p1 : Addr}
    {f1 : Addr} {oc1 kV1 dc1 pm1 cd1 ct1 : Value} {od1 an1 : Option Addr} {sl1 : Array (Option Value)}
    {f2 : Addr} {oc2 kV2 dc2 pm2 cd2 ct2 : Value} {od2 an2 : Option Addr} {sl2 : Array (Option Value)}
    {f3 : Addr} {oc3 kV3 dc3 pm3 cd3 ct3 : Value} {od3 an3 : Option Addr} {sl3 : Array (Option Value)}
    {f4 : Addr} {oc4 kV4 dc4 pm4 cd4 ct4 : Value} {od4 an4 : Option Addr} {sl4 : Array (Option Value)}
    {f5 : Addr} {oc5 kV5 dc5 pm5 cd5 ct5 : Value} {od5 an5 : Option Addr} {sl5 : Array (Option Value)}
    {f6 : Addr} {oc6 kV6 dc6 pm6 cd6 ct6 : Value} {od6 an6 : Option Addr} {sl6 : Array (Option Value)}
    {f7 : Addr} {oc7 kV7 dc7 pm7 cd7 ct7 : Value} {od7 an7 : Option Addr} {sl7 : Array (Option Value)}
    {f8 : Addr} {oc8 kV8 dc8 pm8 cd8 ct8 : Value} {od8 an8 : Option Addr} {sl8 : Array (Option Value)}
    {f9 : Addr} {oc9 kV9 dc9 pm9 cd9 ct9 : Value} {od9 an9 : Option Addr} {sl9 : Array (Option Value)}
    {f10 : Addr} {oc10 kV10 dc10 pm10 cd10 ct10 : Value} {od10 an10 : Option Addr} {sl10 : Array (Option Value)}
    {f11 : Addr} {oc11 kV11 dc11 pm11 cd11 ct11 : Value} {od11 an11 : Option Addr} {sl11 : Array (Option Value)}
    {f12 : Addr} {oc12 kV12 dc12 pm12 cd12 ct12 : Value} {od12 an12 : Option Addr} {sl12 : Array (Option Value)}
    {f13 : Addr} {oc13 kV13 dc13 pm13 cd13 ct13 : Value} {od13 an13 : Option Addr} {sl13 : Array (Option Value)}
    {f14 : Addr} {oc14 kV14 dc14 pm14 cd14 ct14 : Value} {od14 an14 : Option Addr} {sl14 : Array (Option Value)}
    {f15 : Addr} {oc15 kV15 dc15 pm15 cd15 ct15 : Value} {od15 an15 : Option Addr} {sl15 : Array (Option Value)}
    {f16 : Addr} {oc16 kV16 dc16 pm16 cd16 ct16 : Value} {od16 an16 : Option Addr} {sl16 : Array (Option Value)}
    {f17 : Addr} {oc17 kV17 dc17 pm17 cd17 ct17 : Value} {od17 an17 : Option Addr} {sl17 : Array (Option Value)}
    {f18 : Addr} {oc18 kV18 dc18 pm18 cd18 ct18 : Value} {od18 an18 : Option Addr} {sl18 : Array (Option Value)}
    {f19 : Addr} {oc19 kV19 dc19 pm19 cd19 ct19 : Value} {od19 an19 : Option Addr} {sl19 : Array (Option Value)}
    {f20 : Addr} {oc20 kV20 dc20 pm20 cd20 ct20 : Value} {od20 an20 : Option Addr} {sl20 : Array (Option Value)}
    {f21 : Addr} {oc21 kV21 dc21 pm21 cd21 ct21 : Value} {od21 an21 : Option Addr} {sl21 : Array (Option Value)}
    {f22 : Addr} {oc22 kV22 dc22 pm22 cd22 ct22 : Value} {od22 an22 : Option Addr} {sl22 : Array (Option Value)}
    {f23 : Addr} {oc23 kV23 dc23 pm23 cd23 ct23 : Value} {od23 an23 : Option Addr} {sl23 : Array (Option Value)}
    {f24 : Addr} {oc24 kV24 dc24 pm24 cd24 ct24 : Value} {od24 an24 : Option Addr} {sl24 : Array (Option Value)}
    {f25 : Addr} {oc25 kV25 dc25 pm25 cd25 ct25 : Value} {od25 an25 : Option Addr} {sl25 : Array (Option Value)}
    {f26 : Addr} {oc26 kV26 dc26 pm26 cd26 ct26 : Value} {od26 an26 : Option Addr} {sl26 : Array (Option Value)}
    {f27 : Addr} {oc27 kV27 dc27 pm27 cd27 ct27 : Value} {od27 an27 : Option Addr} {sl27 : Array (Option Value)}
    {f28 : Addr} {oc28 kV28 dc28 pm28 cd28 ct28 : Value} {od28 an28 : Option Addr} {sl28 : Array (Option Value)}
    {f29 : Addr} {oc29 kV29 dc29 pm29 cd29 ct29 : Value} {od29 an29 : Option Addr} {sl29 : Array (Option Value)}
    {f30 : Addr} {oc30 kV30 dc30 pm30 cd30 ct30 : Value} {od30 an30 : Option Addr} {sl30 : Array (Option Value)}
    {f31 : Addr} {oc31 kV31 dc31 pm31 cd31 ct31 : Value} {od31 an31 : Option Addr} {sl31 : Array (Option Value)}
    {f32 : Addr} {oc32 kV32 dc32 pm32 cd32 ct32 : Value} {od32 an32 : Option Addr} {sl32 : Array (Option Value)}
    {t_MOST_TIES : Tok}
    {t_MOST_END : Tok}
    (z_len : PySem.W.nsIn K mainGlobals "len" = some none)
    (z_all : PySem.W.nsIn K mainGlobals "all" = some none)
    (z_any : PySem.W.nsIn K mainGlobals "any" = some none)
    (z_tuple : PySem.W.nsIn K mainGlobals "tuple" = some none)
    (z_list : PySem.W.nsIn K mainGlobals "list" = some none)
    (z_sorted : PySem.W.nsIn K mainGlobals "sorted" = some none)
    (z_set : PySem.W.nsIn K mainGlobals "set" = some none)
    (z_range : PySem.W.nsIn K mainGlobals "range" = some none)
    (z_zip : PySem.W.nsIn K mainGlobals "zip" = some none)
    (z_enumerate : PySem.W.nsIn K mainGlobals "enumerate" = some none)
    (z_isinstance : PySem.W.nsIn K mainGlobals "isinstance" = some none)
    (z_int : PySem.W.nsIn K mainGlobals "int" = some none)
    (z_str : PySem.W.nsIn K mainGlobals "str" = some none)
    (z_bool : PySem.W.nsIn K mainGlobals "bool" = some none)
    (z_repr : PySem.W.nsIn K mainGlobals "repr" = some none)
    (z_sum : PySem.W.nsIn K mainGlobals "sum" = some none)
    (z_max : PySem.W.nsIn K mainGlobals "max" = some none)
    (z_min : PySem.W.nsIn K mainGlobals "min" = some none)
    (z_ValueError : PySem.W.nsIn K mainGlobals "ValueError" = some none)
    (z_OverflowError : PySem.W.nsIn K mainGlobals "OverflowError" = some none)
    (aC : PySem.W.nsIn K mainGlobals "Web" = some (some (.ref C)))
    (cpg : PySem.W.plainGet K C Str.empty = true)
    (cic : PySem.W.isClsIn K C = true)
    (cpo : PySem.W.plainOver K C = true)
    (csa : PySem.W.findIn K (.ref C) "__setattr__" = some (some (.builtin "object.__setattr__")))
    (s0a : PySem.W.findIn K (.ref C) "stars" = some (some (.ref p0)))
    (s0g : PySem.W.specialIn K (.ref p0) "__get__" = some (some (.builtin "member_descriptor.__get__")))
    (s0k : PySem.W.takesIn K (.ref p0) = some true)
    (s0y : PySem.W.typeIn K (.ref p0) = some (.type "member_descriptor"))
    (s0x : PySem.W.slotIn K p0 C = some 0)
    (s1a : PySem.W.findIn K (.ref C) "ties" = some (some (.ref p1)))
    (s1g : PySem.W.specialIn K (.ref p1) "__get__" = some (some (.builtin "member_descriptor.__get__")))
    (s1k : PySem.W.takesIn K (.ref p1) = some true)
    (s1y : PySem.W.typeIn K (.ref p1) = some (.type "member_descriptor"))
    (s1x : PySem.W.slotIn K p1 C = some 1)
    (a1 : PySem.W.nsIn K mainGlobals "is_whole" = some (some (.ref f1)))
    (l1 : K.lookup f1 = some ⟨oc1, od1, .func (PySem.W.fnOf "is_whole" "is_whole" (defArgs s_is_whole) (defBody s_is_whole) (defScope s_is_whole) .none kV1 dc1 pm1 an1 cd1 ct1), sl1⟩)
    (c1 : PySem.W.codeIn K cd1 "is_whole" = true)
    (k1 : PySem.W.keepIn K (.ref f1) = true)
    (a2 : PySem.W.nsIn K mainGlobals "is_among" = some (some (.ref f2)))
    (l2 : K.lookup f2 = some ⟨oc2, od2, .func (PySem.W.fnOf "is_among" "is_among" (defArgs s_is_among) (defBody s_is_among) (defScope s_is_among) .none kV2 dc2 pm2 an2 cd2 ct2), sl2⟩)
    (c2 : PySem.W.codeIn K cd2 "is_among" = true)
    (k2 : PySem.W.keepIn K (.ref f2) = true)
    (a3 : PySem.W.nsIn K mainGlobals "is_list" = some (some (.ref f3)))
    (l3 : K.lookup f3 = some ⟨oc3, od3, .func (PySem.W.fnOf "is_list" "is_list" (defArgs s_is_list) (defBody s_is_list) (defScope s_is_list) .none kV3 dc3 pm3 an3 cd3 ct3), sl3⟩)
    (c3 : PySem.W.codeIn K cd3 "is_list" = true)
    (k3 : PySem.W.keepIn K (.ref f3) = true)
    (a4 : PySem.W.nsIn K mainGlobals "is_set_of" = some (some (.ref f4)))
    (l4 : K.lookup f4 = some ⟨oc4, od4, .func (PySem.W.fnOf "is_set_of" "is_set_of" (defArgs s_is_set_of) (defBody s_is_set_of) (defScope s_is_set_of) .none kV4 dc4 pm4 an4 cd4 ct4), sl4⟩)
    (c4 : PySem.W.codeIn K cd4 "is_set_of" = true)
    (k4 : PySem.W.keepIn K (.ref f4) = true)
    (a5 : PySem.W.nsIn K mainGlobals "need_stars" = some (some (.ref f5)))
    (l5 : K.lookup f5 = some ⟨oc5, od5, .func (PySem.W.fnOf "need_stars" "need_stars" (defArgs s_need_stars) (defBody s_need_stars) (defScope s_need_stars) .none kV5 dc5 pm5 an5 cd5 ct5), sl5⟩)
    (c5 : PySem.W.codeIn K cd5 "need_stars" = true)
    (k5 : PySem.W.keepIn K (.ref f5) = true)
    (a6 : PySem.W.nsIn K mainGlobals "is_end" = some (some (.ref f6)))
    (l6 : K.lookup f6 = some ⟨oc6, od6, .func (PySem.W.fnOf "is_end" "is_end" (defArgs s_is_end) (defBody s_is_end) (defScope s_is_end) .none kV6 dc6 pm6 an6 cd6 ct6), sl6⟩)
    (c6 : PySem.W.codeIn K cd6 "is_end" = true)
    (k6 : PySem.W.keepIn K (.ref f6) = true)
    (a7 : PySem.W.nsIn K mainGlobals "web_of" = some (some (.ref f7)))
    (l7 : K.lookup f7 = some ⟨oc7, od7, .func (PySem.W.fnOf "web_of" "web_of" (defArgs s_web_of) (defBody s_web_of) (defScope s_web_of) .none kV7 dc7 pm7 an7 cd7 ct7), sl7⟩)
    (c7 : PySem.W.codeIn K cd7 "web_of" = true)
    (k7 : PySem.W.keepIn K (.ref f7) = true)
    (a8 : PySem.W.nsIn K mainGlobals "gathered" = some (some (.ref f8)))
    (l8 : K.lookup f8 = some ⟨oc8, od8, .func (PySem.W.fnOf "gathered" "gathered" (defArgs s_gathered) (defBody s_gathered) (defScope s_gathered) .none kV8 dc8 pm8 an8 cd8 ct8), sl8⟩)
    (c8 : PySem.W.codeIn K cd8 "gathered" = true)
    (k8 : PySem.W.keepIn K (.ref f8) = true)
    (a9 : PySem.W.nsIn K mainGlobals "within" = some (some (.ref f9)))
    (l9 : K.lookup f9 = some ⟨oc9, od9, .func (PySem.W.fnOf "within" "within" (defArgs s_within) (defBody s_within) (defScope s_within) .none kV9 dc9 pm9 an9 cd9 ct9), sl9⟩)
    (c9 : PySem.W.codeIn K cd9 "within" = true)
    (k9 : PySem.W.keepIn K (.ref f9) = true)
    (a10 : PySem.W.nsIn K mainGlobals "goes_round" = some (some (.ref f10)))
    (l10 : K.lookup f10 = some ⟨oc10, od10, .func (PySem.W.fnOf "goes_round" "goes_round" (defArgs s_goes_round) (defBody s_goes_round) (defScope s_goes_round) .none kV10 dc10 pm10 an10 cd10 ct10), sl10⟩)
    (c10 : PySem.W.codeIn K cd10 "goes_round" = true)
    (k10 : PySem.W.keepIn K (.ref f10) = true)
    (a11 : PySem.W.nsIn K mainGlobals "is_round" = some (some (.ref f11)))
    (l11 : K.lookup f11 = some ⟨oc11, od11, .func (PySem.W.fnOf "is_round" "is_round" (defArgs s_is_round) (defBody s_is_round) (defScope s_is_round) .none kV11 dc11 pm11 an11 cd11 ct11), sl11⟩)
    (c11 : PySem.W.codeIn K cd11 "is_round" = true)
    (k11 : PySem.W.keepIn K (.ref f11) = true)
    (a12 : PySem.W.nsIn K mainGlobals "sets_of" = some (some (.ref f12)))
    (l12 : K.lookup f12 = some ⟨oc12, od12, .func (PySem.W.fnOf "sets_of" "sets_of" (defArgs s_sets_of) (defBody s_sets_of) (defScope s_sets_of) .none kV12 dc12 pm12 an12 cd12 ct12), sl12⟩)
    (c12 : PySem.W.codeIn K cd12 "sets_of" = true)
    (k12 : PySem.W.keepIn K (.ref f12) = true)
    (a13 : PySem.W.nsIn K mainGlobals "rounds" = some (some (.ref f13)))
    (l13 : K.lookup f13 = some ⟨oc13, od13, .func (PySem.W.fnOf "rounds" "rounds" (defArgs s_rounds) (defBody s_rounds) (defScope s_rounds) .none kV13 dc13 pm13 an13 cd13 ct13), sl13⟩)
    (c13 : PySem.W.codeIn K cd13 "rounds" = true)
    (k13 : PySem.W.keepIn K (.ref f13) = true)
    (a14 : PySem.W.nsIn K mainGlobals "_law_mixed" = some (some (.ref f14)))
    (l14 : K.lookup f14 = some ⟨oc14, od14, .func (PySem.W.fnOf "_law_mixed" "_law_mixed" (defArgs s__law_mixed) (defBody s__law_mixed) (defScope s__law_mixed) .none kV14 dc14 pm14 an14 cd14 ct14), sl14⟩)
    (c14 : PySem.W.codeIn K cd14 "_law_mixed" = true)
    (k14 : PySem.W.keepIn K (.ref f14) = true)
    (a15 : PySem.W.nsIn K mainGlobals "_law_folded" = some (some (.ref f15)))
    (l15 : K.lookup f15 = some ⟨oc15, od15, .func (PySem.W.fnOf "_law_folded" "_law_folded" (defArgs s__law_folded) (defBody s__law_folded) (defScope s__law_folded) .none kV15 dc15 pm15 an15 cd15 ct15), sl15⟩)
    (c15 : PySem.W.codeIn K cd15 "_law_folded" = true)
    (k15 : PySem.W.keepIn K (.ref f15) = true)
    (a16 : PySem.W.nsIn K mainGlobals "_law_draw" = some (some (.ref f16)))
    (l16 : K.lookup f16 = some ⟨oc16, od16, .func (PySem.W.fnOf "_law_draw" "_law_draw" (defArgs s__law_draw) (defBody s__law_draw) (defScope s__law_draw) .none kV16 dc16 pm16 an16 cd16 ct16), sl16⟩)
    (c16 : PySem.W.codeIn K cd16 "_law_draw" = true)
    (k16 : PySem.W.keepIn K (.ref f16) = true)
    (a17 : PySem.W.nsIn K mainGlobals "_law_begun" = some (some (.ref f17)))
    (l17 : K.lookup f17 = some ⟨oc17, od17, .func (PySem.W.fnOf "_law_begun" "_law_begun" (defArgs s__law_begun) (defBody s__law_begun) (defScope s__law_begun) .none kV17 dc17 pm17 an17 cd17 ct17), sl17⟩)
    (c17 : PySem.W.codeIn K cd17 "_law_begun" = true)
    (k17 : PySem.W.keepIn K (.ref f17) = true)
    (a18 : PySem.W.nsIn K mainGlobals "_law_like" = some (some (.ref f18)))
    (l18 : K.lookup f18 = some ⟨oc18, od18, .func (PySem.W.fnOf "_law_like" "_law_like" (defArgs s__law_like) (defBody s__law_like) (defScope s__law_like) .none kV18 dc18 pm18 an18 cd18 ct18), sl18⟩)
    (c18 : PySem.W.codeIn K cd18 "_law_like" = true)
    (k18 : PySem.W.keepIn K (.ref f18) = true)
    (a19 : PySem.W.nsIn K mainGlobals "_law_ends" = some (some (.ref f19)))
    (l19 : K.lookup f19 = some ⟨oc19, od19, .func (PySem.W.fnOf "_law_ends" "_law_ends" (defArgs s__law_ends) (defBody s__law_ends) (defScope s__law_ends) .none kV19 dc19 pm19 an19 cd19 ct19), sl19⟩)
    (c19 : PySem.W.codeIn K cd19 "_law_ends" = true)
    (k19 : PySem.W.keepIn K (.ref f19) = true)
    (a20 : PySem.W.nsIn K mainGlobals "_law_order" = some (some (.ref f20)))
    (l20 : K.lookup f20 = some ⟨oc20, od20, .func (PySem.W.fnOf "_law_order" "_law_order" (defArgs s__law_order) (defBody s__law_order) (defScope s__law_order) .none kV20 dc20 pm20 an20 cd20 ct20), sl20⟩)
    (c20 : PySem.W.codeIn K cd20 "_law_order" = true)
    (k20 : PySem.W.keepIn K (.ref f20) = true)
    (a21 : PySem.W.nsIn K mainGlobals "_law_stars" = some (some (.ref f21)))
    (l21 : K.lookup f21 = some ⟨oc21, od21, .func (PySem.W.fnOf "_law_stars" "_law_stars" (defArgs s__law_stars) (defBody s__law_stars) (defScope s__law_stars) .none kV21 dc21 pm21 an21 cd21 ct21), sl21⟩)
    (c21 : PySem.W.codeIn K cd21 "_law_stars" = true)
    (k21 : PySem.W.keepIn K (.ref f21) = true)
    (a22 : PySem.W.nsIn K mainGlobals "_law_web" = some (some (.ref f22)))
    (l22 : K.lookup f22 = some ⟨oc22, od22, .func (PySem.W.fnOf "_law_web" "_law_web" (defArgs s__law_web) (defBody s__law_web) (defScope s__law_web) .none kV22 dc22 pm22 an22 cd22 ct22), sl22⟩)
    (c22 : PySem.W.codeIn K cd22 "_law_web" = true)
    (k22 : PySem.W.keepIn K (.ref f22) = true)
    (a23 : PySem.W.nsIn K mainGlobals "_law_many" = some (some (.ref f23)))
    (l23 : K.lookup f23 = some ⟨oc23, od23, .func (PySem.W.fnOf "_law_many" "_law_many" (defArgs s__law_many) (defBody s__law_many) (defScope s__law_many) .none kV23 dc23 pm23 an23 cd23 ct23), sl23⟩)
    (c23 : PySem.W.codeIn K cd23 "_law_many" = true)
    (k23 : PySem.W.keepIn K (.ref f23) = true)
    (a24 : PySem.W.nsIn K mainGlobals "_law_within" = some (some (.ref f24)))
    (l24 : K.lookup f24 = some ⟨oc24, od24, .func (PySem.W.fnOf "_law_within" "_law_within" (defArgs s__law_within) (defBody s__law_within) (defScope s__law_within) .none kV24 dc24 pm24 an24 cd24 ct24), sl24⟩)
    (c24 : PySem.W.codeIn K cd24 "_law_within" = true)
    (k24 : PySem.W.keepIn K (.ref f24) = true)
    (a25 : PySem.W.nsIn K mainGlobals "_law_lots" = some (some (.ref f25)))
    (l25 : K.lookup f25 = some ⟨oc25, od25, .func (PySem.W.fnOf "_law_lots" "_law_lots" (defArgs s__law_lots) (defBody s__law_lots) (defScope s__law_lots) .none kV25 dc25 pm25 an25 cd25 ct25), sl25⟩)
    (c25 : PySem.W.codeIn K cd25 "_law_lots" = true)
    (k25 : PySem.W.keepIn K (.ref f25) = true)
    (a26 : PySem.W.nsIn K mainGlobals "_law_is_round" = some (some (.ref f26)))
    (l26 : K.lookup f26 = some ⟨oc26, od26, .func (PySem.W.fnOf "_law_is_round" "_law_is_round" (defArgs s__law_is_round) (defBody s__law_is_round) (defScope s__law_is_round) .none kV26 dc26 pm26 an26 cd26 ct26), sl26⟩)
    (c26 : PySem.W.codeIn K cd26 "_law_is_round" = true)
    (k26 : PySem.W.keepIn K (.ref f26) = true)
    (a27 : PySem.W.nsIn K mainGlobals "_law_sets" = some (some (.ref f27)))
    (l27 : K.lookup f27 = some ⟨oc27, od27, .func (PySem.W.fnOf "_law_sets" "_law_sets" (defArgs s__law_sets) (defBody s__law_sets) (defScope s__law_sets) .none kV27 dc27 pm27 an27 cd27 ct27), sl27⟩)
    (c27 : PySem.W.codeIn K cd27 "_law_sets" = true)
    (k27 : PySem.W.keepIn K (.ref f27) = true)
    (a28 : PySem.W.nsIn K mainGlobals "_law_rounds" = some (some (.ref f28)))
    (l28 : K.lookup f28 = some ⟨oc28, od28, .func (PySem.W.fnOf "_law_rounds" "_law_rounds" (defArgs s__law_rounds) (defBody s__law_rounds) (defScope s__law_rounds) .none kV28 dc28 pm28 an28 cd28 ct28), sl28⟩)
    (c28 : PySem.W.codeIn K cd28 "_law_rounds" = true)
    (k28 : PySem.W.keepIn K (.ref f28) = true)
    (a29 : PySem.W.nsIn K mainGlobals "_law_odd_set" = some (some (.ref f29)))
    (l29 : K.lookup f29 = some ⟨oc29, od29, .func (PySem.W.fnOf "_law_odd_set" "_law_odd_set" (defArgs s__law_odd_set) (defBody s__law_odd_set) (defScope s__law_odd_set) .none kV29 dc29 pm29 an29 cd29 ct29), sl29⟩)
    (c29 : PySem.W.codeIn K cd29 "_law_odd_set" = true)
    (k29 : PySem.W.keepIn K (.ref f29) = true)
    (a30 : PySem.W.nsIn K mainGlobals "law" = some (some (.ref f30)))
    (l30 : K.lookup f30 = some ⟨oc30, od30, .func (PySem.W.fnOf "law" "law" (defArgs s_law) (defBody s_law) (defScope s_law) .none kV30 dc30 pm30 an30 cd30 ct30), sl30⟩)
    (c30 : PySem.W.codeIn K cd30 "law" = true)
    (k30 : PySem.W.keepIn K (.ref f30) = true)
    (a31 : PySem.W.findIn K (.ref C) "__init__" = some (some (.ref f31)))
    (i31 : PySem.W.isFn K (.ref f31) = true)
    (mk : PySem.W.makesIn K C = true)
    (kc : PySem.W.keepIn K (.ref C) = true)
    (l31 : K.lookup f31 = some ⟨oc31, od31, .func (PySem.W.fnOf "__init__" "Web.__init__" (defArgs s_Web_init) (defBody s_Web_init) (defScope s_Web_init) .none kV31 dc31 pm31 an31 cd31 ct31), sl31⟩)
    (c31 : PySem.W.codeIn K cd31 "Web.__init__" = true)
    (k31 : PySem.W.keepIn K (.ref f31) = true)
    (a32 : PySem.W.findIn K (.ref C) "__len__" = some (some (.ref f32)))
    (i32 : PySem.W.isFn K (.ref f32) = true)
    (l32 : K.lookup f32 = some ⟨oc32, od32, .func (PySem.W.fnOf "__len__" "Web.__len__" (defArgs s_Web_len) (defBody s_Web_len) (defScope s_Web_len) .none kV32 dc32 pm32 an32 cd32 ct32), sl32⟩)
    (c32 : PySem.W.codeIn K cd32 "Web.__len__" = true)
    (k32 : PySem.W.keepIn K (.ref f32) = true)
    (g_MOST_TIES : PySem.W.nsIn K mainGlobals "MOST_TIES" = some (some (.int (12) t_MOST_TIES)))
    (g_MOST_END : PySem.W.nsIn K mainGlobals "MOST_END" = some (some (.int (23) t_MOST_END)))
    (P : Program) (w : World) (base : Heap) : Facts ⟨P, w, K, mg, base⟩ C where
  B := ⟨PySem.W.mg_none_of X G z_len, PySem.W.mg_none_of X G z_all, PySem.W.mg_none_of X G z_any, PySem.W.mg_none_of X G z_tuple, PySem.W.mg_none_of X G z_list, PySem.W.mg_none_of X G z_sorted, PySem.W.mg_none_of X G z_set, PySem.W.mg_none_of X G z_range, PySem.W.mg_none_of X G z_zip, PySem.W.mg_none_of X G z_enumerate, PySem.W.mg_none_of X G z_isinstance, PySem.W.mg_none_of X G z_int, PySem.W.mg_none_of X G z_str, PySem.W.mg_none_of X G z_bool, PySem.W.mg_none_of X G z_repr, PySem.W.mg_none_of X G z_sum, PySem.W.mg_none_of X G z_max, PySem.W.mg_none_of X G z_min, PySem.W.mg_none_of X G z_ValueError, PySem.W.mg_none_of X G z_OverflowError⟩
  W := ⟨⟨cpg, cic, cpo, csa⟩, ⟨p0, s0a, s0g, s0k, s0y, s0x, by decide⟩, ⟨p1, s1a, s1g, s1k, s1y, s1x, by decide⟩⟩
  mgW := PySem.W.mg_of X G aC
  fn_is_whole := ⟨_, _, (fun_mk (st := s_is_whole) l1 c1 k1), PySem.W.mg_of X G a1, ((fun_mk (st := s_is_whole) l1 c1 k1).binds (ps := P_is_whole) fun _ _ _ _ _ _ us hl => match us, hl with | [_], _ => rfl)⟩
  fn_is_among := ⟨_, _, (fun_mk (st := s_is_among) l2 c2 k2), PySem.W.mg_of X G a2, ((fun_mk (st := s_is_among) l2 c2 k2).binds (ps := P_is_among) fun _ _ _ _ _ _ us hl => match us, hl with | [_, _, _], _ => rfl)⟩
  fn_is_list := ⟨_, _, (fun_mk (st := s_is_list) l3 c3 k3), PySem.W.mg_of X G a3, ((fun_mk (st := s_is_list) l3 c3 k3).binds (ps := P_is_list) fun _ _ _ _ _ _ us hl => match us, hl with | [_], _ => rfl)⟩
  fn_is_set_of := ⟨_, _, (fun_mk (st := s_is_set_of) l4 c4 k4), PySem.W.mg_of X G a4, ((fun_mk (st := s_is_set_of) l4 c4 k4).binds (ps := P_is_set_of) fun _ _ _ _ _ _ us hl => match us, hl with | [_, _], _ => rfl)⟩
  fn_need_stars := ⟨_, _, (fun_mk (st := s_need_stars) l5 c5 k5), PySem.W.mg_of X G a5, ((fun_mk (st := s_need_stars) l5 c5 k5).binds (ps := P_need_stars) fun _ _ _ _ _ _ us hl => match us, hl with | [_], _ => rfl)⟩
  fn_is_end := ⟨_, _, (fun_mk (st := s_is_end) l6 c6 k6), PySem.W.mg_of X G a6, ((fun_mk (st := s_is_end) l6 c6 k6).binds (ps := P_is_end) fun _ _ _ _ _ _ us hl => match us, hl with | [_], _ => rfl)⟩
  fn_web_of := ⟨_, _, (fun_mk (st := s_web_of) l7 c7 k7), PySem.W.mg_of X G a7, ((fun_mk (st := s_web_of) l7 c7 k7).binds (ps := P_web_of) fun _ _ _ _ _ _ us hl => match us, hl with | [_], _ => rfl)⟩
  fn_gathered := ⟨_, _, (fun_mk (st := s_gathered) l8 c8 k8), PySem.W.mg_of X G a8, ((fun_mk (st := s_gathered) l8 c8 k8).binds (ps := P_gathered) fun _ _ _ _ _ _ us hl => match us, hl with | [_], _ => rfl)⟩
  fn_within := ⟨_, _, (fun_mk (st := s_within) l9 c9 k9), PySem.W.mg_of X G a9, ((fun_mk (st := s_within) l9 c9 k9).binds (ps := P_within) fun _ _ _ _ _ _ us hl => match us, hl with | [_, _], _ => rfl)⟩
  fn_goes_round := ⟨_, _, (fun_mk (st := s_goes_round) l10 c10 k10), PySem.W.mg_of X G a10, ((fun_mk (st := s_goes_round) l10 c10 k10).binds (ps := P_goes_round) fun _ _ _ _ _ _ us hl => match us, hl with | [_, _], _ => rfl)⟩
  fn_is_round := ⟨_, _, (fun_mk (st := s_is_round) l11 c11 k11), PySem.W.mg_of X G a11, ((fun_mk (st := s_is_round) l11 c11 k11).binds (ps := P_is_round) fun _ _ _ _ _ _ us hl => match us, hl with | [_, _], _ => rfl)⟩
  fn_sets_of := ⟨_, _, (fun_mk (st := s_sets_of) l12 c12 k12), PySem.W.mg_of X G a12, ((fun_mk (st := s_sets_of) l12 c12 k12).binds (ps := P_sets_of) fun _ _ _ _ _ _ us hl => match us, hl with | [_], _ => rfl)⟩
  fn_rounds := ⟨_, _, (fun_mk (st := s_rounds) l13 c13 k13), PySem.W.mg_of X G a13, ((fun_mk (st := s_rounds) l13 c13 k13).binds (ps := P_rounds) fun _ _ _ _ _ _ us hl => match us, hl with | [_], _ => rfl)⟩
  fn__law_mixed := ⟨_, _, (fun_mk (st := s__law_mixed) l14 c14 k14), PySem.W.mg_of X G a14, ((fun_mk (st := s__law_mixed) l14 c14 k14).binds (ps := P__law_mixed) fun _ _ _ _ _ _ us hl => match us, hl with | [_, _], _ => rfl)⟩
  fn__law_folded := ⟨_, _, (fun_mk (st := s__law_folded) l15 c15 k15), PySem.W.mg_of X G a15, ((fun_mk (st := s__law_folded) l15 c15 k15).binds (ps := P__law_folded) fun _ _ _ _ _ _ us hl => match us, hl with | [_], _ => rfl)⟩
  fn__law_draw := ⟨_, _, (fun_mk (st := s__law_draw) l16 c16 k16), PySem.W.mg_of X G a16, ((fun_mk (st := s__law_draw) l16 c16 k16).binds (ps := P__law_draw) fun _ _ _ _ _ _ us hl => match us, hl with | [_, _], _ => rfl)⟩
  fn__law_begun := ⟨_, _, (fun_mk (st := s__law_begun) l17 c17 k17), PySem.W.mg_of X G a17, ((fun_mk (st := s__law_begun) l17 c17 k17).binds (ps := P__law_begun) fun _ _ _ _ _ _ us hl => match us, hl with | [_], _ => rfl)⟩
  fn__law_like := ⟨_, _, (fun_mk (st := s__law_like) l18 c18 k18), PySem.W.mg_of X G a18, ((fun_mk (st := s__law_like) l18 c18 k18).binds (ps := P__law_like) fun _ _ _ _ _ _ us hl => match us, hl with | [_, _], _ => rfl)⟩
  fn__law_ends := ⟨_, _, (fun_mk (st := s__law_ends) l19 c19 k19), PySem.W.mg_of X G a19, ((fun_mk (st := s__law_ends) l19 c19 k19).binds (ps := P__law_ends) fun _ _ _ _ _ _ us hl => match us, hl with | [_, _], _ => rfl)⟩
  fn__law_order := ⟨_, _, (fun_mk (st := s__law_order) l20 c20 k20), PySem.W.mg_of X G a20, ((fun_mk (st := s__law_order) l20 c20 k20).binds (ps := P__law_order) fun _ _ _ _ _ _ us hl => match us, hl with | [_, _], _ => rfl)⟩
  fn__law_stars := ⟨_, _, (fun_mk (st := s__law_stars) l21 c21 k21), PySem.W.mg_of X G a21, ((fun_mk (st := s__law_stars) l21 c21 k21).binds (ps := P__law_stars) fun _ _ _ _ _ _ us hl => match us, hl with | [_], _ => rfl)⟩
  fn__law_web := ⟨_, _, (fun_mk (st := s__law_web) l22 c22 k22), PySem.W.mg_of X G a22, ((fun_mk (st := s__law_web) l22 c22 k22).binds (ps := P__law_web) fun _ _ _ _ _ _ us hl => match us, hl with | [_, _], _ => rfl)⟩
  fn__law_many := ⟨_, _, (fun_mk (st := s__law_many) l23 c23 k23), PySem.W.mg_of X G a23, ((fun_mk (st := s__law_many) l23 c23 k23).binds (ps := P__law_many) fun _ _ _ _ _ _ us hl => match us, hl with | [_], _ => rfl)⟩
  fn__law_within := ⟨_, _, (fun_mk (st := s__law_within) l24 c24 k24), PySem.W.mg_of X G a24, ((fun_mk (st := s__law_within) l24 c24 k24).binds (ps := P__law_within) fun _ _ _ _ _ _ us hl => match us, hl with | [_, _], _ => rfl)⟩
  fn__law_lots := ⟨_, _, (fun_mk (st := s__law_lots) l25 c25 k25), PySem.W.mg_of X G a25, ((fun_mk (st := s__law_lots) l25 c25 k25).binds (ps := P__law_lots) fun _ _ _ _ _ _ us hl => match us, hl with | [_], _ => rfl)⟩
  fn__law_is_round := ⟨_, _, (fun_mk (st := s__law_is_round) l26 c26 k26), PySem.W.mg_of X G a26, ((fun_mk (st := s__law_is_round) l26 c26 k26).binds (ps := P__law_is_round) fun _ _ _ _ _ _ us hl => match us, hl with | [_, _], _ => rfl)⟩
  fn__law_sets := ⟨_, _, (fun_mk (st := s__law_sets) l27 c27 k27), PySem.W.mg_of X G a27, ((fun_mk (st := s__law_sets) l27 c27 k27).binds (ps := P__law_sets) fun _ _ _ _ _ _ us hl => match us, hl with | [_], _ => rfl)⟩
  fn__law_rounds := ⟨_, _, (fun_mk (st := s__law_rounds) l28 c28 k28), PySem.W.mg_of X G a28, ((fun_mk (st := s__law_rounds) l28 c28 k28).binds (ps := P__law_rounds) fun _ _ _ _ _ _ us hl => match us, hl with | [_], _ => rfl)⟩
  fn__law_odd_set := ⟨_, _, (fun_mk (st := s__law_odd_set) l29 c29 k29), PySem.W.mg_of X G a29, ((fun_mk (st := s__law_odd_set) l29 c29 k29).binds (ps := P__law_odd_set) fun _ _ _ _ _ _ us hl => match us, hl with | [_, _], _ => rfl)⟩
  fn_law := ⟨_, _, (fun_mk (st := s_law) l30 c30 k30), PySem.W.mg_of X G a30, ((fun_mk (st := s_law) l30 c30 k30).binds (ps := P_law) fun _ _ _ _ _ _ us hl => match us, hl with | [_], _ => rfl)⟩
  me_Web_init := ⟨_, _, (fun_mk (st := s_Web_init) l31 c31 k31), ⟨mk, a31, i31, kc⟩, ((fun_mk (st := s_Web_init) l31 c31 k31).binds (ps := P_Web_init) fun _ _ _ _ _ _ us hl => match us, hl with | [_, _], _ => rfl)⟩
  me_Web_len := ⟨_, _, (fun_mk (st := s_Web_len) l32 c32 k32), a32, i32, ((fun_mk (st := s_Web_len) l32 c32 k32).binds (ps := P_Web_len) fun _ _ _ _ _ _ us hl => match us, hl with | [_], _ => rfl)⟩
  g_MOST_TIES := ⟨_, PySem.W.mg_of X G g_MOST_TIES⟩
  g_MOST_END := ⟨_, PySem.W.mg_of X G g_MOST_END⟩
end T
set_option Elab.async false
open PySem PySem.W PyProof.Rows in
set_option maxRecDepth 100000 in
set_option maxHeartbeats 0 in
theorem PySem.Challenge.cw_samerounds_k05_whole_rounds_holds : PySem.Challenge.rw_samerounds_k05_whole_rounds.Holds := by
  w_on; o_law; k_head; (case hw => w_witness2)
  k_fill
  refine Y.walk_law (l := PySem.Challenge.rw_samerounds_k05_whole_rounds) (k := 20) rfl rfl ⟨rfl, by decide, by decide⟩ (fun w h Y => PySem.W.kIn_of Y) ?F
  case F =>
    intro w mg fa h KX G hmg base _ _
    refine' T.w_law (R := ⟨_, _, _, _, _⟩) (T.facts_mk KX G ?z_len ?z_all ?z_any ?z_tuple ?z_list ?z_sorted ?z_set ?z_range ?z_zip ?z_enumerate ?z_isinstance ?z_int ?z_str ?z_bool ?z_repr ?z_sum ?z_max ?z_min ?z_ValueError ?z_OverflowError ?aC ?cpg ?cic ?cpo ?csa ?s0a ?s0g ?s0k ?s0y ?s0x ?s1a ?s1g ?s1k ?s1y ?s1x ?a1 ?l1 ?c1 ?k1 ?a2 ?l2 ?c2 ?k2 ?a3 ?l3 ?c3 ?k3 ?a4 ?l4 ?c4 ?k4 ?a5 ?l5 ?c5 ?k5 ?a6 ?l6 ?c6 ?k6 ?a7 ?l7 ?c7 ?k7 ?a8 ?l8 ?c8 ?k8 ?a9 ?l9 ?c9 ?k9 ?a10 ?l10 ?c10 ?k10 ?a11 ?l11 ?c11 ?k11 ?a12 ?l12 ?c12 ?k12 ?a13 ?l13 ?c13 ?k13 ?a14 ?l14 ?c14 ?k14 ?a15 ?l15 ?c15 ?k15 ?a16 ?l16 ?c16 ?k16 ?a17 ?l17 ?c17 ?k17 ?a18 ?l18 ?c18 ?k18 ?a19 ?l19 ?c19 ?k19 ?a20 ?l20 ?c20 ?k20 ?a21 ?l21 ?c21 ?k21 ?a22 ?l22 ?c22 ?k22 ?a23 ?l23 ?c23 ?k23 ?a24 ?l24 ?c24 ?k24 ?a25 ?l25 ?c25 ?k25 ?a26 ?l26 ?c26 ?k26 ?a27 ?l27 ?c27 ?k27 ?a28 ?l28 ?c28 ?k28 ?a29 ?l29 ?c29 ?k29 ?a30 ?l30 ?c30 ?k30 ?a31 ?i31 ?mk ?kc ?l31 ?c31 ?k31 ?a32 ?i32 ?l32 ?c32 ?k32 ?g_MOST_TIES ?g_MOST_END _ _ _) T.law_true hmg
    (case z_len => k_is)
    (case z_all => k_is)
    (case z_any => k_is)
    (case z_tuple => k_is)
    (case z_list => k_is)
    (case z_sorted => k_is)
    (case z_set => k_is)
    (case z_range => k_is)
    (case z_zip => k_is)
    (case z_enumerate => k_is)
    (case z_isinstance => k_is)
    (case z_int => k_is)
    (case z_str => k_is)
    (case z_bool => k_is)
    (case z_repr => k_is)
    (case z_sum => k_is)
    (case z_max => k_is)
    (case z_min => k_is)
    (case z_ValueError => k_is)
    (case z_OverflowError => k_is)
    (case aC => k_is)
    (case cpg => k_is)
    (case cic => k_is)
    (case cpo => k_is)
    (case csa => k_is)
    (case s0a => k_is)
    (case s0g => k_is)
    (case s0k => k_is)
    (case s0y => k_is)
    (case s0x => k_is)
    (case s1a => k_is)
    (case s1g => k_is)
    (case s1k => k_is)
    (case s1y => k_is)
    (case s1x => k_is)
    (case a1 => k_is)
    (case l1 => k_is)
    (case c1 => k_is)
    (case k1 => k_is)
    (case a2 => k_is)
    (case l2 => k_is)
    (case c2 => k_is)
    (case k2 => k_is)
    (case a3 => k_is)
    (case l3 => k_is)
    (case c3 => k_is)
    (case k3 => k_is)
    (case a4 => k_is)
    (case l4 => k_is)
    (case c4 => k_is)
    (case k4 => k_is)
    (case a5 => k_is)
    (case l5 => k_is)
    (case c5 => k_is)
    (case k5 => k_is)
    (case a6 => k_is)
    (case l6 => k_is)
    (case c6 => k_is)
    (case k6 => k_is)
    (case a7 => k_is)
    (case l7 => k_is)
    (case c7 => k_is)
    (case k7 => k_is)
    (case a8 => k_is)
    (case l8 => k_is)
    (case c8 => k_is)
    (case k8 => k_is)
    (case a9 => k_is)
    (case l9 => k_is)
    (case c9 => k_is)
    (case k9 => k_is)
    (case a10 => k_is)
    (case l10 => k_is)
    (case c10 => k_is)
    (case k10 => k_is)
    (case a11 => k_is)
    (case l11 => k_is)
    (case c11 => k_is)
    (case k11 => k_is)
    (case a12 => k_is)
    (case l12 => k_is)
    (case c12 => k_is)
    (case k12 => k_is)
    (case a13 => k_is)
    (case l13 => k_is)
    (case c13 => k_is)
    (case k13 => k_is)
    (case a14 => k_is)
    (case l14 => k_is)
    (case c14 => k_is)
    (case k14 => k_is)
    (case a15 => k_is)
    (case l15 => k_is)
    (case c15 => k_is)
    (case k15 => k_is)
    (case a16 => k_is)
    (case l16 => k_is)
    (case c16 => k_is)
    (case k16 => k_is)
    (case a17 => k_is)
    (case l17 => k_is)
    (case c17 => k_is)
    (case k17 => k_is)
    (case a18 => k_is)
    (case l18 => k_is)
    (case c18 => k_is)
    (case k18 => k_is)
    (case a19 => k_is)
    (case l19 => k_is)
    (case c19 => k_is)
    (case k19 => k_is)
    (case a20 => k_is)
    (case l20 => k_is)
    (case c20 => k_is)
    (case k20 => k_is)
    (case a21 => k_is)
    (case l21 => k_is)
    (case c21 => k_is)
    (case k21 => k_is)
    (case a22 => k_is)
    (case l22 => k_is)
    (case c22 => k_is)
    (case k22 => k_is)
    (case a23 => k_is)
    (case l23 => k_is)
    (case c23 => k_is)
    (case k23 => k_is)
    (case a24 => k_is)
    (case l24 => k_is)
    (case c24 => k_is)
    (case k24 => k_is)
    (case a25 => k_is)
    (case l25 => k_is)
    (case c25 => k_is)
    (case k25 => k_is)
    (case a26 => k_is)
    (case l26 => k_is)
    (case c26 => k_is)
    (case k26 => k_is)
    (case a27 => k_is)
    (case l27 => k_is)
    (case c27 => k_is)
    (case k27 => k_is)
    (case a28 => k_is)
    (case l28 => k_is)
    (case c28 => k_is)
    (case k28 => k_is)
    (case a29 => k_is)
    (case l29 => k_is)
    (case c29 => k_is)
    (case k29 => k_is)
    (case a30 => k_is)
    (case l30 => k_is)
    (case c30 => k_is)
    (case k30 => k_is)
    (case a31 => k_is)
    (case i31 => k_is)
    (case mk => k_is)
    (case kc => k_is)
    (case l31 => k_is)
    (case c31 => k_is)
    (case k31 => k_is)
    (case a32 => k_is)
    (case i32 => k_is)
    (case l32 => k_is)
    (case c32 => k_is)
    (case k32 => k_is)
    (case g_MOST_TIES => k_is)
    (case g_MOST_END => k_is)
