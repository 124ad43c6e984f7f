import PyProof.Rows.All
import HandS.ForMost
import HandS.WordsExc
import HandS.Defaults
import HandS.Flow
import HandS.Codes
import HandS.IsInst
import HandS.Style
import HandS.Steps
import HandS.TupAny
import HandS.SetTxt0
import HandS.Set
import HandS.Strs
import PyProof.ListStr
import PyProof.Rows.SortShellAny
import KE.GoesEnum
import KE.GoesMore
import HandS.Dict
import PyProof.StrOps2
import Wide.All
import OpenK.AllK
import Wide.FinOn
import KE.KStateDown
import Lean
import HandS.Head0
import HandS.Head1
import HandS.Head2
import HandS.HeadEnd
import HandS.HeadHook1
import HandS.HeadHook2
import PySem.Challenge.RW_tellwork_k23_whole_sounds_one_behind_the
set_option Elab.async false
set_option linter.all false
set_option maxRecDepth 100000
set_option maxHeartbeats 4000000
/-! Q1: pure values, what stands for them, states of slots, readings that are lifted from predicate transformers over pure values. -/
namespace Qy
open PySem PySem.Spec PyProof.Rows L2

/-- the text of these codes -/
abbrev tx (s : List Nat) : Str := ⟨s.toArray⟩
theorem tx_cps (s : Str) : tx s.cps.toList = s := by
  obtain ⟨a⟩ := s
  rfl
theorem tx_inj {s t : List Nat} (h : tx s = tx t) : s = t := by
  have e : s.toArray = t.toArray := congrArg Str.cps h
  exact congrArg Array.toList e
theorem tx_len (s : List Nat) : (tx s).length = s.length := by
  show (s.toArray).size = s.length
  simp

/-- a pure value -/
inductive PV where
  | non | bl (b : Bool) | int (i : Int) | str (s : List Nat) | tup (xs : List PV) | lst (xs : List PV) | dct (ks : List Key) (xs : List PV)
  | ins (C : Addr) (fs : List Str) (xs : List PV)
  /-- a list that is read alone (the script, a list of the module) -/
  | seq (xs : List PV)

mutual
/-- v stands for the pure value in the heap F -/
def Rep (K : PySem.W.Frag) (F : Hp) : PV → V → Prop
  | .non, v => v = .non
  | .bl b, v => v = .bl b
  | .int i, v => v = .int i
  | .str s, v => v = .str (tx s)
  | .tup ps, v => ∃ a vs, v = .ref a ∧ SqT K F a vs ∧ Reps K F ps vs
  | .lst ps, v => ∃ a vs, v = .ref a ∧ F a = some (.lst vs) ∧ Reps K F ps vs
  | .dct ks ps, v => ∃ a kvs, v = .ref a ∧ F a = some (.dK kvs) ∧ kvs.map (·.1) = ks ∧ Reps K F ps (kvs.map (·.2))
  | .ins C fs ps, v => ∃ a dx kvs, v = .ref a ∧ F a = some (.ins C dx kvs) ∧ kvs.map (·.1) = fs ∧ Reps K F ps (kvs.map (·.2))
  | .seq ps, v => ∃ a vs, v = .ref a ∧ SqL K F a vs ∧ Reps K F ps vs
def Reps (K : PySem.W.Frag) (F : Hp) : List PV → List V → Prop
  | [], vs => vs = []
  | p :: ps, vs => ∃ v r, vs = v :: r ∧ Rep K F p v ∧ Reps K F ps r
end

def Sub (F H : Hp) : Prop := ∀ a o, F a = some o → H a = some o
theorem Sub.refl (F : Hp) : Sub F F := fun _ _ h => h
theorem Sub.trans {F G H : Hp} (a : Sub F G) (b : Sub G H) : Sub F H := fun x o h => b x o (a x o h)
theorem sql_tracked {K : PySem.W.Frag} {H : Hp} {a : Addr} {xs : List V} (h : H a = some (.lst xs)) : SqL K H a xs := .inl (.inl h)
theorem Sub.rd {F H : Hp} (s : Sub F H) {a : Addr} {u : HO} (h : Rd F a u) : Rd H a u := by
  rcases h with h | ⟨o, h⟩
  · exact .inl (s a _ h)
  · exact .inr ⟨o, s a _ h⟩
theorem Sub.sql {K : PySem.W.Frag} {F H : Hp} (s : Sub F H) {a : Addr} {xs : List V} (h : SqL K F a xs) : SqL K H a xs := h.elim (fun h => .inl (s.rd h)) .inr
theorem Sub.sqt {K : PySem.W.Frag} {F H : Hp} (s : Sub F H) {a : Addr} {xs : List V} (h : SqT K F a xs) : SqT K H a xs := h.elim (fun h => .inl (s.rd h)) .inr
theorem Sub.upd {F H : Hp} (s : Sub F H) {a : Addr} {o : HO} (h : H a = some o) : Sub (upd F a o) H := fun b u e => by
  by_cases z : b = a
  · subst z
    rw [upd_same] at e
    rw [← e]
    exact h
  · rw [upd_ne z] at e
    exact s b u e
theorem sub_upd {F : Hp} {a : Addr} {o : HO} (h : F a = none) : Sub F (upd F a o) := fun b u e => by
  rw [upd_ne (ne_of_none e h)]
  exact e

section
variable {K : PySem.W.Frag} {F G : Hp}
mutual
theorem Rep.mono (s : Sub F G) : ∀ {p : PV} {v : V}, Rep K F p v → Rep K G p v
  | .non, _, h => by unfold Rep at h ⊢; exact h
  | .bl _, _, h => by unfold Rep at h ⊢; exact h
  | .int _, _, h => by unfold Rep at h ⊢; exact h
  | .str _, _, h => by unfold Rep at h ⊢; exact h
  | .tup ps, _, h => by
    unfold Rep at h ⊢
    obtain ⟨a, vs, e, q, r⟩ := h
    exact ⟨a, vs, e, s.sqt q, Reps.mono s r⟩
  | .lst ps, _, h => by
    unfold Rep at h ⊢
    obtain ⟨a, vs, e, q, r⟩ := h
    exact ⟨a, vs, e, s _ _ q, Reps.mono s r⟩
  | .dct ks ps, _, h => by
    unfold Rep at h ⊢
    obtain ⟨a, kvs, e, q, k, r⟩ := h
    exact ⟨a, kvs, e, s _ _ q, k, Reps.mono s r⟩
  | .ins C fs ps, _, h => by
    unfold Rep at h ⊢
    obtain ⟨a, dx, kvs, e, q, k, r⟩ := h
    exact ⟨a, dx, kvs, e, s _ _ q, k, Reps.mono s r⟩
  | .seq ps, _, h => by
    unfold Rep at h ⊢
    obtain ⟨a, vs, e, q, r⟩ := h
    exact ⟨a, vs, e, s.sql q, Reps.mono s r⟩
theorem Reps.mono (s : Sub F G) : ∀ {ps : List PV} {vs : List V}, Reps K F ps vs → Reps K G ps vs
  | [], _, h => by unfold Reps at h ⊢; exact h
  | p :: ps, _, h => by
    unfold Reps at h ⊢
    obtain ⟨v, r, e, h1, h2⟩ := h
    exact ⟨v, r, e, Rep.mono s h1, Reps.mono s h2⟩
end
theorem rep_non {v : V} : Rep K F .non v ↔ v = .non := by unfold Rep; exact Iff.rfl
theorem rep_bl {b : Bool} {v : V} : Rep K F (.bl b) v ↔ v = .bl b := by unfold Rep; exact Iff.rfl
theorem rep_int {i : Int} {v : V} : Rep K F (.int i) v ↔ v = .int i := by unfold Rep; exact Iff.rfl
theorem rep_str {s : List Nat} {v : V} : Rep K F (.str s) v ↔ v = .str (tx s) := by unfold Rep; exact Iff.rfl
theorem rep_tup {ps : List PV} {v : V} : Rep K F (.tup ps) v ↔ ∃ a vs, v = .ref a ∧ SqT K F a vs ∧ Reps K F ps vs := by
  constructor
  · intro h; unfold Rep at h; exact h
  · intro h; unfold Rep; exact h
theorem rep_lst {ps : List PV} {v : V} : Rep K F (.lst ps) v ↔ ∃ a vs, v = .ref a ∧ F a = some (.lst vs) ∧ Reps K F ps vs := by
  constructor
  · intro h; unfold Rep at h; exact h
  · intro h; unfold Rep; exact h
theorem rep_seq {ps : List PV} {v : V} : Rep K F (.seq ps) v ↔ ∃ a vs, v = .ref a ∧ SqL K F a vs ∧ Reps K F ps vs := by
  constructor
  · intro h; unfold Rep at h; exact h
  · intro h; unfold Rep; exact h
theorem rep_dct {ks : List Key} {ps : List PV} {v : V} : Rep K F (.dct ks ps) v ↔ ∃ a kvs, v = .ref a ∧ F a = some (.dK kvs) ∧ kvs.map (·.1) = ks ∧ Reps K F ps (kvs.map (·.2)) := by
  constructor
  · intro h; unfold Rep at h; exact h
  · intro h; unfold Rep; exact h
theorem reps_nil {vs : List V} : Reps K F [] vs ↔ vs = [] := by unfold Reps; exact Iff.rfl
theorem reps_cons {p : PV} {ps : List PV} {vs : List V} : Reps K F (p :: ps) vs ↔ ∃ v r, vs = v :: r ∧ Rep K F p v ∧ Reps K F ps r := by
  constructor
  · intro h; unfold Reps at h; exact h
  · intro h; unfold Reps; exact h
theorem Reps.nil : Reps K F [] [] := reps_nil.mpr rfl
theorem Reps.cons {p : PV} {ps : List PV} {v : V} {vs : List V} (h : Rep K F p v) (t : Reps K F ps vs) : Reps K F (p :: ps) (v :: vs) := reps_cons.mpr ⟨v, vs, rfl, h, t⟩
theorem Reps.length : ∀ {ps : List PV} {vs : List V}, Reps K F ps vs → vs.length = ps.length
  | [], _, h => by rw [reps_nil.mp h] <;> rfl
  | p :: ps, _, h => by
    obtain ⟨v, r, e, _, t⟩ := reps_cons.mp h
    rw [e, List.length_cons, List.length_cons, Reps.length t]
theorem Reps.append : ∀ {ps qs : List PV} {vs ws : List V}, Reps K F ps vs → Reps K F qs ws → Reps K F (ps ++ qs) (vs ++ ws)
  | [], _, _, _, h, h2 => by rw [reps_nil.mp h]; exact h2
  | p :: ps, _, _, _, h, h2 => by
    obtain ⟨v, r, e, h1, t⟩ := reps_cons.mp h
    rw [e]
    exact .cons h1 (Reps.append t h2)
theorem Reps.one {p : PV} {v : V} (h : Rep K F p v) : Reps K F [p] [v] := .cons h .nil
theorem Reps.get : ∀ {ps : List PV} {vs : List V} {i : Nat} {p : PV}, Reps K F ps vs → ps[i]? = some p → ∃ v, vs[i]? = some v ∧ Rep K F p v
  | [], _, _, _, _, e => by simp at e
  | q :: ps, _, 0, p, h, e => by
    obtain ⟨v, r, e2, h1, t⟩ := reps_cons.mp h
    rw [e2]
    have e3 : q = p := by simpa using e
    rw [← e3]
    exact ⟨v, rfl, h1⟩
  | q :: ps, _, i + 1, p, h, e => by
    obtain ⟨v, r, e2, h1, t⟩ := reps_cons.mp h
    rw [e2]
    obtain ⟨u, h3, h4⟩ := Reps.get (i := i) t (by simpa using e)
    exact ⟨u, by simpa using h3, h4⟩
theorem Reps.drop : ∀ {ps : List PV} {vs : List V} (n : Nat), Reps K F ps vs → Reps K F (ps.drop n) (vs.drop n)
  | _, _, 0, h => h
  | [], _, n + 1, h => by rw [reps_nil.mp h]; exact .nil
  | p :: ps, _, n + 1, h => by
    obtain ⟨v, r, e, _, t⟩ := reps_cons.mp h
    rw [e]
    exact Reps.drop n t
theorem Reps.take : ∀ {ps : List PV} {vs : List V} (n : Nat), Reps K F ps vs → Reps K F (ps.take n) (vs.take n)
  | _, _, 0, _ => .nil
  | [], _, n + 1, h => by rw [reps_nil.mp h]; exact .nil
  | p :: ps, _, n + 1, h => by
    obtain ⟨v, r, e, h1, t⟩ := reps_cons.mp h
    rw [e]
    exact .cons h1 (Reps.take n t)
theorem Reps.reverse : ∀ {ps : List PV} {vs : List V}, Reps K F ps vs → Reps K F ps.reverse vs.reverse
  | [], _, h => by rw [reps_nil.mp h]; exact .nil
  | p :: ps, _, h => by
    obtain ⟨v, r, e, h1, t⟩ := reps_cons.mp h
    rw [e, List.reverse_cons, List.reverse_cons]
    exact (Reps.reverse t).append (.one h1)
theorem Reps.map {α : Type} {f : α → PV} {g : α → V} (h : ∀ x, Rep K F (f x) (g x)) : ∀ xs : List α, Reps K F (xs.map f) (xs.map g)
  | [] => .nil
  | x :: xs => .cons (h x) (Reps.map h xs)
theorem Reps.unmap {α : Type} {f : α → PV} {g : α → V} (h : ∀ x v, Rep K F (f x) v → v = g x) : ∀ {xs : List α} {vs : List V}, Reps K F (xs.map f) vs → vs = xs.map g
  | [], _, q => reps_nil.mp q
  | x :: xs, _, q => by
    obtain ⟨v, r, e, h1, t⟩ := reps_cons.mp q
    rw [e, h x v h1, Reps.unmap h t]
    rfl
theorem Reps.ints {ns : List Int} {vs : List V} (q : Reps K F (ns.map PV.int) vs) : vs = ns.map V.int := Reps.unmap (fun _ _ h => rep_int.mp h) q
theorem Reps.bls {ns : List Bool} {vs : List V} (q : Reps K F (ns.map PV.bl) vs) : vs = ns.map V.bl := Reps.unmap (fun _ _ h => rep_bl.mp h) q
theorem Reps.strs {ns : List (List Nat)} {vs : List V} (q : Reps K F (ns.map PV.str) vs) : vs = (ns.map tx).map V.str := by
  rw [List.map_map]
  exact Reps.unmap (fun _ _ h => rep_str.mp h) q
end

/-! ### cells that a def owns, slots -/
inductive Cell where
  | l (ps : List PV) | d (ks : List Key) (ps : List PV)
def Cell.pv : Cell → PV
  | .l ps => .lst ps
  | .d ks ps => .dct ks ps
def CellOk (K : PySem.W.Frag) (F H : Hp) (a : Addr) : Cell → Prop
  | .l ps => ∃ vs, H a = some (.lst vs) ∧ Reps K F ps vs
  | .d ks ps => ∃ kvs, H a = some (.dK kvs) ∧ kvs.map (·.1) = ks ∧ Reps K F ps (kvs.map (·.2))
theorem CellOk.ob {K : PySem.W.Frag} {F H : Hp} {a : Addr} : ∀ {c : Cell}, CellOk K F H a c → ∃ o, H a = some o
  | .l _, ⟨_, h, _⟩ => ⟨_, h⟩
  | .d _ _, ⟨_, h, _⟩ => ⟨_, h⟩
theorem CellOk.move {K : PySem.W.Frag} {F F' H H' : Hp} {a : Addr} (s : Sub F F') (h : ∀ o, H a = some o → H' a = some o) : ∀ {c : Cell}, CellOk K F H a c → CellOk K F' H' a c
  | .l _, ⟨vs, q, r⟩ => ⟨vs, h _ q, r.mono s⟩
  | .d _ _, ⟨kvs, q, e, r⟩ => ⟨kvs, h _ q, e, r.mono s⟩
theorem CellOk.rep {K : PySem.W.Frag} {F H : Hp} {a : Addr} (hn : F a = none) : ∀ {c : Cell}, CellOk K F H a c → ∃ o, H a = some o ∧ Rep K (upd F a o) c.pv (.ref a)
  | .l ps, ⟨vs, q, r⟩ => ⟨_, q, rep_lst.mpr ⟨a, vs, rfl, upd_same, r.mono (sub_upd hn)⟩⟩
  | .d ks ps, ⟨kvs, q, e, r⟩ => ⟨_, q, rep_dct.mpr ⟨a, kvs, rfl, upd_same, e, r.mono (sub_upd hn)⟩⟩

/-- what is known of a slot: nothing; a pure value; a cell that the def itself has made; one that was lent to it -/
inductive Sl where
  | un | val (p : PV) | own (c : Cell) | brw (c : Cell)
/-- the state that readings speak of: the frozen heap, the heap, the slots, where owned cells lie -/
structure Z where
  F : Hp
  H : Hp
  r : List Sl
  ad : List (Option Addr)
def SlAt (K : PySem.W.Frag) (F H : Hp) : Sl → Option Addr → Option V → Prop
  | .un, x, _ => x = none
  | .val p, x, y => x = none ∧ ∃ v, y = some v ∧ Rep K F p v
  | .own c, x, y => ∃ a, x = some a ∧ y = some (.ref a) ∧ F a = none ∧ CellOk K F H a c
  | .brw c, x, y => ∃ a, x = some a ∧ y = some (.ref a) ∧ F a = none ∧ CellOk K F H a c
structure Z.Ok (K : PySem.W.Frag) (z : Z) (σ : L2.St) : Prop where
  fh : Sub z.F z.H
  ls : σ.length = z.r.length
  la : z.ad.length = z.r.length
  at_ : ∀ (i : Nat) (s : Sl), z.r[i]? = some s → SlAt K z.F z.H s (z.ad[i]?.join) (σ[i]?.join)
  inj : ∀ (i j : Nat) (a : Addr), z.ad[i]? = some (some a) → z.ad[j]? = some (some a) → i = j
def Z.Held (z : Z) (a : Addr) : Prop := ∃ i : Nat, z.ad[i]? = some (some a)
def Z.Own (z : Z) (a : Addr) : Prop := ∃ (i : Nat) (c : Cell), z.r[i]? = some (.own c) ∧ z.ad[i]? = some (some a)
structure Stp (z z' : Z) : Prop where
  ff : Sub z.F z'.F
  keep : ∀ a o, z.H a = some o → ¬ z.Held a → z'.H a = some o
  dom : ∀ a, z.H a ≠ none → z'.H a ≠ none
  lim : ∀ a, z.H a ≠ none → z.F a = none → z'.F a = none ∨ z.Own a
  sub : ∀ a, z'.Held a → z.Held a ∨ z.H a = none
  own : ∀ a, z'.Own a → z.Own a ∨ z.H a = none
  brw : ∀ (i : Nat) (c : Cell), z'.r[i]? = some (.brw c) → ∃ c0, z.r[i]? = some (.brw c0) ∧ z'.ad[i]? = z.ad[i]?
theorem Stp.refl (z : Z) : Stp z z := ⟨Sub.refl _, fun _ _ h _ => h, fun _ h => h, fun _ _ h => .inl h, fun _ h => .inl h, fun _ h => .inl h, fun i c h => ⟨c, h, rfl⟩⟩
theorem Stp.trans {x y z : Z} (a : Stp x y) (b : Stp y z) : Stp x z where
  ff := a.ff.trans b.ff
  keep := fun p o h n => b.keep p o (a.keep p o h n) fun q => (a.sub p q).elim n fun e => by rw [e] at h; cases h
  dom := fun p h => b.dom p (a.dom p h)
  lim := fun p h n => (a.lim p h n).elim (fun e => (b.lim p (a.dom p h) e).elim .inl fun q => (a.own p q).elim .inr fun e => absurd e h) .inr
  sub := fun p q => (b.sub p q).elim (fun q => a.sub p q) fun e => .inr (by
    cases h : x.H p with
    | none => rfl
    | some o => exact absurd e (a.dom p (by rw [h]; exact fun z => nomatch z)))
  own := fun p q => (b.own p q).elim (fun q => a.own p q) fun e => .inr (by
    cases h : x.H p with
    | none => rfl
    | some o => exact absurd e (a.dom p (by rw [h]; exact fun z => nomatch z)))
  brw := fun i c h => by
    obtain ⟨c1, h1, e1⟩ := b.brw i c h
    obtain ⟨c2, h2, e2⟩ := a.brw i c1 h1
    exact ⟨c2, h2, e1.trans e2⟩
/-- nothing but new things, frozen -/
structure Ext (F H F' H' : Hp) : Prop where
  ff : Sub F F'
  fh : Sub F' H'
  hh : Sub H H'
  lim : ∀ a, H a ≠ none → F a = none → F' a = none
theorem Ext.refl {F H : Hp} (h : Sub F H) : Ext F H F H := ⟨Sub.refl _, h, Sub.refl _, fun _ _ e => e⟩
theorem Ext.trans {F H F' H' F2 H2 : Hp} (a : Ext F H F' H') (b : Ext F' H' F2 H2) : Ext F H F2 H2 :=
  ⟨a.ff.trans b.ff, b.fh, a.hh.trans b.hh, fun p h e => b.lim p (fun z => by
    cases q : H p with
    | none => exact h q
    | some o => rw [a.hh p o q] at z; cases z) (a.lim p h e)⟩
/-- a new frozen thing -/
theorem Ext.new {F H : Hp} (h : Sub F H) {p : Addr} (hp : H p = none) (o : HO) : Ext F H (upd F p o) (upd H p o) := by
  have hF : F p = none := by
    cases q : F p with
    | none => rfl
    | some u => rw [h p u q] at hp; cases hp
  refine ⟨sub_upd hF, fun a u e => ?_, sub_upd hp, fun a ha hn => ?_⟩
  · by_cases z : a = p
    · subst z
      rw [upd_same] at e ⊢
      exact e
    · rw [upd_ne z] at e ⊢
      exact h a u e
  · rw [upd_ne (fun z => ha (by rw [z]; exact hp))]
    exact hn
/-- a new thing that is not tracked as frozen -/
theorem Ext.newH {F H : Hp} (h : Sub F H) {p : Addr} (hp : H p = none) (o : HO) : Ext F H F (upd H p o) :=
  ⟨Sub.refl _, h.trans (sub_upd hp), sub_upd hp, fun _ _ e => e⟩

section
variable {K : PySem.W.Frag} {z z' : Z} {σ : L2.St}
theorem Z.Ok.not_held (ok : z.Ok K σ) {a : Addr} {o : HO} (h : z.F a = some o) : ¬ z.Held a := fun ⟨i, e⟩ => by
  have hi : i < z.r.length := by
    rw [← ok.la]
    exact (List.getElem?_eq_some_iff.mp e).1
  have q := ok.at_ i z.r[i] (List.getElem?_eq_getElem hi)
  rw [e] at q
  cases w : z.r[i] with
  | un => rw [w] at q; exact nomatch q
  | val p => rw [w] at q; exact nomatch q.1
  | own c =>
    rw [w] at q
    obtain ⟨b, e1, _, n, _⟩ := q
    have e2 : a = b := Option.some.inj e1
    rw [← e2, h] at n
    cases n
  | brw c =>
    rw [w] at q
    obtain ⟨b, e1, _, n, _⟩ := q
    have e2 : a = b := Option.some.inj e1
    rw [← e2, h] at n
    cases n
theorem Z.Ok.held_there (ok : z.Ok K σ) {a : Addr} (h : z.Held a) : z.H a ≠ none ∧ z.F a = none := by
  obtain ⟨i, e⟩ := h
  have hi : i < z.r.length := by
    rw [← ok.la]
    exact (List.getElem?_eq_some_iff.mp e).1
  have q := ok.at_ i z.r[i] (List.getElem?_eq_getElem hi)
  rw [e] at q
  cases w : z.r[i] with
  | un => rw [w] at q; exact nomatch q
  | val p => rw [w] at q; exact nomatch q.1
  | own c =>
    rw [w] at q
    obtain ⟨b, e1, _, n, c⟩ := q
    have e2 : a = b := Option.some.inj e1
    rw [e2]
    obtain ⟨o, ho⟩ := CellOk.ob c
    exact ⟨(by rw [ho]; exact fun z => nomatch z), n⟩
  | brw c =>
    rw [w] at q
    obtain ⟨b, e1, _, n, c⟩ := q
    have e2 : a = b := Option.some.inj e1
    rw [e2]
    obtain ⟨o, ho⟩ := CellOk.ob c
    exact ⟨(by rw [ho]; exact fun z => nomatch z), n⟩
/-- an extension, slots and cells as they were -/
def Z.ext (z : Z) (F' H' : Hp) : Z := ⟨F', H', z.r, z.ad⟩
theorem Z.Ok.ext (ok : z.Ok K σ) {F' H' : Hp} (e : Ext z.F z.H F' H') : (z.ext F' H').Ok K σ := by
  refine ⟨e.fh, ok.ls, ok.la, fun i s hs => ?_, ok.inj⟩
  have q := ok.at_ i s hs
  have go : ∀ {a : Addr} {c : Cell}, z.F a = none → CellOk K z.F z.H a c → F' a = none ∧ CellOk K F' H' a c := fun {a c} n h => by
    obtain ⟨o, ho⟩ := CellOk.ob h
    exact ⟨e.lim a (by rw [ho]; exact fun z => nomatch z) n, CellOk.move e.ff (e.hh a) h⟩
  cases s with
  | un => exact q
  | val p =>
    obtain ⟨q1, v, q2, q3⟩ := q
    exact ⟨q1, v, q2, q3.mono e.ff⟩
  | own c =>
    obtain ⟨a, q1, q2, q3, q4⟩ := q
    exact ⟨a, q1, q2, go q3 q4⟩
  | brw c =>
    obtain ⟨a, q1, q2, q3, q4⟩ := q
    exact ⟨a, q1, q2, go q3 q4⟩
theorem Stp.ext (ok : z.Ok K σ) {F' H' : Hp} (e : Ext z.F z.H F' H') : Stp z (z.ext F' H') :=
  ⟨e.ff, fun a o h _ => e.hh a o h, fun a h => (by
    cases q : z.H a with
    | none => exact absurd q h
    | some o =>
      show H' a ≠ none
      rw [e.hh a o q]
      exact fun z => nomatch z), fun a h n => .inl (e.lim a h n), fun a h => .inl h, fun a h => .inl h, fun i c h => ⟨c, h, rfl⟩⟩
end

/-! ### readings over pure values -/
abbrev Rs := List Sl
abbrev PQ := Rs → (PV → Rs → Prop) → Prop
abbrev PQT := Rs → (Bool → Rs → Prop) → Prop
abbrev PQA := Rs → (List PV → Rs → Prop) → Prop
/-- a new cell -/
abbrev PQN := Rs → (Cell → Rs → Prop) → Prop
structure PEnds where
  nx : Rs → Prop
  rt : PV → Rs → Prop
  bk : Rs → Prop := fun _ => False
  ct : Rs → Prop := fun _ => False
  /-- a cell that the def has made is returned -/
  ro : Cell → Prop := fun _ => False
abbrev PQS := PEnds → Rs → Prop
structure PEnds.Le (A B : PEnds) : Prop where
  nx : ∀ r, A.nx r → B.nx r
  rt : ∀ p r, A.rt p r → B.rt p r
  bk : ∀ r, A.bk r → B.bk r
  ct : ∀ r, A.ct r → B.ct r
  ro : ∀ c, A.ro c → B.ro c
theorem PEnds.Le.refl (A : PEnds) : A.Le A := ⟨fun _ h => h, fun _ _ h => h, fun _ h => h, fun _ h => h, fun _ h => h⟩
def Mono {α : Type} (q : Rs → (α → Rs → Prop) → Prop) : Prop := ∀ r (k k' : α → Rs → Prop), (∀ p r, k p r → k' p r) → q r k → q r k'
def MonoS (q : PQS) : Prop := ∀ (A B : PEnds) r, A.Le B → q A r → q B r

section
variable (K : PySem.W.Frag)
def lift (q : PQ) : TE := fun σ H Q => ∃ z : Z, z.H = H ∧ z.Ok K σ ∧ q z.r fun p r' => ∀ v (z' : Z), Stp z z' → z'.Ok K σ → z'.r = r' → Rep K z'.F p v → Q v z'.H
def liftT (q : PQT) : TT := fun σ H Q => ∃ z : Z, z.H = H ∧ z.Ok K σ ∧ q z.r fun b r' => ∀ (z' : Z), Stp z z' → z'.Ok K σ → z'.r = r' → Q b z'.H
def liftA (q : PQA) : TA := fun σ H Q => ∃ z : Z, z.H = H ∧ z.Ok K σ ∧ q z.r fun ps r' => ∀ vs (z' : Z), Stp z z' → z'.Ok K σ → z'.r = r' → Reps K z'.F ps vs → Q vs z'.H
def liftN (q : PQN) : TE := fun σ H Q => ∃ z : Z, z.H = H ∧ z.Ok K σ ∧ q z.r fun c r' => ∀ a (z' : Z), Stp z z' → z'.Ok K σ → z'.r = r' → z.H a = none → z'.F a = none → ¬ z'.Held a → CellOk K z'.F z'.H a c → Q (.ref a) z'.H
structure EndsOk (z : Z) (A : PEnds) (D : Ends) : Prop where
  nx : ∀ (z' : Z) σ, Stp z z' → z'.Ok K σ → A.nx z'.r → D.nx σ z'.H
  rt : ∀ p v (z' : Z) σ, Stp z z' → z'.Ok K σ → Rep K z'.F p v → A.rt p z'.r → D.rt v z'.H
  bk : ∀ (z' : Z) σ, Stp z z' → z'.Ok K σ → A.bk z'.r → D.bk σ z'.H
  ct : ∀ (z' : Z) σ, Stp z z' → z'.Ok K σ → A.ct z'.r → D.ct σ z'.H
  ro : ∀ (i : Nat) (c : Cell) (a : Addr) (z' : Z) σ, Stp z z' → z'.Ok K σ → z'.r[i]? = some (.own c) → z'.ad[i]? = some (some a) → A.ro c → D.rt (.ref a) z'.H
def liftS (q : PQS) : TS := fun D σ H => ∃ z : Z, z.H = H ∧ z.Ok K σ ∧ ∃ A, EndsOk K z A D ∧ q A z.r
end
theorem EndsOk.from {K : PySem.W.Frag} {z z' : Z} {A : PEnds} {D : Ends} (e : EndsOk K z A D) (s : Stp z z') : EndsOk K z' A D :=
  ⟨fun y σ t => e.nx y σ (s.trans t), fun p v y σ t => e.rt p v y σ (s.trans t), fun y σ t => e.bk y σ (s.trans t), fun y σ t => e.ct y σ (s.trans t), fun i c a y σ t => e.ro i c a y σ (s.trans t)⟩
structure QE (X : Cx) (e : Expr) (q : PQ) : Prop where
  mono : Mono q
  pe : PE X e (lift X.K q)
structure QT (X : Cx) (e : Expr) (q : PQT) : Prop where
  mono : Mono q
  pt : PT X e (liftT X.K q)
structure QA (X : Cx) (es : List Expr) (q : PQA) : Prop where
  mono : Mono q
  pa : PA X es (liftA X.K q)
structure QN (X : Cx) (e : Expr) (q : PQN) : Prop where
  mono : Mono q
  pe : PE X e (liftN X.K q)
structure QS (X : Cx) (st : Stmt) (q : PQS) : Prop where
  mono : MonoS q
  ps : PS X st (liftS X.K q)
structure QSs (X : Cx) (st : List Stmt) (q : PQS) : Prop where
  mono : MonoS q
  ps : PSs X st (liftS X.K q)

section
variable {X : Cx} {e a b c : Expr} {q qa qb qc : PQ}
theorem PE.to {t t' : TE} (h : PE X e t) (i : ∀ σ H Q, t' σ H Q → t σ H Q) : PE X e t' := ⟨fun pins s σ H Q I w => h.run pins s σ H Q I (i σ H Q w)⟩
theorem PT.to {t t' : TT} (h : PT X e t) (i : ∀ σ H Q, t' σ H Q → t σ H Q) : PT X e t' := ⟨fun pins s σ H Q I w => h.run pins s σ H Q I (i σ H Q w)⟩
theorem PS.to {st : Stmt} {t t' : TS} (h : PS X st t) (i : ∀ D σ H, t' D σ H → t D σ H) : PS X st t' := ⟨fun pins s σ H D I w => h.run pins s σ H D I (i D σ H w)⟩
theorem PSs.to {st : List Stmt} {t t' : TS} (h : PSs X st t) (i : ∀ D σ H, t' D σ H → t D σ H) : PSs X st t' := ⟨fun pins s σ H D I w => h.run pins s σ H D I (i D σ H w)⟩
theorem PA.to {es : List Expr} {t t' : TA} (h : PA X es t) (i : ∀ σ H Q, t' σ H Q → t σ H Q) : PA X es t' := ⟨fun pos pins s σ H Q I w => h.run pos pins s σ H Q I (i σ H Q w)⟩

/-! ### names, constants -/
def qVar (i : Nat) : PQ := fun r k => match r[i]? with
  | some (.val p) => k p r
  | some (.own c) => k c.pv (r.set i (.val c.pv))
  | _ => False
theorem mono_var {i : Nat} : Mono (qVar i) := fun r k k' h q => by
  unfold qVar at q ⊢
  cases w : r[i]? with
  | none => rw [w] at q; exact q.elim
  | some s =>
    rw [w] at q
    cases s with
    | un => exact q.elim
    | brw c => exact q.elim
    | val p => exact h _ _ q
    | own c => exact h _ _ q
/-- the cell of slot i is frozen -/
def Z.frz (z : Z) (i : Nat) (a : Addr) (o : HO) (p : PV) : Z := ⟨upd z.F a o, z.H, z.r.set i (.val p), z.ad.set i none⟩
theorem set_at {α : Type} {l : List α} {i j : Nat} {x y : α} (h : (l.set i x)[j]? = some y) : (j = i ∧ y = x ∧ i < l.length) ∨ (j ≠ i ∧ l[j]? = some y) := by
  rw [List.getElem?_set] at h
  by_cases e : i = j
  · rw [if_pos e] at h
    by_cases l2 : i < l.length
    · rw [if_pos l2] at h
      exact .inl ⟨e.symm, (Option.some.inj h).symm, l2⟩
    · rw [if_neg l2] at h
      cases h
  · rw [if_neg e] at h
    exact .inr ⟨fun z => e z.symm, h⟩
theorem Z.frz_ok {K : PySem.W.Frag} {z : Z} {σ : L2.St} (ok : z.Ok K σ) {i : Nat} {c : Cell} {a : Addr} {o : HO} (hr : z.r[i]? = some (.own c)) (hd : z.ad[i]? = some (some a)) (hs : σ[i]?.join = some (.ref a)) (hn : z.F a = none) (ho : z.H a = some o)
    (rep : Rep K (upd z.F a o) c.pv (.ref a)) : (z.frz i a o c.pv).Ok K σ ∧ Stp z (z.frz i a o c.pv) := by
  refine ⟨⟨ok.fh.upd ho, by show σ.length = (z.r.set i _).length; rw [List.length_set]; exact ok.ls, by show (z.ad.set i none).length = (z.r.set i _).length; rw [List.length_set, List.length_set]; exact ok.la, fun j s hj => ?_, fun j k b hj hk => ?_⟩,
    ⟨sub_upd hn, fun b u h _ => h, fun b h => h, fun b h n => ?_, fun b ⟨j, hj⟩ => ?_, fun b ⟨j, d, hj, hk⟩ => ?_, fun j d hj => ?_⟩⟩
  · show SlAt K (upd z.F a o) z.H s ((z.ad.set i none)[j]?.join) (σ[j]?.join)
    rcases set_at (show (z.r.set i (.val c.pv))[j]? = some s from hj) with ⟨rfl, rfl, hl⟩ | ⟨hne, hj⟩
    · refine ⟨?_, .ref a, hs, rep⟩
      rw [List.getElem?_set_self (by rw [ok.la]; exact hl)]
      rfl
    · rw [List.getElem?_set_ne (fun z => hne z.symm)]
      have q := ok.at_ j s hj
      cases s with
      | un => exact q
      | val p =>
        obtain ⟨q1, v, q2, q3⟩ := q
        exact ⟨q1, v, q2, q3.mono (sub_upd hn)⟩
      | own d =>
        obtain ⟨b, q1, q2, q3, q4⟩ := q
        have hb : b ≠ a := fun e => hne (ok.inj j i b (by
          cases w : z.ad[j]? with
          | none => rw [w] at q1; cases q1
          | some x => rw [w] at q1; exact congrArg some q1) (by rw [e]; exact hd))
        exact ⟨b, q1, q2, by rw [upd_ne hb]; exact q3, CellOk.move (sub_upd hn) (fun _ h => h) q4⟩
      | brw d =>
        obtain ⟨b, q1, q2, q3, q4⟩ := q
        have hb : b ≠ a := fun e => hne (ok.inj j i b (by
          cases w : z.ad[j]? with
          | none => rw [w] at q1; cases q1
          | some x => rw [w] at q1; exact congrArg some q1) (by rw [e]; exact hd))
        exact ⟨b, q1, q2, by rw [upd_ne hb]; exact q3, CellOk.move (sub_upd hn) (fun _ h => h) q4⟩
  · rcases set_at (show (z.ad.set i none)[j]? = some (some b) from hj) with ⟨_, h, _⟩ | ⟨_, hj⟩
    · cases h
    · rcases set_at (show (z.ad.set i none)[k]? = some (some b) from hk) with ⟨_, h, _⟩ | ⟨_, hk⟩
      · cases h
      · exact ok.inj j k b hj hk
  · by_cases e : b = a
    · subst e
      exact .inr ⟨i, c, hr, hd⟩
    · exact .inl (by show upd z.F a o b = none; rw [upd_ne e]; exact n)
  · rcases set_at (show (z.ad.set i none)[j]? = some (some b) from hj) with ⟨_, h, _⟩ | ⟨_, hj⟩
    · cases h
    · exact .inl ⟨j, hj⟩
  · rcases set_at (show (z.ad.set i none)[j]? = some (some b) from hk) with ⟨_, h, _⟩ | ⟨hne, hk⟩
    · cases h
    · rcases set_at (show (z.r.set i (.val c.pv))[j]? = some (.own d) from hj) with ⟨_, h, _⟩ | ⟨_, hj⟩
      · cases h
      · exact .inl ⟨j, d, hj, hk⟩
  · rcases set_at (show (z.r.set i (.val c.pv))[j]? = some (.brw d) from hj) with ⟨_, h, _⟩ | ⟨hne, hj⟩
    · cases h
    · exact ⟨d, hj, by show (z.ad.set i none)[j]? = _; rw [List.getElem?_set_ne (fun z => hne z.symm)]⟩
theorem join_some {α : Type} {x : Option (Option α)} {y : α} (h : x.join = some y) : x = some (some y) := by
  cases x with
  | none => cases h
  | some z => exact congrArg some h
theorem qe_var (i : Nat) {x : Str} {pos : Pos} (hN : X.N[i]? = some x := by rfl) (hv : Vis X.env.scope x := by first | exact Or.inl rfl | exact Or.inr (Or.inl rfl) | exact Or.inr (Or.inr rfl)) (hd : (x == ("__debug__" : Str)) = false := by decide)
    (hcd : (x == ("__classdict__" : Str)) = false := by decide) : QE X (.Name x pos) (qVar i) := by
  refine ⟨mono_var, PE.to (pe_var hN hv hd hcd) fun σ H Q h => ?_⟩
  obtain ⟨z, rfl, ok, h⟩ := h
  unfold qVar at h
  cases w : z.r[i]? with
  | none => rw [w] at h; exact h.elim
  | some s =>
    rw [w] at h
    have q := ok.at_ i s w
    cases s with
    | un => exact h.elim
    | brw c => exact h.elim
    | val p =>
      obtain ⟨_, v, q2, q3⟩ := q
      exact ⟨v, join_some q2, h v z (Stp.refl z) ok rfl q3⟩
    | own c =>
      obtain ⟨a, q1, q2, q3, q4⟩ := q
      obtain ⟨o, ho, rep⟩ := CellOk.rep q3 q4
      obtain ⟨ok', st⟩ := Z.frz_ok ok w (join_some q1) q2 q3 ho rep
      exact ⟨.ref a, join_some q2, h (.ref a) (z.frz i a o c.pv) st ok' rfl rep⟩
def qC (p : PV) : PQ := fun r k => k p r
theorem mono_c {p : PV} : Mono (qC p) := fun _ _ _ h q => h _ _ q
theorem qe_const {p : PV} {v : V} (h : PE X e (tC v)) (r : ∀ F, Rep X.K F p v) : QE X e (qC p) :=
  ⟨mono_c, PE.to h fun σ H Q ⟨z, e, ok, q⟩ => by subst e; exact q v z (Stp.refl z) ok rfl (r _)⟩
theorem qe_int {i j pos} : QE X (.Constant (.int i) j pos) (qC (.int i)) := qe_const pe_int fun _ => rep_int.mpr rfl
theorem qe_bl {i j pos} : QE X (.Constant (.bool i) j pos) (qC (.bl i)) := qe_const pe_bl fun _ => rep_bl.mpr rfl
theorem qe_non {j pos} : QE X (.Constant .none j pos) (qC .non) := qe_const pe_non fun _ => rep_non.mpr rfl
theorem qe_str {x j pos} : QE X (.Constant (.str x) j pos) (qC (.str x.cps.toList)) := qe_const pe_str fun _ => rep_str.mpr (congrArg V.str (tx_cps x).symm)
theorem qe_glob {x : Str} {pos : Pos} {p : PV} {v : V} {u : Value} (hg : Gl X x) (hm : X.mg x = some u) (r : RelV v u) (rp : ∀ F, Rep X.K F p v) (hdb : (x == ("__debug__" : Str)) = false := by decide) : QE X (.Name x pos) (qC p) := qe_const (pe_glob hg hm r hdb) rp
end
end Qy
set_option Elab.async false
set_option linter.all false
set_option maxRecDepth 100000
set_option maxHeartbeats 4000000
/-! Q2: operators, calls by values, tests, arguments, displays. -/
namespace Qy
open PySem PySem.Spec PyProof.Rows L2
section
variable {X : Cx}

/-! ### two places, by values -/
def PureB (K : PySem.W.Frag) (r : R2) (g : PV → PV → Option PV) : Prop := ∀ F H p q x y z (Q : VK), Sub F H → Rep K F p x → Rep K F q y → g p q = some z → (∀ v F' H', Ext F H F' H' → Rep K F' z v → Q v H') → r x y H Q
def PureU (K : PySem.W.Frag) (r : V → Hp → VK → Prop) (g : PV → Option PV) : Prop := ∀ F H p x z (Q : VK), Sub F H → Rep K F p x → g p = some z → (∀ v F' H', Ext F H F' H' → Rep K F' z v → Q v H') → r x H Q
def PureC (K : PySem.W.Frag) (r : List V → Hp → VK → Prop) (g : List PV → Option PV) : Prop := ∀ F H ps xs z (Q : VK), Sub F H → Reps K F ps xs → g ps = some z → (∀ v F' H', Ext F H F' H' → Rep K F' z v → Q v H') → r xs H Q
def PureM (K : PySem.W.Frag) (r : V → List V → Hp → VK → Prop) (g : PV → List PV → Option PV) : Prop := ∀ F H p ps x xs z (Q : VK), Sub F H → Rep K F p x → Reps K F ps xs → g p ps = some z → (∀ v F' H', Ext F H F' H' → Rep K F' z v → Q v H') → r x xs H Q
def PureT (K : PySem.W.Frag) (r : V → Hp → (Bool → Hp → Prop) → Prop) (g : PV → Option Bool) : Prop := ∀ F H p x b (Q : Bool → Hp → Prop), Sub F H → Rep K F p x → g p = some b → Q b H → r x H Q
def qBin (g : PV → PV → Option PV) (qa qb : PQ) : PQ := fun r k => qa r fun p r1 => qb r1 fun q r2 => ∃ z, g p q = some z ∧ k z r2
def qUn (g : PV → Option PV) (qa : PQ) : PQ := fun r k => qa r fun p r1 => ∃ z, g p = some z ∧ k z r1
theorem mono_bin {g : PV → PV → Option PV} {qa qb : PQ} (ha : Mono qa) (hb : Mono qb) : Mono (qBin g qa qb) := fun r k k' h q =>
  ha _ _ _ (fun p r1 q => hb _ _ _ (fun q' r2 ⟨z, e, w⟩ => ⟨z, e, h _ _ w⟩) q) q
theorem mono_un {g : PV → Option PV} {qa : PQ} (ha : Mono qa) : Mono (qUn g qa) := fun r k k' h q => ha _ _ _ (fun p r1 ⟨z, e, w⟩ => ⟨z, e, h _ _ w⟩) q
/-- behind an extension -/
theorem step_ext {K : PySem.W.Frag} {z z1 : Z} {σ : L2.St} {F' H' : Hp} (st : Stp z z1) (ok : z1.Ok K σ) (e : Ext z1.F z1.H F' H') : Stp z (z1.ext F' H') ∧ (z1.ext F' H').Ok K σ := ⟨st.trans (Stp.ext ok e), ok.ext e⟩
theorem lift_bin {K : PySem.W.Frag} {r : R2} {g : PV → PV → Option PV} {qa qb : PQ} (hp : PureB K r g) (ma : Mono qa) (mb : Mono qb) (σ : L2.St) (H : Hp) (Q : VK) (h : lift K (qBin g qa qb) σ H Q) : tOp r (lift K qa) (lift K qb) σ H Q := by
  obtain ⟨z, rfl, ok, h⟩ := h
  refine ⟨z, rfl, ok, ma _ _ _ (fun p r1 h1 v1 z1 st1 ok1 e1 rp1 => ?_) h⟩
  subst e1
  refine ⟨z1, rfl, ok1, mb _ _ _ (fun q r2 h2 v2 z2 st2 ok2 e2 rp2 => ?_) h1⟩
  subst e2
  obtain ⟨w, hg, k⟩ := h2
  refine hp z2.F z2.H p q v1 v2 w Q ok2.fh (rp1.mono st2.ff) rp2 hg fun v F' H' ex rp => ?_
  obtain ⟨s, o⟩ := step_ext (st1.trans st2) ok2 ex
  exact k v (z2.ext F' H') s o rfl rp
theorem qe_op {op : Operator} {r : R2} {g : PV → PV → Option PV} {a b : Expr} {qa qb : PQ} {pos : Pos} (ho : OpR X (binaryOp op) r) (hp : PureB X.K r g) (ha : QE X a qa) (hb : QE X b qb) : QE X (.BinOp a op b pos) (qBin g qa qb) :=
  ⟨mono_bin ha.mono hb.mono, PE.to (pe_op ho ha.pe hb.pe) (lift_bin hp ha.mono hb.mono)⟩
theorem qe_cmp {op : CmpOp} {r : R2} {g : PV → PV → Option PV} {a b : Expr} {qa qb : PQ} {pos : Pos} (ho : OpR X (compareOp op) r) (hp : PureB X.K r g) (ha : QE X a qa) (hb : QE X b qb) (hm : behindInMarks op b = false) : QE X (.Compare a [op] [b] pos) (qBin g qa qb) :=
  ⟨mono_bin ha.mono hb.mono, PE.to (pe_cmpR ho ha.pe hb.pe hm) (lift_bin hp ha.mono hb.mono)⟩
theorem qe_ix {r : R2} {g : PV → PV → Option PV} {a b : Expr} {qa qb : PQ} {pos : Pos} (ho : IxR X r) (hp : PureB X.K r g) (ha : QE X a qa) (hb : QE X b qb) (hs : PlainIx b) : QE X (.Subscript a b pos) (qBin g qa qb) :=
  ⟨mono_bin ha.mono hb.mono, PE.to (pe_ix ho ha.pe hb.pe hs) (lift_bin hp ha.mono hb.mono)⟩
theorem lift_un {K : PySem.W.Frag} {r : V → Hp → VK → Prop} {g : PV → Option PV} {qa : PQ} (hp : PureU K r g) (ma : Mono qa) (σ : L2.St) (H : Hp) (Q : VK) (h : lift K (qUn g qa) σ H Q) : tUn r (lift K qa) σ H Q := by
  obtain ⟨z, rfl, ok, h⟩ := h
  refine ⟨z, rfl, ok, ma _ _ _ (fun p r1 h1 v1 z1 st1 ok1 e1 rp1 => ?_) h⟩
  subst e1
  obtain ⟨w, hg, k⟩ := h1
  refine hp z1.F z1.H p v1 w Q ok1.fh rp1 hg fun v F' H' ex rp => ?_
  obtain ⟨s, o⟩ := step_ext st1 ok1 ex
  exact k v (z1.ext F' H') s o rfl rp
theorem qe_un {op : UnaryOp} {r : V → Hp → VK → Prop} {g : PV → Option PV} {a : Expr} {qa : PQ} {pos : Pos} (ho : UnR X (unaryOp op) r) (hp : PureU X.K r g) (ha : QE X a qa) : QE X (.UnaryOp op a pos) (qUn g qa) :=
  ⟨mono_un ha.mono, PE.to (pe_un ho ha.pe) (lift_un hp ha.mono)⟩

/-! ### arguments -/
def qaNil : PQA := fun r k => k [] r
def qaCons (q : PQ) (t : PQA) : PQA := fun r k => q r fun p r1 => t r1 fun ps r2 => k (p :: ps) r2
theorem mono_aNil : Mono qaNil := fun _ _ _ h q => h _ _ q
theorem mono_aCons {q : PQ} {t : PQA} (h1 : Mono q) (h2 : Mono t) : Mono (qaCons q t) := fun r k k' h w => h1 _ _ _ (fun p r1 w => h2 _ _ _ (fun ps r2 w => h _ _ w) w) w
theorem qa_nil : QA X [] qaNil := ⟨mono_aNil, PA.to pa_nil fun σ H Q ⟨z, e, ok, q⟩ => by subst e; exact q [] z (Stp.refl z) ok rfl Reps.nil⟩
theorem qa_cons {e : Expr} {es : List Expr} {q : PQ} {t : PQA} (h1 : QE X e q) (h2 : QA X es t) (hs : starEach (e :: es) X.env = (false, eval e X.env) :: starEach es X.env := by rfl) : QA X (e :: es) (qaCons q t) := by
  refine ⟨mono_aCons h1.mono h2.mono, PA.to (pa_cons h1.pe h2.pa hs) fun σ H Q ⟨z, e, ok, w⟩ => ?_⟩
  subst e
  refine ⟨z, rfl, ok, h1.mono _ _ _ (fun p r1 w1 v1 z1 st1 ok1 e1 rp1 => ?_) w⟩
  subst e1
  refine ⟨z1, rfl, ok1, h2.mono _ _ _ (fun ps r2 w2 vs z2 st2 ok2 e2 rp2 => ?_) w1⟩
  subst e2
  exact w2 (v1 :: vs) z2 (st1.trans st2) ok2 rfl (.cons (rp1.mono st2.ff) rp2)

/-! ### calls of built-ins, methods -/
def qCall (g : List PV → Option PV) (t : PQA) : PQ := fun r k => t r fun ps r1 => ∃ z, g ps = some z ∧ k z r1
theorem mono_call {g : List PV → Option PV} {t : PQA} (ht : Mono t) : Mono (qCall g t) := fun r k k' h q => ht _ _ _ (fun p r1 ⟨z, e, w⟩ => ⟨z, e, h _ _ w⟩) q
theorem lift_call {K : PySem.W.Frag} {r : List V → Hp → VK → Prop} {g : List PV → Option PV} {t : PQA} (hp : PureC K r g) (mt : Mono t) (σ : L2.St) (H : Hp) (Q : VK) (h : lift K (qCall g t) σ H Q) : tCB r (liftA K t) σ H Q := by
  obtain ⟨z, rfl, ok, h⟩ := h
  refine ⟨z, rfl, ok, mt _ _ _ (fun ps r1 h1 vs z1 st1 ok1 e1 rp1 => ?_) h⟩
  subst e1
  obtain ⟨w, hg, k⟩ := h1
  refine hp z1.F z1.H ps vs w Q ok1.fh rp1 hg fun v F' H' ex rp => ?_
  obtain ⟨s, o⟩ := step_ext st1 ok1 ex
  exact k v (z1.ext F' H') s o rfl rp
theorem qe_callB {x : Str} {id : String} {r : List V → Hp → VK → Prop} {g : List PV → Option PV} {e : Expr} {es : List Expr} {t : PQA} {p pos : Pos} (hc : CallR X (.builtin id) r) (hp : PureC X.K r g) (hg : Gl X x) (hm : X.mg x = none) (hv : bootBuiltins x = some (.builtin id)) (ha : QA X (e :: es) t)
    (hn : x ≠ "__name__" := by decide) (hdb : (x == ("__debug__" : Str)) = false := by decide) (he : starEach (e :: es) X.env = (false, eval e X.env) :: starEach es X.env := by rfl) (hpl : (backTo pos (starEach es X.env)).any (·.1) = false := by rfl) : QE X (.Call (.Name x p) (e :: es) [] pos) (qCall g t) :=
  ⟨mono_call ha.mono, PE.to (pe_callB hc hg hm hv ha.pa hn hdb he hpl) (lift_call hp ha.mono)⟩
theorem qe_callTy {x : Str} {T : String} {r : List V → Hp → VK → Prop} {g : List PV → Option PV} {e : Expr} {es : List Expr} {t : PQA} {p pos : Pos} (hc : CallR X (.type T) r) (hp : PureC X.K r g) (hg : Gl X x) (hm : X.mg x = none) (hv : bootBuiltins x = some (.type T)) (ha : QA X (e :: es) t)
    (hn : x ≠ "__name__" := by decide) (hdb : (x == ("__debug__" : Str)) = false := by decide) (he : starEach (e :: es) X.env = (false, eval e X.env) :: starEach es X.env := by rfl) (hpl : (backTo pos (starEach es X.env)).any (·.1) = false := by rfl) : QE X (.Call (.Name x p) (e :: es) [] pos) (qCall g t) :=
  ⟨mono_call ha.mono, PE.to (pe_callTy hc hg hm hv ha.pa hn hdb he hpl) (lift_call hp ha.mono)⟩

def qMeth (g : PV → List PV → Option PV) (qo : PQ) (t : PQA) : PQ := fun r k => qo r fun o r1 => t r1 fun ps r2 => ∃ z, g o ps = some z ∧ k z r2
theorem mono_meth {g : PV → List PV → Option PV} {qo : PQ} {t : PQA} (ho : Mono qo) (ht : Mono t) : Mono (qMeth g qo t) := fun r k k' h q => ho _ _ _ (fun o r1 q => ht _ _ _ (fun ps r2 ⟨z, e, w⟩ => ⟨z, e, h _ _ w⟩) q) q
/-- of what built-in type a pure value is -/
def tyP : PV → String → Bool
  | .str _, T => T == "str"
  | .int _, T => T == "int"
  | .lst _, T => T == "list"
  | .dct _ _, T => T == "dict"
  | _, _ => false
theorem tyP_ok {K : PySem.W.Frag} {F H : Hp} {p : PV} {x : V} {T : String} (s : Sub F H) (r : Rep K F p x) (h : tyP p T = true) : tyV K T x H := by
  cases p with
  | str z =>
    rw [rep_str.mp r]
    exact eq_of_beq h
  | int z =>
    rw [rep_int.mp r]
    exact eq_of_beq h
  | lst ps =>
    obtain ⟨a, vs, rfl, q, _⟩ := rep_lst.mp r
    exact .inl ⟨eq_of_beq h, vs, sql_tracked (s _ _ q)⟩
  | dct ks ps =>
    obtain ⟨a, kvs, rfl, q, _⟩ := rep_dct.mp r
    exact .inr (.inr (.inl ⟨eq_of_beq h, .inl ⟨kvs, s _ _ q⟩⟩))
  | _ => cases h
def qMethT (T : String) (g : PV → List PV → Option PV) (qo : PQ) (t : PQA) : PQ := fun r k => qo r fun o r1 => tyP o T = true ∧ t r1 fun ps r2 => ∃ z, g o ps = some z ∧ k z r2
theorem mono_methT {T : String} {g : PV → List PV → Option PV} {qo : PQ} {t : PQA} (ho : Mono qo) (ht : Mono t) : Mono (qMethT T g qo t) := fun r k k' h q => ho _ _ _ (fun o r1 ⟨y, q⟩ => ⟨y, ht _ _ _ (fun ps r2 ⟨z, e, w⟩ => ⟨z, e, h _ _ w⟩) q⟩) q
/-- o.m(e, ..) of a built-in type -/
theorem qe_bm {o e : Expr} {es : List Expr} {qo : PQ} {t : PQA} {name : Str} {apos cpos : Pos} {T id : String} {r : V → List V → Hp → VK → Prop} {g : PV → List PV → Option PV} (pa : PlainAttrs T) (slot : Slot T name id) (hty : typeOf (.builtin id) = pure (.type "method_descriptor"))
    (hm : MtR X id r) (hp : PureM X.K r g) (ho : QE X o qo) (ha : QA X (e :: es) t)
    (hbase : attributeBase o name X.env (eval o X.env) = eval o X.env := by rfl)
    (hfew : ((backTo cpos (starEach (e :: es) X.env)).all (fun x => !x.1) && (backToKw cpos (keywordEach [] X.env)).all (fun x => x.1.isSome)
      && decide ((e :: es).length + ([] : List Keyword).length + (if ([] : List Keyword).isEmpty then 0 else 1) < 30)) = true := by rfl)
    (hline : (apos.endLine == cpos.line) = true := by rfl) (hs : starEach (e :: es) X.env = (false, eval e X.env) :: starEach es X.env := by rfl) (hplain : (backTo cpos (starEach es X.env)).any (·.1) = false := by rfl) :
    QE X (.Call (.Attribute o name apos) (e :: es) [] cpos) (qMethT T g qo t) := by
  refine ⟨mono_methT ho.mono ha.mono, PE.to (pe_bm pa slot hty hm ho.pe ha.pa hbase hfew hline hs hplain) fun σ H Q ⟨z, e0, ok, h⟩ => ?_⟩
  subst e0
  refine ⟨z, rfl, ok, ho.mono _ _ _ (fun p r1 h1 v1 z1 st1 ok1 e1 rp1 => ?_) h⟩
  subst e1
  obtain ⟨ty, h1⟩ := h1
  refine ⟨tyP_ok ok1.fh rp1 ty, z1, rfl, ok1, ha.mono _ _ _ (fun ps r2 h2 vs z2 st2 ok2 e2 rp2 => ?_) h1⟩
  subst e2
  obtain ⟨w, hg, k⟩ := h2
  refine hp z2.F z2.H p ps v1 vs w Q ok2.fh (rp1.mono st2.ff) rp2 hg fun v F' H' ex rp => ?_
  obtain ⟨s, o⟩ := step_ext (st1.trans st2) ok2 ex
  exact k v (z2.ext F' H') s o rfl rp

/-! ### tests -/
/-- the truth of a value -/
def tru : PV → Option Bool
  | .non => some false
  | .bl b => some b
  | .int i => some (i != 0)
  | .str s => if s.length ≤ sizeLine then some (!s.isEmpty) else none
  | .tup xs => some (!xs.isEmpty)
  | .lst xs => some (!xs.isEmpty)
  | .dct ks _ => some (!ks.isEmpty)
  | .ins _ _ _ => none
  | .seq xs => some (!xs.isEmpty)
theorem isEmpty_of_len {α β : Type} {xs : List α} {ys : List β} (h : xs.length = ys.length) : xs.isEmpty = ys.isEmpty := by
  cases xs <;> cases ys <;> first | rfl | cases h
theorem tru_rep {K : PySem.W.Frag} {F H : Hp} {p : PV} {x : V} {b : Bool} (s : Sub F H) (r : Rep K F p x) (h : tru p = some b) : TruV K x H b := by
  cases p with
  | non => rw [rep_non.mp r]; exact (Option.some.inj h).symm
  | bl c => rw [rep_bl.mp r]; exact (Option.some.inj h).symm
  | int i => rw [rep_int.mp r]; exact (Option.some.inj h).symm
  | str z =>
    rw [rep_str.mp r]
    have h : (if z.length ≤ sizeLine then some (!z.isEmpty) else none) = some b := h
    by_cases hl : z.length ≤ sizeLine
    · rw [if_pos hl] at h
      refine ⟨by rw [tx_len]; exact hl, ?_⟩
      rw [tx_len, ← Option.some.inj h]
      cases z with
      | nil => rfl
      | cons c z =>
        show true = (((c :: z).length : Int) != 0)
        rw [List.length_cons]
        symm
        rw [bne_iff_ne]
        omega
    · rw [if_neg hl] at h
      cases h
  | tup ps =>
    obtain ⟨a, vs, rfl, q, rs⟩ := rep_tup.mp r
    refine .inr (.inl ⟨vs, s.sqt q, ?_⟩)
    rw [← Option.some.inj h, isEmpty_of_len rs.length]
  | lst ps =>
    obtain ⟨a, vs, rfl, q, rs⟩ := rep_lst.mp r
    refine .inl ⟨vs, sql_tracked (s _ _ q), ?_⟩
    rw [← Option.some.inj h, isEmpty_of_len rs.length]
  | seq ps =>
    obtain ⟨a, vs, rfl, q, rs⟩ := rep_seq.mp r
    refine .inl ⟨vs, s.sql q, ?_⟩
    rw [← Option.some.inj h, isEmpty_of_len rs.length]
  | dct ks ps =>
    obtain ⟨a, kvs, rfl, q, ek, rs⟩ := rep_dct.mp r
    refine .inr (.inr ⟨kvs, s _ _ q, ?_⟩)
    rw [← Option.some.inj h, ← ek]
    cases kvs <;> rfl
  | ins C fs ps => cases h
def qTru (q : PQ) : PQT := fun r k => q r fun p r1 => ∃ b, tru p = some b ∧ k b r1
def qTb (q : PQ) : PQT := fun r k => q r fun p r1 => ∃ b, p = .bl b ∧ k b r1
theorem mono_tru {q : PQ} (h : Mono q) : Mono (qTru q) := fun r k k' i w => h _ _ _ (fun p r1 ⟨b, e, w⟩ => ⟨b, e, i _ _ w⟩) w
theorem mono_tb {q : PQ} (h : Mono q) : Mono (qTb q) := fun r k k' i w => h _ _ _ (fun p r1 ⟨b, e, w⟩ => ⟨b, e, i _ _ w⟩) w
theorem qt_tru {a : Expr} {q : PQ} (ha : QE X a q) (he : ∀ whole, isTrue a X.env whole = (do let v ← whole; standAt a.pos; holding [v] (truthy v)) := by intro _; rfl) : QT X a (qTru q) := by
  refine ⟨mono_tru ha.mono, PT.to (pt_truth ha.pe he) fun σ H Q ⟨z, e, ok, h⟩ => ?_⟩
  subst e
  refine ⟨z, rfl, ok, ha.mono _ _ _ (fun p r1 h1 v1 z1 st1 ok1 e1 rp1 => ?_) h⟩
  subst e1
  obtain ⟨b, hb, k⟩ := h1
  exact ⟨b, tru_rep ok1.fh rp1 hb, k z1 st1 ok1 rfl⟩
theorem qt_cmp {op : CmpOp} {r : R2} {g : PV → PV → Option PV} {a b : Expr} {qa qb : PQ} {pos : Pos} (ho : OpR X (compareOp op) r) (hp : PureB X.K r g) (ha : QE X a qa) (hb : QE X b qb) (hm : behindInMarks op b = false) : QT X (.Compare a [op] [b] pos) (qTb (qBin g qa qb)) := by
  refine ⟨mono_tb (mono_bin ha.mono hb.mono), PT.to (pt_cmpR ho ha.pe hb.pe hm) fun σ H Q ⟨z, e, ok, h⟩ => ?_⟩
  subst e
  refine lift_bin hp ha.mono hb.mono σ _ _ ⟨z, rfl, ok, mono_bin ha.mono hb.mono _ _ _ (fun p r1 h1 v1 z1 st1 ok1 e1 rp1 => ?_) h⟩
  subst e1
  obtain ⟨b, rfl, k⟩ := h1
  exact ⟨b, rep_bl.mp rp1, k z1 st1 ok1 rfl⟩
structure QW (X : Cx) (e : Expr) (q : PQT) : Prop where
  mono : Mono q
  pw : PW X e (liftT X.K q)
theorem QW.qt {e : Expr} {q : PQT} (h : QW X e q) : QT X e q := ⟨h.mono, h.pw.pt⟩
theorem PW.to {e : Expr} {t t' : TT} (h : PW X e t) (i : ∀ σ H Q, t' σ H Q → t σ H Q) : PW X e t' := ⟨fun wh pins s σ H Q I w => h.run wh pins s σ H Q I (i σ H Q w)⟩
def qAnd (t u : PQT) : PQT := fun r k => t r fun b r1 => if b = true then u r1 k else k false r1
def qOr (t u : PQT) : PQT := fun r k => t r fun b r1 => if b = true then k true r1 else u r1 k
def qNot (t : PQT) : PQT := fun r k => t r fun b r1 => k (!b) r1
theorem mono_and {t u : PQT} (h1 : Mono t) (h2 : Mono u) : Mono (qAnd t u) := fun r k k' h w => h1 _ _ _ (fun b r1 w => by
  cases b with
  | true => rw [if_pos rfl] at w ⊢; exact h2 _ _ _ h w
  | false => exact h _ _ w) w
theorem mono_or {t u : PQT} (h1 : Mono t) (h2 : Mono u) : Mono (qOr t u) := fun r k k' h w => h1 _ _ _ (fun b r1 w => by
  cases b with
  | true => exact h _ _ w
  | false => rw [if_neg Bool.false_ne_true] at w ⊢; exact h2 _ _ _ h w) w
theorem mono_not {t : PQT} (h1 : Mono t) : Mono (qNot t) := fun r k k' h w => h1 _ _ _ (fun b r1 w => h _ _ w) w
section
variable {a b : Expr} {rest : List Expr} {t u : PQT} {pos : Pos}
theorem qw_and1 (ha : QT X a t) : QW X (.BoolOp .And [a] pos) t := ⟨ha.mono, pw_and1 ha.pt⟩
theorem qw_or1 (ha : QT X a t) : QW X (.BoolOp .Or [a] pos) t := ⟨ha.mono, pw_or1 ha.pt⟩
theorem qw_and (ha : QT X a t) (hb : QW X (.BoolOp .And (b :: rest) pos) u) : QW X (.BoolOp .And (a :: b :: rest) pos) (qAnd t u) := by
  refine ⟨mono_and ha.mono hb.mono, PW.to (pw_and ha.pt hb.pw) fun σ H Q ⟨z, e, ok, h⟩ => ?_⟩
  subst e
  refine ⟨z, rfl, ok, ha.mono _ _ _ (fun c r1 h1 z1 st1 ok1 e1 => ?_) h⟩
  subst e1
  cases c with
  | true =>
    rw [if_pos rfl] at h1 ⊢
    exact ⟨z1, rfl, ok1, hb.mono _ _ _ (fun d r2 k z2 st2 ok2 e2 => k z2 (st1.trans st2) ok2 e2) h1⟩
  | false =>
    rw [if_neg Bool.false_ne_true] at h1 ⊢
    exact h1 z1 st1 ok1 rfl
theorem qw_or (ha : QT X a t) (hb : QW X (.BoolOp .Or (b :: rest) pos) u) : QW X (.BoolOp .Or (a :: b :: rest) pos) (qOr t u) := by
  refine ⟨mono_or ha.mono hb.mono, PW.to (pw_or ha.pt hb.pw) fun σ H Q ⟨z, e, ok, h⟩ => ?_⟩
  subst e
  refine ⟨z, rfl, ok, ha.mono _ _ _ (fun c r1 h1 z1 st1 ok1 e1 => ?_) h⟩
  subst e1
  cases c with
  | true =>
    rw [if_pos rfl] at h1 ⊢
    exact h1 z1 st1 ok1 rfl
  | false =>
    rw [if_neg Bool.false_ne_true] at h1 ⊢
    exact ⟨z1, rfl, ok1, hb.mono _ _ _ (fun d r2 k z2 st2 ok2 e2 => k z2 (st1.trans st2) ok2 e2) h1⟩
theorem qt_not (ha : QT X a t) : QT X (.UnaryOp .Not a pos) (qNot t) := by
  refine ⟨mono_not ha.mono, PT.to (pt_not ha.pt) fun σ H Q ⟨z, e, ok, h⟩ => ?_⟩
  exact ⟨z, e, ok, h⟩
/-! ### and, or, not as values; a if t else b -/
def qAndV (q1 q2 : PQ) : PQ := fun r k => q1 r fun p r1 => ∃ b, tru p = some b ∧ if b = true then q2 r1 k else k p r1
def qOrV (q1 q2 : PQ) : PQ := fun r k => q1 r fun p r1 => ∃ b, tru p = some b ∧ if b = true then k p r1 else q2 r1 k
def qNotV (q1 : PQ) : PQ := fun r k => q1 r fun p r1 => ∃ b, tru p = some b ∧ k (.bl (!b)) r1
def qIf (t : PQT) (q1 q2 : PQ) : PQ := fun r k => t r fun b r1 => if b = true then q1 r1 k else q2 r1 k
variable {qa qb : PQ}
theorem mono_andV (h1 : Mono qa) (h2 : Mono qb) : Mono (qAndV qa qb) := fun r k k' h w => h1 _ _ _ (fun p r1 ⟨b, e, w⟩ => ⟨b, e, by
  cases b with
  | true => rw [if_pos rfl] at w ⊢; exact h2 _ _ _ h w
  | false => exact h _ _ w⟩) w
theorem mono_orV (h1 : Mono qa) (h2 : Mono qb) : Mono (qOrV qa qb) := fun r k k' h w => h1 _ _ _ (fun p r1 ⟨b, e, w⟩ => ⟨b, e, by
  cases b with
  | true => exact h _ _ w
  | false => rw [if_neg Bool.false_ne_true] at w ⊢; exact h2 _ _ _ h w⟩) w
theorem mono_notV (h1 : Mono qa) : Mono (qNotV qa) := fun r k k' h w => h1 _ _ _ (fun p r1 ⟨b, e, w⟩ => ⟨b, e, h _ _ w⟩) w
theorem mono_if {t : PQT} (h0 : Mono t) (h1 : Mono qa) (h2 : Mono qb) : Mono (qIf t qa qb) := fun r k k' h w => h0 _ _ _ (fun b r1 w => by
  cases b with
  | true => rw [if_pos rfl] at w ⊢; exact h1 _ _ _ h w
  | false => rw [if_neg Bool.false_ne_true] at w ⊢; exact h2 _ _ _ h w) w
/-- go on from a state behind z -/
theorem lift_on {K : PySem.W.Frag} {q : PQ} (m : Mono q) {z z1 : Z} {σ : L2.St} {Q : VK} (st : Stp z z1) (ok : z1.Ok K σ) (h : q z1.r fun p r' => ∀ v (z' : Z), Stp z z' → z'.Ok K σ → z'.r = r' → Rep K z'.F p v → Q v z'.H) : lift K q σ z1.H Q :=
  ⟨z1, rfl, ok, m _ _ _ (fun p r2 k v z2 st2 ok2 e2 rp => k v z2 (st.trans st2) ok2 e2 rp) h⟩
theorem qe_one {op : BoolOp} (h : QE X a qa) : QE X (.BoolOp op [a] pos) qa := ⟨h.mono, pe_one h.pe⟩
theorem qe_and (ha : QE X a qa) (hb : QE X (.BoolOp .And (b :: rest) pos) qb) : QE X (.BoolOp .And (a :: b :: rest) pos) (qAndV qa qb) := by
  refine ⟨mono_andV ha.mono hb.mono, PE.to (pe_andT ha.pe hb.pe) fun σ H Q ⟨z, e, ok, h⟩ => ?_⟩
  subst e
  refine ⟨z, rfl, ok, ha.mono _ _ _ (fun p r1 h1 v1 z1 st1 ok1 e1 rp1 => ?_) h⟩
  subst e1
  obtain ⟨c, hc, w⟩ := h1
  refine ⟨c, tru_rep ok1.fh rp1 hc, ?_⟩
  cases c with
  | true => rw [if_pos rfl] at w ⊢; exact lift_on hb.mono st1 ok1 w
  | false => rw [if_neg Bool.false_ne_true] at w ⊢; exact w v1 z1 st1 ok1 rfl rp1
theorem qe_or (ha : QE X a qa) (hb : QE X (.BoolOp .Or (b :: rest) pos) qb) : QE X (.BoolOp .Or (a :: b :: rest) pos) (qOrV qa qb) := by
  refine ⟨mono_orV ha.mono hb.mono, PE.to (pe_orT ha.pe hb.pe) fun σ H Q ⟨z, e, ok, h⟩ => ?_⟩
  subst e
  refine ⟨z, rfl, ok, ha.mono _ _ _ (fun p r1 h1 v1 z1 st1 ok1 e1 rp1 => ?_) h⟩
  subst e1
  obtain ⟨c, hc, w⟩ := h1
  refine ⟨c, tru_rep ok1.fh rp1 hc, ?_⟩
  cases c with
  | false => rw [if_neg Bool.false_ne_true] at w ⊢; exact lift_on hb.mono st1 ok1 w
  | true => rw [if_pos rfl] at w ⊢; exact w v1 z1 st1 ok1 rfl rp1
theorem qe_not (ha : QE X a qa) : QE X (.UnaryOp .Not a pos) (qNotV qa) := by
  refine ⟨mono_notV ha.mono, PE.to (pe_notT ha.pe) fun σ H Q ⟨z, e, ok, h⟩ => ?_⟩
  subst e
  refine ⟨z, rfl, ok, ha.mono _ _ _ (fun p r1 h1 v1 z1 st1 ok1 e1 rp1 => ?_) h⟩
  subst e1
  obtain ⟨c, hc, w⟩ := h1
  exact ⟨c, tru_rep ok1.fh rp1 hc, w (.bl (!c)) z1 st1 ok1 rfl (rep_bl.mpr rfl)⟩
theorem qe_ifExp {c : Expr} (hc : QT X c t) (ha : QE X a qa) (hb : QE X b qb) : QE X (.IfExp c a b pos) (qIf t qa qb) := by
  refine ⟨mono_if hc.mono ha.mono hb.mono, PE.to (pe_ifExp hc.pt ha.pe hb.pe) fun σ H Q ⟨z, e, ok, h⟩ => ?_⟩
  subst e
  refine ⟨z, rfl, ok, hc.mono _ _ _ (fun d r1 h1 z1 st1 ok1 e1 => ?_) h⟩
  subst e1
  cases d with
  | true => rw [if_pos rfl] at h1 ⊢; exact lift_on ha.mono st1 ok1 h1
  | false => rw [if_neg Bool.false_ne_true] at h1 ⊢; exact lift_on hb.mono st1 ok1 h1
end
/-! ### displays -/
def qTup (t : PQA) : PQ := fun r k => t r fun ps r1 => ps.length ≤ sizeLine ∧ k (.tup ps) r1
def qLst (t : PQA) : PQ := fun r k => t r fun ps r1 => ps.length ≤ sizeLine ∧ k (.lst ps) r1
/-- a new list that the def keeps for itself -/
def qLstN (t : PQA) : PQN := fun r k => t r fun ps r1 => ps.length ≤ sizeLine ∧ k (.l ps) r1
theorem mono_tup {t : PQA} (h : Mono t) : Mono (qTup t) := fun r k k' i w => h _ _ _ (fun ps r1 ⟨a, w⟩ => ⟨a, i _ _ w⟩) w
theorem mono_lst {t : PQA} (h : Mono t) : Mono (qLst t) := fun r k k' i w => h _ _ _ (fun ps r1 ⟨a, w⟩ => ⟨a, i _ _ w⟩) w
theorem mono_lstN {t : PQA} (h : Mono t) : Mono (qLstN t) := fun r k k' i w => h _ _ _ (fun ps r1 ⟨a, w⟩ => ⟨a, i _ _ w⟩) w
variable {es : List Expr} {t : PQA} {pos : Pos}
theorem qe_tup {k : Nat} (ha : QA X es t) : QE X (.Tuple es k pos) (qTup t) := by
  refine ⟨mono_tup ha.mono, PE.to (pe_tup ha.pa) fun σ H Q ⟨z, e, ok, h⟩ => ?_⟩
  subst e
  refine ⟨z, rfl, ok, ha.mono _ _ _ (fun ps r1 h1 vs z1 st1 ok1 e1 rp1 => ?_) h⟩
  subst e1
  refine ⟨by rw [rp1.length]; exact h1.1, fun p hp => ?_⟩
  have ex := Ext.new ok1.fh hp (.tup vs)
  obtain ⟨s, o⟩ := step_ext st1 ok1 ex
  exact h1.2 (.ref p) (z1.ext _ _) s o rfl (rep_tup.mpr ⟨p, vs, rfl, .inl (.inl upd_same), rp1.mono ex.ff⟩)
theorem qe_lst (ha : QA X es t) : QE X (.List es pos) (qLst t) := by
  refine ⟨mono_lst ha.mono, PE.to (pe_lst ha.pa) fun σ H Q ⟨z, e, ok, h⟩ => ?_⟩
  subst e
  refine ⟨z, rfl, ok, ha.mono _ _ _ (fun ps r1 h1 vs z1 st1 ok1 e1 rp1 => ?_) h⟩
  subst e1
  refine ⟨by rw [rp1.length]; exact h1.1, fun p hp => ?_⟩
  have ex := Ext.new ok1.fh hp (.lst vs)
  obtain ⟨s, o⟩ := step_ext st1 ok1 ex
  exact h1.2 (.ref p) (z1.ext _ _) s o rfl (rep_lst.mpr ⟨p, vs, rfl, upd_same, rp1.mono ex.ff⟩)
theorem not_held_of {K : PySem.W.Frag} {z : Z} {σ : L2.St} (ok : z.Ok K σ) {p : Addr} (hp : z.H p = none) : ¬ z.Held p := fun h => (ok.held_there h).1 hp
theorem none_back {H H' : Hp} (hd : ∀ a, H a ≠ none → H' a ≠ none) {p : Addr} (hp : H' p = none) : H p = none := by
  cases q : H p with
  | none => rfl
  | some o => exact absurd hp (hd p (by rw [q]; exact fun z => nomatch z))
theorem fnone_of {F H : Hp} (s : Sub F H) {p : Addr} (hp : H p = none) : F p = none := by
  cases q : F p with
  | none => rfl
  | some o => rw [s p o q] at hp; cases hp
theorem qn_lst (ha : QA X es t) : QN X (.List es pos) (qLstN t) := by
  refine ⟨mono_lstN ha.mono, PE.to (pe_lst ha.pa) fun σ H Q ⟨z, e, ok, h⟩ => ?_⟩
  subst e
  refine ⟨z, rfl, ok, ha.mono _ _ _ (fun ps r1 h1 vs z1 st1 ok1 e1 rp1 => ?_) h⟩
  subst e1
  refine ⟨by rw [rp1.length]; exact h1.1, fun p hp => ?_⟩
  obtain ⟨s, o⟩ := step_ext st1 ok1 (Ext.newH ok1.fh hp (.lst vs))
  exact h1.2 p (z1.ext _ _) s o rfl (none_back st1.dom hp) (fnone_of ok1.fh hp) (fun ⟨i, q⟩ => not_held_of ok1 hp ⟨i, q⟩) ⟨vs, upd_same, rp1⟩
end
end Qy
set_option Elab.async false
set_option linter.all false
set_option maxRecDepth 100000
set_option maxHeartbeats 4000000
/-! Q3: statements, targets, what is walked, for. -/
namespace Qy
open PySem PySem.Spec PyProof.Rows L2

/-! ### a slot is written -/
def Z.set (z : Z) (i : Nat) (p : PV) : Z := ⟨z.F, z.H, z.r.set i (.val p), z.ad.set i none⟩
def Z.setC (z : Z) (i : Nat) (c : Cell) (a : Addr) : Z := ⟨z.F, z.H, z.r.set i (.own c), z.ad.set i (some a)⟩
section
variable {K : PySem.W.Frag} {z z0 : Z} {σ : L2.St}
theorem Z.set_ok (ok : z.Ok K σ) {i : Nat} {p : PV} {v : V} (h : Rep K z.F p v) : (z.set i p).Ok K (σ.set i (some v)) ∧ Stp z (z.set i p) := by
  refine ⟨⟨ok.fh, by show (σ.set i _).length = (z.r.set i _).length; rw [List.length_set, List.length_set]; exact ok.ls, by show (z.ad.set i none).length = (z.r.set i _).length; rw [List.length_set, List.length_set]; exact ok.la, fun j s hj => ?_, fun j k b hj hk => ?_⟩,
    ⟨Sub.refl _, fun b u h _ => h, fun b h => h, fun b h n => .inl n, fun b ⟨j, hj⟩ => ?_, fun b ⟨j, d, hj, hk⟩ => ?_, fun j d hj => ?_⟩⟩
  · show SlAt K z.F z.H s ((z.ad.set i none)[j]?.join) ((σ.set i (some v))[j]?.join)
    rcases set_at (show (z.r.set i (.val p))[j]? = some s from hj) with ⟨rfl, rfl, hl⟩ | ⟨hne, hj⟩
    · rw [List.getElem?_set_self (by rw [ok.la]; exact hl), List.getElem?_set_self (by rw [ok.ls]; exact hl)]
      exact ⟨rfl, v, rfl, h⟩
    · rw [List.getElem?_set_ne (fun z => hne z.symm), List.getElem?_set_ne (fun z => hne z.symm)]
      exact ok.at_ j s hj
  · rcases set_at (show (z.ad.set i none)[j]? = some (some b) from hj) with ⟨_, h, _⟩ | ⟨_, hj⟩
    · cases h
    · rcases set_at (show (z.ad.set i none)[k]? = some (some b) from hk) with ⟨_, h, _⟩ | ⟨_, hk⟩
      · cases h
      · exact ok.inj j k b hj hk
  · rcases set_at (show (z.ad.set i none)[j]? = some (some b) from hj) with ⟨_, h, _⟩ | ⟨_, hj⟩
    · cases h
    · exact .inl ⟨j, hj⟩
  · rcases set_at (show (z.ad.set i none)[j]? = some (some b) from hk) with ⟨_, h, _⟩ | ⟨hne, hk⟩
    · cases h
    · rcases set_at (show (z.r.set i (.val p))[j]? = some (.own d) from hj) with ⟨_, h, _⟩ | ⟨_, hj⟩
      · cases h
      · exact .inl ⟨j, d, hj, hk⟩
  · rcases set_at (show (z.r.set i (.val p))[j]? = some (.brw d) from hj) with ⟨_, h, _⟩ | ⟨hne, hj⟩
    · cases h
    · exact ⟨d, hj, by show (z.ad.set i none)[j]? = _; rw [List.getElem?_set_ne (fun z => hne z.symm)]⟩
theorem Z.setC_ok (ok : z.Ok K σ) (st : Stp z0 z) {i : Nat} {c : Cell} {a : Addr} (h0 : z0.H a = none) (hf : z.F a = none) (nh : ¬ z.Held a) (h : CellOk K z.F z.H a c) : (z.setC i c a).Ok K (σ.set i (some (.ref a))) ∧ Stp z0 (z.setC i c a) := by
  refine ⟨⟨ok.fh, by show (σ.set i _).length = (z.r.set i _).length; rw [List.length_set, List.length_set]; exact ok.ls, by show (z.ad.set i _).length = (z.r.set i _).length; rw [List.length_set, List.length_set]; exact ok.la, fun j s hj => ?_, fun j k b hj hk => ?_⟩,
    ⟨st.ff, fun b u h n => st.keep b u h n, fun b h => st.dom b h, fun b h n => st.lim b h n, fun b ⟨j, hj⟩ => ?_, fun b ⟨j, d, hj, hk⟩ => ?_, fun j d hj => ?_⟩⟩
  · show SlAt K z.F z.H s ((z.ad.set i (some a))[j]?.join) ((σ.set i (some (.ref a)))[j]?.join)
    rcases set_at (show (z.r.set i (.own c))[j]? = some s from hj) with ⟨rfl, rfl, hl⟩ | ⟨hne, hj⟩
    · rw [List.getElem?_set_self (by rw [ok.la]; exact hl), List.getElem?_set_self (by rw [ok.ls]; exact hl)]
      exact ⟨a, rfl, rfl, hf, h⟩
    · rw [List.getElem?_set_ne (fun z => hne z.symm), List.getElem?_set_ne (fun z => hne z.symm)]
      exact ok.at_ j s hj
  · rcases set_at (show (z.ad.set i (some a))[j]? = some (some b) from hj) with ⟨e1, h1, _⟩ | ⟨n1, hj⟩
    · rcases set_at (show (z.ad.set i (some a))[k]? = some (some b) from hk) with ⟨e2, h2, _⟩ | ⟨n2, hk⟩
      · rw [e1, e2]
      · have e : b = a := Option.some.inj h1
        rw [e] at hk
        exact absurd ⟨k, hk⟩ nh
    · rcases set_at (show (z.ad.set i (some a))[k]? = some (some b) from hk) with ⟨e2, h2, _⟩ | ⟨n2, hk⟩
      · have e : b = a := Option.some.inj h2
        rw [e] at hj
        exact absurd ⟨j, hj⟩ nh
      · exact ok.inj j k b hj hk
  · rcases set_at (show (z.ad.set i (some a))[j]? = some (some b) from hj) with ⟨_, h, _⟩ | ⟨_, hj⟩
    · have e : b = a := Option.some.inj h
      rw [e]
      exact .inr h0
    · exact st.sub b ⟨j, hj⟩
  · rcases set_at (show (z.ad.set i (some a))[j]? = some (some b) from hk) with ⟨_, h, _⟩ | ⟨hne, hk⟩
    · have e : b = a := Option.some.inj h
      rw [e]
      exact .inr h0
    · rcases set_at (show (z.r.set i (.own c))[j]? = some (.own d) from hj) with ⟨e, _, _⟩ | ⟨_, hj⟩
      · exact absurd e hne
      · exact st.own b ⟨j, d, hj, hk⟩
  · rcases set_at (show (z.r.set i (.own c))[j]? = some (.brw d) from hj) with ⟨_, h, _⟩ | ⟨hne, hj⟩
    · cases h
    · obtain ⟨c0, h1, h2⟩ := st.brw j d hj
      exact ⟨c0, h1, by show (z.ad.set i (some a))[j]? = _; rw [List.getElem?_set_ne (fun z => hne z.symm)]; exact h2⟩
end

/-! ### targets -/
abbrev QGT := PV → Rs → (Rs → Prop) → Prop
abbrev QGTs := List PV → Rs → (Rs → Prop) → Prop
def MonoG (g : QGT) : Prop := ∀ p r (k k' : Rs → Prop), (∀ r, k r → k' r) → g p r k → g p r k'
def MonoGs (g : QGTs) : Prop := ∀ p r (k k' : Rs → Prop), (∀ r, k r → k' r) → g p r k → g p r k'
def liftG (K : PySem.W.Frag) (is : List Nat) (g : QGT) : TG := fun v σ H Q => ∃ (z : Z) (p : PV), z.H = H ∧ z.Ok K σ ∧ Rep K z.F p v ∧ g p z.r fun r' => ∀ (z' : Z) (σ' : L2.St), Stp z z' → z'.Ok K σ' → z'.r = r' → ((∀ j, j ∉ is → σ'[j]? = σ[j]?) ∧ σ'.length = σ.length) → Q σ' z'.H
def liftGs (K : PySem.W.Frag) (is : List Nat) (g : QGTs) : TGs := fun vs σ H Q => ∃ (z : Z) (ps : List PV), z.H = H ∧ z.Ok K σ ∧ Reps K z.F ps vs ∧ g ps z.r fun r' => ∀ (z' : Z) (σ' : L2.St), Stp z z' → z'.Ok K σ' → z'.r = r' → ((∀ j, j ∉ is → σ'[j]? = σ[j]?) ∧ σ'.length = σ.length) → Q σ' z'.H
structure QG (X : Cx) (tg : Expr) (is : List Nat) (g : QGT) : Prop where
  mono : MonoG g
  pg : PG X tg (liftG X.K is g)
structure QGs (X : Cx) (tgs : List Expr) (is : List Nat) (g : QGTs) : Prop where
  mono : MonoGs g
  pg : PGs X tgs (liftGs X.K is g)
section
variable {X : Cx}
theorem PG.to {tg : Expr} {t t' : TG} (h : PG X tg t) (i : ∀ v σ H Q, t' v σ H Q → t v σ H Q) : PG X tg t' := ⟨fun pins s σ H v u Q I r w => h.run pins s σ H v u Q I r (i v σ H Q w)⟩
theorem PGs.to {tg : List Expr} {t t' : TGs} (h : PGs X tg t) (i : ∀ v σ H Q, t' v σ H Q → t v σ H Q) : PGs X tg t' := ⟨fun pins s σ H v u Q I r w => h.run pins s σ H v u Q I r (i v σ H Q w)⟩
def qgName (i : Nat) : QGT := fun p r k => k (r.set i (.val p))
theorem qg_name {i : Nat} {x : Str} {pos : Pos} (hN : X.N.Nodup) (hi : X.N[i]? = some x := by rfl) (hx : Loc X.env.scope x := by first | exact .inl rfl | exact .inr rfl) (hf : X.fn x = true ∨ X.env.scope.names.lookup x = some .local := by first | exact .inl rfl | exact .inr rfl | assumption) : QG X (.Name x pos) [i] (qgName i) := by
  refine ⟨fun p r k k' h w => h _ w, PG.to (pg_name hN hi hx hf) fun v σ H Q ⟨z, p, e, ok, rp, w⟩ => ?_⟩
  subst e
  obtain ⟨o, st⟩ := Z.set_ok (i := i) ok rp
  exact w (z.set i p) _ st o rfl ⟨fun j hj => List.getElem?_set_ne fun e => hj (by rw [e]; exact List.mem_singleton.mpr rfl), List.length_set ..⟩
def qgNil : QGTs := fun ps r k => ps = [] ∧ k r
def qgCons (g : QGT) (gs : QGTs) : QGTs := fun ps r k => ∃ p t, ps = p :: t ∧ g p r fun r1 => gs t r1 k
def qgTup (n : Nat) (gs : QGTs) : QGT := fun p r k => ∃ ps, p = .tup ps ∧ ps.length = n ∧ gs ps r k
theorem qgs_nil : QGs X [] [] qgNil := ⟨fun p r k k' h ⟨a, w⟩ => ⟨a, h _ w⟩, PGs.to pgs_nil fun vs σ H Q ⟨z, ps, e, ok, rp, e2, w⟩ => by
  subst e e2
  exact ⟨reps_nil.mp rp, w z σ (Stp.refl z) ok rfl ⟨fun _ _ => rfl, rfl⟩⟩⟩
theorem qgs_cons {e : Expr} {es : List Expr} {is js : List Nat} {g : QGT} {gs : QGTs} (h1 : QG X e is g) (h2 : QGs X es js gs)
    (hs : (assignEach (e :: es) X.env).map (·.2) = assign e X.env :: (assignEach es X.env).map (·.2) := by rfl) : QGs X (e :: es) (is ++ js) (qgCons g gs) := by
  refine ⟨fun p r k k' h ⟨a, b, c, w⟩ => ⟨a, b, c, h1.mono _ _ _ _ (fun r1 w => h2.mono _ _ _ _ h w) w⟩, PGs.to (pgs_cons h1.pg h2.pg hs) fun vs σ H Q ⟨z, ps, e0, ok, rp, w⟩ => ?_⟩
  subst e0
  obtain ⟨p, t, rfl, w⟩ := w
  obtain ⟨v, u, rfl, rp1, rp2⟩ := reps_cons.mp rp
  refine ⟨v, u, rfl, z, p, rfl, ok, rp1, h1.mono _ _ _ _ (fun r1 w z1 σ1 st1 ok1 e1 same1 => ?_) w⟩
  subst e1
  refine ⟨z1, t, rfl, ok1, rp2.mono st1.ff, h2.mono _ _ _ _ (fun r2 w z2 σ2 st2 ok2 e2 same2 => ?_) w⟩
  subst e2
  exact w z2 σ2 (st1.trans st2) ok2 rfl ⟨fun j hj => (same2.1 j fun q => hj (List.mem_append_right _ q)).trans (same1.1 j fun q => hj (List.mem_append_left _ q)), same2.2.trans same1.2⟩
theorem qg_tup {es : List Expr} {k : Nat} {pos : Pos} {is : List Nat} {gs : QGTs} {n : Nat} (hc : X.calm = true) (h : QGs X es is gs)
    (hn : (assignEach es X.env).length = n := by rfl) (hst : (assignEach es X.env).findIdx? (·.1) = none := by rfl) : QG X (.Tuple es k pos) is (qgTup n gs) := by
  refine ⟨fun p r k k' h1 ⟨a, b, c, w⟩ => ⟨a, b, c, h.mono _ _ _ _ h1 w⟩, PG.to (pg_tup hc h.pg hn hst) fun v σ H Q ⟨z, p, e0, ok, rp, w⟩ => ?_⟩
  subst e0
  obtain ⟨ps, rfl, hl, w⟩ := w
  obtain ⟨a, xs, rfl, hq, rs⟩ := rep_tup.mp rp
  exact ⟨a, xs, rfl, ok.fh.sqt hq, by rw [rs.length]; exact hl, z, ps, rfl, ok, rs, w⟩

/-! ### blocks and small statements -/
def qNext : PQS := fun A r => A.nx r
def qSeq (t u : PQS) : PQS := fun A r => t { A with nx := u A } r
def qNever : PQS := fun _ _ => False
def qRet (q : PQ) : PQS := fun A r => q r A.rt
def qRetN : PQS := fun A r => A.rt .non r
def qIfS (c : PQT) (t u : PQS) : PQS := fun A r => c r fun b r1 => if b = true then t A r1 else u A r1
def qDrop (q : PQ) : PQS := fun A r => q r fun _ r1 => A.nx r1
def qAsg (q : PQ) (g : QGT) : PQS := fun A r => q r fun p r1 => g p r1 A.nx
def qAsgN (q : PQN) (i : Nat) : PQS := fun A r => q r fun c r1 => A.nx (r1.set i (.own c))
def qAug (i : Nat) (g : PV → PV → Option PV) (q : PQ) : PQS := fun A r => ∃ p, r[i]? = some (.val p) ∧ q r fun y r1 => ∃ z, g p y = some z ∧ A.nx (r1.set i (.val z))
def qBreak : PQS := fun A r => A.bk r
def qCont : PQS := fun A r => A.ct r
theorem monoS_next : MonoS qNext := fun A B r h w => h.nx r w
theorem monoS_seq {t u : PQS} (h1 : MonoS t) (h2 : MonoS u) : MonoS (qSeq t u) := fun A B r h w => h1 { A with nx := u A } { B with nx := u B } r ⟨fun r w => h2 _ _ _ h w, h.rt, h.bk, h.ct, h.ro⟩ w
theorem monoS_never : MonoS qNever := fun A B r h w => w
theorem monoS_ret {q : PQ} (h : Mono q) : MonoS (qRet q) := fun A B r i w => h _ _ _ i.rt w
theorem monoS_retN : MonoS qRetN := fun A B r i w => i.rt _ _ w
theorem monoS_if {c : PQT} {t u : PQS} (h0 : Mono c) (h1 : MonoS t) (h2 : MonoS u) : MonoS (qIfS c t u) := fun A B r i w => h0 _ _ _ (fun b r1 w => by
  cases b with
  | true => rw [if_pos rfl] at w ⊢; exact h1 _ _ _ i w
  | false => rw [if_neg Bool.false_ne_true] at w ⊢; exact h2 _ _ _ i w) w
theorem monoS_drop {q : PQ} (h : Mono q) : MonoS (qDrop q) := fun A B r i w => h _ _ _ (fun _ r1 w => i.nx _ w) w
theorem monoS_asg {q : PQ} {g : QGT} (h : Mono q) (hg : MonoG g) : MonoS (qAsg q g) := fun A B r i w => h _ _ _ (fun _ r1 w => hg _ _ _ _ i.nx w) w
theorem monoS_asgN {q : PQN} {i : Nat} (h : Mono q) : MonoS (qAsgN q i) := fun A B r e w => h _ _ _ (fun _ r1 w => e.nx _ w) w
theorem monoS_aug {i : Nat} {g : PV → PV → Option PV} {q : PQ} (h : Mono q) : MonoS (qAug i g q) := fun A B r e ⟨p, hp, w⟩ => ⟨p, hp, h _ _ _ (fun _ r1 ⟨z, hz, w⟩ => ⟨z, hz, e.nx _ w⟩) w⟩
theorem EndsOk.seq {K : PySem.W.Frag} {z : Z} {A : PEnds} {D : Ends} {n : Rs → Prop} {m : L2.St → Hp → Prop} (e : EndsOk K z A D) (h : ∀ (z' : Z) σ, Stp z z' → z'.Ok K σ → n z'.r → m σ z'.H) : EndsOk K z { A with nx := n } { D with nx := m } := ⟨h, e.rt, e.bk, e.ct, e.ro⟩
variable {st : Stmt} {rest : List Stmt} {e : Expr} {q : PQ} {t u : PQS} {pos : Pos}
theorem qss_nil : QSs X [] qNext := ⟨monoS_next, PSs.to pss_nil fun D σ H ⟨z, e, ok, A, ends, w⟩ => by subst e; exact ends.nx z σ (Stp.refl z) ok w⟩
theorem qss_cons (h1 : QS X st t) (h2 : QSs X rest u) : QSs X (st :: rest) (qSeq t u) := by
  refine ⟨monoS_seq h1.mono h2.mono, PSs.to (pss_cons h1.ps h2.ps) fun D σ H ⟨z, e, ok, A, ends, w⟩ => ?_⟩
  subst e
  exact ⟨z, rfl, ok, { A with nx := u A }, ends.seq fun z' σ' st' ok' w' => ⟨z', rfl, ok', A, ends.from st', w'⟩, w⟩
theorem qss_one (h1 : QS X st t) : QSs X [st] t := ⟨h1.mono, pss_one h1.ps⟩
theorem qs_pass : QS X (.Pass pos) qNext := ⟨monoS_next, PS.to ps_pass fun D σ H ⟨z, e, ok, A, ends, w⟩ => by subst e; exact ends.nx z σ (Stp.refl z) ok w⟩
theorem qs_break : QS X (.Break pos) qBreak := ⟨fun A B r h w => h.bk r w, PS.to ps_break fun D σ H ⟨z, e, ok, A, ends, w⟩ => by subst e; exact ends.bk z σ (Stp.refl z) ok w⟩
theorem qs_continue : QS X (.Continue pos) qCont := ⟨fun A B r h w => h.ct r w, PS.to ps_continue fun D σ H ⟨z, e, ok, A, ends, w⟩ => by subst e; exact ends.ct z σ (Stp.refl z) ok w⟩
theorem qs_never : QS X st qNever := ⟨monoS_never, PS.to ps_never fun D σ H ⟨z, e, ok, A, ends, w⟩ => w.elim⟩
theorem qss_never {sts : List Stmt} : QSs X sts qNever := ⟨monoS_never, PSs.to pss_never fun D σ H ⟨z, e, ok, A, ends, w⟩ => w.elim⟩
theorem qs_ret (h : QE X e q) : QS X (.Return (some e) pos) (qRet q) := by
  refine ⟨monoS_ret h.mono, PS.to (ps_ret h.pe) fun D σ H ⟨z, e0, ok, A, ends, w⟩ => ?_⟩
  subst e0
  refine ⟨z, rfl, ok, h.mono _ _ _ (fun p r1 w v z1 st1 ok1 e1 rp => ?_) w⟩
  subst e1
  exact ends.rt p v z1 σ st1 ok1 rp w
theorem qs_retN : QS X (.Return none pos) qRetN := ⟨monoS_retN, PS.to ps_retN fun D σ H ⟨z, e, ok, A, ends, w⟩ => by subst e; exact ends.rt .non .non z σ (Stp.refl z) ok (rep_non.mpr rfl) w⟩
def qRetO (i : Nat) : PQS := fun A r => ∃ c, r[i]? = some (.own c) ∧ A.ro c
/-- return x, a cell of the def's own -/
theorem qs_retO (i : Nat) {x : Str} {px : Pos} (hN : X.N[i]? = some x := by rfl) (hv : Vis X.env.scope x := by first | exact Or.inl rfl | exact Or.inr (Or.inl rfl) | exact Or.inr (Or.inr rfl)) (hd : (x == ("__debug__" : Str)) = false := by decide)
    (hcd : (x == ("__classdict__" : Str)) = false := by decide) : QS X (.Return (some (.Name x px)) pos) (qRetO i) := by
  refine ⟨fun A B r h ⟨c, e, w⟩ => ⟨c, e, h.ro c w⟩, PS.to (ps_ret (pv i hN hv hd hcd)) fun D σ H ⟨z, e0, ok, A, ends, c, hr, w⟩ => ?_⟩
  subst e0
  obtain ⟨a, q1, q2, q3, q4⟩ := ok.at_ i _ hr
  exact ⟨.ref a, join_some q2, ends.ro i c a z σ (Stp.refl z) ok hr (join_some q1) w⟩
theorem qs_if {c : Expr} {a b : List Stmt} {tc : PQT} (hc : QT X c tc) (ha : QSs X a t) (hb : QSs X b u) : QS X (.If c a b pos) (qIfS tc t u) := by
  refine ⟨monoS_if hc.mono ha.mono hb.mono, PS.to (ps_if hc.pt ha.ps hb.ps) fun D σ H ⟨z, e0, ok, A, ends, w⟩ => ?_⟩
  subst e0
  refine ⟨z, rfl, ok, hc.mono _ _ _ (fun d r1 h1 z1 st1 ok1 e1 => ?_) w⟩
  subst e1
  cases d with
  | true => rw [if_pos rfl] at h1 ⊢; exact ⟨z1, rfl, ok1, A, ends.from st1, h1⟩
  | false => rw [if_neg Bool.false_ne_true] at h1 ⊢; exact ⟨z1, rfl, ok1, A, ends.from st1, h1⟩
theorem qs_expr (h : QE X e q) (hs : swapsWith e none pos.line X.env = pure false := by rfl) : QS X (.Expr e pos) (qDrop q) := by
  refine ⟨monoS_drop h.mono, PS.to (ps_expr h.pe hs) fun D σ H ⟨z, e0, ok, A, ends, w⟩ => ?_⟩
  subst e0
  refine ⟨z, rfl, ok, h.mono _ _ _ (fun p r1 w v z1 st1 ok1 e1 rp => ?_) w⟩
  subst e1
  exact ends.nx z1 σ st1 ok1 w
theorem qs_doc {x j pos'} : QS X (.Expr (.Constant (.str x) j pos) pos') qNext := ⟨monoS_next, PS.to ps_doc fun D σ H ⟨z, e, ok, A, ends, w⟩ => by subst e; exact ends.nx z σ (Stp.refl z) ok w⟩
theorem lift_asg {K : PySem.W.Frag} {g : QGT} {is : List Nat} (mq : Mono q) (mg : MonoG g) (D : Ends) (σ : L2.St) (H : Hp) (h : liftS K (qAsg q g) D σ H) : tAsg (lift K q) (liftG K is g) D σ H := by
  obtain ⟨z, e0, ok, A, ends, w⟩ := h
  subst e0
  refine ⟨z, rfl, ok, mq _ _ _ (fun p r1 w v z1 st1 ok1 e1 rp => ?_) w⟩
  subst e1
  refine ⟨z1, p, rfl, ok1, rp, mg _ _ _ _ (fun r2 w z2 σ2 st2 ok2 e2 _ => ?_) w⟩
  subst e2
  exact ends.nx z2 σ2 (st1.trans st2) ok2 w
theorem qs_asg {tg : Expr} {g : QGT} {is : List Nat} (he : QE X e q) (hg : QG X tg is g) (hs : swapsWithSole [tg] e pos.line X.env = pure false := by rfl) (hw : swappedStores [tg] e X.env = pure none := by rfl)
    (h1 : (assignEach [tg] X.env).map (·.2) = [assign tg X.env] := by rfl) : QS X (.Assign [tg] e pos) (qAsg q g) :=
  ⟨monoS_asg he.mono hg.mono, PS.to (ps_asg he.pe hg.pg hs hw h1) (lift_asg he.mono hg.mono)⟩
/-- an assignment to a name, as a reading of the value -/
theorem lift_set_pre {K : PySem.W.Frag} {i : Nat} (mq : Mono q) (D : Ends) (σ : L2.St) (H : Hp) (h : liftS K (qAsg q (qgName i)) D σ H) : lift K q σ H (fun x H1 => gName i x σ H1 D.nx) := by
  obtain ⟨z, e0, ok, A, ends, w⟩ := h
  subst e0
  refine ⟨z, rfl, ok, mq _ _ _ (fun p r1 w v z1 st1 ok1 e1 rp => ?_) w⟩
  subst e1
  obtain ⟨o, st⟩ := Z.set_ok (i := i) ok1 rp
  exact ends.nx (z1.set i p) _ (st1.trans st) o w
theorem lift_set {K : PySem.W.Frag} {i : Nat} (mq : Mono q) (D : Ends) (σ : L2.St) (H : Hp) (h : liftS K (qAsg q (qgName i)) D σ H) : tAsg (lift K q) (gName i) D σ H := by
  obtain ⟨z, e0, ok, A, ends, w⟩ := h
  subst e0
  refine ⟨z, rfl, ok, mq _ _ _ (fun p r1 w v z1 st1 ok1 e1 rp => ?_) w⟩
  subst e1
  obtain ⟨o, st⟩ := Z.set_ok (i := i) ok1 rp
  exact ends.nx (z1.set i p) _ (st1.trans st) o w
/-- x = e -/
theorem qs_set {i : Nat} {x : Str} {pos' : Pos} (hN : X.N.Nodup) (he : QE X e q) (hi : X.N[i]? = some x := by rfl) (hx : Loc X.env.scope x := by first | exact .inl rfl | exact .inr rfl) (hs : swapsWith e (some (.Name x pos')) pos.line X.env = pure false := by rfl)
    (hf : X.fn x = true ∨ X.env.scope.names.lookup x = some .local := by first | exact .inl rfl | exact .inr rfl | assumption) : QS X (.Assign [.Name x pos'] e pos) (qAsg q (qgName i)) :=
  ⟨monoS_asg he.mono fun _ _ _ _ h w => h _ w, PS.to (ps_set hN hi hx he.pe hs hf) (lift_set he.mono)⟩
theorem lift_setN {K : PySem.W.Frag} {q : PQN} {i : Nat} (mq : Mono q) (D : Ends) (σ : L2.St) (H : Hp) (h : liftS K (qAsgN q i) D σ H) : tAsg (liftN K q) (gName i) D σ H := by
  obtain ⟨z, e0, ok, A, ends, w⟩ := h
  subst e0
  refine ⟨z, rfl, ok, mq _ _ _ (fun c r1 w a z1 st1 ok1 e1 h0 hf nh hc => ?_) w⟩
  subst e1
  obtain ⟨o, st⟩ := Z.setC_ok (i := i) ok1 st1 h0 hf nh hc
  exact ends.nx (z1.setC i c a) _ st o w
/-- x = a new list, which is x's alone -/
theorem qs_setN {q : PQN} {i : Nat} {x : Str} {pos' : Pos} (hN : X.N.Nodup) (he : QN X e q) (hi : X.N[i]? = some x := by rfl) (hx : Loc X.env.scope x := by first | exact .inl rfl | exact .inr rfl) (hs : swapsWith e (some (.Name x pos')) pos.line X.env = pure false := by rfl)
    (hf : X.fn x = true ∨ X.env.scope.names.lookup x = some .local := by first | exact .inl rfl | exact .inr rfl | assumption) : QS X (.Assign [.Name x pos'] e pos) (qAsgN q i) :=
  ⟨monoS_asgN he.mono, PS.to (ps_set hN hi hx he.pe hs hf) (lift_setN he.mono)⟩
/-- x op= e -/
theorem qs_aug {i : Nat} {x : Str} {op : Operator} {r : R2} {g : PV → PV → Option PV} {pos' : Pos} (hN : X.N.Nodup) (ho : OpR X (inplaceOp op) r) (hp : PureB X.K r g) (he : QE X e q) (hi : X.N[i]? = some x := by rfl) (hx : Loc X.env.scope x := by first | exact .inl rfl | exact .inr rfl)
    (hf : X.fn x = true ∨ X.env.scope.names.lookup x = some .local := by first | exact .inl rfl | exact .inr rfl | assumption) : QS X (.AugAssign (.Name x pos') op e pos) (qAug i g q) := by
  have hq : PIp X op r := fun pins s σ H x y v u Q I rx ry h => ho pins s σ H x y v u Q I rx ry h
  refine ⟨monoS_aug he.mono, PS.to (ps_aug hN hi hx he.pe hq hf) fun D σ H ⟨z, e0, ok, A, ends, p, hp0, w⟩ => ?_⟩
  subst e0
  obtain ⟨_, v, q2, q3⟩ := ok.at_ i _ hp0
  refine ⟨v, join_some q2, z, rfl, ok, he.mono _ _ _ (fun y r1 w vy z1 st1 ok1 e1 rp => ?_) w⟩
  subst e1
  obtain ⟨zr, hg, w⟩ := w
  refine hp z1.F z1.H p y v vy zr _ ok1.fh (q3.mono st1.ff) rp hg fun vr F' H' ex rpr => ?_
  obtain ⟨s1, o1⟩ := step_ext st1 ok1 ex
  obtain ⟨o, st⟩ := Z.set_ok (i := i) o1 rpr
  exact ends.nx ((z1.ext F' H').set i zr) _ (s1.trans st) o w
end

/-! ### what is walked -/
structure Wk (K : PySem.W.Frag) (z0 : Z) (ps : List PV) (J : It) : Prop where
  go : ∀ (z : Z) (σ : L2.St) (i : Nat), Sub z0.F z.F → z.Ok K σ → i < ps.length → J.go i z.H
  yld : ∀ (z : Z) (σ : L2.St) (i : Nat) (x : V) (H' : Hp) (p : PV), Sub z0.F z.F → z.Ok K σ → ps[i]? = some p → J.yld i z.H x H' → ∃ F', Ext z.F z.H F' H' ∧ Rep K F' p x
  stop : ∀ (z : Z) (σ : L2.St) (i : Nat), Sub z0.F z.F → z.Ok K σ → i = ps.length → J.stop i z.H
def liftI (K : PySem.W.Frag) (q : PQA) : TI := fun σ H R => ∃ z : Z, z.H = H ∧ z.Ok K σ ∧ q z.r fun ps r' => ∀ (J : It) (z' : Z), Stp z z' → z'.Ok K σ → z'.r = r' → Wk K z' ps J → R J z'.H
structure QI (X : Cx) (tg iter : Expr) (q : PQA) : Prop where
  mono : Mono q
  pi : PI X tg iter (liftI X.K q)
theorem Wk.list {K : PySem.W.Frag} {z0 : Z} {σ0 : L2.St} {a : Addr} {vs : List V} {ps : List PV} (ok0 : z0.Ok K σ0) (h : SqL K z0.F a vs) (r : Reps K z0.F ps vs) : Wk K z0 ps (Itl K a) where
  go := fun z σ i st ok hi => by
    obtain ⟨v, e, _⟩ := r.get (List.getElem?_eq_getElem hi)
    exact ⟨vs, v, ok.fh.sql (st.sql h), e⟩
  yld := fun z σ i x H' p st ok hp hy => by
    obtain ⟨rfl, hy⟩ := hy
    obtain ⟨v, e, rp⟩ := r.get hp
    have e2 : x = v := Option.some.inj ((hy vs (ok.fh.sql (st.sql h))).symm.trans e)
    rw [e2]
    exact ⟨z.F, Ext.refl ok.fh, rp.mono st⟩
  stop := fun z σ i st ok hi => ⟨vs, ok.fh.sql (st.sql h), by rw [r.length]; exact Nat.le_of_eq hi.symm⟩
theorem Wk.tuple {K : PySem.W.Frag} {z0 : Z} {σ0 : L2.St} {a : Addr} {vs : List V} {ps : List PV} (ok0 : z0.Ok K σ0) (h : SqT K z0.F a vs) (r : Reps K z0.F ps vs) : Wk K z0 ps (Itt K a) where
  go := fun z σ i st ok hi => by
    obtain ⟨v, e, _⟩ := r.get (List.getElem?_eq_getElem hi)
    exact ⟨vs, v, ok.fh.sqt (st.sqt h), e⟩
  yld := fun z σ i x H' p st ok hp hy => by
    obtain ⟨rfl, hy⟩ := hy
    obtain ⟨v, e, rp⟩ := r.get hp
    have e2 : x = v := Option.some.inj ((hy vs (ok.fh.sqt (st.sqt h))).symm.trans e)
    rw [e2]
    exact ⟨z.F, Ext.refl ok.fh, rp.mono st⟩
  stop := fun z σ i st ok hi => ⟨vs, ok.fh.sqt (st.sqt h), by rw [r.length]; exact Nat.le_of_eq hi.symm⟩
def signs (s : List Nat) : List PV := s.map fun c => .str [c]
theorem Wk.text {K : PySem.W.Frag} {z0 : Z} {s : List Nat} : Wk K z0 (signs s) (Its (tx s)) where
  go := fun z σ i st ok hi => by
    show i < s.toArray.size
    simpa [signs] using hi
  yld := fun z σ i x H' p st ok hp hy => by
    obtain ⟨rfl, c, hc, rfl⟩ := hy
    have e1 : s[i]? = some c := by simpa using hc
    have e2 : p = .str [c] := by
      have h : (signs s)[i]? = some (PV.str [c]) := by
        unfold signs
        rw [List.getElem?_map, e1]
        rfl
      exact Option.some.inj (hp.symm.trans h)
    rw [e2]
    exact ⟨z.F, Ext.refl ok.fh, rep_str.mpr rfl⟩
  stop := fun z σ i st ok hi => by
    show s.toArray.size ≤ i
    have h : i = s.length := by simpa [signs] using hi
    rw [h]
    simp
def nums (lo : Int) (n : Nat) : List PV := (List.range n).map fun (i : Nat) => .int (lo + (i : Int))
theorem Wk.range {K : PySem.W.Frag} {z0 : Z} {lo : Int} {n : Nat} : Wk K z0 (nums lo n) (Itr lo n) where
  go := fun z σ i st ok hi => by
    show i < n
    simpa [nums] using hi
  yld := fun z σ i x H' p st ok hp hy => by
    obtain ⟨rfl, rfl⟩ := hy
    have hi : i < n := by
      have h := (List.getElem?_eq_some_iff.mp hp).1
      simpa [nums] using h
    have e2 : p = .int (lo + (i : Int)) := by
      have h : (nums lo n)[i]? = some (PV.int (lo + (i : Int))) := by
        unfold nums
        rw [List.getElem?_map, List.getElem?_range hi]
        rfl
      exact Option.some.inj (hp.symm.trans h)
    rw [e2]
    exact ⟨z.F, Ext.refl ok.fh, rep_int.mpr rfl⟩
  stop := fun z σ i st ok hi => by
    show n ≤ i
    have h : i = n := by simpa [nums] using hi
    rw [h]
    exact Nat.le_refl _
section
variable {X : Cx} {tg : Expr}
theorem PI.to {it : Expr} {w w' : TI} (h : PI X tg it w) (i : ∀ σ H R, w' σ H R → w σ H R) : PI X tg it w' := ⟨fun pins s σ H R I x => h.run pins s σ H R I (i σ H R x)⟩
theorem PI.or {it : Expr} {w w' : TI} (h : PI X tg it w) (h' : PI X tg it w') : PI X tg it (fun σ H R => w σ H R ∨ w' σ H R) := ⟨fun pins s σ H R I x => x.elim (h.run pins s σ H R I) (h'.run pins s σ H R I)⟩
/-- the items of what is walked: a list, a tuple, a text -/
def items : PV → Option (List PV)
  | .lst ps => some ps
  | .tup ps => some ps
  | .str s => some (signs s)
  | _ => none
def qItems (q : PQ) : PQA := fun r k => q r fun p r1 => ∃ ps, items p = some ps ∧ k ps r1
theorem mono_items {q : PQ} (h : Mono q) : Mono (qItems q) := fun r k k' i w => h _ _ _ (fun p r1 ⟨ps, e, w⟩ => ⟨ps, e, i _ _ w⟩) w
/-- a list -/
def qItL (q : PQ) : PQA := fun r k => q r fun p r1 => ∃ ps, p = .lst ps ∧ k ps r1
def qItT (q : PQ) : PQA := fun r k => q r fun p r1 => ∃ ps, p = .tup ps ∧ k ps r1
def qItS (q : PQ) : PQA := fun r k => q r fun p r1 => ∃ s, p = .str s ∧ k (signs s) r1
theorem qi_list {l : Expr} {q : PQ} (h : QE X l q) : QI X tg l (qItL q) := by
  refine ⟨fun r k k' i w => h.mono _ _ _ (fun p r1 ⟨ps, e, w⟩ => ⟨ps, e, i _ _ w⟩) w, PI.to (pi_list h.pe) fun σ H R ⟨z, e0, ok, w⟩ => ?_⟩
  subst e0
  refine ⟨z, rfl, ok, h.mono _ _ _ (fun p r1 w v z1 st1 ok1 e1 rp => ?_) w⟩
  subst e1
  obtain ⟨ps, rfl, w⟩ := w
  obtain ⟨a, vs, rfl, hq, rs⟩ := rep_lst.mp rp
  exact ⟨a, rfl, ⟨vs, sql_tracked (ok1.fh _ _ hq)⟩, w _ z1 st1 ok1 rfl (Wk.list ok1 (sql_tracked hq) rs)⟩
theorem qi_tup {l : Expr} {q : PQ} (h : QE X l q) : QI X tg l (qItT q) := by
  refine ⟨fun r k k' i w => h.mono _ _ _ (fun p r1 ⟨ps, e, w⟩ => ⟨ps, e, i _ _ w⟩) w, PI.to (pi_tup h.pe) fun σ H R ⟨z, e0, ok, w⟩ => ?_⟩
  subst e0
  refine ⟨z, rfl, ok, h.mono _ _ _ (fun p r1 w v z1 st1 ok1 e1 rp => ?_) w⟩
  subst e1
  obtain ⟨ps, rfl, w⟩ := w
  obtain ⟨a, vs, rfl, hq, rs⟩ := rep_tup.mp rp
  exact ⟨a, rfl, ⟨vs, ok1.fh.sqt hq⟩, w _ z1 st1 ok1 rfl (Wk.tuple ok1 hq rs)⟩
theorem qi_str {l : Expr} {q : PQ} (h : QE X l q) : QI X tg l (qItS q) := by
  refine ⟨fun r k k' i w => h.mono _ _ _ (fun p r1 ⟨ps, e, w⟩ => ⟨ps, e, i _ _ w⟩) w, PI.to (pi_str h.pe) fun σ H R ⟨z, e0, ok, w⟩ => ?_⟩
  subst e0
  refine ⟨z, rfl, ok, h.mono _ _ _ (fun p r1 w v z1 st1 ok1 e1 rp => ?_) w⟩
  subst e1
  obtain ⟨s, rfl, w⟩ := w
  exact ⟨_, rep_str.mp rp, w _ z1 st1 ok1 rfl Wk.text⟩
/-- any of the three -/
theorem QI.or {it : Expr} {q q' : PQA} (h : QI X tg it q) (h' : QI X tg it q') : QI X tg it (fun r k => q r k ∨ q' r k) :=
  ⟨fun r k k' i w => w.elim (fun w => .inl (h.mono _ _ _ i w)) fun w => .inr (h'.mono _ _ _ i w), PI.to (PI.or h.pi h'.pi) fun σ H R ⟨z, e0, ok, w⟩ => w.elim (fun w => .inl ⟨z, e0, ok, w⟩) fun w => .inr ⟨z, e0, ok, w⟩⟩
theorem mono_both {α : Type} {q q' : Rs → (α → Rs → Prop) → Prop} (h : Mono q) (h' : Mono q') : Mono (fun r k => q r k ∨ q' r k) := fun r k k' i w => w.elim (fun w => .inl (h _ _ _ i w)) fun w => .inr (h' _ _ _ i w)
def qRng1 (t : PQA) : PQA := fun r k => t r fun ps r1 => ∃ j : Int, ps = [.int j] ∧ -(2 ^ 62) ≤ j ∧ j < 2 ^ 62 ∧ k (nums 0 j.toNat) r1
def qRng2 (t : PQA) : PQA := fun r k => t r fun ps r1 => ∃ i j : Int, ps = [.int i, .int j] ∧ (-(2 ^ 62) ≤ i ∧ i < 2 ^ 62 ∧ -(2 ^ 62) ≤ j ∧ j < 2 ^ 62) ∧ k (nums i (j - i).toNat) r1
theorem qi_range1 {a : Expr} {t : PQA} {p pos : Pos} (hg : Gl X "range") (hm : X.mg "range" = none) (ha : QA X [a] t) (hs : starEach [a] X.env = [(false, eval a X.env)] := by rfl) : QI X tg (.Call (.Name "range" p) [a] [] pos) (qRng1 t) := by
  refine ⟨fun r k k' i w => ha.mono _ _ _ (fun ps r1 ⟨j, e, b1, b2, w⟩ => ⟨j, e, b1, b2, i _ _ w⟩) w, PI.to (pi_range1 hg hm ha.pa hs) fun σ H R ⟨z, e0, ok, w⟩ => ?_⟩
  subst e0
  refine ⟨z, rfl, ok, ha.mono _ _ _ (fun ps r1 w vs z1 st1 ok1 e1 rp => ?_) w⟩
  subst e1
  obtain ⟨j, rfl, b1, b2, w⟩ := w
  obtain ⟨v, u, rfl, h1, h2⟩ := reps_cons.mp rp
  exact ⟨j, by rw [rep_int.mp h1, reps_nil.mp h2], b1, b2, w _ z1 st1 ok1 rfl Wk.range⟩
theorem qi_range2 {a b : Expr} {t : PQA} {p pos : Pos} (hg : Gl X "range") (hm : X.mg "range" = none) (ha : QA X [a, b] t) (hs : starEach [a, b] X.env = [(false, eval a X.env), (false, eval b X.env)] := by rfl) (hs2 : starEach [b] X.env = [(false, eval b X.env)] := by rfl) :
    QI X tg (.Call (.Name "range" p) [a, b] [] pos) (qRng2 t) := by
  refine ⟨fun r k k' i w => ha.mono _ _ _ (fun ps r1 ⟨j, j2, e, b1, w⟩ => ⟨j, j2, e, b1, i _ _ w⟩) w, PI.to (pi_range2 hg hm ha.pa hs hs2) fun σ H R ⟨z, e0, ok, w⟩ => ?_⟩
  subst e0
  refine ⟨z, rfl, ok, ha.mono _ _ _ (fun ps r1 w vs z1 st1 ok1 e1 rp => ?_) w⟩
  subst e1
  obtain ⟨i, j, rfl, b1, w⟩ := w
  obtain ⟨v, u, rfl, h1, h2⟩ := reps_cons.mp rp
  obtain ⟨v2, u2, rfl, h3, h4⟩ := reps_cons.mp h2
  exact ⟨i, j, by rw [rep_int.mp h1, rep_int.mp h3, reps_nil.mp h4], b1, w _ z1 st1 ok1 rfl Wk.range⟩
/-! ### for -/
def wpFor (g : QGT) (b : PQS) (A : PEnds) : List PV → Rs → Prop
  | [], r => A.nx r
  | p :: ps, r => g p r fun r1 => b { nx := wpFor g b A ps, ct := wpFor g b A ps, bk := A.nx, rt := A.rt, ro := A.ro } r1
def qFor (qi : PQA) (g : QGT) (b : PQS) : PQS := fun A r => qi r fun ps r1 => wpFor g b A ps r1
theorem mono_for {g : QGT} {b : PQS} (mg : MonoG g) (mb : MonoS b) {A B : PEnds} (h : A.Le B) : ∀ (ps : List PV) (r : Rs), wpFor g b A ps r → wpFor g b B ps r
  | [], r, w => h.nx r w
  | p :: ps, r, w => mg _ _ _ _ (fun r1 w => mb { nx := wpFor g b A ps, ct := wpFor g b A ps, bk := A.nx, rt := A.rt, ro := A.ro } { nx := wpFor g b B ps, ct := wpFor g b B ps, bk := B.nx, rt := B.rt, ro := B.ro } r1 ⟨fun r w => mono_for mg mb h ps r w, h.rt, h.nx, fun r w => mono_for mg mb h ps r w, h.ro⟩ w) w
theorem qs_for {iter : Expr} {body : List Stmt} {qi : PQA} {g : QGT} {is : List Nat} {b : PQS} {pos : Pos} (hp : PassesOwn (model X.prog X.w) X.A X.env X.xe) (hc : X.calm = true) (hi : QI X tg iter qi) (hg : QG X tg is g) (hb : QSs X body b)
    (hs : ∀ x, foldedSetIterable iter X.env x = pure x := by intro _; rfl) : QS X (.For tg iter body [] pos) (qFor qi g b) := by
  refine ⟨fun A B r h w => hi.mono _ _ _ (fun ps r1 w => mono_for hg.mono hb.mono h ps r1 w) w, PS.to (ps_for hp hc hi.pi hg.pg hb.ps hs) fun D σ H ⟨z, e0, ok, A, ends, w⟩ => ?_⟩
  subst e0
  refine ⟨z, rfl, ok, hi.mono _ _ _ (fun ps r1 w J z1 st1 ok1 e1 wk => ?_) w⟩
  subst e1
  refine ⟨fun i m σ H => i ≤ ps.length ∧ ∃ z' : Z, z'.H = H ∧ Stp z1 z' ∧ z'.Ok X.K σ ∧ m = ps.length - i ∧ wpFor g b A (ps.drop i) z'.r, ⟨ps.length, Nat.zero_le _, z1, rfl, Stp.refl z1, ok1, rfl, w⟩, ?_⟩
  rintro i m σ' H' ⟨hle, z2, rfl, st2, ok2, rfl, w2⟩
  by_cases hlt : i < ps.length
  · refine .inr ⟨wk.go z2 σ' i st2.ff ok2 hlt, fun σ H => ∃ z' : Z, z'.H = H ∧ Stp z1 z' ∧ z'.Ok X.K σ ∧ wpFor g b A (ps.drop (i + 1)) z'.r, ?_, ?_⟩
    · rintro σ3 H3 ⟨z3, e3, st3, ok3, w3⟩
      exact ⟨ps.length - (i + 1), by omega, by omega, z3, e3, st3, ok3, rfl, w3⟩
    · intro x H3 hy
      have hp0 : ps[i]? = some ps[i] := List.getElem?_eq_getElem hlt
      obtain ⟨F', ex, rp⟩ := wk.yld z2 σ' i x H3 ps[i] st2.ff ok2 hp0 hy
      obtain ⟨s3, o3⟩ := step_ext st2 ok2 ex
      rw [List.drop_eq_getElem_cons hlt] at w2
      refine ⟨z2.ext F' H3, ps[i], rfl, o3, rp, hg.mono _ _ _ _ (fun r4 w4 z4 σ4 st4 ok4 e4 _ => ?_) w2⟩
      subst e4
      have st : Stp z1 z4 := s3.trans st4
      refine ⟨z4, rfl, ok4, _, ⟨fun z5 σ5 st5 ok5 w5 => ?_, fun p v z5 σ5 st5 ok5 rp5 w5 => ?_, fun z5 σ5 st5 ok5 w5 => ?_, fun z5 σ5 st5 ok5 w5 => ?_, fun i c a z5 σ5 st5 ok5 hr ha w5 => ?_⟩, w4⟩
      · exact ⟨z5, rfl, st.trans st5, ok5, w5⟩
      · exact ends.rt p v z5 σ5 (st1.trans (st.trans st5)) ok5 rp5 w5
      · exact ends.nx z5 σ5 (st1.trans (st.trans st5)) ok5 w5
      · exact ⟨z5, rfl, st.trans st5, ok5, w5⟩
      · exact ends.ro i c a z5 σ5 (st1.trans (st.trans st5)) ok5 hr ha w5
  · refine .inl ⟨wk.stop z2 σ' i st2.ff ok2 (by omega), ?_⟩
    rw [List.drop_eq_nil_of_le (by omega)] at w2
    exact ends.nx z2 σ' (st1.trans st2) ok2 w2
end
end Qy
set_option Elab.async false
set_option linter.all false
set_option maxRecDepth 100000
set_option maxHeartbeats 4000000
/-! Q4: list comprehensions. -/
namespace Qy
open PySem PySem.Spec PyProof.Rows L2

def wipeR (r : Rs) : List Nat → Rs
  | [] => r
  | v :: vs => (wipeR r vs).set v .un
def wipeA (r : List (Option Addr)) : List Nat → List (Option Addr)
  | [] => r
  | v :: vs => (wipeA r vs).set v none
def Z.wipe (z : Z) (vs : List Nat) : Z := ⟨z.F, z.H, wipeR z.r vs, wipeA z.ad vs⟩
def keepV : Option Sl → Sl
  | some (.val p) => .val p
  | _ => .un
/-- behind a comprehension: its own names' slots as they were -/
def restR (r0 r : Rs) : List Nat → Rs
  | [] => r
  | v :: vs => (restR r0 r vs).set v (keepV r0[v]?)
section
variable {K : PySem.W.Frag} {z z0 z1 : Z} {σ : L2.St}
def Z.forget (z : Z) (i : Nat) : Z := ⟨z.F, z.H, z.r.set i .un, z.ad.set i none⟩
theorem Z.forget_ok (ok : z.Ok K σ) (i : Nat) : (z.forget i).Ok K (σ.set i none) ∧ Stp z (z.forget i) := by
  refine ⟨⟨ok.fh, by show (σ.set i _).length = (z.r.set i _).length; rw [List.length_set, List.length_set]; exact ok.ls, by show (z.ad.set i none).length = (z.r.set i _).length; rw [List.length_set, List.length_set]; exact ok.la, fun j s hj => ?_, fun j k b hj hk => ?_⟩,
    ⟨Sub.refl _, fun b u h _ => h, fun b h => h, fun b h n => .inl n, fun b ⟨j, hj⟩ => ?_, fun b ⟨j, d, hj, hk⟩ => ?_, fun j d hj => ?_⟩⟩
  · show SlAt K z.F z.H s ((z.ad.set i none)[j]?.join) ((σ.set i none)[j]?.join)
    rcases set_at (show (z.r.set i .un)[j]? = some s from hj) with ⟨rfl, rfl, hl⟩ | ⟨hne, hj⟩
    · rw [List.getElem?_set_self (by rw [ok.la]; exact hl)]
      rfl
    · rw [List.getElem?_set_ne (fun z => hne z.symm), List.getElem?_set_ne (fun z => hne z.symm)]
      exact ok.at_ j s hj
  · rcases set_at (show (z.ad.set i none)[j]? = some (some b) from hj) with ⟨_, h, _⟩ | ⟨_, hj⟩
    · cases h
    · rcases set_at (show (z.ad.set i none)[k]? = some (some b) from hk) with ⟨_, h, _⟩ | ⟨_, hk⟩
      · cases h
      · exact ok.inj j k b hj hk
  · rcases set_at (show (z.ad.set i none)[j]? = some (some b) from hj) with ⟨_, h, _⟩ | ⟨_, hj⟩
    · cases h
    · exact .inl ⟨j, hj⟩
  · rcases set_at (show (z.ad.set i none)[j]? = some (some b) from hk) with ⟨_, h, _⟩ | ⟨hne, hk⟩
    · cases h
    · rcases set_at (show (z.r.set i .un)[j]? = some (.own d) from hj) with ⟨_, h, _⟩ | ⟨_, hj⟩
      · cases h
      · exact .inl ⟨j, d, hj, hk⟩
  · rcases set_at (show (z.r.set i (.un))[j]? = some (.brw d) from hj) with ⟨_, h, _⟩ | ⟨hne, hj⟩
    · cases h
    · exact ⟨d, hj, by show (z.ad.set i none)[j]? = _; rw [List.getElem?_set_ne (fun z => hne z.symm)]⟩
theorem Z.wipe_ok (ok : z.Ok K σ) : ∀ vs : List Nat, (z.wipe vs).Ok K (L2.wipe σ vs) ∧ Stp z (z.wipe vs)
  | [] => ⟨ok, Stp.refl z⟩
  | v :: vs => by
    obtain ⟨o, s⟩ := Z.wipe_ok ok vs
    obtain ⟨o2, s2⟩ := Z.forget_ok o v
    exact ⟨o2, s.trans s2⟩
theorem wipe_get (σ : L2.St) (j : Nat) : ∀ vs : List Nat, (wipe σ vs)[j]? = if j ∈ vs then (σ[j]?).map (fun _ => none) else σ[j]?
  | [] => by
    rw [if_neg (by simp)]
    rfl
  | v :: vs => by
    have ih := wipe_get σ j vs
    show ((wipe σ vs).set v none)[j]? = _
    by_cases e : v = j
    · subst e
      rw [if_pos List.mem_cons_self]
      by_cases hl : v < σ.length
      · rw [List.getElem?_set_self (by rw [wipe_length]; exact hl), List.getElem?_eq_getElem hl]
        rfl
      · rw [List.getElem?_eq_none (by rw [List.length_set, wipe_length]; omega), List.getElem?_eq_none (by omega)]
        rfl
    · rw [List.getElem?_set_ne e, ih]
      by_cases m : j ∈ vs
      · rw [if_pos m, if_pos (List.mem_cons_of_mem _ m)]
      · rw [if_neg m, if_neg (fun h => (List.mem_cons.mp h).elim (fun q => e q.symm) m)]
theorem wipe_same {σ σ' : L2.St} {is vs : List Nat} (hs : ∀ i ∈ is, i ∈ vs) (h : ∀ j, j ∉ is → σ'[j]? = (wipe σ vs)[j]?) (hl : σ'.length = (wipe σ vs).length) : wipe σ' vs = wipe σ vs := by
  apply List.ext_getElem?
  intro j
  rw [wipe_get, wipe_get]
  by_cases m : j ∈ vs
  · rw [if_pos m, if_pos m]
    rw [wipe_length] at hl
    by_cases l : j < σ.length
    · rw [List.getElem?_eq_getElem l, List.getElem?_eq_getElem (by omega)]
      rfl
    · rw [List.getElem?_eq_none (by omega), List.getElem?_eq_none (by omega)]
  · rw [if_neg m, if_neg m, h j (fun q => m (hs j q)), wipe_get, if_neg m]
theorem restR_length (r0 r : Rs) : ∀ vs : List Nat, (restR r0 r vs).length = r.length
  | [] => rfl
  | v :: vs => by
    show ((restR r0 r vs).set v _).length = _
    rw [List.length_set, restR_length r0 r vs]
theorem restR_get (r0 r : Rs) (j : Nat) : ∀ vs : List Nat, (restR r0 r vs)[j]? = if j ∈ vs then (r[j]?).map (fun _ => keepV r0[j]?) else r[j]?
  | [] => by
    rw [if_neg (by simp)]
    rfl
  | v :: vs => by
    have ih := restR_get r0 r j vs
    show ((restR r0 r vs).set v _)[j]? = _
    by_cases e : v = j
    · subst e
      rw [if_pos List.mem_cons_self]
      by_cases hl : v < r.length
      · rw [List.getElem?_set_self (by rw [restR_length]; exact hl), List.getElem?_eq_getElem hl]
        rfl
      · have e : r[v]? = none := List.getElem?_eq_none (by omega)
        rw [List.getElem?_eq_none (by rw [List.length_set, restR_length]; omega), e]
        rfl
    · rw [List.getElem?_set_ne e, ih]
      by_cases m : j ∈ vs
      · rw [if_pos m, if_pos (List.mem_cons_of_mem _ m)]
      · rw [if_neg m, if_neg (fun h => (List.mem_cons.mp h).elim (fun q => e q.symm) m)]
def Z.back (z : Z) (r0 : Rs) (vs : List Nat) : Z := ⟨z.F, z.H, restR r0 z.r vs, z.ad⟩
theorem Z.back_ok {vs : List Nat} (ok1 : z1.Ok K σ) (st : Stp z1 z) (ok : z.Ok K (L2.wipe σ vs)) : (z.back z1.r vs).Ok K σ ∧ Stp z1 (z.back z1.r vs) := by
  have lw : (L2.wipe σ vs).length = z.r.length := ok.ls
  rw [wipe_length] at lw
  -- the wiped slots are not known
  have un : ∀ j, j ∈ vs → ∀ s, z.r[j]? = some s → s = .un := fun j hj s hs => by
    have q := ok.at_ j s hs
    have hw : (L2.wipe σ vs)[j]?.join = none := by
      rw [wipe_get, if_pos hj]
      cases σ[j]? <;> rfl
    cases s with
    | un => rfl
    | val p =>
      obtain ⟨_, v, e, _⟩ := q
      rw [hw] at e
      cases e
    | own c =>
      obtain ⟨a, _, e, _⟩ := q
      rw [hw] at e
      cases e
    | brw c =>
      obtain ⟨a, _, e, _⟩ := q
      rw [hw] at e
      cases e
  refine ⟨⟨ok.fh, by show σ.length = (restR z1.r z.r vs).length; rw [restR_length]; exact lw, by show z.ad.length = (restR z1.r z.r vs).length; rw [restR_length]; exact ok.la, fun j s hj => ?_, ok.inj⟩, ⟨st.ff, st.keep, st.dom, st.lim, st.sub, fun a ⟨j, c, hj, hk⟩ => ?_, fun j c hj => ?_⟩⟩
  · have hj : (restR z1.r z.r vs)[j]? = some s := hj
    rw [restR_get] at hj
    by_cases m : j ∈ vs
    · rw [if_pos m] at hj
      cases w : z.r[j]? with
      | none => rw [w] at hj; cases hj
      | some u =>
        rw [w] at hj
        have es : keepV z1.r[j]? = s := Option.some.inj hj
        have q := ok.at_ j u w
        rw [un j m u w] at q
        have q : z.ad[j]?.join = none := q
        cases w1 : z1.r[j]? with
        | none => rw [w1] at es; rw [← es]; exact q
        | some s1 =>
          rw [w1] at es
          cases s1 with
          | val p =>
            rw [← es]
            obtain ⟨_, v, e, rp⟩ := ok1.at_ j _ w1
            exact ⟨q, v, e, rp.mono st.ff⟩
          | un => rw [← es]; exact q
          | own c => rw [← es]; exact q
          | brw c => rw [← es]; exact q
    · rw [if_neg m] at hj
      have q := ok.at_ j s hj
      rw [wipe_get, if_neg m] at q
      exact q
  · have hj : (restR z1.r z.r vs)[j]? = some (.own c) := hj
    rw [restR_get] at hj
    by_cases m : j ∈ vs
    · rw [if_pos m] at hj
      cases w : z.r[j]? with
      | none => rw [w] at hj; cases hj
      | some u =>
        rw [w] at hj
        have es : keepV z1.r[j]? = .own c := Option.some.inj hj
        cases w1 : z1.r[j]? with
        | none => rw [w1] at es; cases es
        | some s1 => rw [w1] at es; cases s1 <;> cases es
    · rw [if_neg m] at hj
      exact st.own a ⟨j, c, hj, hk⟩
  · have hj : (restR z1.r z.r vs)[j]? = some (.brw c) := hj
    rw [restR_get] at hj
    by_cases m : j ∈ vs
    · rw [if_pos m] at hj
      cases w : z.r[j]? with
      | none => rw [w] at hj; cases hj
      | some u =>
        rw [w] at hj
        have es : keepV z1.r[j]? = .brw c := Option.some.inj hj
        cases w1 : z1.r[j]? with
        | none => rw [w1] at es; cases es
        | some s1 => rw [w1] at es; cases s1 <;> cases es
    · rw [if_neg m] at hj
      exact st.brw j c hj
/-- what lies aside changes -/
theorem Z.Ok.side (ok : z.Ok K σ) {D : Addr} {o : HO} (hf : z.F D = none) (nh : ¬ z.Held D) : (⟨z.F, upd z.H D o, z.r, z.ad⟩ : Z).Ok K σ := by
  refine ⟨fun a u h => ?_, ok.ls, ok.la, fun i s hs => ?_, ok.inj⟩
  · show upd z.H D o a = some u
    rw [upd_ne (ne_of_none h hf)]
    exact ok.fh a u h
  · have q := ok.at_ i s hs
    have go : ∀ {a : Addr} {c : Cell}, z.ad[i]?.join = some a → CellOk K z.F z.H a c → CellOk K z.F (upd z.H D o) a c := fun {a c} e h => by
      have na : a ≠ D := fun z0 => nh ⟨i, by rw [← z0]; exact join_some e⟩
      exact CellOk.move (Sub.refl _) (fun u hu => by rw [upd_ne na]; exact hu) h
    cases s with
    | un => exact q
    | val p => exact q
    | own c =>
      obtain ⟨a, q1, q2, q3, q4⟩ := q
      exact ⟨a, q1, q2, q3, go q1 q4⟩
    | brw c =>
      obtain ⟨a, q1, q2, q3, q4⟩ := q
      exact ⟨a, q1, q2, q3, go q1 q4⟩
/-- a thing aside that a step does not know -/
structure Aside (z : Z) (D : Addr) (o : HO) : Prop where
  h : z.H D = some o
  f : z.F D = none
  nh : ¬ z.Held D
theorem Aside.step {D : Addr} {o : HO} (a : Aside z D o) (s : Stp z z1) : Aside z1 D o := by
  have hn : z.H D ≠ none := by rw [a.h]; exact fun q => nomatch q
  refine ⟨s.keep D o a.h a.nh, (s.lim D hn a.f).elim id fun q => absurd (let ⟨i, _, _, h⟩ := q; ⟨i, h⟩) a.nh, fun q => (s.sub D q).elim a.nh hn⟩
end

def wpLc (vs : List Nat) (g : QGT) (t : PQT) (e : PQ) (k : List PV → Rs → Prop) : List PV → List PV → Rs → Prop
  | [], acc, r => k acc r
  | p :: ps, acc, r => g p r fun r1 => t r1 fun b r2 => if b = true then e r2 fun y r3 => acc.length < sizeLine ∧ wpLc vs g t e k ps (acc ++ [y]) (wipeR r3 vs) else wpLc vs g t e k ps acc (wipeR r2 vs)
def qLc (vs : List Nat) (qi : PQA) (g : QGT) (t : PQT) (e : PQ) : PQ := fun r k => qi r fun ps r1 => wpLc vs g t e (fun acc r2 => k (.lst acc) (restR r1 r2 vs)) ps [] (wipeR r1 vs)
def qLcN (vs : List Nat) (qi : PQA) (g : QGT) (t : PQT) (e : PQ) : PQN := fun r k => qi r fun ps r1 => wpLc vs g t e (fun acc r2 => k (.l acc) (restR r1 r2 vs)) ps [] (wipeR r1 vs)
theorem mono_wpLc {vs : List Nat} {g : QGT} {t : PQT} {e : PQ} (mg : MonoG g) (mt : Mono t) (me : Mono e) {k k' : List PV → Rs → Prop} (h : ∀ acc r, k acc r → k' acc r) : ∀ (ps acc : List PV) (r : Rs), wpLc vs g t e k ps acc r → wpLc vs g t e k' ps acc r
  | [], acc, r, w => h acc r w
  | p :: ps, acc, r, w => mg _ _ _ _ (fun r1 w => mt _ _ _ (fun b r2 w => by
    cases b with
    | true => rw [if_pos rfl] at w ⊢; exact me _ _ _ (fun y r3 ⟨a, w⟩ => ⟨a, mono_wpLc mg mt me h ps _ _ w⟩) w
    | false => rw [if_neg Bool.false_ne_true] at w ⊢; exact mono_wpLc mg mt me h ps _ _ w) w) w
theorem mono_lc {vs : List Nat} {qi : PQA} {g : QGT} {t : PQT} {e : PQ} (mi : Mono qi) (mg : MonoG g) (mt : Mono t) (me : Mono e) : Mono (qLc vs qi g t e) := fun r k k' h w => mi _ _ _ (fun ps r1 w => mono_wpLc mg mt me (fun acc r w => h _ _ w) _ _ _ w) w
theorem mono_lcN {vs : List Nat} {qi : PQA} {g : QGT} {t : PQT} {e : PQ} (mi : Mono qi) (mg : MonoG g) (mt : Mono t) (me : Mono e) : Mono (qLcN vs qi g t e) := fun r k k' h w => mi _ _ _ (fun ps r1 w => mono_wpLc mg mt me (fun acc r w => h _ _ w) _ _ _ w) w

/-- a comprehension: its reading from the pure one -/
theorem lc_sound {K : PySem.W.Frag} {vs is : List Nat} {qi : PQA} {g : QGT} {t : PQT} {e : PQ} (hs : ∀ i ∈ is, i ∈ vs) (mi : Mono qi) (mg : MonoG g) (mt : Mono t) (me : Mono e) {z : Z} {σ : L2.St} {Q : VK} (ok : z.Ok K σ) {Kf : Rs → List PV → Rs → Prop}
    (w : qi z.r fun ps r1 => wpLc vs g t e (Kf r1) ps [] (wipeR r1 vs))
    (fin : ∀ (z1 z2 : Z) (D : Addr) (acc : List PV) (vacc : List V), Stp z z1 → z1.Ok K σ → z1.H D = none → Stp z1 z2 → z2.Ok K (wipe σ vs) → Aside z2 D (.lst vacc) → Reps K z2.F acc vacc → Kf z1.r acc z2.r → Q (.ref D) z2.H) :
    tLc (liftI K qi) (liftG K is g) (liftT K t) (lift K e) vs σ z.H Q := by
  refine ⟨z, rfl, ok, mi _ _ _ (fun ps r1 w J z1 st1 ok1 e1 wk D hD => ?_) w⟩
  subst e1
  obtain ⟨okw, stw⟩ := Z.wipe_ok ok1 vs
  -- the state at a turn
  refine ⟨fun i m H => i ≤ ps.length ∧ ∃ (z2 : Z) (acc : List PV) (vacc : List V), z2.H = H ∧ Stp z1 z2 ∧ z2.Ok K (wipe σ vs) ∧ Aside z2 D (.lst vacc) ∧ Reps K z2.F acc vacc ∧ m = ps.length - i ∧ wpLc vs g t e (Kf z1.r) (ps.drop i) acc z2.r, ⟨ps.length, Nat.zero_le _, ⟨(z1.wipe vs).F, upd z1.H D (.lst []), (z1.wipe vs).r, (z1.wipe vs).ad⟩, [], [], rfl, ?_, okw.side (fnone_of ok1.fh hD) (not_held_of okw hD), ⟨upd_same, fnone_of ok1.fh hD, not_held_of okw hD⟩, .nil, rfl, w⟩, ?_⟩
  · exact stw.trans (Stp.ext okw (Ext.newH okw.fh hD _))
  · rintro i m H ⟨hle, z2, acc, vacc, rfl, st2, ok2, as2, rp2, rfl, w2⟩
    by_cases hlt : i < ps.length
    · refine .inr ⟨wk.go z2 _ i st2.ff ok2 hlt, fun H => ∃ (z2 : Z) (acc : List PV) (vacc : List V), z2.H = H ∧ Stp z1 z2 ∧ z2.Ok K (wipe σ vs) ∧ Aside z2 D (.lst vacc) ∧ Reps K z2.F acc vacc ∧ wpLc vs g t e (Kf z1.r) (ps.drop (i + 1)) acc z2.r, ?_, ?_⟩
      · rintro H3 ⟨z3, acc3, vacc3, e3, st3, ok3, as3, rp3, w3⟩
        exact ⟨ps.length - (i + 1), by omega, by omega, z3, acc3, vacc3, e3, st3, ok3, as3, rp3, rfl, w3⟩
      · intro x H3 hy
        have hp0 : ps[i]? = some ps[i] := List.getElem?_eq_getElem hlt
        obtain ⟨F', ex, rp⟩ := wk.yld z2 _ i x H3 ps[i] st2.ff ok2 hp0 hy
        obtain ⟨s3, o3⟩ := step_ext (Stp.refl z2) ok2 ex
        rw [List.drop_eq_getElem_cons hlt] at w2
        refine ⟨z2.ext F' H3, ps[i], rfl, o3, rp, mg _ _ _ _ (fun r4 w4 z4 σ4 st4 ok4 e4 same => ?_) w2⟩
        subst e4
        have ew : wipe σ4 vs = wipe σ vs := wipe_same hs same.1 same.2
        have s4 : Stp z2 z4 := s3.trans st4
        refine ⟨ew, z4, rfl, ok4, mt _ _ _ (fun b r5 w5 z5 st5 ok5 e5 => ?_) w4⟩
        subst e5
        have s5 : Stp z2 z5 := s4.trans st5
        cases b with
        | true =>
          rw [if_pos rfl] at w5 ⊢
          refine ⟨z5, rfl, ok5, me _ _ _ (fun y r6 w6 v6 z6 st6 ok6 e6 rp6 => ?_) w5⟩
          subst e6
          obtain ⟨hz, w6⟩ := w6
          have s6 : Stp z2 z6 := s5.trans st6
          have as6 := as2.step s6
          obtain ⟨ok7, st7⟩ := Z.wipe_ok ok6 vs
          rw [ew] at ok7
          have as7 := as6.step st7
          refine ⟨vacc, as6.h, by rw [rp2.length]; exact hz, ⟨(z6.wipe vs).F, upd z6.H D (.lst (vacc ++ [v6])), (z6.wipe vs).r, (z6.wipe vs).ad⟩, acc ++ [y], vacc ++ [v6], rfl, ?_, ok7.side as7.f as7.nh, ⟨upd_same, as7.f, as7.nh⟩, (rp2.mono s6.ff).append (.one rp6), w6⟩
          have s7 : Stp z1 (z6.wipe vs) := (st2.trans s6).trans st7
          refine ⟨s7.ff, fun a o h n => ?_, fun a h => ?_, s7.lim, s7.sub, s7.own, s7.brw⟩
          · show upd z6.H D (.lst (vacc ++ [v6])) a = some o
            rw [upd_ne (ne_of_none h hD)]
            exact s7.keep a o h n
          · show upd z6.H D (.lst (vacc ++ [v6])) a ≠ none
            rw [upd_ne (fun q => h (by rw [q]; exact hD))]
            exact s7.dom a h
        | false =>
          rw [if_neg Bool.false_ne_true] at w5 ⊢
          obtain ⟨ok7, st7⟩ := Z.wipe_ok ok5 vs
          rw [ew] at ok7
          exact ⟨z5.wipe vs, acc, vacc, rfl, (st2.trans s5).trans st7, ok7, as2.step (s5.trans st7), rp2.mono s5.ff, w5⟩
    · refine .inl ⟨wk.stop z2 _ i st2.ff ok2 (by omega), ?_⟩
      rw [List.drop_eq_nil_of_le (by omega)] at w2
      exact fin z1 z2 D acc vacc st1 ok1 hD st2 ok2 as2 rp2 w2
/-- the new list frozen, slots back -/
theorem lc_frozen {K : PySem.W.Frag} {vs : List Nat} {z z1 z2 : Z} {σ : L2.St} {D : Addr} {acc : List PV} {vacc : List V} (st : Stp z z1) (ok1 : z1.Ok K σ) (hD : z1.H D = none) (st2 : Stp z1 z2) (ok2 : z2.Ok K (wipe σ vs)) (a : Aside z2 D (.lst vacc)) (r : Reps K z2.F acc vacc) :
    ∃ z', Stp z z' ∧ z'.Ok K σ ∧ z'.r = restR z1.r z2.r vs ∧ z'.H = z2.H ∧ Rep K z'.F (.lst acc) (.ref D) := by
  have ok3 : (⟨upd z2.F D (.lst vacc), z2.H, z2.r, z2.ad⟩ : Z).Ok K (wipe σ vs) := by
    refine ⟨ok2.fh.upd a.h, ok2.ls, ok2.la, fun i s hs => ?_, ok2.inj⟩
    have q := ok2.at_ i s hs
    have go : ∀ {b : Addr} {c : Cell}, z2.ad[i]?.join = some b → z2.F b = none → CellOk K z2.F z2.H b c → upd z2.F D (.lst vacc) b = none ∧ CellOk K (upd z2.F D (.lst vacc)) z2.H b c := fun {b c} e n h => by
      have nb : b ≠ D := fun z0 => a.nh ⟨i, by rw [← z0]; exact join_some e⟩
      exact ⟨by rw [upd_ne nb]; exact n, CellOk.move (sub_upd a.f) (fun u hu => hu) h⟩
    cases s with
    | un => exact q
    | val p =>
      obtain ⟨q1, v, q2, q3⟩ := q
      exact ⟨q1, v, q2, q3.mono (sub_upd a.f)⟩
    | own c =>
      obtain ⟨b, q1, q2, q3, q4⟩ := q
      exact ⟨b, q1, q2, go q1 q3 q4⟩
    | brw c =>
      obtain ⟨b, q1, q2, q3, q4⟩ := q
      exact ⟨b, q1, q2, go q1 q3 q4⟩
  have st3 : Stp z1 (⟨upd z2.F D (.lst vacc), z2.H, z2.r, z2.ad⟩ : Z) := by
    refine ⟨st2.ff.trans (sub_upd a.f), st2.keep, st2.dom, fun b h n => ?_, st2.sub, st2.own, st2.brw⟩
    have nb : b ≠ D := fun q => h (by rw [q]; exact hD)
    show upd z2.F D (.lst vacc) b = none ∨ _
    rw [upd_ne nb]
    exact st2.lim b h n
  obtain ⟨o, s⟩ := Z.back_ok ok1 st3 ok3
  exact ⟨_, st.trans s, o, rfl, rfl, rep_lst.mpr ⟨D, vacc, rfl, upd_same, r.mono (sub_upd a.f)⟩⟩
structure QTs (X : Cx) (ifs : List Expr) (q : PQT) : Prop where
  mono : Mono q
  pt : PTs X ifs (liftT X.K q)
def qYes : PQT := fun r k => k true r
section
variable {X : Cx}
theorem PTs.to {ifs : List Expr} {t t' : TT} (h : PTs X ifs t) (i : ∀ σ H Q, t' σ H Q → t σ H Q) : PTs X ifs t' := ⟨fun pins s σ H Q I w => h.run pins s σ H Q I (i σ H Q w)⟩
theorem qts_nil : QTs X [] qYes := ⟨fun r k k' h w => h _ _ w, PTs.to pts_nil fun σ H Q ⟨z, e, ok, w⟩ => by subst e; exact w z (Stp.refl z) ok rfl⟩
theorem qts_one {c : Expr} {t : PQT} (h : QT X c t) : QTs X [c] t := ⟨h.mono, pts_one h.pt⟩
variable {elt tg iter : Expr} {ifs : List Expr} {scope : Scope} {own : List (Str × Nat)} {pos : Pos} {qi : PQA} {g : QGT} {is : List Nat} {t : PQT} {e : PQ}
theorem lift_lc (hs : ∀ i ∈ is, i ∈ own.map (·.2)) (mi : Mono qi) (mg : MonoG g) (mt : Mono t) (me : Mono e) (σ : L2.St) (H : Hp) (Q : VK) (h : lift X.K (qLc (own.map (·.2)) qi g t e) σ H Q) : tLc (liftI X.K qi) (liftG X.K is g) (liftT X.K t) (lift X.K e) (own.map (·.2)) σ H Q := by
  obtain ⟨z, rfl, ok, w⟩ := h
  refine lc_sound hs mi mg mt me ok (Kf := fun r1 acc r2 => ∀ v (z' : Z), Stp z z' → z'.Ok X.K σ → z'.r = restR r1 r2 (own.map (·.2)) → Rep X.K z'.F (.lst acc) v → Q v z'.H) w fun z1 z2 D acc vacc st ok1 hD st2 ok2 a r k => ?_
  obtain ⟨z', s, o, e, eh, rp⟩ := lc_frozen st ok1 hD st2 ok2 a r
  rw [← eh]
  exact k _ z' s o e rp
theorem lift_lcN (hs : ∀ i ∈ is, i ∈ own.map (·.2)) (mi : Mono qi) (mg : MonoG g) (mt : Mono t) (me : Mono e) (σ : L2.St) (H : Hp) (Q : VK) (h : liftN X.K (qLcN (own.map (·.2)) qi g t e) σ H Q) : tLc (liftI X.K qi) (liftG X.K is g) (liftT X.K t) (lift X.K e) (own.map (·.2)) σ H Q := by
  obtain ⟨z, rfl, ok, w⟩ := h
  refine lc_sound hs mi mg mt me ok (Kf := fun r1 acc r2 => ∀ a (z' : Z), Stp z z' → z'.Ok X.K σ → z'.r = restR r1 r2 (own.map (·.2)) → z.H a = none → z'.F a = none → ¬ z'.Held a → CellOk X.K z'.F z'.H a (.l acc) → Q (.ref a) z'.H) w fun z1 z2 D acc vacc st ok1 hD st2 ok2 a r k => ?_
  obtain ⟨o, s⟩ := Z.back_ok ok1 st2 ok2
  exact k D (z2.back z1.r _) (st.trans s) o rfl (none_back st.dom hD) a.f a.nh ⟨vacc, a.h, r⟩
theorem qe_lc (hc : X.calm = true) (hN : X.N.Nodup) (hi : QI X tg iter qi) (ok : BlkOk X.N X.env.scope scope own)
    (hg : ∀ (s : Shared) (H : Hp) (C : Addr) (cl : List (Str × Addr)) (fp : List Addr), QG (X.blk s H scope (compEnvC scope cl C X.env) fp) tg is g) (ht : ∀ (s : Shared) (H : Hp) (C : Addr) (cl : List (Str × Addr)) (fp : List Addr), QTs (X.blk s H scope (compEnvC scope cl C X.env) fp) ifs t)
    (he : ∀ (s : Shared) (H : Hp) (C : Addr) (cl : List (Str × Addr)) (fp : List Addr), QE (X.blk s H scope (compEnvC scope cl C X.env) fp) elt e) (hsub : ∀ i ∈ is, i ∈ own.map (·.2) := by decide) (hs : ∀ x, foldedSetIterable iter X.env x = pure x := by intro _; rfl) :
    QE X (.ListComp elt [⟨tg, iter, ifs, 0⟩] scope pos) (qLc (own.map (·.2)) qi g t e) :=
  have s0 : Shared := X.s_0
  ⟨mono_lc hi.mono (hg s0 (fun _ => none) 0 [] []).mono (ht s0 (fun _ => none) 0 [] []).mono (he s0 (fun _ => none) 0 [] []).mono,
    PE.to (pe_lc hc hN hi.pi ok (fun s H C cl fp => (hg s H C cl fp).pg) (fun s H C cl fp => (ht s H C cl fp).pt) (fun s H C cl fp => (he s H C cl fp).pe) hs)
      (lift_lc hsub hi.mono (hg s0 (fun _ => none) 0 [] []).mono (ht s0 (fun _ => none) 0 [] []).mono (he s0 (fun _ => none) 0 [] []).mono)⟩
theorem qn_lc (hc : X.calm = true) (hN : X.N.Nodup) (hi : QI X tg iter qi) (ok : BlkOk X.N X.env.scope scope own)
    (hg : ∀ (s : Shared) (H : Hp) (C : Addr) (cl : List (Str × Addr)) (fp : List Addr), QG (X.blk s H scope (compEnvC scope cl C X.env) fp) tg is g) (ht : ∀ (s : Shared) (H : Hp) (C : Addr) (cl : List (Str × Addr)) (fp : List Addr), QTs (X.blk s H scope (compEnvC scope cl C X.env) fp) ifs t)
    (he : ∀ (s : Shared) (H : Hp) (C : Addr) (cl : List (Str × Addr)) (fp : List Addr), QE (X.blk s H scope (compEnvC scope cl C X.env) fp) elt e) (hsub : ∀ i ∈ is, i ∈ own.map (·.2) := by decide) (hs : ∀ x, foldedSetIterable iter X.env x = pure x := by intro _; rfl) :
    QN X (.ListComp elt [⟨tg, iter, ifs, 0⟩] scope pos) (qLcN (own.map (·.2)) qi g t e) :=
  have s0 : Shared := X.s_0
  ⟨mono_lcN hi.mono (hg s0 (fun _ => none) 0 [] []).mono (ht s0 (fun _ => none) 0 [] []).mono (he s0 (fun _ => none) 0 [] []).mono,
    PE.to (pe_lc hc hN hi.pi ok (fun s H C cl fp => (hg s H C cl fp).pg) (fun s H C cl fp => (ht s H C cl fp).pt) (fun s H C cl fp => (he s H C cl fp).pe) hs)
      (lift_lcN hsub hi.mono (hg s0 (fun _ => none) 0 [] []).mono (ht s0 (fun _ => none) 0 [] []).mono (he s0 (fun _ => none) 0 [] []).mono)⟩
/-- y = [..] on one line, y a local -/
theorem qs_setLc {i : Nat} {y : Str} {py spos : Pos} (hc : X.calm = true) (hN : X.N.Nodup) (hsw : swapsWith (.ListComp elt [⟨tg, iter, ifs, 0⟩] scope pos) (some (.Name y py)) spos.line X.env = pure true) (hi : QI X tg iter qi) (ok : BlkOk X.N X.env.scope scope own)
    (hg : ∀ (s : Shared) (H : Hp) (C : Addr) (cl : List (Str × Addr)) (fp : List Addr), QG (X.blk s H scope (compEnvC scope cl C X.env) fp) tg is g) (ht : ∀ (s : Shared) (H : Hp) (C : Addr) (cl : List (Str × Addr)) (fp : List Addr), QTs (X.blk s H scope (compEnvC scope cl C X.env) fp) ifs t)
    (he : ∀ (s : Shared) (H : Hp) (C : Addr) (cl : List (Str × Addr)) (fp : List Addr), QE (X.blk s H scope (compEnvC scope cl C X.env) fp) elt e) (hy : X.N[i]? = some y := by rfl) (hyl : X.env.scope.names.lookup y = some .local := by rfl) (hsub : ∀ i ∈ is, i ∈ own.map (·.2) := by decide) (hs : ∀ x, foldedSetIterable iter X.env x = pure x := by intro _; rfl) :
    QS X (.Assign [.Name y py] (.ListComp elt [⟨tg, iter, ifs, 0⟩] scope pos) spos) (qAsg (qLc (own.map (·.2)) qi g t e) (qgName i)) :=
  have s0 : Shared := X.s_0
  have mm := mono_lc (vs := own.map (·.2)) hi.mono (hg s0 (fun _ => none) 0 [] []).mono (ht s0 (fun _ => none) 0 [] []).mono (he s0 (fun _ => none) 0 [] []).mono
  ⟨monoS_asg mm fun _ _ _ _ h w => h _ w,
    PS.to (ps_setLc hc hN hy hyl hsw hi.pi ok (fun s H C cl fp => (hg s H C cl fp).pg) (fun s H C cl fp => (ht s H C cl fp).pt) (fun s H C cl fp => (he s H C cl fp).pe) hs) fun D σ H h =>
      lift_lc (X := X) hsub hi.mono (hg s0 (fun _ => none) 0 [] []).mono (ht s0 (fun _ => none) 0 [] []).mono (he s0 (fun _ => none) 0 [] []).mono σ H _ (lift_set_pre mm D σ H h)⟩
end
end Qy
set_option Elab.async false
set_option linter.all false
set_option maxRecDepth 100000
set_option maxHeartbeats 4000000
/-! Q5: defs and their calls, over pure values; a list that is lent. -/
namespace Qy
open PySem PySem.Spec PyProof.Rows L2

/-- what a def does with pure arguments: from arguments, what is wanted of the result -/
abbrev M := List PV → (PV → Prop) → Prop
def MonoM (m : M) : Prop := ∀ as (k k' : PV → Prop), (∀ p, k p → k' p) → m as k → m as k'
def spQ (K : PySem.W.Frag) (m : M) : Sp := fun vs H Q _ => ∃ (F : Hp) (as : List PV), Sub F H ∧ Reps K F as vs ∧ m as fun p => ∀ v F' H', Ext F H F' H' → Rep K F' p v → Q v H'
/-- the first argument is a list that is lent: it is changed, and comes back -/
abbrev MD := List PV → List PV → (PV → List PV → Prop) → Prop
def MonoMD (m : MD) : Prop := ∀ dk as (k k' : PV → List PV → Prop), (∀ p d, k p d → k' p d) → m dk as k → m dk as k'
structure ExtD (d : Addr) (F H F' H' : Hp) : Prop where
  ff : Sub F F'
  fh : Sub F' H'
  hh : ∀ a o, a ≠ d → H a = some o → H' a = some o
  lim : ∀ a, H a ≠ none → F a = none → F' a = none
def spD (K : PySem.W.Frag) (m : MD) : Sp := fun vs H Q _ => ∃ (F : Hp) (d : Addr) (ds : List V) (ws : List V) (dk as : List PV), vs = .ref d :: ws ∧ Sub F H ∧ F d = none ∧ H d = some (.lst ds) ∧ Reps K F dk ds ∧ Reps K F as ws ∧
  m dk as fun p dk' => ∀ v F' H' ds', ExtD d F H F' H' → H' d = some (.lst ds') → Reps K F' dk' ds' → Rep K F' p v → Q v H'

section
variable {P : Program} {w : World} {K : PySem.W.Frag} {mg : Str → Option Value} {base : Heap} {x qual : Str} {params : Arguments} {body : List Stmt} {scope : Scope} {f : Addr} {fd : FuncData} {N ps : List Str} {k : Nat} {q : PQS}
theorem start_get (N : List Str) (vs : List V) (i : Nat) (hl : vs.length ≤ N.length) : (L2.start N vs)[i]? = if i < vs.length then some vs[i]? else if i < N.length then some none else none := by
  unfold L2.start
  rw [List.getElem?_append, List.length_map]
  by_cases h : i < vs.length
  · rw [if_pos h, if_pos h, List.getElem?_map, List.getElem?_eq_getElem h]
    rfl
  · rw [if_neg h, if_neg h, List.getElem?_replicate]
    by_cases h2 : i < N.length
    · rw [if_pos (by omega), if_pos h2]
    · rw [if_neg (by omega), if_neg h2]
/-- the slots at a def's entry -/
def st0 (as : List PV) (n : Nat) : Rs := as.map Sl.val ++ List.replicate n .un
theorem entry_ok {F H : Hp} {as : List PV} {vs : List V} (hs : Sub F H) (r : Reps K F as vs) (hl : vs.length ≤ N.length) : (⟨F, H, st0 as (N.length - vs.length), List.replicate N.length none⟩ : Z).Ok K (L2.start N vs) := by
  have hlen := r.length
  have hR : (st0 as (N.length - vs.length)).length = N.length := by
    unfold st0
    rw [List.length_append, List.length_map, List.length_replicate]
    omega
  refine ⟨hs, ?_, by show (List.replicate N.length none).length = _; rw [List.length_replicate]; exact hR.symm, fun i s h => ?_, fun i j a h => ?_⟩
  · show (L2.start N vs).length = (st0 as (N.length - vs.length)).length
    rw [hR]
    unfold L2.start
    rw [List.length_append, List.length_map, List.length_replicate]
    omega
  · have h : (st0 as (N.length - vs.length))[i]? = some s := h
    have ha : (List.replicate N.length (none : Option Addr))[i]?.join = none := by
      rw [List.getElem?_replicate]
      split <;> rfl
    rw [start_get N vs i hl]
    show SlAt K F H s ((List.replicate N.length none)[i]?.join) _
    rw [ha]
    unfold st0 at h
    rw [List.getElem?_append, List.length_map] at h
    by_cases hi : i < as.length
    · rw [if_pos hi, List.getElem?_map, List.getElem?_eq_getElem hi] at h
      have e : s = .val as[i] := (Option.some.inj h).symm
      rw [e, if_pos (by omega)]
      obtain ⟨v, e2, rp⟩ := r.get (List.getElem?_eq_getElem hi)
      exact ⟨rfl, v, by rw [e2]; rfl, rp⟩
    · rw [if_neg hi, List.getElem?_replicate] at h
      by_cases h2 : i - as.length < N.length - vs.length
      · rw [if_pos h2] at h
        have e : s = .un := (Option.some.inj h).symm
        rw [e]
        rfl
      · rw [if_neg h2] at h
        cases h
  · have h : (List.replicate N.length (none : Option Addr))[i]? = some (some a) := h
    rw [List.getElem?_replicate] at h
    split at h <;> cases h
/-- a def, by its body's pure reading -/
theorem fnQ {m : M} (F : FunD K x qual params body scope [] [] f fd) (S : FnScope N ps scope) (hl : ∀ as R, m as R → as.length = ps.length)
    (hb : ∀ (cdv : Value) (A : Around) (outer : List Env) (s : Shared) (H : Hp) (E : XK), Room k (A.deeper (envOfC qual scope s.heap.objs.size f cdv)) → QSs (cxOf CX0 P w K mg base N qual scope f cdv A outer s H E).nox body q)
    (hq : ∀ as R, m as R → q { nx := fun _ => R .non, rt := fun p _ => R p } (st0 as (N.length - ps.length))) : FnOk P w K mg base CX0 (k + 1) f fd ps (spQ K m) := by
  have hpn : ps.length ≤ N.length := by
    have h := S.pre
    have h2 : (N.take ps.length).length = ps.length := by rw [h]
    rw [List.length_take] at h2
    omega
  refine F.ok S (fun vs H Q E ⟨F0, as, _, r, h⟩ => by rw [r.length]; exact hl _ _ h) fun cdv A outer s H vs Q E hr ⟨F0, as, hs, r, h⟩ => ?_
  have hv : vs.length = ps.length := by rw [r.length]; exact hl _ _ h
  refine ⟨_, ((hb cdv A outer s H E hr).ps).nox, ?_⟩
  have hw := hq as _ h
  rw [← hv] at hw
  refine ⟨⟨F0, H, st0 as (N.length - vs.length), List.replicate N.length none⟩, rfl, entry_ok hs r (by omega), { nx := fun _ => _, rt := fun p _ => _ }, ⟨fun z' σ st ok n => ?_, fun p v z' σ st ok rp n => ?_, fun z' σ st ok n => n.elim, fun z' σ st ok n => n.elim, fun i c a z' σ st ok hr ha n => n.elim⟩, hw⟩
  · exact n .non z'.F z'.H (ext_of st ok) (rep_non.mpr rfl)
  · exact n v z'.F z'.H (ext_of st ok) rp
where
  ext_of {F H : Hp} {r : Rs} {n : Nat} {z' : Z} {σ : L2.St} (st : Stp ⟨F, H, r, List.replicate n none⟩ z') (ok : z'.Ok K σ) : Ext F H z'.F z'.H := by
    have nh : ∀ a, ¬ Z.Held ⟨F, H, r, List.replicate n none⟩ a := fun a ⟨i, h⟩ => by
      have h : (List.replicate n (none : Option Addr))[i]? = some (some a) := h
      rw [List.getElem?_replicate] at h
      split at h <;> cases h
    exact ⟨st.ff, ok.fh, fun a o h => st.keep a o h (nh a), fun a h n0 => (st.lim a h n0).elim id fun ⟨i, _, _, h⟩ => absurd ⟨i, h⟩ (nh a)⟩
/-- what a def does that returns a list of its own making -/
abbrev MN := List PV → (List PV → Prop) → Prop
def MonoMN (m : MN) : Prop := ∀ as (k k' : List PV → Prop), (∀ p, k p → k' p) → m as k → m as k'
def spN (K : PySem.W.Frag) (m : MN) : Sp := fun vs H Q _ => ∃ (F : Hp) (as : List PV), Sub F H ∧ Reps K F as vs ∧ m as fun d => ∀ (a : Addr) (F' H' : Hp) (ws : List V), Ext F H F' H' → H a = none → F' a = none → H' a = some (.lst ws) → Reps K F' d ws → Q (.ref a) H'
def cellL (R : List PV → Prop) : Cell → Prop
  | .l d => R d
  | .d _ _ => False
theorem fnN {m : MN} (F : FunD K x qual params body scope [] [] f fd) (S : FnScope N ps scope) (hl : ∀ as R, m as R → as.length = ps.length)
    (hb : ∀ (cdv : Value) (A : Around) (outer : List Env) (s : Shared) (H : Hp) (E : XK), Room k (A.deeper (envOfC qual scope s.heap.objs.size f cdv)) → QSs (cxOf CX0 P w K mg base N qual scope f cdv A outer s H E).nox body q)
    (hq : ∀ as R, m as R → q { nx := fun _ => False, rt := fun _ _ => False, ro := cellL R } (st0 as (N.length - ps.length))) : FnOk P w K mg base CX0 (k + 1) f fd ps (spN K m) := by
  have hpn : ps.length ≤ N.length := by
    have h := S.pre
    have h2 : (N.take ps.length).length = ps.length := by rw [h]
    rw [List.length_take] at h2
    omega
  refine F.ok S (fun vs H Q E ⟨F0, as, _, r, h⟩ => by rw [r.length]; exact hl _ _ h) fun cdv A outer s H vs Q E hr ⟨F0, as, hs, r, h⟩ => ?_
  have hv : vs.length = ps.length := by rw [r.length]; exact hl _ _ h
  refine ⟨_, ((hb cdv A outer s H E hr).ps).nox, ?_⟩
  have hw := hq as _ h
  rw [← hv] at hw
  refine ⟨⟨F0, H, st0 as (N.length - vs.length), List.replicate N.length none⟩, rfl, entry_ok hs r (by omega), { nx := fun _ => False, rt := fun _ _ => False, ro := cellL _ }, ⟨fun z' σ st ok n => n.elim, fun p v z' σ st ok rp n => n.elim, fun z' σ st ok n => n.elim, fun z' σ st ok n => n.elim, fun i c a z' σ st ok hr ha n => ?_⟩, hw⟩
  cases c with
  | d ks xs => exact n.elim
  | l d =>
    have nh : ∀ b, ¬ Z.Own ⟨F0, H, st0 as (N.length - vs.length), List.replicate N.length none⟩ b := fun b ⟨j, _, _, h⟩ => by
      have h : (List.replicate N.length (none : Option Addr))[j]? = some (some b) := h
      rw [List.getElem?_replicate] at h
      split at h <;> cases h
    have h0 : H a = none := (st.own a ⟨i, _, hr, ha⟩).elim (fun q => absurd q (nh a)) id
    obtain ⟨b, q1, q2, q3, ws, q4, q5⟩ := ok.at_ i _ hr
    rw [ha] at q1
    have eb : a = b := Option.some.inj q1
    subst eb
    exact n a z'.F z'.H ws (fnQ.ext_of st ok) h0 q3 q4 q5
theorem entryD_ok {F H : Hp} {d : Addr} {ds : List V} {dk as : List PV} {vs : List V} (hs : Sub F H) (hd : F d = none) (hh : H d = some (.lst ds)) (rd : Reps K F dk ds) (r : Reps K F as vs) (hl : vs.length + 1 ≤ N.length) :
    (⟨F, H, .brw (.l dk) :: st0 as (N.length - (vs.length + 1)), some d :: List.replicate (N.length - 1) none⟩ : Z).Ok K (L2.start N (.ref d :: vs)) := by
  have hlen := r.length
  have hR : (st0 as (N.length - (vs.length + 1))).length = N.length - 1 := by
    unfold st0
    rw [List.length_append, List.length_map, List.length_replicate]
    omega
  refine ⟨hs, ?_, by show (some d :: List.replicate (N.length - 1) none).length = (_ :: _ : Rs).length; rw [List.length_cons, List.length_cons, List.length_replicate, hR], fun i s h => ?_, fun i j a h h2 => ?_⟩
  · show (L2.start N (.ref d :: vs)).length = (Sl.brw (.l dk) :: st0 as (N.length - (vs.length + 1))).length
    rw [List.length_cons, hR]
    unfold L2.start
    rw [List.length_append, List.length_map, List.length_replicate, List.length_cons]
    omega
  · have h : (Sl.brw (.l dk) :: st0 as (N.length - (vs.length + 1)))[i]? = some s := h
    rw [start_get N (.ref d :: vs) i (by rw [List.length_cons]; omega)]
    cases i with
    | zero =>
      have e : s = .brw (.l dk) := (Option.some.inj h).symm
      rw [e]
      exact ⟨d, rfl, rfl, hd, ds, hh, rd⟩
    | succ i =>
      have h : (st0 as (N.length - (vs.length + 1)))[i]? = some s := h
      have ha : (some d :: List.replicate (N.length - 1) none)[i + 1]?.join = (none : Option Addr) := by
        show (List.replicate (N.length - 1) (none : Option Addr))[i]?.join = none
        rw [List.getElem?_replicate]
        split <;> rfl
      show SlAt K F H s ((some d :: List.replicate (N.length - 1) none)[i + 1]?.join) _
      rw [ha]
      unfold st0 at h
      rw [List.getElem?_append, List.length_map] at h
      by_cases hi : i < as.length
      · rw [if_pos hi, List.getElem?_map, List.getElem?_eq_getElem hi] at h
        have e : s = .val as[i] := (Option.some.inj h).symm
        rw [e, if_pos (by rw [List.length_cons]; omega)]
        obtain ⟨v, e2, rp⟩ := r.get (List.getElem?_eq_getElem hi)
        exact ⟨rfl, v, by rw [List.getElem?_cons_succ, e2]; rfl, rp⟩
      · rw [if_neg hi, List.getElem?_replicate] at h
        by_cases h2 : i - as.length < N.length - (vs.length + 1)
        · rw [if_pos h2] at h
          have e : s = .un := (Option.some.inj h).symm
          rw [e]
          rfl
        · rw [if_neg h2] at h
          cases h
  · have one : ∀ (i : Nat) (a : Addr), (some d :: List.replicate (N.length - 1) none)[i]? = some (some a) → i = 0 := fun i a h => by
      cases i with
      | zero => rfl
      | succ i =>
        have h : (List.replicate (N.length - 1) (none : Option Addr))[i]? = some (some a) := h
        rw [List.getElem?_replicate] at h
        split at h <;> cases h
    rw [one i a h, one j a h2]
/-- a def whose first argument is lent -/
theorem fnD {m : MD} (F : FunD K x qual params body scope [] [] f fd) (S : FnScope N ps scope) (hl : ∀ dk as R, m dk as R → as.length + 1 = ps.length)
    (hb : ∀ (cdv : Value) (A : Around) (outer : List Env) (s : Shared) (H : Hp) (E : XK), Room k (A.deeper (envOfC qual scope s.heap.objs.size f cdv)) → QSs (cxOf CX0 P w K mg base N qual scope f cdv A outer s H E).nox body q)
    (hq : ∀ dk as R, m dk as R → q { nx := fun r => ∃ dk', r[0]? = some (.brw (.l dk')) ∧ R .non dk', rt := fun p r => ∃ dk', r[0]? = some (.brw (.l dk')) ∧ R p dk' } (.brw (.l dk) :: st0 as (N.length - ps.length))) : FnOk P w K mg base CX0 (k + 1) f fd ps (spD K m) := by
  have hpn : ps.length ≤ N.length := by
    have h := S.pre
    have h2 : (N.take ps.length).length = ps.length := by rw [h]
    rw [List.length_take] at h2
    omega
  refine F.ok S (fun vs H Q E ⟨F0, d, ds, ws, dk, as, e, _, _, _, _, r, h⟩ => by rw [e, List.length_cons, r.length]; exact hl _ _ _ h) fun cdv A outer s H vs Q E hr ⟨F0, d, ds, ws, dk, as, e, hs, hd, hh, rd, r, h⟩ => ?_
  subst e
  have hv : ws.length + 1 = ps.length := by rw [r.length]; exact hl _ _ _ h
  refine ⟨_, ((hb cdv A outer s H E hr).ps).nox, ?_⟩
  have hw := hq dk as _ h
  rw [← hv] at hw
  have z0ok := entryD_ok (N := N) hs hd hh rd r (by omega)
  have fin : ∀ {z' : Z} {σ : L2.St} {dk' : List PV}, Stp ⟨F0, H, .brw (.l dk) :: st0 as (N.length - (ws.length + 1)), some d :: List.replicate (N.length - 1) none⟩ z' → z'.Ok K σ → z'.r[0]? = some (.brw (.l dk')) → ExtD d F0 H z'.F z'.H ∧ ∃ ds', z'.H d = some (.lst ds') ∧ Reps K z'.F dk' ds' := fun {z' σ dk'} st ok h0 => by
    have one : ∀ a, Z.Held ⟨F0, H, .brw (.l dk) :: st0 as (N.length - (ws.length + 1)), some d :: List.replicate (N.length - 1) none⟩ a → a = d := fun a ⟨i, h⟩ => by
      cases i with
      | zero => exact (Option.some.inj (Option.some.inj h)).symm
      | succ i =>
        have h : (List.replicate (N.length - 1) (none : Option Addr))[i]? = some (some a) := h
        rw [List.getElem?_replicate] at h
        split at h <;> cases h
    obtain ⟨b, q1, q2, q3, vs', q4, q5⟩ := ok.at_ 0 _ h0
    have hb : b = d := by
      obtain ⟨c0, _, e0⟩ := st.brw 0 _ h0
      rw [e0] at q1
      exact (Option.some.inj q1).symm
    subst hb
    refine ⟨⟨st.ff, ok.fh, fun a o na h => st.keep a o h fun hh => na (one a hh), fun a h n => (st.lim a h n).elim id fun ⟨i, c, hr, ha⟩ => ?_⟩, vs', q4, q5⟩
    cases i with
    | zero => cases hr
    | succ i =>
      have h : (List.replicate (N.length - 1) (none : Option Addr))[i]? = some (some a) := ha
      rw [List.getElem?_replicate] at h
      split at h <;> cases h
  refine ⟨⟨F0, H, .brw (.l dk) :: st0 as (N.length - (ws.length + 1)), some d :: List.replicate (N.length - 1) none⟩, rfl, z0ok, { nx := fun r => ∃ dk', r[0]? = some (.brw (.l dk')) ∧ _, rt := fun p r => ∃ dk', r[0]? = some (.brw (.l dk')) ∧ _ }, ⟨fun z' σ st ok ⟨dk', h0, n⟩ => ?_, fun p v z' σ st ok rp ⟨dk', h0, n⟩ => ?_, fun z' σ st ok n => n.elim, fun z' σ st ok n => n.elim, fun i c a z' σ st ok hr ha n => n.elim⟩, hw⟩
  · obtain ⟨ex, ds', e1, e2⟩ := fin st ok h0
    exact n .non z'.F z'.H ds' ex e1 e2 (rep_non.mpr rfl)
  · obtain ⟨ex, ds', e1, e2⟩ := fin st ok h0
    exact n v z'.F z'.H ds' ex e1 e2 rp
end
end Qy
set_option Elab.async false
set_option linter.all false
set_option maxRecDepth 100000
set_option maxHeartbeats 4000000
/-! Q6: calls of own defs, a list that is held: lent to a def, popped, appended to, reversed, asked for its length. -/
namespace Qy
open PySem PySem.Spec PyProof.Rows L2
section
variable {X : Cx}
def qFn (m : M) (t : PQA) : PQ := fun r k => t r fun as r1 => m as fun p => k p r1
theorem mono_fn {m : M} {t : PQA} (hm : MonoM m) (ht : Mono t) : Mono (qFn m t) := fun r k k' h w => ht _ _ _ (fun as r1 w => hm _ _ _ (fun p w => h _ _ w) w) w
/-- f(e, ..) of a def over pure values -/
theorem qe_fn {x : Str} {n : Nat} {f : Addr} {fd : FuncData} {ps : List Str} {m : M} {e : Expr} {es : List Expr} {t : PQA} {p pos : Pos} (F : FnOk X.prog X.w X.K X.mg X.base CX0 n f fd ps (spQ X.K m)) (mm : MonoM m) (hr : Room n X.A) (hg : Gl X x) (hm : X.mg x = some (.ref f)) (hk : PySem.W.keepIn X.K (.ref f) = true)
    (hb : Binds X.K fd ps []) (ha : QA X (e :: es) t) (hdb : (x == ("__debug__" : Str)) = false := by decide) (he : starEach (e :: es) X.env = (false, eval e X.env) :: starEach es X.env := by rfl) (hpl : (backTo pos (starEach es X.env)).any (·.1) = false := by rfl) :
    QE X (.Call (.Name x p) (e :: es) [] pos) (qFn m t) := by
  refine ⟨mono_fn mm ha.mono, PE.to (pe_call F hr hg hm hk hb .nil pass0 ha.pa hdb he hpl) fun σ H Q ⟨z, e0, ok, w⟩ => ?_⟩
  subst e0
  refine ⟨z, rfl, ok, ha.mono _ _ _ (fun as r1 w vs z1 st1 ok1 e1 rp => ?_) w⟩
  subst e1
  refine ⟨z1.F, as, ok1.fh, by rw [List.append_nil]; exact rp, mm _ _ _ (fun p w v F' H' ex rpv => ?_) w⟩
  obtain ⟨s, o⟩ := step_ext st1 ok1 ex
  exact w v (z1.ext F' H') s o rfl rpv

def qFnN (m : MN) (t : PQA) : PQN := fun r k => t r fun as r1 => m as fun d => k (.l d) r1
/-- f(e, ..), a new list that is the caller's -/
theorem qn_fn {x : Str} {n : Nat} {f : Addr} {fd : FuncData} {ps : List Str} {m : MN} {e : Expr} {es : List Expr} {t : PQA} {p pos : Pos} (F : FnOk X.prog X.w X.K X.mg X.base CX0 n f fd ps (spN X.K m)) (mm : MonoMN m) (hr : Room n X.A) (hg : Gl X x) (hm : X.mg x = some (.ref f)) (hk : PySem.W.keepIn X.K (.ref f) = true)
    (hb : Binds X.K fd ps []) (ha : QA X (e :: es) t) (hdb : (x == ("__debug__" : Str)) = false := by decide) (he : starEach (e :: es) X.env = (false, eval e X.env) :: starEach es X.env := by rfl) (hpl : (backTo pos (starEach es X.env)).any (·.1) = false := by rfl) :
    QN X (.Call (.Name x p) (e :: es) [] pos) (qFnN m t) := by
  refine ⟨fun r k k' i w => ha.mono _ _ _ (fun as r1 w => mm _ _ _ (fun p w => i _ _ w) w) w, PE.to (pe_call F hr hg hm hk hb .nil pass0 ha.pa hdb he hpl) fun σ H Q ⟨z, e0, ok, w⟩ => ?_⟩
  subst e0
  refine ⟨z, rfl, ok, ha.mono _ _ _ (fun as r1 w vs z1 st1 ok1 e1 rp => ?_) w⟩
  subst e1
  refine ⟨z1.F, as, ok1.fh, by rw [List.append_nil]; exact rp, mm _ _ _ (fun d w a F' H' ws ex h0 hf hh rpd => ?_) w⟩
  obtain ⟨s, o⟩ := step_ext st1 ok1 ex
  exact w a (z1.ext F' H') s o rfl (none_back st1.dom h0) hf (fun ⟨i, q⟩ => not_held_of ok1 h0 ⟨i, q⟩) ⟨ws, hh, rpd⟩

/-! ### a list that is held -/
def Sl.list : Sl → Option (List PV)
  | .own (.l d) => some d
  | .brw (.l d) => some d
  | _ => none
def Sl.put : Sl → List PV → Sl
  | .own _, d => .own (.l d)
  | .brw _, d => .brw (.l d)
  | s, _ => s
theorem held_at {K : PySem.W.Frag} {z : Z} {σ : L2.St} (ok : z.Ok K σ) {i : Nat} {s : Sl} {dk : List PV} (h : z.r[i]? = some s) (hs : s.list = some dk) :
    ∃ (d : Addr) (ds : List V), σ[i]? = some (some (.ref d)) ∧ z.ad[i]? = some (some d) ∧ z.F d = none ∧ z.H d = some (.lst ds) ∧ Reps K z.F dk ds := by
  have q := ok.at_ i s h
  cases s with
  | un => cases hs
  | val p => cases hs
  | own c =>
    cases c with
    | l d0 =>
      have e : d0 = dk := Option.some.inj hs
      subst e
      obtain ⟨a, q1, q2, q3, vs, q4, q5⟩ := q
      exact ⟨a, vs, join_some q2, join_some q1, q3, q4, q5⟩
    | d ks ps => cases hs
  | brw c =>
    cases c with
    | l d0 =>
      have e : d0 = dk := Option.some.inj hs
      subst e
      obtain ⟨a, q1, q2, q3, vs, q4, q5⟩ := q
      exact ⟨a, vs, join_some q2, join_some q1, q3, q4, q5⟩
    | d ks ps => cases hs
/-- behind a change of a held list -/
theorem lend_ok {K : PySem.W.Frag} {z : Z} {σ : L2.St} (ok : z.Ok K σ) {i : Nat} {s : Sl} {dk dk' : List PV} {d : Addr} {ds' : List V} {F' H' : Hp} (h : z.r[i]? = some s) (hs : s.list = some dk) (hd : z.ad[i]? = some (some d)) (ex : ExtD d z.F z.H F' H') (hh : H' d = some (.lst ds')) (rp : Reps K F' dk' ds') :
    (⟨F', H', z.r.set i (s.put dk'), z.ad⟩ : Z).Ok K σ ∧ Stp z ⟨F', H', z.r.set i (s.put dk'), z.ad⟩ := by
  obtain ⟨d0, ds, e1, e2, e3, e4, e5⟩ := held_at ok h hs
  have ed : d0 = d := Option.some.inj (Option.some.inj (e2.symm.trans hd))
  subst ed
  have Fd : F' d0 = none := ex.lim d0 (by rw [e4]; exact fun z => nomatch z) e3
  refine ⟨⟨ex.fh, by show σ.length = (z.r.set i _).length; rw [List.length_set]; exact ok.ls, by show z.ad.length = (z.r.set i _).length; rw [List.length_set]; exact ok.la, fun j t hj => ?_, ok.inj⟩, ⟨ex.ff, fun a o ha n => ?_, fun a ha => ?_, fun a ha n => .inl (ex.lim a ha n), fun a q => .inl q, fun a ⟨j, c, hj, hk⟩ => ?_, fun j c hj => ?_⟩⟩
  · rcases set_at (show (z.r.set i (s.put dk'))[j]? = some t from hj) with ⟨rfl, rfl, hl⟩ | ⟨hne, hj⟩
    · show SlAt K F' H' (s.put dk') (z.ad[j]?.join) (σ[j]?.join)
      rw [e1, hd]
      cases s with
      | un => cases hs
      | val p => cases hs
      | own c => exact ⟨d0, rfl, rfl, Fd, ds', hh, rp⟩
      | brw c => exact ⟨d0, rfl, rfl, Fd, ds', hh, rp⟩
    · have q := ok.at_ j t hj
      have go : ∀ {a : Addr} {c : Cell}, z.ad[j]?.join = some a → z.F a = none → CellOk K z.F z.H a c → F' a = none ∧ CellOk K F' H' a c := fun {a c} e n h => by
        have na : a ≠ d0 := fun e0 => hne (ok.inj j i a (join_some e) (by rw [e0]; exact hd))
        obtain ⟨o, ho⟩ := CellOk.ob h
        exact ⟨ex.lim a (by rw [ho]; exact fun z => nomatch z) n, CellOk.move ex.ff (fun u hu => ex.hh a u na hu) h⟩
      cases t with
      | un => exact q
      | val p =>
        obtain ⟨q1, v, q2, q3⟩ := q
        exact ⟨q1, v, q2, q3.mono ex.ff⟩
      | own c =>
        obtain ⟨a, q1, q2, q3, q4⟩ := q
        exact ⟨a, q1, q2, go q1 q3 q4⟩
      | brw c =>
        obtain ⟨a, q1, q2, q3, q4⟩ := q
        exact ⟨a, q1, q2, go q1 q3 q4⟩
  · exact ex.hh a o (fun e => n ⟨i, by rw [e]; exact hd⟩) ha
  · by_cases e : a = d0
    · show H' a ≠ none
      rw [e, hh]
      exact fun z => nomatch z
    · cases q : z.H a with
      | none => exact absurd q ha
      | some o =>
        show H' a ≠ none
        rw [ex.hh a o e q]
        exact fun z => nomatch z
  · rcases set_at (show (z.r.set i (s.put dk'))[j]? = some (.own c) from hj) with ⟨rfl, e, hl⟩ | ⟨hne, hj⟩
    · cases s with
      | un => cases hs
      | val p => cases hs
      | own c0 => exact .inl ⟨j, c0, h, hk⟩
      | brw c0 => cases e
    · exact .inl ⟨j, c, hj, hk⟩
  · rcases set_at (show (z.r.set i (s.put dk'))[j]? = some (.brw c) from hj) with ⟨rfl, e, hl⟩ | ⟨hne, hj⟩
    · cases s with
      | un => cases hs
      | val p => cases hs
      | own c0 => cases e
      | brw c0 => exact ⟨c0, h, rfl⟩
    · exact ⟨c, hj, rfl⟩
/-- one cell is written -/
theorem ExtD.wr {F H : Hp} (s : Sub F H) {d : Addr} (hn : F d = none) (o : HO) : ExtD d F H F (upd H d o) :=
  ⟨Sub.refl _, fun a u h => by rw [upd_ne (ne_of_none h hn)]; exact s a u h, fun a u na h => by rw [upd_ne na]; exact h, fun _ _ e => e⟩
/-- what is done with a held list, by what it holds -/
def onHeld (r : Rs) (i : Nat) (k : List PV → (List PV → Rs) → Prop) : Prop := match r[i]? with
  | some (.own (.l d)) => k d fun d' => r.set i (.own (.l d'))
  | some (.brw (.l d)) => k d fun d' => r.set i (.brw (.l d'))
  | _ => False
theorem onHeld_ok {r : Rs} {i : Nat} {k : List PV → (List PV → Rs) → Prop} (h : onHeld r i k) : ∃ s d, r[i]? = some s ∧ s.list = some d ∧ k d fun d' => r.set i (s.put d') := by
  unfold onHeld at h
  cases w : r[i]? with
  | none => rw [w] at h; exact h.elim
  | some s =>
    rw [w] at h
    cases s with
    | un => exact h.elim
    | val p => exact h.elim
    | own c =>
      cases c with
      | l d => exact ⟨_, d, rfl, rfl, h⟩
      | d ks ps => exact h.elim
    | brw c =>
      cases c with
      | l d => exact ⟨_, d, rfl, rfl, h⟩
      | d ks ps => exact h.elim
theorem onHeld_mono {r : Rs} {i : Nat} {k k' : List PV → (List PV → Rs) → Prop} (i1 : ∀ d f, k d f → k' d f) (h : onHeld r i k) : onHeld r i k' := by
  unfold onHeld at h ⊢
  cases w : r[i]? with
  | none => rw [w] at h; exact h.elim
  | some s =>
    rw [w] at h
    cases s with
    | un => exact h.elim
    | val p => exact h.elim
    | own c =>
      cases c with
      | l d => exact i1 _ _ h
      | d ks ps => exact h.elim
    | brw c =>
      cases c with
      | l d => exact i1 _ _ h
      | d ks ps => exact h.elim
/-- f(xs, e, ..): the list xs is lent -/
def qDk (i : Nat) (m : MD) (t : PQA) : PQ := fun r k => onHeld r i fun _ _ => t r fun as r1 => onHeld r1 i fun d f => m d as fun p d' => k p (f d')
theorem mono_dk {i : Nat} {m : MD} {t : PQA} (hm : MonoMD m) (ht : Mono t) : Mono (qDk i m t) := fun r k k' h w => onHeld_mono (fun _ _ w => ht _ _ _ (fun as r1 w => onHeld_mono (fun d f w => hm _ _ _ _ (fun p d' w => h _ _ w) w) w) w) w
theorem qe_dk {i : Nat} {x y : Str} {n : Nat} {f : Addr} {fd : FuncData} {ps : List Str} {m : MD} {es : List Expr} {t : PQA} {p py pos : Pos} (F : FnOk X.prog X.w X.K X.mg X.base CX0 n f fd ps (spD X.K m)) (mm : MonoMD m) (hr : Room n X.A) (hg : Gl X x) (hm : X.mg x = some (.ref f)) (hk : PySem.W.keepIn X.K (.ref f) = true)
    (hb : Binds X.K fd ps []) (ha : QA X es t) (hN : X.N[i]? = some y := by rfl) (hv : Vis X.env.scope y := by first | exact Or.inl rfl | exact Or.inr (Or.inl rfl) | exact Or.inr (Or.inr rfl)) (hd : (y == ("__debug__" : Str)) = false := by decide) (hcd : (y == ("__classdict__" : Str)) = false := by decide)
    (hdb : (x == ("__debug__" : Str)) = false := by decide) (he : starEach (.Name y py :: es) X.env = (false, eval (.Name y py) X.env) :: starEach es X.env := by rfl) (hpl : (backTo pos (starEach es X.env)).any (·.1) = false := by rfl) :
    QE X (.Call (.Name x p) (.Name y py :: es) [] pos) (qDk i m t) := by
  refine ⟨mono_dk mm ha.mono, PE.to (pe_call F hr hg hm hk hb .nil pass0 (pa_cons (pv i hN hv hd hcd) ha.pa he) hdb he hpl) fun σ H Q ⟨z, e0, ok, w⟩ => ?_⟩
  subst e0
  obtain ⟨s0, dk0, h0, l0, w⟩ := onHeld_ok w
  obtain ⟨d, _, e1, _, _, _, _⟩ := held_at ok h0 l0
  refine ⟨.ref d, e1, z, rfl, ok, ha.mono _ _ _ (fun as r1 w vs z1 st1 ok1 er rp => ?_) w⟩
  subst er
  obtain ⟨s1, dk1, h1, l1, w⟩ := onHeld_ok w
  obtain ⟨d1, ds1, f1, f2, f3, f4, f5⟩ := held_at ok1 h1 l1
  have ed : d1 = d := V.ref.inj (Option.some.inj (Option.some.inj (f1.symm.trans e1)))
  subst ed
  refine ⟨z1.F, d1, ds1, vs ++ [], dk1, as, rfl, ok1.fh, f3, f4, f5, by rw [List.append_nil]; exact rp, mm _ _ _ _ (fun p d' w v F' H' ds' ex hh rd rv => ?_) w⟩
  obtain ⟨o, st⟩ := lend_ok ok1 h1 l1 f2 ex hh rd
  exact w v _ (st1.trans st) o rfl rv
/-- xs.pop() -/
def qPop (i : Nat) : PQ := fun r k => onHeld r i fun d f => ∃ p, d[d.length - 1]? = some p ∧ k p (f d.dropLast)
theorem mono_pop {i : Nat} : Mono (qPop i) := fun r k k' h w => onHeld_mono (fun d f ⟨p, e, w⟩ => ⟨p, e, h _ _ w⟩) w
theorem Reps.dropLast {K : PySem.W.Frag} {F : Hp} {ps : List PV} {vs : List V} (h : Reps K F ps vs) : Reps K F ps.dropLast vs.dropLast := by
  rw [List.dropLast_eq_take, List.dropLast_eq_take, h.length]
  exact h.take _
theorem qe_pop {i : Nat} {y : Str} {py apos cpos : Pos} (hN : X.N[i]? = some y := by rfl) (hv : Vis X.env.scope y := by first | exact Or.inl rfl | exact Or.inr (Or.inl rfl) | exact Or.inr (Or.inr rfl)) (hd : (y == ("__debug__" : Str)) = false := by decide) (hcd : (y == ("__classdict__" : Str)) = false := by decide)
    (hbase : attributeBase (.Name y py) "pop" X.env (eval (.Name y py) X.env) = eval (.Name y py) X.env := by rfl) (hline : (apos.endLine == cpos.line) = true := by rfl) : QE X (.Call (.Attribute (.Name y py) "pop" apos) [] [] cpos) (qPop i) := by
  refine ⟨mono_pop, PE.to (pe_bm0 PySem.F.plainAttrs_list PySem.F.slot_list_pop PySem.F.type_list_pop mt_pop (pv i hN hv hd hcd) hbase hline) fun σ H Q ⟨z, e0, ok, w⟩ => ?_⟩
  subst e0
  obtain ⟨s, dk, h, l, p, hp, w⟩ := onHeld_ok w
  obtain ⟨d, ds, e1, e2, e3, e4, e5⟩ := held_at ok h l
  obtain ⟨v, hv2, rv⟩ := e5.get hp
  rw [← e5.length] at hv2
  obtain ⟨o, st⟩ := lend_ok ok h l e2 (ExtD.wr ok.fh e3 (.lst ds.dropLast)) upd_same e5.dropLast
  exact ⟨.ref d, e1, .inl ⟨rfl, ds, sql_tracked e4⟩, d, ds, v, rfl, rfl, e4, hv2, w v _ st o rfl rv⟩
/-- xs.append(e) -/
def qApp (i : Nat) (q : PQ) : PQ := fun r k => onHeld r i fun _ _ => q r fun p r1 => onHeld r1 i fun d f => d.length < sizeLine ∧ k .non (f (d ++ [p]))
theorem mono_app {i : Nat} {q : PQ} (hq : Mono q) : Mono (qApp i q) := fun r k k' h w => onHeld_mono (fun _ _ w => hq _ _ _ (fun p r1 w => onHeld_mono (fun d f ⟨a, w⟩ => ⟨a, h _ _ w⟩) w) w) w
theorem qe_app {i : Nat} {y : Str} {e : Expr} {q : PQ} {py apos cpos : Pos} (he0 : QE X e q) (hN : X.N[i]? = some y := by rfl) (hv : Vis X.env.scope y := by first | exact Or.inl rfl | exact Or.inr (Or.inl rfl) | exact Or.inr (Or.inr rfl)) (hd : (y == ("__debug__" : Str)) = false := by decide) (hcd : (y == ("__classdict__" : Str)) = false := by decide)
    (hbase : attributeBase (.Name y py) "append" X.env (eval (.Name y py) X.env) = eval (.Name y py) X.env := by rfl)
    (hfew : ((backTo cpos (starEach (e :: []) X.env)).all (fun x => !x.1) && (backToKw cpos (keywordEach [] X.env)).all (fun x => x.1.isSome)
      && decide ((e :: ([] : List Expr)).length + ([] : List Keyword).length + (if ([] : List Keyword).isEmpty then 0 else 1) < 30)) = true := by rfl)
    (hline : (apos.endLine == cpos.line) = true := by rfl) (hs : starEach (e :: []) X.env = (false, eval e X.env) :: starEach [] X.env := by rfl) (hplain : (backTo cpos (starEach [] X.env)).any (·.1) = false := by rfl) : QE X (.Call (.Attribute (.Name y py) "append" apos) [e] [] cpos) (qApp i q) := by
  refine ⟨mono_app he0.mono, PE.to (pe_bm PySem.F.plainAttrs_list PySem.F.slot_list_append PySem.F.type_list_append mt_append (pv i hN hv hd hcd) (pa_cons he0.pe pa_nil hs) hbase hfew hline hs hplain) fun σ H Q ⟨z, e0, ok, w⟩ => ?_⟩
  subst e0
  obtain ⟨s0, dk0, h0, l0, w⟩ := onHeld_ok w
  obtain ⟨d, ds0, e1, _, _, e4, _⟩ := held_at ok h0 l0
  refine ⟨.ref d, e1, .inl ⟨rfl, ds0, sql_tracked e4⟩, z, rfl, ok, he0.mono _ _ _ (fun p r1 w v z1 st1 ok1 er rp => ?_) w⟩
  subst er
  obtain ⟨s1, dk1, h1, l1, hz, w⟩ := onHeld_ok w
  obtain ⟨d1, ds1, f1, f2, f3, f4, f5⟩ := held_at ok1 h1 l1
  have ed : d1 = d := V.ref.inj (Option.some.inj (Option.some.inj (f1.symm.trans e1)))
  subst ed
  obtain ⟨o, st⟩ := lend_ok ok1 h1 l1 f2 (ExtD.wr ok1.fh f3 (.lst (ds1 ++ [v]))) upd_same (f5.append (.one rp))
  exact ⟨d1, ds1, v, rfl, rfl, f4, by rw [f5.length]; exact hz, w .non _ (st1.trans st) o rfl (rep_non.mpr rfl)⟩
/-- xs.reverse() -/
def qRev (i : Nat) : PQ := fun r k => onHeld r i fun d f => k .non (f d.reverse)
theorem qe_rev {i : Nat} {y : Str} {py apos cpos : Pos} (hN : X.N[i]? = some y := by rfl) (hv : Vis X.env.scope y := by first | exact Or.inl rfl | exact Or.inr (Or.inl rfl) | exact Or.inr (Or.inr rfl)) (hd : (y == ("__debug__" : Str)) = false := by decide) (hcd : (y == ("__classdict__" : Str)) = false := by decide)
    (hbase : attributeBase (.Name y py) "reverse" X.env (eval (.Name y py) X.env) = eval (.Name y py) X.env := by rfl) (hline : (apos.endLine == cpos.line) = true := by rfl) : QE X (.Call (.Attribute (.Name y py) "reverse" apos) [] [] cpos) (qRev i) := by
  refine ⟨fun r k k' h w => onHeld_mono (fun d f w => h _ _ w) w, PE.to (pe_bm0 PySem.F.plainAttrs_list PySem.F.slot_list_reverse PySem.F.type_list_reverse mt_reverse (pv i hN hv hd hcd) hbase hline) fun σ H Q ⟨z, e0, ok, w⟩ => ?_⟩
  subst e0
  obtain ⟨s, dk, h, l, w⟩ := onHeld_ok w
  obtain ⟨d, ds, e1, e2, e3, e4, e5⟩ := held_at ok h l
  obtain ⟨o, st⟩ := lend_ok ok h l e2 (ExtD.wr ok.fh e3 (.lst ds.reverse)) upd_same e5.reverse
  exact ⟨.ref d, e1, .inl ⟨rfl, ds, sql_tracked e4⟩, d, ds, rfl, rfl, e4, w .non _ st o rfl (rep_non.mpr rfl)⟩
/-- len(xs) of a held list -/
def qLenH (i : Nat) : PQ := fun r k => onHeld r i fun d _ => k (.int d.length) r
theorem qe_lenH {i : Nat} {y : Str} {py p pos : Pos} (hg : Gl X "len") (hm : X.mg "len" = none) (hN : X.N[i]? = some y := by rfl) (hv : Vis X.env.scope y := by first | exact Or.inl rfl | exact Or.inr (Or.inl rfl) | exact Or.inr (Or.inr rfl)) (hd : (y == ("__debug__" : Str)) = false := by decide) (hcd : (y == ("__classdict__" : Str)) = false := by decide)
    (he : starEach [.Name y py] X.env = (false, eval (.Name y py) X.env) :: starEach [] X.env := by rfl) (hpl : (backTo pos (starEach [] X.env)).any (·.1) = false := by rfl) : QE X (.Call (.Name "len" p) [.Name y py] [] pos) (qLenH i) := by
  refine ⟨fun r k k' h w => onHeld_mono (fun d f w => h _ _ w) w, PE.to (pe_callB call_len hg hm PySem.boot_len (pa_cons (pv i hN hv hd hcd) pa_nil he) (by decide) (by decide) he hpl) fun σ H Q ⟨z, e0, ok, w⟩ => ?_⟩
  subst e0
  obtain ⟨s, dk, h, l, w⟩ := onHeld_ok w
  obtain ⟨d, ds, e1, e2, e3, e4, e5⟩ := held_at ok h l
  exact ⟨.ref d, e1, .ref d, ds.length, rfl, .inl ⟨ds, sql_tracked e4, rfl⟩, by rw [e5.length]; exact w _ z (Stp.refl z) ok rfl (rep_int.mpr rfl)⟩
end
end Qy
set_option Elab.async false
set_option linter.all false
set_option maxRecDepth 100000
set_option maxHeartbeats 4000000
/-! Q7: the operators, comparisons, subscripts, built-ins, as functions on pure values. -/
namespace Qy
open PySem PySem.Spec PyProof.Rows L2

theorem tx_append (a b : List Nat) : tx a ++ tx b = tx (a ++ b) := by
  show (⟨a.toArray ++ b.toArray⟩ : Str) = ⟨(a ++ b).toArray⟩
  simp
section
variable {X : Cx} {K : PySem.W.Frag}
/-! ### + - * // % ** -/
def gAdd : PV → PV → Option PV
  | .int i, .int j => some (.int (i + j))
  | .str a, .str b => if a.length + b.length ≤ sizeLine then some (.str (a ++ b)) else none
  | .lst a, .lst b => if a.length + b.length ≤ sizeLine then some (.lst (a ++ b)) else none
  | .tup a, .tup b => if a.length + b.length ≤ sizeLine then some (.tup (a ++ b)) else none
  | _, _ => none
abbrev rAddA (K : PySem.W.Frag) : R2 := fun x y H Q => (∃ i j, x = .int i ∧ y = .int j ∧ Q (.int (i + j)) H) ∨ (∃ i j, x = .str i ∧ y = .str j ∧ i.length + j.length ≤ sizeLine ∧ Q (.str (i ++ j)) H) ∨ rCat x y H Q ∨ rCatA K x y H Q
theorem op_addA : OpR X (binaryOp .Add) (rAddA X.K) := OpR.or op_add (OpR.or op_add_str (OpR.or op_cat op_catA))
theorem pure_add : PureB K (rAddA K) gAdd := by
  intro F H p q x y z Q s rp rq hg k
  unfold gAdd at hg
  split at hg
  · cases hg
    exact .inl ⟨_, _, rep_int.mp rp, rep_int.mp rq, k _ _ _ (Ext.refl s) (rep_int.mpr rfl)⟩
  · split at hg
    · rename_i hz
      cases hg
      refine .inr (.inl ⟨_, _, rep_str.mp rp, rep_str.mp rq, by rw [tx_len, tx_len]; exact hz, k _ _ _ (Ext.refl s) (rep_str.mpr (by rw [tx_append]))⟩)
    · cases hg
  · split at hg
    · rename_i hz
      cases hg
      obtain ⟨a, vs, rfl, ha, ra⟩ := rep_lst.mp rp
      obtain ⟨b, ws, rfl, hb, rb⟩ := rep_lst.mp rq
      refine .inr (.inr (.inl ⟨a, b, vs, ws, rfl, rfl, s _ _ ha, s _ _ hb, by rw [ra.length, rb.length]; exact hz, fun p hp => ?_⟩))
      have ex := Ext.new s hp (.lst (vs ++ ws))
      exact k _ _ _ ex (rep_lst.mpr ⟨p, _, rfl, upd_same, (ra.append rb).mono ex.ff⟩)
    · cases hg
  · split at hg
    · rename_i hz
      cases hg
      obtain ⟨a, vs, rfl, ha, ra⟩ := rep_tup.mp rp
      obtain ⟨b, ws, rfl, hb, rb⟩ := rep_tup.mp rq
      refine .inr (.inr (.inr ⟨a, b, vs, ws, rfl, rfl, s.sqt ha, s.sqt hb, by rw [ra.length, rb.length]; exact hz, fun e => ?_, fun _ e => ?_, fun _ _ p hp => ?_⟩))
      · have h := ra.append rb
        rw [e, List.nil_append] at h
        exact k _ _ _ (Ext.refl s) (rep_tup.mpr ⟨b, ws, rfl, hb, h⟩)
      · have h := ra.append rb
        rw [e, List.append_nil] at h
        exact k _ _ _ (Ext.refl s) (rep_tup.mpr ⟨a, vs, rfl, ha, h⟩)
      · have ex := Ext.new s hp (.tup (vs ++ ws))
        exact k _ _ _ ex (rep_tup.mpr ⟨p, _, rfl, .inl (.inl upd_same), (ra.append rb).mono ex.ff⟩)
    · cases hg
  · cases hg
abbrev rIaddA : R2 := fun x y H Q => (∃ i j, x = .int i ∧ y = .int j ∧ Q (.int (i + j)) H) ∨ (∃ i j, x = .str i ∧ y = .str j ∧ i.length + j.length ≤ sizeLine ∧ Q (.str (i ++ j)) H)
def gIadd : PV → PV → Option PV
  | .int i, .int j => some (.int (i + j))
  | .str a, .str b => if a.length + b.length ≤ sizeLine then some (.str (a ++ b)) else none
  | _, _ => none
theorem iop_addA : OpR X (inplaceOp .Add) rIaddA := OpR.or iop_add iop_add_str
theorem pure_iadd : PureB K rIaddA gIadd := by
  intro F H p q x y z Q s rp rq hg k
  unfold gIadd at hg
  split at hg
  · cases hg
    exact .inl ⟨_, _, rep_int.mp rp, rep_int.mp rq, k _ _ _ (Ext.refl s) (rep_int.mpr rfl)⟩
  · split at hg
    · rename_i hz
      cases hg
      refine .inr ⟨_, _, rep_str.mp rp, rep_str.mp rq, by rw [tx_len, tx_len]; exact hz, k _ _ _ (Ext.refl s) (rep_str.mpr (by rw [tx_append]))⟩
    · cases hg
  · cases hg
/-- an operator on ints -/
def gI (c : Int → Int → Bool) (f : Int → Int → PV) : PV → PV → Option PV
  | .int i, .int j => if c i j = true then some (f i j) else none
  | _, _ => none
theorem pure_I {C : Int → Int → Prop} {c : Int → Int → Bool} {g : Int → Int → V} {f : Int → Int → PV} (hc : ∀ i j, c i j = true → C i j) (hf : ∀ F i j, Rep K F (f i j) (g i j)) : PureB K (rI C g) (gI c f) := by
  intro F H p q x y z Q s rp rq hg k
  unfold gI at hg
  split at hg
  · split at hg
    · rename_i i j h
      cases hg
      exact ⟨i, j, rep_int.mp rp, rep_int.mp rq, hc i j h, k _ _ _ (Ext.refl s) (hf _ _ _)⟩
    · cases hg
  · cases hg
theorem pure_I0 {g : Int → Int → V} {f : Int → Int → PV} (hf : ∀ F i j, Rep K F (f i j) (g i j)) : PureB K (rI0 g) (gI (fun _ _ => true) f) := by
  intro F H p q x y z Q s rp rq hg k
  unfold gI at hg
  split at hg
  · split at hg
    · rename_i i j h
      cases hg
      exact ⟨i, j, rep_int.mp rp, rep_int.mp rq, k _ _ _ (Ext.refl s) (hf _ _ _)⟩
    · cases hg
  · cases hg
abbrev gSub := gI (fun _ _ => true) fun i j => .int (i - j)
abbrev gMul := gI (fun i j => decide (-(2 ^ 64) < i ∧ i < 2 ^ 64) || decide (-(2 ^ 64) < j ∧ j < 2 ^ 64)) fun i j => .int (i * j)
abbrev gFdiv := gI (fun _ j => decide (0 < j ∧ j < 1073741824)) fun i j => .int (i / j)
abbrev gMod := gI (fun _ j => decide (0 < j)) fun i j => .int (i % j)
abbrev gPow := gI (fun i j => decide (0 ≤ j ∧ j ≤ 1000000 ∧ i.natAbs < 2 ^ 64)) fun i j => .int (i ^ j.toNat)
abbrev gLt := gI (fun _ _ => true) fun i j => .bl (decide (i < j))
abbrev gLe := gI (fun _ _ => true) fun i j => .bl (decide (i ≤ j))
abbrev gGt := gI (fun _ _ => true) fun i j => .bl (decide (j < i))
abbrev gGe := gI (fun _ _ => true) fun i j => .bl (decide (j ≤ i))
theorem pure_sub : PureB K (rI0 fun i j => .int (i - j)) gSub := pure_I0 fun _ _ _ => rep_int.mpr rfl
theorem pure_mul : PureB K (rI CMul fun i j => .int (i * j)) gMul := pure_I (fun i j h => by simpa [CMul] using h) fun _ _ _ => rep_int.mpr rfl
theorem pure_fdiv : PureB K (rI CDiv fun i j => .int (i / j)) gFdiv := pure_I (fun i j h => by unfold CDiv; exact of_decide_eq_true h) fun _ _ _ => rep_int.mpr rfl
theorem pure_mod : PureB K (rI (fun _ j => 0 < j) fun i j => .int (i % j)) gMod := pure_I (fun i j h => of_decide_eq_true h) fun _ _ _ => rep_int.mpr rfl
theorem pure_pow : PureB K (rI CPow fun i j => .int (i ^ j.toNat)) gPow := pure_I (fun i j h => by unfold CPow; exact of_decide_eq_true h) fun _ _ _ => rep_int.mpr rfl
theorem pure_lt : PureB K (rI0 fun i j => .bl (decide (i < j))) gLt := pure_I0 fun _ _ _ => rep_bl.mpr rfl
theorem pure_le : PureB K (rI0 fun i j => .bl (decide (i ≤ j))) gLe := pure_I0 fun _ _ _ => rep_bl.mpr rfl
theorem pure_gt : PureB K (rI0 fun i j => .bl (decide (j < i))) gGt := pure_I0 fun _ _ _ => rep_bl.mpr rfl
theorem pure_ge : PureB K (rI0 fun i j => .bl (decide (j ≤ i))) gGe := pure_I0 fun _ _ _ => rep_bl.mpr rfl
def gNeg : PV → Option PV
  | .int i => some (.int (-i))
  | _ => none
theorem pure_neg : PureU K (rU fun i => .int (-i)) gNeg := by
  intro F H p x z Q s rp hg k
  unfold gNeg at hg
  split at hg
  · cases hg
    exact ⟨_, rep_int.mp rp, k _ _ _ (Ext.refl s) (rep_int.mpr rfl)⟩
  · cases hg

/-! ### ==, != -/
mutual
def dat : PV → Option PyData
  | .non => some .none
  | .bl b => some (.bool b)
  | .int i => some (.int i)
  | .str s => some (.str (tx s))
  | .tup ps => (datAll ps).map PyData.tuple
  | .lst ps => (datAll ps).map PyData.list
  | .seq ps => (datAll ps).map PyData.list
  | .dct _ _ => none
  | .ins _ _ _ => none
def datAll : List PV → Option (List PyData)
  | [] => some []
  | p :: ps => (dat p).bind fun d => (datAll ps).map fun ds => d :: ds
end
mutual
theorem dat_ok {F H : Hp} (s : Sub F H) : ∀ (p : PV) (v : V) (d : PyData), Rep K F p v → dat p = some d → Dp K H v d
  | .non, v, d, r, h => by unfold dat at h; cases h; rw [rep_non.mp r]; exact .non
  | .bl b, v, d, r, h => by unfold dat at h; cases h; rw [rep_bl.mp r]; exact .bl b
  | .int i, v, d, r, h => by unfold dat at h; cases h; rw [rep_int.mp r]; exact .int i
  | .str z, v, d, r, h => by unfold dat at h; cases h; rw [rep_str.mp r]; exact .str _
  | .tup ps, v, d, r, h => by
    unfold dat at h
    obtain ⟨a, vs, rfl, q, rs⟩ := rep_tup.mp r
    cases e : datAll ps with
    | none => rw [e] at h; cases h
    | some ds =>
      rw [e] at h
      cases h
      exact .tup (s.sqt q) (datAll_ok s ps vs ds rs e)
  | .lst ps, v, d, r, h => by
    unfold dat at h
    obtain ⟨a, vs, rfl, q, rs⟩ := rep_lst.mp r
    cases e : datAll ps with
    | none => rw [e] at h; cases h
    | some ds =>
      rw [e] at h
      cases h
      exact .lst (sql_tracked (s _ _ q)) (datAll_ok s ps vs ds rs e)
  | .seq ps, v, d, r, h => by
    unfold dat at h
    obtain ⟨a, vs, rfl, q, rs⟩ := rep_seq.mp r
    cases e : datAll ps with
    | none => rw [e] at h; cases h
    | some ds =>
      rw [e] at h
      cases h
      exact .lst (s.sql q) (datAll_ok s ps vs ds rs e)
  | .dct _ _, _, _, _, h => by unfold dat at h; cases h
  | .ins _ _ _, _, _, _, h => by unfold dat at h; cases h
theorem datAll_ok {F H : Hp} (s : Sub F H) : ∀ (ps : List PV) (vs : List V) (ds : List PyData), Reps K F ps vs → datAll ps = some ds → DpAll K H vs ds
  | [], vs, ds, r, h => by
    unfold datAll at h
    cases h
    rw [reps_nil.mp r]
    exact .nil
  | p :: ps, vs, ds, r, h => by
    unfold datAll at h
    obtain ⟨v, u, rfl, r1, r2⟩ := reps_cons.mp r
    cases e : dat p with
    | none => rw [e] at h; cases h
    | some d =>
      rw [e] at h
      cases e2 : datAll ps with
      | none => rw [e2] at h; cases h
      | some ds2 =>
        rw [e2] at h
        cases h
        exact .cons (dat_ok s p v d r1 e) (datAll_ok s ps u ds2 r2 e2)
end
/-- == of flat values -/
def scalP : PV → PV → Option Bool
  | .str a, .str b => some (decide (a = b))
  | .int a, .int b => some (decide (a = b))
  | .bl a, .bl b => some (decide (a = b))
  | .non, .non => some true
  | .non, .str _ => some false
  | .str _, .non => some false
  | .non, .int _ => some false
  | .int _, .non => some false
  | .int _, .str _ => some false
  | .str _, .int _ => some false
  | _, _ => none
def deepP (p q : PV) : Option Bool := (dat p).bind fun d => (dat q).bind fun e => if (SeqAt.shaped d && SeqAt.shaped e) = true then some (PyData.eqv d e) else none
def eqP (p q : PV) : Option Bool := (scalP p q).orElse fun _ => deepP p q
def gEq (p q : PV) : Option PV := (eqP p q).map PV.bl
def gNe (p q : PV) : Option PV := (eqP p q).map fun b => PV.bl (!b)
theorem scalP_ok {F : Hp} {p q : PV} {x y : V} {b : Bool} (rp : Rep K F p x) (rq : Rep K F q y) (h : scalP p q = some b) : scal x y = true ∧ decide (x = y) = b := by
  unfold scalP at h
  split at h <;> cases h
  · rw [rep_str.mp rp, rep_str.mp rq]
    refine ⟨rfl, ?_⟩
    rename_i a b
    by_cases e : a = b
    · rw [e, decide_eq_true rfl, decide_eq_true rfl]
    · rw [decide_eq_false e, decide_eq_false fun z => e (tx_inj (V.str.inj z))]
  · rw [rep_int.mp rp, rep_int.mp rq]
    refine ⟨rfl, ?_⟩
    rename_i a b
    by_cases e : a = b
    · rw [e, decide_eq_true rfl, decide_eq_true rfl]
    · rw [decide_eq_false e, decide_eq_false fun z => e (V.int.inj z)]
  · rw [rep_bl.mp rp, rep_bl.mp rq]
    refine ⟨rfl, ?_⟩
    rename_i a b
    by_cases e : a = b
    · rw [e, decide_eq_true rfl, decide_eq_true rfl]
    · rw [decide_eq_false e, decide_eq_false fun z => e (V.bl.inj z)]
  · rw [rep_non.mp rp, rep_non.mp rq]; exact ⟨rfl, rfl⟩
  · rw [rep_non.mp rp, rep_str.mp rq]; exact ⟨rfl, rfl⟩
  · rw [rep_str.mp rp, rep_non.mp rq]; exact ⟨rfl, rfl⟩
  · rw [rep_non.mp rp, rep_int.mp rq]; exact ⟨rfl, rfl⟩
  · rw [rep_int.mp rp, rep_non.mp rq]; exact ⟨rfl, rfl⟩
  · rw [rep_int.mp rp, rep_str.mp rq]; exact ⟨rfl, rfl⟩
  · rw [rep_str.mp rp, rep_int.mp rq]; exact ⟨rfl, rfl⟩
abbrev rEqA (K : PySem.W.Frag) : R2 := fun x y H Q => rEq x y H Q ∨ rEqD K x y H Q
abbrev rNeA (K : PySem.W.Frag) : R2 := fun x y H Q => rNe x y H Q ∨ rNeD K x y H Q
theorem op_eqA (hu : X.A.units + 64 < cLine) : OpR X (compareOp .Eq) (rEqA X.K) := OpR.or op_eq (op_eqD hu)
theorem op_neA (hu : X.A.units + 64 < cLine) : OpR X (compareOp .NotEq) (rNeA X.K) := OpR.or op_ne (op_neD hu)
theorem eqP_cases {F H : Hp} {p q : PV} {x y : V} {b : Bool} (s : Sub F H) (rp : Rep K F p x) (rq : Rep K F q y) (h : eqP p q = some b) :
    (scal x y = true ∧ decide (x = y) = b) ∨ ∃ d e, Dp K H x d ∧ Dp K H y e ∧ SeqAt.shaped d = true ∧ SeqAt.shaped e = true ∧ PyData.eqv d e = b := by
  unfold eqP at h
  cases e : scalP p q with
  | some c =>
    rw [e] at h
    cases h
    exact .inl (scalP_ok rp rq e)
  | none =>
    rw [e] at h
    have h : deepP p q = some b := h
    unfold deepP at h
    cases e1 : dat p with
    | none => rw [e1] at h; cases h
    | some d =>
      cases e2 : dat q with
      | none => rw [e1, e2] at h; cases h
      | some d2 =>
        rw [e1, e2] at h
        have h : (if (SeqAt.shaped d && SeqAt.shaped d2) = true then some (PyData.eqv d d2) else none) = some b := h
        split at h
        · rename_i hs
          cases h
          obtain ⟨h1, h2⟩ := Bool.and_eq_true_iff.mp hs
          exact .inr ⟨d, d2, dat_ok s p x d rp e1, dat_ok s q y d2 rq e2, h1, h2, rfl⟩
        · cases h
theorem pure_eq : PureB K (rEqA K) gEq := by
  intro F H p q x y z Q s rp rq hg k
  unfold gEq at hg
  cases e : eqP p q with
  | none => rw [e] at hg; cases hg
  | some b =>
    rw [e] at hg
    cases hg
    rcases eqP_cases s rp rq e with ⟨h1, h2⟩ | ⟨d, d2, h1, h2, h3, h4, h5⟩
    · exact .inl ⟨h1, by rw [h2]; exact k _ _ _ (Ext.refl s) (rep_bl.mpr rfl)⟩
    · exact .inr ⟨d, d2, h1, h2, h3, h4, by rw [h5]; exact k _ _ _ (Ext.refl s) (rep_bl.mpr rfl)⟩
theorem pure_ne : PureB K (rNeA K) gNe := by
  intro F H p q x y z Q s rp rq hg k
  unfold gNe at hg
  cases e : eqP p q with
  | none => rw [e] at hg; cases hg
  | some b =>
    rw [e] at hg
    cases hg
    rcases eqP_cases s rp rq e with ⟨h1, h2⟩ | ⟨d, d2, h1, h2, h3, h4, h5⟩
    · exact .inl ⟨h1, by rw [h2]; exact k _ _ _ (Ext.refl s) (rep_bl.mpr rfl)⟩
    · exact .inr ⟨d, d2, h1, h2, h3, h4, by rw [h5]; exact k _ _ _ (Ext.refl s) (rep_bl.mpr rfl)⟩
/-! ### is None, in -/
def gIsN : PV → PV → Option PV
  | .non, .non => some (.bl true)
  | _, .non => some (.bl false)
  | _, _ => none
def gNotN : PV → PV → Option PV
  | .non, .non => some (.bl false)
  | _, .non => some (.bl true)
  | _, _ => none
def isNonP : PV → Bool
  | .non => true
  | _ => false
theorem rep_notnon {F : Hp} {p : PV} {x : V} (r : Rep K F p x) : decide (x = .non) = isNonP p := by
  cases p with
  | non => rw [rep_non.mp r] <;> rfl
  | bl b => rw [rep_bl.mp r] <;> rfl
  | int b => rw [rep_int.mp r] <;> rfl
  | str b => rw [rep_str.mp r] <;> rfl
  | tup b => obtain ⟨a, vs, rfl, _⟩ := rep_tup.mp r; rfl
  | lst b => obtain ⟨a, vs, rfl, _⟩ := rep_lst.mp r; rfl
  | seq b => obtain ⟨a, vs, rfl, _⟩ := rep_seq.mp r; rfl
  | dct ks b => obtain ⟨a, vs, rfl, _⟩ := rep_dct.mp r; rfl
  | ins C fs b =>
    unfold Rep at r
    obtain ⟨a, dx, kvs, rfl, _⟩ := r
    rfl
theorem pure_isN : PureB K (fun x y H Q => y = .non ∧ Q (.bl (decide (x = .non))) H) gIsN := by
  intro F H p q x y z Q s rp rq hg k
  have e := rep_notnon rp
  unfold gIsN at hg
  split at hg
  · cases hg
    exact ⟨rep_non.mp rq, by rw [e]; exact k _ _ _ (Ext.refl s) (rep_bl.mpr rfl)⟩
  · rename_i hn
    cases hg
    refine ⟨rep_non.mp rq, ?_⟩
    have e2 : decide (x = V.non) = false := by
      rw [e]
      cases p <;> first | rfl | exact (hn rfl).elim
    rw [e2]
    exact k _ _ _ (Ext.refl s) (rep_bl.mpr rfl)
  · cases hg
theorem pure_notN : PureB K (fun x y H Q => y = .non ∧ Q (.bl (!decide (x = .non))) H) gNotN := by
  intro F H p q x y z Q s rp rq hg k
  have e := rep_notnon rp
  unfold gNotN at hg
  split at hg
  · cases hg
    exact ⟨rep_non.mp rq, by rw [e]; exact k _ _ _ (Ext.refl s) (rep_bl.mpr rfl)⟩
  · rename_i hn
    cases hg
    refine ⟨rep_non.mp rq, ?_⟩
    have e2 : decide (x = V.non) = false := by
      rw [e]
      cases p <;> first | rfl | exact (hn rfl).elim
    rw [e2]
    exact k _ _ _ (Ext.refl s) (rep_bl.mpr rfl)
  · cases hg
/-- flat values, == among them -/
def flatP : PV → Bool
  | .non => true
  | .bl _ => true
  | .int _ => true
  | .str _ => true
  | _ => false
def eqF : PV → PV → Bool
  | .non, .non => true
  | .bl a, .bl b => a == b
  | .bl a, .int b => (if a then 1 else 0) == b
  | .int a, .bl b => a == (if b then 1 else 0)
  | .int a, .int b => a == b
  | .str a, .str b => a == b
  | _, _ => false
theorem flatP_ok {F : Hp} {p : PV} {x : V} (r : Rep K F p x) (h : flatP p = true) : flatV x = true := by
  cases p with
  | non => rw [rep_non.mp r] <;> rfl
  | bl b => rw [rep_bl.mp r] <;> rfl
  | int b => rw [rep_int.mp r] <;> rfl
  | str b => rw [rep_str.mp r] <;> rfl
  | _ => cases h
theorem eqF_ok {F : Hp} {p q : PV} {x y : V} (rp : Rep K F p x) (rq : Rep K F q y) (h : flatP p = true) (h2 : flatP q = true) : eqV x y = eqF p q := by
  cases p <;> first | cases h | skip
  all_goals (cases q <;> first | cases h2 | skip)
  all_goals (first
    | rw [rep_non.mp rp] | rw [rep_bl.mp rp] | rw [rep_int.mp rp] | rw [rep_str.mp rp])
  all_goals (first
    | rw [rep_non.mp rq] | rw [rep_bl.mp rq] | rw [rep_int.mp rq] | rw [rep_str.mp rq])
  all_goals (first | rfl | skip)
  rename_i a b
  show (tx a == tx b) = (a == b)
  by_cases e : a = b
  · rw [e, beq_self_eq_true, beq_self_eq_true]
  · rw [beq_eq_false_iff_ne.mpr e, beq_eq_false_iff_ne.mpr fun z => e (tx_inj z)]
def inF (p : PV) (ps : List PV) : Bool := ps.any fun q => eqF q p
theorem inF_ok {F : Hp} {p : PV} {x : V} (rp : Rep K F p x) (h : flatP p = true) : ∀ {ps : List PV} {vs : List V}, Reps K F ps vs → ps.all flatP = true → vs.all flatV = true ∧ inV x vs = inF p ps
  | [], _, r, _ => by rw [reps_nil.mp r]; exact ⟨rfl, rfl⟩
  | q :: ps, _, r, h2 => by
    obtain ⟨v, u, rfl, r1, r2⟩ := reps_cons.mp r
    have h3 : (flatP q && ps.all flatP) = true := by simpa using h2
    obtain ⟨h4, h5⟩ := Bool.and_eq_true_iff.mp h3
    obtain ⟨a, b⟩ := inF_ok rp h r2 h5
    refine ⟨?_, ?_⟩
    · rw [List.all_cons, flatP_ok r1 h4, a] <;> rfl
    · show (eqV v x || u.any fun y => eqV y x) = (eqF q p || ps.any fun q => eqF q p)
      rw [eqF_ok r1 rp h4 h]
      congr 1
/-- x in y: a sign in a text, a flat value in a list or tuple of flat values -/
def inP (p : PV) : PV → Option Bool
  | .str z => (match p with
    | .str [c] => some (decide (c ∈ z))
    | _ => none)
  | .lst ps => if flatP p && ps.all flatP then some (inF p ps) else none
  | .tup ps => if flatP p && ps.all flatP then some (inF p ps) else none
  | .seq ps => if flatP p && ps.all flatP then some (inF p ps) else none
  | _ => none
def gIn (p q : PV) : Option PV := (inP p q).map PV.bl
def gNotIn (p q : PV) : Option PV := (inP p q).map fun b => PV.bl (!b)
abbrev rSign : R2 := fun x y H Q => ∃ (c : Nat) (z : Str), x = .str ⟨#[c]⟩ ∧ y = .str z ∧ Q (.bl (decide (c ∈ z.cps.toList))) H
abbrev rNotSign : R2 := fun x y H Q => ∃ (c : Nat) (z : Str), x = .str ⟨#[c]⟩ ∧ y = .str z ∧ Q (.bl (!decide (c ∈ z.cps.toList))) H
theorem op_inA : OpR X (compareOp .In) (fun x y H Q => rSign x y H Q ∨ rIn X.K false x y H Q) := OpR.or op_in_sign op_in_seq
theorem op_notInA : OpR X (compareOp .NotIn) (fun x y H Q => rNotSign x y H Q ∨ rIn X.K true x y H Q) := OpR.or op_notIn_sign op_notIn_seq
theorem inP_cases {F H : Hp} {p q : PV} {x y : V} {b : Bool} (s : Sub F H) (rp : Rep K F p x) (rq : Rep K F q y) (h : inP p q = some b) :
    (∃ (c : Nat) (z : List Nat), x = .str ⟨#[c]⟩ ∧ y = .str (tx z) ∧ decide (c ∈ z) = b) ∨ ∃ a xs, y = .ref a ∧ (SqL K H a xs ∨ SqT K H a xs) ∧ flatV x = true ∧ xs.all flatV = true ∧ inV x xs = b := by
  unfold inP at h
  split at h
  · split at h
    · cases h
      exact .inl ⟨_, _, rep_str.mp rp, rep_str.mp rq, rfl⟩
    · cases h
  · split at h
    · rename_i ps hc
      cases h
      obtain ⟨h1, h2⟩ := Bool.and_eq_true_iff.mp hc
      obtain ⟨a, vs, rfl, ha, ra⟩ := rep_lst.mp rq
      obtain ⟨e1, e2⟩ := inF_ok rp h1 ra h2
      exact .inr ⟨a, vs, rfl, .inl (sql_tracked (s _ _ ha)), flatP_ok rp h1, e1, e2⟩
    · cases h
  · split at h
    · rename_i ps hc
      cases h
      obtain ⟨h1, h2⟩ := Bool.and_eq_true_iff.mp hc
      obtain ⟨a, vs, rfl, ha, ra⟩ := rep_tup.mp rq
      obtain ⟨e1, e2⟩ := inF_ok rp h1 ra h2
      exact .inr ⟨a, vs, rfl, .inr (s.sqt ha), flatP_ok rp h1, e1, e2⟩
    · cases h
  · split at h
    · rename_i ps hc
      cases h
      obtain ⟨h1, h2⟩ := Bool.and_eq_true_iff.mp hc
      obtain ⟨a, vs, rfl, ha, ra⟩ := rep_seq.mp rq
      obtain ⟨e1, e2⟩ := inF_ok rp h1 ra h2
      exact .inr ⟨a, vs, rfl, .inl (s.sql ha), flatP_ok rp h1, e1, e2⟩
    · cases h
  · cases h
theorem pure_in : PureB K (fun x y H Q => rSign x y H Q ∨ rIn K false x y H Q) gIn := by
  intro F H p q x y z Q s rp rq hg k
  unfold gIn at hg
  cases e : inP p q with
  | none => rw [e] at hg; cases hg
  | some b =>
    rw [e] at hg
    cases hg
    have k' := k _ _ _ (Ext.refl s) (rep_bl.mpr rfl)
    rcases inP_cases s rp rq e with ⟨c, zz, h1, h2, h3⟩ | ⟨a, xs, h1, h2, h3, h4, h5⟩
    · exact .inl ⟨c, _, h1, h2, by rw [show (tx zz).cps.toList = zz from rfl, h3]; exact k'⟩
    · exact .inr ⟨a, xs, h1, h2, h3, h4, by rw [h5]; exact k'⟩
theorem pure_notIn : PureB K (fun x y H Q => rNotSign x y H Q ∨ rIn K true x y H Q) gNotIn := by
  intro F H p q x y z Q s rp rq hg k
  unfold gNotIn at hg
  cases e : inP p q with
  | none => rw [e] at hg; cases hg
  | some b =>
    rw [e] at hg
    cases hg
    have k' := k _ _ _ (Ext.refl s) (rep_bl.mpr rfl)
    rcases inP_cases s rp rq e with ⟨c, zz, h1, h2, h3⟩ | ⟨a, xs, h1, h2, h3, h4, h5⟩
    · exact .inl ⟨c, _, h1, h2, by rw [show (tx zz).cps.toList = zz from rfl, h3]; exact k'⟩
    · exact .inr ⟨a, xs, h1, h2, h3, h4, by rw [h5]; exact k'⟩
/-! ### a[i] -/
def gIx : PV → PV → Option PV
  | .lst ps, .int i => atI ps i
  | .tup ps, .int i => atI ps i
  | .seq ps, .int i => atI ps i
  | .str s, .int i => if s.length ≤ sizeLine then (atI s i).map fun c => .str [c] else none
  | _, _ => none
theorem atI_reps {F : Hp} {ps : List PV} {vs : List V} {i : Int} {p : PV} (r : Reps K F ps vs) (h : atI ps i = some p) : ∃ v, atI vs i = some v ∧ Rep K F p v := by
  unfold atI at h ⊢
  rw [r.length]
  cases e : ixN ps.length i with
  | none => rw [e] at h; cases h
  | some j =>
    rw [e] at h
    exact r.get h
theorem pure_ix : PureB K (rIx K) gIx := by
  intro F H p q x y z Q s rp rq hg k
  unfold gIx at hg
  split at hg
  · obtain ⟨a, vs, rfl, ha, ra⟩ := rep_lst.mp rp
    obtain ⟨v, e, rv⟩ := atI_reps ra hg
    exact .inl ⟨a, vs, _, v, rfl, rep_int.mp rq, sql_tracked (s _ _ ha), e, k _ _ _ (Ext.refl s) rv⟩
  · obtain ⟨a, vs, rfl, ha, ra⟩ := rep_tup.mp rp
    obtain ⟨v, e, rv⟩ := atI_reps ra hg
    exact .inr (.inl ⟨a, vs, _, v, rfl, rep_int.mp rq, s.sqt ha, e, k _ _ _ (Ext.refl s) rv⟩)
  · obtain ⟨a, vs, rfl, ha, ra⟩ := rep_seq.mp rp
    obtain ⟨v, e, rv⟩ := atI_reps ra hg
    exact .inl ⟨a, vs, _, v, rfl, rep_int.mp rq, s.sql ha, e, k _ _ _ (Ext.refl s) rv⟩
  · split at hg
    · rename_i st i hz
      cases e : atI st i with
      | none => rw [e] at hg; cases hg
      | some c =>
        rw [e] at hg
        cases hg
        exact .inr (.inr ⟨tx st, i, c, rep_str.mp rp, rep_int.mp rq, by rw [tx_len]; exact hz, e, k _ _ _ (Ext.refl s) (rep_str.mpr rfl)⟩)
    · cases hg
  · cases hg
/-! ### len, abs, int, max, min, sum, all, any -/
def gLen : List PV → Option PV
  | [.str s] => if s.length ≤ sizeLine then some (.int s.length) else none
  | [.lst ps] => some (.int ps.length)
  | [.tup ps] => some (.int ps.length)
  | [.seq ps] => some (.int ps.length)
  | _ => none
theorem reps1 {F : Hp} {p : PV} {xs : List V} (r : Reps K F [p] xs) : ∃ x, xs = [x] ∧ Rep K F p x := by
  obtain ⟨v, u, rfl, r1, r2⟩ := reps_cons.mp r
  rw [reps_nil.mp r2]
  exact ⟨v, rfl, r1⟩
theorem reps2 {F : Hp} {p q : PV} {xs : List V} (r : Reps K F [p, q] xs) : ∃ x y, xs = [x, y] ∧ Rep K F p x ∧ Rep K F q y := by
  obtain ⟨v, u, rfl, r1, r2⟩ := reps_cons.mp r
  obtain ⟨y, rfl, r3⟩ := reps1 r2
  exact ⟨v, y, rfl, r1, r3⟩
theorem pure_len : PureC K (fun xs H Q => ∃ x n, xs = [x] ∧ LenV K x H n ∧ Q (.int n) H) gLen := by
  intro F H ps xs z Q s r hg k
  unfold gLen at hg
  split at hg
  · split at hg
    · rename_i st hz
      cases hg
      obtain ⟨x, rfl, rx⟩ := reps1 r
      rw [rep_str.mp rx]
      exact ⟨_, st.length, rfl, ⟨by rw [tx_len]; exact hz, (tx_len st).symm⟩, k _ _ _ (Ext.refl s) (rep_int.mpr rfl)⟩
    · cases hg
  · cases hg
    obtain ⟨x, rfl, rx⟩ := reps1 r
    obtain ⟨a, vs, rfl, ha, ra⟩ := rep_lst.mp rx
    exact ⟨_, _, rfl, .inl ⟨vs, sql_tracked (s _ _ ha), ra.length.symm⟩, k _ _ _ (Ext.refl s) (rep_int.mpr rfl)⟩
  · cases hg
    obtain ⟨x, rfl, rx⟩ := reps1 r
    obtain ⟨a, vs, rfl, ha, ra⟩ := rep_tup.mp rx
    exact ⟨_, _, rfl, .inr ⟨vs, s.sqt ha, ra.length.symm⟩, k _ _ _ (Ext.refl s) (rep_int.mpr rfl)⟩
  · cases hg
    obtain ⟨x, rfl, rx⟩ := reps1 r
    obtain ⟨a, vs, rfl, ha, ra⟩ := rep_seq.mp rx
    exact ⟨_, _, rfl, .inl ⟨vs, s.sql ha, ra.length.symm⟩, k _ _ _ (Ext.refl s) (rep_int.mpr rfl)⟩
  · cases hg
def gAbs : List PV → Option PV
  | [.int i] => some (.int (if i < 0 then -i else i))
  | _ => none
theorem pure_abs : PureC K (fun xs H Q => ∃ i, xs = [.int i] ∧ Q (.int (if i < 0 then -i else i)) H) gAbs := by
  intro F H ps xs z Q s r hg k
  unfold gAbs at hg
  split at hg
  · cases hg
    obtain ⟨x, rfl, rx⟩ := reps1 r
    exact ⟨_, by rw [rep_int.mp rx], k _ _ _ (Ext.refl s) (rep_int.mpr rfl)⟩
  · cases hg
def gInt : List PV → Option PV
  | [.int i] => some (.int i)
  | [.bl b] => some (.int (if b then 1 else 0))
  | _ => none
theorem pure_int : PureC K (fun xs H Q => (∃ i, xs = [.int i] ∧ Q (.int i) H) ∨ ∃ k, xs = [.bl k] ∧ Q (.int (if k then 1 else 0)) H) gInt := by
  intro F H ps xs z Q s r hg k
  unfold gInt at hg
  split at hg
  · cases hg
    obtain ⟨x, rfl, rx⟩ := reps1 r
    exact .inl ⟨_, by rw [rep_int.mp rx], k _ _ _ (Ext.refl s) (rep_int.mpr rfl)⟩
  · cases hg
    obtain ⟨x, rfl, rx⟩ := reps1 r
    exact .inr ⟨_, by rw [rep_bl.mp rx], k _ _ _ (Ext.refl s) (rep_int.mpr rfl)⟩
  · cases hg
def gMax2 : List PV → Option PV
  | [.int i, .int j] => some (.int (if j > i then j else i))
  | _ => none
def gMin2 : List PV → Option PV
  | [.int i, .int j] => some (.int (if j < i then j else i))
  | _ => none
theorem pure_max2 : PureC K (fun xs H Q => ∃ i j, xs = [.int i, .int j] ∧ Q (.int (if j > i then j else i)) H) gMax2 := by
  intro F H ps xs z Q s r hg k
  unfold gMax2 at hg
  split at hg
  · cases hg
    obtain ⟨x, y, rfl, rx, ry⟩ := reps2 r
    exact ⟨_, _, by rw [rep_int.mp rx, rep_int.mp ry], k _ _ _ (Ext.refl s) (rep_int.mpr rfl)⟩
  · cases hg
theorem pure_min2 : PureC K (fun xs H Q => ∃ i j, xs = [.int i, .int j] ∧ Q (.int (if j < i then j else i)) H) gMin2 := by
  intro F H ps xs z Q s r hg k
  unfold gMin2 at hg
  split at hg
  · cases hg
    obtain ⟨x, y, rfl, rx, ry⟩ := reps2 r
    exact ⟨_, _, by rw [rep_int.mp rx, rep_int.mp ry], k _ _ _ (Ext.refl s) (rep_int.mpr rfl)⟩
  · cases hg
/-- lists of one kind -/
def allInt : List PV → Option (List Int)
  | [] => some []
  | .int i :: ps => (allInt ps).map fun r => i :: r
  | _ :: _ => none
def allBl : List PV → Option (List Bool)
  | [] => some []
  | .bl i :: ps => (allBl ps).map fun r => i :: r
  | _ :: _ => none
def allStr : List PV → Option (List (List Nat))
  | [] => some []
  | .str i :: ps => (allStr ps).map fun r => i :: r
  | _ :: _ => none
theorem allInt_eq : ∀ {ps : List PV} {ns : List Int}, allInt ps = some ns → ps = ns.map PV.int
  | [], ns, h => by cases h; rfl
  | p :: ps, ns, h => by
    cases p with
    | int i =>
      have h : (allInt ps).map (fun r => i :: r) = some ns := h
      cases e : allInt ps with
      | none => rw [e] at h; cases h
      | some r => rw [e] at h; cases h; rw [allInt_eq e]; rfl
    | _ => cases h
theorem allBl_eq : ∀ {ps : List PV} {ns : List Bool}, allBl ps = some ns → ps = ns.map PV.bl
  | [], ns, h => by cases h; rfl
  | p :: ps, ns, h => by
    cases p with
    | bl i =>
      have h : (allBl ps).map (fun r => i :: r) = some ns := h
      cases e : allBl ps with
      | none => rw [e] at h; cases h
      | some r => rw [e] at h; cases h; rw [allBl_eq e]; rfl
    | _ => cases h
theorem allStr_eq : ∀ {ps : List PV} {ns : List (List Nat)}, allStr ps = some ns → ps = ns.map PV.str
  | [], ns, h => by cases h; rfl
  | p :: ps, ns, h => by
    cases p with
    | str i =>
      have h : (allStr ps).map (fun r => i :: r) = some ns := h
      cases e : allStr ps with
      | none => rw [e] at h; cases h
      | some r => rw [e] at h; cases h; rw [allStr_eq e]; rfl
    | _ => cases h
theorem allInt_map (ns : List Int) : allInt (ns.map PV.int) = some ns := by
  induction ns with
  | nil => rfl
  | cons n ns ih => show (allInt (ns.map PV.int)).map _ = _; rw [ih] <;> rfl
theorem allBl_map (ns : List Bool) : allBl (ns.map PV.bl) = some ns := by
  induction ns with
  | nil => rfl
  | cons n ns ih => show (allBl (ns.map PV.bl)).map _ = _; rw [ih] <;> rfl
theorem allStr_map (ns : List (List Nat)) : allStr (ns.map PV.str) = some ns := by
  induction ns with
  | nil => rfl
  | cons n ns ih => show (allStr (ns.map PV.str)).map _ = _; rw [ih] <;> rfl
def gSum : List PV → Option PV
  | [.lst ps] => (allInt ps).map fun ns => .int ns.sum
  | _ => none
theorem pure_sum : PureC K (rSum K) gSum := by
  intro F H ps xs z Q s r hg k
  unfold gSum at hg
  split at hg
  · rename_i qs
    cases e : allInt qs with
    | none => rw [e] at hg; cases hg
    | some ns =>
      rw [e] at hg
      cases hg
      obtain ⟨x, rfl, rx⟩ := reps1 r
      obtain ⟨a, vs, rfl, ha, ra⟩ := rep_lst.mp rx
      rw [allInt_eq e] at ra
      rw [ra.ints] at ha
      exact ⟨a, ns, rfl, sql_tracked (s _ _ ha), k _ _ _ (Ext.refl s) (rep_int.mpr rfl)⟩
  · cases hg
def gAll : List PV → Option PV
  | [.lst ps] => (allBl ps).map fun ns => .bl (ns.all id)
  | _ => none
theorem pure_all : PureC K (rAll K) gAll := by
  intro F H ps xs z Q s r hg k
  unfold gAll at hg
  split at hg
  · rename_i qs
    cases e : allBl qs with
    | none => rw [e] at hg; cases hg
    | some ns =>
      rw [e] at hg
      cases hg
      obtain ⟨x, rfl, rx⟩ := reps1 r
      obtain ⟨a, vs, rfl, ha, ra⟩ := rep_lst.mp rx
      rw [allBl_eq e] at ra
      rw [ra.bls] at ha
      exact ⟨a, ns, rfl, sql_tracked (s _ _ ha), k _ _ _ (Ext.refl s) (rep_bl.mpr rfl)⟩
  · cases hg
end
end Qy
set_option Elab.async false
set_option linter.all false
set_option maxRecDepth 100000
set_option maxHeartbeats 4000000
/-! Q8: set(text), sorted(set(text)), list(text). -/
noncomputable section
namespace Qs
open PySem PySem.Froz L2

theorem tailTx_ris {ep : Nat} {es1 : Array (Int × Value)} {t2 : SetTable} {d : Bool} (r : Ris t2.place.toList) : Ris (tailTx ep es1 t2 d).2.2.place.toList := by
  unfold tailTx
  split
  · exact relayAll_ris t2 es1 _
  · exact r
theorem tailTx_led {ep : Nat} {es1 : Array (Int × Value)} {t2 : SetTable} {d : Bool} : (tailTx ep es1 t2 d).2.2.led = t2.led := by
  unfold tailTx
  split
  · exact relayAll_led t2 es1 _
  · rfl
theorem addTx_ris {h : Int} {v : Value} {D : SD} (r : Ris D.2.2.place.toList) : Ris (addTx h v D).2.2.place.toList := by
  unfold addTx
  refine tailTx_ris ?_
  have q := layNew_ris D.2.2 D.1 h v r
  split
  · exact q
  · exact q
theorem addTx_led {h : Int} {v : Value} {D : SD} : (addTx h v D).2.2.led = D.2.2.led := by
  unfold addTx
  rw [tailTx_led]
  have q := layNew_led D.2.2 D.1 h v
  split
  · exact q
  · exact q
theorem runD_ris {w : World} : ∀ (cs : List Nat) (tk : Tok) (D : SD), Ris D.2.2.place.toList → Ris (runD w cs tk D).2.2.place.toList
  | [], _, _, r => r
  | c :: cs, tk, D, r => runD_ris cs _ _ (addTx_ris r)
theorem runD_led {w : World} : ∀ (cs : List Nat) (tk : Tok) (D : SD), (runD w cs tk D).2.2.led = D.2.2.led
  | [], _, _ => rfl
  | c :: cs, tk, D => (runD_led cs _ _).trans addTx_led
theorem runD_ok {P : Program} {w : World} : ∀ (cs : List Nat) (tk : Tok) (D : SD) (l : List Str), TxOk P w D l → TxOk P w (runD w cs tk D) ((cs.map sing).reverse ++ l)
  | [], _, _, _, F => F
  | c :: cs, tk, D, l, F => by
    have h := runD_ok cs (tk + 2) _ _ (add_ok (k := sing c) tk F)
    show TxOk P w (runD w cs (tk + 2) (addTx (hashStr w (sing c)) (.str (sing c) tk) D)) ((sing c :: cs.map sing).reverse ++ l)
    rw [List.reverse_cons, List.append_assoc]
    exact h
/-- a set of texts, at the model's exactness -/
def SetX (P : Program) (w : World) (h : Heap) (a : Addr) (l : List Str) : Prop := ∃ D : SD, h.get? a = some (sObj "set" D) ∧ TxOk P w D l ∧ Ris D.2.2.place.toList ∧ (w.params.followText "set-order" = true ∨ D.2.2.led = true)

section
variable {P : Program} {w : World} {A : Around} {E : Value → Shared → Prop} {s : Shared}
theorem finU_at {s : Shared} {a it : Addr} {X D : SD} {n m : Nat} {o : Obj} (hne : a ≠ it) (h : s.heap.get? a = some (sObj "set" D)) (h2 : s.heap.get? it = some o) : (finU s a "set" it X n m).heap.get? a = some (sObj "set" X) := by
  show (((two s.heap a (sObj "set" X) it (itEnd n)).push tupObj).push (stopObj s.heap.objs.size)).get? a = _
  refine Heap.get?_push_of_some _ (Heap.get?_push_of_some _ ?_)
  unfold two
  exact PySem.Heap.get?_update_of_ne _ (Ne.symm hne) (get_upd _ h rfl)
theorem finU_old {s : Shared} {a it b : Addr} {X : SD} {n m : Nat} {o : Obj} (h1 : b ≠ a) (h2 : b ≠ it) (h : s.heap.get? b = some o) : (finU s a "set" it X n m).heap.get? b = some o := by
  show (((two s.heap a (sObj "set" X) it (itEnd n)).push tupObj).push (stopObj s.heap.objs.size)).get? b = _
  refine Heap.get?_push_of_some _ (Heap.get?_push_of_some _ ?_)
  unfold two
  exact PySem.Heap.get?_update_of_ne _ (Ne.symm h2) (PySem.Heap.get?_update_of_ne _ (Ne.symm h1) h)
theorem code_set_led1 {v : Value} {Q₁ : Value → Shared → Prop}
    (h : Q₁ (.ref s.heap.objs.size) { s with heap := s.heap.push { cls := .type "set", dict := none, data := .set #[] 0 (.fresh 0 0 (!w.params.followText "set-order")) } }) :
    codeAny (model P w) A (.call (.builtin "set.__new__") ⟨[.type "set", v], []⟩) (wants Q₁ E) s := by
  refine codeAny_of_tree ?_
  show wpAny _ A.in1 (do checkBuiltinCall "set.__new__" ⟨[.type "set", v], []⟩; again (.builtin "set.__new__" ⟨[.type "set", v], []⟩)) _ _ s
  refine wpAny_bind (wpAny_of_eq (F.newCall_set_1 v) (wpAny_pure ⟨plainId_quiet F.plain_set_new _, codeAny_builtin F.entry_set_new ?_⟩))
  rw [Around.under_plainId F.plain_set_new _]
  unfold Builtin.«set.__new__» Builtin.Frozenset.newClass
  have hsub := sub_set_self
  obtain ⟨hp, g, d, tk, os⟩ := s
  dsimp only
  wp_walk
  refine wpAny_askSetting (wpAny_pure ?_)
  dsimp only
  simp only [newObj]
  refine wpAny_bind (wpAny_alloc (wpAny_pure ?_))
  exact wpAny_pure h

set_option maxHeartbeats 3200000 in
theorem call_set_text {x : Str} {u : Tok} {Q : Value → Shared → Prop} (hh : A.handled = none) (ha : x.cps.all (· < 128) = true) (hd : x.cps.toList.Nodup) (hn : x.cps.toList.length < scanBound)
    (h : ∀ (h' : Heap) (tk : Nat), SetX P w h' s.heap.objs.size ((x.cps.toList.map sing).reverse) →
      (∀ b o, b < s.heap.objs.size → s.heap.get? b = some o → h'.get? b = some o) → Q (.ref s.heap.objs.size) { s with heap := h', toks := tk }) :
    wpAny (model P w) A (call (.type "set") [.str x u]) Q E s := by
  obtain ⟨c, tl, hmro⟩ := PySem.F.called_set.mro
  have hmade := PySem.F.called_set.made
  have hsub := PySem.F.called_set.sub
  refine wpAny_call (codeAny_of_tree ?_)
  show wpAny _ _ (callAny (.type "set") _) _ _ _
  refine wpAny_pure ⟨Code.quiet_builtin _ (by decide +kernel), codeAny_builtin PySem.F.entry_type_call ?_⟩
  rw [Around.under_plain (weight_type_call_type "set" [.str x u] []) rfl]
  have h1 := PySem.F.called_set.notType
  have h2 := PySem.F.called_set.canCreate
  have hct := PySem.F.typeCall_set_1 (.str x u)
  repeat (any_goals (first | assumption | wp_step))
  refine codeAny_mono (code_set_led1 (v := .str x u) (E := E) (Q₁ := fun obj s₁ => obj = .ref s.heap.objs.size ∧ s₁ = { s with heap := s.heap.push { cls := .type "set", dict := none, data := .set #[] 0 (.fresh 0 0 (!w.params.followText "set-order")) } }) ⟨rfl, rfl⟩) fun r s₁ hr => ?_
  cases r with
  | error e => exact hr
  | ok fl =>
    cases fl with
    | ret obj =>
      obtain ⟨rfl, rfl⟩ := hr
      generalize hled : (!w.params.followText "set-order") = led
      have hl2 : w.params.followText "set-order" = true ∨ led = true := by
        rw [← hled]
        cases w.params.followText "set-order"
        · exact .inr rfl
        · exact .inl rfl
      have hS : (s.heap.push { cls := .type "set", dict := none, data := .set #[] 0 (.fresh 0 0 led) }).get? s.heap.objs.size = some { cls := .type "set", dict := none, data := .set #[] 0 (.fresh 0 0 led) } := Heap.get?_push_size _ rfl
      have hT : Shared.TypeIs { s with heap := s.heap.push { cls := .type "set", dict := none, data := .set #[] 0 (.fresh 0 0 led) } } (.ref s.heap.objs.size) "set" := ⟨_, hS, rfl⟩
      have hli := PySem.F.called_set.init.lookup
      have hbi := PySem.F.called_set.init.bind (.ref s.heap.objs.size)
      repeat (any_goals (first | assumption | wp_step))
      refine codeAny_mono (codeAny_call_builtin (R := wants (fun r s₂ => r = .none ∧ ∃ h' tk, s₂ = { s with heap := h', toks := tk } ∧
          SetX P w h' s.heap.objs.size ((x.cps.toList.map sing).reverse) ∧
          (∀ b o, b < s.heap.objs.size → s.heap.get? b = some o → h'.get? b = some o)) E) PySem.F.called_set.init.plain PySem.F.entry_set_init (check_set_init_1 hT ?_)) fun r₂ s₂ hr₂ => ?_
      · have hne : (Value.type "str" == Value.type "dict") = false := by decide
        have hsls : isSubtype (.type "str") (.type "set") = pure false := by kernel_rfl
        have hslf : isSubtype (.type "str") (.type "frozenset") = pure false := by kernel_rfl
        unfold Builtin.«set.__init__» noKeywords Builtin.Frozenset.updateFrom
        generalize hPI : pyIter = PI
        wp_walk
        subst hPI
        refine wpAny_pyIter_ascii ha ?_
        refine wpAny_bind (wpAny_runValue ?_)
        have hlt : s.heap.objs.size < (s.heap.push { cls := .type "set", dict := none, data := .set #[] 0 (.fresh 0 0 led) }).objs.size := by
          rw [Heap.size_push]
          exact Nat.lt_succ_self _
        have hneI : s.heap.objs.size ≠ (s.heap.push { cls := .type "set", dict := none, data := .set #[] 0 (.fresh 0 0 led) }).objs.size := Nat.ne_of_lt hlt
        refine code_update (P := P) (w := w) (a := s.heap.objs.size) (it := (s.heap.push { cls := .type "set", dict := none, data := .set #[] 0 (.fresh 0 0 led) }).objs.size) (T := "set") (x := x) (u := u) hneI (by simp [hh]) x.cps.toList 0 (#[], 0, .fresh 0 0 led) [] _ rfl
          (Heap.get?_push_of_some _ hS) (Heap.get?_push_size _ rfl) (TxOk.nil rfl) (fun _ _ q => by cases q) hd (by simpa using hn) ?_
        refine wpAny_pure ?_
        refine wpAny_pure ⟨rfl, _, _, rfl, ⟨runD w x.cps.toList s.toks (#[], 0, .fresh 0 0 led), ?_, ?_, runD_ris _ _ _ List.Pairwise.nil, ?_⟩, ?_⟩
        · exact finU_at (m := x.cps.toList.length) (D := (#[], 0, .fresh 0 0 led)) hneI (Heap.get?_push_of_some _ hS) (Heap.get?_push_size _ rfl)
        · have q := runD_ok (P := P) (w := w) x.cps.toList s.toks (#[], 0, .fresh 0 0 led) [] (TxOk.nil rfl)
          rw [List.append_nil] at q
          exact q
        · rw [runD_led]
          exact hl2
        · intro b o hb e
          exact finU_old (m := x.cps.toList.length) (Nat.ne_of_lt hb) (Nat.ne_of_lt (Nat.lt_trans hb hlt)) (Heap.get?_push_of_some _ (Heap.get?_push_of_some _ e))
      · cases r₂ with
        | error e => exact hr₂
        | ok fl₂ =>
          cases fl₂ with
          | ret r =>
            obtain ⟨rfl, h', tk, rfl, hS', hk'⟩ := hr₂
            repeat (any_goals (first | assumption | wp_step))
            exact h _ _ hS' hk'
          | _ => exact hr₂.elim
    | _ => exact hr.elim
end
end Qs
set_option Elab.async false
set_option linter.all false
set_option maxRecDepth 100000
set_option maxHeartbeats 4000000
/-! Q9: sorted(set(text)), list(text) over the layer. -/
namespace Qy
open PySem PySem.Spec PyProof.Rows L2 PySem.Froz Qs
section
variable {P : Program} {w : World} {A : Around} {E : Value → Shared → Prop} {s : Shared}
theorem strs_in : ∀ (l : List Value) (F : List Str), (∀ v ∈ l, ∃ x t, v = Value.str x t ∧ x ∈ F) → ∃ ss, StrsAre l ss ∧ ∀ x ∈ ss, x ∈ F
  | [], _, _ => ⟨[], .nil, fun _ h => by cases h⟩
  | v :: l, F, h => by
    obtain ⟨x, t, rfl, hx⟩ := h v List.mem_cons_self
    obtain ⟨ss, h1, h2⟩ := strs_in l F fun u hu => h u (List.mem_cons_of_mem _ hu)
    refine ⟨x :: ss, .cons x t h1, fun y hy => ?_⟩
    rcases List.mem_cons.mp hy with e | e
    · rw [e]; exact hx
    · exact h2 y e
def keyS (v : Value) : Str := match v with
  | .str x _ => x
  | _ => Str.empty
theorem strs_key : ∀ (l : List Value), (∀ v ∈ l, ∃ x t, v = Value.str x t) → StrsAre l (l.map keyS)
  | [], _ => .nil
  | v :: l, h => by
    obtain ⟨x, t, rfl⟩ := h v List.mem_cons_self
    exact .cons x t (strs_key l fun u hu => h u (List.mem_cons_of_mem _ hu))
theorem sorted_setX {a : Addr} {l : List Str} {Q : Value → Shared → Prop} (R : SetX P w s.heap a l) (hh : A.handled = none) (hd : l.Nodup) (hb : l.length < scanBound)
    (hQ : ∀ s' p (out : Array Value) (c : Nat) (ss : List Str), (∀ b o, s.heap.get? b = some o → s'.heap.get? b = some o) → s'.gens = s.gens → s'.os = s.os → s.heap.objs.size ≤ p →
      s'.heap.get? p = some (seqObj "list" out c) → StrsAre out.toList ss → ss.Perm l → sortedS ss = true → Q (.ref p) s') :
    wpAny (model P w) A (call (.builtin "sorted") [.ref a]) Q E s := by
  obtain ⟨⟨es, ep, t⟩, ho, F, hr, hl⟩ := R
  have hsz : es.size = l.length := F.sz
  refine Calls.call_function_entry kind_sorted plain_sorted entry_sorted (args_sorted1 _) ?_
  unfold Builtin.«sorted»
  refine wpAny_bind (m := checkCount "sorted" 1 1 _) (wpAny_pure ?_)
  refine wpAny_bind (collect_set (A := A.in1) hh ⟨_, ho, rfl, rfl⟩ F.fit (by rw [hsz]; exact hb) hr hl fun s1 vs k1 hz g1 o1 pm => ?_)
  have hvl : vs.length = l.length := by rw [pm.length_eq, List.length_map, Array.length_toList]; exact hsz
  have hL : vs.length ≤ sizeLine := by rw [hvl]; exact fits_of_scanBound hb
  -- each is a text
  have hall : ∀ v ∈ es.toList.map (·.2), ∃ x t, v = Value.str x t := fun v hv => by
    obtain ⟨e, he, rfl⟩ := List.mem_map.mp hv
    obtain ⟨⟨k, hk, _⟩, _⟩ := F.el e he
    obtain ⟨u, hu⟩ := Value.isStrOf_shape (x := k) (v := e.2) (show Value.isStrOf k e.2 = true from hk)
    exact ⟨k, u, hu⟩
  have hS : StrsAre vs (vs.map keyS) := strs_key vs fun v hv => hall v (pm.mem_iff.mp hv)
  -- the texts are those of l, each once
  have pl : (vs.map keyS).Perm l := by
    have p1 : (vs.map keyS).Perm ((es.toList.map (·.2)).map keyS) := pm.map keyS
    refine p1.trans ?_
    have hlen : ((es.toList.map (·.2)).map keyS).length = l.length := by rw [List.length_map, List.length_map, Array.length_toList]; exact hsz
    have hsub : ∀ k ∈ l, k ∈ (es.toList.map (·.2)).map keyS := fun k hk => by
      obtain ⟨e, he, q⟩ := (F.mem k).mp hk
      obtain ⟨u, hu⟩ := Value.isStrOf_shape (x := k) (v := e.2) q
      refine List.mem_map.mpr ⟨e.2, List.mem_map.mpr ⟨e, he, rfl⟩, ?_⟩
      rw [hu] <;> rfl
    exact (perm_of_sub hd hsub (by rw [hlen] <;> exact Nat.le_refl _)).symm
  refine wpAny_bind (wpAny_newList ?_ hL)
  have hoL : (s1.heap.push (seqObj "list" vs.toArray 0)).get? s1.heap.objs.size = some (seqObj "list" vs.toArray 0) := Heap.get?_push_size _ rfl
  refine wpAny_bind (wpAny_holding (wpAny_call_entry slot_list_sort ⟨_, hoL, rfl⟩ entry_list_sort (list_sort_treeKAny strKind_oneLt hoL hS.keysOf (fun v₁ v₂ rest e => keyKind_strs (by rw [← e]; exact hS)) hL fun st' a1 a2 => ⟨_, rfl, ?_⟩) (args_list_sort _)))
  obtain ⟨ss', h1, h2, h3⟩ := sorted_out_str hS a1 a2
  obtain ⟨c, hc⟩ := sortedHeap_at (vs := vs) (out := (arrOf st').map (·.2)) hoL
  refine wpAny_pure ⟨_, rfl, hQ _ s1.heap.objs.size _ c ss' (fun b u e => ?_) g1 o1 hz hc h1 (h2.trans pl) h3⟩
  have q := k1 b u e
  have hlt := Heap.lt_size q
  show (sortedHeap (s1.heap.push (seqObj "list" vs.toArray 0)) s1.heap.objs.size vs _).get? b = some u
  rw [sortedHeap_old (Nat.ne_of_lt hlt) (by rw [size_push']; exact Nat.lt_succ_of_lt hlt)]
  exact Heap.get?_push_of_some _ q
where
  perm_of_sub : ∀ {l m : List Str}, l.Nodup → (∀ k ∈ l, k ∈ m) → m.length ≤ l.length → l.Perm m
    | [], m, _, _, hl => by
      cases m with
      | nil => exact List.Perm.refl _
      | cons a m => exact absurd hl (by simp)
    | k :: l, m, hd, hs, hl => by
      obtain ⟨h1, h2⟩ := List.nodup_cons.mp hd
      have hk := hs k List.mem_cons_self
      have p := List.perm_cons_erase hk
      refine (List.Perm.cons k (perm_of_sub h2 (fun x hx => ?_) ?_)).trans p.symm
      · have ne : x ≠ k := fun e => h1 (e ▸ hx)
        exact (List.mem_erase_of_ne ne).mpr (hs x (List.mem_cons_of_mem _ hx))
      · rw [List.length_erase_of_mem hk]
        rw [List.length_cons] at hl
        omega
end
end Qy

namespace Qy
open PySem PySem.Spec PyProof.Rows L2 PySem.Froz Qs
/-- a tracked set of texts -/
def SetXO (P : Program) (w : World) (a : Addr) (l : List Str) : HO := .ext fun h => SetX P w h a l
theorem setX_at {P : Program} {w : World} {h h' : Heap} {a : Addr} {l : List Str} (R : SetX P w h a l) (k : ∀ o, h.get? a = some o → h'.get? a = some o) : SetX P w h' a l := by
  obtain ⟨D, e, r⟩ := R
  exact ⟨D, k _ e, r⟩
theorem setX_new {w : World} {P : Program} {H : Hp} {h : Heap} {a : Addr} {l : List Str} (R : SetX P w h a l) : ObjOk P w H h a (SetXO P w a l) :=
  ⟨R, by obtain ⟨D, e, _⟩ := R; exact ⟨_, e⟩, fun h1 h2 r k => setX_at r k⟩
section
variable {X : Cx} {K : PySem.W.Frag}
/-- set(a text of unlike ascii signs) -/
def rSetTx (P : Program) (w : World) : List V → Hp → VK → Prop := fun xs H Q => ∃ z : Str, xs = [.str z] ∧ z.cps.all (· < 128) = true ∧ z.cps.toList.Nodup ∧ z.cps.toList.length < scanBound ∧
  ∀ p, H p = none → Q (.ref p) (upd H p (SetXO P w p ((z.cps.toList.map sing).reverse)))
theorem cr_setTx (hc : X.calm = true) : CallR X (.type "set") (rSetTx X.prog X.w) := by
  intro pins s σ H xs us Q I r h
  obtain ⟨z, rfl, ha, hd, hn, q⟩ := h
  obtain ⟨u, rfl, t, rfl⟩ := vals1 r
  refine call_set_text (I.ok.hd hc) ha hd hn fun h' tk hs hk => ?_
  have k : ∀ b o, s.heap.get? b = some o → h'.get? b = some o := fun b o e => hk b o (Heap.lt_size e) e
  exact ⟨.ref _, _, I.laid (t' := tk) k (Nat.le_refl _) (setX_new hs), rfl, q _ (I.hok.fresh (Nat.le_refl _))⟩
/-- sorted(a set of texts) -/
def rSortedX (P : Program) (w : World) : List V → Hp → VK → Prop := fun xs H Q => ∃ (a : Addr) (l : List Str), xs = [.ref a] ∧ H a = some (SetXO P w a l) ∧ l.Nodup ∧ l.length < scanBound ∧
  ∀ (ss : List Str) (p : Addr), ss.Perm l → sortedS ss = true → H p = none → Q (.ref p) (upd H p (.lst (ss.map V.str)))
theorem cr_sortedX (hc : X.calm = true) : CallR X (.builtin "sorted") (rSortedX X.prog X.w) := by
  intro pins s σ H xs us Q I r h
  obtain ⟨a, l, rfl, hH, hd, hb, q⟩ := h
  obtain ⟨u, rfl, r1⟩ := vals1 r
  cases r1
  obtain ⟨R, _⟩ := I.hok a _ hH
  refine sorted_setX R (I.ok.hd hc) hd hb fun s' p out c ss k g o hp he hs pm so => ?_
  have hlen : (ss.map V.str).length ≤ sizeLine := by rw [List.length_map, pm.length_eq]; exact fits_of_scanBound hb
  have hn : H p = none := I.hok.fresh hp
  have J : Inv X pins σ (upd H p (.lst (ss.map V.str))) { s with heap := s'.heap, gens := s'.gens, drawn := s'.drawn, toks := s'.toks } :=
    I.call (ch := []) (Un.laid k hp hn) (I.hok.laid k hp ⟨hlen, out.toList, c, vals_of_strs hs, he⟩) (by rw [g]; exact I.bare) (fun _ z => nomatch z)
  have e : s' = { s with heap := s'.heap, gens := s'.gens, drawn := s'.drawn, toks := s'.toks } := by
    cases s'
    cases s
    cases o
    rfl
  rw [e]
  exact ⟨.ref p, _, J, rfl, q ss p pm so hn⟩
/-- list(text) -/
def rListTx : List V → Hp → VK → Prop := fun xs H Q => ∃ z : Str, xs = [.str z] ∧ z.length ≤ sizeLine ∧ ∀ p, H p = none → Q (.ref p) (upd H p (.lst (z.cps.toList.map fun c => V.str ⟨#[c]⟩)))
theorem call_listTx (hc : X.calm = true) : CallR X (.type "list") rListTx := by
  intro pins s σ H xs us Q I r h
  obtain ⟨z, rfl, hz, q⟩ := h
  obtain ⟨u, rfl, t, rfl⟩ := vals1 r
  refine call_list_str (I.ok.hd hc) z t (hn := hz) fun h' tk acc' c' k hS hacc => ?_
  have hsz : acc'.size = z.cps.size := hacc.1
  have hv : Vals (z.cps.toList.map fun c => V.str ⟨#[c]⟩) acc'.toList := by
    refine vals_by (by rw [List.length_map, Array.length_toList, Array.length_toList, hsz]) fun i x u hx hu => ?_
    rw [List.getElem?_map] at hx
    cases w : z.cps.toList[i]? with
    | none => rw [w] at hx; cases hx
    | some c =>
      rw [w] at hx
      have ex : x = V.str ⟨#[c]⟩ := (Option.some.inj hx).symm
      obtain ⟨c2, t2, hc2, e2⟩ := hacc.2 i u (by rw [← Array.getElem?_toList]; exact hu)
      rw [← Array.getElem?_toList, w] at hc2
      cases hc2
      rw [ex, e2]
      exact ⟨t2, rfl⟩
  refine ⟨.ref _, _, I.laid (t' := tk) (o := .lst (z.cps.toList.map fun c => V.str ⟨#[c]⟩)) k (Nat.le_refl _) ⟨by rw [List.length_map, Array.length_toList]; exact hz, acc'.toList, c', hv, hS⟩, rfl, q _ (I.hok.fresh (Nat.le_refl _))⟩
where
  vals_by : ∀ {xs : List V} {us : List Value}, xs.length = us.length → (∀ (i : Nat) x u, xs[i]? = some x → us[i]? = some u → RelV x u) → Vals xs us
    | [], [], _, _ => .nil
    | [], _ :: _, h, _ => by cases h
    | _ :: _, [], h, _ => by cases h
    | x :: xs, u :: us, h, k => .cons (k 0 x u rfl rfl) (vals_by (Nat.succ.inj h) fun i y w hy hw => k (i + 1) y w hy hw)
end
end Qy
set_option Elab.async false
set_option linter.all false
set_option maxRecDepth 100000
set_option maxHeartbeats 4000000
/-! Q10: enumerate(text), sorted, list(..), text[::-1], slices, join, isinstance. -/
namespace Qy
open PySem PySem.Spec PyProof.Rows L2 PySem.Froz Qs

/-! ### the order of texts -/
def leW (a b : List Nat) : Bool := !ltCps b a
theorem leW_total : ∀ a b : List Nat, (leW a b || leW b a) = true
  | [], [] => rfl
  | [], _ :: _ => rfl
  | _ :: _, [] => rfl
  | a :: r, b :: t => by
    have ih := leW_total r t
    unfold leW at ih ⊢
    unfold ltCps
    rcases Nat.lt_trichotomy a b with h | h | h
    · have h1 : decide (b < a) = false := decide_eq_false (by omega)
      have h2 : (b == a) = false := beq_eq_false_iff_ne.mpr (by omega)
      rw [h1, h2] <;> rfl
    · subst h
      rw [show decide (a < a) = false from decide_eq_false (Nat.lt_irrefl _), beq_self_eq_true]
      simpa using ih
    · have h1 : decide (a < b) = false := decide_eq_false (by omega)
      have h2 : (a == b) = false := beq_eq_false_iff_ne.mpr (by omega)
      rw [h1, h2] <;> simp
theorem leW_cons {a b : Nat} {r t : List Nat} : leW (a :: r) (b :: t) = true ↔ a < b ∨ (a = b ∧ leW r t = true) := by
  unfold leW
  show (!(decide (b < a) || (b == a && ltCps t r))) = true ↔ _
  rcases Nat.lt_trichotomy a b with h | h | h
  · have h1 : decide (b < a) = false := decide_eq_false (by omega)
    have h2 : (b == a) = false := beq_eq_false_iff_ne.mpr (by omega)
    rw [h1, h2]
    exact ⟨fun _ => .inl h, fun _ => rfl⟩
  · subst h
    rw [show decide (a < a) = false from decide_eq_false (Nat.lt_irrefl _), beq_self_eq_true]
    show (!(false || (true && ltCps t r))) = true ↔ _
    rw [Bool.false_or, Bool.true_and]
    exact ⟨fun h => .inr ⟨rfl, h⟩, fun h => h.elim (fun h => absurd h (Nat.lt_irrefl _)) (·.2)⟩
  · have h1 : decide (b < a) = true := decide_eq_true h
    rw [h1]
    exact ⟨fun h => (Bool.false_ne_true (by simpa using h)).elim, fun h => by omega⟩
theorem leW_trans : ∀ a b c : List Nat, leW a b = true → leW b c = true → leW a c = true
  | [], [], _, _, h => h
  | [], _ :: _, [], _, h => by cases h
  | [], _ :: _, _ :: _, _, _ => rfl
  | _ :: _, [], _, h, _ => by cases h
  | _ :: _, _ :: _, [], _, h => by cases h
  | a :: r, b :: t, c :: u, h, h2 => by
    rw [leW_cons] at h h2 ⊢
    rcases h with h | ⟨e, h⟩
    · rcases h2 with h2 | ⟨e2, h2⟩
      · exact .inl (by omega)
      · exact .inl (by omega)
    · rcases h2 with h2 | ⟨e2, h2⟩
      · exact .inl (by omega)
      · exact .inr ⟨e.trans e2, leW_trans r t u h h2⟩
theorem leW_antisymm : ∀ a b : List Nat, leW a b = true → leW b a = true → a = b
  | [], [], _, _ => rfl
  | [], _ :: _, _, h => by cases h
  | _ :: _, [], h, _ => by cases h
  | a :: r, b :: t, h, h2 => by
    rw [leW_cons] at h h2
    rcases h with h | ⟨e, h⟩
    · rcases h2 with h2 | ⟨e2, h2⟩
      · omega
      · omega
    · rcases h2 with h2 | ⟨e2, h2⟩
      · omega
      · rw [e, leW_antisymm r t h h2]
def sortW (ws : List (List Nat)) : List (List Nat) := ws.mergeSort leW
theorem sortW_perm (ws : List (List Nat)) : (sortW ws).Perm ws := List.mergeSort_perm ws leW
theorem sortW_sorted (ws : List (List Nat)) : (sortW ws).Pairwise fun a b => leW a b = true := List.pairwise_mergeSort leW_trans leW_total ws
theorem perm_sorted_eq : ∀ {xs ys : List (List Nat)}, xs.Perm ys → xs.Pairwise (fun a b => leW a b = true) → ys.Pairwise (fun a b => leW a b = true) → xs = ys
  | [], ys, p, _, _ => (List.Perm.nil_eq p)
  | x :: xs, [], p, _, _ => by cases p.length_eq
  | x :: xs, y :: ys, p, h, h2 => by
    obtain ⟨h3, h4⟩ := List.pairwise_cons.mp h
    obtain ⟨h5, h6⟩ := List.pairwise_cons.mp h2
    have refl : ∀ a : List Nat, leW a a = true := fun a => by
      have := leW_total a a
      simpa using this
    have e1 : leW x y = true := by
      have hy : y ∈ x :: xs := p.mem_iff.mpr List.mem_cons_self
      rcases List.mem_cons.mp hy with e | hy
      · rw [e]; exact refl x
      · exact h3 y hy
    have e2 : leW y x = true := by
      have hx : x ∈ y :: ys := p.mem_iff.mp List.mem_cons_self
      rcases List.mem_cons.mp hx with e | hx
      · rw [e]; exact refl y
      · exact h5 x hx
    have e := leW_antisymm x y e1 e2
    subst e
    rw [perm_sorted_eq (List.Perm.cons_inv p) h4 h6]
theorem sortW_eq {xs ys : List (List Nat)} (p : ys.Perm xs) (h : ys.Pairwise fun a b => leW a b = true) : sortW xs = ys := perm_sorted_eq ((sortW_perm xs).trans p.symm) (sortW_sorted xs) h
theorem sortW_of_perm {xs ys : List (List Nat)} (p : xs.Perm ys) : sortW xs = sortW ys := sortW_eq ((sortW_perm ys).trans p.symm) (sortW_sorted ys)
theorem rising_pairwise : ∀ (p : Str) (l : List Str), risingS p l = true → (p :: l).Pairwise fun a b => leW a.cps.toList b.cps.toList = true
  | p, [], _ => List.pairwise_singleton ..
  | p, x :: r, h => by
    have h : (!ltCps x.cps.toList p.cps.toList && risingS x r) = true := h
    obtain ⟨h1, h2⟩ := Bool.and_eq_true_iff.mp h
    have ih := rising_pairwise x r h2
    refine List.pairwise_cons.mpr ⟨fun y hy => ?_, ih⟩
    rcases List.mem_cons.mp hy with e | hy
    · rw [e]; exact h1
    · exact leW_trans _ _ _ h1 ((List.pairwise_cons.mp ih).1 y hy)
theorem sortedS_pairwise : ∀ (l : List Str), sortedS l = true → l.Pairwise fun a b => leW a.cps.toList b.cps.toList = true
  | [], _ => List.Pairwise.nil
  | x :: r, h => rising_pairwise x r h
/-- a sorted arrangement of texts is the sorted list -/
theorem sorted_texts {ws : List (List Nat)} {ss : List Str} (p : ss.Perm (ws.map tx)) (h : sortedS ss = true) : ss = (sortW ws).map tx := by
  have h2 : (ss.map fun s => s.cps.toList).Pairwise fun a b => leW a b = true := List.pairwise_map.mpr (sortedS_pairwise ss h)
  have p2 : (ss.map fun s => s.cps.toList).Perm ws := by
    have q := p.map fun s : Str => s.cps.toList
    rw [List.map_map] at q
    have e : ws.map ((fun s : Str => s.cps.toList) ∘ tx) = ws := by
      rw [show ((fun s : Str => s.cps.toList) ∘ tx) = id from funext fun w => rfl, List.map_id]
    rw [e] at q
    exact q
  rw [sortW_eq p2 h2, List.map_map, show (tx ∘ fun s : Str => s.cps.toList) = id from funext fun s => tx_cps s, List.map_id]

section
variable {X : Cx} {K : PySem.W.Frag}
/-- sorted(a list of texts) -/
def rSortedSA (K : PySem.W.Frag) : List V → Hp → VK → Prop := fun vs H Q => ∃ (a : Addr) (xs : List Str), vs = [V.ref a] ∧ SqL K H a (xs.map V.str) ∧
  ∀ (ys : List Str) (p : Addr), ys.Perm xs → sortedS ys = true → H p = none → Q (.ref p) (upd H p (.lst (ys.map V.str)))
theorem cr_sortedSA : CallR X (.builtin "sorted") (rSortedSA X.K) := by
  intro pins s σ H vs us Q I r h
  obtain ⟨a, xs, rfl, hs, q⟩ := h
  obtain ⟨its, rv, hl, hz⟩ := I.list hs
  rw [Vals.ref1 r]
  have hlen0 := rv.length
  refine PyProof.Rows.sorted_strsAny hl.isList rv.strs (by rw [← hlen0]; exact hz) fun out ys h1 h2 h3 => ?_
  obtain ⟨ep, he'⟩ := PyProof.Rows.sortedAll_at s.heap its out
  have hlen : (ys.map V.str).length ≤ sizeLine := by
    rw [List.length_map, h2.length_eq]
    rw [List.length_map] at hz
    exact hz
  exact ⟨.ref _, upd H (s.heap.objs.size + 1) (.lst (ys.map V.str)), I.laid (t' := s.toks) (fun _ _ => PyProof.Rows.sortedAll_old) (Nat.le_succ _) ⟨hlen, out.toList, ep, vals_of_strs h1, he'⟩, rfl, q ys _ h2 h3 (I.hok.fresh (Nat.le_succ _))⟩
def gSortedS : List PV → Option PV
  | [.lst ps] => (allStr ps).map fun ws => .lst ((sortW ws).map PV.str)
  | _ => none
theorem rep_strs {F : Hp} {ws : List (List Nat)} : Reps K F (ws.map PV.str) ((ws.map tx).map V.str) := by
  rw [List.map_map]
  exact Reps.map (fun w => rep_str.mpr rfl) ws
theorem pure_sortedS : PureC K (rSortedSA K) gSortedS := by
  intro F H ps xs z Q s r hg k
  unfold gSortedS at hg
  split at hg
  · rename_i qs
    cases e : allStr qs with
    | none => rw [e] at hg; cases hg
    | some ws =>
      rw [e] at hg
      cases hg
      obtain ⟨x, rfl, rx⟩ := reps1 r
      obtain ⟨a, vs, rfl, ha, ra⟩ := rep_lst.mp rx
      rw [allStr_eq e] at ra
      rw [ra.strs] at ha
      refine ⟨a, ws.map tx, rfl, sql_tracked (s _ _ ha), fun ys p pm so hp => ?_⟩
      have e2 := sorted_texts pm so
      have ex := Ext.new s hp (.lst (ys.map V.str))
      refine k _ _ _ ex (rep_lst.mpr ⟨p, _, rfl, upd_same, ?_⟩)
      rw [e2]
      exact rep_strs
  · cases hg
/-- sorted(set(text)) -/
def qSortSet (q : PQ) : PQ := fun r k => q r fun p r1 => ∃ s, p = .str s ∧ s.all (· < 128) = true ∧ s.Nodup ∧ s.length < scanBound ∧ k (.lst ((sortW (s.map fun c => [c])).map PV.str)) r1
theorem qe_sortSet {e : Expr} {q : PQ} {p1 p2 pos1 pos2 : Pos} (hc : X.calm = true) (hg1 : Gl X "sorted") (hm1 : X.mg "sorted" = none) (hg2 : Gl X "set") (hm2 : X.mg "set" = none) (he0 : QE X e q)
    (he : starEach [e] X.env = (false, eval e X.env) :: starEach [] X.env := by rfl) (hpl : (backTo pos2 (starEach [] X.env)).any (·.1) = false := by rfl)
    (he2 : starEach [.Call (.Name "set" p2) [e] [] pos2] X.env = (false, eval (.Call (.Name "set" p2) [e] [] pos2) X.env) :: starEach [] X.env := by rfl) (hpl2 : (backTo pos1 (starEach [] X.env)).any (·.1) = false := by rfl)
    (hv1 : bootBuiltins "sorted" = some (.builtin "sorted") := by decide +kernel) (hv2 : bootBuiltins "set" = some (.type "set") := by decide +kernel) :
    QE X (.Call (.Name "sorted" p1) [.Call (.Name "set" p2) [e] [] pos2] [] pos1) (qSortSet q) := by
  refine ⟨fun r k k' i w => he0.mono _ _ _ (fun p r1 ⟨s, a, b, c, d, w⟩ => ⟨s, a, b, c, d, i _ _ w⟩) w, PE.to (pe_callB (cr_sortedX hc) hg1 hm1 hv1 (pa_cons (pe_callTy (cr_setTx hc) hg2 hm2 hv2 (pa_cons he0.pe pa_nil he) (by decide) (by decide) he hpl) pa_nil he2) (by decide) (by decide) he2 hpl2) fun σ H Q ⟨z, e0, ok, w⟩ => ?_⟩
  subst e0
  refine ⟨z, rfl, ok, he0.mono _ _ _ (fun p r1 w v z1 st1 ok1 e1 rp => ?_) w⟩
  subst e1
  obtain ⟨s, rfl, ha, hd, hn, w⟩ := w
  have ev : v = .str (tx s) := rep_str.mp rp
  subst ev
  refine ⟨tx s, rfl, by simpa [tx] using ha, hd, hn, fun p hp => ?_⟩
  refine ⟨p, _, rfl, upd_same, ?_, by rw [List.length_reverse, List.length_map]; exact hn, fun ss p2 pm so hp2 => ?_⟩
  · rw [(List.reverse_perm _).nodup_iff]
    exact nodup_sing hd
  · have pm2 : ss.Perm ((s.map fun c => [c]).map tx) := by
      refine pm.trans ((List.reverse_perm _).trans ?_)
      rw [List.map_map]
      exact List.Perm.refl _
    have e2 := sorted_texts pm2 so
    have ex1 := Ext.newH ok1.fh hp (SetXO X.prog X.w p ((s.map sing).reverse))
    obtain ⟨s1, o1⟩ := step_ext st1 ok1 ex1
    have ex2 := Ext.new o1.fh hp2 (.lst (ss.map V.str))
    obtain ⟨s2, o2⟩ := step_ext s1 o1 ex2
    refine w (.ref p2) _ s2 o2 rfl (rep_lst.mpr ⟨p2, _, rfl, upd_same, ?_⟩)
    rw [e2]
    exact rep_strs
where
  nodup_sing : ∀ {l : List Nat}, l.Nodup → (l.map sing).Nodup
    | [], _ => List.nodup_nil
    | c :: l, h => by
      obtain ⟨h1, h2⟩ := List.nodup_cons.mp h
      refine List.nodup_cons.mpr ⟨fun hm => ?_, nodup_sing h2⟩
      obtain ⟨d, hd, e⟩ := List.mem_map.mp hm
      have e2 : [d] = [c] := congrArg (fun y : Str => y.cps.toList) e
      exact h1 ((List.cons.inj e2).1 ▸ hd)
/-- list(a list | a tuple | a text) -/
def rListA (K : PySem.W.Frag) : List V → Hp → VK → Prop := fun xs H Q => rListTx xs H Q ∨ ∃ p ys, xs = [.ref p] ∧ (SqL K H p ys ∨ SqT K H p ys) ∧ ∀ l, H l = none → Q (.ref l) (upd H l (.lst ys))
theorem call_listA (hc : X.calm = true) : CallR X (.type "list") (rListA X.K) := CallR.or (call_listTx hc) call_list_of
def gList : List PV → Option PV
  | [.lst ps] => some (.lst ps)
  | [.tup ps] => some (.lst ps)
  | [.seq ps] => some (.lst ps)
  | [.str s] => if s.length ≤ sizeLine then some (.lst (signs s)) else none
  | _ => none
theorem pure_list : PureC K (rListA K) gList := by
  intro F H ps xs z Q s r hg k
  unfold gList at hg
  split at hg
  · cases hg
    obtain ⟨x, rfl, rx⟩ := reps1 r
    obtain ⟨a, vs, rfl, ha, ra⟩ := rep_lst.mp rx
    refine .inr ⟨a, vs, rfl, .inl (sql_tracked (s _ _ ha)), fun p hp => ?_⟩
    have ex := Ext.new s hp (.lst vs)
    exact k _ _ _ ex (rep_lst.mpr ⟨p, vs, rfl, upd_same, ra.mono ex.ff⟩)
  · cases hg
    obtain ⟨x, rfl, rx⟩ := reps1 r
    obtain ⟨a, vs, rfl, ha, ra⟩ := rep_tup.mp rx
    refine .inr ⟨a, vs, rfl, .inr (s.sqt ha), fun p hp => ?_⟩
    have ex := Ext.new s hp (.lst vs)
    exact k _ _ _ ex (rep_lst.mpr ⟨p, vs, rfl, upd_same, ra.mono ex.ff⟩)
  · cases hg
    obtain ⟨x, rfl, rx⟩ := reps1 r
    obtain ⟨a, vs, rfl, ha, ra⟩ := rep_seq.mp rx
    refine .inr ⟨a, vs, rfl, .inl (s.sql ha), fun p hp => ?_⟩
    have ex := Ext.new s hp (.lst vs)
    exact k _ _ _ ex (rep_lst.mpr ⟨p, vs, rfl, upd_same, ra.mono ex.ff⟩)
  · split at hg
    · rename_i st hz
      cases hg
      obtain ⟨x, rfl, rx⟩ := reps1 r
      rw [rep_str.mp rx]
      refine .inl ⟨tx st, rfl, by rw [tx_len]; exact hz, fun p hp => ?_⟩
      have ex := Ext.new s hp (.lst ((tx st).cps.toList.map fun c => V.str ⟨#[c]⟩))
      exact k _ _ _ ex (rep_lst.mpr ⟨p, _, rfl, upd_same, Reps.map (f := fun c => PV.str [c]) (g := fun c => V.str ⟨#[c]⟩) (fun c => rep_str.mpr rfl) st⟩)
    · cases hg
  · cases hg
/-! ### enumerate(text) -/
def IteS (x : Str) : It := ⟨fun i _ => i < x.cps.size, fun i H v H' => ∃ T c, v = .ref T ∧ H T = none ∧ H' = upd H T (.tup [.int (i : Nat), .str ⟨#[c]⟩]) ∧ x.cps[i]? = some c, fun i _ => i = x.cps.size⟩
theorem turn_enumS {P : Program} {w : World} {K : PySem.W.Frag} {elts : List Expr} {kk : Nat} {tpos : Pos} (x : Str) (t : Tok) (e it : Addr) :
    Turn P w K (.Tuple elts kk tpos) (IteS x) [e, it] e (fun i h => (∃ old, IsEnum h e it ((i : Nat) : Int) old) ∧ h.IsStrIter it (strIterType x) x t i ∧ e ≠ it) where
  mem := by simp
  obj := fun i h st b hb => by
    obtain ⟨⟨old, he⟩, ⟨o, ho, hc, hd⟩, _⟩ := st
    have e' : b = e ∨ b = it := by simpa using hb
    rcases e' with z | z
    · rw [z]; exact ⟨_, he, fun v q => nomatch q⟩
    · rw [z]; exact ⟨o, ho, fun v q => by rw [hd] at q; cases q⟩
  keep := fun i h h' st k => let ⟨⟨old, he⟩, ⟨o, ho, r⟩, hne⟩ := st; ⟨⟨old, k e (by simp) _ he⟩, ⟨o, k it (by simp) o ho, r⟩, hne⟩
  item := by
    intro X hP hw hK hc i pins s σ H E I hf st hg
    subst hP hw hK
    obtain ⟨⟨old, he⟩, hit, hne⟩ := st
    have D := Draws.text (prog := X.prog) (w := X.w) (A := X.A.in1) (I.ok.hd hc) it x t
    have hel : e < s.heap.objs.size := Heap.lt_size he
    have hil : it < s.heap.objs.size := by obtain ⟨_, q, _⟩ := hit; exact Heap.lt_size q
    refine wpAny_pyNext_enum_itemC D he hit hg hne (by simp [hne]) fun u h' tk hP ho hit' hT hsz hk => ?_
    obtain ⟨c, t2, hcx, rfl⟩ := hP
    refine ⟨_, rfl, wpAny_letOwnedTupleGo_enum (s := { s with heap := h', toks := tk + 1 }) ho fun h'' he' sb => ?_⟩
    have hT2 : h''.get? s.heap.objs.size = some { cls := .type "tuple", data := .seq #[.int i tk, .str ⟨#[c]⟩ t2] } := (sb.2 _ (Nat.ne_of_gt hel)).trans hT
    have new : ObjOk X.prog X.w (upd H s.heap.objs.size (.tup [.int (i : Nat), .str ⟨#[c]⟩])) h'' s.heap.objs.size (.tup [.int (i : Nat), .str ⟨#[c]⟩]) :=
      ⟨by show 2 ≤ sizeLine; decide, [.int i tk, .str ⟨#[c]⟩ t2], .cons ⟨_, rfl⟩ (.cons ⟨_, rfl⟩ .nil), ⟨_, hT2, rfl, _, rfl⟩⟩
    have I1 : Inv X pins σ (upd H s.heap.objs.size (.tup [.int (i : Nat), .str ⟨#[c]⟩])) { s with heap := h'', toks := tk + 1 } :=
      I.turnedNew (ch := [e, it]) (fun b ob hb q => (sb.2 b (fun z => hb (by simp [z]))).trans (hk b ob (fun z => hb (by simp [z])) (fun z => hb (by simp [z])) q)) hf (Nat.le_refl _) new
    refine ⟨.ref s.heap.objs.size, _, I1, rfl, ⟨_, c, rfl, I.hok.fresh (Nat.le_refl _), rfl, hcx⟩, ⟨⟨.str ⟨#[c]⟩ t2, ?_⟩, (let ⟨o, ho, r⟩ := hit'; ⟨o, (sb.2 it (Ne.symm hne)).trans ho, r⟩), hne⟩, fun b hb => ?_⟩
    · have e1 : ((i + 1 : Nat) : Int) = (i : Int) + 1 := by omega
      rw [e1]; exact he'
    · have hb' : b < s.heap.objs.size := by
        have e' : b = e ∨ b = it := by simpa using hb
        rcases e' with z | z
        · rw [z]; exact hel
        · rw [z]; exact hil
      rw [upd_ne (Nat.ne_of_lt hb')]
      exact (hf b hb).1
  done := by
    intro X hP hw hK hc i pins s σ H E I hf st hg
    subst hP hw hK
    obtain ⟨⟨old, he⟩, hit, hne⟩ := st
    obtain ⟨f0, f1, f2, f3, f4, f5⟩ := hf it (by simp)
    have D := Draws.text (prog := X.prog) (w := X.w) (A := X.A.in1) (I.ok.hd hc) it x t
    have hg : i = x.cps.size := hg
    subst hg
    exact wpAny_pyNext_enum_endD D he hit fun h' eb => ⟨rfl, I.turned (t' := s.toks) (fun b o hb q => eb b o hb q) f0 f1 f3 f4 f5⟩
  self := fun A i s Q E st h => let ⟨⟨_, he⟩, _⟩ := st; wpAny_pyIter_enum he h
def iEnumS (ta : TA) : TI := fun σ H R => ta σ H fun vs H1 => ∃ x, vs = [.str x] ∧ R (IteS x) H1
theorem pi_enumS {e : Expr} {ta : TA} {p pos tpos : Pos} {elts : List Expr} {kk : Nat} (hg : Gl X "enumerate") (hm : X.mg "enumerate" = none) (ha : PA X [e] ta) (hs : starEach [e] X.env = [(false, eval e X.env)] := by rfl) :
    PI X (.Tuple elts kk tpos) (.Call (.Name "enumerate" p) [e] [] pos) (iEnumS ta) := by
  refine ⟨fun pins s σ H R I h => ?_⟩
  refine Call_ (ld_blt I hg hm boot_enumerate (PyProof.Rows.callWith_type1 (thn (ha.run pos pins s σ H _ I h) fun us s1 ⟨vs, H1, I1, r1, q1⟩ => ?_) hs rfl))
  obtain ⟨x, ex, q⟩ := q1
  subst ex
  cases r1 with
  | cons r rr =>
    cases rr
    obtain ⟨t, rfl⟩ := r
    refine call_enumerate_str fun h' he hit hsz hk => wpAny_pyIter_enum he ?_
    have I2 : Inv X pins σ H1 { s1 with heap := h' } := I1.kept (t' := s1.toks) hk
    refine ⟨s1.heap.objs.size + 1, [s1.heap.objs.size + 1, s1.heap.objs.size], _, _, H1, rfl, I2, turn_enumS x t (s1.heap.objs.size + 1) s1.heap.objs.size, ⟨⟨.none, he⟩, hit, Nat.succ_ne_self _⟩, fun b hb => ?_, q⟩
    have e' : b = s1.heap.objs.size + 1 ∨ b = s1.heap.objs.size := by simpa using hb
    have hle : s1.heap.objs.size ≤ b := by
      rcases e' with z | z
      · rw [z]; exact Nat.le_add_right _ _
      · rw [z]; exact Nat.le_refl _
    exact I1.fpOk hle (I1.hok.fresh hle)
/-- the pairs of enumerate -/
def numbered (s : List Nat) : List PV := s.zipIdx.map fun (c, i) => .tup [.int (i : Int), .str [c]]
theorem numbered_get {s : List Nat} {i : Nat} : (numbered s)[i]? = s[i]?.map fun c => PV.tup [.int (i : Int), .str [c]] := by
  unfold numbered
  rw [List.getElem?_map, List.getElem?_zipIdx, Option.map_map]
  cases s[i]? with
  | none => rfl
  | some c => simp
theorem numbered_length (s : List Nat) : (numbered s).length = s.length := by
  unfold numbered
  rw [List.length_map, List.length_zipIdx]
theorem Wk.enumS {z0 : Z} {s : List Nat} : Wk K z0 (numbered s) (IteS (tx s)) where
  go := fun z σ i st ok hi => by
    show i < s.toArray.size
    rw [numbered_length] at hi
    simpa using hi
  yld := fun z σ i x H' p st ok hp hy => by
    obtain ⟨T, c, rfl, hT, rfl, hc⟩ := hy
    have e1 : s[i]? = some c := by simpa using hc
    rw [numbered_get, e1] at hp
    have e2 : p = .tup [.int (i : Int), .str [c]] := (Option.some.inj hp).symm
    rw [e2]
    have ex := Ext.new ok.fh hT (.tup [.int (i : Nat), .str ⟨#[c]⟩])
    exact ⟨_, ex, rep_tup.mpr ⟨T, _, rfl, .inl (.inl upd_same), .cons (rep_int.mpr rfl) (.one (rep_str.mpr rfl))⟩⟩
  stop := fun z σ i st ok hi => by
    show i = s.toArray.size
    rw [numbered_length] at hi
    rw [hi]
    simp
def qEnumS (q : PQ) : PQA := fun r k => q r fun p r1 => ∃ s, p = .str s ∧ k (numbered s) r1
theorem qi_enumS {e : Expr} {q : PQ} {p pos tpos : Pos} {elts : List Expr} {kk : Nat} (hg : Gl X "enumerate") (hm : X.mg "enumerate" = none) (he : QE X e q) (hs : starEach [e] X.env = [(false, eval e X.env)] := by rfl) (hs2 : starEach [e] X.env = (false, eval e X.env) :: starEach [] X.env := by rfl) :
    QI X (.Tuple elts kk tpos) (.Call (.Name "enumerate" p) [e] [] pos) (qEnumS q) := by
  refine ⟨fun r k k' i w => he.mono _ _ _ (fun p r1 ⟨s, e, w⟩ => ⟨s, e, i _ _ w⟩) w, PI.to (pi_enumS hg hm (pa_cons he.pe pa_nil hs2) hs) fun σ H R ⟨z, e0, ok, w⟩ => ?_⟩
  subst e0
  refine ⟨z, rfl, ok, he.mono _ _ _ (fun p r1 w v z1 st1 ok1 e1 rp => ?_) w⟩
  subst e1
  obtain ⟨s, rfl, w⟩ := w
  exact ⟨_, by rw [rep_str.mp rp], w _ z1 st1 ok1 rfl Wk.enumS⟩
end
end Qy
set_option Elab.async false
set_option linter.all false
set_option maxRecDepth 100000
set_option maxHeartbeats 4000000
/-! Q11: text[::-1], slices, join, isinstance, dict displays, d[k], d.get, [.. for .. for ..], a, b = x, y. -/
namespace Qy
open PySem PySem.Spec PyProof.Rows L2 PySem.Froz Qs
section
variable {X : Cx} {K : PySem.W.Frag}
/-! ### text[::-1] -/
def tRevS (te : TE) : TE := fun σ H Q => te σ H fun x H1 => ∃ z : List Nat, x = .str (tx z) ∧ z.length ≤ sizeLine ∧ Q (.str (tx z.reverse)) H1
theorem rev_pick (z : List Nat) : (Builtin.Str.strSliceIndices none none (-1) z.length).filterMap (fun i => (tx z).cps[i]?) = z.reverse := by
  have e : Builtin.Str.strSliceIndices none none (-1) z.length = (List.range z.length).map fun k => z.length - 1 - k := PySem.W.krv_sliceRange z.length
  rw [e, PySem.W.krv_range, List.filterMap_reverse]
  have h := PySem.W.krv_all z.toArray
  have e2 : z.toArray.size = z.length := by simp
  rw [e2] at h
  have e3 : (List.range z.length).filterMap (fun i => (tx z).cps[i]?) = z := h
  rw [e3]
theorem pe_revS {e : Expr} {te : TE} {k : Nat} {p1 p2 p3 pos : Pos} (he : PE X e te) : PE X (.Subscript e (.Slice none none (some (.UnaryOp .USub (.Constant (.int 1) k p1) p2)) p3) pos) (tRevS te) := by
  refine ⟨fun pins s σ H Q I h => ?_⟩
  refine Subscript_ (thn (he.run pins s σ H _ I h) fun v s1 ⟨x, H1, I1, r1, q1⟩ => ?_)
  obtain ⟨z, ex, hz, q⟩ := q1
  subst ex
  obtain ⟨t, rfl⟩ := r1
  have hst : PO X (some (.UnaryOp .USub (.Constant (.int 1) k p1) p2)) (tPart (tUn (rU fun i => .int (-i)) (tC (.int 1)))) := po_some (pe_un un_neg pe_int)
  refine wpAny_Slice (thn (po_none.run pins s1 σ H1 (fun o H2 => o = none ∧ H2 = H1) I1 ⟨rfl, rfl⟩) fun vl s2 ⟨l, H2, I2, pl, el, e2⟩ => ?_)
  subst el e2
  refine thn (po_none.run pins s2 σ H2 (fun o H3 => o = none ∧ H3 = H2) I2 ⟨rfl, rfl⟩) fun vu s3 ⟨u, H3, I3, pu, eu, e3⟩ => ?_
  subst eu e3
  refine thn (hst.run pins s3 σ H3 (fun o H4 => o = some (-1) ∧ H4 = H3) I3 ⟨1, rfl, -1, rfl, rfl, rfl⟩) fun vs s4 ⟨o, H4, I4, ps, eo, e4⟩ => ?_
  subst eo e4
  have I5 : Inv X pins σ H4 { s4 with heap := s4.heap.push { cls := .type "slice", data := .fields #[vl, vu, vs] } } := I4.kept (t' := s4.toks) fun b ob q => Heap.get?_push_of_some _ q
  show wpAny (model X.prog X.w) X.A (subscriptTail e (.Slice none none (some (.UnaryOp .USub (.Constant (.int 1) k p1) p2)) p3) (.str (tx z) t) (.ref s4.heap.objs.size)) (EP X pins σ Q) X.xe { s4 with heap := s4.heap.push { cls := .type "slice", data := .fields #[vl, vu, vs] } }
  refine tail_any (ops := [.ref s4.heap.objs.size, .str (tx z) t]) (typeIs_str _ _ _) (F.slot_str_getitem.lookup) ?_ (by with_unfolding_all rfl)
  cases pl with
  | none =>
    cases pu with
    | none =>
      cases ps with
      | int i tt =>
        refine wpAny_getItem_str_slice (l := none) (u := none) (st := some (-1, tt)) (Heap.IsSliceOf.new _ _ _ _) rfl ?_
        have hl : (tx z).length = z.length := tx_len z
        unfold sliceMade
        rw [if_neg (by show ¬ (((-1 : Int) == 1 && _) = true); simp)]
        have e5 : (slicePicked (tx z) none none (some (-1, tt))).filterMap (fun i => (tx z).cps[i]?) = z.reverse := by
          show (Builtin.Str.strSliceIndices none none (-1) (tx z).length).filterMap _ = _
          rw [hl]
          exact rev_pick z
        show Made.post (.str ⟨((slicePicked (tx z) none none (some (-1, tt))).filterMap (fun i => (tx z).cps[i]?)).toArray⟩) _ _
        rw [e5]
        exact made_str I5 (by rw [tx_len, List.length_reverse]; exact hz) q
where
  made_str {pins : List (Addr × Obj)} {s : Shared} {σ : L2.St} {H : Hp} {Q : VK} {y : Str} (I : Inv X pins σ H s) (hz : y.length ≤ sizeLine) (q : Q (.str y) H) : Made.post (.str y) (EP X pins σ Q) s := by
    have := I
    first
      | exact ⟨hz, ⟨.str y, H, I.tok _, ⟨_, rfl⟩, q⟩⟩
      | exact ⟨.str y, H, I.tok _, ⟨_, rfl⟩, q⟩
def gRevS : PV → Option PV
  | .str z => if z.length ≤ sizeLine then some (.str z.reverse) else none
  | _ => none
theorem qe_revS {e : Expr} {q : PQ} {k : Nat} {p1 p2 p3 pos : Pos} (he : QE X e q) : QE X (.Subscript e (.Slice none none (some (.UnaryOp .USub (.Constant (.int 1) k p1) p2)) p3) pos) (qUn gRevS q) := by
  refine ⟨mono_un he.mono, PE.to (pe_revS he.pe) fun σ H Q ⟨z, e0, ok, w⟩ => ?_⟩
  subst e0
  refine ⟨z, rfl, ok, he.mono _ _ _ (fun p r1 w v z1 st1 ok1 e1 rp => ?_) w⟩
  subst e1
  obtain ⟨y, hg, w⟩ := w
  cases p with
  | str st =>
    have hg : (if st.length ≤ sizeLine then some (PV.str st.reverse) else none) = some y := hg
    split at hg
    · rename_i hz
      cases hg
      exact ⟨st, rep_str.mp rp, hz, w _ z1 st1 ok1 rfl (rep_str.mpr rfl)⟩
    · cases hg
  | _ => cases hg

/-! ### slices -/
abbrev PQO := Rs → (Option Int → Rs → Prop) → Prop
def liftO (K : PySem.W.Frag) (q : PQO) : TO := fun σ H Q => ∃ z : Z, z.H = H ∧ z.Ok K σ ∧ q z.r fun o r' => ∀ (z' : Z), Stp z z' → z'.Ok K σ → z'.r = r' → Q o z'.H
structure QO (X : Cx) (e : Option Expr) (q : PQO) : Prop where
  mono : Mono q
  po : PO X e (liftO X.K q)
theorem PO.to {e : Option Expr} {t t' : TO} (h : PO X e t) (i : ∀ σ H Q, t' σ H Q → t σ H Q) : PO X e t' := ⟨fun pins s σ H Q I w => h.run pins s σ H Q I (i σ H Q w)⟩
def qoNone : PQO := fun r k => k none r
def qoSome (q : PQ) : PQO := fun r k => q r fun p r1 => ∃ i, p = .int i ∧ k (some i) r1
theorem qo_none : QO X none qoNone := ⟨fun _ _ _ h w => h _ _ w, PO.to po_none fun σ H Q ⟨z, e, ok, w⟩ => by subst e; exact w z (Stp.refl z) ok rfl⟩
theorem qo_some {e : Expr} {q : PQ} (h : QE X e q) : QO X (some e) (qoSome q) := by
  refine ⟨fun r k k' i w => h.mono _ _ _ (fun p r1 ⟨j, e, w⟩ => ⟨j, e, i _ _ w⟩) w, PO.to (po_some h.pe) fun σ H Q ⟨z, e0, ok, w⟩ => ?_⟩
  subst e0
  refine ⟨z, rfl, ok, h.mono _ _ _ (fun p r1 w v z1 st1 ok1 e1 rp => ?_) w⟩
  subst e1
  obtain ⟨i, rfl, w⟩ := w
  exact ⟨i, rep_int.mp rp, w z1 st1 ok1 rfl⟩
def cutL {α : Type} (xs : List α) (lo hi : Option Int) : List α := (xs.drop (HT.sIx xs.length 0 lo)).take (HT.sIx xs.length xs.length hi - HT.sIx xs.length 0 lo)
theorem cut_reps {F : Hp} {ps : List PV} {vs : List V} (r : Reps K F ps vs) (lo hi : Option Int) : Reps K F (cutL ps lo hi) (cutV vs lo hi) := by
  unfold cutL cutV
  rw [r.length]
  exact (r.drop _).take _
theorem cut_tx (z : List Nat) (lo hi : Option Int) : cutS (tx z) lo hi = tx (cutL z lo hi) := by
  unfold cutS cutL
  rw [tx_len]
theorem cut_whole {α : Type} {xs : List α} {lo hi : Option Int} (h : HT.sIx xs.length 0 lo = 0 ∧ HT.sIx xs.length xs.length hi = xs.length) : cutL xs lo hi = xs := by
  unfold cutL
  rw [h.1, h.2, List.drop_zero, Nat.sub_zero, List.take_length]
def gSl : PV → Option Int → Option Int → Option PV
  | .str z, lo, hi => if z.length ≤ sizeLine then some (.str (cutL z lo hi)) else none
  | .tup ps, lo, hi => some (.tup (cutL ps lo hi))
  | .lst ps, lo, hi => some (.lst (cutL ps lo hi))
  | .seq ps, lo, hi => some (.lst (cutL ps lo hi))
  | _, _, _ => none
def rSlAll (K : PySem.W.Frag) : V → Option Int → Option Int → Hp → VK → Prop := fun x lo hi H Q => rSlS x lo hi H Q ∨ rSlA K x lo hi H Q ∨ rSlL K x lo hi H Q
theorem sl_all : SlR X (rSlAll X.K) := SlR.or sl_str (SlR.or sl_tupA sl_list)
def qSl (q : PQ) (ql qh : PQO) : PQ := fun r k => q r fun p r1 => ql r1 fun lo r2 => qh r2 fun hi r3 => ∃ z, gSl p lo hi = some z ∧ k z r3
theorem qe_slice {e : Expr} {lo hi : Option Expr} {q : PQ} {ql qh : PQO} {p2 pos : Pos} (he : QE X e q) (hl : QO X lo ql) (hu : QO X hi qh) : QE X (.Subscript e (.Slice lo hi none p2) pos) (qSl q ql qh) := by
  refine ⟨fun r k k' i w => he.mono _ _ _ (fun p r1 w => hl.mono _ _ _ (fun a r2 w => hu.mono _ _ _ (fun b r3 ⟨z, e, w⟩ => ⟨z, e, i _ _ w⟩) w) w) w, PE.to (pe_slice sl_all he.pe hl.po hu.po) fun σ H Q ⟨z, e0, ok, w⟩ => ?_⟩
  subst e0
  refine ⟨z, rfl, ok, he.mono _ _ _ (fun p r1 w v z1 st1 ok1 e1 rp => ?_) w⟩
  subst e1
  refine ⟨z1, rfl, ok1, hl.mono _ _ _ (fun lo r2 w z2 st2 ok2 e2 => ?_) w⟩
  subst e2
  refine ⟨z2, rfl, ok2, hu.mono _ _ _ (fun hi r3 w z3 st3 ok3 e3 => ?_) w⟩
  subst e3
  obtain ⟨y, hg, w⟩ := w
  have st := st1.trans (st2.trans st3)
  have rp := rp.mono (st2.trans st3).ff
  unfold gSl at hg
  split at hg
  · split at hg
    · rename_i zz lo hi hz
      cases hg
      exact .inl ⟨_, rep_str.mp rp, by rw [tx_len]; exact hz, by rw [cut_tx]; exact w _ z3 st ok3 rfl (rep_str.mpr rfl)⟩
    · cases hg
  · cases hg
    obtain ⟨a, vs, rfl, ha, ra⟩ := rep_tup.mp rp
    refine .inr (.inl ⟨a, vs, rfl, ok3.fh.sqt ha, fun hw => ?_, fun _ p hp => ?_⟩)
    · rw [ra.length] at hw
      rw [cut_whole hw] at w
      exact w _ z3 st ok3 rfl (rep_tup.mpr ⟨a, vs, rfl, ha, ra⟩)
    · have ex := Ext.new ok3.fh hp (.tup (cutV vs lo hi))
      obtain ⟨s4, o4⟩ := step_ext st ok3 ex
      exact w _ _ s4 o4 rfl (rep_tup.mpr ⟨p, _, rfl, .inl (.inl upd_same), (cut_reps ra _ _).mono ex.ff⟩)
  · cases hg
    obtain ⟨a, vs, rfl, ha, ra⟩ := rep_lst.mp rp
    refine .inr (.inr ⟨a, vs, rfl, sql_tracked (ok3.fh _ _ ha), fun p hp => ?_⟩)
    have ex := Ext.new ok3.fh hp (.lst (cutV vs lo hi))
    obtain ⟨s4, o4⟩ := step_ext st ok3 ex
    exact w _ _ s4 o4 rfl (rep_lst.mpr ⟨p, _, rfl, upd_same, (cut_reps ra _ _).mono ex.ff⟩)
  · cases hg
    obtain ⟨a, vs, rfl, ha, ra⟩ := rep_seq.mp rp
    refine .inr (.inr ⟨a, vs, rfl, ok3.fh.sql ha, fun p hp => ?_⟩)
    have ex := Ext.new ok3.fh hp (.lst (cutV vs lo hi))
    obtain ⟨s4, o4⟩ := step_ext st ok3 ex
    exact w _ _ s4 o4 rfl (rep_lst.mpr ⟨p, _, rfl, upd_same, (cut_reps ra _ _).mono ex.ff⟩)
  · cases hg
/-! ### sep.join(texts) -/
def joinT (sep : List Nat) : List (List Nat) → List Nat
  | [] => []
  | [p] => p
  | p :: q :: r => p ++ (sep ++ joinT sep (q :: r))
theorem join_tx (sep : List Nat) : ∀ ws : List (List Nat), Txt.join (tx sep) (ws.map tx) = tx (joinT sep ws) := by
  intro ws
  rw [TL.join_eq]
  have h := TL.tl_join (tx sep) (ws.map tx)
  have e : TL.joinL (TL.tl (tx sep)) ((ws.map tx).map TL.tl) = joinT sep ws := by
    rw [List.map_map, show (TL.tl ∘ tx) = id from funext fun w => rfl, List.map_id]
    exact go sep ws
  rw [e] at h
  have h2 : tx (Str.join (tx sep) (ws.map tx)).cps.toList = tx (joinT sep ws) := congrArg tx h
  rw [tx_cps] at h2
  exact h2
where
  go (sep : List Nat) : ∀ ws : List (List Nat), TL.joinL sep ws = joinT sep ws
    | [] => rfl
    | [_] => rfl
    | p :: q :: r => by
      show p ++ (sep ++ TL.joinL sep (q :: r)) = p ++ (sep ++ joinT sep (q :: r))
      rw [go sep (q :: r)]
theorem joinT_nil : ∀ ws : List (List Nat), joinT [] ws = ws.flatten
  | [] => rfl
  | [p] => by simp [joinT]
  | p :: q :: r => by
    show p ++ ([] ++ joinT [] (q :: r)) = p ++ (q :: r).flatten
    rw [List.nil_append, joinT_nil (q :: r)]
def strsOf : PV → Option (List (List Nat))
  | .lst ps => allStr ps
  | .tup ps => allStr ps
  | .seq ps => allStr ps
  | _ => none
def gJoin : PV → List PV → Option PV
  | .str sep, [q] => (strsOf q).bind fun ws => if (ws.map List.length).sum + ws.length * sep.length ≤ 16777216 then some (.str (joinT sep ws)) else none
  | _, _ => none
abbrev rJoin (K : PySem.W.Frag) : V → List V → Hp → VK → Prop := fun x xs H Q => ∃ a p, ∃ ys : List Str, x = .str a ∧ xs = [.ref p] ∧ (SqL K H p (ys.map V.str) ∨ SqT K H p (ys.map V.str)) ∧
    (ys.map (·.length)).sum + ys.length * a.length ≤ 16777216 ∧ Q (.str (Txt.join a ys)) H
theorem pure_join : PureM K (rJoin K) gJoin := by
  intro F H p ps x xs z Q s rp r hg k
  unfold gJoin at hg
  split at hg
  · rename_i sep q
    cases e : strsOf q with
    | none => rw [e] at hg; cases hg
    | some ws =>
      rw [e] at hg
      have hg : (if (ws.map List.length).sum + ws.length * sep.length ≤ 16777216 then some (PV.str (joinT sep ws)) else none) = some z := hg
      split at hg
      · rename_i hz
        cases hg
        obtain ⟨y, rfl, ry⟩ := reps1 r
        have len : ((ws.map tx).map (·.length)).sum + (ws.map tx).length * (tx sep).length ≤ 16777216 := by
          rw [List.map_map, List.length_map, tx_len, show ((fun x : Str => x.length) ∘ tx) = List.length from funext fun w => tx_len w]
          exact hz
        have fin : ∀ {a : Addr}, (SqL K H a ((ws.map tx).map V.str) ∨ SqT K H a ((ws.map tx).map V.str)) → y = .ref a → rJoin K x [y] H Q := fun {a} h ey => by
          refine ⟨tx sep, a, ws.map tx, rep_str.mp rp, by rw [ey], h, len, ?_⟩
          rw [join_tx]
          exact k _ _ _ (Ext.refl s) (rep_str.mpr rfl)
        cases q with
        | lst qs =>
          obtain ⟨a, vs, ey, ha, ra⟩ := rep_lst.mp ry
          rw [allStr_eq (show allStr qs = some ws from e)] at ra
          rw [ra.strs] at ha
          exact fin (.inl (sql_tracked (s _ _ ha))) ey
        | tup qs =>
          obtain ⟨a, vs, ey, ha, ra⟩ := rep_tup.mp ry
          rw [allStr_eq (show allStr qs = some ws from e)] at ra
          rw [ra.strs] at ha
          exact fin (.inr (s.sqt ha)) ey
        | seq qs =>
          obtain ⟨a, vs, ey, ha, ra⟩ := rep_seq.mp ry
          rw [allStr_eq (show allStr qs = some ws from e)] at ra
          rw [ra.strs] at ha
          exact fin (.inl (s.sql ha)) ey
        | _ => cases e
      · cases hg
  · cases hg
/-! ### isinstance with built-in types -/
def tyN : PV → Option String
  | .non => some "NoneType"
  | .bl _ => some "bool"
  | .int _ => some "int"
  | .str _ => some "str"
  | .tup _ => some "tuple"
  | .lst _ => some "list"
  | .seq _ => some "list"
  | .dct _ _ => some "dict"
  | .ins _ _ _ => none
theorem tyN_ok {F H : Hp} (s : Sub F H) {p : PV} {x : V} {a : String} (r : Rep K F p x) (h : tyN p = some a) : TyX K H x (.type a) := by
  cases p with
  | non => cases h; rw [rep_non.mp r]; exact .base .non
  | bl b => cases h; rw [rep_bl.mp r]; exact .base (.bl b)
  | int b => cases h; rw [rep_int.mp r]; exact .base (.int b)
  | str b => cases h; rw [rep_str.mp r]; exact .base (.str _)
  | tup ps =>
    cases h
    obtain ⟨a, vs, rfl, q, _⟩ := rep_tup.mp r
    rcases q with (q | ⟨o, q⟩) | ⟨o, its, n, q, c, _⟩
    · exact .base (.tup (s _ _ q))
    · exact .fTuple (s _ _ q)
    · exact .kTuple q c
  | lst ps =>
    cases h
    obtain ⟨a, vs, rfl, q, _⟩ := rep_lst.mp r
    exact .base (.lst (s _ _ q))
  | seq ps =>
    cases h
    obtain ⟨a, vs, rfl, q, _⟩ := rep_seq.mp r
    rcases q with (q | ⟨o, q⟩) | ⟨o, its, n, q, c, _⟩
    · exact .base (.lst (s _ _ q))
    · exact .base (.frz (s _ _ q))
    · exact .kList q c
  | dct ks ps =>
    cases h
    obtain ⟨a, kvs, rfl, q, _⟩ := rep_dct.mp r
    exact .base (.dK (s _ _ q))
  | ins C fs ps => cases h
def qIsi (T : String) (q : PQ) : PQ := fun r k => q r fun p r1 => ∃ a b, tyN p = some a ∧ kitB a T = some b ∧ k (.bl b) r1
theorem qe_isi {e : Expr} {q : PQ} {T : String} {x : Str} {p1 p2 pos : Pos} (hg : Gl X "isinstance") (hm : X.mg "isinstance" = none) (hgT : Gl X x) (hmT : X.mg x = none) (hv : bootBuiltins x = some (.type T)) (he0 : QE X e q)
    (hn : x ≠ "__name__" := by decide) (hdb : (x == ("__debug__" : Str)) = false := by decide)
    (he : starEach (e :: [.Name x p2]) X.env = (false, eval e X.env) :: starEach [.Name x p2] X.env := by rfl) (he2 : starEach [.Name x p2] X.env = (false, eval (.Name x p2) X.env) :: starEach [] X.env := by rfl)
    (hpl : (backTo pos (starEach [.Name x p2] X.env)).any (·.1) = false := by rfl) : QE X (.Call (.Name "isinstance" p1) [e, .Name x p2] [] pos) (qIsi T q) := by
  refine ⟨fun r k k' i w => he0.mono _ _ _ (fun p r1 ⟨a, b, c, d, w⟩ => ⟨a, b, c, d, i _ _ w⟩) w, PE.to (pe_callB call_isi hg hm PyProof.Rows.boot_isinstance (pa_cons he0.pe (pa_cons (pe_bltn (v := .ty T) hgT hmT hv rfl hn hdb) pa_nil he2) he) (by decide) (by decide) he hpl) fun σ H Q ⟨z, e0, ok, w⟩ => ?_⟩
  subst e0
  refine ⟨z, rfl, ok, he0.mono _ _ _ (fun p r1 w v z1 st1 ok1 e1 rp => ?_) w⟩
  subst e1
  obtain ⟨a, b, ha, hb, w⟩ := w
  exact ⟨v, .ty T, .type a, .type T, b, rfl, .ty T, tyN_ok ok1.fh rp ha, kit_ty hb, w _ z1 st1 ok1 rfl (rep_bl.mpr rfl)⟩
def kitL (a : String) : List String → Option Bool
  | [] => some false
  | T :: r => match kitB a T with
    | some true => some true
    | some false => kitL a r
    | none => none
theorem kitL_ok {a : String} : ∀ {Ts : List String} {b : Bool}, kitL a Ts = some b → PySem.W.kitAny K (.type a) (Ts.map Value.type) = some b
  | [], b, h => h
  | T :: r, b, h => by
    unfold kitL at h
    show (match PySem.W.kitOne K (.type a) (.type T) with
      | some true => some true
      | some false => PySem.W.kitAny K (.type a) (r.map Value.type)
      | none => none) = some b
    cases e : kitB a T with
    | none => rw [e] at h; cases h
    | some c =>
      rw [e] at h
      rw [kit_ty e]
      cases c with
      | true => exact h
      | false => exact kitL_ok h
def qIsiT (Ts : List String) (q : PQ) : PQ := fun r k => q r fun p r1 => ∃ a b, tyN p = some a ∧ kitL a Ts = some b ∧ k (.bl b) r1
/-- isinstance(e, (T1, T2)) -/
theorem qe_isi2 {e : Expr} {q : PQ} {T U : String} {x y : Str} {kk : Nat} {p1 p2 p3 p4 pos : Pos} (hg : Gl X "isinstance") (hm : X.mg "isinstance" = none) (hgT : Gl X x) (hmT : X.mg x = none) (hv : bootBuiltins x = some (.type T)) (hgU : Gl X y) (hmU : X.mg y = none) (hvU : bootBuiltins y = some (.type U)) (he0 : QE X e q)
    (hn : x ≠ "__name__" := by decide) (hdb : (x == ("__debug__" : Str)) = false := by decide) (hn2 : y ≠ "__name__" := by decide) (hdb2 : (y == ("__debug__" : Str)) = false := by decide)
    (he : starEach (e :: [.Tuple [.Name x p2, .Name y p3] kk p4]) X.env = (false, eval e X.env) :: starEach [.Tuple [.Name x p2, .Name y p3] kk p4] X.env := by rfl) (he2 : starEach [.Tuple [.Name x p2, .Name y p3] kk p4] X.env = (false, eval (.Tuple [.Name x p2, .Name y p3] kk p4) X.env) :: starEach [] X.env := by rfl)
    (he3 : starEach (.Name x p2 :: [.Name y p3]) X.env = (false, eval (.Name x p2) X.env) :: starEach [.Name y p3] X.env := by rfl) (he4 : starEach [.Name y p3] X.env = (false, eval (.Name y p3) X.env) :: starEach [] X.env := by rfl)
    (hpl : (backTo pos (starEach [.Tuple [.Name x p2, .Name y p3] kk p4] X.env)).any (·.1) = false := by rfl) : QE X (.Call (.Name "isinstance" p1) [e, .Tuple [.Name x p2, .Name y p3] kk p4] [] pos) (qIsiT [T, U] q) := by
  refine ⟨fun r k k' i w => he0.mono _ _ _ (fun p r1 ⟨a, b, c, d, w⟩ => ⟨a, b, c, d, i _ _ w⟩) w, PE.to (pe_callB call_isiT hg hm PyProof.Rows.boot_isinstance (pa_cons he0.pe (pa_cons (pe_tup (pa_cons (pe_bltn (v := .ty T) hgT hmT hv rfl hn hdb) (pa_cons (pe_bltn (v := .ty U) hgU hmU hvU rfl hn2 hdb2) pa_nil he4) he3)) pa_nil he2) he) (by decide) (by decide) he hpl) fun σ H Q ⟨z, e0, ok, w⟩ => ?_⟩
  subst e0
  refine ⟨z, rfl, ok, he0.mono _ _ _ (fun p r1 w v z1 st1 ok1 e1 rp => ?_) w⟩
  subst e1
  obtain ⟨a, b, ha, hb, w⟩ := w
  refine ⟨by show 2 ≤ sizeLine; decide, fun p hp => ?_⟩
  have ex := Ext.newH ok1.fh hp (.tup [.ty T, .ty U])
  obtain ⟨s2, o2⟩ := step_ext st1 ok1 ex
  exact ⟨v, p, [.ty T, .ty U], .type a, [.type T, .type U], b, rfl, upd_same, .cons (.ty T) (.cons (.ty U) .nil), tyN_ok o2.fh (rp.mono ex.ff) ha, kitL_ok (Ts := [T, U]) hb, w _ _ s2 o2 rfl (rep_bl.mpr rfl)⟩
end
end Qy
set_option Elab.async false
set_option linter.all false
set_option maxRecDepth 100000
set_option maxHeartbeats 4000000
/-! Q12: dicts (displays, d[k], d.get(k, x)); comprehensions of two clauses. -/
namespace Qy
open PySem PySem.Spec PyProof.Rows L2

/-! ### a thing aside: written, frozen -/
section
variable {K : PySem.W.Frag} {z z1 z2 : Z} {σ : L2.St} {D : Addr} {o o' : HO}
theorem aside_new (ok : z.Ok K σ) (hD : z.H D = none) (o : HO) : ∃ z', Stp z z' ∧ z'.Ok K σ ∧ z'.r = z.r ∧ z'.H = upd z.H D o ∧ Aside z' D o :=
  ⟨⟨z.F, upd z.H D o, z.r, z.ad⟩, Stp.ext ok (Ext.newH ok.fh hD o), ok.side (fnone_of ok.fh hD) (not_held_of ok hD), rfl, rfl, ⟨upd_same, fnone_of ok.fh hD, not_held_of ok hD⟩⟩
theorem aside_put (st : Stp z z1) (ok : z1.Ok K σ) (hD : z.H D = none) (a : Aside z1 D o) (o' : HO) : ∃ z', Stp z z' ∧ z'.Ok K σ ∧ z'.r = z1.r ∧ z'.H = upd z1.H D o' ∧ Aside z' D o' ∧ z'.F = z1.F := by
  refine ⟨⟨z1.F, upd z1.H D o', z1.r, z1.ad⟩, ⟨st.ff, fun b u h n => ?_, fun b h => ?_, st.lim, st.sub, st.own, st.brw⟩, ok.side a.f a.nh, rfl, rfl, ⟨upd_same, a.f, a.nh⟩, rfl⟩
  · show upd z1.H D o' b = some u
    rw [upd_ne (ne_of_none h hD)]
    exact st.keep b u h n
  · show upd z1.H D o' b ≠ none
    rw [upd_ne (fun q => h (by rw [q]; exact hD))]
    exact st.dom b h
theorem aside_frz (st : Stp z z1) (ok : z1.Ok K σ) (hD : z.H D = none) (a : Aside z1 D o) : ∃ z', Stp z z' ∧ z'.Ok K σ ∧ z'.r = z1.r ∧ z'.H = z1.H ∧ z'.F = upd z1.F D o := by
  refine ⟨⟨upd z1.F D o, z1.H, z1.r, z1.ad⟩, ⟨st.ff.trans (sub_upd a.f), st.keep, st.dom, fun b h n => ?_, st.sub, st.own, st.brw⟩, ⟨ok.fh.upd a.h, ok.ls, ok.la, fun i s hs => ?_, ok.inj⟩, rfl, rfl, rfl⟩
  · have nb : b ≠ D := fun q => h (by rw [q]; exact hD)
    show upd z1.F D o b = none ∨ _
    rw [upd_ne nb]
    exact st.lim b h n
  · have q := ok.at_ i s hs
    have go : ∀ {b : Addr} {c : Cell}, z1.ad[i]?.join = some b → z1.F b = none → CellOk K z1.F z1.H b c → upd z1.F D o b = none ∧ CellOk K (upd z1.F D o) z1.H b c := fun {b c} e n h => by
      have nb : b ≠ D := fun z0 => a.nh ⟨i, by rw [← z0]; exact join_some e⟩
      exact ⟨by rw [upd_ne nb]; exact n, CellOk.move (sub_upd a.f) (fun u hu => hu) h⟩
    cases s with
    | un => exact q
    | val p =>
      obtain ⟨q1, v, q2, q3⟩ := q
      exact ⟨q1, v, q2, q3.mono (sub_upd a.f)⟩
    | own c =>
      obtain ⟨b, q1, q2, q3, q4⟩ := q
      exact ⟨b, q1, q2, go q1 q3 q4⟩
    | brw c =>
      obtain ⟨b, q1, q2, q3, q4⟩ := q
      exact ⟨b, q1, q2, go q1 q3 q4⟩
end

/-! ### what a dict has for a key -/
def keyP : PV → Option Key
  | .str s => some (.inr (tx s))
  | .int i => some (.inl i)
  | _ => none
theorem keyP_ok {K : PySem.W.Frag} {F : Hp} {p : PV} {v : V} {k : Key} (r : Rep K F p v) (h : keyP p = some k) : v = kV k := by
  cases p with
  | str s => cases h; exact rep_str.mp r
  | int i => cases h; exact rep_int.mp r
  | _ => cases h
def lookD : List Key → List PV → Key → Option PV
  | k :: ks, p :: ps, k0 => if k = k0 then some p else lookD ks ps k0
  | _, _, _ => none
def FitO (K : PySem.W.Frag) (F : Hp) : Option PV → Option V → Prop
  | some p, some v => Rep K F p v
  | none, none => True
  | _, _ => False
theorem lookD_ok {K : PySem.W.Frag} {F : Hp} (k0 : Key) : ∀ {ks : List Key} {ps : List PV} {kvs : List (Key × V)}, kvs.map (·.1) = ks → Reps K F ps (kvs.map (·.2)) → FitO K F (lookD ks ps k0) (valV kvs k0)
  | ks, ps, [], e, r => by
    rw [List.map_nil] at e
    subst e
    cases ps with
    | nil => exact True.intro
    | cons p t => exact True.intro
  | ks, ps, kv :: kvs, e, r => by
    rw [List.map_cons] at e
    subst e
    rw [List.map_cons] at r
    cases ps with
    | nil => exact absurd (reps_nil.mp r) (fun q => nomatch q)
    | cons p t =>
      obtain ⟨v, u, e2, r1, r2⟩ := reps_cons.mp r
      cases e2
      show FitO K F (if kv.1 = k0 then some p else lookD _ t k0) _
      by_cases h : kv.1 = k0
      · rw [if_pos h, valV_pos h]
        exact r1
      · rw [if_neg h, valV_neg h]
        exact lookD_ok k0 rfl r2
def gDGet : PV → PV → Option PV
  | .dct ks ps, q => (keyP q).bind fun k => lookD ks ps k
  | _, _ => none
section
variable {X : Cx}
theorem qe_dget {a b : Expr} {qa qb : PQ} {pos : Pos} (hu : X.A.units + 1 < cLine) (ha : QE X a qa) (hb : QE X b qb) (hs : NoSl b) : QE X (.Subscript a b pos) (qBin gDGet qa qb) := by
  refine ⟨mono_bin ha.mono hb.mono, PE.to (pe_dget hu ha.pe hb.pe hs) (lift_bin (r := fun x y H Q => ∃ a v, x = .ref a ∧ DGet H a y (some v) ∧ Q v H) (fun F H p q x y z Q s rp rq hg k => ?_) ha.mono hb.mono)⟩
  cases p with
  | dct ks ps =>
    obtain ⟨a, kvs, rfl, q1, ek, rs⟩ := rep_dct.mp rp
    have hg : (keyP q).bind (fun k => lookD ks ps k) = some z := hg
    cases e : keyP q with
    | none => rw [e] at hg; cases hg
    | some k0 =>
      rw [e] at hg
      have hg : lookD ks ps k0 = some z := hg
      have f := lookD_ok k0 ek rs
      rw [hg] at f
      cases w : valV kvs k0 with
      | none => rw [w] at f; exact f.elim
      | some v =>
        rw [w] at f
        exact ⟨a, v, rfl, .inl ⟨kvs, k0, .inl (s _ _ q1), keyP_ok rq e, w.symm⟩, k v F H (Ext.refl s) f⟩
  | _ => cases hg
/-- d.get(k, x) -/
def qDGet2 (qo qi qx : PQ) : PQ := fun r k => qo r fun d r1 => ∃ ks ps, d = .dct ks ps ∧ qi r1 fun y r2 => qx r2 fun w r3 => ∃ k0, keyP y = some k0 ∧ k ((lookD ks ps k0).getD w) r3
theorem qe_dget2 {o e f : Expr} {qo qi qx : PQ} {apos cpos : Pos} (hu : X.A.units + 1 < cLine) (ho : QE X o qo) (he : QE X e qi) (hf : QE X f qx) (m : M2 X o "get" apos e f cpos) : QE X (.Call (.Attribute o "get" apos) [e, f] [] cpos) (qDGet2 qo qi qx) := by
  refine ⟨fun r k k' i w => ho.mono _ _ _ (fun d r1 ⟨ks, ps, e1, w⟩ => ⟨ks, ps, e1, he.mono _ _ _ (fun y r2 w => hf.mono _ _ _ (fun x r3 ⟨k0, e2, w⟩ => ⟨k0, e2, i _ _ w⟩) w) w⟩) w, PE.to (pe_dget2 hu ho.pe he.pe hf.pe m) fun σ H Q ⟨z, e0, ok, w⟩ => ?_⟩
  subst e0
  refine ⟨z, rfl, ok, ho.mono _ _ _ (fun d r1 w v z1 st1 ok1 e1 rp => ?_) w⟩
  subst e1
  obtain ⟨ks, ps, rfl, w⟩ := w
  obtain ⟨a, kvs, rfl, q1, ek, rs⟩ := rep_dct.mp rp
  refine ⟨a, rfl, .inl ⟨kvs, .inl (ok1.fh _ _ q1)⟩, z1, rfl, ok1, he.mono _ _ _ (fun y r2 w vy z2 st2 ok2 e2 rpy => ?_) w⟩
  subst e2
  refine ⟨z2, rfl, ok2, hf.mono _ _ _ (fun x r3 w vx z3 st3 ok3 e3 rpx => ?_) w⟩
  subst e3
  obtain ⟨k0, hk, w⟩ := w
  have s13 := st2.trans st3
  have f := lookD_ok (F := z1.F) (K := X.K) k0 ek rs
  refine ⟨valV kvs k0, .inl ⟨kvs, k0, .inl (ok3.fh _ _ (s13.ff _ _ q1)), keyP_ok rpy hk, rfl⟩, w _ z3 (st1.trans s13) ok3 rfl ?_⟩
  cases e4 : lookD ks ps k0 with
  | none =>
    rw [e4] at f
    cases e5 : valV kvs k0 with
    | none => exact rpx
    | some v => rw [e5] at f; exact f.elim
  | some p =>
    rw [e4] at f
    cases e5 : valV kvs k0 with
    | none => rw [e5] at f; exact f.elim
    | some v => rw [e5] at f; exact f.mono s13.ff

/-! ### displays of dicts -/
def qPairs : List (PQ × PQ) → Rs → (List (PV × PV) → Rs → Prop) → Prop
  | [], r, k => k [] r
  | (a, b) :: t, r, k => a r fun x r1 => b r1 fun y r2 => qPairs t r2 fun ps r3 => k ((x, y) :: ps) r3
structure QPs (X : Cx) (pos : Pos) (keys : List (Option Expr)) (values : List Expr) (prs : List (PQ × PQ)) : Prop where
  mono : Mono (qPairs prs)
  pps : PPs X pos keys values (prs.map fun p => (lift X.K p.1, lift X.K p.2))
  each : ∀ p ∈ prs, Mono p.1 ∧ Mono p.2
theorem qps_nil {pos : Pos} : QPs X pos [] [] [] := ⟨fun r k k' i w => i _ _ w, pps_nil, fun p h => by cases h⟩
theorem qps_cons {pos : Pos} {a b : Expr} {ks : List (Option Expr)} {vs : List Expr} {qa qb : PQ} {prs : List (PQ × PQ)} (ha : QE X a qa) (hb : QE X b qb) (ht : QPs X pos ks vs prs) : QPs X pos (some a :: ks) (b :: vs) ((qa, qb) :: prs) :=
  ⟨fun r k k' i w => ha.mono _ _ _ (fun x r1 w => hb.mono _ _ _ (fun y r2 w => ht.mono _ _ _ (fun ps r3 w => i _ _ w) w) w) w, pps_cons ha.pe hb.pe ht.pps, fun p h => by
    rcases List.mem_cons.mp h with rfl | h
    · exact ⟨ha.mono, hb.mono⟩
    · exact ht.each p h⟩
theorem pairs_ok {K : PySem.W.Frag} : ∀ (prs : List (PQ × PQ)) (_ : ∀ p ∈ prs, Mono p.1 ∧ Mono p.2) (z : Z) (σ : L2.St) (Q : List (V × V) → Hp → Prop) (_ : z.Ok K σ)
    (_ : qPairs prs z.r fun ps r' => ∀ (vs : List (V × V)) (z' : Z), Stp z z' → z'.Ok K σ → z'.r = r' → Reps K z'.F (ps.map (·.1)) (vs.map (·.1)) → Reps K z'.F (ps.map (·.2)) (vs.map (·.2)) → Q vs z'.H),
    tPairs (prs.map fun p => (lift K p.1, lift K p.2)) σ z.H Q
  | [], _, z, σ, Q, ok, w => w [] z (Stp.refl z) ok rfl .nil .nil
  | (a, b) :: t, hm, z, σ, Q, ok, w => by
    obtain ⟨ma, mb⟩ := hm _ List.mem_cons_self
    have mt : ∀ p ∈ t, Mono p.1 ∧ Mono p.2 := fun p h => hm p (List.mem_cons_of_mem _ h)
    have mono : Mono (qPairs t) := monoPairs t mt
    refine ⟨z, rfl, ok, ma _ _ _ (fun x r1 w v1 z1 st1 ok1 e1 rp1 => ?_) w⟩
    subst e1
    refine ⟨z1, rfl, ok1, mb _ _ _ (fun y r2 w v2 z2 st2 ok2 e2 rp2 => ?_) w⟩
    subst e2
    refine pairs_ok t mt z2 σ _ ok2 (mono _ _ _ (fun ps r3 w vs z3 st3 ok3 e3 r1 r2 => ?_) w)
    exact w ((v1, v2) :: vs) z3 (st1.trans (st2.trans st3)) ok3 e3 (.cons (rp1.mono (st2.trans st3).ff) r1) (.cons (rp2.mono st3.ff) r2)
where
  monoPairs : ∀ (t : List (PQ × PQ)), (∀ p ∈ t, Mono p.1 ∧ Mono p.2) → Mono (qPairs t)
    | [], _ => fun r k k' i w => i _ _ w
    | (a, b) :: t, h => fun r k k' i w => (h _ List.mem_cons_self).1 _ _ _ (fun x r1 w => (h _ List.mem_cons_self).2 _ _ _ (fun y r2 w => monoPairs t (fun p q => h p (List.mem_cons_of_mem _ q)) _ _ _ (fun ps r3 w => i _ _ w) w) w) w
def keysP : List (PV × PV) → Option (List Key)
  | [] => some []
  | (x, _) :: t => (keyP x).bind fun k => (keysP t).map fun ks => k :: ks
theorem keys_ok {K : PySem.W.Frag} {F : Hp} : ∀ {ps : List (PV × PV)} {ks : List Key} {vs : List (V × V)}, keysP ps = some ks → Reps K F (ps.map (·.1)) (vs.map (·.1)) → Reps K F (ps.map (·.2)) (vs.map (·.2)) →
    ∃ kvs : List (Key × V), vs = kvs.map (fun kv => (kV kv.1, kv.2)) ∧ kvs.map (·.1) = ks ∧ kvs.length = ps.length ∧ Reps K F (ps.map (·.2)) (kvs.map (·.2))
  | [], ks, vs, h, r1, r2 => by
    cases h
    have e := reps_nil.mp r1
    cases vs with
    | nil => exact ⟨[], rfl, rfl, rfl, .nil⟩
    | cons v t => cases e
  | (x, y) :: t, ks, vs, h, r1, r2 => by
    have h : (keyP x).bind (fun k => (keysP t).map fun ks => k :: ks) = some ks := h
    cases e1 : keyP x with
    | none => rw [e1] at h; cases h
    | some k =>
      rw [e1] at h
      cases e2 : keysP t with
      | none =>
        rw [e2] at h
        cases h
      | some ks2 =>
        rw [e2] at h
        have h : some (k :: ks2) = some ks := h
        cases h
        cases vs with
        | nil =>
          obtain ⟨_, _, q, _⟩ := reps_cons.mp (show Reps K F (x :: t.map (·.1)) [] from r1)
          cases q
        | cons v vt =>
          obtain ⟨v1, u1, q1, a1, a2⟩ := reps_cons.mp (show Reps K F (x :: t.map (·.1)) (v.1 :: vt.map (·.1)) from r1)
          obtain ⟨v2, u2, q2, b1, b2⟩ := reps_cons.mp (show Reps K F (y :: t.map (·.2)) (v.2 :: vt.map (·.2)) from r2)
          cases q1
          cases q2
          obtain ⟨kvs, c1, c2, c3, c4⟩ := keys_ok e2 a2 b2
          refine ⟨(k, v.2) :: kvs, ?_, ?_, ?_, .cons b1 c4⟩
          · rw [List.map_cons, ← c1]
            have : v.1 = kV k := keyP_ok a1 e1
            show v :: vt = (kV k, v.2) :: vt
            rw [← this]
          · rw [List.map_cons, c2]
          · rw [List.length_cons, List.length_cons, c3]
theorem merge_new : ∀ (kvs acc : List (Key × V)), (acc.map (·.1) ++ kvs.map (·.1)).Nodup → mergeK acc kvs = acc ++ kvs
  | [], acc, _ => by
    show acc = acc ++ []
    rw [List.append_nil]
  | p :: t, acc, h => by
    have hp : (acc.any fun kv => decide (kv.1 = p.1)) = false := by
      rw [List.any_eq_false]
      intro q hq
      rw [decide_eq_true_eq]
      intro e
      have h2 := (List.nodup_append.mp h).2.2 q.1 (List.mem_map.mpr ⟨q, hq, rfl⟩) p.1 (List.mem_cons_self)
      exact h2 e
    show mergeK (putK acc p.1 p.2) t = _
    have e : putK acc p.1 p.2 = acc ++ [p] := by
      unfold putK
      rw [hp]
      rfl
    rw [e, merge_new t (acc ++ [p]) (by rw [List.map_append, List.append_assoc]; exact h), List.append_assoc]
    rfl
def qDisp (prs : List (PQ × PQ)) : PQ := fun r k => qPairs prs r fun ps r1 => ∃ ks, keysP ps = some ks ∧ ks.Nodup ∧ ps.length ≤ 15 ∧ k (.dct ks (ps.map (·.2))) r1
theorem qe_disp {pos : Pos} {keys : List (Option Expr)} {values : List Expr} {prs : List (PQ × PQ)} (h : QPs X pos keys values prs) (hall : keys.all (·.isSome) = true := by rfl) (hl : keys.length = values.length := by rfl) (h0 : keys ≠ [] := by exact fun z => nomatch z)
    (h15 : keys.length ≤ 15 := by decide) : QE X (.Dict keys values pos) (qDisp prs) := by
  refine ⟨fun r k k' i w => h.mono _ _ _ (fun ps r1 ⟨ks, a, b, c, w⟩ => ⟨ks, a, b, c, i _ _ w⟩) w, PE.to (pe_disp h.pps hall hl h0 h15) fun σ H Q ⟨z, e0, ok, w⟩ p hp => ?_⟩
  subst e0
  obtain ⟨z0, st0, ok0, er0, eh0, as0⟩ := aside_new ok hp (.dK [])
  rw [← eh0]
  rw [← er0] at w
  refine pairs_ok prs h.each z0 σ _ ok0 (h.mono _ _ _ (fun ps r1 w vs z1 st1 ok1 e1 rk rv => ?_) w)
  subst e1
  obtain ⟨ks, hk, hn, h15, w⟩ := w
  have as1 := as0.step st1
  obtain ⟨kvs, c1, c2, c3, c4⟩ := keys_ok hk rk rv
  refine ⟨as1.h, kvs, c1, by rw [c3]; exact h15, ?_⟩
  have em : mergeK [] kvs = kvs := merge_new kvs [] (by rw [List.map_nil, List.nil_append, c2]; exact hn)
  rw [em]
  obtain ⟨z2, st2, ok2, er2, eh2, as2, ef2⟩ := aside_put (st0.trans st1) ok1 hp as1 (.dK kvs)
  obtain ⟨z3, st3, ok3, er3, eh3, ef3⟩ := aside_frz st2 ok2 hp as2
  rw [← eh2, ← eh3]
  refine w (.ref p) z3 st3 ok3 (er3.trans er2) (rep_dct.mpr ⟨p, kvs, rfl, by rw [ef3]; exact upd_same, c2, ?_⟩)
  rw [ef3]
  exact (c4.mono (by rw [ef2]; exact Sub.refl _)).mono (sub_upd as2.f)
end
end Qy
set_option Elab.async false
set_option linter.all false
set_option maxRecDepth 100000
set_option maxHeartbeats 4000000
/-! Q13: comprehensions of two clauses. -/
namespace Qy
open PySem PySem.Spec PyProof.Rows L2

def wpLc2 (vs vs1 : List Nat) (g : QGT) (t : PQT) (qi1 : PQA) (g1 : QGT) (t1 : PQT) (e : PQ) (k : List PV → Rs → Prop) : List PV → List PV → Rs → Prop
  | [], acc, r => k acc r
  | p :: ps, acc, r => g p r fun r1 => t r1 fun b r2 => if b = true then qi1 r2 fun ps1 r3 => wpLc vs1 g1 t1 e (fun acc' r4 => wpLc2 vs vs1 g t qi1 g1 t1 e k ps acc' (wipeR r4 vs)) ps1 acc (wipeR r3 vs1)
    else wpLc2 vs vs1 g t qi1 g1 t1 e k ps acc (wipeR r2 vs)
def qLc2 (vs vs1 : List Nat) (qi : PQA) (g : QGT) (t : PQT) (qi1 : PQA) (g1 : QGT) (t1 : PQT) (e : PQ) : PQ := fun r k => qi r fun ps r1 => wpLc2 vs vs1 g t qi1 g1 t1 e (fun acc r2 => k (.lst acc) (restR r1 r2 vs)) ps [] (wipeR r1 vs)
section
variable {vs vs1 : List Nat} {g : QGT} {t : PQT} {qi1 : PQA} {g1 : QGT} {t1 : PQT} {e : PQ}
theorem mono_wpLc2 (mg : MonoG g) (mt : Mono t) (mi1 : Mono qi1) (mg1 : MonoG g1) (mt1 : Mono t1) (me : Mono e) {k k' : List PV → Rs → Prop} (h : ∀ acc r, k acc r → k' acc r) : ∀ (ps acc : List PV) (r : Rs), wpLc2 vs vs1 g t qi1 g1 t1 e k ps acc r → wpLc2 vs vs1 g t qi1 g1 t1 e k' ps acc r
  | [], acc, r, w => h acc r w
  | p :: ps, acc, r, w => mg _ _ _ _ (fun r1 w => mt _ _ _ (fun b r2 w => by
    cases b with
    | true =>
      rw [if_pos rfl] at w ⊢
      exact mi1 _ _ _ (fun ps1 r3 w => mono_wpLc mg1 mt1 me (fun acc' r4 w => mono_wpLc2 mg mt mi1 mg1 mt1 me h ps _ _ w) _ _ _ w) w
    | false => rw [if_neg Bool.false_ne_true] at w ⊢; exact mono_wpLc2 mg mt mi1 mg1 mt1 me h ps _ _ w) w) w
theorem mono_lc2 {qi : PQA} (mi : Mono qi) (mg : MonoG g) (mt : Mono t) (mi1 : Mono qi1) (mg1 : MonoG g1) (mt1 : Mono t1) (me : Mono e) : Mono (qLc2 vs vs1 qi g t qi1 g1 t1 e) := fun r k k' h w => mi _ _ _ (fun ps r1 w => mono_wpLc2 mg mt mi1 mg1 mt1 me (fun acc r w => h _ _ w) _ _ _ w) w
theorem wipe_wipe {σ : L2.St} (hv : ∀ i ∈ vs1, i ∈ vs) : wipe (wipe σ vs1) vs = wipe σ vs := by
  apply List.ext_getElem?
  intro j
  rw [wipe_get, wipe_get, wipe_get]
  by_cases m : j ∈ vs
  · rw [if_pos m, if_pos m]
    by_cases m1 : j ∈ vs1
    · rw [if_pos m1, Option.map_map]
      rfl
    · rw [if_neg m1]
  · rw [if_neg m, if_neg m, if_neg fun h => m (hv j h)]
theorem lc2_sound {K : PySem.W.Frag} {is is1 : List Nat} {qi : PQA} (hs : ∀ i ∈ is, i ∈ vs) (hs1 : ∀ i ∈ is1, i ∈ vs1) (hv : ∀ i ∈ vs1, i ∈ vs) (mi : Mono qi) (mg : MonoG g) (mt : Mono t) (mi1 : Mono qi1) (mg1 : MonoG g1) (mt1 : Mono t1) (me : Mono e)
    {z : Z} {σ : L2.St} {Q : VK} (ok : z.Ok K σ) {Kf : Rs → List PV → Rs → Prop}
    (w : qi z.r fun ps r1 => wpLc2 vs vs1 g t qi1 g1 t1 e (Kf r1) ps [] (wipeR r1 vs))
    (fin : ∀ (z1 z2 : Z) (D : Addr) (acc : List PV) (vacc : List V), Stp z z1 → z1.Ok K σ → z1.H D = none → Stp z1 z2 → z2.Ok K (wipe σ vs) → Aside z2 D (.lst vacc) → Reps K z2.F acc vacc → Kf z1.r acc z2.r → Q (.ref D) z2.H) :
    tLc2 (liftI K qi) (liftG K is g) (liftT K t) (liftI K qi1) (liftG K is1 g1) (liftT K t1) (lift K e) vs vs1 σ z.H Q := by
  refine ⟨z, rfl, ok, mi _ _ _ (fun ps r1 w J z1 st1 ok1 e1 wk D hD => ?_) w⟩
  subst e1
  obtain ⟨okw, stw⟩ := Z.wipe_ok ok1 vs
  have grow : ∀ {z2 z6 z7 : Z} {o : HO}, Stp z1 z7 → z7.H = z6.H → Stp z1 ⟨z7.F, upd z6.H D o, z7.r, z7.ad⟩ := fun {z2 z6 z7 o} s7 eh => by
    refine ⟨s7.ff, fun a u h n => ?_, fun a h => ?_, s7.lim, s7.sub, s7.own, s7.brw⟩
    · show upd z6.H D o a = some u
      rw [upd_ne (ne_of_none h hD), ← eh]
      exact s7.keep a u h n
    · show upd z6.H D o a ≠ none
      rw [upd_ne (fun q => h (by rw [q]; exact hD)), ← eh]
      exact s7.dom a h
  refine ⟨fun i m H => i ≤ ps.length ∧ ∃ (z2 : Z) (acc : List PV) (vacc : List V), z2.H = H ∧ Stp z1 z2 ∧ z2.Ok K (wipe σ vs) ∧ Aside z2 D (.lst vacc) ∧ Reps K z2.F acc vacc ∧ m = ps.length - i ∧ wpLc2 vs vs1 g t qi1 g1 t1 e (Kf z1.r) (ps.drop i) acc z2.r,
    ⟨ps.length, Nat.zero_le _, ⟨(z1.wipe vs).F, upd z1.H D (.lst []), (z1.wipe vs).r, (z1.wipe vs).ad⟩, [], [], rfl, stw.trans (Stp.ext okw (Ext.newH okw.fh hD _)), okw.side (fnone_of ok1.fh hD) (not_held_of okw hD), ⟨upd_same, fnone_of ok1.fh hD, not_held_of okw hD⟩, .nil, rfl, w⟩, ?_⟩
  rintro i m H ⟨hle, z2, acc, vacc, rfl, st2, ok2, as2, rp2, rfl, w2⟩
  by_cases hlt : i < ps.length
  · refine .inr ⟨wk.go z2 _ i st2.ff ok2 hlt, fun H => ∃ (z2 : Z) (acc : List PV) (vacc : List V), z2.H = H ∧ Stp z1 z2 ∧ z2.Ok K (wipe σ vs) ∧ Aside z2 D (.lst vacc) ∧ Reps K z2.F acc vacc ∧ wpLc2 vs vs1 g t qi1 g1 t1 e (Kf z1.r) (ps.drop (i + 1)) acc z2.r, ?_, ?_⟩
    · rintro H3 ⟨z3, acc3, vacc3, e3, st3, ok3, as3, rp3, w3⟩
      exact ⟨ps.length - (i + 1), by omega, by omega, z3, acc3, vacc3, e3, st3, ok3, as3, rp3, rfl, w3⟩
    · intro x H3 hy
      have hp0 : ps[i]? = some ps[i] := List.getElem?_eq_getElem hlt
      obtain ⟨F', ex, rp⟩ := wk.yld z2 _ i x H3 ps[i] st2.ff ok2 hp0 hy
      obtain ⟨s3, o3⟩ := step_ext (Stp.refl z2) ok2 ex
      rw [List.drop_eq_getElem_cons hlt] at w2
      refine ⟨z2.ext F' H3, ps[i], rfl, o3, rp, mg _ _ _ _ (fun r4 w4 z4 σ4 st4 ok4 e4 same => ?_) w2⟩
      subst e4
      have ew : wipe σ4 vs = wipe σ vs := wipe_same hs same.1 same.2
      have s4 : Stp z2 z4 := s3.trans st4
      refine ⟨ew, z4, rfl, ok4, mt _ _ _ (fun b r5 w5 z5 st5 ok5 e5 => ?_) w4⟩
      subst e5
      have s5 : Stp z2 z5 := s4.trans st5
      cases b with
      | false =>
        rw [if_neg Bool.false_ne_true] at w5 ⊢
        obtain ⟨ok7, st7⟩ := Z.wipe_ok ok5 vs
        rw [ew] at ok7
        exact ⟨z5.wipe vs, acc, vacc, rfl, (st2.trans s5).trans st7, ok7, as2.step (s5.trans st7), rp2.mono s5.ff, w5⟩
      | true =>
        rw [if_pos rfl] at w5 ⊢
        refine ⟨z5, rfl, ok5, mi1 _ _ _ (fun ps1 r6 w6 J1 z6 st6 ok6 e6 wk1 => ?_) w5⟩
        subst e6
        have s6 : Stp z2 z6 := s5.trans st6
        obtain ⟨okw1, stw1⟩ := Z.wipe_ok ok6 vs1
        refine ⟨fun j k H => j ≤ ps1.length ∧ ∃ (y2 : Z) (acc2 : List PV) (vacc2 : List V), y2.H = H ∧ Sub z6.F y2.F ∧ Stp z1 y2 ∧ y2.Ok K (wipe σ4 vs1) ∧ Aside y2 D (.lst vacc2) ∧ Reps K y2.F acc2 vacc2 ∧ k = ps1.length - j ∧
            wpLc vs1 g1 t1 e (fun acc' r4 => wpLc2 vs vs1 g t qi1 g1 t1 e (Kf z1.r) (ps.drop (i + 1)) acc' (wipeR r4 vs)) (ps1.drop j) acc2 y2.r,
          ⟨ps1.length, Nat.zero_le _, z6.wipe vs1, acc, vacc, rfl, stw1.ff, (st2.trans s6).trans stw1, okw1, as2.step (s6.trans stw1), rp2.mono s6.ff, rfl, w6⟩, ?_⟩
        rintro j k H5 ⟨hle1, y2, acc2, vacc2, rfl, sf2, t2, oky, asy, rpy, rfl, wy⟩
        by_cases hlt1 : j < ps1.length
        · refine .inr ⟨wk1.go y2 _ j sf2 oky hlt1, fun H => ∃ (y2 : Z) (acc2 : List PV) (vacc2 : List V), y2.H = H ∧ Sub z6.F y2.F ∧ Stp z1 y2 ∧ y2.Ok K (wipe σ4 vs1) ∧ Aside y2 D (.lst vacc2) ∧ Reps K y2.F acc2 vacc2 ∧
              wpLc vs1 g1 t1 e (fun acc' r4 => wpLc2 vs vs1 g t qi1 g1 t1 e (Kf z1.r) (ps.drop (i + 1)) acc' (wipeR r4 vs)) (ps1.drop (j + 1)) acc2 y2.r, ?_, ?_⟩
          · rintro H6 ⟨y3, acc3, vacc3, e3, f3, t3, oky3, asy3, rpy3, wy3⟩
            exact ⟨ps1.length - (j + 1), by omega, by omega, y3, acc3, vacc3, e3, f3, t3, oky3, asy3, rpy3, rfl, wy3⟩
          · intro x1 H6 hy1
            have hp1 : ps1[j]? = some ps1[j] := List.getElem?_eq_getElem hlt1
            obtain ⟨F1, ex1, rpx⟩ := wk1.yld y2 _ j x1 H6 ps1[j] sf2 oky hp1 hy1
            obtain ⟨u3, o4⟩ := step_ext (Stp.refl y2) oky ex1
            rw [List.drop_eq_getElem_cons hlt1] at wy
            refine ⟨y2.ext F1 H6, ps1[j], rfl, o4, rpx, mg1 _ _ _ _ (fun r7 w7 z7 σ7 st7 ok7 e7 same7 => ?_) wy⟩
            subst e7
            have ew7 : wipe σ7 vs1 = wipe σ4 vs1 := wipe_same hs1 same7.1 same7.2
            have u7 : Stp y2 z7 := u3.trans st7
            refine ⟨ew7, z7, rfl, ok7, mt1 _ _ _ (fun b r8 w8 z8 st8 ok8 e8 => ?_) w7⟩
            subst e8
            have u8 : Stp y2 z8 := u7.trans st8
            cases b with
            | true =>
              rw [if_pos rfl] at w8 ⊢
              refine ⟨z8, rfl, ok8, me _ _ _ (fun y r9 w9 v9 z9 st9 ok9 e9 rp9 => ?_) w8⟩
              subst e9
              obtain ⟨hz, w9⟩ := w9
              have u9 : Stp y2 z9 := u8.trans st9
              have as9 := asy.step u9
              obtain ⟨ok10, st10⟩ := Z.wipe_ok ok9 vs1
              rw [ew7] at ok10
              have as10 := as9.step st10
              exact ⟨vacc2, as9.h, by rw [rpy.length]; exact hz, ⟨(z9.wipe vs1).F, upd z9.H D (.lst (vacc2 ++ [v9])), (z9.wipe vs1).r, (z9.wipe vs1).ad⟩, acc2 ++ [y], vacc2 ++ [v9], rfl, sf2.trans (u9.trans st10).ff,
                grow (z2 := z2) ((t2.trans u9).trans st10) rfl, ok10.side as10.f as10.nh, ⟨upd_same, as10.f, as10.nh⟩, (rpy.mono u9.ff).append (.one rp9), w9⟩
            | false =>
              rw [if_neg Bool.false_ne_true] at w8 ⊢
              obtain ⟨ok10, st10⟩ := Z.wipe_ok ok8 vs1
              rw [ew7] at ok10
              exact ⟨z8.wipe vs1, acc2, vacc2, rfl, sf2.trans (u8.trans st10).ff, (t2.trans u8).trans st10, ok10, asy.step (u8.trans st10), rpy.mono u8.ff, w8⟩
        · refine .inl ⟨wk1.stop y2 _ j sf2 oky (by omega), ?_⟩
          have ej : ps1.drop j = [] := List.drop_eq_nil_of_le (by omega)
          rw [ej] at wy
          obtain ⟨ok10, st10⟩ := Z.wipe_ok oky vs
          rw [wipe_wipe hv, ew] at ok10
          exact ⟨y2.wipe vs, acc2, vacc2, rfl, t2.trans st10, ok10, asy.step st10, rpy.mono st10.ff, wy⟩
  · refine .inl ⟨wk.stop z2 _ i st2.ff ok2 (by omega), ?_⟩
    rw [List.drop_eq_nil_of_le (by omega)] at w2
    exact fin z1 z2 D acc vacc st1 ok1 hD st2 ok2 as2 rp2 w2
variable {X : Cx}
theorem qe_lc2 {elt tg iter tg1 iter1 : Expr} {ifs ifs1 : List Expr} {scope : Scope} {own : List (Str × Nat)} {pos : Pos} {qi : PQA} {is is1 : List Nat} (vs1 : List Nat) (hc : X.calm = true) (hN : X.N.Nodup) (hi : QI X tg iter qi) (ok : BlkOk X.N X.env.scope scope own)
    (hg : ∀ (s : Shared) (H : Hp) (C : Addr) (cl : List (Str × Addr)) (fp : List Addr), QG (X.blk s H scope (compEnvC scope cl C X.env) fp) tg is g) (ht : ∀ (s : Shared) (H : Hp) (C : Addr) (cl : List (Str × Addr)) (fp : List Addr), QTs (X.blk s H scope (compEnvC scope cl C X.env) fp) ifs t)
    (hi1 : ∀ (s : Shared) (H : Hp) (C : Addr) (cl : List (Str × Addr)) (fp : List Addr), QI (X.blk s H scope (compEnvC scope cl C X.env) fp) tg1 iter1 qi1)
    (hg1 : ∀ (s : Shared) (H : Hp) (C : Addr) (cl : List (Str × Addr)) (fp : List Addr), QG (X.blk s H scope (compEnvC scope cl C X.env) fp) tg1 is1 g1) (ht1 : ∀ (s : Shared) (H : Hp) (C : Addr) (cl : List (Str × Addr)) (fp : List Addr), QTs (X.blk s H scope (compEnvC scope cl C X.env) fp) ifs1 t1)
    (he : ∀ (s : Shared) (H : Hp) (C : Addr) (cl : List (Str × Addr)) (fp : List Addr), QE (X.blk s H scope (compEnvC scope cl C X.env) fp) elt e) (hsub : ∀ i ∈ is, i ∈ own.map (·.2) := by decide) (hsub1 : ∀ i ∈ is1, i ∈ vs1 := by decide) (hv : ∀ i ∈ vs1, i ∈ own.map (·.2) := by decide)
    (hs : ∀ x, foldedSetIterable iter X.env x = pure x := by intro _; rfl) (hs1 : ∀ env x, foldedSetIterable iter1 env x = pure x := by intro _ _; rfl) :
    QE X (.ListComp elt [⟨tg, iter, ifs, 0⟩, ⟨tg1, iter1, ifs1, 0⟩] scope pos) (qLc2 (own.map (·.2)) vs1 qi g t qi1 g1 t1 e) :=
  have s0 : Shared := X.s_0
  have m1 := (hg s0 (fun _ => none) 0 [] []).mono
  have m2 := (ht s0 (fun _ => none) 0 [] []).mono
  have m3 := (hi1 s0 (fun _ => none) 0 [] []).mono
  have m4 := (hg1 s0 (fun _ => none) 0 [] []).mono
  have m5 := (ht1 s0 (fun _ => none) 0 [] []).mono
  have m6 := (he s0 (fun _ => none) 0 [] []).mono
  ⟨mono_lc2 hi.mono m1 m2 m3 m4 m5 m6, PE.to (pe_lc2 hc hN hi.pi ok hv (fun s H C cl fp => (hg s H C cl fp).pg) (fun s H C cl fp => (ht s H C cl fp).pt) (fun s H C cl fp => (hi1 s H C cl fp).pi) (fun s H C cl fp => (hg1 s H C cl fp).pg)
    (fun s H C cl fp => (ht1 s H C cl fp).pt) (fun s H C cl fp => (he s H C cl fp).pe) hs hs1) fun σ H Q ⟨z, e0, okz, w⟩ => by
      subst e0
      refine lc2_sound hsub hsub1 hv hi.mono m1 m2 m3 m4 m5 m6 okz (Kf := fun r1 acc r2 => ∀ v (z' : Z), Stp z z' → z'.Ok X.K σ → z'.r = restR r1 r2 (own.map (·.2)) → Rep X.K z'.F (.lst acc) v → Q v z'.H) w fun z1 z2 D acc vacc st ok1 hD st2 ok2 a r k => ?_
      obtain ⟨z', s, o, e, eh, rp⟩ := lc_frozen st ok1 hD st2 ok2 a r
      rw [← eh]
      exact k _ z' s o e rp⟩
/-- y = [.. for .. for ..] on one line, y a local -/
theorem qs_setLc2 {i : Nat} {y : Str} {py spos : Pos} {elt tg iter tg1 iter1 : Expr} {ifs ifs1 : List Expr} {scope : Scope} {own : List (Str × Nat)} {pos : Pos} {qi : PQA} {is is1 : List Nat} (vs1 : List Nat) (hc : X.calm = true) (hN : X.N.Nodup)
    (hsw : swapsWith (.ListComp elt [⟨tg, iter, ifs, 0⟩, ⟨tg1, iter1, ifs1, 0⟩] scope pos) (some (.Name y py)) spos.line X.env = pure true) (hi : QI X tg iter qi) (ok : BlkOk X.N X.env.scope scope own)
    (hg : ∀ (s : Shared) (H : Hp) (C : Addr) (cl : List (Str × Addr)) (fp : List Addr), QG (X.blk s H scope (compEnvC scope cl C X.env) fp) tg is g) (ht : ∀ (s : Shared) (H : Hp) (C : Addr) (cl : List (Str × Addr)) (fp : List Addr), QTs (X.blk s H scope (compEnvC scope cl C X.env) fp) ifs t)
    (hi1 : ∀ (s : Shared) (H : Hp) (C : Addr) (cl : List (Str × Addr)) (fp : List Addr), QI (X.blk s H scope (compEnvC scope cl C X.env) fp) tg1 iter1 qi1)
    (hg1 : ∀ (s : Shared) (H : Hp) (C : Addr) (cl : List (Str × Addr)) (fp : List Addr), QG (X.blk s H scope (compEnvC scope cl C X.env) fp) tg1 is1 g1) (ht1 : ∀ (s : Shared) (H : Hp) (C : Addr) (cl : List (Str × Addr)) (fp : List Addr), QTs (X.blk s H scope (compEnvC scope cl C X.env) fp) ifs1 t1)
    (he : ∀ (s : Shared) (H : Hp) (C : Addr) (cl : List (Str × Addr)) (fp : List Addr), QE (X.blk s H scope (compEnvC scope cl C X.env) fp) elt e) (hy : X.N[i]? = some y := by rfl) (hyl : X.env.scope.names.lookup y = some .local := by rfl) (hsub : ∀ i ∈ is, i ∈ own.map (·.2) := by decide) (hsub1 : ∀ i ∈ is1, i ∈ vs1 := by decide) (hv : ∀ i ∈ vs1, i ∈ own.map (·.2) := by decide)
    (hs : ∀ x, foldedSetIterable iter X.env x = pure x := by intro _; rfl) (hs1 : ∀ env x, foldedSetIterable iter1 env x = pure x := by intro _ _; rfl) :
    QS X (.Assign [.Name y py] (.ListComp elt [⟨tg, iter, ifs, 0⟩, ⟨tg1, iter1, ifs1, 0⟩] scope pos) spos) (qAsg (qLc2 (own.map (·.2)) vs1 qi g t qi1 g1 t1 e) (qgName i)) :=
  have s0 : Shared := X.s_0
  have m1 := (hg s0 (fun _ => none) 0 [] []).mono
  have m2 := (ht s0 (fun _ => none) 0 [] []).mono
  have m3 := (hi1 s0 (fun _ => none) 0 [] []).mono
  have m4 := (hg1 s0 (fun _ => none) 0 [] []).mono
  have m5 := (ht1 s0 (fun _ => none) 0 [] []).mono
  have m6 := (he s0 (fun _ => none) 0 [] []).mono
  have mm := mono_lc2 (vs := own.map (·.2)) (vs1 := vs1) hi.mono m1 m2 m3 m4 m5 m6
  ⟨monoS_asg mm fun _ _ _ _ h w => h _ w, PS.to (ps_setLc2 hc hN hy hyl hsw hi.pi ok hv (fun s H C cl fp => (hg s H C cl fp).pg) (fun s H C cl fp => (ht s H C cl fp).pt) (fun s H C cl fp => (hi1 s H C cl fp).pi) (fun s H C cl fp => (hg1 s H C cl fp).pg)
    (fun s H C cl fp => (ht1 s H C cl fp).pt) (fun s H C cl fp => (he s H C cl fp).pe) hs hs1) fun D σ H h => by
      obtain ⟨z, e0, okz, w⟩ := lift_set_pre mm D σ H h
      subst e0
      refine lc2_sound hsub hsub1 hv hi.mono m1 m2 m3 m4 m5 m6 okz (Kf := fun r1 acc r2 => ∀ v (z' : Z), Stp z z' → z'.Ok X.K σ → z'.r = restR r1 r2 (own.map (·.2)) → Rep X.K z'.F (.lst acc) v → gName i v σ z'.H D.nx) w fun z1 z2 D acc vacc st ok1 hD st2 ok2 a r k => ?_
      obtain ⟨z', s, o, e, eh, rp⟩ := lc_frozen st ok1 hD st2 ok2 a r
      rw [← eh]
      exact k _ z' s o e rp⟩
end
end Qy
set_option Elab.async false
set_option linter.all false
set_option maxRecDepth 100000
set_option maxHeartbeats 4000000
/-! Q14: what a caller knows of a def; forms of promises; names of the module that are texts and ints. -/
namespace Qy
open PySem PySem.Spec PyProof.Rows L2
/-- the module's name x is a def that keeps a promise -/
def Has (P : Program) (w : World) (K : PySem.W.Frag) (mg : Str → Option Value) (base : Heap) (x : Str) (n : Nat) (ps : List Str) (sp : Sp) : Prop :=
  ∃ (f : Addr) (fd : FuncData), FnOk P w K mg base CX0 n f fd ps sp ∧ mg x = some (.ref f) ∧ PySem.W.keepIn K (.ref f) = true ∧ Binds K fd ps []
section
variable {X : Cx} {x : Str} {n : Nat} {ps : List Str} {e : Expr} {es : List Expr} {t : PQA} {p pos : Pos}
theorem qe_f {m : M} (h : Has X.prog X.w X.K X.mg X.base x n ps (spQ X.K m)) (mm : MonoM m) (hr : Room n X.A) (hg : Gl X x) (ha : QA X (e :: es) t) (hdb : (x == ("__debug__" : Str)) = false := by decide) (he : starEach (e :: es) X.env = (false, eval e X.env) :: starEach es X.env := by rfl)
    (hpl : (backTo pos (starEach es X.env)).any (·.1) = false := by rfl) : QE X (.Call (.Name x p) (e :: es) [] pos) (qFn m t) := by
  obtain ⟨f, fd, F, hm, hk, hb⟩ := h
  exact qe_fn F mm hr hg hm hk hb ha hdb he hpl
theorem qn_f {m : MN} (h : Has X.prog X.w X.K X.mg X.base x n ps (spN X.K m)) (mm : MonoMN m) (hr : Room n X.A) (hg : Gl X x) (ha : QA X (e :: es) t) (hdb : (x == ("__debug__" : Str)) = false := by decide) (he : starEach (e :: es) X.env = (false, eval e X.env) :: starEach es X.env := by rfl)
    (hpl : (backTo pos (starEach es X.env)).any (·.1) = false := by rfl) : QN X (.Call (.Name x p) (e :: es) [] pos) (qFnN m t) := by
  obtain ⟨f, fd, F, hm, hk, hb⟩ := h
  exact qn_fn F mm hr hg hm hk hb ha hdb he hpl
theorem qe_d {y : Str} {m : MD} {py : Pos} (i : Nat) (h : Has X.prog X.w X.K X.mg X.base x n ps (spD X.K m)) (mm : MonoMD m) (hr : Room n X.A) (hg : Gl X x) (ha : QA X es t) (hN : X.N[i]? = some y := by rfl) (hv : Vis X.env.scope y := by first | exact Or.inl rfl | exact Or.inr (Or.inl rfl) | exact Or.inr (Or.inr rfl)) (hd : (y == ("__debug__" : Str)) = false := by decide) (hcd : (y == ("__classdict__" : Str)) = false := by decide)
    (hdb : (x == ("__debug__" : Str)) = false := by decide) (he : starEach (.Name y py :: es) X.env = (false, eval (.Name y py) X.env) :: starEach es X.env := by rfl) (hpl : (backTo pos (starEach es X.env)).any (·.1) = false := by rfl) :
    QE X (.Call (.Name x p) (.Name y py :: es) [] pos) (qDk i m t) := by
  obtain ⟨f, fd, F, hm, hk, hb⟩ := h
  exact qe_dk F mm hr hg hm hk hb ha hN hv hd hcd hdb he hpl
theorem qe_gs {z : Str} (hm : ∃ t, X.mg x = some (.str z t)) (hg : Gl X x) (hdb : (x == ("__debug__" : Str)) = false := by decide) : QE X (.Name x pos) (qC (.str z.cps.toList)) := by
  obtain ⟨t, hm⟩ := hm
  exact qe_glob (v := .str z) hg hm ⟨t, rfl⟩ (fun _ => rep_str.mpr (congrArg V.str (tx_cps z).symm)) hdb
theorem qe_gi {i : Int} (hm : ∃ t, X.mg x = some (.int i t)) (hg : Gl X x) (hdb : (x == ("__debug__" : Str)) = false := by decide) : QE X (.Name x pos) (qC (.int i)) := by
  obtain ⟨t, hm⟩ := hm
  exact qe_glob (v := .int i) hg hm ⟨t, rfl⟩ (fun _ => rep_int.mpr rfl) hdb
end
theorem u1 {A : Around} (h : A.units + 64 < cLine) : A.units + 1 < cLine := by omega
/-! ### promises -/
/-- from arguments of a kind, if they are good: one answer -/
def mE {α : Type} (enc : α → List PV) (pre : α → Prop) (res : α → PV) : M := fun as R => ∃ a, as = enc a ∧ pre a ∧ R (res a)
theorem mono_mE {α : Type} {enc : α → List PV} {pre : α → Prop} {res : α → PV} : MonoM (mE enc pre res) := fun _ _ _ h ⟨a, e, p, w⟩ => ⟨a, e, p, h _ w⟩
/-- a list of ints is lent; what it is behind, and which of the answers that are good comes, is not told -/
def mX {α : Type} (enc : α → List PV) (pre : α → Prop) (ok : α → PV → Prop) : MD := fun dk as R => (∃ ns : List Int, dk = ns.map PV.int) ∧ ∃ a, as = enc a ∧ pre a ∧ ∀ p (ns : List Int), ok a p → R p (ns.map PV.int)
theorem mono_mX {α : Type} {enc : α → List PV} {pre : α → Prop} {ok : α → PV → Prop} : MonoMD (mX enc pre ok) := fun _ _ _ _ h ⟨d, a, e, p, w⟩ => ⟨d, a, e, p, fun q ns o => h _ _ (w q ns o)⟩
end Qy
set_option Elab.async false
set_option linter.all false
set_option maxRecDepth 100000
set_option maxHeartbeats 4000000
/-! Q15: the readings, for simp. -/
namespace Qy
open PySem PySem.Spec PyProof.Rows L2
@[simp] theorem z_qC (p : PV) (r : Rs) (k : PV → Rs → Prop) : qC p r k = (k p r) := rfl
@[simp] theorem z_qBin (g : PV → PV → Option PV) (qa qb : PQ) (r : Rs) (k : PV → Rs → Prop) : qBin g qa qb r k = (qa r fun p r1 => qb r1 fun q r2 => ∃ z, g p q = some z ∧ k z r2) := rfl
@[simp] theorem z_qUn (g : PV → Option PV) (qa : PQ) (r : Rs) (k : PV → Rs → Prop) : qUn g qa r k = (qa r fun p r1 => ∃ z, g p = some z ∧ k z r1) := rfl
@[simp] theorem z_qaNil  (r : Rs) (k : List PV → Rs → Prop) : qaNil r k = (k [] r) := rfl
@[simp] theorem z_qaCons (q : PQ) (t : PQA) (r : Rs) (k : List PV → Rs → Prop) : qaCons q t r k = (q r fun p r1 => t r1 fun ps r2 => k (p :: ps) r2) := rfl
@[simp] theorem z_qCall (g : List PV → Option PV) (t : PQA) (r : Rs) (k : PV → Rs → Prop) : qCall g t r k = (t r fun ps r1 => ∃ z, g ps = some z ∧ k z r1) := rfl
@[simp] theorem z_qMethT (T : String) (g : PV → List PV → Option PV) (qo : PQ) (t : PQA) (r : Rs) (k : PV → Rs → Prop) : qMethT T g qo t r k = (qo r fun o r1 => tyP o T = true ∧ t r1 fun ps r2 => ∃ z, g o ps = some z ∧ k z r2) := rfl
@[simp] theorem z_qTru (q : PQ) (r : Rs) (k : Bool → Rs → Prop) : qTru q r k = (q r fun p r1 => ∃ b, tru p = some b ∧ k b r1) := rfl
@[simp] theorem z_qTb (q : PQ) (r : Rs) (k : Bool → Rs → Prop) : qTb q r k = (q r fun p r1 => ∃ b, p = .bl b ∧ k b r1) := rfl
@[simp] theorem z_qAnd (t u : PQT) (r : Rs) (k : Bool → Rs → Prop) : qAnd t u r k = (t r fun b r1 => if b = true then u r1 k else k false r1) := rfl
@[simp] theorem z_qOr (t u : PQT) (r : Rs) (k : Bool → Rs → Prop) : qOr t u r k = (t r fun b r1 => if b = true then k true r1 else u r1 k) := rfl
@[simp] theorem z_qNot (t : PQT) (r : Rs) (k : Bool → Rs → Prop) : qNot t r k = (t r fun b r1 => k (!b) r1) := rfl
@[simp] theorem z_qAndV (q1 q2 : PQ) (r : Rs) (k : PV → Rs → Prop) : qAndV q1 q2 r k = (q1 r fun p r1 => ∃ b, tru p = some b ∧ if b = true then q2 r1 k else k p r1) := rfl
@[simp] theorem z_qOrV (q1 q2 : PQ) (r : Rs) (k : PV → Rs → Prop) : qOrV q1 q2 r k = (q1 r fun p r1 => ∃ b, tru p = some b ∧ if b = true then k p r1 else q2 r1 k) := rfl
@[simp] theorem z_qNotV (q1 : PQ) (r : Rs) (k : PV → Rs → Prop) : qNotV q1 r k = (q1 r fun p r1 => ∃ b, tru p = some b ∧ k (.bl (!b)) r1) := rfl
@[simp] theorem z_qIf (t : PQT) (q1 q2 : PQ) (r : Rs) (k : PV → Rs → Prop) : qIf t q1 q2 r k = (t r fun b r1 => if b = true then q1 r1 k else q2 r1 k) := rfl
@[simp] theorem z_qTup (t : PQA) (r : Rs) (k : PV → Rs → Prop) : qTup t r k = (t r fun ps r1 => ps.length ≤ sizeLine ∧ k (.tup ps) r1) := rfl
@[simp] theorem z_qLst (t : PQA) (r : Rs) (k : PV → Rs → Prop) : qLst t r k = (t r fun ps r1 => ps.length ≤ sizeLine ∧ k (.lst ps) r1) := rfl
@[simp] theorem z_qLstN (t : PQA) (r : Rs) (k : Cell → Rs → Prop) : qLstN t r k = (t r fun ps r1 => ps.length ≤ sizeLine ∧ k (.l ps) r1) := rfl
@[simp] theorem z_qgName (i : Nat) (p : PV) (r : Rs) (k : Rs → Prop) : qgName i p r k = (k (r.set i (.val p))) := rfl
@[simp] theorem z_qgNil (r : Rs) (k : Rs → Prop) : qgNil [] r k = k r := propext ⟨fun ⟨_, w⟩ => w, fun w => ⟨rfl, w⟩⟩
@[simp] theorem z_qgCons (g : QGT) (gs : QGTs) (p : PV) (ps : List PV) (r : Rs) (k : Rs → Prop) : qgCons g gs (p :: ps) r k = (g p r fun r1 => gs ps r1 k) := propext ⟨fun ⟨_, _, e, w⟩ => by cases e; exact w, fun w => ⟨p, ps, rfl, w⟩⟩
@[simp] theorem z_qgTup (n : Nat) (gs : QGTs) (ps : List PV) (r : Rs) (k : Rs → Prop) : qgTup n gs (.tup ps) r k = (ps.length = n ∧ gs ps r k) := propext ⟨fun ⟨_, e, l, w⟩ => by cases e; exact ⟨l, w⟩, fun ⟨l, w⟩ => ⟨ps, rfl, l, w⟩⟩
@[simp] theorem z_qNext  (A : PEnds) (r : Rs) : qNext A r = (A.nx r) := rfl
@[simp] theorem z_qSeq (t u : PQS) (A : PEnds) (r : Rs) : qSeq t u A r = (t { A with nx := u A } r) := rfl
@[simp] theorem z_qNever  (A : PEnds) (r : Rs) : qNever A r = (False) := rfl
@[simp] theorem z_qRet (q : PQ) (A : PEnds) (r : Rs) : qRet q A r = (q r A.rt) := rfl
@[simp] theorem z_qRetN  (A : PEnds) (r : Rs) : qRetN A r = (A.rt .non r) := rfl
@[simp] theorem z_qIfS (c : PQT) (t u : PQS) (A : PEnds) (r : Rs) : qIfS c t u A r = (c r fun b r1 => if b = true then t A r1 else u A r1) := rfl
@[simp] theorem z_qDrop (q : PQ) (A : PEnds) (r : Rs) : qDrop q A r = (q r fun _ r1 => A.nx r1) := rfl
@[simp] theorem z_qAsg (q : PQ) (g : QGT) (A : PEnds) (r : Rs) : qAsg q g A r = (q r fun p r1 => g p r1 A.nx) := rfl
@[simp] theorem z_qAsgN (q : PQN) (i : Nat) (A : PEnds) (r : Rs) : qAsgN q i A r = (q r fun c r1 => A.nx (r1.set i (.own c))) := rfl
@[simp] theorem z_qAug (i : Nat) (g : PV → PV → Option PV) (q : PQ) (A : PEnds) (r : Rs) : qAug i g q A r = (∃ p, r[i]? = some (.val p) ∧ q r fun y r1 => ∃ z, g p y = some z ∧ A.nx (r1.set i (.val z))) := rfl
@[simp] theorem z_qRetO (i : Nat) (A : PEnds) (r : Rs) : qRetO i A r = (∃ c, r[i]? = some (.own c) ∧ A.ro c) := rfl
@[simp] theorem z_qItL (q : PQ) (r : Rs) (k : List PV → Rs → Prop) : qItL q r k = (q r fun p r1 => ∃ ps, p = .lst ps ∧ k ps r1) := rfl
@[simp] theorem z_qItT (q : PQ) (r : Rs) (k : List PV → Rs → Prop) : qItT q r k = (q r fun p r1 => ∃ ps, p = .tup ps ∧ k ps r1) := rfl
@[simp] theorem z_qItS (q : PQ) (r : Rs) (k : List PV → Rs → Prop) : qItS q r k = (q r fun p r1 => ∃ s, p = .str s ∧ k (signs s) r1) := rfl
@[simp] theorem z_qRng1 (t : PQA) (r : Rs) (k : List PV → Rs → Prop) : qRng1 t r k = (t r fun ps r1 => ∃ j : Int, ps = [.int j] ∧ -(2 ^ 62) ≤ j ∧ j < 2 ^ 62 ∧ k (nums 0 j.toNat) r1) := rfl
@[simp] theorem z_qRng2 (t : PQA) (r : Rs) (k : List PV → Rs → Prop) : qRng2 t r k = (t r fun ps r1 => ∃ i j : Int, ps = [.int i, .int j] ∧ (-(2 ^ 62) ≤ i ∧ i < 2 ^ 62 ∧ -(2 ^ 62) ≤ j ∧ j < 2 ^ 62) ∧ k (nums i (j - i).toNat) r1) := rfl
@[simp] theorem z_qFor (qi : PQA) (g : QGT) (b : PQS) (A : PEnds) (r : Rs) : qFor qi g b A r = (qi r fun ps r1 => wpFor g b A ps r1) := rfl
@[simp] theorem z_qLc (vs : List Nat) (qi : PQA) (g : QGT) (t : PQT) (e : PQ) (r : Rs) (k : PV → Rs → Prop) : qLc vs qi g t e r k = (qi r fun ps r1 => wpLc vs g t e (fun acc r2 => k (.lst acc) (restR r1 r2 vs)) ps [] (wipeR r1 vs)) := rfl
@[simp] theorem z_qLcN (vs : List Nat) (qi : PQA) (g : QGT) (t : PQT) (e : PQ) (r : Rs) (k : Cell → Rs → Prop) : qLcN vs qi g t e r k = (qi r fun ps r1 => wpLc vs g t e (fun acc r2 => k (.l acc) (restR r1 r2 vs)) ps [] (wipeR r1 vs)) := rfl
@[simp] theorem z_qYes  (r : Rs) (k : Bool → Rs → Prop) : qYes r k = (k true r) := rfl
@[simp] theorem z_qFn (m : M) (t : PQA) (r : Rs) (k : PV → Rs → Prop) : qFn m t r k = (t r fun as r1 => m as fun p => k p r1) := rfl
@[simp] theorem z_qFnN (m : MN) (t : PQA) (r : Rs) (k : Cell → Rs → Prop) : qFnN m t r k = (t r fun as r1 => m as fun d => k (.l d) r1) := rfl
@[simp] theorem z_qDk (i : Nat) (m : MD) (t : PQA) (r : Rs) (k : PV → Rs → Prop) : qDk i m t r k = (onHeld r i fun _ _ => t r fun as r1 => onHeld r1 i fun d f => m d as fun p d' => k p (f d')) := rfl
@[simp] theorem z_qPop (i : Nat) (r : Rs) (k : PV → Rs → Prop) : qPop i r k = (onHeld r i fun d f => ∃ p, d[d.length - 1]? = some p ∧ k p (f d.dropLast)) := rfl
@[simp] theorem z_qApp (i : Nat) (q : PQ) (r : Rs) (k : PV → Rs → Prop) : qApp i q r k = (onHeld r i fun _ _ => q r fun p r1 => onHeld r1 i fun d f => d.length < sizeLine ∧ k .non (f (d ++ [p]))) := rfl
@[simp] theorem z_qRev (i : Nat) (r : Rs) (k : PV → Rs → Prop) : qRev i r k = (onHeld r i fun d f => k .non (f d.reverse)) := rfl
@[simp] theorem z_qLenH (i : Nat) (r : Rs) (k : PV → Rs → Prop) : qLenH i r k = (onHeld r i fun d _ => k (.int d.length) r) := rfl
@[simp] theorem z_qSortSet (q : PQ) (r : Rs) (k : PV → Rs → Prop) : qSortSet q r k = (q r fun p r1 => ∃ s, p = .str s ∧ s.all (· < 128) = true ∧ s.Nodup ∧ s.length < scanBound ∧ k (.lst ((sortW (s.map fun c => [c])).map PV.str)) r1) := rfl
@[simp] theorem z_qEnumS (q : PQ) (r : Rs) (k : List PV → Rs → Prop) : qEnumS q r k = (q r fun p r1 => ∃ s, p = .str s ∧ k (numbered s) r1) := rfl
@[simp] theorem z_qoNone  (r : Rs) (k : Option Int → Rs → Prop) : qoNone r k = (k none r) := rfl
@[simp] theorem z_qoSome (q : PQ) (r : Rs) (k : Option Int → Rs → Prop) : qoSome q r k = (q r fun p r1 => ∃ i, p = .int i ∧ k (some i) r1) := rfl
@[simp] theorem z_qSl (q : PQ) (ql qh : PQO) (r : Rs) (k : PV → Rs → Prop) : qSl q ql qh r k = (q r fun p r1 => ql r1 fun lo r2 => qh r2 fun hi r3 => ∃ z, gSl p lo hi = some z ∧ k z r3) := rfl
@[simp] theorem z_qIsi (T : String) (q : PQ) (r : Rs) (k : PV → Rs → Prop) : qIsi T q r k = (q r fun p r1 => ∃ a b, tyN p = some a ∧ kitB a T = some b ∧ k (.bl b) r1) := rfl
@[simp] theorem z_qIsiT (Ts : List String) (q : PQ) (r : Rs) (k : PV → Rs → Prop) : qIsiT Ts q r k = (q r fun p r1 => ∃ a b, tyN p = some a ∧ kitL a Ts = some b ∧ k (.bl b) r1) := rfl
@[simp] theorem z_qDGet2 (qo qi qx : PQ) (r : Rs) (k : PV → Rs → Prop) : qDGet2 qo qi qx r k = (qo r fun d r1 => ∃ ks ps, d = .dct ks ps ∧ qi r1 fun y r2 => qx r2 fun w r3 => ∃ k0, keyP y = some k0 ∧ k ((lookD ks ps k0).getD w) r3) := rfl
@[simp] theorem z_qLc2 (vs vs1 : List Nat) (qi : PQA) (g : QGT) (t : PQT) (qi1 : PQA) (g1 : QGT) (t1 : PQT) (e : PQ) (r : Rs) (k : PV → Rs → Prop) : qLc2 vs vs1 qi g t qi1 g1 t1 e r k = (qi r fun ps r1 => wpLc2 vs vs1 g t qi1 g1 t1 e (fun acc r2 => k (.lst acc) (restR r1 r2 vs)) ps [] (wipeR r1 vs)) := rfl
@[simp] theorem z_qDisp (prs : List (PQ × PQ)) (r : Rs) (k : PV → Rs → Prop) : qDisp prs r k = (qPairs prs r fun ps r1 => ∃ ks, keysP ps = some ks ∧ ks.Nodup ∧ ps.length ≤ 15 ∧ k (.dct ks (ps.map (·.2))) r1) := rfl
@[simp] theorem z_pairs0 (r : Rs) (k : List (PV × PV) → Rs → Prop) : qPairs [] r k = k [] r := rfl
@[simp] theorem z_pairs1 (a b : PQ) (t : List (PQ × PQ)) (r : Rs) (k : List (PV × PV) → Rs → Prop) : qPairs ((a, b) :: t) r k = (a r fun x r1 => b r1 fun y r2 => qPairs t r2 fun ps r3 => k ((x, y) :: ps) r3) := rfl
@[simp] theorem z_var0 (i : Nat) (r : Rs) (k : PV → Rs → Prop) : qVar i r k = (match r[i]? with
  | some (.val p) => k p r
  | some (.own c) => k c.pv (r.set i (.val c.pv))
  | _ => False) := rfl
@[simp] theorem z_held (r : Rs) (i : Nat) (k : List PV → (List PV → Rs) → Prop) : onHeld r i k = (match r[i]? with
  | some (.own (.l d)) => k d fun d' => r.set i (.own (.l d'))
  | some (.brw (.l d)) => k d fun d' => r.set i (.brw (.l d'))
  | _ => False) := rfl
@[simp] theorem z_wipe0 (r : Rs) : wipeR r [] = r := rfl
@[simp] theorem z_wipe1 (r : Rs) (v : Nat) (vs : List Nat) : wipeR r (v :: vs) = (wipeR r vs).set v .un := rfl
@[simp] theorem z_rest0 (r0 r : Rs) : restR r0 r [] = r := rfl
@[simp] theorem z_rest1 (r0 r : Rs) (v : Nat) (vs : List Nat) : restR r0 r (v :: vs) = (restR r0 r vs).set v (keepV r0[v]?) := rfl
@[simp] theorem z_keep1 (p : PV) : keepV (some (.val p)) = .val p := rfl
@[simp] theorem z_keep2 : keepV (some .un) = .un := rfl
@[simp] theorem z_keep3 (c : Cell) : keepV (some (.own c)) = .un := rfl
@[simp] theorem z_keep4 (c : Cell) : keepV (some (.brw c)) = .un := rfl
@[simp] theorem z_st0 (as : List PV) (n : Nat) : st0 as n = as.map Sl.val ++ List.replicate n .un := rfl
@[simp] theorem z_cellL (R : List PV → Prop) (d : List PV) : cellL R (.l d) = R d := rfl
@[simp] theorem z_cellpv (d : List PV) : (Cell.l d).pv = .lst d := rfl
@[simp] theorem z_for0 (g : QGT) (b : PQS) (A : PEnds) (r : Rs) : wpFor g b A [] r = A.nx r := rfl
@[simp] theorem z_lc0 (vs : List Nat) (g : QGT) (t : PQT) (e : PQ) (k : List PV → Rs → Prop) (acc : List PV) (r : Rs) : wpLc vs g t e k [] acc r = k acc r := rfl
end Qy
set_option Elab.async false
set_option linter.all false
set_option maxRecDepth 100000
set_option maxHeartbeats 4000000
/-! Q16: the functions on pure values, for simp. -/
namespace Qy
open PySem PySem.Spec PyProof.Rows L2
section
variable (i j : Int) (s t : List Nat) (xs ys : List PV) (b c : Bool) (p q : PV)
@[simp] theorem y_ty1 : tyN (.str s) = some "str" := rfl
@[simp] theorem y_ty2 : tyN (.int i) = some "int" := rfl
@[simp] theorem y_ty3 : tyN (.tup xs) = some "tuple" := rfl
@[simp] theorem y_ty4 : tyN (.lst xs) = some "list" := rfl
@[simp] theorem y_ty5 : tyN .non = some "NoneType" := rfl
@[simp] theorem y_ty6 : tyN (.bl b) = some "bool" := rfl
@[simp] theorem y_ty7 : tyN (.seq xs) = some "list" := rfl
@[simp] theorem y_k1 : kitB "str" "str" = some true := rfl
@[simp] theorem y_k2 : kitB "tuple" "tuple" = some true := rfl
@[simp] theorem y_k3 : kitB "list" "list" = some true := rfl
@[simp] theorem y_k4 : kitB "int" "int" = some true := rfl
@[simp] theorem y_l1 : kitL "list" ["list", "tuple"] = some true := rfl
@[simp] theorem y_l2 : kitL "tuple" ["list", "tuple"] = some true := rfl
@[simp] theorem y_t1 : tru (.bl b) = some b := rfl
@[simp] theorem y_t2 : tru (.int i) = some (i != 0) := rfl
@[simp] theorem y_t3 : tru .non = some false := rfl
@[simp] theorem y_t4 : tru (.lst xs) = some (!xs.isEmpty) := rfl
@[simp] theorem y_t5 : tru (.tup xs) = some (!xs.isEmpty) := rfl
@[simp] theorem y_t6 (h : s.length ≤ sizeLine) : tru (.str s) = some (!s.isEmpty) := if_pos h
@[simp] theorem y_e1 : gEq (.int i) (.int j) = some (.bl (decide (i = j))) := rfl
@[simp] theorem y_e2 : gEq (.str s) (.str t) = some (.bl (decide (s = t))) := rfl
@[simp] theorem y_e3 : gNe (.int i) (.int j) = some (.bl (!decide (i = j))) := rfl
@[simp] theorem y_e4 : gNe (.str s) (.str t) = some (.bl (!decide (s = t))) := rfl
@[simp] theorem y_e5 : gEq .non .non = some (.bl true) := rfl
@[simp] theorem y_e6 : gNe .non .non = some (.bl false) := rfl
@[simp] theorem y_e7 : gEq .non (.str s) = some (.bl false) := rfl
@[simp] theorem y_e8 : gEq (.str s) .non = some (.bl false) := rfl
@[simp] theorem y_e9 : gNe .non (.str s) = some (.bl true) := rfl
@[simp] theorem y_e10 : gNe (.str s) .non = some (.bl true) := rfl
@[simp] theorem y_n1 : gIsN .non .non = some (.bl true) := rfl
@[simp] theorem y_n2 : gIsN (.str s) .non = some (.bl false) := rfl
@[simp] theorem y_n3 : gIsN (.tup xs) .non = some (.bl false) := rfl
@[simp] theorem y_n4 : gIsN (.lst xs) .non = some (.bl false) := rfl
@[simp] theorem y_n5 : gIsN (.int i) .non = some (.bl false) := rfl
@[simp] theorem y_n6 : gNotN .non .non = some (.bl false) := rfl
@[simp] theorem y_n7 : gNotN (.str s) .non = some (.bl true) := rfl
@[simp] theorem y_n8 : gNotN (.tup xs) .non = some (.bl true) := rfl
@[simp] theorem y_n9 : gNotN (.lst xs) .non = some (.bl true) := rfl
@[simp] theorem y_n10 : gNotN (.int i) .non = some (.bl true) := rfl
@[simp] theorem y_a1 : gAdd (.int i) (.int j) = some (.int (i + j)) := rfl
@[simp] theorem y_a2 (h : s.length + t.length ≤ sizeLine) : gAdd (.str s) (.str t) = some (.str (s ++ t)) := if_pos h
@[simp] theorem y_a3 (h : xs.length + ys.length ≤ sizeLine) : gAdd (.lst xs) (.lst ys) = some (.lst (xs ++ ys)) := if_pos h
@[simp] theorem y_a4 : gIadd (.int i) (.int j) = some (.int (i + j)) := rfl
@[simp] theorem y_a5 (h : s.length + t.length ≤ sizeLine) : gIadd (.str s) (.str t) = some (.str (s ++ t)) := if_pos h
@[simp] theorem y_sub : gSub (.int i) (.int j) = some (.int (i - j)) := rfl
@[simp] theorem y_mul1 (h : -(2 ^ 64) < i ∧ i < 2 ^ 64) : gMul (.int i) (.int j) = some (.int (i * j)) := if_pos (Bool.or_eq_true_iff.mpr (.inl (decide_eq_true h)))
@[simp] theorem y_mul2 (h : -(2 ^ 64) < j ∧ j < 2 ^ 64) : gMul (.int i) (.int j) = some (.int (i * j)) := if_pos (Bool.or_eq_true_iff.mpr (.inr (decide_eq_true h)))
@[simp] theorem y_mod (h : 0 < j) : gMod (.int i) (.int j) = some (.int (i % j)) := if_pos (decide_eq_true h)
@[simp] theorem y_fdiv (h : 0 < j ∧ j < 1073741824) : gFdiv (.int i) (.int j) = some (.int (i / j)) := if_pos (decide_eq_true h)
@[simp] theorem y_pow (h : 0 ≤ j ∧ j ≤ 1000000 ∧ i.natAbs < 2 ^ 64) : gPow (.int i) (.int j) = some (.int (i ^ j.toNat)) := if_pos (decide_eq_true h)
@[simp] theorem y_lt : gLt (.int i) (.int j) = some (.bl (decide (i < j))) := rfl
@[simp] theorem y_le : gLe (.int i) (.int j) = some (.bl (decide (i ≤ j))) := rfl
@[simp] theorem y_gt : gGt (.int i) (.int j) = some (.bl (decide (j < i))) := rfl
@[simp] theorem y_ge : gGe (.int i) (.int j) = some (.bl (decide (j ≤ i))) := rfl
@[simp] theorem y_in1 (k : Nat) : gIn (.str [k]) (.str s) = some (.bl (decide (k ∈ s))) := rfl
@[simp] theorem y_in2 (k : Nat) : gNotIn (.str [k]) (.str s) = some (.bl (!decide (k ∈ s))) := rfl
@[simp] theorem y_len1 (h : s.length ≤ sizeLine) : gLen [.str s] = some (.int s.length) := if_pos h
@[simp] theorem y_len2 : gLen [.lst xs] = some (.int xs.length) := rfl
@[simp] theorem y_len3 : gLen [.tup xs] = some (.int xs.length) := rfl
@[simp] theorem y_len4 : gLen [.seq xs] = some (.int xs.length) := rfl
@[simp] theorem y_abs : gAbs [.int i] = some (.int (if i < 0 then -i else i)) := rfl
@[simp] theorem y_int1 : gInt [.int i] = some (.int i) := rfl
@[simp] theorem y_int2 : gInt [.bl b] = some (.int (if b then 1 else 0)) := rfl
@[simp] theorem y_max : gMax2 [.int i, .int j] = some (.int (if j > i then j else i)) := rfl
@[simp] theorem y_min : gMin2 [.int i, .int j] = some (.int (if j < i then j else i)) := rfl
@[simp] theorem y_sum (ns : List Int) : gSum [.lst (ns.map .int)] = some (.int ns.sum) := by show (allInt _).map _ = _; rw [allInt_map]; rfl
@[simp] theorem y_all (bs : List Bool) : gAll [.lst (bs.map .bl)] = some (.bl (bs.all id)) := by show (allBl _).map _ = _; rw [allBl_map]; rfl
@[simp] theorem y_list1 : gList [.lst xs] = some (.lst xs) := rfl
@[simp] theorem y_list2 (h : s.length ≤ sizeLine) : gList [.str s] = some (.lst (signs s)) := if_pos h
@[simp] theorem y_sorted (ws : List (List Nat)) : gSortedS [.lst (ws.map .str)] = some (.lst ((sortW ws).map .str)) := by show (allStr _).map _ = _; rw [allStr_map]; rfl
@[simp] theorem y_join (ws : List (List Nat)) (h : (ws.map List.length).sum + ws.length * s.length ≤ 16777216) : gJoin (.str s) [.lst (ws.map .str)] = some (.str (joinT s ws)) := by
  show (allStr _).bind _ = _
  rw [allStr_map]
  exact if_pos h
@[simp] theorem y_tyP1 : tyP (.str s) "str" = true := rfl
@[simp] theorem y_rev (h : s.length ≤ sizeLine) : gRevS (.str s) = some (.str s.reverse) := if_pos h
@[simp] theorem y_sl1 (lo hi : Option Int) (h : s.length ≤ sizeLine) : gSl (.str s) lo hi = some (.str (cutL s lo hi)) := if_pos h
@[simp] theorem y_sl2 (lo hi : Option Int) : gSl (.tup xs) lo hi = some (.tup (cutL xs lo hi)) := rfl
@[simp] theorem y_sl3 (lo hi : Option Int) : gSl (.lst xs) lo hi = some (.lst (cutL xs lo hi)) := rfl
@[simp] theorem y_ix1 : gIx (.lst xs) (.int i) = atI xs i := rfl
@[simp] theorem y_ix2 : gIx (.tup xs) (.int i) = atI xs i := rfl
@[simp] theorem y_ix3 : gIx (.seq xs) (.int i) = atI xs i := rfl
@[simp] theorem y_ix4 (h : s.length ≤ sizeLine) : gIx (.str s) (.int i) = (atI s i).map fun c => .str [c] := if_pos h
theorem atI_nat {α : Type} (xs : List α) (n : Nat) : atI xs (n : Int) = xs[n]? := by
  unfold atI ixN
  rw [if_pos (by omega)]
  by_cases h : n < xs.length
  · rw [if_pos (by omega)]
    rfl
  · rw [if_neg (by omega), List.getElem?_eq_none (by omega)]
    rfl
@[simp] theorem y_at0 {α : Type} (x : α) (t : List α) : atI (x :: t) 0 = some x := atI_nat (x :: t) 0
@[simp] theorem y_at1 {α : Type} (x y : α) (t : List α) : atI (x :: y :: t) 1 = some y := atI_nat (x :: y :: t) 1
@[simp] theorem y_at2 {α : Type} (x y z : α) (t : List α) : atI (x :: y :: z :: t) 2 = some z := atI_nat (x :: y :: z :: t) 2
@[simp] theorem y_at3 {α : Type} (x y z w : α) (t : List α) : atI (x :: y :: z :: w :: t) 3 = some w := atI_nat (x :: y :: z :: w :: t) 3
@[simp] theorem y_key : keyP (.str s) = some (.inr (tx s)) := rfl
@[simp] theorem y_keys0 : keysP [] = some [] := rfl
@[simp] theorem y_keys1 (x y : PV) (l : List (PV × PV)) : keysP ((x, y) :: l) = (keyP x).bind fun k => (keysP l).map fun ks => k :: ks := rfl
@[simp] theorem y_dg (ks : List Key) : gDGet (.dct ks xs) p = (keyP p).bind fun k => lookD ks xs k := rfl
@[simp] theorem y_lk (k k0 : Key) (ks : List Key) : lookD (k :: ks) (p :: xs) k0 = if k = k0 then some p else lookD ks xs k0 := rfl
theorem sizeBig {n : Nat} (h : n ≤ 1000000) : n ≤ sizeLine := Nat.le_trans h (by rw [sizeLine_eq]; decide)
end
end Qy
set_option Elab.async false
set_option linter.all false
set_option maxRecDepth 100000
set_option maxHeartbeats 4000000
/-! Q17: == of lists of texts; comprehensions and loops that map. -/
namespace Qy
open PySem PySem.Spec PyProof.Rows L2
/-- all signs are code points -/
def CpsOk (w : List Nat) : Prop := ∀ c ∈ w, c < 1114112
def strD (w : List Nat) : PyData := .str (tx w)
theorem datAll_strs : ∀ ws : List (List Nat), datAll (ws.map PV.str) = some (ws.map strD)
  | [] => rfl
  | w :: ws => by
    show (some (strD w)).bind _ = _
    show (datAll (ws.map PV.str)).map (fun ds => strD w :: ds) = _
    rw [datAll_strs ws]
    rfl
theorem lay_strs : ∀ ws : List (List Nat), (∀ w ∈ ws, CpsOk w) → PyData.canLayAll0 (ws.map strD) = true
  | [], _ => rfl
  | w :: ws, h => by
    have h1 : PyData.canLay0 (strD w) = true := by
      unfold strD PyData.canLay0
      simp [PyData.strOk]
      exact fun c hc => h w List.mem_cons_self c hc
    show (PyData.canLay0 (strD w) && PyData.canLayAll0 (ws.map strD)) = true
    rw [h1, lay_strs ws fun v hv => h v (List.mem_cons_of_mem _ hv)]
    rfl
theorem depth_strs : ∀ ws : List (List Nat), PyData.depthAll (ws.map strD) = 0
  | [] => rfl
  | w :: ws => by
    show max (PyData.depth (strD w)) (PyData.depthAll (ws.map strD)) = 0
    rw [depth_strs ws]
    rfl
theorem eqv_strs : ∀ ws vs : List (List Nat), PyData.eqvAll (ws.map strD) (vs.map strD) = decide (ws = vs)
  | [], [] => rfl
  | [], _ :: _ => rfl
  | _ :: _, [] => rfl
  | w :: ws, v :: vs => by
    show (PyData.eqv (strD w) (strD v) && PyData.eqvAll (ws.map strD) (vs.map strD)) = _
    rw [eqv_strs ws vs]
    have e : PyData.eqv (strD w) (strD v) = decide (w = v) := by
      show (tx w == tx v) = _
      by_cases h : w = v
      · subst h
        simp
      · rw [decide_eq_false h]
        exact beq_eq_false_iff_ne.mpr fun q => h (tx_inj q)
    rw [e]
    by_cases h : w = v <;> by_cases h2 : ws = vs <;> simp [h, h2]
theorem eqP_strs {ws vs : List (List Nat)} (h1 : ∀ w ∈ ws, CpsOk w) (h2 : ∀ w ∈ vs, CpsOk w) : eqP (.lst (ws.map PV.str)) (.lst (vs.map PV.str)) = some (decide (ws = vs)) := by
  show deepP _ _ = _
  have sh : ∀ {us : List (List Nat)}, (∀ w ∈ us, CpsOk w) → SeqAt.shaped (.list (us.map strD)) = true := fun {us} h => by
    unfold SeqAt.shaped
    have e : PyData.canLay0 (.list (us.map strD)) = true := lay_strs us h
    have d : PyData.depth (.list (us.map strD)) = 1 := by
      show PyData.depthAll (us.map strD) + 1 = 1
      rw [depth_strs us]
    rw [e, d]
    rfl
  show ((datAll (ws.map PV.str)).map PyData.list).bind _ = _
  rw [datAll_strs]
  show (((datAll (vs.map PV.str)).map PyData.list).bind fun e => _) = _
  rw [datAll_strs]
  show (if (SeqAt.shaped (.list (ws.map strD)) && SeqAt.shaped (.list (vs.map strD))) = true then some (PyData.eqv (.list (ws.map strD)) (.list (vs.map strD))) else none) = _
  rw [sh h1, sh h2]
  exact congrArg some (eqv_strs ws vs)
theorem gEq_strs {ws vs : List (List Nat)} (h1 : ∀ w ∈ ws, CpsOk w) (h2 : ∀ w ∈ vs, CpsOk w) : gEq (.lst (ws.map PV.str)) (.lst (vs.map PV.str)) = some (.bl (decide (ws = vs))) := by
  unfold gEq
  rw [eqP_strs h1 h2]
  rfl
theorem gNe_strs {ws vs : List (List Nat)} (h1 : ∀ w ∈ ws, CpsOk w) (h2 : ∀ w ∈ vs, CpsOk w) : gNe (.lst (ws.map PV.str)) (.lst (vs.map PV.str)) = some (.bl (!decide (ws = vs))) := by
  unfold gNe
  rw [eqP_strs h1 h2]
  rfl
/-- a comprehension without a test, with one name, whose items each give one value -/
theorem lc_map {α : Type} {v : Nat} {e : PQ} {k : List PV → Rs → Prop} {enc : α → PV} {f : α → PV} : ∀ (xs : List α) (acc : List PV) (r : Rs), acc.length + xs.length ≤ sizeLine → r[v]? = some .un →
    (∀ x ∈ xs, ∀ k : PV → Rs → Prop, k (f x) (r.set v (.val (enc x))) → e (r.set v (.val (enc x))) k) → k (acc ++ xs.map f) r → wpLc [v] (qgName v) qYes e k (xs.map enc) acc r
  | [], acc, r, _, _, _, w => by simpa using w
  | x :: xs, acc, r, hl, hv, he, w => by
    show qgName v (enc x) r _
    simp only [z_qgName, z_qYes, if_true]
    refine he x List.mem_cons_self _ ⟨?_, ?_⟩
    · rw [List.length_cons] at hl; omega
    · have er : wipeR (r.set v (.val (enc x))) [v] = r := by
        show (r.set v _).set v .un = r
        rw [List.set_set]
        apply List.ext_getElem?
        intro j
        by_cases q : v = j
        · subst q
          have hl := (List.getElem?_eq_some_iff.mp hv).1
          rw [List.getElem?_set_self hl, hv]
        · rw [List.getElem?_set_ne q]
      rw [er]
      refine lc_map xs (acc ++ [f x]) r (by rw [List.length_append]; rw [List.length_cons] at hl; simp; omega) hv (fun y hy => he y (List.mem_cons_of_mem _ hy)) ?_
      rw [List.append_assoc]
      exact w
/-- with a test -/
theorem lc_filter {α : Type} {v : Nat} {t : PQT} {e : PQ} {k : List PV → Rs → Prop} {enc : α → PV} {g : α → Bool} {f : α → PV} : ∀ (xs : List α) (acc : List PV) (r : Rs), acc.length + xs.length ≤ sizeLine → r[v]? = some .un →
    (∀ x ∈ xs, ∀ k : Bool → Rs → Prop, k (g x) (r.set v (.val (enc x))) → t (r.set v (.val (enc x))) k) →
    (∀ x ∈ xs, g x = true → ∀ k : PV → Rs → Prop, k (f x) (r.set v (.val (enc x))) → e (r.set v (.val (enc x))) k) → k (acc ++ (xs.filter g).map f) r → wpLc [v] (qgName v) t e k (xs.map enc) acc r
  | [], acc, r, _, _, _, _, w => by simpa using w
  | x :: xs, acc, r, hl, hv, ht, he, w => by
    have er : wipeR (r.set v (.val (enc x))) [v] = r := by
      show (r.set v _).set v .un = r
      rw [List.set_set]
      apply List.ext_getElem?
      intro j
      by_cases q : v = j
      · subst q
        have hl := (List.getElem?_eq_some_iff.mp hv).1
        rw [List.getElem?_set_self hl, hv]
      · rw [List.getElem?_set_ne q]
    show qgName v (enc x) r _
    simp only [z_qgName]
    refine ht x List.mem_cons_self _ ?_
    cases hg : g x with
    | true =>
      rw [if_pos rfl]
      refine he x List.mem_cons_self hg _ ⟨?_, ?_⟩
      · rw [List.length_cons] at hl; omega
      · rw [er]
        refine lc_filter xs (acc ++ [f x]) r (by rw [List.length_append]; rw [List.length_cons] at hl; simp; omega) hv (fun y hy => ht y (List.mem_cons_of_mem _ hy)) (fun y hy => he y (List.mem_cons_of_mem _ hy)) ?_
        rw [List.append_assoc]
        rw [List.filter_cons_of_pos hg] at w
        exact w
    | false =>
      rw [if_neg Bool.false_ne_true, er]
      rw [List.filter_cons_of_neg (by rw [hg]; exact Bool.false_ne_true)] at w
      exact lc_filter xs acc r (by rw [List.length_cons] at hl; omega) hv (fun y hy => ht y (List.mem_cons_of_mem _ hy)) (fun y hy => he y (List.mem_cons_of_mem _ hy)) w
theorem signs_map (s : List Nat) : signs s = s.map fun c => PV.str [c] := rfl
theorem rising_len : ∀ (s : List Nat) (lo hi : Nat), s.Pairwise (· < ·) → (∀ c ∈ s, lo ≤ c ∧ c < hi) → s.length + lo ≤ max hi lo
  | [], lo, hi, _, _ => by rw [List.length_nil]; omega
  | c :: s, lo, hi, hp, hm => by
    have h := List.pairwise_cons.mp hp
    have hc := hm c List.mem_cons_self
    have ih := rising_len s (c + 1) hi h.2 fun d hd => ⟨h.1 d hd, (hm d (List.mem_cons_of_mem _ hd)).2⟩
    rw [List.length_cons]
    omega
end Qy
set_option Elab.async false
set_option linter.all false
set_option maxRecDepth 100000
set_option maxHeartbeats 4000000
/-! Q18: text * int. -/
namespace Qy
open PySem PySem.Spec PyProof.Rows L2
section
variable {X : Cx} {K : PySem.W.Frag}
def rMulS : R2 := fun x y H Q => ∃ (z : List Nat) (n : Nat), x = .str (tx z) ∧ y = .int n ∧ n ≤ 1000 ∧ z.length ≤ 1000 ∧ Q (.str (tx (List.replicate n z).flatten)) H
theorem rep_size (z : List Nat) (n : Nat) : (List.replicate n z).flatten.length = n * z.length := by
  induction n with
  | zero => simp
  | succ n ih => rw [List.replicate_succ, List.flatten_cons, List.length_append, ih, Nat.succ_mul, Nat.add_comm]
theorem rep_cps (z : List Nat) : ∀ (n : Nat) (a : Array Nat), (List.replicate n z.toArray).foldl (· ++ ·) a = a ++ (List.replicate n z).flatten.toArray
  | 0, a => by simp
  | n + 1, a => by
    rw [List.replicate_succ, List.foldl_cons, rep_cps z n, List.replicate_succ, List.flatten_cons, Array.append_assoc]
    simp
theorem op_mulS : OpR X (binaryOp .Mult) rMulS := by
  intro pins s σ H x y v u Q I rx ry h
  obtain ⟨z, n, rfl, rfl, hn, hz, q⟩ := h
  obtain ⟨t, rfl⟩ := rx
  obtain ⟨t', rfl⟩ := ry
  have hb : (List.replicate n z).flatten.length ≤ 1000000 := by
    rw [rep_size]
    exact Nat.le_trans (Nat.mul_le_mul hn hz) (by decide)
  refine P.mul_str (by rw [decide_eq_false (by omega), decide_eq_false (by omega)]; rfl) (fun h1 _ => ?_) (fun _ _ => ?_) ?_
  · rw [tx_len]
    have h0 : (0 : Int) < (n : Int) := by omega
    have : (z.length : Int) ≤ (2 ^ 63 - 1) / (n : Int) := by
      rw [Int.le_ediv_iff_mul_le h0]
      have h2 : z.length * n ≤ 1000 * 1000 := Nat.mul_le_mul hz hn
      have h3 : ((z.length * n : Nat) : Int) ≤ 1000000 := by omega
      rw [Int.natCast_mul] at h3
      omega
    omega
  · rw [tx_len, Int.toNat_natCast]
    have h2 : z.length * n ≤ 1000 * 1000 := Nat.mul_le_mul hz hn
    have h3 : z.length * n ≤ sizeLine := sizeBig (by omega)
    unfold Builtin.Str.tooLong
    simp
    omega
  · by_cases h0 : (n : Int) < 1
    · rw [if_pos h0]
      have e : n = 0 := by omega
      subst e
      exact ⟨by decide, .str (tx []), H, I.tok _, ⟨_, rfl⟩, q⟩
    · rw [if_neg h0]
      by_cases h1 : ((n : Int) == 1 || (tx z).length == 0) = true
      · rw [if_pos h1]
        have e : (List.replicate n z).flatten = z := by
          rcases Bool.or_eq_true_iff.mp h1 with h1 | h1
          · have : n = 1 := by
              have := eq_of_beq h1
              omega
            subst this
            simp
          · have : z = [] := by
              have := eq_of_beq h1
              rw [tx_len] at this
              exact List.length_eq_zero_iff.mp this
            subst this
            have hl := rep_size [] n
            exact List.length_eq_zero_iff.mp (by rw [hl]; rfl)
        rw [e] at q
        exact ⟨.str (tx z), H, I, ⟨_, rfl⟩, q⟩
      · rw [if_neg h1]
        rw [Int.toNat_natCast]
        have e : (⟨(List.replicate n (tx z).cps).foldl (· ++ ·) #[]⟩ : Str) = tx (List.replicate n z).flatten := by
          show (⟨(List.replicate n z.toArray).foldl (· ++ ·) #[]⟩ : Str) = _
          rw [rep_cps]
          simp
        rw [e]
        exact ⟨by rw [tx_len]; exact sizeBig hb, .str _, H, I.tok _, ⟨_, rfl⟩, q⟩
abbrev rMulA : R2 := fun x y H Q => rI CMul (fun i j => .int (i * j)) x y H Q ∨ rMulS x y H Q
def gMulA : PV → PV → Option PV
  | .int i, .int j => gMul (.int i) (.int j)
  | .str z, .int j => if 0 ≤ j ∧ j ≤ 1000 ∧ z.length ≤ 1000 then some (.str (List.replicate j.toNat z).flatten) else none
  | _, _ => none
theorem op_mulA : OpR X (binaryOp .Mult) rMulA := OpR.or op_mul op_mulS
theorem pure_mulA : PureB K rMulA gMulA := by
  intro F H p q x y z Q s rp rq hg k
  unfold gMulA at hg
  split at hg
  · exact .inl (pure_mul F H _ _ x y z Q s rp rq hg k)
  · split at hg
    · rename_i zz j h
      cases hg
      have e : j = ((j.toNat : Nat) : Int) := by omega
      refine .inr ⟨zz, j.toNat, rep_str.mp rp, ?_, by omega, h.2.2, k _ _ _ (Ext.refl s) (rep_str.mpr rfl)⟩
      rw [rep_int.mp rq, ← e]
    · cases hg
  · cases hg
theorem y_mulS (s : List Nat) (n : Nat) (h1 : n ≤ 1000) (h2 : s.length ≤ 1000) : gMulA (.str s) (.int n) = some (.str (List.replicate n s).flatten) := by
  show (if 0 ≤ (n : Int) ∧ (n : Int) ≤ 1000 ∧ s.length ≤ 1000 then some (PV.str (List.replicate (n : Int).toNat s).flatten) else none) = _
  rw [if_pos ⟨by omega, by omega, h2⟩, Int.toNat_natCast]
end
end Qy
set_option Elab.async false
set_option linter.all false
set_option maxRecDepth 100000
set_option maxHeartbeats 0
namespace HK
open PySem PySem.Spec PyProof.Rows L2
def top (i : Nat) : Stmt := PySem.Challenge.pw_tellwork_k23_whole_sounds_one_behind_the.main.body.getD i (.Pass ⟨0, 0, 0, 0⟩)
abbrev s_is_letter : Stmt := top 10
abbrev s_is_side : Stmt := top 11
abbrev s_is_rule : Stmt := top 12
abbrev s_check_rules : Stmt := top 13
abbrev s_is_sounds : Stmt := top 14
abbrev s_check_sounds : Stmt := top 15
abbrev s_check_letters : Stmt := top 16
abbrev s_changed : Stmt := top 17
abbrev s_behind_rules : Stmt := top 18
abbrev s_sounded : Stmt := top 19
abbrev s_words_over : Stmt := top 20
abbrev s_check_many : Stmt := top 21
abbrev s_pow_of : Stmt := top 22
abbrev s_least_changed : Stmt := top 23
abbrev s_first_difference : Stmt := top 24
abbrev s_mothers : Stmt := top 25
abbrev s__law_deck : Stmt := top 27
abbrev s__law_take : Stmt := top 28
abbrev s__law_word : Stmt := top 29
abbrev s__law_sides : Stmt := top 30
abbrev s__law_rule : Stmt := top 31
abbrev s__law_relettered : Stmt := top 32
abbrev s_law : Stmt := top 33
def d_is_letter : He.DefD := ⟨("is_letter", none), "is_letter", "is_letter", defArgs s_is_letter, defBody s_is_letter, defScope s_is_letter, [], []⟩
def d_is_side : He.DefD := ⟨("is_side", none), "is_side", "is_side", defArgs s_is_side, defBody s_is_side, defScope s_is_side, [], []⟩
def d_is_rule : He.DefD := ⟨("is_rule", none), "is_rule", "is_rule", defArgs s_is_rule, defBody s_is_rule, defScope s_is_rule, [], []⟩
def d_check_rules : He.DefD := ⟨("check_rules", none), "check_rules", "check_rules", defArgs s_check_rules, defBody s_check_rules, defScope s_check_rules, [], []⟩
def d_is_sounds : He.DefD := ⟨("is_sounds", none), "is_sounds", "is_sounds", defArgs s_is_sounds, defBody s_is_sounds, defScope s_is_sounds, [], []⟩
def d_check_sounds : He.DefD := ⟨("check_sounds", none), "check_sounds", "check_sounds", defArgs s_check_sounds, defBody s_check_sounds, defScope s_check_sounds, [], []⟩
def d_check_letters : He.DefD := ⟨("check_letters", none), "check_letters", "check_letters", defArgs s_check_letters, defBody s_check_letters, defScope s_check_letters, [], []⟩
def d_changed : He.DefD := ⟨("changed", none), "changed", "changed", defArgs s_changed, defBody s_changed, defScope s_changed, [], []⟩
def d_behind_rules : He.DefD := ⟨("behind_rules", none), "behind_rules", "behind_rules", defArgs s_behind_rules, defBody s_behind_rules, defScope s_behind_rules, [], []⟩
def d_sounded : He.DefD := ⟨("sounded", none), "sounded", "sounded", defArgs s_sounded, defBody s_sounded, defScope s_sounded, [], []⟩
def d_words_over : He.DefD := ⟨("words_over", none), "words_over", "words_over", defArgs s_words_over, defBody s_words_over, defScope s_words_over, [], []⟩
def d_check_many : He.DefD := ⟨("check_many", none), "check_many", "check_many", defArgs s_check_many, defBody s_check_many, defScope s_check_many, [], []⟩
def d_pow_of : He.DefD := ⟨("pow_of", none), "pow_of", "pow_of", defArgs s_pow_of, defBody s_pow_of, defScope s_pow_of, [], []⟩
def d_least_changed : He.DefD := ⟨("least_changed", none), "least_changed", "least_changed", defArgs s_least_changed, defBody s_least_changed, defScope s_least_changed, [], []⟩
def d_first_difference : He.DefD := ⟨("first_difference", none), "first_difference", "first_difference", defArgs s_first_difference, defBody s_first_difference, defScope s_first_difference, [], []⟩
def d_mothers : He.DefD := ⟨("mothers", none), "mothers", "mothers", defArgs s_mothers, defBody s_mothers, defScope s_mothers, [], []⟩
def d__law_deck : He.DefD := ⟨("_law_deck", none), "_law_deck", "_law_deck", defArgs s__law_deck, defBody s__law_deck, defScope s__law_deck, [], []⟩
def d__law_take : He.DefD := ⟨("_law_take", none), "_law_take", "_law_take", defArgs s__law_take, defBody s__law_take, defScope s__law_take, [], []⟩
def d__law_word : He.DefD := ⟨("_law_word", none), "_law_word", "_law_word", defArgs s__law_word, defBody s__law_word, defScope s__law_word, [], []⟩
def d__law_sides : He.DefD := ⟨("_law_sides", none), "_law_sides", "_law_sides", defArgs s__law_sides, defBody s__law_sides, defScope s__law_sides, [], []⟩
def d__law_rule : He.DefD := ⟨("_law_rule", none), "_law_rule", "_law_rule", defArgs s__law_rule, defBody s__law_rule, defScope s__law_rule, [], []⟩
def d__law_relettered : He.DefD := ⟨("_law_relettered", none), "_law_relettered", "_law_relettered", defArgs s__law_relettered, defBody s__law_relettered, defScope s__law_relettered, [], []⟩
def d_law : He.DefD := ⟨("law", none), "law", "law", defArgs s_law, defBody s_law, defScope s_law, [], []⟩
def fn : List He.DefD := [d_is_letter, d_is_side, d_is_rule, d_check_rules, d_is_sounds, d_check_sounds, d_check_letters, d_changed, d_behind_rules, d_sounded, d_words_over, d_check_many, d_pow_of, d_least_changed, d_first_difference, d_mothers, d__law_deck, d__law_take, d__law_word, d__law_sides, d__law_rule, d__law_relettered, d_law]
def fa : List He.Fa := [.glo "is_letter", .glo "is_side", .glo "is_rule", .glo "check_rules", .glo "is_sounds", .glo "check_sounds", .glo "check_letters", .glo "changed", .glo "behind_rules", .glo "sounded", .glo "words_over", .glo "check_many", .glo "pow_of", .glo "least_changed", .glo "first_difference", .glo "mothers", .glo "_law_deck", .glo "_law_take", .glo "_law_word", .glo "_law_sides", .glo "_law_rule", .glo "_law_relettered", .glo "law", .free "ValueError", .free "abs", .free "all", .free "enumerate", .free "int", .free "isinstance", .free "len", .free "list", .free "max", .free "range", .free "set", .free "sorted", .free "str", .free "sum", .free "super", .free "tuple", .str "LETTERS" "abcdefghijklmnopqrstuvwxyz", .str "EDGE" "#", .int "MOST_RULES" 6, .int "MOST_WORDS" 40000, .int "MOST_MOTHERS" 20000]
abbrev R : PySem.W.OpenRow := PySem.W.OpenLaw.row PySem.Challenge.rw_tellwork_k23_whole_sounds_one_behind_the
abbrev hk : PySem.W.Hook := He.hookD 4 fa fn
def ob (s : PySem.W.SharedT) : He.AlD := He.obsDG 4 fa fn (HandSHeadRun.getT s)
theorem ob_eq (s : PySem.W.SharedT) : ob s = hk.obs s.abs := He.obsDG_eq (HandSHeadRun.getT_eq s)
def loose0 : List PySem.Str := ["__name__", "TellError", "InvalidSound", "TooMany", "LETTERS", "EDGE", "MOST_RULES", "MOST_WORDS", "MOST_MOTHERS", "is_letter", "is_side", "is_rule", "check_rules", "is_sounds", "check_sounds", "check_letters", "changed", "behind_rules", "sounded", "words_over", "check_many", "pow_of", "least_changed", "first_difference", "mothers", "_law_deck", "_law_take", "_law_word", "_law_sides", "_law_rule"]
def loose1 : List PySem.Str := ["_law_relettered"]
def loose : List PySem.Str := loose0 ++ loose1
def lawAt : Nat := 33
theorem run (w : World) : HandSHeadRun.RunEq R (PySem.W.view R.prog [33]) hk ob 6000 loose w := by
  intro os
  kernel_rfl
end HK
set_option Elab.async false
set_option linter.all false
set_option maxRecDepth 100000
set_option maxHeartbeats 4000000
/-! K23S: what the defs compute, as plain functions on lists of signs; promises. -/
namespace HK
open PySem PySem.Spec PyProof.Rows L2 Qy

/-- a rule: a sign becomes another one, between neighbours -/
structure Ru where
  o : Nat
  n : Nat
  l : Option (List Nat)
  r : Option (List Nat)
def sideP : Option (List Nat) → PV
  | none => .non
  | some s => .str s
def Ru.pv (u : Ru) : PV := .tup [.str [u.o], .str [u.n], sideP u.l, sideP u.r]
def Let (c : Nat) : Prop := 97 ≤ c ∧ c ≤ 122
def SideOk : Option (List Nat) → Prop
  | none => True
  | some s => s ≠ [] ∧ s.Pairwise (· < ·) ∧ ∀ c ∈ s, c = 35 ∨ Let c
structure RuOk (u : Ru) : Prop where
  o : Let u.o
  n : Let u.n
  ne : u.o ≠ u.n
  l : SideOk u.l
  r : SideOk u.r
def AllOk (us : List Ru) : Prop := ∀ u ∈ us, RuOk u
def WordOk (w : List Nat) : Prop := ∀ c ∈ w, Let c
/-- what stands ahead of, and behind, a place; the edge -/
def ahead (w : List Nat) (i : Nat) : Nat := if i = 0 then 35 else w.getD (i - 1) 35
def behind (w : List Nat) (i : Nat) : Nat := w.getD (i + 1) 35
def fits (s : Option (List Nat)) (c : Nat) : Bool := match s with
  | none => true
  | some l => decide (c ∈ l)
def at1 (u : Ru) (w : List Nat) (i c : Nat) : Nat := if c = u.o ∧ (fits u.l (ahead w i) && fits u.r (behind w i)) = true then u.n else c
def chg (u : Ru) (w : List Nat) : List Nat := w.zipIdx.map fun (c, i) => at1 u w i c
def chgs (us : List Ru) (w : List Nat) : List Nat := us.foldl (fun w u => chg u w) w
def abc : List Nat := [97, 98, 99]
def wordsO : Nat → List (List Nat)
  | 0 => [[]]
  | n + 1 => (wordsO n).flatMap fun w => abc.map fun c => w ++ [c]
def allW (n : Nat) : List (List Nat) := (List.range n).flatMap fun i => wordsO (i + 1)
def leastD (one two : List Ru) (n : Nat) : Option (List Nat) := (allW n).find? fun w => decide (chgs one w ≠ chgs two w)
def firstD (one two : List Ru) : Option (List Nat) := leastD one two (2 * max one.length two.length + 1)
def motherW (us : List Ru) (w : List Nat) : List (List Nat) := (wordsO w.length).filter fun v => decide (chgs us v = w)
def wordO : Option (List Nat) → PV
  | none => .non
  | some s => .str s
def ruP (us : List Ru) : PV := .lst (us.map Ru.pv)
def AbcSide : Option (List Nat) → Prop
  | none => True
  | some s => s ≠ [] ∧ s.Sublist [35, 97, 98, 99]
structure AbcRule (u : Ru) : Prop where
  o : u.o ∈ abc
  n : u.n ∈ abc
  ne : u.o ≠ u.n
  l : AbcSide u.l
  r : AbcSide u.r
def AbcWord (w : List Nat) : Prop := ∀ c ∈ w, c ∈ abc
/-- the letters of the three exchanges -/
def toL : Nat → List Nat
  | 0 => [98, 99, 97]
  | 1 => [107, 97, 122]
  | _ => [99, 98, 97]
def toC (k c : Nat) : Nat := match toL k with
  | [x, y, z] => if c = 97 then x else if c = 98 then y else if c = 99 then z else c
  | _ => c
def toP (k : Nat) : PV := .dct [.inr (tx [97]), .inr (tx [98]), .inr (tx [99])] ((toL k).map fun c => .str [c])
def relS (k : Nat) (s : List Nat) : List Nat := (s.map (toC k)).mergeSort (fun a b => decide (a ≤ b))
def relet (k : Nat) (u : Ru) : Ru := ⟨toC k u.o, toC k u.n, u.l.map (relS k), u.r.map (relS k)⟩

def m_is_letter : M := mE (fun c : Nat => [.str [c]]) Let fun _ => .bl true
def m_is_side : M := mE (fun s : Option (List Nat) => [sideP s]) SideOk fun _ => .bl true
def m_is_rule : M := mE (fun u : Ru => [u.pv]) RuOk fun _ => .bl true
def m_check_rules : M := mE (fun us : List Ru => [ruP us]) (fun us => AllOk us ∧ us.length ≤ 6) fun _ => .non
def m_is_sounds : M := mE (fun w : List Nat => [.str w]) (fun w => WordOk w ∧ w.length ≤ 1000) fun _ => .bl true
def m_check_sounds : M := mE (fun w : List Nat => [.str w]) (fun w => WordOk w ∧ w.length ≤ 1000) fun _ => .non
def m_check_letters : M := mE (fun _ : Unit => [.str abc]) (fun _ => True) fun _ => .non
def m_changed : M := mE (fun a : Ru × List Nat => [a.1.pv, .str a.2]) (fun a => a.2.length ≤ 1000) fun a => .str (chg a.1 a.2)
def m_behind_rules : M := mE (fun a : List Ru × List Nat => [ruP a.1, .str a.2]) (fun a => a.2.length ≤ 1000) fun a => .str (chgs a.1 a.2)
def m_sounded : M := mE (fun a : List Ru × List Nat => [ruP a.1, .str a.2]) (fun a => AllOk a.1 ∧ a.1.length ≤ 6 ∧ WordOk a.2 ∧ a.2.length ≤ 1000) fun a => .str (chgs a.1 a.2)
def m_words_over : M := mE (fun n : Nat => [.str abc, .int n]) (fun n => n ≤ 5) fun n => .lst ((wordsO n).map .str)
def m_pow_of : M := mE (fun n : Nat => [.int 3, .int n]) (fun n => n ≤ 5) fun n => .int (3 ^ n)
def m_check_many : M := mE (fun a : Nat × Nat × Nat => [.str abc, .int a.1, .int a.2.1, .int a.2.2]) (fun a => a.1 ≤ 5 ∧ a.2.1 ≤ 5 ∧ 400 ≤ a.2.2) fun _ => .non
def m_least_changed : M := mE (fun a : List Ru × List Ru × Nat => [ruP a.1, ruP a.2.1, .str abc, .int a.2.2]) (fun a => a.2.2 ≤ 5) fun a => wordO (leastD a.1 a.2.1 a.2.2)
def m_first_difference : M := mE (fun a : List Ru × List Ru => [ruP a.1, ruP a.2, .str abc]) (fun a => AllOk a.1 ∧ AllOk a.2 ∧ a.1.length ≤ 2 ∧ a.2.length ≤ 2) fun a => wordO (firstD a.1 a.2)
def m_mothers : M := mE (fun a : List Ru × List Nat => [ruP a.1, .str a.2, .str abc]) (fun a => AllOk a.1 ∧ a.1.length ≤ 6 ∧ WordOk a.2 ∧ a.2.length ≤ 5) fun a => .lst ((motherW a.1 a.2).map .str)
def m__law_deck : MN := fun as R => ∃ ns : List Int, ns.length ≤ 63 ∧ as = [.seq (ns.map .int), .int 40, .int 7] ∧ ∀ ds : List Int, R (ds.map .int)
def m__law_take : MD := mX (fun n : Nat => [.int n]) (fun n => 0 < n) fun n p => ∃ i : Nat, i < n ∧ p = .int i
def m__law_word : MD := mX (fun n : Nat => [.int n]) (fun n => n ≤ 10) fun n p => ∃ w, AbcWord w ∧ w.length ≤ n ∧ p = .str w
def m__law_sides : MD := mX (fun _ : Unit => []) (fun _ => True) fun _ p => ∃ s, AbcSide s ∧ p = sideP s
def m__law_rule : MD := mX (fun _ : Unit => []) (fun _ => True) fun _ p => ∃ u : Ru, AbcRule u ∧ p = u.pv
def m__law_relettered : M := mE (fun a : Ru × Nat => [a.1.pv, toP a.2]) (fun a => AbcRule a.1 ∧ a.2 < 3) fun a => (relet a.2 a.1).pv
def m_law : M := mE (fun ns : List Int => [.seq (ns.map .int)]) (fun ns => ns.length ≤ 63) fun _ => .bl true
theorem mono_is_letter : MonoM m_is_letter := mono_mE
theorem mono_is_side : MonoM m_is_side := mono_mE
theorem mono_is_rule : MonoM m_is_rule := mono_mE
theorem mono_check_rules : MonoM m_check_rules := mono_mE
theorem mono_is_sounds : MonoM m_is_sounds := mono_mE
theorem mono_check_sounds : MonoM m_check_sounds := mono_mE
theorem mono_check_letters : MonoM m_check_letters := mono_mE
theorem mono_changed : MonoM m_changed := mono_mE
theorem mono_behind_rules : MonoM m_behind_rules := mono_mE
theorem mono_sounded : MonoM m_sounded := mono_mE
theorem mono_words_over : MonoM m_words_over := mono_mE
theorem mono_pow_of : MonoM m_pow_of := mono_mE
theorem mono_check_many : MonoM m_check_many := mono_mE
theorem mono_least_changed : MonoM m_least_changed := mono_mE
theorem mono_first_difference : MonoM m_first_difference := mono_mE
theorem mono_mothers : MonoM m_mothers := mono_mE
theorem mono__law_deck : MonoMN m__law_deck := fun _ _ _ h ⟨ns, a, b, w⟩ => ⟨ns, a, b, fun d => h _ (w d)⟩
theorem mono__law_take : MonoMD m__law_take := mono_mX
theorem mono__law_word : MonoMD m__law_word := mono_mX
theorem mono__law_sides : MonoMD m__law_sides := mono_mX
theorem mono__law_rule : MonoMD m__law_rule := mono_mX
theorem mono__law_relettered : MonoM m__law_relettered := mono_mE
end HK
set_option Elab.async false
set_option linter.all false
set_option maxRecDepth 100000
set_option maxHeartbeats 4000000
namespace HK
open PySem PySem.Spec PyProof.Rows L2 Qy
def w_0 : List Nat := ("abcdefghijklmnopqrstuvwxyz" : Str).cps.toList
theorem w_0_eq : w_0 = [97, 98, 99, 100, 101, 102, 103, 104, 105, 106, 107, 108, 109, 110, 111, 112, 113, 114, 115, 116, 117, 118, 119, 120, 121, 122] := by decide +kernel
def w_1 : List Nat := ("#" : Str).cps.toList
theorem w_1_eq : w_1 = [35] := by decide +kernel
def w_2 : List Nat := ("" : Str).cps.toList
theorem w_2_eq : w_2 = [] := by decide +kernel
def w_3 : List Nat := ("c" : Str).cps.toList
theorem w_3_eq : w_3 = [99] := by decide +kernel
def w_4 : List Nat := ("b" : Str).cps.toList
theorem w_4_eq : w_4 = [98] := by decide +kernel
def w_5 : List Nat := ("a" : Str).cps.toList
theorem w_5_eq : w_5 = [97] := by decide +kernel
def w_6 : List Nat := ("#abc" : Str).cps.toList
theorem w_6_eq : w_6 = [35, 97, 98, 99] := by decide +kernel
def w_7 : List Nat := ("abc" : Str).cps.toList
theorem w_7_eq : w_7 = [97, 98, 99] := by decide +kernel
def w_8 : List Nat := ("z" : Str).cps.toList
theorem w_8_eq : w_8 = [122] := by decide +kernel
def w_9 : List Nat := ("k" : Str).cps.toList
theorem w_9_eq : w_9 = [107] := by decide +kernel
/-! ### is_letter -/
abbrev N_is_letter : List Str := ["sign"]
theorem sc_is_letter : FnScope N_is_letter ["sign"] (defScope s_is_letter) := ⟨rfl, rfl, rfl, by decide +kernel, rfl, by decide +kernel, by decide +kernel⟩
def q_is_letter : PQS := (qRet (qAndV (qIsi "str" (qVar 0)) (qAndV (qBin gEq (qCall gLen (qaCons (qVar 0) qaNil)) (qC (.int 1))) (qBin gIn (qVar 0) (qC (.str w_0))))))
theorem body_is_letter {P : Program} {w : World} {K : PySem.W.Frag} {mg : Str → Option Value} {base : Heap} {f : Addr} (b_isinstance : mg "isinstance" = none) (b_len : mg "len" = none) (b_str : mg "str" = none) (c_LETTERS : ∃ t, mg "LETTERS" = some (.str "abcdefghijklmnopqrstuvwxyz" t)) (cdv : Value) (A : Around) (outer : List Env) (s : Shared) (H : Hp) (E : XK) (hr : Room 0 (A.deeper (envOfC "is_letter" (defScope s_is_letter) s.heap.objs.size f cdv))) :
    QSs (cxOf CX0 P w K mg base N_is_letter "is_letter" (defScope s_is_letter) f cdv A outer s H E).nox (defBody s_is_letter) q_is_letter :=
  (qss_one (qs_ret (qe_and (qe_isi (by rfl) b_isinstance (by rfl) b_str (by rfl) (qe_var 0)) (qe_and (qe_cmp (op_eqA hr.units) pure_eq (qe_callB call_len pure_len (by rfl) b_len (by rfl) (qa_cons (qe_var 0) qa_nil)) qe_int (by rfl)) (qe_one (qe_cmp op_inA pure_in (qe_var 0) (qe_gs c_LETTERS (by rfl)) (by rfl)))))))
/-! ### is_side -/
abbrev N_is_side : List Str := ["side", "sign"]
theorem sc_is_side : FnScope N_is_side ["side"] (defScope s_is_side) := ⟨rfl, rfl, rfl, by decide +kernel, rfl, by decide +kernel, by decide +kernel⟩
def q_is_side : PQS := (qSeq (qIfS (qTb (qBin gIsN (qVar 0) (qC .non))) (qRet (qC (.bl true))) qNext) (qSeq (qIfS (qOr (qNot (qTru (qIsi "str" (qVar 0)))) (qOr (qNot (qTru (qVar 0))) (qTb (qBin gNe (qCall gList (qaCons (qVar 0) qaNil)) (qSortSet (qVar 0)))))) (qRet (qC (.bl false))) qNext) (qRet (qCall gAll (qaCons (qLc [1] (qItS (qVar 0)) (qgName 1) qYes (qOrV (qBin gEq (qVar 1) (qC (.str w_1))) (qFn m_is_letter (qaCons (qVar 1) qaNil)))) qaNil)))))
theorem body_is_side {P : Program} {w : World} {K : PySem.W.Frag} {mg : Str → Option Value} {base : Heap} {f : Addr} (h_is_letter : Has P w K mg base "is_letter" 1 ["sign"] (spQ K m_is_letter)) (b_all : mg "all" = none) (b_isinstance : mg "isinstance" = none) (b_list : mg "list" = none) (b_set : mg "set" = none) (b_sorted : mg "sorted" = none) (b_str : mg "str" = none) (c_EDGE : ∃ t, mg "EDGE" = some (.str "#" t)) (cdv : Value) (A : Around) (outer : List Env) (s : Shared) (H : Hp) (E : XK) (hr : Room 1 (A.deeper (envOfC "is_side" (defScope s_is_side) s.heap.objs.size f cdv))) :
    QSs (cxOf CX0 P w K mg base N_is_side "is_side" (defScope s_is_side) f cdv A outer s H E).nox (defBody s_is_side) q_is_side :=
  (qss_cons (qs_if (qt_cmp op_isN pure_isN (qe_var 0) qe_non (by rfl)) (qss_one (qs_ret qe_bl)) qss_nil)
    (qss_cons (qs_if (QW.qt (qw_or (qt_not (qt_tru (qe_isi (by rfl) b_isinstance (by rfl) b_str (by rfl) (qe_var 0)))) (qw_or (qt_not (qt_tru (qe_var 0))) (qw_or1 (qt_cmp (op_neA hr.units) pure_ne (qe_callTy (call_listA rfl) pure_list (by rfl) b_list (by rfl) (qa_cons (qe_var 0) qa_nil)) (qe_sortSet rfl (by rfl) b_sorted (by rfl) b_set (qe_var 0)) (by rfl)))))) (qss_one (qs_ret qe_bl)) qss_nil)
    (qss_one (qs_ret (qe_callB (cr_all rfl) pure_all (by rfl) b_all (by rfl) (qa_cons (qe_lc (own := [("sign", 1)]) rfl sc_is_side.nd (qi_str (qe_var 0)) (blkOk_by (own := [("sign", 1)]) (N := N_is_side) (sc := defScope s_is_side) (by decide +kernel)) (fun _ _ _ _ _ => (qg_name (i := 1) sc_is_side.nd)) (fun _ _ _ _ _ => qts_nil) (fun _ _ _ _ _ => (qe_or (qe_cmp (op_eqA hr.units) pure_eq (qe_var 1) (qe_gs c_EDGE (by rfl)) (by rfl)) (qe_one (qe_f h_is_letter mono_is_letter (hr.mono (by decide)) (by rfl) (qa_cons (qe_var 1) qa_nil)))))) qa_nil))))))
/-! ### is_rule -/
abbrev N_is_rule : List Str := ["rule", "old", "new", "left", "right"]
theorem sc_is_rule : FnScope N_is_rule ["rule"] (defScope s_is_rule) := ⟨rfl, rfl, rfl, by decide +kernel, rfl, by decide +kernel, by decide +kernel⟩
def q_is_rule : PQS := (qSeq (qIfS (qOr (qNot (qTru (qIsi "tuple" (qVar 0)))) (qTb (qBin gNe (qCall gLen (qaCons (qVar 0) qaNil)) (qC (.int 4))))) (qRet (qC (.bl false))) qNext) (qSeq (qAsg (qVar 0) (qgTup 4 (qgCons (qgName 1) (qgCons (qgName 2) (qgCons (qgName 3) (qgCons (qgName 4) qgNil)))))) (qRet (qAndV (qFn m_is_letter (qaCons (qVar 1) qaNil)) (qAndV (qFn m_is_letter (qaCons (qVar 2) qaNil)) (qAndV (qBin gNe (qVar 1) (qVar 2)) (qAndV (qFn m_is_side (qaCons (qVar 3) qaNil)) (qFn m_is_side (qaCons (qVar 4) qaNil)))))))))
theorem body_is_rule {P : Program} {w : World} {K : PySem.W.Frag} {mg : Str → Option Value} {base : Heap} {f : Addr} (h_is_letter : Has P w K mg base "is_letter" 1 ["sign"] (spQ K m_is_letter)) (h_is_side : Has P w K mg base "is_side" 2 ["side"] (spQ K m_is_side)) (b_isinstance : mg "isinstance" = none) (b_len : mg "len" = none) (b_tuple : mg "tuple" = none) (cdv : Value) (A : Around) (outer : List Env) (s : Shared) (H : Hp) (E : XK) (hr : Room 2 (A.deeper (envOfC "is_rule" (defScope s_is_rule) s.heap.objs.size f cdv))) :
    QSs (cxOf CX0 P w K mg base N_is_rule "is_rule" (defScope s_is_rule) f cdv A outer s H E).nox (defBody s_is_rule) q_is_rule :=
  (qss_cons (qs_if (QW.qt (qw_or (qt_not (qt_tru (qe_isi (by rfl) b_isinstance (by rfl) b_tuple (by rfl) (qe_var 0)))) (qw_or1 (qt_cmp (op_neA hr.units) pure_ne (qe_callB call_len pure_len (by rfl) b_len (by rfl) (qa_cons (qe_var 0) qa_nil)) qe_int (by rfl))))) (qss_one (qs_ret qe_bl)) qss_nil)
    (qss_cons (qs_asg (qe_var 0) (qg_tup rfl (qgs_cons (qg_name (i := 1) sc_is_rule.nd) (qgs_cons (qg_name (i := 2) sc_is_rule.nd) (qgs_cons (qg_name (i := 3) sc_is_rule.nd) (qgs_cons (qg_name (i := 4) sc_is_rule.nd) qgs_nil))))))
    (qss_one (qs_ret (qe_and (qe_f h_is_letter mono_is_letter (hr.mono (by decide)) (by rfl) (qa_cons (qe_var 1) qa_nil)) (qe_and (qe_f h_is_letter mono_is_letter (hr.mono (by decide)) (by rfl) (qa_cons (qe_var 2) qa_nil)) (qe_and (qe_cmp (op_neA hr.units) pure_ne (qe_var 1) (qe_var 2) (by rfl)) (qe_and (qe_f h_is_side mono_is_side (hr.mono (by decide)) (by rfl) (qa_cons (qe_var 3) qa_nil)) (qe_one (qe_f h_is_side mono_is_side (hr.mono (by decide)) (by rfl) (qa_cons (qe_var 4) qa_nil)))))))))))
/-! ### check_rules -/
abbrev N_check_rules : List Str := ["rules", "rule"]
theorem sc_check_rules : FnScope N_check_rules ["rules"] (defScope s_check_rules) := ⟨rfl, rfl, rfl, by decide +kernel, rfl, by decide +kernel, by decide +kernel⟩
def q_check_rules : PQS := (qSeq (qIfS (qOr (qNot (qTru (qIsiT ["list", "tuple"] (qVar 0)))) (qNot (qTru (qCall gAll (qaCons (qLc [1] (qItL (qVar 0)) (qgName 1) qYes (qFn m_is_rule (qaCons (qVar 1) qaNil))) qaNil))))) qNever qNext) (qIfS (qTb (qBin gGt (qCall gLen (qaCons (qVar 0) qaNil)) (qC (.int 6)))) qNever qNext))
theorem body_check_rules {P : Program} {w : World} {K : PySem.W.Frag} {mg : Str → Option Value} {base : Heap} {f : Addr} (h_is_rule : Has P w K mg base "is_rule" 3 ["rule"] (spQ K m_is_rule)) (b_all : mg "all" = none) (b_isinstance : mg "isinstance" = none) (b_len : mg "len" = none) (b_list : mg "list" = none) (b_tuple : mg "tuple" = none) (c_MOST_RULES : ∃ t, mg "MOST_RULES" = some (.int 6 t)) (cdv : Value) (A : Around) (outer : List Env) (s : Shared) (H : Hp) (E : XK) (hr : Room 3 (A.deeper (envOfC "check_rules" (defScope s_check_rules) s.heap.objs.size f cdv))) :
    QSs (cxOf CX0 P w K mg base N_check_rules "check_rules" (defScope s_check_rules) f cdv A outer s H E).nox (defBody s_check_rules) q_check_rules :=
  (qss_cons (qs_if (QW.qt (qw_or (qt_not (qt_tru (qe_isi2 (by rfl) b_isinstance (by rfl) b_list (by rfl) (by rfl) b_tuple (by rfl) (qe_var 0)))) (qw_or1 (qt_not (qt_tru (qe_callB (cr_all rfl) pure_all (by rfl) b_all (by rfl) (qa_cons (qe_lc (own := [("rule", 1)]) rfl sc_check_rules.nd (qi_list (qe_var 0)) (blkOk_by (own := [("rule", 1)]) (N := N_check_rules) (sc := defScope s_check_rules) (by decide +kernel)) (fun _ _ _ _ _ => (qg_name (i := 1) sc_check_rules.nd)) (fun _ _ _ _ _ => qts_nil) (fun _ _ _ _ _ => (qe_f h_is_rule mono_is_rule (hr.mono (by decide)) (by rfl) (qa_cons (qe_var 1) qa_nil)))) qa_nil))))))) (qss_one qs_never) qss_nil)
    (qss_one (qs_if (qt_cmp op_gt pure_gt (qe_callB call_len pure_len (by rfl) b_len (by rfl) (qa_cons (qe_var 0) qa_nil)) (qe_gi c_MOST_RULES (by rfl)) (by rfl)) (qss_one qs_never) qss_nil)))
/-! ### is_sounds -/
abbrev N_is_sounds : List Str := ["word", "sign"]
theorem sc_is_sounds : FnScope N_is_sounds ["word"] (defScope s_is_sounds) := ⟨rfl, rfl, rfl, by decide +kernel, rfl, by decide +kernel, by decide +kernel⟩
def q_is_sounds : PQS := (qRet (qAndV (qIsi "str" (qVar 0)) (qCall gAll (qaCons (qLc [1] (qItS (qVar 0)) (qgName 1) qYes (qBin gIn (qVar 1) (qC (.str w_0)))) qaNil))))
theorem body_is_sounds {P : Program} {w : World} {K : PySem.W.Frag} {mg : Str → Option Value} {base : Heap} {f : Addr} (b_all : mg "all" = none) (b_isinstance : mg "isinstance" = none) (b_str : mg "str" = none) (c_LETTERS : ∃ t, mg "LETTERS" = some (.str "abcdefghijklmnopqrstuvwxyz" t)) (cdv : Value) (A : Around) (outer : List Env) (s : Shared) (H : Hp) (E : XK) (hr : Room 0 (A.deeper (envOfC "is_sounds" (defScope s_is_sounds) s.heap.objs.size f cdv))) :
    QSs (cxOf CX0 P w K mg base N_is_sounds "is_sounds" (defScope s_is_sounds) f cdv A outer s H E).nox (defBody s_is_sounds) q_is_sounds :=
  (qss_one (qs_ret (qe_and (qe_isi (by rfl) b_isinstance (by rfl) b_str (by rfl) (qe_var 0)) (qe_one (qe_callB (cr_all rfl) pure_all (by rfl) b_all (by rfl) (qa_cons (qe_lc (own := [("sign", 1)]) rfl sc_is_sounds.nd (qi_str (qe_var 0)) (blkOk_by (own := [("sign", 1)]) (N := N_is_sounds) (sc := defScope s_is_sounds) (by decide +kernel)) (fun _ _ _ _ _ => (qg_name (i := 1) sc_is_sounds.nd)) (fun _ _ _ _ _ => qts_nil) (fun _ _ _ _ _ => (qe_cmp op_inA pure_in (qe_var 1) (qe_gs c_LETTERS (by rfl)) (by rfl)))) qa_nil))))))
/-! ### check_sounds -/
abbrev N_check_sounds : List Str := ["word"]
theorem sc_check_sounds : FnScope N_check_sounds ["word"] (defScope s_check_sounds) := ⟨rfl, rfl, rfl, by decide +kernel, rfl, by decide +kernel, by decide +kernel⟩
def q_check_sounds : PQS := (qIfS (qNot (qTru (qFn m_is_sounds (qaCons (qVar 0) qaNil)))) qNever qNext)
theorem body_check_sounds {P : Program} {w : World} {K : PySem.W.Frag} {mg : Str → Option Value} {base : Heap} {f : Addr} (h_is_sounds : Has P w K mg base "is_sounds" 1 ["word"] (spQ K m_is_sounds)) (cdv : Value) (A : Around) (outer : List Env) (s : Shared) (H : Hp) (E : XK) (hr : Room 1 (A.deeper (envOfC "check_sounds" (defScope s_check_sounds) s.heap.objs.size f cdv))) :
    QSs (cxOf CX0 P w K mg base N_check_sounds "check_sounds" (defScope s_check_sounds) f cdv A outer s H E).nox (defBody s_check_sounds) q_check_sounds :=
  (qss_one (qs_if (qt_not (qt_tru (qe_f h_is_sounds mono_is_sounds (hr.mono (by decide)) (by rfl) (qa_cons (qe_var 0) qa_nil)))) (qss_one qs_never) qss_nil))
/-! ### check_letters -/
abbrev N_check_letters : List Str := ["letters"]
theorem sc_check_letters : FnScope N_check_letters ["letters"] (defScope s_check_letters) := ⟨rfl, rfl, rfl, by decide +kernel, rfl, by decide +kernel, by decide +kernel⟩
def q_check_letters : PQS := (qIfS (qOr (qNot (qTru (qFn m_is_sounds (qaCons (qVar 0) qaNil)))) (qOr (qNot (qTru (qVar 0))) (qTb (qBin gNe (qCall gList (qaCons (qVar 0) qaNil)) (qSortSet (qVar 0)))))) qNever qNext)
theorem body_check_letters {P : Program} {w : World} {K : PySem.W.Frag} {mg : Str → Option Value} {base : Heap} {f : Addr} (h_is_sounds : Has P w K mg base "is_sounds" 1 ["word"] (spQ K m_is_sounds)) (b_list : mg "list" = none) (b_set : mg "set" = none) (b_sorted : mg "sorted" = none) (cdv : Value) (A : Around) (outer : List Env) (s : Shared) (H : Hp) (E : XK) (hr : Room 1 (A.deeper (envOfC "check_letters" (defScope s_check_letters) s.heap.objs.size f cdv))) :
    QSs (cxOf CX0 P w K mg base N_check_letters "check_letters" (defScope s_check_letters) f cdv A outer s H E).nox (defBody s_check_letters) q_check_letters :=
  (qss_one (qs_if (QW.qt (qw_or (qt_not (qt_tru (qe_f h_is_sounds mono_is_sounds (hr.mono (by decide)) (by rfl) (qa_cons (qe_var 0) qa_nil)))) (qw_or (qt_not (qt_tru (qe_var 0))) (qw_or1 (qt_cmp (op_neA hr.units) pure_ne (qe_callTy (call_listA rfl) pure_list (by rfl) b_list (by rfl) (qa_cons (qe_var 0) qa_nil)) (qe_sortSet rfl (by rfl) b_sorted (by rfl) b_set (qe_var 0)) (by rfl)))))) (qss_one qs_never) qss_nil))
/-! ### changed -/
abbrev N_changed : List Str := ["rule", "word", "found", "old", "new", "left", "right", "at", "letter", "ahead", "behind", "fits"]
theorem sc_changed : FnScope N_changed ["rule", "word"] (defScope s_changed) := ⟨rfl, rfl, rfl, by decide +kernel, rfl, by decide +kernel, by decide +kernel⟩
def l_changed_0 : PQS := (qSeq (qAsg (qIf (qTb (qBin gGt (qVar 7) (qC (.int 0)))) (qBin gIx (qVar 1) (qBin gSub (qVar 7) (qC (.int 1)))) (qC (.str w_1))) (qgName 9)) (qSeq (qAsg (qIf (qTb (qBin gLt (qBin gAdd (qVar 7) (qC (.int 1))) (qCall gLen (qaCons (qVar 1) qaNil)))) (qBin gIx (qVar 1) (qBin gAdd (qVar 7) (qC (.int 1)))) (qC (.str w_1))) (qgName 10)) (qSeq (qAsg (qAndV (qOrV (qBin gIsN (qVar 5) (qC .non)) (qBin gIn (qVar 9) (qVar 5))) (qOrV (qBin gIsN (qVar 6) (qC .non)) (qBin gIn (qVar 10) (qVar 6)))) (qgName 11)) (qAug 2 gIadd (qIf (qAnd (qTb (qBin gEq (qVar 8) (qVar 3))) (qTru (qVar 11))) (qVar 4) (qVar 8))))))
def q_changed : PQS := (qSeq (qAsg (qVar 0) (qgTup 4 (qgCons (qgName 3) (qgCons (qgName 4) (qgCons (qgName 5) (qgCons (qgName 6) qgNil)))))) (qSeq (qAsg (qC (.str w_2)) (qgName 2)) (qSeq (qFor (qEnumS (qVar 1)) (qgTup 2 (qgCons (qgName 7) (qgCons (qgName 8) qgNil))) l_changed_0) (qRet (qVar 2)))))
theorem body_changed {P : Program} {w : World} {K : PySem.W.Frag} {mg : Str → Option Value} {base : Heap} {f : Addr} (b_enumerate : mg "enumerate" = none) (b_len : mg "len" = none) (c_EDGE : ∃ t, mg "EDGE" = some (.str "#" t)) (cdv : Value) (A : Around) (outer : List Env) (s : Shared) (H : Hp) (E : XK) (hr : Room 0 (A.deeper (envOfC "changed" (defScope s_changed) s.heap.objs.size f cdv))) :
    QSs (cxOf CX0 P w K mg base N_changed "changed" (defScope s_changed) f cdv A outer s H E).nox (defBody s_changed) q_changed :=
  (qss_cons (qs_asg (qe_var 0) (qg_tup rfl (qgs_cons (qg_name (i := 3) sc_changed.nd) (qgs_cons (qg_name (i := 4) sc_changed.nd) (qgs_cons (qg_name (i := 5) sc_changed.nd) (qgs_cons (qg_name (i := 6) sc_changed.nd) qgs_nil))))))
    (qss_cons (qs_set (i := 2) sc_changed.nd qe_str)
    (qss_cons (qs_for PassesOwn.never rfl (qi_enumS (by rfl) b_enumerate (qe_var 1)) (qg_tup rfl (qgs_cons (qg_name (i := 7) sc_changed.nd) (qgs_cons (qg_name (i := 8) sc_changed.nd) qgs_nil)))
    (qss_cons (qs_set (i := 9) sc_changed.nd (qe_ifExp (qt_cmp op_gt pure_gt (qe_var 7) qe_int (by rfl)) (qe_ix ix_seq pure_ix (qe_var 1) (qe_op op_sub pure_sub (qe_var 7) qe_int) (by intro _ _; rfl)) (qe_gs c_EDGE (by rfl))))
    (qss_cons (qs_set (i := 10) sc_changed.nd (qe_ifExp (qt_cmp op_lt pure_lt (qe_op op_addA pure_add (qe_var 7) qe_int) (qe_callB call_len pure_len (by rfl) b_len (by rfl) (qa_cons (qe_var 1) qa_nil)) (by rfl)) (qe_ix ix_seq pure_ix (qe_var 1) (qe_op op_addA pure_add (qe_var 7) qe_int) (by intro _ _; rfl)) (qe_gs c_EDGE (by rfl))))
    (qss_cons (qs_set (i := 11) sc_changed.nd (qe_and (qe_or (qe_cmp op_isN pure_isN (qe_var 5) qe_non (by rfl)) (qe_one (qe_cmp op_inA pure_in (qe_var 9) (qe_var 5) (by rfl)))) (qe_one (qe_or (qe_cmp op_isN pure_isN (qe_var 6) qe_non (by rfl)) (qe_one (qe_cmp op_inA pure_in (qe_var 10) (qe_var 6) (by rfl)))))))
    (qss_one (qs_aug (i := 2) sc_changed.nd iop_addA pure_iadd (qe_ifExp (QW.qt (qw_and (qt_cmp (op_eqA hr.units) pure_eq (qe_var 8) (qe_var 3) (by rfl)) (qw_and1 (qt_tru (qe_var 11))))) (qe_var 4) (qe_var 8))))))))
    (qss_one (qs_ret (qe_var 2))))))
/-! ### behind_rules -/
abbrev N_behind_rules : List Str := ["rules", "word", "rule"]
theorem sc_behind_rules : FnScope N_behind_rules ["rules", "word"] (defScope s_behind_rules) := ⟨rfl, rfl, rfl, by decide +kernel, rfl, by decide +kernel, by decide +kernel⟩
def l_behind_rules_0 : PQS := (qAsg (qFn m_changed (qaCons (qVar 2) (qaCons (qVar 1) qaNil))) (qgName 1))
def q_behind_rules : PQS := (qSeq (qFor (qItL (qVar 0)) (qgName 2) l_behind_rules_0) (qRet (qVar 1)))
theorem body_behind_rules {P : Program} {w : World} {K : PySem.W.Frag} {mg : Str → Option Value} {base : Heap} {f : Addr} (h_changed : Has P w K mg base "changed" 1 ["rule", "word"] (spQ K m_changed)) (cdv : Value) (A : Around) (outer : List Env) (s : Shared) (H : Hp) (E : XK) (hr : Room 1 (A.deeper (envOfC "behind_rules" (defScope s_behind_rules) s.heap.objs.size f cdv))) :
    QSs (cxOf CX0 P w K mg base N_behind_rules "behind_rules" (defScope s_behind_rules) f cdv A outer s H E).nox (defBody s_behind_rules) q_behind_rules :=
  (qss_cons (qs_for PassesOwn.never rfl (qi_list (qe_var 0)) (qg_name (i := 2) sc_behind_rules.nd)
    (qss_one (qs_set (i := 1) sc_behind_rules.nd (qe_f h_changed mono_changed (hr.mono (by decide)) (by rfl) (qa_cons (qe_var 2) (qa_cons (qe_var 1) qa_nil))))))
    (qss_one (qs_ret (qe_var 1))))
/-! ### sounded -/
abbrev N_sounded : List Str := ["rules", "word"]
theorem sc_sounded : FnScope N_sounded ["rules", "word"] (defScope s_sounded) := ⟨rfl, rfl, rfl, by decide +kernel, rfl, by decide +kernel, by decide +kernel⟩
def q_sounded : PQS := (qSeq (qDrop (qFn m_check_rules (qaCons (qVar 0) qaNil))) (qSeq (qDrop (qFn m_check_sounds (qaCons (qVar 1) qaNil))) (qRet (qFn m_behind_rules (qaCons (qVar 0) (qaCons (qVar 1) qaNil))))))
theorem body_sounded {P : Program} {w : World} {K : PySem.W.Frag} {mg : Str → Option Value} {base : Heap} {f : Addr} (h_behind_rules : Has P w K mg base "behind_rules" 2 ["rules", "word"] (spQ K m_behind_rules)) (h_check_rules : Has P w K mg base "check_rules" 4 ["rules"] (spQ K m_check_rules)) (h_check_sounds : Has P w K mg base "check_sounds" 2 ["word"] (spQ K m_check_sounds)) (cdv : Value) (A : Around) (outer : List Env) (s : Shared) (H : Hp) (E : XK) (hr : Room 4 (A.deeper (envOfC "sounded" (defScope s_sounded) s.heap.objs.size f cdv))) :
    QSs (cxOf CX0 P w K mg base N_sounded "sounded" (defScope s_sounded) f cdv A outer s H E).nox (defBody s_sounded) q_sounded :=
  (qss_cons (qs_expr (qe_f h_check_rules mono_check_rules (hr.mono (by decide)) (by rfl) (qa_cons (qe_var 0) qa_nil)))
    (qss_cons (qs_expr (qe_f h_check_sounds mono_check_sounds (hr.mono (by decide)) (by rfl) (qa_cons (qe_var 1) qa_nil)))
    (qss_one (qs_ret (qe_f h_behind_rules mono_behind_rules (hr.mono (by decide)) (by rfl) (qa_cons (qe_var 0) (qa_cons (qe_var 1) qa_nil)))))))
/-! ### words_over -/
abbrev N_words_over : List Str := ["letters", "size", "found", "_", "word", "letter"]
theorem sc_words_over : FnScope N_words_over ["letters", "size"] (defScope s_words_over) := ⟨rfl, rfl, rfl, by decide +kernel, rfl, by decide +kernel, by decide +kernel⟩
def l_words_over_0 : PQS := (qAsg (qLc2 [4, 5] [5] (qItL (qVar 2)) (qgName 4) qYes (qItS (qVar 0)) (qgName 5) qYes (qBin gAdd (qVar 4) (qVar 5))) (qgName 2))
def q_words_over : PQS := (qSeq (qAsg (qLst (qaCons (qC (.str w_2)) qaNil)) (qgName 2)) (qSeq (qFor (qRng1 (qaCons (qVar 1) qaNil)) (qgName 3) l_words_over_0) (qRet (qVar 2))))
theorem body_words_over {P : Program} {w : World} {K : PySem.W.Frag} {mg : Str → Option Value} {base : Heap} {f : Addr} (b_range : mg "range" = none) (cdv : Value) (A : Around) (outer : List Env) (s : Shared) (H : Hp) (E : XK) (hr : Room 0 (A.deeper (envOfC "words_over" (defScope s_words_over) s.heap.objs.size f cdv))) :
    QSs (cxOf CX0 P w K mg base N_words_over "words_over" (defScope s_words_over) f cdv A outer s H E).nox (defBody s_words_over) q_words_over :=
  (qss_cons (qs_set (i := 2) sc_words_over.nd (qe_lst (qa_cons qe_str qa_nil)))
    (qss_cons (qs_for PassesOwn.never rfl (qi_range1 (by rfl) b_range (qa_cons (qe_var 1) qa_nil)) (qg_name (i := 3) sc_words_over.nd)
    (qss_one (qs_setLc2 (i := 2) (own := [("word", 4), ("letter", 5)]) [5] rfl sc_words_over.nd (by rfl) (qi_list (qe_var 2)) (blkOk_by (own := [("word", 4), ("letter", 5)]) (N := N_words_over) (sc := defScope s_words_over) (by decide +kernel)) (fun _ _ _ _ _ => (qg_name (i := 4) sc_words_over.nd)) (fun _ _ _ _ _ => qts_nil) (fun _ _ _ _ _ => (qi_str (qe_var 0))) (fun _ _ _ _ _ => (qg_name (i := 5) sc_words_over.nd)) (fun _ _ _ _ _ => qts_nil) (fun _ _ _ _ _ => (qe_op op_addA pure_add (qe_var 4) (qe_var 5))))))
    (qss_one (qs_ret (qe_var 2)))))
/-! ### pow_of -/
abbrev N_pow_of : List Str := ["number", "times", "found", "_"]
theorem sc_pow_of : FnScope N_pow_of ["number", "times"] (defScope s_pow_of) := ⟨rfl, rfl, rfl, by decide +kernel, rfl, by decide +kernel, by decide +kernel⟩
def l_pow_of_0 : PQS := (qAug 2 gMul (qVar 0))
def q_pow_of : PQS := (qSeq (qAsg (qC (.int 1)) (qgName 2)) (qSeq (qFor (qRng1 (qaCons (qVar 1) qaNil)) (qgName 3) l_pow_of_0) (qRet (qVar 2))))
theorem body_pow_of {P : Program} {w : World} {K : PySem.W.Frag} {mg : Str → Option Value} {base : Heap} {f : Addr} (b_range : mg "range" = none) (cdv : Value) (A : Around) (outer : List Env) (s : Shared) (H : Hp) (E : XK) (hr : Room 0 (A.deeper (envOfC "pow_of" (defScope s_pow_of) s.heap.objs.size f cdv))) :
    QSs (cxOf CX0 P w K mg base N_pow_of "pow_of" (defScope s_pow_of) f cdv A outer s H E).nox (defBody s_pow_of) q_pow_of :=
  (qss_cons (qs_set (i := 2) sc_pow_of.nd qe_int)
    (qss_cons (qs_for PassesOwn.never rfl (qi_range1 (by rfl) b_range (qa_cons (qe_var 1) qa_nil)) (qg_name (i := 3) sc_pow_of.nd)
    (qss_one (qs_aug (i := 2) sc_pow_of.nd iop_mul pure_mul (qe_var 0))))
    (qss_one (qs_ret (qe_var 2)))))
/-! ### check_many -/
abbrev N_check_many : List Str := ["letters", "least", "greatest", "most", "total", "size"]
theorem sc_check_many : FnScope N_check_many ["letters", "least", "greatest", "most"] (defScope s_check_many) := ⟨rfl, rfl, rfl, by decide +kernel, rfl, by decide +kernel, by decide +kernel⟩
def q_check_many : PQS := (qSeq (qAsg (qCall gSum (qaCons (qLc [5] (qRng2 (qaCons (qVar 1) (qaCons (qBin gAdd (qVar 2) (qC (.int 1))) qaNil))) (qgName 5) qYes (qFn m_pow_of (qaCons (qCall gLen (qaCons (qVar 0) qaNil)) (qaCons (qVar 5) qaNil)))) qaNil)) (qgName 4)) (qIfS (qTb (qBin gGt (qVar 4) (qVar 3))) qNever qNext))
theorem body_check_many {P : Program} {w : World} {K : PySem.W.Frag} {mg : Str → Option Value} {base : Heap} {f : Addr} (h_pow_of : Has P w K mg base "pow_of" 1 ["number", "times"] (spQ K m_pow_of)) (b_len : mg "len" = none) (b_range : mg "range" = none) (b_sum : mg "sum" = none) (cdv : Value) (A : Around) (outer : List Env) (s : Shared) (H : Hp) (E : XK) (hr : Room 1 (A.deeper (envOfC "check_many" (defScope s_check_many) s.heap.objs.size f cdv))) :
    QSs (cxOf CX0 P w K mg base N_check_many "check_many" (defScope s_check_many) f cdv A outer s H E).nox (defBody s_check_many) q_check_many :=
  (qss_cons (qs_set (i := 4) sc_check_many.nd (qe_callB (cr_sum rfl) pure_sum (by rfl) b_sum (by rfl) (qa_cons (qe_lc (own := [("size", 5)]) rfl sc_check_many.nd (qi_range2 (by rfl) b_range (qa_cons (qe_var 1) (qa_cons (qe_op op_addA pure_add (qe_var 2) qe_int) qa_nil))) (blkOk_by (own := [("size", 5)]) (N := N_check_many) (sc := defScope s_check_many) (by decide +kernel)) (fun _ _ _ _ _ => (qg_name (i := 5) sc_check_many.nd)) (fun _ _ _ _ _ => qts_nil) (fun _ _ _ _ _ => (qe_f h_pow_of mono_pow_of (hr.mono (by decide)) (by rfl) (qa_cons (qe_callB call_len pure_len (by rfl) b_len (by rfl) (qa_cons (qe_var 0) qa_nil)) (qa_cons (qe_var 5) qa_nil))))) qa_nil)))
    (qss_one (qs_if (qt_cmp op_gt pure_gt (qe_var 4) (qe_var 3) (by rfl)) (qss_one qs_never) qss_nil)))
/-! ### least_changed -/
abbrev N_least_changed : List Str := ["one", "other", "letters", "most", "size", "word"]
theorem sc_least_changed : FnScope N_least_changed ["one", "other", "letters", "most"] (defScope s_least_changed) := ⟨rfl, rfl, rfl, by decide +kernel, rfl, by decide +kernel, by decide +kernel⟩
def l_least_changed_0 : PQS := (qIfS (qTb (qBin gNe (qFn m_behind_rules (qaCons (qVar 0) (qaCons (qVar 5) qaNil))) (qFn m_behind_rules (qaCons (qVar 1) (qaCons (qVar 5) qaNil))))) (qRet (qVar 5)) qNext)
def l_least_changed_1 : PQS := (qFor (qItL (qFn m_words_over (qaCons (qVar 2) (qaCons (qVar 4) qaNil)))) (qgName 5) l_least_changed_0)
def q_least_changed : PQS := (qSeq (qFor (qRng2 (qaCons (qC (.int 1)) (qaCons (qBin gAdd (qVar 3) (qC (.int 1))) qaNil))) (qgName 4) l_least_changed_1) (qRet (qC .non)))
theorem body_least_changed {P : Program} {w : World} {K : PySem.W.Frag} {mg : Str → Option Value} {base : Heap} {f : Addr} (h_behind_rules : Has P w K mg base "behind_rules" 2 ["rules", "word"] (spQ K m_behind_rules)) (h_words_over : Has P w K mg base "words_over" 1 ["letters", "size"] (spQ K m_words_over)) (b_range : mg "range" = none) (cdv : Value) (A : Around) (outer : List Env) (s : Shared) (H : Hp) (E : XK) (hr : Room 2 (A.deeper (envOfC "least_changed" (defScope s_least_changed) s.heap.objs.size f cdv))) :
    QSs (cxOf CX0 P w K mg base N_least_changed "least_changed" (defScope s_least_changed) f cdv A outer s H E).nox (defBody s_least_changed) q_least_changed :=
  (qss_cons (qs_for PassesOwn.never rfl (qi_range2 (by rfl) b_range (qa_cons qe_int (qa_cons (qe_op op_addA pure_add (qe_var 3) qe_int) qa_nil))) (qg_name (i := 4) sc_least_changed.nd)
    (qss_one (qs_for PassesOwn.never rfl (qi_list (qe_f h_words_over mono_words_over (hr.mono (by decide)) (by rfl) (qa_cons (qe_var 2) (qa_cons (qe_var 4) qa_nil)))) (qg_name (i := 5) sc_least_changed.nd)
    (qss_one (qs_if (qt_cmp (op_neA hr.units) pure_ne (qe_f h_behind_rules mono_behind_rules (hr.mono (by decide)) (by rfl) (qa_cons (qe_var 0) (qa_cons (qe_var 5) qa_nil))) (qe_f h_behind_rules mono_behind_rules (hr.mono (by decide)) (by rfl) (qa_cons (qe_var 1) (qa_cons (qe_var 5) qa_nil))) (by rfl)) (qss_one (qs_ret (qe_var 5))) qss_nil)))))
    (qss_one (qs_ret qe_non)))
/-! ### first_difference -/
abbrev N_first_difference : List Str := ["one", "other", "letters", "most"]
theorem sc_first_difference : FnScope N_first_difference ["one", "other", "letters"] (defScope s_first_difference) := ⟨rfl, rfl, rfl, by decide +kernel, rfl, by decide +kernel, by decide +kernel⟩
def q_first_difference : PQS := (qSeq (qDrop (qFn m_check_rules (qaCons (qVar 0) qaNil))) (qSeq (qDrop (qFn m_check_rules (qaCons (qVar 1) qaNil))) (qSeq (qDrop (qFn m_check_letters (qaCons (qVar 2) qaNil))) (qSeq (qAsg (qBin gAdd (qBin gMul (qC (.int 2)) (qCall gMax2 (qaCons (qCall gLen (qaCons (qVar 0) qaNil)) (qaCons (qCall gLen (qaCons (qVar 1) qaNil)) qaNil)))) (qC (.int 1))) (qgName 3)) (qSeq (qDrop (qFn m_check_many (qaCons (qVar 2) (qaCons (qC (.int 1)) (qaCons (qVar 3) (qaCons (qC (.int 40000)) qaNil)))))) (qRet (qFn m_least_changed (qaCons (qVar 0) (qaCons (qVar 1) (qaCons (qVar 2) (qaCons (qVar 3) qaNil)))))))))))
theorem body_first_difference {P : Program} {w : World} {K : PySem.W.Frag} {mg : Str → Option Value} {base : Heap} {f : Addr} (h_check_letters : Has P w K mg base "check_letters" 2 ["letters"] (spQ K m_check_letters)) (h_check_many : Has P w K mg base "check_many" 2 ["letters", "least", "greatest", "most"] (spQ K m_check_many)) (h_check_rules : Has P w K mg base "check_rules" 4 ["rules"] (spQ K m_check_rules)) (h_least_changed : Has P w K mg base "least_changed" 3 ["one", "other", "letters", "most"] (spQ K m_least_changed)) (b_len : mg "len" = none) (b_max : mg "max" = none) (c_MOST_WORDS : ∃ t, mg "MOST_WORDS" = some (.int 40000 t)) (cdv : Value) (A : Around) (outer : List Env) (s : Shared) (H : Hp) (E : XK) (hr : Room 4 (A.deeper (envOfC "first_difference" (defScope s_first_difference) s.heap.objs.size f cdv))) :
    QSs (cxOf CX0 P w K mg base N_first_difference "first_difference" (defScope s_first_difference) f cdv A outer s H E).nox (defBody s_first_difference) q_first_difference :=
  (qss_cons (qs_expr (qe_f h_check_rules mono_check_rules (hr.mono (by decide)) (by rfl) (qa_cons (qe_var 0) qa_nil)))
    (qss_cons (qs_expr (qe_f h_check_rules mono_check_rules (hr.mono (by decide)) (by rfl) (qa_cons (qe_var 1) qa_nil)))
    (qss_cons (qs_expr (qe_f h_check_letters mono_check_letters (hr.mono (by decide)) (by rfl) (qa_cons (qe_var 2) qa_nil)))
    (qss_cons (qs_set (i := 3) sc_first_difference.nd (qe_op op_addA pure_add (qe_op op_mul pure_mul qe_int (qe_callB (call_max2 rfl) pure_max2 (by rfl) b_max (by rfl) (qa_cons (qe_callB call_len pure_len (by rfl) b_len (by rfl) (qa_cons (qe_var 0) qa_nil)) (qa_cons (qe_callB call_len pure_len (by rfl) b_len (by rfl) (qa_cons (qe_var 1) qa_nil)) qa_nil)))) qe_int))
    (qss_cons (qs_expr (qe_f h_check_many mono_check_many (hr.mono (by decide)) (by rfl) (qa_cons (qe_var 2) (qa_cons qe_int (qa_cons (qe_var 3) (qa_cons (qe_gi c_MOST_WORDS (by rfl)) qa_nil))))))
    (qss_one (qs_ret (qe_f h_least_changed mono_least_changed (hr.mono (by decide)) (by rfl) (qa_cons (qe_var 0) (qa_cons (qe_var 1) (qa_cons (qe_var 2) (qa_cons (qe_var 3) qa_nil))))))))))))
/-! ### mothers -/
abbrev N_mothers : List Str := ["rules", "word", "letters", "one"]
theorem sc_mothers : FnScope N_mothers ["rules", "word", "letters"] (defScope s_mothers) := ⟨rfl, rfl, rfl, by decide +kernel, rfl, by decide +kernel, by decide +kernel⟩
def q_mothers : PQS := (qSeq (qDrop (qFn m_check_rules (qaCons (qVar 0) qaNil))) (qSeq (qDrop (qFn m_check_sounds (qaCons (qVar 1) qaNil))) (qSeq (qDrop (qFn m_check_letters (qaCons (qVar 2) qaNil))) (qSeq (qDrop (qFn m_check_many (qaCons (qVar 2) (qaCons (qCall gLen (qaCons (qVar 1) qaNil)) (qaCons (qCall gLen (qaCons (qVar 1) qaNil)) (qaCons (qC (.int 20000)) qaNil)))))) (qRet (qLc [3] (qItL (qFn m_words_over (qaCons (qVar 2) (qaCons (qCall gLen (qaCons (qVar 1) qaNil)) qaNil)))) (qgName 3) (qTb (qBin gEq (qFn m_behind_rules (qaCons (qVar 0) (qaCons (qVar 3) qaNil))) (qVar 1))) (qVar 3)))))))
theorem body_mothers {P : Program} {w : World} {K : PySem.W.Frag} {mg : Str → Option Value} {base : Heap} {f : Addr} (h_behind_rules : Has P w K mg base "behind_rules" 2 ["rules", "word"] (spQ K m_behind_rules)) (h_check_letters : Has P w K mg base "check_letters" 2 ["letters"] (spQ K m_check_letters)) (h_check_many : Has P w K mg base "check_many" 2 ["letters", "least", "greatest", "most"] (spQ K m_check_many)) (h_check_rules : Has P w K mg base "check_rules" 4 ["rules"] (spQ K m_check_rules)) (h_check_sounds : Has P w K mg base "check_sounds" 2 ["word"] (spQ K m_check_sounds)) (h_words_over : Has P w K mg base "words_over" 1 ["letters", "size"] (spQ K m_words_over)) (b_len : mg "len" = none) (c_MOST_MOTHERS : ∃ t, mg "MOST_MOTHERS" = some (.int 20000 t)) (cdv : Value) (A : Around) (outer : List Env) (s : Shared) (H : Hp) (E : XK) (hr : Room 4 (A.deeper (envOfC "mothers" (defScope s_mothers) s.heap.objs.size f cdv))) :
    QSs (cxOf CX0 P w K mg base N_mothers "mothers" (defScope s_mothers) f cdv A outer s H E).nox (defBody s_mothers) q_mothers :=
  (qss_cons (qs_expr (qe_f h_check_rules mono_check_rules (hr.mono (by decide)) (by rfl) (qa_cons (qe_var 0) qa_nil)))
    (qss_cons (qs_expr (qe_f h_check_sounds mono_check_sounds (hr.mono (by decide)) (by rfl) (qa_cons (qe_var 1) qa_nil)))
    (qss_cons (qs_expr (qe_f h_check_letters mono_check_letters (hr.mono (by decide)) (by rfl) (qa_cons (qe_var 2) qa_nil)))
    (qss_cons (qs_expr (qe_f h_check_many mono_check_many (hr.mono (by decide)) (by rfl) (qa_cons (qe_var 2) (qa_cons (qe_callB call_len pure_len (by rfl) b_len (by rfl) (qa_cons (qe_var 1) qa_nil)) (qa_cons (qe_callB call_len pure_len (by rfl) b_len (by rfl) (qa_cons (qe_var 1) qa_nil)) (qa_cons (qe_gi c_MOST_MOTHERS (by rfl)) qa_nil))))))
    (qss_one (qs_ret (qe_lc (own := [("one", 3)]) rfl sc_mothers.nd (qi_list (qe_f h_words_over mono_words_over (hr.mono (by decide)) (by rfl) (qa_cons (qe_var 2) (qa_cons (qe_callB call_len pure_len (by rfl) b_len (by rfl) (qa_cons (qe_var 1) qa_nil)) qa_nil)))) (blkOk_by (own := [("one", 3)]) (N := N_mothers) (sc := defScope s_mothers) (by decide +kernel)) (fun _ _ _ _ _ => (qg_name (i := 3) sc_mothers.nd)) (fun _ _ _ _ _ => (qts_one (qt_cmp (op_eqA hr.units) pure_eq (qe_f h_behind_rules mono_behind_rules (hr.mono (by decide)) (by rfl) (qa_cons (qe_var 0) (qa_cons (qe_var 3) qa_nil))) (qe_var 1) (by rfl)))) (fun _ _ _ _ _ => (qe_var 3)))))))))
/-! ### _law_deck -/
abbrev N__law_deck : List Str := ["script", "cells", "each", "deck", "seed", "k", "cell", "rest", "at"]
theorem sc__law_deck : FnScope N__law_deck ["script", "cells", "each"] (defScope s__law_deck) := ⟨rfl, rfl, rfl, by decide +kernel, rfl, by decide +kernel, by decide +kernel⟩
def l__law_deck_0 : PQS := (qSeq (qDrop (qApp 3 (qBin gMod (qCall gInt (qaCons (qVar 7) qaNil)) (qC (.int 1000003))))) (qAsg (qBin gFdiv (qVar 7) (qC (.int 1000003))) (qgName 7)))
def l__law_deck_1 : PQS := (qSeq (qAsg (qBin gMod (qCall gInt (qaCons (qBin gAdd (qBin gAdd (qBin gMul (qVar 4) (qC (.int 69621))) (qVar 8)) (qC (.int 1))) qaNil)) (qC (.int 2147483629))) (qgName 4)) (qDrop (qApp 3 (qBin gMod (qCall gInt (qaCons (qBin gFdiv (qVar 4) (qC (.int 5))) qaNil)) (qC (.int 1000003))))))
def l__law_deck_2 : PQS := (qSeq (qAsg (qC (.int 0)) (qgName 6)) (qSeq (qIfS (qTb (qBin gLt (qVar 5) (qCall gLen (qaCons (qVar 0) qaNil)))) (qAsg (qBin gIx (qVar 0) (qVar 5)) (qgName 6)) qNext) (qSeq (qAsg (qCall gAbs (qaCons (qVar 6) qaNil)) (qgName 7)) (qIfS (qTb (qBin gGe (qVar 7) (qBin gPow (qC (.int 10)) (qC (.int 30))))) (qFor (qRng1 (qaCons (qVar 2) qaNil)) (qgName 8) l__law_deck_0) (qSeq (qAsg (qBin gMod (qCall gInt (qaCons (qBin gAdd (qBin gAdd (qBin gAdd (qBin gMul (qVar 4) (qC (.int 48271))) (qBin gMul (qC (.int 2)) (qVar 7))) (qCall gInt (qaCons (qBin gLt (qVar 6) (qC (.int 0))) qaNil))) (qVar 5)) qaNil)) (qC (.int 2147483647))) (qgName 4)) (qFor (qRng1 (qaCons (qVar 2) qaNil)) (qgName 8) l__law_deck_1))))))
def q__law_deck : PQS := (qSeq (qAsgN (qLstN qaNil) 3) (qSeq (qAsg (qBin gAdd (qC (.int 7)) (qCall gLen (qaCons (qVar 0) qaNil))) (qgName 4)) (qSeq (qFor (qRng1 (qaCons (qVar 1) qaNil)) (qgName 5) l__law_deck_2) (qSeq (qDrop (qRev 3)) (qRetO 3)))))
theorem body__law_deck {P : Program} {w : World} {K : PySem.W.Frag} {mg : Str → Option Value} {base : Heap} {f : Addr} (b_abs : mg "abs" = none) (b_int : mg "int" = none) (b_len : mg "len" = none) (b_range : mg "range" = none) (cdv : Value) (A : Around) (outer : List Env) (s : Shared) (H : Hp) (E : XK) (hr : Room 0 (A.deeper (envOfC "_law_deck" (defScope s__law_deck) s.heap.objs.size f cdv))) :
    QSs (cxOf CX0 P w K mg base N__law_deck "_law_deck" (defScope s__law_deck) f cdv A outer s H E).nox (defBody s__law_deck) q__law_deck :=
  (qss_cons (qs_setN (i := 3) sc__law_deck.nd (qn_lst qa_nil))
    (qss_cons (qs_set (i := 4) sc__law_deck.nd (qe_op op_addA pure_add qe_int (qe_callB call_len pure_len (by rfl) b_len (by rfl) (qa_cons (qe_var 0) qa_nil))))
    (qss_cons (qs_for PassesOwn.never rfl (qi_range1 (by rfl) b_range (qa_cons (qe_var 1) qa_nil)) (qg_name (i := 5) sc__law_deck.nd)
    (qss_cons (qs_set (i := 6) sc__law_deck.nd qe_int)
    (qss_cons (qs_if (qt_cmp op_lt pure_lt (qe_var 5) (qe_callB call_len pure_len (by rfl) b_len (by rfl) (qa_cons (qe_var 0) qa_nil)) (by rfl)) (qss_one (qs_set (i := 6) sc__law_deck.nd (qe_ix ix_seq pure_ix (qe_var 0) (qe_var 5) (by intro _ _; rfl)))) qss_nil)
    (qss_cons (qs_set (i := 7) sc__law_deck.nd (qe_callB call_abs pure_abs (by rfl) b_abs (by rfl) (qa_cons (qe_var 6) qa_nil)))
    (qss_one (qs_if (qt_cmp op_ge pure_ge (qe_var 7) (qe_op op_pow pure_pow qe_int qe_int) (by rfl)) (qss_one (qs_for PassesOwn.never rfl (qi_range1 (by rfl) b_range (qa_cons (qe_var 2) qa_nil)) (qg_name (i := 8) sc__law_deck.nd)
    (qss_cons (qs_expr (qe_app (i := 3) (qe_op op_mod pure_mod (qe_callTy call_int1 pure_int (by rfl) b_int (by rfl) (qa_cons (qe_var 7) qa_nil)) qe_int)))
    (qss_one (qs_set (i := 7) sc__law_deck.nd (qe_op op_fdiv pure_fdiv (qe_var 7) qe_int)))))) (qss_cons (qs_set (i := 4) sc__law_deck.nd (qe_op op_mod pure_mod (qe_callTy call_int1 pure_int (by rfl) b_int (by rfl) (qa_cons (qe_op op_addA pure_add (qe_op op_addA pure_add (qe_op op_addA pure_add (qe_op op_mul pure_mul (qe_var 4) qe_int) (qe_op op_mul pure_mul qe_int (qe_var 7))) (qe_callTy call_int1 pure_int (by rfl) b_int (by rfl) (qa_cons (qe_cmp op_lt pure_lt (qe_var 6) qe_int (by rfl)) qa_nil))) (qe_var 5)) qa_nil)) qe_int))
    (qss_one (qs_for PassesOwn.never rfl (qi_range1 (by rfl) b_range (qa_cons (qe_var 2) qa_nil)) (qg_name (i := 8) sc__law_deck.nd)
    (qss_cons (qs_set (i := 4) sc__law_deck.nd (qe_op op_mod pure_mod (qe_callTy call_int1 pure_int (by rfl) b_int (by rfl) (qa_cons (qe_op op_addA pure_add (qe_op op_addA pure_add (qe_op op_mul pure_mul (qe_var 4) qe_int) (qe_var 8)) qe_int) qa_nil)) qe_int))
    (qss_one (qs_expr (qe_app (i := 3) (qe_op op_mod pure_mod (qe_callTy call_int1 pure_int (by rfl) b_int (by rfl) (qa_cons (qe_op op_fdiv pure_fdiv (qe_var 4) qe_int) qa_nil)) qe_int))))))))))))))
    (qss_cons (qs_expr (qe_rev (i := 3)))
    (qss_one (qs_retO 3))))))
/-! ### _law_take -/
abbrev N__law_take : List Str := ["deck", "many"]
theorem sc__law_take : FnScope N__law_take ["deck", "many"] (defScope s__law_take) := ⟨rfl, rfl, rfl, by decide +kernel, rfl, by decide +kernel, by decide +kernel⟩
def q__law_take : PQS := (qSeq (qIfS (qTb (qBin gEq (qLenH 0) (qC (.int 0)))) (qRet (qC (.int 0))) qNext) (qRet (qBin gMod (qCall gInt (qaCons (qPop 0) qaNil)) (qVar 1))))
theorem body__law_take {P : Program} {w : World} {K : PySem.W.Frag} {mg : Str → Option Value} {base : Heap} {f : Addr} (b_int : mg "int" = none) (b_len : mg "len" = none) (cdv : Value) (A : Around) (outer : List Env) (s : Shared) (H : Hp) (E : XK) (hr : Room 0 (A.deeper (envOfC "_law_take" (defScope s__law_take) s.heap.objs.size f cdv))) :
    QSs (cxOf CX0 P w K mg base N__law_take "_law_take" (defScope s__law_take) f cdv A outer s H E).nox (defBody s__law_take) q__law_take :=
  (qss_cons (qs_if (qt_cmp (op_eqA hr.units) pure_eq (qe_lenH (i := 0) (by rfl) b_len) qe_int (by rfl)) (qss_one (qs_ret qe_int)) qss_nil)
    (qss_one (qs_ret (qe_op op_mod pure_mod (qe_callTy call_int1 pure_int (by rfl) b_int (by rfl) (qa_cons (qe_pop (i := 0)) qa_nil)) (qe_var 1)))))
/-! ### _law_word -/
abbrev N__law_word : List Str := ["deck", "most", "turn"]
theorem sc__law_word : FnScope N__law_word ["deck", "most"] (defScope s__law_word) := ⟨rfl, rfl, rfl, by decide +kernel, rfl, by decide +kernel, by decide +kernel⟩
def q__law_word : PQS := (qRet (qMethT "str" gJoin (qC (.str w_2)) (qaCons (qLc [2] (qRng1 (qaCons (qDk 0 m__law_take (qaCons (qBin gAdd (qVar 1) (qC (.int 1))) qaNil)) qaNil)) (qgName 2) qYes (qBin gIx (qLst (qaCons (qC (.str w_5)) (qaCons (qC (.str w_4)) (qaCons (qC (.str w_3)) qaNil)))) (qDk 0 m__law_take (qaCons (qC (.int 3)) qaNil)))) qaNil)))
theorem body__law_word {P : Program} {w : World} {K : PySem.W.Frag} {mg : Str → Option Value} {base : Heap} {f : Addr} (h__law_take : Has P w K mg base "_law_take" 1 ["deck", "many"] (spD K m__law_take)) (b_range : mg "range" = none) (cdv : Value) (A : Around) (outer : List Env) (s : Shared) (H : Hp) (E : XK) (hr : Room 1 (A.deeper (envOfC "_law_word" (defScope s__law_word) s.heap.objs.size f cdv))) :
    QSs (cxOf CX0 P w K mg base N__law_word "_law_word" (defScope s__law_word) f cdv A outer s H E).nox (defBody s__law_word) q__law_word :=
  (qss_one (qs_ret (qe_bm PySem.F.plainAttrs_str PySem.F.slot_str_join PySem.F.type_str_join mt_join pure_join qe_str (qa_cons (qe_lc (own := [("turn", 2)]) rfl sc__law_word.nd (qi_range1 (by rfl) b_range (qa_cons (qe_d 0 h__law_take mono__law_take (hr.mono (by decide)) (by rfl) (qa_cons (qe_op op_addA pure_add (qe_var 1) qe_int) qa_nil)) qa_nil)) (blkOk_by (own := [("turn", 2)]) (N := N__law_word) (sc := defScope s__law_word) (by decide +kernel)) (fun _ _ _ _ _ => (qg_name (i := 2) sc__law_word.nd)) (fun _ _ _ _ _ => qts_nil) (fun _ _ _ _ _ => (qe_ix ix_seq pure_ix (qe_lst (qa_cons qe_str (qa_cons qe_str (qa_cons qe_str qa_nil)))) (qe_d 0 h__law_take mono__law_take (hr.mono (by decide)) (by rfl) (qa_cons qe_int qa_nil)) (by intro _ _; rfl)))) qa_nil))))
/-! ### _law_sides -/
abbrev N__law_sides : List Str := ["deck", "way", "sign"]
theorem sc__law_sides : FnScope N__law_sides ["deck"] (defScope s__law_sides) := ⟨rfl, rfl, rfl, by decide +kernel, rfl, by decide +kernel, by decide +kernel⟩
def q__law_sides : PQS := (qSeq (qAsg (qDk 0 m__law_take (qaCons (qC (.int 3)) qaNil)) (qgName 1)) (qSeq (qIfS (qTb (qBin gEq (qVar 1) (qC (.int 0)))) (qRet (qC .non)) qNext) (qRet (qOrV (qMethT "str" gJoin (qC (.str w_2)) (qaCons (qLc [2] (qItS (qC (.str w_6))) (qgName 2) (qTb (qBin gEq (qDk 0 m__law_take (qaCons (qC (.int 2)) qaNil)) (qC (.int 0)))) (qVar 2)) qaNil)) (qC (.str w_5))))))
theorem body__law_sides {P : Program} {w : World} {K : PySem.W.Frag} {mg : Str → Option Value} {base : Heap} {f : Addr} (h__law_take : Has P w K mg base "_law_take" 1 ["deck", "many"] (spD K m__law_take)) (cdv : Value) (A : Around) (outer : List Env) (s : Shared) (H : Hp) (E : XK) (hr : Room 1 (A.deeper (envOfC "_law_sides" (defScope s__law_sides) s.heap.objs.size f cdv))) :
    QSs (cxOf CX0 P w K mg base N__law_sides "_law_sides" (defScope s__law_sides) f cdv A outer s H E).nox (defBody s__law_sides) q__law_sides :=
  (qss_cons (qs_set (i := 1) sc__law_sides.nd (qe_d 0 h__law_take mono__law_take (hr.mono (by decide)) (by rfl) (qa_cons qe_int qa_nil)))
    (qss_cons (qs_if (qt_cmp (op_eqA hr.units) pure_eq (qe_var 1) qe_int (by rfl)) (qss_one (qs_ret qe_non)) qss_nil)
    (qss_one (qs_ret (qe_or (qe_bm PySem.F.plainAttrs_str PySem.F.slot_str_join PySem.F.type_str_join mt_join pure_join qe_str (qa_cons (qe_lc (own := [("sign", 2)]) rfl sc__law_sides.nd (qi_str qe_str) (blkOk_by (own := [("sign", 2)]) (N := N__law_sides) (sc := defScope s__law_sides) (by decide +kernel)) (fun _ _ _ _ _ => (qg_name (i := 2) sc__law_sides.nd)) (fun _ _ _ _ _ => (qts_one (qt_cmp (op_eqA hr.units) pure_eq (qe_d 0 h__law_take mono__law_take (hr.mono (by decide)) (by rfl) (qa_cons qe_int qa_nil)) qe_int (by rfl)))) (fun _ _ _ _ _ => (qe_var 2))) qa_nil)) (qe_one qe_str))))))
/-! ### _law_rule -/
abbrev N__law_rule : List Str := ["deck", "old", "new", "sign"]
theorem sc__law_rule : FnScope N__law_rule ["deck"] (defScope s__law_rule) := ⟨rfl, rfl, rfl, by decide +kernel, rfl, by decide +kernel, by decide +kernel⟩
def q__law_rule : PQS := (qSeq (qAsg (qBin gIx (qC (.str w_7)) (qDk 0 m__law_take (qaCons (qC (.int 3)) qaNil))) (qgName 1)) (qSeq (qAsg (qBin gIx (qLc [3] (qItS (qC (.str w_7))) (qgName 3) (qTb (qBin gNe (qVar 3) (qVar 1))) (qVar 3)) (qDk 0 m__law_take (qaCons (qC (.int 2)) qaNil))) (qgName 2)) (qRet (qTup (qaCons (qVar 1) (qaCons (qVar 2) (qaCons (qDk 0 m__law_sides qaNil) (qaCons (qDk 0 m__law_sides qaNil) qaNil))))))))
theorem body__law_rule {P : Program} {w : World} {K : PySem.W.Frag} {mg : Str → Option Value} {base : Heap} {f : Addr} (h__law_sides : Has P w K mg base "_law_sides" 2 ["deck"] (spD K m__law_sides)) (h__law_take : Has P w K mg base "_law_take" 1 ["deck", "many"] (spD K m__law_take)) (cdv : Value) (A : Around) (outer : List Env) (s : Shared) (H : Hp) (E : XK) (hr : Room 2 (A.deeper (envOfC "_law_rule" (defScope s__law_rule) s.heap.objs.size f cdv))) :
    QSs (cxOf CX0 P w K mg base N__law_rule "_law_rule" (defScope s__law_rule) f cdv A outer s H E).nox (defBody s__law_rule) q__law_rule :=
  (qss_cons (qs_set (i := 1) sc__law_rule.nd (qe_ix ix_seq pure_ix qe_str (qe_d 0 h__law_take mono__law_take (hr.mono (by decide)) (by rfl) (qa_cons qe_int qa_nil)) (by intro _ _; rfl)))
    (qss_cons (qs_set (i := 2) sc__law_rule.nd (qe_ix ix_seq pure_ix (qe_lc (own := [("sign", 3)]) rfl sc__law_rule.nd (qi_str qe_str) (blkOk_by (own := [("sign", 3)]) (N := N__law_rule) (sc := defScope s__law_rule) (by decide +kernel)) (fun _ _ _ _ _ => (qg_name (i := 3) sc__law_rule.nd)) (fun _ _ _ _ _ => (qts_one (qt_cmp (op_neA hr.units) pure_ne (qe_var 3) (qe_var 1) (by rfl)))) (fun _ _ _ _ _ => (qe_var 3))) (qe_d 0 h__law_take mono__law_take (hr.mono (by decide)) (by rfl) (qa_cons qe_int qa_nil)) (by intro _ _; rfl)))
    (qss_one (qs_ret (qe_tup (qa_cons (qe_var 1) (qa_cons (qe_var 2) (qa_cons (qe_d 0 h__law_sides mono__law_sides (hr.mono (by decide)) (by rfl) qa_nil) (qa_cons (qe_d 0 h__law_sides mono__law_sides (hr.mono (by decide)) (by rfl) qa_nil) qa_nil)))))))))
/-! ### _law_relettered -/
abbrev N__law_relettered : List Str := ["rule", "to", "sides", "side", "sign"]
theorem sc__law_relettered : FnScope N__law_relettered ["rule", "to"] (defScope s__law_relettered) := ⟨rfl, rfl, rfl, by decide +kernel, rfl, by decide +kernel, by decide +kernel⟩
def q__law_relettered : PQS := (qSeq (qAsg (qLc [3] (qItT (qSl (qVar 0) (qoSome (qC (.int 2))) qoNone)) (qgName 3) qYes (qIf (qTb (qBin gIsN (qVar 3) (qC .non))) (qC .non) (qMethT "str" gJoin (qC (.str w_2)) (qaCons (qCall gSortedS (qaCons (qLc [4] (qItS (qVar 3)) (qgName 4) qYes (qDGet2 (qVar 1) (qVar 4) (qVar 4))) qaNil)) qaNil)))) (qgName 2)) (qRet (qTup (qaCons (qBin gDGet (qVar 1) (qBin gIx (qVar 0) (qC (.int 0)))) (qaCons (qBin gDGet (qVar 1) (qBin gIx (qVar 0) (qC (.int 1)))) (qaCons (qBin gIx (qVar 2) (qC (.int 0))) (qaCons (qBin gIx (qVar 2) (qC (.int 1))) qaNil)))))))
theorem body__law_relettered {P : Program} {w : World} {K : PySem.W.Frag} {mg : Str → Option Value} {base : Heap} {f : Addr} (b_sorted : mg "sorted" = none) (cdv : Value) (A : Around) (outer : List Env) (s : Shared) (H : Hp) (E : XK) (hr : Room 0 (A.deeper (envOfC "_law_relettered" (defScope s__law_relettered) s.heap.objs.size f cdv))) :
    QSs (cxOf CX0 P w K mg base N__law_relettered "_law_relettered" (defScope s__law_relettered) f cdv A outer s H E).nox (defBody s__law_relettered) q__law_relettered :=
  (qss_cons (qs_setLc (i := 2) (own := [("side", 3)]) rfl sc__law_relettered.nd (by rfl) (qi_tup (qe_slice (qe_var 0) (qo_some qe_int) qo_none)) (blkOk_by (own := [("side", 3)]) (N := N__law_relettered) (sc := defScope s__law_relettered) (by decide +kernel)) (fun _ _ _ _ _ => (qg_name (i := 3) sc__law_relettered.nd)) (fun _ _ _ _ _ => qts_nil) (fun _ _ _ _ _ => (qe_ifExp (qt_cmp op_isN pure_isN (qe_var 3) qe_non (by rfl)) qe_non (qe_bm PySem.F.plainAttrs_str PySem.F.slot_str_join PySem.F.type_str_join mt_join pure_join qe_str (qa_cons (qe_callB cr_sortedSA pure_sortedS (by rfl) b_sorted (by rfl) (qa_cons (qe_lc (own := [("sign", 4)]) rfl sc__law_relettered.nd (qi_str (qe_var 3)) (blkOk_by (own := [("sign", 4)]) (N := N__law_relettered) (by rfl)) (fun _ _ _ _ _ => (qg_name (i := 4) sc__law_relettered.nd)) (fun _ _ _ _ _ => qts_nil) (fun _ _ _ _ _ => (qe_dget2 (u1 hr.units) (qe_var 1) (qe_var 4) (qe_var 4) ⟨by rfl, by rfl, by rfl, by rfl⟩))) qa_nil)) qa_nil)))))
    (qss_one (qs_ret (qe_tup (qa_cons (qe_dget (u1 hr.units) (qe_var 1) (qe_ix ix_seq pure_ix (qe_var 0) qe_int (by intro _ _; rfl)) (by intro _ _; rfl)) (qa_cons (qe_dget (u1 hr.units) (qe_var 1) (qe_ix ix_seq pure_ix (qe_var 0) qe_int (by intro _ _; rfl)) (by intro _ _; rfl)) (qa_cons (qe_ix ix_seq pure_ix (qe_var 2) qe_int (by intro _ _; rfl)) (qa_cons (qe_ix ix_seq pure_ix (qe_var 2) qe_int (by intro _ _; rfl)) qa_nil))))))))
/-! ### law -/
abbrev N_law : List Str := ["script", "deck", "to", "other", "turn", "many", "words", "found", "word", "told", "one", "two", "back", "far", "long", "rule", "mother", "sign"]
theorem sc_law : FnScope N_law ["script"] (defScope s_law) := ⟨rfl, rfl, rfl, by decide +kernel, rfl, by decide +kernel, by decide +kernel⟩
def l_law_0 : PQS := (qSeq (qAsg (qDk 1 m__law_word (qaCons (qC (.int 7)) qaNil)) (qgName 8)) (qSeq (qAsg (qFn m_sounded (qaCons (qVar 10) (qaCons (qVar 8) qaNil))) (qgName 9)) (qSeq (qIfS (qOr (qTb (qBin gNe (qFn m_sounded (qaCons (qBin gAdd (qVar 10) (qVar 11)) (qaCons (qVar 8) qaNil))) (qFn m_sounded (qaCons (qVar 11) (qaCons (qVar 9) qaNil))))) (qOr (qTb (qBin gNe (qCall gLen (qaCons (qVar 9) qaNil)) (qCall gLen (qaCons (qVar 8) qaNil)))) (qTb (qBin gNe (qFn m_sounded (qaCons (qLst qaNil) (qaCons (qVar 8) qaNil))) (qVar 8))))) (qRet (qC (.bl false))) qNext) (qSeq (qIfS (qTb (qBin gNe (qFn m_sounded (qaCons (qVar 3) (qaCons (qMethT "str" gJoin (qC (.str w_2)) (qaCons (qLc [17] (qItS (qVar 8)) (qgName 17) qYes (qBin gDGet (qVar 2) (qVar 17))) qaNil)) qaNil))) (qMethT "str" gJoin (qC (.str w_2)) (qaCons (qLc [17] (qItS (qVar 9)) (qgName 17) qYes (qBin gDGet (qVar 2) (qVar 17))) qaNil)))) (qRet (qC (.bl false))) qNext) (qSeq (qAsg (qLc [15] (qItL (qVar 10)) (qgName 15) qYes (qTup (qaCons (qBin gIx (qVar 15) (qC (.int 0))) (qaCons (qBin gIx (qVar 15) (qC (.int 1))) (qaCons (qBin gIx (qVar 15) (qC (.int 3))) (qaCons (qBin gIx (qVar 15) (qC (.int 2))) qaNil)))))) (qgName 12)) (qSeq (qIfS (qTb (qBin gNe (qFn m_sounded (qaCons (qVar 12) (qaCons (qUn gRevS (qVar 8)) qaNil))) (qUn gRevS (qVar 9)))) (qRet (qC (.bl false))) qNext) (qSeq (qAsg (qBin gMulA (qC (.str w_5)) (qBin gAdd (qCall gLen (qaCons (qVar 10) qaNil)) (qC (.int 1)))) (qgName 13)) (qSeq (qAsg (qFn m_sounded (qaCons (qVar 10) (qaCons (qBin gAdd (qBin gAdd (qVar 8) (qVar 13)) (qVar 8)) qaNil))) (qgName 14)) (qIfS (qTb (qBin gNe (qSl (qVar 14) qoNone (qoSome (qCall gMax2 (qaCons (qC (.int 0)) (qaCons (qBin gSub (qCall gLen (qaCons (qVar 8) qaNil)) (qCall gLen (qaCons (qVar 10) qaNil))) qaNil))))) (qSl (qFn m_sounded (qaCons (qVar 10) (qaCons (qBin gAdd (qVar 8) (qVar 13)) qaNil))) qoNone (qoSome (qCall gMax2 (qaCons (qC (.int 0)) (qaCons (qBin gSub (qCall gLen (qaCons (qVar 8) qaNil)) (qCall gLen (qaCons (qVar 10) qaNil))) qaNil))))))) (qRet (qC (.bl false))) qNext)))))))))
def l_law_1 : PQS := (qAsg (qBin gAdd (qBin gAdd (qLc [8] (qItL (qVar 6)) (qgName 8) qYes (qBin gAdd (qVar 8) (qC (.str w_5)))) (qLc [8] (qItL (qVar 6)) (qgName 8) qYes (qBin gAdd (qVar 8) (qC (.str w_4))))) (qLc [8] (qItL (qVar 6)) (qgName 8) qYes (qBin gAdd (qVar 8) (qC (.str w_3))))) (qgName 6))
def l_law_2 : PQS := (qAsg (qBin gAdd (qVar 7) (qFn m_mothers (qaCons (qVar 10) (qaCons (qVar 8) (qaCons (qC (.str w_7)) qaNil))))) (qgName 7))
def q_law : PQS := (qSeq (qAsgN (qFnN m__law_deck (qaCons (qVar 0) (qaCons (qC (.int 40)) (qaCons (qC (.int 7)) qaNil)))) 1) (qSeq (qAsg (qTup (qaCons (qLc [4] (qRng1 (qaCons (qDk 1 m__law_take (qaCons (qC (.int 3)) qaNil)) qaNil)) (qgName 4) qYes (qDk 1 m__law_rule qaNil)) (qaCons (qLc [4] (qRng1 (qaCons (qDk 1 m__law_take (qaCons (qC (.int 3)) qaNil)) qaNil)) (qgName 4) qYes (qDk 1 m__law_rule qaNil)) qaNil))) (qgTup 2 (qgCons (qgName 10) (qgCons (qgName 11) qgNil)))) (qSeq (qAsg (qBin gIx (qLst (qaCons (qDisp (((qC (.str w_5)), (qC (.str w_4))) :: (((qC (.str w_4)), (qC (.str w_3))) :: (((qC (.str w_3)), (qC (.str w_5))) :: [])))) (qaCons (qDisp (((qC (.str w_5)), (qC (.str w_9))) :: (((qC (.str w_4)), (qC (.str w_5))) :: (((qC (.str w_3)), (qC (.str w_8))) :: [])))) (qaCons (qDisp (((qC (.str w_5)), (qC (.str w_3))) :: (((qC (.str w_4)), (qC (.str w_4))) :: (((qC (.str w_3)), (qC (.str w_5))) :: [])))) qaNil)))) (qDk 1 m__law_take (qaCons (qC (.int 3)) qaNil))) (qgName 2)) (qSeq (qAsg (qLc [15] (qItL (qVar 10)) (qgName 15) qYes (qFn m__law_relettered (qaCons (qVar 15) (qaCons (qVar 2) qaNil)))) (qgName 3)) (qSeq (qFor (qRng1 (qaCons (qC (.int 4)) qaNil)) (qgName 4) l_law_0) (qSeq (qAsg (qDk 1 m__law_take (qaCons (qC (.int 4)) qaNil)) (qgName 5)) (qSeq (qAsg (qLst (qaCons (qC (.str w_2)) qaNil)) (qgName 6)) (qSeq (qFor (qRng1 (qaCons (qVar 5) qaNil)) (qgName 4) l_law_1) (qSeq (qAsg (qLst qaNil) (qgName 7)) (qSeq (qFor (qItL (qVar 6)) (qgName 8) l_law_2) (qSeq (qIfS (qTb (qBin gNe (qCall gSortedS (qaCons (qVar 7) qaNil)) (qCall gSortedS (qaCons (qVar 6) qaNil)))) (qRet (qC (.bl false))) qNext) (qSeq (qAsg (qDk 1 m__law_word (qaCons (qC (.int 4)) qaNil)) (qgName 8)) (qSeq (qIfS (qOr (qTb (qBin gIn (qC (.bl true)) (qLc [16] (qItL (qFn m_mothers (qaCons (qVar 10) (qaCons (qVar 8) (qaCons (qC (.str w_7)) qaNil))))) (qgName 16) qYes (qBin gNe (qFn m_sounded (qaCons (qVar 10) (qaCons (qVar 16) qaNil))) (qVar 8))))) (qTb (qBin gNotIn (qVar 8) (qFn m_mothers (qaCons (qVar 10) (qaCons (qFn m_sounded (qaCons (qVar 10) (qaCons (qVar 8) qaNil))) (qaCons (qC (.str w_7)) qaNil))))))) (qRet (qC (.bl false))) qNext) (qSeq (qAsg (qFn m_first_difference (qaCons (qVar 10) (qaCons (qVar 11) (qaCons (qC (.str w_7)) qaNil)))) (qgName 9)) (qSeq (qIfS (qOr (qTb (qBin gNe (qFn m_first_difference (qaCons (qVar 11) (qaCons (qVar 10) (qaCons (qC (.str w_7)) qaNil)))) (qVar 9))) (qTb (qBin gNotN (qFn m_first_difference (qaCons (qVar 10) (qaCons (qBin gAdd (qVar 10) (qLst qaNil)) (qaCons (qC (.str w_7)) qaNil)))) (qC .non)))) (qRet (qC (.bl false))) qNext) (qSeq (qIfS (qTb (qBin gIsN (qVar 9) (qC .non))) (qRet (qBin gEq (qFn m_sounded (qaCons (qVar 10) (qaCons (qVar 8) qaNil))) (qFn m_sounded (qaCons (qVar 11) (qaCons (qVar 8) qaNil))))) qNext) (qRet (qAndV (qBin gNe (qFn m_sounded (qaCons (qVar 10) (qaCons (qVar 9) qaNil))) (qFn m_sounded (qaCons (qVar 11) (qaCons (qVar 9) qaNil)))) (qOrV (qBin gGe (qCall gLen (qaCons (qVar 8) qaNil)) (qCall gLen (qaCons (qVar 9) qaNil))) (qBin gEq (qFn m_sounded (qaCons (qVar 10) (qaCons (qVar 8) qaNil))) (qFn m_sounded (qaCons (qVar 11) (qaCons (qVar 8) qaNil)))))))))))))))))))))))
theorem body_law {P : Program} {w : World} {K : PySem.W.Frag} {mg : Str → Option Value} {base : Heap} {f : Addr} (h__law_deck : Has P w K mg base "_law_deck" 1 ["script", "cells", "each"] (spN K m__law_deck)) (h__law_relettered : Has P w K mg base "_law_relettered" 1 ["rule", "to"] (spQ K m__law_relettered)) (h__law_rule : Has P w K mg base "_law_rule" 3 ["deck"] (spD K m__law_rule)) (h__law_take : Has P w K mg base "_law_take" 1 ["deck", "many"] (spD K m__law_take)) (h__law_word : Has P w K mg base "_law_word" 2 ["deck", "most"] (spD K m__law_word)) (h_first_difference : Has P w K mg base "first_difference" 5 ["one", "other", "letters"] (spQ K m_first_difference)) (h_mothers : Has P w K mg base "mothers" 5 ["rules", "word", "letters"] (spQ K m_mothers)) (h_sounded : Has P w K mg base "sounded" 5 ["rules", "word"] (spQ K m_sounded)) (b_len : mg "len" = none) (b_max : mg "max" = none) (b_range : mg "range" = none) (b_sorted : mg "sorted" = none) (cdv : Value) (A : Around) (outer : List Env) (s : Shared) (H : Hp) (E : XK) (hr : Room 5 (A.deeper (envOfC "law" (defScope s_law) s.heap.objs.size f cdv))) :
    QSs (cxOf CX0 P w K mg base N_law "law" (defScope s_law) f cdv A outer s H E).nox (defBody s_law) q_law :=
  (qss_cons (qs_setN (i := 1) sc_law.nd (qn_f h__law_deck mono__law_deck (hr.mono (by decide)) (by rfl) (qa_cons (qe_var 0) (qa_cons qe_int (qa_cons qe_int qa_nil)))))
    (qss_cons (qs_asg (qe_tup (qa_cons (qe_lc (own := [("turn", 4)]) rfl sc_law.nd (qi_range1 (by rfl) b_range (qa_cons (qe_d 1 h__law_take mono__law_take (hr.mono (by decide)) (by rfl) (qa_cons qe_int qa_nil)) qa_nil)) (blkOk_by (own := [("turn", 4)]) (N := N_law) (sc := defScope s_law) (by decide +kernel)) (fun _ _ _ _ _ => (qg_name (i := 4) sc_law.nd)) (fun _ _ _ _ _ => qts_nil) (fun _ _ _ _ _ => (qe_d 1 h__law_rule mono__law_rule (hr.mono (by decide)) (by rfl) qa_nil))) (qa_cons (qe_lc (own := [("turn", 4)]) rfl sc_law.nd (qi_range1 (by rfl) b_range (qa_cons (qe_d 1 h__law_take mono__law_take (hr.mono (by decide)) (by rfl) (qa_cons qe_int qa_nil)) qa_nil)) (blkOk_by (own := [("turn", 4)]) (N := N_law) (sc := defScope s_law) (by decide +kernel)) (fun _ _ _ _ _ => (qg_name (i := 4) sc_law.nd)) (fun _ _ _ _ _ => qts_nil) (fun _ _ _ _ _ => (qe_d 1 h__law_rule mono__law_rule (hr.mono (by decide)) (by rfl) qa_nil))) qa_nil))) (qg_tup rfl (qgs_cons (qg_name (i := 10) sc_law.nd) (qgs_cons (qg_name (i := 11) sc_law.nd) qgs_nil))))
    (qss_cons (qs_set (i := 2) sc_law.nd (qe_ix ix_seq pure_ix (qe_lst (qa_cons (qe_disp (qps_cons qe_str qe_str (qps_cons qe_str qe_str (qps_cons qe_str qe_str qps_nil)))) (qa_cons (qe_disp (qps_cons qe_str qe_str (qps_cons qe_str qe_str (qps_cons qe_str qe_str qps_nil)))) (qa_cons (qe_disp (qps_cons qe_str qe_str (qps_cons qe_str qe_str (qps_cons qe_str qe_str qps_nil)))) qa_nil)))) (qe_d 1 h__law_take mono__law_take (hr.mono (by decide)) (by rfl) (qa_cons qe_int qa_nil)) (by intro _ _; rfl)))
    (qss_cons (qs_setLc (i := 3) (own := [("rule", 15)]) rfl sc_law.nd (by rfl) (qi_list (qe_var 10)) (blkOk_by (own := [("rule", 15)]) (N := N_law) (sc := defScope s_law) (by decide +kernel)) (fun _ _ _ _ _ => (qg_name (i := 15) sc_law.nd)) (fun _ _ _ _ _ => qts_nil) (fun _ _ _ _ _ => (qe_f h__law_relettered mono__law_relettered (hr.mono (by decide)) (by rfl) (qa_cons (qe_var 15) (qa_cons (qe_var 2) qa_nil)))))
    (qss_cons (qs_for PassesOwn.never rfl (qi_range1 (by rfl) b_range (qa_cons qe_int qa_nil)) (qg_name (i := 4) sc_law.nd)
    (qss_cons (qs_set (i := 8) sc_law.nd (qe_d 1 h__law_word mono__law_word (hr.mono (by decide)) (by rfl) (qa_cons qe_int qa_nil)))
    (qss_cons (qs_set (i := 9) sc_law.nd (qe_f h_sounded mono_sounded (hr.mono (by decide)) (by rfl) (qa_cons (qe_var 10) (qa_cons (qe_var 8) qa_nil))))
    (qss_cons (qs_if (QW.qt (qw_or (qt_cmp (op_neA hr.units) pure_ne (qe_f h_sounded mono_sounded (hr.mono (by decide)) (by rfl) (qa_cons (qe_op op_addA pure_add (qe_var 10) (qe_var 11)) (qa_cons (qe_var 8) qa_nil))) (qe_f h_sounded mono_sounded (hr.mono (by decide)) (by rfl) (qa_cons (qe_var 11) (qa_cons (qe_var 9) qa_nil))) (by rfl)) (qw_or (qt_cmp (op_neA hr.units) pure_ne (qe_callB call_len pure_len (by rfl) b_len (by rfl) (qa_cons (qe_var 9) qa_nil)) (qe_callB call_len pure_len (by rfl) b_len (by rfl) (qa_cons (qe_var 8) qa_nil)) (by rfl)) (qw_or1 (qt_cmp (op_neA hr.units) pure_ne (qe_f h_sounded mono_sounded (hr.mono (by decide)) (by rfl) (qa_cons (qe_lst qa_nil) (qa_cons (qe_var 8) qa_nil))) (qe_var 8) (by rfl)))))) (qss_one (qs_ret qe_bl)) qss_nil)
    (qss_cons (qs_if (qt_cmp (op_neA hr.units) pure_ne (qe_f h_sounded mono_sounded (hr.mono (by decide)) (by rfl) (qa_cons (qe_var 3) (qa_cons (qe_bm PySem.F.plainAttrs_str PySem.F.slot_str_join PySem.F.type_str_join mt_join pure_join qe_str (qa_cons (qe_lc (own := [("sign", 17)]) rfl sc_law.nd (qi_str (qe_var 8)) (blkOk_by (own := [("sign", 17)]) (N := N_law) (sc := defScope s_law) (by decide +kernel)) (fun _ _ _ _ _ => (qg_name (i := 17) sc_law.nd)) (fun _ _ _ _ _ => qts_nil) (fun _ _ _ _ _ => (qe_dget (u1 hr.units) (qe_var 2) (qe_var 17) (by intro _ _; rfl)))) qa_nil)) qa_nil))) (qe_bm PySem.F.plainAttrs_str PySem.F.slot_str_join PySem.F.type_str_join mt_join pure_join qe_str (qa_cons (qe_lc (own := [("sign", 17)]) rfl sc_law.nd (qi_str (qe_var 9)) (blkOk_by (own := [("sign", 17)]) (N := N_law) (sc := defScope s_law) (by decide +kernel)) (fun _ _ _ _ _ => (qg_name (i := 17) sc_law.nd)) (fun _ _ _ _ _ => qts_nil) (fun _ _ _ _ _ => (qe_dget (u1 hr.units) (qe_var 2) (qe_var 17) (by intro _ _; rfl)))) qa_nil)) (by rfl)) (qss_one (qs_ret qe_bl)) qss_nil)
    (qss_cons (qs_setLc (i := 12) (own := [("rule", 15)]) rfl sc_law.nd (by rfl) (qi_list (qe_var 10)) (blkOk_by (own := [("rule", 15)]) (N := N_law) (sc := defScope s_law) (by decide +kernel)) (fun _ _ _ _ _ => (qg_name (i := 15) sc_law.nd)) (fun _ _ _ _ _ => qts_nil) (fun _ _ _ _ _ => (qe_tup (qa_cons (qe_ix ix_seq pure_ix (qe_var 15) qe_int (by intro _ _; rfl)) (qa_cons (qe_ix ix_seq pure_ix (qe_var 15) qe_int (by intro _ _; rfl)) (qa_cons (qe_ix ix_seq pure_ix (qe_var 15) qe_int (by intro _ _; rfl)) (qa_cons (qe_ix ix_seq pure_ix (qe_var 15) qe_int (by intro _ _; rfl)) qa_nil)))))))
    (qss_cons (qs_if (qt_cmp (op_neA hr.units) pure_ne (qe_f h_sounded mono_sounded (hr.mono (by decide)) (by rfl) (qa_cons (qe_var 12) (qa_cons (qe_revS (qe_var 8)) qa_nil))) (qe_revS (qe_var 9)) (by rfl)) (qss_one (qs_ret qe_bl)) qss_nil)
    (qss_cons (qs_set (i := 13) sc_law.nd (qe_op op_mulA pure_mulA qe_str (qe_op op_addA pure_add (qe_callB call_len pure_len (by rfl) b_len (by rfl) (qa_cons (qe_var 10) qa_nil)) qe_int)))
    (qss_cons (qs_set (i := 14) sc_law.nd (qe_f h_sounded mono_sounded (hr.mono (by decide)) (by rfl) (qa_cons (qe_var 10) (qa_cons (qe_op op_addA pure_add (qe_op op_addA pure_add (qe_var 8) (qe_var 13)) (qe_var 8)) qa_nil))))
    (qss_one (qs_if (qt_cmp (op_neA hr.units) pure_ne (qe_slice (qe_var 14) qo_none (qo_some (qe_callB (call_max2 rfl) pure_max2 (by rfl) b_max (by rfl) (qa_cons qe_int (qa_cons (qe_op op_sub pure_sub (qe_callB call_len pure_len (by rfl) b_len (by rfl) (qa_cons (qe_var 8) qa_nil)) (qe_callB call_len pure_len (by rfl) b_len (by rfl) (qa_cons (qe_var 10) qa_nil))) qa_nil))))) (qe_slice (qe_f h_sounded mono_sounded (hr.mono (by decide)) (by rfl) (qa_cons (qe_var 10) (qa_cons (qe_op op_addA pure_add (qe_var 8) (qe_var 13)) qa_nil))) qo_none (qo_some (qe_callB (call_max2 rfl) pure_max2 (by rfl) b_max (by rfl) (qa_cons qe_int (qa_cons (qe_op op_sub pure_sub (qe_callB call_len pure_len (by rfl) b_len (by rfl) (qa_cons (qe_var 8) qa_nil)) (qe_callB call_len pure_len (by rfl) b_len (by rfl) (qa_cons (qe_var 10) qa_nil))) qa_nil))))) (by rfl)) (qss_one (qs_ret qe_bl)) qss_nil)))))))))))
    (qss_cons (qs_set (i := 5) sc_law.nd (qe_d 1 h__law_take mono__law_take (hr.mono (by decide)) (by rfl) (qa_cons qe_int qa_nil)))
    (qss_cons (qs_set (i := 6) sc_law.nd (qe_lst (qa_cons qe_str qa_nil)))
    (qss_cons (qs_for PassesOwn.never rfl (qi_range1 (by rfl) b_range (qa_cons (qe_var 5) qa_nil)) (qg_name (i := 4) sc_law.nd)
    (qss_one (qs_set (i := 6) sc_law.nd (qe_op op_addA pure_add (qe_op op_addA pure_add (qe_lc (own := [("word", 8)]) rfl sc_law.nd (qi_list (qe_var 6)) (blkOk_by (own := [("word", 8)]) (N := N_law) (sc := defScope s_law) (by decide +kernel)) (fun _ _ _ _ _ => (qg_name (i := 8) sc_law.nd)) (fun _ _ _ _ _ => qts_nil) (fun _ _ _ _ _ => (qe_op op_addA pure_add (qe_var 8) qe_str))) (qe_lc (own := [("word", 8)]) rfl sc_law.nd (qi_list (qe_var 6)) (blkOk_by (own := [("word", 8)]) (N := N_law) (sc := defScope s_law) (by decide +kernel)) (fun _ _ _ _ _ => (qg_name (i := 8) sc_law.nd)) (fun _ _ _ _ _ => qts_nil) (fun _ _ _ _ _ => (qe_op op_addA pure_add (qe_var 8) qe_str)))) (qe_lc (own := [("word", 8)]) rfl sc_law.nd (qi_list (qe_var 6)) (blkOk_by (own := [("word", 8)]) (N := N_law) (sc := defScope s_law) (by decide +kernel)) (fun _ _ _ _ _ => (qg_name (i := 8) sc_law.nd)) (fun _ _ _ _ _ => qts_nil) (fun _ _ _ _ _ => (qe_op op_addA pure_add (qe_var 8) qe_str)))))))
    (qss_cons (qs_set (i := 7) sc_law.nd (qe_lst qa_nil))
    (qss_cons (qs_for PassesOwn.never rfl (qi_list (qe_var 6)) (qg_name (i := 8) sc_law.nd)
    (qss_one (qs_set (i := 7) sc_law.nd (qe_op op_addA pure_add (qe_var 7) (qe_f h_mothers mono_mothers (hr.mono (by decide)) (by rfl) (qa_cons (qe_var 10) (qa_cons (qe_var 8) (qa_cons qe_str qa_nil))))))))
    (qss_cons (qs_if (qt_cmp (op_neA hr.units) pure_ne (qe_callB cr_sortedSA pure_sortedS (by rfl) b_sorted (by rfl) (qa_cons (qe_var 7) qa_nil)) (qe_callB cr_sortedSA pure_sortedS (by rfl) b_sorted (by rfl) (qa_cons (qe_var 6) qa_nil)) (by rfl)) (qss_one (qs_ret qe_bl)) qss_nil)
    (qss_cons (qs_set (i := 8) sc_law.nd (qe_d 1 h__law_word mono__law_word (hr.mono (by decide)) (by rfl) (qa_cons qe_int qa_nil)))
    (qss_cons (qs_if (QW.qt (qw_or (qt_cmp op_inA pure_in qe_bl (qe_lc (own := [("mother", 16)]) rfl sc_law.nd (qi_list (qe_f h_mothers mono_mothers (hr.mono (by decide)) (by rfl) (qa_cons (qe_var 10) (qa_cons (qe_var 8) (qa_cons qe_str qa_nil))))) (blkOk_by (own := [("mother", 16)]) (N := N_law) (sc := defScope s_law) (by decide +kernel)) (fun _ _ _ _ _ => (qg_name (i := 16) sc_law.nd)) (fun _ _ _ _ _ => qts_nil) (fun _ _ _ _ _ => (qe_cmp (op_neA hr.units) pure_ne (qe_f h_sounded mono_sounded (hr.mono (by decide)) (by rfl) (qa_cons (qe_var 10) (qa_cons (qe_var 16) qa_nil))) (qe_var 8) (by rfl)))) (by rfl)) (qw_or1 (qt_cmp op_notInA pure_notIn (qe_var 8) (qe_f h_mothers mono_mothers (hr.mono (by decide)) (by rfl) (qa_cons (qe_var 10) (qa_cons (qe_f h_sounded mono_sounded (hr.mono (by decide)) (by rfl) (qa_cons (qe_var 10) (qa_cons (qe_var 8) qa_nil))) (qa_cons qe_str qa_nil)))) (by rfl))))) (qss_one (qs_ret qe_bl)) qss_nil)
    (qss_cons (qs_set (i := 9) sc_law.nd (qe_f h_first_difference mono_first_difference (hr.mono (by decide)) (by rfl) (qa_cons (qe_var 10) (qa_cons (qe_var 11) (qa_cons qe_str qa_nil)))))
    (qss_cons (qs_if (QW.qt (qw_or (qt_cmp (op_neA hr.units) pure_ne (qe_f h_first_difference mono_first_difference (hr.mono (by decide)) (by rfl) (qa_cons (qe_var 11) (qa_cons (qe_var 10) (qa_cons qe_str qa_nil)))) (qe_var 9) (by rfl)) (qw_or1 (qt_cmp op_notN pure_notN (qe_f h_first_difference mono_first_difference (hr.mono (by decide)) (by rfl) (qa_cons (qe_var 10) (qa_cons (qe_op op_addA pure_add (qe_var 10) (qe_lst qa_nil)) (qa_cons qe_str qa_nil)))) qe_non (by rfl))))) (qss_one (qs_ret qe_bl)) qss_nil)
    (qss_cons (qs_if (qt_cmp op_isN pure_isN (qe_var 9) qe_non (by rfl)) (qss_one (qs_ret (qe_cmp (op_eqA hr.units) pure_eq (qe_f h_sounded mono_sounded (hr.mono (by decide)) (by rfl) (qa_cons (qe_var 10) (qa_cons (qe_var 8) qa_nil))) (qe_f h_sounded mono_sounded (hr.mono (by decide)) (by rfl) (qa_cons (qe_var 11) (qa_cons (qe_var 8) qa_nil))) (by rfl)))) qss_nil)
    (qss_one (qs_ret (qe_and (qe_cmp (op_neA hr.units) pure_ne (qe_f h_sounded mono_sounded (hr.mono (by decide)) (by rfl) (qa_cons (qe_var 10) (qa_cons (qe_var 9) qa_nil))) (qe_f h_sounded mono_sounded (hr.mono (by decide)) (by rfl) (qa_cons (qe_var 11) (qa_cons (qe_var 9) qa_nil))) (by rfl)) (qe_one (qe_or (qe_cmp op_ge pure_ge (qe_callB call_len pure_len (by rfl) b_len (by rfl) (qa_cons (qe_var 8) qa_nil)) (qe_callB call_len pure_len (by rfl) b_len (by rfl) (qa_cons (qe_var 9) qa_nil)) (by rfl)) (qe_one (qe_cmp (op_eqA hr.units) pure_eq (qe_f h_sounded mono_sounded (hr.mono (by decide)) (by rfl) (qa_cons (qe_var 10) (qa_cons (qe_var 8) qa_nil))) (qe_f h_sounded mono_sounded (hr.mono (by decide)) (by rfl) (qa_cons (qe_var 11) (qa_cons (qe_var 8) qa_nil))) (by rfl))))))))))))))))))))))))

end HK
set_option Elab.async false
set_option linter.all false
set_option maxRecDepth 100000
set_option maxHeartbeats 400000
/-! K23P: each def's reading gives what its promise says. -/
namespace HK
open PySem PySem.Spec PyProof.Rows L2 Qy
abbrev EQ (R : PV → Prop) : PEnds := { nx := fun _ => R .non, rt := fun p _ => R p }
theorem sz1 : 1 ≤ sizeLine := sizeBig (by decide)
theorem let_in {c : Nat} (h : Let c) : c ∈ w_0 := by
  rw [w_0_eq]
  unfold Let at h
  have : c = 97 ∨ c = 98 ∨ c = 99 ∨ c = 100 ∨ c = 101 ∨ c = 102 ∨ c = 103 ∨ c = 104 ∨ c = 105 ∨ c = 106 ∨ c = 107 ∨ c = 108 ∨ c = 109 ∨ c = 110 ∨ c = 111 ∨ c = 112 ∨ c = 113 ∨ c = 114 ∨ c = 115 ∨ c = 116 ∨ c = 117 ∨ c = 118 ∨ c = 119 ∨ c = 120 ∨ c = 121 ∨ c = 122 := by omega
  simp only [List.mem_cons, List.not_mem_nil, or_false]
  exact this
theorem p_is_letter (as : List PV) (R : PV → Prop) (h : m_is_letter as R) : q_is_letter (EQ R) (st0 as 0) := by
  obtain ⟨c, rfl, hc, hR⟩ := h
  unfold q_is_letter
  simp [-Bool.exists_bool, y_len1 [c] (show [c].length ≤ sizeLine from sz1), let_in hc]
  exact hR
theorem side_len {s : List Nat} (h : SideOk (some s)) : s.length ≤ 200 ∧ s.Nodup ∧ (∀ c ∈ s, c < 128) := by
  obtain ⟨_, hp, hm⟩ := h
  have hb : ∀ c ∈ s, c < 128 := fun c hc => by
    rcases hm c hc with e | e
    · omega
    · unfold Let at e; omega
  have hn : s.Nodup := hp.imp fun h => Nat.ne_of_lt h
  have h2 := rising_len s 0 128 hp fun c hc => ⟨Nat.zero_le _, hb c hc⟩
  exact ⟨by omega, hn, hb⟩
theorem leW_sign (a b : Nat) : leW [a] [b] = true ↔ a ≤ b := by
  rw [leW_cons]
  constructor
  · rintro (h | ⟨h, _⟩) <;> omega
  · intro h
    by_cases e : a = b
    · exact .inr ⟨e, by decide⟩
    · exact .inl (by omega)
theorem sortW_signs {s : List Nat} (h : s.Pairwise (· < ·)) : sortW (s.map fun c => [c]) = s.map fun c => [c] := by
  refine sortW_eq (List.Perm.refl _) ?_
  rw [List.pairwise_map]
  exact h.imp fun {a b} h => (leW_sign a b).mpr (Nat.le_of_lt h)
theorem signs_strs (s : List Nat) : signs s = (s.map fun c => [c]).map PV.str := by rw [signs_map, List.map_map]; rfl
theorem cps_signs {s : List Nat} (h : ∀ c ∈ s, c < 128) : ∀ w ∈ s.map (fun c => [c]), CpsOk w := by
  intro w hw c hc
  obtain ⟨d, hd, rfl⟩ := List.mem_map.mp hw
  have e : c = d := by simpa using hc
  have := h d hd
  omega
theorem all_true {α : Type} (xs : List α) : gAll [.lst (xs.map fun _ => PV.bl true)] = some (.bl true) := by
  have e : (xs.map fun _ => PV.bl true) = (xs.map fun _ => true).map PV.bl := by rw [List.map_map]; rfl
  rw [e, y_all]
  congr 2
  rw [List.all_map]
  simp
theorem p_is_side (as : List PV) (R : PV → Prop) (h : m_is_side as R) : q_is_side (EQ R) (st0 as 1) := by
  obtain ⟨s, rfl, hc, hR⟩ := h
  unfold q_is_side
  cases s with
  | none =>
    simp [-Bool.exists_bool, sideP]
    exact hR
  | some s =>
    obtain ⟨h1, h2, h3⟩ := side_len hc
    have hz : s.length ≤ sizeLine := sizeBig (by omega)
    have hs : s.length < scanBound := by unfold scanBound; omega
    have he : s.isEmpty = false := by
      cases s with
      | nil => exact absurd rfl hc.1
      | cons => rfl
    have hc3 := cps_signs h3
    simp [-Bool.exists_bool, sideP, y_t6 s hz, y_list2 s hz, hs, h2, sortW_signs hc.2.1, signs_strs s, gNe_strs hc3 hc3, he, -List.map_map]
    refine ⟨h3, ?_⟩
    rw [List.map_map]
    refine lc_map (f := fun _ => PV.bl true) s [] _ (by simpa using hz) rfl (fun c hc0 k hk => ?_) ?_
    · simp [-Bool.exists_bool, w_1_eq]
      split
      · rename_i e; subst e; exact hk
      · rename_i e
        rcases hc.2.2 c hc0 with e2 | e2
        · exact absurd e2 e
        · exact ⟨c, rfl, e2, hk⟩
    · exact ⟨_, all_true s, hR⟩
theorem p_is_rule (as : List PV) (R : PV → Prop) (h : m_is_rule as R) : q_is_rule (EQ R) (st0 as 4) := by
  obtain ⟨u, rfl, hc, hR⟩ := h
  unfold q_is_rule
  simp [-Bool.exists_bool, Ru.pv]
  refine ⟨u.o, rfl, hc.o, ?_⟩
  simp [-Bool.exists_bool]
  refine ⟨u.n, rfl, hc.n, ?_⟩
  simp [-Bool.exists_bool, hc.ne]
  refine ⟨u.l, rfl, hc.l, ?_⟩
  simp [-Bool.exists_bool]
  exact ⟨u.r, rfl, hc.r, hR⟩
theorem p_check_rules (as : List PV) (R : PV → Prop) (h : m_check_rules as R) : q_check_rules (EQ R) (st0 as 1) := by
  obtain ⟨us, rfl, ⟨hc, hl⟩, hR⟩ := h
  unfold q_check_rules
  simp [-Bool.exists_bool, ruP]
  refine lc_map (f := fun _ => PV.bl true) us [] _ (sizeBig (by simpa using (by omega))) rfl (fun u hu k hk => ?_) ?_
  · simp [-Bool.exists_bool]
    exact ⟨u, rfl, hc u hu, hk⟩
  · refine ⟨_, all_true us, ?_⟩
    simp [-Bool.exists_bool]
    exact ⟨by omega, hR⟩
theorem p_is_sounds (as : List PV) (R : PV → Prop) (h : m_is_sounds as R) : q_is_sounds (EQ R) (st0 as 1) := by
  obtain ⟨w, rfl, ⟨hc, hl⟩, hR⟩ := h
  unfold q_is_sounds
  simp [-Bool.exists_bool]
  rw [signs_map]
  refine lc_map (f := fun _ => PV.bl true) w [] _ (sizeBig (by simpa using (by omega))) rfl (fun c hc0 k hk => ?_) ?_
  · simp [-Bool.exists_bool, let_in (hc c hc0)]
    exact hk
  · exact ⟨_, all_true w, hR⟩
theorem p_check_sounds (as : List PV) (R : PV → Prop) (h : m_check_sounds as R) : q_check_sounds (EQ R) (st0 as 0) := by
  obtain ⟨w, rfl, hc, hR⟩ := h
  unfold q_check_sounds
  simp [-Bool.exists_bool]
  refine ⟨w, rfl, hc, ?_⟩
  simp [-Bool.exists_bool]
  exact hR
theorem p_check_letters (as : List PV) (R : PV → Prop) (h : m_check_letters as R) : q_check_letters (EQ R) (st0 as 0) := by
  obtain ⟨_, rfl, hc, hR⟩ := h
  unfold q_check_letters
  simp [-Bool.exists_bool]
  refine ⟨abc, rfl, ⟨fun c hc => ?_, by decide⟩, ?_⟩
  · unfold Let
    simp [abc] at hc
    omega
  have hz : abc.length ≤ sizeLine := sizeBig (by decide)
  have h3 : ∀ c ∈ abc, c < 128 := by decide
  have hc3 := cps_signs h3
  simp [-Bool.exists_bool, y_t6 abc hz, y_list2 abc hz, signs_strs abc, gNe_strs hc3 hc3, sortW_signs (s := abc) (by decide), -List.map_map]
  exact ⟨true, rfl, rfl, h3, by decide, by decide, hR⟩
end HK
set_option Elab.async false
set_option linter.all false
set_option maxRecDepth 100000
set_option maxHeartbeats 400000
namespace HK
open PySem PySem.Spec PyProof.Rows L2 Qy
theorem signOf (s : Option (List Nat)) (c : Nat) (k : PV → Prop) (h : k (.bl (fits s c))) : ∃ z, gIsN (sideP s) .non = some z ∧ ∃ b, tru z = some b ∧ if b = true then k z else ∃ z, gIn (.str [c]) (sideP s) = some z ∧ k z := by
  cases s with
  | none => exact ⟨_, rfl, true, rfl, h⟩
  | some l => exact ⟨_, rfl, false, rfl, _, rfl, h⟩
theorem loop_changed (u : Ru) (w : List Nat) (hw : w.length ≤ 1000) (A : PEnds) : ∀ (l : List Nat) (k : Nat) (f : List Nat) (s7 s8 s9 s10 s11 : Sl), w.drop k = l → f.length = k →
    (∀ t7 t8 t9 t10 t11, A.nx [.val u.pv, .val (.str w), .val (.str (f ++ (l.zipIdx k).map fun x => at1 u w x.2 x.1)), .val (.str [u.o]), .val (.str [u.n]), .val (sideP u.l), .val (sideP u.r), t7, t8, t9, t10, t11]) →
    wpFor (qgTup 2 (qgCons (qgName 7) (qgCons (qgName 8) qgNil))) l_changed_0 A ((l.zipIdx k).map fun x => .tup [.int (x.2 : Int), .str [x.1]])
      [.val u.pv, .val (.str w), .val (.str f), .val (.str [u.o]), .val (.str [u.n]), .val (sideP u.l), .val (sideP u.r), s7, s8, s9, s10, s11]
  | [], k, f, s7, s8, s9, s10, s11, _, _, h => by
    have h := h s7 s8 s9 s10 s11
    simpa using h
  | c :: l, k, f, s7, s8, s9, s10, s11, hd, hf, h => by
    have hk : k < w.length := by
      have := congrArg List.length hd
      rw [List.length_drop, List.length_cons] at this
      omega
    have hd2 : w.drop (k + 1) = l := by
      rw [← List.tail_drop, hd]
      rfl
    have hz : w.length ≤ sizeLine := sizeBig (by omega)
    have hz2 : f.length + 1 ≤ sizeLine := sizeBig (by omega)
    show qgTup 2 _ (.tup [.int (k : Int), .str [c]]) _ _
    have h9 : ∀ (K : PV → Rs → Prop) (r : Rs), r[7]? = some (.val (.int k)) → r[1]? = some (.val (.str w)) → K (.str [ahead w k]) r → qIf (qTb (qBin gGt (qVar 7) (qC (.int 0)))) (qBin gIx (qVar 1) (qBin gSub (qVar 7) (qC (.int 1)))) (qC (.str w_1)) r K := fun K r e7 e1 h => by
      simp [-Bool.exists_bool, e7, e1, w_1_eq, y_ix4 _ w hz]
      cases k with
      | zero => simp; exact h
      | succ k =>
        have e : ((k + 1 : Nat) : Int) - 1 = (k : Int) := by omega
        rw [if_pos (by omega), e, Qy.atI_nat, List.getElem?_eq_getElem (by omega)]
        refine ⟨_, ⟨_, rfl, rfl⟩, ?_⟩
        have : ahead w (k + 1) = w[k] := by
          unfold ahead
          rw [if_neg (by omega), Nat.add_sub_cancel, List.getD_eq_getElem?_getD, List.getElem?_eq_getElem (by omega)]
          rfl
        rw [← this]
        exact h
    have h10 : ∀ (K : PV → Rs → Prop) (r : Rs), r[7]? = some (.val (.int k)) → r[1]? = some (.val (.str w)) → K (.str [behind w k]) r → qIf (qTb (qBin gLt (qBin gAdd (qVar 7) (qC (.int 1))) (qCall gLen (qaCons (qVar 1) qaNil)))) (qBin gIx (qVar 1) (qBin gAdd (qVar 7) (qC (.int 1)))) (qC (.str w_1)) r K := fun K r e7 e1 h => by
      simp [-Bool.exists_bool, e7, e1, w_1_eq, y_ix4 _ w hz, y_len1 w hz]
      have e : (k : Int) + 1 = ((k + 1 : Nat) : Int) := by omega
      by_cases hl : k + 1 < w.length
      · rw [if_pos (by omega), e, Qy.atI_nat, List.getElem?_eq_getElem hl]
        refine ⟨_, ⟨_, rfl, rfl⟩, ?_⟩
        have : behind w k = w[k + 1] := by
          unfold behind
          rw [List.getD_eq_getElem?_getD, List.getElem?_eq_getElem hl]
          rfl
        rw [← this]
        exact h
      · rw [if_neg (by omega)]
        have : behind w k = 35 := by
          unfold behind
          rw [List.getD_eq_getElem?_getD, List.getElem?_eq_none (by omega)]
          rfl
        rw [← this]
        exact h
    simp only [z_qgTup, z_qgCons, z_qgName, z_qgNil]
    refine ⟨rfl, ?_⟩
    unfold l_changed_0
    simp only [z_qSeq, z_qAsg, z_qgName]
    refine h9 _ _ rfl rfl ?_
    refine h10 _ _ rfl rfl ?_
    have h11 : ∀ (K : PV → Rs → Prop) (r : Rs) (a b : Nat), r[5]? = some (.val (sideP u.l)) → r[6]? = some (.val (sideP u.r)) → r[9]? = some (.val (.str [a])) → r[10]? = some (.val (.str [b])) → K (.bl (fits u.l a && fits u.r b)) r →
        qAndV (qOrV (qBin gIsN (qVar 5) (qC .non)) (qBin gIn (qVar 9) (qVar 5))) (qOrV (qBin gIsN (qVar 6) (qC .non)) (qBin gIn (qVar 10) (qVar 6))) r K := fun K r a b e5 e6 e9 e10 h => by
      simp only [z_qAndV, z_qOrV, z_qBin, z_var0, z_qC, e5, e6, e9, e10]
      refine signOf u.l a (fun z => ∃ b, tru z = some b ∧ _) ⟨_, rfl, ?_⟩
      cases hl : fits u.l a with
      | true =>
        rw [if_pos rfl]
        refine signOf u.r b (fun z => K z r) ?_
        rw [hl, Bool.true_and] at h
        exact h
      | false =>
        rw [if_neg Bool.false_ne_true]
        rw [hl, Bool.false_and] at h
        exact h
    refine h11 _ _ (ahead w k) (behind w k) rfl rfl rfl rfl ?_
    simp only [List.set]
    have fin : ∀ d, d = at1 u w k c → ∃ z, gIadd (.str f) (.str [d]) = some z ∧ wpFor (qgTup 2 (qgCons (qgName 7) (qgCons (qgName 8) qgNil))) l_changed_0 A ((l.zipIdx (k + 1)).map fun x => .tup [.int (x.2 : Int), .str [x.1]])
        [.val u.pv, .val (.str w), .val z, .val (.str [u.o]), .val (.str [u.n]), .val (sideP u.l), .val (sideP u.r), .val (.int k), .val (.str [c]), .val (.str [ahead w k]), .val (.str [behind w k]), .val (.bl (fits u.l (ahead w k) && fits u.r (behind w k)))] := fun d ed => by
      refine ⟨_, y_a5 f [d] hz2, loop_changed u w hw A l (k + 1) (f ++ [d]) _ _ _ _ _ hd2 (by rw [List.length_append, hf]; rfl) fun t7 t8 t9 t10 t11 => ?_⟩
      have h := h t7 t8 t9 t10 t11
      rw [List.zipIdx_cons, List.map_cons] at h
      rw [List.append_assoc, ed]
      exact h
    have c0 : ∀ {b : Bool}, (fits u.l (ahead w k) && fits u.r (behind w k)) = b → at1 u w k c = if c = u.o ∧ b = true then u.n else c := fun e => by unfold at1; rw [e]
    simp [-Bool.exists_bool]
    split
    · rename_i e1
      split
      · rename_i e2
        exact fin _ (by rw [c0 (b := true) (by rw [e2.1, e2.2]; rfl), if_pos ⟨e1, rfl⟩])
      · rename_i e2
        exact fin _ (by
          unfold at1
          rw [if_neg]
          rintro ⟨_, q⟩
          exact e2 (Bool.and_eq_true_iff.mp q))
    · rename_i e1
      exact fin _ (by unfold at1; rw [if_neg fun q => e1 q.1])
theorem chg_eq (u : Ru) (w : List Nat) : chg u w = (w.zipIdx 0).map fun x => at1 u w x.2 x.1 := rfl
theorem p_changed (as : List PV) (R : PV → Prop) (h : m_changed as R) : q_changed (EQ R) (st0 as 10) := by
  obtain ⟨⟨u, w⟩, rfl, hc, hR⟩ := h
  unfold q_changed
  simp [-Bool.exists_bool, Ru.pv]
  rw [w_2_eq]
  refine loop_changed u w hc _ w 0 [] _ _ _ _ _ rfl rfl fun t7 t8 t9 t10 t11 => ?_
  exact hR
theorem chg_length (u : Ru) (w : List Nat) : (chg u w).length = w.length := by rw [chg_eq, List.length_map, List.length_zipIdx]
theorem chgs_length (us : List Ru) : ∀ (w : List Nat), (chgs us w).length = w.length := by
  induction us with
  | nil => exact fun w => rfl
  | cons u us ih => exact fun w => (ih (chg u w)).trans (chg_length u w)
theorem loop_behind (r0 : PV) (A : PEnds) : ∀ (us : List Ru) (w : List Nat) (s2 : Sl), w.length ≤ 1000 → (∀ t2, A.nx [.val r0, .val (.str (chgs us w)), t2]) → wpFor (qgName 2) l_behind_rules_0 A (us.map Ru.pv) [.val r0, .val (.str w), s2]
  | [], w, s2, _, h => h s2
  | u :: us, w, s2, hw, h => by
    show qgName 2 u.pv _ _
    unfold l_behind_rules_0
    simp [-Bool.exists_bool]
    exact ⟨(u, w), rfl, hw, loop_behind r0 A us (chg u w) _ (by rw [chg_length]; exact hw) h⟩
theorem p_behind_rules (as : List PV) (R : PV → Prop) (h : m_behind_rules as R) : q_behind_rules (EQ R) (st0 as 1) := by
  obtain ⟨⟨us, w⟩, rfl, hc, hR⟩ := h
  unfold q_behind_rules
  simp [-Bool.exists_bool, ruP]
  exact loop_behind _ _ us w _ hc fun t2 => hR
theorem p_sounded (as : List PV) (R : PV → Prop) (h : m_sounded as R) : q_sounded (EQ R) (st0 as 0) := by
  obtain ⟨⟨us, w⟩, rfl, ⟨h1, h2, h3, h4⟩, hR⟩ := h
  unfold q_sounded
  simp [-Bool.exists_bool]
  refine ⟨us, rfl, ⟨h1, h2⟩, ?_⟩
  simp [-Bool.exists_bool]
  refine ⟨w, rfl, ⟨h3, h4⟩, ?_⟩
  simp [-Bool.exists_bool]
  exact ⟨(us, w), rfl, h4, hR⟩
theorem loop_pow (n : PV) (A : PEnds) : ∀ (l : List Nat) (j : Nat) (s3 : Sl), (∀ t3, A.nx [.val (.int 3), .val n, .val (.int (j * 3 ^ l.length)), t3]) → wpFor (qgName 3) l_pow_of_0 A (l.map fun (i : Nat) => PV.int (0 + (i : Int))) [.val (.int 3), .val n, .val (.int j), s3]
  | [], j, s3, h => by
    have h := h s3
    simpa using h
  | i :: l, j, s3, h => by
    show qgName 3 _ _ _
    unfold l_pow_of_0
    simp [-Bool.exists_bool]
    have e : ((j : Int) * 3) = ((j * 3 : Nat) : Int) := by omega
    have q := loop_pow n A l (j * 3) (.val (.int (i : Int))) (fun t3 => by
      have h := h t3
      have ee : (j : Int) * 3 ^ (i :: l).length = ((j * 3 : Nat) : Int) * 3 ^ l.length := by
        rw [List.length_cons, Int.pow_succ, Int.natCast_mul, Int.mul_assoc, Int.mul_comm (3 ^ l.length) 3]
        rfl
      rw [ee] at h
      exact h)
    rw [← e] at q
    simpa [l_pow_of_0] using q
theorem p_pow_of (as : List PV) (R : PV → Prop) (h : m_pow_of as R) : q_pow_of (EQ R) (st0 as 2) := by
  obtain ⟨n, rfl, hc, hR⟩ := h
  unfold q_pow_of
  simp [-Bool.exists_bool]
  have q := loop_pow (.int n) { nx := qRet (qVar 2) (EQ R), rt := fun p _ => R p } (List.range n) 1 .un (fun t3 => by
    simp
    exact hR)
  refine ⟨by omega, ?_⟩
  simpa [nums] using q
end HK
set_option Elab.async false
set_option linter.all false
set_option maxRecDepth 100000
set_option maxHeartbeats 400000
namespace HK
open PySem PySem.Spec PyProof.Rows L2 Qy
theorem mem_wordsO : ∀ (n : Nat) (w : List Nat), w ∈ wordsO n → w.length = n ∧ AbcWord w
  | 0, w, h => by
    have e : w = [] := by simpa [wordsO] using h
    subst e
    exact ⟨rfl, fun c hc => by cases hc⟩
  | n + 1, w, h => by
    obtain ⟨v, hv, h⟩ := List.mem_flatMap.mp h
    obtain ⟨c, hc, rfl⟩ := List.mem_map.mp h
    obtain ⟨h1, h2⟩ := mem_wordsO n v hv
    refine ⟨by rw [List.length_append, h1]; rfl, fun d hd => ?_⟩
    rcases List.mem_append.mp hd with hd | hd
    · exact h2 d hd
    · have : d = c := by simpa using hd
      rw [this]
      exact hc
theorem wordsO_mem : ∀ (n : Nat) (w : List Nat), w.length = n → AbcWord w → w ∈ wordsO n
  | 0, w, h, _ => by
    have e : w = [] := List.length_eq_zero_iff.mp h
    subst e
    simp [wordsO]
  | n + 1, w, h, ha => by
    have hne : w ≠ [] := fun e => by rw [e] at h; cases h
    have e := List.dropLast_concat_getLast hne
    refine List.mem_flatMap.mpr ⟨w.dropLast, wordsO_mem n _ (by rw [List.length_dropLast, h]; rfl) fun c hc => ha c (List.dropLast_subset w hc), List.mem_map.mpr ⟨w.getLast hne, ha _ (List.getLast_mem hne), e⟩⟩
theorem wordsO_length : ∀ n : Nat, (wordsO n).length = 3 ^ n
  | 0 => rfl
  | n + 1 => by
    show ((wordsO n).flatMap fun w => abc.map fun c => w ++ [c]).length = _
    rw [List.length_flatMap]
    have : ((wordsO n).map fun w => (abc.map fun c => w ++ [c]).length) = (wordsO n).map fun _ => 3 := rfl
    rw [this, List.map_const', List.sum_replicate_nat, wordsO_length n, Nat.pow_succ]
theorem lc2_words {p1 : PV} {s3 : Sl} {ws0 : List PV} {k : List PV → Rs → Prop} : ∀ (ws : List (List Nat)) (acc : List PV), (∀ w ∈ ws, w.length ≤ 5) → acc.length + 3 * ws.length ≤ 1000000 →
    k (acc ++ (ws.flatMap fun w => abc.map fun c => w ++ [c]).map PV.str) [.val (.str abc), .val p1, .val (.lst ws0), s3, .un, .un] →
    wpLc2 [4, 5] [5] (qgName 4) qYes (qItS (qVar 0)) (qgName 5) qYes (qBin gAdd (qVar 4) (qVar 5)) k (ws.map PV.str) acc [.val (.str abc), .val p1, .val (.lst ws0), s3, .un, .un]
  | [], acc, _, _, h => by
    have e : acc ++ (([] : List (List Nat)).flatMap fun w => abc.map fun c => w ++ [c]).map PV.str = acc := by simp
    rw [e] at h
    exact h
  | w :: ws, acc, hw, hl, h => by
    show qgName 4 (.str w) _ _
    simp only [z_qgName, z_qYes, if_true, z_qItS, z_var0]
    refine ⟨abc, rfl, ?_⟩
    rw [signs_map]
    have ha : ∀ c : Nat, w.length + [c].length ≤ sizeLine := fun c => sizeBig (by have := hw w List.mem_cons_self; simp; omega)
    rw [List.length_cons] at hl
    refine lc_map (f := fun c => PV.str (w ++ [c])) abc acc _ (sizeBig (by have : abc.length = 3 := rfl; omega)) rfl (fun c hc K hk => ?_) ?_
    · simp [-Bool.exists_bool, y_a2 w [c] (ha c)]
      exact hk
    · refine lc2_words ws _ (fun v hv => hw v (List.mem_cons_of_mem _ hv)) (by rw [List.length_append, List.length_map]; have : abc.length = 3 := rfl; omega) ?_
      rw [List.flatMap_cons, List.map_append] at h
      rw [List.append_assoc]
      exact h
theorem loop_words {p1 : PV} (A : PEnds) : ∀ (l : List Nat) (j : Nat) (s3 : Sl), j + l.length ≤ 5 → (∀ t3, A.nx [.val (.str abc), .val p1, .val (.lst ((wordsO (j + l.length)).map PV.str)), t3, .un, .un]) →
    wpFor (qgName 3) l_words_over_0 A (l.map fun (i : Nat) => PV.int (0 + (i : Int))) [.val (.str abc), .val p1, .val (.lst ((wordsO j).map PV.str)), s3, .un, .un]
  | [], j, s3, _, h => h s3
  | i :: l, j, s3, hl, h => by
    show qgName 3 _ _ _
    unfold l_words_over_0
    rw [List.length_cons] at hl h
    simp only [z_qgName, z_qAsg, z_qLc2, z_qItL, z_var0]
    refine ⟨_, rfl, ?_⟩
    refine lc2_words (wordsO j) [] (fun w hw => by have := (mem_wordsO j w hw).1; omega) ?_ ?_
    · rw [wordsO_length]
      have : 3 ^ j ≤ 3 ^ 5 := Nat.pow_le_pow_right (by omega) (by omega)
      have e : (3 : Nat) ^ 5 = 243 := rfl
      rw [List.length_nil]
      omega
    · have q := loop_words (p1 := p1) A l (j + 1) (.val (.int (0 + (i : Int)))) (by omega) (by rw [show j + 1 + l.length = j + (l.length + 1) by omega]; exact h)
      exact q
theorem p_words_over (as : List PV) (R : PV → Prop) (h : m_words_over as R) : q_words_over (EQ R) (st0 as 4) := by
  obtain ⟨n, rfl, hc, hR⟩ := h
  unfold q_words_over
  simp [-Bool.exists_bool]
  have hs : 1 ≤ sizeLine := sizeBig (by decide)
  refine ⟨hs, by omega, ?_⟩
  rw [w_2_eq]
  have q := loop_words (p1 := .int n) { nx := qRet (qVar 2) (EQ R), rt := fun p _ => R p } (List.range n) 0 .un (by rw [List.length_range]; omega) (fun t3 => by
    rw [List.length_range, Nat.zero_add]
    exact hR)
  simpa [nums, wordsO] using q
theorem p_check_many (as : List PV) (R : PV → Prop) (h : m_check_many as R) : q_check_many (EQ R) (st0 as 2) := by
  obtain ⟨⟨a, b, m⟩, rfl, ⟨h1, h2, h3⟩, hR⟩ := h
  unfold q_check_many
  have hz : abc.length ≤ sizeLine := sizeBig (by decide)
  have h1 : a ≤ 5 := h1
  have h2 : b ≤ 5 := h2
  have h3 : 400 ≤ m := h3
  simp [-Bool.exists_bool, y_len1 abc hz]
  refine ⟨(a : Int), (b : Int) + 1, ⟨rfl, rfl⟩, by omega, ?_⟩
  have en : nums (a : Int) ((b : Int) + 1 - (a : Int)).toNat = (List.range (b + 1 - a)).map fun (i : Nat) => PV.int ((a + i : Nat) : Int) := by
    have e : ((b : Int) + 1 - (a : Int)).toNat = b + 1 - a := by omega
    rw [e]
    rfl
  rw [en]
  refine lc_map (f := fun (i : Nat) => PV.int ((3 : Int) ^ (a + i))) (List.range (b + 1 - a)) [] _ (sizeBig (by rw [List.length_range]; simp; omega)) rfl (fun i hi K hk => ?_) ?_
  · have hi := List.mem_range.mp hi
    simp [-Bool.exists_bool, y_len1 abc hz]
    exact ⟨a + i, by simp; rfl, by omega, hk⟩
  · have e : ((List.range (b + 1 - a)).map fun (i : Nat) => PV.int ((3 : Int) ^ (a + i))) = ((List.range (b + 1 - a)).map fun (i : Nat) => (3 : Int) ^ (a + i)).map PV.int := by rw [List.map_map]; rfl
    rw [List.nil_append, e]
    refine ⟨_, y_sum _, ?_⟩
    have hs : ((List.range (b + 1 - a)).map fun (i : Nat) => (3 : Int) ^ (a + i)).sum ≤ 400 := by
      have ha : a = 0 ∨ a = 1 ∨ a = 2 ∨ a = 3 ∨ a = 4 ∨ a = 5 := by omega
      have hb : b = 0 ∨ b = 1 ∨ b = 2 ∨ b = 3 ∨ b = 4 ∨ b = 5 := by omega
      rcases ha with rfl | rfl | rfl | rfl | rfl | rfl <;> rcases hb with rfl | rfl | rfl | rfl | rfl | rfl <;> decide
    simp [-Bool.exists_bool]
    exact ⟨by omega, hR⟩
theorem cps_abc {w : List Nat} (h : AbcWord w) : CpsOk w := fun c hc => by
  have := h c hc
  simp [abc] at this
  omega
theorem loop_least0 {one two : List Ru} {p3 p4 : PV} (A : PEnds) : ∀ (ws : List (List Nat)) (s5 : Sl), (∀ w ∈ ws, w.length ≤ 5) →
    (∀ w, ws.find? (fun w => decide (chgs one w ≠ chgs two w)) = some w → ∀ r, A.rt (.str w) r) → (ws.find? (fun w => decide (chgs one w ≠ chgs two w)) = none → ∀ t5, A.nx [.val (ruP one), .val (ruP two), .val (.str abc), .val p3, .val p4, t5]) →
    wpFor (qgName 5) l_least_changed_0 A (ws.map PV.str) [.val (ruP one), .val (ruP two), .val (.str abc), .val p3, .val p4, s5]
  | [], s5, _, _, h2 => h2 rfl s5
  | w :: ws, s5, hw, h1, h2 => by
    show qgName 5 (.str w) _ _
    unfold l_least_changed_0
    have hl := hw w List.mem_cons_self
    simp [-Bool.exists_bool]
    refine ⟨(one, w), rfl, by show w.length ≤ 1000; omega, ?_⟩
    simp [-Bool.exists_bool]
    refine ⟨(two, w), rfl, by show w.length ≤ 1000; omega, ?_⟩
    simp [-Bool.exists_bool]
    by_cases e : chgs one w = chgs two w
    · refine ⟨false, by simp [e], ?_⟩
      rw [if_neg Bool.false_ne_true]
      have hf : (w :: ws).find? (fun w => decide (chgs one w ≠ chgs two w)) = ws.find? (fun w => decide (chgs one w ≠ chgs two w)) := List.find?_cons_of_neg (by simp [e])
      rw [hf] at h1 h2
      exact loop_least0 A ws _ (fun v hv => hw v (List.mem_cons_of_mem _ hv)) h1 h2
    · refine ⟨true, by simp [e], ?_⟩
      rw [if_pos rfl]
      exact h1 w (List.find?_cons_of_pos (by simp [e])) _
theorem loop_least1 {one two : List Ru} {p3 : PV} (A : PEnds) : ∀ (l : List Nat) (s4 s5 : Sl), (∀ i ∈ l, i < 5) →
    (∀ w, (l.flatMap fun i => wordsO (i + 1)).find? (fun w => decide (chgs one w ≠ chgs two w)) = some w → ∀ r, A.rt (.str w) r) → ((l.flatMap fun i => wordsO (i + 1)).find? (fun w => decide (chgs one w ≠ chgs two w)) = none → ∀ t4 t5, A.nx [.val (ruP one), .val (ruP two), .val (.str abc), .val p3, t4, t5]) →
    wpFor (qgName 4) l_least_changed_1 A (l.map fun (i : Nat) => PV.int (1 + (i : Int))) [.val (ruP one), .val (ruP two), .val (.str abc), .val p3, s4, s5]
  | [], s4, s5, _, _, h2 => h2 rfl s4 s5
  | i :: l, s4, s5, hl, h1, h2 => by
    show qgName 4 _ _ _
    unfold l_least_changed_1
    have hi := hl i List.mem_cons_self
    simp only [z_qgName, z_qFor, z_qItL, z_qFn, z_qaCons, z_qaNil, z_var0, List.set]
    refine ⟨i + 1, ?_, by omega, _, rfl, ?_⟩
    · have e : (1 + (i : Int)) = ((i + 1 : Nat) : Int) := by omega
      rw [e]
    · rw [List.flatMap_cons, List.find?_append] at h1 h2
      refine loop_least0 _ (wordsO (i + 1)) _ (fun w hw => by have := (mem_wordsO _ w hw).1; omega) (fun w hf r => h1 w (by rw [hf]; rfl) r) fun hf t5 => ?_
      rw [hf] at h1 h2
      exact loop_least1 A l _ t5 (fun j hj => hl j (List.mem_cons_of_mem _ hj)) h1 h2
theorem p_least_changed (as : List PV) (R : PV → Prop) (h : m_least_changed as R) : q_least_changed (EQ R) (st0 as 2) := by
  obtain ⟨⟨one, two, n⟩, rfl, hc, hR⟩ := h
  have hc : n ≤ 5 := hc
  have hR : R (wordO (leastD one two n)) := hR
  unfold q_least_changed
  simp [-Bool.exists_bool]
  refine ⟨1, (n : Int) + 1, ⟨rfl, rfl⟩, by omega, ?_⟩
  have en : nums (1 : Int) ((n : Int) + 1 - 1).toNat = (List.range n).map fun (i : Nat) => PV.int (1 + (i : Int)) := by
    have e : ((n : Int) + 1 - 1).toNat = n := by omega
    rw [e]
    rfl
  rw [en]
  refine loop_least1 _ (List.range n) _ _ (fun i hi => by have := List.mem_range.mp hi; omega) (fun w hf r => ?_) fun hf t4 t5 => ?_
  · have e : leastD one two n = some w := hf
    rw [e] at hR
    exact hR
  · have e : leastD one two n = none := hf
    rw [e] at hR
    simp
    exact hR
theorem p_first_difference (as : List PV) (R : PV → Prop) (h : m_first_difference as R) : q_first_difference (EQ R) (st0 as 1) := by
  obtain ⟨⟨one, two⟩, rfl, ⟨h1, h2, h3, h4⟩, hR⟩ := h
  have h1 : AllOk one := h1
  have h2 : AllOk two := h2
  have h3 : one.length ≤ 2 := h3
  have h4 : two.length ≤ 2 := h4
  have hR : R (wordO (firstD one two)) := hR
  unfold q_first_difference
  refine ⟨one, rfl, ⟨h1, by omega⟩, ?_⟩
  refine ⟨two, rfl, ⟨h2, by omega⟩, ?_⟩
  refine ⟨(), rfl, True.intro, ?_⟩
  have el : ∀ us : List Ru, gLen [ruP us] = some (.int us.length) := fun us => by
    show some (PV.int (us.map Ru.pv).length) = _
    rw [List.length_map]
  refine ⟨_, el one, _, el two, _, y_max _ _, _, y_mul1 2 _ ⟨by decide, by decide⟩, _, y_a1 _ _, ?_⟩
  have e : 2 * (if (two.length : Int) > (one.length : Int) then (two.length : Int) else (one.length : Int)) + 1 = ((2 * max one.length two.length + 1 : Nat) : Int) := by
    split <;> omega
  rw [e]
  refine ⟨(1, 2 * max one.length two.length + 1, 40000), rfl, ⟨by show 1 ≤ 5; decide, by show 2 * max one.length two.length + 1 ≤ 5; omega, by show 400 ≤ 40000; decide⟩, ?_⟩
  exact ⟨(one, two, 2 * max one.length two.length + 1), rfl, by show 2 * max one.length two.length + 1 ≤ 5; omega, hR⟩
theorem p_mothers (as : List PV) (R : PV → Prop) (h : m_mothers as R) : q_mothers (EQ R) (st0 as 1) := by
  obtain ⟨⟨us, w⟩, rfl, ⟨h1, h2, h3, h4⟩, hR⟩ := h
  have h1 : AllOk us := h1
  have h2 : us.length ≤ 6 := h2
  have h3 : WordOk w := h3
  have h4 : w.length ≤ 5 := h4
  have hz : w.length ≤ sizeLine := sizeBig (by omega)
  unfold q_mothers
  simp [-Bool.exists_bool]
  refine ⟨us, rfl, ⟨h1, h2⟩, ?_⟩
  simp [-Bool.exists_bool]
  refine ⟨w, rfl, ⟨h3, by omega⟩, ?_⟩
  simp [-Bool.exists_bool]
  refine ⟨(), rfl, True.intro, ?_⟩
  simp [-Bool.exists_bool, y_len1 w hz]
  refine ⟨(w.length, w.length, 20000), rfl, ⟨h4, h4, by show 400 ≤ 20000; decide⟩, ?_⟩
  simp [-Bool.exists_bool, y_len1 w hz]
  refine ⟨w.length, rfl, h4, _, rfl, ?_⟩
  refine lc_filter (f := PV.str) (g := fun v => decide (chgs us v = w)) (wordsO w.length) [] _ (sizeBig ?_) rfl (fun v hv K hk => ?_) (fun v hv hg K hk => ?_) ?_
  · rw [wordsO_length]
    have : 3 ^ w.length ≤ 3 ^ 5 := Nat.pow_le_pow_right (by omega) h4
    have e : (3 : Nat) ^ 5 = 243 := rfl
    rw [List.length_nil]
    omega
  · have hl := (mem_wordsO _ v hv).1
    simp [-Bool.exists_bool]
    refine ⟨(us, v), rfl, by show v.length ≤ 1000; omega, ?_⟩
    simp [-Bool.exists_bool]
    exact hk
  · simp [-Bool.exists_bool]
    exact hk
  · simp
    exact hR
end HK
set_option Elab.async false
set_option linter.all false
set_option maxRecDepth 100000
set_option maxHeartbeats 400000
namespace HK
open PySem PySem.Spec PyProof.Rows L2 Qy
theorem ite_t {b : Bool} {P Q : Prop} (h : b = true) (p : P) : if b = true then P else Q := by rw [if_pos h]; exact p
theorem ite_f {b : Bool} {P Q : Prop} (h : b = false) (p : Q) : if b = true then P else Q := by rw [if_neg (by rw [h]; exact Bool.false_ne_true)]; exact p
abbrev ED (R : PV → List PV → Prop) : PEnds := { nx := fun r => ∃ dk', r[0]? = some (.brw (.l dk')) ∧ R .non dk', rt := fun p r => ∃ dk', r[0]? = some (.brw (.l dk')) ∧ R p dk' }
theorem p__law_take (dk as : List PV) (R : PV → List PV → Prop) (h : m__law_take dk as R) : q__law_take (ED R) (.brw (.l dk) :: st0 as 0) := by
  obtain ⟨⟨ns, rfl⟩, n, rfl, hn, hR⟩ := h
  have hn : 0 < n := hn
  unfold q__law_take
  simp only [z_qSeq, z_qIfS, z_qTb, z_qBin, z_qLenH, z_qC, z_held, z_qRet, z_qNext, z_qCall, z_qaCons, z_qaNil, z_qPop]
  refine ⟨_, y_e1 _ _, _, rfl, ?_⟩
  by_cases e : ns = []
  · subst e
    rw [if_pos (by rfl)]
    exact ⟨_, rfl, hR _ [] ⟨0, hn, rfl⟩⟩
  · have hl : ns.length ≠ 0 := fun q => e (List.length_eq_zero_iff.mp q)
    rw [if_neg (by rw [List.length_map, decide_eq_true_eq]; omega)]
    refine ⟨.int (ns.getLast e), ?_, ?_⟩
    · rw [List.length_map, List.getElem?_map, ← List.getLast?_eq_getElem?, List.getLast?_eq_some_getLast e]
      rfl
    · refine ⟨_, y_int1 _, _, y_mod _ _ (by omega), _, rfl, ?_⟩
      have h1 := Int.emod_nonneg (ns.getLast e) (show (n : Int) ≠ 0 by omega)
      have h2 := Int.emod_lt_of_pos (ns.getLast e) (show (0 : Int) < n by omega)
      have q := hR (.int (ns.getLast e % (n : Int))) ns.dropLast ⟨(ns.getLast e % (n : Int)).toNat, by omega, by rw [Int.toNat_of_nonneg h1]⟩
      rw [List.map_dropLast] at q
      exact q
theorem lc_word {n : Sl} {k : List PV → Rs → Prop} : ∀ (l : List PV) (acc : List (List Nat)) (ns : List Int), acc.length + l.length ≤ 1000 → (∀ w ∈ acc, ∃ c ∈ abc, w = [c]) →
    (∀ (ws : List (List Nat)) (ns' : List Int), (∀ w ∈ ws, ∃ c ∈ abc, w = [c]) → ws.length = acc.length + l.length → k (ws.map PV.str) [.brw (.l (ns'.map .int)), n, .un]) →
    wpLc [2] (qgName 2) qYes (qBin gIx (qLst (qaCons (qC (.str w_5)) (qaCons (qC (.str w_4)) (qaCons (qC (.str w_3)) qaNil)))) (qDk 0 m__law_take (qaCons (qC (.int 3)) qaNil))) k l (acc.map PV.str) [.brw (.l (ns.map .int)), n, .un]
  | [], acc, ns, _, ha, h => h acc ns ha rfl
  | p :: l, acc, ns, hl, ha, h => by
    rw [List.length_cons] at hl h
    refine ⟨sizeBig (by decide), ⟨ns, rfl⟩, 3, rfl, by decide, fun q ns' ⟨i, hi, e⟩ => ?_⟩
    subst e
    have hc : ∃ c ∈ abc, gIx (.lst [.str w_5, .str w_4, .str w_3]) (.int i) = some (.str [c]) := by
      rw [w_5_eq, w_4_eq, w_3_eq]
      have : i = 0 ∨ i = 1 ∨ i = 2 := by omega
      rcases this with rfl | rfl | rfl
      · exact ⟨97, by decide, rfl⟩
      · exact ⟨98, by decide, rfl⟩
      · exact ⟨99, by decide, rfl⟩
    obtain ⟨c, hc, e⟩ := hc
    refine ⟨_, e, by rw [List.length_map]; exact Nat.lt_of_lt_of_le (by omega) (sizeBig (Nat.le_refl 1000000)), ?_⟩
    have q := lc_word (n := n) (k := k) l (acc ++ [[c]]) ns' (by rw [List.length_append, List.length_singleton]; omega) (fun w hw => (List.mem_append.mp hw).elim (ha w) fun hw => ⟨c, hc, by simpa using hw⟩)
      fun ws ns2 h1 h2 => h ws ns2 h1 (by rw [h2, List.length_append, List.length_singleton]; omega)
    rw [List.map_append] at q
    exact q
theorem sum_ones : ∀ ws : List (List Nat), (∀ w ∈ ws, ∃ c ∈ abc, w = [c]) → (ws.map List.length).sum = ws.length ∧ ws.flatten.length = ws.length ∧ AbcWord ws.flatten
  | [], _ => ⟨rfl, rfl, fun c hc => by cases hc⟩
  | w :: ws, h => by
    obtain ⟨h1, h2, h3⟩ := sum_ones ws fun v hv => h v (List.mem_cons_of_mem _ hv)
    obtain ⟨c, hc, rfl⟩ := h w List.mem_cons_self
    refine ⟨by rw [List.map_cons, List.sum_cons, h1, List.length_cons]; simp; omega, by rw [List.flatten_cons, List.length_append, h2, List.length_cons]; simp; omega, fun d hd => ?_⟩
    rw [List.flatten_cons] at hd
    rcases List.mem_append.mp hd with hd | hd
    · have : d = c := by simpa using hd
      rw [this]
      exact hc
    · exact h3 d hd
theorem p__law_word (dk as : List PV) (R : PV → List PV → Prop) (h : m__law_word dk as R) : q__law_word (ED R) (.brw (.l dk) :: st0 as 1) := by
  obtain ⟨⟨ns, rfl⟩, n, rfl, hn, hR⟩ := h
  have hn : n ≤ 10 := hn
  unfold q__law_word
  refine ⟨rfl, _, y_a1 _ _, ⟨ns, rfl⟩, n + 1, by rfl, by show 0 < n + 1; omega, fun q ns1 ⟨i, hi, e⟩ => ?_⟩
  subst e
  refine ⟨(i : Int), rfl, by omega, by omega, ?_⟩
  rw [Int.toNat_natCast]
  refine lc_word (nums 0 i) [] ns1 (by simp [nums]; omega) (fun w hw => by cases hw) fun ws ns2 h1 h2 => ?_
  have hl : (nums 0 i).length = i := by simp [nums]
  rw [hl, List.length_nil, Nat.zero_add] at h2
  obtain ⟨s1, s2, s3⟩ := sum_ones ws h1
  refine ⟨_, y_join _ ws (by rw [s1, w_2_eq]; simp; omega), ?_⟩
  rw [w_2_eq, joinT_nil]
  exact ⟨_, rfl, hR _ ns2 ⟨ws.flatten, s3, by rw [s2]; omega, rfl⟩⟩
theorem lc_sides {p1 : Sl} {k : List PV → Rs → Prop} : ∀ (l : List Nat) (acc : List Nat) (ns : List Int), acc.length + l.length ≤ 1000 →
    (∀ (s : List Nat) (ns' : List Int), s.Sublist l → k ((acc ++ s).map fun c => PV.str [c]) [.brw (.l (ns'.map .int)), p1, .un]) →
    wpLc [2] (qgName 2) (qTb (qBin gEq (qDk 0 m__law_take (qaCons (qC (.int 2)) qaNil)) (qC (.int 0)))) (qVar 2) k (l.map fun c => PV.str [c]) (acc.map fun c => PV.str [c]) [.brw (.l (ns.map .int)), p1, .un]
  | [], acc, ns, _, h => by
    have := h [] ns (List.Sublist.refl _)
    rw [List.append_nil] at this
    exact this
  | c :: l, acc, ns, hl, h => by
    rw [List.length_cons] at hl
    refine ⟨⟨ns, rfl⟩, 2, rfl, by decide, fun q ns' ⟨i, hi, e⟩ => ?_⟩
    subst e
    refine ⟨_, y_e1 _ _, _, rfl, ?_⟩
    by_cases e : (i : Int) = 0
    · refine ite_t (decide_eq_true e) ?_
      refine ⟨by rw [List.length_map]; exact Nat.lt_of_lt_of_le (by omega) (sizeBig (Nat.le_refl 1000000)), ?_⟩
      have q := lc_sides (p1 := p1) (k := k) l (acc ++ [c]) ns' (by rw [List.length_append, List.length_singleton]; omega) fun s ns2 h1 => by
        rw [List.append_assoc]
        exact h (c :: s) ns2 (h1.cons₂ c)
      rw [List.map_append] at q
      exact q
    · refine ite_f (decide_eq_false e) ?_
      exact lc_sides (p1 := p1) (k := k) l acc ns' (by omega) fun s ns2 h1 => h s ns2 (h1.cons c)
theorem flatten_ones : ∀ s : List Nat, (s.map fun c => [c]).flatten = s
  | [] => rfl
  | c :: s => by rw [List.map_cons, List.flatten_cons, flatten_ones s]; rfl
theorem sum_len1 : ∀ s : List Nat, ((s.map fun c => [c]).map List.length).sum = s.length
  | [] => rfl
  | c :: s => by rw [List.map_cons, List.map_cons, List.sum_cons, sum_len1 s, List.length_cons]; simp; omega
theorem join_signs (s : List Nat) (h : s.length ≤ 1000) : gJoin (.str w_2) [.lst (s.map fun c => PV.str [c])] = some (.str s) := by
  have e : (s.map fun c => PV.str [c]) = (s.map fun c => [c]).map PV.str := by rw [List.map_map]; rfl
  rw [e, y_join w_2 _ (by rw [sum_len1, w_2_eq]; simp; omega), w_2_eq, joinT_nil, flatten_ones]
theorem p__law_sides (dk as : List PV) (R : PV → List PV → Prop) (h : m__law_sides dk as R) : q__law_sides (ED R) (.brw (.l dk) :: st0 as 2) := by
  obtain ⟨⟨ns, rfl⟩, _, rfl, _, hR⟩ := h
  unfold q__law_sides
  refine ⟨⟨ns, rfl⟩, 3, rfl, by decide, fun q ns1 ⟨i, hi, e⟩ => ?_⟩
  subst e
  refine ⟨_, y_e1 _ _, _, rfl, ?_⟩
  by_cases e : (i : Int) = 0
  · refine ite_t (decide_eq_true e) ?_
    exact ⟨_, rfl, hR _ ns1 ⟨none, True.intro, rfl⟩⟩
  · refine ite_f (decide_eq_false e) ?_
    refine ⟨rfl, _, rfl, ?_⟩
    rw [w_6_eq, signs_map]
    refine lc_sides (p1 := .val (.int i)) [35, 97, 98, 99] [] ns1 (by decide) fun s ns2 hs => ?_
    have hl := hs.length_le
    have hl4 : s.length ≤ 4 := hl
    refine ⟨_, join_signs s (by omega), ?_⟩
    refine ⟨_, y_t6 s (sizeBig (by omega)), ?_⟩
    cases s with
    | nil => exact ite_f rfl ⟨_, rfl, hR _ ns2 ⟨some [97], ⟨by decide, by decide⟩, by rw [w_5_eq]; rfl⟩⟩
    | cons c s => exact ite_t rfl ⟨_, rfl, hR _ ns2 ⟨some (c :: s), ⟨(fun q => nomatch q), hs⟩, rfl⟩⟩
theorem p__law_rule (dk as : List PV) (R : PV → List PV → Prop) (h : m__law_rule dk as R) : q__law_rule (ED R) (.brw (.l dk) :: st0 as 3) := by
  obtain ⟨⟨ns, rfl⟩, _, rfl, _, hR⟩ := h
  unfold q__law_rule
  refine ⟨⟨ns, rfl⟩, 3, rfl, by decide, fun q ns1 ⟨i, hi, e⟩ => ?_⟩
  subst e
  have hz : w_7.length ≤ sizeLine := by rw [w_7_eq]; exact sizeBig (by decide)
  have hc : ∃ c ∈ abc, gIx (.str w_7) (.int i) = some (.str [c]) := by
    rw [y_ix4 _ _ hz, w_7_eq]
    have : i = 0 ∨ i = 1 ∨ i = 2 := by omega
    rcases this with rfl | rfl | rfl
    · exact ⟨97, by decide, rfl⟩
    · exact ⟨98, by decide, rfl⟩
    · exact ⟨99, by decide, rfl⟩
  obtain ⟨c, hc, ec⟩ := hc
  refine ⟨_, ec, _, rfl, ?_⟩
  rw [w_7_eq, signs_map]
  refine lc_filter (f := fun d => PV.str [d]) (g := fun d => !decide (d = c)) [97, 98, 99] [] _ (sizeBig (by decide)) rfl (fun d hd K hk => ?_) (fun d hd hg K hk => hk) ?_
  · refine ⟨_, y_e4 _ _, _, rfl, ?_⟩
    have e : (!decide ([d] = [c])) = (!decide (d = c)) := by simp
    rw [e]
    exact hk
  refine ⟨⟨ns1, rfl⟩, 2, rfl, by decide, fun q ns2 ⟨j, hj, e⟩ => ?_⟩
  subst e
  have hd : ∃ d ∈ abc, c ≠ d ∧ gIx (.lst ([] ++ ([97, 98, 99].filter fun d => !decide (d = c)).map fun d => PV.str [d])) (.int j) = some (.str [d]) := by
    have : j = 0 ∨ j = 1 := by omega
    simp [abc] at hc
    rcases hc with rfl | rfl | rfl <;> rcases this with rfl | rfl
    · exact ⟨98, by decide, by decide, rfl⟩
    · exact ⟨99, by decide, by decide, rfl⟩
    · exact ⟨97, by decide, by decide, rfl⟩
    · exact ⟨99, by decide, by decide, rfl⟩
    · exact ⟨97, by decide, by decide, rfl⟩
    · exact ⟨98, by decide, by decide, rfl⟩
  obtain ⟨d, hd, hcd, ed⟩ := hd
  refine ⟨_, ed, ⟨ns2, rfl⟩, (), rfl, True.intro, fun q ns3 ⟨l, hl, e⟩ => ?_⟩
  subst e
  refine ⟨⟨ns3, rfl⟩, (), rfl, True.intro, fun q ns4 ⟨r, hr, e⟩ => ?_⟩
  subst e
  exact ⟨sizeBig (show 4 ≤ 1000000 by decide), _, rfl, hR _ ns4 ⟨⟨c, d, l, r⟩, ⟨hc, hd, hcd, hl, hr⟩, rfl⟩⟩
theorem loop_deck0 {r0 r1 r2 r4 r5 r6 : Sl} (A : PEnds) : ∀ (l : List PV) (ds : List Int) (rest : Int) (s8 : Sl), ds.length + l.length ≤ 1000 →
    (∀ (ds' : List Int) (rest' : Int) (t8 : Sl), ds'.length = ds.length + l.length → A.nx [r0, r1, r2, .own (.l (ds'.map .int)), r4, r5, r6, .val (.int rest'), t8]) →
    wpFor (qgName 8) l__law_deck_0 A l [r0, r1, r2, .own (.l (ds.map .int)), r4, r5, r6, .val (.int rest), s8]
  | [], ds, rest, s8, _, h => h ds rest s8 rfl
  | p :: l, ds, rest, s8, hl, h => by
    rw [List.length_cons] at hl h
    refine ⟨_, y_int1 _, _, y_mod _ _ (by decide), by rw [List.length_map]; exact Nat.lt_of_lt_of_le (by omega) (sizeBig (Nat.le_refl 1000000)), ?_⟩
    refine ⟨_, y_fdiv _ _ ⟨by decide, by decide⟩, ?_⟩
    have q := loop_deck0 (r0 := r0) (r1 := r1) (r2 := r2) (r4 := r4) (r5 := r5) (r6 := r6) A l (ds ++ [rest % 1000003]) (rest / 1000003) (.val p) (by rw [List.length_append, List.length_singleton]; omega)
      fun ds' rest' t8 e => h ds' rest' t8 (by rw [e, List.length_append, List.length_singleton]; omega)
    rw [List.map_append] at q
    exact q
theorem loop_deck1 {r0 r1 r2 r5 r6 r7 : Sl} (A : PEnds) : ∀ (l : List Int) (ds : List Int) (seed : Int) (s8 : Sl), ds.length + l.length ≤ 1000 →
    (∀ (ds' : List Int) (seed' : Int) (t8 : Sl), ds'.length = ds.length + l.length → A.nx [r0, r1, r2, .own (.l (ds'.map .int)), .val (.int seed'), r5, r6, r7, t8]) →
    wpFor (qgName 8) l__law_deck_1 A (l.map .int) [r0, r1, r2, .own (.l (ds.map .int)), .val (.int seed), r5, r6, r7, s8]
  | [], ds, seed, s8, _, h => h ds seed s8 rfl
  | a :: l, ds, seed, s8, hl, h => by
    rw [List.length_cons] at hl h
    refine ⟨_, y_mul2 _ _ ⟨by decide, by decide⟩, _, y_a1 _ _, _, y_a1 _ _, _, y_int1 _, _, y_mod _ _ (by decide), ?_⟩
    refine ⟨_, y_fdiv _ _ ⟨by decide, by decide⟩, _, y_int1 _, _, y_mod _ _ (by decide), by rw [List.length_map]; exact Nat.lt_of_lt_of_le (by omega) (sizeBig (Nat.le_refl 1000000)), ?_⟩
    have q := loop_deck1 (r0 := r0) (r1 := r1) (r2 := r2) (r5 := r5) (r6 := r6) (r7 := r7) A l (ds ++ [(seed * 69621 + a + 1) % 2147483629 / 5 % 1000003]) ((seed * 69621 + a + 1) % 2147483629) (.val (.int a)) (by rw [List.length_append, List.length_singleton]; omega)
      fun ds' rest' t8 e => h ds' rest' t8 (by rw [e, List.length_append, List.length_singleton]; omega)
    rw [List.map_append] at q
    exact q
theorem loop_deck2 {r1 : Sl} {ns : List Int} (A : PEnds) : ∀ (l : List Nat) (ds : List Int) (seed : Int) (s5 s6 s7 s8 : Sl), ds.length + 7 * l.length ≤ 1000 →
    (∀ (ds' : List Int) (t4 t5 t6 t7 t8 : Sl), A.nx [.val (.seq (ns.map .int)), r1, .val (.int 7), .own (.l (ds'.map .int)), t4, t5, t6, t7, t8]) →
    wpFor (qgName 5) l__law_deck_2 A (l.map fun (i : Nat) => PV.int (0 + (i : Int))) [.val (.seq (ns.map .int)), r1, .val (.int 7), .own (.l (ds.map .int)), .val (.int seed), s5, s6, s7, s8]
  | [], ds, seed, s5, s6, s7, s8, _, h => h ds _ s5 s6 s7 s8
  | k :: l, ds, seed, s5, s6, s7, s8, hl, h => by
    rw [List.length_cons] at hl
    have hcell : ∀ (K : Rs → Prop), (∀ c : Int, K [.val (.seq (ns.map .int)), r1, .val (.int 7), .own (.l (ds.map .int)), .val (.int seed), .val (.int (0 + (k : Int))), .val (.int c), s7, s8]) →
        ∀ (rt : PV → Rs → Prop) (bk ct : Rs → Prop) (ro : Cell → Prop), qIfS (qTb (qBin gLt (qVar 5) (qCall gLen (qaCons (qVar 0) qaNil)))) (qAsg (qBin gIx (qVar 0) (qVar 5)) (qgName 6)) qNext { nx := K, rt := rt, bk := bk, ct := ct, ro := ro } [.val (.seq (ns.map .int)), r1, .val (.int 7), .own (.l (ds.map .int)), .val (.int seed), .val (.int (0 + (k : Int))), .val (.int 0), s7, s8] := fun K hK rt bk ct ro => by
      refine ⟨_, y_len4 _, _, y_lt _ _, _, rfl, ?_⟩
      by_cases hk : k < ns.length
      · refine ite_t (decide_eq_true (by rw [List.length_map]; omega)) ?_
        refine ⟨.int ns[k], ?_, hK _⟩
        have e : (0 + (k : Int)) = (k : Int) := by omega
        show atI (ns.map PV.int) (0 + (k : Int)) = _
        rw [e, Qy.atI_nat, List.getElem?_map, List.getElem?_eq_getElem hk]
        rfl
      · exact ite_f (decide_eq_false (by rw [List.length_map]; omega)) (hK _)
    refine hcell _ (fun c => ?_) _ _ _ _
    have fin : ∀ (ds' : List Int) (seed' : Int) (t5 t6 t7 t8 : Sl), ds'.length = ds.length + 7 → wpFor (qgName 5) l__law_deck_2 A (l.map fun (i : Nat) => PV.int (0 + (i : Int))) [.val (.seq (ns.map .int)), r1, .val (.int 7), .own (.l (ds'.map .int)), .val (.int seed'), t5, t6, t7, t8] :=
      fun ds' seed' t5 t6 t7 t8 e => loop_deck2 A l ds' seed' t5 t6 t7 t8 (by rw [e]; omega) h
    refine ⟨_, y_abs _, _, y_pow _ _ ⟨by decide, by decide, by decide⟩, _, y_ge _ _, _, rfl, ?_⟩
    cases hb : decide ((10 : Int) ^ (30 : Int).toNat ≤ (if c < 0 then -c else c)) with
    | true =>
      refine ite_t rfl ?_
      refine ⟨7, rfl, by decide, by decide, ?_⟩
      exact loop_deck0 _ (nums 0 7) ds _ s8 (by have : (nums 0 7).length = 7 := rfl; omega) fun ds' rest' t8 e => fin ds' seed _ _ _ t8 e
    | false =>
      refine ite_f rfl ?_
      refine ⟨_, y_mul2 _ _ ⟨by decide, by decide⟩, _, y_mul1 _ _ ⟨by decide, by decide⟩, _, y_a1 _ _, _, y_lt _ _, _, y_int2 _, _, y_a1 _ _, _, y_a1 _ _, _, y_int1 _, _, y_mod _ _ (by decide), ?_⟩
      refine ⟨7, rfl, by decide, by decide, ?_⟩
      exact loop_deck1 _ [0, 1, 2, 3, 4, 5, 6] ds _ s8 (by have : ([0, 1, 2, 3, 4, 5, 6] : List Int).length = 7 := rfl; omega) fun ds' seed' t8 e => fin ds' seed' _ _ _ t8 e
theorem p__law_deck (as : List PV) (R : List PV → Prop) (h : m__law_deck as R) : q__law_deck { nx := fun _ => False, rt := fun _ _ => False, ro := cellL R } (st0 as 6) := by
  obtain ⟨ns, hn, rfl, hR⟩ := h
  unfold q__law_deck
  refine ⟨sizeBig (by decide), ?_⟩
  refine ⟨_, y_len4 _, _, y_a1 _ _, ?_⟩
  refine ⟨40, rfl, by decide, by decide, ?_⟩
  refine loop_deck2 (ns := ns) _ (List.range 40) [] _ _ _ _ _ (by decide) fun ds t4 t5 t6 t7 t8 => ?_
  refine ⟨_, rfl, ?_⟩
  show R _
  rw [← List.map_reverse]
  exact hR _
end HK
set_option Elab.async false
set_option linter.all false
set_option maxRecDepth 100000
set_option maxHeartbeats 400000
namespace HK
open PySem PySem.Spec PyProof.Rows L2 Qy
theorem sortW_ones (l : List Nat) : sortW (l.map fun c => [c]) = (l.mergeSort (fun a b => decide (a ≤ b))).map fun c => [c] := by
  refine sortW_eq ((List.mergeSort_perm l _).map _) ?_
  rw [List.pairwise_map]
  refine (List.pairwise_mergeSort (le := fun a b => decide (a ≤ b)) ?_ ?_ l).imp fun {a b} h => (leW_sign a b).mpr (of_decide_eq_true h)
  · intro a b c h1 h2
    simp at h1 h2 ⊢
    omega
  · intro a b
    simp
    omega
theorem look_to (k c : Nat) (hk : k < 3) (hc : c ∈ abc) : lookD [.inr (tx [97]), .inr (tx [98]), .inr (tx [99])] ((toL k).map fun c => PV.str [c]) (.inr (tx [c])) = some (.str [toC k c]) := by
  have : k = 0 ∨ k = 1 ∨ k = 2 := by omega
  simp [abc] at hc
  rcases this with rfl | rfl | rfl <;> rcases hc with rfl | rfl | rfl <;> rfl
theorem tx_ne {a c : Nat} (h : a ≠ c) : ¬ ((.inr (tx [a]) : Key) = .inr (tx [c])) := fun q => h (by have := tx_inj (Sum.inr.inj q); simpa using this)
theorem get_to (k c : Nat) (hk : k < 3) : (lookD [.inr (tx [97]), .inr (tx [98]), .inr (tx [99])] ((toL k).map fun c => PV.str [c]) (.inr (tx [c]))).getD (.str [c]) = .str [toC k c] := by
  by_cases hc : c ∈ abc
  · rw [look_to k c hk hc]
    rfl
  · have h1 : (97 : Nat) ≠ c := fun e => hc (by rw [← e]; decide)
    have h2 : (98 : Nat) ≠ c := fun e => hc (by rw [← e]; decide)
    have h3 : (99 : Nat) ≠ c := fun e => hc (by rw [← e]; decide)
    have e : toC k c = c := by
      have : k = 0 ∨ k = 1 ∨ k = 2 := by omega
      rcases this with rfl | rfl | rfl <;> simp [toC, toL, Ne.symm h1, Ne.symm h2, Ne.symm h3]
    have : k = 0 ∨ k = 1 ∨ k = 2 := by omega
    rcases this with rfl | rfl | rfl <;> simp [toL, lookD, tx_ne h1, tx_ne h2, tx_ne h3, e] <;> simp [toL] at e ⊢ <;> rw [e]
theorem p__law_relettered (as : List PV) (R : PV → Prop) (h : m__law_relettered as R) : q__law_relettered (EQ R) (st0 as 3) := by
  obtain ⟨⟨u, k⟩, rfl, ⟨hu, hk⟩, hR⟩ := h
  have hu : AbcRule u := hu
  have hk : k < 3 := hk
  have hR : R (relet k u).pv := hR
  unfold q__law_relettered
  refine ⟨2, rfl, _, rfl, _, rfl, ?_⟩
  show wpLc [3] (qgName 3) qYes _ _ ([u.l, u.r].map sideP) [] _
  refine lc_map (f := fun s => sideP (s.map (relS k))) [u.l, u.r] [] _ (sizeBig (show 2 ≤ 1000000 by decide)) rfl (fun s hs K hK => ?_) ?_
  · have ha : AbcSide s := by
      rcases List.mem_cons.mp hs with rfl | hs
      · exact hu.l
      · have : s = u.r := by simpa using hs
        rw [this]
        exact hu.r
    cases s with
    | none => exact ⟨_, rfl, _, rfl, ite_t rfl hK⟩
    | some s =>
      have hl : s.length ≤ 4 := ha.2.length_le
      refine ⟨_, rfl, _, rfl, ite_f rfl ?_⟩
      refine ⟨rfl, _, rfl, ?_⟩
      rw [signs_map]
      refine lc_map (f := fun c => PV.str [toC k c]) s [] _ (sizeBig (by rw [List.length_nil]; omega)) rfl (fun c hc K2 hK2 => ?_) ?_
      · refine ⟨_, _, rfl, _, rfl, ?_⟩
        rw [get_to k c hk]
        exact hK2
      · have e : (s.map fun c => PV.str [toC k c]) = ((s.map (toC k)).map fun c => [c]).map PV.str := by rw [List.map_map, List.map_map]; rfl
        rw [List.nil_append, e]
        refine ⟨_, y_sorted _, ?_⟩
        rw [sortW_ones]
        have e2 : (((s.map (toC k)).mergeSort (fun a b => decide (a ≤ b))).map fun c => [c]).map PV.str = (relS k s).map fun c => PV.str [c] := by rw [List.map_map]; rfl
        rw [e2]
        refine ⟨_, join_signs _ ?_, hK⟩
        unfold relS
        rw [List.length_mergeSort, List.length_map]
        omega
  · refine ⟨_, rfl, _, look_to k u.o hk hu.o, _, rfl, _, look_to k u.n hk hu.n, _, rfl, _, rfl, sizeBig (show 4 ≤ 1000000 by decide), ?_⟩
    exact hR
end HK
set_option Elab.async false
set_option linter.all false
set_option maxRecDepth 100000
set_option maxHeartbeats 1000000
/-! K23M: the plain law: rules on words. -/
namespace HM
open HK Qy
theorem chg_get (u : Ru) (w : List Nat) (i : Nat) : (chg u w)[i]? = w[i]?.map fun c => at1 u w i c := by
  show ((w.zipIdx 0).map fun x => at1 u w x.2 x.1)[i]? = _
  rw [List.getElem?_map, List.getElem?_zipIdx, Option.map_map, Nat.zero_add]
  rfl
theorem chg_len (u : Ru) (w : List Nat) : (chg u w).length = w.length := by
  show ((w.zipIdx 0).map fun x => at1 u w x.2 x.1).length = _
  rw [List.length_map, List.length_zipIdx]
theorem chgs_len (us : List Ru) : ∀ w, (chgs us w).length = w.length := by
  induction us with
  | nil => exact fun w => rfl
  | cons u us ih => exact fun w => (ih (chg u w)).trans (chg_len u w)
theorem chgs_append (us vs : List Ru) (w : List Nat) : chgs (us ++ vs) w = chgs vs (chgs us w) := List.foldl_append
theorem abc_chg {u : Ru} (hu : AbcRule u) {w : List Nat} (hw : AbcWord w) : AbcWord (chg u w) := by
  intro c hc
  obtain ⟨i, hi⟩ := List.mem_iff_getElem?.mp hc
  rw [chg_get] at hi
  cases e : w[i]? with
  | none => rw [e] at hi; cases hi
  | some d =>
    rw [e] at hi
    have hi : at1 u w i d = c := Option.some.inj hi
    rw [← hi]
    unfold at1
    split
    · exact hu.n
    · exact hw d (List.mem_iff_getElem?.mpr ⟨i, e⟩)
theorem abc_chgs : ∀ {us : List Ru} (_ : ∀ u ∈ us, AbcRule u) {w : List Nat} (_ : AbcWord w), AbcWord (chgs us w)
  | [], _, _, hw => hw
  | u :: us, h, w, hw => abc_chgs (us := us) (fun v hv => h v (List.mem_cons_of_mem _ hv)) (abc_chg (h u List.mem_cons_self) hw)
/-! ### other letters -/
theorem toC35 (k : Nat) (hk : k < 3) : toC k 35 = 35 := by
  have : k = 0 ∨ k = 1 ∨ k = 2 := by omega
  rcases this with rfl | rfl | rfl <;> rfl
theorem toC_inj {k : Nat} (hk : k < 3) {a b : Nat} (ha : a ∈ [35, 97, 98, 99]) (hb : b ∈ [35, 97, 98, 99]) (h : toC k a = toC k b) : a = b := by
  have : k = 0 ∨ k = 1 ∨ k = 2 := by omega
  simp at ha hb
  rcases this with rfl | rfl | rfl <;> rcases ha with rfl | rfl | rfl | rfl <;> rcases hb with rfl | rfl | rfl | rfl <;> first | rfl | (exact absurd h (by decide))
theorem abc_sub {c : Nat} (h : c ∈ abc) : c ∈ [35, 97, 98, 99] := List.mem_cons_of_mem _ h
theorem getD_map (f : Nat → Nat) (hf : f 35 = 35) (w : List Nat) (j : Nat) : (w.map f).getD j 35 = f (w.getD j 35) := by
  rw [List.getD_eq_getElem?_getD, List.getD_eq_getElem?_getD, List.getElem?_map]
  cases w[j]? with
  | none => exact hf.symm
  | some c => rfl
theorem ahead_map {k : Nat} (hk : k < 3) (w : List Nat) (i : Nat) : ahead (w.map (toC k)) i = toC k (ahead w i) := by
  unfold ahead
  split
  · exact (toC35 k hk).symm
  · exact getD_map _ (toC35 k hk) w _
theorem behind_map {k : Nat} (hk : k < 3) (w : List Nat) (i : Nat) : behind (w.map (toC k)) i = toC k (behind w i) := getD_map _ (toC35 k hk) w _
theorem getD_in {w : List Nat} (hw : AbcWord w) (j : Nat) : w.getD j 35 ∈ [35, 97, 98, 99] := by
  rw [List.getD_eq_getElem?_getD]
  cases e : w[j]? with
  | none => exact List.mem_cons_self
  | some c => exact abc_sub (hw c (List.mem_iff_getElem?.mpr ⟨j, e⟩))
theorem ahead_in {w : List Nat} (hw : AbcWord w) (i : Nat) : ahead w i ∈ [35, 97, 98, 99] := by
  unfold ahead
  split
  · exact List.mem_cons_self
  · exact getD_in hw _
theorem behind_in {w : List Nat} (hw : AbcWord w) (i : Nat) : behind w i ∈ [35, 97, 98, 99] := getD_in hw _
theorem mem_relS {k : Nat} (s : List Nat) (c : Nat) : c ∈ relS k s ↔ c ∈ s.map (toC k) := (List.mergeSort_perm _ _).mem_iff
theorem fits_map {k : Nat} (hk : k < 3) {s : Option (List Nat)} (hs : AbcSide s) {c : Nat} (hc : c ∈ [35, 97, 98, 99]) : fits (s.map (relS k)) (toC k c) = fits s c := by
  cases s with
  | none => rfl
  | some s =>
    show decide (toC k c ∈ relS k s) = decide (c ∈ s)
    have e : toC k c ∈ relS k s ↔ c ∈ s := by
      rw [mem_relS, List.mem_map]
      constructor
      · rintro ⟨d, hd, e⟩
        rw [← toC_inj hk (hs.2.subset hd) hc e]
        exact hd
      · exact fun h => ⟨c, h, rfl⟩
    by_cases h : c ∈ s
    · rw [decide_eq_true h, decide_eq_true (e.mpr h)]
    · rw [decide_eq_false h, decide_eq_false fun q => h (e.mp q)]
theorem chg_map {k : Nat} (hk : k < 3) {u : Ru} (hu : AbcRule u) {w : List Nat} (hw : AbcWord w) : chg (relet k u) (w.map (toC k)) = (chg u w).map (toC k) := by
  apply List.ext_getElem?
  intro i
  rw [chg_get, List.getElem?_map, List.getElem?_map, chg_get]
  cases e : w[i]? with
  | none => rfl
  | some c =>
    have hc : c ∈ abc := hw c (List.mem_iff_getElem?.mpr ⟨i, e⟩)
    show some (at1 (relet k u) (w.map (toC k)) i (toC k c)) = some (toC k (at1 u w i c))
    congr 1
    have e1 : fits (relet k u).l (ahead (w.map (toC k)) i) = fits u.l (ahead w i) := by rw [ahead_map hk]; exact fits_map hk hu.l (ahead_in hw i)
    have e2 : fits (relet k u).r (behind (w.map (toC k)) i) = fits u.r (behind w i) := by rw [behind_map hk]; exact fits_map hk hu.r (behind_in hw i)
    unfold at1
    rw [e1, e2]
    by_cases h : c = u.o ∧ (fits u.l (ahead w i) && fits u.r (behind w i)) = true
    · rw [if_pos h, if_pos ⟨by rw [h.1]; rfl, h.2⟩]
      rfl
    · rw [if_neg h, if_neg]
      rintro ⟨h1, h2⟩
      exact h ⟨toC_inj hk (abc_sub hc) (abc_sub hu.o) h1, h2⟩
theorem chgs_map {k : Nat} (hk : k < 3) : ∀ {us : List Ru} (_ : ∀ u ∈ us, AbcRule u) {w : List Nat} (_ : AbcWord w), chgs (us.map (relet k)) (w.map (toC k)) = (chgs us w).map (toC k)
  | [], _, _, _ => rfl
  | u :: us, h, w, hw => by
    show chgs (us.map (relet k)) (chg (relet k u) (w.map (toC k))) = _
    rw [chg_map hk (h u List.mem_cons_self) hw]
    exact chgs_map hk (us := us) (fun v hv => h v (List.mem_cons_of_mem _ hv)) (abc_chg (h u List.mem_cons_self) hw)
/-! ### turned round -/
def swp (u : Ru) : Ru := ⟨u.o, u.n, u.r, u.l⟩
theorem rev_get (w : List Nat) {i : Nat} (h : i < w.length) : w.reverse[i]? = w[w.length - 1 - i]? := List.getElem?_reverse h
theorem ahead_rev (w : List Nat) {i : Nat} (h : i < w.length) : ahead w.reverse i = behind w (w.length - 1 - i) := by
  unfold ahead behind
  split
  · rename_i e
    subst e
    rw [List.getD_eq_getElem?_getD, List.getElem?_eq_none (by omega)]
    rfl
  · rw [List.getD_eq_getElem?_getD, List.getD_eq_getElem?_getD, rev_get w (by omega)]
    congr 2 <;> omega
theorem behind_rev (w : List Nat) {i : Nat} (h : i < w.length) : behind w.reverse i = ahead w (w.length - 1 - i) := by
  unfold ahead behind
  split
  · rename_i e
    rw [List.getD_eq_getElem?_getD, List.getElem?_eq_none (by rw [List.length_reverse]; omega)]
    rfl
  · rw [List.getD_eq_getElem?_getD, List.getD_eq_getElem?_getD, rev_get w (by omega)]
    congr 2 <;> omega
theorem chg_rev (u : Ru) (w : List Nat) : chg (swp u) w.reverse = (chg u w).reverse := by
  apply List.ext_getElem?
  intro i
  rw [chg_get]
  by_cases h : i < w.length
  · rw [rev_get w h, List.getElem?_reverse (by rw [chg_len]; exact h), chg_get, chg_len]
    cases e : w[w.length - 1 - i]? with
    | none => rfl
    | some c =>
      show some _ = some _
      congr 1
      unfold at1
      rw [ahead_rev w h, behind_rev w h, Bool.and_comm]
      rfl
  · rw [List.getElem?_eq_none (by rw [List.length_reverse]; omega), List.getElem?_eq_none (by rw [List.length_reverse, chg_len]; omega)]
    rfl
theorem chgs_rev : ∀ (us : List Ru) (w : List Nat), chgs (us.map swp) w.reverse = (chgs us w).reverse
  | [], _ => rfl
  | u :: us, w => by
    show chgs (us.map swp) (chg (swp u) w.reverse) = _
    rw [chg_rev]
    exact chgs_rev us (chg u w)
/-! ### far letters -/
def Agree (n : Nat) (x y : List Nat) : Prop := ∀ j, j < n → x[j]? = y[j]?
theorem agree_chg (u : Ru) {n : Nat} {x y : List Nat} (h : Agree (n + 1) x y) : Agree n (chg u x) (chg u y) := by
  intro j hj
  rw [chg_get, chg_get, h j (by omega)]
  cases y[j]? with
  | none => rfl
  | some c =>
    show some _ = some _
    congr 1
    have e1 : ahead x j = ahead y j := by
      unfold ahead
      split
      · rfl
      · rw [List.getD_eq_getElem?_getD, List.getD_eq_getElem?_getD, h (j - 1) (by omega)]
    have e2 : behind x j = behind y j := by
      unfold behind
      rw [List.getD_eq_getElem?_getD, List.getD_eq_getElem?_getD, h (j + 1) (by omega)]
    unfold at1
    rw [e1, e2]
theorem agree_chgs : ∀ (us : List Ru) {n : Nat} {x y : List Nat}, Agree (n + us.length) x y → Agree n (chgs us x) (chgs us y)
  | [], _, _, _, h => h
  | u :: us, n, x, y, h => agree_chgs us (x := chg u x) (y := chg u y) (agree_chg u (by rw [List.length_cons, ← Nat.add_assoc] at h; exact h))
theorem agree_take {n : Nat} {x y : List Nat} (h : Agree n x y) : x.take n = y.take n := by
  apply List.ext_getElem?
  intro j
  rw [List.getElem?_take, List.getElem?_take]
  split
  · exact h j (by assumption)
  · rfl
theorem far_law (us : List Ru) (w : List Nat) (f : List Nat) : (chgs us (w ++ f ++ w)).take (w.length - us.length) = (chgs us (w ++ f)).take (w.length - us.length) := by
  by_cases h : us.length ≤ w.length
  · refine agree_take (agree_chgs us fun j hj => ?_)
    rw [List.getElem?_append_left (by rw [List.length_append]; omega)]
  · have e : w.length - us.length = 0 := by omega
    rw [e, List.take_zero, List.take_zero]
/-! ### all words -/
theorem nodup_wordsO : ∀ n, (wordsO n).Nodup
  | 0 => by simp [wordsO]
  | n + 1 => by
    show ((wordsO n).flatMap fun w => abc.map fun c => w ++ [c]).Pairwise (· ≠ ·)
    rw [List.pairwise_flatMap]
    refine ⟨fun w hw => ?_, (nodup_wordsO n).imp fun {a b} h x hx y hy e => ?_⟩
    · rw [List.pairwise_map]
      exact (show abc.Pairwise (· ≠ ·) by decide).imp fun h e => h (by simpa using e)
    · obtain ⟨c, _, rfl⟩ := List.mem_map.mp hx
      obtain ⟨d, _, rfl⟩ := List.mem_map.mp hy
      exact h (List.append_inj' e rfl).1
theorem mem_wO {n : Nat} {w : List Nat} : w ∈ wordsO n ↔ w.length = n ∧ AbcWord w := by
  constructor
  · intro h
    induction n generalizing w with
    | zero =>
      have e : w = [] := by simpa [wordsO] using h
      subst e
      exact ⟨rfl, fun c hc => by cases hc⟩
    | succ n ih =>
      obtain ⟨v, hv, h⟩ := List.mem_flatMap.mp h
      obtain ⟨c, hc, rfl⟩ := List.mem_map.mp h
      obtain ⟨h1, h2⟩ := ih hv
      refine ⟨by rw [List.length_append, h1]; rfl, fun d hd => ?_⟩
      rcases List.mem_append.mp hd with hd | hd
      · exact h2 d hd
      · have : d = c := by simpa using hd
        rw [this]
        exact hc
  · intro ⟨h, ha⟩
    induction n generalizing w with
    | zero =>
      have e : w = [] := List.length_eq_zero_iff.mp h
      subst e
      simp [wordsO]
    | succ n ih =>
      have hne : w ≠ [] := fun e => by rw [e] at h; cases h
      have e := List.dropLast_concat_getLast hne
      exact List.mem_flatMap.mpr ⟨w.dropLast, ih (by rw [List.length_dropLast, h]; rfl) fun c hc => ha c (List.dropLast_subset w hc), List.mem_map.mpr ⟨w.getLast hne, ha _ (List.getLast_mem hne), e⟩⟩
theorem mem_mother {us : List Ru} {w v : List Nat} : v ∈ motherW us w ↔ (v.length = w.length ∧ AbcWord v) ∧ chgs us v = w := by
  unfold motherW
  rw [List.mem_filter, mem_wO, decide_eq_true_eq]
/-- the words of a length as the law makes them -/
def wordsP : Nat → List (List Nat)
  | 0 => [[]]
  | n + 1 => (wordsP n).map (· ++ [97]) ++ (wordsP n).map (· ++ [98]) ++ (wordsP n).map (· ++ [99])
theorem mem_wP {n : Nat} {w : List Nat} : w ∈ wordsP n ↔ w ∈ wordsO n := by
  induction n generalizing w with
  | zero => exact Iff.rfl
  | succ n ih =>
    show w ∈ (wordsP n).map (· ++ [97]) ++ (wordsP n).map (· ++ [98]) ++ (wordsP n).map (· ++ [99]) ↔ w ∈ (wordsO n).flatMap fun w => abc.map fun c => w ++ [c]
    rw [List.mem_append, List.mem_append, List.mem_map, List.mem_map, List.mem_map, List.mem_flatMap]
    constructor
    · rintro ((⟨v, hv, e⟩ | ⟨v, hv, e⟩) | ⟨v, hv, e⟩)
      · exact ⟨v, ih.mp hv, List.mem_map.mpr ⟨97, by decide, e⟩⟩
      · exact ⟨v, ih.mp hv, List.mem_map.mpr ⟨98, by decide, e⟩⟩
      · exact ⟨v, ih.mp hv, List.mem_map.mpr ⟨99, by decide, e⟩⟩
    · rintro ⟨v, hv, h⟩
      obtain ⟨c, hc, e⟩ := List.mem_map.mp h
      have hv := ih.mpr hv
      simp [abc] at hc
      rcases hc with rfl | rfl | rfl
      · exact .inl (.inl ⟨v, hv, e⟩)
      · exact .inl (.inr ⟨v, hv, e⟩)
      · exact .inr ⟨v, hv, e⟩
theorem nodup_wP : ∀ n, (wordsP n).Nodup
  | 0 => by simp [wordsP]
  | n + 1 => by
    have inj : ∀ c : Nat, ((wordsP n).map (· ++ [c])).Pairwise (· ≠ ·) := fun c => by
      rw [List.pairwise_map]
      exact (nodup_wP n).imp fun h e => h (List.append_inj' e rfl).1
    have dis : ∀ c d : Nat, c ≠ d → ∀ a ∈ (wordsP n).map (· ++ [c]), ∀ b ∈ (wordsP n).map (· ++ [d]), a ≠ b := fun c d h a ha b hb e => by
      obtain ⟨x, _, rfl⟩ := List.mem_map.mp ha
      obtain ⟨y, _, rfl⟩ := List.mem_map.mp hb
      have := (List.append_inj' e rfl).2
      exact h (by simpa using this)
    show ((wordsP n).map (· ++ [97]) ++ (wordsP n).map (· ++ [98]) ++ (wordsP n).map (· ++ [99])).Pairwise (· ≠ ·)
    rw [List.pairwise_append, List.pairwise_append]
    refine ⟨⟨inj 97, inj 98, dis 97 98 (by decide)⟩, inj 99, fun a ha b hb => ?_⟩
    rcases List.mem_append.mp ha with ha | ha
    · exact dis 97 99 (by decide) a ha b hb
    · exact dis 98 99 (by decide) a ha b hb
theorem mothers_perm {us : List Ru} (hu : ∀ u ∈ us, AbcRule u) (n : Nat) : ((wordsP n).flatMap (motherW us)).Perm (wordsP n) := by
  have nd : ((wordsP n).flatMap (motherW us)).Nodup := by
    show ((wordsP n).flatMap (motherW us)).Pairwise (· ≠ ·)
    rw [List.pairwise_flatMap]
    refine ⟨fun w hw => (nodup_wordsO w.length).filter _, (nodup_wP n).imp fun {a b} h x hx y hy e => ?_⟩
    have h1 := (mem_mother.mp hx).2
    have h2 := (mem_mother.mp hy).2
    exact h (by rw [← h1, ← h2, e])
  refine (List.perm_ext_iff_of_nodup nd (nodup_wP n)).mpr fun a => ?_
  rw [List.mem_flatMap]
  constructor
  · rintro ⟨w, hw, h⟩
    obtain ⟨⟨h1, h2⟩, _⟩ := mem_mother.mp h
    have hw := (mem_wO.mp (mem_wP.mp hw)).1
    exact mem_wP.mpr (mem_wO.mpr ⟨h1.trans hw, h2⟩)
  · intro h
    obtain ⟨h1, h2⟩ := mem_wO.mp (mem_wP.mp h)
    exact ⟨chgs us a, mem_wP.mpr (mem_wO.mpr ⟨(chgs_len us a).trans h1, abc_chgs hu h2⟩), mem_mother.mpr ⟨⟨(chgs_len us a).symm, h2⟩, rfl⟩⟩
/-! ### the least difference -/
theorem mem_allW {n : Nat} {w : List Nat} : w ∈ allW n ↔ 1 ≤ w.length ∧ w.length ≤ n ∧ AbcWord w := by
  unfold allW
  rw [List.mem_flatMap]
  constructor
  · rintro ⟨i, hi, h⟩
    have hi := List.mem_range.mp hi
    obtain ⟨h1, h2⟩ := mem_wO.mp h
    exact ⟨by omega, by omega, h2⟩
  · rintro ⟨h1, h2, h3⟩
    exact ⟨w.length - 1, List.mem_range.mpr (by omega), mem_wO.mpr ⟨by omega, h3⟩⟩
theorem pairwise_all {α : Type} {R : α → α → Prop} : ∀ (l : List α), (∀ a ∈ l, ∀ b ∈ l, R a b) → l.Pairwise R
  | [], _ => .nil
  | a :: l, h => .cons (fun b hb => h a List.mem_cons_self b (List.mem_cons_of_mem _ hb)) (pairwise_all l fun x hx y hy => h x (List.mem_cons_of_mem _ hx) y (List.mem_cons_of_mem _ hy))
theorem allW_sorted (n : Nat) : (allW n).Pairwise fun a b => a.length ≤ b.length := by
  unfold allW
  rw [List.pairwise_flatMap]
  refine ⟨fun i _ => ?_, ?_⟩
  · refine pairwise_all _ fun a ha b hb => ?_
    rw [(mem_wO.mp ha).1, (mem_wO.mp hb).1]
    exact Nat.le_refl _
  · refine (List.pairwise_lt_range).imp fun {i j} h x hx y hy => ?_
    rw [(mem_wO.mp hx).1, (mem_wO.mp hy).1]
    omega
theorem leastD_none {one two : List Ru} {n : Nat} (h : leastD one two n = none) {w : List Nat} (h1 : 1 ≤ w.length) (h2 : w.length ≤ n) (h3 : AbcWord w) : chgs one w = chgs two w := by
  have := List.find?_eq_none.mp h w (mem_allW.mpr ⟨h1, h2, h3⟩)
  simpa using this
theorem leastD_some {one two : List Ru} {n : Nat} {v : List Nat} (h : leastD one two n = some v) : v ∈ allW n ∧ chgs one v ≠ chgs two v ∧ ∀ w, AbcWord w → 1 ≤ w.length → w.length < v.length → chgs one w = chgs two w := by
  have hm := List.mem_of_find?_eq_some h
  obtain ⟨hp, as, bs, e, hb⟩ := List.find?_eq_some_iff_append.mp h
  refine ⟨hm, of_decide_eq_true hp, fun w h1 h2 h3 => ?_⟩
  have hl := (mem_allW.mp hm).2.1
  have hw : w ∈ allW n := mem_allW.mpr ⟨h2, by omega, h1⟩
  have hs := allW_sorted n
  rw [e] at hw hs
  rcases List.mem_append.mp hw with hw | hw
  · have := hb w hw
    simpa using this
  · rcases List.mem_cons.mp hw with rfl | hw
    · omega
    · have := (List.pairwise_cons.mp (List.pairwise_append.mp hs).2.1).1 w hw
      omega
theorem leastD_comm (one two : List Ru) (n : Nat) : leastD two one n = leastD one two n := by
  unfold leastD
  congr 1
  funext w
  exact decide_eq_decide.mpr ⟨fun h e => h e.symm, fun h e => h e.symm⟩
theorem firstD_comm (one two : List Ru) : firstD two one = firstD one two := by
  unfold firstD
  rw [leastD_comm, Nat.max_comm]
theorem firstD_self (one : List Ru) : firstD one one = none := by
  unfold firstD leastD
  rw [List.find?_eq_none]
  intro w _
  simp
theorem chgs_nil : ∀ us : List Ru, chgs us [] = [] := fun us => List.length_eq_zero_iff.mp (chgs_len us [])
/-- a list of one rule at most looks at the neighbours alone -/
theorem near (us : List Ru) (h : us.length ≤ 1) : ∃ F : Nat → Nat → Nat → Nat, ∀ (w : List Nat) (i : Nat), (chgs us w)[i]? = w[i]?.map fun c => F (ahead w i) c (behind w i) := by
  match us, h with
  | [], _ => exact ⟨fun _ c _ => c, fun w i => by
      show w[i]? = _
      cases w[i]? <;> rfl⟩
  | [u], _ => exact ⟨fun a c b => if c = u.o ∧ (fits u.l a && fits u.r b) = true then u.n else c, fun w i => chg_get u w i⟩
theorem four {one two : List Ru} (h1 : one.length ≤ 1) (h2 : two.length ≤ 1) (h : ∀ w, AbcWord w → w.length = 3 → chgs one w = chgs two w) {w : List Nat} (hw : AbcWord w) (hl : w.length = 4) : chgs one w = chgs two w := by
  obtain ⟨F, hF⟩ := near one h1
  obtain ⟨G, hG⟩ := near two h2
  match w, hl with
  | [a, b, c, d], _ =>
    have q1 := h [a, b, c] (fun x hx => hw x (by simp at hx ⊢; rcases hx with h | h | h <;> simp [h])) rfl
    have q2 := h [b, c, d] (fun x hx => hw x (by simp at hx ⊢; rcases hx with h | h | h <;> simp [h])) rfl
    have g : ∀ {v : List Nat}, chgs one v = chgs two v → ∀ i : Nat, v[i]?.map (fun c => F (ahead v i) c (behind v i)) = v[i]?.map fun c => G (ahead v i) c (behind v i) := fun e i => by rw [← hF, ← hG, e]
    have e0 : F 35 a b = G 35 a b := Option.some.inj (g q1 0)
    have e1 : F a b c = G a b c := Option.some.inj (g q1 1)
    have e2 : F b c d = G b c d := Option.some.inj (g q2 1)
    have e3 : F c d 35 = G c d 35 := Option.some.inj (g q2 2)
    apply List.ext_getElem?
    intro i
    rw [hF, hG]
    match i with
    | 0 => exact congrArg some e0
    | 1 => exact congrArg some e1
    | 2 => exact congrArg some e2
    | 3 => exact congrArg some e3
    | i + 4 => rfl
theorem none_law {one two : List Ru} (h : firstD one two = none) {w : List Nat} (hw : AbcWord w) (hl : w.length ≤ 4) (h1 : one.length ≤ 2) (h2 : two.length ≤ 2) : chgs one w = chgs two w := by
  unfold firstD at h
  by_cases h0 : w.length = 0
  · have e : w = [] := List.length_eq_zero_iff.mp h0
    rw [e, chgs_nil, chgs_nil]
  · by_cases hn : w.length ≤ 2 * max one.length two.length + 1
    · exact leastD_none h (by omega) hn hw
    · by_cases hm : max one.length two.length = 0
      · have e1 : one = [] := List.length_eq_zero_iff.mp (by omega)
        have e2 : two = [] := List.length_eq_zero_iff.mp (by omega)
        rw [e1, e2]
      · refine four (by omega) (by omega) (fun v hv hv3 => leastD_none h (by omega) (by omega) hv) hw (by omega)
theorem some_law {one two : List Ru} {v : List Nat} (h : firstD one two = some v) {w : List Nat} (hw : AbcWord w) : chgs one v ≠ chgs two v ∧ (v.length ≤ w.length ∨ chgs one w = chgs two w) := by
  obtain ⟨_, h2, h3⟩ := leastD_some h
  refine ⟨h2, ?_⟩
  by_cases hl : v.length ≤ w.length
  · exact .inl hl
  · by_cases h0 : w.length = 0
    · have e : w = [] := List.length_eq_zero_iff.mp h0
      exact .inr (by rw [e, chgs_nil, chgs_nil])
    · exact .inr (h3 w hw (by omega) (by omega))
theorem firstD_word {one two : List Ru} {v : List Nat} (h : firstD one two = some v) : AbcWord v ∧ v.length ≤ 2 * max one.length two.length + 1 := by
  have := mem_allW.mp (leastD_some h).1
  exact ⟨this.2.2, this.2.1⟩
end HM
set_option Elab.async false
set_option linter.all false
set_option maxRecDepth 100000
set_option maxHeartbeats 1000000
namespace HK
open PySem PySem.Spec PyProof.Rows L2 Qy HM
theorem abc_let {c : Nat} (h : c ∈ abc) : Let c := by
  simp [abc] at h
  unfold Let
  omega
theorem abc_word {w : List Nat} (h : AbcWord w) : WordOk w := fun c hc => abc_let (h c hc)
theorem abc_side {s : Option (List Nat)} (h : AbcSide s) : SideOk s := by
  cases s with
  | none => exact True.intro
  | some s =>
    refine ⟨h.1, (show [35, 97, 98, 99].Pairwise (· < ·) by decide).sublist h.2, fun c hc => ?_⟩
    have := h.2.subset hc
    simp at this
    unfold Let
    omega
theorem abc_rule {u : Ru} (h : AbcRule u) : RuOk u := ⟨abc_let h.o, abc_let h.n, h.ne, abc_side h.l, abc_side h.r⟩
theorem toC_let {k c : Nat} (hk : k < 3) (h : c ∈ abc) : Let (toC k c) := by
  have : k = 0 ∨ k = 1 ∨ k = 2 := by omega
  simp [abc] at h
  unfold Let
  rcases this with rfl | rfl | rfl <;> rcases h with rfl | rfl | rfl <;> decide
theorem word_to {k : Nat} (hk : k < 3) {w : List Nat} (h : AbcWord w) : WordOk (w.map (toC k)) := fun c hc => by
  obtain ⟨d, hd, rfl⟩ := List.mem_map.mp hc
  exact toC_let hk (h d hd)
theorem side_to {k : Nat} (hk : k < 3) {s : Option (List Nat)} (h : AbcSide s) : SideOk (s.map (relS k)) := by
  cases s with
  | none => exact True.intro
  | some s =>
    have hin : ∀ c ∈ s, c ∈ [35, 97, 98, 99] := fun c hc => h.2.subset hc
    have nd : s.Nodup := (show [35, 97, 98, 99].Nodup by decide).sublist h.2
    have nd2 : (s.map (toC k)).Nodup := by
      show (s.map (toC k)).Pairwise (· ≠ ·)
      rw [List.pairwise_map]
      exact nd.imp_of_mem fun {a b} ha hb hne e => hne (toC_inj hk (hin a ha) (hin b hb) e)
    have p := List.mergeSort_perm (s.map (toC k)) (fun a b => decide (a ≤ b))
    refine ⟨?_, ?_, fun c hc => ?_⟩
    · intro e
      have hl := congrArg List.length e
      show False
      have : (relS k s).length = s.length := by unfold relS; rw [List.length_mergeSort, List.length_map]
      rw [this] at hl
      exact h.1 (List.length_eq_zero_iff.mp hl)
    · have h1 : (relS k s).Pairwise (fun a b => decide (a ≤ b) = true) := List.pairwise_mergeSort (le := fun a b => decide (a ≤ b)) (by intro a b c h1 h2; simp at h1 h2 ⊢; omega) (by intro a b; simp; omega) _
      have h2 : (relS k s).Nodup := p.nodup_iff.mpr nd2
      exact (h1.and h2).imp fun {a b} ⟨x, y⟩ => by
        have := of_decide_eq_true x
        omega
    · have := (mem_relS s c).mp hc
      obtain ⟨d, hd, rfl⟩ := List.mem_map.mp this
      rcases List.mem_cons.mp (hin d hd) with rfl | hd
      · exact .inl (toC35 k hk)
      · exact .inr (toC_let hk hd)
theorem relet_rule {k : Nat} (hk : k < 3) {u : Ru} (h : AbcRule u) : RuOk (relet k u) :=
  ⟨toC_let hk h.o, toC_let hk h.n, fun e => h.ne (toC_inj hk (abc_sub h.o) (abc_sub h.n) e), side_to hk h.l, side_to hk h.r⟩
theorem swp_rule {u : Ru} (h : AbcRule u) : RuOk (swp u) := ⟨abc_let h.o, abc_let h.n, h.ne, abc_side h.r, abc_side h.l⟩
theorem join_to (k : Nat) (w : List Nat) (h : w.length ≤ 1000) : gJoin (.str w_2) [.lst ([] ++ w.map fun c => PV.str [toC k c])] = some (.str (w.map (toC k))) := by
  have e : ([] ++ w.map fun c => PV.str [toC k c]) = (w.map (toC k)).map fun c => PV.str [c] := by rw [List.nil_append, List.map_map]; rfl
  rw [e]
  exact join_signs _ (by rw [List.length_map]; exact h)
theorem cut_take (xs : List Nat) (m : Nat) : cutL xs none (some (m : Int)) = xs.take m := by
  unfold cutL
  show (xs.drop 0).take (HT.sIx xs.length xs.length (some (m : Int)) - 0) = _
  rw [HT.sIx_nat, List.drop_zero, Nat.sub_zero]
  by_cases h : m ≤ xs.length
  · rw [Nat.min_eq_left h]
  · rw [Nat.min_eq_right (by omega), List.take_length, List.take_of_length_le (by omega)]
theorem nrm {P : Rs → Prop} (r' : Rs) {r : Rs} (h : P r') (e : r = r') : P r := by rw [e]; exact h
section
variable {one two : List Ru} {k : Nat} (h1 : ∀ u ∈ one, AbcRule u) (h2 : ∀ u ∈ two, AbcRule u) (l1 : one.length ≤ 2) (l2 : two.length ≤ 2) (hk : k < 3)
abbrev St0 (sc : PV) (one two : List Ru) (k : Nat) (ds : List Int) (t4 t8 t9 t12 t13 t14 : Sl) : Rs :=
  [.val sc, .own (.l (ds.map .int)), .val (toP k), .val (ruP (one.map (relet k))), t4, .un, .un, .un, t8, t9, .val (ruP one), .val (ruP two), t12, t13, t14, .un, .un, .un]
include h1 h2 l1 l2 hk
theorem body_law0 {sc : PV} {ds : List Int} {t4 t8 t9 t12 t13 t14 : Sl} (A : PEnds) (hA : ∀ ds' t8 t9 t12 t13 t14, A.nx (St0 sc one two k ds' t4 t8 t9 t12 t13 t14)) : l_law_0 A (St0 sc one two k ds t4 t8 t9 t12 t13 t14) := by
  have o1 : AllOk one := fun u hu => abc_rule (h1 u hu)
  have o2 : AllOk two := fun u hu => abc_rule (h2 u hu)
  refine ⟨⟨ds, rfl⟩, 7, rfl, by decide, fun p ds' ⟨w, hw, hl, e⟩ => ?_⟩
  subst e
  have hl : w.length ≤ 7 := hl
  have zw : w.length ≤ sizeLine := sizeBig (by omega)
  have hc := abc_chgs h1 hw
  have lc : (chgs one w).length = w.length := chgs_len one w
  have zc : (chgs one w).length ≤ sizeLine := sizeBig (by omega)
  -- told
  refine ⟨(one, w), rfl, ⟨o1, by show one.length ≤ 6; omega, abc_word hw, by show w.length ≤ 1000; omega⟩, ?_⟩
  -- both lists
  refine ⟨.lst (one.map Ru.pv ++ two.map Ru.pv), y_a3 _ _ (sizeBig (by rw [List.length_map, List.length_map]; omega)), (one ++ two, w), by show [PV.lst (one.map Ru.pv ++ two.map Ru.pv), PV.str w] = [PV.lst ((one ++ two).map Ru.pv), PV.str w]; rw [List.map_append],
    ⟨fun u hu => (List.mem_append.mp hu).elim (o1 u) (o2 u), by show (one ++ two).length ≤ 6; rw [List.length_append]; omega, abc_word hw, by show w.length ≤ 1000; omega⟩, ?_⟩
  refine ⟨(two, chgs one w), rfl, ⟨o2, by show two.length ≤ 6; omega, abc_word hc, by show (chgs one w).length ≤ 1000; omega⟩, _, y_e4 _ _, _, rfl, ?_⟩
  refine ite_f (by show (!decide (chgs (one ++ two) w = chgs two (chgs one w))) = false; rw [chgs_append, decide_eq_true rfl]; rfl) ?_
  refine ⟨_, y_len1 _ zc, _, y_len1 _ zw, _, y_e3 _ _, _, rfl, ?_⟩
  refine ite_f (by rw [lc, decide_eq_true rfl]; rfl) ?_
  refine ⟨sizeBig (by decide), ([], w), rfl, ⟨(fun u hu => by cases hu), (Nat.zero_le 6), abc_word hw, by show w.length ≤ 1000; omega⟩, _, y_e4 _ _, _, rfl, ?_⟩
  refine ite_f (by show (!decide (w = w)) = false; rw [decide_eq_true rfl]; rfl) ?_
  refine nrm (P := fun r => qNext _ r) (St0 sc one two k ds' t4 (.val (.str w)) (.val (.str (chgs one w))) t12 t13 t14) ?_ rfl
  have hl3 : (one.map (relet k)).length = one.length := List.length_map ..
  -- other letters
  refine ⟨rfl, w, rfl, ?_⟩
  rw [signs_map]
  refine lc_map (f := fun c => PV.str [toC k c]) w [] _ (sizeBig (by rw [List.length_nil]; omega)) rfl (fun c hc0 K hK => ⟨_, look_to k c hk (hw c hc0), hK⟩) ?_
  refine ⟨_, join_to k w (by omega), ?_⟩
  refine ⟨(one.map (relet k), w.map (toC k)), rfl, ⟨fun u hu => by obtain ⟨v, hv, rfl⟩ := List.mem_map.mp hu; exact relet_rule hk (h1 v hv), by show (one.map (relet k)).length ≤ 6; omega, word_to hk hw, by show (w.map (toC k)).length ≤ 1000; rw [List.length_map]; omega⟩, ?_⟩
  refine ⟨rfl, chgs one w, rfl, ?_⟩
  rw [signs_map]
  refine lc_map (f := fun c => PV.str [toC k c]) (chgs one w) [] _ (sizeBig (by rw [List.length_nil]; omega)) rfl (fun c hc0 K hK => ⟨_, look_to k c hk (hc c hc0), hK⟩) ?_
  refine ⟨_, join_to k (chgs one w) (by omega), _, y_e4 _ _, _, rfl, ?_⟩
  refine ite_f (by show (!decide (chgs (one.map (relet k)) (w.map (toC k)) = (chgs one w).map (toC k))) = false; rw [chgs_map hk h1 hw, decide_eq_true rfl]; rfl) ?_
  refine nrm (P := fun r => qNext _ r) (St0 sc one two k ds' t4 (.val (.str w)) (.val (.str (chgs one w))) t12 t13 t14) ?_ rfl
  -- turned round
  refine ⟨one.map Ru.pv, rfl, ?_⟩
  refine lc_map (f := fun u => (swp u).pv) one [] _ (sizeBig (by rw [List.length_nil]; omega)) rfl (fun u hu K hK => ⟨_, rfl, _, rfl, _, rfl, _, rfl, sizeBig (show 4 ≤ 1000000 by decide), hK⟩) ?_
  refine ⟨_, y_rev _ zw, (one.map swp, w.reverse), by show [PV.lst (one.map fun u => (swp u).pv), PV.str w.reverse] = [PV.lst ((one.map swp).map Ru.pv), PV.str w.reverse]; rw [List.map_map]; rfl,
    ⟨fun u hu => by obtain ⟨v, hv, rfl⟩ := List.mem_map.mp hu; exact swp_rule (h1 v hv), by show (one.map swp).length ≤ 6; rw [List.length_map]; omega, fun c hc0 => abc_word hw c (List.mem_reverse.mp hc0), by show w.reverse.length ≤ 1000; rw [List.length_reverse]; omega⟩, ?_⟩
  refine ⟨_, y_rev _ zc, _, y_e4 _ _, _, rfl, ?_⟩
  refine ite_f (by show (!decide (chgs (one.map swp) w.reverse = (chgs one w).reverse)) = false; rw [chgs_rev, decide_eq_true rfl]; rfl) ?_
  refine nrm (P := fun r => qNext _ r) (St0 sc one two k ds' t4 (.val (.str w)) (.val (.str (chgs one w))) (.val (.lst (one.map fun u => (swp u).pv))) t13 t14) ?_ rfl
  -- far letters
  have el : gLen [ruP one] = some (.int one.length) := by
    show some (PV.int (one.map Ru.pv).length) = _
    rw [List.length_map]
  have e5 : w_5.length ≤ 1000 := by rw [w_5_eq]; decide
  obtain ⟨f, hf⟩ : ∃ f, f = (List.replicate (one.length + 1) w_5).flatten := ⟨_, rfl⟩
  have hfl : f.length ≤ 3 := by
    rw [hf, rep_size, w_5_eq]
    show (one.length + 1) * 1 ≤ 3
    omega
  have hfa : AbcWord f := fun c hc0 => by
    rw [hf] at hc0
    obtain ⟨l, hl0, hcl⟩ := List.mem_flatten.mp hc0
    rw [(List.mem_replicate.mp hl0).2, w_5_eq] at hcl
    have : c = 97 := by simpa using hcl
    rw [this]
    decide
  have hmul : gMulA (.str w_5) (.int ((one.length : Int) + 1)) = some (.str f) := by
    rw [hf]
    exact y_mulS w_5 (one.length + 1) (by omega) e5
  refine ⟨_, el, _, y_a1 _ _, _, hmul, ?_⟩
  refine nrm (P := fun r => qSeq _ _ _ r) (St0 sc one two k ds' t4 (.val (.str w)) (.val (.str (chgs one w))) (.val (.lst (one.map fun u => (swp u).pv))) (.val (.str f)) t14) ?_ rfl
  have hwf : WordOk (w ++ f) := fun c hc0 => (List.mem_append.mp hc0).elim (fun q => abc_let (hw c q)) fun q => abc_let (hfa c q)
  have lwf : (w ++ f).length ≤ 10 := by rw [List.length_append]; omega
  have hwfw : WordOk (w ++ f ++ w) := fun c hc0 => (List.mem_append.mp hc0).elim (hwf c) fun q => abc_let (hw c q)
  have lwfw : (w ++ f ++ w).length ≤ 17 := by rw [List.length_append]; omega
  refine ⟨_, y_a2 w f (sizeBig (by omega)), _, y_a2 (w ++ f) w (sizeBig (by omega)), (one, w ++ f ++ w), rfl, ⟨o1, by show one.length ≤ 6; omega, hwfw, by show (w ++ f ++ w).length ≤ 1000; omega⟩, ?_⟩
  have em : (if (w.length : Int) - (one.length : Int) > 0 then (w.length : Int) - (one.length : Int) else 0) = ((w.length - one.length : Nat) : Int) := by
    split <;> omega
  have hmax : gMax2 [.int 0, .int ((w.length : Int) - (one.length : Int))] = some (.int ((w.length - one.length : Nat) : Int)) := by
    rw [y_max, em]
  refine ⟨_, y_len1 _ zw, _, el, _, y_sub _ _, _, hmax, _, rfl, _, y_sl1 _ _ _ (sizeBig (by show (chgs one (w ++ f ++ w)).length ≤ 1000000; rw [chgs_len]; omega)), ?_⟩
  refine ⟨_, y_a2 w f (sizeBig (by omega)), (one, w ++ f), rfl, ⟨o1, by show one.length ≤ 6; omega, hwf, by show (w ++ f).length ≤ 1000; omega⟩, ?_⟩
  refine ⟨_, y_len1 _ zw, _, el, _, y_sub _ _, _, hmax, _, rfl, _, y_sl1 _ _ _ (sizeBig (by show (chgs one (w ++ f)).length ≤ 1000000; rw [chgs_len]; omega)), _, y_e4 _ _, _, rfl, ?_⟩
  refine ite_f (by
    show (!decide (cutL (chgs one (w ++ f ++ w)) none (some ((w.length - one.length : Nat) : Int)) = cutL (chgs one (w ++ f)) none (some ((w.length - one.length : Nat) : Int)))) = false
    rw [cut_take, cut_take, far_law, decide_eq_true rfl]
    rfl) ?_
  exact hA ds' _ _ _ _ _
end
end HK
set_option Elab.async false
set_option linter.all false
set_option maxRecDepth 100000
set_option maxHeartbeats 1000000
namespace HK
open PySem PySem.Spec PyProof.Rows L2 Qy HM
section
variable {one two : List Ru} {k : Nat}
theorem loop_law0 (h1 : ∀ u ∈ one, AbcRule u) (h2 : ∀ u ∈ two, AbcRule u) (l1 : one.length ≤ 2) (l2 : two.length ≤ 2) (hk : k < 3) {sc : PV} (A : PEnds) : ∀ (l : List PV) (ds : List Int) (t4 t8 t9 t12 t13 t14 : Sl),
    (∀ ds' t4 t8 t9 t12 t13 t14, A.nx (St0 sc one two k ds' t4 t8 t9 t12 t13 t14)) → wpFor (qgName 4) l_law_0 A l (St0 sc one two k ds t4 t8 t9 t12 t13 t14)
  | [], ds, t4, t8, t9, t12, t13, t14, hA => hA ds t4 t8 t9 t12 t13 t14
  | p :: l, ds, t4, t8, t9, t12, t13, t14, hA =>
    body_law0 h1 h2 l1 l2 hk (t4 := .val p) { nx := wpFor (qgName 4) l_law_0 A l, ct := wpFor (qgName 4) l_law_0 A l, bk := A.nx, rt := A.rt, ro := A.ro } fun ds' t8 t9 t12 t13 t14 => loop_law0 h1 h2 l1 l2 hk A l ds' _ t8 t9 t12 t13 t14 hA
abbrev St1 (sc : PV) (one two : List Ru) (k : Nat) (ds : List Int) (t4 t5 t6 t7 t8 t9 t12 t13 t14 : Sl) : Rs :=
  [.val sc, .own (.l (ds.map .int)), .val (toP k), .val (ruP (one.map (relet k))), t4, t5, t6, t7, t8, t9, .val (ruP one), .val (ruP two), t12, t13, t14, .un, .un, .un]
theorem lc_add {ws : List (List Nat)} {c : List Nat} {d : Nat} (hc : c = [d]) (hw : ∀ w ∈ ws, w.length ≤ 5) (hl : ws.length ≤ 1000) {r : Rs} {k : List PV → Rs → Prop} (hr : r[8]? = some .un) (h9 : ∀ p, (r.set 8 (.val p))[8]? = some (.val p)) (hK : k ((ws.map (· ++ [d])).map PV.str) r) :
    wpLc [8] (qgName 8) qYes (qBin gAdd (qVar 8) (qC (.str c))) k (ws.map PV.str) [] r := by
  subst hc
  refine lc_map (f := fun w => PV.str (w ++ [d])) ws [] r (sizeBig (by rw [List.length_nil]; omega)) hr (fun w hw0 K hk => ?_) ?_
  · simp only [z_qBin, z_var0, z_qC, h9]
    exact ⟨_, y_a2 w [d] (sizeBig (by have := hw w hw0; rw [List.length_singleton]; omega)), hk⟩
  · rw [List.nil_append]
    rw [List.map_map] at hK
    exact hK
theorem body_law1 {sc : PV} {ds : List Int} {t4 t5 t7 t8 t9 t12 t13 t14 : Sl} {ws : List (List Nat)} (hw : ∀ w ∈ ws, w.length ≤ 5) (hl : ws.length ≤ 100) (A : PEnds)
    (hA : ∀ t8, A.nx (St1 sc one two k ds t4 t5 (.val (.lst ((ws.map (· ++ [97]) ++ ws.map (· ++ [98]) ++ ws.map (· ++ [99])).map PV.str))) t7 t8 t9 t12 t13 t14)) :
    l_law_1 A (St1 sc one two k ds t4 t5 (.val (.lst (ws.map PV.str))) t7 t8 t9 t12 t13 t14) := by
  refine ⟨ws.map PV.str, rfl, lc_add w_5_eq hw (by omega) rfl (fun p => rfl) ?_⟩
  refine ⟨ws.map PV.str, rfl, lc_add w_4_eq hw (by omega) rfl (fun p => rfl) ?_⟩
  refine ⟨_, y_a3 _ _ (sizeBig (by simp only [List.length_map]; omega)), ?_⟩
  refine ⟨ws.map PV.str, rfl, lc_add w_3_eq hw (by omega) rfl (fun p => rfl) ?_⟩
  refine ⟨_, y_a3 _ _ (sizeBig (by simp only [List.length_append, List.length_map]; omega)), ?_⟩
  refine nrm (P := fun r => A.nx r) (St1 sc one two k ds t4 t5 (.val (.lst ((ws.map (· ++ [97])).map PV.str ++ (ws.map (· ++ [98])).map PV.str ++ (ws.map (· ++ [99])).map PV.str))) t7 (keepV (some (keepV (some (keepV (some t8)))))) t9 t12 t13 t14) ?_ rfl
  have q := hA (keepV (some (keepV (some (keepV (some t8))))))
  rw [List.map_append, List.map_append] at q
  exact q
theorem wordsP_len : ∀ n, (wordsP n).length = 3 ^ n
  | 0 => rfl
  | n + 1 => by
    show ((wordsP n).map (· ++ [97]) ++ (wordsP n).map (· ++ [98]) ++ (wordsP n).map (· ++ [99])).length = _
    rw [List.length_append, List.length_append, List.length_map, List.length_map, List.length_map, wordsP_len n, Nat.pow_succ]
    omega
theorem wordsP_mem {n : Nat} {w : List Nat} (h : w ∈ wordsP n) : w.length = n ∧ AbcWord w := mem_wO.mp (mem_wP.mp h)
theorem loop_law1 {sc : PV} {ds : List Int} {t5 t7 t9 t12 t13 t14 : Sl} (A : PEnds) : ∀ (l : List PV) (j : Nat) (t4 t8 : Sl), j + l.length ≤ 3 →
    (∀ t4 t8, A.nx (St1 sc one two k ds t4 t5 (.val (.lst ((wordsP (j + l.length)).map PV.str))) t7 t8 t9 t12 t13 t14)) →
    wpFor (qgName 4) l_law_1 A l (St1 sc one two k ds t4 t5 (.val (.lst ((wordsP j).map PV.str))) t7 t8 t9 t12 t13 t14)
  | [], j, t4, t8, _, hA => hA t4 t8
  | p :: l, j, t4, t8, hl, hA => by
    rw [List.length_cons] at hl hA
    have hp : 3 ^ j ≤ 3 ^ 3 := Nat.pow_le_pow_right (by omega) (by omega)
    have e3 : (3 : Nat) ^ 3 = 27 := rfl
    refine body_law1 (t4 := .val p) (fun w hw => by have := (wordsP_mem hw).1; omega) (by rw [wordsP_len]; omega) { nx := wpFor (qgName 4) l_law_1 A l, ct := wpFor (qgName 4) l_law_1 A l, bk := A.nx, rt := A.rt, ro := A.ro } fun t8 => ?_
    exact loop_law1 A l (j + 1) (.val p) t8 (by omega) (by rw [show j + 1 + l.length = j + (l.length + 1) by omega]; exact hA)
theorem mother_len (us : List Ru) (w : List Nat) : (motherW us w).length ≤ 3 ^ w.length := by
  rw [← wordsO_length w.length]
  exact List.length_filter_le _ _
theorem loop_law2 (h1 : ∀ u ∈ one, AbcRule u) (l1 : one.length ≤ 2) {sc : PV} {ds : List Int} {t4 t5 t6 t9 t12 t13 t14 : Sl} (A : PEnds) : ∀ (ws fs : List (List Nat)) (t8 : Sl), (∀ w ∈ ws, w.length ≤ 3 ∧ AbcWord w) → fs.length + 27 * ws.length ≤ 10000 →
    (∀ t8, A.nx (St1 sc one two k ds t4 t5 t6 (.val (.lst ((fs ++ ws.flatMap (motherW one)).map PV.str))) t8 t9 t12 t13 t14)) →
    wpFor (qgName 8) l_law_2 A (ws.map PV.str) (St1 sc one two k ds t4 t5 t6 (.val (.lst (fs.map PV.str))) t8 t9 t12 t13 t14)
  | [], fs, t8, _, _, hA => by
    have q := hA t8
    rw [List.flatMap_nil, List.append_nil] at q
    exact q
  | w :: ws, fs, t8, hw, hl, hA => by
    rw [List.length_cons] at hl
    obtain ⟨hw3, hwa⟩ := hw w List.mem_cons_self
    have hm := mother_len one w
    have hp : 3 ^ w.length ≤ 3 ^ 3 := Nat.pow_le_pow_right (by omega) hw3
    have e3 : (3 : Nat) ^ 3 = 27 := rfl
    refine ⟨(one, w), by rw [w_7_eq]; rfl, ⟨fun u hu => abc_rule (h1 u hu), by show one.length ≤ 6; omega, abc_word hwa, by show w.length ≤ 5; omega⟩, ?_⟩
    refine ⟨_, y_a3 (fs.map PV.str) ((motherW one w).map PV.str) (sizeBig (by rw [List.length_map, List.length_map]; omega)), ?_⟩
    have q := loop_law2 h1 l1 (sc := sc) (ds := ds) (t4 := t4) (t5 := t5) (t6 := t6) (t9 := t9) (t12 := t12) (t13 := t13) (t14 := t14) A ws (fs ++ motherW one w) (.val (.str w)) (fun v hv => hw v (List.mem_cons_of_mem _ hv)) (by rw [List.length_append]; omega) fun t8 => by
      have q := hA t8
      rw [List.flatMap_cons, ← List.append_assoc] at q
      exact q
    rw [List.map_append] at q
    exact q
theorem lc_rules {s0 s2 s3 : Sl} {rest : List Sl} {k : List PV → Rs → Prop} : ∀ (l : List PV) (acc : List Ru) (ns : List Int), acc.length + l.length ≤ 1000 → (∀ u ∈ acc, AbcRule u) →
    (∀ (us : List Ru) (ns' : List Int), (∀ u ∈ us, AbcRule u) → us.length = acc.length + l.length → k (us.map Ru.pv) (s0 :: .own (.l (ns'.map .int)) :: s2 :: s3 :: .un :: rest)) →
    wpLc [4] (qgName 4) qYes (qDk 1 m__law_rule qaNil) k l (acc.map Ru.pv) (s0 :: .own (.l (ns.map .int)) :: s2 :: s3 :: .un :: rest)
  | [], acc, ns, _, ha, hK => hK acc ns ha rfl
  | p :: l, acc, ns, hl, ha, hK => by
    rw [List.length_cons] at hl hK
    refine ⟨⟨ns, rfl⟩, (), rfl, True.intro, fun q ns' ⟨u, hu, e⟩ => ?_⟩
    subst e
    refine ⟨by rw [List.length_map]; exact Nat.lt_of_lt_of_le (by omega) (sizeBig (Nat.le_refl 1000000)), ?_⟩
    have q := lc_rules (s0 := s0) (s2 := s2) (s3 := s3) (rest := rest) (k := k) l (acc ++ [u]) ns' (by rw [List.length_append, List.length_singleton]; omega) (fun v hv => (List.mem_append.mp hv).elim (ha v) fun hv => by
      have : v = u := by simpa using hv
      rw [this]
      exact hu) fun us ns2 h1 h2 => hK us ns2 h1 (by rw [h2, List.length_append, List.length_singleton]; omega)
    rw [List.map_append] at q
    exact q
theorem gNe_wordO (x : Option (List Nat)) : gNe (wordO x) (wordO x) = some (.bl false) := by
  cases x with
  | none => rfl
  | some s =>
    show some (PV.bl (!decide (s = s))) = _
    rw [decide_eq_true rfl]
    rfl
theorem in_false {α : Type} (xs : List α) : gIn (.bl true) (.lst ([] ++ xs.map fun _ => PV.bl false)) = some (.bl false) := by
  have h1 : ∀ xs : List α, (xs.map fun _ => PV.bl false).all flatP = true := fun xs => by
    rw [List.all_map]
    simp [flatP]
  have h2 : inF (.bl true) (xs.map fun _ => PV.bl false) = false := by
    unfold inF
    rw [List.any_map]
    simp [eqF]
  rw [List.nil_append]
  show (if (flatP (.bl true) && (xs.map fun _ => PV.bl false).all flatP) = true then some (inF (.bl true) (xs.map fun _ => PV.bl false)) else none).map PV.bl = _
  rw [h1, h2]
  rfl
theorem notin_false {w : List Nat} {ws : List (List Nat)} (h : w ∈ ws) : gNotIn (.str w) (.lst (ws.map PV.str)) = some (.bl false) := by
  have h1 : (ws.map PV.str).all flatP = true := by
    rw [List.all_map]
    simp [flatP]
  have h2 : inF (.str w) (ws.map PV.str) = true := by
    unfold inF
    rw [List.any_map, List.any_eq_true]
    exact ⟨w, h, by simp [eqF]⟩
  show (if (flatP (.str w) && (ws.map PV.str).all flatP) = true then some (inF (.str w) (ws.map PV.str)) else none).map (fun b => PV.bl (!b)) = _
  rw [h1, h2]
  rfl
end
end HK
set_option Elab.async false
set_option linter.all false
set_option maxRecDepth 100000
set_option maxHeartbeats 2000000
namespace HK
open PySem PySem.Spec PyProof.Rows L2 Qy HM
theorem nset {i : Nat} {p : PV} {r : Rs} {K : Rs → Prop} (r' : Rs) (h : K r') (e : r.set i (.val p) = r') : qgName i p r K := by
  show K _
  rw [e]
  exact h
theorem q_dict (a b c x y z : List Nat) (k : Nat) (e1 : a = [97]) (e2 : b = [98]) (e3 : c = [99]) (ex : (toL k).map (fun c => PV.str [c]) = [.str x, .str y, .str z]) (r : Rs) (K : PV → Rs → Prop) (h : K (toP k) r) :
    qDisp ((qC (.str a), qC (.str x)) :: ((qC (.str b), qC (.str y)) :: ((qC (.str c), qC (.str z)) :: []))) r K := by
  subst e1 e2 e3
  refine ⟨_, rfl, by decide, (show 3 ≤ 15 by decide), ?_⟩
  show K (.dct _ [.str x, .str y, .str z]) r
  rw [← ex]
  exact h
theorem p_law (as : List PV) (R : PV → Prop) (h : m_law as R) : q_law (EQ R) (st0 as 17) := by
  obtain ⟨ns, rfl, hn, hR⟩ := h
  have hR : R (.bl true) := hR
  unfold q_law
  refine ⟨ns, hn, rfl, fun ds => ?_⟩
  -- the rules
  refine ⟨⟨ds, rfl⟩, 3, rfl, by decide, fun p d1 ⟨i1, hi1, e⟩ => ?_⟩
  subst e
  refine ⟨(i1 : Int), rfl, by omega, by omega, ?_⟩
  have nl : ∀ i : Nat, (nums 0 ((i : Int)).toNat).length = i := fun i => by simp [nums]
  refine lc_rules (s0 := .val (.seq (ns.map .int))) (s2 := .un) (s3 := .un) (rest := List.replicate 13 .un) (nums 0 ((i1 : Int)).toNat) [] d1 (by rw [nl]; show 0 + i1 ≤ 1000; omega) (fun u hu => by cases hu) fun one d2 h1 l1 => ?_
  rw [nl] at l1
  have l1 : one.length ≤ 2 := by rw [l1]; show 0 + i1 ≤ 2; omega
  refine ⟨⟨d2, rfl⟩, 3, rfl, by decide, fun p d3 ⟨i2, hi2, e⟩ => ?_⟩
  subst e
  refine ⟨(i2 : Int), rfl, by omega, by omega, ?_⟩
  refine lc_rules (s0 := .val (.seq (ns.map .int))) (s2 := .un) (s3 := .un) (rest := List.replicate 13 .un) (nums 0 ((i2 : Int)).toNat) [] d3 (by rw [nl]; show 0 + i2 ≤ 1000; omega) (fun u hu => by cases hu) fun two d4 h2 l2 => ?_
  rw [nl] at l2
  have l2 : two.length ≤ 2 := by rw [l2]; show 0 + i2 ≤ 2; omega
  refine ⟨sizeBig (show 2 ≤ 1000000 by decide), [.lst (one.map Ru.pv), .lst (two.map Ru.pv)], rfl, rfl, _, _, rfl, _, _, rfl, rfl, ?_⟩
  refine nrm (P := fun r => PEnds.nx _ r) [.val (.seq (ns.map .int)), .own (.l (d4.map .int)), .un, .un, .un, .un, .un, .un, .un, .un, .val (ruP one), .val (ruP two), .un, .un, .un, .un, .un, .un] ?_ rfl
  -- the letters
  simp only [z_qSeq, z_qAsg, z_qBin, z_qLst, z_qaCons, z_qaNil]
  refine q_dict w_5 w_4 w_3 w_4 w_3 w_5 0 w_5_eq w_4_eq w_3_eq (by rw [w_4_eq, w_3_eq, w_5_eq]; rfl) _ _ ?_
  refine q_dict w_5 w_4 w_3 w_9 w_5 w_8 1 w_5_eq w_4_eq w_3_eq (by rw [w_9_eq, w_5_eq, w_8_eq]; rfl) _ _ ?_
  refine q_dict w_5 w_4 w_3 w_3 w_4 w_5 2 w_5_eq w_4_eq w_3_eq (by rw [w_3_eq, w_4_eq, w_5_eq]; rfl) _ _ ?_
  refine ⟨sizeBig (show 3 ≤ 1000000 by decide), ⟨d4, rfl⟩, 3, rfl, by decide, fun p d5 ⟨k, hk, e⟩ => ?_⟩
  subst e
  have ek : gIx (.lst [toP 0, toP 1, toP 2]) (.int k) = some (toP k) := by
    have : k = 0 ∨ k = 1 ∨ k = 2 := by omega
    rcases this with rfl | rfl | rfl <;> rfl
  refine ⟨_, ek, ?_⟩
  refine nset [.val (.seq (ns.map .int)), .own (.l (d5.map .int)), .val (toP k), .un, .un, .un, .un, .un, .un, .un, .val (ruP one), .val (ruP two), .un, .un, .un, .un, .un, .un] ?_ rfl
  refine ⟨one.map Ru.pv, rfl, ?_⟩
  refine lc_map (f := fun u => (relet k u).pv) one [] _ (sizeBig (by rw [List.length_nil]; omega)) rfl (fun u hu K hK => ⟨(u, k), rfl, ⟨h1 u hu, hk⟩, hK⟩) ?_
  refine nset (St0 (.seq (ns.map .int)) one two k d5 .un .un .un .un .un .un) ?_ (by
    have e : ruP (one.map (relet k)) = .lst ([] ++ one.map fun u => (relet k u).pv) := by
      show PV.lst ((one.map (relet k)).map Ru.pv) = _
      rw [List.map_map]
      rfl
    show _ = ([_, _, _, Sl.val (ruP (one.map (relet k))), _, _, _, _, _, _, _, _, _, _, _, _, _, _] : Rs)
    rw [e]
    rfl)
  refine ⟨4, rfl, by decide, by decide, ?_⟩
  refine loop_law0 h1 h2 l1 l2 hk _ _ d5 _ _ _ _ _ _ fun d6 t4 t8 t9 t12 t13 t14 => ?_
  -- mothers of all words
  refine ⟨⟨d6, rfl⟩, 4, rfl, by decide, fun p d7 ⟨m, hm, e⟩ => ?_⟩
  subst e
  have hm : m < 4 := hm
  refine nset (St1 (.seq (ns.map .int)) one two k d7 t4 (.val (.int m)) .un .un t8 t9 t12 t13 t14) ?_ rfl
  refine ⟨sizeBig (show 1 ≤ 1000000 by decide), ?_⟩
  refine nset (St1 (.seq (ns.map .int)) one two k d7 t4 (.val (.int m)) (.val (.lst ((wordsP 0).map PV.str))) .un t8 t9 t12 t13 t14) ?_ (by rw [w_2_eq]; rfl)
  refine ⟨(m : Int), rfl, by omega, by omega, ?_⟩
  refine loop_law1 _ (nums 0 ((m : Int)).toNat) 0 _ _ (by rw [nl]; omega) fun t4 t8 => ?_
  rw [nl, Nat.zero_add]
  refine ⟨sizeBig (Nat.zero_le _), ?_⟩
  refine nset (St1 (.seq (ns.map .int)) one two k d7 t4 (.val (.int m)) (.val (.lst ((wordsP m).map PV.str))) (.val (.lst (([] : List (List Nat)).map PV.str))) t8 t9 t12 t13 t14) ?_ rfl
  have hp : 3 ^ m ≤ 3 ^ 3 := Nat.pow_le_pow_right (by omega) (by omega)
  have e3 : (3 : Nat) ^ 3 = 27 := rfl
  refine ⟨_, rfl, loop_law2 h1 l1 _ (wordsP m) [] _ (fun w hw => ⟨by have := (wordsP_mem hw).1; omega, (wordsP_mem hw).2⟩) (by rw [wordsP_len, List.length_nil]; omega) fun t8 => ?_⟩
  rw [List.nil_append]
  have hperm := mothers_perm h1 m
  have cw : ∀ w ∈ sortW (wordsP m), CpsOk w := fun w hw => cps_abc (wordsP_mem ((sortW_perm _).mem_iff.mp hw)).2
  have cf : ∀ w ∈ sortW ((wordsP m).flatMap (motherW one)), CpsOk w := fun w hw => by
    rw [sortW_of_perm hperm] at hw
    exact cw w hw
  refine ⟨_, y_sorted _, _, y_sorted _, _, gNe_strs cf cw, _, rfl, ?_⟩
  refine ite_f (by rw [sortW_of_perm hperm, decide_eq_true rfl]; rfl) ?_
  -- a word
  refine ⟨⟨d7, rfl⟩, 4, rfl, by decide, fun p d8 ⟨w, hw, hl, e⟩ => ?_⟩
  subst e
  have hl : w.length ≤ 4 := hl
  refine nset (St1 (.seq (ns.map .int)) one two k d8 t4 (.val (.int m)) (.val (.lst ((wordsP m).map PV.str))) (.val (.lst (((wordsP m).flatMap (motherW one)).map PV.str))) (.val (.str w)) t9 t12 t13 t14) ?_ rfl
  have o1 : AllOk one := fun u hu => abc_rule (h1 u hu)
  have o2 : AllOk two := fun u hu => abc_rule (h2 u hu)
  have hc := abc_chgs h1 hw
  have lc : (chgs one w).length = w.length := chgs_len one w
  refine ⟨(one, w), by rw [w_7_eq]; rfl, ⟨o1, by show one.length ≤ 6; omega, abc_word hw, by show w.length ≤ 5; omega⟩, ?_⟩
  refine ⟨_, rfl, ?_⟩
  have hml := mother_len one w
  have hp4 : 3 ^ w.length ≤ 3 ^ 4 := Nat.pow_le_pow_right (by omega) hl
  have e4 : (3 : Nat) ^ 4 = 81 := rfl
  refine lc_map (f := fun _ => PV.bl false) (motherW one w) [] _ (sizeBig (by rw [List.length_nil]; omega)) rfl (fun v hv K hK => ?_) ?_
  · obtain ⟨⟨v1, v2⟩, v3⟩ := mem_mother.mp hv
    refine ⟨(one, v), rfl, ⟨o1, by show one.length ≤ 6; omega, abc_word v2, by show v.length ≤ 1000; omega⟩, _, y_e4 _ _, ?_⟩
    have e : (!decide (chgs one v = w)) = false := by rw [v3, decide_eq_true rfl]; rfl
    show K (.bl (!decide (chgs one v = w))) _
    rw [e]
    exact hK
  refine ⟨_, in_false _, _, rfl, ?_⟩
  refine ite_f rfl ?_
  refine ⟨(one, w), rfl, ⟨o1, by show one.length ≤ 6; omega, abc_word hw, by show w.length ≤ 1000; omega⟩, ?_⟩
  refine ⟨(one, chgs one w), by rw [w_7_eq]; rfl, ⟨o1, by show one.length ≤ 6; omega, abc_word hc, by show (chgs one w).length ≤ 5; omega⟩, ?_⟩
  refine ⟨_, notin_false (mem_mother.mpr ⟨⟨lc.symm, hw⟩, rfl⟩), _, rfl, ?_⟩
  refine ite_f rfl ?_
  -- the least difference
  refine nrm (P := fun r => qNext _ r) (St1 (.seq (ns.map .int)) one two k d8 t4 (.val (.int m)) (.val (.lst ((wordsP m).map PV.str))) (.val (.lst (((wordsP m).flatMap (motherW one)).map PV.str))) (.val (.str w)) t9 t12 t13 t14) ?_ rfl
  refine ⟨(one, two), by rw [w_7_eq]; rfl, ⟨o1, o2, l1, l2⟩, ?_⟩
  refine nset (St1 (.seq (ns.map .int)) one two k d8 t4 (.val (.int m)) (.val (.lst ((wordsP m).map PV.str))) (.val (.lst (((wordsP m).flatMap (motherW one)).map PV.str))) (.val (.str w)) (.val (wordO (firstD one two))) t12 t13 t14) ?_ rfl
  refine ⟨(two, one), by rw [w_7_eq]; rfl, ⟨o2, o1, l2, l1⟩, ?_⟩
  refine ⟨_, by show gNe (wordO (firstD two one)) (wordO (firstD one two)) = _; rw [firstD_comm]; exact gNe_wordO _, _, rfl, ?_⟩
  refine ite_f rfl ?_
  refine ⟨sizeBig (Nat.zero_le _), _, y_a3 (one.map Ru.pv) [] (sizeBig (by rw [List.length_map, List.length_nil]; omega)), (one, one), by
    show [ruP one, PV.lst (one.map Ru.pv ++ []), PV.str w_7] = [ruP one, ruP one, PV.str abc]
    rw [List.append_nil, w_7_eq]
    rfl, ⟨o1, o1, l1, l1⟩, ?_⟩
  refine ⟨_, by show gNotN (wordO (firstD one one)) .non = some (.bl false); rw [firstD_self]; rfl, _, rfl, ?_⟩
  refine ite_f rfl ?_
  refine nrm (P := fun r => qNext _ r) (St1 (.seq (ns.map .int)) one two k d8 t4 (.val (.int m)) (.val (.lst ((wordsP m).map PV.str))) (.val (.lst (((wordsP m).flatMap (motherW one)).map PV.str))) (.val (.str w)) (.val (wordO (firstD one two))) t12 t13 t14) ?_ rfl
  have zw : w.length ≤ sizeLine := sizeBig (by omega)
  cases hf : firstD one two with
  | none =>
    refine ⟨_, rfl, _, rfl, ?_⟩
    refine ite_t rfl ?_
    refine ⟨(one, w), rfl, ⟨o1, by show one.length ≤ 6; omega, abc_word hw, by show w.length ≤ 1000; omega⟩, ?_⟩
    refine ⟨(two, w), rfl, ⟨o2, by show two.length ≤ 6; omega, abc_word hw, by show w.length ≤ 1000; omega⟩, _, y_e2 _ _, ?_⟩
    have e : decide (chgs one w = chgs two w) = true := decide_eq_true (none_law hf hw hl l1 l2)
    show R (.bl (decide (chgs one w = chgs two w)))
    rw [e]
    exact hR
  | some v =>
    obtain ⟨va, vl⟩ := firstD_word hf
    obtain ⟨q1, q2⟩ := some_law hf hw
    have zv : v.length ≤ sizeLine := sizeBig (by omega)
    refine ⟨_, rfl, _, rfl, ?_⟩
    refine ite_f rfl ?_
    refine ⟨(one, v), rfl, ⟨o1, by show one.length ≤ 6; omega, abc_word va, by show v.length ≤ 1000; omega⟩, ?_⟩
    refine ⟨(two, v), rfl, ⟨o2, by show two.length ≤ 6; omega, abc_word va, by show v.length ≤ 1000; omega⟩, _, y_e4 _ _, _, rfl, ?_⟩
    refine ite_t (by show (!decide (chgs one v = chgs two v)) = true; rw [decide_eq_false q1]; rfl) ?_
    refine ⟨_, y_len1 _ zw, _, y_len1 _ zv, _, y_ge _ _, _, rfl, ?_⟩
    cases hb : decide ((v.length : Int) ≤ (w.length : Int)) with
    | true => exact ite_t rfl hR
    | false =>
      refine ite_f rfl ?_
      have hb := of_decide_eq_false hb
      have e : decide (chgs one w = chgs two w) = true := decide_eq_true (q2.resolve_left fun h => hb (by omega))
      refine ⟨(one, w), rfl, ⟨o1, by show one.length ≤ 6; omega, abc_word hw, by show w.length ≤ 1000; omega⟩, ?_⟩
      refine ⟨(two, w), rfl, ⟨o2, by show two.length ≤ 6; omega, abc_word hw, by show w.length ≤ 1000; omega⟩, _, y_e2 _ _, ?_⟩
      show R (.bl (decide (chgs one w = chgs two w)))
      rw [e]
      exact hR
end HK
set_option Elab.async false
set_option linter.all false
set_option maxRecDepth 100000
set_option maxHeartbeats 0
namespace HK
open PySem PySem.Spec PyProof.Rows L2 Qy
theorem ok_is_letter {P : Program} {w : World} {K : PySem.W.Frag} {mg : Str → Option Value} {base : Heap} {f : Addr} {fd : FuncData} (F : FunD K "is_letter" "is_letter" (defArgs s_is_letter) (defBody s_is_letter) (defScope s_is_letter) [] [] f fd) (gl : mg "is_letter" = some (.ref f)) (b_isinstance : mg "isinstance" = none) (b_len : mg "len" = none) (b_str : mg "str" = none) (c_LETTERS : ∃ t, mg "LETTERS" = some (.str "abcdefghijklmnopqrstuvwxyz" t)) :
    Has P w K mg base "is_letter" 1 ["sign"] (spQ K m_is_letter) :=
  ⟨f, fd, fnQ F sc_is_letter (fun as R h => by obtain ⟨a, e, _⟩ := h; rw [e]; rfl) (fun cdv A outer s H E hr => body_is_letter b_isinstance b_len b_str c_LETTERS cdv A outer s H E hr) p_is_letter, gl, F.kp, F.bindsN fun _ _ _ _ _ _ us hl => match us, hl with | [_], _ => rfl⟩
theorem ok_is_side {P : Program} {w : World} {K : PySem.W.Frag} {mg : Str → Option Value} {base : Heap} {f : Addr} {fd : FuncData} (F : FunD K "is_side" "is_side" (defArgs s_is_side) (defBody s_is_side) (defScope s_is_side) [] [] f fd) (gl : mg "is_side" = some (.ref f)) (h_is_letter : Has P w K mg base "is_letter" 1 ["sign"] (spQ K m_is_letter)) (b_all : mg "all" = none) (b_isinstance : mg "isinstance" = none) (b_list : mg "list" = none) (b_set : mg "set" = none) (b_sorted : mg "sorted" = none) (b_str : mg "str" = none) (c_EDGE : ∃ t, mg "EDGE" = some (.str "#" t)) :
    Has P w K mg base "is_side" 2 ["side"] (spQ K m_is_side) :=
  ⟨f, fd, fnQ F sc_is_side (fun as R h => by obtain ⟨a, e, _⟩ := h; rw [e]; rfl) (fun cdv A outer s H E hr => body_is_side h_is_letter b_all b_isinstance b_list b_set b_sorted b_str c_EDGE cdv A outer s H E hr) p_is_side, gl, F.kp, F.bindsN fun _ _ _ _ _ _ us hl => match us, hl with | [_], _ => rfl⟩
theorem ok_is_rule {P : Program} {w : World} {K : PySem.W.Frag} {mg : Str → Option Value} {base : Heap} {f : Addr} {fd : FuncData} (F : FunD K "is_rule" "is_rule" (defArgs s_is_rule) (defBody s_is_rule) (defScope s_is_rule) [] [] f fd) (gl : mg "is_rule" = some (.ref f)) (h_is_letter : Has P w K mg base "is_letter" 1 ["sign"] (spQ K m_is_letter)) (h_is_side : Has P w K mg base "is_side" 2 ["side"] (spQ K m_is_side)) (b_isinstance : mg "isinstance" = none) (b_len : mg "len" = none) (b_tuple : mg "tuple" = none) :
    Has P w K mg base "is_rule" 3 ["rule"] (spQ K m_is_rule) :=
  ⟨f, fd, fnQ F sc_is_rule (fun as R h => by obtain ⟨a, e, _⟩ := h; rw [e]; rfl) (fun cdv A outer s H E hr => body_is_rule h_is_letter h_is_side b_isinstance b_len b_tuple cdv A outer s H E hr) p_is_rule, gl, F.kp, F.bindsN fun _ _ _ _ _ _ us hl => match us, hl with | [_], _ => rfl⟩
theorem ok_check_rules {P : Program} {w : World} {K : PySem.W.Frag} {mg : Str → Option Value} {base : Heap} {f : Addr} {fd : FuncData} (F : FunD K "check_rules" "check_rules" (defArgs s_check_rules) (defBody s_check_rules) (defScope s_check_rules) [] [] f fd) (gl : mg "check_rules" = some (.ref f)) (h_is_rule : Has P w K mg base "is_rule" 3 ["rule"] (spQ K m_is_rule)) (b_all : mg "all" = none) (b_isinstance : mg "isinstance" = none) (b_len : mg "len" = none) (b_list : mg "list" = none) (b_tuple : mg "tuple" = none) (c_MOST_RULES : ∃ t, mg "MOST_RULES" = some (.int 6 t)) :
    Has P w K mg base "check_rules" 4 ["rules"] (spQ K m_check_rules) :=
  ⟨f, fd, fnQ F sc_check_rules (fun as R h => by obtain ⟨a, e, _⟩ := h; rw [e]; rfl) (fun cdv A outer s H E hr => body_check_rules h_is_rule b_all b_isinstance b_len b_list b_tuple c_MOST_RULES cdv A outer s H E hr) p_check_rules, gl, F.kp, F.bindsN fun _ _ _ _ _ _ us hl => match us, hl with | [_], _ => rfl⟩
theorem ok_is_sounds {P : Program} {w : World} {K : PySem.W.Frag} {mg : Str → Option Value} {base : Heap} {f : Addr} {fd : FuncData} (F : FunD K "is_sounds" "is_sounds" (defArgs s_is_sounds) (defBody s_is_sounds) (defScope s_is_sounds) [] [] f fd) (gl : mg "is_sounds" = some (.ref f)) (b_all : mg "all" = none) (b_isinstance : mg "isinstance" = none) (b_str : mg "str" = none) (c_LETTERS : ∃ t, mg "LETTERS" = some (.str "abcdefghijklmnopqrstuvwxyz" t)) :
    Has P w K mg base "is_sounds" 1 ["word"] (spQ K m_is_sounds) :=
  ⟨f, fd, fnQ F sc_is_sounds (fun as R h => by obtain ⟨a, e, _⟩ := h; rw [e]; rfl) (fun cdv A outer s H E hr => body_is_sounds b_all b_isinstance b_str c_LETTERS cdv A outer s H E hr) p_is_sounds, gl, F.kp, F.bindsN fun _ _ _ _ _ _ us hl => match us, hl with | [_], _ => rfl⟩
theorem ok_check_sounds {P : Program} {w : World} {K : PySem.W.Frag} {mg : Str → Option Value} {base : Heap} {f : Addr} {fd : FuncData} (F : FunD K "check_sounds" "check_sounds" (defArgs s_check_sounds) (defBody s_check_sounds) (defScope s_check_sounds) [] [] f fd) (gl : mg "check_sounds" = some (.ref f)) (h_is_sounds : Has P w K mg base "is_sounds" 1 ["word"] (spQ K m_is_sounds)) :
    Has P w K mg base "check_sounds" 2 ["word"] (spQ K m_check_sounds) :=
  ⟨f, fd, fnQ F sc_check_sounds (fun as R h => by obtain ⟨a, e, _⟩ := h; rw [e]; rfl) (fun cdv A outer s H E hr => body_check_sounds h_is_sounds cdv A outer s H E hr) p_check_sounds, gl, F.kp, F.bindsN fun _ _ _ _ _ _ us hl => match us, hl with | [_], _ => rfl⟩
theorem ok_check_letters {P : Program} {w : World} {K : PySem.W.Frag} {mg : Str → Option Value} {base : Heap} {f : Addr} {fd : FuncData} (F : FunD K "check_letters" "check_letters" (defArgs s_check_letters) (defBody s_check_letters) (defScope s_check_letters) [] [] f fd) (gl : mg "check_letters" = some (.ref f)) (h_is_sounds : Has P w K mg base "is_sounds" 1 ["word"] (spQ K m_is_sounds)) (b_list : mg "list" = none) (b_set : mg "set" = none) (b_sorted : mg "sorted" = none) :
    Has P w K mg base "check_letters" 2 ["letters"] (spQ K m_check_letters) :=
  ⟨f, fd, fnQ F sc_check_letters (fun as R h => by obtain ⟨a, e, _⟩ := h; rw [e]; rfl) (fun cdv A outer s H E hr => body_check_letters h_is_sounds b_list b_set b_sorted cdv A outer s H E hr) p_check_letters, gl, F.kp, F.bindsN fun _ _ _ _ _ _ us hl => match us, hl with | [_], _ => rfl⟩
theorem ok_changed {P : Program} {w : World} {K : PySem.W.Frag} {mg : Str → Option Value} {base : Heap} {f : Addr} {fd : FuncData} (F : FunD K "changed" "changed" (defArgs s_changed) (defBody s_changed) (defScope s_changed) [] [] f fd) (gl : mg "changed" = some (.ref f)) (b_enumerate : mg "enumerate" = none) (b_len : mg "len" = none) (c_EDGE : ∃ t, mg "EDGE" = some (.str "#" t)) :
    Has P w K mg base "changed" 1 ["rule", "word"] (spQ K m_changed) :=
  ⟨f, fd, fnQ F sc_changed (fun as R h => by obtain ⟨a, e, _⟩ := h; rw [e]; rfl) (fun cdv A outer s H E hr => body_changed b_enumerate b_len c_EDGE cdv A outer s H E hr) p_changed, gl, F.kp, F.bindsN fun _ _ _ _ _ _ us hl => match us, hl with | [_, _], _ => rfl⟩
theorem ok_behind_rules {P : Program} {w : World} {K : PySem.W.Frag} {mg : Str → Option Value} {base : Heap} {f : Addr} {fd : FuncData} (F : FunD K "behind_rules" "behind_rules" (defArgs s_behind_rules) (defBody s_behind_rules) (defScope s_behind_rules) [] [] f fd) (gl : mg "behind_rules" = some (.ref f)) (h_changed : Has P w K mg base "changed" 1 ["rule", "word"] (spQ K m_changed)) :
    Has P w K mg base "behind_rules" 2 ["rules", "word"] (spQ K m_behind_rules) :=
  ⟨f, fd, fnQ F sc_behind_rules (fun as R h => by obtain ⟨a, e, _⟩ := h; rw [e]; rfl) (fun cdv A outer s H E hr => body_behind_rules h_changed cdv A outer s H E hr) p_behind_rules, gl, F.kp, F.bindsN fun _ _ _ _ _ _ us hl => match us, hl with | [_, _], _ => rfl⟩
theorem ok_sounded {P : Program} {w : World} {K : PySem.W.Frag} {mg : Str → Option Value} {base : Heap} {f : Addr} {fd : FuncData} (F : FunD K "sounded" "sounded" (defArgs s_sounded) (defBody s_sounded) (defScope s_sounded) [] [] f fd) (gl : mg "sounded" = some (.ref f)) (h_behind_rules : Has P w K mg base "behind_rules" 2 ["rules", "word"] (spQ K m_behind_rules)) (h_check_rules : Has P w K mg base "check_rules" 4 ["rules"] (spQ K m_check_rules)) (h_check_sounds : Has P w K mg base "check_sounds" 2 ["word"] (spQ K m_check_sounds)) :
    Has P w K mg base "sounded" 5 ["rules", "word"] (spQ K m_sounded) :=
  ⟨f, fd, fnQ F sc_sounded (fun as R h => by obtain ⟨a, e, _⟩ := h; rw [e]; rfl) (fun cdv A outer s H E hr => body_sounded h_behind_rules h_check_rules h_check_sounds cdv A outer s H E hr) p_sounded, gl, F.kp, F.bindsN fun _ _ _ _ _ _ us hl => match us, hl with | [_, _], _ => rfl⟩
theorem ok_words_over {P : Program} {w : World} {K : PySem.W.Frag} {mg : Str → Option Value} {base : Heap} {f : Addr} {fd : FuncData} (F : FunD K "words_over" "words_over" (defArgs s_words_over) (defBody s_words_over) (defScope s_words_over) [] [] f fd) (gl : mg "words_over" = some (.ref f)) (b_range : mg "range" = none) :
    Has P w K mg base "words_over" 1 ["letters", "size"] (spQ K m_words_over) :=
  ⟨f, fd, fnQ F sc_words_over (fun as R h => by obtain ⟨a, e, _⟩ := h; rw [e]; rfl) (fun cdv A outer s H E hr => body_words_over b_range cdv A outer s H E hr) p_words_over, gl, F.kp, F.bindsN fun _ _ _ _ _ _ us hl => match us, hl with | [_, _], _ => rfl⟩
theorem ok_pow_of {P : Program} {w : World} {K : PySem.W.Frag} {mg : Str → Option Value} {base : Heap} {f : Addr} {fd : FuncData} (F : FunD K "pow_of" "pow_of" (defArgs s_pow_of) (defBody s_pow_of) (defScope s_pow_of) [] [] f fd) (gl : mg "pow_of" = some (.ref f)) (b_range : mg "range" = none) :
    Has P w K mg base "pow_of" 1 ["number", "times"] (spQ K m_pow_of) :=
  ⟨f, fd, fnQ F sc_pow_of (fun as R h => by obtain ⟨a, e, _⟩ := h; rw [e]; rfl) (fun cdv A outer s H E hr => body_pow_of b_range cdv A outer s H E hr) p_pow_of, gl, F.kp, F.bindsN fun _ _ _ _ _ _ us hl => match us, hl with | [_, _], _ => rfl⟩
theorem ok_check_many {P : Program} {w : World} {K : PySem.W.Frag} {mg : Str → Option Value} {base : Heap} {f : Addr} {fd : FuncData} (F : FunD K "check_many" "check_many" (defArgs s_check_many) (defBody s_check_many) (defScope s_check_many) [] [] f fd) (gl : mg "check_many" = some (.ref f)) (h_pow_of : Has P w K mg base "pow_of" 1 ["number", "times"] (spQ K m_pow_of)) (b_len : mg "len" = none) (b_range : mg "range" = none) (b_sum : mg "sum" = none) :
    Has P w K mg base "check_many" 2 ["letters", "least", "greatest", "most"] (spQ K m_check_many) :=
  ⟨f, fd, fnQ F sc_check_many (fun as R h => by obtain ⟨a, e, _⟩ := h; rw [e]; rfl) (fun cdv A outer s H E hr => body_check_many h_pow_of b_len b_range b_sum cdv A outer s H E hr) p_check_many, gl, F.kp, F.bindsN fun _ _ _ _ _ _ us hl => match us, hl with | [_, _, _, _], _ => rfl⟩
theorem ok_least_changed {P : Program} {w : World} {K : PySem.W.Frag} {mg : Str → Option Value} {base : Heap} {f : Addr} {fd : FuncData} (F : FunD K "least_changed" "least_changed" (defArgs s_least_changed) (defBody s_least_changed) (defScope s_least_changed) [] [] f fd) (gl : mg "least_changed" = some (.ref f)) (h_behind_rules : Has P w K mg base "behind_rules" 2 ["rules", "word"] (spQ K m_behind_rules)) (h_words_over : Has P w K mg base "words_over" 1 ["letters", "size"] (spQ K m_words_over)) (b_range : mg "range" = none) :
    Has P w K mg base "least_changed" 3 ["one", "other", "letters", "most"] (spQ K m_least_changed) :=
  ⟨f, fd, fnQ F sc_least_changed (fun as R h => by obtain ⟨a, e, _⟩ := h; rw [e]; rfl) (fun cdv A outer s H E hr => body_least_changed h_behind_rules h_words_over b_range cdv A outer s H E hr) p_least_changed, gl, F.kp, F.bindsN fun _ _ _ _ _ _ us hl => match us, hl with | [_, _, _, _], _ => rfl⟩
theorem ok_first_difference {P : Program} {w : World} {K : PySem.W.Frag} {mg : Str → Option Value} {base : Heap} {f : Addr} {fd : FuncData} (F : FunD K "first_difference" "first_difference" (defArgs s_first_difference) (defBody s_first_difference) (defScope s_first_difference) [] [] f fd) (gl : mg "first_difference" = some (.ref f)) (h_check_letters : Has P w K mg base "check_letters" 2 ["letters"] (spQ K m_check_letters)) (h_check_many : Has P w K mg base "check_many" 2 ["letters", "least", "greatest", "most"] (spQ K m_check_many)) (h_check_rules : Has P w K mg base "check_rules" 4 ["rules"] (spQ K m_check_rules)) (h_least_changed : Has P w K mg base "least_changed" 3 ["one", "other", "letters", "most"] (spQ K m_least_changed)) (b_len : mg "len" = none) (b_max : mg "max" = none) (c_MOST_WORDS : ∃ t, mg "MOST_WORDS" = some (.int 40000 t)) :
    Has P w K mg base "first_difference" 5 ["one", "other", "letters"] (spQ K m_first_difference) :=
  ⟨f, fd, fnQ F sc_first_difference (fun as R h => by obtain ⟨a, e, _⟩ := h; rw [e]; rfl) (fun cdv A outer s H E hr => body_first_difference h_check_letters h_check_many h_check_rules h_least_changed b_len b_max c_MOST_WORDS cdv A outer s H E hr) p_first_difference, gl, F.kp, F.bindsN fun _ _ _ _ _ _ us hl => match us, hl with | [_, _, _], _ => rfl⟩
theorem ok_mothers {P : Program} {w : World} {K : PySem.W.Frag} {mg : Str → Option Value} {base : Heap} {f : Addr} {fd : FuncData} (F : FunD K "mothers" "mothers" (defArgs s_mothers) (defBody s_mothers) (defScope s_mothers) [] [] f fd) (gl : mg "mothers" = some (.ref f)) (h_behind_rules : Has P w K mg base "behind_rules" 2 ["rules", "word"] (spQ K m_behind_rules)) (h_check_letters : Has P w K mg base "check_letters" 2 ["letters"] (spQ K m_check_letters)) (h_check_many : Has P w K mg base "check_many" 2 ["letters", "least", "greatest", "most"] (spQ K m_check_many)) (h_check_rules : Has P w K mg base "check_rules" 4 ["rules"] (spQ K m_check_rules)) (h_check_sounds : Has P w K mg base "check_sounds" 2 ["word"] (spQ K m_check_sounds)) (h_words_over : Has P w K mg base "words_over" 1 ["letters", "size"] (spQ K m_words_over)) (b_len : mg "len" = none) (c_MOST_MOTHERS : ∃ t, mg "MOST_MOTHERS" = some (.int 20000 t)) :
    Has P w K mg base "mothers" 5 ["rules", "word", "letters"] (spQ K m_mothers) :=
  ⟨f, fd, fnQ F sc_mothers (fun as R h => by obtain ⟨a, e, _⟩ := h; rw [e]; rfl) (fun cdv A outer s H E hr => body_mothers h_behind_rules h_check_letters h_check_many h_check_rules h_check_sounds h_words_over b_len c_MOST_MOTHERS cdv A outer s H E hr) p_mothers, gl, F.kp, F.bindsN fun _ _ _ _ _ _ us hl => match us, hl with | [_, _, _], _ => rfl⟩
theorem ok__law_deck {P : Program} {w : World} {K : PySem.W.Frag} {mg : Str → Option Value} {base : Heap} {f : Addr} {fd : FuncData} (F : FunD K "_law_deck" "_law_deck" (defArgs s__law_deck) (defBody s__law_deck) (defScope s__law_deck) [] [] f fd) (gl : mg "_law_deck" = some (.ref f)) (b_abs : mg "abs" = none) (b_int : mg "int" = none) (b_len : mg "len" = none) (b_range : mg "range" = none) :
    Has P w K mg base "_law_deck" 1 ["script", "cells", "each"] (spN K m__law_deck) :=
  ⟨f, fd, fnN F sc__law_deck (fun as R h => by obtain ⟨a, _, e, _⟩ := h; rw [e]; rfl) (fun cdv A outer s H E hr => body__law_deck b_abs b_int b_len b_range cdv A outer s H E hr) p__law_deck, gl, F.kp, F.bindsN fun _ _ _ _ _ _ us hl => match us, hl with | [_, _, _], _ => rfl⟩
theorem ok__law_take {P : Program} {w : World} {K : PySem.W.Frag} {mg : Str → Option Value} {base : Heap} {f : Addr} {fd : FuncData} (F : FunD K "_law_take" "_law_take" (defArgs s__law_take) (defBody s__law_take) (defScope s__law_take) [] [] f fd) (gl : mg "_law_take" = some (.ref f)) (b_int : mg "int" = none) (b_len : mg "len" = none) :
    Has P w K mg base "_law_take" 1 ["deck", "many"] (spD K m__law_take) :=
  ⟨f, fd, fnD F sc__law_take (fun dk as R h => by obtain ⟨_, a, e, _⟩ := h; rw [e]; rfl) (fun cdv A outer s H E hr => body__law_take b_int b_len cdv A outer s H E hr) p__law_take, gl, F.kp, F.bindsN fun _ _ _ _ _ _ us hl => match us, hl with | [_, _], _ => rfl⟩
theorem ok__law_word {P : Program} {w : World} {K : PySem.W.Frag} {mg : Str → Option Value} {base : Heap} {f : Addr} {fd : FuncData} (F : FunD K "_law_word" "_law_word" (defArgs s__law_word) (defBody s__law_word) (defScope s__law_word) [] [] f fd) (gl : mg "_law_word" = some (.ref f)) (h__law_take : Has P w K mg base "_law_take" 1 ["deck", "many"] (spD K m__law_take)) (b_range : mg "range" = none) :
    Has P w K mg base "_law_word" 2 ["deck", "most"] (spD K m__law_word) :=
  ⟨f, fd, fnD F sc__law_word (fun dk as R h => by obtain ⟨_, a, e, _⟩ := h; rw [e]; rfl) (fun cdv A outer s H E hr => body__law_word h__law_take b_range cdv A outer s H E hr) p__law_word, gl, F.kp, F.bindsN fun _ _ _ _ _ _ us hl => match us, hl with | [_, _], _ => rfl⟩
theorem ok__law_sides {P : Program} {w : World} {K : PySem.W.Frag} {mg : Str → Option Value} {base : Heap} {f : Addr} {fd : FuncData} (F : FunD K "_law_sides" "_law_sides" (defArgs s__law_sides) (defBody s__law_sides) (defScope s__law_sides) [] [] f fd) (gl : mg "_law_sides" = some (.ref f)) (h__law_take : Has P w K mg base "_law_take" 1 ["deck", "many"] (spD K m__law_take)) :
    Has P w K mg base "_law_sides" 2 ["deck"] (spD K m__law_sides) :=
  ⟨f, fd, fnD F sc__law_sides (fun dk as R h => by obtain ⟨_, a, e, _⟩ := h; rw [e]; rfl) (fun cdv A outer s H E hr => body__law_sides h__law_take cdv A outer s H E hr) p__law_sides, gl, F.kp, F.bindsN fun _ _ _ _ _ _ us hl => match us, hl with | [_], _ => rfl⟩
theorem ok__law_rule {P : Program} {w : World} {K : PySem.W.Frag} {mg : Str → Option Value} {base : Heap} {f : Addr} {fd : FuncData} (F : FunD K "_law_rule" "_law_rule" (defArgs s__law_rule) (defBody s__law_rule) (defScope s__law_rule) [] [] f fd) (gl : mg "_law_rule" = some (.ref f)) (h__law_sides : Has P w K mg base "_law_sides" 2 ["deck"] (spD K m__law_sides)) (h__law_take : Has P w K mg base "_law_take" 1 ["deck", "many"] (spD K m__law_take)) :
    Has P w K mg base "_law_rule" 3 ["deck"] (spD K m__law_rule) :=
  ⟨f, fd, fnD F sc__law_rule (fun dk as R h => by obtain ⟨_, a, e, _⟩ := h; rw [e]; rfl) (fun cdv A outer s H E hr => body__law_rule h__law_sides h__law_take cdv A outer s H E hr) p__law_rule, gl, F.kp, F.bindsN fun _ _ _ _ _ _ us hl => match us, hl with | [_], _ => rfl⟩
theorem ok__law_relettered {P : Program} {w : World} {K : PySem.W.Frag} {mg : Str → Option Value} {base : Heap} {f : Addr} {fd : FuncData} (F : FunD K "_law_relettered" "_law_relettered" (defArgs s__law_relettered) (defBody s__law_relettered) (defScope s__law_relettered) [] [] f fd) (gl : mg "_law_relettered" = some (.ref f)) (b_sorted : mg "sorted" = none) :
    Has P w K mg base "_law_relettered" 1 ["rule", "to"] (spQ K m__law_relettered) :=
  ⟨f, fd, fnQ F sc__law_relettered (fun as R h => by obtain ⟨a, e, _⟩ := h; rw [e]; rfl) (fun cdv A outer s H E hr => body__law_relettered b_sorted cdv A outer s H E hr) p__law_relettered, gl, F.kp, F.bindsN fun _ _ _ _ _ _ us hl => match us, hl with | [_, _], _ => rfl⟩
theorem ok_law {P : Program} {w : World} {K : PySem.W.Frag} {mg : Str → Option Value} {base : Heap} {f : Addr} {fd : FuncData} (F : FunD K "law" "law" (defArgs s_law) (defBody s_law) (defScope s_law) [] [] f fd) (gl : mg "law" = some (.ref f)) (h__law_deck : Has P w K mg base "_law_deck" 1 ["script", "cells", "each"] (spN K m__law_deck)) (h__law_relettered : Has P w K mg base "_law_relettered" 1 ["rule", "to"] (spQ K m__law_relettered)) (h__law_rule : Has P w K mg base "_law_rule" 3 ["deck"] (spD K m__law_rule)) (h__law_take : Has P w K mg base "_law_take" 1 ["deck", "many"] (spD K m__law_take)) (h__law_word : Has P w K mg base "_law_word" 2 ["deck", "most"] (spD K m__law_word)) (h_first_difference : Has P w K mg base "first_difference" 5 ["one", "other", "letters"] (spQ K m_first_difference)) (h_mothers : Has P w K mg base "mothers" 5 ["rules", "word", "letters"] (spQ K m_mothers)) (h_sounded : Has P w K mg base "sounded" 5 ["rules", "word"] (spQ K m_sounded)) (b_len : mg "len" = none) (b_max : mg "max" = none) (b_range : mg "range" = none) (b_sorted : mg "sorted" = none) :
    Has P w K mg base "law" 6 ["script"] (spQ K m_law) :=
  ⟨f, fd, fnQ F sc_law (fun as R h => by obtain ⟨a, e, _⟩ := h; rw [e]; rfl) (fun cdv A outer s H E hr => body_law h__law_deck h__law_relettered h__law_rule h__law_take h__law_word h_first_difference h_mothers h_sounded b_len b_max b_range b_sorted cdv A outer s H E hr) p_law, gl, F.kp, F.bindsN fun _ _ _ _ _ _ us hl => match us, hl with | [_], _ => rfl⟩
theorem facts {P : Program} {w : World} {K : PySem.W.Frag} {h : Heap} {mg : Str → Option Value} {f : Addr} (X : K.In h) (G : h.Ns mainGlobals mg) (hfa : mg ("law" : Str) = some (.ref f)) (c : He.SaysD fa fn K) :
    ∃ fd : FuncData, (∀ (s : Shared) (v : Value), BindsTo s fd ⟨[v], []⟩ [("script", v)]) ∧ ∀ base : Heap, K.In base → base.Ns mainGlobals mg → FnOk P w K mg base CX0 6 f fd ["script"] (spQ K m_law) := by
  obtain ⟨fd_is_letter, F_is_letter⟩ := c.def_ 0 (d := d_is_letter) rfl
  obtain ⟨fd_is_side, F_is_side⟩ := c.def_ 1 (d := d_is_side) rfl
  obtain ⟨fd_is_rule, F_is_rule⟩ := c.def_ 2 (d := d_is_rule) rfl
  obtain ⟨fd_check_rules, F_check_rules⟩ := c.def_ 3 (d := d_check_rules) rfl
  obtain ⟨fd_is_sounds, F_is_sounds⟩ := c.def_ 4 (d := d_is_sounds) rfl
  obtain ⟨fd_check_sounds, F_check_sounds⟩ := c.def_ 5 (d := d_check_sounds) rfl
  obtain ⟨fd_check_letters, F_check_letters⟩ := c.def_ 6 (d := d_check_letters) rfl
  obtain ⟨fd_changed, F_changed⟩ := c.def_ 7 (d := d_changed) rfl
  obtain ⟨fd_behind_rules, F_behind_rules⟩ := c.def_ 8 (d := d_behind_rules) rfl
  obtain ⟨fd_sounded, F_sounded⟩ := c.def_ 9 (d := d_sounded) rfl
  obtain ⟨fd_words_over, F_words_over⟩ := c.def_ 10 (d := d_words_over) rfl
  obtain ⟨fd_check_many, F_check_many⟩ := c.def_ 11 (d := d_check_many) rfl
  obtain ⟨fd_pow_of, F_pow_of⟩ := c.def_ 12 (d := d_pow_of) rfl
  obtain ⟨fd_least_changed, F_least_changed⟩ := c.def_ 13 (d := d_least_changed) rfl
  obtain ⟨fd_first_difference, F_first_difference⟩ := c.def_ 14 (d := d_first_difference) rfl
  obtain ⟨fd_mothers, F_mothers⟩ := c.def_ 15 (d := d_mothers) rfl
  obtain ⟨fd__law_deck, F__law_deck⟩ := c.def_ 16 (d := d__law_deck) rfl
  obtain ⟨fd__law_take, F__law_take⟩ := c.def_ 17 (d := d__law_take) rfl
  obtain ⟨fd__law_word, F__law_word⟩ := c.def_ 18 (d := d__law_word) rfl
  obtain ⟨fd__law_sides, F__law_sides⟩ := c.def_ 19 (d := d__law_sides) rfl
  obtain ⟨fd__law_rule, F__law_rule⟩ := c.def_ 20 (d := d__law_rule) rfl
  obtain ⟨fd__law_relettered, F__law_relettered⟩ := c.def_ 21 (d := d__law_relettered) rfl
  obtain ⟨fd_law, F_law⟩ := c.def_ 22 (d := d_law) rfl
  have g_is_letter := He.glo_ok X G (c.fact 0 (f := .glo "is_letter") rfl)
  have g_is_side := He.glo_ok X G (c.fact 1 (f := .glo "is_side") rfl)
  have g_is_rule := He.glo_ok X G (c.fact 2 (f := .glo "is_rule") rfl)
  have g_check_rules := He.glo_ok X G (c.fact 3 (f := .glo "check_rules") rfl)
  have g_is_sounds := He.glo_ok X G (c.fact 4 (f := .glo "is_sounds") rfl)
  have g_check_sounds := He.glo_ok X G (c.fact 5 (f := .glo "check_sounds") rfl)
  have g_check_letters := He.glo_ok X G (c.fact 6 (f := .glo "check_letters") rfl)
  have g_changed := He.glo_ok X G (c.fact 7 (f := .glo "changed") rfl)
  have g_behind_rules := He.glo_ok X G (c.fact 8 (f := .glo "behind_rules") rfl)
  have g_sounded := He.glo_ok X G (c.fact 9 (f := .glo "sounded") rfl)
  have g_words_over := He.glo_ok X G (c.fact 10 (f := .glo "words_over") rfl)
  have g_check_many := He.glo_ok X G (c.fact 11 (f := .glo "check_many") rfl)
  have g_pow_of := He.glo_ok X G (c.fact 12 (f := .glo "pow_of") rfl)
  have g_least_changed := He.glo_ok X G (c.fact 13 (f := .glo "least_changed") rfl)
  have g_first_difference := He.glo_ok X G (c.fact 14 (f := .glo "first_difference") rfl)
  have g_mothers := He.glo_ok X G (c.fact 15 (f := .glo "mothers") rfl)
  have g__law_deck := He.glo_ok X G (c.fact 16 (f := .glo "_law_deck") rfl)
  have g__law_take := He.glo_ok X G (c.fact 17 (f := .glo "_law_take") rfl)
  have g__law_word := He.glo_ok X G (c.fact 18 (f := .glo "_law_word") rfl)
  have g__law_sides := He.glo_ok X G (c.fact 19 (f := .glo "_law_sides") rfl)
  have g__law_rule := He.glo_ok X G (c.fact 20 (f := .glo "_law_rule") rfl)
  have g__law_relettered := He.glo_ok X G (c.fact 21 (f := .glo "_law_relettered") rfl)
  have g_law := He.glo_ok X G (c.fact 22 (f := .glo "law") rfl)
  have b_ValueError := He.free_ok X G (c.fact 23 (f := .free "ValueError") rfl)
  have b_abs := He.free_ok X G (c.fact 24 (f := .free "abs") rfl)
  have b_all := He.free_ok X G (c.fact 25 (f := .free "all") rfl)
  have b_enumerate := He.free_ok X G (c.fact 26 (f := .free "enumerate") rfl)
  have b_int := He.free_ok X G (c.fact 27 (f := .free "int") rfl)
  have b_isinstance := He.free_ok X G (c.fact 28 (f := .free "isinstance") rfl)
  have b_len := He.free_ok X G (c.fact 29 (f := .free "len") rfl)
  have b_list := He.free_ok X G (c.fact 30 (f := .free "list") rfl)
  have b_max := He.free_ok X G (c.fact 31 (f := .free "max") rfl)
  have b_range := He.free_ok X G (c.fact 32 (f := .free "range") rfl)
  have b_set := He.free_ok X G (c.fact 33 (f := .free "set") rfl)
  have b_sorted := He.free_ok X G (c.fact 34 (f := .free "sorted") rfl)
  have b_str := He.free_ok X G (c.fact 35 (f := .free "str") rfl)
  have b_sum := He.free_ok X G (c.fact 36 (f := .free "sum") rfl)
  have b_super := He.free_ok X G (c.fact 37 (f := .free "super") rfl)
  have b_tuple := He.free_ok X G (c.fact 38 (f := .free "tuple") rfl)
  have c_LETTERS := He.str_ok X G (c.fact 39 (f := .str "LETTERS" "abcdefghijklmnopqrstuvwxyz") rfl)
  have c_EDGE := He.str_ok X G (c.fact 40 (f := .str "EDGE" "#") rfl)
  have c_MOST_RULES := He.int_ok X G (c.fact 41 (f := .int "MOST_RULES" 6) rfl)
  have c_MOST_WORDS := He.int_ok X G (c.fact 42 (f := .int "MOST_WORDS" 40000) rfl)
  have c_MOST_MOTHERS := He.int_ok X G (c.fact 43 (f := .int "MOST_MOTHERS" 20000) rfl)
  have e := hfa.symm.trans g_law
  cases e
  have b := FunD.bindsA (ps := ["script"]) F_law fun _ _ _ _ _ _ us hl => match us, hl with | [_], _ => rfl
  refine ⟨fd_law, fun s v => b s [v] rfl, fun base _ _ => ?_⟩
  have h_is_letter := ok_is_letter (P := P) (w := w) (base := base) F_is_letter g_is_letter b_isinstance b_len b_str c_LETTERS
  have h_is_side := ok_is_side (P := P) (w := w) (base := base) F_is_side g_is_side h_is_letter b_all b_isinstance b_list b_set b_sorted b_str c_EDGE
  have h_is_rule := ok_is_rule (P := P) (w := w) (base := base) F_is_rule g_is_rule h_is_letter h_is_side b_isinstance b_len b_tuple
  have h_check_rules := ok_check_rules (P := P) (w := w) (base := base) F_check_rules g_check_rules h_is_rule b_all b_isinstance b_len b_list b_tuple c_MOST_RULES
  have h_is_sounds := ok_is_sounds (P := P) (w := w) (base := base) F_is_sounds g_is_sounds b_all b_isinstance b_str c_LETTERS
  have h_check_sounds := ok_check_sounds (P := P) (w := w) (base := base) F_check_sounds g_check_sounds h_is_sounds
  have h_check_letters := ok_check_letters (P := P) (w := w) (base := base) F_check_letters g_check_letters h_is_sounds b_list b_set b_sorted
  have h_changed := ok_changed (P := P) (w := w) (base := base) F_changed g_changed b_enumerate b_len c_EDGE
  have h_behind_rules := ok_behind_rules (P := P) (w := w) (base := base) F_behind_rules g_behind_rules h_changed
  have h_sounded := ok_sounded (P := P) (w := w) (base := base) F_sounded g_sounded h_behind_rules h_check_rules h_check_sounds
  have h_words_over := ok_words_over (P := P) (w := w) (base := base) F_words_over g_words_over b_range
  have h_pow_of := ok_pow_of (P := P) (w := w) (base := base) F_pow_of g_pow_of b_range
  have h_check_many := ok_check_many (P := P) (w := w) (base := base) F_check_many g_check_many h_pow_of b_len b_range b_sum
  have h_least_changed := ok_least_changed (P := P) (w := w) (base := base) F_least_changed g_least_changed h_behind_rules h_words_over b_range
  have h_first_difference := ok_first_difference (P := P) (w := w) (base := base) F_first_difference g_first_difference h_check_letters h_check_many h_check_rules h_least_changed b_len b_max c_MOST_WORDS
  have h_mothers := ok_mothers (P := P) (w := w) (base := base) F_mothers g_mothers h_behind_rules h_check_letters h_check_many h_check_rules h_check_sounds h_words_over b_len c_MOST_MOTHERS
  have h__law_deck := ok__law_deck (P := P) (w := w) (base := base) F__law_deck g__law_deck b_abs b_int b_len b_range
  have h__law_take := ok__law_take (P := P) (w := w) (base := base) F__law_take g__law_take b_int b_len
  have h__law_word := ok__law_word (P := P) (w := w) (base := base) F__law_word g__law_word h__law_take b_range
  have h__law_sides := ok__law_sides (P := P) (w := w) (base := base) F__law_sides g__law_sides h__law_take
  have h__law_rule := ok__law_rule (P := P) (w := w) (base := base) F__law_rule g__law_rule h__law_sides h__law_take
  have h__law_relettered := ok__law_relettered (P := P) (w := w) (base := base) F__law_relettered g__law_relettered b_sorted
  exact fnQ F_law sc_law (fun as R h => by obtain ⟨a, e, _⟩ := h; rw [e]; rfl) (fun cdv A outer s H E hr => body_law h__law_deck h__law_relettered h__law_rule h__law_take h__law_word h_first_difference h_mothers h_sounded b_len b_max b_range b_sorted cdv A outer s H E hr) p_law
end HK
open PySem PySem.W PySem.Calls PyProof.Rows
theorem PySem.Challenge.cw_tellwork_k23_whole_sounds_one_behind_the_holds : PySem.Challenge.rw_tellwork_k23_whole_sounds_one_behind_the.Holds := by
  w_on; o_law
  refine HandSHeadRun.head_any (r := OpenLaw.row PySem.Challenge.rw_tellwork_k23_whole_sounds_one_behind_the) (q := view (OpenLaw.row PySem.Challenge.rw_tellwork_k23_whole_sounds_one_behind_the).prog [33]) (H := HK.hk) (ob := HK.ob) (M := 6000) (loose := HK.loose) (d := HandSHeadRun.topDef (OpenLaw.row PySem.Challenge.rw_tellwork_k23_whole_sounds_one_behind_the).prog 33) (kwd := []) HK.ob_eq
    (by kernel_rfl) (fun s => by kernel_rfl) HK.run (by kernel_rfl) (by kernel_rfl) (by kernel_rfl) (by rfl) (by first | assumption | decide +kernel) (by decide +kernel) ⟨rfl, rfl, rfl, rfl, rfl, by decide +kernel⟩ ?hw ?hc
  case hw => w_witness2
  case hc =>
    refine L2.walk_ofE (l := PySem.Challenge.rw_tellwork_k23_whole_sounds_one_behind_the) (n := 63) (k := 6) (x := "script") (CX := L2.CX0) rfl (by decide) (by kernel_rfl) ⟨rfl, by decide, by decide⟩ ?F (fun _ _ _ _ z => z)
    intro w mg fa h Y G hmg0
    obtain ⟨K, KX, c⟩ := Y
    have hmg : mg ("law" : PySem.Str) = some (.ref fa) := by
      have e : (HandSHeadRun.topDef (OpenLaw.row PySem.Challenge.rw_tellwork_k23_whole_sounds_one_behind_the).prog 33).name = ("law" : PySem.Str) := by kernel_rfl
      rw [← e]
      exact hmg0
    obtain ⟨fd, hb, hF⟩ := HK.facts (P := (PySem.Challenge.rw_tellwork_k23_whole_sounds_one_behind_the).prog) (w := w) KX G hmg c
    exact ⟨K, fd, Qy.spQ K HK.m_law, KX, hb, fun H a ns hl _ hS => ⟨H, [.seq (ns.map .int)], Qy.Sub.refl H, .cons (Qy.rep_seq.mpr ⟨a, _, rfl, hS, Qy.Reps.map (fun _ => Qy.rep_int.mpr rfl) ns⟩) .nil, ns, rfl, hl, fun v F' H' _ r => Qy.rep_bl.mp r⟩, hF⟩
