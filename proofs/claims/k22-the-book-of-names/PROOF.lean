import PyProof.Rows.All
import Wide.All
import OpenK.AllK
import Wide.FinOn
import HandS.ForMost
import HandS.Walk
import HandS.Flow
import HandS.IsInst
import HandS.Star
import HandS.TupAny
import HandS.Style
import HandS.Defaults
import HandS.Wide
import HandS.Deep
import HandS.Conv
import PyProof.ReprRoads
import KE.SortData
import HandS.Head0
import HandS.Head1
import HandS.Head2
import HandS.HeadEnd
import HandS.HeadHook1
import HandS.HeadHook2
import HandS.HeadHook3
import HandS.DictTup
import KE.KDictWalk
import KE.KDictCopyH
import PySem.Challenge.RW_arrivalmill_k22_whole_the_book_of_names
import HandS.HeadHook4
set_option Elab.async false
set_option linter.all false
set_option maxRecDepth 100000
set_option maxHeartbeats 0
/-! DL1: data, and what stands in slots. -/
namespace DL
open PySem PySem.Spec PyProof.Rows L2

/-- data of Python that never changes: numbers, texts, tuples, lists (read only), instances (read only) -/
inductive D where
  | non | bl (b : Bool) | int (i : Int) | str (x : Str) | tup (ds : List D) | lst (ds : List D) | ins (C : Addr) (fs : List (Str × D)) | ty (n : String) | obj (a : Addr)

abbrev Ex (H H' : Hp) : Prop := ∀ a o, H a = some o → H' a = some o
theorem Ex.refl (H : Hp) : Ex H H := fun _ _ h => h
theorem Ex.trans {H H1 H2 : Hp} (a : Ex H H1) (b : Ex H1 H2) : Ex H H2 := fun x o h => b x o (a x o h)
theorem Ex.new {H : Hp} {p : Addr} {o : HO} (h : H p = none) : Ex H (upd H p o) := fun a u e => by
  rw [upd_ne (ne_of_none e h)]; exact e
theorem Ex.mut {H H' : Hp} {p : Addr} {o : HO} (e : Ex H H') (h : H p = none) : Ex H (upd H' p o) := fun a u ha => by
  rw [upd_ne (ne_of_none ha h)]; exact e a u ha
theorem Ex.both {H H' : Hp} {p : Addr} {o : HO} (e : Ex H H') : Ex (upd H p o) (upd H' p o) := fun a u ha => by
  by_cases q : a = p
  · subst q; rw [upd_same] at ha ⊢; exact ha
  · rw [upd_ne q] at ha ⊢; exact e a u ha
theorem Ex.none {H H' : Hp} {p : Addr} (e : Ex H H') (h : H' p = none) : H p = none := by
  cases q : H p with
  | none => rfl
  | some o => rw [e p o q] at h; cases h
theorem ex_rd {H H' : Hp} {a : Addr} {u : HO} (e : Ex H H') (h : Rd H a u) : Rd H' a u := by
  rcases h with h | ⟨o, h⟩
  · exact .inl (e a _ h)
  · exact .inr ⟨o, e a _ h⟩
theorem ex_l {K : PySem.W.Frag} {H H' : Hp} {a : Addr} {xs : List V} (e : Ex H H') (h : SqL K H a xs) : SqL K H' a xs := by
  rcases h with h | h
  · exact .inl (ex_rd e h)
  · exact .inr h
theorem ex_t {K : PySem.W.Frag} {H H' : Hp} {a : Addr} {xs : List V} (e : Ex H H') (h : SqT K H a xs) : SqT K H' a xs := by
  rcases h with h | h
  · exact .inl (ex_rd e h)
  · exact .inr h

mutual
/-- v stands for d in H -/
inductive Rp (K : PySem.W.Frag) (H : Hp) : V → D → Prop
  | non : Rp K H .non .non
  | bl (b : Bool) : Rp K H (.bl b) (.bl b)
  | int (i : Int) : Rp K H (.int i) (.int i)
  | str (x : Str) : Rp K H (.str x) (.str x)
  | ty (n : String) : Rp K H (.ty n) (.ty n)
  | obj (a : Addr) : Rp K H (.ref a) (.obj a)
  | tup {a : Addr} {xs : List V} {ds : List D} : SqT K H a xs → RpA K H xs ds → Rp K H (.ref a) (.tup ds)
  | lst {a : Addr} {xs : List V} {ds : List D} : SqL K H a xs → RpA K H xs ds → Rp K H (.ref a) (.lst ds)
  | ins {a C dx : Addr} {fs : List (Str × V)} {gs : List (Str × D)} : H a = some (.ins C dx fs) → RpF K H fs gs → Rp K H (.ref a) (.ins C gs)
inductive RpA (K : PySem.W.Frag) (H : Hp) : List V → List D → Prop
  | nil : RpA K H [] []
  | cons {v : V} {vs : List V} {d : D} {ds : List D} : Rp K H v d → RpA K H vs ds → RpA K H (v :: vs) (d :: ds)
inductive RpF (K : PySem.W.Frag) (H : Hp) : List (Str × V) → List (Str × D) → Prop
  | nil : RpF K H [] []
  | cons {x : Str} {v : V} {vs : List (Str × V)} {d : D} {ds : List (Str × D)} : Rp K H v d → RpF K H vs ds → RpF K H ((x, v) :: vs) ((x, d) :: ds)
end
section
variable {K : PySem.W.Frag} {H H' : Hp}
mutual
theorem Rp.mono (e : Ex H H') : ∀ {v : V} {d : D}, Rp K H v d → Rp K H' v d
  | _, _, .non => .non
  | _, _, .bl b => .bl b
  | _, _, .int i => .int i
  | _, _, .str x => .str x
  | _, _, .ty n => .ty n
  | _, _, .obj a => .obj a
  | _, _, .tup h r => .tup (ex_t e h) (RpA.mono e r)
  | _, _, .lst h r => .lst (ex_l e h) (RpA.mono e r)
  | _, _, .ins h r => .ins (e _ _ h) (RpF.mono e r)
theorem RpA.mono (e : Ex H H') : ∀ {vs : List V} {ds : List D}, RpA K H vs ds → RpA K H' vs ds
  | _, _, .nil => .nil
  | _, _, .cons h r => .cons (Rp.mono e h) (RpA.mono e r)
theorem RpF.mono (e : Ex H H') : ∀ {vs : List (Str × V)} {ds : List (Str × D)}, RpF K H vs ds → RpF K H' vs ds
  | _, _, .nil => .nil
  | _, _, .cons h r => .cons (Rp.mono e h) (RpF.mono e r)
end
theorem RpA.length : ∀ {vs : List V} {ds : List D}, RpA K H vs ds → vs.length = ds.length
  | _, _, .nil => rfl
  | _, _, .cons _ r => by rw [List.length_cons, List.length_cons, RpA.length r]
theorem RpA.append : ∀ {vs ws : List V} {ds es : List D}, RpA K H vs ds → RpA K H ws es → RpA K H (vs ++ ws) (ds ++ es)
  | _, _, _, _, .nil, s => s
  | _, _, _, _, .cons h r, s => .cons h (RpA.append r s)
theorem RpA.get : ∀ {vs : List V} {ds : List D} {i : Nat} {v : V}, RpA K H vs ds → vs[i]? = some v → ∃ d, ds[i]? = some d ∧ Rp K H v d
  | _, _, i, _, .nil, e => by cases i <;> cases e
  | _, _, 0, _, .cons h _, e => by cases e; exact ⟨_, rfl, h⟩
  | _, _, i + 1, v, .cons _ r, e => RpA.get (i := i) (v := v) r e
theorem RpA.getD : ∀ {vs : List V} {ds : List D} {i : Nat} {d : D}, RpA K H vs ds → ds[i]? = some d → ∃ v, vs[i]? = some v ∧ Rp K H v d
  | _, _, i, _, .nil, e => by cases i <;> cases e
  | _, _, 0, _, .cons h _, e => by cases e; exact ⟨_, rfl, h⟩
  | _, _, i + 1, d, .cons _ r, e => RpA.getD (i := i) (d := d) r e
theorem RpA.set {v : V} {d : D} (q : Rp K H v d) : ∀ {vs : List V} {ds : List D} (i : Nat), RpA K H vs ds → RpA K H (vs.set i v) (ds.set i d)
  | _, _, _, .nil => .nil
  | _, _, 0, .cons _ r => .cons q r
  | _, _, i + 1, .cons h r => .cons h (RpA.set q i r)
theorem RpA.drop : ∀ {vs : List V} {ds : List D} (i : Nat), RpA K H vs ds → RpA K H (vs.drop i) (ds.drop i)
  | _, _, 0, r => r
  | _, _, _ + 1, .nil => .nil
  | _, _, i + 1, .cons _ r => RpA.drop i r
theorem RpA.take : ∀ {vs : List V} {ds : List D} (i : Nat), RpA K H vs ds → RpA K H (vs.take i) (ds.take i)
  | _, _, 0, _ => .nil
  | _, _, _ + 1, .nil => .nil
  | _, _, i + 1, .cons h r => .cons h (RpA.take i r)
theorem RpF.lookup {x : Str} {d : D} : ∀ {vs : List (Str × V)} {ds : List (Str × D)}, RpF K H vs ds → ds.lookup x = some d → ∃ v, vs.lookup x = some v ∧ Rp K H v d
  | _, _, .nil, e => by cases e
  | _, _, .cons (x := y) h r, e => by
    rw [List.lookup_cons] at e ⊢
    split at e
    · cases e; exact ⟨_, rfl, h⟩
    · exact RpF.lookup r e
end

/-- what is known of a slot: nothing; data; a list, a dict of its own (no other slot holds it) -/
inductive SD where
  | no | d (x : D) | l (o : Option Addr) (xs : List D) | m (kvs : List (Key × D))
abbrev Ga := List SD

inductive RpK (K : PySem.W.Frag) (H : Hp) : List (Key × V) → List (Key × D) → Prop
  | nil : RpK K H [] []
  | cons {x : Key} {v : V} {vs : List (Key × V)} {d : D} {ds : List (Key × D)} : Rp K H v d → RpK K H vs ds → RpK K H ((x, v) :: vs) ((x, d) :: ds)
theorem RpK.mono {K : PySem.W.Frag} {H H' : Hp} (e : Ex H H') : ∀ {vs : List (Key × V)} {ds : List (Key × D)}, RpK K H vs ds → RpK K H' vs ds
  | _, _, .nil => .nil
  | _, _, .cons h r => .cons (h.mono e) (RpK.mono e r)
theorem RpK.length {K : PySem.W.Frag} {H : Hp} : ∀ {vs : List (Key × V)} {ds : List (Key × D)}, RpK K H vs ds → vs.length = ds.length
  | _, _, .nil => rfl
  | _, _, .cons _ r => by rw [List.length_cons, List.length_cons, RpK.length r]

def SlotOk (K : PySem.W.Frag) (Hs H : Hp) (v : Option V) : SD → Prop
  | .no => True
  | .d x => ∃ u, v = some u ∧ Rp K Hs u x
  | .l o xs => ∃ p vs, v = some (.ref p) ∧ (∀ q, o = some q → p = q) ∧ Hs p = none ∧ H p = some (.lst vs) ∧ RpA K Hs vs xs
  | .m kvs => ∃ p vs, v = some (.ref p) ∧ Hs p = none ∧ H p = some (.dK vs) ∧ RpK K Hs vs kvs
def owns (v : Option V) (p : Addr) : SD → Prop
  | .l _ _ => v = some (.ref p)
  | .m _ => v = some (.ref p)
  | _ => False

/-- what does not change: H0: the stable part at the entry; F: all that stood at the entry, but what may be changed -/
structure Base where
  H0 : Hp
  F : Hp

structure Env (K : PySem.W.Frag) (B : Base) (Hs H : Hp) (σ : L2.St) (Γ : Ga) : Prop where
  len : σ.length = Γ.length
  e0 : Ex B.H0 Hs
  e1 : Ex Hs H
  fr : Ex B.F H
  nw : ∀ a, B.H0 a = none → Hs a ≠ none → B.F a = none
  slot : ∀ (i : Nat) (s : SD), Γ[i]? = some s → SlotOk K Hs H (σ[i]?.getD none) s
  own : ∀ (i : Nat) (s : SD) (p : Addr), Γ[i]? = some s → owns (σ[i]?.getD none) p s → B.F p = none
  apart : ∀ (i j : Nat) (s t : SD) (p : Addr), i ≠ j → Γ[i]? = some s → Γ[j]? = some t → owns (σ[i]?.getD none) p s → owns (σ[j]?.getD none) p t → False

/-- what an expression comes to: data; the list or dict of a slot; a new list, a new dict -/
inductive RV where
  | d (x : D) | o (i : Nat) | n (xs : List D) | nm (kvs : List (Key × D))
def isOwn : SD → Prop
  | .l _ _ => True
  | .m _ => True
  | _ => False
def fresh (B : Base) (Hs : Hp) (σ : L2.St) (Γ : Ga) (p : Addr) : Prop := Hs p = none ∧ B.F p = none ∧ ∀ (i : Nat) (s : SD), Γ[i]? = some s → ¬ owns (σ[i]?.getD none) p s
def RvOk (K : PySem.W.Frag) (B : Base) (Hs H : Hp) (σ : L2.St) (Γ : Ga) (v : V) : RV → Prop
  | .d x => Rp K Hs v x
  | .o i => σ[i]? = some (some v)
  | .n xs => ∃ p vs, v = .ref p ∧ H p = some (.lst vs) ∧ RpA K Hs vs xs ∧ fresh B Hs σ Γ p
  | .nm kvs => ∃ p vs, v = .ref p ∧ H p = some (.dK vs) ∧ RpK K Hs vs kvs ∧ fresh B Hs σ Γ p

section
variable {K : PySem.W.Frag} {B : Base} {Hs H H' : Hp} {σ : L2.St} {Γ : Ga}
theorem SlotOk.mono {Hs' : Hp} {v : Option V} {s : SD} (h : SlotOk K Hs H v s) (e : Ex Hs Hs') (k : ∀ p o, owns v p s → H p = some o → H' p = some o) (n : ∀ p, owns v p s → Hs p = none → Hs' p = none) : SlotOk K Hs' H' v s := by
  cases s with
  | no => trivial
  | d x => obtain ⟨u, q, r⟩ := h; exact ⟨u, q, r.mono e⟩
  | l o xs => obtain ⟨p, vs, q, z, hn, hp, r⟩ := h; exact ⟨p, vs, q, z, n p q hn, k p _ q hp, r.mono e⟩
  | m kvs => obtain ⟨p, vs, q, hn, hp, r⟩ := h; exact ⟨p, vs, q, n p q hn, k p _ q hp, r.mono e⟩
theorem SlotOk.there {v : Option V} {s : SD} {p : Addr} (h : SlotOk K Hs H v s) (w : owns v p s) : Hs p = none ∧ H p ≠ none := by
  cases s with
  | no => exact w.elim
  | d x => exact w.elim
  | l o xs =>
    obtain ⟨q, vs, e, z, hn, hp, r⟩ := h
    have w' : v = some (.ref p) := w
    rw [w'] at e; cases e
    exact ⟨hn, by rw [hp]; exact fun q => nomatch q⟩
  | m kvs =>
    obtain ⟨q, vs, e, hn, hp, r⟩ := h
    have w' : v = some (.ref p) := w
    rw [w'] at e; cases e
    exact ⟨hn, by rw [hp]; exact fun q => nomatch q⟩
/-- a new stable object at p -/
theorem Env.stable {p : Addr} {o : HO} (E : Env K B Hs H σ Γ) (hp : H p = none) : Env K B (upd Hs p o) (upd H p o) σ Γ where
  len := E.len
  e0 := E.e0.trans (Ex.new (E.e1.none hp))
  e1 := E.e1.both
  fr := E.fr.mut (E.fr.none hp)
  nw := fun a h0 h => by
    by_cases q : a = p
    · subst q; exact E.fr.none hp
    · rw [upd_ne q] at h; exact E.nw a h0 h
  slot := fun i s h => (E.slot i s h).mono (Ex.new (E.e1.none hp)) (fun q u w hq => by
    have := ((E.slot i s h).there w).2
    have ne : q ≠ p := fun z => by subst z; exact this hp
    rw [upd_ne ne]; exact hq) fun q w hq => by
    have := ((E.slot i s h).there w).2
    have ne : q ≠ p := fun z => by subst z; exact this hp
    rw [upd_ne ne]; exact hq
  own := E.own
  apart := E.apart
/-- a new object that is not yet anybody's -/
theorem Env.newp {p : Addr} {o : HO} (E : Env K B Hs H σ Γ) (hp : H p = none) : Env K B Hs (upd H p o) σ Γ ∧ fresh B Hs σ Γ p := by
  have fr : ∀ (i : Nat) (s : SD), Γ[i]? = some s → ¬ owns (σ[i]?.getD none) p s := fun i s h w => ((E.slot i s h).there w).2 hp
  refine ⟨⟨E.len, E.e0, E.e1.mut (E.e1.none hp), E.fr.mut (E.fr.none hp), E.nw, fun i s h => (E.slot i s h).mono (Ex.refl _) (fun q u w hq => ?_) fun _ _ z => z, E.own, E.apart⟩, E.e1.none hp, E.fr.none hp, fr⟩
  have ne : q ≠ p := fun z => by subst z; exact fr i s h w
  rw [upd_ne ne]; exact hq
/-- what is nobody's is made stable -/
theorem Env.freeze {p : Addr} {o : HO} (E : Env K B Hs H σ Γ) (hp : H p = some o) (f : fresh B Hs σ Γ p) : Env K B (upd Hs p o) H σ Γ where
  len := E.len
  e0 := E.e0.trans (Ex.new f.1)
  e1 := fun a u h => by
    by_cases q : a = p
    · subst q; rw [upd_same] at h; cases h; exact hp
    · rw [upd_ne q] at h; exact E.e1 a u h
  fr := E.fr
  nw := fun a h0 h => by
    by_cases q : a = p
    · subst q; exact f.2.1
    · rw [upd_ne q] at h; exact E.nw a h0 h
  slot := fun i s h => (E.slot i s h).mono (Ex.new f.1) (fun _ _ _ z => z) fun q w hq => by
    have ne : q ≠ p := fun z => by subst z; exact f.2.2 i s h w
    rw [upd_ne ne]; exact hq
  own := E.own
  apart := E.apart
theorem getD_set {α : Type} {l : List (Option α)} {i j : Nat} {x : Option α} (h : i < l.length) : ((l.set i x)[j]?).getD none = if i = j then x else l[j]?.getD none := by
  rw [List.getElem?_set]
  by_cases q : i = j
  · subst q; rw [if_pos rfl, if_pos rfl, if_pos h]; rfl
  · rw [if_neg q, if_neg q]
/-- a slot is stored -/
theorem Env.put {i : Nat} {v : V} {s : SD} (E : Env K B Hs H σ Γ) (hi : i < Γ.length) (hs : SlotOk K Hs H (some v) s)
    (ho : ∀ p, owns (some v) p s → B.F p = none ∧ ∀ (j : Nat) (t : SD), j ≠ i → Γ[j]? = some t → ¬ owns (σ[j]?.getD none) p t) : Env K B Hs H (σ.set i (some v)) (Γ.set i s) := by
  have hl : i < σ.length := by rw [E.len]; exact hi
  have gt : ∀ (j : Nat) (t : SD), (Γ.set i s)[j]? = some t → (j = i ∧ t = s) ∨ (j ≠ i ∧ Γ[j]? = some t) := fun j t h => by
    rw [List.getElem?_set] at h
    by_cases q : i = j
    · subst q; rw [if_pos rfl, if_pos hi] at h; cases h; exact .inl ⟨rfl, rfl⟩
    · rw [if_neg q] at h; exact .inr ⟨fun z => q z.symm, h⟩
  refine ⟨by rw [List.length_set, List.length_set, E.len], E.e0, E.e1, E.fr, E.nw, fun j t h => ?_, fun j t p h w => ?_, fun j k t u p hjk h1 h2 w1 w2 => ?_⟩
  · rw [getD_set hl]
    rcases gt j t h with ⟨rfl, rfl⟩ | ⟨q, h⟩
    · rw [if_pos rfl]; exact hs
    · rw [if_neg (fun z => q z.symm)]; exact E.slot j t h
  · rw [getD_set hl] at w
    rcases gt j t h with ⟨rfl, rfl⟩ | ⟨q, h⟩
    · rw [if_pos rfl] at w; exact (ho p w).1
    · rw [if_neg (fun z => q z.symm)] at w; exact E.own j t p h w
  · rw [getD_set hl] at w1 w2
    rcases gt j t h1 with ⟨rfl, rfl⟩ | ⟨q, g1⟩
    · rw [if_pos rfl] at w1
      rcases gt k u h2 with ⟨rfl, rfl⟩ | ⟨q2, h2⟩
      · exact hjk rfl
      · rw [if_neg (fun z => q2 z.symm)] at w2; exact (ho p w1).2 k u q2 h2 w2
    · rw [if_neg (fun z => q z.symm)] at w1
      rcases gt k u h2 with ⟨rfl, rfl⟩ | ⟨q2, h2⟩
      · rw [if_pos rfl] at w2; exact (ho p w2).2 j t q g1 w1
      · rw [if_neg (fun z => q2 z.symm)] at w2; exact E.apart j k t u p hjk g1 h2 w1 w2
theorem Env.put_d {i : Nat} {v : V} {x : D} (E : Env K B Hs H σ Γ) (hi : i < Γ.length) (r : Rp K Hs v x) : Env K B Hs H (σ.set i (some v)) (Γ.set i (.d x)) :=
  E.put hi ⟨v, rfl, r⟩ fun _ w => w.elim
/-- the list of a slot is changed -/
theorem Env.write_l {i : Nat} {p : Addr} {o : Option Addr} {xs ys : List D} {vs : List V} (E : Env K B Hs H σ Γ) (hi : Γ[i]? = some (.l o xs)) (hv : σ[i]? = some (some (.ref p))) (hr : RpA K Hs vs ys) :
    Env K B Hs (upd H p (.lst vs)) σ (Γ.set i (.l o ys)) := by
  have hl : i < Γ.length := (List.getElem?_eq_some_iff.mp hi).1
  have gv : σ[i]?.getD none = some (.ref p) := by rw [hv]; rfl
  have wi : owns (σ[i]?.getD none) p (.l o xs) := gv
  have fp : B.F p = none := E.own i _ p hi wi
  have sp := (E.slot i _ hi).there wi
  have gt : ∀ (j : Nat) (t : SD), (Γ.set i (.l o ys))[j]? = some t → (j = i ∧ t = .l o ys) ∨ (j ≠ i ∧ Γ[j]? = some t) := fun j t h => by
    rw [List.getElem?_set] at h
    by_cases q : i = j
    · subst q; rw [if_pos rfl, if_pos hl] at h; cases h; exact .inl ⟨rfl, rfl⟩
    · rw [if_neg q] at h; exact .inr ⟨fun z => q z.symm, h⟩
  refine ⟨by rw [List.length_set, E.len], E.e0, E.e1.mut sp.1, E.fr.mut fp, E.nw, fun j t h => ?_, fun j t q h w => ?_, fun j k t u q hjk h1 h2 w1 w2 => ?_⟩
  · rcases gt j t h with ⟨rfl, rfl⟩ | ⟨q, h⟩
    · obtain ⟨p', vs', e, z, hn, hp, r⟩ := E.slot j _ hi
      rw [gv] at e; cases e
      exact ⟨p, vs, gv, z, hn, upd_same, hr⟩
    · refine (E.slot j t h).mono (Ex.refl _) (fun b u w hb => ?_) fun _ _ z => z
      have ne : b ≠ p := fun z => by subst z; exact E.apart j i _ _ b q h hi w wi
      rw [upd_ne ne]; exact hb
  · rcases gt j t h with ⟨rfl, rfl⟩ | ⟨z, h⟩
    · exact E.own j _ q hi w
    · exact E.own j t q h w
  · rcases gt j t h1 with ⟨rfl, rfl⟩ | ⟨z1, g1⟩
    · rcases gt k u h2 with ⟨rfl, rfl⟩ | ⟨z2, h2⟩
      · exact hjk rfl
      · exact E.apart j k _ u q hjk hi h2 w1 w2
    · rcases gt k u h2 with ⟨rfl, rfl⟩ | ⟨z2, h2⟩
      · exact E.apart j k t _ q hjk g1 hi w1 w2
      · exact E.apart j k t u q hjk g1 h2 w1 w2
theorem Env.write_m {i : Nat} {p : Addr} {xs ys : List (Key × D)} {vs : List (Key × V)} (E : Env K B Hs H σ Γ) (hi : Γ[i]? = some (.m xs)) (hv : σ[i]? = some (some (.ref p))) (hr : RpK K Hs vs ys) :
    Env K B Hs (upd H p (.dK vs)) σ (Γ.set i (.m ys)) := by
  have hl : i < Γ.length := (List.getElem?_eq_some_iff.mp hi).1
  have gv : σ[i]?.getD none = some (.ref p) := by rw [hv]; rfl
  have wi : owns (σ[i]?.getD none) p (.m xs) := gv
  have fp : B.F p = none := E.own i _ p hi wi
  have sp := (E.slot i _ hi).there wi
  have gt : ∀ (j : Nat) (t : SD), (Γ.set i (.m ys))[j]? = some t → (j = i ∧ t = .m ys) ∨ (j ≠ i ∧ Γ[j]? = some t) := fun j t h => by
    rw [List.getElem?_set] at h
    by_cases q : i = j
    · subst q; rw [if_pos rfl, if_pos hl] at h; cases h; exact .inl ⟨rfl, rfl⟩
    · rw [if_neg q] at h; exact .inr ⟨fun z => q z.symm, h⟩
  refine ⟨by rw [List.length_set, E.len], E.e0, E.e1.mut sp.1, E.fr.mut fp, E.nw, fun j t h => ?_, fun j t q h w => ?_, fun j k t u q hjk h1 h2 w1 w2 => ?_⟩
  · rcases gt j t h with ⟨rfl, rfl⟩ | ⟨q, h⟩
    · obtain ⟨p', vs', e, hn, hp, r⟩ := E.slot j _ hi
      rw [gv] at e; cases e
      exact ⟨p, vs, gv, hn, upd_same, hr⟩
    · refine (E.slot j t h).mono (Ex.refl _) (fun b u w hb => ?_) fun _ _ z => z
      have ne : b ≠ p := fun z => by subst z; exact E.apart j i _ _ b q h hi w wi
      rw [upd_ne ne]; exact hb
  · rcases gt j t h with ⟨rfl, rfl⟩ | ⟨z, h⟩
    · exact E.own j _ q hi w
    · exact E.own j t q h w
  · rcases gt j t h1 with ⟨rfl, rfl⟩ | ⟨z1, g1⟩
    · rcases gt k u h2 with ⟨rfl, rfl⟩ | ⟨z2, h2⟩
      · exact hjk rfl
      · exact E.apart j k _ u q hjk hi h2 w1 w2
    · rcases gt k u h2 with ⟨rfl, rfl⟩ | ⟨z2, h2⟩
      · exact E.apart j k t _ q hjk g1 hi w1 w2
      · exact E.apart j k t u q hjk g1 h2 w1 w2
end
end DL
/-! DL2: what an expression, a test, a block comes to, by data: judgements that hand on (Φ: what is wanted behind). -/
namespace DL
open PySem PySem.Spec PyProof.Rows L2

/-- the context of a body: no name twice, nothing handled, room, no repr under way, nothing raised -/
structure Cok (X : Cx) (k : Nat) : Prop where
  nd : X.N.Nodup
  calm : X.calm = true
  room : Room k X.A
  gd : X.A.guards = some []
  pass : PassesOwn (model X.prog X.w) X.A X.env X.xe

section
variable {X : Cx}
theorem PE.mono {e : Expr} {t t' : TE} (h : PE X e t) (m : ∀ σ H Q, t' σ H Q → t σ H Q) : PE X e t' := ⟨fun pins s σ H Q I q => h.run pins s σ H Q I (m σ H Q q)⟩
theorem PT.mono {e : Expr} {t t' : TT} (h : PT X e t) (m : ∀ σ H Q, t' σ H Q → t σ H Q) : PT X e t' := ⟨fun pins s σ H Q I q => h.run pins s σ H Q I (m σ H Q q)⟩
theorem PW.mono {e : Expr} {t t' : TT} (h : PW X e t) (m : ∀ σ H Q, t' σ H Q → t σ H Q) : PW X e t' := ⟨fun wh pins s σ H Q I q => h.run wh pins s σ H Q I (m σ H Q q)⟩
theorem PA.mono {es : List Expr} {t t' : TA} (h : PA X es t) (m : ∀ σ H Q, t' σ H Q → t σ H Q) : PA X es t' := ⟨fun pos pins s σ H Q I q => h.run pos pins s σ H Q I (m σ H Q q)⟩
theorem PS.mono {st : Stmt} {t t' : TS} (h : PS X st t) (m : ∀ D σ H, t' D σ H → t D σ H) : PS X st t' := ⟨fun pins s σ H D I q => h.run pins s σ H D I (m D σ H q)⟩
theorem PSs.mono {sts : List Stmt} {t t' : TS} (h : PSs X sts t) (m : ∀ D σ H, t' D σ H → t D σ H) : PSs X sts t' := ⟨fun pins s σ H D I q => h.run pins s σ H D I (m D σ H q)⟩
/-- all readings of an expression at once -/
def tAny (X : Cx) (e : Expr) : TE := fun σ H Q => ∃ t, PE X e t ∧ t σ H Q
theorem pe_any {e : Expr} : PE X e (tAny X e) := ⟨fun pins s σ H Q I ⟨_, h, q⟩ => h.run pins s σ H Q I q⟩
def ttAny (X : Cx) (e : Expr) : TT := fun σ H Q => ∃ t, PT X e t ∧ t σ H Q
theorem pt_any {e : Expr} : PT X e (ttAny X e) := ⟨fun pins s σ H Q I ⟨_, h, q⟩ => h.run pins s σ H Q I q⟩
def twAny (X : Cx) (e : Expr) : TT := fun σ H Q => ∃ t, PW X e t ∧ t σ H Q
theorem pw_any {e : Expr} : PW X e (twAny X e) := ⟨fun wh pins s σ H Q I ⟨_, h, q⟩ => h.run wh pins s σ H Q I q⟩
def taAny (X : Cx) (es : List Expr) : TA := fun σ H Q => ∃ t, PA X es t ∧ t σ H Q
theorem pa_any {es : List Expr} : PA X es (taAny X es) := ⟨fun pos pins s σ H Q I ⟨_, h, q⟩ => h.run pos pins s σ H Q I q⟩
def tsAny (X : Cx) (sts : List Stmt) : TS := fun D σ H => ∃ t, PSs X sts t ∧ t D σ H
theorem pss_any {sts : List Stmt} : PSs X sts (tsAny X sts) := ⟨fun pins s σ H D I ⟨_, h, q⟩ => h.run pins s σ H D I q⟩
end

/-! ### the wishes -/
def tW (K : PySem.W.Frag) (B : Base) (Γ : Ga) (Φ : Ga → RV → Prop) : TE := fun σ H Q => ∃ Hs, Env K B Hs H σ Γ ∧ ∀ v H' Hs' Γ' r, Ex Hs Hs' → Env K B Hs' H' σ Γ' → RvOk K B Hs' H' σ Γ' v r → Φ Γ' r → Q v H'
/-- the same where what is new is stable -/
def RV.kept : RV → Prop
  | .d _ => True
  | .o _ => True
  | _ => False
def RV.frz : RV → RV
  | .n xs => .d (.lst xs)
  | r => r
def tF (K : PySem.W.Frag) (B : Base) (Γ : Ga) (Φ : Ga → RV → Prop) : TE := fun σ H Q => ∃ Hs, Env K B Hs H σ Γ ∧ ∀ v H' Hs' Γ' r, Ex Hs Hs' → Env K B Hs' H' σ Γ' → RvOk K B Hs' H' σ Γ' v r → r.kept → Φ Γ' r → Q v H'
def tT (K : PySem.W.Frag) (B : Base) (Γ : Ga) (Φ : Ga → Bool → Prop) : TT := fun σ H Q => ∃ Hs, Env K B Hs H σ Γ ∧ ∀ b H' Hs' Γ', Ex Hs Hs' → Env K B Hs' H' σ Γ' → Φ Γ' b → Q b H'
inductive RvA (K : PySem.W.Frag) (B : Base) (Hs H : Hp) (σ : L2.St) (Γ : Ga) : List V → List RV → Prop
  | nil : RvA K B Hs H σ Γ [] []
  | cons {v : V} {vs : List V} {r : RV} {rs : List RV} : RvOk K B Hs H σ Γ v r → r.kept → RvA K B Hs H σ Γ vs rs → RvA K B Hs H σ Γ (v :: vs) (r :: rs)
def tA (K : PySem.W.Frag) (B : Base) (Γ : Ga) (Φ : Ga → List RV → Prop) : TA := fun σ H Q => ∃ Hs, Env K B Hs H σ Γ ∧ ∀ vs H' Hs' Γ' rs, Ex Hs Hs' → Env K B Hs' H' σ Γ' → RvA K B Hs' H' σ Γ' vs rs → Φ Γ' rs → Q vs H'
/-- what is wanted behind a block -/
structure Post where
  nx : Ga → Prop
  rt : Ga → RV → Prop
  bk : Ga → Prop
  ct : Ga → Prop
def tS (K : PySem.W.Frag) (B : Base) (Γ : Ga) (P : Post) : TS := fun D σ H => ∃ Hs, Env K B Hs H σ Γ ∧
  (∀ σ' H' Hs' Γ', Ex Hs Hs' → Env K B Hs' H' σ' Γ' → P.nx Γ' → D.nx σ' H') ∧ (∀ v σ' H' Hs' Γ' r, Ex Hs Hs' → Env K B Hs' H' σ' Γ' → RvOk K B Hs' H' σ' Γ' v r → P.rt Γ' r → D.rt v H') ∧
  (∀ σ' H' Hs' Γ', Ex Hs Hs' → Env K B Hs' H' σ' Γ' → P.bk Γ' → D.bk σ' H') ∧ (∀ σ' H' Hs' Γ', Ex Hs Hs' → Env K B Hs' H' σ' Γ' → P.ct Γ' → D.ct σ' H')

abbrev WE (X : Cx) (B : Base) (Γ : Ga) (e : Expr) (Φ : Ga → RV → Prop) : Prop := PE X e (tW X.K B Γ Φ)
abbrev WF (X : Cx) (B : Base) (Γ : Ga) (e : Expr) (Φ : Ga → RV → Prop) : Prop := PE X e (tF X.K B Γ Φ)
abbrev WT (X : Cx) (B : Base) (Γ : Ga) (e : Expr) (Φ : Ga → Bool → Prop) : Prop := PT X e (tT X.K B Γ Φ)
abbrev WW (X : Cx) (B : Base) (Γ : Ga) (e : Expr) (Φ : Ga → Bool → Prop) : Prop := PW X e (tT X.K B Γ Φ)
abbrev WA (X : Cx) (B : Base) (Γ : Ga) (es : List Expr) (Φ : Ga → List RV → Prop) : Prop := PA X es (tA X.K B Γ Φ)
abbrev WS (X : Cx) (B : Base) (Γ : Ga) (sts : List Stmt) (P : Post) : Prop := PSs X sts (tS X.K B Γ P)

section
variable {K : PySem.W.Frag} {B : Base} {Hs Hs' H H' : Hp} {σ : L2.St} {Γ Γ' : Ga} {v : V} {r : RV}
/-- a kept value stays a value -/
theorem RvOk.mono (h : RvOk K B Hs H σ Γ v r) (k : r.kept) (e : Ex Hs Hs') : RvOk K B Hs' H' σ Γ' v r := by
  cases r with
  | d x => exact Rp.mono e h
  | o i => exact h
  | n xs => exact k.elim
  | nm xs => exact k.elim
theorem RvA.mono : ∀ {vs : List V} {rs : List RV}, RvA K B Hs H σ Γ vs rs → Ex Hs Hs' → RvA K B Hs' H' σ Γ' vs rs
  | _, _, .nil, _ => .nil
  | _, _, .cons h k t, e => .cons (h.mono k e) k (RvA.mono t e)
/-- v can be read as x now -/
def Ra (K : PySem.W.Frag) (Hs H : Hp) (v : V) (x : D) : Prop := match x with
  | .lst xs => ∃ p vs, v = .ref p ∧ SqL K H p vs ∧ RpA K Hs vs xs
  | x => Rp K Hs v x
theorem Ra.of {x : D} (h : Rp K Hs v x) (e : Ex Hs H) : Ra K Hs H v x := by
  cases h with
  | lst h r => exact ⟨_, _, rfl, ex_l e h, r⟩
  | non => exact .non
  | bl b => exact .bl b
  | int i => exact .int i
  | str x => exact .str x
  | ty n => exact .ty n
  | obj a => exact .obj a
  | tup h r => exact .tup h r
  | ins h r => exact .ins h r
theorem Ra.rp {x : D} (h : Ra K Hs H v x) (e : Ex Hs H) : Rp K H v x := by
  cases x with
  | lst xs => obtain ⟨p, vs, rfl, h, r⟩ := h; exact .lst h (r.mono e)
  | _ => exact Rp.mono e h
inductive RaA (K : PySem.W.Frag) (Hs H : Hp) : List V → List D → Prop
  | nil : RaA K Hs H [] []
  | cons {v : V} {vs : List V} {d : D} {ds : List D} : Ra K Hs H v d → RaA K Hs H vs ds → RaA K Hs H (v :: vs) (d :: ds)
def RV.res (Γ : Ga) : RV → Option D
  | .d x => some x
  | .o i => match Γ[i]? with
    | some (.l _ xs) => some (.lst xs)
    | _ => none
  | .n xs => some (.lst xs)
  | .nm _ => none
def ress (Γ : Ga) : List RV → Option (List D)
  | [] => some []
  | r :: rs => match r.res Γ, ress Γ rs with
    | some x, some xs => some (x :: xs)
    | _, _ => none
theorem Env.slot_l {i : Nat} {o : Option Addr} {xs : List D} (E : Env K B Hs H σ Γ) (h : Γ[i]? = some (.l o xs)) : ∃ p vs, σ[i]? = some (some (.ref p)) ∧ (∀ q, o = some q → p = q) ∧ Hs p = none ∧ H p = some (.lst vs) ∧ RpA K Hs vs xs := by
  obtain ⟨p, vs, e, z, hn, hp, r⟩ := E.slot i _ h
  refine ⟨p, vs, ?_, z, hn, hp, r⟩
  cases q : σ[i]? with
  | none => rw [q] at e; cases e
  | some u => rw [q] at e; rw [show u = some (V.ref p) from e]
theorem Env.slot_m {i : Nat} {xs : List (Key × D)} (E : Env K B Hs H σ Γ) (h : Γ[i]? = some (.m xs)) : ∃ p vs, σ[i]? = some (some (.ref p)) ∧ Hs p = none ∧ H p = some (.dK vs) ∧ RpK K Hs vs xs := by
  obtain ⟨p, vs, e, hn, hp, r⟩ := E.slot i _ h
  refine ⟨p, vs, ?_, hn, hp, r⟩
  cases q : σ[i]? with
  | none => rw [q] at e; cases e
  | some u => rw [q] at e; rw [show u = some (V.ref p) from e]
theorem Env.slot_d {i : Nat} {x : D} (E : Env K B Hs H σ Γ) (h : Γ[i]? = some (.d x)) : ∃ v, σ[i]? = some (some v) ∧ Rp K Hs v x := by
  obtain ⟨v, e, r⟩ := E.slot i _ h
  refine ⟨v, ?_, r⟩
  cases q : σ[i]? with
  | none => rw [q] at e; cases e
  | some u => rw [q] at e; rw [show u = some v from e]
theorem res_ok {x : D} (E : Env K B Hs H σ Γ) (h : RvOk K B Hs H σ Γ v r) (e : r.res Γ = some x) : Ra K Hs H v x := by
  cases r with
  | d y => cases e; exact Ra.of h E.e1
  | o i =>
    have e : (match Γ[i]? with | some (SD.l _ xs) => some (D.lst xs) | _ => none) = some x := e
    split at e
    · rename_i o xs q
      cases e
      obtain ⟨p, vs, e1, _, _, hp, ra⟩ := E.slot_l q
      have h : σ[i]? = some (some v) := h
      rw [e1] at h; cases h
      exact ⟨p, vs, rfl, SqL.of hp, ra⟩
    · cases e
  | n xs =>
    cases e
    obtain ⟨p, vs, rfl, hp, ra, _⟩ := h
    exact ⟨p, vs, rfl, SqL.of hp, ra⟩
  | nm kvs => cases e
theorem ress_ok (E : Env K B Hs H σ Γ) : ∀ {vs : List V} {rs : List RV} {xs : List D}, RvA K B Hs H σ Γ vs rs → ress Γ rs = some xs → RaA K Hs H vs xs
  | _, [], _, h, e => by cases h; cases e; exact .nil
  | _, r :: rs, _, h, e => by
    cases h with
    | cons h k t =>
      have e : (match r.res Γ, ress Γ rs with | some x, some xs => some (x :: xs) | _, _ => none) = some _ := e
      split at e
      · rename_i x xs q1 q2
        cases e
        exact .cons (res_ok E h q1) (ress_ok E t q2)
      · cases e
/-- what may stand newly behind an operation: some objects more, all stable -/
inductive Grow (Hs H : Hp) : Hp → Hp → Prop
  | refl : Grow Hs H Hs H
  | step {H1 H2 : Hp} {p : Addr} {o : HO} : Grow Hs H H1 H2 → H2 p = none → Grow Hs H (upd H1 p o) (upd H2 p o)
theorem Env.grow (E : Env K B Hs H σ Γ) (g : Grow Hs H Hs' H') : Env K B Hs' H' σ Γ ∧ Ex Hs Hs' := by
  induction g with
  | refl => exact ⟨E, Ex.refl _⟩
  | step g hp ih => exact ⟨ih.1.stable hp, ih.2.trans (Ex.new (ih.1.e1.none hp))⟩
end
end DL
/-! DL3: the rules for expressions and tests. -/
namespace DL
open PySem PySem.Spec PyProof.Rows L2

/-! ### operations on data -/
def R2D (K : PySem.W.Frag) (r : R2) (x y z : D) : Prop := ∀ (Hs H : Hp) (vx vy : V) (Q : VK), Ex Hs H → Ra K Hs H vx x → Ra K Hs H vy y → (∀ v Hs' H', Grow Hs H Hs' H' → Rp K Hs' v z → Q v H') → r vx vy H Q
def OpD (X : Cx) (f : Value → Value → Sem Value) (x y z : D) : Prop := ∃ r, OpR X f r ∧ R2D X.K r x y z
def IxD (X : Cx) (x y z : D) : Prop := ∃ r, IxR X r ∧ R2D X.K r x y z
def R1D (K : PySem.W.Frag) (r : V → Hp → VK → Prop) (x z : D) : Prop := ∀ (Hs H : Hp) (vx : V) (Q : VK), Ex Hs H → Ra K Hs H vx x → (∀ v Hs' H', Grow Hs H Hs' H' → Rp K Hs' v z → Q v H') → r vx H Q
def UnD (X : Cx) (f : Value → Sem Value) (x z : D) : Prop := ∃ r, UnR X f r ∧ R1D X.K r x z
def RAD (K : PySem.W.Frag) (r : List V → Hp → VK → Prop) (xs : List D) (z : D) : Prop := ∀ (Hs H : Hp) (vs : List V) (Q : VK), Ex Hs H → RaA K Hs H vs xs → (∀ v Hs' H', Grow Hs H Hs' H' → Rp K Hs' v z → Q v H') → r vs H Q
def CallD (X : Cx) (f : Value) (xs : List D) (z : D) : Prop := ∃ r, CallR X f r ∧ RAD X.K r xs z
/-- a call that makes a new list -/
def RAN (K : PySem.W.Frag) (r : List V → Hp → VK → Prop) (xs : List D) (zs : List D) : Prop := ∀ (Hs H : Hp) (vs : List V) (Q : VK), Ex Hs H → RaA K Hs H vs xs → (∀ p us Hs' H', Grow Hs H Hs' H' → H' p = none → RpA K Hs' us zs → Q (.ref p) (upd H' p (.lst us))) → r vs H Q
def CallN (X : Cx) (f : Value) (xs : List D) (zs : List D) : Prop := ∃ r, CallR X f r ∧ RAN X.K r xs zs
def SlD (X : Cx) (x : D) (lo hi : Option Int) (z : D) : Prop := ∃ r, SlR X r ∧ ∀ (Hs H : Hp) (vx : V) (Q : VK), Ex Hs H → Ra X.K Hs H vx x → (∀ v Hs' H', Grow Hs H Hs' H' → Rp X.K Hs' v z → Q v H') → r vx lo hi H Q
def SlN (X : Cx) (x : D) (lo hi : Option Int) (zs : List D) : Prop := ∃ r, SlR X r ∧ ∀ (Hs H : Hp) (vx : V) (Q : VK), Ex Hs H → Ra X.K Hs H vx x → (∀ p us, H p = none → RpA X.K Hs us zs → Q (.ref p) (upd H p (.lst us))) → r vx lo hi H Q
def MtD (X : Cx) (T id : String) (x : D) (xs : List D) (z : D) : Prop := ∃ r, MtR X id r ∧ ∀ (Hs H : Hp) (vx : V), Ex Hs H → Ra X.K Hs H vx x → tyV X.K T vx H ∧
  ∀ (vs : List V) (Hs' H' : Hp) (Q : VK), Ex Hs Hs' → Ex Hs' H' → RaA X.K Hs' H' vs xs → (∀ v Hs2 H2, Grow Hs' H' Hs2 H2 → Rp X.K Hs2 v z → Q v H2) → r vx vs H' Q

section
variable {X : Cx} {B : Base} {Γ : Ga} {a b c e : Expr} {es rest : List Expr} {pos : Pos} {Φ : Ga → RV → Prop} {Ψ : Ga → Bool → Prop}
def rAnyO (X : Cx) (f : Value → Value → Sem Value) : R2 := fun x y H Q => ∃ r, OpR X f r ∧ r x y H Q
theorem opr_any {f : Value → Value → Sem Value} : OpR X f (rAnyO X f) := fun pins s σ H x y v u Q I rx ry ⟨_, h, q⟩ => h pins s σ H x y v u Q I rx ry q
def rAnyU (X : Cx) (f : Value → Sem Value) : V → Hp → VK → Prop := fun x H Q => ∃ r, UnR X f r ∧ r x H Q
theorem unr_any {f : Value → Sem Value} : UnR X f (rAnyU X f) := fun pins s σ H x v Q I rx ⟨_, h, q⟩ => h pins s σ H x v Q I rx q
def rAnyC (X : Cx) (f : Value) : List V → Hp → VK → Prop := fun x H Q => ∃ r, CallR X f r ∧ r x H Q
theorem callr_any {f : Value} : CallR X f (rAnyC X f) := fun pins s σ H xs us Q I rx ⟨_, h, q⟩ => h pins s σ H xs us Q I rx q
def rAnyI (X : Cx) : R2 := fun x y H Q => ∃ r, IxR X r ∧ r x y H Q
theorem ixr_any : IxR X (rAnyI X) := fun va sl pins s σ H x y v u Q I rx ry ⟨_, h, q⟩ => h va sl pins s σ H x y v u Q I rx ry q
def rAnyS (X : Cx) : V → Option Int → Option Int → Hp → VK → Prop := fun x lo hi H Q => ∃ r, SlR X r ∧ r x lo hi H Q
theorem slr_any : SlR X (rAnyS X) := fun pins s σ H x v vl vu lo hi sl Q I rx hs pl pu ⟨_, h, q⟩ => h pins s σ H x v vl vu lo hi sl Q I rx hs pl pu q
def rAnyM (X : Cx) (id : String) : V → List V → Hp → VK → Prop := fun x xs H Q => ∃ r, MtR X id r ∧ r x xs H Q
theorem mtr_any {id : String} : MtR X id (rAnyM X id) := fun pins s σ H x xs v us Q I rx rxs ⟨_, h, q⟩ => h pins s σ H x xs v us Q I rx rxs q

/-! ### freezing -/
theorem wf_of (h : WE X B Γ e (fun Γ' r => r.frz.kept ∧ Φ Γ' r.frz)) : WF X B Γ e Φ := PE.mono h fun σ H Q ⟨Hs, E, q⟩ => ⟨Hs, E, fun v H' Hs' Γ' r ex E' ok w => by
  cases r with
  | d x => exact q v H' Hs' Γ' _ ex E' ok w.1 w.2
  | o i => exact q v H' Hs' Γ' _ ex E' ok w.1 w.2
  | n xs =>
    obtain ⟨p, vs, rfl, hp, ra, f⟩ := ok
    have E2 := E'.freeze hp f
    have ex2 : Ex Hs' (upd Hs' p (.lst vs)) := Ex.new f.1
    exact q (.ref p) H' _ Γ' (.d (.lst xs)) (ex.trans ex2) E2 (Rp.lst (SqL.of upd_same) (ra.mono ex2)) w.1 w.2
  | nm kvs => exact w.1.elim⟩
/-- by the same Φ -/
theorem wf_d (h : WE X B Γ e (fun Γ' r => (∃ x, r = .d x) ∧ Φ Γ' r)) : WF X B Γ e Φ := PE.mono h fun σ H Q ⟨Hs, E, q⟩ => ⟨Hs, E, fun v H' Hs' Γ' r ex E' ok w => by
  obtain ⟨⟨x, rfl⟩, w⟩ := w
  exact q v H' Hs' Γ' _ ex E' ok trivial w⟩

/-! ### names and constants -/
theorem w_d {i : Nat} {x : Str} {y : D} (h : Γ[i]? = some (.d y)) (hΦ : Φ Γ (.d y)) (hN : X.N[i]? = some x := by rfl) (hv : Vis X.env.scope x := by first | exact Or.inl rfl | exact Or.inr (Or.inl rfl) | exact Or.inr (Or.inr rfl))
    (hd : (x == ("__debug__" : Str)) = false := by decide) (hcd : (x == ("__classdict__" : Str)) = false := by decide) : WE X B Γ (.Name x pos) Φ := PE.mono (pe_var hN hv hd hcd) fun σ H Q ⟨Hs, E, q⟩ => by
  obtain ⟨v, e, r⟩ := E.slot_d h
  exact ⟨v, e, q v H Hs Γ (.d y) (Ex.refl _) E r hΦ⟩
theorem w_l {i : Nat} {x : Str} {o : Option Addr} {ys : List D} (h : Γ[i]? = some (.l o ys)) (hΦ : Φ Γ (.o i)) (hN : X.N[i]? = some x := by rfl) (hv : Vis X.env.scope x := by first | exact Or.inl rfl | exact Or.inr (Or.inl rfl) | exact Or.inr (Or.inr rfl))
    (hd : (x == ("__debug__" : Str)) = false := by decide) (hcd : (x == ("__classdict__" : Str)) = false := by decide) : WE X B Γ (.Name x pos) Φ := PE.mono (pe_var hN hv hd hcd) fun σ H Q ⟨Hs, E, q⟩ => by
  obtain ⟨p, vs, e, _⟩ := E.slot_l h
  exact ⟨_, e, q _ H Hs Γ (.o i) (Ex.refl _) E e hΦ⟩
theorem w_m {i : Nat} {x : Str} {ys : List (Key × D)} (h : Γ[i]? = some (.m ys)) (hΦ : Φ Γ (.o i)) (hN : X.N[i]? = some x := by rfl) (hv : Vis X.env.scope x := by first | exact Or.inl rfl | exact Or.inr (Or.inl rfl) | exact Or.inr (Or.inr rfl))
    (hd : (x == ("__debug__" : Str)) = false := by decide) (hcd : (x == ("__classdict__" : Str)) = false := by decide) : WE X B Γ (.Name x pos) Φ := PE.mono (pe_var hN hv hd hcd) fun σ H Q ⟨Hs, E, q⟩ => by
  obtain ⟨p, vs, e, _⟩ := E.slot_m h
  exact ⟨_, e, q _ H Hs Γ (.o i) (Ex.refl _) E e hΦ⟩
theorem w_const {t : TE} {v : V} {y : D} (h : PE X e t) (ht : ∀ σ H (Q : VK), Q v H → t σ H Q) (r : ∀ Hs, Rp X.K Hs v y) (hΦ : Φ Γ (.d y)) : WE X B Γ e Φ := PE.mono h fun σ H Q ⟨Hs, E, q⟩ =>
  ht σ H Q (q v H Hs Γ (.d y) (Ex.refl _) E (r Hs) hΦ)
theorem w_int {i j} (h : Φ Γ (.d (.int i))) : WE X B Γ (.Constant (.int i) j pos) Φ := w_const pe_int (fun _ _ _ q => q) (fun _ => .int i) h
theorem w_bl {b j} (h : Φ Γ (.d (.bl b))) : WE X B Γ (.Constant (.bool b) j pos) Φ := w_const pe_bl (fun _ _ _ q => q) (fun _ => .bl b) h
theorem w_non {j} (h : Φ Γ (.d .non)) : WE X B Γ (.Constant .none j pos) Φ := w_const pe_non (fun _ _ _ q => q) (fun _ => .non) h
theorem w_str {x j} (h : Φ Γ (.d (.str x))) : WE X B Γ (.Constant (.str x) j pos) Φ := w_const pe_str (fun _ _ _ q => q) (fun _ => .str x) h
/-- a module's constant -/
theorem w_glob {x : Str} {v : V} {u : Value} {y : D} (hm : X.mg x = some u) (r : RelV v u) (ry : ∀ Hs, Rp X.K Hs v y) (h : Φ Γ (.d y)) (hg : Gl X x := by rfl) (hd : (x == ("__debug__" : Str)) = false := by decide) : WE X B Γ (.Name x pos) Φ :=
  w_const (pe_glob hg hm r hd) (fun _ _ _ q => q) ry h
/-- a built-in type as a value -/
theorem w_type {x : Str} {n : String} (hm : X.mg x = none) (hv : bootBuiltins x = some (.type n)) (h : Φ Γ (.d (.ty n))) (hg : Gl X x := by rfl) (hn : x ≠ "__name__" := by decide) (hd : (x == ("__debug__" : Str)) = false := by decide) : WE X B Γ (.Name x pos) Φ :=
  w_const (pe_bltn (v := .ty n) hg hm hv rfl hn hd) (fun _ _ _ q => q) (fun _ => .ty n) h

/-! ### operators -/
theorem w_bin {op : Operator} (h : WF X B Γ a fun Γ1 r1 => WF X B Γ1 b fun Γ2 r2 => ∃ x y z, r1.res Γ2 = some x ∧ r2.res Γ2 = some y ∧ OpD X (binaryOp op) x y z ∧ Φ Γ2 (.d z)) : WE X B Γ (.BinOp a op b pos) Φ :=
  PE.mono (pe_op opr_any h pe_any) fun σ H Q ⟨Hs, E, q⟩ => ⟨Hs, E, fun v1 H1 Hs1 Γ1 r1 ex1 E1 ok1 k1 w1 => ⟨_, w1, Hs1, E1, fun v2 H2 Hs2 Γ2 r2 ex2 E2 ok2 k2 w2 => by
    obtain ⟨x, y, z, e1, e2, ⟨r, hr, rd⟩, w⟩ := w2
    refine ⟨r, hr, rd Hs2 H2 v1 v2 Q E2.e1 (res_ok E2 (ok1.mono k1 ex2) e1) (res_ok E2 ok2 e2) fun v Hs3 H3 g rz => ?_⟩
    obtain ⟨E3, ex3⟩ := E2.grow g
    exact q v H3 Hs3 Γ2 (.d z) ((ex1.trans ex2).trans ex3) E3 rz w⟩⟩
theorem w_un {op : UnaryOp} (h : WF X B Γ a fun Γ1 r1 => ∃ x z, r1.res Γ1 = some x ∧ UnD X (unaryOp op) x z ∧ Φ Γ1 (.d z)) : WE X B Γ (.UnaryOp op a pos) Φ :=
  PE.mono (pe_un unr_any h) fun σ H Q ⟨Hs, E, q⟩ => ⟨Hs, E, fun v1 H1 Hs1 Γ1 r1 ex1 E1 ok1 k1 w1 => by
    obtain ⟨x, z, e1, ⟨r, hr, rd⟩, w⟩ := w1
    refine ⟨r, hr, rd Hs1 H1 v1 Q E1.e1 (res_ok E1 ok1 e1) fun v Hs3 H3 g rz => ?_⟩
    obtain ⟨E3, ex3⟩ := E1.grow g
    exact q v H3 Hs3 Γ1 (.d z) (ex1.trans ex3) E3 rz w⟩
theorem w_cmp {op : CmpOp} (h : WF X B Γ a fun Γ1 r1 => WF X B Γ1 b fun Γ2 r2 => ∃ x y z, r1.res Γ2 = some x ∧ r2.res Γ2 = some y ∧ OpD X (compareOp op) x y z ∧ Φ Γ2 (.d z))
    (hm : behindInMarks op b = false := by first | exact nomark _ | with_unfolding_all rfl) : WE X B Γ (.Compare a [op] [b] pos) Φ :=
  PE.mono (pe_cmpR opr_any h pe_any hm) fun σ H Q ⟨Hs, E, q⟩ => ⟨Hs, E, fun v1 H1 Hs1 Γ1 r1 ex1 E1 ok1 k1 w1 => ⟨_, w1, Hs1, E1, fun v2 H2 Hs2 Γ2 r2 ex2 E2 ok2 k2 w2 => by
    obtain ⟨x, y, z, e1, e2, ⟨r, hr, rd⟩, w⟩ := w2
    refine ⟨r, hr, rd Hs2 H2 v1 v2 Q E2.e1 (res_ok E2 (ok1.mono k1 ex2) e1) (res_ok E2 ok2 e2) fun v Hs3 H3 g rz => ?_⟩
    obtain ⟨E3, ex3⟩ := E2.grow g
    exact q v H3 Hs3 Γ2 (.d z) ((ex1.trans ex2).trans ex3) E3 rz w⟩⟩
theorem wt_cmp {op : CmpOp} (h : WF X B Γ a fun Γ1 r1 => WF X B Γ1 b fun Γ2 r2 => ∃ x y z, r1.res Γ2 = some x ∧ r2.res Γ2 = some y ∧ OpD X (compareOp op) x y (.bl z) ∧ Ψ Γ2 z)
    (hm : behindInMarks op b = false := by first | exact nomark _ | with_unfolding_all rfl) : WT X B Γ (.Compare a [op] [b] pos) Ψ :=
  PT.mono (pt_cmpR opr_any h pe_any hm) fun σ H Q ⟨Hs, E, q⟩ => ⟨Hs, E, fun v1 H1 Hs1 Γ1 r1 ex1 E1 ok1 k1 w1 => ⟨_, w1, Hs1, E1, fun v2 H2 Hs2 Γ2 r2 ex2 E2 ok2 k2 w2 => by
    obtain ⟨x, y, z, e1, e2, ⟨r, hr, rd⟩, w⟩ := w2
    refine ⟨r, hr, rd Hs2 H2 v1 v2 _ E2.e1 (res_ok E2 (ok1.mono k1 ex2) e1) (res_ok E2 ok2 e2) fun v Hs3 H3 g rz => ?_⟩
    obtain ⟨E3, ex3⟩ := E2.grow g
    cases rz
    exact ⟨z, rfl, q z H3 Hs3 Γ2 ((ex1.trans ex2).trans ex3) E3 w⟩⟩⟩
/-- a op b op' c -/
theorem w_chain {op op' : CmpOp} (h : WF X B Γ a fun Γ1 r1 => WF X B Γ1 b fun Γ2 r2 => ∃ x y k, r1.res Γ2 = some x ∧ r2.res Γ2 = some y ∧ OpD X (compareOp op) x y (.bl k) ∧
      if k = true then WF X B Γ2 c fun Γ3 r3 => ∃ y' w z, r2.res Γ3 = some y' ∧ r3.res Γ3 = some w ∧ OpD X (compareOp op') y' w z ∧ Φ Γ3 (.d z) else Φ Γ2 (.d (.bl false)))
    (hm : lastMarks [op, op'] [b, c] = false := by with_unfolding_all rfl) : WE X B Γ (.Compare a [op, op'] [b, c] pos) Φ :=
  PE.mono (pe_chain opr_any opr_any h pe_any pe_any hm) fun σ H Q ⟨Hs, E, q⟩ => ⟨Hs, E, fun v1 H1 Hs1 Γ1 r1 ex1 E1 ok1 k1 w1 => ⟨_, w1, Hs1, E1, fun v2 H2 Hs2 Γ2 r2 ex2 E2 ok2 k2 w2 => by
    obtain ⟨x, y, k, e1, e2, ⟨r, hr, rd⟩, w⟩ := w2
    refine ⟨r, hr, rd Hs2 H2 v1 v2 _ E2.e1 (res_ok E2 (ok1.mono k1 ex2) e1) (res_ok E2 ok2 e2) fun v Hs3 H3 g rz => ?_⟩
    obtain ⟨E3, ex3⟩ := E2.grow g
    cases rz
    refine ⟨k, rfl, ?_⟩
    cases k with
    | false =>
      rw [if_neg Bool.false_ne_true] at w ⊢
      exact q _ H3 Hs3 Γ2 (.d (.bl false)) ((ex1.trans ex2).trans ex3) E3 (.bl false) w
    | true =>
      rw [if_pos rfl] at w ⊢
      refine ⟨_, w, Hs3, E3, fun v4 H4 Hs4 Γ4 r4 ex4 E4 ok4 k4 w4 => ?_⟩
      obtain ⟨y', w', z, f1, f2, ⟨r', hr', rd'⟩, w5⟩ := w4
      refine ⟨r', hr', rd' Hs4 H4 v2 v4 Q E4.e1 (res_ok E4 (ok2.mono k2 (ex3.trans ex4)) f1) (res_ok E4 ok4 f2) fun v Hs5 H5 g5 rz => ?_⟩
      obtain ⟨E5, ex5⟩ := E4.grow g5
      exact q v H5 Hs5 Γ4 (.d z) ((((ex1.trans ex2).trans ex3).trans ex4).trans ex5) E5 rz w5⟩⟩
theorem wt_chain {op op' : CmpOp} (h : WF X B Γ a fun Γ1 r1 => WF X B Γ1 b fun Γ2 r2 => ∃ x y k, r1.res Γ2 = some x ∧ r2.res Γ2 = some y ∧ OpD X (compareOp op) x y (.bl k) ∧
      if k = true then WF X B Γ2 c fun Γ3 r3 => ∃ y' w z, r2.res Γ3 = some y' ∧ r3.res Γ3 = some w ∧ OpD X (compareOp op') y' w (.bl z) ∧ Ψ Γ3 z else Ψ Γ2 false)
    (hm : lastMarks [op, op'] [b, c] = false := by with_unfolding_all rfl) : WT X B Γ (.Compare a [op, op'] [b, c] pos) Ψ :=
  PT.mono (pt_chain opr_any opr_any h pe_any pe_any hm) fun σ H Q ⟨Hs, E, q⟩ => ⟨Hs, E, fun v1 H1 Hs1 Γ1 r1 ex1 E1 ok1 k1 w1 => ⟨_, w1, Hs1, E1, fun v2 H2 Hs2 Γ2 r2 ex2 E2 ok2 k2 w2 => by
    obtain ⟨x, y, k, e1, e2, ⟨r, hr, rd⟩, w⟩ := w2
    refine ⟨r, hr, rd Hs2 H2 v1 v2 _ E2.e1 (res_ok E2 (ok1.mono k1 ex2) e1) (res_ok E2 ok2 e2) fun v Hs3 H3 g rz => ?_⟩
    obtain ⟨E3, ex3⟩ := E2.grow g
    cases rz
    refine ⟨k, rfl, ?_⟩
    cases k with
    | false =>
      rw [if_neg Bool.false_ne_true] at w ⊢
      exact ⟨false, rfl, q _ H3 Hs3 Γ2 ((ex1.trans ex2).trans ex3) E3 w⟩
    | true =>
      rw [if_pos rfl] at w ⊢
      refine ⟨_, w, Hs3, E3, fun v4 H4 Hs4 Γ4 r4 ex4 E4 ok4 k4 w4 => ?_⟩
      obtain ⟨y', w', z, f1, f2, ⟨r', hr', rd'⟩, w5⟩ := w4
      refine ⟨r', hr', rd' Hs4 H4 v2 v4 _ E4.e1 (res_ok E4 (ok2.mono k2 (ex3.trans ex4)) f1) (res_ok E4 ok4 f2) fun v Hs5 H5 g5 rz => ?_⟩
      obtain ⟨E5, ex5⟩ := E4.grow g5
      cases rz
      exact ⟨z, rfl, q z H5 Hs5 Γ4 ((((ex1.trans ex2).trans ex3).trans ex4).trans ex5) E5 w5⟩⟩⟩

/-! ### truth -/
def truD : D → Option Bool
  | .non => some false
  | .bl b => some b
  | .int i => some (i != 0)
  | .tup xs => some (!xs.isEmpty)
  | .lst xs => some (!xs.isEmpty)
  | _ => none
theorem truD_ok {K : PySem.W.Frag} {Hs H : Hp} {v : V} {x : D} {k : Bool} (h : Ra K Hs H v x) (e : Ex Hs H) (t : truD x = some k) : TruV K v H k := by
  have em : ∀ {vs : List V} {xs : List D}, RpA K Hs vs xs → vs.isEmpty = xs.isEmpty := fun r => by cases r <;> rfl
  cases x with
  | non => cases h; cases t; rfl
  | bl b => cases h; cases t; rfl
  | int i => cases h; cases t; rfl
  | tup xs =>
    cases t
    cases h with
    | tup hs r => exact .inr (.inl ⟨_, ex_t e hs, by rw [em r]⟩)
  | lst xs =>
    cases t
    obtain ⟨p, vs, rfl, hs, r⟩ := h
    exact .inl ⟨_, hs, by rw [em r]⟩
  | str y => cases t
  | ins C fs => cases t
  | ty n => cases t
  | obj a => cases t
/-- any expression as a test, by its value's truth -/
theorem wt_val (h : WF X B Γ e fun Γ1 r => ∃ x k, r.res Γ1 = some x ∧ truD x = some k ∧ Ψ Γ1 k)
    (he : ∀ whole, isTrue e X.env whole = (do let v ← whole; standAt e.pos; holding [v] (truthy v)) := by intro _; rfl) : WT X B Γ e Ψ :=
  PT.mono (pt_truth h he) fun σ H Q ⟨Hs, E, q⟩ => ⟨Hs, E, fun v H1 Hs1 Γ1 r ex E1 ok k w => by
    obtain ⟨x, b, e1, t, w⟩ := w
    exact ⟨b, truD_ok (res_ok E1 ok e1) E1.e1 t, q b H1 Hs1 Γ1 ex E1 w⟩⟩
theorem ww_and1 (h : WT X B Γ a Ψ) : WW X B Γ (.BoolOp .And [a] pos) Ψ := pw_and1 h
theorem ww_or1 (h : WT X B Γ a Ψ) : WW X B Γ (.BoolOp .Or [a] pos) Ψ := pw_or1 h
theorem ww_and (h : WT X B Γ a fun Γ1 k => if k = true then WW X B Γ1 (.BoolOp .And (b :: rest) pos) Ψ else Ψ Γ1 false) : WW X B Γ (.BoolOp .And (a :: b :: rest) pos) Ψ :=
  PW.mono (pw_and h pw_any) fun σ H Q ⟨Hs, E, q⟩ => ⟨Hs, E, fun k H1 Hs1 Γ1 ex E1 w => by
    cases k with
    | true => rw [if_pos rfl] at w ⊢; exact ⟨_, w, Hs1, E1, fun k2 H2 Hs2 Γ2 ex2 => q k2 H2 Hs2 Γ2 (ex.trans ex2)⟩
    | false => rw [if_neg Bool.false_ne_true] at w ⊢; exact q false H1 Hs1 Γ1 ex E1 w⟩
theorem ww_or (h : WT X B Γ a fun Γ1 k => if k = true then Ψ Γ1 true else WW X B Γ1 (.BoolOp .Or (b :: rest) pos) Ψ) : WW X B Γ (.BoolOp .Or (a :: b :: rest) pos) Ψ :=
  PW.mono (pw_or h pw_any) fun σ H Q ⟨Hs, E, q⟩ => ⟨Hs, E, fun k H1 Hs1 Γ1 ex E1 w => by
    cases k with
    | false => rw [if_neg Bool.false_ne_true] at w ⊢; exact ⟨_, w, Hs1, E1, fun k2 H2 Hs2 Γ2 ex2 => q k2 H2 Hs2 Γ2 (ex.trans ex2)⟩
    | true => rw [if_pos rfl] at w ⊢; exact q true H1 Hs1 Γ1 ex E1 w⟩
theorem wt_bool {op : BoolOp} (h : WW X B Γ (.BoolOp op rest pos) Ψ) : WT X B Γ (.BoolOp op rest pos) Ψ := PW.pt h
theorem wt_not (h : WT X B Γ a fun Γ1 k => Ψ Γ1 (!k)) : WT X B Γ (.UnaryOp .Not a pos) Ψ :=
  PT.mono (pt_not h) fun σ H Q ⟨Hs, E, q⟩ => ⟨Hs, E, fun k H1 Hs1 Γ1 ex E1 w => q (!k) H1 Hs1 Γ1 ex E1 w⟩
/-! ### and, or, not as values -/
theorem w_one {op} (h : WE X B Γ a Φ) : WE X B Γ (.BoolOp op [a] pos) Φ := pe_one h
theorem w_and (h : WF X B Γ a fun Γ1 r => ∃ x k, r.res Γ1 = some x ∧ truD x = some k ∧ if k = true then WE X B Γ1 (.BoolOp .And (b :: rest) pos) Φ else Φ Γ1 r) : WE X B Γ (.BoolOp .And (a :: b :: rest) pos) Φ :=
  PE.mono (pe_andT h pe_any) fun σ H Q ⟨Hs, E, q⟩ => ⟨Hs, E, fun v H1 Hs1 Γ1 r ex E1 ok k w => by
    obtain ⟨x, b, e1, t, w⟩ := w
    refine ⟨b, truD_ok (res_ok E1 ok e1) E1.e1 t, ?_⟩
    cases b with
    | true => rw [if_pos rfl] at w ⊢; exact ⟨_, w, Hs1, E1, fun v2 H2 Hs2 Γ2 r2 ex2 => q v2 H2 Hs2 Γ2 r2 (ex.trans ex2)⟩
    | false => rw [if_neg Bool.false_ne_true] at w ⊢; exact q v H1 Hs1 Γ1 r ex E1 ok w⟩
theorem w_or (h : WF X B Γ a fun Γ1 r => ∃ x k, r.res Γ1 = some x ∧ truD x = some k ∧ if k = true then Φ Γ1 r else WE X B Γ1 (.BoolOp .Or (b :: rest) pos) Φ) : WE X B Γ (.BoolOp .Or (a :: b :: rest) pos) Φ :=
  PE.mono (pe_orT h pe_any) fun σ H Q ⟨Hs, E, q⟩ => ⟨Hs, E, fun v H1 Hs1 Γ1 r ex E1 ok k w => by
    obtain ⟨x, b, e1, t, w⟩ := w
    refine ⟨b, truD_ok (res_ok E1 ok e1) E1.e1 t, ?_⟩
    cases b with
    | false => rw [if_neg Bool.false_ne_true] at w ⊢; exact ⟨_, w, Hs1, E1, fun v2 H2 Hs2 Γ2 r2 ex2 => q v2 H2 Hs2 Γ2 r2 (ex.trans ex2)⟩
    | true => rw [if_pos rfl] at w ⊢; exact q v H1 Hs1 Γ1 r ex E1 ok w⟩
theorem w_not (h : WF X B Γ a fun Γ1 r => ∃ x k, r.res Γ1 = some x ∧ truD x = some k ∧ Φ Γ1 (.d (.bl (!k)))) : WE X B Γ (.UnaryOp .Not a pos) Φ :=
  PE.mono (pe_notT h) fun σ H Q ⟨Hs, E, q⟩ => ⟨Hs, E, fun v H1 Hs1 Γ1 r ex E1 ok k w => by
    obtain ⟨x, b, e1, t, w⟩ := w
    exact ⟨b, truD_ok (res_ok E1 ok e1) E1.e1 t, q _ H1 Hs1 Γ1 (.d (.bl (!b))) ex E1 (.bl _) w⟩⟩
theorem w_ifexp (h : WT X B Γ c fun Γ1 k => if k = true then WE X B Γ1 a Φ else WE X B Γ1 b Φ) : WE X B Γ (.IfExp c a b pos) Φ :=
  PE.mono (pe_ifExp h pe_any pe_any) fun σ H Q ⟨Hs, E, q⟩ => ⟨Hs, E, fun k H1 Hs1 Γ1 ex E1 w => by
    cases k with
    | true => rw [if_pos rfl] at w ⊢; exact ⟨_, w, Hs1, E1, fun v2 H2 Hs2 Γ2 r2 ex2 => q v2 H2 Hs2 Γ2 r2 (ex.trans ex2)⟩
    | false => rw [if_neg Bool.false_ne_true] at w ⊢; exact ⟨_, w, Hs1, E1, fun v2 H2 Hs2 Γ2 r2 ex2 => q v2 H2 Hs2 Γ2 r2 (ex.trans ex2)⟩⟩

/-! ### argument lists, displays -/
variable {Θ : Ga → List RV → Prop}
theorem wa_nil (h : Θ Γ []) : WA X B Γ [] Θ := PA.mono pa_nil fun σ H Q ⟨Hs, E, q⟩ => q [] H Hs Γ [] (Ex.refl _) E .nil h
theorem wa_cons (h : WF X B Γ e fun Γ1 r => WA X B Γ1 es fun Γ2 rs => Θ Γ2 (r :: rs)) (hs : starEach (e :: es) X.env = (false, eval e X.env) :: starEach es X.env := by rfl) : WA X B Γ (e :: es) Θ :=
  PA.mono (pa_cons h pa_any hs) fun σ H Q ⟨Hs, E, q⟩ => ⟨Hs, E, fun v H1 Hs1 Γ1 r ex E1 ok k w => ⟨_, w, Hs1, E1, fun vs H2 Hs2 Γ2 rs ex2 E2 oks w2 => q (v :: vs) H2 Hs2 Γ2 (r :: rs) (ex.trans ex2) E2 (.cons (ok.mono k ex2) k oks) w2⟩⟩
theorem rva_ds {K : PySem.W.Frag} {Hs H : Hp} {σ : L2.St} : ∀ {vs : List V} {xs : List D}, RvA K B Hs H σ Γ vs (xs.map .d) → RpA K Hs vs xs
  | _, [], h => by cases h; exact .nil
  | _, x :: xs, h => by
    cases h with
    | cons h _ t => exact .cons h (rva_ds t)
theorem rva_of {K : PySem.W.Frag} {Hs H : Hp} {σ : L2.St} : ∀ {vs : List V} {xs : List D}, RpA K Hs vs xs → RvA K B Hs H σ Γ vs (xs.map .d)
  | _, [], h => by cases h; exact .nil
  | _, x :: xs, h => by
    cases h with
    | cons h t => exact .cons h trivial (rva_of t)
theorem rva_append {K : PySem.W.Frag} {Hs H : Hp} {σ : L2.St} : ∀ {vs ws : List V} {rs ts : List RV}, RvA K B Hs H σ Γ vs rs → RvA K B Hs H σ Γ ws ts → RvA K B Hs H σ Γ (vs ++ ws) (rs ++ ts)
  | _, _, _, _, .nil, t => t
  | _, _, _, _, .cons h k r, t => .cons h k (rva_append r t)
/-- the values of an argument list are all data -/
inductive AllD : List RV → List D → Prop
  | nil : AllD [] []
  | cons {x : D} {rs : List RV} {xs : List D} : AllD rs xs → AllD (.d x :: rs) (x :: xs)
  | app {xs : List D} {rs : List RV} {ys : List D} : AllD rs ys → AllD (xs.map .d ++ rs) (xs ++ ys)
theorem AllD.eq : ∀ {rs : List RV} {xs : List D}, AllD rs xs → rs = xs.map .d
  | _, _, .nil => rfl
  | _, _, .cons h => by rw [List.map_cons, ← AllD.eq h]
  | _, _, .app h => by rw [List.map_append, ← AllD.eq h]
/-- *e in a display or a call: a tuple, a list -/
def itemsD : D → Option (List D)
  | .tup xs => some xs
  | .lst xs => some xs
  | _ => none
theorem wa_star {p : Pos} (h : WF X B Γ e fun Γ1 r => ∃ x xs, r.res Γ1 = some x ∧ itemsD x = some xs ∧ WA X B Γ1 es fun Γ2 rs => Θ Γ2 (xs.map .d ++ rs)) (hs : starEach (.Starred e p :: es) X.env = (true, eval e X.env) :: starEach es X.env := by rfl) : WA X B Γ (.Starred e p :: es) Θ :=
  PA.mono (StX.pa_star h pa_any hs) fun σ H Q ⟨Hs, E, q⟩ => ⟨Hs, E, fun v H1 Hs1 Γ1 r ex E1 ok k w => by
    obtain ⟨x, xs, e1, e2, w⟩ := w
    have ra := res_ok E1 ok e1
    have : ∃ p vs, v = V.ref p ∧ (SqT X.K H1 p vs ∨ SqL X.K H1 p vs) ∧ RpA X.K Hs1 vs xs := by
      cases x with
      | tup ys =>
        cases e2
        cases ra with
        | tup hs r => exact ⟨_, _, rfl, .inl (ex_t E1.e1 hs), r⟩
      | lst ys =>
        cases e2
        obtain ⟨p, vs, rfl, hs, r⟩ := ra
        exact ⟨_, _, rfl, .inr hs, r⟩
      | _ => cases e2
    obtain ⟨p, vs, rfl, hp, rv⟩ := this
    exact ⟨p, vs, rfl, hp, _, w, Hs1, E1, fun ws H2 Hs2 Γ2 rs ex2 E2 oks w2 => q (vs ++ ws) H2 Hs2 Γ2 _ (ex.trans ex2) E2 (rva_append (rva_of (rv.mono ex2)) oks) w2⟩⟩
theorem w_tup {x1} (h : WA X B Γ es fun Γ1 rs => ∃ xs : List D, AllD rs xs ∧ xs.length ≤ sizeLine ∧ Φ Γ1 (.d (.tup xs))) : WE X B Γ (.Tuple es x1 pos) Φ :=
  PE.mono (pe_tup h) fun σ H Q ⟨Hs, E, q⟩ => ⟨Hs, E, fun vs H1 Hs1 Γ1 rs ex E1 ok w => by
    obtain ⟨xs, al, hl, w⟩ := w
    obtain rfl := al.eq
    have ra := rva_ds ok
    refine ⟨by rw [ra.length]; exact hl, fun p hp => ?_⟩
    have ex2 : Ex Hs1 (upd Hs1 p (.tup vs)) := Ex.new (E1.e1.none hp)
    exact q _ _ _ Γ1 (.d (.tup xs)) (ex.trans ex2) (E1.stable hp) (.tup (SqT.of upd_same) (ra.mono ex2)) w⟩
theorem w_lst (h : WA X B Γ es fun Γ1 rs => ∃ xs : List D, AllD rs xs ∧ xs.length ≤ sizeLine ∧ Φ Γ1 (.n xs)) : WE X B Γ (.List es pos) Φ :=
  PE.mono (pe_lst h) fun σ H Q ⟨Hs, E, q⟩ => ⟨Hs, E, fun vs H1 Hs1 Γ1 rs ex E1 ok w => by
    obtain ⟨xs, al, hl, w⟩ := w
    obtain rfl := al.eq
    have ra := rva_ds ok
    refine ⟨by rw [ra.length]; exact hl, fun p hp => ?_⟩
    obtain ⟨E2, f⟩ := E1.newp (o := .lst vs) hp
    exact q _ _ _ Γ1 (.n xs) ex E2 ⟨p, vs, rfl, upd_same, ra, f⟩ w⟩

/-! ### calls of built-in functions and types, subscripts, slices -/
theorem w_callB {x : Str} {id : String} {p : Pos} (hm : X.mg x = none) (hv : bootBuiltins x = some (.builtin id))
    (h : WA X B Γ (e :: es) fun Γ1 rs => ∃ xs z, ress Γ1 rs = some xs ∧ CallD X (.builtin id) xs z ∧ Φ Γ1 (.d z)) (hg : Gl X x := by rfl) (hn : x ≠ "__name__" := by decide) (hdb : (x == ("__debug__" : Str)) = false := by decide)
    (he : starEach (e :: es) X.env = (false, eval e X.env) :: starEach es X.env := by rfl) (hpl : (backTo pos (starEach es X.env)).any (·.1) = false := by rfl) : WE X B Γ (.Call (.Name x p) (e :: es) [] pos) Φ :=
  PE.mono (pe_callB callr_any hg hm hv h hn hdb he hpl) fun σ H Q ⟨Hs, E, q⟩ => ⟨Hs, E, fun vs H1 Hs1 Γ1 rs ex E1 ok w => by
    obtain ⟨xs, z, e1, ⟨r, hr, rd⟩, w⟩ := w
    refine ⟨r, hr, rd Hs1 H1 vs Q E1.e1 (ress_ok E1 ok e1) fun v Hs3 H3 g rz => ?_⟩
    obtain ⟨E3, ex3⟩ := E1.grow g
    exact q v H3 Hs3 Γ1 (.d z) (ex.trans ex3) E3 rz w⟩
theorem w_callBN {x : Str} {id : String} {p : Pos} (hm : X.mg x = none) (hv : bootBuiltins x = some (.builtin id))
    (h : WA X B Γ (e :: es) fun Γ1 rs => ∃ xs zs, ress Γ1 rs = some xs ∧ CallN X (.builtin id) xs zs ∧ Φ Γ1 (.n zs)) (hg : Gl X x := by rfl) (hn : x ≠ "__name__" := by decide) (hdb : (x == ("__debug__" : Str)) = false := by decide)
    (he : starEach (e :: es) X.env = (false, eval e X.env) :: starEach es X.env := by rfl) (hpl : (backTo pos (starEach es X.env)).any (·.1) = false := by rfl) : WE X B Γ (.Call (.Name x p) (e :: es) [] pos) Φ :=
  PE.mono (pe_callB callr_any hg hm hv h hn hdb he hpl) fun σ H Q ⟨Hs, E, q⟩ => ⟨Hs, E, fun vs H1 Hs1 Γ1 rs ex E1 ok w => by
    obtain ⟨xs, zs, e1, ⟨r, hr, rd⟩, w⟩ := w
    refine ⟨r, hr, rd Hs1 H1 vs Q E1.e1 (ress_ok E1 ok e1) fun p us Hs3 H3 g hp rz => ?_⟩
    obtain ⟨E3, ex3⟩ := E1.grow g
    obtain ⟨E4, f⟩ := E3.newp (o := .lst us) hp
    exact q _ _ Hs3 Γ1 (.n zs) (ex.trans ex3) E4 ⟨p, us, rfl, upd_same, rz, f⟩ w⟩
theorem w_callT {x : Str} {T : String} {p : Pos} (hm : X.mg x = none) (hv : bootBuiltins x = some (.type T))
    (h : WA X B Γ (e :: es) fun Γ1 rs => ∃ xs z, ress Γ1 rs = some xs ∧ CallD X (.type T) xs z ∧ Φ Γ1 (.d z)) (hg : Gl X x := by rfl) (hn : x ≠ "__name__" := by decide) (hdb : (x == ("__debug__" : Str)) = false := by decide)
    (he : starEach (e :: es) X.env = (false, eval e X.env) :: starEach es X.env := by rfl) (hpl : (backTo pos (starEach es X.env)).any (·.1) = false := by rfl) : WE X B Γ (.Call (.Name x p) (e :: es) [] pos) Φ :=
  PE.mono (pe_callTy callr_any hg hm hv h hn hdb he hpl) fun σ H Q ⟨Hs, E, q⟩ => ⟨Hs, E, fun vs H1 Hs1 Γ1 rs ex E1 ok w => by
    obtain ⟨xs, z, e1, ⟨r, hr, rd⟩, w⟩ := w
    refine ⟨r, hr, rd Hs1 H1 vs Q E1.e1 (ress_ok E1 ok e1) fun v Hs3 H3 g rz => ?_⟩
    obtain ⟨E3, ex3⟩ := E1.grow g
    exact q v H3 Hs3 Γ1 (.d z) (ex.trans ex3) E3 rz w⟩
theorem w_callTN {x : Str} {T : String} {p : Pos} (hm : X.mg x = none) (hv : bootBuiltins x = some (.type T))
    (h : WA X B Γ (e :: es) fun Γ1 rs => ∃ xs zs, ress Γ1 rs = some xs ∧ CallN X (.type T) xs zs ∧ Φ Γ1 (.n zs)) (hg : Gl X x := by rfl) (hn : x ≠ "__name__" := by decide) (hdb : (x == ("__debug__" : Str)) = false := by decide)
    (he : starEach (e :: es) X.env = (false, eval e X.env) :: starEach es X.env := by rfl) (hpl : (backTo pos (starEach es X.env)).any (·.1) = false := by rfl) : WE X B Γ (.Call (.Name x p) (e :: es) [] pos) Φ :=
  PE.mono (pe_callTy callr_any hg hm hv h hn hdb he hpl) fun σ H Q ⟨Hs, E, q⟩ => ⟨Hs, E, fun vs H1 Hs1 Γ1 rs ex E1 ok w => by
    obtain ⟨xs, zs, e1, ⟨r, hr, rd⟩, w⟩ := w
    refine ⟨r, hr, rd Hs1 H1 vs Q E1.e1 (ress_ok E1 ok e1) fun p us Hs3 H3 g hp rz => ?_⟩
    obtain ⟨E3, ex3⟩ := E1.grow g
    obtain ⟨E4, f⟩ := E3.newp (o := .lst us) hp
    exact q _ _ Hs3 Γ1 (.n zs) (ex.trans ex3) E4 ⟨p, us, rfl, upd_same, rz, f⟩ w⟩
theorem w_ix (h : WF X B Γ a fun Γ1 r1 => WF X B Γ1 b fun Γ2 r2 => ∃ x y z, r1.res Γ2 = some x ∧ r2.res Γ2 = some y ∧ IxD X x y z ∧ Φ Γ2 (.d z)) (hs : PlainIx b := by exact fun _ _ => rfl) : WE X B Γ (.Subscript a b pos) Φ :=
  PE.mono (pe_ix ixr_any h pe_any hs) fun σ H Q ⟨Hs, E, q⟩ => ⟨Hs, E, fun v1 H1 Hs1 Γ1 r1 ex1 E1 ok1 k1 w1 => ⟨_, w1, Hs1, E1, fun v2 H2 Hs2 Γ2 r2 ex2 E2 ok2 k2 w2 => by
    obtain ⟨x, y, z, e1, e2, ⟨r, hr, rd⟩, w⟩ := w2
    refine ⟨r, hr, rd Hs2 H2 v1 v2 Q E2.e1 (res_ok E2 (ok1.mono k1 ex2) e1) (res_ok E2 ok2 e2) fun v Hs3 H3 g rz => ?_⟩
    obtain ⟨E3, ex3⟩ := E2.grow g
    exact q v H3 Hs3 Γ2 (.d z) ((ex1.trans ex2).trans ex3) E3 rz w⟩⟩
/-- a part of a slice: none, or an int -/
def tO (K : PySem.W.Frag) (B : Base) (Γ : Ga) (Φ : Ga → Option Int → Prop) : TO := fun σ H Q => ∃ Hs, Env K B Hs H σ Γ ∧ ∀ o H' Hs' Γ', Ex Hs Hs' → Env K B Hs' H' σ Γ' → Φ Γ' o → Q o H'
abbrev WO (X : Cx) (B : Base) (Γ : Ga) (e : Option Expr) (Φ : Ga → Option Int → Prop) : Prop := PO X e (tO X.K B Γ Φ)
def toAny (X : Cx) (e : Option Expr) : TO := fun σ H Q => ∃ t, PO X e t ∧ t σ H Q
theorem po_any {e : Option Expr} : PO X e (toAny X e) := ⟨fun pins s σ H Q I ⟨_, h, q⟩ => h.run pins s σ H Q I q⟩
theorem PO.mono {e : Option Expr} {t t' : TO} (h : PO X e t) (m : ∀ σ H Q, t' σ H Q → t σ H Q) : PO X e t' := ⟨fun pins s σ H Q I q => h.run pins s σ H Q I (m σ H Q q)⟩
variable {Ξ : Ga → Option Int → Prop}
theorem wo_none (h : Ξ Γ none) : WO X B Γ none Ξ := PO.mono po_none fun σ H Q ⟨Hs, E, q⟩ => q none H Hs Γ (Ex.refl _) E h
theorem wo_some (h : WF X B Γ e fun Γ1 r => ∃ i, r = .d (.int i) ∧ Ξ Γ1 (some i)) : WO X B Γ (some e) Ξ := PO.mono (po_some h) fun σ H Q ⟨Hs, E, q⟩ => ⟨Hs, E, fun v H1 Hs1 Γ1 r ex E1 ok k w => by
  obtain ⟨i, rfl, w⟩ := w
  cases ok
  exact ⟨i, rfl, q (some i) H1 Hs1 Γ1 ex E1 w⟩⟩
theorem w_slice {lo hi : Option Expr} {p2 : Pos} (h : WF X B Γ a fun Γ1 r1 => WO X B Γ1 lo fun Γ2 l => WO X B Γ2 hi fun Γ3 u => ∃ x z, r1.res Γ3 = some x ∧ SlD X x l u z ∧ Φ Γ3 (.d z)) : WE X B Γ (.Subscript a (.Slice lo hi none p2) pos) Φ :=
  PE.mono (pe_slice slr_any h po_any po_any) fun σ H Q ⟨Hs, E, q⟩ => ⟨Hs, E, fun v1 H1 Hs1 Γ1 r1 ex1 E1 ok1 k1 w1 => ⟨_, w1, Hs1, E1, fun l H2 Hs2 Γ2 ex2 E2 w2 => ⟨_, w2, Hs2, E2, fun u H3 Hs3 Γ3 ex3 E3 w3 => by
    obtain ⟨x, z, e1, ⟨r, hr, rd⟩, w⟩ := w3
    refine ⟨r, hr, rd Hs3 H3 v1 Q E3.e1 (res_ok E3 (ok1.mono k1 (ex2.trans ex3)) e1) fun v Hs4 H4 g rz => ?_⟩
    obtain ⟨E4, ex4⟩ := E3.grow g
    exact q v H4 Hs4 Γ3 (.d z) (((ex1.trans ex2).trans ex3).trans ex4) E4 rz w⟩⟩⟩
theorem w_sliceN {lo hi : Option Expr} {p2 : Pos} (h : WF X B Γ a fun Γ1 r1 => WO X B Γ1 lo fun Γ2 l => WO X B Γ2 hi fun Γ3 u => ∃ x zs, r1.res Γ3 = some x ∧ SlN X x l u zs ∧ Φ Γ3 (.n zs)) : WE X B Γ (.Subscript a (.Slice lo hi none p2) pos) Φ :=
  PE.mono (pe_slice slr_any h po_any po_any) fun σ H Q ⟨Hs, E, q⟩ => ⟨Hs, E, fun v1 H1 Hs1 Γ1 r1 ex1 E1 ok1 k1 w1 => ⟨_, w1, Hs1, E1, fun l H2 Hs2 Γ2 ex2 E2 w2 => ⟨_, w2, Hs2, E2, fun u H3 Hs3 Γ3 ex3 E3 w3 => by
    obtain ⟨x, zs, e1, ⟨r, hr, rd⟩, w⟩ := w3
    refine ⟨r, hr, rd Hs3 H3 v1 Q E3.e1 (res_ok E3 (ok1.mono k1 (ex2.trans ex3)) e1) fun p us hp rz => ?_⟩
    obtain ⟨E4, f⟩ := E3.newp (o := .lst us) hp
    exact q _ _ Hs3 Γ3 (.n zs) ((ex1.trans ex2).trans ex3) E4 ⟨p, us, rfl, upd_same, rz, f⟩ w⟩⟩⟩
end
end DL
/-! DL4: targets, statements, loops, comprehensions. -/
namespace DL
open PySem PySem.Spec PyProof.Rows L2

section
variable {X : Cx} {B : Base} {Γ : Ga} {a b c e : Expr} {es rest : List Expr} {sts body els : List Stmt} {pos : Pos} {P : Post}

/-! ### targets -/
theorem PG.mono {e : Expr} {t t' : TG} (h : PG X e t) (m : ∀ v σ H Q, t' v σ H Q → t v σ H Q) : PG X e t' := ⟨fun pins s σ H v u Q I r q => h.run pins s σ H v u Q I r (m v σ H Q q)⟩
def gAny (X : Cx) (e : Expr) : TG := fun v σ H Q => ∃ g, PG X e g ∧ g v σ H Q
theorem pg_any {e : Expr} : PG X e (gAny X e) := ⟨fun pins s σ H v u Q I r ⟨_, h, q⟩ => h.run pins s σ H v u Q I r q⟩
/-- storing d by the target leads from Γ to Γ' -/
def But (ix : List Nat) (σ σ' : L2.St) : Prop := σ'.length = σ.length ∧ ∀ j, j ∉ ix → σ'[j]? = σ[j]?
theorem But.refl {ix : List Nat} (σ : L2.St) : But ix σ σ := ⟨rfl, fun _ _ => rfl⟩
theorem But.trans {ix iy : List Nat} {σ σ1 σ2 : L2.St} (a : But ix σ σ1) (b : But iy σ1 σ2) : But (ix ++ iy) σ σ2 :=
  ⟨b.1.trans a.1, fun j hj => by
    rw [List.mem_append, not_or] at hj
    rw [b.2 j hj.2, a.2 j hj.1]⟩
def tG (K : PySem.W.Frag) (d : D) (Γ Γ' : Ga) (ix : List Nat) : TG := fun v σ H Q => ∃ B Hs, Env K B Hs H σ Γ ∧ Rp K Hs v d ∧ ∀ σ', But ix σ σ' → Env K B Hs H σ' Γ' → Q σ' H
def tGs (K : PySem.W.Frag) (ds : List D) (Γ Γ' : Ga) (ix : List Nat) : TGs := fun vs σ H Q => ∃ B Hs, Env K B Hs H σ Γ ∧ RpA K Hs vs ds ∧ ∀ σ', But ix σ σ' → Env K B Hs H σ' Γ' → Q σ' H
abbrev GD (X : Cx) (e : Expr) (d : D) (Γ Γ' : Ga) (ix : List Nat) : Prop := PG X e (tG X.K d Γ Γ' ix)
abbrev GsD (X : Cx) (es : List Expr) (ds : List D) (Γ Γ' : Ga) (ix : List Nat) : Prop := PGs X es (tGs X.K ds Γ Γ' ix)
theorem PGs.mono {es : List Expr} {t t' : TGs} (h : PGs X es t) (m : ∀ v σ H Q, t' v σ H Q → t v σ H Q) : PGs X es t' := ⟨fun pins s σ H v u Q I r q => h.run pins s σ H v u Q I r (m v σ H Q q)⟩
theorem gd_name {i : Nat} {x : Str} {d : D} (nd : X.N.Nodup) (hi : i < Γ.length) (hN : X.N[i]? = some x := by rfl) (hx : Loc X.env.scope x := by first | exact Or.inl rfl | exact Or.inr rfl)
    (hf : X.fn x = true ∨ X.env.scope.names.lookup x = some .local := by first | exact .inl rfl | exact .inr rfl) : GD X (.Name x pos) d Γ (Γ.set i (.d d)) [i] :=
  PG.mono (pg_name nd hN hx hf) fun v σ H Q ⟨B, Hs, E, r, q⟩ => q _ ⟨List.length_set, fun j hj => by rw [List.getElem?_set, if_neg fun z => hj (by rw [z]; exact List.mem_singleton.mpr rfl)]⟩ (E.put_d hi r)
theorem gsd_nil : GsD X [] [] Γ Γ [] := PGs.mono pgs_nil fun vs σ H Q ⟨B, Hs, E, r, q⟩ => by cases r; exact ⟨rfl, q σ (But.refl σ) E⟩
theorem gsd_cons {d : D} {ds : List D} {Γ1 Γ2 : Ga} {ix iy : List Nat} (h : GD X e d Γ Γ1 ix) (hs : GsD X es ds Γ1 Γ2 iy) (hst : (assignEach (e :: es) X.env).map (·.2) = assign e X.env :: (assignEach es X.env).map (·.2) := by rfl) : GsD X (e :: es) (d :: ds) Γ Γ2 (ix ++ iy) :=
  PGs.mono (pgs_cons h hs hst) fun vs σ H Q ⟨B, Hs, E, r, q⟩ => by
    cases r with
    | cons r1 r2 => exact ⟨_, _, rfl, B, Hs, E, r1, fun σ' b1 E' => ⟨B, Hs, E', r2, fun σ2 b2 E2 => q σ2 (b1.trans b2) E2⟩⟩
theorem gd_tup {k : Nat} {ds : List D} {Γ' : Ga} {ix : List Nat} (hc : X.calm = true) (h : GsD X es ds Γ Γ' ix) (hn : (assignEach es X.env).length = ds.length := by rfl) (hst : (assignEach es X.env).findIdx? (·.1) = none := by rfl) : GD X (.Tuple es k pos) (.tup ds) Γ Γ' ix :=
  PG.mono (pg_tup hc h hn hst) fun v σ H Q ⟨B, Hs, E, r, q⟩ => by
    cases r with
    | tup hs ra => exact ⟨_, _, rfl, ex_t E.e1 hs, ra.length, B, Hs, E, ra, q⟩

/-! ### statements -/
theorem s_nil (h : P.nx Γ) : WS X B Γ [] P := PSs.mono pss_nil fun D σ H ⟨Hs, E, q1, _⟩ => q1 σ H Hs Γ (Ex.refl _) E h
/-- one statement, by a reading of it -/
theorem s_cons {st : Stmt} {t : TS} (h : PS X st t) (m : ∀ (D : Ends) (σ : L2.St) (H Hs : Hp), Env X.K B Hs H σ Γ → (∀ σ' H' Hs' Γ', Ex Hs Hs' → Env X.K B Hs' H' σ' Γ' → WS X B Γ' sts P → D.nx σ' H') →
      (∀ v σ' H' Hs' Γ' r, Ex Hs Hs' → Env X.K B Hs' H' σ' Γ' → RvOk X.K B Hs' H' σ' Γ' v r → P.rt Γ' r → D.rt v H') →
      (∀ σ' H' Hs' Γ', Ex Hs Hs' → Env X.K B Hs' H' σ' Γ' → P.bk Γ' → D.bk σ' H') → (∀ σ' H' Hs' Γ', Ex Hs Hs' → Env X.K B Hs' H' σ' Γ' → P.ct Γ' → D.ct σ' H') → t D σ H) : WS X B Γ (st :: sts) P :=
  PSs.mono (pss_cons h pss_any) fun D σ H ⟨Hs, E, q1, q2, q3, q4⟩ => m _ σ H Hs E (fun σ' H' Hs' Γ' ex E' w => ⟨_, w, Hs', E', fun a b c d e => q1 a b c d (ex.trans e), fun a a' b c d r e => q2 a a' b c d r (ex.trans e), fun a b c d e => q3 a b c d (ex.trans e), fun a b c d e => q4 a b c d (ex.trans e)⟩) q2 q3 q4
theorem s_expr (h : WE X B Γ e fun Γ1 _ => WS X B Γ1 sts P) (hs : swapsWith e none pos.line X.env = pure false := by rfl) : WS X B Γ (.Expr e pos :: sts) P :=
  s_cons (ps_expr h hs) fun D σ H Hs E n _ _ _ => ⟨Hs, E, fun v H' Hs' Γ' r ex E' _ w => n σ H' Hs' Γ' ex E' w⟩
theorem s_doc {x j pos'} (h : WS X B Γ sts P) : WS X B Γ (.Expr (.Constant (.str x) j pos) pos' :: sts) P :=
  s_cons ps_doc fun D σ H Hs E n _ _ _ => n σ H Hs Γ (Ex.refl _) E h
theorem s_pass (h : WS X B Γ sts P) : WS X B Γ (.Pass pos :: sts) P := s_cons ps_pass fun D σ H Hs E n _ _ _ => n σ H Hs Γ (Ex.refl _) E h
theorem s_break (h : P.bk Γ) : WS X B Γ (.Break pos :: sts) P := s_cons ps_break fun D σ H Hs E _ _ q _ => q σ H Hs Γ (Ex.refl _) E h
theorem s_continue (h : P.ct Γ) : WS X B Γ (.Continue pos :: sts) P := s_cons ps_continue fun D σ H Hs E _ _ _ q => q σ H Hs Γ (Ex.refl _) E h
theorem s_ret (h : WE X B Γ e P.rt) : WS X B Γ (.Return (some e) pos :: sts) P := s_cons (ps_ret h) fun D σ H Hs E _ q _ _ => ⟨Hs, E, fun v H' Hs' Γ' r ex E' ok w => q v σ H' Hs' Γ' r ex E' ok w⟩
theorem s_retN (h : P.rt Γ (.d .non)) : WS X B Γ (.Return none pos :: sts) P := s_cons ps_retN fun D σ H Hs E _ q _ _ => q .non σ H Hs Γ (.d .non) (Ex.refl _) E .non h
theorem s_if (h : WT X B Γ c fun Γ1 k => if k = true then WS X B Γ1 body { P with nx := fun Γ2 => WS X B Γ2 sts P } else WS X B Γ1 els { P with nx := fun Γ2 => WS X B Γ2 sts P }) : WS X B Γ (.If c body els pos :: sts) P :=
  s_cons (ps_if h pss_any pss_any) fun D σ H Hs E n q2 q3 q4 => ⟨Hs, E, fun k H' Hs' Γ' ex E' w => by
    have go : ∀ (bl : List Stmt), WS X B Γ' bl { P with nx := fun Γ2 => WS X B Γ2 sts P } → tsAny X bl D σ H' := fun bl w => ⟨_, w, Hs', E', fun a b c d e => n a b c d (ex.trans e), fun a a' b c d r e => q2 a a' b c d r (ex.trans e), fun a b c d e => q3 a b c d (ex.trans e), fun a b c d e => q4 a b c d (ex.trans e)⟩
    cases k with
    | true => rw [if_pos rfl] at w; exact go _ w
    | false => rw [if_neg Bool.false_ne_true] at w; exact go _ w⟩
/-- what stands in a slot behind name = value -/
def RV.sd : RV → SD → Prop
  | .d x, s => s = .d x
  | .n xs, s => s = .l none xs ∨ s = .d (.lst xs)
  | .nm kvs, s => s = .m kvs
  | .o _, s => s = .no
theorem put_rv {Hs H : Hp} {σ : L2.St} {i : Nat} {v : V} {r : RV} {s : SD} (E : Env X.K B Hs H σ Γ) (hi : i < Γ.length) (ok : RvOk X.K B Hs H σ Γ v r) (h : r.sd s) :
    ∃ Hs', Ex Hs Hs' ∧ Env X.K B Hs' H (σ.set i (some v)) (Γ.set i s) := by
  cases r with
  | d x => cases h; exact ⟨Hs, Ex.refl _, E.put_d hi ok⟩
  | o j => cases h; exact ⟨Hs, Ex.refl _, E.put hi trivial fun _ w => w.elim⟩
  | n xs =>
    obtain ⟨p, vs, rfl, hp, ra, f⟩ := ok
    rcases h with h | h
    · cases h
      refine ⟨Hs, Ex.refl _, E.put hi ⟨p, vs, rfl, fun q z => (nomatch z), f.1, hp, ra⟩ fun q w => ?_⟩
      have w : some (V.ref p) = some (V.ref q) := w
      cases w
      exact ⟨f.2.1, fun j t _ ht => f.2.2 j t ht⟩
    · cases h
      have ex2 : Ex Hs (upd Hs p (.lst vs)) := Ex.new f.1
      exact ⟨_, ex2, (E.freeze hp f).put_d hi (.lst (SqL.of upd_same) (ra.mono ex2))⟩
  | nm kvs =>
    obtain ⟨p, vs, rfl, hp, ra, f⟩ := ok
    cases h
    refine ⟨Hs, Ex.refl _, E.put hi ⟨p, vs, rfl, f.1, hp, ra⟩ fun q w => ?_⟩
    have w : some (V.ref p) = some (V.ref q) := w
    cases w
    exact ⟨f.2.1, fun j t _ ht => f.2.2 j t ht⟩
theorem s_set (i : Nat) {x : Str} {pos' : Pos} (nd : X.N.Nodup) (h : WE X B Γ e fun Γ1 r => ∃ s, r.sd s ∧ i < Γ1.length ∧ WS X B (Γ1.set i s) sts P) (hN : X.N[i]? = some x := by rfl) (hx : Loc X.env.scope x := by first | exact Or.inl rfl | exact Or.inr rfl)
    (hs : swapsWith e (some (.Name x pos')) pos.line X.env = pure false := by rfl) (hf : X.fn x = true ∨ X.env.scope.names.lookup x = some .local := by first | exact .inl rfl | exact .inr rfl) : WS X B Γ (.Assign [.Name x pos'] e pos :: sts) P :=
  s_cons (ps_set nd hN hx h hs hf) fun D σ H Hs E n _ _ _ => ⟨Hs, E, fun v H' Hs' Γ' r ex E' ok w => by
    obtain ⟨s, hs, hi, w⟩ := w
    obtain ⟨Hs2, ex2, E2⟩ := put_rv E' hi ok hs
    exact n _ _ Hs2 _ (ex.trans ex2) E2 w⟩
/-- any target, a value that is stable -/
theorem s_asg {tg : Expr} (h : WF X B Γ e fun Γ1 r => ∃ x Γ2 ix, r = .d x ∧ GD X tg x Γ1 Γ2 ix ∧ WS X B Γ2 sts P) (hs : swapsWithSole [tg] e pos.line X.env = pure false := by rfl) (hw : swappedStores [tg] e X.env = pure none := by rfl)
    (h1 : (assignEach [tg] X.env).map (·.2) = [assign tg X.env] := by rfl) : WS X B Γ (.Assign [tg] e pos :: sts) P :=
  s_cons (ps_asg h pg_any hs hw h1) fun D σ H Hs E n _ _ _ => ⟨Hs, E, fun v H' Hs' Γ' r ex E' ok _ w => by
    obtain ⟨x, Γ2, ix, rfl, hg, w⟩ := w
    exact ⟨_, hg, B, Hs', E', ok, fun σ' _ E2 => n σ' H' Hs' Γ2 ex E2 w⟩⟩
/-- a list of a slot is no longer changed -/
theorem s_freeze (i : Nat) {xs : List D} (hi : Γ[i]? = some (.l none xs)) (h : WS X B (Γ.set i (.d (.lst xs))) sts P) : WS X B Γ sts P := PSs.mono h fun D σ H ⟨Hs, E, q1, q2, q3, q4⟩ => by
  obtain ⟨p, vs, e1, _, hn, hp, ra⟩ := E.slot_l hi
  have hl : i < Γ.length := (List.getElem?_eq_some_iff.mp hi).1
  have E1 : Env X.K B Hs H (σ.set i (some (.ref p))) (Γ.set i .no) := E.put hl trivial fun _ w => w.elim
  have es : σ.set i (some (V.ref p)) = σ := by
    apply List.ext_getElem?
    intro j
    rw [List.getElem?_set]
    by_cases q : i = j
    · subst q
      rw [if_pos rfl, e1, if_pos (by rw [E.len]; exact hl)]
    · rw [if_neg q]
  rw [es] at E1
  have f : fresh B Hs σ (Γ.set i .no) p := by
    have wi : owns (σ[i]?.getD none) p (.l none xs) := by rw [e1]; rfl
    refine ⟨hn, E.own i _ p hi wi, fun j s hj w => ?_⟩
    rw [List.getElem?_set] at hj
    by_cases q : i = j
    · subst q; rw [if_pos rfl, if_pos hl] at hj; cases hj; exact w
    · rw [if_neg q] at hj; exact E.apart i j _ s p q hi hj wi w
  have E2 := E1.freeze hp f
  have ex2 : Ex Hs (upd Hs p (.lst vs)) := Ex.new hn
  have E3 := E2.put_d (i := i) (v := .ref p) (x := .lst xs) (by rw [List.length_set]; exact hl) (.lst (SqL.of upd_same) (ra.mono ex2))
  rw [es, List.set_set] at E3
  exact ⟨_, E3, fun a b c d e => q1 a b c d (ex2.trans e), fun a a' b c d r e => q2 a a' b c d r (ex2.trans e), fun a b c d e => q3 a b c d (ex2.trans e), fun a b c d e => q4 a b c d (ex2.trans e)⟩

/-! ### what is walked -/
theorem PI.mono {tg : Expr} {t t' : TI} (h : PI X tg e t) (m : ∀ σ H R, t' σ H R → t σ H R) : PI X tg e t' := ⟨fun pins s σ H R I q => h.run pins s σ H R I (m σ H R q)⟩
/-- it yields ds, whatever is added to the heap -/
def Wk (K : PySem.W.Frag) (Hs : Hp) (J : It) (ds : List D) : Prop := ∀ Hs2 H2, Ex Hs Hs2 → Ex Hs2 H2 → (∀ i, i < ds.length → J.go i H2) ∧ J.stop ds.length H2 ∧
  ∀ i x H3, i < ds.length → J.yld i H2 x H3 → ∃ Hs3 d, Grow Hs2 H2 Hs3 H3 ∧ ds[i]? = some d ∧ Rp K Hs3 x d
def tI (K : PySem.W.Frag) (B : Base) (Γ : Ga) (Φ : Ga → List D → Prop) : TI := fun σ H R => ∃ Hs, Env K B Hs H σ Γ ∧ ∀ J H' Hs' Γ' ds, Ex Hs Hs' → Env K B Hs' H' σ Γ' → Wk K Hs' J ds → Φ Γ' ds → R J H'
abbrev WI (X : Cx) (B : Base) (Γ : Ga) (tg e : Expr) (Φ : Ga → List D → Prop) : Prop := PI X tg e (tI X.K B Γ Φ)
variable {tg : Expr} {Ω : Ga → List D → Prop}
theorem wk_tup {K : PySem.W.Frag} {Hs : Hp} {p : Addr} {vs : List V} {ds : List D} (h : SqT K Hs p vs) (r : RpA K Hs vs ds) : Wk K Hs (Itt K p) ds := fun Hs2 H2 e1 e2 => by
  have h2 := ex_t e2 (ex_t e1 h)
  have w := walk_tup (K := K) (a := p) (xs := vs)
  rw [← r.length]
  refine ⟨fun i hi => w.goes i H2 hi h2, w.stops H2 h2, fun i x H3 hi y => ?_⟩
  obtain ⟨e, y'⟩ := w.yields i H2 x H3 hi h2 y
  subst e
  obtain ⟨d, hd, rd⟩ := r.get y'
  exact ⟨Hs2, d, .refl, hd, rd.mono e1⟩
theorem wk_lst {K : PySem.W.Frag} {Hs : Hp} {p : Addr} {vs : List V} {ds : List D} (h : SqL K Hs p vs) (r : RpA K Hs vs ds) : Wk K Hs (Itl K p) ds := fun Hs2 H2 e1 e2 => by
  have h2 := ex_l e2 (ex_l e1 h)
  have w := walk_list (K := K) (a := p) (xs := vs)
  rw [← r.length]
  refine ⟨fun i hi => w.goes i H2 hi h2, w.stops H2 h2, fun i x H3 hi y => ?_⟩
  obtain ⟨e, y'⟩ := w.yields i H2 x H3 hi h2 y
  subst e
  obtain ⟨d, hd, rd⟩ := r.get y'
  exact ⟨Hs2, d, .refl, hd, rd.mono e1⟩
theorem wk_range {K : PySem.W.Frag} {Hs : Hp} {lo : Int} {n : Nat} : Wk K Hs (Itr lo n) ((List.range n).map fun i => .int (lo + (i : Nat))) := fun Hs2 H2 e1 e2 => by
  have w := walk_range (lo := lo) (n := n)
  rw [List.length_map, List.length_range]
  refine ⟨fun i hi => w.goes i H2 hi trivial, w.stops H2 trivial, fun i x H3 hi y => ?_⟩
  obtain ⟨e, y'⟩ := w.yields i H2 x H3 hi trivial y
  subst e
  subst y'
  exact ⟨Hs2, .int (lo + (i : Nat)), .refl, by rw [List.getElem?_map, List.getElem?_range hi]; rfl, .int _⟩
/-- for .. in a tuple, a list (stable) -/
theorem wi_tup (h : WF X B Γ e fun Γ1 r => ∃ ds, r = .d (.tup ds) ∧ Ω Γ1 ds) : WI X B Γ tg e Ω := PI.mono (pi_tup h) fun σ H R ⟨Hs, E, q⟩ => ⟨Hs, E, fun v H1 Hs1 Γ1 r ex E1 ok _ w => by
  obtain ⟨ds, rfl, w⟩ := w
  have ok : Rp X.K Hs1 v (.tup ds) := ok
  cases ok with
  | tup hs ra => exact ⟨_, rfl, ⟨_, ex_t E1.e1 hs⟩, q _ H1 Hs1 Γ1 ds ex E1 (wk_tup hs ra) w⟩⟩
theorem wi_lst (h : WF X B Γ e fun Γ1 r => ∃ ds, r = .d (.lst ds) ∧ Ω Γ1 ds) : WI X B Γ tg e Ω := PI.mono (pi_list h) fun σ H R ⟨Hs, E, q⟩ => ⟨Hs, E, fun v H1 Hs1 Γ1 r ex E1 ok _ w => by
  obtain ⟨ds, rfl, w⟩ := w
  have ok : Rp X.K Hs1 v (.lst ds) := ok
  cases ok with
  | lst hs ra => exact ⟨_, rfl, ⟨_, ex_l E1.e1 hs⟩, q _ H1 Hs1 Γ1 ds ex E1 (wk_lst hs ra) w⟩⟩
/-- for .. in a text -/
def signs (z : Str) : List D := z.cps.toList.map fun c => .str ⟨#[c]⟩
theorem wi_str (h : WF X B Γ e fun Γ1 r => ∃ z, r = .d (.str z) ∧ Ω Γ1 (signs z)) : WI X B Γ tg e Ω := PI.mono (pi_str h) fun σ H R ⟨Hs, E, q⟩ => ⟨Hs, E, fun v H1 Hs1 Γ1 r ex E1 ok _ w => by
  obtain ⟨z, rfl, w⟩ := w
  have ok : Rp X.K Hs1 v (.str z) := ok
  cases ok
  refine ⟨z, rfl, q _ H1 Hs1 Γ1 (signs z) ex E1 (fun Hs2 H2 e1 e2 => ?_) w⟩
  have wk := walk_str (z := z)
  have hl : (signs z).length = z.cps.size := by unfold signs; rw [List.length_map, Array.length_toList]
  rw [hl]
  refine ⟨fun i hi => wk.goes i H2 hi trivial, wk.stops H2 trivial, fun i x H3 hi y => ?_⟩
  obtain ⟨e, c, hc, rfl⟩ := wk.yields i H2 x H3 hi trivial y
  subst e
  refine ⟨Hs2, .str ⟨#[c]⟩, .refl, ?_, .str _⟩
  unfold signs
  rw [List.getElem?_map, Array.getElem?_toList, hc]; rfl⟩
theorem wi_range1 {p : Pos} {a : Expr} (hm : X.mg "range" = none) (h : WF X B Γ a fun Γ1 r => ∃ j : Int, r = .d (.int j) ∧ -(2 ^ 62) ≤ j ∧ j < 2 ^ 62 ∧ Ω Γ1 ((List.range j.toNat).map fun i => .int ((0 : Int) + (i : Nat))))
    (hg : Gl X "range" := by rfl) (he : starEach (a :: []) X.env = (false, eval a X.env) :: starEach [] X.env := by rfl) (hs : starEach [a] X.env = [(false, eval a X.env)] := by rfl) : WI X B Γ tg (.Call (.Name "range" p) [a] [] pos) Ω :=
  PI.mono (pi_range1 hg hm (pa_cons h pa_nil he) hs) fun σ H R ⟨Hs, E, q⟩ => ⟨Hs, E, fun v H1 Hs1 Γ1 r ex E1 ok _ w => by
    obtain ⟨j, rfl, h1, h2, w⟩ := w
    have ok : Rp X.K Hs1 v (.int j) := ok
    cases ok
    exact ⟨j, rfl, h1, h2, q _ H1 Hs1 Γ1 _ ex E1 wk_range w⟩⟩
/-- THE LOOP: I by the turn and what is known of the slots -/
theorem s_for (I : List D → Nat → Ga → Prop) (k : Cok X kk) (h : WI X B Γ tg e fun Γ1 ds => I ds 0 Γ1 ∧
      (∀ i d Γ', ds[i]? = some d → I ds i Γ' → ∃ Γ2 ix, GD X tg d Γ' Γ2 ix ∧ WS X B Γ2 body { P with nx := I ds (i + 1), ct := I ds (i + 1), bk := fun Γ3 => WS X B Γ3 sts P }) ∧
      ∀ Γ', I ds ds.length Γ' → WS X B Γ' sts P)
    (hs : ∀ x, foldedSetIterable e X.env x = pure x := by intro _; rfl) : WS X B Γ (.For tg e body [] pos :: sts) P :=
  s_cons (ps_for k.pass k.calm h pg_any pss_any hs) fun D σ H Hs E n q2 q3 q4 => ⟨Hs, E, fun J H1 Hs1 Γ1 ds ex1 E1 wk ⟨i0, turn, fin⟩ => by
    refine ⟨fun i m σ' H' => m = ds.length - i ∧ i ≤ ds.length ∧ ∃ Γ' Hs', Ex Hs1 Hs' ∧ Env X.K B Hs' H' σ' Γ' ∧ I ds i Γ', ⟨_, rfl, Nat.zero_le _, Γ1, Hs1, Ex.refl _, E1, i0⟩, ?_⟩
    rintro i m σ' H' ⟨rfl, hi, Γ', Hs', ex', E', iv⟩
    obtain ⟨w1, w2, w3⟩ := wk Hs' H' ex' E'.e1
    by_cases hlt : i < ds.length
    · refine .inr ⟨w1 i hlt, fun σ2 H2 => ∃ Γ2 Hs2, Ex Hs1 Hs2 ∧ Env X.K B Hs2 H2 σ2 Γ2 ∧ I ds (i + 1) Γ2, fun σ2 H2 ⟨Γ2, Hs2, x2, E2, iv2⟩ => ⟨_, by omega, rfl, hlt, Γ2, Hs2, x2, E2, iv2⟩, fun x H3 y => ?_⟩
      obtain ⟨Hs3, d, g, hd, rd⟩ := w3 i x H3 hlt y
      obtain ⟨E3, x3⟩ := E'.grow g
      obtain ⟨Γ2, ix, hg, w⟩ := turn i d Γ' hd iv
      refine ⟨_, hg, B, Hs3, E3, rd, fun σ4 _ E4 => ⟨_, w, Hs3, E4, fun a b c d e E z => ⟨d, c, (ex'.trans x3).trans e, E, z⟩, fun a a' b c d r e => q2 a a' b c d r (((ex1.trans ex').trans x3).trans e), fun a b c d e E z => n a b c d (((ex1.trans ex').trans x3).trans e) E z, fun a b c d e E z => ⟨d, c, (ex'.trans x3).trans e, E, z⟩⟩⟩
    · have e : i = ds.length := by omega
      subst e
      exact .inl ⟨w2, n σ' H' Hs' Γ' (ex1.trans ex') E' (fin Γ' iv)⟩⟩
/-- while: I by a measure -/
theorem s_while (I : Nat → Ga → Prop) (k : Cok X kk) (m0 : Nat) (h0 : I m0 Γ) (turn : ∀ m Γ', I m Γ' → WT X B Γ' c fun Γ1 b => if b = true then WS X B Γ1 body { P with nx := fun Γ3 => ∃ m', m' < m ∧ I m' Γ3, ct := fun Γ3 => ∃ m', m' < m ∧ I m' Γ3, bk := fun Γ3 => WS X B Γ3 sts P } else WS X B Γ1 sts P) :
    WS X B Γ (.While c body [] pos :: sts) P :=
  s_cons (ps_while k.pass pt_any pss_any) fun D σ H Hs E n q2 q3 q4 => by
    refine ⟨fun m σ' H' => ∃ Γ' Hs', Ex Hs Hs' ∧ Env X.K B Hs' H' σ' Γ' ∧ I m Γ', ⟨m0, Γ, Hs, Ex.refl _, E, h0⟩, ?_⟩
    rintro m σ' H' ⟨Γ', Hs', ex', E', iv⟩
    refine ⟨_, turn m Γ' iv, Hs', E', fun b H1 Hs1 Γ1 ex1 E1 w => ?_⟩
    cases b with
    | true =>
      rw [if_pos rfl] at w
      refine ⟨fun σ2 H2 => ∃ m', m' < m ∧ ∃ Γ2 Hs2, Ex Hs Hs2 ∧ Env X.K B Hs2 H2 σ2 Γ2 ∧ I m' Γ2, fun σ2 H2 z => z, ?_⟩
      exact ⟨_, w, Hs1, E1, fun a b c d e E ⟨m', hm, z⟩ => ⟨m', hm, d, c, (ex'.trans ex1).trans e, E, z⟩, fun a a' b c d r e => q2 a a' b c d r ((ex'.trans ex1).trans e), fun a b c d e E z => n a b c d ((ex'.trans ex1).trans e) E z, fun a b c d e E ⟨m', hm, z⟩ => ⟨m', hm, d, c, (ex'.trans ex1).trans e, E, z⟩⟩
    | false =>
      rw [if_neg Bool.false_ne_true] at w
      exact n σ' H1 Hs1 Γ1 (ex'.trans ex1) E1 w
end
end DL
/-! DL5: list comprehensions. -/
namespace DL
open PySem PySem.Spec PyProof.Rows L2

/-- slots forgotten -/
def wipeG (Γ : Ga) : List Nat → Ga
  | [] => Γ
  | v :: vs => (wipeG Γ vs).set v .no
theorem wipeG_length (Γ : Ga) : ∀ vs, (wipeG Γ vs).length = Γ.length
  | [] => rfl
  | v :: vs => by unfold wipeG; rw [List.length_set, wipeG_length Γ vs]
theorem wipeG_some {Γ : Ga} {i : Nat} {s : SD} : ∀ {vs : List Nat}, (wipeG Γ vs)[i]? = some s → (s = .no ∧ i ∈ vs) ∨ (Γ[i]? = some s ∧ i ∉ vs)
  | [], h => .inr ⟨h, by simp⟩
  | v :: vs, h => by
    unfold wipeG at h
    rw [List.getElem?_set] at h
    by_cases q : v = i
    · subst q
      rw [if_pos rfl] at h
      split at h
      · cases h; exact .inl ⟨rfl, List.mem_cons_self⟩
      · cases h
    · rw [if_neg q] at h
      rcases wipeG_some h with ⟨h1, h2⟩ | ⟨h1, h2⟩
      · exact .inl ⟨h1, List.mem_cons_of_mem _ h2⟩
      · exact .inr ⟨h1, fun z => by
          rcases List.mem_cons.mp z with z | z
          · exact q z.symm
          · exact h2 z⟩
theorem wipe_get {σ : L2.St} {i : Nat} : ∀ {vs : List Nat}, i ∉ vs → (wipe σ vs)[i]? = σ[i]?
  | [], _ => rfl
  | v :: vs, h => by
    unfold wipe
    rw [List.getElem?_set, if_neg fun z => h (by rw [z]; exact List.mem_cons_self), wipe_get fun z => h (List.mem_cons_of_mem _ z)]
section
variable {K : PySem.W.Frag} {B : Base} {Hs H : Hp} {σ : L2.St} {Γ : Ga}
/-- two slot lists that agree where something is known -/
theorem Env.agree {σ' : L2.St} {Γ' : Ga} (E : Env K B Hs H σ Γ) (hl : σ'.length = Γ'.length) (h : ∀ (i : Nat) (s : SD), Γ'[i]? = some s → s = .no ∨ (Γ[i]? = some s ∧ σ'[i]? = σ[i]?)) : Env K B Hs H σ' Γ' where
  len := hl
  e0 := E.e0
  e1 := E.e1
  fr := E.fr
  nw := E.nw
  slot := fun i s hs => by
    rcases h i s hs with rfl | ⟨h1, h2⟩
    · trivial
    · rw [h2]; exact E.slot i s h1
  own := fun i s p hs w => by
    rcases h i s hs with rfl | ⟨h1, h2⟩
    · exact w.elim
    · rw [h2] at w; exact E.own i s p h1 w
  apart := fun i j s t p hij h1 h2 w1 w2 => by
    rcases h i s h1 with rfl | ⟨a1, a2⟩
    · exact w1.elim
    · rcases h j t h2 with rfl | ⟨b1, b2⟩
      · exact w2.elim
      · rw [a2] at w1; rw [b2] at w2; exact E.apart i j s t p hij a1 b1 w1 w2
theorem Env.wipe (E : Env K B Hs H σ Γ) (vs : List Nat) : Env K B Hs H (wipe σ vs) (wipeG Γ vs) :=
  E.agree (by rw [wipe_length, wipeG_length, E.len]) fun i s h => by
    rcases wipeG_some h with ⟨h1, _⟩ | ⟨h1, h2⟩
    · exact .inl h1
    · exact .inr ⟨h1, wipe_get h2⟩
/-- back to the slots ahead of a block -/
theorem Env.unwipe {Γ' : Ga} {vs : List Nat} {σ' : L2.St} (E : Env K B Hs H σ' Γ') (e : L2.wipe σ' vs = L2.wipe σ vs) (hl : σ.length = σ'.length) : Env K B Hs H σ (wipeG Γ' vs) :=
  E.agree (by rw [wipeG_length, ← E.len, hl]) fun i s h => by
    rcases wipeG_some h with ⟨h1, _⟩ | ⟨h1, h2⟩
    · exact .inl h1
    · refine .inr ⟨h1, ?_⟩
      rw [← wipe_get (σ := σ) h2, ← wipe_get (σ := σ') h2, e]
/-- the base with one object more that is to stay -/
def Base.plus (B : Base) (p : Addr) (o : HO) : Base := ⟨B.H0, upd B.F p o⟩
theorem Env.plus {p : Addr} {o : HO} (E : Env K B Hs H σ Γ) (hp : H p = some o) (f : fresh B Hs σ Γ p) : Env K (B.plus p o) Hs H σ Γ where
  len := E.len
  e0 := E.e0
  e1 := E.e1
  fr := fun a u h => by
    by_cases q : a = p
    · subst q
      have h : upd B.F a o a = some u := h
      rw [upd_same] at h; cases h; exact hp
    · have h : upd B.F p o a = some u := h
      rw [upd_ne q] at h; exact E.fr a u h
  nw := fun a h0 h => by
    have ne : a ≠ p := fun z => by subst z; exact h f.1
    show upd B.F p o a = none
    rw [upd_ne ne]; exact E.nw a h0 h
  slot := E.slot
  own := fun i s q hs w => by
    have ne : q ≠ p := fun z => by subst z; exact f.2.2 i s hs w
    show upd B.F p o q = none
    rw [upd_ne ne]; exact E.own i s q hs w
  apart := E.apart
/-- what the base has is fresh: it is nobody's -/
theorem Env.minus {p : Addr} {o : HO} (E : Env K (B.plus p o) Hs H σ Γ) (hp : B.F p = none) (h0 : B.H0 p = none) : Env K B Hs H σ Γ ∧ H p = some o ∧ fresh B Hs σ Γ p := by
  have fp : (B.plus p o).F p = some o := upd_same
  have hsn : Hs p = none := by
    cases q : Hs p with
    | none => rfl
    | some u =>
      have := E.nw p h0 (by rw [q]; exact fun z => nomatch z)
      rw [fp] at this; cases this
  refine ⟨⟨E.len, E.e0, E.e1, fun a u h => ?_, fun a h0 h => ?_, E.slot, fun i s q hs w => ?_, E.apart⟩, E.fr p o fp, hsn, hp, fun i s hs w => ?_⟩
  · have ne : a ≠ p := fun z => by subst z; rw [hp] at h; cases h
    exact E.fr a u (by show upd B.F p o a = some u; rw [upd_ne ne]; exact h)
  · have := E.nw a h0 h
    have ne : a ≠ p := fun z => by subst z; rw [fp] at this; cases this
    have this : upd B.F p o a = none := this
    rw [upd_ne ne] at this; exact this
  · have := E.own i s q hs w
    have ne : q ≠ p := fun z => by subst z; rw [fp] at this; cases this
    have this : upd B.F p o q = none := this
    rw [upd_ne ne] at this; exact this
  · have := E.own i s p hs w
    rw [fp] at this; cases this
end

section
variable {X : Cx} {B : Base} {Γ : Ga} {e elt iter tg : Expr} {ifs : List Expr} {scope : Scope} {pos : Pos} {Φ : Ga → RV → Prop} {kk : Nat}
abbrev Bk (X : Cx) (scope : Scope) (s : Shared) (H : Hp) (C : Addr) (cl : List (Str × Addr)) (fp : List Addr) : Cx := X.blk s H scope (compEnvC scope cl C X.env) fp
def gU (X : Cx) (scope : Scope) (tg : Expr) : TG := fun v σ H Q => ∃ g, (∀ s H C cl fp, PG (Bk X scope s H C cl fp) tg g) ∧ g v σ H Q
theorem pg_u {s H C cl fp} : PG (Bk X scope s H C cl fp) tg (gU X scope tg) := ⟨fun pins s' σ H' v u Q I r ⟨_, h, q⟩ => (h s H C cl fp).run pins s' σ H' v u Q I r q⟩
def ttU (X : Cx) (scope : Scope) (ifs : List Expr) : TT := fun σ H Q => ∃ g, (∀ s H C cl fp, PTs (Bk X scope s H C cl fp) ifs g) ∧ g σ H Q
theorem pts_u {s H C cl fp} : PTs (Bk X scope s H C cl fp) ifs (ttU X scope ifs) := ⟨fun pins s' σ H' Q I ⟨_, h, q⟩ => (h s H C cl fp).run pins s' σ H' Q I q⟩
def teU (X : Cx) (scope : Scope) (e : Expr) : TE := fun σ H Q => ∃ g, (∀ s H C cl fp, PE (Bk X scope s H C cl fp) e g) ∧ g σ H Q
theorem pe_u {s H C cl fp} : PE (Bk X scope s H C cl fp) e (teU X scope e) := ⟨fun pins s' σ H' Q I ⟨_, h, q⟩ => (h s H C cl fp).run pins s' σ H' Q I q⟩
abbrev WTs (X : Cx) (B : Base) (Γ : Ga) (es : List Expr) (Φ : Ga → Bool → Prop) : Prop := PTs X es (tT X.K B Γ Φ)
theorem wts_nil {Ψ : Ga → Bool → Prop} (h : Ψ Γ true) : WTs X B Γ [] Ψ := ⟨fun pins s σ H Q I ⟨Hs, E, q⟩ => pts_nil.run pins s σ H Q I (q true H Hs Γ (Ex.refl _) E h)⟩
theorem wts_one {c : Expr} {Ψ : Ga → Bool → Prop} (h : WT X B Γ c Ψ) : WTs X B Γ [c] Ψ := pts_one h
theorem block_cok {s H C cl fp} (k : Cok X kk) : Cok (Bk X scope s H C cl fp) kk := ⟨k.nd, k.calm, k.room, k.gd, PassesOwn.never⟩

/-- [elt for tg in iter if ..]: I by the turn, what is known of the slots, what is made so far -/
def LcI (X : Cx) (B : Base) (scope : Scope) (tg elt : Expr) (ifs : List Expr) (own : List Nat) (Φ : Ga → List D → Prop) (I : List D → Nat → Ga → List D → Prop) (Γ1 : Ga) (ds : List D) : Prop :=
  I ds 0 (wipeG Γ1 own) [] ∧ ds.length < sizeLine ∧
  (∀ i d Γ' acc, ds[i]? = some d → I ds i Γ' acc → ∃ Γ2 ix, (∀ j ∈ ix, j ∈ own) ∧ (∀ s H C cl fp, GD (Bk X scope s H C cl fp) tg d Γ' Γ2 ix) ∧
    ∀ p o, (∀ s H C cl fp, WTs (Bk X scope s H C cl fp) (B.plus p o) Γ2 ifs fun Γ3 b => if b = true then (∀ s H C cl fp, WF (Bk X scope s H C cl fp) (B.plus p o) Γ3 elt fun Γ4 r => ∃ y, r = .d y ∧ I ds (i + 1) (wipeG Γ4 own) (acc ++ [y]))
      else I ds (i + 1) (wipeG Γ3 own) acc)) ∧
  ∀ Γ' acc, I ds ds.length Γ' acc → Φ Γ' acc
theorem wipe_but {own ix : List Nat} {σ σ' : L2.St} (h : But ix (L2.wipe σ own) σ') (hx : ∀ j ∈ ix, j ∈ own) : L2.wipe σ' own = L2.wipe σ own := by
  have hl : σ'.length = σ.length := by rw [h.1, wipe_length]
  apply List.ext_getElem?
  intro j
  by_cases q : j ∈ own
  · have wn : ∀ {τ : L2.St} {l : List Nat}, j ∈ l → (L2.wipe τ l)[j]? = if j < τ.length then some none else none := fun {τ l} hj => by
      induction l with
      | nil => cases hj
      | cons v l ih =>
        unfold L2.wipe
        rw [List.getElem?_set]
        by_cases z : v = j
        · subst z; rw [if_pos rfl, wipe_length]
        · rw [if_neg z]
          rcases List.mem_cons.mp hj with r | r
          · exact absurd r.symm z
          · exact ih r
    rw [wn q, wn q, hl]
  · rw [wipe_get q, h.2 j fun z => q (hx j z), wipe_get q]
theorem rpa_snoc {K : PySem.W.Frag} {Hs : Hp} {vs : List V} {ds : List D} {v : V} {d : D} (h : RpA K Hs vs ds) (r : Rp K Hs v d) : RpA K Hs (vs ++ [v]) (ds ++ [d]) := h.append (.cons r .nil)
/-- the value's reading -/
theorem lc_read {own : List Nat} {I : List D → Nat → Ga → List D → Prop} {Ω : Ga → List D → Prop} {wi : TI} (σ : L2.St) (H : Hp) (Q : VK) {Hs : Hp} (E : Env X.K B Hs H σ Γ)
    (hw : ∀ R : It → Hp → Prop, (∀ J H' Hs' Γ' ds, Ex Hs Hs' → Env X.K B Hs' H' σ Γ' → Wk X.K Hs' J ds → LcI X B scope tg elt ifs own Ω I Γ' ds → R J H') → wi σ H R)
    (q : ∀ v H' Hs' Γ' xs, Ex Hs Hs' → Env X.K B Hs' H' σ Γ' → RvOk X.K B Hs' H' σ Γ' v (.n xs) → (∃ Γ2, Γ' = wipeG Γ2 own ∧ Ω Γ2 xs) → Q v H') : tLc wi (gU X scope tg) (ttU X scope ifs) (teU X scope elt) own σ H Q := by
  refine hw _ fun J H1 Hs1 Γ1 ds ex1 E1 wk ⟨i0, hlen, turn, fin⟩ D hD => ?_
  -- W: the list at D holds acc
  refine ⟨fun i m H' => m = ds.length - i ∧ i ≤ ds.length ∧ ∃ Γ' Hs' vs acc, Ex Hs1 Hs' ∧ vs.length ≤ i ∧ H' D = some (.lst vs) ∧ RpA X.K Hs' vs acc ∧ Env X.K B Hs' H' (L2.wipe σ own) Γ' ∧ fresh B Hs' (L2.wipe σ own) Γ' D ∧ I ds i Γ' acc, ?_, ?_⟩
  · obtain ⟨E2, f⟩ := (E1.wipe own).newp (o := .lst []) hD
    exact ⟨_, rfl, Nat.zero_le _, wipeG Γ1 own, Hs1, [], [], Ex.refl _, Nat.le_refl _, upd_same, .nil, E2, f, i0⟩
  rintro i m H' ⟨rfl, hi, Γ', Hs', vs, acc, ex', hvi, hDl, ra, E', fr, iv⟩
  have e' : Ex Hs' H' := E'.e1
  obtain ⟨w1, w2, w3⟩ := wk Hs' H' ex' e'
  by_cases hlt : i < ds.length
  · refine .inr ⟨w1 i hlt, fun H2 => i + 1 ≤ ds.length ∧ ∃ Γ2 Hs2 us acc2, Ex Hs1 Hs2 ∧ us.length ≤ i + 1 ∧ H2 D = some (.lst us) ∧ RpA X.K Hs2 us acc2 ∧ Env X.K B Hs2 H2 (L2.wipe σ own) Γ2 ∧ fresh B Hs2 (L2.wipe σ own) Γ2 D ∧ I ds (i + 1) Γ2 acc2, fun H2 ⟨h1, h2⟩ => ⟨_, by omega, rfl, h1, h2⟩, fun x H3 y => ?_⟩
    obtain ⟨Hs3, d, g, hd, rd⟩ := w3 i x H3 hlt y
    -- the frame holds the list
    have EP : Env X.K (B.plus D (.lst vs)) Hs' H' (L2.wipe σ own) Γ' := E'.plus hDl fr
    obtain ⟨E3, ex3⟩ := EP.grow g
    obtain ⟨Γ2, ix, hix, hg, ht⟩ := turn i d Γ' acc hd iv
    have h0 : B.H0 D = none := E'.e0.none fr.1
    refine ⟨tG X.K d Γ' Γ2 ix, hg, _, Hs3, E3, rd, fun σ4 b4 E4 => ⟨wipe_but b4 hix, tT X.K (B.plus D (.lst vs)) Γ2 _, ht D (.lst vs), Hs3, E4, fun b H5 Hs5 Γ5 ex5 E5 w5 => ?_⟩⟩
    have hl4 : (L2.wipe σ own).length = σ4.length := b4.1.symm
    have back : ∀ {Hs6 H6 : Hp} {Γ6 : Ga}, Env X.K (B.plus D (.lst vs)) Hs6 H6 σ4 Γ6 → Env X.K B Hs6 H6 (L2.wipe σ own) (wipeG Γ6 own) ∧ H6 D = some (.lst vs) ∧ fresh B Hs6 (L2.wipe σ own) (wipeG Γ6 own) D := fun {Hs6 H6 Γ6} E6 => by
      have E7 : Env X.K (B.plus D (.lst vs)) Hs6 H6 (L2.wipe σ own) (wipeG Γ6 own) := by
        refine E6.agree (by rw [wipeG_length, ← E6.len, hl4]) fun j s h => ?_
        rcases wipeG_some h with ⟨h1, _⟩ | ⟨h1, h2⟩
        · exact .inl h1
        · exact .inr ⟨h1, (b4.2 j fun z => h2 (hix j z)).symm⟩
      exact E7.minus fr.2.1 h0
    cases b with
    | false =>
      rw [if_neg Bool.false_ne_true] at w5
      obtain ⟨E7, hD7, f7⟩ := back E5
      exact ⟨hlt, _, Hs5, vs, acc, (ex'.trans ex3).trans ex5, Nat.le_succ_of_le hvi, hD7, ra.mono (ex3.trans ex5), E7, f7, w5⟩
    | true =>
      rw [if_pos rfl] at w5
      refine ⟨tF X.K (B.plus D (.lst vs)) Γ5 _, w5, Hs5, E5, fun v H6 Hs6 Γ6 r ex6 E6 ok _ w6 => ?_⟩
      obtain ⟨y, rfl, iv6⟩ := w6
      obtain ⟨E7, hD7, f7⟩ := back E6
      refine ⟨vs, hD7, by omega, hlt, ?_⟩
      have ra6 : RpA X.K Hs6 (vs ++ [v]) (acc ++ [y]) := rpa_snoc (ra.mono ((ex3.trans ex5).trans ex6)) ok
      refine ⟨_, Hs6, vs ++ [v], acc ++ [y], ((ex'.trans ex3).trans ex5).trans ex6, by rw [List.length_append, List.length_singleton]; omega, upd_same, ra6, ?_, f7, iv6⟩
      -- the list grows: nobody's
      refine ⟨E7.len, E7.e0, E7.e1.mut f7.1, E7.fr.mut f7.2.1, E7.nw, fun j s hj => (E7.slot j s hj).mono (Ex.refl _) (fun p u w hp => ?_) fun _ _ z => z, E7.own, E7.apart⟩
      have ne : p ≠ D := fun z => by subst z; exact f7.2.2 j s hj w
      rw [upd_ne ne]; exact hp
  · have e : i = ds.length := by omega
    subst e
    refine .inl ⟨w2, ?_⟩
    have E8 : Env X.K B Hs' H' σ (wipeG Γ' own) := E'.unwipe (σ := σ) (vs := own) (wipe_but (ix := []) ⟨by rw [wipe_length], fun j _ => rfl⟩ (by simp)) (by rw [wipe_length])
    refine q _ H' Hs' (wipeG Γ' own) acc (ex1.trans ex') E8 ⟨D, vs, rfl, hDl, ra, fr.1, fr.2.1, fun j s hj w => ?_⟩ ⟨Γ', rfl, fin Γ' acc iv⟩
    rcases wipeG_some hj with ⟨h1, _⟩ | ⟨h1, h2⟩
    · subst h1; exact w.elim
    · refine fr.2.2 j s h1 ?_
      rw [wipe_get h2]; exact w
theorem w_lc (I : List D → Nat → Ga → List D → Prop) {own : List (Str × Nat)} (k : Cok X kk) (ok : BlkOk X.N X.env.scope scope own) (h : WI X B Γ tg iter fun Γ1 ds => LcI X B scope tg elt ifs (own.map (·.2)) (fun Γ2 xs => Φ (wipeG Γ2 (own.map (·.2))) (.n xs)) I Γ1 ds)
    (hs : ∀ x, foldedSetIterable iter X.env x = pure x := by intro _; rfl) : WE X B Γ (.ListComp elt [⟨tg, iter, ifs, 0⟩] scope pos) Φ :=
  PE.mono (pe_lc k.calm k.nd h ok (fun _ _ _ _ _ => pg_u) (fun _ _ _ _ _ => pts_u) (fun _ _ _ _ _ => pe_u) hs) fun σ H Q ⟨Hs, E, q⟩ =>
    lc_read σ H Q E (fun R hR => ⟨Hs, E, hR⟩) fun v H' Hs' Γ' xs ex E' okv ⟨Γ2, e, w⟩ => by subst e; exact q v H' Hs' _ (.n xs) ex E' okv w
theorem s_setLc (i : Nat) {x : Str} {py : Pos} {spos : Pos} {sts : List Stmt} {P : Post} (I : List D → Nat → Ga → List D → Prop) {own : List (Str × Nat)} (k : Cok X kk) (ok : BlkOk X.N X.env.scope scope own)
    (h : WI X B Γ tg iter fun Γ1 ds => LcI X B scope tg elt ifs (own.map (·.2)) (fun Γ2 xs => ∃ s, (RV.n xs).sd s ∧ i < (wipeG Γ2 (own.map (·.2))).length ∧ WS X B ((wipeG Γ2 (own.map (·.2))).set i s) sts P) I Γ1 ds)
    (hsw : swapsWith (.ListComp elt [⟨tg, iter, ifs, 0⟩] scope pos) (some (.Name x py)) spos.line X.env = pure true) (hN : X.N[i]? = some x := by rfl) (hy : X.env.scope.names.lookup x = some .local := by rfl)
    (hs : ∀ x, foldedSetIterable iter X.env x = pure x := by intro _; rfl) : WS X B Γ (.Assign [.Name x py] (.ListComp elt [⟨tg, iter, ifs, 0⟩] scope pos) spos :: sts) P :=
  s_cons (ps_setLc k.calm k.nd hN hy hsw h ok (fun _ _ _ _ _ => pg_u) (fun _ _ _ _ _ => pts_u) (fun _ _ _ _ _ => pe_u) hs) fun D σ H Hs E n _ _ _ =>
    lc_read σ H _ E (fun R hR => ⟨Hs, E, hR⟩) fun v H' Hs' Γ' xs ex E' okv ⟨Γ2, e, s, hsd, hi, w⟩ => by
      subst e
      obtain ⟨Hs2, ex2, E2⟩ := put_rv E' hi okv hsd
      exact n _ _ Hs2 _ (ex.trans ex2) E2 w
end
end DL
/-! DL6: what a def does to data: promises, bodies, calls. -/
namespace DL
open PySem PySem.Spec PyProof.Rows L2

/-- what a module's name does when it is called by position, where no repr is under way and nothing is raised -/
structure DefG (P : Program) (w : World) (K : PySem.W.Frag) (mg : Str → Option Value) (base : Heap) (k : Nat) (x : Str) (sp : Sp) : Prop where
  ex : ∃ f : Addr, mg x = some (.ref f) ∧ PySem.W.keepIn K (.ref f) = true ∧
    ∀ (A : Around) (outer : List PySem.Env) (s : Shared) (H : Hp) (us : List Value) (vs : List V) (Q : VK), A.guards = some [] → Room k A → Env0 P w K mg base A outer s H → Vals vs us → sp vs H Q E0 →
      codeAny (model P w) A (.call (.ref f) ⟨us, []⟩) (CR CX0 outer P w H s Q E0) s
/-- the context of a body, what is known of it written out -/
@[reducible] def bx (P : Program) (w : World) (K : PySem.W.Frag) (mg : Str → Option Value) (base : Heap) (N : List Str) (sc : Scope) (X0 : Cx) : Cx :=
  { X0 with prog := P, w := w, K := K, mg := mg, base := base, N := N, env := { X0.env with scope := sc }, calm := true, fn := fun _ => true, xe := fun _ _ => False }
/-- a def as it stands behind the top -/
structure At (K : PySem.W.Frag) (mg : Str → Option Value) (x qual : Str) (st : Stmt) (dV : Value) (f : Addr) : Prop where
  nm : mg x = some (.ref f)
  kp : PySem.W.keepIn K (.ref f) = true
  ex : ∃ (oc : Value) (od : Option Addr) (kV doc pm : Value) (an : Option Addr) (cdv ct : Value) (osl : Array (Option Value)),
    K.lookup f = some ⟨oc, od, .func (PySem.W.fnOf x qual (defArgs st) (defBody st) (defScope st) dV kV doc pm an cdv ct), osl⟩ ∧ PySem.W.codeIn K cdv qual = true
section
variable {P : Program} {w : World} {K : PySem.W.Frag} {mg : Str → Option Value} {base : Heap}
theorem DefG.up {j k : Nat} {x : Str} {sp : Sp} (G : DefG P w K mg base j x sp) (h : j ≤ k) : DefG P w K mg base k x sp := by
  obtain ⟨f, h1, h2, h3⟩ := G.ex
  exact ⟨f, h1, h2, fun A outer s H us vs Q hg hr => h3 A outer s H us vs Q hg (hr.mono h)⟩
/-- a def by its body; G: what is known of the bound values and the heap at the entry -/
theorem def_body {x qual : Str} {st : Stmt} {dV : Value} {f : Addr} {N ps : List Str} {k : Nat} {sp : Sp} (U : At K mg x qual st dV f) (S : FnScope N ps (defScope st)) (G : List V → Hp → VK → Prop)
    (bind : ∀ (kV doc pm : Value) (an : Option Addr) (cdv ct : Value) (A : Around) (outer : List PySem.Env) (s : Shared) (H : Hp) (us : List Value) (vs : List V) (Q : VK), Env0 P w K mg base A outer s H → Vals vs us → sp vs H Q E0 →
      StX.Bnd CX0 P w K mg base (PySem.W.fnOf x qual (defArgs st) (defBody st) (defScope st) dV kV doc pm an cdv ct) ⟨us, []⟩ ps A outer s H E0 fun ws H2 => G ws H2 Q)
    (body : ∀ (X0 : Cx) (H : Hp) (vs : List V) (Q : VK), Cok (bx P w K mg base N (defScope st) X0) k → G vs H Q →
      PSs (bx P w K mg base N (defScope st) X0) (defBody st) (fun D σ H' => (∀ v H', Q v H' → D.rt v H') ∧ (∀ σ' H', Q .non H' → D.nx σ' H') ∧ σ = L2.start N vs ∧ H' = H)) : DefG P w K mg base (k + 1) x sp := by
  obtain ⟨oc, od, kV, doc, pm, an, cdv, ct, osl, lk, hcd⟩ := U.ex
  refine ⟨f, U.nm, U.kp, fun A outer s H us vs Q hg hr e0 r hsp => ?_⟩
  refine StX.run_bnd lk hcd S hr e0 (bind kV doc pm an cdv ct A outer s H us vs Q e0 r hsp) fun s2 H2 ws g hr' => ?_
  have k1 : Cok (bx P w K mg base N (defScope st) (cxOf CX0 P w K mg base N qual (defScope st) f cdv A outer s2 H2 E0).nox) k :=
    ⟨S.nd, rfl, hr', hg, PassesOwn.never⟩
  exact ⟨_, PSs.nox (body _ H2 ws Q k1 g), fun v H' q => q, fun σ' H' q => q, rfl, rfl⟩
/-- every parameter is written -/
theorem bnd_all {fd : FuncData} {ps : List Str} {A : Around} {outer : List PySem.Env} {s : Shared} {H : Hp} {us : List Value} {vs : List V} {G : List V → Hp → Prop} (h : bindArgs fd ⟨us, []⟩ = pure (ps.zip us)) (e0 : Env0 P w K mg base A outer s H) (r : Vals vs us) (hl : vs.length = ps.length) (g : G vs H) :
    StX.Bnd CX0 P w K mg base fd ⟨us, []⟩ ps A outer s H E0 G := fun A' Ex Q q => by
  rw [h]
  exact wpAny_pure (q s H vs us e0 Un.refl rfl (fun _ _ z => z) r hl g)
/-- some are left to the defaults -/
theorem bnd_dflt {fd : FuncData} {ps : List Str} {A : Around} {outer : List PySem.Env} {s : Shared} {H : Hp} {us its : List Value} {vs dvs : List V} {T : Addr} {o : Obj} {n j : Nat} {kf : Option (Array Value) → Sem (List (Str × Value))} {G : List V → Hp → Prop} (lT : K.lookup T = some o) (oT : o.data = .seq its.toArray n) (rT : Vals dvs its)
    (h : bindArgs fd ⟨us, []⟩ = seqItems? (.ref T) >>= kf) (hk : kf (some its.toArray) = pure (ps.zip (us ++ its.drop j))) (e0 : Env0 P w K mg base A outer s H) (r : Vals vs us) (hl : (vs ++ dvs.drop j).length = ps.length) (g : G (vs ++ dvs.drop j) H) :
    StX.Bnd CX0 P w K mg base fd ⟨us, []⟩ ps A outer s H E0 G := fun A' Ex Q q => by
  have kin : K.In s.heap := e0.mod.kin.keeps (fun b o z => (e0.bs b o z).1)
  have hb : BindsTo s fd ⟨us, []⟩ (ps.zip (us ++ its.drop j)) := BindsTo.of_looks fun M => by
    rw [h]
    exact looks_items kin lT oT (.of_pure hk)
  exact hb _ _ _ _ (q s H _ _ e0 Un.refl rfl (fun _ _ z => z) (r.append (rT.drop j)) hl g)
/-- *values alone -/
theorem bnd_star {fd : FuncData} {pv : Str} {A : Around} {outer : List PySem.Env} {s : Shared} {H : Hp} {us : List Value} {vs : List V} {G : List V → Hp → Prop} (h : bindArgs fd ⟨us, []⟩ = (newTuple us >>= fun t => pure [(pv, t)])) (e0 : Env0 P w K mg base A outer s H) (r : Vals vs us) (hl : vs.length ≤ sizeLine)
    (g : ∀ p, H p = none → G [.ref p] (upd H p (.tup vs))) : StX.Bnd CX0 P w K mg base fd ⟨us, []⟩ [pv] A outer s H E0 G := fun A' Ex Q q => by
  have hn : H s.heap.objs.size = none := e0.hok.fresh (Nat.le_refl _)
  have un := StX.un_laid (fs := frs outer) (s := s) (o := ({ cls := .type "tuple", data := .seq us.toArray } : Obj)) (u := .tup vs) hn
  have new : ObjOk P w (upd H s.heap.objs.size (.tup vs)) (s.heap.push ({ cls := .type "tuple", data := .seq us.toArray } : Obj)) s.heap.objs.size (.tup vs) := ⟨hl, us, r, ⟨_, Heap.get?_push_size _ rfl, rfl, _, rfl⟩⟩
  rw [h]
  refine wpAny_bind (wpAny_newTuple (wpAny_pure ?_) (by rw [← r.length]; exact hl))
  exact q _ _ [V.ref s.heap.objs.size] [Value.ref s.heap.objs.size] (StX.env0_laid e0 new) un rfl (fun _ _ z => z.elim) (.cons rfl .nil) rfl (g _ hn)

/-! ### promises on data -/
/-- how a result lies: data, or a new list -/
def resOk (K : PySem.W.Frag) (Hs' H H' : Hp) (v : V) : RV → Prop
  | .d x => Rp K Hs' v x
  | .n xs => ∃ p vs, v = .ref p ∧ H' p = some (.lst vs) ∧ RpA K Hs' vs xs ∧ Hs' p = none ∧ H p = none
  | _ => False
def newOk (Hs Hs' H : Hp) : Prop := ∀ a, Hs a = none → Hs' a ≠ none → H a = none
abbrev FT := List D → (RV → Prop) → Prop
/-- from data to data; F: what is asked of the arguments, of what follows -/
def spD (K : PySem.W.Frag) (F : FT) : Sp := fun vs H Q _ => ∃ Hs ds, Ex Hs H ∧ RpA K Hs vs ds ∧ ∃ Φ : RV → Prop, F ds Φ ∧ ∀ r, Φ r → ∀ v H' Hs', Ex Hs Hs' → Ex Hs' H' → Ex H H' → newOk Hs Hs' H → resOk K Hs' H H' v r → Q v H'
/-- the first argument is a list that is changed -/
abbrev FIO := List D → List D → (List D → RV → Prop) → Prop
def spIO (K : PySem.W.Frag) (F : FIO) : Sp := fun vs H Q _ => ∃ Hs p us ws xs ds, vs = .ref p :: ws ∧ Ex Hs H ∧ Hs p = none ∧ H p = some (.lst us) ∧ RpA K Hs us xs ∧ RpA K Hs ws ds ∧
  ∃ Φ : List D → RV → Prop, F xs ds Φ ∧ ∀ xs' r, Φ xs' r → ∀ v H' Hs' us', Ex Hs Hs' → Ex Hs' H' → (∀ a o, a ≠ p → H a = some o → H' a = some o) → newOk Hs Hs' H → Hs' p = none → H' p = some (.lst us') → RpA K Hs' us' xs' → resOk K Hs' H H' v r → Q v H'
def startG (N : List Str) (ds : List SD) : Ga := ds ++ List.replicate (N.length - ds.length) .no
/-- a returned value as a result -/
def retTo (Γ : Ga) : RV → RV → Prop
  | .d x, r => r = .d x
  | .n xs, r => r = .n xs ∨ r = .d (.lst xs)
  | .o i, r => ∃ xs, Γ[i]? = some (.l none xs) ∧ (r = .n xs ∨ r = .d (.lst xs))
  | _, _ => False
def postD (Φ : RV → Prop) : Post := { nx := fun _ => Φ (.d .non), rt := fun Γ r => ∃ r', retTo Γ r r' ∧ Φ r', bk := fun _ => False, ct := fun _ => False }
theorem ret_res {B : Base} {Hs' H' : Hp} {σ : L2.St} {Γ : Ga} {v : V} {r r' : RV} (E : Env K B Hs' H' σ Γ) (ok : RvOk K B Hs' H' σ Γ v r) (t : retTo Γ r r') :
    ∃ Hs2, Ex Hs' Hs2 ∧ Ex Hs2 H' ∧ (∀ a, Hs' a = none → Hs2 a ≠ none → B.F a = none) ∧ (match r' with | .d x => Rp K Hs2 v x | .n xs => ∃ p vs, v = .ref p ∧ H' p = some (.lst vs) ∧ RpA K Hs2 vs xs ∧ Hs2 p = none ∧ B.F p = none ∧ (∀ (i : Nat) (s : SD), Γ[i]? = some s → owns (σ[i]?.getD none) p s → ∃ ys, s = .l none ys) | _ => False) ∧
      (∀ (p : Addr) (i : Nat) (s : SD), Γ[i]? = some s → owns (σ[i]?.getD none) p s → (∀ ys, s ≠ .l none ys) → Hs2 p = none) := by
  cases r with
  | d x =>
    cases t
    exact ⟨Hs', Ex.refl _, E.e1, fun a h1 h2 => absurd h1 h2, ok, fun p i s h w _ => ((E.slot i s h).there w).1⟩
  | n xs =>
    obtain ⟨p, vs, rfl, hp, ra, f⟩ := ok
    rcases t with t | t
    · cases t
      exact ⟨Hs', Ex.refl _, E.e1, fun a h1 h2 => absurd h1 h2, ⟨p, vs, rfl, hp, ra, f.1, f.2.1, fun i s h w => absurd w (f.2.2 i s h)⟩, fun p i s h w _ => ((E.slot i s h).there w).1⟩
    · cases t
      have ex2 : Ex Hs' (upd Hs' p (.lst vs)) := Ex.new f.1
      refine ⟨upd Hs' p (.lst vs), ex2, (E.freeze hp f).e1, fun a h1 h2 => ?_, .lst (SqL.of upd_same) (ra.mono ex2), fun q i s h w _ => ?_⟩
      · by_cases z : a = p
        · subst z; exact f.2.1
        · rw [upd_ne z] at h2; exact absurd h1 h2
      · have ne : q ≠ p := fun z => by subst z; exact f.2.2 i s h w
        rw [upd_ne ne]; exact ((E.slot i s h).there w).1
  | o i =>
    obtain ⟨xs, hi, t⟩ := t
    obtain ⟨p, vs, e1, _, hn, hp, ra⟩ := E.slot_l hi
    have ok : σ[i]? = some (some v) := ok
    rw [e1] at ok; cases ok
    have wi : owns (σ[i]?.getD none) p (.l none xs) := by rw [e1]; rfl
    have fp := E.own i _ p hi wi
    rcases t with t | t
    · cases t
      exact ⟨Hs', Ex.refl _, E.e1, fun a h1 h2 => absurd h1 h2, ⟨p, vs, rfl, hp, ra, hn, fp, fun j s h w => by
        by_cases ij : i = j
        · subst ij; rw [hi] at h; cases h; exact ⟨_, rfl⟩
        · exact (E.apart i j _ s p ij hi h wi w).elim⟩, fun p i s h w _ => ((E.slot i s h).there w).1⟩
    · cases t
      have ex2 : Ex Hs' (upd Hs' p (.lst vs)) := Ex.new hn
      refine ⟨upd Hs' p (.lst vs), ex2, fun a u h => ?_, fun a h1 h2 => ?_, .lst (SqL.of upd_same) (ra.mono ex2), fun q j s h w hno => ?_⟩
      · by_cases z : a = p
        · subst z; rw [upd_same] at h; cases h; exact hp
        · rw [upd_ne z] at h; exact E.e1 a u h
      · by_cases z : a = p
        · subst z; exact fp
        · rw [upd_ne z] at h2; exact absurd h1 h2
      · have ne : q ≠ p := fun z => by
          subst z
          by_cases ij : i = j
          · subst ij
            rw [hi] at h; cases h
            exact hno _ rfl
          · exact E.apart i j _ s q ij hi h wi w
        rw [upd_ne ne]; exact ((E.slot j s h).there w).1
  | nm kvs => exact t.elim
theorem getD_map {α β : Type} {f : α → β} {l : List α} {i : Nat} {y : β} (h : (l.map f)[i]? = some y) : ∃ x, l[i]? = some x ∧ f x = y := by
  rw [List.getElem?_map] at h
  cases e : l[i]? with
  | none => rw [e] at h; cases h
  | some x => rw [e] at h; cases h; exact ⟨x, rfl, rfl⟩
abbrev BodyD (P : Program) (w : World) (K : PySem.W.Frag) (mg : Str → Option Value) (base : Heap) (N ps : List Str) (st : Stmt) (k : Nat) (F : FT) : Prop :=
  ∀ (X0 : Cx) (B : Base) (ds : List D) (Φ : RV → Prop), Cok (bx P w K mg base N (defScope st) X0) k → ds.length = ps.length → F ds Φ → WS (bx P w K mg base N (defScope st) X0) B (startG N (ds.map .d)) (defBody st) (postD Φ)
theorem body_d {st : Stmt} {N ps : List Str} {k : Nat} {F : FT} (S : FnScope N ps (defScope st)) (body : BodyD P w K mg base N ps st k F) (X0 : Cx) (H : Hp) (vs : List V) (Q : VK) (c : Cok (bx P w K mg base N (defScope st) X0) k) (hsp : spD K F vs H Q E0) (hlv : vs.length = ps.length) :
    PSs (bx P w K mg base N (defScope st) X0) (defBody st) (fun D σ H' => (∀ v H', Q v H' → D.rt v H') ∧ (∀ σ' H', Q .non H' → D.nx σ' H') ∧ σ = L2.start N vs ∧ H' = H) := by
  obtain ⟨Hs, ds, e, r, Φ, hF, fin⟩ := hsp
  have hl : ds.length = ps.length := by rw [← r.length]; exact hlv
  refine PSs.mono (body X0 ⟨Hs, H⟩ ds _ c hl hF) fun D σ H' ⟨q1, q2, q3, q4⟩ => ?_
  subst q3 q4
  have hpl : ps.length ≤ N.length := by
    have := congrArg List.length S.pre
    rw [List.length_take] at this
    omega
  have E : Env K ⟨Hs, H'⟩ Hs H' (L2.start N vs) (startG N (ds.map .d)) := by
    have hv := r.length
    have sl : ∀ (i : Nat) (s : SD), (startG N (ds.map .d))[i]? = some s → (∃ d, ds[i]? = some d ∧ s = .d d) ∨ s = .no := fun i s h => by
      unfold startG at h
      rw [List.getElem?_append] at h
      split at h
      · obtain ⟨d, h1, h2⟩ := getD_map h
        exact .inl ⟨d, h1, h2.symm⟩
      · rw [List.getElem?_replicate] at h
        split at h
        · cases h; exact .inr rfl
        · cases h
    refine ⟨?_, Ex.refl _, e, Ex.refl _, fun a h1 h2 => absurd h1 h2, fun i s h => ?_, fun i s p h w => ?_, fun i j s t p _ h _ w _ => ?_⟩
    · unfold L2.start startG
      simp only [List.length_append, List.length_map, List.length_replicate, hv]
    · rcases sl i s h with ⟨d, hd, rfl⟩ | rfl
      · obtain ⟨v, hv', rv⟩ := r.getD hd
        refine ⟨v, ?_, rv⟩
        unfold L2.start
        have hi : i < vs.length := (List.getElem?_eq_some_iff.mp hv').1
        rw [List.getElem?_append_left (by rw [List.length_map]; exact hi), List.getElem?_map, hv']
        rfl
      · trivial
    · rcases sl i s h with ⟨d, _, rfl⟩ | rfl <;> exact w.elim
    · rcases sl i s h with ⟨d, _, rfl⟩ | rfl <;> exact w.elim
  refine ⟨Hs, E, fun σ' H2 Hs2 Γ2 ex E2 w => q2 σ' H2 (fin _ w .non H2 Hs2 ex E2.e1 E2.fr E2.nw .non), fun v σ' H2 Hs2 Γ2 r ex E2 ok w => ?_, fun _ _ _ _ _ _ z => z.elim, fun _ _ _ _ _ _ z => z.elim⟩
  obtain ⟨r', t, w⟩ := w
  obtain ⟨Hs3, x1, x2, x3, x4, _⟩ := ret_res E2 ok t
  refine q1 v H2 (fin _ w v H2 Hs3 (ex.trans x1) x2 E2.fr (fun a h1 h2 => ?_) ?_)
  · by_cases z : Hs2 a = none
    · exact x3 a z h2
    · exact E2.nw a h1 z
  · cases r' with
    | d x => exact x4
    | n xs => obtain ⟨p, us, a1, a2, a3, a4, a5, _⟩ := x4; exact ⟨p, us, a1, a2, a3, a4, a5⟩
    | o i => exact x4
    | nm kvs => exact x4
/-- a def whose first argument is a list that it changes; it must not be returned -/
def postIO (p : Addr) (Φ : List D → RV → Prop) : Post := { nx := fun Γ => ∃ xs, Γ[0]? = some (.l (some p) xs) ∧ Φ xs (.d .non), rt := fun Γ r => ∃ r' xs, retTo Γ r r' ∧ Γ[0]? = some (.l (some p) xs) ∧ Φ xs r', bk := fun _ => False, ct := fun _ => False }
abbrev BodyIO (P : Program) (w : World) (K : PySem.W.Frag) (mg : Str → Option Value) (base : Heap) (N ps : List Str) (st : Stmt) (k : Nat) (F : FIO) : Prop :=
  ∀ (X0 : Cx) (B : Base) (p : Addr) (xs ds : List D) (Φ : List D → RV → Prop), Cok (bx P w K mg base N (defScope st) X0) k → ds.length + 1 = ps.length → F xs ds Φ →
      WS (bx P w K mg base N (defScope st) X0) B (startG N (.l (some p) xs :: ds.map .d)) (defBody st) (postIO p Φ)
theorem body_io {st : Stmt} {N ps : List Str} {k : Nat} {F : FIO} (S : FnScope N ps (defScope st)) (body : BodyIO P w K mg base N ps st k F) (X0 : Cx) (H : Hp) (vs : List V) (Q : VK) (c : Cok (bx P w K mg base N (defScope st) X0) k) (hsp : spIO K F vs H Q E0) (hlv : vs.length = ps.length) :
    PSs (bx P w K mg base N (defScope st) X0) (defBody st) (fun D σ H' => (∀ v H', Q v H' → D.rt v H') ∧ (∀ σ' H', Q .non H' → D.nx σ' H') ∧ σ = L2.start N vs ∧ H' = H) := by
  obtain ⟨Hs, p, us, ws, xs, ds, rfl, e, hsp, hp, ru, r, Φ, hF, fin⟩ := hsp
  have hl : ds.length + 1 = ps.length := by rw [← r.length]; exact hlv
  refine PSs.mono (body X0 ⟨Hs, fun a => if a = p then none else H a⟩ p xs ds _ c hl hF) fun D σ H' ⟨q1, q2, q3, q4⟩ => ?_
  subst q3 q4
  have hpl : ps.length ≤ N.length := by
    have := congrArg List.length S.pre
    rw [List.length_take] at this
    omega
  have hv := r.length
  have fp : (fun a => if a = p then none else H' a) p = none := if_pos rfl
  have E : Env K ⟨Hs, fun a => if a = p then none else H' a⟩ Hs H' (L2.start N (.ref p :: ws)) (startG N (.l (some p) xs :: ds.map .d)) := by
    have sl : ∀ (i : Nat) (s : SD), (startG N (.l (some p) xs :: ds.map .d))[i]? = some s → (i = 0 ∧ s = .l (some p) xs) ∨ (∃ j d, i = j + 1 ∧ ds[j]? = some d ∧ s = .d d) ∨ s = .no := fun i s h => by
      unfold startG at h
      rw [List.getElem?_append] at h
      split at h
      · cases i with
        | zero => cases h; exact .inl ⟨rfl, rfl⟩
        | succ j =>
          obtain ⟨d, h1, h2⟩ := getD_map (show (ds.map SD.d)[j]? = some s from h)
          exact .inr (.inl ⟨j, d, rfl, h1, h2.symm⟩)
      · rw [List.getElem?_replicate] at h
        split at h
        · cases h; exact .inr (.inr rfl)
        · cases h
    have g0 : (L2.start N (.ref p :: ws))[0]?.getD none = some (.ref p) := by unfold L2.start; rfl
    refine ⟨?_, Ex.refl _, e, fun a u h => ?_, fun a h1 h2 => absurd h1 h2, fun i s h => ?_, fun i s q h w => ?_, fun i j s t q hij h1 h2 w1 w2 => ?_⟩
    · unfold L2.start startG
      simp only [List.length_append, List.length_map, List.length_replicate, List.length_cons, hv]
    · have h : (if a = p then none else H' a) = some u := h
      split at h
      · cases h
      · exact h
    · rcases sl i s h with ⟨rfl, rfl⟩ | ⟨j, d, rfl, hd, rfl⟩ | rfl
      · exact ⟨p, us, g0, fun q z => by cases z; rfl, hsp, hp, ru⟩
      · obtain ⟨v, hv', rv⟩ := r.getD hd
        refine ⟨v, ?_, rv⟩
        unfold L2.start
        have hi : j + 1 < (V.ref p :: ws).length := by
          have := (List.getElem?_eq_some_iff.mp hv').1
          rw [List.length_cons]; omega
        rw [List.getElem?_append_left (by rw [List.length_map]; exact hi), List.getElem?_map, List.getElem?_cons_succ, hv']
        rfl
      · trivial
    · rcases sl i s h with ⟨rfl, rfl⟩ | ⟨j, d, rfl, _, rfl⟩ | rfl
      · have w : (L2.start N (.ref p :: ws))[0]?.getD none = some (.ref q) := w
        rw [g0] at w; cases w; exact fp
      · exact w.elim
      · exact w.elim
    · rcases sl i s h1 with ⟨rfl, rfl⟩ | ⟨_, _, _, _, rfl⟩ | rfl
      · rcases sl j t h2 with ⟨rfl, rfl⟩ | ⟨_, _, _, _, rfl⟩ | rfl
        · exact hij rfl
        · exact w2.elim
        · exact w2.elim
      · exact w1.elim
      · exact w1.elim
  have at0 : ∀ {Hs2 H2 : Hp} {σ2 : L2.St} {Γ2 : Ga} {ys : List DL.D}, Env K ⟨Hs, fun a => if a = p then none else H' a⟩ Hs2 H2 σ2 Γ2 → Γ2[0]? = some (.l (some p) ys) →
      Hs2 p = none ∧ owns (σ2[0]?.getD none) p (.l (some p) ys) ∧ ∃ us', H2 p = some (.lst us') ∧ RpA K Hs2 us' ys := fun {Hs2 H2 σ2 Γ2 ys} E2 h0 => by
    obtain ⟨q, us', e1, z, hn2, hp2, ra2⟩ := E2.slot_l h0
    have := z p rfl
    subst this
    exact ⟨hn2, by rw [e1]; rfl, us', hp2, ra2⟩
  have frm : ∀ {Hs2 H2 : Hp} {σ2 : L2.St} {Γ2 : Ga}, Env K ⟨Hs, fun a => if a = p then none else H' a⟩ Hs2 H2 σ2 Γ2 → ∀ a o, a ≠ p → H' a = some o → H2 a = some o := fun {_ H2 _ _} E2 a o ne q =>
    E2.fr a o (show (if a = p then none else H' a) = some o by rw [if_neg ne]; exact q)
  have nn : ∀ {a : Addr}, (if a = p then none else H' a) = (none : Option HO) → a ≠ p → H' a = none := fun {a} h ne => by rw [if_neg ne] at h; exact h
  refine ⟨Hs, E, fun σ' H2 Hs2 Γ2 ex E2 w => ?_, fun v σ' H2 Hs2 Γ2 r ex E2 ok w => ?_, fun _ _ _ _ _ _ z => z.elim, fun _ _ _ _ _ _ z => z.elim⟩
  · obtain ⟨ys, h0, w⟩ := w
    obtain ⟨hn2, _, us', hp2, ra2⟩ := at0 E2 h0
    exact q2 σ' H2 (fin _ _ w .non H2 Hs2 us' ex E2.e1 (frm E2) (fun a h1 h2 => nn (E2.nw a h1 h2) fun z => by subst z; exact h2 hn2) hn2 hp2 ra2 .non)
  · obtain ⟨r', ys, t, h0, w⟩ := w
    obtain ⟨hn2, w0, us', hp2, ra2⟩ := at0 E2 h0
    obtain ⟨Hs3, x1, x2, x3, x4, x5⟩ := ret_res E2 ok t
    have hn3 : Hs3 p = none := x5 p 0 _ h0 w0 fun ys q => by cases q
    refine q1 v H2 (fin _ _ w v H2 Hs3 us' (ex.trans x1) x2 (frm E2) (fun a h1 h2 => ?_) hn3 hp2 (ra2.mono x1) ?_)
    · have ne : a ≠ p := fun z => by subst z; exact h2 hn3
      by_cases z : Hs2 a = none
      · exact nn (x3 a z h2) ne
      · exact nn (E2.nw a h1 z) ne
    · cases r' with
      | d x => exact x4
      | n xs =>
        obtain ⟨q, vs, a1, a2, a3, a4, a5, a6⟩ := x4
        refine ⟨q, vs, a1, a2, a3, a4, nn a5 fun z => ?_⟩
        subst z
        obtain ⟨ys', e⟩ := a6 0 _ h0 w0
        cases e
      | o i => exact x4
      | nm kvs => exact x4

/-! ### the three ways to bind -/
/-- every parameter is written -/
theorem def_d {x qual : Str} {st : Stmt} {f : Addr} {N ps : List Str} {k : Nat} {F : FT} (U : At K mg x qual st .none f) (S : FnScope N ps (defScope st)) (hF : ∀ ds Φ, F ds Φ → ds.length = ps.length)
    (hb : ∀ (kV doc pm : Value) (an : Option Addr) (cdv ct : Value) (us : List Value), us.length = ps.length → bindArgs (PySem.W.fnOf x qual (defArgs st) (defBody st) (defScope st) .none kV doc pm an cdv ct) ⟨us, []⟩ = pure (ps.zip us))
    (body : BodyD P w K mg base N ps st k F) : DefG P w K mg base (k + 1) x (spD K F) :=
  def_body U S (fun vs H Q => spD K F vs H Q E0 ∧ vs.length = ps.length) (fun kV doc pm an cdv ct A outer s H us vs Q e0 r h => by
    have hl : vs.length = ps.length := by
      obtain ⟨Hs, ds, e, rr, Φ, hf, fin⟩ := h
      rw [rr.length]; exact hF ds Φ hf
    exact bnd_all (hb kV doc pm an cdv ct us (by rw [← r.length]; exact hl)) e0 r hl ⟨h, hl⟩) fun X0 H vs Q c g => body_d S body X0 H vs Q c g.1 g.2
theorem def_io {x qual : Str} {st : Stmt} {f : Addr} {N ps : List Str} {k : Nat} {F : FIO} (U : At K mg x qual st .none f) (S : FnScope N ps (defScope st)) (hF : ∀ xs ds Φ, F xs ds Φ → ds.length + 1 = ps.length)
    (hb : ∀ (kV doc pm : Value) (an : Option Addr) (cdv ct : Value) (us : List Value), us.length = ps.length → bindArgs (PySem.W.fnOf x qual (defArgs st) (defBody st) (defScope st) .none kV doc pm an cdv ct) ⟨us, []⟩ = pure (ps.zip us))
    (body : BodyIO P w K mg base N ps st k F) : DefG P w K mg base (k + 1) x (spIO K F) :=
  def_body U S (fun vs H Q => spIO K F vs H Q E0 ∧ vs.length = ps.length) (fun kV doc pm an cdv ct A outer s H us vs Q e0 r h => by
    have hl : vs.length = ps.length := by
      obtain ⟨Hs, p, us, ws, xs, ds, rfl, e, hsp, hp, ru, r, Φ, hf, fin⟩ := h
      rw [List.length_cons, r.length]; exact hF xs ds Φ hf
    exact bnd_all (hb kV doc pm an cdv ct us (by rw [← r.length]; exact hl)) e0 r hl ⟨h, hl⟩) fun X0 H vs Q c g => body_io S body X0 H vs Q c g.1 g.2
/-- what is not written stands among the defaults dds -/
def FDflt (n : Nat) (dds : List D) (F : FT) : FT := fun ds Φ => ds.length ≤ n ∧ n ≤ ds.length + dds.length ∧ F (ds ++ dds.drop (ds.length + dds.length - n)) Φ
theorem def_dd {x qual : Str} {st : Stmt} {f T : Addr} {o : Obj} {its : List Value} {m : Nat} {dvs : List V} {dds : List D} {N ps : List Str} {k : Nat} {F : FT} (U : At K mg x qual st (.ref T) f) (S : FnScope N ps (defScope st)) (lT : K.lookup T = some o) (oT : o.data = .seq its.toArray m) (rT : Vals dvs its) (rd : ∀ Hs, RpA K Hs dvs dds)
    (hb : ∀ (kV doc pm : Value) (an : Option Addr) (cdv ct : Value) (us its' : List Value), its'.length = dds.length → us.length ≤ ps.length → ps.length ≤ us.length + dds.length →
      ∃ kf, bindArgs (PySem.W.fnOf x qual (defArgs st) (defBody st) (defScope st) (.ref T) kV doc pm an cdv ct) ⟨us, []⟩ = seqItems? (.ref T) >>= kf ∧ kf (some its'.toArray) = pure (ps.zip (us ++ its'.drop (us.length + its'.length - ps.length))))
    (body : BodyD P w K mg base N ps st k F) : DefG P w K mg base (k + 1) x (spD K (FDflt ps.length dds F)) :=
  def_body U S (fun vs H Q => spD K F vs H Q E0 ∧ vs.length = ps.length) (fun kV doc pm an cdv ct A outer s H us vs Q e0 r h => by
    obtain ⟨Hs, ds, e, rr, Φ, ⟨h1, h2, hf⟩, fin⟩ := h
    have l1 : its.length = dds.length := by rw [← rT.length]; exact (rd Hs).length
    have l2 : us.length = ds.length := by rw [← r.length]; exact rr.length
    obtain ⟨kf, b1, b2⟩ := hb kV doc pm an cdv ct us its l1 (by omega) (by omega)
    have e2 : us.length + its.length - ps.length = ds.length + dds.length - ps.length := by omega
    rw [e2] at b2
    have rr2 := rr.append ((rd Hs).drop (ds.length + dds.length - ps.length))
    have hl : (vs ++ dvs.drop (ds.length + dds.length - ps.length)).length = ps.length := by
      rw [rr2.length, List.length_append, List.length_drop]; omega
    exact bnd_dflt lT oT rT b1 b2 e0 r hl ⟨⟨Hs, _, e, rr2, Φ, hf, fin⟩, hl⟩) fun X0 H vs Q c g => body_d S body X0 H vs Q c g.1 g.2
/-- def f(*values) -/
def FStar (F : FT) : FT := fun ds Φ => ds.length ≤ sizeLine ∧ F [.tup ds] Φ
theorem def_star {x qual pv : Str} {st : Stmt} {f : Addr} {N : List Str} {k : Nat} {F : FT} (U : At K mg x qual st .none f) (S : FnScope N [pv] (defScope st))
    (hb : ∀ (kV doc pm : Value) (an : Option Addr) (cdv ct : Value) (us : List Value), bindArgs (PySem.W.fnOf x qual (defArgs st) (defBody st) (defScope st) .none kV doc pm an cdv ct) ⟨us, []⟩ = (newTuple us >>= fun t => pure [(pv, t)]))
    (body : BodyD P w K mg base N [pv] st k F) : DefG P w K mg base (k + 1) x (spD K (FStar F)) :=
  def_body U S (fun vs H Q => spD K F vs H Q E0 ∧ vs.length = 1) (fun kV doc pm an cdv ct A outer s H us vs Q e0 r h => by
    obtain ⟨Hs, ds, e, rr, Φ, ⟨h1, hf⟩, fin⟩ := h
    refine bnd_star (hb kV doc pm an cdv ct us) e0 r (by rw [rr.length]; exact h1) fun p hp => ⟨⟨upd Hs p (.tup vs), [.tup ds], e.both, ?_, Φ, hf, fun r wr v H' Hs' x1 x2 x3 x4 x5 => ?_⟩, rfl⟩
    · exact .cons (.tup (SqT.of upd_same) (rr.mono (Ex.new (e.none hp)))) .nil
    · have x3' : Ex H H' := (Ex.new hp).trans x3
      refine fin r wr v H' Hs' ((Ex.new (e.none hp)).trans x1) x2 x3' (fun a h1 h2 => ?_) ?_
      · by_cases z : a = p
        · subst z; exact hp
        · have := x4 a (by rw [upd_ne z]; exact h1) h2
          rw [upd_ne z] at this; exact this
      · cases r with
        | d y => exact x5
        | n zs =>
          obtain ⟨q, ws, a1, a2, a3, a4, a5⟩ := x5
          exact ⟨q, ws, a1, a2, a3, a4, (Ex.new hp).none a5⟩
        | o i => exact x5.elim
        | nm kvs => exact x5.elim) fun X0 H vs Q c g => body_d S body X0 H vs Q c g.1 g.2

/-! ### calls -/
end
section
variable {X : Cx} {B : Base} {Γ : Ga} {e : Expr} {es : List Expr} {pos p : Pos} {Φ : Ga → RV → Prop} {kk j : Nat} {x : Str}
theorem pe_callG {sp : Sp} {t : TA} (c : Cok X kk) (G : DefG X.prog X.w X.K X.mg X.base j x sp) (hj : j ≤ kk)
    (ha : PA X (e :: es) t) (hg : Gl X x) (hdb : (x == ("__debug__" : Str)) = false) (he : starEach (e :: es) X.env = (false, eval e X.env) :: starEach es X.env) (hpl : (backTo pos (starEach es X.env)).any (·.1) = false) :
    PE X (.Call (.Name x p) (e :: es) [] pos) (fun σ H Q => t σ H fun vs H1 => sp vs H1 Q E0) := by
  obtain ⟨f, hm, hk, go⟩ := G.ex
  refine ⟨fun pins s σ H Q I h => wpAny_Call_Name_kw (ld_glob I hg hm (PySem.W.callWith_K (h₀ := X.base) I.ok.mod.kin hk (thn (ha.run pos pins s σ H _ I h) fun us s1 w => ?_) he hpl) hdb)⟩
  obtain ⟨vs, H1, I1, r, q⟩ := w
  refine ⟨I1.kIn, wpAny_call (codeAny_mono (go X.A X.stack s1 H1 us vs Q c.gd (c.room.mono hj) I1.env0 r q) ?_)⟩
  intro r s' hq
  match r, hq with
  | .ok (.ret u), hq => exact I1.after hq
  | .error e, hq => exact False.elim hq
theorem pe_callG0 {sp : Sp} (c : Cok X kk) (G : DefG X.prog X.w X.K X.mg X.base j x sp) (hj : j ≤ kk) (hg : Gl X x) (hdb : (x == ("__debug__" : Str)) = false) : PE X (.Call (.Name x p) [] [] pos) (fun σ H Q => sp [] H Q E0) := by
  obtain ⟨f, hm, hk, go⟩ := G.ex
  refine ⟨fun pins s σ H Q I h => wpAny_Call_Name_kw (ld_glob I hg hm (PySem.W.callWith_K0 I.kIn hk (wpAny_call (codeAny_mono (go X.A X.stack s H [] [] Q c.gd (c.room.mono hj) I.env0 .nil h) ?_))) hdb)⟩
  intro r s' hq
  match r, hq with
  | .ok (.ret u), hq => exact I.after hq
  | .error e, hq => exact False.elim hq
/-- a result lies behind the call as a value -/
theorem res_rv {K : PySem.W.Frag} {Hs Hs' H H' : Hp} {σ : L2.St} {v : V} {r : RV} (E : Env K B Hs H σ Γ) (ex : Ex Hs Hs') (e1 : Ex Hs' H') (fr : Ex H H') (nw : newOk Hs Hs' H) (ok : resOk K Hs' H H' v r) : Env K B Hs' H' σ Γ ∧ RvOk K B Hs' H' σ Γ v r := by
  have E2 : Env K B Hs' H' σ Γ := by
    refine ⟨E.len, E.e0.trans ex, e1, E.fr.trans fr, fun a h1 h2 => ?_, fun i s hs => (E.slot i s hs).mono ex (fun q u w hq => fr q u hq) (fun q w hq => ?_), E.own, E.apart⟩
    · by_cases z : Hs a = none
      · exact E.fr.none (nw a z h2)
      · exact E.nw a h1 z
    · cases z : Hs' q with
      | none => rfl
      | some u =>
        have := nw q hq (by rw [z]; exact fun t => nomatch t)
        exact absurd this ((E.slot i s hs).there w).2
  refine ⟨E2, ?_⟩
  cases r with
  | d x => exact ok
  | n xs =>
    obtain ⟨q, vs, e, h1, h2, h3, h4⟩ := ok
    exact ⟨q, vs, e, h1, h2, h3, E.fr.none h4, fun i s hs w => ((E.slot i s hs).there w).2 h4⟩
  | o i => exact ok.elim
  | nm kvs => exact ok.elim
/-- f(e, ..) -/
theorem w_call {F : FT} (c : Cok X kk) (G : DefG X.prog X.w X.K X.mg X.base j x (spD X.K F)) (hj : j ≤ kk)
    (h : WA X B Γ (e :: es) fun Γ1 rs => ∃ xs, AllD rs xs ∧ F xs fun r => Φ Γ1 r) (hg : Gl X x := by rfl) (hdb : (x == ("__debug__" : Str)) = false := by decide)
    (he : starEach (e :: es) X.env = (false, eval e X.env) :: starEach es X.env := by rfl) (hpl : (backTo pos (starEach es X.env)).any (·.1) = false := by rfl) : WE X B Γ (.Call (.Name x p) (e :: es) [] pos) Φ :=
  PE.mono (pe_callG c G hj h hg hdb he hpl) fun σ H Q ⟨Hs, E, q⟩ => ⟨Hs, E, fun vs H1 Hs1 Γ1 rs ex E1 ok w => by
    obtain ⟨xs, al, w⟩ := w
    obtain rfl := al.eq
    refine ⟨Hs1, xs, E1.e1, rva_ds ok, _, w, fun r wr v H' Hs' x1 x2 x3 x4 x5 => ?_⟩
    obtain ⟨E2, ok2⟩ := res_rv E1 x1 x2 x3 x4 x5
    exact q v H' Hs' Γ1 r (ex.trans x1) E2 ok2 wr⟩
theorem w_call0 {F : FT} (c : Cok X kk) (G : DefG X.prog X.w X.K X.mg X.base j x (spD X.K F)) (hj : j ≤ kk) (h : F [] fun r => Φ Γ r) (hg : Gl X x := by rfl) (hdb : (x == ("__debug__" : Str)) = false := by decide) : WE X B Γ (.Call (.Name x p) [] [] pos) Φ :=
  PE.mono (pe_callG0 c G hj hg hdb) fun σ H Q ⟨Hs, E, q⟩ => by
    refine ⟨Hs, [], E.e1, .nil, _, h, fun r wr v H' Hs' x1 x2 x3 x4 x5 => ?_⟩
    obtain ⟨E2, ok2⟩ := res_rv E x1 x2 x3 x4 x5
    exact q v H' Hs' Γ r x1 E2 ok2 wr
/-- behind a call that changed the list of slot i -/
theorem res_io {K : PySem.W.Frag} {Hs Hs' H H' : Hp} {σ : L2.St} {v : V} {r : RV} {i : Nat} {q : Addr} {o : Option Addr} {xs xs' : List D} {us' : List V} (E : Env K B Hs H σ Γ) (hi : Γ[i]? = some (.l o xs)) (hq : σ[i]? = some (some (.ref q)))
    (ex : Ex Hs Hs') (e1 : Ex Hs' H') (fr : ∀ a u, a ≠ q → H a = some u → H' a = some u) (nw : newOk Hs Hs' H) (hn : Hs' q = none) (hp : H' q = some (.lst us')) (ra : RpA K Hs' us' xs') (ok : resOk K Hs' H H' v r) :
    Env K B Hs' H' σ (Γ.set i (.l o xs')) ∧ RvOk K B Hs' H' σ (Γ.set i (.l o xs')) v r := by
  have wi : owns (σ[i]?.getD none) q (.l o xs) := by rw [hq]; rfl
  have hl : i < Γ.length := (List.getElem?_eq_some_iff.mp hi).1
  have fq := E.own i _ q hi wi
  have gt : ∀ (j : Nat) (t : SD), (Γ.set i (.l o xs'))[j]? = some t → (j = i ∧ t = .l o xs') ∨ (j ≠ i ∧ Γ[j]? = some t) := fun j t h => by
    rw [List.getElem?_set] at h
    by_cases z : i = j
    · subst z; rw [if_pos rfl, if_pos hl] at h; cases h; exact .inl ⟨rfl, rfl⟩
    · rw [if_neg z] at h; exact .inr ⟨fun y => z y.symm, h⟩
  have there : ∀ (j : Nat) (t : SD) (a : Addr), (Γ.set i (.l o xs'))[j]? = some t → owns (σ[j]?.getD none) a t → H a ≠ none := fun j t a h w => by
    rcases gt j t h with ⟨rfl, rfl⟩ | ⟨_, h⟩
    · exact ((E.slot j _ hi).there (show owns (σ[j]?.getD none) a (.l o xs) from w)).2
    · exact ((E.slot j t h).there w).2
  have nost : ∀ a, H a ≠ none → Hs a = none → Hs' a = none := fun a h1 h2 => by
    cases z : Hs' a with
    | none => rfl
    | some u => exact absurd (nw a h2 (by rw [z]; exact fun t => nomatch t)) h1
  have E2 : Env K B Hs' H' σ (Γ.set i (.l o xs')) := by
    refine ⟨by rw [List.length_set, E.len], E.e0.trans ex, e1, fun a u h => fr a u (fun z => by subst z; rw [fq] at h; cases h) (E.fr a u h), fun a h1 h2 => ?_, fun j t h => ?_, fun j t a h w => ?_, fun j k s t a hjk h1 h2 w1 w2 => ?_⟩
    · by_cases z : Hs a = none
      · exact E.fr.none (nw a z h2)
      · exact E.nw a h1 z
    · rcases gt j t h with ⟨rfl, rfl⟩ | ⟨ne, h⟩
      · obtain ⟨q', us, e, z, _, _, _⟩ := E.slot j _ hi
        rw [hq] at e; cases e
        exact ⟨q, us', by rw [hq]; rfl, z, hn, hp, ra⟩
      · refine (E.slot j t h).mono ex (fun a u w ha => fr a u (fun z => ?_) ha) fun a w ha => nost a ((E.slot j t h).there w).2 ha
        subst z; exact E.apart j i t _ a ne h hi w wi
    · rcases gt j t h with ⟨rfl, rfl⟩ | ⟨ne, h⟩
      · exact E.own j _ a hi w
      · exact E.own j t a h w
    · rcases gt j s h1 with ⟨rfl, rfl⟩ | ⟨n1, g1⟩
      · rcases gt k t h2 with ⟨rfl, rfl⟩ | ⟨n2, g2⟩
        · exact hjk rfl
        · exact E.apart j k _ t a hjk hi g2 w1 w2
      · rcases gt k t h2 with ⟨rfl, rfl⟩ | ⟨n2, g2⟩
        · exact E.apart j k s _ a hjk g1 hi w1 w2
        · exact E.apart j k s t a hjk g1 g2 w1 w2
  refine ⟨E2, ?_⟩
  cases r with
  | d x => exact ok
  | n zs =>
    obtain ⟨a, vs, e, h1, h2, h3, h4⟩ := ok
    exact ⟨a, vs, e, h1, h2, h3, E.fr.none h4, fun j t h w => there j t a h w h4⟩
  | o i => exact ok.elim
  | nm kvs => exact ok.elim
/-- f(name, e, ..): the list of the slot is changed -/
theorem w_callIO {F : FIO} (c : Cok X kk) (G : DefG X.prog X.w X.K X.mg X.base j x (spIO X.K F)) (hj : j ≤ kk)
    (h : WA X B Γ (e :: es) fun Γ1 rs => ∃ i o xs ts ds, rs = .o i :: ts ∧ AllD ts ds ∧ Γ1[i]? = some (.l o xs) ∧ F xs ds fun xs' r => Φ (Γ1.set i (.l o xs')) r) (hg : Gl X x := by rfl) (hdb : (x == ("__debug__" : Str)) = false := by decide)
    (he : starEach (e :: es) X.env = (false, eval e X.env) :: starEach es X.env := by rfl) (hpl : (backTo pos (starEach es X.env)).any (·.1) = false := by rfl) : WE X B Γ (.Call (.Name x p) (e :: es) [] pos) Φ :=
  PE.mono (pe_callG c G hj h hg hdb he hpl) fun σ H Q ⟨Hs, E, q⟩ => ⟨Hs, E, fun vs H1 Hs1 Γ1 rs ex E1 ok w => by
    obtain ⟨i, o, xs, ts, ds, rfl, al, hi, w⟩ := w
    obtain rfl := al.eq
    cases ok with
    | cons ok0 _ oks =>
      obtain ⟨a, us, e1, z, hn, hp, ra⟩ := E1.slot_l hi
      have ok0 : σ[i]? = some (some _) := ok0
      rw [e1] at ok0; cases ok0
      refine ⟨Hs1, a, us, _, xs, ds, rfl, E1.e1, hn, hp, ra, rva_ds oks, _, w, fun xs' r wr v H' Hs' us' x1 x2 x3 x4 x5 x6 x7 x8 => ?_⟩
      obtain ⟨E2, ok2⟩ := res_io E1 hi e1 x1 x2 x3 x4 x5 x6 x7 x8
      exact q v H' Hs' _ r (ex.trans x1) E2 ok2 wr⟩
/-- f(e), e a new list that nobody else sees -/
theorem w_callN {F : FIO} (c : Cok X kk) (G : DefG X.prog X.w X.K X.mg X.base j x (spIO X.K F)) (hj : j ≤ kk)
    (h : WE X B Γ e fun Γ1 r0 => ∃ xs, r0 = .n xs ∧ F xs [] fun xs' r => Φ Γ1 r) (hg : Gl X x := by rfl) (hdb : (x == ("__debug__" : Str)) = false := by decide)
    (he : starEach (e :: []) X.env = (false, eval e X.env) :: starEach [] X.env := by rfl) (hpl : (backTo pos (starEach [] X.env)).any (·.1) = false := by rfl) : WE X B Γ (.Call (.Name x p) [e] [] pos) Φ :=
  PE.mono (pe_callG c G hj (pa_cons h pa_nil he) hg hdb he hpl) fun σ H Q ⟨Hs, E, q⟩ => ⟨Hs, E, fun v0 H1 Hs1 Γ1 r0 ex E1 ok w => by
    obtain ⟨xs, rfl, w⟩ := w
    obtain ⟨a, us, rfl, hp, ra, fr⟩ := ok
    refine ⟨Hs1, a, us, [], xs, [], rfl, E1.e1, fr.1, hp, ra, .nil, _, w, fun xs' r wr v H' Hs' us' x1 x2 x3 x4 x5 x6 x7 x8 => ?_⟩
    have nost : ∀ b, H1 b ≠ none → Hs1 b = none → Hs' b = none := fun b h1 h2 => by
      cases z : Hs' b with
      | none => rfl
      | some u => exact absurd (x4 b h2 (by rw [z]; exact fun t => nomatch t)) h1
    have E2 : Env X.K B Hs' H' σ Γ1 := by
      refine ⟨E1.len, E1.e0.trans x1, x2, fun b u hb => x3 b u (fun z => by subst z; rw [fr.2.1] at hb; cases hb) (E1.fr b u hb), fun b h1 h2 => ?_, fun i s hs => (E1.slot i s hs).mono x1 (fun b u w hb => x3 b u (fun z => ?_) hb) (fun b w hb => nost b ((E1.slot i s hs).there w).2 hb), E1.own, E1.apart⟩
      · by_cases z : Hs1 b = none
        · exact E1.fr.none (x4 b z h2)
        · exact E1.nw b h1 z
      · subst z; exact fr.2.2 i s hs w
    refine q v H' Hs' Γ1 r (ex.trans x1) E2 ?_ wr
    cases r with
    | d y => exact x8
    | n zs =>
      obtain ⟨b, vs, e, h1, h2, h3, h4⟩ := x8
      exact ⟨b, vs, e, h1, h2, h3, E1.fr.none h4, fun i s hs w => ((E1.slot i s hs).there w).2 h4⟩
    | o i => exact x8.elim
    | nm kvs => exact x8.elim⟩
end
end DL
/-! DL7: operations and built-in functions on data. -/
namespace DL
open PySem PySem.Spec PyProof.Rows L2

/-! ### data as the library's data -/
mutual
def D.py : D → PyData
  | .non => .none
  | .bl b => .bool b
  | .int i => .int i
  | .str x => .str x
  | .tup ds => .tuple (pyAll ds)
  | .lst ds => .list (pyAll ds)
  | .ins _ _ => .none
  | .ty _ => .none
  | .obj _ => .none
def pyAll : List D → List PyData
  | [] => []
  | d :: ds => D.py d :: pyAll ds
end
mutual
/-- no instance, no class in it -/
def D.flat : D → Bool
  | .non => true
  | .bl _ => true
  | .int _ => true
  | .str _ => true
  | .tup ds => flatAll ds
  | .lst ds => flatAll ds
  | .ins _ _ => false
  | .ty _ => false
  | .obj _ => false
def flatAll : List D → Bool
  | [] => true
  | d :: ds => D.flat d && flatAll ds
end
theorem pyAll_map : ∀ ds : List D, pyAll ds = ds.map D.py
  | [] => rfl
  | d :: ds => by rw [pyAll, List.map_cons, pyAll_map ds]
section
variable {K : PySem.W.Frag} {H : Hp}
mutual
theorem Rp.dp : ∀ {v : V} {d : D}, Rp K H v d → d.flat = true → Dp K H v d.py
  | _, _, .non, _ => by rw [D.py]; exact .non
  | _, _, .bl b, _ => by rw [D.py]; exact .bl b
  | _, _, .int i, _ => by rw [D.py]; exact .int i
  | _, _, .str x, _ => by rw [D.py]; exact .str x
  | _, _, .ty n, h => by simp [D.flat] at h
  | _, _, .obj n, h => by simp [D.flat] at h
  | _, _, .tup hs r, h => by rw [D.py]; exact .tup hs (RpA.dp r (by simpa [D.flat] using h))
  | _, _, .lst hs r, h => by rw [D.py]; exact .lst hs (RpA.dp r (by simpa [D.flat] using h))
  | _, _, .ins hs r, h => by simp [D.flat] at h
theorem RpA.dp : ∀ {vs : List V} {ds : List D}, RpA K H vs ds → flatAll ds = true → DpAll K H vs (pyAll ds)
  | _, _, .nil, _ => by rw [pyAll]; exact .nil
  | _, _, .cons (d := d) (ds := ds) h r, e => by
    have e' : D.flat d = true ∧ flatAll ds = true := by simpa [flatAll] using e
    rw [pyAll]; exact .cons (Rp.dp h e'.1) (RpA.dp r e'.2)
end
end
/-- == of data -/
def eqD (x y : D) : Bool := PyData.eqv x.py y.py
/-- data that may be compared: flat, of small depth, of signs that are signs -/
def cmpOk (x : D) : Bool := x.flat && SeqAt.shaped x.py

section
variable {X : Cx} {kk : Nat}
theorem op_I {f : Value → Value → Sem Value} {g : Int → Int → V} {i j : Int} {z : D} (h : OpR X f (rI0 g)) (hz : ∀ Hs, Rp X.K Hs (g i j) z) : OpD X f (.int i) (.int j) z :=
  ⟨_, h, fun Hs H vx vy Q e rx ry q => by cases rx; cases ry; exact ⟨i, j, rfl, rfl, q _ Hs H .refl (hz Hs)⟩⟩
theorem op_IC {f : Value → Value → Sem Value} {C : Int → Int → Prop} {g : Int → Int → V} {i j : Int} {z : D} (h : OpR X f (rI C g)) (hc : C i j) (hz : ∀ Hs, Rp X.K Hs (g i j) z) : OpD X f (.int i) (.int j) z :=
  ⟨_, h, fun Hs H vx vy Q e rx ry q => by cases rx; cases ry; exact ⟨i, j, rfl, rfl, hc, q _ Hs H .refl (hz Hs)⟩⟩
theorem o_add {i j : Int} : OpD X (binaryOp .Add) (.int i) (.int j) (.int (i + j)) := op_I op_add fun _ => .int _
theorem o_sub {i j : Int} : OpD X (binaryOp .Sub) (.int i) (.int j) (.int (i - j)) := op_I op_sub fun _ => .int _
theorem o_mul {i j : Int} (h : CMul i j) : OpD X (binaryOp .Mult) (.int i) (.int j) (.int (i * j)) := op_IC op_mul h fun _ => .int _
theorem o_mod {i j : Int} (h : 0 < j) : OpD X (binaryOp .Mod) (.int i) (.int j) (.int (i % j)) := op_IC op_mod h fun _ => .int _
theorem o_div {i j : Int} (h : CDiv i j) : OpD X (binaryOp .FloorDiv) (.int i) (.int j) (.int (i / j)) := op_IC op_fdiv h fun _ => .int _
theorem op_powW : OpR X (binaryOp .Pow) (rI (fun i j => 0 ≤ j ∧ (Builtin.Int.intBits i : Int) * j ≤ 2 ^ 27) fun i j => .int (i ^ j.toNat)) := opI fun _ _ _ _ _ _ _ hc q => pow_int hc.1 hc.2 q
theorem bits_le {i : Int} {n : Nat} (h : i.natAbs < 2 ^ n) : Builtin.Int.intBits i ≤ n := by
  unfold Builtin.Int.intBits
  split
  · exact Nat.zero_le _
  · rename_i h0
    have : i.natAbs ≠ 0 := fun z => h0 (by simpa using z)
    have := (Nat.log2_lt this).mpr h
    omega
/-- n: the bits of the base -/
theorem o_pow (n : Nat) {i j : Int} (h0 : 0 ≤ j) (hi : i.natAbs < 2 ^ n) (h : (n : Int) * j ≤ 2 ^ 27) : OpD X (binaryOp .Pow) (.int i) (.int j) (.int (i ^ j.toNat)) :=
  op_IC op_powW ⟨h0, by
    have h1 : (Builtin.Int.intBits i : Int) ≤ n := by have := bits_le hi; omega
    have := Int.mul_le_mul_of_nonneg_right h1 h0
    omega⟩ fun _ => .int _
theorem o_lt {i j : Int} : OpD X (compareOp .Lt) (.int i) (.int j) (.bl (decide (i < j))) := op_I op_lt fun _ => .bl _
theorem o_le {i j : Int} : OpD X (compareOp .LtE) (.int i) (.int j) (.bl (decide (i ≤ j))) := op_I op_le fun _ => .bl _
theorem o_gt {i j : Int} : OpD X (compareOp .Gt) (.int i) (.int j) (.bl (decide (j < i))) := op_I op_gt fun _ => .bl _
theorem o_ge {i j : Int} : OpD X (compareOp .GtE) (.int i) (.int j) (.bl (decide (j ≤ i))) := op_I op_ge fun _ => .bl _
/-- == and != of ints and texts -/
theorem o_eqI {i j : Int} : OpD X (compareOp .Eq) (.int i) (.int j) (.bl (decide (i = j))) := ⟨_, op_eq, fun Hs H vx vy Q e rx ry q => by
  cases rx; cases ry
  exact ⟨rfl, by rw [show decide (V.int i = V.int j) = decide (i = j) from decide_eq_decide.mpr ⟨fun z => V.int.inj z, fun z => by rw [z]⟩]; exact q _ Hs H .refl (.bl _)⟩⟩
theorem o_neI {i j : Int} : OpD X (compareOp .NotEq) (.int i) (.int j) (.bl (!decide (i = j))) := ⟨_, op_ne, fun Hs H vx vy Q e rx ry q => by
  cases rx; cases ry
  exact ⟨rfl, by rw [show decide (V.int i = V.int j) = decide (i = j) from decide_eq_decide.mpr ⟨fun z => V.int.inj z, fun z => by rw [z]⟩]; exact q _ Hs H .refl (.bl _)⟩⟩
theorem o_eqS {i j : Str} : OpD X (compareOp .Eq) (.str i) (.str j) (.bl (decide (i = j))) := ⟨_, op_eq, fun Hs H vx vy Q e rx ry q => by
  cases rx; cases ry
  exact ⟨rfl, by rw [show decide (V.str i = V.str j) = decide (i = j) from decide_eq_decide.mpr ⟨fun z => V.str.inj z, fun z => by rw [z]⟩]; exact q _ Hs H .refl (.bl _)⟩⟩
theorem o_neS {i j : Str} : OpD X (compareOp .NotEq) (.str i) (.str j) (.bl (!decide (i = j))) := ⟨_, op_ne, fun Hs H vx vy Q e rx ry q => by
  cases rx; cases ry
  exact ⟨rfl, by rw [show decide (V.str i = V.str j) = decide (i = j) from decide_eq_decide.mpr ⟨fun z => V.str.inj z, fun z => by rw [z]⟩]; exact q _ Hs H .refl (.bl _)⟩⟩
/-- == and != of any data -/
theorem o_eqD {x y : D} (k : Cok X kk) (hx : cmpOk x = true) (hy : cmpOk y = true) : OpD X (compareOp .Eq) x y (.bl (eqD x y)) := by
  have h1 := Bool.and_eq_true_iff.mp hx
  have h2 := Bool.and_eq_true_iff.mp hy
  exact ⟨_, op_eqD (by have := k.room.units; omega), fun Hs H vx vy Q e rx ry q => ⟨_, _, (rx.rp e).dp h1.1, (ry.rp e).dp h2.1, h1.2, h2.2, q _ Hs H .refl (.bl _)⟩⟩
theorem o_neD {x y : D} (k : Cok X kk) (hx : cmpOk x = true) (hy : cmpOk y = true) : OpD X (compareOp .NotEq) x y (.bl (!eqD x y)) := by
  have h1 := Bool.and_eq_true_iff.mp hx
  have h2 := Bool.and_eq_true_iff.mp hy
  exact ⟨_, op_neD (by have := k.room.units; omega), fun Hs H vx vy Q e rx ry q => ⟨_, _, (rx.rp e).dp h1.1, (ry.rp e).dp h2.1, h1.2, h2.2, q _ Hs H .refl (.bl _)⟩⟩
/-- is None, is not None -/
def isNon : D → Bool
  | .non => true
  | _ => false
theorem ra_non {K : PySem.W.Frag} {Hs H : Hp} {v : V} {x : D} (h : Ra K Hs H v x) : decide (v = V.non) = isNon x := by
  cases x with
  | non => cases h; rfl
  | lst xs => obtain ⟨p, vs, rfl, _⟩ := h; rfl
  | bl b => cases h; rfl
  | int b => cases h; rfl
  | str b => cases h; rfl
  | tup b => cases h; rfl
  | ins C b => cases h; rfl
  | ty n => cases h; rfl
  | obj n => cases h; rfl
theorem o_isN {x : D} : OpD X (compareOp .Is) x .non (.bl (isNon x)) := ⟨_, op_isN, fun Hs H vx vy Q e rx ry q => by
  cases ry
  exact ⟨rfl, by rw [ra_non rx]; exact q _ Hs H .refl (.bl _)⟩⟩
theorem o_notN {x : D} : OpD X (compareOp .IsNot) x .non (.bl (!isNon x)) := ⟨_, op_notN, fun Hs H vx vy Q e rx ry q => by
  cases ry
  exact ⟨rfl, by rw [ra_non rx]; exact q _ Hs H .refl (.bl _)⟩⟩
theorem o_isB {a b : Bool} : OpD X (compareOp .Is) (.bl a) (.bl b) (.bl (decide (a = b))) := ⟨_, op_isBl, fun Hs H vx vy Q e rx ry q => by
  cases rx; cases ry
  exact ⟨a, b, rfl, rfl, q _ Hs H .refl (.bl _)⟩⟩
/-- x in a list, in any data -/
def inD (x : D) (ys : List D) : Bool := (pyAll ys).any fun z => PyData.eqv z x.py
theorem o_inD {x : D} {ys : List D} (k : Cok X kk) (hx : cmpOk x = true) (hy : cmpOk (.lst ys) = true) : OpD X (compareOp .In) x (.lst ys) (.bl (inD x ys)) := by
  have h1 := Bool.and_eq_true_iff.mp hx
  have h2 := Bool.and_eq_true_iff.mp hy
  refine ⟨_, op_inD (by have := k.room.un; omega), fun Hs H vx vy Q e rx ry q => ⟨_, pyAll ys, (rx.rp e).dp h1.1, ?_, h1.2, ?_, q _ Hs H .refl (.bl _)⟩⟩
  · have := (ry.rp e).dp h2.1; rw [D.py] at this; exact this
  · have := h2.2; rw [D.py] at this; exact this
theorem o_notInD {x : D} {ys : List D} (k : Cok X kk) (hx : cmpOk x = true) (hy : cmpOk (.lst ys) = true) : OpD X (compareOp .NotIn) x (.lst ys) (.bl (!inD x ys)) := by
  have h1 := Bool.and_eq_true_iff.mp hx
  have h2 := Bool.and_eq_true_iff.mp hy
  refine ⟨_, op_notInD (by have := k.room.un; omega), fun Hs H vx vy Q e rx ry q => ⟨_, pyAll ys, (rx.rp e).dp h1.1, ?_, h1.2, ?_, q _ Hs H .refl (.bl _)⟩⟩
  · have := (ry.rp e).dp h2.1; rw [D.py] at this; exact this
  · have := h2.2; rw [D.py] at this; exact this
/-- a flat thing in a tuple of flat things -/
def flatD : D → Bool
  | .non => true
  | .bl _ => true
  | .int _ => true
  | .str _ => true
  | _ => false
def vOf : D → V
  | .non => .non
  | .bl b => .bl b
  | .int i => .int i
  | .str x => .str x
  | _ => .non
theorem ra_flat {K : PySem.W.Frag} {Hs H : Hp} {v : V} {x : D} (h : Ra K Hs H v x) (f : flatD x = true) : v = vOf x ∧ flatV v = true := by
  cases x with
  | non => cases h; exact ⟨rfl, rfl⟩
  | bl b => cases h; exact ⟨rfl, rfl⟩
  | int i => cases h; exact ⟨rfl, rfl⟩
  | str x => cases h; exact ⟨rfl, rfl⟩
  | _ => cases f
theorem rpa_flat {K : PySem.W.Frag} {Hs : Hp} : ∀ {vs : List V} {xs : List D}, RpA K Hs vs xs → xs.all flatD = true → vs = xs.map vOf ∧ vs.all flatV = true
  | _, [], h, _ => by cases h; exact ⟨rfl, rfl⟩
  | _, x :: xs, h, f => by
    cases h with
    | cons h t =>
      have f' : flatD x = true ∧ xs.all flatD = true := by simpa using f
      obtain ⟨e1, e2⟩ := ra_flat (H := Hs) (Ra.of h (Ex.refl _)) f'.1
      obtain ⟨e3, e4⟩ := rpa_flat t f'.2
      subst e1 e3
      exact ⟨rfl, by simp [e2, e4]⟩
theorem seq_of {K : PySem.W.Frag} {Hs H : Hp} {v : V} {x : D} {xs : List D} (h : Ra K Hs H v x) (e : Ex Hs H) (hx : itemsD x = some xs) : ∃ p vs, v = .ref p ∧ (SqL K H p vs ∨ SqT K H p vs) ∧ RpA K Hs vs xs := by
  cases x with
  | tup ys => cases hx; cases h with | tup hs r => exact ⟨_, _, rfl, .inr (ex_t e hs), r⟩
  | lst ys => cases hx; obtain ⟨p, vs, rfl, hs, r⟩ := h; exact ⟨p, vs, rfl, .inl hs, r⟩
  | _ => cases hx
theorem o_inF {x y : D} {ys : List D} (hy : itemsD y = some ys) (fx : flatD x = true) (fy : ys.all flatD = true) : OpD X (compareOp .In) x y (.bl (inV (vOf x) (ys.map vOf))) := ⟨_, op_in_seq, fun Hs H vx vy Q e rx ry q => by
  obtain ⟨p, vs, rfl, hs, r⟩ := seq_of ry e hy
  obtain ⟨rfl, f1⟩ := ra_flat rx fx
  obtain ⟨rfl, f2⟩ := rpa_flat r fy
  exact ⟨p, _, rfl, hs, f1, f2, q _ Hs H .refl (.bl _)⟩⟩
theorem o_notInF {x y : D} {ys : List D} (hy : itemsD y = some ys) (fx : flatD x = true) (fy : ys.all flatD = true) : OpD X (compareOp .NotIn) x y (.bl (!inV (vOf x) (ys.map vOf))) := ⟨_, op_notIn_seq, fun Hs H vx vy Q e rx ry q => by
  obtain ⟨p, vs, rfl, hs, r⟩ := seq_of ry e hy
  obtain ⟨rfl, f1⟩ := ra_flat rx fx
  obtain ⟨rfl, f2⟩ := rpa_flat r fy
  exact ⟨p, _, rfl, hs, f1, f2, q _ Hs H .refl (.bl _)⟩⟩
/-- a sign in a text -/
theorem o_inS {c : Nat} {z : Str} : OpD X (compareOp .In) (.str ⟨#[c]⟩) (.str z) (.bl (decide (c ∈ z.cps.toList))) := ⟨_, op_in_sign, fun Hs H vx vy Q e rx ry q => by
  cases rx; cases ry
  exact ⟨c, z, rfl, rfl, q _ Hs H .refl (.bl _)⟩⟩
/-- tuple + tuple -/
theorem o_catT {xs ys : List D} (h0 : xs ≠ []) (hl : xs.length + ys.length ≤ sizeLine) : OpD X (binaryOp .Add) (.tup xs) (.tup ys) (.tup (xs ++ ys)) := ⟨_, op_catT, fun Hs H vx vy Q e rx ry q => by
  cases rx with
  | tup h1 r1 =>
    cases ry with
    | tup h2 r2 =>
      refine ⟨_, _, _, _, rfl, rfl, ex_t e h1, ex_t e h2, fun z => ?_, by rw [r1.length, r2.length]; exact hl, fun z => ?_, fun _ p hp => ?_⟩
      · subst z; cases r1; exact h0 rfl
      · subst z; cases r2; exact q _ Hs H .refl (by rw [List.append_nil]; exact .tup h1 r1)
      · exact q _ _ _ (.step .refl hp) (.tup (SqT.of upd_same) ((r1.append r2).mono (Ex.new (e.none hp))))⟩
theorem u_neg {i : Int} : UnD X (unaryOp .USub) (.int i) (.int (-i)) := ⟨_, un_neg, fun Hs H vx Q e rx q => by cases rx; exact ⟨i, rfl, q _ Hs H .refl (.int _)⟩⟩
/-- xs[i] -/
theorem i_seq {x : D} {xs : List D} {i : Int} {z : D} (hx : itemsD x = some xs) (h : atI xs i = some z) : IxD X x (.int i) z := by
  refine ⟨_, ix_list.or ix_tup, fun Hs H vx vy Q e rx ry q => ?_⟩
  cases ry
  obtain ⟨p, vs, rfl, hs, r⟩ := seq_of rx e hx
  have : ∃ v, atI vs i = some v ∧ Rp X.K Hs v z := by
    unfold atI at h ⊢
    rw [r.length]
    cases hn : ixN xs.length i with
    | none => rw [hn] at h; cases h
    | some j => rw [hn] at h; exact r.getD h
  obtain ⟨v, h1, h2⟩ := this
  rcases hs with hs | hs
  · exact .inl ⟨p, vs, i, v, rfl, rfl, hs, h1, q v Hs H .refl h2⟩
  · exact .inr ⟨p, vs, i, v, rfl, rfl, hs, h1, q v Hs H .refl h2⟩
/-! ### slices -/
def cutD {α : Type} (xs : List α) (lo hi : Option Int) : List α := (xs.drop (HT.sIx xs.length 0 lo)).take (HT.sIx xs.length xs.length hi - HT.sIx xs.length 0 lo)
theorem rpa_cut {K : PySem.W.Frag} {Hs : Hp} {vs : List V} {xs : List D} (r : RpA K Hs vs xs) (lo hi : Option Int) : RpA K Hs (cutV vs lo hi) (cutD xs lo hi) := by
  unfold cutV cutD
  rw [r.length]
  exact (r.drop _).take _
theorem l_tup {xs : List D} {lo hi : Option Int} : SlD X (.tup xs) lo hi (.tup (cutD xs lo hi)) := ⟨_, sl_tupA, fun Hs H vx Q e rx q => by
  cases rx with
  | tup hs r =>
    refine ⟨_, _, rfl, ex_t e hs, fun h => ?_, fun h p hp => ?_⟩
    · have : cutD xs lo hi = xs := by
        unfold cutD
        rw [r.length] at h
        rw [h.1, h.2, List.drop_zero, Nat.sub_zero, List.take_length]
      rw [this] at q
      exact q _ Hs H .refl (.tup hs r)
    · exact q _ _ _ (.step .refl hp) (.tup (SqT.of upd_same) ((rpa_cut r lo hi).mono (Ex.new (e.none hp))))⟩
theorem l_lst {xs : List D} {lo hi : Option Int} : SlN X (.lst xs) lo hi (cutD xs lo hi) := ⟨_, sl_list, fun Hs H vx Q e rx q => by
  obtain ⟨p, vs, rfl, hs, r⟩ := rx
  exact ⟨p, vs, rfl, hs, fun l hl => q l _ hl (rpa_cut r lo hi)⟩⟩

/-! ### built-in functions -/
theorem ra1 {K : PySem.W.Frag} {Hs H : Hp} {vs : List V} {x : D} (h : RaA K Hs H vs [x]) : ∃ v, vs = [v] ∧ Ra K Hs H v x := by
  cases h with | cons h t => cases t; exact ⟨_, rfl, h⟩
theorem ra2 {K : PySem.W.Frag} {Hs H : Hp} {vs : List V} {x y : D} (h : RaA K Hs H vs [x, y]) : ∃ v u, vs = [v, u] ∧ Ra K Hs H v x ∧ Ra K Hs H u y := by
  cases h with | cons h t => cases t with | cons h2 t => cases t; exact ⟨_, _, rfl, h, h2⟩
theorem c_len {x : D} {xs : List D} (hx : itemsD x = some xs) : CallD X (.builtin "len") [x] (.int xs.length) := ⟨_, call_len_seq, fun Hs H vs Q e rs q => by
  obtain ⟨v, rfl, r⟩ := ra1 rs
  obtain ⟨p, us, rfl, hs, ra⟩ := seq_of r e hx
  exact ⟨p, us, rfl, hs, by rw [ra.length]; exact q _ Hs H .refl (.int _)⟩⟩
theorem c_lenS {z : Str} (hz : z.length ≤ sizeLine) : CallD X (.builtin "len") [.str z] (.int z.length) := ⟨_, call_len, fun Hs H vs Q e rs q => by
  obtain ⟨v, rfl, r⟩ := ra1 rs
  cases r
  exact ⟨_, _, rfl, ⟨hz, rfl⟩, q _ Hs H .refl (.int _)⟩⟩
theorem c_abs {i : Int} : CallD X (.builtin "abs") [.int i] (.int (if i < 0 then -i else i)) := ⟨_, call_abs, fun Hs H vs Q e rs q => by
  obtain ⟨v, rfl, r⟩ := ra1 rs
  cases r
  exact ⟨i, rfl, q _ Hs H .refl (.int _)⟩⟩
theorem c_max2 (k : Cok X kk) {i j : Int} : CallD X (.builtin "max") [.int i, .int j] (.int (if j > i then j else i)) := ⟨_, call_max2 k.calm, fun Hs H vs Q e rs q => by
  obtain ⟨v, u, rfl, r, r'⟩ := ra2 rs
  cases r; cases r'
  exact ⟨i, j, rfl, q _ Hs H .refl (.int _)⟩⟩
theorem c_min2 (k : Cok X kk) {i j : Int} : CallD X (.builtin "min") [.int i, .int j] (.int (if j < i then j else i)) := ⟨_, call_min2 k.calm, fun Hs H vs Q e rs q => by
  obtain ⟨v, u, rfl, r, r'⟩ := ra2 rs
  cases r; cases r'
  exact ⟨i, j, rfl, q _ Hs H .refl (.int _)⟩⟩
theorem c_int {i : Int} : CallD X (.type "int") [.int i] (.int i) := ⟨_, call_int1, fun Hs H vs Q e rs q => by
  obtain ⟨v, rfl, r⟩ := ra1 rs
  cases r
  exact .inl ⟨i, rfl, q _ Hs H .refl (.int _)⟩⟩
theorem c_intB {b : Bool} : CallD X (.type "int") [.bl b] (.int (if b then 1 else 0)) := ⟨_, call_int1, fun Hs H vs Q e rs q => by
  obtain ⟨v, rfl, r⟩ := ra1 rs
  cases r
  exact .inr ⟨b, rfl, q _ Hs H .refl (.int _)⟩⟩
theorem rpa_bls {K : PySem.W.Frag} {Hs : Hp} : ∀ {vs : List V} {bs : List Bool}, RpA K Hs vs (bs.map .bl) → vs = bs.map .bl
  | _, [], h => by cases h; rfl
  | _, b :: bs, h => by cases h with | cons h t => cases h; rw [rpa_bls t]; rfl
theorem rpa_ints {K : PySem.W.Frag} {Hs : Hp} : ∀ {vs : List V} {bs : List Int}, RpA K Hs vs (bs.map .int) → vs = bs.map .int
  | _, [], h => by cases h; rfl
  | _, b :: bs, h => by cases h with | cons h t => cases h; rw [rpa_ints t]; rfl
theorem c_all (k : Cok X kk) {bs : List Bool} : CallD X (.builtin "all") [.lst (bs.map .bl)] (.bl (bs.all id)) := ⟨_, cr_all k.calm, fun Hs H vs Q e rs q => by
  obtain ⟨v, rfl, p, us, rfl, hs, ra⟩ := ra1 rs
  rw [rpa_bls ra] at hs
  exact ⟨p, bs, rfl, hs, q _ Hs H .refl (.bl _)⟩⟩
theorem c_any (k : Cok X kk) {bs : List Bool} : CallD X (.builtin "any") [.lst (bs.map .bl)] (.bl (bs.any id)) := ⟨_, cr_any k.calm, fun Hs H vs Q e rs q => by
  obtain ⟨v, rfl, p, us, rfl, hs, ra⟩ := ra1 rs
  rw [rpa_bls ra] at hs
  exact ⟨p, bs, rfl, hs, q _ Hs H .refl (.bl _)⟩⟩
theorem c_sum (k : Cok X kk) {ns : List Int} : CallD X (.builtin "sum") [.lst (ns.map .int)] (.int ns.sum) := ⟨_, cr_sum k.calm, fun Hs H vs Q e rs q => by
  obtain ⟨v, rfl, p, us, rfl, hs, ra⟩ := ra1 rs
  rw [rpa_ints ra] at hs
  exact ⟨p, ns, rfl, hs, q _ Hs H .refl (.int _)⟩⟩
theorem c_tuple {xs : List D} : CallD X (.type "tuple") [.lst xs] (.tup xs) := ⟨_, call_tuple_of, fun Hs H vs Q e rs q => by
  obtain ⟨v, rfl, p, us, rfl, hs, ra⟩ := ra1 rs
  exact ⟨p, us, rfl, .inl ⟨hs, fun l hl => q _ _ _ (.step .refl hl) (.tup (SqT.of upd_same) (ra.mono (Ex.new (e.none hl))))⟩⟩⟩
theorem c_list {x : D} {xs : List D} (hx : itemsD x = some xs) : CallN X (.type "list") [x] xs := ⟨_, call_list_of, fun Hs H vs Q e rs q => by
  obtain ⟨v, rfl, r⟩ := ra1 rs
  obtain ⟨p, us, rfl, hs, ra⟩ := seq_of r e hx
  exact ⟨p, us, rfl, hs, fun l hl => q l us Hs H .refl hl ra⟩⟩
/-! isinstance by a built-in type -/
def tyD : D → Option String
  | .non => some "NoneType"
  | .bl _ => some "bool"
  | .int _ => some "int"
  | .str _ => some "str"
  | .tup _ => some "tuple"
  | .lst _ => some "list"
  | _ => none
theorem tyX_of {K : PySem.W.Frag} {Hs H : Hp} {v : V} {x : D} {t : String} (h : Ra K Hs H v x) (e : Ex Hs H) (ht : tyD x = some t) : TyX K H v (.type t) := by
  cases x with
  | non => cases h; cases ht; exact .base .non
  | bl b => cases h; cases ht; exact .base (.bl b)
  | int i => cases h; cases ht; exact .base (.int i)
  | str i => cases h; cases ht; exact .base (.str i)
  | tup xs =>
    cases ht
    cases h with
    | tup hs r =>
      rcases ex_t e hs with (h | ⟨o, h⟩) | ⟨o, its, n, h1, h2, _⟩
      · exact .base (.tup h)
      · exact .fTuple h
      · exact .kTuple h1 h2
  | lst xs =>
    cases ht
    obtain ⟨p, vs, rfl, hs, r⟩ := h
    rcases hs with (h | ⟨o, h⟩) | ⟨o, its, n, h1, h2, _⟩
    · exact .base (.lst h)
    · exact .base (.frz h)
    · exact .kList h1 h2
  | _ => cases ht
theorem c_isi {x : D} {t T : String} {b : Bool} (ht : tyD x = some t) (hb : kitB t T = some b) : CallD X (.builtin "isinstance") [x, .ty T] (.bl b) := ⟨_, call_isi, fun Hs H vs Q e rs q => by
  obtain ⟨v, u, rfl, r, r'⟩ := ra2 rs
  cases r'
  exact ⟨v, .ty T, .type t, .type T, b, rfl, .ty T, tyX_of r e ht, kit_ty hb, q _ Hs H .refl (.bl _)⟩⟩
/-! repr -/
def reprOk (x : D) : Bool := x.flat && x.py.showable && decide (x.py.depth ≤ 64)
theorem pyAll_noDict : ∀ ds : List D, PyData.hasDictAll (pyAll ds) = false ∧ True
  | [] => by simp [pyAll, PyData.hasDictAll]
  | d :: ds => by
    refine ⟨?_, trivial⟩
    rw [pyAll, PyData.hasDictAll, (pyAll_noDict ds).1, Bool.or_false]
    exact noD d
where noD : ∀ d : D, PyData.hasDict d.py = false
  | .non => by simp [D.py, PyData.hasDict]
  | .bl _ => by simp [D.py, PyData.hasDict]
  | .int _ => by simp [D.py, PyData.hasDict]
  | .str _ => by simp [D.py, PyData.hasDict]
  | .tup ds => by rw [D.py, PyData.hasDict]; exact (pyAll_noDict ds).1
  | .lst ds => by rw [D.py, PyData.hasDict]; exact (pyAll_noDict ds).1
  | .ins _ _ => by simp [D.py, PyData.hasDict]
  | .ty _ => by simp [D.py, PyData.hasDict]
  | .obj _ => by simp [D.py, PyData.hasDict]
/-- repr(x) of a tuple, a list -/
theorem c_repr {x : D} {xs : List D} (k : Cok X kk) (hx : itemsD x = some xs) (h : reprOk x = true) (hz : x.py.shown.length ≤ sizeLine) : CallD X (.builtin "repr") [x] (.str x.py.shown) := by
  have h' : (x.flat = true ∧ x.py.showable = true) ∧ x.py.depth ≤ 64 := by simpa [reprOk] using h
  refine ⟨fun vs H Q => ∃ v, vs = [v] ∧ (∃ p, v = .ref p) ∧ Dp X.K H v x.py ∧ Q (.str x.py.shown) H, ?_, fun Hs H vs Q e rs q => ?_⟩
  · intro pins s σ H vs us Q I r w
    obtain ⟨v, rfl, ⟨p, rfl⟩, hd, q⟩ := w
    obtain ⟨u, rfl, ru⟩ := vals1 r
    obtain ⟨as, rd⟩ := Dp.reads I _ _ _ hd ru
    cases ru
    refine repr_of_reads' rd h'.1.2 (PyData.noDict_hsm (pyAll_noDict.noD x)) k.gd (by have := k.room.un; omega) (fun _ _ e => e) (fun h2 u tk hk => ⟨.str _, H, I.kept hk, ⟨u, rfl⟩, q⟩) hz
  · obtain ⟨v, rfl, r⟩ := ra1 rs
    obtain ⟨p, us, rfl, hs, ra⟩ := seq_of r e hx
    exact ⟨_, rfl, ⟨p, rfl⟩, (r.rp e).dp h'.1.1, q _ Hs H .refl (.str _)⟩
end
end DL
/-! DL8: small rules for the walk. -/
namespace DL
open PySem PySem.Spec PyProof.Rows L2
section
variable {X : Cx} {B : Base} {Γ : Ga} {a b c e elt iter tg : Expr} {es rest ifs : List Expr} {scope : Scope} {sts body : List Stmt} {pos : Pos} {P : Post} {Φ : Ga → RV → Prop} {kk : Nat}
theorem f_of (h : WE X B Γ e (fun Γ' r => r.kept ∧ Φ Γ' r)) : WF X B Γ e Φ := PE.mono h fun σ H Q ⟨Hs, E, q⟩ => ⟨Hs, E, fun v H' Hs' Γ' r ex E' ok w => q v H' Hs' Γ' r ex E' ok w.1 w.2⟩
theorem f_fr (h : WE X B Γ e (fun Γ' r => ∃ xs, r = .n xs ∧ Φ Γ' (.d (.lst xs)))) : WF X B Γ e Φ := PE.mono h fun σ H Q ⟨Hs, E, q⟩ => ⟨Hs, E, fun v H' Hs' Γ' r ex E' ok w => by
  obtain ⟨xs, rfl, w⟩ := w
  obtain ⟨p, vs, rfl, hp, ra, f⟩ := ok
  have E2 := E'.freeze hp f
  have ex2 : Ex Hs' (upd Hs' p (.lst vs)) := Ex.new f.1
  exact q (.ref p) H' _ Γ' (.d (.lst xs)) (ex.trans ex2) E2 (Rp.lst (SqL.of upd_same) (ra.mono ex2)) trivial w⟩
theorem if_b {b : Bool} {A C : Prop} (h1 : b = true → A) (h2 : b = false → C) : if b = true then A else C := by
  cases b with
  | true => rw [if_pos rfl]; exact h1 rfl
  | false => rw [if_neg Bool.false_ne_true]; exact h2 rfl
theorem if_t {A C : Prop} (h : A) : if true = true then A else C := by rw [if_pos rfl]; exact h
theorem if_f {A C : Prop} (h : C) : if false = true then A else C := by rw [if_neg Bool.false_ne_true]; exact h
theorem if_y {b : Bool} {A C : Prop} (hb : b = true) (h : A) : if b = true then A else C := by rw [if_pos hb]; exact h
theorem if_n {b : Bool} {A C : Prop} (hb : b = false) (h : C) : if b = true then A else C := by rw [if_neg (by rw [hb]; exact Bool.false_ne_true)]; exact h
theorem drop_cons {α : Type} {l : List α} {i : Nat} {d : α} (h : l[i]? = some d) : l.drop i = d :: l.drop (i + 1) := by
  have hi := (List.getElem?_eq_some_iff.mp h).1
  have he := (List.getElem?_eq_some_iff.mp h).2
  rw [List.drop_eq_getElem_cons hi, he]
/-- a loop, by what is left -/
theorem s_forL (I : List D → Ga → Prop) (k : Cok X kk) (h : WI X B Γ tg e fun Γ1 ds => I ds Γ1 ∧
      (∀ d rest Γ', I (d :: rest) Γ' → ∃ Γ2 ix, GD X tg d Γ' Γ2 ix ∧ WS X B Γ2 body { P with nx := I rest, ct := I rest, bk := fun Γ3 => WS X B Γ3 sts P }) ∧ ∀ Γ', I [] Γ' → WS X B Γ' sts P)
    (hs : ∀ x, foldedSetIterable e X.env x = pure x := by intro _; rfl) : WS X B Γ (.For tg e body [] pos :: sts) P :=
  s_for (fun ds i Γ => I (ds.drop i) Γ) k (PI.mono h fun σ H R ⟨Hs, E, q⟩ => ⟨Hs, E, fun J H' Hs' Γ' ds ex E' wk w => q J H' Hs' Γ' ds ex E' wk (by
    obtain ⟨w1, w2, w3⟩ := w
    refine ⟨w1, fun i d Γ2 hd iv => w2 d _ Γ2 ?_, fun Γ2 iv => w3 Γ2 ?_⟩
    · rw [drop_cons hd] at iv; exact iv
    · rw [List.drop_length] at iv; exact iv)⟩) hs
theorem wipe_idem (Γ : Ga) (vs : List Nat) : wipeG (wipeG Γ vs) vs = wipeG Γ vs := by
  apply List.ext_getElem?
  intro j
  by_cases q : j ∈ vs
  · have wn : ∀ {Δ : Ga} {l : List Nat}, j ∈ l → (wipeG Δ l)[j]? = if j < Δ.length then some .no else none := fun {Δ l} hj => by
      induction l with
      | nil => cases hj
      | cons v l ih =>
        unfold wipeG
        rw [List.getElem?_set]
        by_cases z : v = j
        · subst z; rw [if_pos rfl, wipeG_length]
        · rw [if_neg z]
          rcases List.mem_cons.mp hj with r | r
          · exact absurd r.symm z
          · exact ih r
    rw [wn q, wn q, wipeG_length]
  · have wg : ∀ {Δ : Ga} {l : List Nat}, j ∉ l → (wipeG Δ l)[j]? = Δ[j]? := fun {Δ l} hj => by
      induction l with
      | nil => rfl
      | cons v l ih =>
        unfold wipeG
        rw [List.getElem?_set, if_neg fun z => hj (by rw [z]; exact List.mem_cons_self), ih fun z => hj (List.mem_cons_of_mem _ z)]
    rw [wg q]
/-- one item of a comprehension: f of it is what it gives (nothing, one thing) -/
def LcItem (X : Cx) (B : Base) (scope : Scope) (tg elt : Expr) (ifs : List Expr) (own : List Nat) (Γ1 : Ga) (f : D → List D) (d : D) : Prop :=
  ∃ Γ2 ix, (∀ j ∈ ix, j ∈ own) ∧ (∀ s H C cl fp, GD (Bk X scope s H C cl fp) tg d (wipeG Γ1 own) Γ2 ix) ∧
    ∀ p o s H C cl fp, WTs (Bk X scope s H C cl fp) (B.plus p o) Γ2 ifs fun Γ3 b => if b = true then (∀ s H C cl fp, WF (Bk X scope s H C cl fp) (B.plus p o) Γ3 elt fun Γ4 r => ∃ y, r = .d y ∧ f d = [y] ∧ wipeG Γ4 own = wipeG Γ1 own)
      else f d = [] ∧ wipeG Γ3 own = wipeG Γ1 own
theorem lc_map {own : List Nat} {f : D → List D} {Γ1 : Ga} {ds : List D} {Ω : Ga → List D → Prop} (hl : ds.length < sizeLine) (hi : ∀ d ∈ ds, LcItem X B scope tg elt ifs own Γ1 f d) (hΩ : Ω (wipeG Γ1 own) (ds.flatMap f)) :
    LcI X B scope tg elt ifs own (fun Γ' xs => Ω (wipeG Γ' own) xs) (fun ds' i Γ' acc => ds' = ds ∧ Γ' = wipeG Γ1 own ∧ acc = (ds.take i).flatMap f) Γ1 ds := by
  refine ⟨⟨rfl, rfl, rfl⟩, hl, ?_, ?_⟩
  · rintro i d Γ' acc hd ⟨_, rfl, rfl⟩
    obtain ⟨Γ2, ix, h1, h2, h3⟩ := hi d (List.mem_of_getElem? hd)
    have tk : (ds.take (i + 1)).flatMap f = (ds.take i).flatMap f ++ f d := by rw [List.take_add_one, hd]; simp
    refine ⟨Γ2, ix, h1, h2, fun p o s H C cl fp => PTs.monoT (h3 p o s H C cl fp) fun Γ3 b w => ?_⟩
    cases b with
    | true =>
      rw [if_pos rfl] at w ⊢
      exact fun s H C cl fp => wf_mono (w s H C cl fp) fun Γ4 r ⟨y, e1, e2, e3⟩ => ⟨y, e1, rfl, e3, by rw [tk, e2]⟩
    | false =>
      rw [if_neg Bool.false_ne_true] at w ⊢
      exact ⟨rfl, w.2, by rw [tk, w.1, List.append_nil]⟩
  · rintro Γ' acc ⟨_, rfl, rfl⟩
    rw [wipe_idem, List.take_length]; exact hΩ
where
  PTs.monoT {Y : Cx} {B' : Base} {Γ2 : Ga} {es : List Expr} {Ψ Ψ' : Ga → Bool → Prop} (h : WTs Y B' Γ2 es Ψ) (m : ∀ Γ b, Ψ Γ b → Ψ' Γ b) : WTs Y B' Γ2 es Ψ' :=
    ⟨fun pins s σ H Q I ⟨Hs, E, q⟩ => h.run pins s σ H Q I ⟨Hs, E, fun b H' Hs' Γ' ex E' w => q b H' Hs' Γ' ex E' (m _ _ w)⟩⟩
  wf_mono {Y : Cx} {B' : Base} {Γ2 : Ga} {e : Expr} {Ψ Ψ' : Ga → RV → Prop} (h : WF Y B' Γ2 e Ψ) (m : ∀ Γ r, Ψ Γ r → Ψ' Γ r) : WF Y B' Γ2 e Ψ' :=
    PE.mono h fun σ H Q ⟨Hs, E, q⟩ => ⟨Hs, E, fun v H' Hs' Γ' r ex E' ok k w => q v H' Hs' Γ' r ex E' ok k (m _ _ w)⟩
/-- [elt for tg in iter if ..] where f is what an item gives -/
theorem w_lcM (f : D → List D) {own : List (Str × Nat)} (k : Cok X kk) (ok : BlkOk X.N X.env.scope scope own) (h : WI X B Γ tg iter fun Γ1 ds => ds.length < sizeLine ∧ (∀ d ∈ ds, LcItem X B scope tg elt ifs (own.map (·.2)) Γ1 f d) ∧ Φ (wipeG Γ1 (own.map (·.2))) (.n (ds.flatMap f)))
    (hs : ∀ x, foldedSetIterable iter X.env x = pure x := by intro _; rfl) : WE X B Γ (.ListComp elt [⟨tg, iter, ifs, 0⟩] scope pos) Φ := by
  refine PE.mono (pe_lc k.calm k.nd h ok (fun _ _ _ _ _ => pg_u) (fun _ _ _ _ _ => pts_u) (fun _ _ _ _ _ => pe_u) hs) fun σ H Q ⟨Hs, E, q⟩ => ?_
  refine ⟨Hs, E, fun J H' Hs' Γ' ds ex E' wk w => ?_⟩
  have lc := lc_map (Ω := fun Γ2 xs => Φ Γ2 (.n xs)) w.1 w.2.1 w.2.2
  have rd := lc_read (wi := fun σ H R => R J H) σ H' Q E' (fun R hR => hR J H' Hs' Γ' ds (Ex.refl _) E' wk lc) fun v H2 Hs2 Γ2 xs ex2 E2 okv ⟨Γ3, e, w⟩ => by
    subst e; exact q v H2 Hs2 _ (.n xs) (ex.trans ex2) E2 okv w
  exact rd
theorem flatMap_one {α β : Type} (g : α → β) : ∀ l : List α, l.flatMap (fun x => [g x]) = l.map g
  | [] => rfl
  | x :: l => by rw [List.flatMap_cons, flatMap_one g l]; rfl
end

/-! ### isinstance by a built-in type -/
def isIntT : D → Bool
  | .int _ => true
  | .bl _ => true
  | _ => false
def isBoolT : D → Bool
  | .bl _ => true
  | _ => false
def isStrT : D → Bool
  | .str _ => true
  | _ => false
def isTupT : D → Bool
  | .tup _ => true
  | _ => false
def isLstT : D → Bool
  | .lst _ => true
  | _ => false
def knD (x : D) : Bool := (tyD x).isSome
theorem kit_int {x : D} {t : String} (h : tyD x = some t) : kitB t "int" = some (isIntT x) := by
  cases x <;> cases h <;> (first | (show kitB _ _ = some true; decide +kernel) | (show kitB _ _ = some false; decide +kernel))
theorem kit_bool {x : D} {t : String} (h : tyD x = some t) : kitB t "bool" = some (isBoolT x) := by
  cases x <;> cases h <;> (first | (show kitB _ _ = some true; decide +kernel) | (show kitB _ _ = some false; decide +kernel))
theorem kit_str {x : D} {t : String} (h : tyD x = some t) : kitB t "str" = some (isStrT x) := by
  cases x <;> cases h <;> (first | (show kitB _ _ = some true; decide +kernel) | (show kitB _ _ = some false; decide +kernel))
theorem kit_tup {x : D} {t : String} (h : tyD x = some t) : kitB t "tuple" = some (isTupT x) := by
  cases x <;> cases h <;> (first | (show kitB _ _ = some true; decide +kernel) | (show kitB _ _ = some false; decide +kernel))
theorem kit_lst {x : D} {t : String} (h : tyD x = some t) : kitB t "list" = some (isLstT x) := by
  cases x <;> cases h <;> (first | (show kitB _ _ = some true; decide +kernel) | (show kitB _ _ = some false; decide +kernel))
theorem boot_bool : bootBuiltins "bool" = some (.type "bool") := by decide +kernel
theorem w_isi {X : Cx} {B : Base} {Γ : Ga} {e : Expr} {pos p q : Pos} {Φ : Ga → RV → Prop} {T : Str} {Tn : String} (f : D → Bool) (hk : ∀ {x : D} {t : String}, tyD x = some t → kitB t Tn = some (f x)) (hb : bootBuiltins T = some (.type Tn)) (h0 : X.mg "isinstance" = none) (hT : X.mg T = none)
    (h : WF X B Γ e fun Γ1 r => ∃ x, r.res Γ1 = some x ∧ knD x = true ∧ Φ Γ1 (.d (.bl (f x)))) (hg : Gl X "isinstance" := by rfl) (hg2 : Gl X T := by rfl) (hn : T ≠ "__name__" := by decide) (hd : (T == ("__debug__" : Str)) = false := by decide)
    (he : starEach [e, .Name T q] X.env = (false, eval e X.env) :: starEach [.Name T q] X.env := by rfl) (he2 : starEach [.Name T q] X.env = (false, eval (.Name T q) X.env) :: starEach [] X.env := by rfl) (hpl : (backTo pos (starEach [.Name T q] X.env)).any (·.1) = false := by rfl) : WE X B Γ (.Call (.Name "isinstance" p) [e, .Name T q] [] pos) Φ := by
  refine w_callB h0 boot_isinstance ?_ hg (by decide) (by decide) he hpl
  refine wa_cons ?_ he
  refine lc_map.wf_mono h fun Γ1 r ⟨x, e1, e2, w⟩ => wa_cons (f_of (w_type hT hb ⟨trivial, wa_nil ⟨[x, .ty Tn], .bl (f x), by unfold ress ress ress; rw [e1]; rfl, ?_, w⟩⟩ hg2 hn hd)) he2
  obtain ⟨t, ht⟩ := Option.isSome_iff_exists.mp e2
  exact c_isi ht (hk ht)
end DL
/-! DL9: sorted. -/
namespace DL
open PySem PySem.Spec PyProof.Rows L2
open PySem.W (EachIs)
def leD (x y : D) : Bool := PySem.W.dataLe false D.py x y
section
variable {X : Cx} {kk : Nat}
theorem rpa_zip {K : PySem.W.Frag} {H : Hp} : ∀ {vs : List V} {xs : List D}, RpA K H vs xs → ((vs.zip xs).map (·.1) = vs ∧ (vs.zip xs).map (·.2) = xs) ∧ ∀ p ∈ vs.zip xs, Rp K H p.1 p.2
  | _, _, .nil => ⟨⟨rfl, rfl⟩, fun p h => by cases h⟩
  | _, _, .cons (v := v) (vs := vs) (d := d) (ds := ds) h t => by
    obtain ⟨⟨h1, h2⟩, h3⟩ := rpa_zip t
    refine ⟨⟨by rw [List.zip_cons_cons, List.map_cons, h1], by rw [List.zip_cons_cons, List.map_cons, h2]⟩, fun p hp => ?_⟩
    rw [List.zip_cons_cons] at hp
    rcases List.mem_cons.mp hp with rfl | hp
    · exact h
    · exact h3 p hp
theorem rpa_unzip {K : PySem.W.Frag} {H : Hp} : ∀ {ps : List (V × D)}, (∀ p ∈ ps, Rp K H p.1 p.2) → RpA K H (ps.map (·.1)) (ps.map (·.2))
  | [], _ => .nil
  | p :: ps, h => .cons (h p List.mem_cons_self) (rpa_unzip fun q hq => h q (List.mem_cons_of_mem _ hq))
theorem each_zip : ∀ {vs : List V} {us : List Value} {xs : List D}, Vals vs us → vs.length = xs.length → EachIs (fun (u : Value) (p : V × D) => RelV p.1 u) us (vs.zip xs)
  | _, _, [], .nil, _ => .nil
  | _, _, x :: xs, .cons r t, h => .cons r (each_zip t (Nat.succ.inj h))
theorem each_vals : ∀ {us : List Value} {ps : List (V × D)}, EachIs (fun (u : Value) (p : V × D) => RelV p.1 u) us ps → Vals (ps.map (·.1)) us
  | _, _, .nil => .nil
  | _, _, .cons r t => .cons r (each_vals t)
theorem each_reads {pins : List (Addr × Obj)} {σ : L2.St} {H : Hp} {s : Shared} (I : Inv X pins σ H s) : ∀ {us : List Value} {ps : List (V × D)}, EachIs (fun (u : Value) (p : V × D) => RelV p.1 u) us ps → (∀ p ∈ ps, Rp X.K H p.1 p.2 ∧ p.2.flat = true) → EachIs (fun (u : Value) (p : V × D) => ∃ as, Reads s.heap u p.2.py as) us ps
  | _, _, .nil, _ => .nil
  | _, _, .cons (b := p) r t, h => .cons (Dp.reads I _ _ _ ((h p List.mem_cons_self).1.dp (h p List.mem_cons_self).2) r) (each_reads I t fun q hq => h q (List.mem_cons_of_mem _ hq))
/-- what may be sorted -/
def SortOk (xs : List D) : Prop := xs.length ≤ sizeLine ∧ (∀ x ∈ xs, x.flat = true ∧ x.py.depth ≤ 64) ∧ PySem.W.AllAlike (xs.map D.py) ∧ PySem.W.Sortable (xs.map D.py)
theorem c_sorted (k : Cok X kk) {xs : List D} (h : SortOk xs) : CallN X (.builtin "sorted") [.lst xs] (xs.mergeSort leD) := by
  obtain ⟨hl, hf, hal, hsb⟩ := h
  refine ⟨fun vs H Q => ∃ p us, vs = [.ref p] ∧ SqL X.K H p us ∧ RpA X.K H us xs ∧ ∀ l, H l = none → Q (.ref l) (upd H l (.lst ((((us.zip xs).mergeSort (PySem.W.dataLe false fun p => p.2.py)).map (·.1))))), ?_, fun Hs H vs Q e rs q => ?_⟩
  · intro pins s σ H vs us Q I r w
    obtain ⟨p, ws, rfl, hs, ra, q⟩ := w
    obtain ⟨u, rfl, ru⟩ := vals1 r
    obtain rfl : u = Value.ref p := ru
    obtain ⟨its, rv, pl, hz⟩ := I.list hs
    have hz2 := rpa_zip ra
    have ez := each_zip rv (xs := xs) ra.length
    have mp : (ws.zip xs).map (fun p => p.2.py) = xs.map D.py := by
      have := congrArg (List.map D.py) hz2.1.2
      rw [List.map_map] at this
      exact this
    have mem2 : ∀ p ∈ ws.zip xs, p.2 ∈ xs := fun p hp => by
      have : p.2 ∈ (ws.zip xs).map (·.2) := List.mem_map.mpr ⟨p, hp, rfl⟩
      rw [hz2.1.2] at this; exact this
    refine PySem.W.sorted_data (R := fun (u : Value) (p : V × D) => RelV p.1 u) (enc := fun p : V × D => p.2.py) (bs := ws.zip xs) pl.isList ez (each_reads I ez fun p hp => ⟨hz2.2 p hp, (hf _ (mem2 p hp)).1⟩)
      (by rw [mp]; exact hal) (by rw [mp]; exact hsb) (by rw [List.length_zip, ra.length, Nat.min_self]; exact hl) (fun p hp => ?_) fun out hlen eo => ?_
    · have := (hf _ (mem2 p hp)).2
      have := k.room.un
      omega
    · have vo := each_vals eo
      obtain ⟨c, hc⟩ := PyProof.Rows.sortedAll_at s.heap its out.toArray
      have hp := I.hok.fresh (Nat.le_succ s.heap.objs.size)
      refine ⟨.ref (s.heap.objs.size + 1), _, I.laid (t' := s.toks) (fun b o e => PyProof.Rows.sortedAll_old e) (Nat.le_succ _) (show ObjOk X.prog X.w _ _ _ (.lst _) from ⟨?_, out, c, vo, hc⟩), rfl, q _ hp⟩
      rw [List.length_map, List.length_mergeSort, List.length_zip, ra.length, Nat.min_self]; exact hl
  · obtain ⟨v, rfl, p, us, rfl, hs, ra⟩ := ra1 rs
    have hz2 := rpa_zip ra
    refine ⟨p, us, rfl, hs, ra.mono e, fun l hl2 => ?_⟩
    refine q l _ Hs H .refl hl2 ?_
    have : xs.mergeSort leD = ((us.zip xs).mergeSort (PySem.W.dataLe false fun p => p.2.py)).map (·.2) := by
      have m := List.map_mergeSort (r := PySem.W.dataLe false fun p : V × D => p.2.py) (s := leD) (f := fun p : V × D => p.2) (l := us.zip xs) (fun a _ b _ => rfl)
      rw [m, hz2.1.2]
    rw [this]
    exact rpa_unzip fun q hq => hz2.2 q ((List.mergeSort_perm _ _).mem_iff.mp hq)
end
end DL
/-! DL10: names of the top, shapes of promises, the law's end. -/
namespace DL
open PySem PySem.Spec PyProof.Rows L2
/-! ### what the module's names stand for -/
def GI (mg : Str → Option Value) (x : Str) (i : Int) : Prop := ∃ t, mg x = some (.int i t)
def GS (mg : Str → Option Value) (x z : Str) : Prop := ∃ t, mg x = some (.str z t)
def GO (mg : Str → Option Value) (x : Str) (a : Addr) : Prop := mg x = some (.ref a)
section
variable {X : Cx} {B : Base} {Γ : Ga} {pos : Pos} {Φ : Ga → RV → Prop} {kk : Nat}
theorem w_gi {x : Str} {i : Int} (hm : GI X.mg x i) (h : Φ Γ (.d (.int i))) (hg : Gl X x := by rfl) (hd : (x == ("__debug__" : Str)) = false := by decide) : WE X B Γ (.Name x pos) Φ := by
  obtain ⟨t, hm⟩ := hm
  exact w_glob (v := .int i) hm ⟨t, rfl⟩ (fun _ => .int i) h hg hd
theorem w_gs {x z : Str} (hm : GS X.mg x z) (h : Φ Γ (.d (.str z))) (hg : Gl X x := by rfl) (hd : (x == ("__debug__" : Str)) = false := by decide) : WE X B Γ (.Name x pos) Φ := by
  obtain ⟨t, hm⟩ := hm
  exact w_glob (v := .str z) hm ⟨t, rfl⟩ (fun _ => .str z) h hg hd
theorem w_go {x : Str} {a : Addr} (hm : GO X.mg x a) (h : Φ Γ (.d (.obj a))) (hg : Gl X x := by rfl) (hd : (x == ("__debug__" : Str)) = false := by decide) : WE X B Γ (.Name x pos) Φ :=
  w_glob (v := .ref a) hm rfl (fun _ => .obj a) h hg hd
/-- in, not in: a dict of the top -/
theorem o_inKd {a : Addr} {es : Array DictEntry} {n : Nat} {z : Str} {r : Option Value} (D : KDict X.K X.w a es n) (h : PySem.W.nsIn X.K a z = some r) : OpD X (compareOp .In) (.str z) (.obj a) (.bl r.isSome) :=
  ⟨_, op_in_kd D, fun Hs H vx vy Q e rx ry q => by cases rx; cases ry; exact ⟨z, r, rfl, rfl, h, q _ Hs H .refl (.bl _)⟩⟩
theorem o_ninKd {a : Addr} {es : Array DictEntry} {n : Nat} {z : Str} {r : Option Value} (D : KDict X.K X.w a es n) (h : PySem.W.nsIn X.K a z = some r) : OpD X (compareOp .NotIn) (.str z) (.obj a) (.bl (!r.isSome)) :=
  ⟨_, op_notIn_kd D, fun Hs H vx vy Q e rx ry q => by cases rx; cases ry; exact ⟨z, r, rfl, rfl, h, q _ Hs H .refl (.bl _)⟩⟩
theorem len_le {α : Type} {xs : List α} (h : decide (xs.length ≤ 100) = true) : xs.length ≤ sizeLine := by
  have := of_decide_eq_true h
  rw [sizeLine_eq]; omega
end
/-! ### shapes of promises -/
def F0 (r : RV) : FT := fun ds Φ => ds = [] ∧ Φ r
def F1 (p : D → Prop) (f : D → RV) : FT := fun ds Φ => ∃ a, ds = [a] ∧ p a ∧ Φ (f a)
def F2 (p : D → D → Prop) (f : D → D → RV) : FT := fun ds Φ => ∃ a b, ds = [a, b] ∧ p a b ∧ Φ (f a b)
def F3 (p : D → D → D → Prop) (f : D → D → D → RV) : FT := fun ds Φ => ∃ a b c, ds = [a, b, c] ∧ p a b c ∧ Φ (f a b c)
def F4 (p : D → D → D → D → Prop) (f : D → D → D → D → RV) : FT := fun ds Φ => ∃ a b c d, ds = [a, b, c, d] ∧ p a b c d ∧ Φ (f a b c d)
theorem F0.len {r : RV} {ds : List D} {Φ : RV → Prop} (h : F0 r ds Φ) : ds.length = 0 := by rw [h.1]; rfl
theorem F1.len {p : D → Prop} {f : D → RV} {ds : List D} {Φ : RV → Prop} (h : F1 p f ds Φ) : ds.length = 1 := by obtain ⟨a, rfl, _⟩ := h; rfl
theorem F2.len {p : D → D → Prop} {f : D → D → RV} {ds : List D} {Φ : RV → Prop} (h : F2 p f ds Φ) : ds.length = 2 := by obtain ⟨a, b, rfl, _⟩ := h; rfl
theorem F3.len {p : D → D → D → Prop} {f : D → D → D → RV} {ds : List D} {Φ : RV → Prop} (h : F3 p f ds Φ) : ds.length = 3 := by obtain ⟨a, b, c, rfl, _⟩ := h; rfl
theorem F4.len {p : D → D → D → D → Prop} {f : D → D → D → D → RV} {ds : List D} {Φ : RV → Prop} (h : F4 p f ds Φ) : ds.length = 4 := by obtain ⟨a, b, c, d, rfl, _⟩ := h; rfl

/-! ### the law's end -/
theorem hid_ns {P : Program} {w : World} {h : Heap} {H : Hp} {b : Addr} {m : Str → Option Value} (n : h.Ns b m) (no : ∀ o es ep, h.get? b = some o → o.data = .dict es ep → H b = none) : (hidT h H).Ns b m := by
  obtain ⟨o, es, ep, e1, e2, e3⟩ := n
  exact ⟨o, es, ep, hidT_get e1 (no o es ep e1 e2), e2, e3⟩
/-- the call of the law behind the top, by its promise -/
theorem end_call {P : Program} {w : World} {K : PySem.W.Frag} {mg mb : Str → Option Value} {k : Nat} {f a : Addr} {x : Str} {sp : Sp} {s1 : Shared} {us : List Value} {ns : List Int}
    (hK : K.In s1.heap) (hm : s1.heap.Ns mainGlobals mg) (hb : s1.heap.Ns builtinsNs mb) (hbb : ∀ y : Str, y ≠ "__name__" → mb y = bootBuiltins y) (hl : s1.heap.NoLimit) (hg : s1.gens = #[])
    (ha : s1.heap.get? a = some { cls := .type "list", data := .seq us.toArray }) (hi : IntsAre us ns) (hz : ns.length ≤ sizeLine) (hr : Room k callerA) (hx : mg x = some (.ref f))
    (F : ∀ base : Heap, K.In base → base.Ns mainGlobals mg → DefG P w K mg base k x sp)
    (hsp : ∀ H : Hp, SqL K H a (ns.map V.int) → sp [.ref a] H (fun v _ => v = .bl true) E0) :
    codeAny (model P w) callerA (.call (.ref f) ⟨[.ref a], []⟩) (fun r s' => r = .ok (.ret (.bool true)) ∧ OldK s1.heap s'.heap ∧ s'.os = s1.os ∧ AllBare s'.gens) s1 := by
  have rv := vals_ints hi
  have main : ∀ H : Hp, SqL K H a (ns.map V.int) → HOk P w H s1.heap → (∀ b u, H b = some u → b = a ∧ ∃ o ys, u = .frz o (.lst ys)) → (∀ u, H a = some u → K.lookup a = none) →
      codeAny (model P w) callerA (.call (.ref f) ⟨[.ref a], []⟩) (fun r s' => r = .ok (.ret (.bool true)) ∧ OldK s1.heap s'.heap ∧ s'.os = s1.os ∧ AllBare s'.gens) s1 := by
    intro H hS ok only noK
    have nod : ∀ (b : Addr) (o : Obj) (es : Array DictEntry) (ep : Nat), s1.heap.get? b = some o → o.data = .dict es ep → H b = none := fun b o es ep e1 e2 => by
      cases q : H b with
      | none => rfl
      | some u =>
        obtain ⟨rfl, _⟩ := only b u q
        rw [ha] at e1
        obtain rfl := Option.some.inj e1
        cases e2
    have md : Mod K mg (hidT s1.heap H) := by
      refine ⟨fun b o e => hidT_get (hK b o e) ?_, hid_ns (P := P) (w := w) hm (nod _), ⟨mb, hid_ns (P := P) (w := w) hb (nod _), hbb⟩, ?_⟩
      · cases q : H b with
        | none => rfl
        | some u =>
          obtain ⟨rfl, _⟩ := only b u q
          rw [noK u q] at e; cases e
      · obtain ⟨mc, l1, l2⟩ := hl
        exact ⟨mc, hid_ns (P := P) (w := w) l1 (nod _), l2⟩
    have e0 : Env0 P w K mg (hidT s1.heap H) callerA [] s1 H := ⟨rfl, md, fun b o e => of_hidT e, Nat.le_of_eq (hidT_size _ _), trivial, fun b z => absurd (show b ∈ ([] : List Addr) from z) (by simp), ok, .of_eq hg⟩
    obtain ⟨g, g1, g2, go⟩ := (F _ md.kin md.glob).ex
    have : g = f := by rw [hx] at g1; cases g1; rfl
    subst this
    refine codeAny_mono (go callerA [] s1 H [.ref a] [.ref a] _ rfl hr e0 (.cons rfl .nil) (hsp H hS)) fun r s' q => ?_
    match r, q with
    | .ok (.ret u), q =>
      obtain ⟨v, H', os, bare, un, ok', r', q⟩ := q
      have q : v = .bl true := q
      subst q
      have r' : u = Value.bool true := r'
      subst r'
      refine ⟨rfl, OldK.of_keep fun b o e => ?_, os, bare⟩
      cases z : H b with
      | none => exact un.keep b o e z (by intro t; exact absurd (show b ∈ ([] : List Addr) from t) (by simp)) (by simp)
      | some u =>
        obtain ⟨rfl, ob, ys, rfl⟩ := only b u z
        have e1 := (ok _ _ z).1
        rw [e] at e1
        rw [Option.some.inj e1]
        exact (ok' _ _ (un.frzs _ ob _ z)).1
    | .error e, q => exact False.elim q
  cases hk : K.lookup a with
  | some o =>
    have e := hK a o hk
    rw [ha] at e
    have eo := Option.some.inj e
    subst eo
    refine main (fun _ => none) (.inr ⟨_, us.toArray, _, hk, rfl, rfl, rfl, ?_, rv⟩) (fun b u z => nomatch z) (fun b u z => nomatch z) fun u z => nomatch z
    rw [List.size_toArray, hi.length]; exact hz
  | none =>
    refine main (fun b => if b = a then some (.frz { cls := .type "list", data := .seq us.toArray } (.lst (ns.map V.int))) else none) (.inl (.inr ⟨_, if_pos rfl⟩)) (fun b u z => ?_) (fun b u z => ?_) fun _ _ => hk
    · by_cases y : b = a
      · subst y
        have z := (if_pos rfl).symm.trans z
        obtain rfl := Option.some.inj z
        exact ⟨ha, by rw [List.length_map]; exact hz, us, _, rv, ha⟩
      · have z := (if_neg y).symm.trans z
        cases z
    · by_cases y : b = a
      · have z := (if_pos y).symm.trans z
        exact ⟨y, _, _, (Option.some.inj z).symm⟩
      · have z := (if_neg y).symm.trans z
        cases z
/-- a law's walk behind a head by facts -/
theorem walk_end {l : PySem.W.OpenLaw} {n k : Nat} {q : Program} {loose : List Str} {XP : (Str → Option Value) → Heap → Prop} {YP : World → Heap → Prop} {d : DefRec} {x : Str} {F : FT}
    (hn : l.most = some n) (hn2 : n ≤ sizeLine) (hdf : d.params.defaults = []) (hr : Room k callerA) (hx : d.name = x)
    (go : ∀ (w : World) (mg : Str → Option Value) (h : Heap), YP w h → h.Ns mainGlobals mg →
      ∃ K : PySem.W.Frag, K.In h ∧ ∀ base : Heap, K.In base → base.Ns mainGlobals mg → DefG l.prog w K mg base k x (spD K F))
    (hF : ∀ (ns : List Int) (Φ : RV → Prop), ns.length ≤ n → Φ (.d (.bl true)) → F [.lst (ns.map .int)] Φ) :
    PySem.W.WalkO q loose XP YP l.row.toRowW d [] (fun f vs => PySem.call f vs) := by
  refine Att.attach_call hn hdf fun w s0 s1 mg mb f o pm cd doc a vs ns G Y ho hd hcd hmg hobj hints hlen hg => ?_
  obtain ⟨K, hK, go⟩ := go w mg _ Y G.T.g
  refine end_call hK G.T.g G.T.b G.T.builtins G.T.nolimit hg hobj hints (Nat.le_trans hlen hn2) hr (by rw [← hx]; exact hmg) go fun H hS => ?_
  have rpI : ∀ (H : Hp) (ns : List Int), RpA K H (ns.map V.int) (ns.map D.int) := fun H ns => by
    induction ns with
    | nil => exact .nil
    | cons i ns ih => exact .cons (.int i) ih
  exact ⟨H, [.lst (ns.map .int)], Ex.refl _, .cons (.lst hS (rpI H ns)) .nil, fun r => r = .d (.bl true), hF ns _ hlen rfl, fun r e v H' Hs' _ _ _ _ ok => by
    subst e
    cases ok
    rfl⟩
end DL
/-! DL11: len, all, any, tuple, list of a comprehension. -/
namespace DL
open PySem PySem.Spec PyProof.Rows L2
section
variable {X : Cx} {B : Base} {Γ : Ga} {e elt iter tg : Expr} {ifs : List Expr} {scope : Scope} {pos pos' p : Pos} {Φ : Ga → RV → Prop} {kk : Nat}
theorem w_len (h0 : X.mg "len" = none) (h : WF X B Γ e fun Γ1 r => ∃ x xs, r.res Γ1 = some x ∧ itemsD x = some xs ∧ Φ Γ1 (.d (.int xs.length))) (hg : Gl X "len" := by rfl)
    (he : starEach [e] X.env = (false, eval e X.env) :: starEach [] X.env := by rfl) (hpl : (backTo pos (starEach [] X.env)).any (·.1) = false := by rfl) : WE X B Γ (.Call (.Name "len" p) [e] [] pos) Φ :=
  w_callB h0 boot_len (wa_cons (lc_map.wf_mono h fun Γ1 r ⟨x, xs, e1, e2, w⟩ => wa_nil ⟨[x], _, by unfold ress ress; rw [e1], c_len e2, w⟩) he) hg (by decide) (by decide) he hpl
theorem w_lenS (h0 : X.mg "len" = none) (h : WF X B Γ e fun Γ1 r => ∃ z, r = .d (.str z) ∧ z.length ≤ sizeLine ∧ Φ Γ1 (.d (.int z.length))) (hg : Gl X "len" := by rfl)
    (he : starEach [e] X.env = (false, eval e X.env) :: starEach [] X.env := by rfl) (hpl : (backTo pos (starEach [] X.env)).any (·.1) = false := by rfl) : WE X B Γ (.Call (.Name "len" p) [e] [] pos) Φ :=
  w_callB h0 boot_len (wa_cons (lc_map.wf_mono h fun Γ1 r ⟨z, e1, e2, w⟩ => wa_nil ⟨[.str z], _, by subst e1; rfl, c_lenS e2, w⟩) he) hg (by decide) (by decide) he hpl
/-- what is asked of a comprehension that goes over ds -/
def LcOver (X : Cx) (B : Base) (scope : Scope) (tg elt : Expr) (ifs : List Expr) (own : List Nat) (f : D → List D) (Φ : Ga → List D → Prop) (Γ1 : Ga) (ds : List D) : Prop :=
  ds.length < sizeLine ∧ (∀ d ∈ ds, LcItem X B scope tg elt ifs own Γ1 f d) ∧ Φ (wipeG Γ1 own) ds
theorem w_lcO (f : D → List D) {own : List (Str × Nat)} (k : Cok X kk) (ok : BlkOk X.N X.env.scope scope own) (h : WI X B Γ tg iter (LcOver X B scope tg elt ifs (own.map (·.2)) f fun Γ2 ds => Φ Γ2 (.n (ds.flatMap f))))
    (hs : ∀ x, foldedSetIterable iter X.env x = pure x := by intro _; rfl) : WE X B Γ (.ListComp elt [⟨tg, iter, ifs, 0⟩] scope pos) Φ := w_lcM f k ok h hs
theorem boot_all : bootBuiltins "all" = some (.builtin "all") := by decide +kernel
theorem boot_any : bootBuiltins "any" = some (.builtin "any") := by decide +kernel
theorem boot_tup : bootBuiltins "tuple" = some (.type "tuple") := by decide +kernel
theorem flat_bl (g : D → Bool) : ∀ ds : List D, (ds.flatMap fun d => [D.bl (g d)]) = (ds.map g).map .bl
  | [] => rfl
  | d :: ds => by rw [List.flatMap_cons, flat_bl g ds]; rfl
/-- all([elt for ..]) -/
theorem w_all (g : D → Bool) {own : List (Str × Nat)} (k : Cok X kk) (ok : BlkOk X.N X.env.scope scope own) (h0 : X.mg "all" = none)
    (h : WI X B Γ tg iter (LcOver X B scope tg elt [] (own.map (·.2)) (fun d => [.bl (g d)]) fun Γ2 ds => Φ Γ2 (.d (.bl (ds.all g)))))
    (hg : Gl X "all" := by rfl) (hs : ∀ x, foldedSetIterable iter X.env x = pure x := by intro _; rfl) (he : starEach [.ListComp elt [⟨tg, iter, [], 0⟩] scope pos'] X.env = (false, eval (.ListComp elt [⟨tg, iter, [], 0⟩] scope pos') X.env) :: starEach [] X.env := by rfl) (hpl : (backTo pos (starEach [] X.env)).any (·.1) = false := by rfl) :
    WE X B Γ (.Call (.Name "all" p) [.ListComp elt [⟨tg, iter, [], 0⟩] scope pos'] [] pos) Φ := by
  refine w_callB h0 boot_all (wa_cons (f_fr (w_lcO _ k ok (PI.mono h fun σ H R ⟨Hs, E, q⟩ => ⟨Hs, E, fun J H' Hs' Γ' ds ex E' wk w => q J H' Hs' Γ' ds ex E' wk ⟨w.1, w.2.1, ?_⟩⟩) hs)) he) hg (by decide) (by decide) he hpl
  refine ⟨_, rfl, wa_nil ⟨[.lst ((ds.map g).map .bl)], _, ?_, c_all k, ?_⟩⟩
  · rw [flat_bl]; rfl
  · have := w.2.2
    rw [List.all_map]; exact this
theorem w_any (g : D → Bool) {own : List (Str × Nat)} (k : Cok X kk) (ok : BlkOk X.N X.env.scope scope own) (h0 : X.mg "any" = none)
    (h : WI X B Γ tg iter (LcOver X B scope tg elt [] (own.map (·.2)) (fun d => [.bl (g d)]) fun Γ2 ds => Φ Γ2 (.d (.bl (ds.any g)))))
    (hg : Gl X "any" := by rfl) (hs : ∀ x, foldedSetIterable iter X.env x = pure x := by intro _; rfl) (he : starEach [.ListComp elt [⟨tg, iter, [], 0⟩] scope pos'] X.env = (false, eval (.ListComp elt [⟨tg, iter, [], 0⟩] scope pos') X.env) :: starEach [] X.env := by rfl) (hpl : (backTo pos (starEach [] X.env)).any (·.1) = false := by rfl) :
    WE X B Γ (.Call (.Name "any" p) [.ListComp elt [⟨tg, iter, [], 0⟩] scope pos'] [] pos) Φ := by
  refine w_callB h0 boot_any (wa_cons (f_fr (w_lcO _ k ok (PI.mono h fun σ H R ⟨Hs, E, q⟩ => ⟨Hs, E, fun J H' Hs' Γ' ds ex E' wk w => q J H' Hs' Γ' ds ex E' wk ⟨w.1, w.2.1, ?_⟩⟩) hs)) he) hg (by decide) (by decide) he hpl
  refine ⟨_, rfl, wa_nil ⟨[.lst ((ds.map g).map .bl)], _, ?_, c_any k, ?_⟩⟩
  · rw [flat_bl]; rfl
  · have := w.2.2
    rw [List.any_map]; exact this
/-- tuple([elt for .. if ..]) -/
theorem w_tupC (f : D → List D) {own : List (Str × Nat)} (k : Cok X kk) (ok : BlkOk X.N X.env.scope scope own) (h0 : X.mg "tuple" = none)
    (h : WI X B Γ tg iter (LcOver X B scope tg elt ifs (own.map (·.2)) f fun Γ2 ds => Φ Γ2 (.d (.tup (ds.flatMap f)))))
    (hg : Gl X "tuple" := by rfl) (hs : ∀ x, foldedSetIterable iter X.env x = pure x := by intro _; rfl) (he : starEach [.ListComp elt [⟨tg, iter, ifs, 0⟩] scope pos'] X.env = (false, eval (.ListComp elt [⟨tg, iter, ifs, 0⟩] scope pos') X.env) :: starEach [] X.env := by rfl) (hpl : (backTo pos (starEach [] X.env)).any (·.1) = false := by rfl) :
    WE X B Γ (.Call (.Name "tuple" p) [.ListComp elt [⟨tg, iter, ifs, 0⟩] scope pos'] [] pos) Φ := by
  refine w_callT h0 boot_tup (wa_cons (f_fr (w_lcO f k ok (PI.mono h fun σ H R ⟨Hs, E, q⟩ => ⟨Hs, E, fun J H' Hs' Γ' ds ex E' wk w => q J H' Hs' Γ' ds ex E' wk ⟨w.1, w.2.1, ?_⟩⟩) hs)) he) hg (by decide) (by decide) he hpl
  exact ⟨_, rfl, wa_nil ⟨[.lst (ds.flatMap f)], _, rfl, c_tuple, w.2.2⟩⟩
/-- an item without a condition -/
theorem lc_one {own : List Nat} {Γ1 : Ga} {f : D → List D} {d : D} (Γ2 : Ga) (ix : List Nat) (hx : ∀ j ∈ ix, j ∈ own) (hg : ∀ s H C cl fp, GD (Bk X scope s H C cl fp) tg d (wipeG Γ1 own) Γ2 ix)
    (h : ∀ p o s H C cl fp, WF (Bk X scope s H C cl fp) (B.plus p o) Γ2 elt fun Γ4 r => ∃ y, r = .d y ∧ f d = [y] ∧ wipeG Γ4 own = wipeG Γ1 own) : LcItem X B scope tg elt [] own Γ1 f d :=
  ⟨Γ2, ix, hx, hg, fun p o s H C cl fp => wts_nil (if_t fun s H C cl fp => h p o s H C cl fp)⟩
/-- an item with one condition -/
theorem lc_if {own : List Nat} {Γ1 : Ga} {f : D → List D} {d : D} {c : Expr} (Γ2 : Ga) (ix : List Nat) (hx : ∀ j ∈ ix, j ∈ own) (hg : ∀ s H C cl fp, GD (Bk X scope s H C cl fp) tg d (wipeG Γ1 own) Γ2 ix)
    (h : ∀ p o s H C cl fp, WT (Bk X scope s H C cl fp) (B.plus p o) Γ2 c fun Γ3 b => if b = true then (∀ s H C cl fp, WF (Bk X scope s H C cl fp) (B.plus p o) Γ3 elt fun Γ4 r => ∃ y, r = .d y ∧ f d = [y] ∧ wipeG Γ4 own = wipeG Γ1 own) else f d = [] ∧ wipeG Γ3 own = wipeG Γ1 own) : LcItem X B scope tg elt [c] own Γ1 f d :=
  ⟨Γ2, ix, hx, hg, fun p o s H C cl fp => wts_one (h p o s H C cl fp)⟩
end
end DL
/-! DL12: xs[i] = v; list(range(..)); several names at once. -/
namespace DL
open PySem PySem.Spec PyProof.Rows L2
section
variable {X : Cx} {B : Base} {Γ : Ga} {a b c e ie : Expr} {sts : List Stmt} {pos p p2 : Pos} {P : Post} {Φ : Ga → RV → Prop} {kk : Nat}
/-- name[ie] = e: the list of slot i is changed -/
theorem s_putL (i : Nat) {x : Str} (h : WF X B Γ e fun Γ1 r => ∃ d o0 xs0, r = .d d ∧ Γ1[i]? = some (.l o0 xs0) ∧ WF X B Γ1 ie fun Γ2 r2 => ∃ j n o xs, r2 = .d (.int j) ∧ Γ2[i]? = some (.l o xs) ∧ ixN xs.length j = some n ∧ WS X B (Γ2.set i (.l o (xs.set n d))) sts P)
    (hN : X.N[i]? = some x := by rfl) (hv : Vis X.env.scope x := by first | exact Or.inl rfl | exact Or.inr (Or.inl rfl) | exact Or.inr (Or.inr rfl)) (hd : (x == ("__debug__" : Str)) = false := by decide) (hcd : (x == ("__classdict__" : Str)) = false := by decide)
    (ha : ∀ v, assign (.Subscript (.Name x p) ie p2) X.env v = (do
      let ov ← holding [v] (eval (.Name x p) X.env)
      let iv ← holding [v, ov] (eval ie X.env)
      standAt p2
      holding [v, ov, iv] (setItem ov iv v)
      release [v, ov, iv] []) := by intro _; rfl)
    (hs : swapsWithSole [.Subscript (.Name x p) ie p2] e pos.line X.env = pure false := by rfl) (hw : swappedStores [.Subscript (.Name x p) ie p2] e X.env = pure none := by rfl)
    (h1 : (assignEach [.Subscript (.Name x p) ie p2] X.env).map (·.2) = [assign (.Subscript (.Name x p) ie p2) X.env] := by rfl) : WS X B Γ (.Assign [.Subscript (.Name x p) ie p2] e pos :: sts) P :=
  s_cons (ps_asg h (pg_sub (pe_var hN hv hd hcd) pe_any set_list ha) hs hw h1) fun D σ H Hs E n _ _ _ => ⟨Hs, E, fun v H' Hs' Γ' r ex E' ok kp w => by
    obtain ⟨d, o0, xs0, rfl, h0, w⟩ := w
    have ok : Rp X.K Hs' v d := ok
    obtain ⟨q, us, e1, _, _, _, _⟩ := E'.slot_l h0
    refine ⟨.ref q, e1, _, w, Hs', E', fun v2 H2 Hs2 Γ2 r2 ex2 E2 ok2 k2 w2 => ?_⟩
    obtain ⟨j, m, o, xs, rfl, hi, hj, w3⟩ := w2
    have ok2 : Rp X.K Hs2 v2 (.int j) := ok2
    cases ok2
    obtain ⟨q', us2, e2, _, _, hp, ra⟩ := E2.slot_l hi
    rw [e1] at e2; cases e2
    refine ⟨q, us2, j, m, rfl, rfl, hp, by rw [ra.length]; exact hj, ?_⟩
    exact n σ _ Hs2 _ (ex.trans ex2) (E2.write_l hi e1 (RpA.set (ok.mono ex2) m ra)) w3⟩
/-- list(range(e)) -/
theorem rgV_D {K : PySem.W.Frag} {H : Hp} (a b : Int) : RpA K H (rgV a b) ((List.range (b - a).toNat).map fun i => D.int (a + (i : Nat))) := by
  unfold rgV
  induction List.range (b - a).toNat with
  | nil => exact .nil
  | cons i l ih => exact .cons (.int _) ih
theorem w_listRg {p' pos' : Pos} (k : Cok X kk) (h0 : X.mg "list" = none) (h1 : X.mg "range" = none) (h : WF X B Γ e fun Γ1 r => ∃ n : Int, r = .d (.int n) ∧ 0 ≤ n ∧ n ≤ 16777216 ∧ Φ Γ1 (.n ((List.range n.toNat).map fun i => D.int ((0 : Int) + (i : Nat)))))
    (hg : Gl X "list" := by rfl) (hg1 : Gl X "range" := by rfl) (na : starEach [.Call (.Name "range" p') [e] [] pos'] X.env = (false, eval (.Call (.Name "range" p') [e] [] pos') X.env) :: starEach [] X.env := by rfl) (nb : starEach [e] X.env = (false, eval e X.env) :: starEach [] X.env := by rfl) :
    WE X B Γ (.Call (.Name "list" p) [.Call (.Name "range" p') [e] [] pos'] [] pos) Φ :=
  PE.mono (pe_listRg k.calm hg h0 (prg_1 hg1 h1 h nb) na) fun σ H Q ⟨Hs, E, q⟩ => ⟨Hs, E, fun v H1 Hs1 Γ1 r ex E1 ok kp w => by
    obtain ⟨n, rfl, h2, h3, w⟩ := w
    have ok : Rp X.K Hs1 v (.int n) := ok
    cases ok
    refine ⟨n, rfl, RgOk.of_le (by decide) h3 (by decide) h2, fun q' hq => ?_⟩
    obtain ⟨E2, f⟩ := E1.newp (o := .lst (rgV 0 n)) hq
    have hr := rgV_D (K := X.K) (H := Hs1) 0 n
    rw [Int.sub_zero] at hr
    exact q _ _ Hs1 Γ1 (.n _) ex E2 ⟨q', _, rfl, upd_same, hr, f⟩ w⟩
/-- x, y = a, b -/
theorem put2 {Hs H : Hp} {σ : L2.St} {i j : Nat} {u v : V} {x y : D} (E : Env X.K B Hs H σ Γ) (hi : i < Γ.length) (hj : j < Γ.length) (r1 : Rp X.K Hs u x) (r2 : Rp X.K Hs v y) :
    Env X.K B Hs H ((σ.set i (some u)).set j (some v)) ((Γ.set i (.d x)).set j (.d y)) := (E.put_d hi r1).put_d (by rw [List.length_set]; exact hj) r2
theorem s_par2 (i j : Nat) {x y : Str} {px py pt pt2 : Pos} {kt k2} (k : Cok X kk) (hij : i ≠ j) (h : WA X B Γ [a, b] fun Γ1 rs => ∃ u v, rs = [.d u, .d v] ∧ i < Γ1.length ∧ j < Γ1.length ∧ WS X B ((Γ1.set i (.d u)).set j (.d v)) sts P)
    (hi : X.N[i]? = some x := by rfl) (hj : X.N[j]? = some y := by rfl) (hx : X.env.scope.names.lookup x = some .local := by rfl) (hy : X.env.scope.names.lookup y = some .local := by rfl)
    (hw : swappedStores [.Tuple [.Name x px, .Name y py] kt pt] (.Tuple [a, b] k2 pt2) X.env = pure (some [x, y]) := by rfl) (hs : swapsWithSole [.Tuple [.Name x px, .Name y py] kt pt] (.Tuple [a, b] k2 pt2) pos.line X.env = pure false := by rfl) :
    WS X B Γ (.Assign [.Tuple [.Name x px, .Name y py] kt pt] (.Tuple [a, b] k2 pt2) pos :: sts) P :=
  s_cons (ps_par k.calm k.nd hi hj hij hx hy h hw hs) fun D σ H Hs E n _ _ _ => ⟨Hs, E, fun vs H' Hs' Γ' rs ex E' ok w => by
    obtain ⟨u, v, rfl, h1, h2, w⟩ := w
    cases ok with
    | cons o1 _ ok =>
      cases ok with
      | cons o2 _ ok =>
        cases ok
        exact ⟨_, _, rfl, n _ H' Hs' _ ex (put2 E' h1 h2 o1 o2) w⟩⟩
theorem s_par3 (i j l : Nat) {x y z : Str} {px py pz pt pt2 : Pos} {kt k2} (k : Cok X kk) (hij : i ≠ j) (hil : i ≠ l) (hjl : j ≠ l) (h : WA X B Γ [a, b, c] fun Γ1 rs => ∃ u v t, rs = [.d u, .d v, .d t] ∧ i < Γ1.length ∧ j < Γ1.length ∧ l < Γ1.length ∧ WS X B (((Γ1.set i (.d u)).set j (.d v)).set l (.d t)) sts P)
    (hi : X.N[i]? = some x := by rfl) (hj : X.N[j]? = some y := by rfl) (hl : X.N[l]? = some z := by rfl) (hx : X.env.scope.names.lookup x = some .local := by rfl) (hy : X.env.scope.names.lookup y = some .local := by rfl) (hz : X.env.scope.names.lookup z = some .local := by rfl)
    (hw : swappedStores [.Tuple [.Name x px, .Name y py, .Name z pz] kt pt] (.Tuple [a, b, c] k2 pt2) X.env = pure (some [x, y, z]) := by rfl) (hs : swapsWithSole [.Tuple [.Name x px, .Name y py, .Name z pz] kt pt] (.Tuple [a, b, c] k2 pt2) pos.line X.env = pure false := by rfl) :
    WS X B Γ (.Assign [.Tuple [.Name x px, .Name y py, .Name z pz] kt pt] (.Tuple [a, b, c] k2 pt2) pos :: sts) P :=
  s_cons (ps_par3 k.calm k.nd hi hj hl hij hil hjl hx hy hz h hw hs) fun D σ H Hs E n _ _ _ => ⟨Hs, E, fun vs H' Hs' Γ' rs ex E' ok w => by
    obtain ⟨u, v, t, rfl, h1, h2, h3, w⟩ := w
    cases ok with
    | cons o1 _ ok =>
      cases ok with
      | cons o2 _ ok =>
        cases ok with
        | cons o3 _ ok =>
          cases ok
          exact ⟨_, _, _, rfl, n _ H' Hs' _ ex ((put2 E' h1 h2 o1 o2).put_d (by rw [List.length_set, List.length_set]; exact h3) o3) w⟩⟩
/-! int(e), abs(e) -/
theorem w_toInt (h0 : X.mg "int" = none) (h : WF X B Γ e fun Γ1 r => ∃ i, r = .d (.int i) ∧ Φ Γ1 (.d (.int i))) (hg : Gl X "int" := by rfl)
    (he : starEach [e] X.env = (false, eval e X.env) :: starEach [] X.env := by rfl) (hpl : (backTo pos (starEach [] X.env)).any (·.1) = false := by rfl) : WE X B Γ (.Call (.Name "int" p) [e] [] pos) Φ :=
  w_callT h0 boot_int (wa_cons (lc_map.wf_mono h fun Γ1 r ⟨i, e1, w⟩ => wa_nil ⟨[.int i], _, by subst e1; rfl, c_int, w⟩) he) hg (by decide) (by decide) he hpl
theorem w_toIntB {op : List CmpOp} {bs : List Expr} {p' : Pos} (h0 : X.mg "int" = none) (h : WF X B Γ (.Compare a op bs p') fun Γ1 r => ∃ i, r = .d (.bl i) ∧ Φ Γ1 (.d (.int (if i then 1 else 0)))) (hg : Gl X "int" := by rfl)
    (he : starEach [.Compare a op bs p'] X.env = (false, eval (.Compare a op bs p') X.env) :: starEach [] X.env := by rfl) (hpl : (backTo pos (starEach [] X.env)).any (·.1) = false := by rfl) : WE X B Γ (.Call (.Name "int" p) [.Compare a op bs p'] [] pos) Φ :=
  w_callT h0 boot_int (wa_cons (lc_map.wf_mono h fun Γ1 r ⟨i, e1, w⟩ => wa_nil ⟨[.bl i], _, by subst e1; rfl, c_intB, w⟩) he) hg (by decide) (by decide) he hpl
theorem w_abs (h0 : X.mg "abs" = none) (h : WF X B Γ e fun Γ1 r => ∃ i, r = .d (.int i) ∧ Φ Γ1 (.d (.int (if i < 0 then -i else i)))) (hg : Gl X "abs" := by rfl)
    (he : starEach [e] X.env = (false, eval e X.env) :: starEach [] X.env := by rfl) (hpl : (backTo pos (starEach [] X.env)).any (·.1) = false := by rfl) : WE X B Γ (.Call (.Name "abs" p) [e] [] pos) Φ :=
  w_callB h0 boot_abs (wa_cons (lc_map.wf_mono h fun Γ1 r ⟨i, e1, w⟩ => wa_nil ⟨[.int i], _, by subst e1; rfl, c_abs, w⟩) he) hg (by decide) (by decide) he hpl
/-- sum of a few ints -/
theorem w_sumI (k : Cok X kk) (h0 : X.mg "sum" = none) (h : WE X B Γ e fun Γ1 r => ∃ is : List Int, r = .n (is.map .int) ∧ Φ Γ1 (.d (.int is.sum))) (hg : Gl X "sum" := by rfl)
    (he : starEach [e] X.env = (false, eval e X.env) :: starEach [] X.env := by rfl) (hpl : (backTo pos (starEach [] X.env)).any (·.1) = false := by rfl) : WE X B Γ (.Call (.Name "sum" p) [e] [] pos) Φ :=
  w_callB h0 boot_sum (wa_cons (f_fr (PE.mono h fun σ H Q ⟨Hs, E, q⟩ => ⟨Hs, E, fun v H' Hs' Γ' r ex E' ok ⟨is, e1, w⟩ => q v H' Hs' Γ' r ex E' ok ⟨_, e1, wa_nil ⟨[.lst (is.map .int)], _, rfl, c_sum k, w⟩⟩⟩)) he) hg (by decide) (by decide) he hpl
theorem cm_l {i j : Int} (h1 : -(2 ^ 64) < i) (h2 : i < 2 ^ 64) : CMul i j := .inl ⟨h1, h2⟩
theorem cm_r {i j : Int} (h1 : -(2 ^ 64) < j) (h2 : j < 2 ^ 64) : CMul i j := .inr ⟨h1, h2⟩
end
end DL
/-! DL13: dicts of a slot. -/
namespace DL
open PySem PySem.Spec PyProof.Rows L2
open PySem.W (EachIs)
/-! ### dicts of data -/
abbrev Dk := List (Key × D)
def keyD : Key → D
  | .inl i => .int i
  | .inr x => .str x
def atD (m : Dk) (k : Key) : Option D := (m.find? fun kv => decide (kv.1 = k)).map (·.2)
def putD (m : Dk) (k : Key) (d : D) : Dk := if (m.any fun kv => decide (kv.1 = k)) = true then m.map (fun kv => if kv.1 = k then (kv.1, d) else kv) else m ++ [(k, d)]
def dropD (m : Dk) (k : Key) : Dk := m.filter fun kv => decide (kv.1 ≠ k)
/-- k: v as a pair -/
def pairD (kv : Key × D) : D := .tup [keyD kv.1, kv.2]
section
variable {K : PySem.W.Frag} {Hs H : Hp}
theorem rpk_at {k : Key} : ∀ {vs : List (Key × V)} {m : Dk}, RpK K Hs vs m → (∀ d, atD m k = some d → ∃ v, valV vs k = some v ∧ Rp K Hs v d) ∧ (atD m k = none → valV vs k = none)
  | _, _, .nil => ⟨fun d e => (nomatch e), fun _ => rfl⟩
  | _, _, .cons (x := x) (v := v) (vs := vs) (d := d) (ds := ds) h r => by
    obtain ⟨h1, h2⟩ := rpk_at (k := k) r
    by_cases e : x = k
    · subst e
      rw [valV_pos (p := (x, v)) rfl]
      have : atD ((x, d) :: ds) x = some d := by simp [atD]
      rw [this]
      exact ⟨fun y q => by cases q; exact ⟨v, rfl, h⟩, fun q => (nomatch q)⟩
    · rw [valV_neg (p := (x, v)) e]
      have : atD ((x, d) :: ds) k = atD ds k := by simp [atD, e]
      rw [this]
      exact ⟨h1, h2⟩
theorem rpk_any {k : Key} : ∀ {vs : List (Key × V)} {m : Dk}, RpK K Hs vs m → (vs.any fun kv => decide (kv.1 = k)) = m.any fun kv => decide (kv.1 = k)
  | _, _, .nil => rfl
  | _, _, .cons h r => by rw [List.any_cons, List.any_cons, rpk_any r]
theorem rpk_map {k : Key} {v : V} {d : D} (q : Rp K Hs v d) : ∀ {vs : List (Key × V)} {m : Dk}, RpK K Hs vs m → RpK K Hs (vs.map fun kv => if kv.1 = k then (kv.1, v) else kv) (m.map fun kv => if kv.1 = k then (kv.1, d) else kv)
  | _, _, .nil => .nil
  | _, _, .cons (x := x) h r => by
    rw [List.map_cons, List.map_cons]
    by_cases e : x = k
    · simp only [e, if_true]; exact .cons q (rpk_map q r)
    · simp only [e, if_false]; exact .cons h (rpk_map q r)
theorem rpk_snoc {k : Key} {v : V} {d : D} (q : Rp K Hs v d) : ∀ {vs : List (Key × V)} {m : Dk}, RpK K Hs vs m → RpK K Hs (vs ++ [(k, v)]) (m ++ [(k, d)])
  | _, _, .nil => .cons q .nil
  | _, _, .cons h r => .cons h (rpk_snoc q r)
theorem rpk_put {k : Key} {v : V} {d : D} (q : Rp K Hs v d) {vs : List (Key × V)} {m : Dk} (r : RpK K Hs vs m) : RpK K Hs (putK vs k v) (putD m k d) := by
  unfold putK putD
  rw [rpk_any r]
  split
  · exact rpk_map q r
  · exact rpk_snoc q r
theorem rpk_drop {k : Key} : ∀ {vs : List (Key × V)} {m : Dk}, RpK K Hs vs m → RpK K Hs (dropK vs k) (dropD m k)
  | _, _, .nil => .nil
  | _, _, .cons (x := x) (v := v) (d := d) h r => by
    unfold dropK dropD
    by_cases e : x = k
    · rw [List.filter_cons_of_neg (by simp [e]), List.filter_cons_of_neg (by simp [e])]; exact rpk_drop r
    · rw [List.filter_cons_of_pos (by simp [e]), List.filter_cons_of_pos (by simp [e])]; exact .cons h (rpk_drop r)
theorem rpk_get : ∀ {vs : List (Key × V)} {m : Dk} {i : Nat} {k : Key} {v : V}, RpK K Hs vs m → vs[i]? = some (k, v) → ∃ d, m[i]? = some (k, d) ∧ Rp K Hs v d
  | _, _, i, _, _, .nil, e => by cases i <;> cases e
  | _, _, 0, _, _, .cons h _, e => by cases e; exact ⟨_, rfl, h⟩
  | _, _, i + 1, k, v, .cons _ r, e => rpk_get (i := i) (k := k) (v := v) r e
theorem rpk_vals : ∀ {vs : List (Key × V)} {m : Dk}, RpK K Hs vs m → RpA K Hs (vs.map (·.2)) (m.map (·.2))
  | _, _, .nil => .nil
  | _, _, .cons h r => .cons h (rpk_vals r)
theorem rp_key {v : V} {k : Key} (h : Rp K Hs v (keyD k)) : v = kV k := by
  cases k with
  | inl i => cases h; rfl
  | inr x => cases h; rfl
theorem key_rp (k : Key) : Rp K Hs (kV k) (keyD k) := by
  cases k with
  | inl i => exact .int i
  | inr x => exact .str x
end
section
variable {X : Cx} {B : Base} {Γ : Ga} {a b c e : Expr} {sts : List Stmt} {pos p p2 apos : Pos} {P : Post} {Φ : Ga → RV → Prop} {Ψ : Ga → Bool → Prop} {kk : Nat}
/-- {} -/
theorem w_dict0 (h : Φ Γ (.nm [])) : WE X B Γ (.Dict [] [] pos) Φ := PE.mono pe_dnewK fun σ H Q ⟨Hs, E, q⟩ => fun p hp => by
  obtain ⟨E2, f⟩ := E.newp (o := .dK []) hp
  exact q _ _ Hs Γ (.nm []) (Ex.refl _) E2 ⟨p, [], rfl, upd_same, .nil, f⟩ h
/-- e in name, e not in name -/
theorem in_ok {Hs H : Hp} {σ : L2.St} {i : Nat} {m : Dk} (E : Env X.K B Hs H σ Γ) (hi : Γ[i]? = some (.m m)) (k : Key) :
    ∃ q vs o, σ[i]? = some (some (.ref q)) ∧ H q = some (.dK vs) ∧ RpK X.K Hs vs m ∧ DGet H q (kV k) o ∧ o.isSome = (atD m k).isSome ∧ (∀ d, atD m k = some d → ∃ v, o = some v ∧ Rp X.K Hs v d) := by
  obtain ⟨q, vs, e1, _, hp, ra⟩ := E.slot_m hi
  refine ⟨q, vs, valV vs k, e1, hp, ra, .k hp, ?_, fun d hd => ?_⟩
  · obtain ⟨h1, h2⟩ := rpk_at (k := k) ra
    cases z : atD m k with
    | none => rw [h2 z]; rfl
    | some d => obtain ⟨v, e, _⟩ := h1 d z; rw [e]; rfl
  · exact (rpk_at (k := k) ra).1 d hd
theorem w_inM {x : Str} (i : Nat) (kc : Cok X kk) (h : WF X B Γ a fun Γ1 r => ∃ k m, r = .d (keyD k) ∧ Γ1[i]? = some (.m m) ∧ Φ Γ1 (.d (.bl (atD m k).isSome)))
    (hN : X.N[i]? = some x := by rfl) (hv : Vis X.env.scope x := by first | exact Or.inl rfl | exact Or.inr (Or.inl rfl) | exact Or.inr (Or.inr rfl)) (hd : (x == ("__debug__" : Str)) = false := by decide) (hcd : (x == ("__classdict__" : Str)) = false := by decide)
    (h1 : behindInMarks .In (.Name x p) = false := by rfl) : WE X B Γ (.Compare a [.In] [.Name x p] pos) Φ :=
  PE.mono (pe_cmp (pc_din (by have := kc.room.un; omega) h (pe_var hN hv hd hcd)) h1) fun σ H Q ⟨Hs, E, q⟩ => ⟨Hs, E, fun v H' Hs' Γ' r ex E' ok kp w => by
    obtain ⟨k, m, rfl, hi, w⟩ := w
    obtain rfl := rp_key (show Rp X.K Hs' v (keyD k) from ok)
    obtain ⟨t, vs, o, e1, _, _, g, eo, _⟩ := in_ok E' hi k
    refine ⟨_, e1, t, o, rfl, g, ?_⟩
    rw [eo]
    exact q _ H' Hs' Γ' (.d (.bl _)) ex E' (.bl _) w⟩
theorem w_ninM {x : Str} (i : Nat) (kc : Cok X kk) (h : WF X B Γ a fun Γ1 r => ∃ k m, r = .d (keyD k) ∧ Γ1[i]? = some (.m m) ∧ Φ Γ1 (.d (.bl (!(atD m k).isSome))))
    (hN : X.N[i]? = some x := by rfl) (hv : Vis X.env.scope x := by first | exact Or.inl rfl | exact Or.inr (Or.inl rfl) | exact Or.inr (Or.inr rfl)) (hd : (x == ("__debug__" : Str)) = false := by decide) (hcd : (x == ("__classdict__" : Str)) = false := by decide)
    (h1 : behindInMarks .NotIn (.Name x p) = false := by rfl) : WE X B Γ (.Compare a [.NotIn] [.Name x p] pos) Φ :=
  PE.mono (pe_cmp (pc_dnotin (by have := kc.room.un; omega) h (pe_var hN hv hd hcd)) h1) fun σ H Q ⟨Hs, E, q⟩ => ⟨Hs, E, fun v H' Hs' Γ' r ex E' ok kp w => by
    obtain ⟨k, m, rfl, hi, w⟩ := w
    obtain rfl := rp_key (show Rp X.K Hs' v (keyD k) from ok)
    obtain ⟨t, vs, o, e1, _, _, g, eo, _⟩ := in_ok E' hi k
    refine ⟨_, e1, t, o, rfl, g, ?_⟩
    rw [eo]
    exact q _ H' Hs' Γ' (.d (.bl _)) ex E' (.bl _) w⟩
/-- name[e] = v -/
theorem s_putM {x : Str} (i : Nat) (kc : Cok X kk) (h : WF X B Γ b fun Γ1 r => ∃ d m0, r = .d d ∧ Γ1[i]? = some (.m m0) ∧ WF X B Γ1 a fun Γ2 r2 => ∃ k m, r2 = .d (keyD k) ∧ Γ2[i]? = some (.m m) ∧ m.length < sizeLine ∧ WS X B (Γ2.set i (.m (putD m k d))) sts P)
    (hN : X.N[i]? = some x := by rfl) (hv : Vis X.env.scope x := by first | exact Or.inl rfl | exact Or.inr (Or.inl rfl) | exact Or.inr (Or.inr rfl)) (hd : (x == ("__debug__" : Str)) = false := by decide) (hcd : (x == ("__classdict__" : Str)) = false := by decide)
    (hs : swapsWith b (some (.Subscript (.Name x p) a p2)) pos.line X.env = pure false := by rfl) : WS X B Γ (.Assign [.Subscript (.Name x p) a p2] b pos :: sts) P :=
  s_cons (ps_dput (by have := kc.room.un; omega) (pe_var hN hv hd hcd) pe_any h hs) fun D σ H Hs E n _ _ _ => ⟨Hs, E, fun v H' Hs' Γ' r ex E' ok kp w => by
    obtain ⟨d, m0, rfl, h0, w⟩ := w
    obtain ⟨t, vs, o, e1, _, _, _, _, _⟩ := in_ok E' h0 (.inl 0)
    refine ⟨_, e1, _, w, Hs', E', fun v2 H2 Hs2 Γ2 r2 ex2 E2 ok2 k2 w2 => ?_⟩
    obtain ⟨k, m, rfl, hi, hl, w2⟩ := w2
    obtain rfl := rp_key (show Rp X.K Hs2 v2 (keyD k) from ok2)
    obtain ⟨t', vs, o, e2, hp, ra, _, _, _⟩ := in_ok E2 hi k
    rw [e1] at e2; cases e2
    refine ⟨t, _, rfl, .inl ⟨vs, k, hp, rfl, by rw [ra.length]; exact hl, rfl⟩, ?_⟩
    exact n σ _ Hs2 _ (ex.trans ex2) (E2.write_m hi e1 (rpk_put (Rp.mono ex2 (show Rp X.K Hs' v d from ok)) ra)) w2⟩
/-- name.get(e, f) -/
theorem w_getM {x : Str} (i : Nat) (kc : Cok X kk) (h : WF X B Γ a fun Γ1 r => WF X B Γ1 b fun Γ2 r2 => ∃ k m d, r = .d (keyD k) ∧ r2 = .d d ∧ Γ2[i]? = some (.m m) ∧ Φ Γ2 (.d ((atD m k).getD d)))
    (h0 : ∃ m0, Γ[i]? = some (.m m0)) (mt : M2 X (.Name x p) "get" apos a b pos)
    (hN : X.N[i]? = some x := by rfl) (hv : Vis X.env.scope x := by first | exact Or.inl rfl | exact Or.inr (Or.inl rfl) | exact Or.inr (Or.inr rfl)) (hd : (x == ("__debug__" : Str)) = false := by decide) (hcd : (x == ("__classdict__" : Str)) = false := by decide) :
    WE X B Γ (.Call (.Attribute (.Name x p) "get" apos) [a, b] [] pos) Φ :=
  PE.mono (pe_dget2 (by have := kc.room.un; omega) (pe_var hN hv hd hcd) h pe_any mt) fun σ H Q ⟨Hs, E, q⟩ => by
    obtain ⟨m0, h0⟩ := h0
    obtain ⟨t, vs, o, e1, hp, _, _, _, _⟩ := in_ok E h0 (.inl 0)
    refine ⟨_, e1, t, rfl, .inl ⟨vs, .inl hp⟩, Hs, E, fun v H' Hs' Γ' r ex E' ok kp w => ⟨_, w, Hs', E', fun v2 H2 Hs2 Γ2 r2 ex2 E2 ok2 k2 w2 => ?_⟩⟩
    obtain ⟨k, m, d, rfl, rfl, hi, w2⟩ := w2
    obtain rfl := rp_key (show Rp X.K Hs' v (keyD k) from ok)
    obtain ⟨t', vs, o, e2, hp, ra, g, eo, eg⟩ := in_ok E2 hi k
    rw [e1] at e2; cases e2
    refine ⟨o, g, q _ H2 Hs2 Γ2 (.d _) (ex.trans ex2) E2 ?_ w2⟩
    cases z : atD m k with
    | none =>
      rw [z] at eo
      cases o with
      | none => exact ok2
      | some u => cases eo
    | some y =>
      obtain ⟨u, rfl, ru⟩ := eg y z
      exact ru
/-- name.pop(e), the key is there -/
theorem w_popM {x : Str} (i : Nat) (h : WF X B Γ a fun Γ1 r => ∃ k m d, r = .d (keyD k) ∧ Γ1[i]? = some (.m m) ∧ atD m k = some d ∧ Φ (Γ1.set i (.m (dropD m k))) (.d d))
    (h0 : ∃ m0, Γ[i]? = some (.m m0)) (mt : M1 X (.Name x p) "pop" apos a pos)
    (hN : X.N[i]? = some x := by rfl) (hv : Vis X.env.scope x := by first | exact Or.inl rfl | exact Or.inr (Or.inl rfl) | exact Or.inr (Or.inr rfl)) (hd : (x == ("__debug__" : Str)) = false := by decide) (hcd : (x == ("__classdict__" : Str)) = false := by decide) :
    WE X B Γ (.Call (.Attribute (.Name x p) "pop" apos) [a] [] pos) Φ :=
  PE.mono (pe_dpop1 (pe_var hN hv hd hcd) h mt) fun σ H Q ⟨Hs, E, q⟩ => by
    obtain ⟨m0, h0⟩ := h0
    obtain ⟨t, vs, o, e1, hp, _, _, _, _⟩ := in_ok E h0 (.inl 0)
    refine ⟨_, e1, t, rfl, .inl ⟨vs, .inl hp⟩, Hs, E, fun v H' Hs' Γ' r ex E' ok kp w => ?_⟩
    obtain ⟨k, m, d, rfl, hi, hk, w⟩ := w
    obtain rfl := rp_key (show Rp X.K Hs' v (keyD k) from ok)
    obtain ⟨t', vs, e2, _, hp, ra⟩ := E'.slot_m hi
    rw [e1] at e2; cases e2
    obtain ⟨u, hu, ru⟩ := (rpk_at (k := k) ra).1 d hk
    exact ⟨vs, k, u, hp, rfl, hu, q u _ Hs' _ (.d d) ex (E'.write_m hi e1 (rpk_drop ra)) ru w⟩
end
end DL
/-! DL14: list(name.values()), sorted(name.items()). -/
namespace DL
open PySem PySem.Spec PyProof.Rows L2
open PySem.W (EachIs)
section
mutual
theorem reads_lt {h : Heap} : ∀ {v : Value} {d : PyData} {as : List Addr}, Reads h v d as → ∀ a ∈ as, a < h.objs.size
  | _, _, _, .none => fun a h => by cases h
  | _, _, _, .bool b => fun a h => by cases h
  | _, _, _, .int i t => fun a h => by cases h
  | _, _, _, .str x t => fun a h => by cases h
  | _, _, _, .list h1 _ _ h4 => fun a h => by
    rcases List.mem_cons.mp h with rfl | h
    · exact Heap.lt_size h1
    · exact reads_all_lt h4 a h
  | _, _, _, .tuple h1 _ _ h4 => fun a h => reads_all_lt h4 a h
  | _, _, _, .dict h1 _ _ h4 h5 => fun a h => by
    rcases List.mem_append.mp h with h | h
    · rcases List.mem_cons.mp h with rfl | h
      · exact Heap.lt_size h1
      · exact reads_all_lt h4 a h
    · exact reads_all_lt h5 a h
theorem reads_all_lt {h : Heap} : ∀ {vs : List Value} {ds : List PyData} {as : List Addr}, ReadsAll h vs ds as → ∀ a ∈ as, a < h.objs.size
  | _, _, _, .nil => fun a h => by cases h
  | _, _, _, .cons h1 h2 => fun a h => by
    rcases List.mem_append.mp h with h | h
    · exact reads_lt h1 a h
    · exact reads_all_lt h2 a h
end
end
def valsO (p d : Addr) : HO := .ext fun h => h.IsValuesView p d
def itmsO (p d : Addr) : HO := .ext fun h => h.IsItemsView p d
section
variable {X : Cx} {kk : Nat}
/-- what is known of a tracked dict: its entries -/
theorem dk_es {pins : List (Addr × Obj)} {σ : L2.St} {H : Hp} {s : Shared} {a : Addr} {kv : List (Key × V)} (I : Inv X pins σ H s) (ha : H a = some (.dK kv)) :
    kv.length ≤ sizeLine ∧ (a == sysModules) = false ∧ ∃ (es : Array DictEntry) (ep : Nat), s.heap.DictRaw a es ep ∧ es.size = kv.length ∧ (∃ vs, s.heap.DictOf (mixKind X.prog X.w) a vs) ∧
      ∀ i (hi : i < es.size) k v, kv[i]? = some (k, v) → RelV (kV k) es[i].key ∧ RelV v es[i].val := by
  obtain ⟨z, hd, vs, rel, dd⟩ := dk_of I.hok ha
  obtain ⟨es, ep, raw, hsz, hent⟩ := dd.raw
  have hl : kv.length = vs.length := Paired.length rel
  refine ⟨z, hd, es, ep, raw, by rw [hsz, hl], ⟨vs, dd⟩, fun i hi k v hk => ?_⟩
  obtain ⟨u, hu, ru⟩ := kv_get rel hk
  obtain ⟨h1, h2⟩ := hent i hi k u hu
  exact ⟨relV_key h1, by rw [h2]; exact ru⟩
def rVals : V → List V → Hp → VK → Prop := fun x xs H Q => ∃ a kv, x = .ref a ∧ xs = [] ∧ H a = some (.dK kv) ∧ ∀ p, H p = none → Q (.ref p) (upd H p (valsO p a))
theorem mt_vals : MtR X "dict.values" rVals := by
  intro pins s σ H x xs v us Q I rx rxs h
  obtain ⟨a, kv, rfl, rfl, ha, q⟩ := h
  obtain rfl : v = Value.ref a := rx
  cases rxs
  obtain ⟨z, hd, es, ep, raw, _, ⟨vs, dd⟩, _⟩ := dk_es I ha
  refine call_meetsIn PySem.F.slot_dict_values dd.typeIs PySem.F.entry_dict_values (PySem.F.args_dict_values_1 _) (meets_dict_values (mixKind X.prog X.w) a hd) ⟨⟨vs, dd⟩, ?_⟩
  have hf := I.hok.fresh (Nat.le_refl s.heap.objs.size)
  have ok : ObjOk X.prog X.w (upd H s.heap.objs.size (valsO s.heap.objs.size a)) (s.heap.push { cls := .type "dict_values", data := .fields #[.ref a] }) s.heap.objs.size (valsO s.heap.objs.size a) :=
    ⟨⟨_, Heap.get?_push_size _ rfl, rfl, rfl⟩, ⟨_, Heap.get?_push_size _ rfl⟩, fun h1 h2 x k => let ⟨o, ho, r⟩ := x; ⟨o, k o ho, r⟩⟩
  exact ⟨.ref s.heap.objs.size, _, I.laid (t' := s.toks) (fun b u e => Heap.get?_push_of_some _ e) (Nat.le_refl _) ok, rfl, q _ hf⟩
theorem mt_itms : MtR X "dict.items" (fun x xs H Q => ∃ a kv, x = .ref a ∧ xs = [] ∧ H a = some (.dK kv) ∧ ∀ p, H p = none → Q (.ref p) (upd H p (itmsO p a))) := by
  intro pins s σ H x xs v us Q I rx rxs h
  obtain ⟨a, kv, rfl, rfl, ha, q⟩ := h
  obtain rfl : v = Value.ref a := rx
  cases rxs
  obtain ⟨z, hd, es, ep, raw, _, _, _⟩ := dk_es I ha
  refine DT.callItems (es := es) (ep := ep) hd raw ?_
  have hf := I.hok.fresh (Nat.le_refl s.heap.objs.size)
  have ok : ObjOk X.prog X.w (upd H s.heap.objs.size (itmsO s.heap.objs.size a)) (s.heap.push { cls := .type "dict_items", data := .fields #[.ref a] }) s.heap.objs.size (itmsO s.heap.objs.size a) :=
    ⟨⟨_, Heap.get?_push_size _ rfl, rfl, rfl⟩, ⟨_, Heap.get?_push_size _ rfl⟩, fun h1 h2 x k => let ⟨o, ho, r⟩ := x; ⟨o, k o ho, r⟩⟩
  exact ⟨.ref s.heap.objs.size, _, I.laid (t' := s.toks) (fun b u e => Heap.get?_push_of_some _ e) (Nat.le_refl _) ok, rfl, q _ hf⟩
theorem vals_by : ∀ {vs : List V} {us : List Value}, vs.length = us.length → (∀ (i : Nat) (v : V) (u : Value), vs[i]? = some v → us[i]? = some u → RelV v u) → Vals vs us
  | [], [], _, _ => .nil
  | v :: vs, u :: us, h, r => .cons (r 0 v u rfl rfl) (vals_by (Nat.succ.inj h) fun i v u h1 h2 => r (i + 1) v u h1 h2)
/-- list(view of the values) -/
theorem cr_listV (k : Cok X kk) : CallR X (.type "list") (fun vs H Q => ∃ p a kv, vs = [.ref p] ∧ H p = some (valsO p a) ∧ H a = some (.dK kv) ∧ ∀ l, H l = none → Q (.ref l) (upd H l (.lst (kv.map (·.2))))) := by
  intro pins s σ H xs us Q I r h
  obtain ⟨p, a, kv, rfl, hp, ha, q⟩ := h
  obtain rfl := Vals.ref1 r
  have view : s.heap.IsValuesView p a := (show ObjOk X.prog X.w H s.heap p (valsO p a) from I.hok p _ hp).1
  obtain ⟨z, hd, es, ep, raw, hsz, _, hent⟩ := dk_es I ha
  refine PySem.W.kdl_call (KdlSrc.rawValues (es := es) (ep := ep)) (I.ok.hd k.calm) ⟨view, raw⟩ (by omega) fun h' tk acc c keep hS items => ?_
  have hn : H s.heap.objs.size = none := I.hok.fresh (Nat.le_refl _)
  have rv : Vals (kv.map (·.2)) acc.toList := by
    refine vals_by (by rw [List.length_map]; have h1 := items.1; have h2 : acc.toList.length = acc.size := Array.length_toList; omega) fun i v u h1 h2 => ?_
    rw [List.getElem?_map] at h1
    cases hk : kv[i]? with
    | none => rw [hk] at h1; cases h1
    | some y =>
      rw [hk] at h1
      obtain rfl : y.2 = v := Option.some.inj h1
      obtain ⟨hi, e⟩ := items.2 i u (by rw [← h2, Array.getElem?_toList])
      rw [e]
      exact (hent i hi y.1 y.2 hk).2
  refine ⟨.ref s.heap.objs.size, _, I.laid (t' := tk) keep (Nat.le_refl _) (show ObjOk X.prog X.w _ _ _ (.lst _) from ⟨by rw [List.length_map]; exact z, acc.toList, c, rv, by rw [Array.toArray_toList]; exact hS⟩), rfl, q _ hn⟩
theorem Grow.trans {Hs H Hs1 H1 Hs2 H2 : Hp} (a : Grow Hs H Hs1 H1) (b : Grow Hs1 H1 Hs2 H2) : Grow Hs H Hs2 H2 := by
  induction b with
  | refl => exact a
  | step _ hp ih => exact .step ih hp
/-- tuples that lie are taken, one by one -/
theorem take_tups {pins : List (Addr × Obj)} {σ : L2.St} {H : Hp} {s : Shared} {h' : Heap} {tk : Nat} (I0 : Inv X pins σ H s) : ∀ (L : List (Addr × List V × List D)) (Hs1 H1 : Hp), Inv X pins σ H1 { s with heap := h', toks := tk } → Ex Hs1 H1 → (L.map (·.1)).Nodup →
    (∀ z ∈ L, s.heap.objs.size ≤ z.1 ∧ H1 z.1 = none ∧ (∀ H2, ObjOk X.prog X.w H2 h' z.1 (.tup z.2.1)) ∧ RpA X.K Hs1 z.2.1 z.2.2) →
    ∃ Hs2 H2, Inv X pins σ H2 { s with heap := h', toks := tk } ∧ Ex Hs2 H2 ∧ Ex Hs1 Hs2 ∧ Grow Hs1 H1 Hs2 H2 ∧ ∀ z ∈ L, Rp X.K Hs2 (.ref z.1) (.tup z.2.2)
  | [], Hs1, H1, I1, e, _, _ => ⟨Hs1, H1, I1, e, Ex.refl _, .refl, fun z h => by cases h⟩
  | y :: L, Hs1, H1, I1, e, nd, all => by
    obtain ⟨y1, y2, y3, y4⟩ := all y List.mem_cons_self
    have I2 : Inv X pins σ (upd H1 y.1 (.tup y.2.1)) { s with heap := h', toks := tk } := I1.take (fun b ob _ q => q) (I0.fpOk y1 y2) (y3 _)
    rw [List.map_cons, List.nodup_cons] at nd
    have exn : Ex Hs1 (upd Hs1 y.1 (.tup y.2.1)) := Ex.new (e.none y2)
    obtain ⟨Hs2, H2, I3, e3, x3, g3, r3⟩ := take_tups I0 L (upd Hs1 y.1 (.tup y.2.1)) _ I2 e.both nd.2 fun z hz => by
      obtain ⟨z1, z2, z3, z4⟩ := all z (List.mem_cons_of_mem _ hz)
      have ne : z.1 ≠ y.1 := fun q => nd.1 (by rw [← q]; exact List.mem_map.mpr ⟨z, hz, rfl⟩)
      exact ⟨z1, by rw [upd_ne ne]; exact z2, z3, z4.mono exn⟩
    refine ⟨Hs2, H2, I3, e3, exn.trans x3, Grow.trans (.step .refl y2) g3, fun z hz => ?_⟩
    rcases List.mem_cons.mp hz with rfl | hz
    · exact .tup (SqT.of (x3 _ _ upd_same)) (y4.mono (exn.trans x3))
    · exact r3 z hz
theorem zip3 {as : List Addr} {kv : List (Key × V)} {m : Dk} {z : Addr × (Key × V) × (Key × D)} (h : z ∈ as.zip (kv.zip m)) : ∃ j : Nat, as[j]? = some z.1 ∧ kv[j]? = some z.2.1 ∧ m[j]? = some z.2.2 := by
  obtain ⟨j, hj⟩ := List.mem_iff_getElem?.mp h
  have h1 := List.getElem?_zip_eq_some.mp hj
  have h2 := List.getElem?_zip_eq_some.mp h1.2
  exact ⟨j, h1.1, h2.1, h2.2⟩
def rSortI (X : Cx) : List V → Hp → VK → Prop := fun vs H Q => ∃ p a kv Hs m, vs = [.ref p] ∧ H p = some (itmsO p a) ∧ H a = some (.dK kv) ∧ Ex Hs H ∧ RpK X.K Hs kv m ∧ SortOk (m.map pairD) ∧
  ∀ l us Hs' H', Grow Hs H Hs' H' → H' l = none → RpA X.K Hs' us ((m.map pairD).mergeSort leD) → Q (.ref l) (upd H' l (.lst us))
/-- sorted(view of the items) -/
theorem cr_sortI (k : Cok X kk) : CallR X (.builtin "sorted") (rSortI X) := by
  intro pins s σ H xs us Q I r h
  obtain ⟨p, a, kv, Hs, m, rfl, hp, ha, e, rk, ⟨so1, so2, so3, so4⟩, q⟩ := h
  obtain rfl := Vals.ref1 r
  have view : s.heap.IsItemsView p a := (show ObjOk X.prog X.w H s.heap p (itmsO p a) from I.hok p _ hp).1
  obtain ⟨z, hd, es, ep, raw, hsz, _, hent⟩ := dk_es I ha
  refine DT.sortedI (es := es) (ep := ep) (I.ok.hd k.calm) view raw (by omega) fun h' tk as hk hlt hl hG => ?_
  have lkm := rk.length
  have nd : as.Nodup := List.Pairwise.imp (fun h => Nat.ne_of_lt h) hG.rise
  have lT : (as.zip (kv.zip m)).length = as.length := by rw [List.length_zip, List.length_zip]; omega
  have fstT : (as.zip (kv.zip m)).map (·.1) = as := List.map_fst_zip (by rw [List.length_zip]; omega)
  have sndT : (as.zip (kv.zip m)).map (·.2.2) = m := by
    have h1 : (as.zip (kv.zip m)).map (·.2) = kv.zip m := List.map_snd_zip (by rw [List.length_zip]; omega)
    have h2 : (kv.zip m).map (·.2) = m := List.map_snd_zip (by omega)
    have h3 : ((as.zip (kv.zip m)).map (·.2)).map (·.2) = (as.zip (kv.zip m)).map (·.2.2) := List.map_map
    rw [← h3, h1, h2]
  generalize hT : as.zip (kv.zip m) = T at lT fstT sndT
  have inT : ∀ z ∈ T, ∃ j : Nat, as[j]? = some z.1 ∧ kv[j]? = some z.2.1 ∧ m[j]? = some z.2.2 := fun z hz => zip3 (by rw [hT]; exact hz)
  have I0 : Inv X pins σ H { s with heap := h', toks := tk } := I.kept (t' := tk) hk
  obtain ⟨Hs2, H2, I1, e2, x2, g2, r2⟩ := take_tups (h' := h') (tk := tk) I (T.map fun z => (z.1, [kV z.2.1.1, z.2.1.2], [keyD z.2.2.1, z.2.2.2])) Hs H I0 e (by rw [List.map_map]; exact fstT ▸ nd) fun y hy => by
    obtain ⟨z, hz, rfl⟩ := List.mem_map.mp hy
    obtain ⟨j, j1, j2, j3⟩ := inT z hz
    obtain ⟨en, he, hg⟩ := hG.pairs j z.1 j1
    have hb : s.heap.objs.size ≤ z.1 := Nat.le_of_lt (hG.above z.1 (List.mem_of_getElem? j1))
    obtain ⟨d, hd1, rd⟩ := rpk_get rk (show kv[j]? = some (z.2.1.1, z.2.1.2) from j2)
    have ed : z.2.2 = (z.2.1.1, d) := Option.some.inj (j3.symm.trans hd1)
    have hi := (Array.getElem?_eq_some_iff.mp he).1
    have hv := (Array.getElem?_eq_some_iff.mp he).2
    obtain ⟨k1, k2⟩ := hent j hi z.2.1.1 z.2.1.2 j2
    rw [hv] at k1 k2
    refine ⟨hb, I.hok.fresh hb, fun H2 => ⟨?_, [en.key, en.val], .cons k1 (.cons k2 .nil), ⟨_, hg, rfl, 0, rfl⟩⟩, ?_⟩
    · show 2 ≤ sizeLine
      rw [sizeLine_eq]; omega
    · rw [ed]; exact .cons (key_rp _) (.cons rd .nil)
  have rp : ∀ z ∈ T, Rp X.K Hs2 (.ref z.1) (pairD z.2.2) := fun z hz => r2 _ (List.mem_map.mpr ⟨z, hz, rfl⟩)
  have mpy : T.map (fun z => (pairD z.2.2).py) = (m.map pairD).map D.py := by rw [← sndT, List.map_map, List.map_map]; rfl
  have memP : ∀ z ∈ T, pairD z.2.2 ∈ m.map pairD := fun z hz => by
    obtain ⟨j, _, _, j3⟩ := inT z hz
    exact List.mem_map.mpr ⟨_, List.mem_of_getElem? j3, rfl⟩
  have hob : (h'.push { cls := .type "list", data := .seq (as.map Value.ref).toArray }).get? h'.objs.size = some (seqObj "list" (as.map Value.ref).toArray 0) := Heap.get?_push_size _ rfl
  have kp : ∀ b o, h'.get? b = some o → (h'.push { cls := .type "list", data := .seq (as.map Value.ref).toArray }).get? b = some o := fun b o q => Heap.get?_push_of_some _ q
  have eR : ∀ (as : List Addr) (T : List (Addr × (Key × V) × (Key × D))), T.map (·.1) = as → EachIs (fun (v : Value) (z : Addr × (Key × V) × (Key × D)) => v = .ref z.1) (as.map Value.ref) T := fun as T h => by
    subst h
    induction T with
    | nil => exact .nil
    | cons z T ih => exact .cons rfl ih
  have eRd : ∀ (vs : List Value) (T : List (Addr × (Key × V) × (Key × D))), EachIs (fun (v : Value) (z : Addr × (Key × V) × (Key × D)) => v = .ref z.1) vs T → (∀ z ∈ T, Rp X.K Hs2 (.ref z.1) (pairD z.2.2) ∧ (pairD z.2.2).flat = true) →
      EachIs (fun (v : Value) (z : Addr × (Key × V) × (Key × D)) => ∃ bs, Reads (h'.push { cls := .type "list", data := .seq (as.map Value.ref).toArray }) v (pairD z.2.2).py bs ∧ h'.objs.size ∉ bs) vs T := fun vs T h hz => by
    induction h with
    | nil => exact .nil
    | cons r t ih =>
      subst r
      refine .cons ?_ (ih fun z h => hz z (List.mem_cons_of_mem _ h))
      obtain ⟨r1, r2⟩ := hz _ List.mem_cons_self
      obtain ⟨bs, rd⟩ := Dp.reads I1 _ _ _ ((r1.mono e2).dp r2) rfl
      exact ⟨bs, PyProof.Rows.Reads.keeps kp rd, fun h => Nat.lt_irrefl _ (reads_lt rd _ h)⟩
  have eT := eR as T fstT
  refine PySem.W.list_sort_data (R := fun (v : Value) (z : Addr × (Key × V) × (Key × D)) => v = .ref z.1) (enc := fun z => (pairD z.2.2).py) (bs := T) hob eT (eRd _ T eT fun z hz => ⟨rp z hz, (so2 _ (memP z hz)).1⟩)
    (by rw [mpy]; exact so3) (by rw [mpy]; exact so4) (by omega) (fun z hz => ?_) fun out hlen eo => ?_
  · have := (so2 _ (memP z hz)).2
    have := k.room.un
    show X.A.units + 1 + 1 + _ < cLine
    omega
  have kS : ∀ b o, h'.get? b = some o → (sortedHeap (h'.push { cls := .type "list", data := .seq (as.map Value.ref).toArray }) h'.objs.size (as.map Value.ref) out.toArray).get? b = some o := fun b o q =>
    (sortedHeap_old (Nat.ne_of_lt (Heap.lt_size q)) (Heap.lt_size (kp b o q))).trans (kp b o q)
  obtain ⟨eF, heF⟩ := sortedHeap_at (vs := as.map Value.ref) (out := out.toArray) hob
  have I2 : Inv X pins σ H2 { s with heap := sortedHeap (h'.push { cls := .type "list", data := .seq (as.map Value.ref).toArray }) h'.objs.size (as.map Value.ref) out.toArray, toks := tk } := I1.kept (t' := tk) kS
  have hn2 : H2 h'.objs.size = none := I1.hok.fresh (Nat.le_refl _)
  have vo : ∀ (out : List Value) (T : List (Addr × (Key × V) × (Key × D))), EachIs (fun (v : Value) (z : Addr × (Key × V) × (Key × D)) => v = .ref z.1) out T → Vals (T.map fun z => V.ref z.1) out := fun out T h => by
    induction h with
    | nil => exact .nil
    | cons r t ih => exact .cons r ih
  have lo : (T.mergeSort (PySem.W.dataLe false fun z => (pairD z.2.2).py)).length = T.length := List.length_mergeSort _
  have I3 := I2.take (h' := sortedHeap (h'.push { cls := .type "list", data := .seq (as.map Value.ref).toArray }) h'.objs.size (as.map Value.ref) out.toArray) (t' := tk) (it := h'.objs.size) (o := .lst ((T.mergeSort (PySem.W.dataLe false fun z => (pairD z.2.2).py)).map fun z => V.ref z.1)) (fun b ob _ q => q) (I.fpOk (Nat.le_of_lt hlt) hn2)
    ⟨by rw [List.length_map, lo]; omega, out, eF, vo _ _ eo, heF⟩
  refine ⟨.ref h'.objs.size, _, I3, rfl, q _ _ Hs2 H2 g2 hn2 ?_⟩
  have ms : (m.map pairD).mergeSort leD = (T.mergeSort (PySem.W.dataLe false fun z => (pairD z.2.2).py)).map (fun z => pairD z.2.2) := by
    have h1 := List.map_mergeSort (r := PySem.W.dataLe false fun z : Addr × (Key × V) × (Key × D) => (pairD z.2.2).py) (s := leD) (f := fun z => pairD z.2.2) (l := T) (fun _ _ _ _ => rfl)
    rw [h1, ← sndT, List.map_map]; rfl
  rw [ms]
  have un := rpa_unzip (K := X.K) (H := Hs2) (ps := (T.mergeSort (PySem.W.dataLe false fun z => (pairD z.2.2).py)).map fun z => (V.ref z.1, pairD z.2.2)) fun y hy => by
    obtain ⟨z, hz, rfl⟩ := List.mem_map.mp hy
    exact rp z ((List.mergeSort_perm _ _).mem_iff.mp hz)
  rw [List.map_map, List.map_map] at un
  exact un
end
end DL
/-! DL15: the same for expressions; dict([..]); a comprehension over name.items(). -/
namespace DL
open PySem PySem.Spec PyProof.Rows L2
section
variable {X : Cx} {B : Base} {Γ : Ga} {a b c e elt : Expr} {elts ifs : List Expr} {scope : Scope} {sts : List Stmt} {pos p p2 apos cpos : Pos} {P : Post} {Φ : Ga → RV → Prop} {kk : Nat}
theorem ty_dict {K : PySem.W.Frag} {H : Hp} {q : Addr} {vs : List (Key × V)} (h : H q = some (.dK vs)) : tyV K "dict" (.ref q) H := .inr (.inr (.inl ⟨rfl, .inl ⟨vs, h⟩⟩))
/-- list(name.values()) -/
theorem w_listVals {x : Str} (i : Nat) {m : Dk} (kc : Cok X kk) (h0 : X.mg "list" = none) (hi : Γ[i]? = some (.m m)) (h : Φ Γ (.n (m.map (·.2)))) (hg : Gl X "list" := by rfl)
    (hN : X.N[i]? = some x := by rfl) (hv : Vis X.env.scope x := by first | exact Or.inl rfl | exact Or.inr (Or.inl rfl) | exact Or.inr (Or.inr rfl)) (hd : (x == ("__debug__" : Str)) = false := by decide) (hcd : (x == ("__classdict__" : Str)) = false := by decide)
    (hbase : attributeBase (.Name x p2) "values" X.env (eval (.Name x p2) X.env) = eval (.Name x p2) X.env := by rfl) (hline : (apos.endLine == cpos.line) = true := by rfl)
    (he : starEach [.Call (.Attribute (.Name x p2) "values" apos) [] [] cpos] X.env = (false, eval (.Call (.Attribute (.Name x p2) "values" apos) [] [] cpos) X.env) :: starEach [] X.env := by rfl) (hpl : (backTo pos (starEach [] X.env)).any (·.1) = false := by rfl) :
    WE X B Γ (.Call (.Name "list" p) [.Call (.Attribute (.Name x p2) "values" apos) [] [] cpos] [] pos) Φ :=
  PE.mono (pe_callTy (cr_listV kc) hg h0 boot_list (pa_cons (pe_bm0 PySem.F.plainAttrs_dict PySem.F.slot_dict_values PySem.F.type_dict_values mt_vals (pe_var hN hv hd hcd) hbase hline) pa_nil he) (by decide) (by decide) he hpl) fun σ H Q ⟨Hs, E, q⟩ => by
    obtain ⟨t, vs, e1, _, hp, ra⟩ := E.slot_m hi
    refine ⟨_, e1, ty_dict hp, t, vs, rfl, rfl, hp, fun l hl => ?_⟩
    obtain ⟨E2, f⟩ := E.newp (o := valsO l t) hl
    have ne : t ≠ l := fun z => by subst z; rw [hp] at hl; cases hl
    refine ⟨l, t, vs, rfl, upd_same, by rw [upd_ne ne]; exact hp, fun l2 hl2 => ?_⟩
    obtain ⟨E3, f3⟩ := E2.newp (o := .lst (vs.map (·.2))) hl2
    exact q _ _ Hs Γ (.n _) (Ex.refl _) E3 ⟨l2, _, rfl, upd_same, rpk_vals ra, f3⟩ h
/-- sorted(name.items()) -/
theorem w_sortItems {x : Str} (i : Nat) {m : Dk} (kc : Cok X kk) (h0 : X.mg "sorted" = none) (hi : Γ[i]? = some (.m m)) (so : SortOk (m.map pairD)) (h : Φ Γ (.n ((m.map pairD).mergeSort leD))) (hbt : bootBuiltins "sorted" = some (.builtin "sorted")) (hg : Gl X "sorted" := by rfl)
    (hN : X.N[i]? = some x := by rfl) (hv : Vis X.env.scope x := by first | exact Or.inl rfl | exact Or.inr (Or.inl rfl) | exact Or.inr (Or.inr rfl)) (hd : (x == ("__debug__" : Str)) = false := by decide) (hcd : (x == ("__classdict__" : Str)) = false := by decide)
    (hbase : attributeBase (.Name x p2) "items" X.env (eval (.Name x p2) X.env) = eval (.Name x p2) X.env := by rfl) (hline : (apos.endLine == cpos.line) = true := by rfl)
    (he : starEach [.Call (.Attribute (.Name x p2) "items" apos) [] [] cpos] X.env = (false, eval (.Call (.Attribute (.Name x p2) "items" apos) [] [] cpos) X.env) :: starEach [] X.env := by rfl) (hpl : (backTo pos (starEach [] X.env)).any (·.1) = false := by rfl) :
    WE X B Γ (.Call (.Name "sorted" p) [.Call (.Attribute (.Name x p2) "items" apos) [] [] cpos] [] pos) Φ :=
  PE.mono (pe_callB (cr_sortI kc) hg h0 hbt (pa_cons (pe_bm0 PySem.F.plainAttrs_dict PySem.F.slot_dict_items PySem.F.type_dict_items mt_itms (pe_var hN hv hd hcd) hbase hline) pa_nil he) (by decide) (by decide) he hpl) fun σ H Q ⟨Hs, E, q⟩ => by
    obtain ⟨t, vs, e1, _, hp, ra⟩ := E.slot_m hi
    refine ⟨_, e1, ty_dict hp, t, vs, rfl, rfl, hp, fun l hl => ?_⟩
    obtain ⟨E2, f⟩ := E.newp (o := itmsO l t) hl
    have ne : t ≠ l := fun z => by subst z; rw [hp] at hl; cases hl
    refine ⟨l, t, vs, Hs, m, rfl, upd_same, by rw [upd_ne ne]; exact hp, E2.e1, ra, so, fun l2 us Hs' H' g hl2 r => ?_⟩
    obtain ⟨E3, ex3⟩ := E2.grow g
    obtain ⟨E4, f4⟩ := E3.newp (o := .lst us) hl2
    exact q _ _ Hs' Γ (.n _) ex3 E4 ⟨l2, _, rfl, upd_same, r, f4⟩ h
/-! ### dict([(k, v), ..]) -/
def mergeD (m more : Dk) : Dk := more.foldl (fun acc kv => putD acc kv.1 kv.2) m
theorem rpk_merge {K : PySem.W.Frag} {Hs : Hp} : ∀ {vs : List (Key × V)} {m : Dk} {ws : List (Key × V)} {n : Dk}, RpK K Hs vs m → RpK K Hs ws n → RpK K Hs (mergeK ws vs) (mergeD n m)
  | _, _, _, _, .nil, r => r
  | _, _, _, _, .cons (x := x) (v := v) (vs := vs) (d := d) (ds := ds) h t, r => show RpK K Hs (mergeK (putK _ x v) vs) (mergeD (putD _ x d) ds) from rpk_merge t (rpk_put h r)
theorem pairs_rp {K : PySem.W.Frag} {Hs H : Hp} (ex : Ex Hs H) : ∀ {m : Dk} {vs : List V}, RpA K Hs vs (m.map pairD) → ∃ (ps : List Addr) (kvs : List (Key × V)), vs = ps.map V.ref ∧ RpK K Hs kvs m ∧ Paired (fun p kv => SqT K H p [kV kv.1, kv.2]) ps kvs
  | [], _, h => by cases h; exact ⟨[], [], rfl, .nil, .nil⟩
  | (k, d) :: m, _, h => by
    cases h with
    | cons h t =>
      obtain ⟨ps, kvs, rfl, r, pr⟩ := pairs_rp ex t
      have h : Rp K Hs _ (.tup [keyD k, d]) := h
      cases h with
      | tup hs ra =>
        cases ra with
        | cons r1 ra =>
          cases ra with
          | cons r2 ra =>
            cases ra
            obtain rfl := rp_key r1
            exact ⟨_ :: ps, (k, _) :: kvs, rfl, .cons r2 r, .cons (ex_t ex hs) pr⟩
theorem w_dictOf (kc : Cok X kk) (h0 : X.mg "dict" = none) (hbt : bootBuiltins "dict" = some (.type "dict")) (h : WF X B Γ e fun Γ1 r => ∃ m, r = .d (.lst (m.map pairD)) ∧ Φ Γ1 (.nm (mergeD [] m))) (hg : Gl X "dict" := by rfl)
    (he : starEach [e] X.env = (false, eval e X.env) :: starEach [] X.env := by rfl) (hpl : (backTo pos (starEach [] X.env)).any (·.1) = false := by rfl) : WE X B Γ (.Call (.Name "dict" p) [e] [] pos) Φ :=
  PE.mono (pe_callTy (call_dictP kc.calm) hg h0 hbt (pa_cons h pa_nil he) (by decide) (by decide) he hpl) fun σ H Q ⟨Hs, E, q⟩ => ⟨Hs, E, fun v H1 Hs1 Γ1 r ex E1 ok kp w => by
    obtain ⟨m, rfl, w⟩ := w
    have ok : Rp X.K Hs1 v (.lst (m.map pairD)) := ok
    cases ok with
    | lst hs ra =>
      obtain ⟨ps, kvs, rfl, rk, pr⟩ := pairs_rp E1.e1 ra
      refine ⟨_, ps, kvs, rfl, ex_l E1.e1 hs, pr, fun l hl => ?_⟩
      obtain ⟨E2, f⟩ := E1.newp (o := .dK (mergeK [] kvs)) hl
      exact q _ _ Hs1 Γ1 (.nm _) ex E2 ⟨l, _, rfl, upd_same, rpk_merge rk .nil, f⟩ w⟩
/-! ### a dict locked while it is walked -/
def del (H : Hp) (q : Addr) : Hp := fun a => if a = q then none else H a
theorem del_ne {H : Hp} {q a : Addr} (h : a ≠ q) : del H q a = H a := if_neg h
theorem del_same {H : Hp} {q : Addr} : del H q q = none := if_pos rfl
theorem sqt_del {K : PySem.W.Frag} {H : Hp} {q a : Addr} {o : Obj} {vs : List (Key × V)} {xs : List V} (hq : H q = some (.frz o (.dK vs))) (h : SqT K H a xs) : SqT K (del H q) a xs := by
  rcases h with (h | ⟨ob, h⟩) | h
  · have ne : a ≠ q := fun z => by subst z; rw [hq] at h; cases h
    exact .inl (.inl (by rw [del_ne ne]; exact h))
  · have ne : a ≠ q := fun z => by subst z; rw [hq] at h; cases h
    exact .inl (.inr ⟨ob, by rw [del_ne ne]; exact h⟩)
  · exact .inr h
theorem sql_del {K : PySem.W.Frag} {H : Hp} {q a : Addr} {o : Obj} {vs : List (Key × V)} {xs : List V} (hq : H q = some (.frz o (.dK vs))) (h : SqL K H a xs) : SqL K (del H q) a xs := by
  rcases h with (h | ⟨ob, h⟩) | h
  · have ne : a ≠ q := fun z => by subst z; rw [hq] at h; cases h
    exact .inl (.inl (by rw [del_ne ne]; exact h))
  · have ne : a ≠ q := fun z => by subst z; rw [hq] at h; cases h
    exact .inl (.inr ⟨ob, by rw [del_ne ne]; exact h⟩)
  · exact .inr h
section
variable {K : PySem.W.Frag} {H : Hp} {q : Addr} {o : Obj} {ws : List (Key × V)}
mutual
theorem Rp.del (hq : H q = some (.frz o (.dK ws))) : ∀ {v : V} {d : D}, Rp K H v d → Rp K (DL.del H q) v d
  | _, _, .non => .non
  | _, _, .bl b => .bl b
  | _, _, .int i => .int i
  | _, _, .str x => .str x
  | _, _, .ty n => .ty n
  | _, _, .obj a => .obj a
  | _, _, .tup h r => .tup (sqt_del hq h) (RpA.del hq r)
  | _, _, .lst h r => .lst (sql_del hq h) (RpA.del hq r)
  | _, _, .ins (a := a) h r => .ins (by
    have ne : a ≠ q := fun z => by subst z; rw [hq] at h; cases h
    rw [del_ne ne]; exact h) (RpF.del hq r)
theorem RpA.del (hq : H q = some (.frz o (.dK ws))) : ∀ {vs : List V} {ds : List D}, RpA K H vs ds → RpA K (DL.del H q) vs ds
  | _, _, .nil => .nil
  | _, _, .cons h r => .cons (Rp.del hq h) (RpA.del hq r)
theorem RpF.del (hq : H q = some (.frz o (.dK ws))) : ∀ {vs : List (Str × V)} {ds : List (Str × D)}, RpF K H vs ds → RpF K (DL.del H q) vs ds
  | _, _, .nil => .nil
  | _, _, .cons h r => .cons (Rp.del hq h) (RpF.del hq r)
end
theorem RpK.del (hq : H q = some (.frz o (.dK ws))) : ∀ {vs : List (Key × V)} {ds : Dk}, RpK K H vs ds → RpK K (DL.del H q) vs ds
  | _, _, .nil => .nil
  | _, _, .cons h r => .cons (Rp.del hq h) (RpK.del hq r)
end
/-- locked: it is stable, its slot is not told -/
theorem Env.lock {K : PySem.W.Frag} {Hs H : Hp} {σ : L2.St} {i : Nat} {m : Dk} {q : Addr} {ws : List (Key × V)} (E : Env K B Hs H σ Γ) (hi : Γ[i]? = some (.m m)) (hq : σ[i]? = some (some (.ref q))) (o : Obj) :
    Env K B (upd Hs q (.frz o (.dK ws))) (upd H q (.frz o (.dK ws))) σ (Γ.set i .no) := by
  have wi : owns (σ[i]?.getD none) q (.m m) := by rw [hq]; rfl
  have fq := E.own i _ q hi wi
  have sq := (E.slot i _ hi).there wi
  have hl : i < Γ.length := (List.getElem?_eq_some_iff.mp hi).1
  have gt : ∀ (j : Nat) (t : SD), (Γ.set i .no)[j]? = some t → t = .no ∨ (j ≠ i ∧ Γ[j]? = some t) := fun j t h => by
    rw [List.getElem?_set] at h
    by_cases z : i = j
    · subst z; rw [if_pos rfl, if_pos hl] at h; cases h; exact .inl rfl
    · rw [if_neg z] at h; exact .inr ⟨fun y => z y.symm, h⟩
  refine ⟨by rw [List.length_set, E.len], E.e0.trans (Ex.new sq.1), E.e1.both, fun a u h => ?_, fun a h0 h => ?_, fun j t h => ?_, fun j t y h w => ?_, fun j k t u y hjk h1 h2 w1 w2 => ?_⟩
  · have ne : a ≠ q := fun z => by subst z; rw [fq] at h; cases h
    rw [upd_ne ne]; exact E.fr a u h
  · by_cases z : a = q
    · subst z; exact fq
    · rw [upd_ne z] at h; exact E.nw a h0 h
  · rcases gt j t h with rfl | ⟨ne, h⟩
    · trivial
    · have nq : ∀ y, owns (σ[j]?.getD none) y t → y ≠ q := fun y w z => by subst z; exact E.apart j i t _ y ne h hi w wi
      exact (E.slot j t h).mono (Ex.new sq.1) (fun y u w hy => by rw [upd_ne (nq y w)]; exact hy) fun y w hy => by rw [upd_ne (nq y w)]; exact hy
  · rcases gt j t h with rfl | ⟨_, h⟩
    · exact w.elim
    · exact E.own j t y h w
  · rcases gt j t h1 with rfl | ⟨_, g1⟩
    · exact w1.elim
    · rcases gt k u h2 with rfl | ⟨_, g2⟩
      · exact w2.elim
      · exact E.apart j k t u y hjk g1 g2 w1 w2
theorem SlotOk.del {K : PySem.W.Frag} {Hs H : Hp} {q : Addr} {o : Obj} {ws : List (Key × V)} {v : Option V} {s : SD} (hq : Hs q = some (.frz o (.dK ws))) (h : SlotOk K Hs H v s) : SlotOk K (DL.del Hs q) (upd H q (.dK ws)) v s := by
  cases s with
  | no => trivial
  | d x => obtain ⟨u, e, r⟩ := h; exact ⟨u, e, r.del hq⟩
  | l oo xs =>
    obtain ⟨p, vs, e, z, hn, hp, r⟩ := h
    have ne : p ≠ q := fun y => by subst y; rw [hq] at hn; cases hn
    exact ⟨p, vs, e, z, by rw [del_ne ne]; exact hn, by rw [upd_ne ne]; exact hp, r.del hq⟩
  | m kvs =>
    obtain ⟨p, vs, e, hn, hp, r⟩ := h
    have ne : p ≠ q := fun y => by subst y; rw [hq] at hn; cases hn
    exact ⟨p, vs, e, by rw [del_ne ne]; exact hn, by rw [upd_ne ne]; exact hp, r.del hq⟩
theorem Env.unlock {K : PySem.W.Frag} {Hs H : Hp} {σ : L2.St} {i : Nat} {m : Dk} {q : Addr} {o : Obj} {ws : List (Key × V)} (E : Env K B Hs H σ Γ) (hi : Γ[i]? = some .no) (hq : σ[i]? = some (some (.ref q))) (fq : B.F q = none) (h0 : B.H0 q = none) (sq : Hs q = some (.frz o (.dK ws))) (r : RpK K Hs ws m) :
    Env K B (DL.del Hs q) (upd H q (.dK ws)) σ (Γ.set i (.m m)) := by
  have hl : i < Γ.length := (List.getElem?_eq_some_iff.mp hi).1
  have gt : ∀ (j : Nat) (t : SD), (Γ.set i (.m m))[j]? = some t → (j = i ∧ t = .m m) ∨ (j ≠ i ∧ Γ[j]? = some t) := fun j t h => by
    rw [List.getElem?_set] at h
    by_cases z : i = j
    · subst z; rw [if_pos rfl, if_pos hl] at h; cases h; exact .inl ⟨rfl, rfl⟩
    · rw [if_neg z] at h; exact .inr ⟨fun y => z y.symm, h⟩
  have gq : σ[i]?.getD none = some (.ref q) := by rw [hq]; rfl
  have nq : ∀ (j : Nat) (t : SD) (y : Addr), Γ[j]? = some t → owns (σ[j]?.getD none) y t → y ≠ q := fun j t y h w z => by
    subst z
    have := ((E.slot j t h).there w).1
    rw [sq] at this; cases this
  refine ⟨by rw [List.length_set, E.len], fun a u h => ?_, fun a u h => ?_, fun a u h => ?_, fun a h0' h => ?_, fun j t h => ?_, fun j t y h w => ?_, fun j k t u y hjk h1 h2 w1 w2 => ?_⟩
  · have ne : a ≠ q := fun z => by subst z; rw [h0] at h; cases h
    rw [del_ne ne]; exact E.e0 a u h
  · by_cases z : a = q
    · subst z; rw [del_same] at h; cases h
    · rw [del_ne z] at h; rw [upd_ne z]; exact E.e1 a u h
  · have ne : a ≠ q := fun z => by subst z; rw [fq] at h; cases h
    rw [upd_ne ne]; exact E.fr a u h
  · by_cases z : a = q
    · subst z; exact fq
    · rw [del_ne z] at h; exact E.nw a h0' h
  · rcases gt j t h with ⟨rfl, rfl⟩ | ⟨ne, h⟩
    · exact ⟨q, ws, gq, del_same, upd_same, r.del sq⟩
    · exact (E.slot j t h).del sq
  · rcases gt j t h with ⟨rfl, rfl⟩ | ⟨ne, h⟩
    · have w : σ[j]?.getD none = some (.ref y) := w
      rw [gq] at w; cases w; exact fq
    · exact E.own j t y h w
  · rcases gt j t h1 with ⟨rfl, rfl⟩ | ⟨n1, g1⟩
    · have w1 : σ[j]?.getD none = some (.ref y) := w1
      rw [gq] at w1; cases w1
      rcases gt k u h2 with ⟨rfl, rfl⟩ | ⟨n2, g2⟩
      · exact hjk rfl
      · exact nq k u q g2 w2 rfl
    · rcases gt k u h2 with ⟨rfl, rfl⟩ | ⟨n2, g2⟩
      · have w2 : σ[k]?.getD none = some (.ref y) := w2
        rw [gq] at w2; cases w2
        exact nq j t q g1 w1 rfl
      · exact E.apart j k t u y hjk g1 g2 w1 w2
theorem wk_items {K : PySem.W.Frag} {Hs : Hp} {q : Addr} {o : Obj} {ws : List (Key × V)} {m : Dk} (hq : Hs q = some (.frz o (.dK ws))) (r : RpK K Hs ws m) : Wk K Hs (Iti q o ws) (m.map pairD) := fun Hs2 H2 e1 e2 => by
  have h2 := e2 _ _ (e1 _ _ hq)
  rw [List.length_map, ← r.length]
  refine ⟨fun i hi => ⟨h2, hi⟩, ⟨h2, Nat.le_refl _⟩, fun i x H3 hi y => ?_⟩
  obtain ⟨T, k, v, hk, rfl, hT, rfl⟩ := y
  obtain ⟨d, hd, rd⟩ := rpk_get r hk
  refine ⟨upd Hs2 T (.tup [kV k, v]), pairD (k, d), .step .refl hT, by rw [List.getElem?_map, hd]; rfl, .tup (SqT.of upd_same) ?_⟩
  exact .cons (key_rp k) (.cons (rd.mono (e1.trans (Ex.new (e2.none hT)))) .nil)
theorem wipeG_get {Δ : Ga} {j : Nat} : ∀ {l : List Nat}, j ∉ l → (wipeG Δ l)[j]? = Δ[j]?
  | [], _ => rfl
  | v :: l, hj => by
    unfold wipeG
    rw [List.getElem?_set, if_neg fun z => hj (by rw [z]; exact List.mem_cons_self), wipeG_get fun z => hj (List.mem_cons_of_mem _ z)]
/-- [elt for .. in name.items() if ..] -/
theorem w_lcItems {x : Str} (i : Nat) {m : Dk} {own : List (Str × Nat)} {tk : Nat} {tpos : Pos} (f : D → List D) (kc : Cok X kk) (ok : BlkOk X.N X.env.scope scope own) (hi : Γ[i]? = some (.m m)) (hio : i ∉ own.map (·.2))
    (h : LcOver X B scope (.Tuple elts tk tpos) elt ifs (own.map (·.2)) f (fun Γ2 ds => Φ (Γ2.set i (.m m)) (.n (ds.flatMap f))) (Γ.set i .no) (m.map pairD))
    (hN : X.N[i]? = some x := by rfl) (hv : Vis X.env.scope x := by first | exact Or.inl rfl | exact Or.inr (Or.inl rfl) | exact Or.inr (Or.inr rfl)) (hd : (x == ("__debug__" : Str)) = false := by decide) (hcd : (x == ("__classdict__" : Str)) = false := by decide)
    (hbase : attributeBase (.Name x p2) "items" X.env (eval (.Name x p2) X.env) = eval (.Name x p2) X.env := by rfl) (hline : (apos.endLine == cpos.line) = true := by rfl)
    (hs : ∀ y, foldedSetIterable (.Call (.Attribute (.Name x p2) "items" apos) [] [] cpos) X.env y = pure y := by intro _; rfl) :
    WE X B Γ (.ListComp elt [⟨.Tuple elts tk tpos, .Call (.Attribute (.Name x p2) "items" apos) [] [] cpos, ifs, 0⟩] scope pos) Φ := by
  refine PE.mono (pe_lock (pe_lc kc.calm kc.nd (pi_items (pe_var hN hv hd hcd) hbase hline) ok (fun _ _ _ _ _ => pg_u) (fun _ _ _ _ _ => pts_u) (fun _ _ _ _ _ => pe_u) hs)) fun σ H Q ⟨Hs, E, q⟩ => ?_
  obtain ⟨t, vs, e1, hn, hp, ra⟩ := E.slot_m hi
  refine ⟨t, .dK vs, hp, trivial, fun od => ?_⟩
  have E1 := E.lock (ws := vs) hi e1 od
  have exl : Ex Hs (upd Hs t (.frz od (.dK vs))) := Ex.new hn
  have wi : owns (σ[i]?.getD none) t (.m m) := by rw [e1]; rfl
  have fq := E.own i _ t hi wi
  have h0 := E.e0.none hn
  have lc := lc_map (X := X) (B := B) (scope := scope) (tg := .Tuple elts tk tpos) (elt := elt) (ifs := ifs) (own := own.map (·.2)) (f := f) (Γ1 := Γ.set i .no) (ds := m.map pairD) (Ω := fun Γ2 xs => Γ2 = wipeG (Γ.set i .no) (own.map (·.2)) ∧ Φ (Γ2.set i (.m m)) (.n xs)) h.1 h.2.1 ⟨rfl, h.2.2⟩
  refine lc_read (wi := iItems (tVar i)) σ _ _ E1 (fun R hR => ⟨_, e1, t, od, vs, rfl, upd_same, hR _ _ _ _ _ (Ex.refl _) E1 (wk_items upd_same (ra.mono exl)) lc⟩) fun v H2 Hs2 Γ2 xs ex2 E2 okv ⟨Γ3, eg, w⟩ => ?_
  have sq2 : Hs2 t = some (.frz od (.dK vs)) := ex2 _ _ upd_same
  have hi2 : Γ2[i]? = some .no := by
    have hl := (List.getElem?_eq_some_iff.mp hi).1
    rw [eg, w.1, wipeG_get hio, List.getElem?_set, if_pos rfl, if_pos hl]
  have E3 := E2.unlock (m := m) hi2 e1 fq h0 sq2 (ra.mono (exl.trans ex2))
  subst eg
  refine ⟨E2.e1 _ _ sq2, q v _ (del Hs2 t) _ (.n xs) (fun a u ha => ?_) E3 ?_ w.2⟩
  · have ne : a ≠ t := fun z => by subst z; rw [hn] at ha; cases ha
    rw [del_ne ne]; exact ex2 a u (by rw [upd_ne ne]; exact ha)
  · obtain ⟨l, us, rfl, hl, ru, f1, f2, f3⟩ := okv
    have ne : l ≠ t := fun z => by subst z; rw [sq2] at f1; cases f1
    refine ⟨l, us, rfl, by rw [upd_ne ne]; exact hl, ru.del sq2, by rw [del_ne ne]; exact f1, f2, fun j s hj wj => ?_⟩
    rw [List.getElem?_set] at hj
    by_cases z : i = j
    · subst z
      have wj' : owns (some (V.ref t)) l s := by rw [e1] at wj; exact wj
      split at hj
      · split at hj
        · cases hj
          have wj' : some (V.ref t) = some (V.ref l) := wj'
          cases wj'; exact ne rfl
        · cases hj
      · exact absurd rfl ‹_›
    · rw [if_neg z] at hj; exact f3 j s hj wj
end
end DL
/-! DL16: joins. -/
namespace DL
open PySem PySem.Spec PyProof.Rows L2
section
variable {X : Cx} {B : Base} {Γ : Ga} {a b c e : Expr} {sts body els : List Stmt} {pos : Pos} {P P' : Post} {kk : Nat}
theorem we_mono {Φ Ψ : Ga → RV → Prop} (h : WE X B Γ e Ψ) (m : ∀ Γ r, Ψ Γ r → Φ Γ r) : WE X B Γ e Φ :=
  PE.mono h fun σ H Q ⟨Hs, E, q⟩ => ⟨Hs, E, fun v H' Hs' Γ' r ex E' ok w => q v H' Hs' Γ' r ex E' ok (m _ _ w)⟩
theorem wf_mono {Φ Ψ : Ga → RV → Prop} (h : WF X B Γ e Ψ) (m : ∀ Γ r, Ψ Γ r → Φ Γ r) : WF X B Γ e Φ := lc_map.wf_mono h m
theorem wt_mono {Φ Ψ : Ga → Bool → Prop} (h : WT X B Γ e Ψ) (m : ∀ Γ r, Ψ Γ r → Φ Γ r) : WT X B Γ e Φ :=
  PT.mono h fun σ H Q ⟨Hs, E, q⟩ => ⟨Hs, E, fun b H' Hs' Γ' ex E' w => q b H' Hs' Γ' ex E' (m _ _ w)⟩
theorem ws_mono (h : WS X B Γ sts P) (h1 : ∀ Γ, P.nx Γ → P'.nx Γ) (h2 : ∀ Γ r, P.rt Γ r → P'.rt Γ r) (h3 : ∀ Γ, P.bk Γ → P'.bk Γ) (h4 : ∀ Γ, P.ct Γ → P'.ct Γ) : WS X B Γ sts P' :=
  PSs.mono h fun D σ H ⟨Hs, E, q1, q2, q3, q4⟩ => ⟨Hs, E, fun a b c d e f g => q1 a b c d e f (h1 _ g), fun a a' b c d r e f i g => q2 a a' b c d r e f i (h2 _ _ g), fun a b c d e f g => q3 a b c d e f (h3 _ g), fun a b c d e f g => q4 a b c d e f (h4 _ g)⟩
/-- if: J holds behind it -/
theorem s_ifJ (J : Ga → Prop) (h : WT X B Γ c fun Γ1 k => if k = true then WS X B Γ1 body { P with nx := J } else WS X B Γ1 els { P with nx := J }) (hJ : ∀ Γ2, J Γ2 → WS X B Γ2 sts P) : WS X B Γ (.If c body els pos :: sts) P :=
  s_if (wt_mono h fun Γ1 k w => by
    cases k with
    | true => rw [if_pos rfl] at w ⊢; exact ws_mono w hJ (fun _ _ z => z) (fun _ z => z) fun _ z => z
    | false => rw [if_neg Bool.false_ne_true] at w ⊢; exact ws_mono w hJ (fun _ _ z => z) (fun _ z => z) fun _ z => z)
end
end DL
/-! DL17: from the head's data to the promises. -/
namespace DL
open PySem PySem.Spec PyProof.Rows L2
section
variable {K : PySem.W.Frag} {mg : Str → Option Value} {x q : Str} {st : Stmt} {f : Addr} {fd : FuncData}
theorem At.of (F : FunD K x q (defArgs st) (defBody st) (defScope st) [] [] f fd) (hm : mg x = some (.ref f)) : At K mg x q st .none f := by
  obtain ⟨⟨oc, od, dV, kV, doc, pm, an, cdv, ct, osl, e, lk, cd, dv, kw⟩, kp⟩ := F
  subst e
  rcases dv with ⟨_, e⟩ | ⟨h, _⟩
  · subst e; exact ⟨hm, kp, oc, od, kV, doc, pm, an, cdv, ct, osl, lk, cd⟩
  · exact absurd rfl h
theorem At.dfl {v : V} {vs : List V} (F : FunD K x q (defArgs st) (defBody st) (defScope st) (v :: vs) [] f fd) (hm : mg x = some (.ref f)) :
    ∃ (T : Addr) (o : Obj) (its : List Value) (m : Nat), At K mg x q st (.ref T) f ∧ K.lookup T = some o ∧ o.data = .seq its.toArray m ∧ Vals (v :: vs) its := by
  obtain ⟨⟨oc, od, dV, kV, doc, pm, an, cdv, ct, osl, e, lk, cd, dv, kw⟩, kp⟩ := F
  subst e
  rcases dv with ⟨h, _⟩ | ⟨_, T, o, its, m, e, h1, h2, h3⟩
  · cases h
  · subst e; exact ⟨T, o, its, m, ⟨hm, kp, oc, od, kV, doc, pm, an, cdv, ct, osl, lk, cd⟩, h1, h2, h3⟩
end
end DL
namespace K22
open PySem PySem.Spec PyProof.Rows L2 DL
def topS (i : Nat) : Stmt := PySem.Challenge.pw_arrivalmill_k22_whole_the_book_of_names.main.body.getD i (.Pass ⟨0, 0, 0, 0⟩)
abbrev s_is_integer : Stmt := topS 18
abbrev N_is_integer : List Str := ["value", "least", "most"]
abbrev p_is_integer : List Str := ["value", "least", "most"]
theorem sc_is_integer : FnScope N_is_integer p_is_integer (defScope s_is_integer) := ⟨rfl, rfl, rfl, by decide +kernel, rfl, by decide +kernel, by decide +kernel⟩
abbrev s_is_atom : Stmt := topS 19
abbrev N_is_atom : List Str := ["value", "sign"]
abbrev p_is_atom : List Str := ["value"]
theorem sc_is_atom : FnScope N_is_atom p_is_atom (defScope s_is_atom) := ⟨rfl, rfl, rfl, by decide +kernel, rfl, by decide +kernel, by decide +kernel⟩
abbrev s_is_path : Stmt := topS 20
abbrev N_is_path : List Str := ["value", "number"]
abbrev p_is_path : List Str := ["value"]
theorem sc_is_path : FnScope N_is_path p_is_path (defScope s_is_path) := ⟨rfl, rfl, rfl, by decide +kernel, rfl, by decide +kernel, by decide +kernel⟩
abbrev s_are_terms : Stmt := topS 21
abbrev N_are_terms : List Str := ["values", "value"]
abbrev p_are_terms : List Str := ["values"]
theorem sc_are_terms : FnScope N_are_terms p_are_terms (defScope s_are_terms) := ⟨rfl, rfl, rfl, by decide +kernel, rfl, by decide +kernel, by decide +kernel⟩
abbrev s_is_function : Stmt := topS 22
abbrev N_is_function : List Str := ["fields", "module", "name", "size", "edition", "held"]
abbrev p_is_function : List Str := ["fields"]
theorem sc_is_function : FnScope N_is_function p_is_function (defScope s_is_function) := ⟨rfl, rfl, rfl, by decide +kernel, rfl, by decide +kernel, by decide +kernel⟩
abbrev s_are_pairs : Stmt := topS 23
abbrev N_are_pairs : List Str := ["rows", "keys", "row", "one", "other"]
abbrev p_are_pairs : List Str := ["rows"]
theorem sc_are_pairs : FnScope N_are_pairs p_are_pairs (defScope s_are_pairs) := ⟨rfl, rfl, rfl, by decide +kernel, rfl, by decide +kernel, by decide +kernel⟩
abbrev s_is_some_list : Stmt := topS 24
abbrev N_is_some_list : List Str := ["value"]
abbrev p_is_some_list : List Str := ["value"]
theorem sc_is_some_list : FnScope N_is_some_list p_is_some_list (defScope s_is_some_list) := ⟨rfl, rfl, rfl, by decide +kernel, rfl, by decide +kernel, by decide +kernel⟩
abbrev s_is_built : Stmt := topS 25
abbrev N_is_built : List Str := ["head", "parts", "part"]
abbrev p_is_built : List Str := ["head", "parts"]
theorem sc_is_built : FnScope N_is_built p_is_built (defScope s_is_built) := ⟨rfl, rfl, rfl, by decide +kernel, rfl, by decide +kernel, by decide +kernel⟩
abbrev s_is_term : Stmt := topS 26
abbrev N_is_term : List Str := ["value"]
abbrev p_is_term : List Str := ["value"]
theorem sc_is_term : FnScope N_is_term p_is_term (defScope s_is_term) := ⟨rfl, rfl, rfl, by decide +kernel, rfl, by decide +kernel, by decide +kernel⟩
abbrev s_rank_of : Stmt := topS 27
abbrev N_rank_of : List Str := ["term"]
abbrev p_rank_of : List Str := ["term"]
theorem sc_rank_of : FnScope N_rank_of p_rank_of (defScope s_rank_of) := ⟨rfl, rfl, rfl, by decide +kernel, rfl, by decide +kernel, by decide +kernel⟩
abbrev s_cells_key : Stmt := topS 28
abbrev N_cells_key : List Str := ["term", "parts", "found", "part"]
abbrev p_cells_key : List Str := ["term"]
theorem sc_cells_key : FnScope N_cells_key p_cells_key (defScope s_cells_key) := ⟨rfl, rfl, rfl, by decide +kernel, rfl, by decide +kernel, by decide +kernel⟩
abbrev s_function_key : Stmt := topS 29
abbrev N_function_key : List Str := ["term", "head", "module", "name", "size", "edition", "held", "keys", "one"]
abbrev p_function_key : List Str := ["term"]
theorem sc_function_key : FnScope N_function_key p_function_key (defScope s_function_key) := ⟨rfl, rfl, rfl, by decide +kernel, rfl, by decide +kernel, by decide +kernel⟩
abbrev s_order_key : Stmt := topS 30
abbrev N_order_key : List Str := ["term", "head", "parts", "keys", "values", "part", "row"]
abbrev p_order_key : List Str := ["term"]
theorem sc_order_key : FnScope N_order_key p_order_key (defScope s_order_key) := ⟨rfl, rfl, rfl, by decide +kernel, rfl, by decide +kernel, by decide +kernel⟩
abbrev s_is_kind_of : Stmt := topS 32
abbrev N_is_kind_of : List Str := ["value", "kind"]
abbrev p_is_kind_of : List Str := ["value", "kind"]
theorem sc_is_kind_of : FnScope N_is_kind_of p_is_kind_of (defScope s_is_kind_of) := ⟨rfl, rfl, rfl, by decide +kernel, rfl, by decide +kernel, by decide +kernel⟩
abbrev s_check_processes : Stmt := topS 33
abbrev N_check_processes : List Str := ["values", "value"]
abbrev p_check_processes : List Str := ["values"]
theorem sc_check_processes : FnScope N_check_processes p_check_processes (defScope s_check_processes) := ⟨rfl, rfl, rfl, by decide +kernel, rfl, by decide +kernel, by decide +kernel⟩
abbrev s_check_name : Stmt := topS 36
abbrev N_check_name : List Str := ["value"]
abbrev p_check_name : List Str := ["value"]
theorem sc_check_name : FnScope N_check_name p_check_name (defScope s_check_name) := ⟨rfl, rfl, rfl, by decide +kernel, rfl, by decide +kernel, by decide +kernel⟩
abbrev s_who : Stmt := topS 37
abbrev N_who : List Str := ["book", "name", "one", "process"]
abbrev p_who : List Str := ["book", "name"]
theorem sc_who : FnScope N_who p_who (defScope s_who) := ⟨rfl, rfl, rfl, by decide +kernel, rfl, by decide +kernel, by decide +kernel⟩
abbrev s_give : Stmt := topS 38
abbrev N_give : List Str := ["book", "name", "process", "lives", "other", "one"]
abbrev p_give : List Str := ["book", "name", "process", "lives"]
theorem sc_give : FnScope N_give p_give (defScope s_give) := ⟨rfl, rfl, rfl, by decide +kernel, rfl, by decide +kernel, by decide +kernel⟩
abbrev s_freed : Stmt := topS 39
abbrev N_freed : List Str := ["book", "name", "is_held", "row"]
abbrev p_freed : List Str := ["book", "name"]
theorem sc_freed : FnScope N_freed p_freed (defScope s_freed) := ⟨rfl, rfl, rfl, by decide +kernel, rfl, by decide +kernel, by decide +kernel⟩
abbrev s_left : Stmt := topS 40
abbrev N_left : List Str := ["book", "process", "row"]
abbrev p_left : List Str := ["book", "process"]
theorem sc_left : FnScope N_left p_left (defScope s_left) := ⟨rfl, rfl, rfl, by decide +kernel, rfl, by decide +kernel, by decide +kernel⟩
abbrev s_law_pot : Stmt := topS 42
abbrev N_law_pot : List Str := ["script", "place", "cell", "own", "small"]
abbrev p_law_pot : List Str := ["script", "place"]
theorem sc_law_pot : FnScope N_law_pot p_law_pot (defScope s_law_pot) := ⟨rfl, rfl, rfl, by decide +kernel, rfl, by decide +kernel, by decide +kernel⟩
abbrev s_law_take : Stmt := topS 43
abbrev N_law_take : List Str := ["pot", "upto", "digit", "prime", "blend"]
abbrev p_law_take : List Str := ["pot", "upto"]
theorem sc_law_take : FnScope N_law_take p_law_take (defScope s_law_take) := ⟨rfl, rfl, rfl, by decide +kernel, rfl, by decide +kernel, by decide +kernel⟩
abbrev s_law_of : Stmt := topS 44
abbrev N_law_of : List Str := ["pot", "some"]
abbrev p_law_of : List Str := ["pot", "some"]
theorem sc_law_of : FnScope N_law_of p_law_of (defScope s_law_of) := ⟨rfl, rfl, rfl, by decide +kernel, rfl, by decide +kernel, by decide +kernel⟩
abbrev s_law_cells : Stmt := topS 45
abbrev N_law_cells : List Str := ["script", "most"]
abbrev p_law_cells : List Str := ["script", "most"]
theorem sc_law_cells : FnScope N_law_cells p_law_cells (defScope s_law_cells) := ⟨rfl, rfl, rfl, by decide +kernel, rfl, by decide +kernel, by decide +kernel⟩
abbrev s_law_processes : Stmt := topS 46
abbrev N_law_processes : List Str := []
abbrev p_law_processes : List Str := []
theorem sc_law_processes : FnScope N_law_processes p_law_processes (defScope s_law_processes) := ⟨rfl, rfl, rfl, by decide +kernel, rfl, by decide +kernel, by decide +kernel⟩
abbrev s_law_names : Stmt := topS 47
abbrev N_law_names : List Str := []
abbrev p_law_names : List Str := []
theorem sc_law_names : FnScope N_law_names p_law_names (defScope s_law_names) := ⟨rfl, rfl, rfl, by decide +kernel, rfl, by decide +kernel, by decide +kernel⟩
abbrev s_law_right : Stmt := topS 48
abbrev N_law_right : List Str := ["pot", "book", "own", "lap", "way", "name", "process", "lives", "is_let", "told", "due", "was", "one", "its"]
abbrev p_law_right : List Str := ["pot"]
theorem sc_law_right : FnScope N_law_right p_law_right (defScope s_law_right) := ⟨rfl, rfl, rfl, by decide +kernel, rfl, by decide +kernel, by decide +kernel⟩
abbrev s_law : Stmt := topS 49
abbrev N_law : List Str := ["script", "place"]
abbrev p_law : List Str := ["script"]
theorem sc_law : FnScope N_law p_law (defScope s_law) := ⟨rfl, rfl, rfl, by decide +kernel, rfl, by decide +kernel, by decide +kernel⟩
end K22
namespace K22
open PySem PySem.Spec PyProof.Rows L2 DL
-- a name
local macro_rules | `(tactic| walk_at "nm") => `(tactic| first | refine w_d (i := 0) rfl ?_ | refine w_d (i := 1) rfl ?_ | refine w_d (i := 2) rfl ?_ | refine w_d (i := 3) rfl ?_ | refine w_d (i := 4) rfl ?_ | refine w_d (i := 5) rfl ?_ | refine w_d (i := 6) rfl ?_ | refine w_d (i := 7) rfl ?_ | refine w_d (i := 8) rfl ?_ | refine w_d (i := 9) rfl ?_ | refine w_d (i := 10) rfl ?_ | refine w_d (i := 11) rfl ?_ | refine w_d (i := 12) rfl ?_ | refine w_d (i := 13) rfl ?_ | refine w_l (i := 0) rfl ?_ | refine w_l (i := 1) rfl ?_ | refine w_l (i := 2) rfl ?_ | refine w_l (i := 3) rfl ?_ | refine w_l (i := 4) rfl ?_ | refine w_m (i := 1) rfl ?_ | refine w_m (i := 2) rfl ?_ | refine w_m (i := 3) rfl ?_ | refine w_gs (by assumption) ?_ | refine w_gi (by assumption) ?_ | refine w_go (by assumption) ?_)
-- isinstance
local macro_rules | `(tactic| walk_at "isi") => `(tactic| first | refine w_isi isIntT kit_int boot_int (by assumption) (by assumption) ?_ | refine w_isi isBoolT kit_bool DL.boot_bool (by assumption) (by assumption) ?_ | refine w_isi isStrT kit_str boot_str (by assumption) (by assumption) ?_ | refine w_isi isTupT kit_tup boot_tuple (by assumption) (by assumption) ?_ | refine w_isi isLstT kit_lst boot_list (by assumption) (by assumption) ?_)
-- an operation
local macro_rules | `(tactic| walk_at "op") => `(tactic| with_reducible first | exact o_eqI | exact o_eqS | exact o_neI | exact o_neS | exact o_add | exact o_sub | exact o_lt | exact o_le | exact o_gt | exact o_ge | exact o_isN | exact o_notN | exact o_isB | (refine o_inF ?_ ?_ ?_ <;> rfl) | (refine o_notInF ?_ ?_ ?_ <;> rfl))
-- an expression
local macro_rules | `(tactic| walk_at "ex") => `(tactic| first | (guard_target =~ WE _ _ _ (.Name _ _) _; walk_at "nm") | (guard_target =~ WE _ _ _ (.Constant _ _ _) _; first | refine w_int ?_ | refine w_str ?_ | refine w_non ?_ | refine w_bl ?_) | (guard_target =~ WE _ _ _ (.Call _ _ _ _) _; walk_at "isi") | (guard_target =~ WE _ _ _ (.Compare _ _ _ _) _; first | refine w_cmp ?_ | refine w_chain ?_) | (guard_target =~ WE _ _ _ (.BoolOp _ _ _) _; first | refine w_one ?_ | refine w_and ?_ | refine w_or ?_) | (guard_target =~ WE _ _ _ (.Subscript _ _ _) _; first | refine w_slice ?_ | refine w_ix ?_) | refine w_bin ?_ | refine w_ifexp ?_ | refine w_not ?_ | refine w_tup ?_ | refine w_lst ?_)
-- a test
local macro_rules | `(tactic| walk_at "te") => `(tactic| first | (guard_target =~ WT _ _ _ (.Compare _ _ _ _) _; first | refine wt_cmp ?_ | refine wt_chain ?_) | (guard_target =~ WT _ _ _ (.BoolOp _ _ _) _; refine wt_bool ?_) | (guard_target =~ WT _ _ _ (.UnaryOp _ _ _) _; refine wt_not ?_) | refine wt_val ?_)
-- what is left to be shown
local macro_rules | `(tactic| walk_at "si") => `(tactic| first | refine if_y rfl ?_ | refine if_n rfl ?_ | refine ⟨trivial, ?_⟩ | (refine ⟨_, _, ?wz, rfl, rfl, ?wo, ?wr⟩; (case wo => walk_at "op")) | refine ⟨_, _, _, rfl, rfl, i_seq rfl rfl, ?_⟩ | refine ⟨_, _, rfl, l_tup, ?_⟩ | refine ⟨_, rfl, rfl, ?_⟩ | refine ⟨_, _, rfl, rfl, ?_⟩ | refine ⟨_, rfl, ?_⟩ | refine ⟨_, AllD.nil, len_le rfl, ?_⟩ | refine ⟨_, AllD.cons AllD.nil, len_le rfl, ?_⟩ | refine ⟨_, AllD.cons (AllD.cons AllD.nil), len_le rfl, ?_⟩ | refine ⟨_, AllD.cons (AllD.cons (AllD.cons AllD.nil)), len_le rfl, ?_⟩ | refine ⟨_, AllD.cons AllD.nil, ?_⟩ | refine ⟨_, AllD.cons (AllD.cons AllD.nil), ?_⟩ | refine ⟨_, AllD.cons (AllD.cons (AllD.cons AllD.nil)), ?_⟩ | refine ⟨_, AllD.cons (AllD.cons (AllD.cons (AllD.cons AllD.nil))), ?_⟩)
-- one step
local macro_rules | `(tactic| walk_at "st") => `(tactic| first | (guard_target =~ WF _ _ _ _ _; refine f_of ?_) | (guard_target =~ WE _ _ _ _ _; walk_at "ex") | (guard_target =~ WT _ _ _ _ _; walk_at "te") | (guard_target =~ WW _ _ _ _ _; first | refine ww_and1 ?_ | refine ww_or1 ?_ | refine ww_and ?_ | refine ww_or ?_) | (guard_target =~ WA _ _ _ _ _; first | refine wa_nil ?_ | refine wa_cons ?_) | (guard_target =~ WO _ _ _ _ _; first | refine wo_none ?_ | refine wo_some ?_) | (guard_target =~ WS _ _ _ _ _; first | refine s_ret ?_ | refine s_if ?_ | refine s_expr ?_ | refine s_nil ?_) | walk_at "si")
section
variable {P : Program} {w : World} {K : PySem.W.Frag} {mg : Str → Option Value} {base : Heap}
/-! ### plain law: terms -/
def loOk : D → Int → Bool
  | .int j, i => decide (j ≤ i)
  | _, _ => true
def hiOk : D → Int → Bool
  | .int j, i => decide (i ≤ j)
  | _, _ => true
def isIntB (v lo hi : D) : Bool := match v with
  | .int i => loOk lo i && hiOk hi i
  | _ => false
def lim : D → Prop
  | .non => True
  | .int _ => True
  | _ => False
def signsOf : Str := "abcdefghijklmnopqrstuvwxyzABCDEFGHIJKLMNOPQRSTUVWXYZ0123456789_@"
def inSigns : D → Bool
  | .str y => y.cps.toList.all fun c => decide (c ∈ signsOf.cps.toList)
  | _ => false
def isAtomB : D → Bool
  | .str z => decide ((1 : Int) ≤ z.length) && (decide ((z.length : Int) ≤ 16) && (DL.signs z).all inSigns)
  | _ => false
def txtOk : D → Prop
  | .str z => z.length ≤ sizeLine
  | x => knD x = true
abbrev sI : FT := FDflt 3 [.non, .non] (F3 (fun v lo hi => knD v = true ∧ lim lo ∧ lim hi) fun v lo hi => .d (.bl (isIntB v lo hi)))
abbrev sA : FT := F1 txtOk fun v => .d (.bl (isAtomB v))
/-! ### the walks -/
structure Gl0 (mg : Str → Option Value) : Prop where
  isi : mg "isinstance" = none
  int : mg "int" = none
  bool : mg "bool" = none
  str : mg "str" = none
  tuple : mg "tuple" = none
  len : mg "len" = none
  all : mg "all" = none
theorem b_is_integer {k : Nat} (g : Gl0 mg) : BodyD P w K mg base N_is_integer p_is_integer s_is_integer k (F3 (fun v lo hi => knD v = true ∧ lim lo ∧ lim hi) fun v lo hi => .d (.bl (isIntB v lo hi))) := by
  intro X0 B ds Φ c hl hF
  have g1 := g.isi
  have g2 := g.int
  have g3 := g.bool
  obtain ⟨v, lo, hi, rfl, ⟨hv, hlo, hhi⟩, hΦ⟩ := hF
  show WS _ B [.d v, .d lo, .d hi] _ _
  have fin : ∀ b, isIntB v lo hi = b → Φ (.d (.bl b)) := fun b e => by rw [← e]; exact hΦ
  cases v with
  | int i =>
    cases lo with
    | non =>
      cases hi with
      | non =>
        repeat walk_at "st"
        exact fin _ rfl
      | int j =>
        repeat walk_at "st"
        exact fin _ (by simp [isIntB, loOk, hiOk])
      | _ => exact hhi.elim
    | int j =>
      cases hi with
      | non =>
        repeat walk_at "st"
        refine if_b (fun h => ?_) (fun h => ?_)
        · repeat walk_at "st"
          exact fin _ (by rw [isIntB, loOk, h]; rfl)
        · repeat walk_at "st"
          exact fin _ (by rw [isIntB, loOk, h]; rfl)
      | int j' =>
        repeat walk_at "st"
        refine if_b (fun h => ?_) (fun h => ?_)
        · repeat walk_at "st"
          exact fin _ (by rw [isIntB, loOk, hiOk, h]; rfl)
        · repeat walk_at "st"
          exact fin _ (by rw [isIntB, loOk, h]; rfl)
      | _ => exact hhi.elim
    | _ => exact hlo.elim
  | bl b =>
    repeat walk_at "st"
    exact fin _ rfl
  | non =>
    repeat walk_at "st"
    exact fin _ rfl
  | str z =>
    repeat walk_at "st"
    exact fin _ rfl
  | tup z =>
    repeat walk_at "st"
    exact fin _ rfl
  | lst z =>
    repeat walk_at "st"
    exact fin _ rfl
  | ins a b => cases hv
  | ty a => cases hv
  | obj a => cases hv
theorem b_is_atom {k : Nat} (g : Gl0 mg) (hM : GI mg "MOST_SIGNS" 16) (hS : GS mg "SIGNS" signsOf) : BodyD P w K mg base N_is_atom p_is_atom s_is_atom k (F1 txtOk fun v => .d (.bl (isAtomB v))) := by
  intro X0 B ds Φ c hl hF
  have g1 := g.isi
  have g2 := g.str
  have g3 := g.len
  have g4 := g.all
  obtain ⟨v, rfl, hv, hΦ⟩ := hF
  show WS _ B [.d v, .no] _ _
  have fin : ∀ b, isAtomB v = b → Φ (.d (.bl b)) := fun b e => by rw [← e]; exact hΦ
  cases v with
  | str z =>
    repeat walk_at "st"
    refine w_lenS g3 ?_
    repeat walk_at "st"
    refine ⟨hv, ?_⟩
    repeat walk_at "st"
    refine if_b (fun h1 => ?_) (fun h1 => ?_)
    · repeat walk_at "st"
      refine if_b (fun h2 => ?_) (fun h2 => ?_)
      · repeat walk_at "st"
        refine w_all inSigns (own := [("sign", 1)]) c ⟨rfl, by dsimp only [bx]; decide +kernel, by dsimp only [bx]; decide +kernel, by dsimp only [bx]; decide +kernel, by dsimp only [bx]; decide +kernel⟩ g4 (wi_str ?_)
        repeat walk_at "st"
        refine ⟨?_, fun d hd => ?_, ?_⟩
        · unfold DL.signs
          rw [List.length_map, Array.length_toList]
          have h2 := of_decide_eq_true h2
          have : (z.length : Int) = z.cps.size := rfl
          rw [sizeLine_eq]; omega
        · obtain ⟨n, hn, rfl⟩ := List.mem_map.mp hd
          refine lc_one _ _ (by decide) (fun s H C cl fp => gd_name (i := 1) (block_cok c).nd (show 1 < 2 by decide)) fun p o s H C cl fp => ?_
          repeat walk_at "st"
          refine ⟨_, _, _, rfl, rfl, o_inS, ?_⟩
          repeat walk_at "st"
          refine ⟨?_, rfl⟩
          simp [inSigns]
        · repeat walk_at "st"
          exact fin _ (by rw [isAtomB, h1, h2]; simp)
      · repeat walk_at "st"
        exact fin _ (by rw [isAtomB, h1, h2]; rfl)
    · repeat walk_at "st"
      exact fin _ (by rw [isAtomB, h1]; rfl)
  | non =>
    repeat walk_at "st"
    exact fin _ rfl
  | bl b =>
    repeat walk_at "st"
    exact fin _ rfl
  | int b =>
    repeat walk_at "st"
    exact fin _ rfl
  | tup z =>
    repeat walk_at "st"
    exact fin _ rfl
  | lst z =>
    repeat walk_at "st"
    exact fin _ rfl
  | ins a b => cases hv
  | ty a => cases hv
  | obj a => cases hv
end
end K22
namespace K22
open PySem PySem.Spec PyProof.Rows L2 DL
-- a name
local macro_rules | `(tactic| walk_at "nm") => `(tactic| first | refine w_d (i := 0) rfl ?_ | refine w_d (i := 1) rfl ?_ | refine w_d (i := 2) rfl ?_ | refine w_d (i := 3) rfl ?_ | refine w_d (i := 4) rfl ?_ | refine w_d (i := 5) rfl ?_ | refine w_d (i := 6) rfl ?_ | refine w_d (i := 7) rfl ?_ | refine w_d (i := 8) rfl ?_ | refine w_d (i := 9) rfl ?_ | refine w_d (i := 10) rfl ?_ | refine w_d (i := 11) rfl ?_ | refine w_d (i := 12) rfl ?_ | refine w_d (i := 13) rfl ?_ | refine w_l (i := 0) rfl ?_ | refine w_l (i := 1) rfl ?_ | refine w_l (i := 2) rfl ?_ | refine w_l (i := 3) rfl ?_ | refine w_l (i := 4) rfl ?_ | refine w_m (i := 1) rfl ?_ | refine w_m (i := 2) rfl ?_ | refine w_m (i := 3) rfl ?_ | refine w_gs (by assumption) ?_ | refine w_gi (by assumption) ?_ | refine w_go (by assumption) ?_)
-- isinstance
local macro_rules | `(tactic| walk_at "isi") => `(tactic| first | refine w_isi isIntT kit_int boot_int (by assumption) (by assumption) ?_ | refine w_isi isBoolT kit_bool DL.boot_bool (by assumption) (by assumption) ?_ | refine w_isi isStrT kit_str boot_str (by assumption) (by assumption) ?_ | refine w_isi isTupT kit_tup boot_tuple (by assumption) (by assumption) ?_ | refine w_isi isLstT kit_lst boot_list (by assumption) (by assumption) ?_)
-- an operation
local macro_rules | `(tactic| walk_at "op") => `(tactic| first | (with_reducible first | exact o_eqI | exact o_eqS | exact o_neI | exact o_neS | exact o_add | exact o_sub | exact o_lt | exact o_le | exact o_gt | exact o_ge | exact o_isN | exact o_notN | exact o_isB))
-- an expression
local macro_rules | `(tactic| walk_at "ex") => `(tactic| first | (guard_target =~ WE _ _ _ (.Name _ _) _; walk_at "nm") | (guard_target =~ WE _ _ _ (.Constant _ _ _) _; first | refine w_int ?_ | refine w_str ?_ | refine w_non ?_ | refine w_bl ?_) | (guard_target =~ WE _ _ _ (.Call _ _ _ _) _; first | walk_at "isi" | refine w_len (by assumption) ?_) | (guard_target =~ WE _ _ _ (.Compare _ _ _ _) _; first | refine w_cmp ?_ | refine w_chain ?_) | (guard_target =~ WE _ _ _ (.BoolOp _ _ _) _; first | refine w_one ?_ | refine w_and ?_ | refine w_or ?_) | (guard_target =~ WE _ _ _ (.Subscript _ _ _) _; first | refine w_slice ?_ | refine w_ix ?_) | refine w_bin ?_ | refine w_ifexp ?_ | refine w_not ?_ | refine w_tup ?_ | refine w_lst ?_)
-- a test
local macro_rules | `(tactic| walk_at "te") => `(tactic| first | (guard_target =~ WT _ _ _ (.Compare _ _ _ _) _; first | refine wt_cmp ?_ | refine wt_chain ?_) | (guard_target =~ WT _ _ _ (.BoolOp _ _ _) _; refine wt_bool ?_) | (guard_target =~ WT _ _ _ (.UnaryOp _ _ _) _; refine wt_not ?_) | refine wt_val ?_)
-- what is left to be shown
local macro_rules | `(tactic| walk_at "si") => `(tactic| first | refine if_y rfl ?_ | refine if_n rfl ?_ | refine ⟨trivial, ?_⟩ | (refine ⟨_, _, ?wz, rfl, rfl, ?wo, ?wr⟩; (case wo => walk_at "op")) | refine ⟨_, _, _, rfl, rfl, o_inF rfl rfl rfl, ?_⟩ | refine ⟨_, _, _, rfl, rfl, o_notInF rfl rfl rfl, ?_⟩ | refine ⟨_, _, _, rfl, rfl, i_seq rfl rfl, ?_⟩ | refine ⟨_, _, rfl, l_tup, ?_⟩ | refine ⟨_, rfl, rfl, ?_⟩ | refine ⟨_, _, rfl, rfl, ?_⟩ | refine ⟨_, rfl, ?_⟩ | refine ⟨_, AllD.nil, len_le rfl, ?_⟩ | refine ⟨_, AllD.cons AllD.nil, len_le rfl, ?_⟩ | refine ⟨_, AllD.cons (AllD.cons AllD.nil), len_le rfl, ?_⟩ | refine ⟨_, AllD.cons (AllD.cons (AllD.cons AllD.nil)), len_le rfl, ?_⟩ | refine ⟨_, AllD.cons AllD.nil, ?_⟩ | refine ⟨_, AllD.cons (AllD.cons AllD.nil), ?_⟩ | refine ⟨_, AllD.cons (AllD.cons (AllD.cons AllD.nil)), ?_⟩ | refine ⟨_, AllD.cons (AllD.cons (AllD.cons (AllD.cons AllD.nil))), ?_⟩)
-- one step
local macro_rules | `(tactic| walk_at "st") => `(tactic| first | (guard_target =~ WF _ _ _ _ _; refine f_of ?_) | (guard_target =~ WE _ _ _ _ _; walk_at "ex") | (guard_target =~ WT _ _ _ _ _; walk_at "te") | (guard_target =~ WW _ _ _ _ _; first | refine ww_and1 ?_ | refine ww_or1 ?_ | refine ww_and ?_ | refine ww_or ?_) | (guard_target =~ WA _ _ _ _ _; first | refine wa_nil ?_ | refine wa_cons ?_) | (guard_target =~ WO _ _ _ _ _; first | refine wo_none ?_ | refine wo_some ?_) | (guard_target =~ WS _ _ _ _ _; first | refine s_ret ?_ | refine s_if ?_ | refine s_expr ?_ | refine s_nil ?_) | walk_at "si")
section
variable {P : Program} {w : World} {K : PySem.W.Frag} {mg : Str → Option Value} {base : Heap}
/-! ### plain law -/
def isPathB : D → Bool
  | .tup xs => decide ((xs.length : Int) ≤ 40) && xs.all fun d => isIntB d (.int 1) .non
  | _ => false
def pathOk : D → Prop
  | .tup xs => xs.length ≤ sizeLine ∧ ∀ d ∈ xs, knD d = true
  | x => knD x = true
def pidOk (t : D) : Prop := ∃ xs, t = .tup [.str "pid", .tup xs] ∧ xs.length ≤ sizeLine ∧ (∀ d ∈ xs, knD d = true) ∧ cmpOk t = true
def pidB : D → Bool
  | .tup [_, v] => isPathB v
  | _ => false
theorem b_is_path {k : Nat} (g : Gl0 mg) (hM : GI mg "MOST_PATH" 40) (dI : DefG P w K mg base k "is_integer" (spD K sI)) : BodyD P w K mg base N_is_path p_is_path s_is_path k (F1 pathOk fun v => .d (.bl (isPathB v))) := by
  intro X0 B ds Φ c hl hF
  have g1 := g.isi
  have g2 := g.tuple
  have g3 := g.len
  have g4 := g.all
  obtain ⟨v, rfl, hv, hΦ⟩ := hF
  show WS _ B [.d v, .no] _ _
  have fin : ∀ b, isPathB v = b → Φ (.d (.bl b)) := fun b e => by rw [← e]; exact hΦ
  cases v with
  | tup xs =>
    repeat walk_at "st"
    refine if_b (fun h1 => ?_) (fun h1 => ?_)
    · repeat walk_at "st"
      exact fin _ (by rw [isPathB, show decide ((xs.length : Int) ≤ 40) = false from by have := of_decide_eq_true h1; exact decide_eq_false (by omega)]; rfl)
    · repeat walk_at "st"
      refine w_all (fun d => isIntB d (.int 1) .non) (own := [("number", 1)]) c ⟨rfl, by dsimp only [bx]; decide +kernel, by dsimp only [bx]; decide +kernel, by dsimp only [bx]; decide +kernel, by dsimp only [bx]; decide +kernel⟩ g4 (wi_tup ?_)
      repeat walk_at "st"
      have h1 := of_decide_eq_false h1
      refine ⟨?_, fun d hd => ?_, ?_⟩
      · rw [sizeLine_eq]; omega
      · refine lc_one _ _ (by decide) (fun s H C cl fp => gd_name (i := 1) (block_cok c).nd (show 1 < 2 by decide)) fun p o s H C cl fp => ?_
        repeat walk_at "st"
        refine w_call (block_cok c) dI (Nat.le_refl _) ?_
        repeat walk_at "st"
        refine ⟨show 2 ≤ 3 by decide, show 3 ≤ 4 by decide, _, _, _, rfl, ⟨hv.2 d hd, trivial, trivial⟩, ?_⟩
        repeat walk_at "st"
        exact rfl
      · repeat walk_at "st"
        exact fin _ (by rw [isPathB, show decide ((xs.length : Int) ≤ 40) = true from decide_eq_true (by omega)]; rfl)
  | non =>
    repeat walk_at "st"
    exact fin _ rfl
  | bl b =>
    repeat walk_at "st"
    exact fin _ rfl
  | int b =>
    repeat walk_at "st"
    exact fin _ rfl
  | str b =>
    repeat walk_at "st"
    exact fin _ rfl
  | lst z =>
    repeat walk_at "st"
    exact fin _ rfl
  | ins a b => cases hv
  | ty a => cases hv
  | obj a => cases hv
structure Gl1 (mg : Str → Option Value) : Prop where
  tup : GS mg "TUPLE" "tuple"
  lst : GS mg "LIST" "list"
  odd : GS mg "ODD" "odd"
  byt : GS mg "BYTES" "bytes"
  map : GS mg "MAP" "map"
  pid : GS mg "PID" "pid"
  und : GS mg "UNDEFINED" "undefined"
abbrev sB : FT := F2 (fun h p => h = .str "pid" ∧ ∃ xs, p = .tup [.tup xs] ∧ pathOk (.tup xs)) fun _ p => .d (.bl (match p with | .tup [v] => isPathB v | _ => false))
theorem b_is_built {k : Nat} (g : Gl0 mg) (g' : Gl1 mg) (dP : DefG P w K mg base k "is_path" (spD K (F1 pathOk fun v => .d (.bl (isPathB v))))) : BodyD P w K mg base N_is_built p_is_built s_is_built k sB := by
  intro X0 B ds Φ c hl hF
  have g3 := g.len
  obtain ⟨q1, q2, q3, q4, q5, q6, _⟩ := g'
  obtain ⟨_, _, rfl, ⟨rfl, xs, rfl, hx⟩, hΦ⟩ := hF
  show WS _ B [.d (.str "pid"), .d (.tup [.tup xs]), .no] _ _
  have fin : ∀ b, isPathB (.tup xs) = b → Φ (.d (.bl b)) := fun b e => by rw [← e]; exact hΦ
  repeat walk_at "st"
  refine w_call c dP (Nat.le_refl _) ?_
  repeat walk_at "st"
  refine ⟨hx, ?_⟩
  exact ⟨_, rfl, fin _ rfl⟩
abbrev sP : FT := F1 pidOk fun t => .d (.bl (pidB t))
theorem eqv_nil (x : PyData) (xs : List PyData) : PyData.eqv (.tuple (x :: xs)) (.tuple []) = false := by
  simp [PyData.eqv, PyData.eqvAll]
theorem b_is_term {k : Nat} (g : Gl0 mg) (a : Addr) (es : Array DictEntry) (n : Nat) (u : Value) (hR : GO mg "RANKS" a) (hD : KDict K w a es n) (hu : PySem.W.nsIn K a "pid" = some (some u)) (dB : DefG P w K mg base k "is_built" (spD K sB)) : BodyD P w K mg base N_is_term p_is_term s_is_term k sP := by
  intro X0 B ds Φ c hl hF
  have g1 := g.isi
  have g2 := g.tuple
  have g3 := g.str
  obtain ⟨t, rfl, ⟨xs, rfl, hx, hx2, hc⟩, hΦ⟩ := hF
  show WS _ B [.d (.tup [.str "pid", .tup xs])] _ _
  have fin : ∀ b, isPathB (.tup xs) = b → Φ (.d (.bl b)) := fun b e => by rw [← e]; exact hΦ
  repeat walk_at "st"
  refine ⟨_, _, _, rfl, rfl, o_eqD c hc (by decide +kernel), ?_⟩
  refine if_n (by unfold eqD; rw [D.py, pyAll, D.py, pyAll]; exact eqv_nil _ _) ?_
  repeat walk_at "st"
  refine ⟨_, _, _, rfl, rfl, o_ninKd hD hu, ?_⟩
  repeat walk_at "st"
  refine w_call c dB (Nat.le_refl _) ?_
  repeat walk_at "st"
  refine ⟨_, _, rfl, ⟨rfl, xs, rfl, hx, hx2⟩, ?_⟩
  exact ⟨_, rfl, fin _ rfl⟩
abbrev sKd : FT := F2 (fun t kd => pidOk t ∧ pidB t = true ∧ kd = .str "pid") fun _ _ => .d (.bl true)
theorem b_is_kind_of {k : Nat} (g : Gl0 mg) (dT : DefG P w K mg base k "is_term" (spD K sP)) : BodyD P w K mg base N_is_kind_of p_is_kind_of s_is_kind_of k sKd := by
  intro X0 B ds Φ c hl hF
  have g1 := g.isi
  have g2 := g.tuple
  obtain ⟨t, kd, rfl, ⟨hp, hb, rfl⟩, hΦ⟩ := hF
  obtain ⟨xs, rfl, hx⟩ := id hp
  show WS _ B [.d (.tup [.str "pid", .tup xs]), .d (.str "pid")] _ _
  repeat walk_at "st"
  refine w_call c dT (Nat.le_refl _) ?_
  repeat walk_at "st"
  refine ⟨hp, ?_⟩
  dsimp only
  rw [hb]
  repeat walk_at "st"
  exact hΦ
abbrev sCP : FT := FStar (F1 (fun v => ∃ t, v = .tup [t] ∧ pidOk t ∧ pidB t = true) fun _ => .d .non)
theorem b_check_processes {k : Nat} (q6 : GS mg "PID" "pid") (dK : DefG P w K mg base k "is_kind_of" (spD K sKd)) : BodyD P w K mg base N_check_processes p_check_processes s_check_processes k (F1 (fun v => ∃ t, v = .tup [t] ∧ pidOk t ∧ pidB t = true) fun _ => .d .non) := by
  intro X0 B ds Φ c hl hF
  obtain ⟨_, rfl, ⟨t, rfl, hp, hb⟩, hΦ⟩ := hF
  show WS _ B [.d (.tup [t]), .no] _ _
  refine s_forL (fun rest Γ => (rest = [] ∨ rest = [t]) ∧ ∃ s, Γ = [.d (.tup [t]), s]) c (wi_tup ?_)
  repeat walk_at "st"
  refine ⟨⟨.inr rfl, _, rfl⟩, fun d rest Γ' h => ?_, fun Γ' h => ?_⟩
  · obtain ⟨h, s, rfl⟩ := h
    rcases h with h | h
    · cases h
    · cases h
      refine ⟨_, _, gd_name (i := 1) c.nd (show 1 < 2 by decide), ?_⟩
      refine s_if (wt_not (wt_val (f_of (w_call c dK (Nat.le_refl _) ?_))))
      repeat walk_at "st"
      refine ⟨_, _, rfl, ⟨hp, hb, rfl⟩, ?_⟩
      repeat walk_at "st"
      exact ⟨.inl rfl, _, rfl⟩
  · repeat walk_at "st"
    exact hΦ
abbrev sCN : FT := F1 (fun v => txtOk v ∧ isAtomB v = true) fun _ => .d .non
theorem b_check_name {k : Nat} (dA : DefG P w K mg base k "is_atom" (spD K sA)) : BodyD P w K mg base N_check_name p_check_name s_check_name k sCN := by
  intro X0 B ds Φ c hl hF
  obtain ⟨v, rfl, ⟨h1, h2⟩, hΦ⟩ := hF
  show WS _ B [.d v] _ _
  refine s_if (wt_not (wt_val (f_of (w_call c dA (Nat.le_refl _) ?_))))
  repeat walk_at "st"
  refine ⟨h1, ?_⟩
  dsimp only
  rw [h2]
  repeat walk_at "st"
  exact hΦ
end
end K22
namespace K22
open PySem PySem.Spec PyProof.Rows L2 DL
-- a name
local macro_rules | `(tactic| walk_at "nm") => `(tactic| first | refine w_d (i := 0) rfl ?_ | refine w_d (i := 1) rfl ?_ | refine w_d (i := 2) rfl ?_ | refine w_d (i := 3) rfl ?_ | refine w_d (i := 4) rfl ?_ | refine w_d (i := 5) rfl ?_ | refine w_d (i := 6) rfl ?_ | refine w_d (i := 7) rfl ?_ | refine w_d (i := 8) rfl ?_ | refine w_d (i := 9) rfl ?_ | refine w_d (i := 10) rfl ?_ | refine w_d (i := 11) rfl ?_ | refine w_d (i := 12) rfl ?_ | refine w_d (i := 13) rfl ?_ | refine w_l (i := 0) rfl ?_ | refine w_l (i := 1) rfl ?_ | refine w_l (i := 2) rfl ?_ | refine w_l (i := 3) rfl ?_ | refine w_l (i := 4) rfl ?_ | refine w_m (i := 1) rfl ?_ | refine w_m (i := 2) rfl ?_ | refine w_m (i := 3) rfl ?_ | refine w_gs (by assumption) ?_ | refine w_gi (by assumption) ?_ | refine w_go (by assumption) ?_)
-- isinstance
local macro_rules | `(tactic| walk_at "isi") => `(tactic| first | refine w_isi isIntT kit_int boot_int (by assumption) (by assumption) ?_ | refine w_isi isBoolT kit_bool DL.boot_bool (by assumption) (by assumption) ?_ | refine w_isi isStrT kit_str boot_str (by assumption) (by assumption) ?_ | refine w_isi isTupT kit_tup boot_tuple (by assumption) (by assumption) ?_ | refine w_isi isLstT kit_lst boot_list (by assumption) (by assumption) ?_)
-- an operation
local macro_rules | `(tactic| walk_at "op") => `(tactic| first | (with_reducible first | exact o_eqI | exact o_eqS | exact o_neI | exact o_neS | exact o_add | exact o_sub | exact o_lt | exact o_le | exact o_gt | exact o_ge | exact o_isN | exact o_notN | exact o_isB))
-- an expression
local macro_rules | `(tactic| walk_at "ex") => `(tactic| first | (guard_target =~ WE _ _ _ (.Name _ _) _; walk_at "nm") | (guard_target =~ WE _ _ _ (.Constant _ _ _) _; first | refine w_int ?_ | refine w_str ?_ | refine w_non ?_ | refine w_bl ?_) | (guard_target =~ WE _ _ _ (.Call _ _ _ _) _; first | walk_at "isi" | refine w_len (by assumption) ?_) | (guard_target =~ WE _ _ _ (.Compare _ _ _ _) _; first | refine w_cmp ?_ | refine w_chain ?_) | (guard_target =~ WE _ _ _ (.BoolOp _ _ _) _; first | refine w_one ?_ | refine w_and ?_ | refine w_or ?_) | (guard_target =~ WE _ _ _ (.Subscript _ _ _) _; first | refine w_slice ?_ | refine w_ix ?_) | refine w_bin ?_ | refine w_ifexp ?_ | refine w_not ?_ | refine w_tup ?_ | refine w_lst ?_)
-- a test
local macro_rules | `(tactic| walk_at "te") => `(tactic| first | (guard_target =~ WT _ _ _ (.Compare _ _ _ _) _; first | refine wt_cmp ?_ | refine wt_chain ?_) | (guard_target =~ WT _ _ _ (.BoolOp _ _ _) _; refine wt_bool ?_) | (guard_target =~ WT _ _ _ (.UnaryOp _ _ _) _; refine wt_not ?_) | refine wt_val ?_)
-- what is left to be shown
local macro_rules | `(tactic| walk_at "si") => `(tactic| first | refine if_y rfl ?_ | refine if_n rfl ?_ | refine ⟨trivial, ?_⟩ | (refine ⟨_, _, ?wz, rfl, rfl, ?wo, ?wr⟩; (case wo => walk_at "op")) | refine ⟨_, _, _, rfl, rfl, o_inF rfl rfl rfl, ?_⟩ | refine ⟨_, _, _, rfl, rfl, o_notInF rfl rfl rfl, ?_⟩ | refine ⟨_, _, _, rfl, rfl, i_seq rfl rfl, ?_⟩ | refine ⟨_, _, rfl, l_tup, ?_⟩ | refine ⟨_, rfl, rfl, ?_⟩ | refine ⟨_, _, rfl, rfl, ?_⟩ | refine ⟨_, rfl, ?_⟩ | refine ⟨_, AllD.nil, len_le rfl, ?_⟩ | refine ⟨_, AllD.cons AllD.nil, len_le rfl, ?_⟩ | refine ⟨_, AllD.cons (AllD.cons AllD.nil), len_le rfl, ?_⟩ | refine ⟨_, AllD.cons (AllD.cons (AllD.cons AllD.nil)), len_le rfl, ?_⟩ | refine ⟨_, AllD.cons AllD.nil, ?_⟩ | refine ⟨_, AllD.cons (AllD.cons AllD.nil), ?_⟩ | refine ⟨_, AllD.cons (AllD.cons (AllD.cons AllD.nil)), ?_⟩ | refine ⟨_, AllD.cons (AllD.cons (AllD.cons (AllD.cons AllD.nil))), ?_⟩)
-- one step
local macro_rules | `(tactic| walk_at "st") => `(tactic| first | (guard_target =~ WF _ _ _ _ _; refine f_of ?_) | (guard_target =~ WE _ _ _ _ _; walk_at "ex") | (guard_target =~ WT _ _ _ _ _; walk_at "te") | (guard_target =~ WW _ _ _ _ _; first | refine ww_and1 ?_ | refine ww_or1 ?_ | refine ww_and ?_ | refine ww_or ?_) | (guard_target =~ WA _ _ _ _ _; first | refine wa_nil ?_ | refine wa_cons ?_) | (guard_target =~ WO _ _ _ _ _; first | refine wo_none ?_ | refine wo_some ?_) | (guard_target =~ WS _ _ _ _ _; first | refine s_ret ?_ | refine s_if ?_ | refine s_expr ?_ | refine s_nil ?_) | walk_at "si")
/-! ### plain law: books -/
def nmL : List Str := ["srv", "box", "EXIT", "a1", "undefined"]
def pidD (xs : List Int) : D := .tup [.str "pid", .tup (xs.map .int)]
def prL : List D := [pidD [], pidD [1], pidD [3, 1]]
def nm (a : Fin 5) : Str := nmL.getD a.val ""
def pr (b : Fin 3) : D := prL.getD b.val .non
abbrev R := Fin 5 × Fin 3
def row (r : R) : D := .tup [.str (nm r.1), pr r.2]
def enc (bk : List R) : D := .tup (bk.map row)
def whoR (bk : List R) (a : Fin 5) : Option (Fin 3) := (bk.find? fun r => decide (r.1 = a)).map (·.2)
def prO : Option (Fin 3) → D
  | none => .non
  | some b => pr b
def leR (r q : R) : Bool := leD (row r) (row q)
def sortR (bk : List R) : List R := bk.mergeSort leR
def giveR (bk : List R) (a : Fin 5) (b : Fin 3) (lives : Bool) : List R × Bool :=
  if a = 4 ∨ lives = false ∨ (whoR bk a).isSome then (bk, false) else if bk.any fun r => decide (r.2 = b) then (bk, false) else (sortR (bk ++ [(a, b)]), true)
theorem nm_eq : ∀ a b : Fin 5, decide (nm a = nm b) = decide (a = b) := by decide +kernel
theorem nm_und : ∀ a : Fin 5, decide (nm a = "undefined") = decide (a = 4) := by decide +kernel
theorem nm_ok : ∀ a : Fin 5, isAtomB (.str (nm a)) = true ∧ (nm a).length ≤ 20 := by decide +kernel
theorem pr_cmp : ∀ b : Fin 3, cmpOk (pr b) = true ∧ pidB (pr b) = true ∧ isNon (pr b) = false := by decide +kernel
theorem pr_eq : ∀ a b : Fin 3, eqD (pr a) (pr b) = decide (a = b) := by decide +kernel
theorem pr_ok : ∀ b : Fin 3, pidOk (pr b)
  | 0 => ⟨[], rfl, by decide, by decide, by decide +kernel⟩
  | 1 => ⟨[.int 1], rfl, by decide, by decide, by decide +kernel⟩
  | 2 => ⟨[.int 3, .int 1], rfl, by decide, by decide, by decide +kernel⟩
theorem row_alike : ∀ (a a' : Fin 5) (b b' : Fin 3), PySem.W.alike (row (a, b)).py (row (a', b')).py = true := by decide +kernel
theorem row_flat : ∀ (a : Fin 5) (b : Fin 3), (row (a, b)).flat = true ∧ (row (a, b)).py.depth ≤ 64 := by decide +kernel
theorem le_total : ∀ (a a' : Fin 5) (b b' : Fin 3), (leR (a, b) (a', b') || leR (a', b') (a, b)) = true := by decide +kernel
theorem le_anti : ∀ (a a' : Fin 5) (b b' : Fin 3), leR (a, b) (a', b') = true → leR (a', b') (a, b) = true → (a, b) = (a', b') := by decide +kernel
theorem le_trans' : ∀ (a a' a'' : Fin 5) (b b' b'' : Fin 3), leR (a, b) (a', b') = true → leR (a', b') (a'', b'') = true → leR (a, b) (a'', b'') = true := by decide +kernel
theorem row_mem {rs : List R} {d : D} {rest : List D} (h : d :: rest = rs.map row) : ∃ r rs', rs = r :: rs' ∧ d = row r ∧ rest = rs'.map row := by
  cases rs with
  | nil => cases h
  | cons r rs' =>
    rw [List.map_cons] at h
    exact ⟨r, rs', rfl, (List.cons.inj h).1, (List.cons.inj h).2⟩
theorem who_cons (r : R) (rs : List R) (a : Fin 5) : whoR (r :: rs) a = if r.1 = a then some r.2 else whoR rs a := by
  unfold whoR
  rw [List.find?_cons]
  by_cases h : r.1 = a
  · simp [h]
  · simp [h]
theorem tupD (xs : List D) : D.py (.tup xs) = .tuple (pyAll xs) := by rw [D.py]
theorem sort_ok {bk : List R} (h : bk.length ≤ 60) : SortOk (bk.map row) := by
  refine ⟨by rw [List.length_map, sizeLine_eq]; omega, fun x hx => ?_, fun d hd d' hd' => ?_, .inl fun d hd => ?_⟩
  · obtain ⟨r, _, rfl⟩ := List.mem_map.mp hx
    exact row_flat r.1 r.2
  · rw [List.map_map] at hd hd'
    obtain ⟨r, _, rfl⟩ := List.mem_map.mp hd
    obtain ⟨r', _, rfl⟩ := List.mem_map.mp hd'
    exact row_alike r.1 r'.1 r.2 r'.2
  · rw [List.map_map] at hd
    obtain ⟨r, _, rfl⟩ := List.mem_map.mp hd
    exact ⟨.str (nm r.1), [(pr r.2).py], by show D.py (.tup [.str (nm r.1), pr r.2]) = _; rw [D.py, pyAll, pyAll, pyAll, D.py]⟩
theorem sort_map (bk : List R) : (bk.map row).mergeSort leD = (sortR bk).map row :=
  (List.map_mergeSort (r := leR) (s := leD) (f := row) (l := bk) fun _ _ _ _ => rfl).symm
theorem sort_len (bk : List R) : (sortR bk).length = bk.length := List.length_mergeSort bk
section
variable {P : Program} {w : World} {K : PySem.W.Frag} {mg : Str → Option Value} {base : Heap}
abbrev sW : FT := fun ds Φ => ∃ bk a, ds = [enc bk, .str (nm a)] ∧ Φ (.d (prO (whoR bk a)))
theorem b_who {k : Nat} (dC : DefG P w K mg base k "check_name" (spD K sCN)) : BodyD P w K mg base N_who p_who s_who k sW := by
  intro X0 B ds Φ c hl hF
  obtain ⟨bk, a, rfl, hΦ⟩ := hF
  show WS _ B [.d (enc bk), .d (.str (nm a)), .no, .no] _ _
  refine s_expr (w_call c dC (Nat.le_refl _) ?_)
  repeat walk_at "st"
  refine ⟨⟨?_, (nm_ok a).1⟩, ?_⟩
  · show (nm a).length ≤ sizeLine
    have := (nm_ok a).2
    rw [sizeLine_eq]; omega
  refine s_forL (fun rest Γ => ∃ rs : List R, rest = rs.map row ∧ whoR bk a = whoR rs a ∧ ∃ s1 s2, Γ = [.d (enc bk), .d (.str (nm a)), s1, s2]) c (wi_tup ?_)
  refine f_of (w_d (i := 0) rfl ⟨trivial, _, rfl, ?_⟩)
  refine ⟨⟨bk, rfl, rfl, _, _, rfl⟩, fun d rest Γ' h => ?_, fun Γ' h => ?_⟩
  · obtain ⟨rs, e, hw, s1, s2, rfl⟩ := h
    obtain ⟨r, rs', rfl, rfl, rfl⟩ := row_mem e
    refine ⟨_, _, gd_tup c.calm (gsd_cons (gd_name (i := 2) c.nd (show 2 < 4 by decide)) (gsd_cons (gd_name (i := 3) c.nd (show 3 < 4 by decide)) gsd_nil)), ?_⟩
    repeat walk_at "st"
    rw [nm_eq]
    refine if_b (fun h1 => ?_) (fun h1 => ?_)
    · repeat walk_at "st"
      have h1 := of_decide_eq_true h1
      rw [hw, who_cons, if_pos h1] at hΦ
      exact hΦ
    · repeat walk_at "st"
      have h1 := of_decide_eq_false h1
      exact ⟨by rw [hw, who_cons, if_neg h1], _, _, rfl⟩
  · obtain ⟨rs, e, hw, s1, s2, rfl⟩ := h
    have : rs = [] := by cases rs with
      | nil => rfl
      | cons r rs => cases e
    subst this
    repeat walk_at "st"
    rw [hw] at hΦ
    exact hΦ
def secIs (p : D) : D → Bool
  | .tup [_, q] => eqD q p
  | _ => false
theorem sec_any (bk : List R) (b : Fin 3) : (bk.map row).any (secIs (pr b)) = bk.any fun r => decide (r.2 = b) := by
  rw [List.any_map]
  congr 1
  funext r
  exact pr_eq r.2 b
def fstIs (n : Str) : D → Bool
  | .tup [.str m, _] => decide (m = n)
  | _ => false
theorem fst_row (a : Fin 5) (r : R) : fstIs (nm a) (row r) = decide (r.1 = a) := nm_eq r.1 a
theorem sec_row (b : Fin 3) (r : R) : secIs (pr b) (row r) = decide (r.2 = b) := pr_eq r.2 b
theorem flat_keep {p : D → Bool} {q : R → Bool} (h : ∀ r, p (row r) = q r) : ∀ bk : List R, (bk.map row).flatMap (fun d => if p d = true then [] else [d]) = (bk.filter fun r => !q r).map row
  | [] => rfl
  | r :: bk => by
    rw [List.map_cons, List.flatMap_cons, flat_keep h bk, h, List.filter_cons]
    cases q r <;> rfl
theorem boot_sorted : bootBuiltins "sorted" = some (.builtin "sorted") := by decide +kernel
abbrev sG : FT := fun ds Φ => ∃ bk a b l, ds = [enc bk, .str (nm a), pr b, .bl l] ∧ bk.length ≤ 50 ∧ Φ (.d (.tup [enc (giveR bk a b l).1, .bl (giveR bk a b l).2]))
theorem isNon_pr : ∀ o, isNon (prO o) = !o.isSome
  | none => rfl
  | some b => (pr_cmp b).2.2
theorem b_give {k : Nat} (g6 : GS mg "UNDEFINED" "undefined") (g7 : mg "any" = none) (g8 : mg "tuple" = none) (g9 : mg "sorted" = none) (dC : DefG P w K mg base k "check_name" (spD K sCN)) (dP : DefG P w K mg base k "check_processes" (spD K sCP)) (dW : DefG P w K mg base k "who" (spD K sW)) : BodyD P w K mg base N_give p_give s_give k sG := by
  intro X0 B ds Φ c hl hF
  obtain ⟨bk, a, b, l, rfl, hb, hΦ⟩ := hF
  show WS _ B [.d (enc bk), .d (.str (nm a)), .d (pr b), .d (.bl l), .no, .no] _ _
  refine s_expr (w_call c dC (Nat.le_refl _) ?_)
  repeat walk_at "st"
  refine ⟨⟨?_, (nm_ok a).1⟩, ?_⟩
  · show (nm a).length ≤ sizeLine
    have := (nm_ok a).2
    rw [sizeLine_eq]; omega
  refine s_expr (w_call c dP (Nat.le_refl _) ?_)
  repeat walk_at "st"
  refine ⟨⟨_, rfl, pr_ok b, (pr_cmp b).2.1⟩, ?_⟩
  have fin : ∀ bk' l', giveR bk a b l = (bk', l') → Φ (.d (.tup [enc bk', .bl l'])) := fun bk' l' e => by rw [e] at hΦ; exact hΦ
  have out : a = 4 ∨ l = false ∨ (whoR bk a).isSome → Φ (.d (.tup [enc bk, .bl false])) := fun h => fin _ _ (by unfold giveR; rw [if_pos h])
  repeat walk_at "st"
  rw [nm_und]
  refine if_b (fun h1 => ?_) (fun h1 => ?_)
  · repeat walk_at "st"
    exact (out (.inl (of_decide_eq_true h1)))
  repeat walk_at "st"
  refine if_b (fun h2 => ?_) (fun h2 => ?_)
  · repeat walk_at "st"
    exact (out (.inr (.inl (of_decide_eq_true h2))))
  repeat walk_at "st"
  refine w_call c dW (Nat.le_refl _) ?_
  repeat walk_at "st"
  refine ⟨bk, a, rfl, ?_⟩
  repeat walk_at "st"
  rw [isNon_pr]
  refine if_b (fun h3 => ?_) (fun h3 => ?_)
  · repeat walk_at "st"
    exact (out (.inr (.inr (by simpa using h3))))
  repeat walk_at "st"
  have hno : ¬ (a = 4 ∨ l = false ∨ (whoR bk a).isSome) := by
    have h1 := of_decide_eq_false h1
    have h2 := of_decide_eq_false h2
    have h3 : (whoR bk a).isSome = false := by simpa using h3
    rw [h3]
    rintro (h | h | h)
    · exact h1 h
    · exact h2 h
    · cases h
  refine w_any (secIs (pr b)) (own := [("other", 4), ("one", 5)]) c ⟨rfl, by dsimp only [bx]; decide +kernel, by dsimp only [bx]; decide +kernel, by dsimp only [bx]; decide +kernel, by dsimp only [bx]; decide +kernel⟩ g7 (wi_tup ?_)
  refine f_of (w_d (i := 0) rfl ⟨trivial, _, rfl, ?_⟩)
  refine ⟨by rw [List.length_map, sizeLine_eq]; omega, fun d hd => ?_, ?_⟩
  · obtain ⟨r, _, rfl⟩ := List.mem_map.mp hd
    refine lc_one _ _ (by decide) (fun s H C cl fp => gd_tup (block_cok c).calm (gsd_cons (gd_name (i := 4) (block_cok c).nd (show 4 < 6 by decide)) (gsd_cons (gd_name (i := 5) (block_cok c).nd (show 5 < 6 by decide)) gsd_nil))) fun p o s H C cl fp => ?_
    repeat walk_at "st"
    refine ⟨_, _, _, rfl, rfl, o_eqD (block_cok c) (pr_cmp r.2).1 (pr_cmp b).1, ?_⟩
    exact ⟨trivial, _, rfl, rfl, rfl⟩
  repeat walk_at "st"
  rw [sec_any]
  refine if_b (fun h4 => ?_) (fun h4 => ?_)
  · repeat walk_at "st"
    exact (fin _ _ (by unfold giveR; rw [if_neg hno, if_pos h4]))
  refine s_nil ?_
  refine s_ret (w_tup (wa_cons (f_of ?_)))
  refine w_callT g8 boot_tup (wa_cons (f_fr ?_))
  refine w_callBN g9 boot_sorted (wa_cons (f_fr ?_))
  refine w_lst (wa_star (f_of ?_))
  refine w_d (i := 0) rfl ⟨trivial, _, _, rfl, rfl, ?_⟩
  refine wa_cons ?_
  repeat walk_at "st"
  refine ⟨_, AllD.app (AllD.cons AllD.nil), by rw [List.length_append, List.length_map, sizeLine_eq]; simp only [List.length_singleton]; omega, _, rfl, ?_⟩
  rw [show bk.map row ++ [D.tup [.str (nm a), pr b]] = (bk ++ [(a, b)]).map row from by rw [List.map_append]; rfl]
  refine wa_nil ⟨_, _, rfl, c_sorted c (xs := (bk ++ [(a, b)]).map row) (sort_ok (by rw [List.length_append, List.length_singleton]; omega)), _, rfl, ?_⟩
  refine wa_nil ⟨_, _, rfl, c_tuple, trivial, ?_⟩
  repeat walk_at "st"
  rw [sort_map]
  exact (fin _ _ (by unfold giveR; rw [if_neg hno, if_neg (by rw [h4]; exact Bool.false_ne_true)]))
abbrev sFr : FT := fun ds Φ => ∃ bk a, ds = [enc bk, .str (nm a)] ∧ bk.length ≤ 50 ∧ Φ (.d (.tup [enc (bk.filter fun r => !decide (r.1 = a)), .bl (whoR bk a).isSome]))
theorem b_freed {k : Nat} (g8 : mg "tuple" = none) (dW : DefG P w K mg base k "who" (spD K sW)) : BodyD P w K mg base N_freed p_freed s_freed k sFr := by
  intro X0 B ds Φ c hl hF
  obtain ⟨bk, a, rfl, hb, hΦ⟩ := hF
  show WS _ B [.d (enc bk), .d (.str (nm a)), .no, .no] _ _
  refine s_set 2 c.nd (w_cmp (f_of (w_call c dW (Nat.le_refl _) ?_)))
  repeat walk_at "st"
  refine ⟨bk, a, rfl, ?_⟩
  repeat walk_at "st"
  rw [isNon_pr, Bool.not_not]
  refine ⟨show 2 < 4 by decide, ?_⟩
  refine s_ret (w_tup (wa_cons (f_of ?_)))
  refine w_tupC (fun d => if fstIs (nm a) d = true then [] else [d]) (own := [("row", 3)]) c ⟨rfl, by dsimp only [bx]; decide +kernel, by dsimp only [bx]; decide +kernel, by dsimp only [bx]; decide +kernel, by dsimp only [bx]; decide +kernel⟩ g8 (wi_tup ?_)
  refine f_of (w_d (i := 0) rfl ⟨trivial, _, rfl, ?_⟩)
  refine ⟨by rw [List.length_map, sizeLine_eq]; omega, fun d hd => ?_, ?_⟩
  · obtain ⟨r, _, rfl⟩ := List.mem_map.mp hd
    refine lc_if _ _ (by decide) (fun s H C cl fp => gd_name (i := 3) (block_cok c).nd (show 3 < 4 by decide)) fun p o s H C cl fp => ?_
    repeat walk_at "st"
    rw [nm_eq]
    refine if_b (fun h1 => ?_) (fun h1 => ?_)
    · intro s H C cl fp
      repeat walk_at "st"
      exact ⟨by rw [fst_row, if_neg (by simpa using h1)], rfl⟩
    · exact ⟨by rw [fst_row, if_pos (by simpa using h1)], rfl⟩
  repeat walk_at "st"
  rw [flat_keep (q := fun r => decide (r.1 = a)) (fst_row a)]
  exact hΦ
abbrev sL : FT := fun ds Φ => ∃ bk b, ds = [enc bk, pr b] ∧ bk.length ≤ 50 ∧ Φ (.d (enc (bk.filter fun r => !decide (r.2 = b))))
theorem b_left {k : Nat} (g8 : mg "tuple" = none) (dP : DefG P w K mg base k "check_processes" (spD K sCP)) : BodyD P w K mg base N_left p_left s_left k sL := by
  intro X0 B ds Φ c hl hF
  obtain ⟨bk, b, rfl, hb, hΦ⟩ := hF
  show WS _ B [.d (enc bk), .d (pr b), .no] _ _
  refine s_expr (w_call c dP (Nat.le_refl _) ?_)
  repeat walk_at "st"
  refine ⟨⟨_, rfl, pr_ok b, (pr_cmp b).2.1⟩, ?_⟩
  refine s_ret ?_
  refine w_tupC (fun d => if secIs (pr b) d = true then [] else [d]) (own := [("row", 2)]) c ⟨rfl, by dsimp only [bx]; decide +kernel, by dsimp only [bx]; decide +kernel, by dsimp only [bx]; decide +kernel, by dsimp only [bx]; decide +kernel⟩ g8 (wi_tup ?_)
  refine f_of (w_d (i := 0) rfl ⟨trivial, _, rfl, ?_⟩)
  refine ⟨by rw [List.length_map, sizeLine_eq]; omega, fun d hd => ?_, ?_⟩
  · obtain ⟨r, _, rfl⟩ := List.mem_map.mp hd
    refine lc_if _ _ (by decide) (fun s H C cl fp => gd_name (i := 2) (block_cok c).nd (show 2 < 3 by decide)) fun p o s H C cl fp => ?_
    refine wt_cmp ?_
    repeat walk_at "st"
    refine ⟨_, _, _, rfl, rfl, o_neD (block_cok c) (pr_cmp r.2).1 (pr_cmp b).1, ?_⟩
    rw [pr_eq]
    refine if_b (fun h1 => ?_) (fun h1 => ?_)
    · intro s H C cl fp
      repeat walk_at "st"
      exact ⟨by rw [sec_row, if_neg (by simpa using h1)], rfl⟩
    · exact ⟨by rw [sec_row, if_pos (by simpa using h1)], rfl⟩
  repeat walk_at "st"
  rw [flat_keep (q := fun r => decide (r.2 = b)) (sec_row b)]
  exact hΦ
end
end K22
namespace K22
open PySem PySem.Spec PyProof.Rows L2 DL
-- a name
local macro_rules | `(tactic| walk_at "nm") => `(tactic| first | refine w_d (i := 0) rfl ?_ | refine w_d (i := 1) rfl ?_ | refine w_d (i := 2) rfl ?_ | refine w_d (i := 3) rfl ?_ | refine w_d (i := 4) rfl ?_ | refine w_d (i := 5) rfl ?_ | refine w_d (i := 6) rfl ?_ | refine w_d (i := 7) rfl ?_ | refine w_d (i := 8) rfl ?_ | refine w_d (i := 9) rfl ?_ | refine w_d (i := 10) rfl ?_ | refine w_d (i := 11) rfl ?_ | refine w_d (i := 12) rfl ?_ | refine w_d (i := 13) rfl ?_ | refine w_l (i := 0) rfl ?_ | refine w_l (i := 1) rfl ?_ | refine w_l (i := 2) rfl ?_ | refine w_l (i := 3) rfl ?_ | refine w_l (i := 4) rfl ?_ | refine w_m (i := 1) rfl ?_ | refine w_m (i := 2) rfl ?_ | refine w_m (i := 3) rfl ?_ | refine w_gs (by assumption) ?_ | refine w_gi (by assumption) ?_ | refine w_go (by assumption) ?_)
-- isinstance
local macro_rules | `(tactic| walk_at "isi") => `(tactic| first | refine w_isi isIntT kit_int boot_int (by assumption) (by assumption) ?_ | refine w_isi isBoolT kit_bool DL.boot_bool (by assumption) (by assumption) ?_ | refine w_isi isStrT kit_str boot_str (by assumption) (by assumption) ?_ | refine w_isi isTupT kit_tup boot_tuple (by assumption) (by assumption) ?_ | refine w_isi isLstT kit_lst boot_list (by assumption) (by assumption) ?_)
-- an operation
local macro_rules | `(tactic| walk_at "op") => `(tactic| first | (with_reducible first | exact o_eqI | exact o_eqS | exact o_neI | exact o_neS | exact o_add | exact o_sub | exact o_lt | exact o_le | exact o_gt | exact o_ge | exact o_isN | exact o_notN | exact o_isB) | ((with_reducible refine o_mul ?_) <;> (first | exact cm_r (by omega) (by omega) | exact cm_l (by omega) (by omega))) | ((with_reducible refine o_mod ?_) <;> (first | assumption | decide)) | ((with_reducible refine o_div ?_) <;> (first | assumption | exact ⟨by decide, by decide⟩)))
-- an expression
local macro_rules | `(tactic| walk_at "ex") => `(tactic| first | (guard_target =~ WE _ _ _ (.Name _ _) _; walk_at "nm") | (guard_target =~ WE _ _ _ (.Constant _ _ _) _; first | refine w_int ?_ | refine w_str ?_ | refine w_non ?_ | refine w_bl ?_) | (guard_target =~ WE _ _ _ (.Call _ _ _ _) _; first | walk_at "isi" | refine w_toIntB (by assumption) ?_ | refine w_toInt (by assumption) ?_ | refine w_abs (by assumption) ?_ | refine w_len (by assumption) ?_) | (guard_target =~ WE _ _ _ (.Compare _ _ _ _) _; first | refine w_cmp ?_ | refine w_chain ?_) | (guard_target =~ WE _ _ _ (.BoolOp _ _ _) _; first | refine w_one ?_ | refine w_and ?_ | refine w_or ?_) | (guard_target =~ WE _ _ _ (.Subscript _ _ _) _; first | refine w_slice ?_ | refine w_ix ?_) | refine w_bin ?_ | refine w_ifexp ?_ | refine w_not ?_ | refine w_tup ?_ | refine w_lst ?_)
-- a test
local macro_rules | `(tactic| walk_at "te") => `(tactic| first | (guard_target =~ WT _ _ _ (.Compare _ _ _ _) _; first | refine wt_cmp ?_ | refine wt_chain ?_) | (guard_target =~ WT _ _ _ (.BoolOp _ _ _) _; refine wt_bool ?_) | (guard_target =~ WT _ _ _ (.UnaryOp _ _ _) _; refine wt_not ?_) | refine wt_val ?_)
-- what is left to be shown
local macro_rules | `(tactic| walk_at "si") => `(tactic| first | refine if_y rfl ?_ | refine if_n rfl ?_ | refine ⟨trivial, ?_⟩ | (refine ⟨_, _, ?wz, rfl, rfl, ?wo, ?wr⟩; (case wo => walk_at "op")) | refine ⟨_, _, _, rfl, rfl, o_inF rfl rfl rfl, ?_⟩ | refine ⟨_, _, _, rfl, rfl, o_notInF rfl rfl rfl, ?_⟩ | refine ⟨_, _, _, rfl, rfl, i_seq rfl rfl, ?_⟩ | refine ⟨_, _, rfl, l_tup, ?_⟩ | refine ⟨_, rfl, rfl, ?_⟩ | refine ⟨_, _, rfl, rfl, ?_⟩ | refine ⟨_, rfl, ?_⟩ | refine ⟨_, AllD.nil, len_le rfl, ?_⟩ | refine ⟨_, AllD.cons AllD.nil, len_le rfl, ?_⟩ | refine ⟨_, AllD.cons (AllD.cons AllD.nil), len_le rfl, ?_⟩ | refine ⟨_, AllD.cons (AllD.cons (AllD.cons AllD.nil)), len_le rfl, ?_⟩ | refine ⟨_, AllD.cons AllD.nil, ?_⟩ | refine ⟨_, AllD.cons (AllD.cons AllD.nil), ?_⟩ | refine ⟨_, AllD.cons (AllD.cons (AllD.cons AllD.nil)), ?_⟩ | refine ⟨_, AllD.cons (AllD.cons (AllD.cons (AllD.cons AllD.nil))), ?_⟩)
-- one step
local macro_rules | `(tactic| walk_at "st") => `(tactic| first | (guard_target =~ WF _ _ _ _ _; refine f_of ?_) | (guard_target =~ WE _ _ _ _ _; walk_at "ex") | (guard_target =~ WT _ _ _ _ _; walk_at "te") | (guard_target =~ WW _ _ _ _ _; first | refine ww_and1 ?_ | refine ww_or1 ?_ | refine ww_and ?_ | refine ww_or ?_) | (guard_target =~ WA _ _ _ _ _; first | refine wa_nil ?_ | refine wa_cons ?_) | (guard_target =~ WO _ _ _ _ _; first | refine wo_none ?_ | refine wo_some ?_) | (guard_target =~ WS _ _ _ _ _; first | refine s_ret ?_ | refine s_if ?_ | refine s_expr ?_ | refine s_nil ?_) | walk_at "si")
/-! ### plain law: the pot -/
def PotN (n : Nat) (xs : List D) : Prop := ∃ o m t : Int, xs = [.int o, .int m, .int t] ∧ 0 ≤ o ∧ 0 ≤ m ∧ m < 2305843009213693951 ∧ 0 ≤ t ∧ t ≤ n
/-- what taking does: something below u, the pot goes on -/
abbrev sTk : FIO := fun xs ds Φ => ∃ (n : Nat) (u : Int), PotN n xs ∧ n < 100000 ∧ ds = [.int u] ∧ 0 < u ∧ u < 100000 ∧ ∀ xs' d, PotN (n + 1) xs' → 0 ≤ d → d < u → Φ xs' (.d (.int d))
theorem sq_le {t : Int} (h0 : 0 ≤ t) (h1 : t ≤ 100000) : 0 ≤ 98439 * t * t ∧ 98439 * t * t ≤ 1000000000000000 := by
  have a1 : 0 ≤ t * t := Int.mul_nonneg h0 h0
  have a2 : t * t ≤ 100000 * 100000 := Int.mul_le_mul h1 h1 h0 (by decide)
  rw [Int.mul_assoc]
  omega
theorem prime_at (t : Int) : ∃ q : Int, atI [D.int 2147483647, .int 2147483629, .int 2147483587, .int 2147483579, .int 2147483563] (t % 5) = some (.int q) ∧ 0 < q ∧ q ≤ 2147483647 := by
  have : t % 5 = 0 ∨ t % 5 = 1 ∨ t % 5 = 2 ∨ t % 5 = 3 ∨ t % 5 = 4 := by omega
  rcases this with h | h | h | h | h <;> rw [h] <;> exact ⟨_, rfl, by decide, by decide⟩
section
variable {P : Program} {w : World} {K : PySem.W.Frag} {mg : Str → Option Value} {base : Heap}
theorem b_take {k : Nat} (g1 : mg "int" = none) : BodyIO P w K mg base N_law_take p_law_take s_law_take k sTk := by
  intro X0 B p xs ds Φ c hl hF
  obtain ⟨n, u, ⟨o, m, t, rfl, ho, hm, hm2, ht, ht2⟩, hn, rfl, hu, hu2, hΦ⟩ := hF
  show WS _ B [.l (some p) [.int o, .int m, .int t], .d (.int u), .no, .no, .no] _ _
  have cd : CDiv o u := ⟨hu, by omega⟩
  repeat walk_at "st"
  refine if_b (fun h1 => ?_) (fun h1 => ?_)
  · refine s_set 2 c.nd (w_bin (f_of (w_toInt g1 ?_)))
    repeat walk_at "st"
    refine ⟨show 2 < 5 by decide, ?_⟩
    refine s_putL 0 ?_
    repeat walk_at "st"
    refine ⟨_, _, _, rfl, rfl, f_of (w_int ⟨trivial, _, _, _, _, rfl, rfl, rfl, ?_⟩)⟩
    refine s_ret (w_d (i := 2) rfl ?_)
    refine ⟨_, _, rfl, rfl, hΦ _ _ ⟨_, _, _, rfl, ?_, hm, hm2, ht, by omega⟩ (Int.emod_nonneg _ (by omega)) (Int.emod_lt_of_pos _ hu)⟩
    have h1 := of_decide_eq_true h1
    exact Int.ediv_nonneg (by omega) (by omega)
  · refine s_nil ?_
    refine s_putL 0 ?_
    repeat walk_at "st"
    refine ⟨_, _, _, rfl, rfl, f_of (w_int ⟨trivial, _, _, _, _, rfl, rfl, rfl, ?_⟩)⟩
    have ht' : 0 ≤ t + 1 ∧ t + 1 ≤ 100000 ∧ t + 1 ≤ ((n + 1 : Nat) : Int) := by omega
    generalize t + 1 = t' at *
    have sq := sq_le ht'.1 ht'.2.1
    obtain ⟨q, hq, hq1, hq2⟩ := prime_at t'
    refine s_set 3 c.nd (w_ix (f_fr (w_lst ?_)))
    repeat walk_at "st"
    refine ⟨_, AllD.cons (AllD.cons (AllD.cons (AllD.cons (AllD.cons AllD.nil)))), len_le rfl, _, rfl, ?_⟩
    repeat walk_at "st"
    refine ⟨_, _, _, rfl, rfl, i_seq rfl hq, ?_⟩
    refine ⟨_, rfl, show 3 < 5 by decide, ?_⟩
    refine s_set 4 c.nd ?_
    repeat walk_at "st"
    refine ⟨_, _, _, rfl, rfl, o_pow 80 (by decide) (by omega) (by decide), ?_⟩
    repeat walk_at "st"
    refine ⟨show 4 < 5 by decide, ?_⟩
    generalize hz : (m + 98439 * t' * t' + 587) ^ Int.toNat 3 % q = z
    have hz1 : 0 ≤ z ∧ z < q := by rw [← hz]; exact ⟨Int.emod_nonneg _ (by omega), Int.emod_lt_of_pos _ hq1⟩
    refine s_set 4 c.nd ?_
    repeat walk_at "st"
    refine ⟨show 4 < 5 by decide, ?_⟩
    refine s_ret ?_
    repeat walk_at "st"
    exact hΦ _ _ ⟨_, _, _, rfl, ho, hm, hm2, ht'.1, ht'.2.2⟩ (Int.emod_nonneg _ (by omega)) (Int.emod_lt_of_pos _ hu)
end
end K22
namespace K22
open PySem PySem.Spec PyProof.Rows L2 DL
-- a name
local macro_rules | `(tactic| walk_at "nm") => `(tactic| first | refine w_d (i := 0) rfl ?_ | refine w_d (i := 1) rfl ?_ | refine w_d (i := 2) rfl ?_ | refine w_d (i := 3) rfl ?_ | refine w_d (i := 4) rfl ?_ | refine w_d (i := 5) rfl ?_ | refine w_d (i := 6) rfl ?_ | refine w_d (i := 7) rfl ?_ | refine w_d (i := 8) rfl ?_ | refine w_d (i := 9) rfl ?_ | refine w_d (i := 10) rfl ?_ | refine w_d (i := 11) rfl ?_ | refine w_d (i := 12) rfl ?_ | refine w_d (i := 13) rfl ?_ | refine w_l (i := 0) rfl ?_ | refine w_l (i := 1) rfl ?_ | refine w_l (i := 2) rfl ?_ | refine w_l (i := 3) rfl ?_ | refine w_l (i := 4) rfl ?_ | refine w_m (i := 1) rfl ?_ | refine w_m (i := 2) rfl ?_ | refine w_m (i := 3) rfl ?_ | refine w_gs (by assumption) ?_ | refine w_gi (by assumption) ?_ | refine w_go (by assumption) ?_)
-- isinstance
local macro_rules | `(tactic| walk_at "isi") => `(tactic| first | refine w_isi isIntT kit_int boot_int (by assumption) (by assumption) ?_ | refine w_isi isBoolT kit_bool DL.boot_bool (by assumption) (by assumption) ?_ | refine w_isi isStrT kit_str boot_str (by assumption) (by assumption) ?_ | refine w_isi isTupT kit_tup boot_tuple (by assumption) (by assumption) ?_ | refine w_isi isLstT kit_lst boot_list (by assumption) (by assumption) ?_)
-- an operation
local macro_rules | `(tactic| walk_at "op") => `(tactic| first | (with_reducible first | exact o_eqI | exact o_eqS | exact o_neI | exact o_neS | exact o_add | exact o_sub | exact o_lt | exact o_le | exact o_gt | exact o_ge | exact o_isN | exact o_notN | exact o_isB) | ((with_reducible refine o_mul ?_) <;> (first | exact cm_r (by omega) (by omega) | exact cm_l (by omega) (by omega))) | ((with_reducible refine o_mod ?_) <;> (first | assumption | decide)) | ((with_reducible refine o_div ?_) <;> (first | assumption | exact ⟨by decide, by decide⟩)))
-- an expression
local macro_rules | `(tactic| walk_at "ex") => `(tactic| first | (guard_target =~ WE _ _ _ (.Name _ _) _; walk_at "nm") | (guard_target =~ WE _ _ _ (.Constant _ _ _) _; first | refine w_int ?_ | refine w_str ?_ | refine w_non ?_ | refine w_bl ?_) | (guard_target =~ WE _ _ _ (.Call _ _ _ _) _; first | walk_at "isi" | refine w_toIntB (by assumption) ?_ | refine w_toInt (by assumption) ?_ | refine w_abs (by assumption) ?_ | refine w_len (by assumption) ?_) | (guard_target =~ WE _ _ _ (.Compare _ _ _ _) _; first | refine w_cmp ?_ | refine w_chain ?_) | (guard_target =~ WE _ _ _ (.BoolOp _ _ _) _; first | refine w_one ?_ | refine w_and ?_ | refine w_or ?_) | (guard_target =~ WE _ _ _ (.Subscript _ _ _) _; first | refine w_slice ?_ | refine w_ix ?_) | refine w_bin ?_ | refine w_ifexp ?_ | refine w_not ?_ | refine w_tup ?_ | refine w_lst ?_)
-- a test
local macro_rules | `(tactic| walk_at "te") => `(tactic| first | (guard_target =~ WT _ _ _ (.Compare _ _ _ _) _; first | refine wt_cmp ?_ | refine wt_chain ?_) | (guard_target =~ WT _ _ _ (.BoolOp _ _ _) _; refine wt_bool ?_) | (guard_target =~ WT _ _ _ (.UnaryOp _ _ _) _; refine wt_not ?_) | refine wt_val ?_)
-- what is left to be shown
local macro_rules | `(tactic| walk_at "si") => `(tactic| first | refine if_y rfl ?_ | refine if_n rfl ?_ | refine ⟨trivial, ?_⟩ | (refine ⟨_, _, ?wz, rfl, rfl, ?wo, ?wr⟩; (case wo => walk_at "op")) | refine ⟨_, _, _, rfl, rfl, o_inF rfl rfl rfl, ?_⟩ | refine ⟨_, _, _, rfl, rfl, o_notInF rfl rfl rfl, ?_⟩ | refine ⟨_, _, _, rfl, rfl, i_seq rfl rfl, ?_⟩ | refine ⟨_, _, rfl, l_tup, ?_⟩ | refine ⟨_, rfl, rfl, ?_⟩ | refine ⟨_, _, rfl, rfl, ?_⟩ | refine ⟨_, rfl, ?_⟩ | refine ⟨_, AllD.nil, len_le rfl, ?_⟩ | refine ⟨_, AllD.cons AllD.nil, len_le rfl, ?_⟩ | refine ⟨_, AllD.cons (AllD.cons AllD.nil), len_le rfl, ?_⟩ | refine ⟨_, AllD.cons (AllD.cons (AllD.cons AllD.nil)), len_le rfl, ?_⟩ | refine ⟨_, AllD.cons AllD.nil, ?_⟩ | refine ⟨_, AllD.cons (AllD.cons AllD.nil), ?_⟩ | refine ⟨_, AllD.cons (AllD.cons (AllD.cons AllD.nil)), ?_⟩ | refine ⟨_, AllD.cons (AllD.cons (AllD.cons (AllD.cons AllD.nil))), ?_⟩)
-- one step
local macro_rules | `(tactic| walk_at "st") => `(tactic| first | (guard_target =~ WF _ _ _ _ _; refine f_of ?_) | (guard_target =~ WE _ _ _ _ _; walk_at "ex") | (guard_target =~ WT _ _ _ _ _; walk_at "te") | (guard_target =~ WW _ _ _ _ _; first | refine ww_and1 ?_ | refine ww_or1 ?_ | refine ww_and ?_ | refine ww_or ?_) | (guard_target =~ WA _ _ _ _ _; first | refine wa_nil ?_ | refine wa_cons ?_) | (guard_target =~ WO _ _ _ _ _; first | refine wo_none ?_ | refine wo_some ?_) | (guard_target =~ WS _ _ _ _ _; first | refine s_ret ?_ | refine s_if ?_ | refine s_expr ?_ | refine s_nil ?_) | walk_at "si")
theorem at_map {ns : List Int} {p : Nat} (h : p < ns.length) : ∃ i, atI (ns.map D.int) (p : Int) = some (.int i) := by
  refine ⟨ns[p], ?_⟩
  unfold atI ixN
  simp [h]
theorem cut_map (ns : List Int) (lo hi : Option Int) : DL.cutD (ns.map D.int) lo hi = (DL.cutD ns lo hi).map D.int := by
  unfold DL.cutD
  rw [List.length_map, List.map_take, List.map_drop]
section
variable {P : Program} {w : World} {K : PySem.W.Frag} {mg : Str → Option Value} {base : Heap}
/-- the number of cells, the cells -/
def cellsN (n : Nat) (most : Int) : Int := if (if (n : Int) < most then (n : Int) else most) > 1 then (if (n : Int) < most then (n : Int) else most) else 1
abbrev sCl : FT := fun ds Φ => ∃ (ns : List Int) (m : Int), ds = [.lst (ns.map .int), .int m] ∧ m ≤ 1000 ∧ Φ (.n ((List.range (cellsN ns.length m).toNat).map fun i => D.int ((0 : Int) + (i : Nat))))
theorem b_cells {k : Nat} (g1 : mg "list" = none) (g2 : mg "range" = none) (g3 : mg "max" = none) (g4 : mg "min" = none) (g5 : mg "len" = none) : BodyD P w K mg base N_law_cells p_law_cells s_law_cells k sCl := by
  intro X0 B ds Φ c hl hF
  obtain ⟨ns, m, rfl, hm, hΦ⟩ := hF
  show WS _ B [.d (.lst (ns.map .int)), .d (.int m)] _ _
  refine s_ret (w_listRg c g1 g2 (f_of (w_callB g3 boot_max (wa_cons ?_))))
  repeat walk_at "st"
  refine w_callB g4 boot_min (wa_cons ?_)
  repeat walk_at "st"
  refine ⟨_, _, rfl, c_min2 c, ?_⟩
  rw [List.length_map]
  refine ⟨trivial, wa_nil ⟨_, _, rfl, c_max2 c, trivial, _, rfl, ?_, ?_, _, .inl rfl, hΦ⟩⟩
  · split <;> omega
  · have : (if (ns.length : Int) < m then (ns.length : Int) else m) ≤ 1000 := by split <;> omega
    split <;> omega
abbrev sOf : FIO := fun xs ds Φ => ∃ (n : Nat) (ys : List D), PotN n xs ∧ n < 100000 ∧ ds = [.lst ys] ∧ 0 < ys.length ∧ ys.length < 100000 ∧ ∀ (xs' : List D) (i : Nat) (y : D), PotN (n + 1) xs' → ys[i]? = some y → Φ xs' (.d y)
theorem b_of {k : Nat} (g5 : mg "len" = none) (dT : DefG P w K mg base k "_law_take" (spIO K sTk)) : BodyIO P w K mg base N_law_of p_law_of s_law_of k sOf := by
  intro X0 B p xs ds Φ c hl hF
  obtain ⟨n, ys, hp, hn, rfl, h1, h2, hΦ⟩ := hF
  show WS _ B [.l (some p) xs, .d (.lst ys)] _ _
  refine s_ret ?_
  refine w_ix (f_of (w_d (i := 1) rfl ⟨trivial, f_of (w_callIO c dT (Nat.le_refl _) ?_)⟩))
  repeat walk_at "st"
  refine ⟨0, _, _, _, _, rfl, AllD.cons AllD.nil, rfl, n, _, hp, hn, rfl, by omega, by omega, fun xs' d hx h0 h1 => ?_⟩
  obtain ⟨y, hy⟩ : ∃ y, ys[d.toNat]? = some y := ⟨_, List.getElem?_eq_getElem (by omega)⟩
  have ha : atI ys d = some y := by
    unfold atI ixN
    rw [if_pos h0, if_pos h1]
    exact hy
  refine ⟨trivial, _, _, _, rfl, rfl, i_seq rfl ha, ?_⟩
  exact ⟨_, _, rfl, rfl, hΦ _ _ _ hx hy⟩
abbrev sNm : FT := F0 (.n [.str "srv", .str "box", .str "EXIT", .str "a1"])
theorem b_names {k : Nat} : BodyD P w K mg base N_law_names p_law_names s_law_names k sNm := by
  intro X0 B ds Φ c hl hF
  obtain ⟨rfl, hΦ⟩ := hF
  show WS _ B [] _ _
  repeat walk_at "st"
  exact ⟨len_le rfl, _, .inl rfl, hΦ⟩
abbrev sPr : FT := F0 (.n [pidD [], pidD [1], pidD [3, 1]])
theorem b_processes {k : Nat} : BodyD P w K mg base N_law_processes p_law_processes s_law_processes k sPr := by
  intro X0 B ds Φ c hl hF
  obtain ⟨rfl, hΦ⟩ := hF
  show WS _ B [] _ _
  repeat walk_at "st"
  exact ⟨_, .inl rfl, hΦ⟩
abbrev sPot : FT := fun ds Φ => ∃ (ns : List Int) (p : Nat), ds = [.lst (ns.map .int), .int p] ∧ p < 1000 ∧ ∀ xs, PotN 0 xs → Φ (.n xs)
theorem b_pot {k : Nat} (g1 : mg "int" = none) (g2 : mg "abs" = none) (g3 : mg "len" = none) (g4 : mg "sum" = none) : BodyD P w K mg base N_law_pot p_law_pot s_law_pot k sPot := by
  intro X0 B ds Φ c hl hF
  obtain ⟨ns, p, rfl, hp, hΦ⟩ := hF
  show WS _ B [.d (.lst (ns.map .int)), .d (.int p), .no, .no, .no] _ _
  have rest : ∀ i : Int, WS (bx P w K mg base N_law_pot (defScope s_law_pot) X0) B [.d (.lst (ns.map .int)), .d (.int p), .d (.int i), .no, .no] (defBody s_law_pot).tail (postD Φ) := by
    intro i
    refine s_set 3 c.nd ?_
    repeat walk_at "st"
    refine ⟨_, _, _, rfl, rfl, o_pow 4 (by decide) (by decide) (by decide), ?_⟩
    repeat walk_at "st"
    refine ⟨_, _, _, rfl, rfl, o_pow 200 (by decide) (by decide +kernel) (by decide), trivial, _, _, _, rfl, rfl, o_mod (by decide +kernel), ?_⟩
    repeat walk_at "st"
    refine ⟨_, _, _, rfl, rfl, o_pow 4 (by decide) (by decide) (by decide), ?_⟩
    have hb : (0 : Int) < ((10 : Int) ^ Int.toNat 60) ^ Int.toNat 5 := by decide +kernel
    generalize ((10 : Int) ^ Int.toNat 60) ^ Int.toNat 5 = big at hb ⊢
    repeat walk_at "st"
    have ho : 0 ≤ (if i < 0 then -i else i) % big * (if decide (10 ^ Int.toNat 18 ≤ if i < 0 then -i else i) = true then 1 else 0) := Int.mul_nonneg (Int.emod_nonneg _ (by omega)) (by generalize decide (10 ^ Int.toNat 18 ≤ if i < 0 then -i else i) = b; cases b <;> decide)
    generalize (if i < 0 then -i else i) % big * (if decide (10 ^ Int.toNat 18 ≤ if i < 0 then -i else i) = true then 1 else 0) = o at ho ⊢
    refine ⟨show 3 < 5 by decide, s_set 4 c.nd ?_⟩
    repeat walk_at "st"
    refine ⟨show 4 < 5 by decide, s_ret ?_⟩
    repeat walk_at "st"
    exact ⟨_, .inl rfl, hΦ _ ⟨_, _, _, rfl, ho, Int.emod_nonneg _ (by decide), Int.lt_trans (Int.emod_lt_of_pos _ (by decide)) (by decide), by decide, by decide⟩⟩
  refine s_set 2 c.nd (w_ifexp ?_)
  repeat walk_at "st"
  rw [List.length_map]
  refine if_b (fun h1 => ?_) (fun h1 => ?_)
  · repeat walk_at "st"
    obtain ⟨i, hi⟩ := at_map (ns := ns) (p := p) (by have := of_decide_eq_true h1; omega)
    refine ⟨_, _, _, rfl, rfl, i_seq rfl hi, _, rfl, show 2 < 5 by decide, rest i⟩
  · repeat walk_at "st"
    refine w_sumI c g4 (w_sliceN ?_)
    repeat walk_at "st"
    refine ⟨_, _, rfl, l_lst, _, congrArg RV.n (cut_map ns none (some 1)), trivial, ?_⟩
    repeat walk_at "st"
    exact ⟨show 2 < 5 by decide, rest _⟩
end
end K22
namespace K22
open PySem PySem.Spec PyProof.Rows L2 DL
/-! ### plain law: the dict and the book -/
theorem sort_uniq {a b : List R} (h : a.Perm b) : sortR a = sortR b := by
  have s : ∀ l : List R, (sortR l).Pairwise fun x y => leR x y = true := fun l => List.pairwise_mergeSort (fun x y z h1 h2 => le_trans' x.1 y.1 z.1 x.2 y.2 z.2 h1 h2) (fun x y => le_total x.1 y.1 x.2 y.2) l
  have p : (sortR a).Perm (sortR b) := (List.mergeSort_perm a leR).trans (h.trans (List.mergeSort_perm b leR).symm)
  exact List.Perm.eq_of_pairwise (fun x y _ _ h1 h2 => le_anti x.1 y.1 x.2 y.2 h1 h2) (s a) (s b) p
theorem sort_perm (a : List R) : (sortR a).Perm a := List.mergeSort_perm a leR
theorem sort_of {a l : List R} (h : a.Perm l) (s : a.Pairwise fun x y => leR x y = true) : a = sortR l := by
  have s' : (sortR l).Pairwise fun x y => leR x y = true := List.pairwise_mergeSort (fun x y z h1 h2 => le_trans' x.1 y.1 z.1 x.2 y.2 z.2 h1 h2) (fun x y => le_total x.1 y.1 x.2 y.2) l
  exact List.Perm.eq_of_pairwise (fun x y _ _ h1 h2 => le_anti x.1 y.1 x.2 y.2 h1 h2) s s' (h.trans (sort_perm l).symm)
theorem sort_filter (q : R → Bool) (l : List R) : (sortR l).filter q = sortR (l.filter q) := by
  have s' : (sortR l).Pairwise fun x y => leR x y = true := List.pairwise_mergeSort (fun x y z h1 h2 => le_trans' x.1 y.1 z.1 x.2 y.2 z.2 h1 h2) (fun x y => le_total x.1 y.1 x.2 y.2) l
  exact sort_of ((sort_perm l).filter q) (s'.filter q)
/-- what the law's dict is: names once, none of them undefined -/
def OwnOk (own : List R) : Prop := (own.map (·.1)).Nodup ∧ ∀ r ∈ own, r.1 ≠ 4
theorem who_mem {own : List R} (h : (own.map (·.1)).Nodup) {a : Fin 5} {b : Fin 3} : whoR own a = some b ↔ (a, b) ∈ own := by
  induction own with
  | nil => simp [whoR]
  | cons r own ih =>
    rw [List.map_cons, List.nodup_cons] at h
    rw [who_cons]
    by_cases e : r.1 = a
    · rw [if_pos e]
      constructor
      · intro q; cases q; rw [← e]; exact List.mem_cons_self
      · intro q
        rcases List.mem_cons.mp q with q | q
        · rw [← q]
        · exact absurd (List.mem_map.mpr ⟨_, q, rfl⟩) (by rw [e] at h; exact h.1)
    · rw [if_neg e, ih h.2]
      constructor
      · exact fun q => List.mem_cons_of_mem _ q
      · intro q
        rcases List.mem_cons.mp q with q | q
        · rw [← q] at e; exact absurd rfl e
        · exact q
theorem who_perm {a b : List R} (h : a.Perm b) (n : (a.map (·.1)).Nodup) (x : Fin 5) : whoR a x = whoR b x := by
  have n' : (b.map (·.1)).Nodup := (h.map _).nodup_iff.mp n
  cases e : whoR b x with
  | some y => exact (who_mem n).mpr (h.mem_iff.mpr ((who_mem n').mp e))
  | none =>
    cases e' : whoR a x with
    | none => rfl
    | some y => rw [(who_mem n').mpr (h.mem_iff.mp ((who_mem n).mp e'))] at e; cases e
theorem who_sort {own : List R} (h : (own.map (·.1)).Nodup) (x : Fin 5) : whoR (sortR own) x = whoR own x :=
  who_perm (sort_perm own) (((sort_perm own).map _).nodup_iff.mpr h) x
theorem any_perm {a b : List R} (h : a.Perm b) (q : R → Bool) : a.any q = b.any q := by
  rw [Bool.eq_iff_iff, List.any_eq_true, List.any_eq_true]
  exact ⟨fun ⟨x, h1, h2⟩ => ⟨x, h.mem_iff.mp h1, h2⟩, fun ⟨x, h1, h2⟩ => ⟨x, h.mem_iff.mpr h1, h2⟩⟩
/-- may a name be given -/
def letR (own : List R) (a : Fin 5) (b : Fin 3) (l : Bool) : Bool := l && (!decide (a = 4) && (!(whoR own a).isSome && !own.any fun r => decide (r.2 = b)))
theorem give_sort {own : List R} (h : OwnOk own) (a : Fin 5) (b : Fin 3) (l : Bool) : giveR (sortR own) a b l = if letR own a b l = true then (sortR (own ++ [(a, b)]), true) else (sortR own, false) := by
  unfold giveR letR
  rw [who_sort h.1, any_perm (sort_perm own)]
  cases l with
  | false => simp
  | true =>
    by_cases h1 : a = 4
    · simp [h1]
    · cases h2 : (whoR own a).isSome with
      | true => simp
      | false =>
        cases h3 : own.any fun r => decide (r.2 = b) with
        | true => simp [h1]
        | false =>
          simp only [h1, Bool.true_eq_false, Bool.false_eq_true, or_self, if_false, decide_false, Bool.not_false, Bool.true_and, if_true]
          rw [sort_uniq (List.Perm.append_right _ (sort_perm own))]
theorem own_add {own : List R} (h : OwnOk own) {a : Fin 5} {b : Fin 3} {l : Bool} (e : letR own a b l = true) : OwnOk (own ++ [(a, b)]) := by
  unfold letR at e
  have e1 := Bool.and_eq_true_iff.mp e
  have e2 := Bool.and_eq_true_iff.mp e1.2
  have e3 := Bool.and_eq_true_iff.mp e2.2
  have n4 : ¬ a = 4 := fun z => by rw [decide_eq_true z] at e2; cases e2.1
  refine ⟨?_, fun r hr => ?_⟩
  · rw [List.map_append, List.nodup_append]
    refine ⟨h.1, by simp, fun x hx y hy => ?_⟩
    obtain ⟨r, hr, rfl⟩ := List.mem_map.mp hx
    have hy : y = a := by simpa using hy
    intro z
    have : whoR own a = some r.2 := (who_mem h.1).mpr (by rw [← hy, ← z]; exact hr)
    rw [this] at e3; cases e3.1
  · rcases List.mem_append.mp hr with hr | hr
    · exact h.2 r hr
    · have : r = (a, b) := by simpa using hr
      rw [this]; exact n4
theorem own_filter {own : List R} (h : OwnOk own) (q : R → Bool) : OwnOk (own.filter q) :=
  ⟨h.1.sublist (List.Sublist.map _ List.filter_sublist), fun r hr => h.2 r (List.mem_filter.mp hr).1⟩
/-! the dict as the walk has it -/
def kvR (r : R) : Key × D := (.inr (nm r.1), pr r.2)
theorem nm_inj {a b : Fin 5} (h : nm a = nm b) : a = b := by
  have := nm_eq a b
  rw [decide_eq_true h] at this
  exact of_decide_eq_true this.symm
theorem key_eq (a b : Fin 5) : decide ((Sum.inr (nm a) : Key) = .inr (nm b)) = decide (a = b) := by
  by_cases h : a = b
  · subst h; simp
  · rw [decide_eq_false h]; exact decide_eq_false fun z => h (nm_inj (Sum.inr.inj z))
theorem at_own : ∀ (own : List R) (a : Fin 5), atD (own.map kvR) (.inr (nm a)) = (whoR own a).map pr
  | [], a => rfl
  | r :: own, a => by
    have ih := at_own own a
    rw [who_cons]
    unfold atD at ih ⊢
    rw [List.map_cons, List.find?_cons]
    by_cases h : r.1 = a
    · rw [show decide ((kvR r).1 = .inr (nm a)) = true by rw [show (kvR r).1 = .inr (nm r.1) from rfl, key_eq, decide_eq_true h], if_pos h]; rfl
    · rw [show decide ((kvR r).1 = .inr (nm a)) = false by rw [show (kvR r).1 = .inr (nm r.1) from rfl, key_eq, decide_eq_false h], if_neg h]; exact ih
theorem put_own {own : List R} {a : Fin 5} {b : Fin 3} (h : (whoR own a).isSome = false) : putD (own.map kvR) (.inr (nm a)) (pr b) = (own ++ [(a, b)]).map kvR := by
  unfold putD
  have : ((own.map kvR).any fun kv => decide (kv.1 = .inr (nm a))) = false := by
    rw [List.any_map, List.any_eq_false]
    intro r hr q
    have q : decide ((Sum.inr (nm r.1) : Key) = .inr (nm a)) = true := q
    rw [key_eq] at q
    have q := of_decide_eq_true q
    have : (whoR own a).isSome = true := by
      unfold whoR
      rw [Option.isSome_map, List.find?_isSome]
      exact ⟨r, hr, decide_eq_true q⟩
    rw [h] at this; cases this
  rw [if_neg (by rw [this]; exact Bool.false_ne_true), List.map_append]
  rfl
theorem drop_own (own : List R) (a : Fin 5) : dropD (own.map kvR) (.inr (nm a)) = (own.filter fun r => !decide (r.1 = a)).map kvR := by
  unfold dropD
  rw [List.filter_map]
  congr 1
  apply List.filter_congr
  intro r _
  show decide (¬ (Sum.inr (nm r.1) : Key) = .inr (nm a)) = _
  rw [decide_not, key_eq]
theorem items_own (own : List R) : (own.map kvR).map DL.pairD = own.map row := by
  rw [List.map_map]
  exact List.map_congr_left fun r _ => rfl
theorem vals_own (own : List R) : (own.map kvR).map (·.2) = own.map fun r => pr r.2 := by
  rw [List.map_map]
  exact List.map_congr_left fun r _ => rfl
theorem in_vals (own : List R) (b : Fin 3) : inD (pr b) (own.map fun r => pr r.2) = own.any fun r => decide (r.2 = b) := by
  unfold inD
  rw [pyAll_map, List.map_map, List.any_map]
  congr 1
  funext r
  exact pr_eq r.2 b
theorem merge_own : ∀ (l m : List R), ((m ++ l).map (·.1)).Nodup → mergeD (m.map kvR) (l.map kvR) = (m ++ l).map kvR
  | [], m, _ => by rw [List.append_nil]; rfl
  | r :: l, m, h => by
    have h2 : (((m ++ [r]) ++ l).map (·.1)).Nodup := by rw [List.append_assoc]; exact h
    have no : (whoR m r.1).isSome = false := by
      cases e : whoR m r.1 with
      | none => rfl
      | some b =>
        rw [List.map_append, List.nodup_append] at h
        have := (who_mem h.1).mp e
        exact absurd rfl (h.2.2 _ (List.mem_map.mpr ⟨_, this, rfl⟩) r.1 (by simp))
    have e : putD (m.map kvR) (.inr (nm r.1)) (pr r.2) = (m ++ [r]).map kvR := put_own no
    show mergeD (putD (m.map kvR) (.inr (nm r.1)) (pr r.2)) (l.map kvR) = _
    rw [e, merge_own l (m ++ [r]) h2, List.append_assoc]
    rfl
/-! what is shown -/
theorem row_short : ∀ (a : Fin 5) (b : Fin 3), (row (a, b)).py.leavesShort 8 = true ∧ (row (a, b)).py.weight ≤ 100 ∧ (row (a, b)).py.showable = true ∧ (row (a, b)).py.depth ≤ 10 := by decide +kernel
end K22
namespace K22
open PySem PySem.Spec PyProof.Rows L2 DL
theorem enc_facts : ∀ bk : List R, PyData.showableAll (pyAll (bk.map row)) = true ∧ PyData.leavesShortAll 8 (pyAll (bk.map row)) = true ∧ PyData.weightAll (pyAll (bk.map row)) ≤ 101 * bk.length ∧ PyData.depthAll (pyAll (bk.map row)) ≤ 10 ∧ flatAll (bk.map row) = true
  | [] => by simp [pyAll, PyData.showableAll, PyData.leavesShortAll, PyData.weightAll, PyData.depthAll, flatAll]
  | r :: bk => by
    obtain ⟨h1, h2, h3, h4, h5⟩ := enc_facts bk
    obtain ⟨g1, g2, g3, g4⟩ := row_short r.1 r.2
    have g5 := (row_flat r.1 r.2).1
    have e : (r.1, r.2) = r := rfl
    rw [e] at g1 g2 g3 g4 g5
    rw [List.map_cons, pyAll, PyData.showableAll, PyData.leavesShortAll, PyData.weightAll, PyData.depthAll, flatAll, h1, h2, h5, g1, g3, g5]
    refine ⟨rfl, rfl, ?_, ?_, rfl⟩
    · rw [List.length_cons]; omega
    · omega
/-- what stands beside the book in an answer -/
abbrev sideOk (y : D) : Prop := y.flat = true ∧ y.py.showable = true ∧ y.py.leavesShort 8 = true ∧ y.py.weight ≤ 100 ∧ y.py.depth ≤ 10
theorem side_bl (b : Bool) : sideOk (.bl b) := by cases b <;> decide +kernel
theorem side_non : sideOk .non := by decide +kernel
theorem side_pr : ∀ b : Fin 3, sideOk (pr b) := by decide +kernel
theorem ans_ok {bk : List R} {y : D} (hy : sideOk y) (hb : bk.length ≤ 100) : reprOk (.tup [enc bk, y]) = true ∧ (D.py (.tup [enc bk, y])).shown.length ≤ sizeLine := by
  obtain ⟨h1, h2, h3, h4, h5⟩ := enc_facts bk
  obtain ⟨y1, y2, y3, y4, y5⟩ := hy
  have e : D.py (.tup [enc bk, y]) = .tuple [.tuple (pyAll (bk.map row)), y.py] := by
    unfold enc
    rw [D.py, pyAll, D.py, pyAll, pyAll]
  have d : (PyData.tuple [.tuple (pyAll (bk.map row)), y.py]).depth ≤ 64 := by
    simp only [PyData.depth, PyData.depthAll]; omega
  have f : (D.tup [enc bk, y]).flat = true := by
    unfold enc
    rw [D.flat, flatAll, D.flat, flatAll, flatAll, h5, y1]; rfl
  have s : (PyData.tuple [.tuple (pyAll (bk.map row)), y.py]).showable = true := by
    simp only [PyData.showable, PyData.showableAll, h1, y2, Bool.and_self]
  have l : (PyData.tuple [.tuple (pyAll (bk.map row)), y.py]).leavesShort 8 = true := by
    simp only [PyData.leavesShort, PyData.leavesShortAll, h2, y3, Bool.and_self]
  have w : (PyData.tuple [.tuple (pyAll (bk.map row)), y.py]).weight ≤ 20000 := by
    simp only [PyData.weight, PyData.weightAll]; omega
  refine ⟨?_, ?_⟩
  · unfold reprOk
    rw [e, f, s, decide_eq_true d]; rfl
  · rw [e]
    have := PyData.shown_le 8 (by decide) _ l
    rw [sizeLine_eq]; omega
end K22
namespace K22
open PySem PySem.Spec PyProof.Rows L2 DL
-- a name
local macro_rules | `(tactic| walk_at "nm") => `(tactic| first | refine w_d (i := 0) rfl ?_ | refine w_d (i := 1) rfl ?_ | refine w_d (i := 2) rfl ?_ | refine w_d (i := 3) rfl ?_ | refine w_d (i := 4) rfl ?_ | refine w_d (i := 5) rfl ?_ | refine w_d (i := 6) rfl ?_ | refine w_d (i := 7) rfl ?_ | refine w_d (i := 8) rfl ?_ | refine w_d (i := 9) rfl ?_ | refine w_d (i := 10) rfl ?_ | refine w_d (i := 11) rfl ?_ | refine w_d (i := 12) rfl ?_ | refine w_d (i := 13) rfl ?_ | refine w_l (i := 0) rfl ?_ | refine w_l (i := 1) rfl ?_ | refine w_l (i := 2) rfl ?_ | refine w_l (i := 3) rfl ?_ | refine w_l (i := 4) rfl ?_ | refine w_m (i := 1) rfl ?_ | refine w_m (i := 2) rfl ?_ | refine w_m (i := 3) rfl ?_ | refine w_gs (by assumption) ?_ | refine w_gi (by assumption) ?_ | refine w_go (by assumption) ?_)
-- isinstance
local macro_rules | `(tactic| walk_at "isi") => `(tactic| first | refine w_isi isIntT kit_int boot_int (by assumption) (by assumption) ?_ | refine w_isi isBoolT kit_bool DL.boot_bool (by assumption) (by assumption) ?_ | refine w_isi isStrT kit_str boot_str (by assumption) (by assumption) ?_ | refine w_isi isTupT kit_tup boot_tuple (by assumption) (by assumption) ?_ | refine w_isi isLstT kit_lst boot_list (by assumption) (by assumption) ?_)
-- an operation
local macro_rules | `(tactic| walk_at "op") => `(tactic| first | (with_reducible first | exact o_eqI | exact o_eqS | exact o_neI | exact o_neS | exact o_add | exact o_sub | exact o_lt | exact o_le | exact o_gt | exact o_ge | exact o_isN | exact o_notN | exact o_isB) | ((with_reducible refine o_mul ?_) <;> (first | exact cm_r (by omega) (by omega) | exact cm_l (by omega) (by omega))) | ((with_reducible refine o_mod ?_) <;> (first | assumption | decide)) | ((with_reducible refine o_div ?_) <;> (first | assumption | exact ⟨by decide, by decide⟩)))
-- an expression
local macro_rules | `(tactic| walk_at "ex") => `(tactic| first | (guard_target =~ WE _ _ _ (.Name _ _) _; walk_at "nm") | (guard_target =~ WE _ _ _ (.Constant _ _ _) _; first | refine w_int ?_ | refine w_str ?_ | refine w_non ?_ | refine w_bl ?_) | (guard_target =~ WE _ _ _ (.Call _ _ _ _) _; first | walk_at "isi" | refine w_toIntB (by assumption) ?_ | refine w_toInt (by assumption) ?_ | refine w_abs (by assumption) ?_ | refine w_len (by assumption) ?_) | (guard_target =~ WE _ _ _ (.Compare _ _ _ _) _; first | refine w_cmp ?_ | refine w_chain ?_) | (guard_target =~ WE _ _ _ (.BoolOp _ _ _) _; first | refine w_one ?_ | refine w_and ?_ | refine w_or ?_) | (guard_target =~ WE _ _ _ (.Subscript _ _ _) _; first | refine w_slice ?_ | refine w_ix ?_) | refine w_bin ?_ | refine w_ifexp ?_ | refine w_not ?_ | refine w_tup ?_ | refine w_lst ?_)
-- a test
local macro_rules | `(tactic| walk_at "te") => `(tactic| first | (guard_target =~ WT _ _ _ (.Compare _ _ _ _) _; first | refine wt_cmp ?_ | refine wt_chain ?_) | (guard_target =~ WT _ _ _ (.BoolOp _ _ _) _; refine wt_bool ?_) | (guard_target =~ WT _ _ _ (.UnaryOp _ _ _) _; refine wt_not ?_) | refine wt_val ?_)
-- what is left to be shown
local macro_rules | `(tactic| walk_at "si") => `(tactic| first | refine if_y rfl ?_ | refine if_n rfl ?_ | refine ⟨trivial, ?_⟩ | (refine ⟨_, _, ?wz, rfl, rfl, ?wo, ?wr⟩; (case wo => walk_at "op")) | refine ⟨_, _, _, rfl, rfl, o_inF rfl rfl rfl, ?_⟩ | refine ⟨_, _, _, rfl, rfl, o_notInF rfl rfl rfl, ?_⟩ | refine ⟨_, _, _, rfl, rfl, i_seq rfl rfl, ?_⟩ | refine ⟨_, _, rfl, l_tup, ?_⟩ | refine ⟨_, rfl, rfl, ?_⟩ | refine ⟨_, _, rfl, rfl, ?_⟩ | refine ⟨_, rfl, ?_⟩ | refine ⟨_, AllD.nil, len_le rfl, ?_⟩ | refine ⟨_, AllD.cons AllD.nil, len_le rfl, ?_⟩ | refine ⟨_, AllD.cons (AllD.cons AllD.nil), len_le rfl, ?_⟩ | refine ⟨_, AllD.cons (AllD.cons (AllD.cons AllD.nil)), len_le rfl, ?_⟩ | refine ⟨_, AllD.cons AllD.nil, ?_⟩ | refine ⟨_, AllD.cons (AllD.cons AllD.nil), ?_⟩ | refine ⟨_, AllD.cons (AllD.cons (AllD.cons AllD.nil)), ?_⟩ | refine ⟨_, AllD.cons (AllD.cons (AllD.cons (AllD.cons AllD.nil))), ?_⟩)
-- one step
local macro_rules | `(tactic| walk_at "st") => `(tactic| first | (guard_target =~ WF _ _ _ _ _; refine f_of ?_) | (guard_target =~ WE _ _ _ _ _; walk_at "ex") | (guard_target =~ WT _ _ _ _ _; walk_at "te") | (guard_target =~ WW _ _ _ _ _; first | refine ww_and1 ?_ | refine ww_or1 ?_ | refine ww_and ?_ | refine ww_or ?_) | (guard_target =~ WA _ _ _ _ _; first | refine wa_nil ?_ | refine wa_cons ?_) | (guard_target =~ WO _ _ _ _ _; first | refine wo_none ?_ | refine wo_some ?_) | (guard_target =~ WS _ _ _ _ _; first | refine s_ret ?_ | refine s_if ?_ | refine s_expr ?_ | refine s_nil ?_) | walk_at "si")
def forB : Stmt → List Stmt
  | .For _ _ b _ _ => b
  | _ => []
def ifB : Stmt → List Stmt
  | .If _ b _ _ => b
  | _ => []
def ifE : Stmt → List Stmt
  | .If _ _ b _ => b
  | _ => []
def nth (l : List Stmt) (i : Nat) : Stmt := l.getD i (.Pass ⟨0, 0, 0, 0⟩)
abbrev if1 : Stmt := nth (forB (nth (defBody s_law_right) 1)) 1
abbrev if2 : Stmt := nth (ifE if1) 0
abbrev if3 : Stmt := nth (ifE if2) 0
/-- behind the branches: the two answers are the same -/
def JR (p : Addr) (n m : Nat) (Γ : Ga) : Prop := ∃ n' xs' own' y t3 t4 t5 t6 t7 t8 bk t11 t12 t13, PotN n' xs' ∧ n' ≤ n + 9 ∧ own'.length ≤ m + 1 ∧ OwnOk own' ∧ sideOk y ∧ Γ = [.l (some p) xs', bk, .m (own'.map kvR), t3, t4, t5, t6, t7, t8, .d (.tup [enc (sortR own'), y]), .d (.tup [enc (sortR own'), y]), t11, t12, t13]
structure Gl2 (mg : Str → Option Value) : Prop where
  range : mg "range" = none
  list : mg "list" = none
  dict : mg "dict" = none
  sorted : mg "sorted" = none
  tuple : mg "tuple" = none
  repr : mg "repr" = none
  all : mg "all" = none
theorem vals_cmp (own : List R) : cmpOk (.lst (own.map fun r => pr r.2)) = true := by
  have h : ∀ own : List R, flatAll (own.map fun r => pr r.2) = true ∧ PyData.canLayAll0 (pyAll (own.map fun r => pr r.2)) = true ∧ PyData.depthAll (pyAll (own.map fun r => pr r.2)) ≤ 10 := fun own => by
    induction own with
    | nil => simp [flatAll, pyAll, PyData.canLayAll0, PyData.depthAll]
    | cons r own ih =>
      obtain ⟨h1, h2, h3⟩ := ih
      have hp : ∀ b : Fin 3, (pr b).flat = true ∧ (pr b).py.canLay0 = true ∧ (pr b).py.depth ≤ 10 := by decide +kernel
      obtain ⟨g1, g2, g3⟩ := hp r.2
      rw [List.map_cons, flatAll, pyAll, PyData.canLayAll0, PyData.depthAll, h1, h2, g1, g2]
      exact ⟨rfl, rfl, by omega⟩
  obtain ⟨h1, h2, h3⟩ := h own
  unfold cmpOk SeqAt.shaped
  rw [D.flat, D.py, h1, PyData.canLay0, h2, PyData.depth, decide_eq_true (by omega)]
  rfl
section
variable {P : Program} {w : World} {K : PySem.W.Frag} {mg : Str → Option Value} {base : Heap}
theorem let_who {own : List R} {a : Fin 5} {b : Fin 3} {l : Bool} (e : letR own a b l = true) : (whoR own a).isSome = false := by
  unfold letR at e
  have e1 := Bool.and_eq_true_iff.mp e
  have e2 := Bool.and_eq_true_iff.mp e1.2
  have e3 := Bool.and_eq_true_iff.mp e2.2
  simpa using e3.1
theorem br1 {k : Nat} (g : Gl2 mg) (dT : DefG P w K mg base k "_law_take" (spIO K sTk)) (dG : DefG P w K mg base k "give" (spD K sG)) {X0 : Cx} {B : Base} {p : Addr} {Q : Post} {xs3 : List D} {own : List R} {d : D} {wv : Int} {a : Fin 5} {b : Fin 3} {s7 s8 s9 s10 s11 s12 s13 : SD} {n : Nat}
    (c : Cok (bx P w K mg base N_law_right (defScope s_law_right) X0) k) (hx3 : PotN (n + 3) xs3) (hn : n + 10 < 1000) (ho : own.length ≤ 20) (ok : OwnOk own) :
    WS (bx P w K mg base N_law_right (defScope s_law_right) X0) B [.l (some p) xs3, .d (enc (sortR own)), .m (own.map kvR), .d d, .d (.int wv), .d (.str (nm a)), .d (pr b), s7, s8, s9, s10, s11, s12, s13] (ifB if1) { Q with nx := JR p n own.length } := by
  refine s_set 5 c.nd (we_mono (Ψ := fun Γ1 r => ∃ xs4 a', PotN (n + 3 + 1) xs4 ∧ r = .d (.str (nm a')) ∧ Γ1 = [.l (some p) xs4, .d (enc (sortR own)), .m (own.map kvR), .d d, .d (.int wv), .d (.str (nm a)), .d (pr b), s7, s8, s9, s10, s11, s12, s13]) ?_ ?_)
  · refine w_ifexp (wt_cmp (f_of (w_callIO c dT (Nat.le_refl _) ?_)))
    repeat walk_at "st"
    refine ⟨0, _, _, _, _, rfl, AllD.cons AllD.nil, rfl, n + 3, _, hx3, by omega, rfl, by decide, by decide, fun xs4 dv hx4 d0 d1 => ⟨trivial, ?_⟩⟩
    repeat walk_at "st"
    refine if_b (fun h4 => ?_) (fun h4 => ?_)
    · refine w_str ⟨xs4, 4, hx4, rfl, rfl⟩
    · refine w_d (i := 5) rfl ⟨xs4, a, hx4, rfl, rfl⟩
  rintro Γ1 r ⟨xs4, a', hx4, rfl, rfl⟩
  refine ⟨_, rfl, show 5 < 14 by decide, ?_⟩
  refine s_set 7 c.nd (w_cmp (f_of (w_callIO c dT (Nat.le_refl _) ?_)))
  repeat walk_at "st"
  refine ⟨0, _, _, _, _, rfl, AllD.cons AllD.nil, rfl, n + 3 + 1, _, hx4, by omega, rfl, by decide, by decide, fun xs5 lv hx5 l0 l1 => ⟨trivial, ?_⟩⟩
  repeat walk_at "st"
  generalize decide (0 < lv) = lives
  refine ⟨show 7 < 14 by decide, ?_⟩
  show WS _ B [.l (some p) xs5, .d (enc (sortR own)), .m (own.map kvR), .d d, .d (.int wv), .d (.str (nm a')), .d (pr b), .d (.bl lives), s8, s9, s10, s11, s12, s13] _ _
  refine s_set 8 c.nd (we_mono (Ψ := fun Γ1 r => r = .d (.bl (letR own a' b lives)) ∧ Γ1 = [.l (some p) xs5, .d (enc (sortR own)), .m (own.map kvR), .d d, .d (.int wv), .d (.str (nm a')), .d (pr b), .d (.bl lives), s8, s9, s10, s11, s12, s13]) ?_ ?_)
  · repeat walk_at "st"
    cases lives with
    | false => exact if_f ⟨rfl, rfl⟩
    | true =>
      refine if_t ?_
      repeat walk_at "st"
      rw [nm_und]
      by_cases h4 : a' = 4
      · rw [decide_eq_true h4]
        refine if_f ⟨?_, rfl⟩
        unfold letR; rw [decide_eq_true h4]; rfl
      rw [decide_eq_false h4]
      refine if_t ?_
      refine w_and (f_of (w_ninM 2 c (f_of (w_d (i := 5) rfl ⟨trivial, .inr (nm a'), _, rfl, rfl, ?_⟩))))
      rw [at_own, Option.isSome_map]
      repeat walk_at "st"
      cases h5 : (whoR own a').isSome with
      | true =>
        refine if_f ⟨?_, rfl⟩
        unfold letR; rw [decide_eq_false h4, h5]; rfl
      | false =>
        refine if_t ?_
        refine w_one (w_cmp (f_of (w_d (i := 6) rfl ⟨trivial, f_fr (w_listVals 2 c g.list rfl ?_)⟩)))
        rw [vals_own]
        refine ⟨_, rfl, _, _, _, rfl, rfl, o_notInD c (pr_cmp b).1 (vals_cmp own), ?_⟩
        rw [in_vals]
        refine ⟨?_, rfl⟩
        unfold letR; rw [decide_eq_false h4, h5]; rfl
  rintro Γ1 r ⟨rfl, rfl⟩
  refine ⟨_, rfl, show 8 < 14 by decide, ?_⟩
  refine s_set 9 c.nd (w_call c dG (Nat.le_refl _) ?_)
  repeat walk_at "st"
  refine ⟨_, a', b, lives, rfl, by rw [sort_len]; omega, ?_⟩
  rw [give_sort ok]
  refine ⟨_, rfl, show 9 < 14 by decide, ?_⟩
  refine s_ifJ (fun Γ => ∃ own', OwnOk own' ∧ own'.length ≤ own.length + 1 ∧ Γ = [.l (some p) xs5, .d (enc (sortR own)), .m (own'.map kvR), .d d, .d (.int wv), .d (.str (nm a')), .d (pr b), .d (.bl lives), .d (.bl (letR own a' b lives)), .d (.tup [enc (sortR own'), .bl (letR own a' b lives)]), s10, s11, s12, s13]) ?_ ?_
  · cases h6 : letR own a' b lives with
    | true =>
      repeat walk_at "st"
      refine s_putM 2 c (f_of (w_d (i := 6) rfl ⟨trivial, _, _, rfl, rfl, f_of (w_d (i := 5) rfl ⟨trivial, .inr (nm a'), _, rfl, rfl, ?_, ?_⟩)⟩))
      · rw [List.length_map, sizeLine_eq]; omega
      rw [put_own (let_who h6)]
      exact s_nil ⟨_, own_add ok h6, by rw [List.length_append]; exact Nat.le_refl _, rfl⟩
    | false =>
      repeat walk_at "st"
      exact ⟨_, ok, Nat.le_succ _, rfl⟩
  rintro Γ1 ⟨own', ok', ho', rfl⟩
  generalize letR own a' b lives = il
  refine s_set 10 c.nd (w_tup (wa_cons (f_of ?_)))
  refine w_callT g.tuple boot_tup (wa_cons (f_fr (w_sortItems 2 c g.sorted rfl (by rw [items_own]; exact sort_ok (by omega)) ?_ boot_sorted)))
  rw [items_own, sort_map]
  refine ⟨_, rfl, wa_nil ⟨_, _, rfl, c_tuple, trivial, ?_⟩⟩
  repeat walk_at "st"
  refine ⟨show 10 < 14 by decide, s_nil ?_⟩
  exact ⟨n + 3 + 1 + 1, xs5, own', .bl il, _, _, _, _, _, _, _, _, _, _, hx5, by omega, ho', ok', side_bl il, rfl⟩
end
end K22
namespace K22
open PySem PySem.Spec PyProof.Rows L2 DL
-- a name
local macro_rules | `(tactic| walk_at "nm") => `(tactic| first | refine w_d (i := 0) rfl ?_ | refine w_d (i := 1) rfl ?_ | refine w_d (i := 2) rfl ?_ | refine w_d (i := 3) rfl ?_ | refine w_d (i := 4) rfl ?_ | refine w_d (i := 5) rfl ?_ | refine w_d (i := 6) rfl ?_ | refine w_d (i := 7) rfl ?_ | refine w_d (i := 8) rfl ?_ | refine w_d (i := 9) rfl ?_ | refine w_d (i := 10) rfl ?_ | refine w_d (i := 11) rfl ?_ | refine w_d (i := 12) rfl ?_ | refine w_d (i := 13) rfl ?_ | refine w_l (i := 0) rfl ?_ | refine w_l (i := 1) rfl ?_ | refine w_l (i := 2) rfl ?_ | refine w_l (i := 3) rfl ?_ | refine w_l (i := 4) rfl ?_ | refine w_m (i := 1) rfl ?_ | refine w_m (i := 2) rfl ?_ | refine w_m (i := 3) rfl ?_ | refine w_gs (by assumption) ?_ | refine w_gi (by assumption) ?_ | refine w_go (by assumption) ?_)
-- isinstance
local macro_rules | `(tactic| walk_at "isi") => `(tactic| first | refine w_isi isIntT kit_int boot_int (by assumption) (by assumption) ?_ | refine w_isi isBoolT kit_bool DL.boot_bool (by assumption) (by assumption) ?_ | refine w_isi isStrT kit_str boot_str (by assumption) (by assumption) ?_ | refine w_isi isTupT kit_tup boot_tuple (by assumption) (by assumption) ?_ | refine w_isi isLstT kit_lst boot_list (by assumption) (by assumption) ?_)
-- an operation
local macro_rules | `(tactic| walk_at "op") => `(tactic| first | (with_reducible first | exact o_eqI | exact o_eqS | exact o_neI | exact o_neS | exact o_add | exact o_sub | exact o_lt | exact o_le | exact o_gt | exact o_ge | exact o_isN | exact o_notN | exact o_isB) | ((with_reducible refine o_mul ?_) <;> (first | exact cm_r (by omega) (by omega) | exact cm_l (by omega) (by omega))) | ((with_reducible refine o_mod ?_) <;> (first | assumption | decide)) | ((with_reducible refine o_div ?_) <;> (first | assumption | exact ⟨by decide, by decide⟩)))
-- an expression
local macro_rules | `(tactic| walk_at "ex") => `(tactic| first | (guard_target =~ WE _ _ _ (.Name _ _) _; walk_at "nm") | (guard_target =~ WE _ _ _ (.Constant _ _ _) _; first | refine w_int ?_ | refine w_str ?_ | refine w_non ?_ | refine w_bl ?_) | (guard_target =~ WE _ _ _ (.Call _ _ _ _) _; first | walk_at "isi" | refine w_toIntB (by assumption) ?_ | refine w_toInt (by assumption) ?_ | refine w_abs (by assumption) ?_ | refine w_len (by assumption) ?_) | (guard_target =~ WE _ _ _ (.Compare _ _ _ _) _; first | refine w_cmp ?_ | refine w_chain ?_) | (guard_target =~ WE _ _ _ (.BoolOp _ _ _) _; first | refine w_one ?_ | refine w_and ?_ | refine w_or ?_) | (guard_target =~ WE _ _ _ (.Subscript _ _ _) _; first | refine w_slice ?_ | refine w_ix ?_) | refine w_bin ?_ | refine w_ifexp ?_ | refine w_not ?_ | refine w_tup ?_ | refine w_lst ?_)
-- a test
local macro_rules | `(tactic| walk_at "te") => `(tactic| first | (guard_target =~ WT _ _ _ (.Compare _ _ _ _) _; first | refine wt_cmp ?_ | refine wt_chain ?_) | (guard_target =~ WT _ _ _ (.BoolOp _ _ _) _; refine wt_bool ?_) | (guard_target =~ WT _ _ _ (.UnaryOp _ _ _) _; refine wt_not ?_) | refine wt_val ?_)
-- what is left to be shown
local macro_rules | `(tactic| walk_at "si") => `(tactic| first | refine if_y rfl ?_ | refine if_n rfl ?_ | refine ⟨trivial, ?_⟩ | (refine ⟨_, _, ?wz, rfl, rfl, ?wo, ?wr⟩; (case wo => walk_at "op")) | refine ⟨_, _, _, rfl, rfl, o_inF rfl rfl rfl, ?_⟩ | refine ⟨_, _, _, rfl, rfl, o_notInF rfl rfl rfl, ?_⟩ | refine ⟨_, _, _, rfl, rfl, i_seq rfl rfl, ?_⟩ | refine ⟨_, _, rfl, l_tup, ?_⟩ | refine ⟨_, rfl, rfl, ?_⟩ | refine ⟨_, _, rfl, rfl, ?_⟩ | refine ⟨_, rfl, ?_⟩ | refine ⟨_, AllD.nil, len_le rfl, ?_⟩ | refine ⟨_, AllD.cons AllD.nil, len_le rfl, ?_⟩ | refine ⟨_, AllD.cons (AllD.cons AllD.nil), len_le rfl, ?_⟩ | refine ⟨_, AllD.cons (AllD.cons (AllD.cons AllD.nil)), len_le rfl, ?_⟩ | refine ⟨_, AllD.cons AllD.nil, ?_⟩ | refine ⟨_, AllD.cons (AllD.cons AllD.nil), ?_⟩ | refine ⟨_, AllD.cons (AllD.cons (AllD.cons AllD.nil)), ?_⟩ | refine ⟨_, AllD.cons (AllD.cons (AllD.cons (AllD.cons AllD.nil))), ?_⟩)
-- one step
local macro_rules | `(tactic| walk_at "st") => `(tactic| first | (guard_target =~ WF _ _ _ _ _; refine f_of ?_) | (guard_target =~ WE _ _ _ _ _; walk_at "ex") | (guard_target =~ WT _ _ _ _ _; walk_at "te") | (guard_target =~ WW _ _ _ _ _; first | refine ww_and1 ?_ | refine ww_or1 ?_ | refine ww_and ?_ | refine ww_or ?_) | (guard_target =~ WA _ _ _ _ _; first | refine wa_nil ?_ | refine wa_cons ?_) | (guard_target =~ WO _ _ _ _ _; first | refine wo_none ?_ | refine wo_some ?_) | (guard_target =~ WS _ _ _ _ _; first | refine s_ret ?_ | refine s_if ?_ | refine s_expr ?_ | refine s_nil ?_) | walk_at "si")
section
variable {P : Program} {w : World} {K : PySem.W.Frag} {mg : Str → Option Value} {base : Heap}
theorem br2 {k : Nat} (g : Gl2 mg) (dF : DefG P w K mg base k "freed" (spD K sFr)) {X0 : Cx} {B : Base} {p : Addr} {Q : Post} {xs3 : List D} {own : List R} {d : D} {wv : Int} {a : Fin 5} {b : Fin 3} {s7 s8 s9 s10 s11 s12 s13 : SD} {n : Nat}
    (c : Cok (bx P w K mg base N_law_right (defScope s_law_right) X0) k) (hx3 : PotN (n + 3) xs3) (ho : own.length ≤ 20) (ok : OwnOk own) :
    WS (bx P w K mg base N_law_right (defScope s_law_right) X0) B [.l (some p) xs3, .d (enc (sortR own)), .m (own.map kvR), .d d, .d (.int wv), .d (.str (nm a)), .d (pr b), s7, s8, s9, s10, s11, s12, s13] (ifB if2) { Q with nx := JR p n own.length } := by
  refine s_par2 9 11 c (by decide) ?_
  refine wa_cons (f_of (w_call c dF (Nat.le_refl _) ?_))
  repeat walk_at "st"
  refine ⟨_, a, rfl, by rw [sort_len]; omega, trivial, ?_⟩
  rw [who_sort ok.1]
  refine wa_cons (f_of (w_inM 2 c (f_of (w_d (i := 5) rfl ⟨trivial, .inr (nm a), _, rfl, rfl, ?_⟩))))
  rw [at_own, Option.isSome_map]
  refine ⟨trivial, wa_nil ⟨_, _, rfl, show 9 < 14 by decide, show 11 < 14 by decide, ?_⟩⟩
  refine s_ifJ (fun Γ => ∃ t10, Γ = [.l (some p) xs3, .d (enc (sortR own)), .m ((own.filter fun r => !decide (r.1 = a)).map kvR), .d d, .d (.int wv), .d (.str (nm a)), .d (pr b), s7, s8, .d (.tup [enc ((sortR own).filter fun r => !decide (r.1 = a)), .bl (whoR own a).isSome]), t10, .d (.bl (whoR own a).isSome), s12, s13]) ?_ ?_
  · cases h : (whoR own a).isSome with
    | true =>
      repeat walk_at "st"
      obtain ⟨b', hb'⟩ := Option.isSome_iff_exists.mp h
      refine w_popM 2 (f_of (w_d (i := 5) rfl ⟨trivial, .inr (nm a), _, pr b', rfl, rfl, ?_, ?_⟩)) ⟨_, rfl⟩ ⟨rfl, rfl, rfl, rfl⟩
      · rw [at_own, hb']; rfl
      rw [drop_own]
      exact s_nil ⟨_, rfl⟩
    | false =>
      repeat walk_at "st"
      refine ⟨s10, ?_⟩
      have : own.filter (fun r => !decide (r.1 = a)) = own := by
        rw [List.filter_eq_self]
        intro r hr
        cases e : decide (r.1 = a) with
        | false => rfl
        | true =>
          have : (whoR own a).isSome = true := by
            unfold whoR
            rw [Option.isSome_map, List.find?_isSome]
            exact ⟨r, hr, e⟩
          rw [h] at this; cases this
      rw [this]; rfl
  rintro Γ1 ⟨t10, rfl⟩
  rw [sort_filter]
  generalize hf : own.filter (fun r => !decide (r.1 = a)) = own'
  have hl : own'.length ≤ own.length := by rw [← hf]; exact List.length_filter_le _ _
  have ok' : OwnOk own' := by rw [← hf]; exact own_filter ok _
  generalize (whoR own a).isSome = il
  refine s_set 10 c.nd (w_tup (wa_cons (f_of ?_)))
  refine w_callT g.tuple boot_tup (wa_cons (f_fr (w_sortItems 2 c g.sorted rfl (by rw [items_own]; exact sort_ok (by omega)) ?_ boot_sorted)))
  rw [items_own, sort_map]
  refine ⟨_, rfl, wa_nil ⟨_, _, rfl, c_tuple, trivial, ?_⟩⟩
  repeat walk_at "st"
  refine ⟨show 10 < 14 by decide, s_nil ?_⟩
  exact ⟨n + 3, xs3, own', .bl il, _, _, _, _, _, _, _, _, _, _, hx3, by omega, by omega, ok', side_bl il, rfl⟩
theorem br3 {k : Nat} (g : Gl2 mg) (dW : DefG P w K mg base k "who" (spD K sW)) {X0 : Cx} {B : Base} {p : Addr} {Q : Post} {xs3 : List D} {own : List R} {d : D} {wv : Int} {a : Fin 5} {b : Fin 3} {s7 s8 s9 s10 s11 s12 s13 : SD} {n : Nat}
    (c : Cok (bx P w K mg base N_law_right (defScope s_law_right) X0) k) (hx3 : PotN (n + 3) xs3) (ho : own.length ≤ 20) (ok : OwnOk own) :
    WS (bx P w K mg base N_law_right (defScope s_law_right) X0) B [.l (some p) xs3, .d (enc (sortR own)), .m (own.map kvR), .d d, .d (.int wv), .d (.str (nm a)), .d (pr b), s7, s8, s9, s10, s11, s12, s13] (ifB if3) { Q with nx := JR p n own.length } := by
  refine s_par2 9 10 c (by decide) ?_
  refine wa_cons (f_of (w_tup (wa_cons (f_of (w_d (i := 1) rfl ⟨trivial, wa_cons (f_of (w_call c dW (Nat.le_refl _) ?_))⟩)))))
  repeat walk_at "st"
  refine ⟨_, a, rfl, ?_⟩
  rw [who_sort ok.1]
  refine ⟨trivial, wa_nil ⟨_, AllD.cons (AllD.cons AllD.nil), len_le rfl, trivial, ?_⟩⟩
  refine wa_cons (f_of (w_tup (wa_cons (f_of (w_d (i := 1) rfl ⟨trivial, wa_cons (f_of (w_getM 2 c (f_of (w_d (i := 5) rfl ⟨trivial, f_of (w_non ⟨trivial, .inr (nm a), _, .non, rfl, rfl, rfl, ?_⟩)⟩)) ⟨_, rfl⟩ ⟨rfl, rfl, rfl, rfl⟩))⟩)))))
  rw [at_own]
  refine ⟨trivial, wa_nil ⟨_, AllD.cons (AllD.cons AllD.nil), len_le rfl, trivial, wa_nil ⟨_, _, rfl, show 9 < 14 by decide, show 10 < 14 by decide, s_nil ?_⟩⟩⟩
  have e : ((whoR own a).map pr).getD .non = prO (whoR own a) := by cases whoR own a <;> rfl
  rw [e]
  have so : sideOk (prO (whoR own a)) := by
    cases whoR own a with
    | none => exact side_non
    | some b => exact side_pr b
  exact ⟨n + 3, xs3, own, _, _, _, _, _, _, _, _, _, _, _, hx3, by omega, by omega, ok, so, rfl⟩
theorem br4 {k : Nat} (g : Gl2 mg) (dL : DefG P w K mg base k "left" (spD K sL)) {X0 : Cx} {B : Base} {p : Addr} {Q : Post} {xs3 : List D} {own : List R} {d : D} {wv : Int} {a : Fin 5} {b : Fin 3} {s7 s8 s9 s10 s11 s12 s13 : SD} {n : Nat}
    (c : Cok (bx P w K mg base N_law_right (defScope s_law_right) X0) k) (hx3 : PotN (n + 3) xs3) (ho : own.length ≤ 20) (ok : OwnOk own) :
    WS (bx P w K mg base N_law_right (defScope s_law_right) X0) B [.l (some p) xs3, .d (enc (sortR own)), .m (own.map kvR), .d d, .d (.int wv), .d (.str (nm a)), .d (pr b), s7, s8, s9, s10, s11, s12, s13] (ifE if3) { Q with nx := JR p n own.length } := by
  refine s_set 2 c.nd (w_dictOf c g.dict boot_dict (f_fr ?_))
  refine w_lcItems (own := [("one", 12), ("its", 13)]) 2 (fun e => if secIs (pr b) e = true then [] else [e]) c ⟨rfl, by dsimp only [bx]; decide +kernel, by dsimp only [bx]; decide +kernel, by dsimp only [bx]; decide +kernel, by dsimp only [bx]; decide +kernel⟩ rfl (by decide) ?_
  rw [items_own]
  refine ⟨by rw [List.length_map, sizeLine_eq]; omega, fun e he => ?_, ?_⟩
  · obtain ⟨r, _, rfl⟩ := List.mem_map.mp he
    refine lc_if _ _ (by decide) (fun s H C cl fp => gd_tup (block_cok c).calm (gsd_cons (gd_name (i := 12) (block_cok c).nd (show 12 < 14 by decide)) (gsd_cons (gd_name (i := 13) (block_cok c).nd (show 13 < 14 by decide)) gsd_nil))) fun p o s H C cl fp => ?_
    refine wt_cmp ?_
    repeat walk_at "st"
    refine ⟨_, _, _, rfl, rfl, o_neD (block_cok c) (pr_cmp r.2).1 (pr_cmp b).1, ?_⟩
    rw [pr_eq]
    refine if_b (fun h1 => ?_) (fun h1 => ?_)
    · intro s H C cl fp
      repeat walk_at "st"
      refine ⟨?_, rfl⟩
      rw [sec_row, if_neg (by simpa using h1)]; rfl
    · exact ⟨by rw [sec_row, if_pos (by simpa using h1)], rfl⟩
  dsimp only
  rw [flat_keep (q := fun r => decide (r.2 = b)) (sec_row b)]
  have ok' := own_filter ok fun r => !decide (r.2 = b)
  have hl : (own.filter fun r => !decide (r.2 = b)).length ≤ own.length := List.length_filter_le _ _
  refine ⟨_, rfl, (own.filter fun r => !decide (r.2 = b)).map kvR, by rw [items_own], ?_⟩
  have mg' := merge_own (own.filter fun r => !decide (r.2 = b)) [] ok'.1
  rw [List.map_nil] at mg'
  rw [mg', List.nil_append]
  refine ⟨_, rfl, show 2 < 14 by decide, ?_⟩
  refine s_par2 9 10 c (by decide) ?_
  refine wa_cons (f_of (w_tup (wa_cons (f_of (w_call c dL (Nat.le_refl _) ?_)))))
  repeat walk_at "st"
  refine ⟨_, b, rfl, by rw [sort_len]; omega, trivial, ?_⟩
  rw [sort_filter]
  generalize hf : own.filter (fun r => !decide (r.2 = b)) = own' at ok' hl
  refine wa_cons (f_of (w_non ⟨trivial, wa_nil ⟨_, AllD.cons (AllD.cons AllD.nil), len_le rfl, trivial, ?_⟩⟩))
  refine wa_cons (f_of (w_tup (wa_cons (f_of ?_))))
  refine w_callT g.tuple boot_tup (wa_cons (f_fr (w_sortItems 2 c g.sorted rfl (by rw [items_own]; exact sort_ok (by omega)) ?_ boot_sorted)))
  rw [items_own, sort_map]
  refine ⟨_, rfl, wa_nil ⟨_, _, rfl, c_tuple, trivial, ?_⟩⟩
  refine wa_cons (f_of (w_non ⟨trivial, wa_nil ⟨_, AllD.cons (AllD.cons AllD.nil), len_le rfl, trivial, ?_⟩⟩))
  refine wa_nil ⟨_, _, rfl, show 9 < 14 by decide, show 10 < 14 by decide, s_nil ?_⟩
  exact ⟨n + 3, xs3, own', .non, _, _, _, _, _, _, _, _, _, _, hx3, by omega, by omega, ok', side_non, rfl⟩
end
end K22
namespace K22
open PySem PySem.Spec PyProof.Rows L2 DL
-- a name
local macro_rules | `(tactic| walk_at "nm") => `(tactic| first | refine w_d (i := 0) rfl ?_ | refine w_d (i := 1) rfl ?_ | refine w_d (i := 2) rfl ?_ | refine w_d (i := 3) rfl ?_ | refine w_d (i := 4) rfl ?_ | refine w_d (i := 5) rfl ?_ | refine w_d (i := 6) rfl ?_ | refine w_d (i := 7) rfl ?_ | refine w_d (i := 8) rfl ?_ | refine w_d (i := 9) rfl ?_ | refine w_d (i := 10) rfl ?_ | refine w_d (i := 11) rfl ?_ | refine w_d (i := 12) rfl ?_ | refine w_d (i := 13) rfl ?_ | refine w_l (i := 0) rfl ?_ | refine w_l (i := 1) rfl ?_ | refine w_l (i := 2) rfl ?_ | refine w_l (i := 3) rfl ?_ | refine w_l (i := 4) rfl ?_ | refine w_m (i := 1) rfl ?_ | refine w_m (i := 2) rfl ?_ | refine w_m (i := 3) rfl ?_ | refine w_gs (by assumption) ?_ | refine w_gi (by assumption) ?_ | refine w_go (by assumption) ?_)
-- isinstance
local macro_rules | `(tactic| walk_at "isi") => `(tactic| first | refine w_isi isIntT kit_int boot_int (by assumption) (by assumption) ?_ | refine w_isi isBoolT kit_bool DL.boot_bool (by assumption) (by assumption) ?_ | refine w_isi isStrT kit_str boot_str (by assumption) (by assumption) ?_ | refine w_isi isTupT kit_tup boot_tuple (by assumption) (by assumption) ?_ | refine w_isi isLstT kit_lst boot_list (by assumption) (by assumption) ?_)
-- an operation
local macro_rules | `(tactic| walk_at "op") => `(tactic| first | (with_reducible first | exact o_eqI | exact o_eqS | exact o_neI | exact o_neS | exact o_add | exact o_sub | exact o_lt | exact o_le | exact o_gt | exact o_ge | exact o_isN | exact o_notN | exact o_isB) | ((with_reducible refine o_mul ?_) <;> (first | exact cm_r (by omega) (by omega) | exact cm_l (by omega) (by omega))) | ((with_reducible refine o_mod ?_) <;> (first | assumption | decide)) | ((with_reducible refine o_div ?_) <;> (first | assumption | exact ⟨by decide, by decide⟩)))
-- an expression
local macro_rules | `(tactic| walk_at "ex") => `(tactic| first | (guard_target =~ WE _ _ _ (.Name _ _) _; walk_at "nm") | (guard_target =~ WE _ _ _ (.Constant _ _ _) _; first | refine w_int ?_ | refine w_str ?_ | refine w_non ?_ | refine w_bl ?_) | (guard_target =~ WE _ _ _ (.Call _ _ _ _) _; first | walk_at "isi" | refine w_toIntB (by assumption) ?_ | refine w_toInt (by assumption) ?_ | refine w_abs (by assumption) ?_ | refine w_len (by assumption) ?_) | (guard_target =~ WE _ _ _ (.Compare _ _ _ _) _; first | refine w_cmp ?_ | refine w_chain ?_) | (guard_target =~ WE _ _ _ (.BoolOp _ _ _) _; first | refine w_one ?_ | refine w_and ?_ | refine w_or ?_) | (guard_target =~ WE _ _ _ (.Subscript _ _ _) _; first | refine w_slice ?_ | refine w_ix ?_) | refine w_bin ?_ | refine w_ifexp ?_ | refine w_not ?_ | refine w_tup ?_ | refine w_lst ?_)
-- a test
local macro_rules | `(tactic| walk_at "te") => `(tactic| first | (guard_target =~ WT _ _ _ (.Compare _ _ _ _) _; first | refine wt_cmp ?_ | refine wt_chain ?_) | (guard_target =~ WT _ _ _ (.BoolOp _ _ _) _; refine wt_bool ?_) | (guard_target =~ WT _ _ _ (.UnaryOp _ _ _) _; refine wt_not ?_) | refine wt_val ?_)
-- what is left to be shown
local macro_rules | `(tactic| walk_at "si") => `(tactic| first | refine if_y rfl ?_ | refine if_n rfl ?_ | refine ⟨trivial, ?_⟩ | (refine ⟨_, _, ?wz, rfl, rfl, ?wo, ?wr⟩; (case wo => walk_at "op")) | refine ⟨_, _, _, rfl, rfl, o_inF rfl rfl rfl, ?_⟩ | refine ⟨_, _, _, rfl, rfl, o_notInF rfl rfl rfl, ?_⟩ | refine ⟨_, _, _, rfl, rfl, i_seq rfl rfl, ?_⟩ | refine ⟨_, _, rfl, l_tup, ?_⟩ | refine ⟨_, rfl, rfl, ?_⟩ | refine ⟨_, _, rfl, rfl, ?_⟩ | refine ⟨_, rfl, ?_⟩ | refine ⟨_, AllD.nil, len_le rfl, ?_⟩ | refine ⟨_, AllD.cons AllD.nil, len_le rfl, ?_⟩ | refine ⟨_, AllD.cons (AllD.cons AllD.nil), len_le rfl, ?_⟩ | refine ⟨_, AllD.cons (AllD.cons (AllD.cons AllD.nil)), len_le rfl, ?_⟩ | refine ⟨_, AllD.cons AllD.nil, ?_⟩ | refine ⟨_, AllD.cons (AllD.cons AllD.nil), ?_⟩ | refine ⟨_, AllD.cons (AllD.cons (AllD.cons AllD.nil)), ?_⟩ | refine ⟨_, AllD.cons (AllD.cons (AllD.cons (AllD.cons AllD.nil))), ?_⟩)
-- one step
local macro_rules | `(tactic| walk_at "st") => `(tactic| first | (guard_target =~ WF _ _ _ _ _; refine f_of ?_) | (guard_target =~ WE _ _ _ _ _; walk_at "ex") | (guard_target =~ WT _ _ _ _ _; walk_at "te") | (guard_target =~ WW _ _ _ _ _; first | refine ww_and1 ?_ | refine ww_or1 ?_ | refine ww_and ?_ | refine ww_or ?_) | (guard_target =~ WA _ _ _ _ _; first | refine wa_nil ?_ | refine wa_cons ?_) | (guard_target =~ WO _ _ _ _ _; first | refine wo_none ?_ | refine wo_some ?_) | (guard_target =~ WS _ _ _ _ _; first | refine s_ret ?_ | refine s_if ?_ | refine s_expr ?_ | refine s_nil ?_) | walk_at "si")
section
variable {P : Program} {w : World} {K : PySem.W.Frag} {mg : Str → Option Value} {base : Heap}
/-- a, {} for two names, not both plain locals -/
theorem s_parM {X : Cx} {B : Base} {Γ : Ga} {a : Expr} {sts : List Stmt} {pos : Pos} {P : Post} {kk : Nat} (i j : Nat) {x y : Str} {px py pt pt2 pd : Pos} {kt k2} (k : Cok X kk) (hij : i ≠ j) (h : WF X B Γ a fun Γ1 r => ∃ u, r = .d u ∧ i < Γ1.length ∧ j < Γ1.length ∧ WS X B ((Γ1.set i (.d u)).set j (.m [])) sts P)
    (hi : X.N[i]? = some x := by rfl) (hj : X.N[j]? = some y := by rfl) (hx : Loc X.env.scope x := by first | exact Or.inl rfl | exact Or.inr rfl) (hy : Loc X.env.scope y := by first | exact Or.inl rfl | exact Or.inr rfl)
    (hfx : X.fn x = true ∨ X.env.scope.names.lookup x = some .local := by first | exact .inl rfl | exact .inr rfl) (hfy : X.fn y = true ∨ X.env.scope.names.lookup y = some .local := by first | exact .inl rfl | exact .inr rfl)
    (h1 : starEach [a, .Dict [] [] pd] X.env = (false, eval a X.env) :: starEach [.Dict [] [] pd] X.env := by rfl) (h2 : starEach [.Dict [] [] pd] X.env = (false, eval (.Dict [] [] pd) X.env) :: starEach [] X.env := by rfl)
    (hs : swapsWithSole [.Tuple [.Name x px, .Name y py] kt pt] (.Tuple [a, .Dict [] [] pd] k2 pt2) pos.line X.env = pure false := by rfl) (hw : swappedStores [.Tuple [.Name x px, .Name y py] kt pt] (.Tuple [a, .Dict [] [] pd] k2 pt2) X.env = pure none := by rfl)
    (hA : (assignEach [.Tuple [.Name x px, .Name y py] kt pt] X.env).map (·.2) = [assign (.Tuple [.Name x px, .Name y py] kt pt) X.env] := by rfl)
    (hB : (assignEach [.Name x px, .Name y py] X.env).map (·.2) = assign (.Name x px) X.env :: (assignEach [.Name y py] X.env).map (·.2) := by rfl) (hC : (assignEach [.Name y py] X.env).map (·.2) = assign (.Name y py) X.env :: (assignEach [] X.env).map (·.2) := by rfl)
    (hD : (assignEach [.Name x px, .Name y py] X.env).length = 2 := by rfl) (hE : (assignEach [.Name x px, .Name y py] X.env).findIdx? (·.1) = none := by rfl) :
    WS X B Γ (.Assign [.Tuple [.Name x px, .Name y py] kt pt] (.Tuple [a, .Dict [] [] pd] k2 pt2) pos :: sts) P :=
  s_cons (ps_asg (pe_tup (pa_cons h (pa_cons pe_dnewK pa_nil h2) h1)) (pg_tup k.calm (pgs_cons (pg_name k.nd hi hx hfx) (pgs_cons (pg_name k.nd hj hy hfy) pgs_nil hC) hB) hD hE) hs hw hA) fun D σ H Hs E n _ _ _ => ⟨Hs, E, fun v H' Hs' Γ' r ex E' ok _ w => by
    obtain ⟨u, rfl, h1, h2, w⟩ := w
    refine fun q hq => ⟨by rw [sizeLine_eq]; show 2 ≤ 16777216; omega, fun t ht => ?_⟩
    obtain ⟨E2, f⟩ := E'.newp (o := .dK []) hq
    obtain ⟨E2, f'⟩ := E2.newp (o := .tup [v, .ref q]) ht
    have nqt : q ≠ t := fun z => by subst z; rw [upd_same] at ht; cases ht
    refine ⟨t, [v, .ref q], rfl, SqT.of upd_same, rfl, v, [.ref q], rfl, .ref q, [], rfl, ?_⟩
    have E3 := E2.put_d (v := v) (x := u) h1 (show Rp X.K Hs' v u from ok)
    have fr3 : ∀ (j : Nat) (t : SD), (Γ'.set i (.d u))[j]? = some t → ¬ owns ((σ.set i (some v))[j]?.getD none) q t := fun l t ht wt => by
      have hl : i < σ.length := by rw [E'.len]; exact h1
      rw [getD_set hl] at wt
      by_cases z : i = l
      · subst z
        rw [List.getElem?_set, if_pos rfl, if_pos h1] at ht
        cases ht; exact wt
      · rw [List.getElem?_set, if_neg z] at ht
        rw [if_neg z] at wt
        exact f.2.2 l t ht wt
    have E4 := E3.put (i := j) (v := .ref q) (s := .m []) (by rw [List.length_set]; exact h2) ⟨q, [], rfl, f.1, by rw [upd_ne nqt, upd_same], .nil⟩ fun p wp => by
      have wp : some (V.ref q) = some (V.ref p) := wp
      cases wp
      exact ⟨f.2.1, fun l t _ ht => fr3 l t ht⟩
    exact ⟨rfl, n _ _ Hs' _ ex E4 w⟩⟩
abbrev sR : FIO := fun xs ds Φ => PotN 0 xs ∧ ds = [] ∧ ∀ xs', Φ xs' (.d (.bl true))
/-- the slots of the law's frame, what is known of them -/
def FrR (p : Addr) (own : List R) (xs : List D) (l : List SD) : Ga := .l (some p) xs :: .d (enc (sortR own)) :: .m (own.map kvR) :: l
theorem sort_nil : sortR [] = [] := by unfold sortR; simp
theorem nm4 {i : Nat} {y : D} (h : ([.str "srv", .str "box", .str "EXIT", .str "a1"] : List D)[i]? = some y) : ∃ a : Fin 5, y = .str (nm a) := by
  match i, h with
  | 0, h => exact ⟨0, (Option.some.inj h).symm⟩
  | 1, h => exact ⟨1, (Option.some.inj h).symm⟩
  | 2, h => exact ⟨2, (Option.some.inj h).symm⟩
  | 3, h => exact ⟨3, (Option.some.inj h).symm⟩
  | (i + 4), h => cases h
theorem pr3 {i : Nat} {y : D} (h : ([pidD [], pidD [1], pidD [3, 1]] : List D)[i]? = some y) : ∃ a : Fin 3, y = pr a := by
  match i, h with
  | 0, h => exact ⟨0, (Option.some.inj h).symm⟩
  | 1, h => exact ⟨1, (Option.some.inj h).symm⟩
  | 2, h => exact ⟨2, (Option.some.inj h).symm⟩
  | (i + 3), h => cases h
theorem b_right {k : Nat} (g : Gl2 mg) (dT : DefG P w K mg base k "_law_take" (spIO K sTk)) (dO : DefG P w K mg base k "_law_of" (spIO K sOf)) (dN : DefG P w K mg base k "_law_names" (spD K sNm)) (dPr : DefG P w K mg base k "_law_processes" (spD K sPr))
    (dG : DefG P w K mg base k "give" (spD K sG)) (dF : DefG P w K mg base k "freed" (spD K sFr)) (dW : DefG P w K mg base k "who" (spD K sW)) (dL : DefG P w K mg base k "left" (spD K sL)) : BodyIO P w K mg base N_law_right p_law_right s_law_right k sR := by
  intro X0 B p xs ds Φ c hl hF
  obtain ⟨hp, rfl, hΦ⟩ := hF
  show WS _ B [.l (some p) xs, .no, .no, .no, .no, .no, .no, .no, .no, .no, .no, .no, .no, .no] _ (postIO p Φ)
  refine s_parM 1 2 c (by decide) ?_
  repeat walk_at "st"
  refine ⟨show 1 < 14 by decide, show 2 < 14 by decide, ?_⟩
  refine s_forL (fun rest Γ => ∃ (n : Nat) (xs : List D) (own : List R) (l : List SD), PotN n xs ∧ n + 10 * rest.length < 1000 ∧ own.length + rest.length ≤ 20 ∧ OwnOk own ∧ l.length = 11 ∧ Γ = FrR p own xs l) c (wi_range1 g.range ?_)
  repeat walk_at "st"
  refine w_callIO c dT (Nat.le_refl _) ?_
  repeat walk_at "st"
  refine ⟨0, _, _, _, _, rfl, AllD.cons AllD.nil, rfl, 0, _, hp, by decide, rfl, by decide, by decide, fun xs' d hx h0 h1 => ?_⟩
  repeat walk_at "st"
  refine ⟨by omega, by omega, ?_, fun d rest Γ' h => ?_, fun Γ' h => ?_⟩
  · refine ⟨1, xs', [], [.no, .no, .no, .no, .no, .no, .no, .no, .no, .no, .no], hx, ?_, ?_, ⟨by simp, by simp⟩, rfl, ?_⟩
    · rw [List.length_map, List.length_range]; omega
    · rw [List.length_map, List.length_range, List.length_nil]; omega
    · unfold FrR; rw [sort_nil]; rfl
  · obtain ⟨n, xs, own, l, hp, hn, ho, ok, hl, rfl⟩ := h
    rw [List.length_cons] at hn ho
    obtain ⟨s3, s4, s5, s6, s7, s8, s9, s10, s11, s12, s13, rfl⟩ : ∃ a b c d e f g h i j k, l = [a, b, c, d, e, f, g, h, i, j, k] := by
      match l, hl with
      | [a, b, c, d, e, f, g, h, i, j, k], _ => exact ⟨_, _, _, _, _, _, _, _, _, _, _, rfl⟩
    refine ⟨_, _, gd_name (i := 3) c.nd (show 3 < 14 by decide), ?_⟩
    refine s_asg (f_of (w_tup ?_))
    refine wa_cons (f_of (w_callIO c dT (Nat.le_refl _) ?_))
    repeat walk_at "st"
    refine ⟨0, _, _, _, _, rfl, AllD.cons AllD.nil, rfl, n, _, hp, by omega, rfl, by decide, by decide, fun xs1 wv hx1 w0 w1 => ⟨trivial, ?_⟩⟩
    refine wa_cons (f_of (w_callIO c dO (Nat.le_refl _) (wa_cons (f_of (w_l (i := 0) rfl ⟨trivial, wa_cons (f_fr (w_call0 c dN (Nat.le_refl _) ⟨rfl, _, rfl, wa_nil ?_⟩))⟩)))))
    refine ⟨0, _, _, _, _, rfl, AllD.cons AllD.nil, rfl, n + 1, _, hx1, by omega, rfl, by decide, by decide, fun xs2 j y hx2 hy => ?_⟩
    obtain ⟨a, rfl⟩ := nm4 hy
    refine ⟨trivial, ?_⟩
    refine wa_cons (f_of (w_callIO c dO (Nat.le_refl _) (wa_cons (f_of (w_l (i := 0) rfl ⟨trivial, wa_cons (f_fr (w_call0 c dPr (Nat.le_refl _) ⟨rfl, _, rfl, wa_nil ?_⟩))⟩)))))
    refine ⟨0, _, _, _, _, rfl, AllD.cons AllD.nil, rfl, n + 1 + 1, _, hx2, by omega, rfl, by decide, by decide, fun xs3 j' y' hx3 hy' => ?_⟩
    obtain ⟨b, rfl⟩ := pr3 hy'
    refine ⟨trivial, wa_nil ⟨_, AllD.cons (AllD.cons (AllD.cons AllD.nil)), len_le rfl, trivial, _, _, _, rfl, gd_tup c.calm (gsd_cons (gd_name (i := 4) c.nd (show 4 < 14 by decide)) (gsd_cons (gd_name (i := 5) c.nd (show 5 < 14 by decide)) (gsd_cons (gd_name (i := 6) c.nd (show 6 < 14 by decide)) gsd_nil))), ?_⟩⟩
    show WS _ B [.l (some p) xs3, .d (enc (sortR own)), .m (own.map kvR), .d d, .d (.int wv), .d (.str (nm a)), .d (pr b), s7, s8, s9, s10, s11, s12, s13] _ _
    refine s_ifJ (JR p n own.length) ?_ ?_
    · repeat walk_at "st"
      refine if_b (fun h3 => ?_) (fun h3 => ?_)
      · exact br1 g dT dG c hx3 (by omega) (by omega) ok
      · refine s_ifJ (JR p n own.length) (wt_cmp ?_) fun Γ z => s_nil z
        repeat walk_at "st"
        refine if_b (fun h4 => ?_) (fun h4 => ?_)
        · exact br2 g dF c hx3 (by omega) ok
        · refine s_ifJ (JR p n own.length) (wt_cmp ?_) fun Γ z => s_nil z
          repeat walk_at "st"
          refine if_b (fun h5 => ?_) (fun h5 => ?_)
          · exact br3 g dW c hx3 (by omega) ok
          · exact br4 g dL c hx3 (by omega) ok
    · rintro Γ2 ⟨n', xs', own', y, t3, t4, t5, t6, t7, t8, bk, t11, t12, t13, hp', hn', ho', ok', so, rfl⟩
      obtain ⟨a1, a2⟩ := ans_ok (bk := sortR own') so (by rw [sort_len]; omega)
      refine s_if (wt_cmp (f_of (w_callB g.repr boot_repr (wa_cons (f_of (w_d (i := 9) rfl ⟨trivial, wa_nil ⟨_, _, rfl, c_repr c rfl a1 a2, trivial, ?_⟩⟩))))))
      refine f_of (w_callB g.repr boot_repr (wa_cons (f_of (w_d (i := 10) rfl ⟨trivial, wa_nil ⟨_, _, rfl, c_repr c rfl a1 a2, trivial, ?_⟩⟩))))
      refine ⟨_, _, _, rfl, rfl, o_neS, if_n (by simp) (s_nil ?_)⟩
      refine s_set 1 c.nd ?_
      repeat walk_at "st"
      exact ⟨show 1 < 14 by decide, s_nil ⟨n', xs', own', [t3, t4, t5, t6, t7, t8, .d (.tup [enc (sortR own'), y]), .d (.tup [enc (sortR own'), y]), t11, t12, t13], hp', by omega, by omega, ok', rfl, rfl⟩⟩
  · obtain ⟨n, xs, own, l, hp, hn, ho, ok, hl, rfl⟩ := h
    obtain ⟨s3, s4, s5, s6, s7, s8, s9, s10, s11, s12, s13, rfl⟩ : ∃ a b c d e f g h i j k, l = [a, b, c, d, e, f, g, h, i, j, k] := by
      match l, hl with
      | [a, b, c, d, e, f, g, h, i, j, k], _ => exact ⟨_, _, _, _, _, _, _, _, _, _, _, rfl⟩
    refine s_ret (w_and (f_of (w_cmp (f_of (w_call c dW (Nat.le_refl _) ?_)))))
    repeat walk_at "st"
    refine ⟨sortR own, 4, rfl, ?_⟩
    have no4 : whoR (sortR own) 4 = none := by
      rw [who_sort ok.1]
      cases e : whoR own 4 with
      | none => rfl
      | some b => exact absurd rfl (ok.2 _ ((who_mem ok.1).mp e))
    rw [no4]
    repeat walk_at "st"
    refine w_all (fun _ => true) (own := [("name", 5)]) c ⟨rfl, by dsimp only [bx]; decide +kernel, by dsimp only [bx]; decide +kernel, by dsimp only [bx]; decide +kernel, by dsimp only [bx]; decide +kernel⟩ g.all (wi_lst (f_fr (w_call0 c dN (Nat.le_refl _) ⟨rfl, _, rfl, _, rfl, ?_⟩)))
    refine ⟨by decide, fun e he => ?_, ?_⟩
    · obtain ⟨j, hj⟩ := List.mem_iff_getElem?.mp he
      obtain ⟨a, rfl⟩ := nm4 hj
      refine lc_one _ _ (by decide) (fun s H C cl fp => gd_name (i := 5) (block_cok c).nd (show 5 < 14 by decide)) fun p' o s H C cl fp => ?_
      refine f_of (w_cmp (f_of (w_call (block_cok c) dW (Nat.le_refl _) ?_)))
      repeat walk_at "st"
      refine ⟨sortR own, a, rfl, trivial, ?_⟩
      rw [who_sort ok.1]
      refine f_of (w_getM 2 (block_cok c) (f_of (w_d (i := 5) rfl ⟨trivial, f_of (w_non ⟨trivial, .inr (nm a), _, .non, rfl, rfl, rfl, ?_⟩)⟩)) ⟨_, rfl⟩ ⟨rfl, rfl, rfl, rfl⟩)
      rw [at_own]
      have e : ((whoR own a).map pr).getD .non = prO (whoR own a) := by cases whoR own a <;> rfl
      rw [e]
      have hc : cmpOk (prO (whoR own a)) = true := by
        cases whoR own a with
        | none => decide +kernel
        | some b => exact (pr_cmp b).1
      have he : eqD (prO (whoR own a)) (prO (whoR own a)) = true := by
        cases whoR own a with
        | none => decide +kernel
        | some b => show eqD (pr b) (pr b) = true; rw [pr_eq, decide_eq_true rfl]
      refine ⟨trivial, _, _, _, rfl, rfl, o_eqD (block_cok c) hc hc, trivial, _, rfl, ?_, rfl⟩
      rw [he]
    · exact ⟨_, _, rfl, rfl, hΦ _⟩
end
end K22
namespace K22
open PySem PySem.Spec PyProof.Rows L2 DL
-- a name
local macro_rules | `(tactic| walk_at "nm") => `(tactic| first | refine w_d (i := 0) rfl ?_ | refine w_d (i := 1) rfl ?_ | refine w_d (i := 2) rfl ?_ | refine w_d (i := 3) rfl ?_ | refine w_d (i := 4) rfl ?_ | refine w_d (i := 5) rfl ?_ | refine w_d (i := 6) rfl ?_ | refine w_d (i := 7) rfl ?_ | refine w_d (i := 8) rfl ?_ | refine w_d (i := 9) rfl ?_ | refine w_d (i := 10) rfl ?_ | refine w_d (i := 11) rfl ?_ | refine w_d (i := 12) rfl ?_ | refine w_d (i := 13) rfl ?_ | refine w_l (i := 0) rfl ?_ | refine w_l (i := 1) rfl ?_ | refine w_l (i := 2) rfl ?_ | refine w_l (i := 3) rfl ?_ | refine w_l (i := 4) rfl ?_ | refine w_m (i := 1) rfl ?_ | refine w_m (i := 2) rfl ?_ | refine w_m (i := 3) rfl ?_ | refine w_gs (by assumption) ?_ | refine w_gi (by assumption) ?_ | refine w_go (by assumption) ?_)
-- isinstance
local macro_rules | `(tactic| walk_at "isi") => `(tactic| first | refine w_isi isIntT kit_int boot_int (by assumption) (by assumption) ?_ | refine w_isi isBoolT kit_bool DL.boot_bool (by assumption) (by assumption) ?_ | refine w_isi isStrT kit_str boot_str (by assumption) (by assumption) ?_ | refine w_isi isTupT kit_tup boot_tuple (by assumption) (by assumption) ?_ | refine w_isi isLstT kit_lst boot_list (by assumption) (by assumption) ?_)
-- an operation
local macro_rules | `(tactic| walk_at "op") => `(tactic| first | (with_reducible first | exact o_eqI | exact o_eqS | exact o_neI | exact o_neS | exact o_add | exact o_sub | exact o_lt | exact o_le | exact o_gt | exact o_ge | exact o_isN | exact o_notN | exact o_isB) | ((with_reducible refine o_mul ?_) <;> (first | exact cm_r (by omega) (by omega) | exact cm_l (by omega) (by omega))) | ((with_reducible refine o_mod ?_) <;> (first | assumption | decide)) | ((with_reducible refine o_div ?_) <;> (first | assumption | exact ⟨by decide, by decide⟩)))
-- an expression
local macro_rules | `(tactic| walk_at "ex") => `(tactic| first | (guard_target =~ WE _ _ _ (.Name _ _) _; walk_at "nm") | (guard_target =~ WE _ _ _ (.Constant _ _ _) _; first | refine w_int ?_ | refine w_str ?_ | refine w_non ?_ | refine w_bl ?_) | (guard_target =~ WE _ _ _ (.Call _ _ _ _) _; first | walk_at "isi" | refine w_toIntB (by assumption) ?_ | refine w_toInt (by assumption) ?_ | refine w_abs (by assumption) ?_ | refine w_len (by assumption) ?_) | (guard_target =~ WE _ _ _ (.Compare _ _ _ _) _; first | refine w_cmp ?_ | refine w_chain ?_) | (guard_target =~ WE _ _ _ (.BoolOp _ _ _) _; first | refine w_one ?_ | refine w_and ?_ | refine w_or ?_) | (guard_target =~ WE _ _ _ (.Subscript _ _ _) _; first | refine w_slice ?_ | refine w_ix ?_) | refine w_bin ?_ | refine w_ifexp ?_ | refine w_not ?_ | refine w_tup ?_ | refine w_lst ?_)
-- a test
local macro_rules | `(tactic| walk_at "te") => `(tactic| first | (guard_target =~ WT _ _ _ (.Compare _ _ _ _) _; first | refine wt_cmp ?_ | refine wt_chain ?_) | (guard_target =~ WT _ _ _ (.BoolOp _ _ _) _; refine wt_bool ?_) | (guard_target =~ WT _ _ _ (.UnaryOp _ _ _) _; refine wt_not ?_) | refine wt_val ?_)
-- what is left to be shown
local macro_rules | `(tactic| walk_at "si") => `(tactic| first | refine if_y rfl ?_ | refine if_n rfl ?_ | refine ⟨trivial, ?_⟩ | (refine ⟨_, _, ?wz, rfl, rfl, ?wo, ?wr⟩; (case wo => walk_at "op")) | refine ⟨_, _, _, rfl, rfl, o_inF rfl rfl rfl, ?_⟩ | refine ⟨_, _, _, rfl, rfl, o_notInF rfl rfl rfl, ?_⟩ | refine ⟨_, _, _, rfl, rfl, i_seq rfl rfl, ?_⟩ | refine ⟨_, _, rfl, l_tup, ?_⟩ | refine ⟨_, rfl, rfl, ?_⟩ | refine ⟨_, _, rfl, rfl, ?_⟩ | refine ⟨_, rfl, ?_⟩ | refine ⟨_, AllD.nil, len_le rfl, ?_⟩ | refine ⟨_, AllD.cons AllD.nil, len_le rfl, ?_⟩ | refine ⟨_, AllD.cons (AllD.cons AllD.nil), len_le rfl, ?_⟩ | refine ⟨_, AllD.cons (AllD.cons (AllD.cons AllD.nil)), len_le rfl, ?_⟩ | refine ⟨_, AllD.cons AllD.nil, ?_⟩ | refine ⟨_, AllD.cons (AllD.cons AllD.nil), ?_⟩ | refine ⟨_, AllD.cons (AllD.cons (AllD.cons AllD.nil)), ?_⟩ | refine ⟨_, AllD.cons (AllD.cons (AllD.cons (AllD.cons AllD.nil))), ?_⟩)
-- one step
local macro_rules | `(tactic| walk_at "st") => `(tactic| first | (guard_target =~ WF _ _ _ _ _; refine f_of ?_) | (guard_target =~ WE _ _ _ _ _; walk_at "ex") | (guard_target =~ WT _ _ _ _ _; walk_at "te") | (guard_target =~ WW _ _ _ _ _; first | refine ww_and1 ?_ | refine ww_or1 ?_ | refine ww_and ?_ | refine ww_or ?_) | (guard_target =~ WA _ _ _ _ _; first | refine wa_nil ?_ | refine wa_cons ?_) | (guard_target =~ WO _ _ _ _ _; first | refine wo_none ?_ | refine wo_some ?_) | (guard_target =~ WS _ _ _ _ _; first | refine s_ret ?_ | refine s_if ?_ | refine s_expr ?_ | refine s_nil ?_) | walk_at "si")
section
variable {P : Program} {w : World} {K : PySem.W.Frag} {mg : Str → Option Value} {base : Heap}
abbrev sLaw : FT := fun ds Φ => ∃ ns : List Int, ds = [.lst (ns.map .int)] ∧ Φ (.d (.bl true))
theorem cells_le (n : Nat) : (cellsN n 1).toNat ≤ 1 := by
  unfold cellsN
  split <;> (try split) <;> omega
theorem b_law {k : Nat} (g : Gl2 mg) (dC : DefG P w K mg base k "_law_cells" (spD K sCl)) (dP : DefG P w K mg base k "_law_pot" (spD K sPot)) (dR : DefG P w K mg base k "_law_right" (spIO K sR)) : BodyD P w K mg base N_law p_law s_law k sLaw := by
  intro X0 B ds Φ c hl hF
  obtain ⟨ns, rfl, hΦ⟩ := hF
  show WS _ B [.d (.lst (ns.map .int)), .no] _ _
  refine s_ret (w_all (fun _ => true) (own := [("place", 1)]) c ⟨rfl, by dsimp only [bx]; decide +kernel, by dsimp only [bx]; decide +kernel, by dsimp only [bx]; decide +kernel, by dsimp only [bx]; decide +kernel⟩ g.all (wi_lst (f_fr (w_call c dC (Nat.le_refl _) ?_))))
  refine wa_cons (f_of (w_d (i := 0) rfl ⟨trivial, wa_cons (f_of (w_int ⟨trivial, wa_nil ⟨_, AllD.cons (AllD.cons AllD.nil), ns, 1, rfl, by decide, _, rfl, _, rfl, ?_⟩⟩))⟩))
  have hc := cells_le ns.length
  refine ⟨by rw [List.length_map, List.length_range, sizeLine_eq]; omega, fun e he => ?_, ?_⟩
  · obtain ⟨i, hi, rfl⟩ := List.mem_map.mp he
    have hi := List.mem_range.mp hi
    refine lc_one _ _ (by decide) (fun s H C cl fp => gd_name (i := 1) (block_cok c).nd (show 1 < 2 by decide)) fun p o s H C cl fp => ?_
    refine f_of (w_callN (block_cok c) dR (Nat.le_refl _) (w_call (block_cok c) dP (Nat.le_refl _) ?_))
    refine wa_cons (f_of (w_d (i := 0) rfl ⟨trivial, wa_cons (f_of (w_d (i := 1) rfl ⟨trivial, wa_nil ⟨_, AllD.cons (AllD.cons AllD.nil), ns, i, by rw [Int.zero_add], by omega, fun xs hx => ?_⟩⟩))⟩))
    exact ⟨xs, rfl, hx, rfl, fun xs' => ⟨trivial, _, rfl, rfl, rfl⟩⟩
  · refine ⟨_, rfl, ?_⟩
    have : (((List.range (cellsN ns.length 1).toNat).map fun i => D.int ((0 : Int) + (i : Nat))).all fun _ => true) = true := by simp
    rw [this]; exact hΦ
end
end K22
namespace K22
open PySem PySem.Spec PyProof.Rows L2 DL
def d_is_integer : He.DefD := ⟨("is_integer", none), "is_integer", "is_integer", defArgs s_is_integer, defBody s_is_integer, defScope s_is_integer, [.non, .non], []⟩
def d_is_atom : He.DefD := ⟨("is_atom", none), "is_atom", "is_atom", defArgs s_is_atom, defBody s_is_atom, defScope s_is_atom, [], []⟩
def d_is_path : He.DefD := ⟨("is_path", none), "is_path", "is_path", defArgs s_is_path, defBody s_is_path, defScope s_is_path, [], []⟩
def d_is_built : He.DefD := ⟨("is_built", none), "is_built", "is_built", defArgs s_is_built, defBody s_is_built, defScope s_is_built, [], []⟩
def d_is_term : He.DefD := ⟨("is_term", none), "is_term", "is_term", defArgs s_is_term, defBody s_is_term, defScope s_is_term, [], []⟩
def d_is_kind_of : He.DefD := ⟨("is_kind_of", none), "is_kind_of", "is_kind_of", defArgs s_is_kind_of, defBody s_is_kind_of, defScope s_is_kind_of, [], []⟩
def d_check_processes : He.DefD := ⟨("check_processes", none), "check_processes", "check_processes", defArgs s_check_processes, defBody s_check_processes, defScope s_check_processes, [], []⟩
def d_check_name : He.DefD := ⟨("check_name", none), "check_name", "check_name", defArgs s_check_name, defBody s_check_name, defScope s_check_name, [], []⟩
def d_who : He.DefD := ⟨("who", none), "who", "who", defArgs s_who, defBody s_who, defScope s_who, [], []⟩
def d_give : He.DefD := ⟨("give", none), "give", "give", defArgs s_give, defBody s_give, defScope s_give, [], []⟩
def d_freed : He.DefD := ⟨("freed", none), "freed", "freed", defArgs s_freed, defBody s_freed, defScope s_freed, [], []⟩
def d_left : He.DefD := ⟨("left", none), "left", "left", defArgs s_left, defBody s_left, defScope s_left, [], []⟩
def d_law_pot : He.DefD := ⟨("_law_pot", none), "_law_pot", "_law_pot", defArgs s_law_pot, defBody s_law_pot, defScope s_law_pot, [], []⟩
def d_law_take : He.DefD := ⟨("_law_take", none), "_law_take", "_law_take", defArgs s_law_take, defBody s_law_take, defScope s_law_take, [], []⟩
def d_law_of : He.DefD := ⟨("_law_of", none), "_law_of", "_law_of", defArgs s_law_of, defBody s_law_of, defScope s_law_of, [], []⟩
def d_law_cells : He.DefD := ⟨("_law_cells", none), "_law_cells", "_law_cells", defArgs s_law_cells, defBody s_law_cells, defScope s_law_cells, [], []⟩
def d_law_processes : He.DefD := ⟨("_law_processes", none), "_law_processes", "_law_processes", defArgs s_law_processes, defBody s_law_processes, defScope s_law_processes, [], []⟩
def d_law_names : He.DefD := ⟨("_law_names", none), "_law_names", "_law_names", defArgs s_law_names, defBody s_law_names, defScope s_law_names, [], []⟩
def d_law_right : He.DefD := ⟨("_law_right", none), "_law_right", "_law_right", defArgs s_law_right, defBody s_law_right, defScope s_law_right, [], []⟩
def d_law : He.DefD := ⟨("law", none), "law", "law", defArgs s_law, defBody s_law, defScope s_law, [], []⟩
def fn : List He.DefD := [d_is_integer, d_is_atom, d_is_path, d_is_built, d_is_term, d_is_kind_of, d_check_processes, d_check_name, d_who, d_give, d_freed, d_left, d_law_pot, d_law_take, d_law_of, d_law_cells, d_law_processes, d_law_names, d_law_right, d_law]
def faA : List He.Fa := [.glo "is_integer", .glo "is_atom", .glo "is_path", .glo "is_built", .glo "is_term", .glo "is_kind_of", .glo "check_processes", .glo "check_name", .glo "who", .glo "give", .glo "freed", .glo "left", .glo "_law_pot", .glo "_law_take", .glo "_law_of", .glo "_law_cells", .glo "_law_processes", .glo "_law_names", .glo "_law_right", .glo "law"]
def faB : List He.Fa := [.free "isinstance", .free "int", .free "bool", .free "str", .free "tuple", .free "len", .free "all", .free "any", .free "sorted", .free "repr", .free "list", .free "dict", .free "range", .free "max", .free "min", .free "abs", .free "sum", .int "MOST_SIGNS" 16, .int "MOST_PATH" 40, .str "TUPLE" "tuple", .str "LIST" "list", .str "ODD" "odd", .str "BYTES" "bytes", .str "MAP" "map", .str "PID" "pid", .str "UNDEFINED" "undefined", .str "SIGNS" signsOf, .glo "RANKS"]
def fa : List He.Fa := faA ++ faB
def ts : List He.Tab := [(fun K => He.ga K "RANKS", ["ref", "fun", "pid", "tuple", "map", "list", "odd", "bytes"])]
def ex (K : PySem.W.Frag) : Bool := He.valsB K (He.ga K "RANKS") [("pid", .int 4)]
abbrev Rw : PySem.W.OpenRow := PySem.W.OpenLaw.row PySem.Challenge.rw_arrivalmill_k22_whole_the_book_of_names
abbrev hk : PySem.W.Hook := He.hookX 4 fa fn ts [] ex
def ob (s : PySem.W.SharedT) : He.AlX := He.obsX 4 fa fn ts [] ex (HandSHeadRun.getT s)
theorem ob_eq (s : PySem.W.SharedT) : ob s = hk.obs s.abs := He.obsX_eq (HandSHeadRun.getT_eq s)
def looseA : List Str := ["MillError", "BadTerm", "SIGNS", "MOST_SIGNS", "MOST_PATH", "MOST_SIZE", "TOP_BYTE", "REF", "FUN", "PID", "TUPLE", "MAP", "LIST", "ODD", "BYTES", "RANKS", "UNDEFINED"]
def looseB : List Str := ["is_integer", "is_atom", "is_path", "are_terms", "is_function", "are_pairs", "is_some_list", "is_built", "is_term", "rank_of", "cells_key", "function_key", "order_key", "is_kind_of", "check_processes", "check_name", "who", "give", "freed", "left", "_law_pot", "_law_take", "_law_of", "_law_cells", "_law_processes", "_law_names", "_law_right"]
def loose : List Str := "__name__" :: (looseA ++ looseB)
theorem run0 (w : World) : HandSHeadRun.RunEq Rw (PySem.W.view Rw.prog [49]) hk ob 2500 loose (w.withFollow "special-get-raises" false) := by
  intro os
  kernel_rfl
theorem run1 (w : World) : HandSHeadRun.RunEq Rw (PySem.W.view Rw.prog [49]) hk ob 2500 loose (w.withFollow "special-get-raises" true) := by
  intro os
  kernel_rfl
theorem run (w : World) : HandSHeadRun.RunEq Rw (PySem.W.view Rw.prog [49]) hk ob 2500 loose w :=
  PySem.W.byRow2 "special-get-raises" (P := fun w => HandSHeadRun.RunEq Rw (PySem.W.view Rw.prog [49]) hk ob 2500 loose w) run0 run1 w
end K22
namespace K22
open PySem PySem.Spec PyProof.Rows L2 DL
theorem law_ok {P : Program} {w : World} {K : PySem.W.Frag} {h : Heap} {mg : Str → Option Value} {base : Heap} (X : K.In h) (G : h.Ns mainGlobals mg) (c : He.SaysX fa fn ts [] ex w h K) : DefG P w K mg base 9 "law" (spD K sLaw) := by
  have cd := c.t.d
  have f_isinstance : mg "isinstance" = none := He.free_ok X G (cd.fact 20 (f := .free "isinstance") rfl)
  have f_int : mg "int" = none := He.free_ok X G (cd.fact 21 (f := .free "int") rfl)
  have f_bool : mg "bool" = none := He.free_ok X G (cd.fact 22 (f := .free "bool") rfl)
  have f_str : mg "str" = none := He.free_ok X G (cd.fact 23 (f := .free "str") rfl)
  have f_tuple : mg "tuple" = none := He.free_ok X G (cd.fact 24 (f := .free "tuple") rfl)
  have f_len : mg "len" = none := He.free_ok X G (cd.fact 25 (f := .free "len") rfl)
  have f_all : mg "all" = none := He.free_ok X G (cd.fact 26 (f := .free "all") rfl)
  have f_any : mg "any" = none := He.free_ok X G (cd.fact 27 (f := .free "any") rfl)
  have f_sorted : mg "sorted" = none := He.free_ok X G (cd.fact 28 (f := .free "sorted") rfl)
  have f_repr : mg "repr" = none := He.free_ok X G (cd.fact 29 (f := .free "repr") rfl)
  have f_list : mg "list" = none := He.free_ok X G (cd.fact 30 (f := .free "list") rfl)
  have f_dict : mg "dict" = none := He.free_ok X G (cd.fact 31 (f := .free "dict") rfl)
  have f_range : mg "range" = none := He.free_ok X G (cd.fact 32 (f := .free "range") rfl)
  have f_max : mg "max" = none := He.free_ok X G (cd.fact 33 (f := .free "max") rfl)
  have f_min : mg "min" = none := He.free_ok X G (cd.fact 34 (f := .free "min") rfl)
  have f_abs : mg "abs" = none := He.free_ok X G (cd.fact 35 (f := .free "abs") rfl)
  have f_sum : mg "sum" = none := He.free_ok X G (cd.fact 36 (f := .free "sum") rfl)
  have f_MOST_SIGNS : GI mg "MOST_SIGNS" 16 := He.int_ok X G (cd.fact 37 (f := .int "MOST_SIGNS" 16) rfl)
  have f_MOST_PATH : GI mg "MOST_PATH" 40 := He.int_ok X G (cd.fact 38 (f := .int "MOST_PATH" 40) rfl)
  have f_TUPLE : GS mg "TUPLE" "tuple" := He.str_ok X G (cd.fact 39 (f := .str "TUPLE" "tuple") rfl)
  have f_LIST : GS mg "LIST" "list" := He.str_ok X G (cd.fact 40 (f := .str "LIST" "list") rfl)
  have f_ODD : GS mg "ODD" "odd" := He.str_ok X G (cd.fact 41 (f := .str "ODD" "odd") rfl)
  have f_BYTES : GS mg "BYTES" "bytes" := He.str_ok X G (cd.fact 42 (f := .str "BYTES" "bytes") rfl)
  have f_MAP : GS mg "MAP" "map" := He.str_ok X G (cd.fact 43 (f := .str "MAP" "map") rfl)
  have f_PID : GS mg "PID" "pid" := He.str_ok X G (cd.fact 44 (f := .str "PID" "pid") rfl)
  have f_UNDEFINED : GS mg "UNDEFINED" "undefined" := He.str_ok X G (cd.fact 45 (f := .str "UNDEFINED" "undefined") rfl)
  have f_SIGNS : GS mg "SIGNS" signsOf := He.str_ok X G (cd.fact 46 (f := .str "SIGNS" signsOf) rfl)
  have f_RANKS : GO mg "RANKS" (He.ga K "RANKS") := He.glo_ok X G (cd.fact 47 (f := .glo "RANKS") rfl)
  have g0 : Gl0 mg := ⟨f_isinstance, f_int, f_bool, f_str, f_tuple, f_len, f_all⟩
  have g1 : Gl1 mg := ⟨f_TUPLE, f_LIST, f_ODD, f_BYTES, f_MAP, f_PID, f_UNDEFINED⟩
  have g2 : Gl2 mg := ⟨f_range, f_list, f_dict, f_sorted, f_tuple, f_repr, f_all⟩
  obtain ⟨es, ne, kd⟩ := c.t.tab 0 (t := (fun K => He.ga K "RANKS", ["ref", "fun", "pid", "tuple", "map", "list", "odd", "bytes"])) rfl
  obtain ⟨u, hu, _⟩ := He.valsB_ok (kvs := [("pid", .int 4)]) c.more (q := ("pid", .int 4)) List.mem_cons_self
  obtain ⟨fd_is_integer, F_is_integer⟩ := cd.def_ 0 (d := d_is_integer) rfl
  obtain ⟨T, o, its, m, U_is_integer, lT, oT, rT⟩ := At.dfl (v := .non) (vs := [.non]) (st := s_is_integer) F_is_integer (He.glo_ok X G (cd.fact 0 (f := .glo "is_integer") rfl))
  obtain ⟨fd_is_atom, F_is_atom⟩ := cd.def_ 1 (d := d_is_atom) rfl
  have U_is_atom : At K mg "is_atom" "is_atom" s_is_atom .none (He.ga K "is_atom") := At.of F_is_atom (He.glo_ok X G (cd.fact 1 (f := .glo "is_atom") rfl))
  obtain ⟨fd_is_path, F_is_path⟩ := cd.def_ 2 (d := d_is_path) rfl
  have U_is_path : At K mg "is_path" "is_path" s_is_path .none (He.ga K "is_path") := At.of F_is_path (He.glo_ok X G (cd.fact 2 (f := .glo "is_path") rfl))
  obtain ⟨fd_is_built, F_is_built⟩ := cd.def_ 3 (d := d_is_built) rfl
  have U_is_built : At K mg "is_built" "is_built" s_is_built .none (He.ga K "is_built") := At.of F_is_built (He.glo_ok X G (cd.fact 3 (f := .glo "is_built") rfl))
  obtain ⟨fd_is_term, F_is_term⟩ := cd.def_ 4 (d := d_is_term) rfl
  have U_is_term : At K mg "is_term" "is_term" s_is_term .none (He.ga K "is_term") := At.of F_is_term (He.glo_ok X G (cd.fact 4 (f := .glo "is_term") rfl))
  obtain ⟨fd_is_kind_of, F_is_kind_of⟩ := cd.def_ 5 (d := d_is_kind_of) rfl
  have U_is_kind_of : At K mg "is_kind_of" "is_kind_of" s_is_kind_of .none (He.ga K "is_kind_of") := At.of F_is_kind_of (He.glo_ok X G (cd.fact 5 (f := .glo "is_kind_of") rfl))
  obtain ⟨fd_check_processes, F_check_processes⟩ := cd.def_ 6 (d := d_check_processes) rfl
  have U_check_processes : At K mg "check_processes" "check_processes" s_check_processes .none (He.ga K "check_processes") := At.of F_check_processes (He.glo_ok X G (cd.fact 6 (f := .glo "check_processes") rfl))
  obtain ⟨fd_check_name, F_check_name⟩ := cd.def_ 7 (d := d_check_name) rfl
  have U_check_name : At K mg "check_name" "check_name" s_check_name .none (He.ga K "check_name") := At.of F_check_name (He.glo_ok X G (cd.fact 7 (f := .glo "check_name") rfl))
  obtain ⟨fd_who, F_who⟩ := cd.def_ 8 (d := d_who) rfl
  have U_who : At K mg "who" "who" s_who .none (He.ga K "who") := At.of F_who (He.glo_ok X G (cd.fact 8 (f := .glo "who") rfl))
  obtain ⟨fd_give, F_give⟩ := cd.def_ 9 (d := d_give) rfl
  have U_give : At K mg "give" "give" s_give .none (He.ga K "give") := At.of F_give (He.glo_ok X G (cd.fact 9 (f := .glo "give") rfl))
  obtain ⟨fd_freed, F_freed⟩ := cd.def_ 10 (d := d_freed) rfl
  have U_freed : At K mg "freed" "freed" s_freed .none (He.ga K "freed") := At.of F_freed (He.glo_ok X G (cd.fact 10 (f := .glo "freed") rfl))
  obtain ⟨fd_left, F_left⟩ := cd.def_ 11 (d := d_left) rfl
  have U_left : At K mg "left" "left" s_left .none (He.ga K "left") := At.of F_left (He.glo_ok X G (cd.fact 11 (f := .glo "left") rfl))
  obtain ⟨fd_law_pot, F_law_pot⟩ := cd.def_ 12 (d := d_law_pot) rfl
  have U_law_pot : At K mg "_law_pot" "_law_pot" s_law_pot .none (He.ga K "_law_pot") := At.of F_law_pot (He.glo_ok X G (cd.fact 12 (f := .glo "_law_pot") rfl))
  obtain ⟨fd_law_take, F_law_take⟩ := cd.def_ 13 (d := d_law_take) rfl
  have U_law_take : At K mg "_law_take" "_law_take" s_law_take .none (He.ga K "_law_take") := At.of F_law_take (He.glo_ok X G (cd.fact 13 (f := .glo "_law_take") rfl))
  obtain ⟨fd_law_of, F_law_of⟩ := cd.def_ 14 (d := d_law_of) rfl
  have U_law_of : At K mg "_law_of" "_law_of" s_law_of .none (He.ga K "_law_of") := At.of F_law_of (He.glo_ok X G (cd.fact 14 (f := .glo "_law_of") rfl))
  obtain ⟨fd_law_cells, F_law_cells⟩ := cd.def_ 15 (d := d_law_cells) rfl
  have U_law_cells : At K mg "_law_cells" "_law_cells" s_law_cells .none (He.ga K "_law_cells") := At.of F_law_cells (He.glo_ok X G (cd.fact 15 (f := .glo "_law_cells") rfl))
  obtain ⟨fd_law_processes, F_law_processes⟩ := cd.def_ 16 (d := d_law_processes) rfl
  have U_law_processes : At K mg "_law_processes" "_law_processes" s_law_processes .none (He.ga K "_law_processes") := At.of F_law_processes (He.glo_ok X G (cd.fact 16 (f := .glo "_law_processes") rfl))
  obtain ⟨fd_law_names, F_law_names⟩ := cd.def_ 17 (d := d_law_names) rfl
  have U_law_names : At K mg "_law_names" "_law_names" s_law_names .none (He.ga K "_law_names") := At.of F_law_names (He.glo_ok X G (cd.fact 17 (f := .glo "_law_names") rfl))
  obtain ⟨fd_law_right, F_law_right⟩ := cd.def_ 18 (d := d_law_right) rfl
  have U_law_right : At K mg "_law_right" "_law_right" s_law_right .none (He.ga K "_law_right") := At.of F_law_right (He.glo_ok X G (cd.fact 18 (f := .glo "_law_right") rfl))
  obtain ⟨fd_law, F_law⟩ := cd.def_ 19 (d := d_law) rfl
  have U_law : At K mg "law" "law" s_law .none (He.ga K "law") := At.of F_law (He.glo_ok X G (cd.fact 19 (f := .glo "law") rfl))
  have D_is_integer : DefG P w K mg base 1 "is_integer" (spD K sI) := def_dd U_is_integer sc_is_integer lT oT rT (fun _ => .cons .non (.cons .non .nil)) (fun _ _ _ _ _ _ us its hl h1 h2 => by
    match its, hl with
    | [x, y], _ =>
      match us, h1, h2 with
      | [], _, h2 => exact absurd (show 3 ≤ 2 from h2) (by decide)
      | [a], _, _ => exact ⟨_, rfl, rfl⟩
      | [a, b], _, _ => exact ⟨_, rfl, rfl⟩
      | [a, b, e], _, _ => exact ⟨_, rfl, rfl⟩
      | a :: b :: e :: d :: r, h1, _ => exact absurd (show r.length + 1 + 1 + 1 + 1 ≤ 3 from h1) (by omega)) (b_is_integer g0)
  have D_is_atom : DefG P w K mg base 1 "is_atom" (spD K sA) := def_d U_is_atom sc_is_atom (fun ds Φ h => h.len) (fun _ _ _ _ _ _ us hl => match us, hl with | [_], _ => rfl) (b_is_atom g0 f_MOST_SIGNS f_SIGNS)
  have D_is_path : DefG P w K mg base 2 "is_path" (spD K (F1 pathOk fun v => .d (.bl (isPathB v)))) := def_d U_is_path sc_is_path (fun ds Φ h => h.len) (fun _ _ _ _ _ _ us hl => match us, hl with | [_], _ => rfl) (b_is_path g0 f_MOST_PATH D_is_integer)
  have D_is_built : DefG P w K mg base 3 "is_built" (spD K sB) := def_d U_is_built sc_is_built (fun ds Φ h => h.len) (fun _ _ _ _ _ _ us hl => match us, hl with | [_, _], _ => rfl) (b_is_built g0 g1 D_is_path)
  have D_is_term : DefG P w K mg base 4 "is_term" (spD K sP) := def_d U_is_term sc_is_term (fun ds Φ h => h.len) (fun _ _ _ _ _ _ us hl => match us, hl with | [_], _ => rfl) (b_is_term g0 _ es ne u f_RANKS kd hu D_is_built)
  have D_is_kind_of : DefG P w K mg base 5 "is_kind_of" (spD K sKd) := def_d U_is_kind_of sc_is_kind_of (fun ds Φ h => h.len) (fun _ _ _ _ _ _ us hl => match us, hl with | [_, _], _ => rfl) (b_is_kind_of g0 D_is_term)
  have D_check_processes : DefG P w K mg base 6 "check_processes" (spD K sCP) := def_star U_check_processes sc_check_processes (fun _ _ _ _ _ _ us => match us with | [] => rfl | _ :: _ => rfl) (b_check_processes f_PID D_is_kind_of)
  have D_check_name : DefG P w K mg base 2 "check_name" (spD K sCN) := def_d U_check_name sc_check_name (fun ds Φ h => h.len) (fun _ _ _ _ _ _ us hl => match us, hl with | [_], _ => rfl) (b_check_name D_is_atom)
  have D_who : DefG P w K mg base 3 "who" (spD K sW) := def_d U_who sc_who (fun ds Φ h => by obtain ⟨_, _, rfl, _⟩ := h; rfl) (fun _ _ _ _ _ _ us hl => match us, hl with | [_, _], _ => rfl) (b_who D_check_name)
  have D_give : DefG P w K mg base 7 "give" (spD K sG) := def_d U_give sc_give (fun ds Φ h => by obtain ⟨_, _, _, _, rfl, _⟩ := h; rfl) (fun _ _ _ _ _ _ us hl => match us, hl with | [_, _, _, _], _ => rfl) (b_give f_UNDEFINED f_any f_tuple f_sorted (D_check_name.up (by decide)) D_check_processes (D_who.up (by decide)))
  have D_freed : DefG P w K mg base 4 "freed" (spD K sFr) := def_d U_freed sc_freed (fun ds Φ h => by obtain ⟨_, _, rfl, _⟩ := h; rfl) (fun _ _ _ _ _ _ us hl => match us, hl with | [_, _], _ => rfl) (b_freed f_tuple D_who)
  have D_left : DefG P w K mg base 7 "left" (spD K sL) := def_d U_left sc_left (fun ds Φ h => by obtain ⟨_, _, rfl, _⟩ := h; rfl) (fun _ _ _ _ _ _ us hl => match us, hl with | [_, _], _ => rfl) (b_left f_tuple D_check_processes)
  have D_law_pot : DefG P w K mg base 1 "_law_pot" (spD K sPot) := def_d U_law_pot sc_law_pot (fun ds Φ h => by obtain ⟨_, _, rfl, _⟩ := h; rfl) (fun _ _ _ _ _ _ us hl => match us, hl with | [_, _], _ => rfl) (b_pot f_int f_abs f_len f_sum)
  have D_law_take : DefG P w K mg base 1 "_law_take" (spIO K sTk) := def_io U_law_take sc_law_take (fun xs ds Φ h => by obtain ⟨_, _, _, _, rfl, _⟩ := h; rfl) (fun _ _ _ _ _ _ us hl => match us, hl with | [_, _], _ => rfl) (b_take f_int)
  have D_law_of : DefG P w K mg base 2 "_law_of" (spIO K sOf) := def_io U_law_of sc_law_of (fun xs ds Φ h => by obtain ⟨_, _, _, _, rfl, _⟩ := h; rfl) (fun _ _ _ _ _ _ us hl => match us, hl with | [_, _], _ => rfl) (b_of f_len D_law_take)
  have D_law_cells : DefG P w K mg base 1 "_law_cells" (spD K sCl) := def_d U_law_cells sc_law_cells (fun ds Φ h => by obtain ⟨_, _, rfl, _⟩ := h; rfl) (fun _ _ _ _ _ _ us hl => match us, hl with | [_, _], _ => rfl) (b_cells f_list f_range f_max f_min f_len)
  have D_law_processes : DefG P w K mg base 1 "_law_processes" (spD K sPr) := def_d U_law_processes sc_law_processes (fun ds Φ h => h.len) (fun _ _ _ _ _ _ us hl => match us, hl with | [], _ => rfl) (b_processes)
  have D_law_names : DefG P w K mg base 1 "_law_names" (spD K sNm) := def_d U_law_names sc_law_names (fun ds Φ h => h.len) (fun _ _ _ _ _ _ us hl => match us, hl with | [], _ => rfl) (b_names)
  have D_law_right : DefG P w K mg base 8 "_law_right" (spIO K sR) := def_io U_law_right sc_law_right (fun xs ds Φ h => by obtain ⟨_, rfl, _⟩ := h; rfl) (fun _ _ _ _ _ _ us hl => match us, hl with | [_], _ => rfl) (b_right g2 (D_law_take.up (by decide)) (D_law_of.up (by decide)) (D_law_names.up (by decide)) (D_law_processes.up (by decide)) D_give (D_freed.up (by decide)) (D_who.up (by decide)) D_left)
  have D_law : DefG P w K mg base 9 "law" (spD K sLaw) := def_d U_law sc_law (fun ds Φ h => by obtain ⟨_, rfl, _⟩ := h; rfl) (fun _ _ _ _ _ _ us hl => match us, hl with | [_], _ => rfl) (b_law g2 (D_law_cells.up (by decide)) (D_law_pot.up (by decide)) D_law_right)
  exact D_law
end K22
open PySem PySem.W PySem.Calls PyProof.Rows
theorem PySem.Challenge.cw_arrivalmill_k22_whole_the_book_of_names_holds : PySem.Challenge.rw_arrivalmill_k22_whole_the_book_of_names.Holds := by
  w_on; o_law
  refine HandSHeadRun.head_any (r := OpenLaw.row PySem.Challenge.rw_arrivalmill_k22_whole_the_book_of_names) (q := view K22.Rw.prog [49]) (H := K22.hk) (ob := K22.ob) (M := 2500) (loose := K22.loose) (d := HandSHeadRun.topDef K22.Rw.prog 49) (kwd := []) K22.ob_eq
    (by kernel_rfl) (fun s => by kernel_rfl) K22.run (by kernel_rfl) (by kernel_rfl) (by kernel_rfl) (by rfl) (by first | assumption | decide +kernel) (by decide +kernel) ⟨rfl, rfl, rfl, rfl, rfl, by decide +kernel⟩ ?hw ?hc
  case hw => w_witness2
  case hc =>
    refine DL.walk_end (l := PySem.Challenge.rw_arrivalmill_k22_whole_the_book_of_names) (n := 63) (k := 9) (x := "law") (F := K22.sLaw) rfl (by decide) (by kernel_rfl) ⟨rfl, by decide, by decide⟩ (by kernel_rfl) ?go (fun ns Φ _ h => ⟨ns, rfl, h⟩)
    intro w mg h Y G
    obtain ⟨K, KX, c⟩ := Y
    exact ⟨K, KX, fun base _ _ => K22.law_ok KX G c⟩
