import PyProof.Rows.All
import Wide.All
import OpenK.AllK
import Wide.FinOn
import HandS.ForMost
import HandS.Exc
import HandS.TryOnly
import HandS.IsInst
import HandS.TupAny
import HandS.TupLe
import HandS.Style
import HandS.Flow
import HandS.Deep
import KE.KSortedM
import PyProof.P3In
import HandS.SortInts
import HandS.Zip
import HandS.More
import HandS.Ends
import HandS.Conv
import HandS.HeadHook3
import HandS.Text
import PyProof.ReprRoads
import HandS.TupMul
import KE.GoesEnum
import PyProof.StrLawsRepr
import PyProof.FitsInt
import KE.DataMinMax
import PySem.Challenge.RW_middleyard_k61_what_is_a_deed
set_option Elab.async false
set_option linter.all false
set_option autoImplicit false
set_option maxRecDepth 100000
/-! MM: a layer of plain functions over HandS: what a piece of the program does is told as a plain function of data (PyData), once for each construct. -/
namespace MM
open PySem PySem.Spec PyProof.Rows L2

abbrev D := PyData
abbrev St := L2.St
abbrev Ex := String × List D
structure Dk where
  cells : List Int
  seed : Int
  tn : Int
inductive Sl where
  | no | fz (d : D) | ml (ds : List D) | md (kvs : List (Key × D))
def Sl.mut : Sl → Bool
  | .ml _ => true
  | .md _ => true
  | _ => false
structure Ps where
  sl : List Sl
  dk : Dk
/-- the deck: where it stands, where its cells stand, whether it is a list, else the names of its seed and its turn -/
structure DkI where
  a : Addr
  c : Addr
  lst : Bool
  sn : Str
  nm : Str
  h1 : sn ≠ "cells"
  h2 : nm ≠ "cells"
  h3 : nm ≠ sn
def DkI.obj (i : DkI) (k : Dk) : HO := if i.lst = true then .lst [.ref i.c, .int k.seed, .int k.tn] else .dK [(.inr "cells", .ref i.c), (.inr i.sn, .int k.seed), (.inr i.nm, .int k.tn)]
/-- where one stands: the written part, the deck, how an exception lies -/
structure Mc where
  K : PySem.W.Frag
  dk : Option DkI
  xr : Ex → Value → Option Addr → Hp → Hp → Prop
def deckD : D := .dict [(.bool true, .none)]
def kD : Key → D
  | .inl i => .int i
  | .inr x => .str x
mutual
inductive Rp (C : Mc) (F : Hp) : V → D → Prop
  | non : Rp C F .non .none
  | bl (b : Bool) : Rp C F (.bl b) (.bool b)
  | int (i : Int) : Rp C F (.int i) (.int i)
  | str (x : Str) : Rp C F (.str x) (.str x)
  | lst {a : Addr} {xs : List V} {ds : List D} : F a = some (.lst xs) → RpA C F xs ds → Rp C F (.ref a) (.list ds)
  | tup {a : Addr} {xs : List V} {ds : List D} : SqT C.K F a xs → RpA C F xs ds → Rp C F (.ref a) (.tuple ds)
  | dct {a : Addr} {kvs : List (Key × V)} {ds : List (D × D)} : F a = some (.dK kvs) → RpA C F (kvs.map (·.2)) (ds.map (·.2)) → ds.map (·.1) = kvs.map (fun p => kD p.1) → Rp C F (.ref a) (.dict ds)
  | deck {i : DkI} : C.dk = some i → Rp C F (.ref i.a) deckD
inductive RpA (C : Mc) (F : Hp) : List V → List D → Prop
  | nil : RpA C F [] []
  | cons {v : V} {vs : List V} {d : D} {ds : List D} : Rp C F v d → RpA C F vs ds → RpA C F (v :: vs) (d :: ds)
end
theorem sqT_mono {K : PySem.W.Frag} {H H' : Hp} {a : Addr} {xs : List V} (e : Same H H') (h : SqT K H a xs) : SqT K H' a xs := by
  rcases h with (h | ⟨o, h⟩) | h
  · exact .inl (.inl (e _ _ h))
  · exact .inl (.inr ⟨o, e _ _ h⟩)
  · exact .inr h
section
variable {C : Mc} {F F' : Hp}
mutual
theorem Rp.mono (s : Same F F') : ∀ {v : V} {d : D}, Rp C F v d → Rp C F' v d
  | _, _, .non => .non
  | _, _, .bl b => .bl b
  | _, _, .int i => .int i
  | _, _, .str x => .str x
  | _, _, .lst h r => .lst (s _ _ h) (RpA.mono s r)
  | _, _, .tup h r => .tup (sqT_mono s h) (RpA.mono s r)
  | _, _, .dct h r k => .dct (s _ _ h) (RpA.mono s r) k
  | _, _, .deck h => .deck h
theorem RpA.mono (s : Same F F') : ∀ {vs : List V} {ds : List D}, RpA C F vs ds → RpA C F' vs ds
  | _, _, .nil => .nil
  | _, _, .cons r t => .cons (Rp.mono s r) (RpA.mono s t)
end
theorem RpA.length : ∀ {vs : List V} {ds : List D}, RpA C F vs ds → vs.length = ds.length
  | _, _, .nil => rfl
  | _, _, .cons _ t => congrArg (· + 1) (RpA.length t)
theorem RpA.get : ∀ {vs : List V} {ds : List D} {i : Nat} {v : V}, RpA C F vs ds → vs[i]? = some v → ∃ d, ds[i]? = some d ∧ Rp C F v d
  | _, _, i, v, .nil, e => by simp at e
  | _, _, 0, v, .cons r _, e => by simp at e; subst e; exact ⟨_, rfl, r⟩
  | _, _, i + 1, v, .cons _ t, e => by
    obtain ⟨d, h1, h2⟩ := RpA.get (i := i) (v := v) t (by simpa using e)
    exact ⟨d, by simpa using h1, h2⟩
theorem RpA.get' : ∀ {vs : List V} {ds : List D} {i : Nat} {d : D}, RpA C F vs ds → ds[i]? = some d → ∃ v, vs[i]? = some v ∧ Rp C F v d
  | _, _, i, v, .nil, e => by simp at e
  | _, _, 0, v, .cons r _, e => by simp at e; subst e; exact ⟨_, rfl, r⟩
  | _, _, i + 1, v, .cons _ t, e => by
    obtain ⟨d, h1, h2⟩ := RpA.get' (i := i) (d := v) t (by simpa using e)
    exact ⟨d, by simpa using h1, h2⟩
theorem RpA.append : ∀ {xs ys : List V} {ds es : List D}, RpA C F xs ds → RpA C F ys es → RpA C F (xs ++ ys) (ds ++ es)
  | _, _, _, _, .nil, s => s
  | _, _, _, _, .cons r t, s => .cons r (RpA.append t s)
theorem RpA.take : ∀ {xs : List V} {ds : List D} (n : Nat), RpA C F xs ds → RpA C F (xs.take n) (ds.take n)
  | _, _, 0, _ => .nil
  | _, _, _ + 1, .nil => .nil
  | _, _, n + 1, .cons r t => .cons r (RpA.take n t)
theorem RpA.drop : ∀ {xs : List V} {ds : List D} (n : Nat), RpA C F xs ds → RpA C F (xs.drop n) (ds.drop n)
  | _, _, 0, r => r
  | _, _, _ + 1, .nil => .nil
  | _, _, n + 1, .cons _ t => RpA.drop n t
theorem RpA.reverse {xs : List V} {ds : List D} (r : RpA C F xs ds) : RpA C F xs.reverse ds.reverse := by
  induction xs generalizing ds with
  | nil => cases r; exact .nil
  | cons x xs ih =>
    cases r with
    | cons a b =>
      rw [List.reverse_cons, List.reverse_cons]
      exact (ih b).append (.cons a .nil)
theorem RpA.set : ∀ {xs : List V} {ds : List D} (n : Nat) {v : V} {d : D}, RpA C F xs ds → Rp C F v d → RpA C F (xs.set n v) (ds.set n d)
  | _, _, _, _, _, .nil, _ => .nil
  | _, _, 0, _, _, .cons _ t, r => .cons r t
  | _, _, n + 1, _, _, .cons a t, r => .cons a (RpA.set n t r)
theorem RpA.dropLast {xs : List V} {ds : List D} (r : RpA C F xs ds) : RpA C F xs.dropLast ds.dropLast := by
  rw [List.dropLast_eq_take, List.dropLast_eq_take, r.length]
  exact r.take _
/-- flat data is told by its value -/
theorem RpA.ints : ∀ {xs : List V} {ns : List Int}, RpA C F xs (ns.map PyData.int) → xs = ns.map V.int
  | _, [], .nil => rfl
  | _, n :: ns, .cons r t => by
    cases r
    exact congrArg (V.int n :: ·) (RpA.ints (ns := ns) t)
theorem RpA.of_ints : ∀ ns : List Int, RpA C F (ns.map V.int) (ns.map PyData.int)
  | [] => .nil
  | n :: ns => .cons (.int n) (RpA.of_ints ns)
end

/-! ### states -/
def Own (sl : List Sl) (σ : St) (i : Nat) (p : Addr) : Prop := (∃ s, sl[i]? = some s ∧ s.mut = true) ∧ σ[i]? = some (some (.ref p))
def SlR (C : Mc) (Gc F H : Hp) (v : Option (Option V)) : Sl → Prop
  | .no => True
  | .fz d => ∃ x, v = some (some x) ∧ Rp C F x d
  | .ml ds => ∃ p xs, v = some (some (.ref p)) ∧ H p = some (.lst xs) ∧ F p = none ∧ Gc p = none ∧ RpA C F xs ds
  | .md ds => ∃ p kvs, v = some (some (.ref p)) ∧ H p = some (.dK kvs) ∧ F p = none ∧ Gc p = none ∧ RpA C F (kvs.map (·.2)) (ds.map (·.2)) ∧ ds.map (·.1) = kvs.map (·.1)
structure DeckAt (i : DkI) (F Gc H : Hp) (k : Dk) : Prop where
  d : H i.a = some (i.obj k)
  l : H i.c = some (.lst (k.cells.map V.int))
  fa : F i.a = none
  fc : F i.c = none
  ga : Gc i.a = none
  gc : Gc i.c = none
structure Rel (C : Mc) (Gc F H : Hp) (ps : Ps) (σ : St) : Prop where
  fh : Same F H
  gh : Same Gc H
  dj : ∀ p o, Gc p = some o → F p = none
  len : σ.length = ps.sl.length
  sl : ∀ (i : Nat) (s : Sl), ps.sl[i]? = some s → SlR C Gc F H σ[i]? s
  ow : ∀ i j p, Own ps.sl σ i p → Own ps.sl σ j p → i = j
  dk : ∀ i, C.dk = some i → DeckAt i F Gc H ps.dk
  od : ∀ i, C.dk = some i → ∀ j p, Own ps.sl σ j p → p ≠ i.a ∧ p ≠ i.c

section
variable {C : Mc} {Gc F F' H H' : Hp} {ps : Ps} {σ : St}
theorem SlR.next {s : Sl} {v : Option (Option V)} (h : SlR C Gc F H v s) (sf : Same F F') (k : ∀ p o, H p = some o → F p = none → H' p = some o ∧ F' p = none) : SlR C Gc F' H' v s := by
  cases s with
  | no => trivial
  | fz d => obtain ⟨x, e, r⟩ := h; exact ⟨x, e, r.mono sf⟩
  | ml ds => obtain ⟨p, xs, e, h1, h2, h3, r⟩ := h; exact ⟨p, xs, e, (k _ _ h1 h2).1, (k _ _ h1 h2).2, h3, r.mono sf⟩
  | md ds => obtain ⟨p, xs, e, h1, h2, h3, r, z⟩ := h; exact ⟨p, xs, e, (k _ _ h1 h2).1, (k _ _ h1 h2).2, h3, r.mono sf, z⟩
/-- what isn't frozen is as it was -/
theorem Rel.next (R : Rel C Gc F H ps σ) (sf : Same F F') (sh : Same F' H') (k : ∀ p o, H p = some o → F p = none → H' p = some o ∧ F' p = none) : Rel C Gc F' H' ps σ := by
  refine ⟨sh, fun p o e => (k p o (R.gh p o e) (R.dj p o e)).1, fun p o e => (k p o (R.gh p o e) (R.dj p o e)).2, R.len, fun i s e => (R.sl i s e).next sf k, R.ow, fun i e => ?_, R.od⟩
  have d := R.dk i e
  exact ⟨(k _ _ d.d d.fa).1, (k _ _ d.l d.fc).1, (k _ _ d.d d.fa).2, (k _ _ d.l d.fc).2, d.ga, d.gc⟩
theorem Rel.alloc {p : Addr} {o : HO} (R : Rel C Gc F H ps σ) (n : H p = none) : Rel C Gc (upd F p o) (upd H p o) ps σ := by
  have nf : F p = none := R.fh.free n
  refine R.next (fun b u e => ?_) (fun b u e => ?_) fun b u e f => ?_
  · rw [upd_ne (ne_of_none e nf)]; exact e
  · by_cases hb : b = p
    · subst hb; rw [upd_same] at e ⊢; exact e
    · rw [upd_ne hb] at e ⊢; exact R.fh _ _ e
  · have hb : b ≠ p := ne_of_none e n
    rw [upd_ne hb, upd_ne hb]; exact ⟨e, f⟩
theorem same_alloc {p : Addr} {o : HO} (n : F p = none) : Same F (upd F p o) := fun b u e => by
  rw [upd_ne (ne_of_none e n)]; exact e
/-- a new object that is not frozen -/
theorem Rel.fresh {p : Addr} {o : HO} (R : Rel C Gc F H ps σ) (n : H p = none) : Rel C Gc F (upd H p o) ps σ := by
  refine R.next (Same.refl F) (fun b u e => ?_) fun b u e f => ?_
  · rw [upd_ne (ne_of_none (R.fh _ _ e) n)]; exact R.fh _ _ e
  · rw [upd_ne (ne_of_none e n)]; exact ⟨e, f⟩
theorem Rel.get {i : Nat} {s : Sl} (R : Rel C Gc F H ps σ) (e : ps.sl[i]? = some s) : SlR C Gc F H σ[i]? s := R.sl i s e
theorem own_set {sl : List Sl} {σ : St} {i j : Nat} {p : Addr} {s : Sl} {v : Option V} (hs : s.mut = false) (h : Own (sl.set i s) (σ.set i v) j p) : j ≠ i ∧ Own sl σ j p := by
  obtain ⟨⟨s', e, m⟩, e2⟩ := h
  have hj : j ≠ i := by
    rintro rfl
    rw [List.getElem?_set] at e
    simp only [if_pos] at e
    split at e
    · cases e; rw [hs] at m; cases m
    · cases e
  refine ⟨hj, ⟨s', ?_, m⟩, ?_⟩
  · rwa [List.getElem?_set_ne (Ne.symm hj)] at e
  · rwa [List.getElem?_set_ne (Ne.symm hj)] at e2
/-- a name is stored -/
theorem Rel.set {i : Nat} {v : V} {d : D} (R : Rel C Gc F H ps σ) (r : Rp C F v d) : Rel C Gc F H { ps with sl := ps.sl.set i (.fz d) } (σ.set i (some v)) := by
  refine ⟨R.fh, R.gh, R.dj, by rw [List.length_set, List.length_set]; exact R.len, fun j s e => ?_, fun j k p a b => ?_, R.dk, fun x e j p a => ?_⟩
  · by_cases hj : j = i
    · subst hj
      have hl : j < ps.sl.length := by
        have := (List.getElem?_eq_some_iff.mp e).1
        rwa [List.length_set] at this
      rw [List.getElem?_set_self hl] at e
      cases e
      exact ⟨v, by rw [List.getElem?_set_self (by rw [R.len]; exact hl)], r⟩
    · rw [List.getElem?_set_ne (Ne.symm hj)] at e ⊢
      exact R.sl j s e
  · exact R.ow j k p (own_set (by rfl) a).2 (own_set (by rfl) b).2
  · exact R.od x e j p (own_set (by rfl) a).2
/-- slots forgotten -/
theorem Rel.wipe1 {i : Nat} {v : Option V} (R : Rel C Gc F H ps σ) : Rel C Gc F H { ps with sl := ps.sl.set i .no } (σ.set i v) := by
  refine ⟨R.fh, R.gh, R.dj, by rw [List.length_set, List.length_set]; exact R.len, fun j s e => ?_, fun j k p a b => ?_, R.dk, fun x e j p a => ?_⟩
  · by_cases hj : j = i
    · subst hj
      have hl : j < ps.sl.length := by
        have := (List.getElem?_eq_some_iff.mp e).1
        rwa [List.length_set] at this
      rw [List.getElem?_set_self hl] at e
      cases e
      trivial
    · rw [List.getElem?_set_ne (Ne.symm hj)] at e ⊢
      exact R.sl j s e
  · exact R.ow j k p (own_set (by rfl) a).2 (own_set (by rfl) b).2
  · exact R.od x e j p (own_set (by rfl) a).2
end
end MM
namespace MM
open PySem PySem.Spec PyProof.Rows L2

inductive Out (α : Type) where
  | ok (a : α) (ps : Ps)
  | exc (e : Ex) (ps : Ps)
  | bad
def Out.bind {α β : Type} (x : Out α) (f : α → Ps → Out β) : Out β :=
  match x with
  | .ok a ps => f a ps
  | .exc e ps => .exc e ps
  | .bad => .bad
@[simp] theorem Out.bind_ok {α β : Type} (a : α) (ps : Ps) (f : α → Ps → Out β) : (Out.ok a ps).bind f = f a ps := rfl
@[simp] theorem Out.bind_exc {α β : Type} (e : Ex) (ps : Ps) (f : α → Ps → Out β) : (Out.exc e ps : Out α).bind f = .exc e ps := rfl
@[simp] theorem Out.bind_bad {α β : Type} (f : α → Ps → Out β) : (Out.bad : Out α).bind f = .bad := rfl
def Out.of {α : Type} (o : Option α) (ps : Ps) : Out α := match o with
  | some a => .ok a ps
  | none => .bad
@[simp] theorem Out.of_some {α : Type} (a : α) (ps : Ps) : Out.of (some a) ps = .ok a ps := rfl
@[simp] theorem Out.of_none {α : Type} (ps : Ps) : (Out.of none ps : Out α) = .bad := rfl

abbrev ME := Ps → Out D
abbrev MT := Ps → Out Bool
abbrev MA := Ps → Out (List D)

/-- an outcome is as wanted: P of what is told, the state, the frozen heap -/
def Po {α : Type} (C : Mc) (W : WX) (Gc : Hp) (σ : St) (P : α → Ps → Hp → Prop) (F : Hp) : Out α → Prop
  | .ok a ps' => P a ps' F
  | .exc e ps' => ∀ F' H' cls dx, Same F F' → Rel C Gc F' H' ps' σ → C.xr e cls dx F' H' → W cls dx σ H'
  | .bad => False
def Mono {α : Type} (P : α → Ps → Hp → Prop) : Prop := ∀ a ps F F', Same F F' → P a ps F → P a ps F'
theorem Po.mono {α : Type} {C : Mc} {W : WX} {Gc : Hp} {σ : St} {P : α → Ps → Hp → Prop} (m : Mono P) {F F' : Hp} (s : Same F F') : ∀ {x : Out α}, Po C W Gc σ P F x → Po C W Gc σ P F' x
  | .ok _ _, h => m _ _ _ _ s h
  | .exc _ _, h => fun F2 H2 c d s2 => h F2 H2 c d (s.trans s2)
  | .bad, h => h
section
variable (C : Mc) (W : WX)
def qE (Gc : Hp) (σ : St) (Q : VK) : D → Ps → Hp → Prop := fun d ps' F => ∀ v F' H', Same F F' → Rel C Gc F' H' ps' σ → Rp C F' v d → Q v H'
def qT (Gc : Hp) (σ : St) (Q : Bool → Hp → Prop) : Bool → Ps → Hp → Prop := fun b ps' F => ∀ F' H', Same F F' → Rel C Gc F' H' ps' σ → Q b H'
def qA (Gc : Hp) (σ : St) (Q : List V → Hp → Prop) : List D → Ps → Hp → Prop := fun ds ps' F => ∀ vs F' H', Same F F' → Rel C Gc F' H' ps' σ → RpA C F' vs ds → Q vs H'
theorem qE.mono {C : Mc} {Gc : Hp} {σ : St} {Q : VK} : Mono (qE C Gc σ Q) := fun _ _ _ _ s h v F' H' s' => h v F' H' (s.trans s')
theorem qT.mono {C : Mc} {Gc : Hp} {σ : St} {Q : Bool → Hp → Prop} : Mono (qT C Gc σ Q) := fun _ _ _ _ s h F' H' s' => h F' H' (s.trans s')
theorem qA.mono {C : Mc} {Gc : Hp} {σ : St} {Q : List V → Hp → Prop} : Mono (qA C Gc σ Q) := fun _ _ _ _ s h v F' H' s' => h v F' H' (s.trans s')
def tE (m : ME) : TE := fun σ H Q => ∃ Gc F ps, Rel C Gc F H ps σ ∧ Po C W Gc σ (qE C Gc σ Q) F (m ps)
def tT (m : MT) : TT := fun σ H Q => ∃ Gc F ps, Rel C Gc F H ps σ ∧ Po C W Gc σ (qT C Gc σ Q) F (m ps)
def tA (m : MA) : TA := fun σ H Q => ∃ Gc F ps, Rel C Gc F H ps σ ∧ Po C W Gc σ (qA C Gc σ Q) F (m ps)
end
section
variable {C : Mc} {W : WX} {Gc F H : Hp} {ps : Ps} {σ : St} {β : Type} {P : β → Ps → Hp → Prop}
theorem seqE {m : ME} {f : D → Ps → Out β} {Q : VK} (hP : Mono P) (R : Rel C Gc F H ps σ) (h : Po C W Gc σ P F ((m ps).bind f))
    (k : ∀ d ps' v F' H', Same F F' → Rel C Gc F' H' ps' σ → Rp C F' v d → Po C W Gc σ P F' (f d ps') → Q v H') : tE C W m σ H Q := by
  refine ⟨Gc, F, ps, R, ?_⟩
  cases e : m ps with
  | ok d ps' => rw [e] at h; exact fun v F' H' s R' r => k d ps' v F' H' s R' r (h.mono hP s)
  | exc x ps' => rw [e] at h; exact h
  | bad => rw [e] at h; exact h
theorem seqT {m : MT} {f : Bool → Ps → Out β} {Q : Bool → Hp → Prop} (hP : Mono P) (R : Rel C Gc F H ps σ) (h : Po C W Gc σ P F ((m ps).bind f))
    (k : ∀ b ps' F' H', Same F F' → Rel C Gc F' H' ps' σ → Po C W Gc σ P F' (f b ps') → Q b H') : tT C W m σ H Q := by
  refine ⟨Gc, F, ps, R, ?_⟩
  cases e : m ps with
  | ok d ps' => rw [e] at h; exact fun F' H' s R' => k d ps' F' H' s R' (h.mono hP s)
  | exc x ps' => rw [e] at h; exact h
  | bad => rw [e] at h; exact h
theorem seqA {m : MA} {f : List D → Ps → Out β} {Q : List V → Hp → Prop} (hP : Mono P) (R : Rel C Gc F H ps σ) (h : Po C W Gc σ P F ((m ps).bind f))
    (k : ∀ d ps' v F' H', Same F F' → Rel C Gc F' H' ps' σ → RpA C F' v d → Po C W Gc σ P F' (f d ps') → Q v H') : tA C W m σ H Q := by
  refine ⟨Gc, F, ps, R, ?_⟩
  cases e : m ps with
  | ok d ps' => rw [e] at h; exact fun v F' H' s R' r => k d ps' v F' H' s R' r (h.mono hP s)
  | exc x ps' => rw [e] at h; exact h
  | bad => rw [e] at h; exact h
end

/-! ### weaker readings -/
theorem pe_imp {X : Cx} {e : Expr} {t t' : TE} (h : PE X e t) (k : ∀ σ H Q, t' σ H Q → t σ H Q) : PE X e t' := ⟨fun pins s σ H Q I q => h.run pins s σ H Q I (k σ H Q q)⟩
theorem pt_imp {X : Cx} {e : Expr} {t t' : TT} (h : PT X e t) (k : ∀ σ H Q, t' σ H Q → t σ H Q) : PT X e t' := ⟨fun pins s σ H Q I q => h.run pins s σ H Q I (k σ H Q q)⟩
theorem pw_imp {X : Cx} {e : Expr} {t t' : TT} (h : PW X e t) (k : ∀ σ H Q, t' σ H Q → t σ H Q) : PW X e t' := ⟨fun wh pins s σ H Q I q => h.run wh pins s σ H Q I (k σ H Q q)⟩
theorem pa_imp {X : Cx} {es : List Expr} {t t' : TA} (h : PA X es t) (k : ∀ σ H Q, t' σ H Q → t σ H Q) : PA X es t' := ⟨fun pos pins s σ H Q I q => h.run pos pins s σ H Q I (k σ H Q q)⟩
theorem ps_imp {X : Cx} {st : Stmt} {t t' : TS} (h : PS X st t) (k : ∀ D σ H, t' D σ H → t D σ H) : PS X st t' := ⟨fun pins s σ H D I q => h.run pins s σ H D I (k D σ H q)⟩
theorem pss_imp {X : Cx} {st : List Stmt} {t t' : TS} (h : PSs X st t) (k : ∀ D σ H, t' D σ H → t D σ H) : PSs X st t' := ⟨fun pins s σ H D I q => h.run pins s σ H D I (k D σ H q)⟩

/-! ### names -/
def Ps.setS (ps : Ps) (i : Nat) (s : Sl) : Ps := { ps with sl := ps.sl.set i s }
/-- a name's value; what was its own is frozen -/
def mVar (i : Nat) : ME := fun ps => match ps.sl[i]? with
  | some (.fz d) => .ok d ps
  | some (.ml ds) => .ok (.list ds) (ps.setS i (.fz (.list ds)))
  | some (.md kvs) => .ok (.dict (kvs.map fun p => (kD p.1, p.2))) (ps.setS i (.fz (.dict (kvs.map fun p => (kD p.1, p.2)))))
  | _ => .bad
theorem own_at {sl : List Sl} {σ : St} {i : Nat} {p : Addr} {s : Sl} (e : sl[i]? = some s) (m : s.mut = true) (e2 : σ[i]? = some (some (.ref p))) : Own sl σ i p := ⟨⟨s, e, m⟩, e2⟩
/-- own_set where the slots stay -/
theorem own_setS {sl : List Sl} {σ : St} {i j : Nat} {p : Addr} {s : Sl} (hs : s.mut = false) (h : Own (sl.set i s) σ j p) : j ≠ i ∧ Own sl σ j p := by
  obtain ⟨⟨s', e, m⟩, e2⟩ := h
  have hj : j ≠ i := by
    rintro rfl
    rw [List.getElem?_set] at e
    simp only [if_pos] at e
    split at e
    · cases e; rw [hs] at m; cases m
    · cases e
  refine ⟨hj, ⟨s', ?_, m⟩, e2⟩
  rwa [List.getElem?_set_ne (Ne.symm hj)] at e
section
variable {C : Mc} {Gc F H : Hp} {ps : Ps} {σ : St}
/-- an own object is frozen -/
theorem Rel.freeze {i : Nat} {p : Addr} {o : HO} {s : Sl} {d : D} (R : Rel C Gc F H ps σ) (e : ps.sl[i]? = some s) (m : s.mut = true) (e2 : σ[i]? = some (some (.ref p))) (hp : H p = some o) (fp : F p = none) (gp : Gc p = none)
    (r : Rp C (upd F p o) (.ref p) d) : Rel C Gc (upd F p o) H (ps.setS i (.fz d)) σ := by
  have ow : Own ps.sl σ i p := own_at e m e2
  have sf : Same F (upd F p o) := same_alloc fp
  have dkn : ∀ x, C.dk = some x → p ≠ x.a ∧ p ≠ x.c := fun x hx => R.od x hx i p ow
  refine ⟨fun b u q => ?_, R.gh, fun b u q => ?_, by rw [Ps.setS, List.length_set]; exact R.len, fun j t q => ?_, fun j k b a c => ?_, fun x hx => ?_, fun x hx j b a => ?_⟩
  · by_cases hb : b = p
    · subst hb; rw [upd_same] at q; cases q; exact hp
    · rw [upd_ne hb] at q; exact R.fh _ _ q
  · have hb : b ≠ p := fun z => by subst z; rw [gp] at q; cases q
    rw [upd_ne hb]; exact R.dj b u q
  · by_cases hj : j = i
    · subst hj
      have hl : j < ps.sl.length := (List.getElem?_eq_some_iff.mp e).1
      rw [Ps.setS, List.getElem?_set_self hl] at q
      cases q
      exact ⟨_, e2, r⟩
    · rw [Ps.setS, List.getElem?_set_ne (Ne.symm hj)] at q
      have z := R.sl j t q
      cases t with
      | no => trivial
      | fz d => obtain ⟨x, h1, h2⟩ := z; exact ⟨x, h1, h2.mono sf⟩
      | ml ds =>
        obtain ⟨b, xs, h1, h2, h3, h4, h5⟩ := z
        have hb : b ≠ p := fun w => hj (R.ow j i p (own_at q rfl (by rw [h1, w])) ow)
        exact ⟨b, xs, h1, h2, by rw [upd_ne hb]; exact h3, h4, h5.mono sf⟩
      | md ds =>
        obtain ⟨b, xs, h1, h2, h3, h4, h5, h6⟩ := z
        have hb : b ≠ p := fun w => hj (R.ow j i p (own_at q rfl (by rw [h1, w])) ow)
        exact ⟨b, xs, h1, h2, by rw [upd_ne hb]; exact h3, h4, h5.mono sf, h6⟩
  · exact R.ow j k b (own_setS (by rfl) a).2 (own_setS (by rfl) c).2
  · have d := R.dk x hx
    exact ⟨d.d, d.l, by rw [upd_ne (dkn x hx).1.symm]; exact d.fa, by rw [upd_ne (dkn x hx).2.symm]; exact d.fc, d.ga, d.gc⟩
  · exact R.od x hx j b (own_setS (by rfl) a).2
theorem var_ok {i : Nat} {d : D} {ps' : Ps} (R : Rel C Gc F H ps σ) (h : mVar i ps = .ok d ps') : ∃ v F', σ[i]? = some (some v) ∧ Same F F' ∧ Rel C Gc F' H ps' σ ∧ Rp C F' v d := by
  unfold mVar at h
  cases e : ps.sl[i]? with
  | none => rw [e] at h; cases h
  | some s =>
    rw [e] at h
    have z := R.sl i s e
    cases s with
    | no => cases h
    | fz d =>
      cases h
      obtain ⟨x, h1, h2⟩ := z
      exact ⟨x, F, h1, Same.refl F, R, h2⟩
    | ml ds =>
      cases h
      obtain ⟨p, xs, h1, h2, h3, h4, h5⟩ := z
      have r : Rp C (upd F p (.lst xs)) (.ref p) (.list ds) := .lst upd_same (h5.mono (same_alloc h3))
      exact ⟨.ref p, _, h1, same_alloc h3, R.freeze e rfl h1 h2 h3 h4 r, r⟩
    | md ds =>
      cases h
      obtain ⟨p, xs, h1, h2, h3, h4, h5, h6⟩ := z
      have r : Rp C (upd F p (.dK xs)) (.ref p) (.dict (ds.map fun p => (kD p.1, p.2))) := by
        refine .dct upd_same ?_ ?_
        · have q : (ds.map fun p => (kD p.1, p.2)).map (·.2) = ds.map (·.2) := by rw [List.map_map]; rfl
          rw [q]; exact h5.mono (same_alloc h3)
        · rw [List.map_map]
          have q : (ds.map (·.1)).map kD = (xs.map (·.1)).map kD := by rw [h6]
          rw [List.map_map, List.map_map] at q
          exact q
      exact ⟨.ref p, _, h1, same_alloc h3, R.freeze e rfl h1 h2 h3 h4 r, r⟩
theorem var_noexc {i : Nat} {e : Ex} {ps' : Ps} (h : mVar i ps = .exc e ps') : False := by
  unfold mVar at h
  split at h <;> cases h
end
section
variable {X : Cx} {C : Mc} {W : WX} {a b e : Expr} {es : List Expr} {pos : Pos}
theorem xv {i : Nat} (h : PE X e (tVar i)) : PE X e (tE C W (mVar i)) := pe_imp h fun σ H Q ⟨Gc, F, ps, R, q⟩ => by
  cases z : mVar i ps with
  | ok d ps' =>
    rw [z] at q
    obtain ⟨v, F', h1, h2, h3, h4⟩ := var_ok R z
    exact ⟨v, h1, q v F' H h2 h3 h4⟩
  | exc x ps' => exact (var_noexc z).elim
  | bad => rw [z] at q; exact q.elim
/-- a written value -/
def mC (d : D) : ME := fun ps => .ok d ps
theorem xc {v : V} {d : D} (h : PE X e (tC v)) (r : ∀ F, Rp C F v d) : PE X e (tE C W (mC d)) := pe_imp h fun σ H Q ⟨Gc, F, ps, R, q⟩ => q v F H (Same.refl F) R (r F)
theorem xint {i : Int} {j} : PE X (.Constant (.int i) j pos) (tE C W (mC (.int i))) := xc pe_int fun _ => .int i
theorem xbl {i : Bool} {j} : PE X (.Constant (.bool i) j pos) (tE C W (mC (.bool i))) := xc pe_bl fun _ => .bl i
theorem xnon {j} : PE X (.Constant .none j pos) (tE C W (mC .none)) := xc pe_non fun _ => .non
theorem xstr {x} {j} : PE X (.Constant (.str x) j pos) (tE C W (mC (.str x))) := xc pe_str fun _ => .str _
/-! ### operators by values -/
def mBin (f : D → D → Option D) (a b : ME) : ME := fun ps => (a ps).bind fun x ps1 => (b ps1).bind fun y ps2 => .of (f x y) ps2
/-- the operator's reading serves f -/
def OpM (C : Mc) (f : D → D → Option D) (r : R2) : Prop := ∀ Gc F H ps σ v u x y z (Q : VK), Rel C Gc F H ps σ → Rp C F v x → Rp C F u y → f x y = some z →
  (∀ w F' H', Same F F' → Rel C Gc F' H' ps σ → Rp C F' w z → Q w H') → r v u H Q
theorem bin_ok {f : D → D → Option D} {r : R2} {ma mb : ME} (hm : OpM C f r) {σ : St} {H : Hp} {Q : VK} (h : tE C W (mBin f ma mb) σ H Q) : tOp r (tE C W ma) (tE C W mb) σ H Q := by
  obtain ⟨Gc, F, ps, R, q⟩ := h
  refine seqE qE.mono R q fun x ps1 v F1 H1 s1 R1 r1 q1 => ?_
  refine seqE qE.mono R1 q1 fun y ps2 u F2 H2 s2 R2 r2 q2 => ?_
  cases z : f x y with
  | none => rw [z] at q2; exact q2.elim
  | some d =>
    rw [z] at q2
    exact hm Gc F2 H2 ps2 σ v u x y d Q R2 (r1.mono s2) r2 z q2
theorem xop {op : Operator} {f : D → D → Option D} {r : R2} {ma mb : ME} (ho : OpR X (binaryOp op) r) (hm : OpM C f r) (ha : PE X a (tE C W ma)) (hb : PE X b (tE C W mb)) : PE X (.BinOp a op b pos) (tE C W (mBin f ma mb)) :=
  pe_imp (pe_op ho ha hb) fun _ _ _ h => bin_ok hm h
theorem xcmp {op : CmpOp} {f : D → D → Option D} {r : R2} {ma mb : ME} (ho : OpR X (compareOp op) r) (hm : OpM C f r) (ha : PE X a (tE C W ma)) (hb : PE X b (tE C W mb)) (hk : behindInMarks op b = false := by rfl) : PE X (.Compare a [op] [b] pos) (tE C W (mBin f ma mb)) :=
  pe_imp (pe_cmpR ho ha hb hk) fun _ _ _ h => bin_ok hm h
def mUn (f : D → Option D) (a : ME) : ME := fun ps => (a ps).bind fun x ps1 => .of (f x) ps1
def UnM (C : Mc) (f : D → Option D) (r : V → Hp → VK → Prop) : Prop := ∀ Gc F H ps σ v x z (Q : VK), Rel C Gc F H ps σ → Rp C F v x → f x = some z →
  (∀ w F' H', Same F F' → Rel C Gc F' H' ps σ → Rp C F' w z → Q w H') → r v H Q
theorem un_ok {f : D → Option D} {r : V → Hp → VK → Prop} {ma : ME} (hm : UnM C f r) {σ : St} {H : Hp} {Q : VK} (h : tE C W (mUn f ma) σ H Q) : tE C W ma σ H fun v H1 => r v H1 Q := by
  obtain ⟨Gc, F, ps, R, q⟩ := h
  refine seqE qE.mono R q fun x ps1 v F1 H1 s1 R1 r1 q1 => ?_
  cases z : f x with
  | none => rw [z] at q1; exact q1.elim
  | some d =>
    rw [z] at q1
    exact hm Gc F1 H1 ps1 σ v x d Q R1 r1 z q1
theorem xun {op : UnaryOp} {f : D → Option D} {r : V → Hp → VK → Prop} {ma : ME} (ho : UnR X (unaryOp op) r) (hm : UnM C f r) (ha : PE X a (tE C W ma)) : PE X (.UnaryOp op a pos) (tE C W (mUn f ma)) :=
  pe_imp (pe_un ho ha) fun _ _ _ h => un_ok hm h
/-! ### tests -/
def dBool : D → Option Bool
  | .bool b => some b
  | _ => none
/-- a value that is a truth, as a test -/
def mTst (a : ME) : MT := fun ps => (a ps).bind fun x ps1 => .of (dBool x) ps1
theorem tst_ok {ma : ME} {σ : St} {H : Hp} {Q : Bool → Hp → Prop} (h : tT C W (mTst ma) σ H Q) : tE C W ma σ H fun x H1 => ∃ c, x = .bl c ∧ Q c H1 := by
  obtain ⟨Gc, F, ps, R, q⟩ := h
  refine seqE qT.mono R q fun x ps1 v F1 H1 s1 R1 r1 q1 => ?_
  cases x with
  | bool b => cases r1; exact ⟨b, rfl, q1 F1 H1 (Same.refl _) R1⟩
  | _ => exact q1.elim
theorem xt_val {ma : ME} (h : PE X e (tE C W ma)) (he : ∀ whole, isTrue e X.env whole = (do let v ← whole; standAt e.pos; holding [v] (truthy v)) := by intro _; rfl) : PT X e (tT C W (mTst ma)) :=
  pt_imp (pt_val h he) fun _ _ _ q => tst_ok q
theorem xt_cmp {op : CmpOp} {f : D → D → Option D} {r : R2} {ma mb : ME} (ho : OpR X (compareOp op) r) (hm : OpM C f r) (ha : PE X a (tE C W ma)) (hb : PE X b (tE C W mb)) (hk : behindInMarks op b = false := by rfl) : PT X (.Compare a [op] [b] pos) (tT C W (mTst (mBin f ma mb))) :=
  pt_imp (pt_cmpR ho ha hb hk) fun _ _ _ h => bin_ok hm (tst_ok h)
def mNot (a : MT) : MT := fun ps => (a ps).bind fun x ps1 => .ok (!x) ps1
def mAnd (a b : MT) : MT := fun ps => (a ps).bind fun x ps1 => if x = true then b ps1 else .ok false ps1
def mOr (a b : MT) : MT := fun ps => (a ps).bind fun x ps1 => if x = true then .ok true ps1 else b ps1
theorem xt_not {ma : MT} (ha : PT X a (tT C W ma)) : PT X (.UnaryOp .Not a pos) (tT C W (mNot ma)) := pt_imp (pt_not ha) fun σ H Q ⟨Gc, F, ps, R, q⟩ =>
  seqT qT.mono R q fun x ps1 F1 H1 s1 R1 q1 => q1 F1 H1 (Same.refl _) R1
theorem xw_and1 {ma : MT} (ha : PT X a (tT C W ma)) : PW X (.BoolOp .And [a] pos) (tT C W ma) := pw_and1 ha
theorem xw_or1 {ma : MT} (ha : PT X a (tT C W ma)) : PW X (.BoolOp .Or [a] pos) (tT C W ma) := pw_or1 ha
variable {rest : List Expr}
theorem xw_and {ma mb : MT} (ha : PT X a (tT C W ma)) (hb : PW X (.BoolOp .And (b :: rest) pos) (tT C W mb)) : PW X (.BoolOp .And (a :: b :: rest) pos) (tT C W (mAnd ma mb)) :=
  pw_imp (pw_and ha hb) fun σ H Q ⟨Gc, F, ps, R, q⟩ => seqT qT.mono R q fun x ps1 F1 H1 s1 R1 q1 => by
    cases x with
    | true => exact iteT ⟨Gc, F1, ps1, R1, q1⟩
    | false => exact iteF (q1 F1 H1 (Same.refl _) R1)
theorem xw_or {ma mb : MT} (ha : PT X a (tT C W ma)) (hb : PW X (.BoolOp .Or (b :: rest) pos) (tT C W mb)) : PW X (.BoolOp .Or (a :: b :: rest) pos) (tT C W (mOr ma mb)) :=
  pw_imp (pw_or ha hb) fun σ H Q ⟨Gc, F, ps, R, q⟩ => seqT qT.mono R q fun x ps1 F1 H1 s1 R1 q1 => by
    cases x with
    | true => exact iteT (q1 F1 H1 (Same.refl _) R1)
    | false => exact iteF ⟨Gc, F1, ps1, R1, q1⟩
/-- .. as values -/
def mAndV (a b : ME) : ME := fun ps => (a ps).bind fun x ps1 => (Out.of (dBool x) ps1).bind fun c ps1 => if c = true then b ps1 else .ok (.bool false) ps1
def mOrV (a b : ME) : ME := fun ps => (a ps).bind fun x ps1 => (Out.of (dBool x) ps1).bind fun c ps1 => if c = true then .ok (.bool true) ps1 else b ps1
def mNotV (a : ME) : ME := fun ps => (a ps).bind fun x ps1 => (Out.of (dBool x) ps1).bind fun c ps1 => .ok (.bool (!c)) ps1
theorem xone {op} {ma : ME} (h : PE X a (tE C W ma)) : PE X (.BoolOp op [a] pos) (tE C W ma) := pe_one h
theorem xband {ma mb : ME} (ha : PE X a (tE C W ma)) (hb : PE X (.BoolOp .And (b :: rest) pos) (tE C W mb)) : PE X (.BoolOp .And (a :: b :: rest) pos) (tE C W (mAndV ma mb)) :=
  pe_imp (pe_and ha hb) fun σ H Q ⟨Gc, F, ps, R, q⟩ => seqE qE.mono R q fun x ps1 v F1 H1 s1 R1 r1 q1 => by
    cases x with
    | bool c =>
      cases r1
      cases c with
      | true => exact ⟨_, rfl, iteT ⟨Gc, F1, ps1, R1, q1⟩⟩
      | false => exact ⟨_, rfl, iteF (q1 _ F1 H1 (Same.refl _) R1 (.bl _))⟩
    | _ => exact q1.elim
theorem xbor {ma mb : ME} (ha : PE X a (tE C W ma)) (hb : PE X (.BoolOp .Or (b :: rest) pos) (tE C W mb)) : PE X (.BoolOp .Or (a :: b :: rest) pos) (tE C W (mOrV ma mb)) :=
  pe_imp (pe_or ha hb) fun σ H Q ⟨Gc, F, ps, R, q⟩ => seqE qE.mono R q fun x ps1 v F1 H1 s1 R1 r1 q1 => by
    cases x with
    | bool c =>
      cases r1
      cases c with
      | false => exact ⟨_, rfl, iteF ⟨Gc, F1, ps1, R1, q1⟩⟩
      | true => exact ⟨_, rfl, iteT (q1 _ F1 H1 (Same.refl _) R1 (.bl _))⟩
    | _ => exact q1.elim
theorem xnot {ma : ME} (ha : PE X a (tE C W ma)) : PE X (.UnaryOp .Not a pos) (tE C W (mNotV ma)) :=
  pe_imp (pe_not ha) fun σ H Q ⟨Gc, F, ps, R, q⟩ => seqE qE.mono R q fun x ps1 v F1 H1 s1 R1 r1 q1 => by
    cases x with
    | bool c =>
      cases r1
      exact ⟨_, rfl, q1 _ F1 H1 (Same.refl _) R1 (.bl _)⟩
    | _ => exact q1.elim
def mIf (t : MT) (a b : ME) : ME := fun ps => (t ps).bind fun x ps1 => if x = true then a ps1 else b ps1
theorem xif {c : Expr} {mt : MT} {ma mb : ME} (hc : PT X c (tT C W mt)) (ha : PE X a (tE C W ma)) (hb : PE X b (tE C W mb)) : PE X (.IfExp c a b pos) (tE C W (mIf mt ma mb)) :=
  pe_imp (pe_ifExp hc ha hb) fun σ H Q ⟨Gc, F, ps, R, q⟩ => seqT qE.mono R q fun x ps1 F1 H1 s1 R1 q1 => by
    cases x with
    | true => exact iteT ⟨Gc, F1, ps1, R1, q1⟩
    | false => exact iteF ⟨Gc, F1, ps1, R1, q1⟩
/-! ### lists of arguments, displays -/
def mNil : MA := fun ps => .ok [] ps
def mCons (a : ME) (r : MA) : MA := fun ps => (a ps).bind fun x ps1 => (r ps1).bind fun xs ps2 => .ok (x :: xs) ps2
theorem xa_nil : PA X [] (tA C W mNil) := pa_imp pa_nil fun σ H Q ⟨Gc, F, ps, R, q⟩ => q [] F H (Same.refl _) R .nil
theorem xa_cons {ma : ME} {mr : MA} (ha : PE X e (tE C W ma)) (hr : PA X es (tA C W mr)) (hs : starEach (e :: es) X.env = (false, eval e X.env) :: starEach es X.env := by rfl) : PA X (e :: es) (tA C W (mCons ma mr)) :=
  pa_imp (pa_cons ha hr hs) fun σ H Q ⟨Gc, F, ps, R, q⟩ => seqE qA.mono R q fun x ps1 v F1 H1 s1 R1 r1 q1 =>
    seqA qA.mono R1 q1 fun xs ps2 vs F2 H2 s2 R2 r2 q2 => q2 (v :: vs) F2 H2 (Same.refl _) R2 (.cons (r1.mono s2) r2)
def mTup (a : MA) : ME := fun ps => (a ps).bind fun xs ps1 => if xs.length ≤ sizeLine then .ok (.tuple xs) ps1 else .bad
def mLst (a : MA) : ME := fun ps => (a ps).bind fun xs ps1 => if xs.length ≤ sizeLine then .ok (.list xs) ps1 else .bad
theorem xtup {x1} {ma : MA} (h : PA X es (tA C W ma)) : PE X (.Tuple es x1 pos) (tE C W (mTup ma)) :=
  pe_imp (pe_tup h) fun σ H Q ⟨Gc, F, ps, R, q⟩ => seqA qE.mono R q fun xs ps1 vs F1 H1 s1 R1 r1 q1 => by
    by_cases hl : xs.length ≤ sizeLine
    · rw [if_pos hl] at q1
      have hf : ∀ p, H1 p = none → F1 p = none := fun p n => R1.fh.free n
      exact ⟨by rw [r1.length]; exact hl, fun p n => q1 _ _ _ (same_alloc (hf p n)) (R1.alloc n) (.tup (.of upd_same) (r1.mono (same_alloc (hf p n))))⟩
    · rw [if_neg hl] at q1; exact q1.elim
theorem xlst {ma : MA} (h : PA X es (tA C W ma)) : PE X (.List es pos) (tE C W (mLst ma)) :=
  pe_imp (pe_lst h) fun σ H Q ⟨Gc, F, ps, R, q⟩ => seqA qE.mono R q fun xs ps1 vs F1 H1 s1 R1 r1 q1 => by
    by_cases hl : xs.length ≤ sizeLine
    · rw [if_pos hl] at q1
      have hf : ∀ p, H1 p = none → F1 p = none := fun p n => R1.fh.free n
      exact ⟨by rw [r1.length]; exact hl, fun p n => q1 _ _ _ (same_alloc (hf p n)) (R1.alloc n) (.lst upd_same (r1.mono (same_alloc (hf p n))))⟩
    · rw [if_neg hl] at q1; exact q1.elim
end
end MM
namespace MM
open PySem PySem.Spec PyProof.Rows L2

/-! ### a def's promise -/
inductive Fo where
  | ret (d : D) (k : Dk)
  | exc (e : Ex) (k : Dk)
  | bad
abbrev MF := List D → Dk → Fo
def PoF (C : Mc) (E : Option XK) (Gc : Hp) (Q : VK) (F : Hp) : Fo → Prop
  | .ret d k' => ∀ v F' H', Same F F' → Rel C Gc F' H' ⟨[], k'⟩ [] → Rp C F' v d → Q v H'
  | .exc e k' => match E with
    | some E => ∀ cls dx F' H', Same F F' → Rel C Gc F' H' ⟨[], k'⟩ [] → C.xr e cls dx F' H' → E cls dx H'
    | none => False
  | .bad => False
/-- f tells what is told; no exception -/
def spM (C : Mc) (f : MF) : Sp := fun vs H Q _ => ∃ Gc F ds k, Rel C Gc F H ⟨[], k⟩ [] ∧ RpA C F vs ds ∧ PoF C none Gc Q F (f ds k)
/-- f tells what is told, or the exception -/
def spX (C : Mc) (f : MF) : Sp := fun vs H Q E => ∃ Gc F ds k, Rel C Gc F H ⟨[], k⟩ [] ∧ RpA C F vs ds ∧ PoF C (some E) Gc Q F (f ds k)

section
variable {C : Mc} {Gc F H : Hp} {ps : Ps} {σ : St}
open Classical in
theorem Rel.enter (R : Rel C Gc F H ps σ) : ∃ Gc', Rel C Gc' F H ⟨[], ps.dk⟩ [] ∧ ∀ F' H' k', Same F F' → Rel C Gc' F' H' ⟨[], k'⟩ [] → Rel C Gc F' H' ⟨ps.sl, k'⟩ σ := by
  let Gc' : Hp := fun b => if F b = none ∧ (∀ i, C.dk = some i → b ≠ i.a ∧ b ≠ i.c) then H b else none
  have yes : ∀ b, F b = none → (∀ i, C.dk = some i → b ≠ i.a ∧ b ≠ i.c) → Gc' b = H b := fun b h1 h2 => if_pos ⟨h1, h2⟩
  have get : ∀ b o, Gc' b = some o → H b = some o ∧ F b = none := fun b o e => by
    by_cases h : F b = none ∧ (∀ i, C.dk = some i → b ≠ i.a ∧ b ≠ i.c)
    · rw [yes b h.1 h.2] at e; exact ⟨e, h.1⟩
    · have z : Gc' b = none := if_neg h
      rw [z] at e; cases e
  have noA : ∀ i, C.dk = some i → Gc' i.a = none := fun i hi => if_neg fun h => (h.2 i hi).1 rfl
  have noC : ∀ i, C.dk = some i → Gc' i.c = none := fun i hi => if_neg fun h => (h.2 i hi).2 rfl
  have own0 : ∀ {σ : St} {j p}, Own [] σ j p → False := fun {σ j p} ⟨⟨s, e, _⟩, _⟩ => by simp at e
  refine ⟨Gc', ⟨R.fh, fun b o e => (get b o e).1, fun b o e => (get b o e).2, rfl, fun i s e => by simp at e, fun i j p a _ => (own0 a).elim, fun i hi => ?_, fun i _ j p a => (own0 a).elim⟩, fun F' H' k' sf R' => ?_⟩
  · have d := R.dk i hi
    exact ⟨d.d, d.l, d.fa, d.fc, noA i hi, noC i hi⟩
  · have old : ∀ b o, Gc b = some o → Gc' b = some o := fun b o e => by
      have n1 : ∀ i, C.dk = some i → b ≠ i.a := fun i hi z => by rw [z, (R.dk i hi).ga] at e; cases e
      have n2 : ∀ i, C.dk = some i → b ≠ i.c := fun i hi z => by rw [z, (R.dk i hi).gc] at e; cases e
      rw [yes b (R.dj b o e) fun i hi => ⟨n1 i hi, n2 i hi⟩]
      exact R.gh b o e
    have own : ∀ j p o, Own ps.sl σ j p → H p = some o → F p = none → Gc' p = some o := fun j p o w h f => by
      rw [yes p f fun i hi => R.od i hi j p w]; exact h
    refine ⟨R'.fh, fun b o e => R'.gh b o (old b o e), fun b o e => R'.dj b o (old b o e), R.len, fun i s e => ?_, R.ow, fun i hi => ?_, R.od⟩
    · have z := R.sl i s e
      cases s with
      | no => trivial
      | fz d => obtain ⟨x, h1, h2⟩ := z; exact ⟨x, h1, h2.mono sf⟩
      | ml ds =>
        obtain ⟨p, xs, h1, h2, h3, h4, h5⟩ := z
        have g := own i p _ (own_at e rfl h1) h2 h3
        exact ⟨p, xs, h1, R'.gh _ _ g, R'.dj _ _ g, h4, h5.mono sf⟩
      | md ds =>
        obtain ⟨p, xs, h1, h2, h3, h4, h5, h6⟩ := z
        have g := own i p _ (own_at e rfl h1) h2 h3
        exact ⟨p, xs, h1, R'.gh _ _ g, R'.dj _ _ g, h4, h5.mono sf, h6⟩
    · have d := R'.dk i hi
      exact ⟨d.d, d.l, d.fa, d.fc, (R.dk i hi).ga, (R.dk i hi).gc⟩
/-- the slots are dropped -/
theorem Rel.drop (R : Rel C Gc F H ps σ) : Rel C Gc F H ⟨[], ps.dk⟩ [] :=
  ⟨R.fh, R.gh, R.dj, rfl, fun i s e => by simp at e, fun i j p ⟨⟨s, e, _⟩, _⟩ _ => by simp at e, R.dk, fun i _ j p ⟨⟨s, e, _⟩, _⟩ => by simp at e⟩
end
def mCall (f : MF) (a : MA) : ME := fun ps => (a ps).bind fun ds ps1 => match f ds ps1.dk with
  | .ret d k => .ok d ⟨ps1.sl, k⟩
  | _ => .bad
section
variable {X : Cx} {C : Mc} {W : WX} {e : Expr} {es : List Expr} {pos p : Pos} {k : Nat} {f : Addr} {fd : FuncData} {pn : List Str} {x : Str} {mf : MF}
/-- a call of a def that raises nothing -/
theorem xcall {ma : MA} (G : FnOk X.prog X.w X.K X.mg X.base CX0 k f fd pn (spM C mf)) (hr : Room k X.A) (hg : Gl X x) (hm : X.mg x = some (.ref f)) (hk : PySem.W.keepIn X.K (.ref f) = true) (hb : Binds X.K fd pn []) (ha : PA X (e :: es) (tA C W ma))
    (hdb : (x == ("__debug__" : Str)) = false := by decide) (he : starEach (e :: es) X.env = (false, eval e X.env) :: starEach es X.env := by rfl) (hpl : (backTo pos (starEach es X.env)).any (·.1) = false := by rfl) :
    PE X (.Call (.Name x p) (e :: es) [] pos) (tE C W (mCall mf ma)) :=
  pe_imp (pe_call (E := E0) G hr hg hm hk hb .nil pass0 ha hdb he hpl) fun σ H Q ⟨Gc, F, ps, R, q⟩ => seqA qE.mono R q fun ds ps1 vs F1 H1 s1 R1 r1 q1 => by
    obtain ⟨Gc', R2, back⟩ := R1.enter
    rw [List.append_nil]
    refine ⟨Gc', F1, ds, ps1.dk, R2, r1, ?_⟩
    cases z : mf ds ps1.dk with
    | ret d k' => rw [z] at q1; exact fun v F' H' s R' r => q1 v F' H' s (back F' H' k' s R') r
    | exc e' k' => rw [z] at q1; exact q1.elim
    | bad => rw [z] at q1; exact q1.elim
theorem xcall0 (G : FnOk X.prog X.w X.K X.mg X.base CX0 k f fd pn (spM C mf)) (hr : Room k X.A) (hg : Gl X x) (hm : X.mg x = some (.ref f)) (hk : PySem.W.keepIn X.K (.ref f) = true) (hb : Binds X.K fd pn [])
    (hdb : (x == ("__debug__" : Str)) = false := by decide) :
    PE X (.Call (.Name x p) [] [] pos) (tE C W (mCall mf mNil)) :=
  pe_imp (pe_call0 (E := E0) G hr hg hm hk hb .nil pass0 hdb) fun σ H Q ⟨Gc, F, ps, R, q⟩ => by
    show spM C mf ([] ++ []) H Q E0
    obtain ⟨Gc', R2, back⟩ := R.enter
    refine ⟨Gc', F, [], ps.dk, R2, .nil, ?_⟩
    have q1 : Po C W Gc σ (qE C Gc σ Q) F (match mf [] ps.dk with
      | .ret d k => .ok d ⟨ps.sl, k⟩
      | _ => .bad) := q
    cases z : mf [] ps.dk with
    | ret d k' => rw [z] at q1; exact fun v F' H' s R' r => q1 v F' H' s (back F' H' k' s R') r
    | exc e' k' => rw [z] at q1; exact q1.elim
    | bad => rw [z] at q1; exact q1.elim
/-- .. by keywords: the arguments in the row's order, put in the parameters' order by g -/
def mCallK (f : MF) (g : List D → List D → List D) (a b : MA) : ME := fun ps => (a ps).bind fun ds ps1 => (b ps1).bind fun es ps2 => match f (g ds es) ps2.dk with
  | .ret d k => .ok d ⟨ps2.sl, k⟩
  | _ => .bad
end

/-! ### statements -/
inductive So where
  | next (ps : Ps)
  | ret (d : D) (ps : Ps)
  | brk (ps : Ps)
  | cont (ps : Ps)
  | exc (e : Ex) (ps : Ps)
  | bad
abbrev MS := Ps → So
def Out.bindS {α : Type} (x : Out α) (f : α → Ps → So) : So := match x with
  | .ok a ps => f a ps
  | .exc e ps => .exc e ps
  | .bad => .bad
@[simp] theorem Out.bindS_ok {α : Type} (a : α) (ps : Ps) (f : α → Ps → So) : (Out.ok a ps).bindS f = f a ps := rfl
@[simp] theorem Out.bindS_exc {α : Type} (e : Ex) (ps : Ps) (f : α → Ps → So) : (Out.exc e ps : Out α).bindS f = .exc e ps := rfl
@[simp] theorem Out.bindS_bad {α : Type} (f : α → Ps → So) : (Out.bad : Out α).bindS f = .bad := rfl
def PoS (C : Mc) (W : WX) (Gc : Hp) (D : Ends) (F : Hp) : So → Prop
  | .next ps' => ∀ σ' F' H', Same F F' → Rel C Gc F' H' ps' σ' → D.nx σ' H'
  | .ret d ps' => ∀ v σ' F' H', Same F F' → Rel C Gc F' H' ps' σ' → Rp C F' v d → D.rt v H'
  | .brk ps' => ∀ σ' F' H', Same F F' → Rel C Gc F' H' ps' σ' → D.bk σ' H'
  | .cont ps' => ∀ σ' F' H', Same F F' → Rel C Gc F' H' ps' σ' → D.ct σ' H'
  | .exc e ps' => ∀ σ' F' H' cls dx, Same F F' → Rel C Gc F' H' ps' σ' → C.xr e cls dx F' H' → W cls dx σ' H'
  | .bad => False
def tS (C : Mc) (W : WX) (m : MS) : TS := fun D σ H => ∃ Gc F ps, Rel C Gc F H ps σ ∧ PoS C W Gc D F (m ps)
section
variable {C : Mc} {W : WX} {Gc F H : Hp} {ps : Ps} {σ : St} {D : Ends}
theorem PoS.mono {F F' : Hp} (s : Same F F') : ∀ {x : So}, PoS C W Gc D F x → PoS C W Gc D F' x
  | .next _, h => fun σ F2 H2 s2 => h σ F2 H2 (s.trans s2)
  | .ret _ _, h => fun v σ F2 H2 s2 => h v σ F2 H2 (s.trans s2)
  | .brk _, h => fun σ F2 H2 s2 => h σ F2 H2 (s.trans s2)
  | .cont _, h => fun σ F2 H2 s2 => h σ F2 H2 (s.trans s2)
  | .exc _ _, h => fun σ F2 H2 c d s2 => h σ F2 H2 c d (s.trans s2)
  | .bad, h => h
/-- another end where a piece goes on -/
theorem PoS.thn {D' : Ends} {x : So} {g : Ps → So} (h : PoS C W Gc D F (match x with | .next ps => g ps | y => y)) (hr : D'.rt = D.rt) (hb : D'.bk = D.bk) (hc : D'.ct = D.ct)
    (k : ∀ ps' σ' F' H', Same F F' → Rel C Gc F' H' ps' σ' → PoS C W Gc D F' (g ps') → D'.nx σ' H') : PoS C W Gc D' F x := by
  cases x with
  | next ps' => exact fun σ' F' H' s R => k ps' σ' F' H' s R (PoS.mono s h)
  | ret d ps' => intro v σ' F' H' s R r; rw [hr]; exact h v σ' F' H' s R r
  | brk ps' => intro σ' F' H' s R; rw [hb]; exact h σ' F' H' s R
  | cont ps' => intro σ' F' H' s R; rw [hc]; exact h σ' F' H' s R
  | exc e ps' => exact h
  | bad => exact h
theorem seqES {m : ME} {f : MM.D → Ps → So} {Q : VK} (R : Rel C Gc F H ps σ) (h : PoS C W Gc D F ((m ps).bindS f))
    (k : ∀ d ps' v F' H', Same F F' → Rel C Gc F' H' ps' σ → Rp C F' v d → PoS C W Gc D F' (f d ps') → Q v H') : tE C W m σ H Q := by
  refine ⟨Gc, F, ps, R, ?_⟩
  cases e : m ps with
  | ok d ps' => rw [e] at h; exact fun v F' H' s R' r => k d ps' v F' H' s R' r (h.mono s)
  | exc x ps' => rw [e] at h; exact fun F' H' c d s => h σ F' H' c d s
  | bad => rw [e] at h; exact h
theorem seqTS {m : MT} {f : Bool → Ps → So} {Q : Bool → Hp → Prop} (R : Rel C Gc F H ps σ) (h : PoS C W Gc D F ((m ps).bindS f))
    (k : ∀ d ps' F' H', Same F F' → Rel C Gc F' H' ps' σ → PoS C W Gc D F' (f d ps') → Q d H') : tT C W m σ H Q := by
  refine ⟨Gc, F, ps, R, ?_⟩
  cases e : m ps with
  | ok d ps' => rw [e] at h; exact fun F' H' s R' => k d ps' F' H' s R' (h.mono s)
  | exc x ps' => rw [e] at h; exact fun F' H' c d s => h σ F' H' c d s
  | bad => rw [e] at h; exact h
theorem seqAS {m : MA} {f : List MM.D → Ps → So} {Q : List V → Hp → Prop} (R : Rel C Gc F H ps σ) (h : PoS C W Gc D F ((m ps).bindS f))
    (k : ∀ d ps' v F' H', Same F F' → Rel C Gc F' H' ps' σ → RpA C F' v d → PoS C W Gc D F' (f d ps') → Q v H') : tA C W m σ H Q := by
  refine ⟨Gc, F, ps, R, ?_⟩
  cases e : m ps with
  | ok d ps' => rw [e] at h; exact fun v F' H' s R' r => k d ps' v F' H' s R' r (h.mono s)
  | exc x ps' => rw [e] at h; exact fun F' H' c d s => h σ F' H' c d s
  | bad => rw [e] at h; exact h
end
section
variable {X : Cx} {C : Mc} {W : WX} {st : Stmt} {rest : List Stmt} {e : Expr} {pos : Pos}
def mNext : MS := fun ps => .next ps
def mSeq (a b : MS) : MS := fun ps => match a ps with
  | .next ps1 => b ps1
  | y => y
theorem xs_nil : PSs X [] (tS C W mNext) := pss_imp pss_nil fun D σ H ⟨Gc, F, ps, R, q⟩ => q σ F H (Same.refl _) R
theorem xs_cons {ma mb : MS} (h1 : PS X st (tS C W ma)) (h2 : PSs X rest (tS C W mb)) : PSs X (st :: rest) (tS C W (mSeq ma mb)) :=
  pss_imp (pss_cons h1 h2) fun D σ H ⟨Gc, F, ps, R, q⟩ => ⟨Gc, F, ps, R, PoS.thn (g := mb) q rfl rfl rfl fun ps' σ' F' H' s R' q' => ⟨Gc, F', ps', R', q'⟩⟩
theorem xs_one {ma : MS} (h1 : PS X st (tS C W ma)) : PSs X [st] (tS C W ma) := pss_one h1
def mRet (a : ME) : MS := fun ps => (a ps).bindS fun d ps1 => .ret d ps1
theorem xs_ret {ma : ME} (h : PE X e (tE C W ma)) : PS X (.Return (some e) pos) (tS C W (mRet ma)) :=
  ps_imp (ps_ret h) fun D σ H ⟨Gc, F, ps, R, q⟩ => seqES R q fun d ps' v F' H' s R' r q' => q' v σ F' H' (Same.refl _) R' r
def mRetN : MS := fun ps => .ret .none ps
theorem xs_retN : PS X (.Return none pos) (tS C W mRetN) := ps_imp ps_retN fun D σ H ⟨Gc, F, ps, R, q⟩ => q .non σ F H (Same.refl _) R .non
def mBrk : MS := fun ps => .brk ps
def mCnt : MS := fun ps => .cont ps
theorem xs_break : PS X (.Break pos) (tS C W mBrk) := ps_imp ps_break fun D σ H ⟨Gc, F, ps, R, q⟩ => q σ F H (Same.refl _) R
theorem xs_continue : PS X (.Continue pos) (tS C W mCnt) := ps_imp ps_continue fun D σ H ⟨Gc, F, ps, R, q⟩ => q σ F H (Same.refl _) R
theorem xs_pass : PS X (.Pass pos) (tS C W mNext) := ps_imp ps_pass fun D σ H ⟨Gc, F, ps, R, q⟩ => q σ F H (Same.refl _) R
def mDrop (a : ME) : MS := fun ps => (a ps).bindS fun _ ps1 => .next ps1
theorem xs_expr {ma : ME} (h : PE X e (tE C W ma)) (hs : swapsWith e none pos.line X.env = pure false := by rfl) : PS X (.Expr e pos) (tS C W (mDrop ma)) :=
  ps_imp (ps_expr h hs) fun D σ H ⟨Gc, F, ps, R, q⟩ => seqES R q fun d ps' v F' H' s R' r q' => q' σ F' H' (Same.refl _) R'
def mSet (i : Nat) (a : ME) : MS := fun ps => (a ps).bindS fun d ps1 => .next (ps1.setS i (.fz d))
theorem xs_set {i : Nat} {x : Str} {ma : ME} {pos' : Pos} (hN : X.N.Nodup) (hi : X.N[i]? = some x) (hx : Loc X.env.scope x) (he : PE X e (tE C W ma)) (hs : swapsWith e (some (.Name x pos')) pos.line X.env = pure false := by rfl) (hf : X.fn x = true ∨ X.env.scope.names.lookup x = some .local := by first | exact .inl rfl | exact .inr rfl | assumption) :
    PS X (.Assign [.Name x pos'] e pos) (tS C W (mSet i ma)) :=
  ps_imp (ps_set hN hi hx he hs hf) fun D σ H ⟨Gc, F, ps, R, q⟩ => seqES R q fun d ps' v F' H' s R' r q' => q' _ F' H' (Same.refl _) (R'.set r)
/-- a, b = x, y -/
def mPar (i j : Nat) (a : MA) : MS := fun ps => (a ps).bindS fun ds ps1 => match ds with
  | [x, y] => .next ((ps1.setS i (.fz x)).setS j (.fz y))
  | _ => .bad
theorem xs_par {i j : Nat} {x y : Str} {a b : Expr} {ma : MA} {px py pt : Pos} {kt k2 pt2} (hc : X.calm = true) (hN : X.N.Nodup) (hi : X.N[i]? = some x) (hj : X.N[j]? = some y) (hij : i ≠ j)
    (hx : X.env.scope.names.lookup x = some .local) (hy : X.env.scope.names.lookup y = some .local) (ha : PA X [a, b] (tA C W ma))
    (hw : swappedStores [.Tuple [.Name x px, .Name y py] kt pt] (.Tuple [a, b] k2 pt2) X.env = pure (some [x, y]))
    (hs : swapsWithSole [.Tuple [.Name x px, .Name y py] kt pt] (.Tuple [a, b] k2 pt2) pos.line X.env = pure false := by rfl) :
    PS X (.Assign [.Tuple [.Name x px, .Name y py] kt pt] (.Tuple [a, b] k2 pt2) pos) (tS C W (mPar i j ma)) :=
  ps_imp (ps_par hc hN hi hj hij hx hy ha hw hs) fun D σ H ⟨Gc, F, ps, R, q⟩ => seqAS R q fun ds ps' vs F' H' s R' r q' => by
    match ds, r with
    | [d1, d2], .cons r1 (.cons r2 .nil) => exact ⟨_, _, rfl, q' _ F' H' (Same.refl _) ((R'.set r1).set r2)⟩
    | [], _ => exact q'.elim
    | [_], _ => exact q'.elim
    | _ :: _ :: _ :: _, _ => exact q'.elim
/-- a, b, c = x, y, z -/
def mPar3 (i j l : Nat) (a : MA) : MS := fun ps => (a ps).bindS fun ds ps1 => match ds with
  | [x, y, z] => .next (((ps1.setS i (.fz x)).setS j (.fz y)).setS l (.fz z))
  | _ => .bad
theorem par3_ok {i j l : Nat} {ma : MA} {D : Ends} {σ : St} {H : Hp} (h : tS C W (mPar3 i j l ma) D σ H) : tPar3 i j l (tA C W ma) D σ H := by
  obtain ⟨Gc, F, ps, R, q⟩ := h
  refine seqAS R q fun ds ps' vs F' H' s R' r q' => ?_
  match ds, r with
  | [d1, d2, d3], .cons r1 (.cons r2 (.cons r3 .nil)) => exact ⟨_, _, _, rfl, q' _ F' H' (Same.refl _) (((R'.set r1).set r2).set r3)⟩
  | [], _ => exact q'.elim
  | [_], _ => exact q'.elim
  | [_, _], _ => exact q'.elim
  | _ :: _ :: _ :: _ :: _, _ => exact q'.elim
def mIfS (t : MT) (a b : MS) : MS := fun ps => (t ps).bindS fun x ps1 => if x = true then a ps1 else b ps1
theorem xs_if {c : Expr} {a b : List Stmt} {mt : MT} {ma mb : MS} (hc : PT X c (tT C W mt)) (ha : PSs X a (tS C W ma)) (hb : PSs X b (tS C W mb)) : PS X (.If c a b pos) (tS C W (mIfS mt ma mb)) :=
  ps_imp (ps_if hc ha hb) fun D σ H ⟨Gc, F, ps, R, q⟩ => seqTS R q fun x ps1 F1 H1 s1 R1 q1 => by
    cases x with
    | true => exact iteT ⟨Gc, F1, ps1, R1, q1⟩
    | false => exact iteF ⟨Gc, F1, ps1, R1, q1⟩
/-- while, at most n turns -/
def mWhile (t : MT) (a : MS) : Nat → MS
  | 0 => fun _ => .bad
  | n + 1 => fun ps => (t ps).bindS fun x ps1 => if x = true then (match a ps1 with
      | .next ps2 => mWhile t a n ps2
      | .cont ps2 => mWhile t a n ps2
      | .brk ps2 => .next ps2
      | y => y) else .next ps1
theorem xs_while {c : Expr} {body : List Stmt} {mt : MT} {mb : MS} (n : Nat) (hp : PassesOwn (model X.prog X.w) X.A X.env X.xe) (hc : PT X c (tT C W mt)) (hb : PSs X body (tS C W mb)) : PS X (.While c body [] pos) (tS C W (mWhile mt mb n)) :=
  ps_imp (ps_while hp hc hb) fun D σ H ⟨Gc, F, ps, R, q⟩ => by
    refine ⟨fun m σ H => ∃ F' ps', Same F F' ∧ Rel C Gc F' H ps' σ ∧ PoS C W Gc D F' (mWhile mt mb m ps'), ⟨n, F, ps, Same.refl _, R, q⟩, ?_⟩
    rintro m σ1 H1 ⟨F1, ps1, s1, R1, q1⟩
    cases m with
    | zero => exact q1.elim
    | succ m =>
      refine seqTS R1 q1 fun x ps2 F2 H2 s2 R2 q2 => ?_
      cases x with
      | false => exact iteF (q2 σ1 F2 H2 (Same.refl _) R2)
      | true =>
        refine iteT ⟨fun σ' H' => ∃ F' ps', Same F F' ∧ Rel C Gc F' H' ps' σ' ∧ PoS C W Gc D F' (mWhile mt mb m ps'), fun σ' H' h => ⟨m, Nat.lt_succ_self m, h⟩, Gc, F2, ps2, R2, ?_⟩
        have q3 : PoS C W Gc D F2 (match mb ps2 with
          | .next ps2 => mWhile mt mb m ps2
          | .cont ps2 => mWhile mt mb m ps2
          | .brk ps2 => .next ps2
          | y => y) := q2
        cases z : mb ps2 with
        | next ps3 => rw [z] at q3; exact fun σ' F' H' s R' => ⟨F', ps3, (s1.trans s2).trans s, R', q3.mono s⟩
        | cont ps3 => rw [z] at q3; exact fun σ' F' H' s R' => ⟨F', ps3, (s1.trans s2).trans s, R', q3.mono s⟩
        | brk ps3 => rw [z] at q3; exact q3
        | ret d ps3 => rw [z] at q3; exact q3
        | exc e ps3 => rw [z] at q3; exact q3
        | bad => rw [z] at q3; exact q3
end
/-! ### a def -/
def sl0 (n : Nat) (ds : List D) : List Sl := ds.map Sl.fz ++ List.replicate (n - ds.length) Sl.no
def mFun (np n : Nat) (body : MS) : MF := fun ds k => if ds.length = np then (match body ⟨sl0 n ds, k⟩ with
  | .ret d ps => .ret d ps.dk
  | .next ps => .ret .none ps.dk
  | .exc e ps => .exc e ps.dk
  | _ => .bad) else .bad
theorem own_none {sl : List Sl} {σ : St} (h : ∀ (i : Nat) (s : Sl), sl[i]? = some s → s.mut = false) {j : Nat} {p : Addr} : ¬ Own sl σ j p := fun ⟨⟨s, e, m⟩, _⟩ => by rw [h j s e] at m; cases m
theorem sl0_mut {n : Nat} {ds : List D} : ∀ (i : Nat) (s : Sl), (sl0 n ds)[i]? = some s → s.mut = false := fun i s e => by
  have := List.mem_of_getElem? e
  unfold sl0 at this
  rcases List.mem_append.mp this with h | h
  · obtain ⟨d, _, rfl⟩ := List.mem_map.mp h; rfl
  · rw [(List.mem_replicate.mp h).2]; rfl
theorem rel_start {C : Mc} {Gc F H : Hp} {k : Dk} {N : List Str} {vs : List V} {ds : List D} (R : Rel C Gc F H ⟨[], k⟩ []) (r : RpA C F vs ds) : Rel C Gc F H ⟨sl0 N.length ds, k⟩ (L2.start N vs) := by
  have hl := r.length
  refine ⟨R.fh, R.gh, R.dj, by simp [L2.start, sl0, hl], fun i s e => ?_, fun i j p a _ => (own_none sl0_mut a).elim, R.dk, fun i _ j p a => (own_none sl0_mut a).elim⟩
  by_cases hi : i < ds.length
  · have e' : (sl0 N.length ds)[i]? = some (.fz ds[i]) := by
      unfold sl0
      rw [List.getElem?_append_left (by simpa using hi)]
      simp [hi]
    have e2 : (sl0 N.length ds)[i]? = some s := e
    rw [e'] at e2
    cases e2
    obtain ⟨v, h1, h2⟩ := r.get' (i := i) (d := ds[i]) (by simp [hi])
    refine ⟨v, ?_, h2⟩
    unfold L2.start
    rw [List.getElem?_append_left (by simp [hl, hi])]
    simp [h1]
  · have hm : s = .no := by
      have e2 : (sl0 N.length ds)[i]? = some s := e
      unfold sl0 at e2
      rw [List.getElem?_append_right (by simp; omega)] at e2
      exact (List.mem_replicate.mp (List.mem_of_getElem? e2)).2
    subst hm
    trivial
def W0 : WX := fun _ _ _ _ => False
section
variable {P : Program} {w : World} {K : PySem.W.Frag} {mg : Str → Option Value} {base : Heap}
/-- a def that raises nothing: its body's plain function -/
theorem fn_ok {x qual : Str} {st : Stmt} {f : Addr} {fd : FuncData} {N pn : List Str} {k : Nat} {C : Mc} {mb : MS} (F : Fun K x qual st f fd) (S : FnScope N pn (defScope st)) 
    (hbody : ∀ (cdv : Value) (A : Around) (outer : List Env) (s : Shared) (H : Hp) (E : XK), Room k (A.deeper (envOfC qual (defScope st) s.heap.objs.size f cdv)) →
      PSs (cxOf CX0 P w K mg base N qual (defScope st) f cdv A outer s H E).nox (defBody st) (tS C W0 mb)) : FnOk P w K mg base CX0 (k + 1) f fd pn (spM C (mFun pn.length N.length mb)) := by
  refine F.ok S (fun vs H Q E h => ?_) (fun cdv A outer s H vs Q E hr h => ?_)
  · obtain ⟨Gc, Fz, ds, k', R, r, q⟩ := h
    unfold mFun at q
    by_cases hl : ds.length = pn.length
    · exact r.length.trans hl
    · rw [if_neg hl] at q; exact q.elim
  · obtain ⟨Gc, Fz, ds, k', R, r, q⟩ := h
    refine ⟨_, hbody cdv A outer s H E hr, Gc, Fz, ⟨sl0 N.length ds, k'⟩, rel_start R r, ?_⟩
    unfold mFun at q
    by_cases hl : ds.length = pn.length
    · rw [if_pos hl] at q
      cases z : mb ⟨sl0 N.length ds, k'⟩ with
      | next ps => rw [z] at q; exact fun σ' F' H' s R' => q .non F' H' s R'.drop .non
      | ret d ps => rw [z] at q; exact fun v σ' F' H' s R' r' => q v F' H' s R'.drop r'
      | brk ps => rw [z] at q; exact q.elim
      | cont ps => rw [z] at q; exact q.elim
      | exc e ps => rw [z] at q; exact q.elim
      | bad => rw [z] at q; exact q.elim
    · rw [if_neg hl] at q; exact q.elim
end
end MM
namespace MM
open PySem PySem.Spec PyProof.Rows L2

/-! ### data without dicts, for == and in -/
section
variable {C : Mc} {F H : Hp}
mutual
theorem Rp.dp (hF : Same F H) : ∀ {v : V} {d : D}, Rp C F v d → d.canLay0 = true → Dp C.K H v d
  | _, _, .non, _ => .non
  | _, _, .bl b, _ => .bl b
  | _, _, .int i, _ => .int i
  | _, _, .str x, _ => .str x
  | _, _, .lst h r, l => .lst (SqL.of (hF _ _ h)) (RpA.dp hF r (by simpa only [PyData.canLay0] using l))
  | _, _, .tup h r, l => .tup (sqT_mono hF h) (RpA.dp hF r (by simpa only [PyData.canLay0] using l))
  | _, _, .dct _ _ _, l => by simp [PyData.canLay0] at l
  | _, _, .deck _, l => by simp [deckD, PyData.canLay0] at l
theorem RpA.dp (hF : Same F H) : ∀ {vs : List V} {ds : List D}, RpA C F vs ds → PyData.canLayAll0 ds = true → DpAll C.K H vs ds
  | _, _, .nil, _ => .nil
  | _, _, .cons r t, l => by
    have l' := l
    rw [PyData.canLayAll0, Bool.and_eq_true] at l'
    exact .cons (Rp.dp hF r l'.1) (RpA.dp hF t l'.2)
end
end
theorem lay_of {d : D} (h : SeqAt.shaped d = true) : d.canLay0 = true := SeqAt.canLay_of_shaped h
def dEq (x y : D) : Option D := if (SeqAt.shaped x && SeqAt.shaped y) = true then some (.bool (PyData.eqv x y)) else none
def dNe (x y : D) : Option D := if (SeqAt.shaped x && SeqAt.shaped y) = true then some (.bool (!PyData.eqv x y)) else none
section
variable {X : Cx} {C : Mc}
theorem om_eq (hK : C.K = X.K) : OpM C dEq (rEqD X.K) := by
  intro Gc F H ps σ v u x y z Q R rx ry hz q
  unfold dEq at hz
  by_cases h : (SeqAt.shaped x && SeqAt.shaped y) = true
  · rw [if_pos h] at hz
    cases hz
    rw [Bool.and_eq_true] at h
    rw [← hK]
    exact ⟨x, y, rx.dp R.fh (lay_of h.1), ry.dp R.fh (lay_of h.2), h.1, h.2, q _ F H (Same.refl _) R (.bl _)⟩
  · rw [if_neg h] at hz; cases hz
theorem om_ne (hK : C.K = X.K) : OpM C dNe (rNeD X.K) := by
  intro Gc F H ps σ v u x y z Q R rx ry hz q
  unfold dNe at hz
  by_cases h : (SeqAt.shaped x && SeqAt.shaped y) = true
  · rw [if_pos h] at hz
    cases hz
    rw [Bool.and_eq_true] at h
    rw [← hK]
    exact ⟨x, y, rx.dp R.fh (lay_of h.1), ry.dp R.fh (lay_of h.2), h.1, h.2, q _ F H (Same.refl _) R (.bl _)⟩
  · rw [if_neg h] at hz; cases hz
/-! ### in -/
def rInT (K : PySem.W.Frag) (neg : Bool) : R2 := fun x y H Q => ∃ d ds, Dp K H x d ∧ Dp K H y (.tuple ds) ∧ SeqAt.shaped d = true ∧ SeqAt.shaped (.tuple ds) = true ∧ Q (.bl (xor neg (ds.any fun z => PyData.eqv z d))) H
theorem op_inT (hu : X.A.units + 65 < cLine) : OpR X (compareOp .In) (rInT X.K false) := fun pins s σ H x y v u Q I rx ry ⟨d, ds, hd, he, sd, se, q⟩ => by
  obtain ⟨as, r1⟩ := Dp.reads I d x v hd rx
  obtain ⟨bs, r2⟩ := Dp.reads I (.tuple ds) y u he ry
  refine SeqAt.in_tuple_reads r2 r1 (SeqAt.canLay_of_shaped se) (lay_of sd) (room_in_shaped sd hu) ⟨.bl _, H, I, ?_, q⟩
  rw [Bool.false_xor]; rfl
theorem op_notInT (hu : X.A.units + 65 < cLine) : OpR X (compareOp .NotIn) (rInT X.K true) := fun pins s σ H x y v u Q I rx ry ⟨d, ds, hd, he, sd, se, q⟩ => by
  obtain ⟨as, r1⟩ := Dp.reads I d x v hd rx
  obtain ⟨bs, r2⟩ := Dp.reads I (.tuple ds) y u he ry
  refine SeqAt.notIn_tuple_reads r2 r1 (SeqAt.canLay_of_shaped se) (lay_of sd) (room_in_shaped sd hu) ⟨.bl _, H, I, ?_, q⟩
  rw [Bool.true_xor]; rfl
def toKey : D → Option Key
  | .int i => some (.inl i)
  | .str x => some (.inr x)
  | _ => none
theorem kD_of {d : D} {k : Key} (h : toKey d = some k) : d = kD k := by
  cases d <;> simp [toKey] at h <;> subst h <;> rfl
theorem toKey_kD (k : Key) : toKey (kD k) = some k := by cases k <;> rfl
/-- what a dict holds -/
def dLook (kvs : List (D × D)) (k : Key) : Option D := (kvs.find? fun p => decide (toKey p.1 = some k)).map (·.2)
def rInD2 (neg : Bool) : R2 := fun x y H Q => ∃ a o, y = .ref a ∧ DGet H a x o ∧ Q (.bl (xor neg o.isSome)) H
theorem op_inK (hu : X.A.units + 1 < cLine) : OpR X (compareOp .In) (rInD2 false) := fun pins s σ H x y v u Q I rx ry ⟨a, o, e, g, q⟩ => by
  subst e
  cases ry
  exact d_in hu I g rx fun s3 I3 => ⟨.bl o.isSome, H, I3, rfl, by rwa [Bool.false_xor] at q⟩
theorem op_notInK (hu : X.A.units + 1 < cLine) : OpR X (compareOp .NotIn) (rInD2 true) := fun pins s σ H x y v u Q I rx ry ⟨a, o, e, g, q⟩ => by
  subst e
  cases ry
  exact d_notIn hu I g rx fun s3 I3 => ⟨.bl (!o.isSome), H, I3, rfl, by rwa [Bool.true_xor] at q⟩
theorem look_find {F : Hp} : ∀ {kvs : List (Key × V)} {ds : List (D × D)}, RpA C F (kvs.map (·.2)) (ds.map (·.2)) → ds.map (·.1) = kvs.map (fun p => kD p.1) → ∀ k, (valV kvs k = none ∧ dLook ds k = none) ∨ ∃ v d, valV kvs k = some v ∧ dLook ds k = some d ∧ Rp C F v d
  | [], [], _, _, k => .inl ⟨rfl, rfl⟩
  | [], _ :: _, r, _, _ => nomatch r
  | _ :: _, [], r, _, _ => nomatch r
  | p :: kvs, q :: ds, r, e, k => by
    rw [List.map_cons, List.map_cons] at r e
    cases r with
    | cons r1 r2 =>
      injection e with e1 e2
      by_cases h : p.1 = k
      · refine .inr ⟨p.2, q.2, valV_pos h, ?_, r1⟩
        have z : decide (toKey q.1 = some k) = true := by rw [e1, toKey_kD, h]; simp
        simp [dLook, List.find?_cons, z]
      · have z : decide (toKey q.1 = some k) = false := by rw [e1, toKey_kD]; simpa using h
        have z1 : dLook (q :: ds) k = dLook ds k := by simp [dLook, List.find?_cons, z]
        rw [valV_neg h, z1]
        exact look_find r2 e2 k
theorem rp_kD {F : Hp} {v : V} {k : Key} (h : Rp C F v (kD k)) : v = kV k := by
  cases k with
  | inl i => cases h; rfl
  | inr x => cases h; rfl
/-- x in y -/
def dInB (x y : D) : Option Bool := match y with
  | .list ds => if (SeqAt.shaped x && SeqAt.shaped (.list ds)) = true then some (ds.any fun z => PyData.eqv z x) else none
  | .tuple ds => if (SeqAt.shaped x && SeqAt.shaped (.tuple ds)) = true then some (ds.any fun z => PyData.eqv z x) else none
  | .str b => match x with
    | .str a => some (!(Builtin.Str.occurrences b a 0 b.length 1).isEmpty)
    | _ => none
  | .dict kvs => if kvs.any (fun p => (toKey p.1).isNone) = true then none else (toKey x).map fun k => (dLook kvs k).isSome
  | _ => none
def dIn (x y : D) : Option D := (dInB x y).map .bool
def dNotIn (x y : D) : Option D := (dInB x y).map fun b => .bool (!b)
def rInAll (K : PySem.W.Frag) : R2 := fun x y H Q => rInD K x y H Q ∨ rInT K false x y H Q ∨ rInD2 false x y H Q ∨ ∃ i j, x = .str i ∧ y = .str j ∧ Q (.bl (!(Builtin.Str.occurrences j i 0 j.length 1).isEmpty)) H
def rNotInAll (K : PySem.W.Frag) : R2 := fun x y H Q => rNotInD K x y H Q ∨ rInT K true x y H Q ∨ rInD2 true x y H Q ∨ ∃ i j, x = .str i ∧ y = .str j ∧ Q (.bl (!(!(Builtin.Str.occurrences j i 0 j.length 1).isEmpty))) H
theorem op_inAll (hu : X.A.units + 65 < cLine) : OpR X (compareOp .In) (rInAll X.K) := (op_inD hu).or ((op_inT hu).or ((op_inK (by omega)).or op_in_str))
theorem op_notInAll (hu : X.A.units + 65 < cLine) : OpR X (compareOp .NotIn) (rNotInAll X.K) := (op_notInD hu).or ((op_notInT hu).or ((op_notInK (by omega)).or op_notin_str))
theorem dget_ok {Gc F H : Hp} {ps : Ps} {σ : St} {v : V} {kvs : List (D × D)} {k : Key} (R : Rel C Gc F H ps σ) (r : Rp C F v (.dict kvs)) (hk : kvs.any (fun p => (toKey p.1).isNone) = false) :
    ∃ a o, v = .ref a ∧ DGet H a (kV k) o ∧ ((o = none ∧ dLook kvs k = none) ∨ ∃ y d, o = some y ∧ dLook kvs k = some d ∧ Rp C F y d) := by
  cases r with
  | dct h1 h2 h3 =>
    rename_i a ks
    refine ⟨a, valV ks k, rfl, DGet.k (R.fh _ _ h1), ?_⟩
    rcases look_find h2 h3 k with ⟨e1, e2⟩ | ⟨y, d, e1, e2, e3⟩
    · exact .inl ⟨e1, e2⟩
    · exact .inr ⟨y, d, e1, e2, e3⟩
  | deck h => simp [toKey] at hk
theorem in_any (hK : C.K = X.K) {Gc F H : Hp} {ps : Ps} {σ : St} {v u : V} {x y : D} {b : Bool} {Q : VK} (R : Rel C Gc F H ps σ) (rx : Rp C F v x) (ry : Rp C F u y) (hz : dInB x y = some b) (hq : ∀ F' H', Same F F' → Rel C Gc F' H' ps σ → True) :
    (Q (.bl b) H → rInAll X.K v u H Q) ∧ (Q (.bl (!b)) H → rNotInAll X.K v u H Q) := by
  cases y with
  | list ds =>
    unfold dInB at hz
    dsimp only at hz
    by_cases h : (SeqAt.shaped x && SeqAt.shaped (.list ds)) = true
    · rw [if_pos h] at hz
      cases hz
      rw [Bool.and_eq_true] at h
      rw [← hK]
      exact ⟨fun q => .inl ⟨x, ds, rx.dp R.fh (lay_of h.1), ry.dp R.fh (lay_of h.2), h.1, h.2, q⟩, fun q => .inl ⟨x, ds, rx.dp R.fh (lay_of h.1), ry.dp R.fh (lay_of h.2), h.1, h.2, q⟩⟩
    · rw [if_neg h] at hz; cases hz
  | tuple ds =>
    unfold dInB at hz
    dsimp only at hz
    by_cases h : (SeqAt.shaped x && SeqAt.shaped (.tuple ds)) = true
    · rw [if_pos h] at hz
      cases hz
      rw [Bool.and_eq_true] at h
      rw [← hK]
      exact ⟨fun q => .inr (.inl ⟨x, ds, rx.dp R.fh (lay_of h.1), ry.dp R.fh (lay_of h.2), h.1, h.2, by rw [Bool.false_xor]; exact q⟩), fun q => .inr (.inl ⟨x, ds, rx.dp R.fh (lay_of h.1), ry.dp R.fh (lay_of h.2), h.1, h.2, by rw [Bool.true_xor]; exact q⟩)⟩
    · rw [if_neg h] at hz; cases hz
  | dict kvs =>
    unfold dInB at hz
    dsimp only at hz
    by_cases h : kvs.any (fun p => (toKey p.1).isNone) = true
    · rw [if_pos h] at hz; cases hz
    · rw [if_neg h] at hz
      obtain ⟨k, e1, e2⟩ := Option.map_eq_some_iff.mp hz
      have ex := kD_of e1
      subst ex
      have ev := rp_kD rx
      subst ev
      obtain ⟨a, o, rfl, g, cs⟩ := dget_ok (k := k) R ry (by simpa using h)
      have eo : o.isSome = b := by
        rcases cs with ⟨c1, c2⟩ | ⟨y, d, c1, c2, _⟩
        · rw [c1, ← e2, c2] <;> rfl
        · rw [c1, ← e2, c2] <;> rfl
      exact ⟨fun q => .inr (.inr (.inl ⟨a, o, rfl, g, by rw [Bool.false_xor, eo]; exact q⟩)), fun q => .inr (.inr (.inl ⟨a, o, rfl, g, by rw [Bool.true_xor, eo]; exact q⟩))⟩
  | str t =>
    cases x with
    | str a =>
      cases rx; cases ry
      have hz' : some (!(Builtin.Str.occurrences t a 0 t.length 1).isEmpty) = some b := hz
      cases hz'
      exact ⟨fun q => .inr (.inr (.inr ⟨a, t, rfl, rfl, q⟩)), fun q => .inr (.inr (.inr ⟨a, t, rfl, rfl, q⟩))⟩
    | _ => cases hz
  | _ => cases hz
theorem om_in (hK : C.K = X.K) : OpM C dIn (rInAll X.K) := by
  intro Gc F H ps σ v u x y z Q R rx ry hz q
  obtain ⟨b, e1, e2⟩ := Option.map_eq_some_iff.mp hz
  subst e2
  exact (in_any hK R rx ry e1 fun _ _ _ _ => trivial).1 (q _ F H (Same.refl _) R (.bl _))
theorem om_notIn (hK : C.K = X.K) : OpM C dNotIn (rNotInAll X.K) := by
  intro Gc F H ps σ v u x y z Q R rx ry hz q
  obtain ⟨b, e1, e2⟩ := Option.map_eq_some_iff.mp hz
  subst e2
  exact (in_any hK R rx ry e1 fun _ _ _ _ => trivial).2 (q _ F H (Same.refl _) R (.bl _))
/-! ### arithmetic -/
def dAdd : D → D → Option D
  | .int i, .int j => some (.int (i + j))
  | .str x, .str y => if x.length + y.length ≤ sizeLine then some (.str (x ++ y)) else none
  | .list xs, .list ys => if xs.length + ys.length ≤ sizeLine then some (.list (xs ++ ys)) else none
  | .tuple xs, .tuple ys => if xs.length + ys.length ≤ sizeLine then some (.tuple (xs ++ ys)) else none
  | _, _ => none
def rAddAll (K : PySem.W.Frag) : R2 := fun x y H Q => (∃ i j, x = .int i ∧ y = .int j ∧ Q (.int (i + j)) H) ∨ (∃ i j, x = .str i ∧ y = .str j ∧ i.length + j.length ≤ sizeLine ∧ Q (.str (i ++ j)) H) ∨ rCat x y H Q ∨ rCatA K x y H Q
theorem op_addAll : OpR X (binaryOp .Add) (rAddAll X.K) := OpR.or op_add (op_add_str.or (op_cat.or op_catA))
theorem om_add (hK : C.K = X.K) : OpM C dAdd (rAddAll X.K) := by
  intro Gc F H ps σ v u x y z Q R rx ry hz q
  have hf : ∀ p, H p = none → F p = none := fun p n => R.fh.free n
  unfold dAdd at hz
  split at hz
  · cases hz; cases rx; cases ry
    exact .inl ⟨_, _, rfl, rfl, q _ F H (Same.refl _) R (.int _)⟩
  · rename_i a b
    by_cases h : a.length + b.length ≤ sizeLine
    · rw [if_pos h] at hz; cases hz; cases rx; cases ry
      exact .inr (.inl ⟨_, _, rfl, rfl, h, q _ F H (Same.refl _) R (.str _)⟩)
    · rw [if_neg h] at hz; cases hz
  · rename_i a b
    by_cases h : a.length + b.length ≤ sizeLine
    · rw [if_pos h] at hz; cases hz
      cases rx with
      | lst h1 r1 =>
        cases ry with
        | lst h2 r2 =>
          exact .inr (.inr (.inl ⟨_, _, _, _, rfl, rfl, R.fh _ _ h1, R.fh _ _ h2, by rw [r1.length, r2.length]; exact h, fun p n => q _ _ _ (same_alloc (hf p n)) (R.alloc n) (.lst upd_same ((r1.append r2).mono (same_alloc (hf p n))))⟩))
    · rw [if_neg h] at hz; cases hz
  · rename_i a b
    by_cases h : a.length + b.length ≤ sizeLine
    · rw [if_pos h] at hz; cases hz
      cases rx with
      | tup h1 r1 =>
        cases ry with
        | tup h2 r2 =>
          rename_i p1 xs p2 ys
          rw [← hK]
          refine .inr (.inr (.inr ⟨_, _, xs, ys, rfl, rfl, sqT_mono R.fh h1, sqT_mono R.fh h2, by rw [r1.length, r2.length]; exact h, fun e => ?_, fun _ e => ?_, fun _ _ p n => q _ _ _ (same_alloc (hf p n)) (R.alloc n) (.tup (.of upd_same) ((r1.append r2).mono (same_alloc (hf p n))))⟩))
          · subst e; cases r1; exact q _ F H (Same.refl _) R (.tup h2 r2)
          · subst e; cases r2; rw [List.append_nil] at q; exact q _ F H (Same.refl _) R (.tup h1 r1)
    · rw [if_neg h] at hz; cases hz
  · cases hz
/-- ints by ints -/
def dI (P : Int → Int → Bool) (g : Int → Int → D) : D → D → Option D
  | .int i, .int j => if P i j = true then some (g i j) else none
  | _, _ => none
theorem om_int {P : Int → Int → Bool} {g : Int → Int → D} {Cd : Int → Int → Prop} {gv : Int → Int → V} (hp : ∀ i j, P i j = true → Cd i j) (hg : ∀ F i j, Rp C F (gv i j) (g i j)) : OpM C (dI P g) (rI Cd gv) := by
  intro Gc F H ps σ v u x y z Q R rx ry hz q
  unfold dI at hz
  split at hz
  · rename_i i j
    by_cases h : P i j = true
    · rw [if_pos h] at hz; cases hz; cases rx; cases ry
      exact ⟨_, _, rfl, rfl, hp _ _ h, q _ F H (Same.refl _) R (hg F _ _)⟩
    · rw [if_neg h] at hz; cases hz
  · cases hz
theorem om_int0 {g : Int → Int → D} {gv : Int → Int → V} (hg : ∀ F i j, Rp C F (gv i j) (g i j)) : OpM C (dI (fun _ _ => true) g) (rI0 gv) := by
  intro Gc F H ps σ v u x y z Q R rx ry hz q
  unfold dI at hz
  split at hz
  · rename_i i j
    rw [if_pos rfl] at hz; cases hz; cases rx; cases ry
    exact ⟨_, _, rfl, rfl, q _ F H (Same.refl _) R (hg F _ _)⟩
  · cases hz
abbrev dSub := dI (fun _ _ => true) fun i j => .int (i - j)
theorem om_sub : OpM C dSub (rI0 fun i j => .int (i - j)) := om_int0 fun _ i j => .int (i - j)
abbrev dFdiv := dI (fun _ j => decide (0 < j ∧ j < 1073741824)) fun i j => .int (i / j)
theorem om_fdiv : OpM C dFdiv (rI CDiv fun i j => .int (i / j)) := om_int (fun i j h => of_decide_eq_true (p := 0 < j ∧ j < 1073741824) h) fun _ i j => .int _
abbrev dMod := dI (fun _ j => decide (0 < j)) fun i j => .int (i % j)
theorem om_mod : OpM C dMod (rI (fun _ j => 0 < j) fun i j => .int (i % j)) := om_int (fun i j h => of_decide_eq_true h) fun _ i j => .int _
abbrev dPow := dI (fun i j => decide (0 ≤ j ∧ j ≤ 1000000 ∧ i.natAbs < 2 ^ 64)) fun i j => .int (i ^ j.toNat)
theorem om_pow : OpM C dPow (rI CPow fun i j => .int (i ^ j.toNat)) := om_int (fun i j h => of_decide_eq_true (p := 0 ≤ j ∧ j ≤ 1000000 ∧ i.natAbs < 2 ^ 64) h) fun _ i j => .int _
abbrev dMulI := dI (fun i j => decide ((-(2 ^ 64) < i ∧ i < 2 ^ 64) ∨ (-(2 ^ 64) < j ∧ j < 2 ^ 64))) fun i j => .int (i * j)
def dMul : D → D → Option D
  | .list xs, .int k => if (decide (-(2 ^ 63) ≤ k) && decide (k < 2 ^ 63) && decide (xs.length * k.toNat ≤ sizeLine)) = true then some (.list (List.replicate k.toNat xs).flatten) else none
  | x, y => dMulI x y
def rMulAll : R2 := fun x y H Q => rI CMul (fun i j => .int (i * j)) x y H Q ∨ rRep x y H Q
theorem op_mulAll : OpR X (binaryOp .Mult) rMulAll := OpR.or op_mul op_rep
theorem RpA.rep {F : Hp} {xs : List V} {ds : List D} (r : RpA C F xs ds) : ∀ k : Nat, RpA C F (List.replicate k xs).flatten (List.replicate k ds).flatten
  | 0 => .nil
  | k + 1 => by
    rw [List.replicate_succ, List.replicate_succ, List.flatten_cons, List.flatten_cons]
    exact r.append (RpA.rep r k)
theorem om_mul : OpM C dMul rMulAll := by
  intro Gc F H ps σ v u x y z Q R rx ry hz q
  unfold dMul at hz
  split at hz
  · rename_i xs k
    split at hz
    · rename_i h
      cases hz
      simp only [Bool.and_eq_true, decide_eq_true_eq] at h
      cases ry
      cases rx with
      | lst h1 r1 =>
        have hf : ∀ p, H p = none → F p = none := fun p n => R.fh.free n
        exact .inr ⟨_, _, _, rfl, rfl, R.fh _ _ h1, h.1.1, h.1.2, by rw [r1.length]; exact h.2, fun p n => q _ _ _ (same_alloc (hf p n)) (R.alloc n) (.lst upd_same ((r1.rep _).mono (same_alloc (hf p n))))⟩
    · cases hz
  · exact .inl (om_int (P := fun i j => decide ((-(2 ^ 64) < i ∧ i < 2 ^ 64) ∨ (-(2 ^ 64) < j ∧ j < 2 ^ 64))) (g := fun i j => .int (i * j)) (Cd := CMul) (gv := fun i j => .int (i * j)) (fun i j h => of_decide_eq_true (p := (-(2 ^ 64) < i ∧ i < 2 ^ 64) ∨ (-(2 ^ 64) < j ∧ j < 2 ^ 64)) h) (fun _ i j => .int _) Gc F H ps σ v u x y z Q R rx ry hz q)
abbrev dShr := dI (fun _ j => decide (0 ≤ j)) fun i j => .int (i / 2 ^ j.toNat)
theorem om_shr : OpM C dShr (rI (fun _ j => 0 ≤ j) fun i j => .int (i / 2 ^ j.toNat)) := om_int (fun i j h => of_decide_eq_true h) fun _ i j => .int _
abbrev dShl := dI (fun i j => decide (0 ≤ j ∧ j ≤ 1000000 ∧ i.natAbs < 2 ^ 64)) fun i j => .int (i * 2 ^ j.toNat)
theorem om_shl : OpM C dShl (rI CPow fun i j => .int (i * 2 ^ j.toNat)) := om_int (fun i j h => of_decide_eq_true (p := 0 ≤ j ∧ j ≤ 1000000 ∧ i.natAbs < 2 ^ 64) h) fun _ i j => .int _
abbrev dAnd := dI (fun _ _ => true) fun i j => .int (Builtin.bitAnd i j)
theorem om_and : OpM C dAnd (rI0 fun i j => .int (Builtin.bitAnd i j)) := om_int0 fun _ i j => .int _
abbrev dOr := dI (fun _ _ => true) fun i j => .int (Builtin.bitOr i j)
theorem om_or : OpM C dOr (rI0 fun i j => .int (Builtin.bitOr i j)) := om_int0 fun _ i j => .int _
def dNeg : D → Option D
  | .int i => some (.int (-i))
  | _ => none
theorem um_neg : UnM C dNeg (rU fun i => .int (-i)) := by
  intro Gc F H ps σ v x z Q R rx hz q
  cases x <;> simp [dNeg] at hz
  subst hz; cases rx
  exact ⟨_, rfl, q _ F H (Same.refl _) R (.int _)⟩
/-! ### order -/
def intsOf : List D → Option (List Int)
  | [] => some []
  | .int i :: r => (intsOf r).map (i :: ·)
  | _ :: _ => none
theorem intsOf_map (ns : List Int) : intsOf (ns.map .int) = some ns := by
  induction ns with
  | nil => rfl
  | cons n ns ih => simp [intsOf, ih]
theorem intsOf_eq : ∀ {ds : List D} {ns : List Int}, intsOf ds = some ns → ds = ns.map .int
  | [], ns, h => by simp [intsOf] at h; subst h; rfl
  | .int i :: r, ns, h => by
    simp only [intsOf] at h
    obtain ⟨ms, e1, e2⟩ := Option.map_eq_some_iff.mp h
    subst e2
    rw [intsOf_eq e1]; rfl
  | .none :: _, ns, h => nomatch h
  | .bool _ :: _, ns, h => nomatch h
  | .str _ :: _, ns, h => nomatch h
  | .list _ :: _, ns, h => nomatch h
  | .tuple _ :: _, ns, h => nomatch h
  | .dict _ :: _, ns, h => nomatch h
def dLt : D → D → Option D
  | .int i, .int j => some (.bool (decide (i < j)))
  | .tuple xs, .tuple ys => (intsOf xs).bind fun ns => (intsOf ys).map fun ms => .bool (HT.lexLt ns ms)
  | _, _ => none
def rLtAll (K : PySem.W.Frag) : R2 := fun x y H Q => rI0 (fun i j => .bl (decide (i < j))) x y H Q ∨ rLtT K x y H Q
theorem op_ltAll (hu : X.A.units < cLine) : OpR X (compareOp .Lt) (rLtAll X.K) := OpR.or op_lt (op_ltT hu)
theorem om_lt (hK : C.K = X.K) : OpM C dLt (rLtAll X.K) := by
  intro Gc F H ps σ v u x y z Q R rx ry hz q
  unfold dLt at hz
  split at hz
  · cases hz; cases rx; cases ry
    exact .inl ⟨_, _, rfl, rfl, q _ F H (Same.refl _) R (.bl _)⟩
  · rename_i xs ys
    obtain ⟨ns, e1, h2⟩ := Option.bind_eq_some_iff.mp hz
    obtain ⟨ms, e3, e4⟩ := Option.map_eq_some_iff.mp h2
    have h1 := intsOf_eq e1
    have h3 := intsOf_eq e3
    subst h1; subst h3; subst e4
    cases rx with
    | tup a1 r1 =>
      cases ry with
      | tup a2 r2 =>
        have z1 := r1.ints
        have z2 := r2.ints
        subst z1; subst z2
        rw [← hK]
        exact .inr ⟨_, _, ns, ms, rfl, rfl, sqT_mono R.fh a1, sqT_mono R.fh a2, q _ F H (Same.refl _) R (.bl _)⟩
  · cases hz
abbrev dGt := dI (fun _ _ => true) fun i j => .bool (decide (j < i))
theorem om_gt : OpM C dGt (rI0 fun i j => .bl (decide (j < i))) := om_int0 fun _ i j => .bl _
abbrev dGe := dI (fun _ _ => true) fun i j => .bool (decide (j ≤ i))
theorem om_ge : OpM C dGe (rI0 fun i j => .bl (decide (j ≤ i))) := om_int0 fun _ i j => .bl _
abbrev dLe := dI (fun _ _ => true) fun i j => .bool (decide (i ≤ j))
theorem om_le : OpM C dLe (rI0 fun i j => .bl (decide (i ≤ j))) := om_int0 fun _ i j => .bl _
/-! ### is -/
def isNon : D → Bool
  | .none => true
  | _ => false
def dIsN (x y : D) : Option D := match y with
  | .none => some (.bool (isNon x))
  | _ => none
def dNotN (x y : D) : Option D := match y with
  | .none => some (.bool (!isNon x))
  | _ => none
theorem isNon_ok {F : Hp} {v : V} {x : D} (r : Rp C F v x) : decide (v = .non) = isNon x := by cases r <;> rfl
theorem om_isN : OpM C dIsN (fun x y H Q => y = .non ∧ Q (.bl (decide (x = .non))) H) := by
  intro Gc F H ps σ v u x y z Q R rx ry hz q
  cases y <;> simp [dIsN] at hz
  subst hz; cases ry
  exact ⟨rfl, by rw [isNon_ok rx]; exact q _ F H (Same.refl _) R (.bl _)⟩
theorem om_notN : OpM C dNotN (fun x y H Q => y = .non ∧ Q (.bl (!decide (x = .non))) H) := by
  intro Gc F H ps σ v u x y z Q R rx ry hz q
  cases y <;> simp [dNotN] at hz
  subst hz; cases ry
  exact ⟨rfl, by rw [isNon_ok rx]; exact q _ F H (Same.refl _) R (.bl _)⟩
end
end MM
/-! ### a tuple turned about -/
namespace HT
open PySem PyProof.Rows
section
variable {prog : Program} {w : World} {A : Around} {E : Value → Shared → Prop} {s : Shared}
theorem picked_back (xs : Array Value) : ((List.range xs.size).filterMap fun (m : Nat) => xs[(((xs.size : Nat) : Int) - 1 + (m : Int) * (-1)).toNat]?).toArray = xs.toList.reverse.toArray := by
  have e : (fun (m : Nat) => xs[(((xs.size : Nat) : Int) - 1 + (m : Int) * (-1)).toNat]?) = fun m => xs[xs.size - 1 - m]? := by
    funext m
    have : (((xs.size : Nat) : Int) - 1 + (m : Int) * (-1)).toNat = xs.size - 1 - m := by omega
    rw [this]
  rw [e, ← PySem.W.krv_all xs, ← List.filterMap_reverse, ← PySem.W.krv_range, List.filterMap_map]
  rfl
theorem applied_back {sl : Addr} {vl vu vs : Value} {n : Nat} {Q : Int × Int × Nat → Shared → Prop} (hs : s.heap.IsSliceOf sl vl vu vs) (pl : IsPart vl none) (pu : IsPart vu none) (ps : IsPart vs (some (-1)))
    (h : Q ((n : Int) - 1, -1, n) s) : wpAny (model prog w) A (Builtin.Slice.sliceApplied (.ref sl) (pure (n : Int))) Q E s := by
  obtain ⟨os, hos, hcs, hds⟩ := id hs
  unfold Builtin.Slice.sliceApplied Builtin.Slice.sliceFields
  refine wpAny_bind (wpAny_bind (wpAny_field hos hds (x := vl) rfl (wpAny_bind (wpAny_field hos hds (x := vu) rfl
    (wpAny_bind (wpAny_field hos hds (x := vs) rfl (wpAny_pure ?_)))))))
  refine wpAny_bind (slicePart_ ps ?_)
  show wpAny _ _ (if ((-1 : Int) == 0) = true then _ else _) _ _ s
  rw [if_neg (by decide)]
  refine wpAny_bind (slicePart_ pl (wpAny_bind (slicePart_ pu
    (wpAny_bind (wpAny_pure ?_)))))
  have e1 : Builtin.Slice.sliceAdjust none none (-1) (n : Int) = ((n : Int) - 1, -1) := by
    unfold Builtin.Slice.sliceAdjust
    simp
  show wpAny _ _ (match Builtin.Slice.sliceAdjust none none (-1) (n : Int) with | (lo, hi) => pure (lo, (-1 : Int), Builtin.Slice.slicePlaces lo hi (-1))) _ _ s
  rw [e1]
  have e2 : Builtin.Slice.slicePlaces ((n : Int) - 1) (-1) (-1) = n := by
    unfold Builtin.Slice.slicePlaces
    have h1 : ¬ ((-1 : Int) > 0) := by omega
    simp only [h1, if_false]
    have e3 : (- -1 : Int) = 1 := by decide
    rw [e3, Int.ediv_one]
    split <;> omega
  show wpAny _ _ (pure ((n : Int) - 1, (-1 : Int), Builtin.Slice.slicePlaces ((n : Int) - 1) (-1) (-1))) _ _ s
  rw [e2]
  exact wpAny_pure h
theorem getItem_tuple_back {t sl : Addr} {items : Array Value} {vl vu vs : Value} {Q : Value → Shared → Prop} (ht : IsTup s.heap t items) (hs : s.heap.IsSliceOf sl vl vu vs) (pl : IsPart vl none) (pu : IsPart vu none) (ps : IsPart vs (some (-1)))
    (h : Q (.ref s.heap.objs.size) { s with heap := s.heap.push { cls := .type "tuple", data := .seq items.toList.reverse.toArray } }) (hsz : items.size ≤ sizeLine) : wpAny (model prog w) A (getItem (.ref t) (.ref sl)) Q E s := by
  have hok : sizeOk (.seq items.toList.reverse.toArray) := by
    show items.toList.reverse.toArray.size ≤ sizeLine
    rw [List.size_toArray, List.length_reverse, Array.length_toList]
    exact hsz
  obtain ⟨os, hos, hcs, hds⟩ := id hs
  have hTs : s.TypeIs (.ref sl) "slice" := ⟨os, hos, hcs⟩
  unfold getItem
  try with_reducible refine wpAny_holding ?_
  first | refine wpAny_bind (wpAny_pure ?_) | skip
  refine wpAny_bind (wpAny_sequenceKey ht.typeIs (by decide) ?_)
  refine wpAny_bind (wpAny_callSpecial?_slot (name := Str.ofString "__getitem__") ht.typeIs
    PyProof.Rows.slot_tuple_getitem (wpAny_call_entry PyProof.Rows.slot_tuple_getitem ht.typeIs
      entry_tuple_getitem ?_ (args_tuple_getitem _ _)))
  show wpAny _ _ (Builtin.Tuple.tupleItemsOf (.ref t) >>= _) _ _ s
  refine wpAny_bind (tupleItemsOf_ ht ?_)
  refine wpAny_bind (wpAny_typeOf hTs ?_)
  rw [if_pos (by decide)]
  refine wpAny_bind (applied_back hs pl pu ps ?_)
  have hno : ¬ ((((items.size : Int) - 1 == 0) && (-1 : Int) == 1 && items.size == items.size) = true) := by
    intro q
    rw [Bool.and_eq_true, Bool.and_eq_true] at q
    exact absurd q.1.2 (by decide)
  show wpAny _ _ (if ((((items.size : Nat) : Int) - 1 == 0) && (-1 : Int) == 1 && items.size == items.size) = true then _ else _) _ _ s
  rw [if_neg hno, picked_back]
  first
    | exact wpAny_bind (m := Builtin.Tuple.tupleExact _) (wpAny_newObj_type (wpAny_pure ⟨_, rfl, wpAny_pure h⟩) hok)
    | exact wpAny_bind (m := Builtin.Tuple.tupleExact _) (wpAny_newObj_type (wpAny_bind (wpAny_pure (wpAny_pure ⟨_, rfl, wpAny_pure h⟩))) hok)
    | exact wpAny_bind (wpAny_bind (m := Builtin.Tuple.tupleExact _) (wpAny_newObj_type (wpAny_pure (wpAny_pure ⟨_, rfl, wpAny_pure h⟩)) hok))
    | exact wpAny_bind (wpAny_bind (m := Builtin.Tuple.tupleExact _) (wpAny_newObj_type (wpAny_pure ⟨_, rfl, wpAny_pure h⟩) hok))
end
end HT
namespace MM
open PySem PySem.Spec PyProof.Rows L2
section
variable {X : Cx} {C : Mc} {W : WX} {a b e : Expr} {es : List Expr} {pos : Pos}
def tRevA (K : PySem.W.Frag) (te : TE) : TE := fun σ H Q => te σ H fun x H1 =>
  (∃ a xs, x = .ref a ∧ SqL K H1 a xs ∧ ∀ p, H1 p = none → Q (.ref p) (upd H1 p (.lst xs.reverse))) ∨ ∃ a xs, x = .ref a ∧ SqT K H1 a xs ∧ ∀ p, H1 p = none → Q (.ref p) (upd H1 p (.tup xs.reverse))
theorem pe_revA {te : TE} {k : Nat} {p1 p2 p3 : Pos} (he : PE X e te) : PE X (.Subscript e (.Slice none none (some (.UnaryOp .USub (.Constant (.int 1) k p1) p2)) p3) pos) (tRevA X.K te) := by
  refine ⟨fun pins s σ H Q I h => ?_⟩
  refine Subscript_ (thn (he.run pins s σ H _ I h) fun v s1 ⟨x, H1, I1, r1, q1⟩ => ?_)
  have hst : PO X (some (.UnaryOp .USub (.Constant (.int 1) k p1) p2)) (tPart (tUn (rU fun i => .int (-i)) (tC (.int 1)))) := po_some (pe_un un_neg pe_int)
  refine wpAny_Slice (thn (po_none.run pins s1 σ H1 (fun o H2 => o = none ∧ H2 = H1) I1 ⟨rfl, rfl⟩)
    fun vl s2 ⟨l, H2, I2, pl, el, e2⟩ => ?_)
  subst el e2
  refine thn (po_none.run pins s2 σ H2 (fun o H3 => o = none ∧ H3 = H2) I2 ⟨rfl, rfl⟩)
    fun vu s3 ⟨u, H3, I3, pu, eu, e3⟩ => ?_
  subst eu e3
  refine thn (hst.run pins s3 σ H3 (fun o H4 => o = some (-1) ∧ H4 = H3) I3 ⟨1, rfl, -1, rfl, rfl, rfl⟩)
    fun vs s4 ⟨o, H4, I4, ps, eo, e4⟩ => ?_
  subst eo e4
  have I5 : Inv X pins σ H4 { s4 with heap := s4.heap.push { cls := .type "slice", data := .fields #[vl, vu, vs] } } :=
    I4.kept (t' := s4.toks) fun b ob q => Heap.get?_push_of_some _ q
  rcases q1 with ⟨a, xs, ex, hx, q⟩ | ⟨a, xs, ex, hx, q⟩
  · subst ex
    cases r1
    obtain ⟨its, r, ht, hz⟩ := I5.list hx
    have hlen := r.length
    show wpAny _ X.A (subscriptTail e (.Slice none none (some (.UnaryOp .USub (.Constant (.int 1) k p1) p2)) p3) (.ref a) (.ref s4.heap.objs.size)) _ _ { s4 with heap := s4.heap.push { cls := .type "slice", data := .fields #[vl, vu, vs] } }
    refine tail_any (ops := [.ref a, .ref s4.heap.objs.size]) ht.isList.typeIs
      (PySem.slot_list_getitem.lookup) ?_ (by with_unfolding_all rfl)
    refine wpAny_getItem_list_slice ht.isList (Heap.IsSliceOf.new _ vl vu vs)
      pl pu ps (by decide) ?_ (by rw [List.size_toArray]; omega)
    rw [PySem.W.krv_pick]
    refine ⟨.ref _, _, I5.laid (t' := s4.toks) (o := .lst xs.reverse)
      (fun b ob q => Heap.get?_push_of_some _ q) (Nat.le_refl _) ?_, rfl, q _ (I5.hok.fresh (Nat.le_refl _))⟩
    exact ⟨by rw [List.length_reverse]; exact hz, _, 0, r.reverse, Heap.get?_push_size _ rfl⟩
  · subst ex
    cases r1
    obtain ⟨its, r, ht, hz⟩ := I5.tuple hx
    have hlen := r.length
    show wpAny _ X.A (subscriptTail e (.Slice none none (some (.UnaryOp .USub (.Constant (.int 1) k p1) p2)) p3) (.ref a) (.ref s4.heap.objs.size)) _ _ { s4 with heap := s4.heap.push { cls := .type "slice", data := .fields #[vl, vu, vs] } }
    refine tail_any (ops := [.ref a, .ref s4.heap.objs.size]) ht.typeIs
      (PyProof.Rows.slot_tuple_getitem.lookup) ?_ (by with_unfolding_all rfl)
    refine HT.getItem_tuple_back ht (Heap.IsSliceOf.new _ vl vu vs)
      pl pu ps ?_ (by rw [List.size_toArray]; omega)
    refine ⟨.ref _, _, I5.laid (t' := s4.toks) (o := .tup xs.reverse)
      (fun b ob q => Heap.get?_push_of_some _ q) (Nat.le_refl _) ?_, rfl, q _ (I5.hok.fresh (Nat.le_refl _))⟩
    exact ⟨by rw [List.length_reverse]; exact hz, _, r.reverse, ⟨_, Heap.get?_push_size _ rfl, rfl, _, rfl⟩⟩
def dRev : D → Option D
  | .list ds => some (.list ds.reverse)
  | .tuple ds => some (.tuple ds.reverse)
  | _ => none
theorem xrev {ma : ME} {k : Nat} {p1 p2 p3 : Pos} (hK : C.K = X.K) (he : PE X e (tE C W ma)) : PE X (.Subscript e (.Slice none none (some (.UnaryOp .USub (.Constant (.int 1) k p1) p2)) p3) pos) (tE C W (mUn dRev ma)) :=
  pe_imp (pe_revA he) fun σ H Q ⟨Gc, F, ps, R, q⟩ => seqE qE.mono R q fun x ps1 v F1 H1 s1 R1 r1 q1 => by
    have hf : ∀ p, H1 p = none → F1 p = none := fun p n => R1.fh.free n
    cases r1 with
    | lst h r => exact .inl ⟨_, _, rfl, SqL.of (R1.fh _ _ h), fun p n => q1 _ _ _ (same_alloc (hf p n)) (R1.alloc n) (.lst upd_same (r.reverse.mono (same_alloc (hf p n))))⟩
    | tup h r => exact .inr ⟨_, _, rfl, by rw [← hK]; exact sqT_mono R1.fh h, fun p n => q1 _ _ _ (same_alloc (hf p n)) (R1.alloc n) (.tup (.of upd_same) (r.reverse.mono (same_alloc (hf p n))))⟩
    | _ => exact q1.elim
/-! ### items -/
def rIxK : R2 := fun x y H Q => ∃ a v, x = .ref a ∧ DGet H a y (some v) ∧ Q v H
theorem ix_dict (hu : X.A.units + 1 < cLine) : IxR X rIxK := by
  intro value slice pins s σ H x y v u Q I rx ry ⟨a, z, ex, g, q⟩ hs
  subst ex
  cases rx
  exact tail_any (dict_typeIs I g) PySem.F.slot_dict_getitem.lookup (d_getItem hu I g ry fun w' s3 I3 rw' => ⟨z, H, I3, rw', q⟩) hs
def rIxAll (K : PySem.W.Frag) : R2 := fun x y H Q => rIx K x y H Q ∨ rIxK x y H Q
theorem ix_all (hu : X.A.units + 1 < cLine) : IxR X (rIxAll X.K) := ix_seq.or (ix_dict hu)
def dIx (x y : D) : Option D := match x with
  | .list ds => match y with
    | .int i => atI ds i
    | _ => none
  | .tuple ds => match y with
    | .int i => atI ds i
    | _ => none
  | .str z => match y with
    | .int i => if z.length ≤ sizeLine then (atI z.cps.toList i).map fun c => .str ⟨#[c]⟩ else none
    | _ => none
  | .dict kvs => if kvs.any (fun p => (toKey p.1).isNone) = true then none else (toKey y).bind fun k => dLook kvs k
  | _ => none
theorem RpA.atI {F : Hp} {xs : List V} {ds : List D} {i : Int} {d : D} (r : RpA C F xs ds) (h : L2.atI ds i = some d) : ∃ v, L2.atI xs i = some v ∧ Rp C F v d := by
  unfold L2.atI at h ⊢
  rw [r.length]
  cases e : ixN ds.length i with
  | none => rw [e] at h; cases h
  | some j =>
    rw [e] at h
    obtain ⟨v, h1, h2⟩ := r.get' (i := j) (d := d) h
    exact ⟨v, h1, h2⟩
theorem om_ix (hK : C.K = X.K) : OpM C dIx (rIxAll X.K) := by
  intro Gc F H ps σ v u x y z Q R rx ry hz q
  cases x with
  | list ds =>
    cases y with
    | int i =>
      cases rx with
      | lst h r =>
        cases ry
        obtain ⟨w, h1, h2⟩ := r.atI (i := i) (d := z) hz
        exact .inl (.inl ⟨_, _, i, w, rfl, rfl, SqL.of (R.fh _ _ h), h1, q w F H (Same.refl _) R h2⟩)
    | _ => cases hz
  | tuple ds =>
    cases y with
    | int i =>
      cases rx with
      | tup h r =>
        cases ry
        obtain ⟨w, h1, h2⟩ := r.atI (i := i) (d := z) hz
        exact .inl (.inr (.inl ⟨_, _, i, w, rfl, rfl, by rw [← hK]; exact sqT_mono R.fh h, h1, q w F H (Same.refl _) R h2⟩))
    | _ => cases hz
  | str t =>
    cases y with
    | int i =>
      cases rx; cases ry
      unfold dIx at hz
      dsimp only at hz
      by_cases hl : t.length ≤ sizeLine
      · rw [if_pos hl] at hz
        obtain ⟨c, h1, h2⟩ := Option.map_eq_some_iff.mp hz
        subst h2
        exact .inl (.inr (.inr ⟨t, i, c, rfl, rfl, hl, h1, q _ F H (Same.refl _) R (.str _)⟩))
      · rw [if_neg hl] at hz; cases hz
    | _ => cases hz
  | dict kvs =>
    unfold dIx at hz
    dsimp only at hz
    by_cases h : kvs.any (fun p => (toKey p.1).isNone) = true
    · rw [if_pos h] at hz; cases hz
    · rw [if_neg h] at hz
      obtain ⟨k, e1, e2⟩ := Option.bind_eq_some_iff.mp hz
      have ex := kD_of e1
      subst ex
      have ev := rp_kD ry
      subst ev
      obtain ⟨a, o, rfl, g, cs⟩ := dget_ok (k := k) R rx (by simpa using h)
      rcases cs with ⟨c1, c2⟩ | ⟨y, d, c1, c2, c3⟩
      · rw [c2] at e2; cases e2
      · rw [c2] at e2; cases e2
        subst c1
        exact .inr ⟨a, y, rfl, g, q y F H (Same.refl _) R c3⟩
  | _ => cases hz
theorem xix {ma mb : ME} (hu : X.A.units + 1 < cLine) (hK : C.K = X.K) (ha : PE X a (tE C W ma)) (hb : PE X b (tE C W mb)) (hs : PlainIx b) : PE X (.Subscript a b pos) (tE C W (mBin dIx ma mb)) :=
  pe_imp (pe_ix (ix_all hu) ha hb hs) fun _ _ _ h => bin_ok (om_ix hK) h
/-! ### parts -/
abbrev MO := Ps → Out (Option Int)
def tO (C : Mc) (W : WX) (m : MO) : TO := fun σ H Q => ∃ Gc F ps, Rel C Gc F H ps σ ∧ Po C W Gc σ (fun o ps' F => ∀ F' H', Same F F' → Rel C Gc F' H' ps' σ → Q o H') F (m ps)
theorem po_imp {e : Option Expr} {t t' : TO} (h : PO X e t) (k : ∀ σ H Q, t' σ H Q → t σ H Q) : PO X e t' := ⟨fun pins s σ H Q I q => h.run pins s σ H Q I (k σ H Q q)⟩
def mNoPart : MO := fun ps => .ok none ps
def dInt : D → Option Int
  | .int i => some i
  | _ => none
def mPart (a : ME) : MO := fun ps => (a ps).bind fun x ps1 => (Out.of (dInt x) ps1).bind fun i ps1 => .ok (some i) ps1
theorem xo_none : PO X none (tO C W mNoPart) := po_imp po_none fun σ H Q ⟨Gc, F, ps, R, q⟩ => q F H (Same.refl _) R
theorem xo_some {ma : ME} (h : PE X e (tE C W ma)) : PO X (some e) (tO C W (mPart ma)) := po_imp (po_some h) fun σ H Q ⟨Gc, F, ps, R, q⟩ =>
  seqE (P := fun o ps' F => ∀ F' H', Same F F' → Rel C Gc F' H' ps' σ → Q o H') (fun _ _ _ _ s h F' H' s' => h F' H' (s.trans s')) R q fun x ps1 v F1 H1 s1 R1 r1 q1 => by
    cases x with
    | int i => cases r1; exact ⟨i, rfl, q1 F1 H1 (Same.refl _) R1⟩
    | _ => exact q1.elim
theorem seqO {β : Type} {P : β → Ps → Hp → Prop} {Gc F H : Hp} {ps : Ps} {σ : St} {m : MO} {f : Option Int → Ps → Out β} {Q : Option Int → Hp → Prop} (hP : Mono P) (R : Rel C Gc F H ps σ) (h : Po C W Gc σ P F ((m ps).bind f))
    (k : ∀ d ps' F' H', Same F F' → Rel C Gc F' H' ps' σ → Po C W Gc σ P F' (f d ps') → Q d H') : tO C W m σ H Q := by
  refine ⟨Gc, F, ps, R, ?_⟩
  cases e : m ps with
  | ok d ps' => rw [e] at h; exact fun F' H' s R' => k d ps' F' H' s R' (h.mono hP s)
  | exc x ps' => rw [e] at h; exact h
  | bad => rw [e] at h; exact h
def cut {α : Type} (xs : List α) (lo hi : Option Int) : List α := (xs.drop (HT.sIx xs.length 0 lo)).take (HT.sIx xs.length xs.length hi - HT.sIx xs.length 0 lo)
theorem RpA.cut {F : Hp} {xs : List V} {ds : List D} (r : RpA C F xs ds) (lo hi : Option Int) : RpA C F (cutV xs lo hi) (MM.cut ds lo hi) := by
  unfold cutV MM.cut
  rw [r.length]
  exact (r.drop _).take _
def dSl (x : D) (lo hi : Option Int) : Option D := match x with
  | .list ds => some (.list (cut ds lo hi))
  | .tuple ds => some (.tuple (cut ds lo hi))
  | .str z => if z.length ≤ sizeLine then some (.str (cutS z lo hi)) else none
  | _ => none
def mSl (a : ME) (l h : MO) : ME := fun ps => (a ps).bind fun x ps1 => (l ps1).bind fun lo ps2 => (h ps2).bind fun hi ps3 => .of (dSl x lo hi) ps3
theorem xslice {ma : ME} {ml mh : MO} {lo hi : Option Expr} {p2 : Pos} (hK : C.K = X.K) (he : PE X e (tE C W ma)) (hl : PO X lo (tO C W ml)) (hh : PO X hi (tO C W mh)) : PE X (.Subscript e (.Slice lo hi none p2) pos) (tE C W (mSl ma ml mh)) :=
  pe_imp (pe_slice (sl_list.or (sl_tupA.or sl_str)) he hl hh) fun σ H Q ⟨Gc, F, ps, R, q⟩ => seqE qE.mono R q fun x ps1 v F1 H1 s1 R1 r1 q1 =>
    seqO qE.mono R1 q1 fun l ps2 F2 H2 s2 R2 q2 => seqO qE.mono R2 q2 fun h ps3 F3 H3 s3 R3 q3 => by
      have r := r1.mono (s2.trans s3)
      have hf : ∀ p, H3 p = none → F3 p = none := fun p n => R3.fh.free n
      cases r with
      | lst e r => exact .inl ⟨_, _, rfl, SqL.of (R3.fh _ _ e), fun p n => q3 _ _ _ (same_alloc (hf p n)) (R3.alloc n) (.lst upd_same ((r.cut l h).mono (same_alloc (hf p n))))⟩
      | tup e r =>
        rename_i a xs ds
        refine .inr (.inl ⟨_, xs, rfl, by rw [← hK]; exact sqT_mono R3.fh e, fun hw => ?_, fun _ p n => q3 _ _ _ (same_alloc (hf p n)) (R3.alloc n) (.tup (.of upd_same) ((r.cut l h).mono (same_alloc (hf p n))))⟩)
        have ew : MM.cut ds l h = ds := by
          rw [r.length] at hw
          unfold MM.cut
          rw [hw.1, hw.2, List.drop_zero, Nat.sub_zero, List.take_length]
        refine q3 _ F3 H3 (Same.refl _) R3 ?_
        rw [ew]
        exact .tup e r
      | str z =>
        by_cases hz : z.length ≤ sizeLine
        · have q4 : Po C W Gc σ (qE C Gc σ Q) F3 (Out.of (if z.length ≤ sizeLine then some (PyData.str (cutS z l h)) else none) ps3) := q3
          rw [if_pos hz] at q4
          exact .inr (.inr ⟨z, rfl, hz, q4 _ F3 H3 (Same.refl _) R3 (.str _)⟩)
        · have q4 : Po C W Gc σ (qE C Gc σ Q) F3 (Out.of (if z.length ≤ sizeLine then some (PyData.str (cutS z l h)) else none) ps3) := q3
          rw [if_neg hz] at q4
          exact q4.elim
      | _ => exact q3.elim
/-! ### calls of built-ins -/
def CallM (C : Mc) (f : List D → Option D) (r : List V → Hp → VK → Prop) : Prop := ∀ Gc F H ps σ vs ds z (Q : VK), Rel C Gc F H ps σ → RpA C F vs ds → f ds = some z →
  (∀ w F' H', Same F F' → Rel C Gc F' H' ps σ → Rp C F' w z → Q w H') → r vs H Q
def mB (f : List D → Option D) (a : MA) : ME := fun ps => (a ps).bind fun ds ps1 => .of (f ds) ps1
theorem b_ok {f : List D → Option D} {r : List V → Hp → VK → Prop} {ma : MA} (hm : CallM C f r) {σ : St} {H : Hp} {Q : VK} (h : tE C W (mB f ma) σ H Q) : tA C W ma σ H fun vs H1 => r vs H1 Q := by
  obtain ⟨Gc, F, ps, R, q⟩ := h
  refine seqA qE.mono R q fun ds ps1 vs F1 H1 s1 R1 r1 q1 => ?_
  cases z : f ds with
  | none => rw [z] at q1; exact q1.elim
  | some d =>
    rw [z] at q1
    exact hm Gc F1 H1 ps1 σ vs ds d Q R1 r1 z q1
theorem xcallB {x : Str} {p : Pos} {id : String} {f : List D → Option D} {r : List V → Hp → VK → Prop} {ma : MA} (hc : CallR X (.builtin id) r) (hm : CallM C f r) (hg : Gl X x) (hn : X.mg x = none) (hv : bootBuiltins x = some (.builtin id)) (ha : PA X (e :: es) (tA C W ma)) (hnn : x ≠ "__name__" := by decide) (hdb : (x == ("__debug__" : Str)) = false := by decide)
    (he : starEach (e :: es) X.env = (false, eval e X.env) :: starEach es X.env := by rfl) (hpl : (backTo pos (starEach es X.env)).any (·.1) = false := by rfl) : PE X (.Call (.Name x p) (e :: es) [] pos) (tE C W (mB f ma)) :=
  pe_imp (pe_callB hc hg hn hv ha hnn hdb he hpl) fun _ _ _ h => b_ok hm h
theorem xcallTy {x : Str} {p : Pos} {T : String} {f : List D → Option D} {r : List V → Hp → VK → Prop} {ma : MA} (hc : CallR X (.type T) r) (hm : CallM C f r) (hg : Gl X x) (hn : X.mg x = none) (hv : bootBuiltins x = some (.type T)) (ha : PA X (e :: es) (tA C W ma)) (hnn : x ≠ "__name__" := by decide) (hdb : (x == ("__debug__" : Str)) = false := by decide)
    (he : starEach (e :: es) X.env = (false, eval e X.env) :: starEach es X.env := by rfl) (hpl : (backTo pos (starEach es X.env)).any (·.1) = false := by rfl) : PE X (.Call (.Name x p) (e :: es) [] pos) (tE C W (mB f ma)) :=
  pe_imp (pe_callTy hc hg hn hv ha hnn hdb he hpl) fun _ _ _ h => b_ok hm h
def dLen : List D → Option D
  | [.list ds] => some (.int ds.length)
  | [.tuple ds] => some (.int ds.length)
  | [.str z] => if z.length ≤ sizeLine then some (.int z.length) else none
  | _ => none
theorem cm_len (hK : C.K = X.K) : CallM C dLen (fun xs H Q => ∃ x n, xs = [x] ∧ LenV X.K x H n ∧ Q (.int n) H) := by
  intro Gc F H ps σ vs ds z Q R r hz q
  match ds, r with
  | [.list ds], .cons (.lst h r1) .nil =>
    cases hz
    exact ⟨_, ds.length, rfl, .inl ⟨_, SqL.of (R.fh _ _ h), r1.length.symm⟩, q _ F H (Same.refl _) R (.int _)⟩
  | [.tuple ds], .cons (.tup h r1) .nil =>
    cases hz
    exact ⟨_, ds.length, rfl, .inr ⟨_, by rw [← hK]; exact sqT_mono R.fh h, r1.length.symm⟩, q _ F H (Same.refl _) R (.int _)⟩
  | [.str t], .cons (.str _) .nil =>
    unfold dLen at hz
    dsimp only at hz
    by_cases hl : t.length ≤ sizeLine
    · rw [if_pos hl] at hz
      cases hz
      exact ⟨_, t.length, rfl, ⟨hl, rfl⟩, q _ F H (Same.refl _) R (.int _)⟩
    · rw [if_neg hl] at hz; cases hz
def dList : List D → Option D
  | [.list ds] => some (.list ds)
  | [.tuple ds] => some (.list ds)
  | _ => none
theorem cm_list (hK : C.K = X.K) : CallM C dList (fun xs H Q => ∃ p ys, xs = [.ref p] ∧ (SqL X.K H p ys ∨ SqT X.K H p ys) ∧ ∀ l, H l = none → Q (.ref l) (upd H l (.lst ys))) := by
  intro Gc F H ps σ vs ds z Q R r hz q
  have hf : ∀ p, H p = none → F p = none := fun p n => R.fh.free n
  match ds, r with
  | [.list ds], .cons (.lst h r1) .nil =>
    cases hz
    exact ⟨_, _, rfl, .inl (SqL.of (R.fh _ _ h)), fun p n => q _ _ _ (same_alloc (hf p n)) (R.alloc n) (.lst upd_same (r1.mono (same_alloc (hf p n))))⟩
  | [.tuple ds], .cons (.tup h r1) .nil =>
    cases hz
    exact ⟨_, _, rfl, .inr (by rw [← hK]; exact sqT_mono R.fh h), fun p n => q _ _ _ (same_alloc (hf p n)) (R.alloc n) (.lst upd_same (r1.mono (same_alloc (hf p n))))⟩
def dTuple : List D → Option D
  | [.list ds] => some (.tuple ds)
  | [.tuple ds] => some (.tuple ds)
  | _ => none
theorem cm_tuple (hK : C.K = X.K) : CallM C dTuple (fun xs H Q => ∃ p ys, xs = [.ref p] ∧ ((SqL X.K H p ys ∧ ∀ l, H l = none → Q (.ref l) (upd H l (.tup ys))) ∨ (SqT X.K H p ys ∧ Q (.ref p) H))) := by
  intro Gc F H ps σ vs ds z Q R r hz q
  have hf : ∀ p, H p = none → F p = none := fun p n => R.fh.free n
  match ds, r with
  | [.list ds], .cons (.lst h r1) .nil =>
    cases hz
    exact ⟨_, _, rfl, .inl ⟨SqL.of (R.fh _ _ h), fun p n => q _ _ _ (same_alloc (hf p n)) (R.alloc n) (.tup (.of upd_same) (r1.mono (same_alloc (hf p n))))⟩⟩
  | [.tuple ds], .cons (.tup h r1) .nil =>
    cases hz
    exact ⟨_, _, rfl, .inr ⟨by rw [← hK]; exact sqT_mono R.fh h, q _ F H (Same.refl _) R (.tup h r1)⟩⟩
def dMax2 : List D → Option D
  | [.int i, .int j] => some (.int (if j > i then j else i))
  | _ => none
theorem cm_max2 : CallM C dMax2 (fun xs H Q => ∃ i j, xs = [.int i, .int j] ∧ Q (.int (if j > i then j else i)) H) := by
  intro Gc F H ps σ vs ds z Q R r hz q
  match ds, r with
  | [.int i, .int j], .cons (.int _) (.cons (.int _) .nil) =>
    cases hz
    exact ⟨i, j, rfl, q _ F H (Same.refl _) R (.int _)⟩
def blsOf : List D → Option (List Bool)
  | [] => some []
  | .bool i :: r => (blsOf r).map (i :: ·)
  | _ :: _ => none
theorem blsOf_eq {F : Hp} : ∀ {ds : List D} {bs : List Bool} {xs : List V}, blsOf ds = some bs → RpA C F xs ds → xs = bs.map V.bl
  | [], bs, _, h, .nil => by simp [blsOf] at h; subst h; rfl
  | .bool i :: r, bs, _, h, .cons (.bl _) t => by
    simp only [blsOf] at h
    obtain ⟨ms, e1, e2⟩ := Option.map_eq_some_iff.mp h
    subst e2
    rw [blsOf_eq e1 t]; rfl
  | .none :: _, _, _, h, _ => nomatch h
  | .int _ :: _, _, _, h, _ => nomatch h
  | .str _ :: _, _, _, h, _ => nomatch h
  | .list _ :: _, _, _, h, _ => nomatch h
  | .tuple _ :: _, _, _, h, _ => nomatch h
  | .dict _ :: _, _, _, h, _ => nomatch h
def dAll : List D → Option D
  | [.list ds] => (blsOf ds).map fun bs => .bool (bs.all id)
  | _ => none
theorem cm_all : CallM C dAll (rAll X.K) := by
  intro Gc F H ps σ vs ds z Q R r hz q
  match ds, r with
  | [.list ds], .cons (.lst h r1) .nil =>
    obtain ⟨bs, e1, e2⟩ := Option.map_eq_some_iff.mp hz
    subst e2
    have e := blsOf_eq e1 r1
    subst e
    exact ⟨_, bs, rfl, SqL.of (R.fh _ _ h), q _ F H (Same.refl _) R (.bl _)⟩
def dAny : List D → Option D
  | [.list ds] => (blsOf ds).map fun bs => .bool (bs.any id)
  | _ => none
theorem cm_any : CallM C dAny (rAny X.K) := by
  intro Gc F H ps σ vs ds z Q R r hz q
  match ds, r with
  | [.list ds], .cons (.lst h r1) .nil =>
    obtain ⟨bs, e1, e2⟩ := Option.map_eq_some_iff.mp hz
    subst e2
    have e := blsOf_eq e1 r1
    subst e
    exact ⟨_, bs, rfl, SqL.of (R.fh _ _ h), q _ F H (Same.refl _) R (.bl _)⟩
def dSum : List D → Option D
  | [.list ds] => (intsOf ds).map fun ns => .int ns.sum
  | _ => none
theorem cm_sum : CallM C dSum (rSum X.K) := by
  intro Gc F H ps σ vs ds z Q R r hz q
  match ds, r with
  | [.list ds], .cons (.lst h r1) .nil =>
    obtain ⟨ns, e1, e2⟩ := Option.map_eq_some_iff.mp hz
    subst e2
    have e0 := intsOf_eq e1
    subst e0
    have e := r1.ints
    subst e
    exact ⟨_, ns, rfl, SqL.of (R.fh _ _ h), q _ F H (Same.refl _) R (.int _)⟩
end
end MM
namespace MM
open PySem PySem.Spec PyProof.Rows L2
/-! ### what is walked -/
/-- the iterator J gives the data ds, one by one -/
structure ItR (C : Mc) (J : It) (F : Hp) (ds : List D) : Prop where
  go : ∀ i H, i < ds.length → Same F H → J.go i H
  stop : ∀ H, Same F H → J.stop ds.length H
  yld : ∀ i H x H' Gc F' ps σ d, Same F F' → Rel C Gc F' H ps σ → ds[i]? = some d → J.yld i H x H' → ∃ F'', Same F' F'' ∧ Rel C Gc F'' H' ps σ ∧ Rp C F'' x d
def qI (C : Mc) (Gc : Hp) (σ : St) (R : It → Hp → Prop) : List D → Ps → Hp → Prop := fun ds ps' F => ∀ J F' H', Same F F' → Rel C Gc F' H' ps' σ → ItR C J F' ds → R J H'
theorem qI.mono {C : Mc} {Gc : Hp} {σ : St} {R : It → Hp → Prop} : Mono (qI C Gc σ R) := fun _ _ _ _ s h v F' H' s' => h v F' H' (s.trans s')
def tI (C : Mc) (W : WX) (m : MA) : TI := fun σ H R => ∃ Gc F ps, Rel C Gc F H ps σ ∧ Po C W Gc σ (qI C Gc σ R) F (m ps)
theorem pi_imp {X : Cx} {tg e : Expr} {t t' : TI} (h : PI X tg e t) (k : ∀ σ H R, t' σ H R → t σ H R) : PI X tg e t' := ⟨fun pins s σ H R I q => h.run pins s σ H R I (k σ H R q)⟩
section
variable {C : Mc} {W : WX} {Gc F H : Hp} {ps : Ps} {σ : St} {β : Type} {P : β → Ps → Hp → Prop}
theorem seqI {m : MA} {f : List D → Ps → Out β} {Q : It → Hp → Prop} (hP : Mono P) (R : Rel C Gc F H ps σ) (h : Po C W Gc σ P F ((m ps).bind f))
    (k : ∀ d ps' v F' H', Same F F' → Rel C Gc F' H' ps' σ → ItR C v F' d → Po C W Gc σ P F' (f d ps') → Q v H') : tI C W m σ H Q := by
  refine ⟨Gc, F, ps, R, ?_⟩
  cases e : m ps with
  | ok d ps' => rw [e] at h; exact fun v F' H' s R' r => k d ps' v F' H' s R' r (h.mono hP s)
  | exc x ps' => rw [e] at h; exact h
  | bad => rw [e] at h; exact h
theorem seqIS {m : MA} {f : List MM.D → Ps → So} {D : Ends} {Q : It → Hp → Prop} (R : Rel C Gc F H ps σ) (h : PoS C W Gc D F ((m ps).bindS f))
    (k : ∀ d ps' v F' H', Same F F' → Rel C Gc F' H' ps' σ → ItR C v F' d → PoS C W Gc D F' (f d ps') → Q v H') : tI C W m σ H Q := by
  refine ⟨Gc, F, ps, R, ?_⟩
  cases e : m ps with
  | ok d ps' => rw [e] at h; exact fun v F' H' s R' r => k d ps' v F' H' s R' r (h.mono s)
  | exc x ps' => rw [e] at h; exact fun F' H' c d s => h σ F' H' c d s
  | bad => rw [e] at h; exact h
theorem itr_list {K : PySem.W.Frag} {a : Addr} {xs : List V} {ds : List D} (hK : C.K = K) (h : F a = some (.lst xs)) (r : RpA C F xs ds) : ItR C (Itl K a) F ds where
  go := fun i H hi s => ⟨xs, xs[i]'(by rw [r.length]; exact hi), SqL.of (s _ _ h), by simp⟩
  stop := fun H s => ⟨xs, SqL.of (s _ _ h), by rw [r.length]; exact Nat.le_refl _⟩
  yld := fun i H x H' Gc F' ps σ d s R hd ⟨e, y⟩ => by
    subst e
    obtain ⟨v, h1, h2⟩ := r.get' hd
    have e2 := y xs (SqL.of (R.fh _ _ (s _ _ h)))
    rw [h1] at e2
    cases e2
    exact ⟨F', Same.refl _, R, h2.mono s⟩
theorem itr_tup {K : PySem.W.Frag} {a : Addr} {xs : List V} {ds : List D} (hK : C.K = K) (h : SqT C.K F a xs) (r : RpA C F xs ds) : ItR C (Itt K a) F ds where
  go := fun i H hi s => ⟨xs, xs[i]'(by rw [r.length]; exact hi), by rw [← hK]; exact sqT_mono s h, by simp⟩
  stop := fun H s => ⟨xs, by rw [← hK]; exact sqT_mono s h, by rw [r.length]; exact Nat.le_refl _⟩
  yld := fun i H x H' Gc F' ps σ d s R hd ⟨e, y⟩ => by
    subst e
    obtain ⟨v, h1, h2⟩ := r.get' hd
    have e2 := y xs (by rw [← hK]; exact sqT_mono (s.trans R.fh) h)
    rw [h1] at e2
    cases e2
    exact ⟨F', Same.refl _, R, h2.mono s⟩
def rangeD (lo : Int) (n : Nat) : List D := (List.range n).map fun i => PyData.int (lo + (i : Nat))
theorem itr_range {lo : Int} {n : Nat} : ItR C (Itr lo n) F (rangeD lo n) where
  go := fun i H hi s => show i < n by simpa [rangeD] using hi
  stop := fun H s => by simp [rangeD, Itr]
  yld := fun i H x H' Gc F' ps σ d s R hd ⟨e, y⟩ => by
    subst e; subst y
    refine ⟨F', Same.refl _, R, ?_⟩
    unfold rangeD at hd
    rw [List.getElem?_map] at hd
    by_cases hi : i < n
    · rw [List.getElem?_range hi] at hd
      cases hd
      exact .int _
    · rw [List.getElem?_eq_none (by simpa using hi)] at hd
      cases hd
end
section
variable {X : Cx} {C : Mc} {W : WX} {tg a b e : Expr} {es : List Expr} {pos p : Pos}
/-- a list or a tuple, by its value -/
def iSeq (K : PySem.W.Frag) (tl : TE) : TI := fun σ H R => tl σ H fun x H1 => (∃ a, x = .ref a ∧ (∃ xs, SqL K H1 a xs) ∧ R (Itl K a) H1) ∨ ∃ a, x = .ref a ∧ (∃ xs, SqT K H1 a xs) ∧ R (Itt K a) H1
theorem pi_seq {l : Expr} {tl : TE} (hl : PE X l tl) : PI X tg l (iSeq X.K tl) := by
  refine ⟨fun pins s σ H R I h => ?_⟩
  refine thn (hl.run pins s σ H _ I h) fun v s1 ⟨x, H1, I1, r1, q1⟩ => ?_
  rcases q1 with ⟨a, e, ⟨xs, hq⟩, q⟩ | ⟨a, e, ⟨xs, hq⟩, q⟩
  · subst e
    cases r1
    obtain ⟨its, rv, p, hz⟩ := I1.list hq
    refine wpAny_pyIter_list p.isList ?_
    refine ⟨s1.heap.objs.size, [s1.heap.objs.size], _, _, H1, rfl, I1.kept (t' := s1.toks) fun b o e => Heap.get?_push_of_some _ e,
      turn_list a _, ⟨_, Heap.get?_push_size _ rfl, rfl, rfl⟩, fun b hb => ?_, q⟩
    have e : b = s1.heap.objs.size := by simpa using hb
    subst e
    exact I1.fpOk (Nat.le_refl _) (I1.hok.fresh (Nat.le_refl _))
  · subst e
    cases r1
    obtain ⟨its, rv, p, hz⟩ := I1.tuple hq
    refine wpAny_pyIter_tuple (show s1.heap.IsTuple a its.toArray from p) ?_
    refine ⟨s1.heap.objs.size, [s1.heap.objs.size], _, _, H1, rfl, I1.kept (t' := s1.toks) fun b o e => Heap.get?_push_of_some _ e,
      turn_tuple a _, ⟨_, Heap.get?_push_size _ rfl, rfl, rfl⟩, fun b hb => ?_, q⟩
    have e : b = s1.heap.objs.size := by simpa using hb
    subst e
    exact I1.fpOk (Nat.le_refl _) (I1.hok.fresh (Nat.le_refl _))
def dSeq : D → Option (List D)
  | .list ds => some ds
  | .tuple ds => some ds
  | _ => none
def mIter (a : ME) : MA := fun ps => (a ps).bind fun x ps1 => .of (dSeq x) ps1
theorem xi_seq {ma : ME} (hK : C.K = X.K) (h : PE X e (tE C W ma)) : PI X tg e (tI C W (mIter ma)) :=
  pi_imp (pi_seq h) fun σ H Q ⟨Gc, F, ps, R, q⟩ => seqE qI.mono R q fun x ps1 v F1 H1 s1 R1 r1 q1 => by
    cases r1 with
    | lst h r => exact .inl ⟨_, rfl, ⟨_, SqL.of (R1.fh _ _ h)⟩, q1 _ F1 H1 (Same.refl _) R1 (itr_list hK h r)⟩
    | tup h r => exact .inr ⟨_, rfl, ⟨_, by rw [← hK]; exact sqT_mono R1.fh h⟩, q1 _ F1 H1 (Same.refl _) R1 (itr_tup hK h r)⟩
    | _ => exact q1.elim
def dRange1 : List D → Option (List D)
  | [.int j] => if decide (j.natAbs < 4611686018427387904) = true then some (rangeD 0 j.toNat) else none
  | _ => none
def dRange2 : List D → Option (List D)
  | [.int i, .int j] => if (decide (i.natAbs < 4611686018427387904) && decide (j.natAbs < 4611686018427387904)) = true then some (rangeD i (j - i).toNat) else none
  | _ => none
def mRange1 (a : MA) : MA := fun ps => (a ps).bind fun ds ps1 => .of (dRange1 ds) ps1
def mRange2 (a : MA) : MA := fun ps => (a ps).bind fun ds ps1 => .of (dRange2 ds) ps1
theorem xi_range1 {ma : MA} (hg : Gl X "range") (hm : X.mg "range" = none) (ha : PA X [a] (tA C W ma)) (hs : starEach [a] X.env = [(false, eval a X.env)] := by rfl) : PI X tg (.Call (.Name "range" p) [a] [] pos) (tI C W (mRange1 ma)) :=
  pi_imp (pi_range1 hg hm ha hs) fun σ H Q ⟨Gc, F, ps, R, q⟩ => seqA qI.mono R q fun ds ps1 vs F1 H1 s1 R1 r1 q1 => by
    match ds, r1 with
    | [.int j], .cons (.int _) .nil =>
      have q2 : Po C W Gc σ (qI C Gc σ Q) F1 (Out.of (if decide (j.natAbs < 4611686018427387904) = true then some (rangeD 0 j.toNat) else none) ps1) := q1
      by_cases h : decide (j.natAbs < 4611686018427387904) = true
      · rw [if_pos h] at q2
        have h := of_decide_eq_true h
        exact ⟨j, rfl, by omega, by omega, q2 _ F1 H1 (Same.refl _) R1 itr_range⟩
      · rw [if_neg h] at q2; exact q2.elim
    | [], _ => exact q1.elim
    | [.none], _ => exact q1.elim
    | [.bool _], _ => exact q1.elim
    | [.str _], _ => exact q1.elim
    | [.list _], _ => exact q1.elim
    | [.tuple _], _ => exact q1.elim
    | [.dict _], _ => exact q1.elim
    | .none :: _ :: _, _ => exact q1.elim
    | .bool _ :: _ :: _, _ => exact q1.elim
    | .int _ :: _ :: _, _ => exact q1.elim
    | .str _ :: _ :: _, _ => exact q1.elim
    | .list _ :: _ :: _, _ => exact q1.elim
    | .tuple _ :: _ :: _, _ => exact q1.elim
    | .dict _ :: _ :: _, _ => exact q1.elim
theorem range2_inv {ds : List D} {zs : List D} (h : dRange2 ds = some zs) : ∃ i j, ds = [.int i, .int j] ∧ (-(2 ^ 62) ≤ i ∧ i < 2 ^ 62 ∧ -(2 ^ 62) ≤ j ∧ j < 2 ^ 62) ∧ zs = rangeD i (j - i).toNat := by
  unfold dRange2 at h
  split at h
  · rename_i i j
    split at h
    · rename_i hc
      cases h
      rw [Bool.and_eq_true] at hc
      have h1 := of_decide_eq_true hc.1
      have h2 := of_decide_eq_true hc.2
      exact ⟨i, j, rfl, by omega, rfl⟩
    · cases h
  · cases h
theorem xi_range2 {ma : MA} (hg : Gl X "range") (hm : X.mg "range" = none) (ha : PA X [a, b] (tA C W ma)) (hs : starEach [a, b] X.env = [(false, eval a X.env), (false, eval b X.env)] := by rfl) (hs2 : starEach [b] X.env = [(false, eval b X.env)] := by rfl) :
    PI X tg (.Call (.Name "range" p) [a, b] [] pos) (tI C W (mRange2 ma)) :=
  pi_imp (pi_range2 hg hm ha hs hs2) fun σ H Q ⟨Gc, F, ps, R, q⟩ => seqA qI.mono R q fun ds ps1 vs F1 H1 s1 R1 r1 q1 => by
    cases z : dRange2 ds with
    | none => rw [z] at q1; exact q1.elim
    | some zs =>
      rw [z] at q1
      obtain ⟨i, j, e, h, e2⟩ := range2_inv z
      subst e; subst e2
      cases r1 with
      | cons x1 x2 =>
        cases x1
        cases x2 with
        | cons y1 y2 =>
          cases y1; cases y2
          exact ⟨i, j, rfl, h, q1 _ F1 H1 (Same.refl _) R1 itr_range⟩
/-! ### targets -/
abbrev MG := D → Ps → Option Ps
/-- a target, storing into the slots ts alone -/
def tG (C : Mc) (ts : List Nat) (m : MG) : TG := fun v σ H Q => ∃ Gc F ps d ps', Rel C Gc F H ps σ ∧ Rp C F v d ∧ m d ps = some ps' ∧
  ∀ σ' F' H', Same F F' → Rel C Gc F' H' ps' σ' → (∀ vs, (∀ t ∈ ts, t ∈ vs) → wipe σ' vs = wipe σ vs) → Q σ' H'
theorem pg_imp {t t' : TG} (h : PG X tg t) (k : ∀ v σ H Q, t' v σ H Q → t v σ H Q) : PG X tg t' := ⟨fun pins s σ H v u Q I r q => h.run pins s σ H v u Q I r (k v σ H Q q)⟩
theorem wipe_get (σ : St) : ∀ (vs : List Nat) (j : Nat), (wipe σ vs)[j]? = if j ∈ vs then (if j < σ.length then some none else none) else σ[j]?
  | [], j => by simp [wipe]
  | v :: vs, j => by
    unfold wipe
    by_cases h : v = j
    · subst h
      rw [List.getElem?_set]
      simp [wipe_length]
    · rw [List.getElem?_set_ne h, wipe_get σ vs j]
      have : (j ∈ v :: vs) ↔ j ∈ vs := by simp [Ne.symm h]
      simp only [this]
theorem wipe_set {σ : St} {i : Nat} {x : Option V} {vs : List Nat} (h : i ∈ vs) : wipe (σ.set i x) vs = wipe σ vs := by
  apply List.ext_getElem?
  intro j
  rw [wipe_get, wipe_get, List.length_set]
  by_cases hj : j ∈ vs
  · rw [if_pos hj, if_pos hj]
  · rw [if_neg hj, if_neg hj, List.getElem?_set_ne]
    rintro rfl
    exact hj h
def mGn (i : Nat) : MG := fun d ps => some (ps.setS i (.fz d))
theorem xg_name {i : Nat} {x : Str} (hN : X.N.Nodup) (hi : X.N[i]? = some x) (hx : Loc X.env.scope x) (hf : X.fn x = true ∨ X.env.scope.names.lookup x = some .local := by first | exact .inl rfl | exact .inr rfl | assumption) : PG X (.Name x pos) (tG C [i] (mGn i)) :=
  pg_imp (pg_name hN hi hx hf) fun v σ H Q ⟨Gc, F, ps, d, ps', R, r, e, q⟩ => by
    cases e
    exact q _ F H (Same.refl _) (R.set r) fun vs h => wipe_set (h i (by simp))
/-- a pair, into two names -/
def mGp (i j : Nat) : MG := fun d ps => match d with
  | .tuple [x, y] => some ((ps.setS i (.fz x)).setS j (.fz y))
  | _ => none
theorem xg_pair {i j : Nat} {x y : Str} {k : Nat} {p1 p2 : Pos} (hc : X.calm = true) (hK : C.K = X.K) (hN : X.N.Nodup) (hi : X.N[i]? = some x) (hj : X.N[j]? = some y) (hx : Loc X.env.scope x) (hy : Loc X.env.scope y)
    (h0 : (assignEach [.Name x p1, .Name y p2] X.env).map (·.2) = assign (.Name x p1) X.env :: (assignEach [.Name y p2] X.env).map (·.2) := by rfl) (h1 : (assignEach [.Name y p2] X.env).map (·.2) = assign (.Name y p2) X.env :: (assignEach [] X.env).map (·.2) := by rfl)
    (hn : (assignEach [.Name x p1, .Name y p2] X.env).length = 2 := by rfl) (hst : (assignEach [.Name x p1, .Name y p2] X.env).findIdx? (·.1) = none := by rfl)
    (hf : X.fn x = true ∨ X.env.scope.names.lookup x = some .local := by first | exact .inl rfl | exact .inr rfl | assumption) (hf2 : X.fn y = true ∨ X.env.scope.names.lookup y = some .local := by first | exact .inl rfl | exact .inr rfl | assumption) :
    PG X (.Tuple [.Name x p1, .Name y p2] k pos) (tG C [i, j] (mGp i j)) :=
  pg_imp (pg_tup (n := 2) hc (pgs_cons (pg_name hN hi hx hf) (pgs_cons (pg_name hN hj hy hf2) pgs_nil h1) h0) hn hst) fun v σ H Q ⟨Gc, F, ps, d, ps', R, r, e, q⟩ => by
    unfold mGp at e
    split at e
    · cases e
      cases r with
      | tup h r =>
        cases r with
        | cons r1 r =>
          cases r with
          | cons r2 r =>
            cases r
            refine ⟨_, _, rfl, by rw [← hK]; exact sqT_mono R.fh h, rfl, _, _, rfl, _, _, rfl, rfl, ?_⟩
            refine q _ F H (Same.refl _) ((R.set r1).set r2) fun vs hv => ?_
            rw [wipe_set (hv j (by simp)), wipe_set (hv i (by simp))]
    · cases e
/-! ### for -/
def mLoop (g : MG) (body : MS) : List D → MS
  | [], ps => .next ps
  | d :: ds, ps => match g d ps with
    | none => .bad
    | some ps1 => match body ps1 with
      | .next ps2 => mLoop g body ds ps2
      | .cont ps2 => mLoop g body ds ps2
      | .brk ps2 => .next ps2
      | y => y
def mFor (i : MA) (g : MG) (body : MS) : MS := fun ps => (i ps).bindS fun ds ps1 => mLoop g body ds ps1
theorem xs_for {iter : Expr} {body : List Stmt} {mi : MA} {g : MG} {mb : MS} {ts : List Nat} (hp : PassesOwn (model X.prog X.w) X.A X.env X.xe) (hc : X.calm = true) (hi : PI X tg iter (tI C W mi)) (hg : PG X tg (tG C ts g)) (hb : PSs X body (tS C W mb))
    (hs : ∀ x, foldedSetIterable iter X.env x = pure x := by intro _; rfl) :
    PS X (.For tg iter body [] pos) (tS C W (mFor mi g mb)) :=
  ps_imp (ps_for hp hc hi hg hb hs) fun D σ H ⟨Gc, F, ps, R, q⟩ => seqIS R q fun ds ps1 J F1 H1 s1 R1 it q1 => by
    refine ⟨fun i m σ H => m = ds.length - i ∧ i ≤ ds.length ∧ ∃ F' ps', Same F1 F' ∧ Rel C Gc F' H ps' σ ∧ PoS C W Gc D F' (mLoop g mb (ds.drop i) ps'), ⟨ds.length, by simp, Nat.zero_le _, F1, ps1, Same.refl _, R1, by rw [List.drop_zero]; exact q1⟩, ?_⟩
    rintro i m σ2 H2 ⟨rfl, hi, F2, ps2, s2, R2, q2⟩
    by_cases hlt : i < ds.length
    · refine .inr ⟨it.go i H2 hlt (s2.trans R2.fh), fun σ' H' => ∃ F' ps', Same F1 F' ∧ Rel C Gc F' H' ps' σ' ∧ PoS C W Gc D F' (mLoop g mb (ds.drop (i + 1)) ps'), fun σ' H' h => ⟨ds.length - (i + 1), by omega, rfl, hlt, h⟩, fun x H' y => ?_⟩
      obtain ⟨F3, s3, R3, r3⟩ := it.yld i H2 x H' Gc F2 ps2 σ2 ds[i] s2 R2 (by simp [hlt]) y
      rw [List.drop_eq_getElem_cons hlt] at q2
      have q3 : PoS C W Gc D F2 (match g ds[i] ps2 with
        | none => .bad
        | some ps1 => match mb ps1 with
          | .next ps2 => mLoop g mb (ds.drop (i + 1)) ps2
          | .cont ps2 => mLoop g mb (ds.drop (i + 1)) ps2
          | .brk ps2 => .next ps2
          | y => y) := q2
      cases eg : g ds[i] ps2 with
      | none => rw [eg] at q3; exact q3.elim
      | some ps3 =>
        rw [eg] at q3
        dsimp only at q3
        refine ⟨Gc, F3, ps2, ds[i], ps3, R3, r3, eg, fun σ' F4 H4 s4 R4 _ => ⟨Gc, F4, ps3, R4, ?_⟩⟩
        have q4 := q3.mono (s3.trans s4)
        have sa : Same F1 F4 := (s2.trans s3).trans s4
        cases z : mb ps3 with
        | next ps4 => rw [z] at q4; exact fun σ' F' H' s R' => ⟨F', ps4, sa.trans s, R', q4.mono s⟩
        | cont ps4 => rw [z] at q4; exact fun σ' F' H' s R' => ⟨F', ps4, sa.trans s, R', q4.mono s⟩
        | brk ps4 => rw [z] at q4; exact q4
        | ret d ps4 => rw [z] at q4; exact q4
        | exc e ps4 => rw [z] at q4; exact q4
        | bad => rw [z] at q4; exact q4
    · have e : i = ds.length := by omega
      subst e
      rw [List.drop_length] at q2
      exact .inl ⟨it.stop H2 (s2.trans R2.fh), q2 σ2 F2 H2 (Same.refl _) R2⟩
end
/-! ### new lists -/
/-- a new list of our own, in no slot yet -/
structure Loose (C : Mc) (Gc F H : Hp) (ps : Ps) (σ : St) (p : Addr) (o : HO) : Prop where
  h : H p = some o
  f : F p = none
  g : Gc p = none
  d : ∀ i, C.dk = some i → p ≠ i.a ∧ p ≠ i.c
  w : ∀ j, ¬ Own ps.sl σ j p
section
variable {C : Mc} {W : WX} {Gc F F' H H' : Hp} {ps : Ps} {σ : St} {p : Addr} {o : HO}
theorem Rel.own_there (R : Rel C Gc F H ps σ) {j : Nat} (w : Own ps.sl σ j p) : ∃ o, H p = some o := by
  obtain ⟨⟨s, e, m⟩, e2⟩ := w
  have z := R.sl j s e
  cases s with
  | no => cases m
  | fz d => cases m
  | ml ds => obtain ⟨q, xs, h1, h2, _⟩ := z; rw [e2] at h1; cases h1; exact ⟨_, h2⟩
  | md ds => obtain ⟨q, xs, h1, h2, _⟩ := z; rw [e2] at h1; cases h1; exact ⟨_, h2⟩
theorem Rel.loose (R : Rel C Gc F H ps σ) (n : H p = none) : Loose C Gc F (upd H p o) ps σ p o := by
  have n1 : ∀ i, C.dk = some i → p ≠ i.a := fun i hi z => by rw [z, (R.dk i hi).d] at n; cases n
  have n2 : ∀ i, C.dk = some i → p ≠ i.c := fun i hi z => by rw [z, (R.dk i hi).l] at n; cases n
  exact ⟨upd_same, R.fh.free n, R.gh.free n, fun i hi => ⟨n1 i hi, n2 i hi⟩, fun j w => by obtain ⟨u, e⟩ := R.own_there w; rw [n] at e; cases e⟩
/-- .. it is frozen -/
theorem Rel.frozen (R : Rel C Gc F H ps σ) (l : Loose C Gc F H ps σ p o) : Rel C Gc (upd F p o) H ps σ := by
  refine ⟨fun b u q => ?_, R.gh, fun b u q => ?_, R.len, fun j t q => ?_, R.ow, fun x hx => ?_, R.od⟩
  · by_cases hb : b = p
    · subst hb; rw [upd_same] at q; cases q; exact l.h
    · rw [upd_ne hb] at q; exact R.fh _ _ q
  · have hb : b ≠ p := fun z => by subst z; rw [l.g] at q; cases q
    rw [upd_ne hb]; exact R.dj b u q
  · have z := R.sl j t q
    cases t with
    | no => trivial
    | fz d => obtain ⟨x, h1, h2⟩ := z; exact ⟨x, h1, h2.mono (same_alloc l.f)⟩
    | ml ds =>
      obtain ⟨b, xs, h1, h2, h3, h4, h5⟩ := z
      have hb : b ≠ p := fun w => l.w j (own_at q rfl (by rw [h1, w]))
      exact ⟨b, xs, h1, h2, by rw [upd_ne hb]; exact h3, h4, h5.mono (same_alloc l.f)⟩
    | md ds =>
      obtain ⟨b, xs, h1, h2, h3, h4, h5, h6⟩ := z
      have hb : b ≠ p := fun w => l.w j (own_at q rfl (by rw [h1, w]))
      exact ⟨b, xs, h1, h2, by rw [upd_ne hb]; exact h3, h4, h5.mono (same_alloc l.f), h6⟩
  · have d := R.dk x hx
    exact ⟨d.d, d.l, by rw [upd_ne (l.d x hx).1.symm]; exact d.fa, by rw [upd_ne (l.d x hx).2.symm]; exact d.fc, d.ga, d.gc⟩
/-- .. it is stored into a slot, as our own -/
theorem Rel.setO {i : Nat} {s : Sl} (R : Rel C Gc F H ps σ) (l : Loose C Gc F H ps σ p o) (hs : SlR C Gc F H (some (some (.ref p))) s) : Rel C Gc F H (ps.setS i s) (σ.set i (some (.ref p))) := by
  have own : ∀ {j b}, Own (ps.sl.set i s) (σ.set i (some (.ref p))) j b → (j = i ∧ b = p) ∨ (j ≠ i ∧ Own ps.sl σ j b) := fun {j b} ⟨⟨t, e, m⟩, e2⟩ => by
    by_cases hj : j = i
    · subst hj
      rw [List.getElem?_set] at e2
      simp only [if_pos] at e2
      split at e2
      · cases e2; exact .inl ⟨rfl, rfl⟩
      · cases e2
    · rw [List.getElem?_set_ne (Ne.symm hj)] at e e2
      exact .inr ⟨hj, ⟨t, e, m⟩, e2⟩
  refine ⟨R.fh, R.gh, R.dj, by rw [Ps.setS, List.length_set, List.length_set]; exact R.len, fun j t q => ?_, fun j k b a c => ?_, R.dk, fun x hx j b a => ?_⟩
  · by_cases hj : j = i
    · subst hj
      have hl : j < ps.sl.length := by
        have := (List.getElem?_eq_some_iff.mp q).1
        rwa [Ps.setS, List.length_set] at this
      rw [Ps.setS, List.getElem?_set_self hl] at q
      cases q
      rw [List.getElem?_set_self (by rw [R.len]; exact hl)]
      exact hs
    · rw [Ps.setS, List.getElem?_set_ne (Ne.symm hj)] at q
      rw [List.getElem?_set_ne (Ne.symm hj)]
      exact R.sl j t q
  · rcases own a with ⟨e1, e2⟩ | ⟨n1, w1⟩
    · rcases own c with ⟨e3, _⟩ | ⟨n2, w2⟩
      · rw [e1, e3]
      · rw [e2] at w2; exact (l.w _ w2).elim
    · rcases own c with ⟨_, e4⟩ | ⟨n2, w2⟩
      · rw [e4] at w1; exact (l.w _ w1).elim
      · exact R.ow j k b w1 w2
  · rcases own a with ⟨_, e2⟩ | ⟨_, w1⟩
    · rw [e2]; exact l.d x hx
    · exact R.od x hx j b w1
/-- the content of our own slot changes -/
theorem Rel.mutate {i : Nat} {s s' : Sl} {o' : HO} (R : Rel C Gc F H ps σ) (e : ps.sl[i]? = some s) (m : s.mut = true) (e2 : σ[i]? = some (some (.ref p))) (fp : F p = none) (gp : Gc p = none) (m' : s'.mut = true)
    (hs : SlR C Gc F (upd H p o') (some (some (.ref p))) s') : Rel C Gc F (upd H p o') (ps.setS i s') σ := by
  have ow : Own ps.sl σ i p := own_at e m e2
  have dkn : ∀ x, C.dk = some x → p ≠ x.a ∧ p ≠ x.c := fun x hx => R.od x hx i p ow
  have hl : i < ps.sl.length := (List.getElem?_eq_some_iff.mp e).1
  have own : ∀ {j b}, Own (ps.sl.set i s') σ j b → Own ps.sl σ j b := fun {j b} ⟨⟨t, e', mt⟩, e3⟩ => by
    by_cases hj : j = i
    · subst hj; exact ⟨⟨s, e, m⟩, e3⟩
    · rw [List.getElem?_set_ne (Ne.symm hj)] at e'
      exact ⟨⟨t, e', mt⟩, e3⟩
  have kp : ∀ b o, b ≠ p → H b = some o → (upd H p o') b = some o := fun b o hb h => by rw [upd_ne hb]; exact h
  refine ⟨fun b u q => kp b u (fun z => by rw [z, fp] at q; cases q) (R.fh _ _ q), fun b u q => kp b u (fun z => by rw [z, gp] at q; cases q) (R.gh _ _ q), R.dj, by rw [Ps.setS, List.length_set]; exact R.len, fun j t q => ?_, fun j k b a c => R.ow j k b (own a) (own c), fun x hx => ?_, fun x hx j b a => R.od x hx j b (own a)⟩
  · by_cases hj : j = i
    · subst hj
      rw [Ps.setS, List.getElem?_set_self hl] at q
      cases q
      rw [e2]
      exact hs
    · rw [Ps.setS, List.getElem?_set_ne (Ne.symm hj)] at q
      have z := R.sl j t q
      cases t with
      | no => trivial
      | fz d => exact z
      | ml ds =>
        obtain ⟨b, xs, h1, h2, h3, h4, h5⟩ := z
        exact ⟨b, xs, h1, kp _ _ (fun w => hj (R.ow j i p (own_at q rfl (by rw [h1, w])) ow)) h2, h3, h4, h5⟩
      | md ds =>
        obtain ⟨b, xs, h1, h2, h3, h4, h5, h6⟩ := z
        exact ⟨b, xs, h1, kp _ _ (fun w => hj (R.ow j i p (own_at q rfl (by rw [h1, w])) ow)) h2, h3, h4, h5, h6⟩
  · have d := R.dk x hx
    exact ⟨kp _ _ (dkn x hx).1.symm d.d, kp _ _ (dkn x hx).2.symm d.l, d.fa, d.fc, d.ga, d.gc⟩
end
end MM
namespace MM
open PySem PySem.Spec PyProof.Rows L2
abbrev MLs := Ps → Out (List D)
/-- a new list, told with its data -/
def qF (C : Mc) (Gc : Hp) (σ : St) (Q : VK) : List D → Ps → Hp → Prop := fun ds ps' F => ∀ p xs F' H', Same F F' → Rel C Gc F' H' ps' σ → Loose C Gc F' H' ps' σ p (.lst xs) → RpA C F' xs ds → Q (.ref p) H'
theorem qF.mono {C : Mc} {Gc : Hp} {σ : St} {Q : VK} : Mono (qF C Gc σ Q) := fun _ _ _ _ s h p xs F' H' s' => h p xs F' H' (s.trans s')
def tF (C : Mc) (W : WX) (m : MLs) : TE := fun σ H Q => ∃ Gc F ps, Rel C Gc F H ps σ ∧ Po C W Gc σ (qF C Gc σ Q) F (m ps)
section
variable {C : Mc} {W : WX} {Gc F F' H H' : Hp} {ps : Ps} {σ : St} {p : Addr} {o o' : HO}
theorem seqF {β : Type} {P : β → Ps → Hp → Prop} {m : MLs} {f : List D → Ps → Out β} {Q : VK} (hP : Mono P) (R : Rel C Gc F H ps σ) (h : Po C W Gc σ P F ((m ps).bind f))
    (k : ∀ d ps' p xs F' H', Same F F' → Rel C Gc F' H' ps' σ → Loose C Gc F' H' ps' σ p (.lst xs) → RpA C F' xs d → Po C W Gc σ P F' (f d ps') → Q (.ref p) H') : tF C W m σ H Q := by
  refine ⟨Gc, F, ps, R, ?_⟩
  cases e : m ps with
  | ok d ps' => rw [e] at h; exact fun p xs F' H' s R' l r => k d ps' p xs F' H' s R' l r (h.mono hP s)
  | exc x ps' => rw [e] at h; exact h
  | bad => rw [e] at h; exact h
theorem seqFS {m : MLs} {f : List MM.D → Ps → So} {D : Ends} {Q : VK} (R : Rel C Gc F H ps σ) (h : PoS C W Gc D F ((m ps).bindS f))
    (k : ∀ d ps' p xs F' H', Same F F' → Rel C Gc F' H' ps' σ → Loose C Gc F' H' ps' σ p (.lst xs) → RpA C F' xs d → PoS C W Gc D F' (f d ps') → Q (.ref p) H') : tF C W m σ H Q := by
  refine ⟨Gc, F, ps, R, ?_⟩
  cases e : m ps with
  | ok d ps' => rw [e] at h; exact fun p xs F' H' s R' l r => k d ps' p xs F' H' s R' l r (h.mono s)
  | exc x ps' => rw [e] at h; exact fun F' H' c d s => h σ F' H' c d s
  | bad => rw [e] at h; exact h
theorem Rel.inG (R : Rel C Gc F H ps σ) (l : Loose C Gc F H ps σ p o) : Rel C (upd Gc p o) F H ps σ := by
  refine ⟨R.fh, fun b u q => ?_, fun b u q => ?_, R.len, fun j t q => ?_, R.ow, fun x hx => ?_, R.od⟩
  · by_cases hb : b = p
    · subst hb; rw [upd_same] at q; cases q; exact l.h
    · rw [upd_ne hb] at q; exact R.gh _ _ q
  · by_cases hb : b = p
    · subst hb; exact l.f
    · rw [upd_ne hb] at q; exact R.dj _ _ q
  · have z := R.sl j t q
    cases t with
    | no => trivial
    | fz d => exact z
    | ml ds =>
      obtain ⟨b, xs, h1, h2, h3, h4, h5⟩ := z
      have hb : b ≠ p := fun w => l.w j (own_at q rfl (by rw [h1, w]))
      exact ⟨b, xs, h1, h2, h3, by rw [upd_ne hb]; exact h4, h5⟩
    | md ds =>
      obtain ⟨b, xs, h1, h2, h3, h4, h5, h6⟩ := z
      have hb : b ≠ p := fun w => l.w j (own_at q rfl (by rw [h1, w]))
      exact ⟨b, xs, h1, h2, h3, by rw [upd_ne hb]; exact h4, h5, h6⟩
  · have d := R.dk x hx
    exact ⟨d.d, d.l, d.fa, d.fc, by rw [upd_ne (l.d x hx).1.symm]; exact d.ga, by rw [upd_ne (l.d x hx).2.symm]; exact d.gc⟩
theorem Rel.outG (R : Rel C (upd Gc p o) F H ps σ) (g : Gc p = none) : Rel C Gc F H ps σ ∧ Loose C Gc F H ps σ p o := by
  have gp : ∀ b, (upd Gc p o) b = none → Gc b = none ∧ b ≠ p := fun b q => by
    have hb : b ≠ p := fun z => by subst z; rw [upd_same] at q; cases q
    rw [upd_ne hb] at q; exact ⟨q, hb⟩
  have up : ∀ b u, Gc b = some u → (upd Gc p o) b = some u := fun b u q => by
    rw [upd_ne (ne_of_none q g)]; exact q
  refine ⟨⟨R.fh, fun b u q => R.gh b u (up b u q), fun b u q => R.dj b u (up b u q), R.len, fun j t q => ?_, R.ow, fun x hx => ?_, R.od⟩, ⟨R.gh p o upd_same, R.dj p o upd_same, g, fun x hx => ?_, fun j w => ?_⟩⟩
  · have z := R.sl j t q
    cases t with
    | no => trivial
    | fz d => exact z
    | ml ds =>
      obtain ⟨b, xs, h1, h2, h3, h4, h5⟩ := z
      exact ⟨b, xs, h1, h2, h3, (gp b h4).1, h5⟩
    | md ds =>
      obtain ⟨b, xs, h1, h2, h3, h4, h5, h6⟩ := z
      exact ⟨b, xs, h1, h2, h3, (gp b h4).1, h5, h6⟩
  · have d := R.dk x hx
    exact ⟨d.d, d.l, d.fa, d.fc, (gp _ d.ga).1, (gp _ d.gc).1⟩
  · have d := R.dk x hx
    exact ⟨(gp _ d.ga).2.symm, (gp _ d.gc).2.symm⟩
  · obtain ⟨⟨s, e, m⟩, e2⟩ := w
    have z := R.sl j s e
    cases s with
    | no => cases m
    | fz d => cases m
    | ml ds => obtain ⟨b, xs, h1, h2, h3, h4, _⟩ := z; rw [e2] at h1; cases h1; exact (gp _ h4).2 rfl
    | md ds => obtain ⟨b, xs, h1, h2, h3, h4, _⟩ := z; rw [e2] at h1; cases h1; exact (gp _ h4).2 rfl
/-- what is loose changes -/
theorem Rel.looseSet (R : Rel C Gc F H ps σ) (l : Loose C Gc F H ps σ p o) : Rel C Gc F (upd H p o') ps σ ∧ Loose C Gc F (upd H p o') ps σ p o' := by
  have kp : ∀ b u, b ≠ p → H b = some u → (upd H p o') b = some u := fun b u hb q => by rw [upd_ne hb]; exact q
  refine ⟨⟨fun b u q => kp b u (fun z => by rw [z, l.f] at q; cases q) (R.fh _ _ q), fun b u q => kp b u (fun z => by rw [z, l.g] at q; cases q) (R.gh _ _ q), R.dj, R.len, fun j t q => ?_, R.ow, fun x hx => ?_, R.od⟩, ⟨upd_same, l.f, l.g, l.d, l.w⟩⟩
  · have z := R.sl j t q
    cases t with
    | no => trivial
    | fz d => exact z
    | ml ds =>
      obtain ⟨b, xs, h1, h2, h3, h4, h5⟩ := z
      exact ⟨b, xs, h1, kp b _ (fun w => l.w j (own_at q rfl (by rw [h1, w]))) h2, h3, h4, h5⟩
    | md ds =>
      obtain ⟨b, xs, h1, h2, h3, h4, h5, h6⟩ := z
      exact ⟨b, xs, h1, kp b _ (fun w => l.w j (own_at q rfl (by rw [h1, w]))) h2, h3, h4, h5, h6⟩
  · have d := R.dk x hx
    exact ⟨kp _ _ (l.d x hx).1.symm d.d, kp _ _ (l.d x hx).2.symm d.l, d.fa, d.fc, d.ga, d.gc⟩
/-- slots forgotten -/
def wipeS (sl : List Sl) : List Nat → List Sl
  | [] => sl
  | v :: vs => (wipeS sl vs).set v .no
def wipeP (ps : Ps) (vs : List Nat) : Ps := { ps with sl := wipeS ps.sl vs }
theorem wipeS_len (sl : List Sl) : ∀ vs : List Nat, (wipeS sl vs).length = sl.length
  | [] => rfl
  | v :: vs => by unfold wipeS; rw [List.length_set, wipeS_len sl vs]
theorem wipeS_get (sl : List Sl) : ∀ (vs : List Nat) (j : Nat), (wipeS sl vs)[j]? = if j ∈ vs then (if j < sl.length then some .no else none) else sl[j]?
  | [], j => by simp [wipeS]
  | v :: vs, j => by
    unfold wipeS
    by_cases h : v = j
    · subst h
      rw [List.getElem?_set]
      simp [wipeS_len]
    · rw [List.getElem?_set_ne h, wipeS_get sl vs j]
      have : (j ∈ v :: vs) ↔ j ∈ vs := by simp [Ne.symm h]
      simp only [this]
theorem Rel.wipeP (R : Rel C Gc F H ps σ) : ∀ vs : List Nat, Rel C Gc F H (wipeP ps vs) (wipe σ vs)
  | [] => R
  | v :: vs => (Rel.wipeP R vs).wipe1
theorem wipe_idem (σ : St) (vs : List Nat) : wipe (wipe σ vs) vs = wipe σ vs := by
  apply List.ext_getElem?
  intro j
  rw [wipe_get, wipe_length, wipe_get]
  by_cases h : j ∈ vs <;> simp [h]
/-- the outer names as they were -/
theorem Rel.unwipe {vs : List Nat} (R : Rel C Gc F H (MM.wipeP ps vs) (wipe σ vs)) : Rel C Gc F H (MM.wipeP ps vs) σ := by
  have hs : ∀ (j : Nat) (s : Sl), (MM.wipeP ps vs).sl[j]? = some s → s ≠ .no → (wipe σ vs)[j]? = σ[j]? := fun j s e n => by
    have e' : (wipeS ps.sl vs)[j]? = some s := e
    rw [wipeS_get] at e'
    by_cases h : j ∈ vs
    · rw [if_pos h] at e'
      split at e'
      · cases e'; exact (n rfl).elim
      · cases e'
    · rw [wipe_get, if_neg h]
  have own : ∀ {j b}, Own (MM.wipeP ps vs).sl σ j b → Own (MM.wipeP ps vs).sl (wipe σ vs) j b := fun {j b} ⟨⟨s, e, m⟩, e2⟩ =>
    ⟨⟨s, e, m⟩, by rw [hs j s e fun z => by subst z; cases m]; exact e2⟩
  refine ⟨R.fh, R.gh, R.dj, by rw [← R.len, wipe_length], fun j s e => ?_, fun j k b a c => R.ow j k b (own a) (own c), R.dk, fun x hx j b a => R.od x hx j b (own a)⟩
  have z := R.sl j s e
  cases s with
  | no => trivial
  | fz d => rw [← hs j _ e (fun q => by cases q)]; exact z
  | ml d => rw [← hs j _ e (fun q => by cases q)]; exact z
  | md d => rw [← hs j _ e (fun q => by cases q)]; exact z
end
/-! ### displays, comprehensions -/
def mFz (m : MLs) : ME := fun ps => (m ps).bind fun ds ps1 => .ok (.list ds) ps1
def mDisp (a : MA) : MLs := fun ps => (a ps).bind fun ds ps1 => if ds.length ≤ sizeLine then .ok ds ps1 else .bad
def mCl (g : MG) (tt : MT) (te : ME) (vs : List Nat) : List D → List D → Ps → Out (List D)
  | [], acc, ps => .ok acc ps
  | d :: ds, acc, ps => match g d ps with
    | none => .bad
    | some ps1 => match tt ps1 with
      | .ok b ps2 => if b = true then (match te ps2 with
          | .ok y ps3 => if acc.length < sizeLine then mCl g tt te vs ds (acc ++ [y]) (wipeP ps3 vs) else .bad
          | _ => .bad) else mCl g tt te vs ds acc (wipeP ps2 vs)
      | _ => .bad
def mComp (i : MA) (g : MG) (tt : MT) (te : ME) (vs : List Nat) : MLs := fun ps => (i ps).bind fun ds ps1 => (mCl g tt te vs ds [] (wipeP ps1 vs)).bind fun ys ps2 => .ok ys (wipeP ps2 vs)
def mYes : MT := fun ps => .ok true ps
section
variable {X : Cx} {C : Mc} {W : WX} {e : Expr} {es : List Expr} {pos : Pos}
theorem xfz {m : MLs} (h : PE X e (tF C W m)) : PE X e (tE C W (mFz m)) := pe_imp h fun σ H Q ⟨Gc, F, ps, R, q⟩ =>
  seqF qE.mono R q fun ds ps1 p xs F1 H1 s1 R1 l r q1 => q1 _ _ H1 (same_alloc l.f) (R1.frozen l) (.lst upd_same (r.mono (same_alloc l.f)))
theorem xdisp {ma : MA} (h : PA X es (tA C W ma)) : PE X (.List es pos) (tF C W (mDisp ma)) :=
  pe_imp (pe_lst h) fun σ H Q ⟨Gc, F, ps, R, q⟩ => seqA qF.mono R q fun xs ps1 vs F1 H1 s1 R1 r1 q1 => by
    by_cases hl : xs.length ≤ sizeLine
    · rw [if_pos hl] at q1
      exact ⟨by rw [r1.length]; exact hl, fun p n => q1 p vs F1 _ (Same.refl _) (R1.fresh n) (R1.loose n) r1⟩
    · rw [if_neg hl] at q1; exact q1.elim
theorem pts_imp {ifs : List Expr} {t t' : TT} (h : PTs X ifs t) (k : ∀ σ H Q, t' σ H Q → t σ H Q) : PTs X ifs t' := ⟨fun pins s σ H Q I q => h.run pins s σ H Q I (k σ H Q q)⟩
theorem xts_nil : PTs X [] (tT C W mYes) := pts_imp pts_nil fun σ H Q ⟨Gc, F, ps, R, q⟩ => q F H (Same.refl _) R
theorem xts_one {c : Expr} {m : MT} (h : PT X c (tT C W m)) : PTs X [c] (tT C W m) := pts_one h
/-- the reading of a comprehension -/
theorem comp_ok {mi : MA} {g : MG} {mt : MT} {me : ME} {vs ts : List Nat} (hv : ∀ t ∈ ts, t ∈ vs) {σ : St} {H : Hp} {Q : VK} (h : tF C W (mComp mi g mt me vs) σ H Q) :
    tLc (tI C W mi) (tG C ts g) (tT C W0 mt) (tE C W0 me) vs σ H Q := by
  obtain ⟨Gc, F, ps, R, q⟩ := h
  refine seqI qF.mono R q fun ds ps1 J F1 H1 s1 R1 it q1 => ?_
  intro Dl nD
  have gD : Gc Dl = none := R1.gh.free nD
  have R2 : Rel C (upd Gc Dl (.lst [])) F1 (upd H1 Dl (.lst [])) (wipeP ps1 vs) (wipe σ vs) :=
    ((R1.fresh nD).inG (R1.loose nD)).wipeP vs
  refine ⟨fun i m H => m = ds.length - i ∧ i ≤ ds.length ∧ ∃ F' ps' acc accV, Same F1 F' ∧ Rel C (upd Gc Dl (.lst accV)) F' H ps' (wipe σ vs) ∧ RpA C F' accV acc ∧
    Po C W Gc σ (qF C Gc σ Q) F' ((mCl g mt me vs (ds.drop i) acc ps').bind fun ys ps2 => .ok ys (wipeP ps2 vs)),
    ⟨ds.length, by simp, Nat.zero_le _, F1, _, [], [], Same.refl _, R2, .nil, by rw [List.drop_zero]; exact q1⟩, ?_⟩
  rintro i m H2 ⟨rfl, hi, F2, ps2, acc, accV, s2, R3, ra, q2⟩
  by_cases hlt : i < ds.length
  · refine .inr ⟨it.go i H2 hlt (s2.trans R3.fh), fun H' => ∃ F' ps' acc accV, Same F1 F' ∧ Rel C (upd Gc Dl (.lst accV)) F' H' ps' (wipe σ vs) ∧ RpA C F' accV acc ∧
        Po C W Gc σ (qF C Gc σ Q) F' ((mCl g mt me vs (ds.drop (i + 1)) acc ps').bind fun ys ps2 => .ok ys (wipeP ps2 vs)), fun H' h => ⟨ds.length - (i + 1), by omega, rfl, hlt, h⟩, fun x H' y => ?_⟩
    obtain ⟨F3, s3, R4, r4⟩ := it.yld i H2 x H' _ F2 ps2 _ ds[i] s2 R3 (by simp [hlt]) y
    rw [List.drop_eq_getElem_cons hlt] at q2
    unfold mCl at q2
    cases eg : g ds[i] ps2 with
    | none => rw [eg] at q2; exact q2.elim
    | some ps3 =>
      rw [eg] at q2
      dsimp only at q2
      refine ⟨_, F3, ps2, ds[i], ps3, R4, r4, eg, fun σ' F4 H4 s4 R5 hw => ⟨by rw [hw vs hv, wipe_idem], ?_⟩⟩
      have ew : wipe σ' vs = wipe σ vs := by rw [hw vs hv, wipe_idem]
      cases et : mt ps3 with
      | bad => rw [et] at q2; exact q2.elim
      | exc _ _ => rw [et] at q2; exact q2.elim
      | ok b ps4 =>
        rw [et] at q2
        dsimp only at q2
        refine ⟨_, F4, ps3, R5, ?_⟩
        rw [et]
        refine fun F5 H5 s5 R6 => ?_
        have sa : Same F1 F5 := ((s2.trans s3).trans s4).trans s5
        cases b with
        | false =>
          rw [if_neg (by decide)] at q2
          refine iteF ⟨F5, wipeP ps4 vs, acc, accV, sa, ?_, ra.mono ((s3.trans s4).trans s5), q2.mono qF.mono ((s3.trans s4).trans s5)⟩
          rw [← ew]
          exact R6.wipeP vs
        | true =>
          rw [if_pos rfl] at q2
          refine iteT ⟨_, F5, ps4, R6, ?_⟩
          cases ee : me ps4 with
          | bad => rw [ee] at q2; exact q2.elim
          | exc _ _ => rw [ee] at q2; exact q2.elim
          | ok y ps5 =>
            rw [ee] at q2
            dsimp only at q2
            refine fun v F6 H6 s6 R7 ry => ?_
            by_cases hl : acc.length < sizeLine
            · rw [if_pos hl] at q2
              have sb : Same F2 F6 := ((s3.trans s4).trans s5).trans s6
              refine ⟨accV, R7.gh _ _ upd_same, by rw [ra.length]; exact hl, F6, wipeP ps5 vs, acc ++ [y], accV ++ [v], sa.trans s6, ?_, (ra.mono sb).append (.cons ry .nil), q2.mono qF.mono sb⟩
              obtain ⟨R8, l8⟩ := R7.outG gD
              obtain ⟨R9, l9⟩ := R8.looseSet (o' := .lst (accV ++ [v])) l8
              rw [← ew]
              exact (R9.inG l9).wipeP vs
            · rw [if_neg hl] at q2; exact q2.elim
  · have e : i = ds.length := by omega
    subst e
    rw [List.drop_length] at q2
    refine .inl ⟨it.stop H2 (s2.trans R3.fh), ?_⟩
    have R4 : Rel C (upd Gc Dl (.lst accV)) F2 H2 (wipeP ps2 vs) σ := by
      have z := R3.wipeP vs
      rw [wipe_idem] at z
      exact z.unwipe
    obtain ⟨R5, l5⟩ := R4.outG gD
    exact q2 Dl accV F2 H2 (Same.refl _) R5 l5 ra
theorem xlc {elt tg iter : Expr} {ifs : List Expr} {scope : Scope} {own : List (Str × Nat)} {mi : MA} {g : MG} {mt : MT} {me : ME} {ts : List Nat} (hv : ∀ t ∈ ts, t ∈ own.map (·.2)) (hc : X.calm = true) (hN : X.N.Nodup) (hi : PI X tg iter (tI C W mi)) (ok : BlkOk X.N X.env.scope scope own)
    (hg : ∀ (s : Shared) (H : Hp) (A : Addr) (cl : List (Str × Addr)) (fp : List Addr), PG (X.blk s H scope (compEnvC scope cl A X.env) fp) tg (tG C ts g)) (ht : ∀ (s : Shared) (H : Hp) (A : Addr) (cl : List (Str × Addr)) (fp : List Addr), PTs (X.blk s H scope (compEnvC scope cl A X.env) fp) ifs (tT C W0 mt))
    (he : ∀ (s : Shared) (H : Hp) (A : Addr) (cl : List (Str × Addr)) (fp : List Addr), PE (X.blk s H scope (compEnvC scope cl A X.env) fp) elt (tE C W0 me)) (hs : ∀ x, foldedSetIterable iter X.env x = pure x := by intro _; rfl) :
    PE X (.ListComp elt [⟨tg, iter, ifs, 0⟩] scope pos) (tF C W (mComp mi g mt me (own.map (·.2)))) :=
  pe_imp (pe_lc hc hN hi ok hg ht he hs) fun _ _ _ h => comp_ok hv h
/-! ### storing -/
/-- name = what is new, to be our own -/
def mOwn (i : Nat) (m : MLs) : MS := fun ps => (m ps).bindS fun ds ps1 => .next (ps1.setS i (.ml ds))
theorem own_ok {i : Nat} {m : MLs} {te : TE} {D : Ends} {σ : St} {H : Hp} (k : ∀ Q, tF C W m σ H Q → te σ H Q) (h : tS C W (mOwn i m) D σ H) : tAsg te (gName i) D σ H := by
  obtain ⟨Gc, F, ps, R, q⟩ := h
  refine k _ (seqFS R q fun ds ps1 p xs F1 H1 s1 R1 l r q1 => ?_)
  exact q1 _ F1 H1 (Same.refl _) (R1.setO l ⟨p, xs, rfl, l.h, l.f, l.g, r⟩)
theorem xs_own {i : Nat} {x : Str} {m : MLs} {pos' : Pos} (hN : X.N.Nodup) (hi : X.N[i]? = some x) (hx : Loc X.env.scope x) (he : PE X e (tF C W m)) (hs : swapsWith e (some (.Name x pos')) pos.line X.env = pure false := by rfl) (hf : X.fn x = true ∨ X.env.scope.names.lookup x = some .local := by first | exact .inl rfl | exact .inr rfl | assumption) :
    PS X (.Assign [.Name x pos'] e pos) (tS C W (mOwn i m)) :=
  ps_imp (ps_set hN hi hx he hs hf) fun D σ H h => own_ok (fun _ z => z) h
theorem xs_ownLc {i : Nat} {y : Str} {py : Pos} {elt tg iter : Expr} {ifs : List Expr} {scope : Scope} {own : List (Str × Nat)} {spos : Pos} {mi : MA} {g : MG} {mt : MT} {me : ME} {ts : List Nat} (hv : ∀ t ∈ ts, t ∈ own.map (·.2)) (hc : X.calm = true) (hN : X.N.Nodup) (hy : X.N[i]? = some y) (hyl : X.env.scope.names.lookup y = some .local)
    (hsw : swapsWith (.ListComp elt [⟨tg, iter, ifs, 0⟩] scope pos) (some (.Name y py)) spos.line X.env = pure true) (hi : PI X tg iter (tI C W mi)) (ok : BlkOk X.N X.env.scope scope own)
    (hg : ∀ (s : Shared) (H : Hp) (A : Addr) (cl : List (Str × Addr)) (fp : List Addr), PG (X.blk s H scope (compEnvC scope cl A X.env) fp) tg (tG C ts g)) (ht : ∀ (s : Shared) (H : Hp) (A : Addr) (cl : List (Str × Addr)) (fp : List Addr), PTs (X.blk s H scope (compEnvC scope cl A X.env) fp) ifs (tT C W0 mt))
    (he : ∀ (s : Shared) (H : Hp) (A : Addr) (cl : List (Str × Addr)) (fp : List Addr), PE (X.blk s H scope (compEnvC scope cl A X.env) fp) elt (tE C W0 me)) (hs : ∀ x, foldedSetIterable iter X.env x = pure x := by intro _; rfl) :
    PS X (.Assign [.Name y py] (.ListComp elt [⟨tg, iter, ifs, 0⟩] scope pos) spos) (tS C W (mOwn i (mComp mi g mt me (own.map (·.2))))) :=
  ps_imp (ps_setLc hc hN hy hyl hsw hi ok hg ht he hs) fun D σ H h => own_ok (fun _ z => comp_ok hv z) h
end
end MM
namespace MM
open PySem PySem.Spec PyProof.Rows L2
/-! ### calls by keywords alone -/
def permL {α : Type} (π : List Nat) (xs : List α) : List α := π.filterMap fun i => xs[i]?
def pick {α : Type} (n m : Nat) (π : List Nat) (us ws : List α) : List α := if us.length = n ∧ ws.length = m then permL π (us ++ ws) else []
theorem perm_vals {vs : List V} {us : List Value} (r : Vals vs us) : ∀ π : List Nat, Vals (permL π vs) (permL π us)
  | [] => .nil
  | i :: π => by
    unfold permL
    cases e : vs[i]? with
    | none =>
      rw [List.filterMap_cons_none e, List.filterMap_cons_none (Vals.none_of r e)]
      exact perm_vals r π
    | some v =>
      obtain ⟨u, h1, h2⟩ := r.get e
      rw [List.filterMap_cons_some e, List.filterMap_cons_some h1]
      exact .cons h2 (perm_vals r π)
theorem perm_rpa {C : Mc} {F : Hp} {vs : List V} {us : List D} (r : RpA C F vs us) : ∀ π : List Nat, RpA C F (permL π vs) (permL π us)
  | [] => .nil
  | i :: π => by
    unfold permL
    cases e : vs[i]? with
    | none =>
      have e2 : us[i]? = none := by
        have := List.getElem?_eq_none_iff.mp e
        exact List.getElem?_eq_none_iff.mpr (by rw [← r.length]; exact this)
      rw [List.filterMap_cons_none e, List.filterMap_cons_none e2]
      exact perm_rpa r π
    | some v =>
      obtain ⟨u, h1, h2⟩ := r.get e
      rw [List.filterMap_cons_some e, List.filterMap_cons_some h1]
      exact .cons h2 (perm_rpa r π)
theorem pick_vals (n m : Nat) (π : List Nat) {vs zs : List V} {us ws : List Value} (r : Vals vs us) (q : Vals zs ws) : Vals (pick n m π vs zs) (pick n m π us ws) := by
  unfold pick
  rw [r.length, q.length]
  split
  · exact perm_vals (r.append q) π
  · exact .nil
theorem pick_rpa {C : Mc} {F : Hp} (n m : Nat) (π : List Nat) {vs zs : List V} {us ws : List D} (r : RpA C F vs us) (q : RpA C F zs ws) : RpA C F (pick n m π vs zs) (pick n m π us ws) := by
  unfold pick
  rw [r.length, q.length]
  split
  · exact perm_rpa (r.append q) π
  · exact .nil
theorem kb_mk {K : PySem.W.Frag} {fd : FuncData} {pn ks : List Str} {n m : Nat} {π : List Nat} (h0 : pn ≠ []) (h : ∀ (s : Shared) (us ws : List Value), us.length = n → ws.length = m → BindsTo s fd ⟨us, ks.zip ws⟩ (pn.zip (permL π (us ++ ws)))) :
    KBinds K fd pn ks (pick n m π) (pick n m π) where
  to := fun s us ws _ hl => by
    unfold pick at hl ⊢
    by_cases c : us.length = n ∧ ws.length = m
    · rw [if_pos c]; exact h s us ws c.1 c.2
    · rw [if_neg c] at hl
      exact absurd (List.eq_nil_of_length_eq_zero hl.symm) h0
  rel := fun r q => pick_vals n m π r q
section
variable {X : Cx} {C : Mc} {W : WX} {a b c e o : Expr} {es : List Expr} {kws : List Keyword} {pos p apos cpos : Pos} {k : Nat} {f : Addr} {fd : FuncData} {pn ks : List Str} {x : Str} {mf : MF}
theorem xk_nil : PK X [] (tA C W mNil) := ⟨fun pos pins s σ H Q I ⟨Gc, F, ps, R, q⟩ => pk_nil.run pos pins s σ H Q I (q [] F H (Same.refl _) R .nil)⟩
theorem xk_cons {nm : Option Str} {kpos : Pos} {ma : ME} {mr : MA} (ha : PE X e (tE C W ma)) (hr : PK X kws (tA C W mr)) : PK X (⟨nm, e, kpos⟩ :: kws) (tA C W (mCons ma mr)) :=
  ⟨fun pos pins s σ H Q I ⟨Gc, F, ps, R, q⟩ => (pk_cons ha hr).run pos pins s σ H Q I (seqE qA.mono R q fun x ps1 v F1 H1 s1 R1 r1 q1 =>
    seqA qA.mono R1 q1 fun xs ps2 vs F2 H2 s2 R2 r2 q2 => q2 (v :: vs) F2 H2 (Same.refl _) R2 (.cons (r1.mono s2) r2))⟩
/-- f(k = v, ..) -/
theorem pe_callK0 {CX : CXT} {sp : Sp} {E : XK} {tk : TA} {g : List Value → List Value → List Value} {gV : List V → List V → List V} (F : FnOk X.prog X.w X.K X.mg X.base CX k f fd pn sp) (hr : Room k X.A) (hg : Gl X x) (hm : X.mg x = some (.ref f)) (hk : PySem.W.keepIn X.K (.ref f) = true) (hb : KBinds X.K fd pn ks g gV) (hx : Passes CX X E)
    (hkw : PK X kws tk) (hall : (backToKw pos (keywordEach kws X.env)).all (·.1.isSome) = true := by rfl) (hks : (backToKw pos (keywordEach kws X.env)).filterMap (·.1) = ks := by rfl)
    (hdb : (x == ("__debug__" : Str)) = false := by decide) (hpl : ((backTo pos (starEach [] X.env)).any (·.1) || (backToKw pos (keywordEach kws X.env)).any (·.1.isNone)) = false := by rfl) :
    PE X (.Call (.Name x p) [] kws pos) (tCallK sp gV E tNil tk) := by
  refine ⟨fun pins s σ H Q I h => ?_⟩
  refine wpAny_Call_Name_kw (ld_glob I hg hm ?_ hdb)
  refine PySem.W.callWith_KW0 (h₀ := X.base) I.ok.mod.kin hk hall (thn (hkw.run pos pins s σ H _ I h) fun ws s2 ⟨zs, H2, I2, rz, q2⟩ => ⟨I2.kIn, ?_⟩) hpl
  rw [hks]
  exact run_fnk (us := []) F hr hb hx I2 .nil rz q2
theorem xcallK0 {n m : Nat} {π : List Nat} {mk : MA} (G : FnOk X.prog X.w X.K X.mg X.base CX0 k f fd pn (spM C mf)) (hr : Room k X.A) (hg : Gl X x) (hm : X.mg x = some (.ref f)) (hk : PySem.W.keepIn X.K (.ref f) = true) (hb : KBinds X.K fd pn ks (pick n m π) (pick n m π))
    (hkw : PK X kws (tA C W mk)) (hall : (backToKw pos (keywordEach kws X.env)).all (·.1.isSome) = true := by rfl) (hks : (backToKw pos (keywordEach kws X.env)).filterMap (·.1) = ks := by rfl)
    (hdb : (x == ("__debug__" : Str)) = false := by decide) (hpl : ((backTo pos (starEach [] X.env)).any (·.1) || (backToKw pos (keywordEach kws X.env)).any (·.1.isNone)) = false := by rfl) :
    PE X (.Call (.Name x p) [] kws pos) (tE C W (mCallK mf (pick n m π) mNil mk)) :=
  pe_imp (pe_callK0 (E := E0) G hr hg hm hk hb pass0 hkw hall hks hdb hpl) fun σ H Q ⟨Gc, F, ps, R, q⟩ => by
    show tA C W mk σ H fun zs H2 => spM C mf (pick n m π [] zs) H2 Q E0
    refine seqA qE.mono R q fun ds ps1 vs F1 H1 s1 R1 r1 q1 => ?_
    obtain ⟨Gc', R2, back⟩ := R1.enter
    refine ⟨Gc', F1, pick n m π [] ds, ps1.dk, R2, pick_rpa n m π .nil r1, ?_⟩
    cases z : mf (pick n m π [] ds) ps1.dk with
    | ret d k' => rw [z] at q1; exact fun v F' H' s R' r => q1 v F' H' s (back F' H' k' s R') r
    | exc e' k' => rw [z] at q1; exact q1.elim
    | bad => rw [z] at q1; exact q1.elim
theorem xcallK {n m : Nat} {π : List Nat} {ma mk : MA} (G : FnOk X.prog X.w X.K X.mg X.base CX0 k f fd pn (spM C mf)) (hr : Room k X.A) (hg : Gl X x) (hm : X.mg x = some (.ref f)) (hk : PySem.W.keepIn X.K (.ref f) = true) (hb : KBinds X.K fd pn ks (pick n m π) (pick n m π))
    (ha : PA X (e :: es) (tA C W ma)) (hkw : PK X kws (tA C W mk)) (hall : (backToKw pos (keywordEach kws X.env)).all (·.1.isSome) = true := by rfl) (hks : (backToKw pos (keywordEach kws X.env)).filterMap (·.1) = ks := by rfl)
    (hdb : (x == ("__debug__" : Str)) = false := by decide) (he : starEach (e :: es) X.env = (false, eval e X.env) :: starEach es X.env := by rfl)
    (hpl : ((backTo pos (starEach (e :: es) X.env)).any (·.1) || (backToKw pos (keywordEach kws X.env)).any (·.1.isNone)) = false := by rfl) :
    PE X (.Call (.Name x p) (e :: es) kws pos) (tE C W (mCallK mf (pick n m π) ma mk)) :=
  pe_imp (pe_callK (E := E0) G hr hg hm hk hb pass0 ha hkw hall hks hdb he hpl) fun σ H Q ⟨Gc, F, ps, R, q⟩ => by
    refine seqA qE.mono R q fun ds ps1 vs F1 H1 s1 R1 r1 q1 => ?_
    refine seqA qE.mono R1 q1 fun es ps2 ws F2 H2 s2 R2 r2 q2 => ?_
    obtain ⟨Gc', R3, back⟩ := R2.enter
    refine ⟨Gc', F2, pick n m π ds es, ps2.dk, R3, pick_rpa n m π (r1.mono s2) r2, ?_⟩
    cases z : mf (pick n m π ds es) ps2.dk with
    | ret d k' => rw [z] at q2; exact fun v F' H' s R' r => q2 v F' H' s (back F' H' k' s R') r
    | exc e' k' => rw [z] at q2; exact q2.elim
    | bad => rw [z] at q2; exact q2.elim
/-! ### chains -/
def mChain (f g : D → D → Option D) (a b c : ME) : ME := fun ps => (a ps).bind fun x ps1 => (b ps1).bind fun y ps2 => (Out.of ((f x y).bind dBool) ps2).bind fun k ps2 =>
  if k = true then (c ps2).bind fun z ps3 => .of (g y z) ps3 else .ok (.bool false) ps2
theorem chain_ok {f g : D → D → Option D} {r r' : R2} {ma mb mc : ME} (hm : OpM C f r) (hm' : OpM C g r') {σ : St} {H : Hp} {Q : VK} (h : tE C W (mChain f g ma mb mc) σ H Q) : tChain r r' (tE C W ma) (tE C W mb) (tE C W mc) σ H Q := by
  obtain ⟨Gc, F, ps, R, q⟩ := h
  refine seqE qE.mono R q fun x ps1 v F1 H1 s1 R1 r1 q1 => seqE qE.mono R1 q1 fun y ps2 u F2 H2 s2 R2 r2 q2 => ?_
  cases z : f x y with
  | none => rw [z] at q2; exact q2.elim
  | some d =>
    rw [z] at q2
    cases d with
    | bool k =>
      refine hm Gc F2 H2 ps2 σ v u x y _ _ R2 (r1.mono s2) r2 z fun w' F3 H3 s3 R3 r3 => ?_
      cases r3
      have q3 : Po C W Gc σ (qE C Gc σ Q) F2 (if k = true then (mc ps2).bind fun z ps3 => .of (g y z) ps3 else .ok (.bool false) ps2) := q2
      have q4 := q3.mono qE.mono s3
      refine ⟨k, rfl, ?_⟩
      cases k with
      | false =>
        rw [if_neg (by decide)] at q4
        exact iteF (q4 _ F3 H3 (Same.refl _) R3 (.bl _))
      | true =>
        rw [if_pos rfl] at q4
        refine iteT (seqE qE.mono R3 q4 fun z' ps4 w4 F4 H4 s4 R4 r4 q5 => ?_)
        cases z2 : g y z' with
        | none => rw [z2] at q5; exact q5.elim
        | some d2 =>
          rw [z2] at q5
          exact hm' Gc F4 H4 ps4 σ u w4 y z' d2 Q R4 (r2.mono (s3.trans s4)) r4 z2 q5
    | _ => exact q2.elim
theorem xchain {op op' : CmpOp} {f g : D → D → Option D} {r r' : R2} {ma mb mc : ME} (ho : OpR X (compareOp op) r) (hm : OpM C f r) (ho' : OpR X (compareOp op') r') (hm' : OpM C g r') (ha : PE X a (tE C W ma)) (hb : PE X b (tE C W mb)) (hc : PE X c (tE C W mc))
    (hk : lastMarks [op, op'] [b, c] = false := by with_unfolding_all rfl) : PE X (.Compare a [op, op'] [b, c] pos) (tE C W (mChain f g ma mb mc)) :=
  pe_imp (pe_chain ho ho' ha hb hc hk) fun _ _ _ h => chain_ok hm hm' h
theorem xt_chain {op op' : CmpOp} {f g : D → D → Option D} {r r' : R2} {ma mb mc : ME} (ho : OpR X (compareOp op) r) (hm : OpM C f r) (ho' : OpR X (compareOp op') r') (hm' : OpM C g r') (ha : PE X a (tE C W ma)) (hb : PE X b (tE C W mb)) (hc : PE X c (tE C W mc))
    (hk : lastMarks [op, op'] [b, c] = false := by with_unfolding_all rfl) : PT X (.Compare a [op, op'] [b, c] pos) (tT C W (mTst (mChain f g ma mb mc))) :=
  pt_imp (pt_chain ho ho' ha hb hc hk) fun _ _ _ h => chain_ok hm hm' (tst_ok h)
/-! ### our own lists and dicts -/
/-- what a slot holds, looked at -/
def peek (ps : Ps) (i : Nat) : Option D := match ps.sl[i]? with
  | some (.fz d) => some d
  | some (.ml ds) => some (.list ds)
  | some (.md kvs) => some (.dict (kvs.map fun p => (kD p.1, p.2)))
  | _ => none
theorem peek_ok {Gc F H : Hp} {ps : Ps} {σ : St} {i : Nat} {d : D} (R : Rel C Gc F H ps σ) (h : peek ps i = some d) : ∃ v F1 ps1, σ[i]? = some (some v) ∧ Same F F1 ∧ Rel C Gc F1 H ps1 σ ∧ Rp C F1 v d := by
  have e : ∃ ps1, mVar i ps = .ok d ps1 := by
    unfold peek at h
    unfold mVar
    cases z : ps.sl[i]? with
    | none => rw [z] at h; cases h
    | some s =>
      rw [z] at h
      cases s with
      | no => cases h
      | fz d => cases h; exact ⟨_, rfl⟩
      | ml ds => cases h; exact ⟨_, rfl⟩
      | md ds => cases h; exact ⟨_, rfl⟩
  obtain ⟨ps1, e⟩ := e
  obtain ⟨v, F', h1, h2, h3, h4⟩ := var_ok R e
  exact ⟨v, F', ps1, h1, h2, h3, h4⟩
theorem peek_val {Gc F H : Hp} {ps : Ps} {σ : St} {i : Nat} {d : D} (R : Rel C Gc F H ps σ) (h : peek ps i = some d) : ∃ v, σ[i]? = some (some v) := by
  obtain ⟨v, _, _, h1, _⟩ := peek_ok R h
  exact ⟨v, h1⟩
/-- an operator that tells a truth and changes nothing -/
def OpB (C : Mc) (f : D → D → Option Bool) (r : R2) : Prop := ∀ Gc F H ps σ v u x y b (Q : VK), Rel C Gc F H ps σ → Rp C F v x → Rp C F u y → f x y = some b → Q (.bl b) H → r v u H Q
def bEq (x y : D) : Option Bool := if (SeqAt.shaped x && SeqAt.shaped y) = true then some (PyData.eqv x y) else none
def bNe (x y : D) : Option Bool := if (SeqAt.shaped x && SeqAt.shaped y) = true then some (!PyData.eqv x y) else none
theorem ob_eq (hK : C.K = X.K) : OpB C bEq (rEqD X.K) := by
  intro Gc F H ps σ v u x y z Q R rx ry hz q
  unfold bEq at hz
  split at hz
  · rename_i h
    cases hz
    rw [Bool.and_eq_true] at h
    rw [← hK]
    exact ⟨x, y, rx.dp R.fh (lay_of h.1), ry.dp R.fh (lay_of h.2), h.1, h.2, q⟩
  · cases hz
theorem ob_ne (hK : C.K = X.K) : OpB C bNe (rNeD X.K) := by
  intro Gc F H ps σ v u x y z Q R rx ry hz q
  unfold bNe at hz
  split at hz
  · rename_i h
    cases hz
    rw [Bool.and_eq_true] at h
    rw [← hK]
    exact ⟨x, y, rx.dp R.fh (lay_of h.1), ry.dp R.fh (lay_of h.2), h.1, h.2, q⟩
  · cases hz
theorem ob_in (hK : C.K = X.K) : OpB C dInB (rInAll X.K) := fun Gc F H ps σ v u x y b Q R rx ry hz q => (in_any hK R rx ry hz fun _ _ _ _ => trivial).1 q
def bNotIn (x y : D) : Option Bool := (dInB x y).map (!·)
theorem ob_notIn (hK : C.K = X.K) : OpB C bNotIn (rNotInAll X.K) := fun Gc F H ps σ v u x y b Q R rx ry hz q => by
  obtain ⟨b', e1, e2⟩ := Option.map_eq_some_iff.mp hz
  subst e2
  exact (in_any hK R rx ry e1 fun _ _ _ _ => trivial).2 q
/-- left a name that is looked at -/
def mBL (f : D → D → Option Bool) (i : Nat) (b : ME) : ME := fun ps => match peek ps i with
  | none => .bad
  | some _ => (b ps).bind fun y ps1 => (Out.of ((peek ps1 i).bind fun x => f x y) ps1).bind fun k ps1 => .ok (.bool k) ps1
/-- right a name that is looked at -/
def mBR (f : D → D → Option Bool) (a : ME) (i : Nat) : ME := fun ps => (a ps).bind fun x ps1 => (Out.of ((peek ps1 i).bind fun y => f x y) ps1).bind fun k ps1 => .ok (.bool k) ps1
theorem bl_ok {f : D → D → Option Bool} {r : R2} {i : Nat} {mb : ME} (hm : OpB C f r) {σ : St} {H : Hp} {Q : VK} (h : tE C W (mBL f i mb) σ H Q) : tOp r (tVar i) (tE C W mb) σ H Q := by
  obtain ⟨Gc, F, ps, R, q⟩ := h
  unfold mBL at q
  cases z : peek ps i with
  | none => rw [z] at q; exact q.elim
  | some d0 =>
    rw [z] at q
    obtain ⟨v, hv⟩ := peek_val R z
    refine ⟨v, hv, seqE qE.mono R q fun y ps1 u F1 H1 s1 R1 r1 q1 => ?_⟩
    cases z2 : (peek ps1 i).bind fun x => f x y with
    | none => rw [z2] at q1; exact q1.elim
    | some b =>
      rw [z2] at q1
      obtain ⟨d, e1, e2⟩ := Option.bind_eq_some_iff.mp z2
      obtain ⟨v', F2, ps2, h1, h2, h3, h4⟩ := peek_ok R1 e1
      rw [hv] at h1
      cases h1
      exact hm Gc F2 H1 ps2 σ v u d y b Q h3 h4 (r1.mono h2) e2 (q1 _ F1 H1 (Same.refl _) R1 (.bl _))
theorem br_ok {f : D → D → Option Bool} {r : R2} {i : Nat} {ma : ME} (hm : OpB C f r) {σ : St} {H : Hp} {Q : VK} (h : tE C W (mBR f ma i) σ H Q) : tOp r (tE C W ma) (tVar i) σ H Q := by
  obtain ⟨Gc, F, ps, R, q⟩ := h
  refine seqE qE.mono R q fun x ps1 v F1 H1 s1 R1 r1 q1 => ?_
  cases z2 : (peek ps1 i).bind fun y => f x y with
  | none => rw [z2] at q1; exact q1.elim
  | some b =>
    rw [z2] at q1
    obtain ⟨d, e1, e2⟩ := Option.bind_eq_some_iff.mp z2
    obtain ⟨u, F2, ps2, h1, h2, h3, h4⟩ := peek_ok R1 e1
    exact ⟨u, h1, hm Gc F2 H1 ps2 σ v u x d b Q h3 (r1.mono h2) h4 e2 (q1 _ F1 H1 (Same.refl _) R1 (.bl _))⟩
theorem xcmpL {op : CmpOp} {f : D → D → Option Bool} {r : R2} {i : Nat} {mb : ME} (ho : OpR X (compareOp op) r) (hm : OpB C f r) (ha : PE X a (tVar i)) (hb : PE X b (tE C W mb)) (hk : behindInMarks op b = false := by rfl) : PE X (.Compare a [op] [b] pos) (tE C W (mBL f i mb)) :=
  pe_imp (pe_cmpR ho ha hb hk) fun _ _ _ h => bl_ok hm h
theorem xt_cmpL {op : CmpOp} {f : D → D → Option Bool} {r : R2} {i : Nat} {mb : ME} (ho : OpR X (compareOp op) r) (hm : OpB C f r) (ha : PE X a (tVar i)) (hb : PE X b (tE C W mb)) (hk : behindInMarks op b = false := by rfl) : PT X (.Compare a [op] [b] pos) (tT C W (mTst (mBL f i mb))) :=
  pt_imp (pt_cmpR ho ha hb hk) fun _ _ _ h => bl_ok hm (tst_ok h)
theorem xcmpR {op : CmpOp} {f : D → D → Option Bool} {r : R2} {i : Nat} {ma : ME} (ho : OpR X (compareOp op) r) (hm : OpB C f r) (ha : PE X a (tE C W ma)) (hb : PE X b (tVar i)) (hk : behindInMarks op b = false := by rfl) : PE X (.Compare a [op] [b] pos) (tE C W (mBR f ma i)) :=
  pe_imp (pe_cmpR ho ha hb hk) fun _ _ _ h => br_ok hm h
theorem xt_cmpR {op : CmpOp} {f : D → D → Option Bool} {r : R2} {i : Nat} {ma : ME} (ho : OpR X (compareOp op) r) (hm : OpB C f r) (ha : PE X a (tE C W ma)) (hb : PE X b (tVar i)) (hk : behindInMarks op b = false := by rfl) : PT X (.Compare a [op] [b] pos) (tT C W (mTst (mBR f ma i))) :=
  pt_imp (pt_cmpR ho ha hb hk) fun _ _ _ h => br_ok hm (tst_ok h)
/-- x[i], x a name that is looked at -/
def mIxV (i : Nat) (b : ME) : ME := fun ps => match peek ps i with
  | none => .bad
  | some _ => (b ps).bind fun y ps1 => .of ((peek ps1 i).bind fun x => dIx x y) ps1
/-- x[y] where the heap is looked at as it stands -/
theorem ix_core (hK : C.K = X.K) {F H : Hp} {v u : V} {x y z : D} {Q : VK} (fh : Same F H) (rx : Rp C F v x) (ru : Rp C F u y) (hz : dIx x y = some z) (q : ∀ w, Rp C F w z → Q w H) : rIxAll X.K v u H Q := by
  cases x with
  | list ds =>
    cases y with
    | int i =>
      cases rx with
      | lst h r =>
        cases ru
        obtain ⟨w, h1, h2⟩ := r.atI (i := i) (d := z) hz
        exact .inl (.inl ⟨_, _, i, w, rfl, rfl, SqL.of (fh _ _ h), h1, q w h2⟩)
    | _ => cases hz
  | tuple ds =>
    cases y with
    | int i =>
      cases rx with
      | tup h r =>
        cases ru
        obtain ⟨w, h1, h2⟩ := r.atI (i := i) (d := z) hz
        exact .inl (.inr (.inl ⟨_, _, i, w, rfl, rfl, by rw [← hK]; exact sqT_mono fh h, h1, q w h2⟩))
    | _ => cases hz
  | str t =>
    cases y with
    | int i =>
      cases rx; cases ru
      unfold dIx at hz
      dsimp only at hz
      split at hz
      · rename_i hl
        obtain ⟨c, h1, h2⟩ := Option.map_eq_some_iff.mp hz
        subst h2
        exact .inl (.inr (.inr ⟨t, i, c, rfl, rfl, hl, h1, q _ (.str _)⟩))
      · cases hz
    | _ => cases hz
  | dict kvs =>
    unfold dIx at hz
    dsimp only at hz
    split at hz
    · cases hz
    · rename_i h
      obtain ⟨k, e1, e2⟩ := Option.bind_eq_some_iff.mp hz
      have ex := kD_of e1
      subst ex
      have ev := rp_kD ru
      subst ev
      cases rx with
      | dct h1 h2 h3 =>
        rcases look_find h2 h3 k with ⟨c1, c2⟩ | ⟨y, d, c1, c2, c3⟩
        · rw [c2] at e2; cases e2
        · rw [c2] at e2; cases e2
          exact .inr ⟨_, y, rfl, by rw [← c1]; exact DGet.k (fh _ _ h1), q y c3⟩
      | deck h1 => simp [toKey] at h
  | _ => cases hz
theorem ix_peek (hK : C.K = X.K) {Gc F H : Hp} {ps : Ps} {σ : St} {i : Nat} {v u : V} {y z : D} {Q : VK} (R : Rel C Gc F H ps σ) (hv : σ[i]? = some (some v)) (ru : Rp C F u y) (h : ((peek ps i).bind fun x => dIx x y) = some z)
    (q : ∀ w, Rp C F w z → Q w H) : rIxAll X.K v u H Q := by
  obtain ⟨d, e1, e2⟩ := Option.bind_eq_some_iff.mp h
  unfold peek at e1
  cases es : ps.sl[i]? with
  | none => rw [es] at e1; cases e1
  | some s =>
    rw [es] at e1
    have zz := R.sl i s es
    rw [hv] at zz
    cases s with
    | no => cases e1
    | fz d' =>
      cases e1
      obtain ⟨x, h1, h2⟩ := zz
      cases h1
      exact ix_core hK R.fh h2 ru e2 q
    | ml ds =>
      cases e1
      obtain ⟨p, xs, h1, h2, h3, h4, h5⟩ := zz
      cases h1
      cases y with
      | int j =>
        cases ru
        obtain ⟨w, g1, g2⟩ := h5.atI (i := j) (d := z) e2
        exact .inl (.inl ⟨_, _, j, w, rfl, rfl, SqL.of h2, g1, q w g2⟩)
      | _ => cases e2
    | md ds =>
      cases e1
      obtain ⟨p, xs, h1, h2, h3, h4, h5, h6⟩ := zz
      cases h1
      unfold dIx at e2
      dsimp only at e2
      split at e2
      · cases e2
      · obtain ⟨k, e1, e3⟩ := Option.bind_eq_some_iff.mp e2
        have ex := kD_of e1
        subst ex
        have ev := rp_kD ru
        subst ev
        have k1 : (ds.map fun p => (kD p.1, p.2)).map (·.2) = ds.map (·.2) := by rw [List.map_map]; rfl
        have k2 : (ds.map fun p => (kD p.1, p.2)).map (·.1) = xs.map fun p => kD p.1 := by
          have q2 : (ds.map (·.1)).map kD = (xs.map (·.1)).map kD := by rw [h6]
          rw [List.map_map, List.map_map] at q2
          rw [List.map_map]
          exact q2
        rcases look_find (by rw [k1]; exact h5) k2 k with ⟨c1, c2⟩ | ⟨y, d, c1, c2, c3⟩
        · rw [c2] at e3; cases e3
        · rw [c2] at e3; cases e3
          exact .inr ⟨_, y, rfl, by rw [← c1]; exact DGet.k h2, q y c3⟩
theorem xixV {i : Nat} {mb : ME} (hu : X.A.units + 1 < cLine) (hK : C.K = X.K) (ha : PE X a (tVar i)) (hb : PE X b (tE C W mb)) (hs : PlainIx b) : PE X (.Subscript a b pos) (tE C W (mIxV i mb)) :=
  pe_imp (pe_ix (ix_all hu) ha hb hs) fun σ H Q ⟨Gc, F, ps, R, q⟩ => by
    unfold mIxV at q
    cases z : peek ps i with
    | none => rw [z] at q; exact q.elim
    | some d0 =>
      rw [z] at q
      obtain ⟨v, hv⟩ := peek_val R z
      refine ⟨v, hv, seqE qE.mono R q fun y ps1 u F1 H1 s1 R1 r1 q1 => ?_⟩
      cases z2 : (peek ps1 i).bind fun x => dIx x y with
      | none => rw [z2] at q1; exact q1.elim
      | some d =>
        rw [z2] at q1
        exact ix_peek hK R1 hv r1 z2 fun w rw' => q1 w F1 H1 (Same.refl _) R1 rw'
/-- len of a name that is looked at -/
def mLenV (i : Nat) : ME := fun ps => .of ((peek ps i).bind fun x => dLen [x]) ps
theorem xlenV {i : Nat} (hK : C.K = X.K) (hg : Gl X "len") (hn : X.mg "len" = none) (ha : PE X e (tVar i)) (he : starEach (e :: []) X.env = (false, eval e X.env) :: starEach [] X.env := by rfl) (hpl : (backTo pos (starEach [] X.env)).any (·.1) = false := by rfl) :
    PE X (.Call (.Name "len" p) [e] [] pos) (tE C W (mLenV i)) :=
  pe_imp (pe_callB call_len hg hn PySem.boot_len (pa_cons ha pa_nil he) (by decide) (by decide) he hpl) fun σ H Q ⟨Gc, F, ps, R, q⟩ => by
    unfold mLenV at q
    cases z : (peek ps i).bind fun x => dLen [x] with
    | none => rw [z] at q; exact q.elim
    | some d =>
      rw [z] at q
      obtain ⟨x, e1, e2⟩ := Option.bind_eq_some_iff.mp z
      obtain ⟨v, F1, ps1, h1, h2, h3, h4⟩ := peek_ok R e1
      refine ⟨v, h1, ?_⟩
      cases x with
      | list ds =>
        cases e2
        cases h4 with
        | lst g r => exact ⟨_, ds.length, rfl, .inl ⟨_, SqL.of (h3.fh _ _ g), r.length.symm⟩, q _ F H (Same.refl _) R (.int _)⟩
      | tuple ds =>
        cases e2
        cases h4 with
        | tup g r => exact ⟨_, ds.length, rfl, .inr ⟨_, by rw [← hK]; exact sqT_mono h3.fh g, r.length.symm⟩, q _ F H (Same.refl _) R (.int _)⟩
      | str t =>
        cases h4
        unfold dLen at e2
        dsimp only at e2
        split at e2
        · rename_i hl
          cases e2
          exact ⟨_, t.length, rfl, ⟨hl, rfl⟩, q _ F H (Same.refl _) R (.int _)⟩
        · cases e2
      | _ => cases e2
/-- x.append(e) -/
def mAppend (i : Nat) (a : ME) : ME := fun ps => match ps.sl[i]? with
  | some (.ml _) => (a ps).bind fun d ps1 => match ps1.sl[i]? with
    | some (.ml ds) => if ds.length < sizeLine then .ok .none (ps1.setS i (.ml (ds ++ [d]))) else .bad
    | _ => .bad
  | _ => .bad
theorem ml_at {Gc F H : Hp} {ps : Ps} {σ : St} {i : Nat} {ds : List D} (R : Rel C Gc F H ps σ) (h : ps.sl[i]? = some (.ml ds)) : ∃ p xs, σ[i]? = some (some (.ref p)) ∧ H p = some (.lst xs) ∧ F p = none ∧ Gc p = none ∧ RpA C F xs ds := R.sl i _ h
theorem append_ok {i : Nat} {ma : ME} {σ : St} {H : Hp} {Q : VK} (h : tE C W (mAppend i ma) σ H Q) : tBM X.K "list" rAppend (tVar i) (tCons (tE C W ma) tNil) σ H Q := by
  obtain ⟨Gc, F, ps, R, q⟩ := h
  unfold mAppend at q
  cases es : ps.sl[i]? with
  | none => rw [es] at q; exact q.elim
  | some s =>
    rw [es] at q
    cases s with
    | ml d0 =>
      obtain ⟨p, xs, h1, h2, _⟩ := ml_at R es
      refine ⟨.ref p, h1, .inl ⟨rfl, xs, SqL.of h2⟩, ?_⟩
      show tE C W ma σ H fun x H1 => rAppend (.ref p) [x] H1 Q
      refine seqE qE.mono R q fun d ps1 v F1 H1 s1 R1 r1 q1 => ?_
      cases es2 : ps1.sl[i]? with
      | none => rw [es2] at q1; exact q1.elim
      | some s2 =>
        rw [es2] at q1
        cases s2 with
        | ml ds =>
          obtain ⟨p', ys, g1, g2, g3, g4, g5⟩ := ml_at R1 es2
          rw [h1] at g1
          cases g1
          dsimp only at q1
          by_cases hl : ds.length < sizeLine
          · rw [if_pos hl] at q1
            refine ⟨p, ys, v, rfl, rfl, g2, by rw [g5.length]; exact hl, q1 _ F1 _ (Same.refl _) ?_ .non⟩
            exact R1.mutate es2 rfl h1 g3 g4 rfl ⟨p, _, rfl, upd_same, g3, g4, g5.append (.cons r1 .nil)⟩
          · rw [if_neg hl] at q1; exact q1.elim
        | _ => exact q1.elim
    | _ => exact q.elim
theorem xappend {i : Nat} {ma : ME} (ho : PE X o (tVar i)) (ha : PE X e (tE C W ma))
    (hbase : attributeBase o "append" X.env (eval o X.env) = eval o X.env := by rfl)
    (hfew : ((backTo cpos (starEach (e :: []) X.env)).all (fun x => !x.1) && (backToKw cpos (keywordEach [] X.env)).all (fun x => x.1.isSome)
      && decide ((e :: ([] : List Expr)).length + ([] : List Keyword).length + (if ([] : List Keyword).isEmpty then 0 else 1) < 30)) = true := by rfl)
    (hline : (apos.endLine == cpos.line) = true := by rfl) (hs : starEach (e :: []) X.env = (false, eval e X.env) :: starEach [] X.env := by rfl) (hplain : (backTo cpos (starEach [] X.env)).any (·.1) = false := by rfl) :
    PE X (.Call (.Attribute o "append" apos) [e] [] cpos) (tE C W (mAppend i ma)) :=
  pe_imp (pe_bm PySem.F.plainAttrs_list PySem.F.slot_list_append PySem.F.type_list_append mt_append ho (pa_cons ha pa_nil hs) hbase hfew hline hs hplain) fun _ _ _ h => append_ok h
/-- x.pop() -/
def mPop (i : Nat) : ME := fun ps => match ps.sl[i]? with
  | some (.ml ds) => match ds.getLast? with
    | some d => .ok d (ps.setS i (.ml ds.dropLast))
    | none => .bad
  | _ => .bad
theorem pop_ok {i : Nat} {σ : St} {H : Hp} {Q : VK} (h : tE C W (mPop i) σ H Q) : tBM0 X.K "list" rPop (tVar i) σ H Q := by
  obtain ⟨Gc, F, ps, R, q⟩ := h
  unfold mPop at q
  cases es : ps.sl[i]? with
  | none => rw [es] at q; exact q.elim
  | some s =>
    rw [es] at q
    cases s with
    | ml ds =>
      dsimp only at q
      obtain ⟨p, xs, h1, h2, h3, h4, h5⟩ := ml_at R es
      cases el : ds.getLast? with
      | none => rw [el] at q; exact q.elim
      | some d =>
        rw [el] at q
        rw [List.getLast?_eq_getElem?] at el
        obtain ⟨v, g1, g2⟩ := h5.get' el
        rw [← h5.length] at g1
        refine ⟨.ref p, h1, .inl ⟨rfl, xs, SqL.of h2⟩, p, xs, v, rfl, rfl, h2, g1, q v F _ (Same.refl _) ?_ g2⟩
        exact R.mutate es rfl h1 h3 h4 rfl ⟨p, _, rfl, upd_same, h3, h4, h5.dropLast⟩
    | _ => exact q.elim
theorem xpop {i : Nat} (ho : PE X o (tVar i)) (hbase : attributeBase o "pop" X.env (eval o X.env) = eval o X.env := by rfl) (hline : (apos.endLine == cpos.line) = true := by rfl) : PE X (.Call (.Attribute o "pop" apos) [] [] cpos) (tE C W (mPop i)) :=
  pe_imp (pe_bm0 PySem.F.plainAttrs_list PySem.F.slot_list_pop PySem.F.type_list_pop mt_pop ho hbase hline) fun _ _ _ h => pop_ok h
/-! ### dicts of our own -/
def putD (kvs : List (Key × D)) (k : Key) (v : D) : List (Key × D) :=
  if (kvs.any fun kv => decide (kv.1 = k)) = true then kvs.map (fun kv => if kv.1 = k then (kv.1, v) else kv) else kvs ++ [(k, v)]
theorem put_rel {F : Hp} {k : Key} {y : V} {d : D} (ry : Rp C F y d) : ∀ {kvs : List (Key × V)} {ds : List (Key × D)}, RpA C F (kvs.map (·.2)) (ds.map (·.2)) → ds.map (·.1) = kvs.map (·.1) →
    RpA C F ((putK kvs k y).map (·.2)) ((putD ds k d).map (·.2)) ∧ (putD ds k d).map (·.1) = (putK kvs k y).map (·.1) := by
  intro kvs ds r e
  have ea : ∀ {kvs : List (Key × V)} {ds : List (Key × D)}, ds.map (·.1) = kvs.map (·.1) → (ds.any fun kv => decide (kv.1 = k)) = (kvs.any fun kv => decide (kv.1 = k)) := by
    intro kvs ds e
    have e1 : (ds.any fun kv => decide (kv.1 = k)) = (ds.map (·.1)).any fun z => decide (z = k) := by rw [List.any_map]; rfl
    have e2 : (kvs.any fun kv => decide (kv.1 = k)) = (kvs.map (·.1)).any fun z => decide (z = k) := by rw [List.any_map]; rfl
    rw [e1, e2, e]
  unfold putK putD
  rw [ea e]
  by_cases c : (kvs.any fun kv => decide (kv.1 = k)) = true
  · rw [if_pos c, if_pos c]
    clear c ea
    induction kvs generalizing ds with
    | nil =>
      cases ds with
      | nil => exact ⟨.nil, rfl⟩
      | cons q ds => cases r
    | cons p kvs ih =>
      cases ds with
      | nil => cases r
      | cons q ds =>
        rw [List.map_cons, List.map_cons] at r e
        injection e with e1 e2
        cases r with
        | cons r1 r2 =>
          obtain ⟨i1, i2⟩ := ih r2 e2
          rw [List.map_cons, List.map_cons, List.map_cons, List.map_cons, List.map_cons, List.map_cons, e1]
          by_cases h : p.1 = k
          · rw [if_pos h, if_pos h]; exact ⟨.cons ry i1, by rw [i2]⟩
          · rw [if_neg h, if_neg h]; exact ⟨.cons r1 i1, by rw [i2, e1]⟩
  · rw [if_neg c, if_neg c, List.map_append, List.map_append, List.map_append, List.map_append, e]
    exact ⟨r.append (.cons ry .nil), rfl⟩
/-- x[k] = v, x a dict of our own -/
def mPut (i : Nat) (mk mv : ME) : MS := fun ps => (mv ps).bindS fun v ps1 => match ps1.sl[i]? with
  | some (.md _) => (mk ps1).bindS fun y ps2 => match ps2.sl[i]? with
    | some (.md kvs) => match toKey y with
      | some k => if kvs.length < sizeLine then .next (ps2.setS i (.md (putD kvs k v))) else .bad
      | none => .bad
    | _ => .bad
  | _ => .bad
theorem md_at {Gc F H : Hp} {ps : Ps} {σ : St} {i : Nat} {ds : List (Key × D)} (R : Rel C Gc F H ps σ) (h : ps.sl[i]? = some (.md ds)) : ∃ p kvs, σ[i]? = some (some (.ref p)) ∧ H p = some (.dK kvs) ∧ F p = none ∧ Gc p = none ∧ RpA C F (kvs.map (·.2)) (ds.map (·.2)) ∧ ds.map (·.1) = kvs.map (·.1) := R.sl i _ h
theorem xs_put {i : Nat} {mk mv : ME} {kx value : Expr} {pos' : Pos} (hu : X.A.units + 1 < cLine) (ho : PE X o (tVar i)) (hk : PE X kx (tE C W mk)) (hv : PE X value (tE C W mv)) (hs : swapsWith value (some (.Subscript o kx pos')) pos.line X.env = pure false := by rfl) :
    PS X (.Assign [.Subscript o kx pos'] value pos) (tS C W (mPut i mk mv)) :=
  ps_imp (ps_dput hu ho hk hv hs) fun D σ H ⟨Gc, F, ps, R, q⟩ => by
    refine seqES R q fun v ps1 vv F1 H1 s1 R1 r1 q1 => ?_
    cases es : ps1.sl[i]? with
    | none => rw [es] at q1; exact q1.elim
    | some s =>
      rw [es] at q1
      cases s with
      | md d0 =>
        obtain ⟨p, kvs0, h1, h2, _⟩ := md_at R1 es
        refine ⟨.ref p, h1, seqES R1 q1 fun y ps2 yv F2 H2 s2 R2 r2 q2 => ?_⟩
        cases es2 : ps2.sl[i]? with
        | none => rw [es2] at q2; exact q2.elim
        | some s2' =>
          rw [es2] at q2
          cases s2' with
          | md ds =>
            obtain ⟨p', kvs, g1, g2, g3, g4, g5, g6⟩ := md_at R2 es2
            rw [h1] at g1
            cases g1
            dsimp only at q2
            cases ek : toKey y with
            | none => rw [ek] at q2; exact q2.elim
            | some k =>
              rw [ek] at q2
              dsimp only at q2
              by_cases hl : ds.length < sizeLine
              · rw [if_pos hl] at q2
                have ex := kD_of ek
                subst ex
                have ev := rp_kD r2
                subst ev
                have el : kvs.length = ds.length := by have := congrArg List.length g6; simpa using this.symm
                obtain ⟨n1, n2⟩ := put_rel (k := k) (r1.mono s2) g5 g6
                refine ⟨p, _, rfl, DPut.k g2 (by rw [el]; exact hl), q2 _ F2 _ (Same.refl _) ?_⟩
                exact R2.mutate es2 rfl h1 g3 g4 rfl ⟨p, _, rfl, upd_same, g3, g4, n1, n2⟩
              · rw [if_neg hl] at q2; exact q2.elim
          | _ => exact q2.elim
      | _ => exact q1.elim
end
end MM
/-! ### sorted of a tuple -/
namespace SrtO
open PySem PyProof.Rows Srt
section
variable {prog : Program} {w : World} {A : Around} {E : Value → Shared → Prop} {s : Shared}
theorem collected_tuple {l : Addr} {vs : List Value} {Q : List Value → Shared → Prop} (hl : IsTup s.heap l vs.toArray)
    (h : Q vs { s with heap := (s.heap.push (seqObj "list" #[] 0)).update s.heap.objs.size (Obj.mapSeq (· ++ vs.toArray)) }) (hsz : vs.length ≤ sizeLine) :
    wpAny (model prog w) A (collect (.ref l)) Q E s := by
  obtain ⟨o, ho, hc, n, hd⟩ := id hl
  unfold collect
  refine wpAny_bind (wpAny_runValue (codeAny_builtin PyProof.Rows.entry_proto_collect' ?_))
  show wpAny _ _ (do again (.builtin "list.__iadd__" ⟨[← newList [], .ref l], []⟩)) _ _ s
  refine wpAny_bind (wpAny_newList (wpAny_pure ⟨Code.quiet_builtin _ (by decide +kernel),
    codeAny_builtin PyProof.Rows.entry_list_iadd' ?_⟩))
  show wpAny _ _ (Builtin.List.listExtendWith (.ref s.heap.objs.size) (.ref l) (.ref s.heap.objs.size)) _ _ { s with heap := s.heap.push (seqObj "list" #[] 0) }
  unfold Builtin.List.listExtendWith
  have ho' : (s.heap.push (seqObj "list" #[] 0)).get? l = some o := Heap.get?_push_of_some _ ho
  refine wpAny_bind (wpAny_typeOf (T := "tuple") ⟨o, ho', hc⟩ ?_)
  have ht : (Value.type "tuple" == Value.type "tuple") = true := by rfl
  rw [if_pos (by rw [ht]; simp)]
  refine wpAny_bind (listItems_at ho' hd ?_)
  refine wpAny_bind (listItems_at (xs := #[]) (n := 0)
    (Heap.get?_push_size _ rfl) rfl ?_)
  rw [if_neg (by simp)]
  refine wpAny_bind (listUpdate_at (xs := #[]) (n := 0) (Heap.get?_push_size _ rfl) rfl ?_
    (Nat.zero_le _) (by show (#[] ++ vs.toArray).size ≤ sizeLine + 1; simp only [Array.size_append, List.size_toArray, List.length_nil]; omega))
  refine wpAny_pure ?_
  show wpAny (model prog w) A (do
      let o ← load s.heap.objs.size
      match o.data with
      | .seq xs _ => pure xs.toList
      | _ => unsupported "internal:collect") Q E { s with heap := (s.heap.push (seqObj "list" #[] 0)).update s.heap.objs.size (Obj.mapSeq (· ++ vs.toArray)) }
  refine wpAny_bind (wpAny_load (get?_update_seq (Heap.get?_push_size _ rfl) _) ?_)
  show wpAny _ _ (pure ((#[] : Array Value) ++ vs.toArray).toList) Q E _
  rw [show ((#[] : Array Value) ++ vs.toArray).toList = vs by simp]
  exact wpAny_pure h
theorem sorted_tup {l : Addr} {vs : List Value} {ltv : Value → Value → Bool} {Q : Value → Shared → Prop} (O : Swo ltv) (hl : IsTup s.heap l vs.toArray) (hz : vs.length ≤ sizeLine)
    (hS : 2 ≤ vs.length → ∀ (h₁ : Heap) (a : Addr), h₁.get? a = some (seqObj "list" vs.toArray 0) → (∀ b o, s.heap.get? b = some o → b ≠ a ∧ h₁.get? b = some o) → SortableO prog w A.in1.in1 { s with heap := h₁ } a vs ltv)
    (h : ∀ out : List Value, Srtd ltv out → Stb ltv out vs → Q (.ref (s.heap.objs.size + 1)) { s with heap := sortedAll s.heap vs out.toArray }) :
    wpAny (model prog w) A (call (.builtin "sorted") [.ref l]) Q E s := by
  refine Calls.call_function_entry kind_sorted plain_sorted entry_sorted (args_sorted1 _) ?_
  unfold Builtin.«sorted»
  refine wpAny_bind (m := checkCount "sorted" 1 1 _) (wpAny_pure ?_)
  refine wpAny_bind (collected_tuple hl ?_ hz)
  refine wpAny_bind (wpAny_newList ?_ hz)
  have hsz : ((s.heap.push (seqObj "list" #[] 0)).update s.heap.objs.size (Obj.mapSeq (· ++ vs.toArray))).objs.size = s.heap.objs.size + 1 := by
    rw [Heap.size_update, size_push']
  have hoL : (((s.heap.push (seqObj "list" #[] 0)).update s.heap.objs.size (Obj.mapSeq (· ++ vs.toArray))).push (seqObj "list" vs.toArray 0)).get? (s.heap.objs.size + 1) = some (seqObj "list" vs.toArray 0) := by
    rw [← hsz]; exact Heap.get?_push_size _ rfl
  have keep : ∀ b o, s.heap.get? b = some o → b ≠ s.heap.objs.size + 1 ∧ (((s.heap.push (seqObj "list" #[] 0)).update s.heap.objs.size (Obj.mapSeq (· ++ vs.toArray))).push (seqObj "list" vs.toArray 0)).get? b = some o := fun b o q => by
    have hlt : b < s.heap.objs.size := Heap.lt_size q
    refine ⟨Nat.ne_of_lt (Nat.lt_succ_of_lt hlt), Heap.get?_push_of_some _ ?_⟩
    rw [Heap.get?_update_ne _ _ _ _ (Nat.ne_of_lt hlt)]
    exact Heap.get?_push_of_some _ q
  show wpAny _ _ _ _ _ { s with heap := ((s.heap.push (seqObj "list" #[] 0)).update s.heap.objs.size (Obj.mapSeq (· ++ vs.toArray))).push (seqObj "list" vs.toArray 0) }
  rw [hsz]
  refine wpAny_bind (wpAny_holding (wpAny_call_entry slot_list_sort ⟨_, hoL, rfl⟩ entry_list_sort
    (list_sort_ord O hoL hz (fun h2 => hS h2 _ _ hoL keep) fun out hs hb => ⟨_, rfl, ?_⟩) (args_list_sort _)))
  exact wpAny_pure ⟨_, rfl, h out hs hb⟩
end
end SrtO
namespace MM
open PySem PySem.Spec PyProof.Rows L2
section
variable {X : Cx} {C : Mc} {W : WX} {a b c e o : Expr} {es : List Expr} {pos p : Pos}
def rSortedJ (K : PySem.W.Frag) : List V → Hp → VK → Prop := fun vs H Q => ∃ (a : Addr) (ns : List Int), vs = [V.ref a] ∧ SqT K H a (ns.map V.int) ∧
  ∀ (ns' : List Int) (p : Addr), ns'.Perm ns → ns'.Pairwise (· ≤ ·) → H p = none → Q (.ref p) (upd H p (.lst (ns'.map V.int)))
theorem cr_sortedJ : CallR X (.builtin "sorted") (rSortedJ X.K) := by
  intro pins s σ H vs us Q I r h
  obtain ⟨a, ns, rfl, hs, q⟩ := h
  obtain ⟨its, rv, hl, hz⟩ := I.tuple hs
  rw [Vals.ref1 r]
  have hi := rv.ints
  refine SrtO.sorted_tup SrtO.swo_int hl (by rw [← rv.length]; exact hz)
    (fun h2 h₁ a' _ _ => SrtO.ints_sortable hi h2) fun out h1 h2 => ?_
  obtain ⟨k1, k2, k3⟩ := SrtO.ints_out hi h1 h2
  obtain ⟨ep, he'⟩ := PyProof.Rows.sortedAll_at s.heap its out.toArray
  have hlen : ((out.map SrtO.iv).map V.int).length ≤ sizeLine := by
    rw [List.length_map, k2.length_eq]
    rw [List.length_map] at hz
    exact hz
  exact ⟨.ref _, upd H (s.heap.objs.size + 1) (.lst ((out.map SrtO.iv).map V.int)), I.laid (t' := s.toks) (fun _ _ => PyProof.Rows.sortedAll_old)
    (Nat.le_succ _) ⟨hlen, out, ep, vals_of_ints k1, he'⟩, rfl, q _ _ k2 k3 (I.hok.fresh (Nat.le_succ _))⟩
/-- the ints, rising -/
def sortI (ns : List Int) : List Int := ns.mergeSort (fun a b => decide (a ≤ b))
theorem sortI_eq {ns ns' : List Int} (h : ns'.Perm ns) (o : ns'.Pairwise (· ≤ ·)) : ns' = sortI ns := by
  refine PySem.W.ksm_same (h.trans (List.mergeSort_perm ns _).symm) o ?_
  have z := List.pairwise_mergeSort (le := fun a b : Int => decide (a ≤ b)) (fun a b c h1 h2 => by
    have := of_decide_eq_true h1; have := of_decide_eq_true h2; exact decide_eq_true (by omega)) (fun a b => by
    by_cases h : a ≤ b
    · simp [h]
    · have : b ≤ a := by omega
      simp [this]) ns
  exact z.imp fun h => of_decide_eq_true h
def dSorted : List D → Option D
  | [.list ds] => (intsOf ds).map fun ns => .list ((sortI ns).map .int)
  | [.tuple ds] => (intsOf ds).map fun ns => .list ((sortI ns).map .int)
  | _ => none
theorem cm_sorted (hK : C.K = X.K) : CallM C dSorted (fun vs H Q => rSortedI X.K vs H Q ∨ rSortedJ X.K vs H Q) := by
  intro Gc F H ps σ vs ds z Q R r hz q
  have hf : ∀ p, H p = none → F p = none := fun p n => R.fh.free n
  match ds, r with
  | [.list ds], .cons (.lst h r1) .nil =>
    obtain ⟨ns, e1, e2⟩ := Option.map_eq_some_iff.mp hz
    subst e2
    have e0 := intsOf_eq e1
    subst e0
    have e := r1.ints
    subst e
    refine .inl ⟨_, ns, rfl, SqL.of (R.fh _ _ h), fun ns' p h1 h2 n => ?_⟩
    rw [sortI_eq h1 h2]
    exact q _ _ _ (same_alloc (hf p n)) (R.alloc n) (.lst upd_same (RpA.of_ints _))
  | [.tuple ds], .cons (.tup h r1) .nil =>
    obtain ⟨ns, e1, e2⟩ := Option.map_eq_some_iff.mp hz
    subst e2
    have e0 := intsOf_eq e1
    subst e0
    have e := r1.ints
    subst e
    refine .inr ⟨_, ns, rfl, by rw [← hK]; exact sqT_mono R.fh h, fun ns' p h1 h2 n => ?_⟩
    rw [sortI_eq h1 h2]
    exact q _ _ _ (same_alloc (hf p n)) (R.alloc n) (.lst upd_same (RpA.of_ints _))
theorem xsorted {x : Str} {ma : MA} (hK : C.K = X.K) (hg : Gl X x) (hn : X.mg x = none) (hv : bootBuiltins x = some (.builtin "sorted")) (ha : PA X (e :: es) (tA C W ma)) (hnn : x ≠ "__name__" := by decide) (hdb : (x == ("__debug__" : Str)) = false := by decide)
    (he : starEach (e :: es) X.env = (false, eval e X.env) :: starEach es X.env := by rfl) (hpl : (backTo pos (starEach es X.env)).any (·.1) = false := by rfl) : PE X (.Call (.Name x p) (e :: es) [] pos) (tE C W (mB dSorted ma)) :=
  xcallB (cr_sortedI.or cr_sortedJ) (cm_sorted hK) hg hn hv ha hnn hdb he hpl
/-! ### kinds -/
def tyN : D → String
  | .none => "NoneType"
  | .bool _ => "bool"
  | .int _ => "int"
  | .str _ => "str"
  | .list _ => "list"
  | .tuple _ => "tuple"
  | .dict _ => "dict"
def isDeck : D → Bool
  | .dict [(.bool true, .none)] => true
  | _ => false
theorem isDeck_eq {d : D} (h : isDeck d = true) : d = deckD := by
  unfold isDeck at h
  split at h
  · rfl
  · cases h
theorem tyX_of (hK : C.K = X.K) {F H : Hp} {ps : Ps} {Gc : Hp} {σ : St} (R : Rel C Gc F H ps σ) {v : V} {d : D} (r : Rp C F v d) (nd : isDeck d = false) : TyX X.K H v (.type (tyN d)) := by
  cases r with
  | non => exact .base .non
  | bl b => exact .base (.bl b)
  | int i => exact .base (.int i)
  | str x => exact .base (.str x)
  | lst h _ => exact .base (.lst (R.fh _ _ h))
  | tup h _ =>
    rw [← hK]
    rcases sqT_mono R.fh h with (h | ⟨o, h⟩) | ⟨o, its, n, h1, h2, _⟩
    · exact .base (.tup h)
    · exact .fTuple h
    · exact .kTuple h1 h2
  | dct h _ _ => exact .base (.dK (R.fh _ _ h))
  | deck h => cases nd
/-- the kinds that T takes -/
structure KindOk (T : String) (f : D → Bool) : Prop where
  ok : ∀ d : D, kitB (tyN d) T = some (f d)
def isTup : D → Bool
  | .tuple _ => true
  | _ => false
def isLst : D → Bool
  | .list _ => true
  | _ => false
def isIntB : D → Bool
  | .int _ => true
  | .bool _ => true
  | _ => false
def isBool : D → Bool
  | .bool _ => true
  | _ => false
def isStr : D → Bool
  | .str _ => true
  | _ => false
def isDct : D → Bool
  | .dict _ => true
  | _ => false
theorem k_tuple : KindOk "tuple" isTup := ⟨fun d => by cases d <;> (dsimp only [tyN, isTup]; decide +kernel)⟩
theorem k_list : KindOk "list" isLst := ⟨fun d => by cases d <;> (dsimp only [tyN, isLst]; decide +kernel)⟩
theorem k_int : KindOk "int" isIntB := ⟨fun d => by cases d <;> (dsimp only [tyN, isIntB]; decide +kernel)⟩
theorem k_bool : KindOk "bool" isBool := ⟨fun d => by cases d <;> (dsimp only [tyN, isBool]; decide +kernel)⟩
theorem k_str : KindOk "str" isStr := ⟨fun d => by cases d <;> (dsimp only [tyN, isStr]; decide +kernel)⟩
theorem k_dict : KindOk "dict" isDct := ⟨fun d => by cases d <;> (dsimp only [tyN, isDct]; decide +kernel)⟩
def mIsi (f : D → Bool) (a : ME) : ME := fun ps => (a ps).bind fun x ps1 => if isDeck x = true then .bad else .ok (.bool (f x)) ps1
theorem xisi {ma : ME} {T : String} {y : Str} {p2 : Pos} {f : D → Bool} (hK : C.K = X.K) (kf : KindOk T f) (hg : Gl X "isinstance") (hn : X.mg "isinstance" = none) (hg2 : Gl X y) (hn2 : X.mg y = none) (hv : bootBuiltins y = some (.type T)) (ha : PE X e (tE C W ma))
    (h1 : y ≠ "__name__" := by decide) (h2 : (y == ("__debug__" : Str)) = false := by decide)
    (hs2 : starEach (.Name y p2 :: []) X.env = (false, eval (.Name y p2) X.env) :: starEach [] X.env := by rfl)
    (he : starEach (e :: [.Name y p2]) X.env = (false, eval e X.env) :: starEach [.Name y p2] X.env := by rfl) (hpl : (backTo pos (starEach [.Name y p2] X.env)).any (·.1) = false := by rfl) :
    PE X (.Call (.Name "isinstance" p) [e, .Name y p2] [] pos) (tE C W (mIsi f ma)) :=
  pe_imp (pe_callB call_isi hg hn (by decide +kernel) (pa_cons ha (pa_cons (pe_bltn (v := .ty T) hg2 hn2 hv rfl h1 h2) pa_nil hs2) he) (by decide) (by decide) he hpl) fun σ H Q ⟨Gc, F, ps, R, q⟩ =>
    seqE qE.mono R q fun x ps1 v F1 H1 s1 R1 r1 q1 => by
      by_cases hd : isDeck x = true
      · rw [if_pos hd] at q1; exact q1.elim
      · rw [if_neg hd] at q1
        exact ⟨v, .ty T, .type (tyN x), .type T, f x, rfl, .ty T, tyX_of hK R1 r1 (by simpa using hd), kit_ty (kf.ok x), q1 _ F1 H1 (Same.refl _) R1 (.bl _)⟩
/-! ### zip, enumerate -/
def zipD (xs ys : List D) : List D := (xs.zip ys).map fun p => .tuple [p.1, p.2]
theorem zipD_len (xs ys : List D) : (zipD xs ys).length = min xs.length ys.length := by simp [zipD]
theorem zipD_get {xs ys : List D} {i : Nat} {d : D} (h : (zipD xs ys)[i]? = some d) : ∃ x y, xs[i]? = some x ∧ ys[i]? = some y ∧ d = .tuple [x, y] := by
  unfold zipD at h
  rw [List.getElem?_map] at h
  obtain ⟨p, h1, h2⟩ := Option.map_eq_some_iff.mp h
  rw [List.getElem?_zip_eq_some] at h1
  exact ⟨p.1, p.2, h1.1, h1.2, h2.symm⟩
theorem itr_zipL {F : Hp} {K : PySem.W.Frag} {a b : Addr} {xs ys : List V} {ds es : List D} (h : F a = some (.lst xs)) (r : RpA C F xs ds) (h' : F b = some (.lst ys)) (r' : RpA C F ys es) : ItR C (Itz K a b) F (zipD ds es) where
  go := fun i H hi s => by
    rw [zipD_len] at hi
    exact ⟨xs, ys, xs[i]'(by rw [r.length]; omega), ys[i]'(by rw [r'.length]; omega), SqL.of (s _ _ h), SqL.of (s _ _ h'), by simp, by simp⟩
  stop := fun H s => ⟨xs, ys, SqL.of (s _ _ h), SqL.of (s _ _ h'), by rw [zipD_len, r.length, r'.length]; omega⟩
  yld := fun i H x H' Gc F' ps σ d s R hd ⟨T, x1, y1, e1, n, e2, g1, g2⟩ => by
    subst e1; subst e2
    obtain ⟨dx, dy, k1, k2, k3⟩ := zipD_get hd
    subst k3
    obtain ⟨v1, m1, m2⟩ := r.get' k1
    obtain ⟨v2, m3, m4⟩ := r'.get' k2
    have q1 := g1 xs (SqL.of (R.fh _ _ (s _ _ h)))
    have q2 := g2 ys (SqL.of (R.fh _ _ (s _ _ h')))
    rw [m1] at q1; cases q1
    rw [m3] at q2; cases q2
    have nf : F' T = none := R.fh.free n
    exact ⟨_, same_alloc nf, R.alloc n, .tup (.of upd_same) (.cons ((m2.mono s).mono (same_alloc nf)) (.cons ((m4.mono s).mono (same_alloc nf)) .nil))⟩
theorem itr_zipT {F : Hp} {K : PySem.W.Frag} (hK : C.K = K) {a b : Addr} {xs ys : List V} {ds es : List D} (h : SqT C.K F a xs) (r : RpA C F xs ds) (h' : SqT C.K F b ys) (r' : RpA C F ys es) : ItR C (RZ.ItzT K a b) F (zipD ds es) where
  go := fun i H hi s => by
    rw [zipD_len] at hi
    exact ⟨xs, ys, xs[i]'(by rw [r.length]; omega), ys[i]'(by rw [r'.length]; omega), by rw [← hK]; exact sqT_mono s h, by rw [← hK]; exact sqT_mono s h', by simp, by simp⟩
  stop := fun H s => ⟨xs, ys, by rw [← hK]; exact sqT_mono s h, by rw [← hK]; exact sqT_mono s h', by rw [zipD_len, r.length, r'.length]; omega⟩
  yld := fun i H x H' Gc F' ps σ d s R hd ⟨T, x1, y1, e1, n, e2, g1, g2⟩ => by
    subst e1; subst e2
    obtain ⟨dx, dy, k1, k2, k3⟩ := zipD_get hd
    subst k3
    obtain ⟨v1, m1, m2⟩ := r.get' k1
    obtain ⟨v2, m3, m4⟩ := r'.get' k2
    have q1 := g1 xs (by rw [← hK]; exact sqT_mono (s.trans R.fh) h)
    have q2 := g2 ys (by rw [← hK]; exact sqT_mono (s.trans R.fh) h')
    rw [m1] at q1; cases q1
    rw [m3] at q2; cases q2
    have nf : F' T = none := R.fh.free n
    exact ⟨_, same_alloc nf, R.alloc n, .tup (.of upd_same) (.cons ((m2.mono s).mono (same_alloc nf)) (.cons ((m4.mono s).mono (same_alloc nf)) .nil))⟩
def dZip : List D → Option (List D)
  | [.list xs, .list ys] => some (zipD xs ys)
  | [.tuple xs, .tuple ys] => some (zipD xs ys)
  | _ => none
theorem dZip_inv {ds zs : List D} (h : dZip ds = some zs) : ∃ xs ys, zs = zipD xs ys ∧ (ds = [.list xs, .list ys] ∨ ds = [.tuple xs, .tuple ys]) := by
  unfold dZip at h
  split at h
  · cases h; exact ⟨_, _, rfl, .inl rfl⟩
  · cases h; exact ⟨_, _, rfl, .inr rfl⟩
  · cases h
def mZip (a : MA) : MA := fun ps => (a ps).bind fun ds ps1 => .of (dZip ds) ps1
theorem xi_zip {e2 : Expr} {ma : MA} {tpos : Pos} {elts : List Expr} {kk : Nat} (hK : C.K = X.K) (hg : Gl X "zip") (hm : X.mg "zip" = none) (ha : PA X [e, e2] (tA C W ma))
    (hs : starEach [e, e2] X.env = (false, eval e X.env) :: starEach [e2] X.env := by rfl) (hpl : (backTo pos (starEach [e2] X.env)).any (·.1) = false := by rfl) :
    PI X (.Tuple elts kk tpos) (.Call (.Name "zip" p) [e, e2] [] pos) (tI C W (mZip ma)) :=
  pi_imp (RZ.pi_zipA hg hm ha hs hpl) fun σ H Q ⟨Gc, F, ps, R, q⟩ => seqA qI.mono R q fun ds ps1 vs F1 H1 s1 R1 r1 q1 => by
    cases z : dZip ds with
    | none => rw [z] at q1; exact q1.elim
    | some zs =>
      rw [z] at q1
      obtain ⟨xs, ys, e1, e2⟩ := dZip_inv z
      subst e1
      rcases e2 with e2 | e2
      · subst e2
        cases r1 with
        | cons x1 x2 =>
          cases x1 with
          | lst h r =>
            cases x2 with
            | cons y1 y2 =>
              cases y1 with
              | lst h' r' =>
                cases y2
                exact ⟨_, _, _, _, rfl, .inl ⟨SqL.of (R1.fh _ _ h), SqL.of (R1.fh _ _ h'), q1 _ F1 H1 (Same.refl _) R1 (itr_zipL h r h' r')⟩⟩
      · subst e2
        cases r1 with
        | cons x1 x2 =>
          cases x1 with
          | tup h r =>
            cases x2 with
            | cons y1 y2 =>
              cases y1 with
              | tup h' r' =>
                cases y2
                exact ⟨_, _, _, _, rfl, .inr ⟨by rw [← hK]; exact sqT_mono R1.fh h, by rw [← hK]; exact sqT_mono R1.fh h', q1 _ F1 H1 (Same.refl _) R1 (itr_zipT hK h r h' r')⟩⟩
def enumD (xs : List D) : List D := xs.zipIdx.map fun p => .tuple [.int (p.2 : Nat), p.1]
theorem enumD_get {xs : List D} {i : Nat} {d : D} (h : (enumD xs)[i]? = some d) : ∃ x, xs[i]? = some x ∧ d = .tuple [.int (i : Nat), x] := by
  unfold enumD at h
  rw [List.getElem?_map, List.getElem?_zipIdx] at h
  cases e : xs[i]? with
  | none => rw [e] at h; cases h
  | some x => rw [e] at h; cases h; exact ⟨x, rfl, by simp⟩
theorem itr_enum {F : Hp} {K : PySem.W.Frag} {a : Addr} {xs : List V} {ds : List D} (h : F a = some (.lst xs)) (r : RpA C F xs ds) : ItR C (Ite K a) F (enumD ds) where
  go := fun i H hi s => ⟨xs, xs[i]'(by rw [r.length]; simpa [enumD] using hi), SqL.of (s _ _ h), by simp⟩
  stop := fun H s => ⟨xs, SqL.of (s _ _ h), by rw [r.length]; simp [enumD]⟩
  yld := fun i H x H' Gc F' ps σ d s R hd ⟨T, x1, e1, n, e2, g1⟩ => by
    subst e1; subst e2
    obtain ⟨dx, k1, k3⟩ := enumD_get hd
    subst k3
    obtain ⟨v1, m1, m2⟩ := r.get' k1
    have q1 := g1 xs (SqL.of (R.fh _ _ (s _ _ h)))
    rw [m1] at q1; cases q1
    have nf : F' T = none := R.fh.free n
    exact ⟨_, same_alloc nf, R.alloc n, .tup (.of upd_same) (.cons (.int _) (.cons ((m2.mono s).mono (same_alloc nf)) .nil))⟩
/-! ### dicts that are written -/
def mPairs : List (ME × ME) → Ps → Out (List (D × D))
  | [], ps => .ok [] ps
  | (k, v) :: r, ps => (k ps).bind fun x ps1 => (v ps1).bind fun y ps2 => (mPairs r ps2).bind fun xs ps3 => .ok ((x, y) :: xs) ps3
def trsOf (C : Mc) (W : WX) (ms : List (ME × ME)) : List (TE × TE) := ms.map fun m => (tE C W m.1, tE C W m.2)
theorem xp_nil : PPs X pos [] [] (trsOf C W []) := pps_nil
theorem xp_cons {k v : Expr} {ks : List (Option Expr)} {vs : List Expr} {mk mv : ME} {ms : List (ME × ME)} (hk : PE X k (tE C W mk)) (hv : PE X v (tE C W mv)) (hr : PPs X pos ks vs (trsOf C W ms)) : PPs X pos (some k :: ks) (v :: vs) (trsOf C W ((mk, mv) :: ms)) := pps_cons hk hv hr
theorem pairs_ok {σ : St} {Gc : Hp} : ∀ (ms : List (ME × ME)) {β : Type} {P : β → Ps → Hp → Prop} {F H : Hp} {ps : Ps} {f : List (D × D) → Ps → Out β} {Q : List (V × V) → Hp → Prop} (hP : Mono P) (R : Rel C Gc F H ps σ) (h : Po C W Gc σ P F ((mPairs ms ps).bind f))
    (k : ∀ xs ps' vs F' H', Same F F' → Rel C Gc F' H' ps' σ → RpA C F' (vs.map (·.1)) (xs.map (·.1)) → RpA C F' (vs.map (·.2)) (xs.map (·.2)) → Po C W Gc σ P F' (f xs ps') → Q vs H'), tPairs (trsOf C W ms) σ H Q
  | [], _, _, F, H, ps, f, Q, hP, R, h, k => k [] ps [] F H (Same.refl _) R .nil .nil h
  | (mk, mv) :: ms, β, P, F, H, ps, f, Q, hP, R, h, k => by
    have h' : Po C W Gc σ P F ((mk ps).bind fun x ps1 => (mv ps1).bind fun y ps2 => (mPairs ms ps2).bind fun xs ps3 => f ((x, y) :: xs) ps3) := by
      have e : (mPairs ((mk, mv) :: ms) ps).bind f = (mk ps).bind fun x ps1 => (mv ps1).bind fun y ps2 => (mPairs ms ps2).bind fun xs ps3 => f ((x, y) :: xs) ps3 := by
        show ((mk ps).bind fun x ps1 => (mv ps1).bind fun y ps2 => (mPairs ms ps2).bind fun xs ps3 => Out.ok ((x, y) :: xs) ps3).bind f = _
        cases mk ps with
        | ok x ps1 =>
          show ((mv ps1).bind fun y ps2 => (mPairs ms ps2).bind fun xs ps3 => Out.ok ((x, y) :: xs) ps3).bind f = (mv ps1).bind fun y ps2 => (mPairs ms ps2).bind fun xs ps3 => f ((x, y) :: xs) ps3
          cases mv ps1 with
          | ok y ps2 =>
            show ((mPairs ms ps2).bind fun xs ps3 => Out.ok ((x, y) :: xs) ps3).bind f = (mPairs ms ps2).bind fun xs ps3 => f ((x, y) :: xs) ps3
            cases mPairs ms ps2 <;> rfl
          | exc _ _ => rfl
          | bad => rfl
        | exc _ _ => rfl
        | bad => rfl
      rw [← e]; exact h
    refine seqE hP R h' fun x ps1 v F1 H1 s1 R1 r1 q1 => seqE hP R1 q1 fun y ps2 u F2 H2 s2 R2 r2 q2 => ?_
    exact pairs_ok ms hP R2 q2 fun xs ps3 vs F3 H3 s3 R3 r3 r4 q3 => k ((x, y) :: xs) ps3 ((v, u) :: vs) F3 H3 ((s1.trans s2).trans s3) R3 (.cons (r1.mono (s2.trans s3)) r3) (.cons (r2.mono s3) r4) q3
def toKeys : List (D × D) → Option (List (Key × D))
  | [] => some []
  | (k, v) :: r => (toKey k).bind fun k' => (toKeys r).map fun r' => (k', v) :: r'
def mergeD (kvs : List (Key × D)) : List (Key × D) := kvs.foldl (fun acc kv => putD acc kv.1 kv.2) []
def mDict (ms : List (ME × ME)) : Ps → Out (List (Key × D)) := fun ps => (mPairs ms ps).bind fun xs ps1 => match toKeys xs with
  | some kvs => if kvs.length ≤ 15 then .ok (mergeD kvs) ps1 else .bad
  | none => .bad
theorem toKeys_ok {F : Hp} : ∀ {xs : List (D × D)} {kvs : List (Key × D)} {vs : List (V × V)}, toKeys xs = some kvs → RpA C F (vs.map (·.1)) (xs.map (·.1)) → RpA C F (vs.map (·.2)) (xs.map (·.2)) →
    ∃ ks : List (Key × V), vs = ks.map (fun kv => (kV kv.1, kv.2)) ∧ ks.length = kvs.length ∧ RpA C F (ks.map (·.2)) (kvs.map (·.2)) ∧ kvs.map (·.1) = ks.map (·.1)
  | [], kvs, vs, h, r, _ => by
    cases h
    cases vs with
    | nil => exact ⟨[], rfl, rfl, .nil, rfl⟩
    | cons _ _ => cases r
  | (k, d) :: xs, kvs, vs, h, r, r' => by
    simp only [toKeys] at h
    obtain ⟨k', e1, h2⟩ := Option.bind_eq_some_iff.mp h
    obtain ⟨kvs', e2, e3⟩ := Option.map_eq_some_iff.mp h2
    subst e3
    cases vs with
    | nil => cases r
    | cons v vs =>
      rw [List.map_cons, List.map_cons] at r r'
      cases r with
      | cons r1 r2 =>
        cases r' with
        | cons r3 r4 =>
          obtain ⟨ks, g1, g2, g3, g4⟩ := toKeys_ok e2 r2 r4
          have ek := kD_of e1
          have ev : v.1 = kV k' := rp_kD (by rw [← ek]; exact r1)
          refine ⟨(k', v.2) :: ks, ?_, by rw [List.length_cons, List.length_cons, g2], .cons r3 g3, by rw [List.map_cons, List.map_cons, g4]⟩
          rw [List.map_cons, ← g1]
          show v :: vs = (kV k', v.2) :: vs
          rw [← ev]
theorem merge_rel {F : Hp} : ∀ {ks : List (Key × V)} {kvs : List (Key × D)} {as : List (Key × V)} {ds : List (Key × D)}, RpA C F (ks.map (·.2)) (kvs.map (·.2)) → kvs.map (·.1) = ks.map (·.1) → RpA C F (as.map (·.2)) (ds.map (·.2)) → ds.map (·.1) = as.map (·.1) →
    RpA C F ((mergeK as ks).map (·.2)) ((kvs.foldl (fun acc kv => putD acc kv.1 kv.2) ds).map (·.2)) ∧ (kvs.foldl (fun acc kv => putD acc kv.1 kv.2) ds).map (·.1) = (mergeK as ks).map (·.1)
  | [], [], as, ds, _, _, r, e => ⟨r, e⟩
  | [], _ :: _, _, _, r, _, _, _ => nomatch r
  | _ :: _, [], _, _, r, _, _, _ => nomatch r
  | p :: ks, q :: kvs, as, ds, r0, e0, r, e => by
    rw [List.map_cons, List.map_cons] at r0 e0
    injection e0 with e1 e2
    cases r0 with
    | cons r1 r2 =>
      obtain ⟨n1, n2⟩ := put_rel (k := p.1) r1 r e
      have z := merge_rel (as := putK as p.1 p.2) (ds := putD ds p.1 q.2) r2 e2 n1 n2
      have ef : (q :: kvs).foldl (fun acc kv => putD acc kv.1 kv.2) ds = kvs.foldl (fun acc kv => putD acc kv.1 kv.2) (putD ds p.1 q.2) := by
        rw [List.foldl_cons, e1]
      rw [ef]
      exact z
def qFd (C : Mc) (Gc : Hp) (σ : St) (Q : VK) : List (Key × D) → Ps → Hp → Prop := fun ds ps' F => ∀ p kvs F' H', Same F F' → Rel C Gc F' H' ps' σ → Loose C Gc F' H' ps' σ p (.dK kvs) → RpA C F' (kvs.map (·.2)) (ds.map (·.2)) → ds.map (·.1) = kvs.map (·.1) → Q (.ref p) H'
theorem qFd.mono {Gc : Hp} {σ : St} {Q : VK} : Mono (qFd C Gc σ Q) := fun _ _ _ _ s h p xs F' H' s' => h p xs F' H' (s.trans s')
def tFd (C : Mc) (W : WX) (m : Ps → Out (List (Key × D))) : TE := fun σ H Q => ∃ Gc F ps, Rel C Gc F H ps σ ∧ Po C W Gc σ (qFd C Gc σ Q) F (m ps)
theorem xdictF {keys : List (Option Expr)} {values : List Expr} {ms : List (ME × ME)} (h : PPs X pos keys values (trsOf C W ms)) (hall : keys.all (·.isSome) = true := by rfl) (hl : keys.length = values.length := by rfl) (h0 : keys ≠ [] := by intro z; cases z)
    (h15 : keys.length ≤ 15 := by decide) : PE X (.Dict keys values pos) (tFd C W (mDict ms)) :=
  pe_imp (pe_disp h hall hl h0 h15) fun σ H Q ⟨Gc, F, ps, R, q⟩ => by
    intro p n
    have g : Gc p = none := R.gh.free n
    have R1 : Rel C (upd Gc p (.dK [])) F (upd H p (.dK [])) ps σ := (R.fresh n).inG (R.loose n)
    have q' : Po C W (upd Gc p (.dK [])) σ (qFd C Gc σ Q) F (mDict ms ps) := by
      revert q
      cases mDict ms ps with
      | ok a ps' => exact fun q => q
      | exc e ps' => exact fun q F' H' cls dx s R' x => q F' H' cls dx s (R'.outG g).1 x
      | bad => exact fun q => q
    refine pairs_ok ms (P := qFd C Gc σ Q) qFd.mono R1 q' fun xs ps1 vs F1 H1 s1 R2 r1 r2 q1 => ?_
    obtain ⟨R3, l3⟩ := R2.outG g
    refine ⟨l3.h, ?_⟩
    cases ek : toKeys xs with
    | none => rw [ek] at q1; exact q1.elim
    | some kvs =>
      rw [ek] at q1
      dsimp only at q1
      by_cases hz : kvs.length ≤ 15
      · rw [if_pos hz] at q1
        obtain ⟨ks, g1, g2, g3, g4⟩ := toKeys_ok ek r1 r2
        obtain ⟨R4, l4⟩ := R3.looseSet (o' := .dK (mergeK [] ks)) l3
        obtain ⟨m1, m2⟩ := merge_rel (as := []) (ds := []) g3 g4 .nil rfl
        exact ⟨ks, g1, by rw [g2]; exact hz, q1 p _ F1 _ (Same.refl _) R4 l4 m1 m2⟩
      · rw [if_neg hz] at q1; exact q1.elim
def dctD (kvs : List (Key × D)) : D := .dict (kvs.map fun p => (kD p.1, p.2))
def mFzD (m : Ps → Out (List (Key × D))) : ME := fun ps => (m ps).bind fun ds ps1 => .ok (dctD ds) ps1
theorem seqFd {β : Type} {P : β → Ps → Hp → Prop} {Gc F H : Hp} {ps : Ps} {σ : St} {m : Ps → Out (List (Key × D))} {f : List (Key × D) → Ps → Out β} {Q : VK} (hP : Mono P) (R : Rel C Gc F H ps σ) (h : Po C W Gc σ P F ((m ps).bind f))
    (k : ∀ d ps' p kvs F' H', Same F F' → Rel C Gc F' H' ps' σ → Loose C Gc F' H' ps' σ p (.dK kvs) → RpA C F' (kvs.map (·.2)) (d.map (·.2)) → d.map (·.1) = kvs.map (·.1) → Po C W Gc σ P F' (f d ps') → Q (.ref p) H') : tFd C W m σ H Q := by
  refine ⟨Gc, F, ps, R, ?_⟩
  cases e : m ps with
  | ok d ps' => rw [e] at h; exact fun p xs F' H' s R' l r r2 => k d ps' p xs F' H' s R' l r r2 (h.mono hP s)
  | exc x ps' => rw [e] at h; exact h
  | bad => rw [e] at h; exact h
theorem xfzd {m : Ps → Out (List (Key × D))} (h : PE X e (tFd C W m)) : PE X e (tE C W (mFzD m)) := pe_imp h fun σ H Q ⟨Gc, F, ps, R, q⟩ =>
  seqFd qE.mono R q fun ds ps1 p xs F1 H1 s1 R1 l r r2 q1 => by
    refine q1 _ _ H1 (same_alloc l.f) (R1.frozen l) (.dct upd_same ?_ ?_)
    · have k1 : (ds.map fun p => (kD p.1, p.2)).map (·.2) = ds.map (·.2) := by rw [List.map_map]; rfl
      rw [k1]
      exact r.mono (same_alloc l.f)
    · have q2 : (ds.map (·.1)).map kD = (xs.map (·.1)).map kD := by rw [r2]
      rw [List.map_map, List.map_map] at q2
      rw [List.map_map]
      exact q2
/-- name = {..}, to be our own -/
def mOwnD (i : Nat) (m : Ps → Out (List (Key × D))) : MS := fun ps => (m ps).bindS fun ds ps1 => .next (ps1.setS i (.md ds))
theorem seqFdS {Gc F H : Hp} {ps : Ps} {σ : St} {m : Ps → Out (List (Key × D))} {f : List (Key × MM.D) → Ps → So} {D : Ends} {Q : VK} (R : Rel C Gc F H ps σ) (h : PoS C W Gc D F ((m ps).bindS f))
    (k : ∀ d ps' p kvs F' H', Same F F' → Rel C Gc F' H' ps' σ → Loose C Gc F' H' ps' σ p (.dK kvs) → RpA C F' (kvs.map (·.2)) (d.map (·.2)) → d.map (·.1) = kvs.map (·.1) → PoS C W Gc D F' (f d ps') → Q (.ref p) H') : tFd C W m σ H Q := by
  refine ⟨Gc, F, ps, R, ?_⟩
  cases e : m ps with
  | ok d ps' => rw [e] at h; exact fun p xs F' H' s R' l r r2 => k d ps' p xs F' H' s R' l r r2 (h.mono s)
  | exc x ps' => rw [e] at h; exact fun F' H' c d s => h σ F' H' c d s
  | bad => rw [e] at h; exact h
theorem xs_ownD {i : Nat} {x : Str} {m : Ps → Out (List (Key × D))} {pos' : Pos} (hN : X.N.Nodup) (hi : X.N[i]? = some x) (hx : Loc X.env.scope x) (he : PE X e (tFd C W m)) (hs : swapsWith e (some (.Name x pos')) pos.line X.env = pure false := by rfl) (hf : X.fn x = true ∨ X.env.scope.names.lookup x = some .local := by first | exact .inl rfl | exact .inr rfl | assumption) :
    PS X (.Assign [.Name x pos'] e pos) (tS C W (mOwnD i m)) :=
  ps_imp (ps_set hN hi hx he hs hf) fun D σ H ⟨Gc, F, ps, R, q⟩ => seqFdS R q fun ds ps1 p xs F1 H1 s1 R1 l r r2 q1 =>
    q1 _ F1 H1 (Same.refl _) (R1.setO l ⟨p, xs, rfl, l.h, l.f, l.g, r, r2⟩)
def mNewD : Ps → Out (List (Key × D)) := fun ps => .ok [] ps
theorem xdnewF : PE X (.Dict [] [] pos) (tFd C W mNewD) := pe_imp pe_dnewK fun σ H Q ⟨Gc, F, ps, R, q⟩ => fun p n => q p [] F _ (Same.refl _) (R.fresh n) (R.loose n) .nil rfl
end
end MM
namespace MM
open PySem PySem.Spec PyProof.Rows L2
/-! ### the deck -/
inductive DkF where
  | cells | seed | turn
/-- of which kind the deck is -/
def DkIs (C : Mc) (l : Bool) (s n : Str) : Prop := ∀ i, C.dk = some i → i.lst = l ∧ i.sn = s ∧ i.nm = n
def keyOf (l : Bool) (s n : Str) : DkF → V
  | .cells => if l = true then .int 0 else .str "cells"
  | .seed => if l = true then .int 1 else .str s
  | .turn => if l = true then .int 2 else .str n
def valOf (i : DkI) (k : Dk) : DkF → V
  | .cells => .ref i.c
  | .seed => .int k.seed
  | .turn => .int k.tn
section
variable {C : Mc} {Gc F H : Hp} {ps : Ps} {σ : St} {I : DkI}
theorem deck_at {i : Nat} {d : D} (R : Rel C Gc F H ps σ) (e : ps.sl[i]? = some (.fz d)) (h : isDeck d = true) : ∃ I, C.dk = some I ∧ σ[i]? = some (some (.ref I.a)) ∧ DeckAt I F Gc H ps.dk := by
  obtain ⟨x, e1, r⟩ := R.sl i _ e
  have ed := isDeck_eq h
  subst ed
  generalize hd : deckD = d at r
  cases r with
  | deck hI => exact ⟨_, hI, e1, R.dk _ hI⟩
  | dct h1 h2 h3 =>
    rename_i kvs ds
    unfold deckD at hd
    injection hd with hd
    subst hd
    cases kvs with
    | nil => cases h3
    | cons p kvs =>
      rw [List.map_cons, List.map_cons] at h3
      injection h3 with h4 _
      have h5 : PyData.bool true = kD p.1 := h4
      cases hp : p.1 with
      | inl z => rw [hp] at h5; cases h5
      | inr z => rw [hp] at h5; cases h5
  | _ => cases hd
theorem dk_ix {K : PySem.W.Frag} {k : Dk} {l : Bool} {s n : Str} (f : DkF) {Q : VK} (h : H I.a = some (I.obj k)) (hl : I.lst = l) (hs : I.sn = s) (hn : I.nm = n) (q : Q (valOf I k f) H) : rIxAll K (.ref I.a) (keyOf l s n f) H Q := by
  subst hl hs hn
  unfold DkI.obj at h
  by_cases c : I.lst = true
  · rw [if_pos c] at h
    cases f with
    | cells => exact .inl (.inl ⟨_, _, 0, .ref I.c, rfl, by simp [keyOf, c], SqL.of h, rfl, q⟩)
    | seed => exact .inl (.inl ⟨_, _, 1, .int k.seed, rfl, by simp [keyOf, c], SqL.of h, rfl, q⟩)
    | turn => exact .inl (.inl ⟨_, _, 2, .int k.tn, rfl, by simp [keyOf, c], SqL.of h, rfl, q⟩)
  · rw [if_neg c] at h
    have k1 : ∀ {a b : Str}, a ≠ b → (Sum.inr a : Key) ≠ Sum.inr b := fun h z => h (Sum.inr.inj z)
    cases f with
    | cells =>
      refine .inr ⟨_, .ref I.c, rfl, ?_, q⟩
      have e : keyOf I.lst I.sn I.nm .cells = kV (.inr "cells") := by simp [keyOf, c, kV]
      rw [e, ← valV_pos (p := ((Sum.inr "cells" : Key), V.ref I.c)) (r := [(.inr I.sn, .int k.seed), (.inr I.nm, .int k.tn)]) (k := (Sum.inr "cells" : Key)) rfl]
      exact DGet.k h
    | seed =>
      refine .inr ⟨_, .int k.seed, rfl, ?_, q⟩
      have e : keyOf I.lst I.sn I.nm .seed = kV (.inr I.sn) := by simp [keyOf, c, kV]
      have v : valV [((Sum.inr "cells" : Key), V.ref I.c), (.inr I.sn, .int k.seed), (.inr I.nm, .int k.tn)] (.inr I.sn) = some (.int k.seed) := by
        rw [valV_neg (k1 I.h1.symm), valV_pos rfl]
      rw [e, ← v]
      exact DGet.k h
    | turn =>
      refine .inr ⟨_, .int k.tn, rfl, ?_, q⟩
      have e : keyOf I.lst I.sn I.nm .turn = kV (.inr I.nm) := by simp [keyOf, c, kV]
      have v : valV [((Sum.inr "cells" : Key), V.ref I.c), (.inr I.sn, .int k.seed), (.inr I.nm, .int k.tn)] (.inr I.nm) = some (.int k.tn) := by
        rw [valV_neg (k1 I.h2.symm), valV_neg (k1 I.h3.symm), valV_pos rfl]
      rw [e, ← v]
      exact DGet.k h
theorem dk_ne (d : DeckAt I F Gc H ps.dk) : I.c ≠ I.a := by
  intro z
  have h1 := d.d
  have h2 := d.l
  rw [z] at h2
  rw [h1] at h2
  unfold DkI.obj at h2
  split at h2
  · have h3 := Option.some.inj h2
    injection h3 with h3
    cases hc : ps.dk.cells with
    | nil => rw [hc] at h3; cases h3
    | cons x xs => rw [hc] at h3; cases h3
  · cases h2
/-- the deck's own object changes -/
theorem Rel.dkSet {k' : Dk} (R : Rel C Gc F H ps σ) (hI : C.dk = some I) (hc : k'.cells = ps.dk.cells) : Rel C Gc F (upd H I.a (I.obj k')) ⟨ps.sl, k'⟩ σ := by
  have d := R.dk I hI
  have kp : ∀ b u, b ≠ I.a → H b = some u → (upd H I.a (I.obj k')) b = some u := fun b u hb q => by rw [upd_ne hb]; exact q
  refine ⟨fun b u q => kp b u (fun z => by rw [z, d.fa] at q; cases q) (R.fh _ _ q), fun b u q => kp b u (fun z => by rw [z, d.ga] at q; cases q) (R.gh _ _ q), R.dj, R.len, fun j t q => ?_, R.ow, fun x hx => ?_, R.od⟩
  · have z := R.sl j t q
    cases t with
    | no => trivial
    | fz d => exact z
    | ml ds =>
      obtain ⟨b, xs, h1, h2, h3, h4, h5⟩ := z
      exact ⟨b, xs, h1, kp b _ (R.od I hI j b (own_at q rfl h1)).1 h2, h3, h4, h5⟩
    | md ds =>
      obtain ⟨b, xs, h1, h2, h3, h4, h5, h6⟩ := z
      exact ⟨b, xs, h1, kp b _ (R.od I hI j b (own_at q rfl h1)).1 h2, h3, h4, h5, h6⟩
  · rw [hI] at hx
    cases hx
    exact ⟨upd_same, kp _ _ (dk_ne d) (by rw [hc]; exact d.l), d.fa, d.fc, d.ga, d.gc⟩
/-- its cells change -/
theorem Rel.dkCells {cs : List Int} (R : Rel C Gc F H ps σ) (hI : C.dk = some I) : Rel C Gc F (upd H I.c (.lst (cs.map V.int))) ⟨ps.sl, ⟨cs, ps.dk.seed, ps.dk.tn⟩⟩ σ := by
  have d := R.dk I hI
  have kp : ∀ b u, b ≠ I.c → H b = some u → (upd H I.c (.lst (cs.map V.int))) b = some u := fun b u hb q => by rw [upd_ne hb]; exact q
  refine ⟨fun b u q => kp b u (fun z => by rw [z, d.fc] at q; cases q) (R.fh _ _ q), fun b u q => kp b u (fun z => by rw [z, d.gc] at q; cases q) (R.gh _ _ q), R.dj, R.len, fun j t q => ?_, R.ow, fun x hx => ?_, R.od⟩
  · have z := R.sl j t q
    cases t with
    | no => trivial
    | fz d => exact z
    | ml ds =>
      obtain ⟨b, xs, h1, h2, h3, h4, h5⟩ := z
      exact ⟨b, xs, h1, kp b _ (R.od I hI j b (own_at q rfl h1)).2 h2, h3, h4, h5⟩
    | md ds =>
      obtain ⟨b, xs, h1, h2, h3, h4, h5, h6⟩ := z
      exact ⟨b, xs, h1, kp b _ (R.od I hI j b (own_at q rfl h1)).2 h2, h3, h4, h5, h6⟩
  · rw [hI] at hx
    cases hx
    exact ⟨kp _ _ (dk_ne d).symm d.d, upd_same, d.fa, d.fc, d.ga, d.gc⟩
end
def deckAt? (ps : Ps) (i : Nat) : Bool := match ps.sl[i]? with
  | some (.fz d) => isDeck d
  | _ => false
theorem deckAt_eq {ps : Ps} {i : Nat} (h : deckAt? ps i = true) : ∃ d, ps.sl[i]? = some (.fz d) ∧ isDeck d = true := by
  unfold deckAt? at h
  split at h
  · rename_i d e; exact ⟨d, e, h⟩
  · cases h
def dkNum (k : Dk) : DkF → Option Int
  | .cells => none
  | .seed => some k.seed
  | .turn => some k.tn
/-- d["seed"], d["at"] -/
def mDk (i : Nat) (f : DkF) : ME := fun ps => if deckAt? ps i = true then (Out.of (dkNum ps.dk f) ps).bind fun n ps => .ok (.int n) ps else .bad
def dkPut (k : Dk) (f : DkF) (n : Int) : Option Dk := match f with
  | .cells => none
  | .seed => some ⟨k.cells, n, k.tn⟩
  | .turn => some ⟨k.cells, k.seed, n⟩
def mDkPut (i : Nat) (f : DkF) (a : ME) : MS := fun ps => (a ps).bindS fun v ps1 => if deckAt? ps1 i = true then (match dInt v with
  | some n => match dkPut ps1.dk f n with
    | some k => .next ⟨ps1.sl, k⟩
    | none => .bad
  | none => .bad) else .bad
def mDkNe (i : Nat) : ME := fun ps => if deckAt? ps i = true then .ok (.bool (!ps.dk.cells.isEmpty)) ps else .bad
def mDkPop (i : Nat) : ME := fun ps => if deckAt? ps i = true then (match ps.dk.cells.getLast? with
  | some n => .ok (.int n) ⟨ps.sl, ⟨ps.dk.cells.dropLast, ps.dk.seed, ps.dk.tn⟩⟩
  | none => .bad) else .bad
def mDkApp (i : Nat) (a : ME) : ME := fun ps => if deckAt? ps i = true then (a ps).bind fun v ps1 => (if deckAt? ps1 i = true then (match dInt v with
  | some n => if ps1.dk.cells.length < sizeLine then .ok .none ⟨ps1.sl, ⟨ps1.dk.cells ++ [n], ps1.dk.seed, ps1.dk.tn⟩⟩ else .bad
  | none => .bad) else .bad) else .bad
theorem ints_shaped (ns : List Int) : SeqAt.shaped (.list (ns.map .int)) = true := by
  have h1 : PyData.canLayAll0 (ns.map .int) = true := by
    induction ns with
    | nil => rfl
    | cons n ns ih => simp [PyData.canLayAll0, PyData.canLay0, ih]
  have h2 : PyData.depthAll (ns.map .int) ≤ 1 := by
    clear h1
    induction ns with
    | nil => simp [PyData.depthAll]
    | cons n ns ih =>
      simp only [List.map_cons, PyData.depthAll, PyData.depth]
      omega
  unfold SeqAt.shaped
  rw [Bool.and_eq_true]
  refine ⟨by simp only [PyData.canLay0]; exact h1, decide_eq_true ?_⟩
  simp only [PyData.depth]
  omega
section
variable {X : Cx} {C : Mc} {W : WX} {a b e o kx : Expr} {pos p1 apos cpos : Pos} {l : Bool} {s n : Str}
theorem xdk {i : Nat} (f : DkF) (hu : X.A.units + 1 < cLine) (hD : DkIs C l s n) (ho : PE X o (tVar i)) (hk : PE X kx (tC (keyOf l s n f))) (hs : PlainIx kx) : PE X (.Subscript o kx pos) (tE C W (mDk i f)) :=
  pe_imp (pe_ix (ix_all hu) ho hk hs) fun σ H Q ⟨Gc, F, ps, R, q⟩ => by
    unfold mDk at q
    by_cases h : deckAt? ps i = true
    · rw [if_pos h] at q
      obtain ⟨d, e1, e2⟩ := deckAt_eq h
      obtain ⟨I, hI, hv, da⟩ := deck_at R e1 e2
      obtain ⟨g1, g2, g3⟩ := hD I hI
      refine ⟨_, hv, dk_ix f da.d g1 g2 g3 ?_⟩
      cases f with
      | cells => exact q.elim
      | seed => exact q _ F H (Same.refl _) R (.int _)
      | turn => exact q _ F H (Same.refl _) R (.int _)
    · rw [if_neg h] at q; exact q.elim
theorem xs_dkput {i : Nat} {ma : ME} (f : DkF) (hu : X.A.units + 1 < cLine) (hD : DkIs C false s n) (ho : PE X o (tVar i)) (hk : PE X kx (tC (keyOf false s n f))) (hv : PE X e (tE C W ma)) (hs : swapsWith e (some (.Subscript o kx p1)) pos.line X.env = pure false := by rfl) :
    PS X (.Assign [.Subscript o kx p1] e pos) (tS C W (mDkPut i f ma)) :=
  ps_imp (ps_dput hu ho hk hv hs) fun D σ H ⟨Gc, F, ps, R, q⟩ => seqES R q fun v ps1 vv F1 H1 s1 R1 r1 q1 => by
    by_cases h : deckAt? ps1 i = true
    · rw [if_pos h] at q1
      obtain ⟨d, e1, e2⟩ := deckAt_eq h
      obtain ⟨I, hI, hv, da⟩ := deck_at R1 e1 e2
      obtain ⟨g1, g2, g3⟩ := hD I hI
      cases v with
      | int m =>
        cases r1
        have k1 : ∀ {a b : Str}, a ≠ b → (Sum.inr a : Key) ≠ Sum.inr b := fun h z => h (Sum.inr.inj z)
        have dd := da.d
        unfold DkI.obj at dd
        rw [if_neg (by rw [g1]; decide)] at dd
        have big : 3 < sizeLine := by rw [sizeLine_eq]; decide
        cases f with
        | cells => exact q1.elim
        | seed =>
          have q2 : PoS C W Gc D F1 (.next ⟨ps1.sl, ⟨ps1.dk.cells, m, ps1.dk.tn⟩⟩) := q1
          refine ⟨_, hv, I.a, _, rfl, DPut.k (k := .inr s) dd big, ?_⟩
          have ep : putK [((Sum.inr "cells" : Key), V.ref I.c), (.inr I.sn, .int ps1.dk.seed), (.inr I.nm, .int ps1.dk.tn)] (.inr s) (.int m) = [((Sum.inr "cells" : Key), V.ref I.c), (.inr I.sn, .int m), (.inr I.nm, .int ps1.dk.tn)] := by
            subst g2
            have a1 : (Sum.inr "cells" : Key) ≠ .inr I.sn := k1 I.h1.symm
            have a2 : (Sum.inr I.nm : Key) ≠ .inr I.sn := k1 I.h3
            simp [putK, a1, a2]
          rw [ep]
          have eo : HO.dK [((Sum.inr "cells" : Key), V.ref I.c), (.inr I.sn, .int m), (.inr I.nm, .int ps1.dk.tn)] = I.obj ⟨ps1.dk.cells, m, ps1.dk.tn⟩ := by
            unfold DkI.obj; rw [if_neg (by rw [g1]; decide)]
          rw [eo]
          exact q2 σ F1 _ (Same.refl _) (R1.dkSet hI rfl)
        | turn =>
          have q2 : PoS C W Gc D F1 (.next ⟨ps1.sl, ⟨ps1.dk.cells, ps1.dk.seed, m⟩⟩) := q1
          refine ⟨_, hv, I.a, _, rfl, DPut.k (k := .inr n) dd big, ?_⟩
          have ep : putK [((Sum.inr "cells" : Key), V.ref I.c), (.inr I.sn, .int ps1.dk.seed), (.inr I.nm, .int ps1.dk.tn)] (.inr n) (.int m) = [((Sum.inr "cells" : Key), V.ref I.c), (.inr I.sn, .int ps1.dk.seed), (.inr I.nm, .int m)] := by
            subst g3
            have a1 : (Sum.inr "cells" : Key) ≠ .inr I.nm := k1 I.h2.symm
            have a2 : (Sum.inr I.sn : Key) ≠ .inr I.nm := k1 I.h3.symm
            simp [putK, a1, a2]
          rw [ep]
          have eo : HO.dK [((Sum.inr "cells" : Key), V.ref I.c), (.inr I.sn, .int ps1.dk.seed), (.inr I.nm, .int m)] = I.obj ⟨ps1.dk.cells, ps1.dk.seed, m⟩ := by
            unfold DkI.obj; rw [if_neg (by rw [g1]; decide)]
          rw [eo]
          exact q2 σ F1 _ (Same.refl _) (R1.dkSet hI rfl)
      | _ => exact q1.elim
    · rw [if_neg h] at q1; exact q1.elim
theorem eqv_nil (ns : List Int) : PyData.eqv (.list (ns.map .int)) (.list []) = ns.isEmpty := by
  cases ns with
  | nil => rfl
  | cons x xs => simp [PyData.eqv, PyData.eqvAll]
theorem dkne_ok (hK : C.K = X.K) {i : Nat} (hD : DkIs C l s n) {σ : St} {H : Hp} {Q : VK} (h : tE C W (mDkNe i) σ H Q) :
    tOp (rNeD X.K) (tOp (rIxAll X.K) (tVar i) (tC (keyOf l s n .cells))) (tLst tNil) σ H Q := by
  obtain ⟨Gc, F, ps, R, q⟩ := h
  unfold mDkNe at q
  by_cases h : deckAt? ps i = true
  · rw [if_pos h] at q
    obtain ⟨d, e1, e2⟩ := deckAt_eq h
    obtain ⟨I, hI, hv, da⟩ := deck_at R e1 e2
    obtain ⟨g1, g2, g3⟩ := hD I hI
    refine ⟨_, hv, dk_ix .cells da.d g1 g2 g3 ⟨Nat.zero_le _, fun p np => ?_⟩⟩
    have nc : I.c ≠ p := ne_of_none da.l np
    refine ⟨.list (ps.dk.cells.map .int), .list [], .lst (SqL.of (by rw [upd_ne nc]; exact da.l)) ((RpA.of_ints (C := C) (F := F) _).dp R.fh (by
      have := lay_of (ints_shaped ps.dk.cells)
      simpa only [PyData.canLay0] using this) |> fun z => ?_), .lst (SqL.of upd_same) .nil, ints_shaped _, by decide, ?_⟩
    · have z2 := (RpA.of_ints (C := C) (F := F) ps.dk.cells).dp (H := upd H p (.lst [])) (fun b u q => by rw [upd_ne (ne_of_none (R.fh _ _ q) np)]; exact R.fh _ _ q) (by
        have := lay_of (ints_shaped ps.dk.cells)
        simpa only [PyData.canLay0] using this)
      rw [hK] at z2
      exact z2
    · show Q (.bl (!PyData.eqv (.list (ps.dk.cells.map .int)) (.list []))) (upd H p (.lst []))
      rw [eqv_nil]
      exact q _ F _ (Same.refl _) (R.fresh np) (.bl _)
  · rw [if_neg h] at q; exact q.elim
theorem xdk_ne {i : Nat} {p2 p3 : Pos} (hu : X.A.units + 64 < cLine) (hK : C.K = X.K) (hD : DkIs C l s n) (ho : PE X o (tVar i)) (hk : PE X kx (tC (keyOf l s n .cells))) (hs : PlainIx kx) : PE X (.Compare (.Subscript o kx p2) [.NotEq] [.List [] p3] pos) (tE C W (mDkNe i)) :=
  pe_imp (pe_cmpR (op_neD hu) (pe_ix (ix_all (by omega)) ho hk hs) (pe_lst pa_nil) (nomark _)) fun _ _ _ h => dkne_ok hK hD h
theorem xt_dk_ne {i : Nat} {p2 p3 : Pos} (hu : X.A.units + 64 < cLine) (hK : C.K = X.K) (hD : DkIs C l s n) (ho : PE X o (tVar i)) (hk : PE X kx (tC (keyOf l s n .cells))) (hs : PlainIx kx) : PT X (.Compare (.Subscript o kx p2) [.NotEq] [.List [] p3] pos) (tT C W (mTst (mDkNe i))) :=
  pt_imp (pt_cmpR (op_neD hu) (pe_ix (ix_all (by omega)) ho hk hs) (pe_lst pa_nil) (nomark _)) fun _ _ _ h => dkne_ok hK hD (tst_ok h)
theorem last_map {ns : List Int} {m : Int} (h : ns.getLast? = some m) : (ns.map V.int)[(ns.map V.int).length - 1]? = some (.int m) := by
  rw [List.getLast?_eq_getElem?] at h
  rw [List.length_map, List.getElem?_map, h]
  rfl
theorem xdk_pop {i : Nat} {p2 : Pos} (hu : X.A.units + 1 < cLine) (hD : DkIs C l s n) (ho : PE X o (tVar i)) (hk : PE X kx (tC (keyOf l s n .cells))) (hs : PlainIx kx)
    (hbase : attributeBase (.Subscript o kx p2) "pop" X.env (eval (.Subscript o kx p2) X.env) = eval (.Subscript o kx p2) X.env := by rfl) (hline : (apos.endLine == cpos.line) = true := by rfl) :
    PE X (.Call (.Attribute (.Subscript o kx p2) "pop" apos) [] [] cpos) (tE C W (mDkPop i)) :=
  pe_imp (pe_bm0 PySem.F.plainAttrs_list PySem.F.slot_list_pop PySem.F.type_list_pop mt_pop (pe_ix (ix_all hu) ho hk hs) hbase hline) fun σ H Q ⟨Gc, F, ps, R, q⟩ => by
    unfold mDkPop at q
    by_cases h : deckAt? ps i = true
    · rw [if_pos h] at q
      obtain ⟨d, e1, e2⟩ := deckAt_eq h
      obtain ⟨I, hI, hv, da⟩ := deck_at R e1 e2
      obtain ⟨g1, g2, g3⟩ := hD I hI
      refine ⟨_, hv, dk_ix .cells da.d g1 g2 g3 ⟨.inl ⟨rfl, _, SqL.of da.l⟩, ?_⟩⟩
      cases el : ps.dk.cells.getLast? with
      | none => rw [el] at q; exact q.elim
      | some m =>
        rw [el] at q
        refine ⟨I.c, _, .int m, rfl, rfl, da.l, last_map el, ?_⟩
        rw [← List.map_dropLast]
        exact q _ F _ (Same.refl _) (R.dkCells hI) (.int _)
    · rw [if_neg h] at q; exact q.elim
theorem xdk_app {i : Nat} {p2 : Pos} {ma : ME} (hu : X.A.units + 1 < cLine) (hD : DkIs C l s n) (ho : PE X o (tVar i)) (hk : PE X kx (tC (keyOf l s n .cells))) (hs : PlainIx kx) (ha : PE X e (tE C W ma))
    (hbase : attributeBase (.Subscript o kx p2) "append" X.env (eval (.Subscript o kx p2) X.env) = eval (.Subscript o kx p2) X.env := by rfl)
    (hfew : ((backTo cpos (starEach (e :: []) X.env)).all (fun x => !x.1) && (backToKw cpos (keywordEach [] X.env)).all (fun x => x.1.isSome)
      && decide ((e :: ([] : List Expr)).length + ([] : List Keyword).length + (if ([] : List Keyword).isEmpty then 0 else 1) < 30)) = true := by rfl)
    (hline : (apos.endLine == cpos.line) = true := by rfl) (hs1 : starEach (e :: []) X.env = (false, eval e X.env) :: starEach [] X.env := by rfl) (hplain : (backTo cpos (starEach [] X.env)).any (·.1) = false := by rfl) :
    PE X (.Call (.Attribute (.Subscript o kx p2) "append" apos) [e] [] cpos) (tE C W (mDkApp i ma)) :=
  pe_imp (pe_bm PySem.F.plainAttrs_list PySem.F.slot_list_append PySem.F.type_list_append mt_append (pe_ix (ix_all hu) ho hk hs) (pa_cons ha pa_nil hs1) hbase hfew hline hs1 hplain) fun σ H Q ⟨Gc, F, ps, R, q⟩ => by
    unfold mDkApp at q
    by_cases h : deckAt? ps i = true
    · rw [if_pos h] at q
      obtain ⟨d, e1, e2⟩ := deckAt_eq h
      obtain ⟨I, hI, hv, da⟩ := deck_at R e1 e2
      obtain ⟨g1, g2, g3⟩ := hD I hI
      refine ⟨_, hv, dk_ix .cells da.d g1 g2 g3 ⟨.inl ⟨rfl, _, SqL.of da.l⟩, ?_⟩⟩
      show tE C W ma σ H fun x H1 => rAppend (.ref I.c) [x] H1 Q
      refine seqE qE.mono R q fun v ps1 vv F1 H1 s1 R1 r1 q1 => ?_
      by_cases h2 : deckAt? ps1 i = true
      · rw [if_pos h2] at q1
        have da1 := R1.dk I hI
        cases v with
        | int m =>
          cases r1
          have q2 : Po C W Gc σ (qE C Gc σ Q) F1 (if ps1.dk.cells.length < sizeLine then .ok .none ⟨ps1.sl, ⟨ps1.dk.cells ++ [m], ps1.dk.seed, ps1.dk.tn⟩⟩ else .bad) := q1
          by_cases hl : ps1.dk.cells.length < sizeLine
          · rw [if_pos hl] at q2
            refine ⟨I.c, _, .int m, rfl, rfl, da1.l, by rw [List.length_map]; exact hl, ?_⟩
            have e : ps1.dk.cells.map V.int ++ [V.int m] = (ps1.dk.cells ++ [m]).map V.int := by rw [List.map_append]; rfl
            rw [e]
            exact q2 _ F1 _ (Same.refl _) (R1.dkCells hI) .non
          · rw [if_neg hl] at q2; exact q2.elim
        | _ => exact q1.elim
      · rw [if_neg h2] at q1; exact q1.elim
    · rw [if_neg h] at q; exact q.elim
end
end MM
namespace MM
open PySem PySem.Spec PyProof.Rows L2
/-! ### the def that takes the script -/
def spScr (C : Mc) (f : MF) : Sp := fun vs H Q _ => ∃ (a : Addr) (ns : List Int) (Gc F : Hp) (k : Dk), vs = [.ref a] ∧ SqL C.K H a (ns.map V.int) ∧ ns.length ≤ 63 ∧ Rel C Gc F H ⟨[], k⟩ [] ∧ PoF C none Gc Q F (f [.list (ns.map .int)] k)
def tScr (C : Mc) (i : Nat) (m : MS) : TS := fun D σ H => ∃ (a : Addr) (ns : List Int) (Gc F : Hp) (ps : Ps), σ[0]? = some (some (.ref a)) ∧ SqL C.K H a (ns.map V.int) ∧ ns.length ≤ 63 ∧ Rel C Gc F H ps σ ∧ PoS C W0 Gc D F (m (ps.setS i (.fz (.list (ns.map .int)))))
/-- cells = list(script[:63]), then the rest -/
theorem xss_scr {X : Cx} {C : Mc} {i : Nat} {st : Stmt} {rest : List Stmt} {m : MS} (hK : C.K = X.K)
    (h1 : PS X st (tAsg (tCB (fun xs H Q => ∃ p ys, xs = [.ref p] ∧ (SqL X.K H p ys ∨ SqT X.K H p ys) ∧ ∀ l, H l = none → Q (.ref l) (upd H l (.lst ys))) (tCons (tSl (rSlL X.K) (tVar 0) tNoPart (tPart (tC (.int 63)))) tNil)) (gName i)))
    (h2 : PSs X rest (tS C W0 m)) : PSs X (st :: rest) (tScr C i m) :=
  pss_imp (pss_cons h1 h2) fun D σ H ⟨a, ns, Gc, F, ps, e0, hS, hl, R, q⟩ => by
    refine ⟨.ref a, e0, 63, rfl, a, _, rfl, by rw [← hK]; exact hS, fun p np => ?_⟩
    have ec : cutV (ns.map V.int) none (some 63) = ns.map V.int := by
      unfold cutV
      have e1 : HT.sIx (ns.map V.int).length (ns.map V.int).length (some 63) = ns.length := by
        rw [show (63 : Int) = ((63 : Nat) : Int) from rfl, HT.sIx_nat, List.length_map]
        omega
      rw [e1, HT.sIx_none, List.drop_zero, Nat.sub_zero, List.take_of_length_le]
      rw [List.length_map]; exact Nat.le_refl _
    rw [ec]
    have R1 := R.fresh (p := p) (o := .lst (ns.map V.int)) np
    refine ⟨p, _, rfl, .inl (SqL.of upd_same), fun q' nq => ?_⟩
    have nf : F q' = none := R1.fh.free nq
    have R2 := R1.alloc (p := q') (o := .lst (ns.map V.int)) nq
    refine ⟨Gc, _, _, R2.set (i := i) (d := .list (ns.map .int)) (.lst upd_same (RpA.of_ints ns)), ?_⟩
    exact q.mono (same_alloc nf)
def mFunS (n i : Nat) (body : MS) : MF := fun ds k => match ds with
  | [.list xs] => (match body ⟨(List.replicate n Sl.no).set i (.fz (.list xs)), k⟩ with
    | .ret d ps => .ret d ps.dk
    | .next ps => .ret .none ps.dk
    | .exc e ps => .exc e ps.dk
    | _ => .bad)
  | _ => .bad
theorem rel_no {C : Mc} {Gc F H : Hp} {k : Dk} {n : Nat} {σ : St} (R : Rel C Gc F H ⟨[], k⟩ []) (hn : σ.length = n) : Rel C Gc F H ⟨List.replicate n Sl.no, k⟩ σ := by
  have hm : ∀ (j : Nat) (s : Sl), (List.replicate n Sl.no)[j]? = some s → s = .no := fun j s e => (List.mem_replicate.mp (List.mem_of_getElem? e)).2
  refine ⟨R.fh, R.gh, R.dj, by rw [List.length_replicate]; exact hn, fun j s e => ?_, fun j k p a _ => ?_, R.dk, fun i hi j p a => ?_⟩
  · rw [hm j s e]; trivial
  · obtain ⟨⟨s, e, m⟩, _⟩ := a; rw [hm j s e] at m; cases m
  · obtain ⟨⟨s, e, m⟩, _⟩ := a; rw [hm j s e] at m; cases m
section
variable {P : Program} {w : World} {K : PySem.W.Frag} {mg : Str → Option Value} {base : Heap}
theorem fn_scr {x qual p : Str} {st : Stmt} {f : Addr} {fd : FuncData} {N : List Str} {k i : Nat} {C : Mc} {mb : MS} (F : Fun K x qual st f fd) (S : FnScope N [p] (defScope st))
    (hbody : ∀ (cdv : Value) (A : Around) (outer : List Env) (s : Shared) (H : Hp) (E : XK), Room k (A.deeper (envOfC qual (defScope st) s.heap.objs.size f cdv)) →
      PSs (cxOf CX0 P w K mg base N qual (defScope st) f cdv A outer s H E).nox (defBody st) (tScr C i mb)) (hNl : 1 ≤ N.length := by decide) : FnOk P w K mg base CX0 (k + 1) f fd [p] (spScr C (mFunS N.length i mb)) := by
  refine F.ok S (fun vs H Q E h => ?_) (fun cdv A outer s H vs Q E hr h => ?_)
  · obtain ⟨a, ns, Gc, Fz, k', rfl, _⟩ := h
    rfl
  · obtain ⟨a, ns, Gc, Fz, k', rfl, hS, hl, R, q⟩ := h
    have hlen : (L2.start N [V.ref a]).length = N.length := by
      simp only [L2.start, List.length_append, List.length_map, List.length_replicate, List.length_cons, List.length_nil]
      omega
    refine ⟨_, hbody cdv A outer s H E hr, a, ns, Gc, Fz, ⟨List.replicate N.length .no, k'⟩, rfl, hS, hl, rel_no R hlen, ?_⟩
    have q2 : PoF C none Gc Q Fz (match mb ⟨(List.replicate N.length Sl.no).set i (.fz (.list (ns.map .int))), k'⟩ with
      | .ret d ps => .ret d ps.dk
      | .next ps => .ret .none ps.dk
      | .exc e ps => .exc e ps.dk
      | _ => .bad) := q
    show PoS C W0 Gc _ Fz (mb ⟨(List.replicate N.length Sl.no).set i (.fz (.list (ns.map .int))), k'⟩)
    cases z : mb ⟨(List.replicate N.length Sl.no).set i (.fz (.list (ns.map .int))), k'⟩ with
    | next ps => rw [z] at q2; exact fun σ' F' H' s R' => q2 .non F' H' s R'.drop .non
    | ret d ps => rw [z] at q2; exact fun v σ' F' H' s R' r' => q2 v F' H' s R'.drop r'
    | brk ps => rw [z] at q2; exact q2.elim
    | cont ps => rw [z] at q2; exact q2.elim
    | exc e ps => rw [z] at q2; exact q2.elim
    | bad => rw [z] at q2; exact q2.elim
end
/-! ### the law -/
def mc0 (K : PySem.W.Frag) : Mc := ⟨K, none, fun _ _ _ _ _ => False⟩
def deckDict (s n : Str) (k : Dk) : D := .dict [(.str "cells", .list (k.cells.map .int)), (.str s, .int k.seed), (.str n, .int k.tn)]
def k00 : Dk := ⟨[], 0, 0⟩
def spLaw (K : PySem.W.Frag) : Sp := fun vs H Q _ => ∃ (a : Addr) (ns : List Int), vs = [.ref a] ∧ SqL K H a (ns.map V.int) ∧ ns.length ≤ 63 ∧ ∀ H', Q (.bl true) H'
/-- what the law's own run tells -/
def LawRuns (mD : MF) (n i : Nat) (s t : Str) (mb : MS) : Prop := ∀ ns : List Int, ns.length ≤ 63 → ∃ k k' ps', mD [.list (ns.map .int)] k00 = .ret (deckDict s t k) k' ∧ mb ⟨(List.replicate n Sl.no).set i (.fz deckD), k⟩ = .ret (.bool true) ps'
section
variable {X : Cx} {st : Stmt} {rest : List Stmt} {i : Nat} {s t : Str} {mD : MF} {mb : MS}
def tRest (K : PySem.W.Frag) (s t : Str) (mb : MS) : TS := fun D σ H => ∃ C : Mc, C.K = K ∧ DkIs C false s t ∧ tS C W0 mb D σ H
theorem xss_rest (h : ∀ C : Mc, C.K = X.K → DkIs C false s t → PSs X rest (tS C W0 mb)) : PSs X rest (tRest X.K s t mb) :=
  ⟨fun pins s0 σ H D I ⟨C, e1, e2, q⟩ => (h C e1 e2).run pins s0 σ H D I q⟩
theorem none_rel {K : PySem.W.Frag} {H : Hp} {k : Dk} : Rel (mc0 K) (fun _ => none) (fun _ => none) H ⟨[], k⟩ [] :=
  ⟨fun _ _ h => (nomatch h), fun _ _ h => (nomatch h), fun _ _ h => (nomatch h), rfl, fun i s e => by simp at e, fun i j p ⟨⟨s, e, _⟩, _⟩ _ => by simp at e, fun i h => (nomatch h), fun i h => (nomatch h)⟩
theorem kD_str {k : Key} {x : Str} (h : PyData.str x = kD k) : k = .inr x := by
  cases k with
  | inl z => cases h
  | inr z => cases h; rfl
theorem law_reads (h1 : s ≠ "cells") (h2 : t ≠ "cells") (h3 : t ≠ s) {D : Ends} {σ : St} {H : Hp} {n : Nat} {a : Addr} {ns : List Int} (hn : σ.length = n) (e0 : σ[0]? = some (some (.ref a))) (hS : SqL X.K H a (ns.map V.int)) (hl : ns.length ≤ 63)
    (hr : LawRuns mD n i s t mb) (hq : ∀ H', D.rt (.bl true) H') : tSeq (tAsg (tCall (spScr (mc0 X.K) mD) [] E0 (tCons (tVar 0) tNil)) (gName i)) (tRest X.K s t mb) D σ H := by
  obtain ⟨k, k', ps', d1, d2⟩ := hr ns hl
  refine ⟨.ref a, e0, ?_⟩
  show spScr (mc0 X.K) mD ([V.ref a] ++ []) H _ E0
  refine ⟨a, ns, fun _ => none, fun _ => none, k00, rfl, hS, hl, none_rel, ?_⟩
  rw [d1]
  intro v F' H' _ R' r
  generalize hd : deckDict s t k = d at r
  cases r with
  | dct f1 r1 r2 =>
    rename_i p kvs ds
    unfold deckDict at hd
    injection hd with hd
    subst hd
    match kvs, r1, r2 with
    | [x1, x2, x3], .cons y1 (.cons y2 (.cons y3 .nil)), r2 =>
      rw [List.map_cons, List.map_cons, List.map_cons, List.map_cons, List.map_cons, List.map_cons] at r2
      injection r2 with z1 r2
      injection r2 with z2 r2
      injection r2 with z3 r2
      have w1 := kD_str z1
      have w2 := kD_str z2
      have w3 := kD_str z3
      obtain ⟨x1k, x1v⟩ := x1
      obtain ⟨x2k, x2v⟩ := x2
      obtain ⟨x3k, x3v⟩ := x3
      simp only at w1 w2 w3
      subst w1; subst w2; subst w3
      cases y2 with
      | int _ =>
        cases y3 with
        | int _ =>
          cases y1 with
          | lst g1 g2 =>
            rename_i c xs
            have ex := g2.ints
            subst ex
            let I : DkI := ⟨p, c, false, s, t, h1, h2, h3⟩
            refine ⟨⟨X.K, some I, fun _ _ _ _ _ => False⟩, rfl, fun i' hi => by cases hi; exact ⟨rfl, rfl, rfl⟩, fun _ => none, fun _ => none, ⟨(List.replicate n Sl.no).set i (.fz deckD), k⟩, ?_, ?_⟩
            · have hm : ∀ (j : Nat) (s' : Sl), ((List.replicate n Sl.no).set i (.fz deckD))[j]? = some s' → s' = .no ∨ (j = i ∧ s' = .fz deckD) := fun j s' e => by
                by_cases hj : j = i
                · subst hj
                  rw [List.getElem?_set] at e
                  simp only [if_pos] at e
                  split at e
                  · cases e; exact .inr ⟨rfl, rfl⟩
                  · cases e
                · rw [List.getElem?_set_ne (Ne.symm hj)] at e
                  exact .inl (List.mem_replicate.mp (List.mem_of_getElem? e)).2
              have nown : ∀ {σ : St} {j : Nat} {b : Addr}, ¬ Own ((List.replicate n Sl.no).set i (.fz deckD)) σ j b := fun {σ j b} ⟨⟨s', e, m⟩, _⟩ => by
                rcases hm j s' e with z | ⟨_, z⟩
                · rw [z] at m; cases m
                · rw [z] at m; cases m
              refine ⟨fun _ _ h => (nomatch h), fun _ _ h => (nomatch h), fun _ _ h => (nomatch h), by rw [List.length_set, List.length_set, List.length_replicate]; exact hn, fun j s' e => ?_, fun j k p a _ => (nown a).elim, fun i' hi => ?_, fun i' _ j p a => (nown a).elim⟩
              · rcases hm j s' e with z | ⟨z1, z⟩
                · rw [z]; trivial
                · subst z1; rw [z]
                  have hj : j < n := by
                    have := (List.getElem?_eq_some_iff.mp e).1
                    simpa using this
                  exact ⟨.ref p, by rw [List.getElem?_set_self (by rw [hn]; exact hj)], Rp.deck (i := I) rfl⟩
              · cases hi
                exact ⟨R'.fh _ _ f1, R'.fh _ _ g1, rfl, rfl, rfl, rfl⟩
            · rw [d2]
              intro v' σ' F2 H2 _ _ rv
              cases rv
              exact hq H2
    | [], r1, _ => nomatch r1
    | [_], r1, _ => nomatch r1
    | [_, _], r1, _ => nomatch r1
    | _ :: _ :: _ :: _ :: _, r1, _ => nomatch r1
  | _ => cases hd
end
section
variable {P : Program} {w : World} {K : PySem.W.Frag} {mg : Str → Option Value} {base : Heap}
theorem law_ok {x qual p : Str} {st : Stmt} {f : Addr} {fd : FuncData} {N : List Str} {k i : Nat} {s t : Str} {mD : MF} {mb : MS} (F : Fun K x qual st f fd) (S : FnScope N [p] (defScope st))
    (hbody : ∀ (cdv : Value) (A : Around) (outer : List Env) (s0 : Shared) (H : Hp) (E : XK), Room k (A.deeper (envOfC qual (defScope st) s0.heap.objs.size f cdv)) →
      PSs (cxOf CX0 P w K mg base N qual (defScope st) f cdv A outer s0 H E).nox (defBody st) (tSeq (tAsg (tCall (spScr (mc0 K) mD) [] E0 (tCons (tVar 0) tNil)) (gName i)) (tRest K s t mb)))
    (hr : LawRuns mD N.length i s t mb) (h1 : s ≠ "cells" := by decide +kernel) (h2 : t ≠ "cells" := by decide +kernel) (h3 : t ≠ s := by decide +kernel) (hNl : 1 ≤ N.length := by decide) : FnOk P w K mg base CX0 (k + 1) f fd [p] (spLaw K) := by
  refine F.ok S (fun vs H Q E h => ?_) (fun cdv A outer s0 H vs Q E hr' h => ?_)
  · obtain ⟨a, ns, rfl, _⟩ := h
    rfl
  · obtain ⟨a, ns, rfl, hS, hl, q⟩ := h
    have hlen : (L2.start N [V.ref a]).length = N.length := by
      simp only [L2.start, List.length_append, List.length_map, List.length_replicate, List.length_cons, List.length_nil]
      omega
    exact ⟨_, hbody cdv A outer s0 H E hr', law_reads (X := (cxOf CX0 P w K mg base N qual (defScope st) f cdv A outer s0 H E).nox) h1 h2 h3 hlen rfl hS hl hr q⟩
end
/-! ### two and three names at once, some of them new lists and dicts of our own -/
section
variable {X : Cx} {C : Mc} {W : WX} {Gc F H : Hp} {ps : Ps} {σ : St} {p q : Addr} {o u : HO}
theorem PoS.gsub {D : Ends} {x : So} (h : PoS C W Gc D F x) (g : Gc p = none) : PoS C W (upd Gc p o) D F x := by
  cases x with
  | next ps' => exact fun σ' F' H' s R => h σ' F' H' s (R.outG g).1
  | ret d ps' => exact fun v σ' F' H' s R r => h v σ' F' H' s (R.outG g).1 r
  | brk ps' => exact fun σ' F' H' s R => h σ' F' H' s (R.outG g).1
  | cont ps' => exact fun σ' F' H' s R => h σ' F' H' s (R.outG g).1
  | exc e ps' => exact fun σ' F' H' c d s R => h σ' F' H' c d s (R.outG g).1
  | bad => exact h
/-- {..}, [..] -/
def mParDL (i j : Nat) (a : Ps → Out (List (Key × D))) (b : MLs) : MS := fun ps => (a ps).bindS fun kvs ps1 => (b ps1).bindS fun ys ps2 => .next ((ps2.setS i (.md kvs)).setS j (.ml ys))
theorem parDL_ok {i j : Nat} (hij : i ≠ j) {a : Ps → Out (List (Key × D))} {b : MLs} {D : Ends} {σ : St} {H : Hp} (h : tS C W (mParDL i j a b) D σ H) : tPar i j (tCons (tFd C W a) (tCons (tF C W b) tNil)) D σ H := by
  obtain ⟨Gc, F, ps, R, q⟩ := h
  refine seqFdS R q fun kvs ps1 p pk F1 H1 s1 R1 l1 r1 e1 q1 => ?_
  have g1 : Gc p = none := l1.g
  refine ⟨_, F1, ps1, R1.inG l1, ?_⟩
  cases z : b ps1 with
  | bad => rw [z] at q1; exact q1.elim
  | exc e ps2 => rw [z] at q1; exact fun F' H' c d s R' => q1 σ F' H' c d s (R'.outG g1).1
  | ok ys ps2 =>
    rw [z] at q1
    intro p2 xs F2 H2 s2 R2 l2 r2
    obtain ⟨R3, l3⟩ := R2.outG g1
    have g2 : Gc p2 = none ∧ p2 ≠ p := by
      have g := l2.g
      have hb : p2 ≠ p := fun w => by rw [w, upd_same] at g; cases g
      rw [upd_ne hb] at g
      exact ⟨g, hb⟩
    refine ⟨_, _, rfl, q1 _ F2 H2 s2 ?_⟩
    have R4 := R3.setO (i := i) l3 (s := .md kvs) ⟨p, pk, rfl, l3.h, l3.f, l3.g, r1.mono s2, e1⟩
    refine R4.setO (i := j) (s := .ml ys) (p := p2) (o := .lst xs) ⟨l2.h, l2.f, g2.1, l2.d, fun m w => ?_⟩ ⟨p2, xs, rfl, l2.h, l2.f, g2.1, r2⟩
    obtain ⟨⟨s', e, mm⟩, e2⟩ := w
    by_cases hm : m = i
    · subst hm
      rw [List.getElem?_set] at e2
      simp only [if_pos] at e2
      split at e2
      · cases e2; exact g2.2 rfl
      · cases e2
    · have e' : ps2.sl[m]? = some s' := by rwa [Ps.setS, List.getElem?_set_ne (Ne.symm hm)] at e
      rw [List.getElem?_set_ne (Ne.symm hm)] at e2
      exact l2.w m ⟨⟨s', e', mm⟩, e2⟩
/-- {..}, x, y -/
def mParDEE (i j k : Nat) (a : Ps → Out (List (Key × D))) (b c : ME) : MS := fun ps => (a ps).bindS fun kvs ps1 => (b ps1).bindS fun y ps2 => (c ps2).bindS fun z ps3 => .next (((ps3.setS i (.md kvs)).setS j (.fz y)).setS k (.fz z))
theorem parDEE_ok {i j k : Nat} {a : Ps → Out (List (Key × D))} {b c : ME} {D : Ends} {σ : St} {H : Hp} (h : tS C W (mParDEE i j k a b c) D σ H) : tPar3 i j k (tCons (tFd C W a) (tCons (tE C W b) (tCons (tE C W c) tNil))) D σ H := by
  obtain ⟨Gc, F, ps, R, q⟩ := h
  refine seqFdS R q fun kvs ps1 p pk F1 H1 s1 R1 l1 r1 e1 q1 => ?_
  have g1 : Gc p = none := l1.g
  have q1' : PoS C W (upd Gc p (.dK pk)) D F1 ((b ps1).bindS fun y ps2 => (c ps2).bindS fun z ps3 => .next (((ps3.setS i (.md kvs)).setS j (.fz y)).setS k (.fz z))) → True := fun _ => trivial
  refine ⟨_, F1, ps1, R1.inG l1, ?_⟩
  cases z : b ps1 with
  | bad => rw [z] at q1; exact q1.elim
  | exc e ps2 => rw [z] at q1; exact fun F' H' c d s R' => q1 σ F' H' c d s (R'.outG g1).1
  | ok y ps2 =>
    rw [z] at q1
    intro v2 F2 H2 s2 R2 r2
    refine ⟨_, F2, ps2, R2, ?_⟩
    have q2 := q1.mono s2
    cases z3 : c ps2 with
    | bad => dsimp only [Out.bindS_ok] at q2; rw [z3] at q2; exact q2.elim
    | exc e ps3 => dsimp only [Out.bindS_ok] at q2; rw [z3] at q2; exact fun F' H' c d s R' => q2 σ F' H' c d s (R'.outG g1).1
    | ok y3 ps3 =>
      dsimp only [Out.bindS_ok] at q2
      rw [z3] at q2
      intro v3 F3 H3 s3 R3 r3
      obtain ⟨R4, l4⟩ := R3.outG g1
      refine ⟨_, _, _, rfl, q2 _ F3 H3 s3 ?_⟩
      exact ((R4.setO (i := i) l4 (s := .md kvs) ⟨p, pk, rfl, l4.h, l4.f, l4.g, r1.mono (s2.trans s3), e1⟩).set (r2.mono s3)).set r3
end
end MM
namespace MM
open PySem PySem.Spec PyProof.Rows L2
theorem hu65 {A : Around} {k : Nat} (hr : Room k A) : A.units + 65 < cLine := by have := hr.un; omega
theorem hu1 {A : Around} {k : Nat} (hr : Room k A) : A.units + 1 < cLine := by have := hr.un; omega
section
variable {X : Cx} {C : Mc} {W : WX} {e : Expr} {pos : Pos}
/-- target = value, any target -/
def mAsg (g : MG) (a : ME) : MS := fun ps => (a ps).bindS fun d ps1 => match g d ps1 with
  | some ps2 => .next ps2
  | none => .bad
theorem xs_asg {tg : Expr} {g : MG} {ts : List Nat} {ma : ME} (he : PE X e (tE C W ma)) (hg : PG X tg (tG C ts g)) (hs : swapsWithSole [tg] e pos.line X.env = pure false := by rfl) (hw : swappedStores [tg] e X.env = pure none := by rfl)
    (h1 : (assignEach [tg] X.env).map (·.2) = [assign tg X.env] := by rfl) : PS X (.Assign [tg] e pos) (tS C W (mAsg g ma)) :=
  ps_imp (ps_asg he hg hs hw h1) fun D σ H ⟨Gc, F, ps, R, q⟩ => seqES R q fun d ps1 v F1 H1 s1 R1 r1 q1 => by
    cases z : g d ps1 with
    | none => rw [z] at q1; exact q1.elim
    | some ps2 =>
      rw [z] at q1
      exact ⟨Gc, F1, ps1, d, ps2, R1, r1, z, fun σ' F' H' s R' _ => q1 σ' F' H' s R'⟩
/-- a, b, c = {..}, x, y by a tuple that is laid and taken apart -/
theorem asgDEE_ok {i j k : Nat} {a : Ps → Out (List (Key × D))} {b c : ME} {D : Ends} {σ : St} {H : Hp} (h : tS C W (mParDEE i j k a b c) D σ H) :
    tAsg (tTup (tCons (tFd C W a) (tCons (tE C W b) (tCons (tE C W c) tNil)))) (gTup X.K 3 (gCons (gName i) (gCons (gName j) (gCons (gName k) gNil)))) D σ H := by
  obtain ⟨Gc, F, ps, R, q⟩ := h
  refine seqFdS R q fun kvs ps1 p pk F1 H1 s1 R1 l1 r1 e1 q1 => ?_
  have g1 : Gc p = none := l1.g
  refine ⟨_, F1, ps1, R1.inG l1, ?_⟩
  cases z : b ps1 with
  | bad => rw [z] at q1; exact q1.elim
  | exc e ps2 => rw [z] at q1; exact fun F' H' c d s R' => q1 σ F' H' c d s (R'.outG g1).1
  | ok y ps2 =>
    rw [z] at q1
    intro v2 F2 H2 s2 R2 r2
    refine ⟨_, F2, ps2, R2, ?_⟩
    have q2 := q1.mono s2
    cases z3 : c ps2 with
    | bad => dsimp only [Out.bindS_ok] at q2; rw [z3] at q2; exact q2.elim
    | exc e ps3 => dsimp only [Out.bindS_ok] at q2; rw [z3] at q2; exact fun F' H' c d s R' => q2 σ F' H' c d s (R'.outG g1).1
    | ok y3 ps3 =>
      dsimp only [Out.bindS_ok] at q2
      rw [z3] at q2
      intro v3 F3 H3 s3 R3 r3
      refine ⟨by show 3 ≤ sizeLine; decide, fun t nt => ?_⟩
      have R3' := R3.fresh (p := t) (o := .tup [V.ref p, v2, v3]) nt
      obtain ⟨R4, l4⟩ := R3'.outG g1
      refine ⟨t, _, rfl, .of upd_same, rfl, _, _, rfl, _, _, rfl, _, _, rfl, rfl, ?_⟩
      refine q2 _ F3 _ s3 ?_
      exact ((R4.setO (i := i) l4 (s := .md kvs) ⟨p, pk, rfl, l4.h, l4.f, l4.g, r1.mono (s2.trans s3), e1⟩).set (r2.mono s3)).set r3
end
section
variable {X : Cx} {C : Mc}
def dIsB (x y : D) : Option D := match x, y with
  | .bool a, .bool b => some (.bool (decide (a = b)))
  | _, _ => none
def dNotB (x y : D) : Option D := match x, y with
  | .bool a, .bool b => some (.bool (!decide (a = b)))
  | _, _ => none
theorem om_isB : OpM C dIsB rIsB := by
  intro Gc F H ps σ v u x y z Q R rx ry hz q
  unfold dIsB at hz
  split at hz
  · cases hz; cases rx; cases ry
    exact ⟨_, _, rfl, rfl, q _ F H (Same.refl _) R (.bl _)⟩
  · cases hz
theorem om_notB : OpM C dNotB rNotB := by
  intro Gc F H ps σ v u x y z Q R rx ry hz q
  unfold dNotB at hz
  split at hz
  · cases hz; cases rx; cases ry
    exact ⟨_, _, rfl, rfl, q _ F H (Same.refl _) R (.bl _)⟩
  · cases hz
end
end MM
/-! list(range(..)), tuple(range(..)). -/
namespace MM
open PySem PySem.Spec PyProof.Rows L2
section
variable {X : Cx} {C : Mc} {W : WX} {e a b : Expr} {pos p p2 pos2 : Pos}
def rgD (i j : Int) : Option (List D) := if (decide (i.natAbs < 16777217) && decide (j.natAbs < 16777217) && decide ((j - i).toNat < 16777217)) = true then some (rangeD i (j - i).toNat) else none
def dRg : List D → Option (List D)
  | [.int j] => rgD 0 j
  | [.int i, .int j] => rgD i j
  | _ => none
def mRgL (m : MA) : MLs := fun ps => (m ps).bind fun ds ps1 => .of (dRg ds) ps1
theorem rpa_rg {F : Hp} (i j : Int) : RpA C F (rgV i j) (rangeD i (j - i).toNat) := by
  unfold rgV rangeD
  generalize List.range (j - i).toNat = xs
  induction xs with
  | nil => exact .nil
  | cons x xs ih => exact .cons (.int _) ih
theorem rgD_ok {i j : Int} {ds : List D} (h : rgD i j = some ds) : RgOk i j ∧ ds = rangeD i (j - i).toNat := by
  unfold rgD at h
  split at h
  · rename_i hc
    rw [Bool.and_eq_true, Bool.and_eq_true] at hc
    have h1 := of_decide_eq_true hc.1.1
    have h2 := of_decide_eq_true hc.1.2
    have h3 := of_decide_eq_true hc.2
    cases h
    exact ⟨⟨by omega, by omega, by omega, by omega, by omega⟩, rfl⟩
  · cases h
theorem xlistRg1 {ma : ME} (hc : X.calm = true) (hg : Gl X "list") (hm : X.mg "list" = none) (hg2 : Gl X "range") (hm2 : X.mg "range" = none) (ha : PE X a (tE C W ma)) (na : starEach [a] X.env = (false, eval a X.env) :: starEach [] X.env := by rfl)
    (na2 : starEach [.Call (.Name "range" p2) [a] [] pos2] X.env = (false, eval (.Call (.Name "range" p2) [a] [] pos2) X.env) :: starEach [] X.env := by rfl) :
    PE X (.Call (.Name "list" p) [.Call (.Name "range" p2) [a] [] pos2] [] pos) (tF C W (mRgL (mCons ma mNil))) :=
  pe_imp (pe_listRg hc hg hm (prg_1 hg2 hm2 ha na) na2) fun σ H Q ⟨Gc, F, ps, R, q⟩ => by
    have q' : Po C W Gc σ (qF C Gc σ Q) F ((ma ps).bind fun x ps1 => .of (dRg [x]) ps1) := by
      revert q; unfold mRgL mCons mNil; cases ma ps <;> exact fun h => h
    refine seqE qF.mono R q' fun x ps1 v F1 H1 s1 R1 r1 q1 => ?_
    cases z : dRg [x] with
    | none => rw [z] at q1; exact q1.elim
    | some ds =>
      rw [z] at q1
      cases x with
      | int j =>
        cases r1
        obtain ⟨ok, rfl⟩ := rgD_ok z
        exact ⟨j, rfl, ok, fun p n => q1 p _ F1 _ (Same.refl _) (R1.fresh n) (R1.loose n) (rpa_rg _ _)⟩
      | _ => cases z
theorem xlistRg2 {ma mb : ME} (hc : X.calm = true) (hg : Gl X "list") (hm : X.mg "list" = none) (hg2 : Gl X "range") (hm2 : X.mg "range" = none) (ha : PE X a (tE C W ma)) (hb : PE X b (tE C W mb)) (na : starEach [a, b] X.env = (false, eval a X.env) :: starEach [b] X.env := by rfl)
    (nb : starEach [b] X.env = (false, eval b X.env) :: starEach [] X.env := by rfl) (hp : (backTo pos2 (starEach [b] X.env)).any (·.1) = false := by rfl)
    (na2 : starEach [.Call (.Name "range" p2) [a, b] [] pos2] X.env = (false, eval (.Call (.Name "range" p2) [a, b] [] pos2) X.env) :: starEach [] X.env := by rfl) :
    PE X (.Call (.Name "list" p) [.Call (.Name "range" p2) [a, b] [] pos2] [] pos) (tF C W (mRgL (mCons ma (mCons mb mNil)))) :=
  pe_imp (pe_listRg hc hg hm (prg_2 hg2 hm2 ha hb na nb hp) na2) fun σ H Q ⟨Gc, F, ps, R, q⟩ => by
    have q' : Po C W Gc σ (qF C Gc σ Q) F ((ma ps).bind fun x ps1 => (mb ps1).bind fun y ps2 => .of (dRg [x, y]) ps2) := by
      revert q; unfold mRgL mCons mNil
      cases ma ps with
      | ok x ps1 => dsimp only [Out.bind_ok]; cases mb ps1 <;> exact fun h => h
      | _ => exact fun h => h
    refine seqE qF.mono R q' fun x ps1 v F1 H1 s1 R1 r1 q1 => ?_
    refine seqE qF.mono R1 q1 fun y ps2 u F2 H2 s2 R2 r2 q2 => ?_
    cases z : dRg [x, y] with
    | none => rw [z] at q2; exact q2.elim
    | some ds =>
      rw [z] at q2
      cases x with
      | int i =>
        cases y with
        | int j =>
          cases r1
          cases r2
          obtain ⟨ok, rfl⟩ := rgD_ok z
          exact ⟨i, j, rfl, rfl, ok, fun p n => q2 p _ F2 _ (Same.refl _) (R2.fresh n) (R2.loose n) (rpa_rg _ _)⟩
        | _ => cases z
      | _ => cases z
end
end MM
/-! Defs that are called while no repr is under way: what a def promises there, calls of it, the law's own call. -/
namespace MM
open PySem PySem.Spec PyProof.Rows L2
/-- no repr is under way -/
def Calm (A : Around) : Prop := A.guards = some []
theorem Calm.deeper {A : Around} {env : Env} (h : Calm A) : Calm (A.deeper env) := h
structure FnG (P : Program) (w : World) (K : PySem.W.Frag) (mg : Str → Option Value) (base : Heap) (k : Nat) (f : Addr) (fd : FuncData) (pn : List Str) (sp : Sp) : Prop where
  ln : ∀ xs H Q E, sp xs H Q E → xs.length = pn.length
  go : ∀ (A : Around) (fr : List Env) (s : Shared) (H : Hp) (gs : Args) (us : List Value) (xs : List V) (Q : VK) (E : XK), Calm A → Room k A → Env0 P w K mg base A fr s H → BindsTo s fd gs (pn.zip us) → Vals xs us → sp xs H Q E →
    codeAny (model P w) A (.call (.ref f) gs) (CR CX0 fr P w H s Q E) s
section
variable {P : Program} {w : World} {K : PySem.W.Frag} {mg : Str → Option Value} {base : Heap} {k : Nat} {f : Addr} {fd : FuncData} {pn : List Str} {sp : Sp}
theorem FnG.of (F : FnOk P w K mg base CX0 k f fd pn sp) : FnG P w K mg base k f fd pn sp := ⟨F.len, fun A fr s H gs us xs Q E _ => F.run A fr s H gs us xs Q E⟩
theorem FnG.mono {j : Nat} (F : FnG P w K mg base j f fd pn sp) (h : j ≤ k) : FnG P w K mg base k f fd pn sp := ⟨F.ln, fun A fr s H gs us xs Q E c r => F.go A fr s H gs us xs Q E c (r.mono h)⟩
/-- a def by its body -/
theorem okG {x qual : Str} {st : Stmt} {N : List Str} (F : Fun K x qual st f fd) (S : FnScope N pn (defScope st)) (ln : ∀ xs H Q E, sp xs H Q E → xs.length = pn.length)
    (hb : ∀ (cdv : Value) (A : Around) (fr : List Env) (s : Shared) (H : Hp) (xs : List V) (Q : VK) (E : XK), Calm A → Room k (A.deeper (envOfC qual (defScope st) s.heap.objs.size f cdv)) → sp xs H Q E →
      ∃ t, PSs (cxOf CX0 P w K mg base N qual (defScope st) f cdv A fr s H E).nox (defBody st) t ∧ t { nx := fun _ H' => Q .non H', rt := Q } (start N xs) H) : FnG P w K mg base (k + 1) f fd pn sp := by
  obtain ⟨oc, od, kV, doc, pm, an, cdv, ct, osl, rfl, lk, hcd⟩ := F.ex
  refine ⟨ln, fun A fr s H gs us xs Q E cA hr e0 bi rv hs => ?_⟩
  have up : ∀ b o, base.get? b = some o → s.heap.get? b = some o := fun b o e => (e0.bs b o e).1
  refine Att.call_fn (e0.mod.kin.keeps up) (e0.mod.nolimit.keeps up) lk hcd hr.depth bi (List.all_eq_true.mpr fun ⟨n, v⟩ hy => ?_) (fun s1 x => ?_) S.co S.gen S.kind
  · rcases S.par n (List.of_mem_zip hy).1 with q | q <;> simp [q]
  · obtain ⟨t, ht, q⟩ := hb cdv A fr s H xs Q E cA (hr.deeper _) hs
    have J0 := inv_start (CX := CX0) (P := P) (w := w) (qual := qual) (f := f) (cd := cdv) (E := E) S hr.hd e0 (ln _ _ _ _ hs) rv x
    refine wpAny_mono (ht.run [] s1 (start N xs) H _ (J0.wish _) q) (fun fl s' z => ?_) fun _ _ z => False.elim z
    cases fl with
    | ret u =>
      obtain ⟨v, σ', H', J, rv', q'⟩ := z
      exact ⟨v, H', J.os, J.bare, J.base, J.hok, rv', q'⟩
    | next =>
      obtain ⟨σ', H', J, q'⟩ := z
      exact ⟨.non, H', J.os, J.bare, J.base, J.hok, rfl, q'⟩
    | brk => obtain ⟨σ', H', J, q'⟩ := z; exact False.elim q'
    | cont => obtain ⟨σ', H', J, q'⟩ := z; exact False.elim q'
end
section
variable {X : Cx} {C : Mc} {W : WX} {e : Expr} {es : List Expr} {kws : List Keyword} {pos p : Pos} {k : Nat} {f : Addr} {fd : FuncData} {pn ks : List Str} {x : Str} {mf : MF} {sp : Sp} {t tk : TA}
theorem end_fn {pins : List (Addr × Obj)} {σ : St} {H : Hp} {s : Shared} {Q : VK} (I : Inv X pins σ H s) {r : Result} {s' : Shared} (h : CR CX0 X.stack X.prog X.w H s Q E0 r s') : ∃ u, r = .ok (.ret u) ∧ EP X pins σ Q u s' := by
  match r, h with
  | .ok (.ret u), h => exact ⟨u, rfl, I.after h⟩
  | .ok .next, h => exact False.elim h
  | .ok .brk, h => exact False.elim h
  | .ok .cont, h => exact False.elim h
  | .error _, h => exact False.elim h
theorem goG (G : FnG X.prog X.w X.K X.mg X.base k f fd pn sp) (cA : Calm X.A) (hr : Room k X.A) (hb : Binds X.K fd pn []) {pins : List (Addr × Obj)} {σ : St} {H : Hp} {s : Shared} {Q : VK} {us : List Value} {xs : List V} (I : Inv X pins σ H s) (r : Vals xs us) (h : sp xs H Q E0) :
    wpAny (model X.prog X.w) X.A (call (.ref f) us) (EP X pins σ Q) X.xe s := by
  have hl := r.length
  have hn := G.ln _ _ _ _ h
  have b := hb s us I.kIn (by rw [List.append_nil]; omega)
  rw [List.append_nil] at b
  refine wpAny_call (codeAny_mono (G.go X.A X.stack s H ⟨us, []⟩ us xs Q E0 cA hr I.env0 b r h) fun r s' z => ?_)
  obtain ⟨u, e, y⟩ := end_fn I z
  subst e
  exact y
theorem goGk (G : FnG X.prog X.w X.K X.mg X.base k f fd pn sp) (cA : Calm X.A) (hr : Room k X.A) {n m : Nat} {π : List Nat} (hb : KBinds X.K fd pn ks (pick n m π) (pick n m π)) {pins : List (Addr × Obj)} {σ : St} {H : Hp} {s : Shared} {Q : VK} {us ws : List Value} {xs zs : List V} (I : Inv X pins σ H s)
    (r : Vals xs us) (rz : Vals zs ws) (h : sp (pick n m π xs zs) H Q E0) : wpAny (model X.prog X.w) X.A (call (.ref f) us (ks.zip ws)) (EP X pins σ Q) X.xe s := by
  have r2 := hb.rel r rz
  have hl := r2.length
  have hn := G.ln _ _ _ _ h
  refine wpAny_call (codeAny_mono (G.go X.A X.stack s H ⟨us, ks.zip ws⟩ (pick n m π us ws) _ Q E0 cA hr I.env0 (hb.to s us ws I.kIn (by omega)) r2 h) fun r s' z => ?_)
  obtain ⟨u, e, y⟩ := end_fn I z
  subst e
  exact y
/-- what a call of it tells -/
theorem tellG {vs : List V} {ds : List D} {ps1 : Ps} {Gc F1 H1 : Hp} {σ : St} {Q : VK} {np : Nat} (R1 : Rel C Gc F1 H1 ps1 σ) (r1 : RpA C F1 vs ds) (q1 : Po C W Gc σ (qE C Gc σ Q) F1 (match mf ds ps1.dk with
    | .ret d k => .ok d ⟨ps1.sl, k⟩
    | _ => .bad)) : spM C mf vs H1 Q E0 := by
  obtain ⟨Gc', R2, back⟩ := R1.enter
  refine ⟨Gc', F1, ds, ps1.dk, R2, r1, ?_⟩
  cases z : mf ds ps1.dk with
  | ret d k' => rw [z] at q1; exact fun v F' H' s R' r => q1 v F' H' s (back F' H' k' s R') r
  | exc e' k' => rw [z] at q1; exact q1.elim
  | bad => rw [z] at q1; exact q1.elim
theorem gcall {ma : MA} (G : FnG X.prog X.w X.K X.mg X.base k f fd pn (spM C mf)) (cA : Calm X.A) (hr : Room k X.A) (hg : Gl X x) (hm : X.mg x = some (.ref f)) (hk : PySem.W.keepIn X.K (.ref f) = true) (hb : Binds X.K fd pn []) (ha : PA X (e :: es) (tA C W ma))
    (hdb : (x == ("__debug__" : Str)) = false := by decide) (he : starEach (e :: es) X.env = (false, eval e X.env) :: starEach es X.env := by rfl) (hpl : (backTo pos (starEach es X.env)).any (·.1) = false := by rfl) :
    PE X (.Call (.Name x p) (e :: es) [] pos) (tE C W (mCall mf ma)) :=
  ⟨fun pins s σ H Q I ⟨Gc, F, ps, R, q⟩ => wpAny_Call_Name_kw (ld_glob I hg hm (PySem.W.callWith_K (h₀ := X.base) I.ok.mod.kin hk
    (thn (ha.run pos pins s σ H _ I (seqA qE.mono R q fun ds ps1 vs F1 H1 s1 R1 r1 q1 => tellG (np := 0) R1 r1 q1)) fun us s1 ⟨vs, H1, I1, r, h⟩ => ⟨I1.kIn, goG G cA hr hb I1 r h⟩) he hpl) hdb)⟩
theorem gcall0 (G : FnG X.prog X.w X.K X.mg X.base k f fd pn (spM C mf)) (cA : Calm X.A) (hr : Room k X.A) (hg : Gl X x) (hm : X.mg x = some (.ref f)) (hk : PySem.W.keepIn X.K (.ref f) = true) (hb : Binds X.K fd pn [])
    (hdb : (x == ("__debug__" : Str)) = false := by decide) : PE X (.Call (.Name x p) [] [] pos) (tE C W (mCall mf mNil)) :=
  ⟨fun pins s σ H Q I ⟨Gc, F, ps, R, q⟩ => wpAny_Call_Name_kw (ld_glob I hg hm (PySem.W.callWith_K0 I.kIn hk (goG G cA hr hb I .nil (tellG (np := 0) R .nil q))) hdb)⟩
theorem gcallK0 {n m : Nat} {π : List Nat} {mk : MA} (G : FnG X.prog X.w X.K X.mg X.base k f fd pn (spM C mf)) (cA : Calm X.A) (hr : Room k X.A) (hg : Gl X x) (hm : X.mg x = some (.ref f)) (hk : PySem.W.keepIn X.K (.ref f) = true) (hb : KBinds X.K fd pn ks (pick n m π) (pick n m π))
    (hkw : PK X kws (tA C W mk)) (hall : (backToKw pos (keywordEach kws X.env)).all (·.1.isSome) = true := by rfl) (hks : (backToKw pos (keywordEach kws X.env)).filterMap (·.1) = ks := by rfl)
    (hdb : (x == ("__debug__" : Str)) = false := by decide) (hpl : ((backTo pos (starEach [] X.env)).any (·.1) || (backToKw pos (keywordEach kws X.env)).any (·.1.isNone)) = false := by rfl) :
    PE X (.Call (.Name x p) [] kws pos) (tE C W (mCallK mf (pick n m π) mNil mk)) :=
  ⟨fun pins s σ H Q I ⟨Gc, F, ps, R, q⟩ => wpAny_Call_Name_kw (ld_glob I hg hm (PySem.W.callWith_KW0 (h₀ := X.base) I.ok.mod.kin hk hall
    (thn (hkw.run pos pins s σ H _ I (seqA (Q := fun zs H2 => spM C mf (pick n m π [] zs) H2 Q E0) qE.mono R q fun ds ps1 vs F1 H1 s1 R1 r1 q1 => tellG (np := 0) R1 (pick_rpa n m π .nil r1) q1)) fun ws s2 ⟨zs, H2, I2, rz, h⟩ => ⟨I2.kIn, by rw [hks]; exact goGk (us := []) G cA hr hb I2 .nil rz h⟩) hpl) hdb)⟩
end
section
variable {P : Program} {w : World} {K : PySem.W.Frag} {mg : Str → Option Value} {base : Heap}
/-- a def by its plain function -/
theorem fn_okG {x qual : Str} {st : Stmt} {f : Addr} {fd : FuncData} {N pn : List Str} {k : Nat} {C : Mc} {mb : MS} (F : Fun K x qual st f fd) (S : FnScope N pn (defScope st))
    (hb : ∀ (cdv : Value) (A : Around) (fr : List Env) (s : Shared) (H : Hp) (E : XK), Calm A → Room k (A.deeper (envOfC qual (defScope st) s.heap.objs.size f cdv)) →
      PSs (cxOf CX0 P w K mg base N qual (defScope st) f cdv A fr s H E).nox (defBody st) (tS C W0 mb)) : FnG P w K mg base (k + 1) f fd pn (spM C (mFun pn.length N.length mb)) := by
  refine okG F S (fun vs H Q E h => ?_) (fun cdv A fr s H vs Q E cA hr h => ?_)
  · obtain ⟨Gc, Fz, ds, k', R, r, q⟩ := h
    unfold mFun at q
    by_cases hl : ds.length = pn.length
    · exact r.length.trans hl
    · rw [if_neg hl] at q; exact q.elim
  · obtain ⟨Gc, Fz, ds, k', R, r, q⟩ := h
    refine ⟨_, hb cdv A fr s H E cA hr, Gc, Fz, ⟨sl0 N.length ds, k'⟩, rel_start R r, ?_⟩
    unfold mFun at q
    by_cases hl : ds.length = pn.length
    · rw [if_pos hl] at q
      cases z : mb ⟨sl0 N.length ds, k'⟩ with
      | next ps => rw [z] at q; exact fun σ' F' H' s R' => q .non F' H' s R'.drop .non
      | ret d ps => rw [z] at q; exact fun v σ' F' H' s R' r' => q v F' H' s R'.drop r'
      | brk ps => rw [z] at q; exact q.elim
      | cont ps => rw [z] at q; exact q.elim
      | exc e ps => rw [z] at q; exact q.elim
      | bad => rw [z] at q; exact q.elim
    · rw [if_neg hl] at q; exact q.elim
theorem law_okG {x qual p : Str} {st : Stmt} {f : Addr} {fd : FuncData} {N : List Str} {k i : Nat} {s t : Str} {mD : MF} {mb : MS} (F : Fun K x qual st f fd) (S : FnScope N [p] (defScope st))
    (hb : ∀ (cdv : Value) (A : Around) (fr : List Env) (s0 : Shared) (H : Hp) (E : XK), Calm A → Room k (A.deeper (envOfC qual (defScope st) s0.heap.objs.size f cdv)) →
      PSs (cxOf CX0 P w K mg base N qual (defScope st) f cdv A fr s0 H E).nox (defBody st) (tSeq (tAsg (tCall (spScr (mc0 K) mD) [] E0 (tCons (tVar 0) tNil)) (gName i)) (tRest K s t mb)))
    (hr : LawRuns mD N.length i s t mb) (h1 : s ≠ "cells" := by decide +kernel) (h2 : t ≠ "cells" := by decide +kernel) (h3 : t ≠ s := by decide +kernel) (hNl : 1 ≤ N.length := by decide) : FnG P w K mg base (k + 1) f fd [p] (spLaw K) := by
  refine okG F S (fun vs H Q E h => ?_) (fun cdv A fr s0 H vs Q E cA hr' h => ?_)
  · obtain ⟨a, ns, rfl, _⟩ := h
    rfl
  · obtain ⟨a, ns, rfl, hS, hl, q⟩ := h
    have hlen : (L2.start N [V.ref a]).length = N.length := by
      simp only [L2.start, List.length_append, List.length_map, List.length_replicate, List.length_cons, List.length_nil]
      omega
    exact ⟨_, hb cdv A fr s0 H E cA hr', law_reads (X := (cxOf CX0 P w K mg base N qual (defScope st) f cdv A fr s0 H E).nox) h1 h2 h3 hlen rfl hS hl hr q⟩
/-- the law is called: nothing is tracked but the script, unless it is one of the module's own objects -/
theorem law_goG {mb : Str → Option Value} {k : Nat} {fa a : Addr} {fd : FuncData} {x : Str} {s1 : Shared} {vs : List Value} {ns : List Int} (KX : K.In s1.heap) (hns : s1.heap.Ns mainGlobals mg) (hbl : s1.heap.Ns builtinsNs mb) (hbb : ∀ x : Str, x ≠ "__name__" → mb x = bootBuiltins x) (hlim : s1.heap.NoLimit) (hg : s1.gens = #[])
    (ha : s1.heap.get? a = some { cls := .type "list", data := .seq vs.toArray }) (hi : IntsAre vs ns) (hl : ns.length ≤ 63) (hr : Room k callerA) (F : ∀ base : Heap, K.In base → base.Ns mainGlobals mg → FnG P w K mg base k fa fd [x] (spLaw K)) (hbi : ∀ (s : Shared) (u : Value), BindsTo s fd ⟨[u], []⟩ [(x, u)]) :
    codeAny (model P w) callerA (.call (.ref fa) ⟨[.ref a], []⟩) (fun r s' => r = .ok (.ret (.bool true)) ∧ OldK s1.heap s'.heap ∧ s'.os = s1.os ∧ AllBare s'.gens) s1 := by
  have rv := vals_ints hi
  have nv := hi.length
  let o : Obj := { cls := .type "list", data := .seq vs.toArray }
  let u : Option HO := if (K.lookup a).isSome = true then none else some (.frz o (.lst (ns.map V.int)))
  let H : Hp := fun b => if b = a then u else none
  have Ha : H a = u := if_pos rfl
  have Hn : ∀ {b : Addr} {z : HO}, H b = some z → b = a ∧ u = some z := fun {b z} e => by
    by_cases hb : b = a
    · subst hb; exact ⟨rfl, Ha ▸ e⟩
    · have e2 : H b = none := if_neg hb
      rw [e2] at e; cases e
  have un : ∀ {z : HO}, u = some z → K.lookup a = none ∧ z = .frz o (.lst (ns.map V.int)) := fun {z} e => by
    by_cases hk : (K.lookup a).isSome = true
    · have : u = none := if_pos hk
      rw [this] at e; cases e
    · have : u = some (.frz o (.lst (ns.map V.int))) := if_neg hk
      rw [this] at e; cases e
      exact ⟨Option.not_isSome_iff_eq_none.mp hk, rfl⟩
  have sz : ns.length ≤ sizeLine := Nat.le_trans hl (by decide)
  have hok : HOk P w H s1.heap := fun b z e => by
    obtain ⟨rfl, e2⟩ := Hn e
    obtain ⟨_, rfl⟩ := un e2
    exact ⟨ha, by rw [List.length_map]; exact sz, vs, _, rv, ha⟩
  have hS : SqL K H a (ns.map V.int) := by
    cases hk : K.lookup a with
    | none => exact .inl (.inr ⟨o, Ha.trans (if_neg (by rw [hk]; simp))⟩)
    | some o1 =>
      have e := KX a o1 hk
      rw [ha] at e
      cases e
      exact .inr ⟨_, vs.toArray, _, hk, rfl, rfl, rfl, by rw [List.size_toArray, nv]; exact sz, by simpa using rv⟩
  have keepB : ∀ {b : Addr} {o1 : Obj}, s1.heap.get? b = some o1 → H b = none → (hidT s1.heap H).get? b = some o1 := fun e n => hidT_get e n
  have noD : ∀ {b : Addr} {o1 : Obj} {es : Array DictEntry} {ep : Nat}, s1.heap.get? b = some o1 → o1.data = .dict es ep → H b = none := fun {b o1 es ep} e d => by
    cases q : H b with
    | none => rfl
    | some z =>
      obtain ⟨rfl, _⟩ := Hn q
      rw [ha] at e
      cases e
      exact nomatch (show Data.seq vs.toArray _ = Data.dict es ep from d)
  have nsB : ∀ {b : Addr} {m : Str → Option Value}, s1.heap.Ns b m → (hidT s1.heap H).Ns b m := fun ⟨o1, es, ep, e, d, r⟩ => ⟨o1, es, ep, keepB e (noD e d), d, r⟩
  have KB : K.In (hidT s1.heap H) := fun b o1 e => keepB (KX b o1 e) (by
    cases q : H b with
    | none => rfl
    | some z =>
      obtain ⟨rfl, e2⟩ := Hn q
      rw [(un e2).1] at e; cases e)
  obtain ⟨mc, l1, l2⟩ := hlim
  have e0 : Env0 P w K mg (hidT s1.heap H) callerA [] s1 H := {
    frames := rfl
    mod := ⟨KB, nsB hns, ⟨mb, nsB hbl, hbb⟩, ⟨mc, nsB l1, l2⟩⟩
    bs := fun b o1 e => of_hidT e
    bsz := Nat.le_of_eq (hidT_size _ _)
    funs := trivial
    frf := fun b z => (nomatch z)
    hok := hok
    bare := .of_eq hg }
  have sp : spLaw K [.ref a] H (fun v _ => v = .bl true) E0 := ⟨a, ns, rfl, hS, hl, fun _ => rfl⟩
  refine codeAny_mono ((F _ KB (nsB hns)).go callerA [] s1 H ⟨[.ref a], []⟩ [.ref a] [.ref a] _ E0 rfl hr e0 (hbi s1 (.ref a)) (.cons rfl .nil) sp) fun r s' h => ?_
  match r, h with
  | .ok (.ret u'), h =>
    obtain ⟨v, H', os, bare, un2, hok', r', q⟩ := h
    have q : v = .bl true := q
    subst q
    obtain rfl : u' = Value.bool true := r'
    refine ⟨rfl, OldK.of_keep fun b o1 e => ?_, os, bare⟩
    cases q : H b with
    | none => exact un2.keep b o1 e q (fun z => nomatch z) (by simp)
    | some z =>
      obtain ⟨rfl, e2⟩ := Hn q
      obtain ⟨_, rfl⟩ := un e2
      have g := (hok' b _ (un2.frzs b o _ q)).1
      rw [ha] at e
      cases e
      exact g
  | .ok .next, h => exact False.elim h
  | .ok .brk, h => exact False.elim h
  | .ok .cont, h => exact False.elim h
  | .error _, h => exact False.elim h
end
/-- the closing step -/
theorem walkG {l : PySem.W.OpenLaw} {k : Nat} {q : Program} {loose : List Str} {XP : (Str → Option Value) → Heap → Prop} {YP : World → Heap → Prop} {d : DefRec} {K : Params → PySem.W.Frag} {x : Str} (hn : l.most = some 63) (hdf : d.params.defaults = []) (hr : Room k callerA) (hY : ∀ (w : World) (h : Heap), YP w h → (K w.params).In h)
    (F : ∀ (w : World) (mg : Str → Option Value) (fa : Addr) (h : Heap), (K w.params).In h → h.Ns mainGlobals mg → mg d.name = some (.ref fa) →
      ∃ fd : FuncData, (∀ (s : Shared) (u : Value), BindsTo s fd ⟨[u], []⟩ [(x, u)]) ∧ ∀ base : Heap, (K w.params).In base → base.Ns mainGlobals mg → FnG l.prog w (K w.params) mg base k fa fd [x] (spLaw (K w.params))) :
    PySem.W.WalkO q loose XP YP l.row.toRowW d [] (fun f vs => PySem.call f vs) :=
  Att.attach_call hn hdf fun w s0 s1 mg mb fa o pm cd doc a vs ns G Y ho hd hcd hmg hobj hints hlen hg => by
    obtain ⟨fd, hb, hF⟩ := F w mg fa _ (hY w _ Y) G.T.g hmg
    exact law_goG (hY w _ Y) G.T.g G.T.b G.T.builtins G.T.nolimit hg hobj hints hlen hr hF hb
end MM
/-! repr of data. -/
namespace MM
open PySem PySem.Spec PyProof.Rows L2
mutual
/-- no deck in it; l: lists may be in it -/
def cln (l : Bool) : D → Bool
  | .list xs => l && clnAll l xs
  | .tuple xs => clnAll l xs
  | .dict kvs => !isDeck (.dict kvs) && clnKv l kvs
  | _ => true
def clnAll (l : Bool) : List D → Bool
  | [] => true
  | x :: xs => cln l x && clnAll l xs
def clnKv (l : Bool) : List (D × D) → Bool
  | [] => true
  | (_, v) :: r => cln l v && clnKv l r
end
theorem clnKv_all (l : Bool) : ∀ ds : List (D × D), clnKv l ds = clnAll l (ds.map (·.2))
  | [] => by rw [clnKv]; rfl
  | (a, b) :: r => by
    rw [clnKv, clnKv_all l r]
    show (_ && _) = clnAll l (b :: r.map (·.2))
    rw [clnAll]
theorem key_reads {h : Heap} {k : Key} {v : Value} (hk : keyIs k v = true) : Reads h v (kD k) [] := by
  rcases keyIs_shape hk with ⟨i, t, rfl, rfl⟩ | ⟨x, t, rfl, rfl⟩
  · exact .int i t
  · exact .str x t
theorem pairs_keys {P : Program} {w : World} {h : Heap} : ∀ {es : List DictEntry} {kvs : List (Key × Value)}, Pairs (mixKind P w) es kvs → ReadsAll h (es.map (·.key)) (kvs.map fun p => kD p.1) [] ∧ es.map (·.val) = kvs.map (·.2)
  | _, _, .nil => ⟨.nil, rfl⟩
  | _, _, .cons h1 h2 h3 => by
    obtain ⟨i1, i2⟩ := pairs_keys (h := h) h3
    refine ⟨?_, ?_⟩
    · exact ReadsAll.cons (key_reads h1) i1
    · rw [List.map_cons, List.map_cons, h2, i2]
theorem kv_vals : ∀ {kvs : List (Key × V)} {vs : List (Key × Value)}, KV kvs vs → Vals (kvs.map (·.2)) (vs.map (·.2)) ∧ (vs.map fun p => kD p.1) = kvs.map fun p => kD p.1
  | _, _, .nil => ⟨.nil, rfl⟩
  | _, _, .cons h t => by
    obtain ⟨i1, i2⟩ := kv_vals t
    refine ⟨.cons h.2 i1, ?_⟩
    rw [List.map_cons, List.map_cons, h.1, i2]
section
variable {X : Cx} {C : Mc} {pins : List (Addr × Obj)} {σ : St} {F H : Hp} {s : Shared} {l : Bool}
mutual
theorem Rp.rd (I : Inv X pins σ H s) (hK : C.K = X.K) (hF : Same F H) : ∀ {v : V} {d : D} {u : Value}, Rp C F v d → cln l d = true → RelV v u → ∃ as, Reads s.heap u d as ∧ (l = false → sysModules ∉ as)
  | _, _, _, .non, _, r => by cases r; exact ⟨[], .none, fun _ => by simp⟩
  | _, _, _, .bl b, _, r => by cases r; exact ⟨[], .bool b, fun _ => by simp⟩
  | _, _, _, .int i, _, r => by obtain ⟨t, rfl⟩ := r; exact ⟨[], .int i t, fun _ => by simp⟩
  | _, _, _, .str x, _, r => by obtain ⟨t, rfl⟩ := r; exact ⟨[], .str x t, fun _ => by simp⟩
  | _, _, _, .lst h a, c, r => by
    rw [cln, Bool.and_eq_true] at c
    cases r
    obtain ⟨its, rv, ⟨o, n, ho, hc, _, hd⟩, _⟩ := I.list (SqL.of (hF _ _ h))
    obtain ⟨as, hr, _⟩ := RpA.rd I hK hF a c.2 rv
    exact ⟨_, .list ho hc hd hr, fun z => by rw [z] at c; exact nomatch c.1⟩
  | _, _, _, .tup h a, c, r => by
    rw [cln] at c
    cases r
    obtain ⟨its, rv, ⟨o, ho, hc, n, hd⟩, _⟩ := I.tuple (by rw [← hK]; exact sqT_mono hF h)
    obtain ⟨as, hr, hs⟩ := RpA.rd I hK hF a c rv
    exact ⟨_, .tuple ho hc hd hr, hs⟩
  | _, _, _, .dct h a k, c, r => by
    rw [cln, Bool.and_eq_true, clnKv_all] at c
    cases r
    obtain ⟨z, lo, vs, rk, o, es, ep, ho, hx, hd, _, hp, _⟩ := I.hok _ _ (hF _ _ h)
    obtain ⟨k1, k2⟩ := kv_vals rk
    obtain ⟨p1, p2⟩ := pairs_keys (h := s.heap) hp
    obtain ⟨as, hr, hs⟩ := RpA.rd I hK hF a c.2 k1
    rw [k2, ← k] at p1
    rw [← p2] at hr
    refine ⟨_, .dict ho hx.1 hd p1 hr, fun z => ?_⟩
    rw [List.mem_append, List.mem_singleton]
    rintro (e | e)
    · rw [← e] at lo; simp at lo
    · exact hs z e
  | _, _, _, .deck h, c, _ => by
    have : cln l deckD = false := rfl
    rw [this] at c; cases c
theorem RpA.rd (I : Inv X pins σ H s) (hK : C.K = X.K) (hF : Same F H) : ∀ {vs : List V} {ds : List D} {us : List Value}, RpA C F vs ds → clnAll l ds = true → Vals vs us → ∃ as, ReadsAll s.heap us ds as ∧ (l = false → sysModules ∉ as)
  | _, _, _, .nil, _, r => by cases r; exact ⟨[], .nil, fun _ => by simp⟩
  | _, _, _, .cons h t, c, r => by
    rw [clnAll, Bool.and_eq_true] at c
    cases r with
    | cons r1 r2 =>
      obtain ⟨as, q1, n1⟩ := Rp.rd I hK hF h c.1 r1
      obtain ⟨bs, q2, n2⟩ := RpA.rd I hK hF t c.2 r2
      exact ⟨_, .cons q1 q2, fun z m => (List.mem_append.mp m).elim (n1 z) (n2 z)⟩
end
end
/-- what repr tells -/
def shwOk (d : D) : Bool := d.showable && decide (d.shown.length ≤ sizeLine) && decide (d.depth ≤ 64) && (cln false d || (cln true d && !d.hasDict))
def dRepr : List D → Option D
  | [d] => if shwOk d = true then some (.str d.shown) else none
  | _ => none
section
variable {X : Cx} {C : Mc} {W : WX} {e : Expr} {pos p : Pos}
theorem repr_run {pins : List (Addr × Obj)} {σ : St} {F H : Hp} {s : Shared} {v : V} {d : D} {u : Value} {Q : VK} (cA : Calm X.A) (hu : X.A.units + 65 < cLine) (hK : C.K = X.K) (hF : Same F H) (I : Inv X pins σ H s) (r : Rp C F v d) (ok : shwOk d = true) (rv : RelV v u) (q : Q (.str d.shown) H) :
    wpAny (model X.prog X.w) X.A (call (.builtin "repr") [u]) (EP X pins σ Q) X.xe s := by
  unfold shwOk at ok
  rw [Bool.and_eq_true, Bool.and_eq_true, Bool.and_eq_true, decide_eq_true_eq, decide_eq_true_eq] at ok
  obtain ⟨⟨⟨h1, h2⟩, h3⟩, h4⟩ := ok
  have tell : ∀ (h' : Heap) (t tk : Tok), (∀ b o, s.heap.get? b = some o → h'.get? b = some o) → EP X pins σ Q (.str d.shown t) { s with heap := h', toks := tk } := fun h' t tk hk => ⟨.str d.shown, H, I.kept hk, ⟨t, rfl⟩, q⟩
  have rd : ∃ as, Reads s.heap u d as ∧ (d.hasDict = true → sysModules ∉ as) := by
    rw [Bool.or_eq_true, Bool.and_eq_true] at h4
    rcases h4 with h4 | ⟨h4, h5⟩
    · obtain ⟨as, a, b⟩ := r.rd I hK hF h4 rv
      exact ⟨as, a, fun _ => b rfl⟩
    · obtain ⟨as, a, _⟩ := r.rd I hK hF h4 rv
      exact ⟨as, a, fun z => by rw [z] at h5; cases h5⟩
  obtain ⟨as, rd, hsm⟩ := rd
  cases rd with
  | none => exact PySem.P.repr_of_none (tell s.heap _ _ fun _ _ e => e)
  | bool b => exact PySem.P.repr_of_bool (tell s.heap _ _ fun _ _ e => e)
  | int i t => exact PySem.P.repr_of_int (by simpa [PyData.showable] using h1) (tell s.heap _ _ fun _ _ e => e)
  | str x t => exact PySem.P.repr_of_str (tell s.heap _ _ fun _ _ e => e) (hsz := by simpa [PyData.shown] using h2)
  | list a1 a2 a3 a4 => exact repr_of_reads' (.list a1 a2 a3 a4) h1 hsm cA (by omega) (fun _ _ e => e) (fun h' t tk hk => tell h' t tk hk) h2
  | tuple a1 a2 a3 a4 => exact repr_of_reads' (.tuple a1 a2 a3 a4) h1 hsm cA (by omega) (fun _ _ e => e) (fun h' t tk hk => tell h' t tk hk) h2
  | dict a1 a2 a3 a4 a5 => exact repr_of_reads' (.dict a1 a2 a3 a4 a5) h1 hsm cA (by omega) (fun _ _ e => e) (fun h' t tk hk => tell h' t tk hk) h2
end
end MM
/-! repr, str of a number, a constant of the module, == (), tuple * number, a list of one's own from a + b. -/
namespace MM
open PySem PySem.Spec PyProof.Rows L2
section
variable {X : Cx} {C : Mc} {W : WX} {e a b : Expr} {es : List Expr} {pos p : Pos}
def rShw (C : Mc) : List V → Hp → VK → Prop := fun xs H Q => ∃ v F d, xs = [v] ∧ Same F H ∧ Rp C F v d ∧ shwOk d = true ∧ Q (.str d.shown) H
theorem cr_repr (cA : Calm X.A) (hu : X.A.units + 65 < cLine) (hK : C.K = X.K) : CallR X (.builtin "repr") (rShw C) := by
  intro pins s σ H xs us Q I r ⟨v, F, d, e, hF, rp, ok, q⟩
  subst e
  obtain ⟨u, rfl, ru⟩ := vals1 r
  exact repr_run cA hu hK hF I rp ok ru q
theorem cm_repr : CallM C dRepr (rShw C) := by
  intro Gc F H ps σ vs ds z Q R r hz q
  match ds, r with
  | [d], .cons r .nil =>
    have hz : (if shwOk d = true then some (PyData.str d.shown) else none) = some z := hz
    by_cases ok : shwOk d = true
    · rw [if_pos ok] at hz
      cases hz
      exact ⟨_, F, d, rfl, R.fh, r, ok, q _ F H (Same.refl _) R (.str _)⟩
    · rw [if_neg ok] at hz; cases hz
  | [], _ => cases hz
  | _ :: _ :: _, _ => cases hz
def dStr : List D → Option D
  | [.int i] => if decide (i.natAbs.log2 < 1920) = true then some (.str (toString i)) else none
  | _ => none
theorem cm_str : CallM C dStr (fun xs H Q => ∃ i, xs = [V.int i] ∧ i.natAbs.log2 < 1920 ∧ Q (.str (toString i)) H) := by
  intro Gc F H ps σ vs ds z Q R r hz q
  unfold dStr at hz
  split at hz
  · split at hz
    · rename_i hc
      cases hz
      cases r with
      | cons r1 r2 =>
        cases r1; cases r2
        exact ⟨_, rfl, of_decide_eq_true hc, q _ F H (Same.refl _) R (.str _)⟩
    · cases hz
  · cases hz
/-- a whole number of the module -/
theorem xconst {x : Str} {n : Int} {t : Tok} (hg : Gl X x) (hm : X.mg x = some (.int n t)) (hd : (x == ("__debug__" : Str)) = false := by decide) : PE X (.Name x pos) (tE C W (mC (.int n))) :=
  pe_imp (pe_glob (v := .int n) hg hm ⟨t, rfl⟩ hd) fun σ H Q ⟨Gc, F, ps, R, q⟩ => q (.int n) F H (Same.refl _) R (.int n)
/-! x == (), whatever x has -/
def rEq0 (K : PySem.W.Frag) (f : Bool → Bool) : R2 := fun x y H Q => ∃ l m xs, x = .ref l ∧ y = .ref m ∧ SqT K H l xs ∧ SqT K H m [] ∧ Q (.bl (f xs.isEmpty)) H
theorem eq0_parts {pins : List (Addr × Obj)} {σ : St} {H : Hp} {s : Shared} (I : Inv X pins σ H s) {l m : Addr} {xs : List V} (h1 : SqT X.K H l xs) (h2 : SqT X.K H m []) :
    ∃ us ws : Array Value, s.heap.IsTuple l us ∧ s.heap.IsTuple m ws ∧ ws.size = 0 ∧ us.size = xs.length := by
  obtain ⟨u1, r1, p1, _⟩ := I.tuple h1
  obtain ⟨u2, r2, p2, _⟩ := I.tuple h2
  refine ⟨u1.toArray, u2.toArray, ?_, ?_, ?_, ?_⟩
  · obtain ⟨o, ho, hc, n, hd⟩ := p1; exact ⟨o, ho, hc, n, hd⟩
  · obtain ⟨o, ho, hc, n, hd⟩ := p2; exact ⟨o, ho, hc, n, hd⟩
  · cases r2; rfl
  · rw [List.size_toArray, ← r1.length]
theorem empty_and {xs : List V} {n m : Nat} (h : m = 0) (h2 : n = xs.length) : ((List.range (min n m)).all (fun _ => true) && n == m) = xs.isEmpty := by
  subst h; subst h2
  cases xs <;> simp
theorem op_eq0 (hu : X.A.units < cLine) : OpR X (compareOp .Eq) (rEq0 X.K id) := by
  intro pins s σ H x y v u Q I rx ry ⟨l, m, xs, e1, e2, h1, h2, q⟩
  subst e1; subst e2
  cases rx; cases ry
  obtain ⟨us, ws, p1, p2, z, n⟩ := eq0_parts I h1 h2
  refine SeqAt.eq_tupleAt (e := fun _ => true) p1 p2 hu (fun j a1 a2 => by omega) ?_
  rw [empty_and z n]
  exact ⟨.bl xs.isEmpty, H, I, rfl, q⟩
theorem op_ne0 (hu : X.A.units < cLine) : OpR X (compareOp .NotEq) (rEq0 X.K not) := by
  intro pins s σ H x y v u Q I rx ry ⟨l, m, xs, e1, e2, h1, h2, q⟩
  subst e1; subst e2
  cases rx; cases ry
  obtain ⟨us, ws, p1, p2, z, n⟩ := eq0_parts I h1 h2
  refine SeqAt.RcNeAt.tuples (e := fun _ => true) p1 p2 hu (fun j a1 a2 => by omega) X.prog X.w _ _ ?_
  rw [empty_and z n]
  exact ⟨.bl (!xs.isEmpty), H, I, rfl, q⟩
def dEq0 (f : Bool → Bool) (x y : D) : Option D := match x, y with
  | .tuple xs, .tuple [] => some (.bool (f xs.isEmpty))
  | _, _ => none
theorem om_eq0 {f : Bool → Bool} (hK : C.K = X.K) : OpM C (dEq0 f) (rEq0 X.K f) := by
  intro Gc F H ps σ v u x y z Q R rx ry hz q
  unfold dEq0 at hz
  split at hz
  · cases hz
    cases rx with
    | tup t1 a1 =>
      cases ry with
      | tup t2 a2 =>
        cases a2
        refine ⟨_, _, _, rfl, rfl, by rw [← hK]; exact sqT_mono R.fh t1, by rw [← hK]; exact sqT_mono R.fh t2, ?_⟩
        have e : ∀ {vs : List V} {ds : List D}, RpA C F vs ds → vs.isEmpty = ds.isEmpty := fun r => by cases r <;> rfl
        rw [e a1]
        exact q _ F H (Same.refl _) R (.bl _)
  · cases hz
/-! tuple * number -/
def dMulT (x y : D) : Option D := match x, y with
  | .tuple xs, .int k => if (!xs.isEmpty && decide (2 ≤ k.toNat) && decide (k.toNat ≤ 1000) && decide (xs.length ≤ 1000)) = true then some (.tuple (List.replicate k.toNat xs).flatten) else none
  | _, _ => none
theorem rpa_rep {F : Hp} {xs : List V} {ds : List D} (r : RpA C F xs ds) : ∀ n : Nat, RpA C F (List.replicate n xs).flatten (List.replicate n ds).flatten
  | 0 => .nil
  | n + 1 => by
    rw [List.replicate_succ, List.replicate_succ, List.flatten_cons, List.flatten_cons]
    exact r.append (rpa_rep r n)
theorem om_mulT (hK : C.K = X.K) : OpM C dMulT (rRepT X.K) := by
  intro Gc F H ps σ v u x y z Q R rx ry hz q
  unfold dMulT at hz
  split at hz
  · rename_i xs k
    split at hz
    · rename_i hc
      rw [Bool.and_eq_true, Bool.and_eq_true, Bool.and_eq_true] at hc
      obtain ⟨⟨⟨c1, c2⟩, c3⟩, c4⟩ := hc
      have c2 := of_decide_eq_true c2
      have c3 := of_decide_eq_true c3
      have c4 := of_decide_eq_true c4
      cases hz
      cases ry
      cases rx with
      | tup t1 a1 =>
        refine ⟨_, k, _, rfl, rfl, by rw [← hK]; exact sqT_mono R.fh t1, ?_, by omega, by omega, by rw [a1.length]; exact c4, fun p n => ?_⟩
        · intro e
          rw [e] at a1
          cases a1
          cases c1
        · exact q _ _ _ (same_alloc (R.fh.free n)) (R.alloc n) (.tup (.of upd_same) ((rpa_rep a1 _).mono (same_alloc (R.fh.free n))))
    · cases hz
  · cases hz
/-! a new list: a + b -/
def mCat (ma mb : ME) : MLs := fun ps => (ma ps).bind fun x ps1 => (mb ps1).bind fun y ps2 => match x, y with
  | .list xs, .list ys => if xs.length + ys.length ≤ sizeLine then .ok (xs ++ ys) ps2 else .bad
  | _, _ => .bad
theorem xcat {ma mb : ME} (ha : PE X a (tE C W ma)) (hb : PE X b (tE C W mb)) : PE X (.BinOp a .Add b pos) (tF C W (mCat ma mb)) :=
  pe_imp (pe_op op_cat ha hb) fun σ H Q ⟨Gc, F, ps, R, q⟩ => seqE qF.mono R q fun x ps1 v F1 H1 s1 R1 r1 q1 => seqE qF.mono R1 q1 fun y ps2 u F2 H2 s2 R2 r2 q2 => by
    cases x with
    | list xs =>
      cases y with
      | list ys =>
        have q2 : Po C W Gc σ (qF C Gc σ Q) F2 (if xs.length + ys.length ≤ sizeLine then .ok (xs ++ ys) ps2 else .bad) := q2
        by_cases hl : xs.length + ys.length ≤ sizeLine
        · rw [if_pos hl] at q2
          cases r1 with
          | lst h1 a1 =>
            cases r2 with
            | lst h2 a2 =>
              exact ⟨_, _, _, _, rfl, rfl, R2.fh _ _ (s2 _ _ h1), R2.fh _ _ h2, by rw [a1.length, a2.length]; exact hl, fun p n => q2 p _ F2 _ (Same.refl _) (R2.fresh n) (R2.loose n) ((a1.mono s2).append a2)⟩
        · rw [if_neg hl] at q2; exact q2.elim
      | _ => exact q2.elim
    | _ => exact q2.elim
/-! two texts, whatever they are -/
def dEqS (f : Bool → Bool) (x y : D) : Option D := match x, y with
  | .str s, .str t => some (.bool (f (decide (s = t))))
  | _, _ => none
theorem dec_vstr {s t : Str} : decide (V.str s = V.str t) = decide (s = t) := decide_eq_decide.mpr ⟨fun h => by injection h, fun h => by rw [h]⟩
theorem om_eqS : OpM C (dEqS id) rEq := by
  intro Gc F H ps σ v u x y z Q R rx ry hz q
  unfold dEqS at hz
  split at hz
  · cases hz; cases rx; cases ry
    exact ⟨rfl, by rw [dec_vstr]; exact q _ F H (Same.refl _) R (.bl _)⟩
  · cases hz
theorem om_neS : OpM C (dEqS not) rNe := by
  intro Gc F H ps σ v u x y z Q R rx ry hz q
  unfold dEqS at hz
  split at hz
  · cases hz; cases rx; cases ry
    exact ⟨rfl, by rw [dec_vstr]; exact q _ F H (Same.refl _) R (.bl _)⟩
  · cases hz
end
end MM
/-! enumerate(a tuple). -/
namespace MM
open PySem PySem.Spec PyProof.Rows L2
def enumOb (it : Addr) : Obj := { cls := .type "enumerate", data := .fields #[.none, .bool false, .ref it, rawInt 0, .none, .none] }
set_option maxHeartbeats 1000000 in
theorem enum1_meets {v : Value} {o : Obj} {G : Heap → Prop} (B : Begins v o G) :
    Meets (Builtin.«enumerate.__new__» ⟨[.type "enumerate", v], []⟩) (fun _ R s => G s.heap ∧ R (.ok (.ret (.ref (s.heap.push o).objs.size))) { s with heap := (s.heap.push o).push (enumOb s.heap.objs.size) }) :=
  .of_wp fun prog w A R ⟨hp, g, d, tk, os⟩ ⟨hg, hR⟩ => by
    have hsub := sub_enumerate
    have itr : ∀ {A' : Around} {E Q : Value → Shared → Prop}, Q (.ref hp.objs.size) ⟨hp.push o, g, d, tk, os⟩ → wpAny (model prog w) A' (pyIter v) Q E ⟨hp, g, d, tk, os⟩ := fun q => B.iter prog w _ _ ⟨hp, g, d, tk, os⟩ _ hg q
    wp_walk using itr
    refine wpAny_stack_any fun st => wpAny_pure ?_
    split
    · rename_i c _ _ _ _ _
      generalize (c == Value.type "enumerate") = t
      cases t <;> (wp_walk using itr; exact ⟨_, rfl, hR⟩)
    · wp_walk using itr; exact ⟨_, rfl, hR⟩
section
variable {prog : Program} {w : World} {A : Around} {E : Value → Shared → Prop} {s : Shared}
theorem call_enumT {a : Addr} {its : Array Value} {Q : Value → Shared → Prop} (ht : s.heap.IsTuple a its)
    (h : ∀ h' : Heap, IsEnum h' (s.heap.objs.size + 1) s.heap.objs.size 0 .none → h'.IsTupleIter s.heap.objs.size a 0 → (∀ b o, s.heap.get? b = some o → h'.get? b = some o) → Q (.ref (s.heap.objs.size + 1)) { s with heap := h' }) :
    wpAny (model prog w) A (call (.type "enumerate") [.ref a]) Q E s := by
  let o : Obj := { cls := .type "tuple_iterator", data := .fields #[.ref a, .int 0 0] }
  have z : (s.heap.push o).objs.size = s.heap.objs.size + 1 := Heap.size_push ..
  have e1 : ((s.heap.push o).push (enumOb s.heap.objs.size)).get? (s.heap.objs.size + 1) = some (enumOb s.heap.objs.size) := by
    rw [← z]; exact Heap.get?_push_size _ rfl
  have e2 : ((s.heap.push o).push (enumOb s.heap.objs.size)).get? s.heap.objs.size = some o := Heap.get?_push_of_some _ (Heap.get?_push_size _ rfl)
  refine callType_new F.called_enumerate (by decide) (F.typeCall_enumerate_1 _) (F.newCall_enumerate_1 _) (fun obj => F.args_object_init_2 obj _) F.entry_enumerate_new (enum1_meets (begins_tuple a its)) ⟨ht, ?_⟩
  show _ ∧ _
  rw [z]
  exact ⟨⟨_, e1, rfl⟩, h _ e1 ⟨_, e2, rfl, rfl⟩ fun b o' x => Heap.get?_push_of_some _ (Heap.get?_push_of_some _ x)⟩
end
/-- the tuple at a, each item in a new pair -/
def ItU (K : PySem.W.Frag) (a : Addr) : It :=
  ⟨fun i H => ∃ (xs : List V) (x : V), SqT K H a xs ∧ xs[i]? = some x, fun i H v H' => ∃ T x, v = .ref T ∧ H T = none ∧ H' = upd H T (.tup [.int (i : Nat), x]) ∧ ∀ xs, SqT K H a xs → xs[i]? = some x, fun i H => ∃ xs : List V, SqT K H a xs ∧ xs.length ≤ i⟩
def tnU (a e it : Addr) (i : Nat) (h : Heap) : Prop := (∃ old, IsEnum h e it ((i : Nat) : Int) old) ∧ h.IsTupleIter it a i ∧ e ≠ it ∧ a ≠ it ∧ e ≠ a
theorem turnU {P : Program} {w : World} {K : PySem.W.Frag} {elts : List Expr} {kk : Nat} {tpos : Pos} (a e it : Addr) : Turn P w K (.Tuple elts kk tpos) (ItU K a) [e, it] e (tnU a e it) where
  mem := List.mem_cons_self ..
  obj := fun i h ⟨⟨old, he⟩, ⟨o, ho, hc, hd⟩, _⟩ b hb => by
    rcases List.mem_cons.mp hb with z | z
    · subst z; exact ⟨_, he, fun v q => nomatch q⟩
    · rw [List.mem_singleton.mp z]; exact ⟨o, ho, fun v q => by rw [hd] at q; cases q⟩
  keep := fun i h h' ⟨⟨old, he⟩, hi, hn⟩ k => ⟨⟨old, k e (by simp) _ he⟩, hi.at fun o q => k it (by simp) o q, hn⟩
  item := fun X hP hw hK hc i pins s σ H E I hf ⟨⟨old, he⟩, hi, n1, n2, n3⟩ ⟨xs, x, hq, hx⟩ => by
    subst hP hw hK
    obtain ⟨its, rv, p, _⟩ := I.tuple hq
    obtain ⟨u, hu, ru⟩ := rv.get hx
    have p' : s.heap.IsTuple a its.toArray := by obtain ⟨o, ho, hc, n, hd⟩ := p; exact ⟨o, ho, hc, n, hd⟩
    have le : e < s.heap.objs.size := Heap.lt_size he
    have li : it < s.heap.objs.size := by obtain ⟨_, q, _⟩ := hi; exact Heap.lt_size q
    have hlt : i < its.toArray.size := by
      have := (List.getElem?_eq_some_iff.mp hu).1
      simpa using this
    have D := Draws.tuple (prog := X.prog) (w := X.w) (A := X.A.in1) (I.ok.hd hc) it a n2 its.toArray
    refine wpAny_pyNext_enum_itemD D he ⟨hi, p'⟩ hlt n1 (by simp [n1, n3]) fun y h1 tk hy ho st hT hsz hk => ?_
    have hyu : y = u := by
      have : its[i]? = some y := by simpa using hy
      rw [hu] at this; cases this; rfl
    subst hyu
    refine ⟨_, rfl, wpAny_letOwnedTupleGo_enum (s := { s with heap := h1, toks := tk + 1 }) ho fun h2 he2 sb => ?_⟩
    have hT2 := (sb.2 _ (Nat.ne_of_gt le)).trans hT
    have new : ObjOk X.prog X.w (upd H s.heap.objs.size (.tup [.int (i : Nat), x])) h2 s.heap.objs.size (.tup [.int (i : Nat), x]) := ⟨by show 2 ≤ sizeLine; decide, [.int i tk, y], .cons ⟨_, rfl⟩ (.cons ru .nil), ⟨_, hT2, rfl, _, rfl⟩⟩
    have I1 : Inv X pins σ (upd H s.heap.objs.size (.tup [.int (i : Nat), x])) { s with heap := h2, toks := tk + 1 } :=
      I.turnedNew (ch := [e, it]) (fun b ob hb q => (sb.2 b (fun z => hb (by simp [z]))).trans (hk b ob (fun z => hb (by simp [z])) (fun z => hb (by simp [z])) q)) hf (Nat.le_refl _) new
    refine ⟨.ref s.heap.objs.size, _, I1, rfl, ⟨_, x, rfl, I.hok.fresh (Nat.le_refl _), rfl, fun ys hy => by rw [I.tuple_inj hy hq]; exact hx⟩, ⟨⟨y, ?_⟩, st.1.at fun o q => (sb.2 it (Ne.symm n1)).trans q, n1, n2, n3⟩, fun b hb => ?_⟩
    · have c : ((i + 1 : Nat) : Int) = (i : Int) + 1 := by omega
      rw [c]; exact he2
    · have lb : b < s.heap.objs.size := by
        rcases List.mem_cons.mp hb with z | z
        · rw [z]; exact le
        · rw [List.mem_singleton.mp z]; exact li
      rw [upd_ne (Nat.ne_of_lt lb)]
      exact (hf b hb).1
  done := fun X hP hw hK hc i pins s σ H E I hf ⟨⟨old, he⟩, hi, n1, n2, n3⟩ ⟨xs, hq, hx⟩ => by
    subst hP hw hK
    obtain ⟨its, rv, p, _⟩ := I.tuple hq
    have p' : s.heap.IsTuple a its.toArray := by obtain ⟨o, ho, hc, n, hd⟩ := p; exact ⟨o, ho, hc, n, hd⟩
    obtain ⟨f0, f1, f2, f3, f4, f5⟩ := hf it (by simp)
    have hl := rv.length
    have D : Draws X.prog X.w X.A.in1 it [it, a] 0 (fun _ _ => False) (fun _ h => h.IsTupleIter it a i ∧ h.IsTuple a its.toArray) := {
      live := fun _ _ st => let ⟨o, ho, _⟩ := st.1; ⟨o, ho⟩
      frame := fun _ _ _ st k => ⟨st.1.at fun o q => k it (by simp) o q, st.2.at fun o q => k a (by simp) o q⟩
      item := fun j s Q E hj => absurd hj (Nat.not_lt_zero _)
      done := fun s Q E st hE => wpAny_nextOf_tuple_end (I.ok.hd hc) st.1 st.2 (by simp; omega) hE }
    exact wpAny_pyNext_enum_endD D he ⟨hi, p'⟩ fun h' eb => ⟨rfl, I.turned (t' := s.toks) (fun b o hb q => eb b o hb q) f0 f1 f3 f4 f5⟩
  self := fun A i s Q E ⟨⟨_, he⟩, _⟩ h => wpAny_pyIter_enum he h
def iEnumT (K : PySem.W.Frag) (ta : TA) : TI := fun σ H R => ta σ H fun vs H1 => (∃ a xs, vs = [.ref a] ∧ SqL K H1 a xs ∧ R (Ite K a) H1) ∨ ∃ a xs, vs = [.ref a] ∧ SqT K H1 a xs ∧ R (ItU K a) H1
theorem pi_enumA {X : Cx} {e : Expr} {ta : TA} {p pos tpos : Pos} {elts : List Expr} {kk : Nat} (hg : Gl X "enumerate") (hm : X.mg "enumerate" = none) (ha : PA X [e] ta) (hs : starEach [e] X.env = [(false, eval e X.env)] := by rfl) :
    PI X (.Tuple elts kk tpos) (.Call (.Name "enumerate" p) [e] [] pos) (iEnumT X.K ta) := ⟨fun pins s σ H R I h => by
  refine Call_ (ld_blt I hg hm boot_enumerate (PyProof.Rows.callWith_type1 (thn (ha.run pos pins s σ H _ I h) fun us s1 ⟨vs, H1, I1, r1, q1⟩ => ?_) hs rfl))
  have fresh : ∀ {b : Addr}, s1.heap.objs.size ≤ b → FpOk X pins H1 b := fun {b} hb => I1.fpOk hb (I1.hok.fresh hb)
  have both : ∀ b ∈ [s1.heap.objs.size + 1, s1.heap.objs.size], FpOk X pins H1 b := fun b hb => by
    rcases List.mem_cons.mp hb with z | z
    · exact fresh (by omega)
    · exact fresh (by rw [List.mem_singleton.mp z]; exact Nat.le_refl _)
  rcases q1 with ⟨a, xs, ex, hq, q⟩ | ⟨a, xs, ex, hq, q⟩
  · subst ex
    obtain ⟨us1, rfl, r⟩ := vals1 r1
    cases r
    obtain ⟨its, rv, p', hz⟩ := I1.list hq
    exact call_enumerate_list p'.isList fun h' he hit hsz hk => wpAny_pyIter_enum he ⟨s1.heap.objs.size + 1, [s1.heap.objs.size + 1, s1.heap.objs.size], _, _, H1, rfl, I1.kept (t' := s1.toks) hk, turn_enum a (s1.heap.objs.size + 1) s1.heap.objs.size, ⟨⟨.none, he⟩, hit, Nat.succ_ne_self _⟩, both, q⟩
  · subst ex
    obtain ⟨us1, rfl, r⟩ := vals1 r1
    cases r
    obtain ⟨its, rv, p', hz⟩ := I1.tuple hq
    have la : a < s1.heap.objs.size := by obtain ⟨o, ho, _⟩ := p'; exact Heap.lt_size ho
    have tt : s1.heap.IsTuple a its.toArray := by obtain ⟨o, ho, hc, n, hd⟩ := p'; exact ⟨o, ho, hc, n, hd⟩
    exact call_enumT tt fun h' he hit hk => wpAny_pyIter_enum he ⟨s1.heap.objs.size + 1, [s1.heap.objs.size + 1, s1.heap.objs.size], _, _, H1, rfl, I1.kept (t' := s1.toks) hk, turnU a (s1.heap.objs.size + 1) s1.heap.objs.size, ⟨⟨.none, he⟩, hit, Nat.succ_ne_self _, Nat.ne_of_lt la, Nat.ne_of_gt (Nat.lt_succ_of_lt la)⟩, both, q⟩⟩
section
variable {X : Cx} {C : Mc} {W : WX} {e : Expr}
theorem itr_enumT {F : Hp} {K : PySem.W.Frag} {a : Addr} {xs : List V} {ds : List D} (hK : C.K = K) (h : SqT C.K F a xs) (r : RpA C F xs ds) : ItR C (ItU K a) F (enumD ds) where
  go := fun i H hi s => ⟨xs, xs[i]'(by rw [r.length]; simpa [enumD] using hi), by rw [← hK]; exact sqT_mono s h, by simp⟩
  stop := fun H s => ⟨xs, by rw [← hK]; exact sqT_mono s h, by rw [r.length]; simp [enumD]⟩
  yld := fun i H x H' Gc F' ps σ d s R hd ⟨T, x1, e1, n, e2, g1⟩ => by
    subst e1; subst e2
    obtain ⟨dx, k1, k3⟩ := enumD_get hd
    subst k3
    obtain ⟨v1, m1, m2⟩ := r.get' k1
    have q1 := g1 xs (by rw [← hK]; exact sqT_mono R.fh (sqT_mono s h))
    rw [m1] at q1; cases q1
    have nf : F' T = none := R.fh.free n
    exact ⟨_, same_alloc nf, R.alloc n, .tup (.of upd_same) (.cons (.int _) (.cons ((m2.mono s).mono (same_alloc nf)) .nil))⟩
def dEnum : List D → Option (List D)
  | [.list xs] => some (enumD xs)
  | [.tuple xs] => some (enumD xs)
  | _ => none
def mEnum (a : MA) : MA := fun ps => (a ps).bind fun ds ps1 => .of (dEnum ds) ps1
theorem xi_enum {ma : MA} {p pos tpos : Pos} {elts : List Expr} {kk : Nat} (hK : C.K = X.K) (hg : Gl X "enumerate") (hm : X.mg "enumerate" = none) (ha : PA X [e] (tA C W ma)) (hs : starEach [e] X.env = [(false, eval e X.env)] := by rfl) :
    PI X (.Tuple elts kk tpos) (.Call (.Name "enumerate" p) [e] [] pos) (tI C W (mEnum ma)) :=
  pi_imp (pi_enumA hg hm ha hs) fun σ H Q ⟨Gc, F, ps, R, q⟩ => seqA qI.mono R q fun ds ps1 vs F1 H1 s1 R1 r1 q1 => by
    match ds, r1 with
    | [.list ds], .cons (.lst h r) .nil => exact .inl ⟨_, _, rfl, SqL.of (R1.fh _ _ h), q1 _ F1 H1 (Same.refl _) R1 (itr_enum h r)⟩
    | [.tuple ds], .cons (.tup h r) .nil => exact .inr ⟨_, _, rfl, by rw [← hK]; exact sqT_mono R1.fh h, q1 _ F1 H1 (Same.refl _) R1 (itr_enumT hK h r)⟩
    | [], _ => exact q1.elim
    | [.none], _ => exact q1.elim
    | [.bool _], _ => exact q1.elim
    | [.int _], _ => exact q1.elim
    | [.str _], _ => exact q1.elim
    | [.dict _], _ => exact q1.elim
    | .none :: _ :: _, _ => exact q1.elim
    | .bool _ :: _ :: _, _ => exact q1.elim
    | .int _ :: _ :: _, _ => exact q1.elim
    | .str _ :: _ :: _, _ => exact q1.elim
    | .list _ :: _ :: _, _ => exact q1.elim
    | .tuple _ :: _ :: _, _ => exact q1.elim
    | .dict _ :: _ :: _, _ => exact q1.elim
end
end MM
/-! int(a truth), x.insert(i, v), <= of tuples. -/
namespace MM
open PySem PySem.Spec PyProof.Rows L2
section
variable {X : Cx} {C : Mc} {W : WX} {o e a b : Expr} {es : List Expr} {pos p apos cpos : Pos}
def dIntC : List D → Option D
  | [.int i] => some (.int i)
  | [.bool b] => some (.int (if b then 1 else 0))
  | _ => none
theorem cm_int : CallM C dIntC (fun xs H Q => (∃ i, xs = [V.int i] ∧ Q (.int i) H) ∨ ∃ k, xs = [V.bl k] ∧ Q (.int (if k then 1 else 0)) H) := by
  intro Gc F H ps σ vs ds z Q R r hz q
  unfold dIntC at hz
  split at hz
  · cases hz
    cases r with
    | cons r1 r2 => cases r1; cases r2; exact .inl ⟨_, rfl, q _ F H (Same.refl _) R (.int _)⟩
  · cases hz
    cases r with
    | cons r1 r2 => cases r1; cases r2; exact .inr ⟨_, rfl, q _ F H (Same.refl _) R (.int _)⟩
  · cases hz
/-- x.insert(i, v) -/
def mInsert (i : Nat) (a b : ME) : ME := fun ps => match ps.sl[i]? with
  | some (.ml _) => (a ps).bind fun n ps1 => (b ps1).bind fun d ps2 => match ps2.sl[i]?, n with
    | some (.ml ds), .int j => if (decide (ds.length < sizeLine) && decide (0 ≤ j) && decide (j.natAbs < 1000000)) = true then .ok .none (ps2.setS i (.ml (ds.take j.toNat ++ [d] ++ ds.drop j.toNat))) else .bad
    | _, _ => .bad
  | _ => .bad
theorem insert_ok {i : Nat} {ma mb : ME} {σ : St} {H : Hp} {Q : VK} (h : tE C W (mInsert i ma mb) σ H Q) : tBM X.K "list" (fun x vs H Q => ∃ (l : Addr) (xs : List V) (i : Int) (y : V), x = .ref l ∧ vs = [.int i, y] ∧ H l = some (.lst xs) ∧ xs.length < sizeLine ∧ 0 ≤ i ∧ i < 2 ^ 63 ∧
    Q .non (upd H l (.lst (xs.take i.toNat ++ [y] ++ xs.drop i.toNat)))) (tVar i) (tCons (tE C W ma) (tCons (tE C W mb) tNil)) σ H Q := by
  obtain ⟨Gc, F, ps, R, q⟩ := h
  unfold mInsert at q
  cases es : ps.sl[i]? with
  | none => rw [es] at q; exact q.elim
  | some s =>
    rw [es] at q
    cases s with
    | ml d0 =>
      obtain ⟨p, xs, h1, h2, _⟩ := ml_at R es
      refine ⟨.ref p, h1, .inl ⟨rfl, xs, SqL.of h2⟩, ?_⟩
      refine seqE qE.mono R q fun n ps1 v F1 H1 s1 R1 r1 q1 => ?_
      refine seqE qE.mono R1 q1 fun d ps2 u F2 H2 s2 R2 r2 q2 => ?_
      cases es2 : ps2.sl[i]? with
      | none => rw [es2] at q2; exact q2.elim
      | some s3 =>
        rw [es2] at q2
        cases s3 with
        | ml ds =>
          cases n with
          | int j =>
            obtain ⟨p', ys, g1, g2, g3, g4, g5⟩ := ml_at R2 es2
            rw [h1] at g1
            cases g1
            cases r1
            dsimp only at q2
            by_cases hl : (decide (ds.length < sizeLine) && decide (0 ≤ j) && decide (j.natAbs < 1000000)) = true
            · rw [if_pos hl] at q2
              rw [Bool.and_eq_true, Bool.and_eq_true] at hl
              have c1 := of_decide_eq_true hl.1.1
              have c2 := of_decide_eq_true hl.1.2
              have c3 := of_decide_eq_true hl.2
              refine ⟨p, ys, j, u, rfl, rfl, g2, by rw [g5.length]; exact c1, c2, by omega, q2 _ F2 _ (Same.refl _) ?_ .non⟩
              exact R2.mutate es2 rfl h1 g3 g4 rfl ⟨p, _, rfl, upd_same, g3, g4, ((g5.take _).append (.cons r2 .nil)).append (g5.drop _)⟩
            · rw [if_neg hl] at q2; exact q2.elim
          | _ => exact q2.elim
        | _ => cases n <;> exact q2.elim
    | _ => exact q.elim
theorem xinsert {i : Nat} {ma mb : ME} (ho : PE X o (tVar i)) (ha : PE X a (tE C W ma)) (hb : PE X b (tE C W mb))
    (hbase : attributeBase o "insert" X.env (eval o X.env) = eval o X.env := by rfl)
    (hfew : ((backTo cpos (starEach (a :: [b]) X.env)).all (fun x => !x.1) && (backToKw cpos (keywordEach [] X.env)).all (fun x => x.1.isSome)
      && decide ((a :: ([b] : List Expr)).length + ([] : List Keyword).length + (if ([] : List Keyword).isEmpty then 0 else 1) < 30)) = true := by rfl)
    (hline : (apos.endLine == cpos.line) = true := by rfl) (hs : starEach (a :: [b]) X.env = (false, eval a X.env) :: starEach [b] X.env := by rfl) (hs2 : starEach (b :: []) X.env = (false, eval b X.env) :: starEach [] X.env := by rfl) (hplain : (backTo cpos (starEach [b] X.env)).any (·.1) = false := by rfl) :
    PE X (.Call (.Attribute o "insert" apos) [a, b] [] cpos) (tE C W (mInsert i ma mb)) :=
  pe_imp (pe_bm PySem.F.plainAttrs_list PySem.F.slot_list_insert PySem.F.type_list_insert mt_insert ho (pa_cons ha (pa_cons hb pa_nil hs2) hs) hbase hfew hline hs hplain) fun _ _ _ h => insert_ok h
/-- <= of numbers, of tuples of numbers -/
def leT (ns ms : List Int) : Bool := Ob.lexAt (fun j => decide (ns.getD j 0 = ms.getD j 0)) (fun j => decide (ns.getD j 0 ≤ ms.getD j 0)) (decide (ns.length ≤ ms.length)) 0 (min ns.length ms.length)
def dLeT (x y : D) : Option D := match x, y with
  | .tuple xs, .tuple ys => (intsOf xs).bind fun ns => (intsOf ys).map fun ms => .bool (leT ns ms)
  | _, _ => none
theorem om_leT (hK : C.K = X.K) : OpM C dLeT (rLeT X.K) := by
  intro Gc F H ps σ v u x y z Q R rx ry hz q
  unfold dLeT at hz
  split at hz
  · obtain ⟨ns, e1, hz⟩ := Option.bind_eq_some_iff.mp hz
    obtain ⟨ms, e2, hz⟩ := Option.map_eq_some_iff.mp hz
    subst hz
    have i1 := intsOf_eq e1
    have i2 := intsOf_eq e2
    subst i1; subst i2
    cases rx with
    | tup t1 a1 =>
      cases ry with
      | tup t2 a2 =>
        have j1 := a1.ints
        have j2 := a2.ints
        subst j1; subst j2
        exact ⟨_, _, ns, ms, rfl, rfl, by rw [← hK]; exact sqT_mono R.fh t1, by rw [← hK]; exact sqT_mono R.fh t2, q _ F H (Same.refl _) R (.bl _)⟩
  · cases hz
end
end MM
/-! min(a, b), max(a, b) of data that are alike. -/
namespace MM
open PySem PySem.Spec PyProof.Rows L2 PySem.W
section
variable {prog : Program} {w : World} {A : Around} {E : Value → Shared → Prop} {s : Shared}
theorem best2 {bt : Nat → Nat → Bool} : argBest bt 1 = if bt 1 0 = true then 1 else 0 := by
  show (if bt (0 + 1) 0 = true then 0 + 1 else 0) = _
  rfl
theorem min2_run {a b : Value} {da db : PyData} {as bs : List Addr} {Q : Value → Shared → Prop} (hh : A.handled = none) (ra : Reads s.heap a da as) (rb : Reads s.heap b db bs) (al : AlikeAll [da, db]) (hu : A.units + 1 + PyData.depthAll [da, db] < cLine)
    (h : ∀ h' tk, (∀ c o, s.heap.get? c = some o → h'.get? c = some o) → Q (if dataLt db da = true then b else a) { s with heap := h', toks := tk }) : wpAny (model prog w) A (call (.builtin "min") [a, b]) Q E s := by
  have nm : (toString "min" ++ toString ".loop" : String) = "min.loop" := by decide
  refine call_function_tree F.kind_min F.plain_min F.entry_min (F.args_min2 _ _) (show wpAny _ A.in1 (Builtin.Builtins.bindParams "min" ["key", "default"] 0 ⟨[], []⟩ >>= _) _ _ s from wpAny_bind (wpAny_of_eq (show _ = pure [none, none] from rfl) ?_))
  show wpAny _ A.in1 (newTuple [a, b] >>= _) _ _ s
  refine wpAny_bind (wpAny_newObj_type ?_)
  have up : ∀ c o, s.heap.get? c = some o → (s.heap.push { cls := .type "tuple", data := .seq #[a, b] }).get? c = some o := fun c o e => Heap.get?_push_of_some _ e
  let s1 : Shared := { s with heap := s.heap.push { cls := .type "tuple", data := .seq #[a, b] } }
  have ht : s1.heap.IsTuple s.heap.objs.size #[a, b] := ⟨_, Heap.get?_push_size _ rfl, rfl, 0, rfl⟩
  have hr : ReadsAll s1.heap (#[a, b] : Array Value).toList [da, db] _ := ReadsAll.cons (Reads.keeps up ra) (ReadsAll.cons (Reads.keeps up rb) ReadsAll.nil)
  refine wpAny_bind (iter_tupleW (s := s1) (A := A.in1) hh ht fun s2 e W st hfp hw hk => ?_)
  refine wpAny_bind (wpAny_newObj_type ?_)
  have hS : s2.heap.objs.size ∉ [s1.heap.objs.size, s.heap.objs.size] := fun m => Nat.lt_irrefl _ (hfp _ m)
  rw [nm]
  refine wpAny_pure ⟨plainId_quiet F.plain_min_loop _, codeAny_min_loop_firstH W s1.heap hw _ (cmpIn_lt (A := A.in1) hr al (by show A.units + 1 + _ < _; exact hu)) s2.heap.objs.size hS (fresh_in hk) _ (by show 0 < 2; decide) (fun c o e => Heap.get?_push_of_some _ (hk c o e))
    (W.frame 0 s2 _ s2.toks st (Nat.le_refl _) fun c _ o e => Heap.get?_push_of_some _ e) (Heap.get?_push_size _ rfl) fun v s' hP hm => ?_⟩
  obtain ⟨h', tk, e', hk'⟩ := moved_old e rfl (Moved.drop_new (tk := s2.toks) hm (Nat.le_refl _))
  subst e'
  have q := h h' tk fun c o e => hk' c o (up c o e)
  have hv : v = if dataLt db da = true then b else a := by
    have hP : (#[a, b] : Array Value)[argBest (fun i j => dataLt ([da, db].getD i .none) ([da, db].getD j .none)) 1]? = some v := hP
    rw [best2] at hP
    by_cases c : dataLt db da = true
    · have c' : dataLt ([da, db].getD 1 .none) ([da, db].getD 0 .none) = true := c
      rw [if_pos c'] at hP
      rw [if_pos c]
      simpa using hP.symm
    · have c' : ¬ dataLt ([da, db].getD 1 .none) ([da, db].getD 0 .none) = true := c
      rw [if_neg c'] at hP
      rw [if_neg c]
      simpa using hP.symm
  rw [hv]; exact q
theorem max2_run {a b : Value} {da db : PyData} {as bs : List Addr} {Q : Value → Shared → Prop} (hh : A.handled = none) (ra : Reads s.heap a da as) (rb : Reads s.heap b db bs) (al : AlikeAll [da, db]) (hu : A.units + 1 + PyData.depthAll [da, db] < cLine)
    (h : ∀ h' tk, (∀ c o, s.heap.get? c = some o → h'.get? c = some o) → Q (if dataLt da db = true then b else a) { s with heap := h', toks := tk }) : wpAny (model prog w) A (call (.builtin "max") [a, b]) Q E s := by
  have nm : (toString "max" ++ toString ".loop" : String) = "max.loop" := by decide
  refine call_function_tree F.kind_max F.plain_max F.entry_max (F.args_max2 _ _) (show wpAny _ A.in1 (Builtin.Builtins.bindParams "max" ["key", "default"] 0 ⟨[], []⟩ >>= _) _ _ s from wpAny_bind (wpAny_of_eq (show _ = pure [none, none] from rfl) ?_))
  show wpAny _ A.in1 (newTuple [a, b] >>= _) _ _ s
  refine wpAny_bind (wpAny_newObj_type ?_)
  have up : ∀ c o, s.heap.get? c = some o → (s.heap.push { cls := .type "tuple", data := .seq #[a, b] }).get? c = some o := fun c o e => Heap.get?_push_of_some _ e
  let s1 : Shared := { s with heap := s.heap.push { cls := .type "tuple", data := .seq #[a, b] } }
  have ht : s1.heap.IsTuple s.heap.objs.size #[a, b] := ⟨_, Heap.get?_push_size _ rfl, rfl, 0, rfl⟩
  have hr : ReadsAll s1.heap (#[a, b] : Array Value).toList [da, db] _ := ReadsAll.cons (Reads.keeps up ra) (ReadsAll.cons (Reads.keeps up rb) ReadsAll.nil)
  refine wpAny_bind (iter_tupleW (s := s1) (A := A.in1) hh ht fun s2 e W st hfp hw hk => ?_)
  refine wpAny_bind (wpAny_newObj_type ?_)
  have hS : s2.heap.objs.size ∉ [s1.heap.objs.size, s.heap.objs.size] := fun m => Nat.lt_irrefl _ (hfp _ m)
  rw [nm]
  refine wpAny_pure ⟨plainId_quiet F.plain_max_loop _, codeAny_max_loop_firstH W s1.heap hw _ (cmpIn_gt (A := A.in1) hr al (by show A.units + 1 + _ < _; exact hu)) s2.heap.objs.size hS (fresh_in hk) _ (by show 0 < 2; decide) (fun c o e => Heap.get?_push_of_some _ (hk c o e))
    (W.frame 0 s2 _ s2.toks st (Nat.le_refl _) fun c _ o e => Heap.get?_push_of_some _ e) (Heap.get?_push_size _ rfl) fun v s' hP hm => ?_⟩
  obtain ⟨h', tk, e', hk'⟩ := moved_old e rfl (Moved.drop_new (tk := s2.toks) hm (Nat.le_refl _))
  subst e'
  have q := h h' tk fun c o e => hk' c o (up c o e)
  have hv : v = if dataLt da db = true then b else a := by
    have hP : (#[a, b] : Array Value)[argBest (fun i j => dataLt ([da, db].getD j .none) ([da, db].getD i .none)) 1]? = some v := hP
    rw [best2] at hP
    by_cases c : dataLt da db = true
    · have c' : dataLt ([da, db].getD 0 .none) ([da, db].getD 1 .none) = true := c
      rw [if_pos c'] at hP
      rw [if_pos c]
      simpa using hP.symm
    · have c' : ¬ dataLt ([da, db].getD 0 .none) ([da, db].getD 1 .none) = true := c
      rw [if_neg c'] at hP
      rw [if_neg c]
      simpa using hP.symm
  rw [hv]; exact q
end
def alk (x y : D) : Bool := alike x y && alike y x && alike x x && alike y y && !isNon x && !isNon y && decide (PyData.depthAll [x, y] ≤ 60) && cln true x && cln true y
theorem alk_ok {x y : D} (h : alk x y = true) : AlikeAll [x, y] ∧ PyData.depthAll [x, y] ≤ 60 ∧ cln true x = true ∧ cln true y = true := by
  unfold alk at h
  simp only [Bool.and_eq_true, decide_eq_true_eq, Bool.not_eq_true'] at h
  obtain ⟨⟨⟨⟨⟨⟨⟨⟨a1, a2⟩, a3⟩, a4⟩, a5⟩, a6⟩, a7⟩, a8⟩, a9⟩ := h
  refine ⟨⟨fun p hp q hq => ?_, fun p hp e => ?_⟩, a7, a8, a9⟩
  · simp only [List.mem_cons, List.not_mem_nil, or_false] at hp hq
    rcases hp with rfl | rfl <;> rcases hq with rfl | rfl <;> assumption
  · simp only [List.mem_cons, List.not_mem_nil, or_false] at hp
    subst e
    rcases hp with e | e
    · rw [← e] at a5; cases a5
    · rw [← e] at a6; cases a6
section
variable {X : Cx} {C : Mc}
def rTwo (C : Mc) (f : D → D → Bool) : List V → Hp → VK → Prop := fun xs H Q => ∃ v u F x y, xs = [v, u] ∧ Same F H ∧ Rp C F v x ∧ Rp C F u y ∧ alk x y = true ∧ Q (if f x y = true then u else v) H
theorem cr_min2D (hc : X.calm = true) (hu : X.A.units + 65 < cLine) (hK : C.K = X.K) : CallR X (.builtin "min") (rTwo C fun x y => dataLt y x) := by
  intro pins s σ H xs us Q I r ⟨v, u, F, x, y, e, hF, rx, ry, ok, q⟩
  subst e
  obtain ⟨a, b, rfl, ra, rb⟩ := vals2 r
  obtain ⟨al, d, c1, c2⟩ := alk_ok ok
  obtain ⟨as, qa, _⟩ := rx.rd I hK hF c1 ra
  obtain ⟨bs, qb, _⟩ := ry.rd I hK hF c2 rb
  refine min2_run (I.ok.hd hc) qa qb al (by omega) fun h' tk k => ⟨if dataLt y x = true then u else v, H, I.kept k, ?_, q⟩
  by_cases c : dataLt y x = true
  · rw [if_pos c, if_pos c]; exact rb
  · rw [if_neg c, if_neg c]; exact ra
theorem cr_max2D (hc : X.calm = true) (hu : X.A.units + 65 < cLine) (hK : C.K = X.K) : CallR X (.builtin "max") (rTwo C fun x y => dataLt x y) := by
  intro pins s σ H xs us Q I r ⟨v, u, F, x, y, e, hF, rx, ry, ok, q⟩
  subst e
  obtain ⟨a, b, rfl, ra, rb⟩ := vals2 r
  obtain ⟨al, d, c1, c2⟩ := alk_ok ok
  obtain ⟨as, qa, _⟩ := rx.rd I hK hF c1 ra
  obtain ⟨bs, qb, _⟩ := ry.rd I hK hF c2 rb
  refine max2_run (I.ok.hd hc) qa qb al (by omega) fun h' tk k => ⟨if dataLt x y = true then u else v, H, I.kept k, ?_, q⟩
  by_cases c : dataLt x y = true
  · rw [if_pos c, if_pos c]; exact rb
  · rw [if_neg c, if_neg c]; exact ra
def dTwo (f : D → D → Bool) : List D → Option D
  | [x, y] => if alk x y = true then some (if f x y = true then y else x) else none
  | _ => none
theorem cm_two {f : D → D → Bool} : CallM C (dTwo f) (rTwo C f) := by
  intro Gc F H ps σ vs ds z Q R r hz q
  match ds, r with
  | [x, y], .cons rx (.cons ry .nil) =>
    have hz : (if alk x y = true then some (if f x y = true then y else x) else none) = some z := hz
    by_cases ok : alk x y = true
    · rw [if_pos ok] at hz
      cases hz
      refine ⟨_, _, F, x, y, rfl, R.fh, rx, ry, ok, ?_⟩
      by_cases c : f x y = true
      · rw [if_pos c]; exact q _ F H (Same.refl _) R (by rw [if_pos c]; exact ry)
      · rw [if_neg c]; exact q _ F H (Same.refl _) R (by rw [if_neg c]; exact rx)
    · rw [if_neg ok] at hz; cases hz
  | [], _ => cases hz
  | [_], _ => cases hz
  | _ :: _ :: _ :: _, _ => cases hz
end
end MM
/-! == [] whatever the list has; >= of numbers or of tuples of numbers. -/
namespace MM
open PySem PySem.Spec PyProof.Rows L2
section
variable {X : Cx} {C : Mc}
def rEqL0 (K : PySem.W.Frag) (f : Bool → Bool) : R2 := fun x y H Q => ∃ l m xs, x = .ref l ∧ y = .ref m ∧ SqL K H l xs ∧ SqL K H m [] ∧ Q (.bl (f xs.isEmpty)) H
theorem eqL0_parts {pins : List (Addr × Obj)} {σ : St} {H : Hp} {s : Shared} (I : Inv X pins σ H s) {l m : Addr} {xs : List V} (h1 : SqL X.K H l xs) (h2 : SqL X.K H m []) :
    ∃ us ws : Array Value, s.heap.IsList l us ∧ s.heap.IsList m ws ∧ ws.size = 0 ∧ us.size = xs.length := by
  obtain ⟨u1, r1, ⟨o1, n1, g1, c1, b1, d1⟩, _⟩ := I.list h1
  obtain ⟨u2, r2, ⟨o2, n2, g2, c2, b2, d2⟩, _⟩ := I.list h2
  refine ⟨u1.toArray, u2.toArray, ⟨o1, g1, c1, n1, d1⟩, ⟨o2, g2, c2, n2, d2⟩, ?_, ?_⟩
  · cases r2; rfl
  · rw [List.size_toArray, ← r1.length]
theorem op_eqL0 (hu : X.A.units < cLine) : OpR X (compareOp .Eq) (rEqL0 X.K id) := by
  intro pins s σ H x y v u Q I rx ry ⟨l, m, xs, e1, e2, h1, h2, q⟩
  subst e1; subst e2
  cases rx; cases ry
  obtain ⟨us, ws, p1, p2, z, n⟩ := eqL0_parts I h1 h2
  have fin : wpAny (model X.prog X.w) X.A (compareOp .Eq (.ref l) (.ref m)) (EP X pins σ Q) X.xe s := by
    cases xs with
    | nil =>
      have n : us.size = 0 := n
      refine SeqAt.eq_listAt (e := fun _ => true) p1 p2 (by omega) hu (fun j a1 a2 => by omega) ?_
      rw [n]
      exact ⟨.bl true, H, I, rfl, q⟩
    | cons x xs =>
      have n : us.size = xs.length + 1 := n
      refine SeqAt.eq_list_lengthsAt p1 p2 (by rw [n, z]; simp) hu ?_
      exact ⟨.bl false, H, I, rfl, q⟩
  exact fin
theorem op_neL0 (hu : X.A.units < cLine) : OpR X (compareOp .NotEq) (rEqL0 X.K not) := by
  intro pins s σ H x y v u Q I rx ry ⟨l, m, xs, e1, e2, h1, h2, q⟩
  subst e1; subst e2
  cases rx; cases ry
  obtain ⟨us, ws, p1, p2, z, n⟩ := eqL0_parts I h1 h2
  have fin : wpAny (model X.prog X.w) X.A (compareOp .NotEq (.ref l) (.ref m)) (EP X pins σ Q) X.xe s := by
    cases xs with
    | nil =>
      have n : us.size = 0 := n
      refine SeqAt.RcNeAt.lists (e := fun _ => true) p1 p2 (by omega) hu (fun j a1 a2 => by omega) X.prog X.w _ _ ?_
      rw [n]
      exact ⟨.bl false, H, I, rfl, q⟩
    | cons x xs =>
      have n : us.size = xs.length + 1 := n
      refine SeqAt.RcNeAt.lists_lengths p1 p2 (by rw [n, z]; simp) hu X.prog X.w _ _ ?_
      exact ⟨.bl true, H, I, rfl, q⟩
  exact fin
def dEqL0 (f : Bool → Bool) (x y : D) : Option D := match x, y with
  | .list xs, .list [] => some (.bool (f xs.isEmpty))
  | _, _ => none
theorem om_eqL0 {f : Bool → Bool} : OpM C (dEqL0 f) (rEqL0 X.K f) := by
  intro Gc F H ps σ v u x y z Q R rx ry hz q
  unfold dEqL0 at hz
  split at hz
  · cases hz
    cases rx with
    | lst t1 a1 =>
      cases ry with
      | lst t2 a2 =>
        cases a2
        refine ⟨_, _, _, rfl, rfl, SqL.of (R.fh _ _ t1), SqL.of (R.fh _ _ t2), ?_⟩
        have e : ∀ {vs : List V} {ds : List D}, RpA C F vs ds → vs.isEmpty = ds.isEmpty := fun r => by cases r <;> rfl
        rw [e a1]
        exact q _ F H (Same.refl _) R (.bl _)
  · cases hz
/-! >= -/
def rGeT (K : PySem.W.Frag) : R2 := fun x y H Q => ∃ (a b : Addr) (ns ms : List Int), x = .ref a ∧ y = .ref b ∧ SqT K H a (ns.map V.int) ∧ SqT K H b (ms.map V.int) ∧
  Q (.bl (Ob.lexAt (fun j => decide (ns.getD j 0 = ms.getD j 0)) (fun j => decide (ms.getD j 0 ≤ ns.getD j 0)) (decide (ms.length ≤ ns.length)) 0 (min ns.length ms.length))) H
theorem op_geT {X : Cx} (hu : X.A.units < cLine) : OpR X (compareOp .GtE) (rGeT X.K) := by
  intro pins s σ H x y v u Q I rx ry h
  obtain ⟨a, b, ns, ms, rfl, rfl, ha, hb, q⟩ := h
  cases rx
  cases ry
  obtain ⟨its, r1, p1, _⟩ := I.tuple ha
  obtain ⟨its2, r2, p2, _⟩ := I.tuple hb
  have i1 : IntsAre its ns := Vals.ints r1
  have i2 : IntsAre its2 ms := Vals.ints r2
  have e1 : its.toArray.size = ns.length := by rw [List.size_toArray]; exact i1.length
  have e2 : its2.toArray.size = ms.length := by rw [List.size_toArray]; exact i2.length
  have at1 : ∀ j (h1 : j < its.toArray.size), ∃ t, its.toArray[j] = .int (ns.getD j 0) t := fun j h1 => PyProof.Rows.IntsAre.int_at i1 _ _ (by simp at h1; simp [h1])
  have at2 : ∀ j (h1 : j < its2.toArray.size), ∃ t, its2.toArray[j] = .int (ms.getD j 0) t := fun j h1 => PyProof.Rows.IntsAre.int_at i2 _ _ (by simp at h1; simp [h1])
  have got := Ob.RcOp.tuples_ge (A := X.A) (s := s) (e := fun j => decide (ns.getD j 0 = ms.getD j 0)) (r := fun j => decide (ms.getD j 0 ≤ ns.getD j 0)) p1 p2 hu (fun j h1 h2 => by
    obtain ⟨t, et⟩ := at1 j h1
    obtain ⟨t', et'⟩ := at2 j h2
    rw [et, et']
    have z : decide (ns.getD j 0 = ms.getD j 0) = (ns.getD j 0 == ms.getD j 0) := by
      by_cases q : ns.getD j 0 = ms.getD j 0
      · rw [decide_eq_true q, beq_iff_eq.mpr q]
      · rw [decide_eq_false q, beq_eq_false_iff_ne.mpr q]
    rw [z]
    exact SeqAt.EqAt.int_int _ _ _ _) (fun j h1 h2 _ => by
    obtain ⟨t, et⟩ := at1 j h1
    obtain ⟨t', et'⟩ := at2 j h2
    rw [et, et']
    exact Ob.RcOp.ge_int _ _ _ _)
  rw [e1, e2] at got
  have z : wpAny (model X.prog X.w) X.A (compareOp .GtE (.ref a) (.ref b)) (EP X pins σ Q) X.xe s := got X.prog X.w X.xe (EP X pins σ Q) ⟨.bl _, H, I, rfl, q⟩
  exact z
def geT (ns ms : List Int) : Bool := Ob.lexAt (fun j => decide (ns.getD j 0 = ms.getD j 0)) (fun j => decide (ms.getD j 0 ≤ ns.getD j 0)) (decide (ms.length ≤ ns.length)) 0 (min ns.length ms.length)
def dGeT (x y : D) : Option D := match x, y with
  | .int i, .int j => some (.bool (decide (j ≤ i)))
  | .tuple xs, .tuple ys => (intsOf xs).bind fun ns => (intsOf ys).map fun ms => .bool (geT ns ms)
  | _, _ => none
def rGeAll (K : PySem.W.Frag) : R2 := fun x y H Q => rI0 (fun i j => .bl (decide (j ≤ i))) x y H Q ∨ rGeT K x y H Q
theorem op_geAll (hu : X.A.units < cLine) : OpR X (compareOp .GtE) (rGeAll X.K) := OpR.or op_ge (op_geT hu)
theorem om_geT (hK : C.K = X.K) : OpM C dGeT (rGeAll X.K) := by
  intro Gc F H ps σ v u x y z Q R rx ry hz q
  unfold dGeT at hz
  split at hz
  · cases hz; cases rx; cases ry
    exact .inl ⟨_, _, rfl, rfl, q _ F H (Same.refl _) R (.bl _)⟩
  · obtain ⟨ns, e1, hz⟩ := Option.bind_eq_some_iff.mp hz
    obtain ⟨ms, e2, hz⟩ := Option.map_eq_some_iff.mp hz
    subst hz
    have i1 := intsOf_eq e1
    have i2 := intsOf_eq e2
    subst i1; subst i2
    cases rx with
    | tup t1 a1 =>
      cases ry with
      | tup t2 a2 =>
        have j1 := a1.ints
        have j2 := a2.ints
        subst j1; subst j2
        exact .inr ⟨_, _, ns, ms, rfl, rfl, by rw [← hK]; exact sqT_mono R.fh t1, by rw [← hK]; exact sqT_mono R.fh t2, q _ F H (Same.refl _) R (.bl _)⟩
  · cases hz
end
end MM
/-! repr of things with lists and dicts both: no list stands where sys.modules stands. -/
namespace MM
open PySem PySem.Spec PyProof.Rows L2
section
variable {X : Cx} {C : Mc} {pins : List (Addr × Obj)} {σ : St} {F H : Hp} {s : Shared}
mutual
theorem Rp.rd2 (I : Inv X pins σ H s) (hK : C.K = X.K) (hF : Same F H) (hS : H sysModules = none) : ∀ {v : V} {d : D} {u : Value}, Rp C F v d → cln true d = true → RelV v u → ∃ as, Reads s.heap u d as ∧ sysModules ∉ as
  | _, _, _, .non, _, r => by cases r; exact ⟨[], .none, by simp⟩
  | _, _, _, .bl b, _, r => by cases r; exact ⟨[], .bool b, by simp⟩
  | _, _, _, .int i, _, r => by obtain ⟨t, rfl⟩ := r; exact ⟨[], .int i t, by simp⟩
  | _, _, _, .str x, _, r => by obtain ⟨t, rfl⟩ := r; exact ⟨[], .str x t, by simp⟩
  | _, _, _, .lst h b, c, r => by
    rw [cln, Bool.and_eq_true] at c
    cases r
    have ha := hF _ _ h
    obtain ⟨its, rv, ⟨o, n, ho, hc, _, hd⟩, _⟩ := I.list (SqL.of ha)
    obtain ⟨as, hr, hs⟩ := RpA.rd2 I hK hF hS b c.2 rv
    refine ⟨_, .list ho hc hd hr, fun z => ?_⟩
    rcases List.mem_cons.mp z with e | e
    · rw [← e, hS] at ha; cases ha
    · exact hs e
  | _, _, _, .tup h a, c, r => by
    rw [cln] at c
    cases r
    obtain ⟨its, rv, ⟨o, ho, hc, n, hd⟩, _⟩ := I.tuple (by rw [← hK]; exact sqT_mono hF h)
    obtain ⟨as, hr, hs⟩ := RpA.rd2 I hK hF hS a c rv
    exact ⟨_, .tuple ho hc hd hr, hs⟩
  | _, _, _, .dct h a k, c, r => by
    rw [cln, Bool.and_eq_true, clnKv_all] at c
    cases r
    obtain ⟨z, lo, vs, rk, o, es, ep, ho, hx, hd, _, hp, _⟩ := I.hok _ _ (hF _ _ h)
    obtain ⟨k1, k2⟩ := kv_vals rk
    obtain ⟨p1, p2⟩ := pairs_keys (h := s.heap) hp
    obtain ⟨as, hr, hs⟩ := RpA.rd2 I hK hF hS a c.2 k1
    rw [k2, ← k] at p1
    rw [← p2] at hr
    refine ⟨_, .dict ho hx.1 hd p1 hr, ?_⟩
    rw [List.mem_append, List.mem_singleton]
    rintro (e | e)
    · rw [← e] at lo; simp at lo
    · exact hs e
  | _, _, _, .deck h, c, _ => by
    have : cln true deckD = false := rfl
    rw [this] at c; cases c
theorem RpA.rd2 (I : Inv X pins σ H s) (hK : C.K = X.K) (hF : Same F H) (hS : H sysModules = none) : ∀ {vs : List V} {ds : List D} {us : List Value}, RpA C F vs ds → clnAll true ds = true → Vals vs us → ∃ as, ReadsAll s.heap us ds as ∧ sysModules ∉ as
  | _, _, _, .nil, _, r => by cases r; exact ⟨[], .nil, by simp⟩
  | _, _, _, .cons h t, c, r => by
    rw [clnAll, Bool.and_eq_true] at c
    cases r with
    | cons r1 r2 =>
      obtain ⟨as, q1, n1⟩ := Rp.rd2 I hK hF hS h c.1 r1
      obtain ⟨bs, q2, n2⟩ := RpA.rd2 I hK hF hS t c.2 r2
      exact ⟨_, .cons q1 q2, fun m => (List.mem_append.mp m).elim n1 n2⟩
end
end
/-- what repr tells, lists and dicts both let -/
def shwOk2 (d : D) : Bool := d.showable && decide (d.shown.length ≤ sizeLine) && decide (d.depth ≤ 64) && cln true d
def dRepr2 : List D → Option D
  | [d] => if shwOk2 d = true then some (.str d.shown) else none
  | _ => none
section
variable {X : Cx} {C : Mc}
def rShw2 (C : Mc) : List V → Hp → VK → Prop := fun xs H Q => ∃ v F d, xs = [v] ∧ Same F H ∧ Rp C F v d ∧ shwOk2 d = true ∧ Q (.str d.shown) H
theorem cr_repr2 (cA : Calm X.A) (hu : X.A.units + 65 < cLine) (hK : C.K = X.K) (hB : ∃ o, X.base.get? sysModules = some o) : CallR X (.builtin "repr") (rShw2 C) := by
  intro pins s σ H xs us Q I r ⟨v, F, d, e, hF, rp, ok, q⟩
  subst e
  obtain ⟨u, rfl, rv⟩ := vals1 r
  unfold shwOk2 at ok
  rw [Bool.and_eq_true, Bool.and_eq_true, Bool.and_eq_true, decide_eq_true_eq, decide_eq_true_eq] at ok
  obtain ⟨⟨⟨h1, h2⟩, h3⟩, h4⟩ := ok
  have tell : ∀ (h' : Heap) (t tk : Tok), (∀ b o, s.heap.get? b = some o → h'.get? b = some o) → EP X pins σ Q (.str d.shown t) { s with heap := h', toks := tk } := fun h' t tk hk => ⟨.str d.shown, H, I.kept hk, ⟨t, rfl⟩, q⟩
  obtain ⟨o, hB⟩ := hB
  have hS : H sysModules = none := (I.bs _ _ hB).2
  obtain ⟨as, rd, hsm⟩ := rp.rd2 I hK hF hS h4 rv
  have hsm : d.hasDict = true → sysModules ∉ as := fun _ => hsm
  cases rd with
  | none => exact PySem.P.repr_of_none (tell s.heap _ _ fun _ _ e => e)
  | bool b => exact PySem.P.repr_of_bool (tell s.heap _ _ fun _ _ e => e)
  | int i t => exact PySem.P.repr_of_int (by simpa [PyData.showable] using h1) (tell s.heap _ _ fun _ _ e => e)
  | str x t => exact PySem.P.repr_of_str (tell s.heap _ _ fun _ _ e => e) (hsz := by simpa [PyData.shown] using h2)
  | list a1 a2 a3 a4 => exact repr_of_reads' (.list a1 a2 a3 a4) h1 hsm cA (by omega) (fun _ _ e => e) (fun h' t tk hk => tell h' t tk hk) h2
  | tuple a1 a2 a3 a4 => exact repr_of_reads' (.tuple a1 a2 a3 a4) h1 hsm cA (by omega) (fun _ _ e => e) (fun h' t tk hk => tell h' t tk hk) h2
  | dict a1 a2 a3 a4 a5 => exact repr_of_reads' (.dict a1 a2 a3 a4 a5) h1 hsm cA (by omega) (fun _ _ e => e) (fun h' t tk hk => tell h' t tk hk) h2
theorem cm_repr2 : CallM C dRepr2 (rShw2 C) := by
  intro Gc F H ps σ vs ds z Q R r hz q
  match ds, r with
  | [d], .cons r .nil =>
    have hz : (if shwOk2 d = true then some (PyData.str d.shown) else none) = some z := hz
    by_cases ok : shwOk2 d = true
    · rw [if_pos ok] at hz
      cases hz
      exact ⟨_, F, d, rfl, R.fh, r, ok, q _ F H (Same.refl _) R (.str _)⟩
    · rw [if_neg ok] at hz; cases hz
  | [], _ => cases hz
  | _ :: _ :: _, _ => cases hz
end
/-! the closing, with sys.modules known to stand -/
section
variable {P : Program} {w : World} {K : PySem.W.Frag} {mg : Str → Option Value}
theorem law_goG2 {mb : Str → Option Value} {k : Nat} {fa a : Addr} {fd : FuncData} {x : Str} {s1 : Shared} {vs : List Value} {ns : List Int} (KX : K.In s1.heap) (hns : s1.heap.Ns mainGlobals mg) (hbl : s1.heap.Ns builtinsNs mb) (hbb : ∀ x : Str, x ≠ "__name__" → mb x = bootBuiltins x) (hlim : s1.heap.NoLimit) (hsys : s1.heap.NoSeer) (hg : s1.gens = #[])
    (ha : s1.heap.get? a = some { cls := .type "list", data := .seq vs.toArray }) (hi : IntsAre vs ns) (hl : ns.length ≤ 63) (hr : Room k callerA) (F : ∀ base : Heap, K.In base → base.Ns mainGlobals mg → (∃ o, base.get? sysModules = some o) → FnG P w K mg base k fa fd [x] (spLaw K)) (hbi : ∀ (s : Shared) (u : Value), BindsTo s fd ⟨[u], []⟩ [(x, u)]) :
    codeAny (model P w) callerA (.call (.ref fa) ⟨[.ref a], []⟩) (fun r s' => r = .ok (.ret (.bool true)) ∧ OldK s1.heap s'.heap ∧ s'.os = s1.os ∧ AllBare s'.gens) s1 := by
  have rv := vals_ints hi
  have nv := hi.length
  let o : Obj := { cls := .type "list", data := .seq vs.toArray }
  let u : Option HO := if (K.lookup a).isSome = true then none else some (.frz o (.lst (ns.map V.int)))
  let H : Hp := fun b => if b = a then u else none
  have Ha : H a = u := if_pos rfl
  have Hn : ∀ {b : Addr} {z : HO}, H b = some z → b = a ∧ u = some z := fun {b z} e => by
    by_cases hb : b = a
    · subst hb; exact ⟨rfl, Ha ▸ e⟩
    · have e2 : H b = none := if_neg hb
      rw [e2] at e; cases e
  have un : ∀ {z : HO}, u = some z → K.lookup a = none ∧ z = .frz o (.lst (ns.map V.int)) := fun {z} e => by
    by_cases hk : (K.lookup a).isSome = true
    · have : u = none := if_pos hk
      rw [this] at e; cases e
    · have : u = some (.frz o (.lst (ns.map V.int))) := if_neg hk
      rw [this] at e; cases e
      exact ⟨Option.not_isSome_iff_eq_none.mp hk, rfl⟩
  have sz : ns.length ≤ sizeLine := Nat.le_trans hl (by decide)
  have hok : HOk P w H s1.heap := fun b z e => by
    obtain ⟨rfl, e2⟩ := Hn e
    obtain ⟨_, rfl⟩ := un e2
    exact ⟨ha, by rw [List.length_map]; exact sz, vs, _, rv, ha⟩
  have hS : SqL K H a (ns.map V.int) := by
    cases hk : K.lookup a with
    | none => exact .inl (.inr ⟨o, Ha.trans (if_neg (by rw [hk]; simp))⟩)
    | some o1 =>
      have e := KX a o1 hk
      rw [ha] at e
      cases e
      exact .inr ⟨_, vs.toArray, _, hk, rfl, rfl, rfl, by rw [List.size_toArray, nv]; exact sz, by simpa using rv⟩
  have keepB : ∀ {b : Addr} {o1 : Obj}, s1.heap.get? b = some o1 → H b = none → (hidT s1.heap H).get? b = some o1 := fun e n => hidT_get e n
  have noD : ∀ {b : Addr} {o1 : Obj} {es : Array DictEntry} {ep : Nat}, s1.heap.get? b = some o1 → o1.data = .dict es ep → H b = none := fun {b o1 es ep} e d => by
    cases q : H b with
    | none => rfl
    | some z =>
      obtain ⟨rfl, _⟩ := Hn q
      rw [ha] at e
      cases e
      exact nomatch (show Data.seq vs.toArray _ = Data.dict es ep from d)
  have nsB : ∀ {b : Addr} {m : Str → Option Value}, s1.heap.Ns b m → (hidT s1.heap H).Ns b m := fun ⟨o1, es, ep, e, d, r⟩ => ⟨o1, es, ep, keepB e (noD e d), d, r⟩
  have KB : K.In (hidT s1.heap H) := fun b o1 e => keepB (KX b o1 e) (by
    cases q : H b with
    | none => rfl
    | some z =>
      obtain ⟨rfl, e2⟩ := Hn q
      rw [(un e2).1] at e; cases e)
  obtain ⟨mc, l1, l2⟩ := hlim
  have e0 : Env0 P w K mg (hidT s1.heap H) callerA [] s1 H := {
    frames := rfl
    mod := ⟨KB, nsB hns, ⟨mb, nsB hbl, hbb⟩, ⟨mc, nsB l1, l2⟩⟩
    bs := fun b o1 e => of_hidT e
    bsz := Nat.le_of_eq (hidT_size _ _)
    funs := trivial
    frf := fun b z => (nomatch z)
    hok := hok
    bare := .of_eq hg }
  have hsb : ∃ o, (hidT s1.heap H).get? sysModules = some o := by
    obtain ⟨mm, hm, _⟩ := hsys.mods
    obtain ⟨o1, _, _, e1, _⟩ := nsB hm
    exact ⟨o1, e1⟩
  have sp : spLaw K [.ref a] H (fun v _ => v = .bl true) E0 := ⟨a, ns, rfl, hS, hl, fun _ => rfl⟩
  refine codeAny_mono ((F _ KB (nsB hns) hsb).go callerA [] s1 H ⟨[.ref a], []⟩ [.ref a] [.ref a] _ E0 rfl hr e0 (hbi s1 (.ref a)) (.cons rfl .nil) sp) fun r s' h => ?_
  match r, h with
  | .ok (.ret u'), h =>
    obtain ⟨v, H', os, bare, un2, hok', r', q⟩ := h
    have q : v = .bl true := q
    subst q
    obtain rfl : u' = Value.bool true := r'
    refine ⟨rfl, OldK.of_keep fun b o1 e => ?_, os, bare⟩
    cases q : H b with
    | none => exact un2.keep b o1 e q (fun z => nomatch z) (by simp)
    | some z =>
      obtain ⟨rfl, e2⟩ := Hn q
      obtain ⟨_, rfl⟩ := un e2
      have g := (hok' b _ (un2.frzs b o _ q)).1
      rw [ha] at e
      cases e
      exact g
  | .ok .next, h => exact False.elim h
  | .ok .brk, h => exact False.elim h
  | .ok .cont, h => exact False.elim h
  | .error _, h => exact False.elim h
end
theorem walkG2 {l : PySem.W.OpenLaw} {k : Nat} {q : Program} {loose : List Str} {XP : (Str → Option Value) → Heap → Prop} {YP : World → Heap → Prop} {d : DefRec} {K : Params → PySem.W.Frag} {x : Str} (himp : importsNone q = true) (hn : l.most = some 63) (hdf : d.params.defaults = []) (hr : Room k callerA) (hY : ∀ (w : World) (h : Heap), YP w h → (K w.params).In h)
    (F : ∀ (w : World) (mg : Str → Option Value) (fa : Addr) (h : Heap), (K w.params).In h → h.Ns mainGlobals mg → mg d.name = some (.ref fa) →
      ∃ fd : FuncData, (∀ (s : Shared) (u : Value), BindsTo s fd ⟨[u], []⟩ [(x, u)]) ∧ ∀ base : Heap, (K w.params).In base → base.Ns mainGlobals mg → (∃ o, base.get? sysModules = some o) → FnG l.prog w (K w.params) mg base k fa fd [x] (spLaw (K w.params))) :
    PySem.W.WalkO q loose XP YP l.row.toRowW d [] (fun f vs => PySem.call f vs) :=
  Att.attach_call hn hdf fun w s0 s1 mg mb fa o pm cd doc a vs ns G Y ho hd hcd hmg hobj hints hlen hg => by
    obtain ⟨fd, hb, hF⟩ := F w mg fa _ (hY w _ Y) G.T.g hmg
    exact law_goG2 (hY w _ Y) G.T.g G.T.b G.T.builtins G.T.nolimit (G.T.seer himp) hg hobj hints hlen hr hF hb
end MM
/-! a dict of the module with texts and numbers; upper; d.get(k, v). -/
namespace MM
open PySem PySem.Spec PyProof.Rows L2
/-- what stands in a dict of the module -/
structure KTab (K : PySem.W.Frag) (w : World) (d : Addr) (kvs : List (Str × Int)) : Prop where
  kd : ∃ es n, KDict K w d es n
  at_ : ∀ z, ∃ r, PySem.W.nsIn K d z = some r ∧ RelO ((kvs.lookup z).map V.int) r
def ValsIn (K : PySem.W.Frag) (d : Addr) (kvs : List (Str × Int)) : Prop := ∀ p ∈ kvs, ∃ t, PySem.W.nsIn K d p.1 = some (some (.int p.2 t))
theorem valsIn_nil {K : PySem.W.Frag} {d : Addr} : ValsIn K d [] := fun _ h => nomatch h
theorem valsIn_cons {K : PySem.W.Frag} {d : Addr} {k : Str} {i : Int} {t : Tok} {r : List (Str × Int)} (h : PySem.W.nsIn K d k = some (some (.int i t))) (hr : ValsIn K d r) : ValsIn K d ((k, i) :: r) := fun p hp => by
  rcases List.mem_cons.mp hp with e | e
  · subst e; exact ⟨t, h⟩
  · exact hr p e
theorem lookup_mem {z : Str} {i : Int} : ∀ {kvs : List (Str × Int)}, kvs.lookup z = some i → (z, i) ∈ kvs
  | [], h => by cases h
  | (k, v) :: r, h => by
    rw [List.lookup_cons] at h
    by_cases e : z = k
    · subst e
      rw [beq_self_eq_true] at h
      cases h
      exact List.mem_cons_self
    · rw [beq_eq_false_iff_ne.mpr e] at h
      exact List.mem_cons_of_mem _ (lookup_mem h)
theorem lookup_no {z : Str} : ∀ {kvs : List (Str × Int)}, kvs.lookup z = none → z ∉ kvs.map (·.1)
  | [], _ => by simp
  | (k, v) :: r, h => by
    rw [List.lookup_cons] at h
    by_cases e : z = k
    · subst e
      rw [beq_self_eq_true] at h
      cases h
    · rw [beq_eq_false_iff_ne.mpr e] at h
      rw [List.map_cons, List.mem_cons]
      rintro (q | q)
      · exact e q
      · exact lookup_no h q
theorem find_none {P : Params} {z : Str} : ∀ {es : List DictEntry} {ks : List Str}, es.map He.keyOf = He.keysIn P ks → z ∉ ks → es.find? (·.key.isStr z) = none ∧ es.any (·.refKey) = false
  | [], _, _, _ => ⟨rfl, rfl⟩
  | e :: r, [], h, _ => by cases h
  | e :: r, k :: ks, h, hz => by
    have h1 : He.keyOf e :: r.map He.keyOf = some (k, PyData.keyHash P k) :: He.keysIn P ks := h
    injection h1 with h2 h3
    have hz : z ≠ k ∧ z ∉ ks := ⟨fun q => hz (by simp [q]), fun q => hz (by simp [q])⟩
    obtain ⟨i1, i2⟩ := find_none h3 hz.2
    unfold He.keyOf at h2
    split at h2
    · rename_i x t q
      have h4 := Option.some.inj h2
      obtain ⟨h5, h6⟩ := Prod.mk.inj h4
      subst h5
      have a : e.key.isStr z = false := by
        rw [q]
        have : ¬ x = z := fun q => hz.1 q.symm
        simp [Value.isStr, this]
      refine ⟨?_, ?_⟩
      · rw [List.find?_cons, a]; exact i1
      · rw [List.any_cons, i2, Bool.or_false]
        unfold DictEntry.refKey
        rw [q]
    · cases h2
theorem ktab_mk {K : PySem.W.Frag} {w : World} {d : Addr} {kvs : List (Str × Int)} (h : He.dicW K d = some (He.keysIn w.params (kvs.map (·.1)))) (hv : ValsIn K d kvs) : KTab K w d kvs := by
  obtain ⟨es, n, D⟩ := He.dicW_ok h
  refine ⟨⟨es, n, D⟩, fun z => ?_⟩
  cases q : kvs.lookup z with
  | some i =>
    obtain ⟨t, e⟩ := hv _ (lookup_mem q)
    exact ⟨_, e, ⟨t, rfl⟩⟩
  | none =>
    have hz := lookup_no q
    have hm : es.toList.map He.keyOf = He.keysIn w.params (kvs.map (·.1)) := by
      unfold He.dicW at h
      rw [D.at_] at h
      dsimp only at h
      split at h
      · exact Option.some.inj h
      · cases h
    obtain ⟨i1, i2⟩ := find_none hm hz
    refine ⟨none, ?_, trivial⟩
    unfold PySem.W.nsIn
    rw [D.at_]
    dsimp only
    rw [i1]
    dsimp only
    rw [if_neg (by rw [i2]; simp)]
section
variable {X : Cx} {C : Mc} {W : WX} {o a b e : Expr} {pos p apos cpos : Pos} {d : Addr} {kvs : List (Str × Int)} {x : Str}
def dInK (kvs : List (Str × Int)) : D → Option D
  | .str z => some (.bool (kvs.lookup z).isSome)
  | _ => none
def dIxK (kvs : List (Str × Int)) : D → Option D
  | .str z => (kvs.lookup z).map .int
  | _ => none
theorem xinK {ma : ME} (T : KTab X.K X.w d kvs) (hg : Gl X x) (hm : X.mg x = some (.ref d)) (ha : PE X a (tE C W ma)) (hd : (x == ("__debug__" : Str)) = false := by decide) (hk : behindInMarks .In (.Name x p) = false := by rfl) : PE X (.Compare a [.In] [.Name x p] pos) (tE C W (mUn (dInK kvs) ma)) := by
  obtain ⟨es, n, D⟩ := T.kd
  refine pe_imp (pe_cmpR (op_in_kd D) ha (pe_glob (v := .ref d) hg hm rfl hd) hk) fun σ H Q ⟨Gc, F, ps, R, q⟩ => seqE qE.mono R q fun y ps1 v F1 H1 s1 R1 r1 q1 => ?_
  cases y with
  | str z =>
    cases r1
    obtain ⟨r, e1, e2⟩ := T.at_ z
    refine ⟨z, r, rfl, rfl, e1, ?_⟩
    have : r.isSome = (kvs.lookup z).isSome := by
      cases h : kvs.lookup z with
      | none => rw [h] at e2; cases r with
        | none => rfl
        | some u => exact e2.elim
      | some i => rw [h] at e2; cases r with
        | none => exact e2.elim
        | some u => rfl
    rw [this]
    exact q1 _ F1 H1 (Same.refl _) R1 (.bl _)
  | _ => exact q1.elim
theorem ix_kd {es : Array DictEntry} {n : Nat} (D : KDict X.K X.w d es n) : IxR X (fun x y H Q => ∃ (z : Str) (u0 : Value) (v0 : V), x = .ref d ∧ y = .str z ∧ PySem.W.nsIn X.K d z = some (some u0) ∧ RelV v0 u0 ∧ Q v0 H) := by
  intro value slice pins s σ H x y v u Q I rx ry h hs
  have h0 := h
  obtain ⟨z, u0, v0, ex, ey, e, r, q⟩ := h
  subst ex
  cases rx
  exact tail_any (kd_type D I) PySem.F.slot_dict_getitem.lookup (op_item_kd D pins s σ H (.ref d) _ (.ref d) _ Q I rfl ry h0) hs
theorem xixK {ma : ME} (T : KTab X.K X.w d kvs) (hg : Gl X x) (hm : X.mg x = some (.ref d)) (hb : PE X b (tE C W ma)) (hs : PlainIx b) (hd : (x == ("__debug__" : Str)) = false := by decide) : PE X (.Subscript (.Name x p) b pos) (tE C W (mUn (dIxK kvs) ma)) := by
  obtain ⟨es, n, D⟩ := T.kd
  refine pe_imp (pe_ix (ix_kd D) (pe_glob (v := .ref d) hg hm rfl hd) hb hs) fun σ H Q ⟨Gc, F, ps, R, q⟩ => ?_
  show tE C W ma σ H fun y H2 => _
  refine seqE qE.mono R q fun y ps1 v F1 H1 s1 R1 r1 q1 => ?_
  cases y with
  | str z =>
    cases r1
    obtain ⟨r, e1, e2⟩ := T.at_ z
    cases h : kvs.lookup z with
    | none =>
      have : dIxK kvs (.str z) = none := by show (kvs.lookup z).map _ = none; rw [h]; rfl
      rw [this] at q1; exact q1.elim
    | some i =>
      have e3 : dIxK kvs (.str z) = some (.int i) := by show (kvs.lookup z).map _ = _; rw [h]; rfl
      rw [e3] at q1
      rw [h] at e2
      cases r with
      | none => exact e2.elim
      | some u => exact ⟨z, u, .int i, rfl, rfl, e1, e2, q1 _ F1 H1 (Same.refl _) R1 (.int i)⟩
  | _ => exact q1.elim
/-- s.upper() -/
def dUpper : D → Option D
  | .str z => if z.length ≤ 5592405 then some (.str (Txt.upper z)) else none
  | _ => none
theorem xupper {ma : ME} (ho : PE X o (tE C W ma)) (hbase : attributeBase o "upper" X.env (eval o X.env) = eval o X.env := by rfl) (hline : (apos.endLine == pos.line) = true := by rfl) : PE X (.Call (.Attribute o "upper" apos) [] [] pos) (tE C W (mUn dUpper ma)) :=
  pe_imp (pe_upper ho hbase hline) fun σ H Q ⟨Gc, F, ps, R, q⟩ => seqE qE.mono R q fun y ps1 v F1 H1 s1 R1 r1 q1 => by
    cases y with
    | str z =>
      cases r1
      by_cases h : z.length ≤ 5592405
      · have e3 : dUpper (.str z) = some (.str (Txt.upper z)) := if_pos h
        rw [e3] at q1
        exact ⟨⟨z, rfl⟩, z, rfl, rfl, h, q1 _ F1 H1 (Same.refl _) R1 (.str _)⟩
      · have e3 : dUpper (.str z) = none := if_neg h
        rw [e3] at q1; exact q1.elim
    | _ => exact q1.elim
/-- d.get(k, v) -/
def mGet (a b c : ME) : ME := fun ps => (a ps).bind fun x ps1 => match x with
  | .dict kvs => if (isDeck (.dict kvs) || kvs.any (fun p => (toKey p.1).isNone)) = true then .bad else
    (b ps1).bind fun y ps2 => (c ps2).bind fun z ps3 => match toKey y with
      | some k => .ok ((dLook kvs k).getD z) ps3
      | none => .bad
  | _ => .bad
theorem xget {ma mb mc : ME} (hu : X.A.units + 1 < cLine) (ho : PE X o (tE C W ma)) (ha : PE X a (tE C W mb)) (hb : PE X b (tE C W mc)) (m : M2 X o "get" apos a b cpos) : PE X (.Call (.Attribute o "get" apos) [a, b] [] cpos) (tE C W (mGet ma mb mc)) :=
  pe_imp (pe_dget2 hu ho ha hb m) fun σ H Q ⟨Gc, F, ps, R, q⟩ => by
    refine seqE qE.mono R q fun x ps1 v F1 H1 s1 R1 r1 q1 => ?_
    cases x with
    | dict kvs =>
      dsimp only at q1
      by_cases h : (isDeck (.dict kvs) || kvs.any (fun p => (toKey p.1).isNone)) = true
      · rw [if_pos h] at q1; exact q1.elim
      · rw [if_neg h] at q1
        have h : (isDeck (.dict kvs) || kvs.any (fun p => (toKey p.1).isNone)) = false := by simpa using h
        rw [Bool.or_eq_false_iff] at h
        cases r1 with
        | dct h1 h2 h3 =>
          rename_i p ks
          refine ⟨p, rfl, .inl ⟨_, .inl (R1.fh _ _ h1)⟩, ?_⟩
          have r1 : Rp C F1 (.ref p) (.dict kvs) := .dct h1 h2 h3
          refine seqE qE.mono R1 q1 fun y ps2 u F2 H2 s2 R2 r2 q2 => ?_
          refine seqE qE.mono R2 q2 fun z ps3 t F3 H3 s3 R3 r3 q3 => ?_
          have r1 := r1.mono (s2.trans s3)
          have r2 := r2.mono s3
          cases e1 : toKey y with
          | none => rw [e1] at q3; exact q3.elim
          | some k =>
            rw [e1] at q3
            have ex := kD_of e1
            subst ex
            have ev := rp_kD r2
            subst ev
            obtain ⟨a, o, ea, g, cs⟩ := dget_ok (k := k) R3 r1 h.2
            cases ea
            refine ⟨o, g, ?_⟩
            rcases cs with ⟨c1, c2⟩ | ⟨y, d, c1, c2, c3⟩
            · subst c1
              have q3 : qE C Gc σ Q ((dLook kvs k).getD z) ps3 F3 := q3
              rw [c2] at q3
              exact q3 _ F3 H3 (Same.refl _) R3 r3
            · subst c1
              have q3 : qE C Gc σ Q ((dLook kvs k).getD z) ps3 F3 := q3
              rw [c2] at q3
              exact q3 _ F3 H3 (Same.refl _) R3 c3
        | deck h' => cases h.1
    | _ => exact q1.elim
end
end MM
/-! How the plain functions of the layer MM are worked out: one equation for each form, and laws of loops. -/
namespace PP
open PySem MM L2
section
variable {ps : Ps} {sl : List Sl} {k : Dk} {a b c : ME} {ta tb : MT} {ms : MA} {s1 s2 : MS} {i j l : Nat} {d : D}
@[simp] theorem e_var : mVar i ⟨sl, k⟩ = (match sl[i]? with
  | some (.fz d) => .ok d ⟨sl, k⟩
  | some (.ml ds) => .ok (.list ds) ⟨sl.set i (.fz (.list ds)), k⟩
  | some (.md kvs) => .ok (.dict (kvs.map fun p => (kD p.1, p.2))) ⟨sl.set i (.fz (.dict (kvs.map fun p => (kD p.1, p.2)))), k⟩
  | _ => .bad) := rfl
@[simp] theorem e_c : mC d ps = .ok d ps := rfl
@[simp] theorem e_bin {f : D → D → Option D} : mBin f a b ps = (a ps).bind fun x ps1 => (b ps1).bind fun y ps2 => .of (f x y) ps2 := rfl
@[simp] theorem e_un {f : D → Option D} : mUn f a ps = (a ps).bind fun x ps1 => .of (f x) ps1 := rfl
@[simp] theorem e_tst : mTst a ps = (a ps).bind fun x ps1 => .of (dBool x) ps1 := rfl
@[simp] theorem e_not : mNot ta ps = (ta ps).bind fun x ps1 => .ok (!x) ps1 := rfl
@[simp] theorem e_and : mAnd ta tb ps = (ta ps).bind fun x ps1 => if x = true then tb ps1 else .ok false ps1 := rfl
@[simp] theorem e_or : mOr ta tb ps = (ta ps).bind fun x ps1 => if x = true then .ok true ps1 else tb ps1 := rfl
@[simp] theorem e_andV : mAndV a b ps = (a ps).bind fun x ps1 => (Out.of (dBool x) ps1).bind fun c ps1 => if c = true then b ps1 else .ok (.bool false) ps1 := rfl
@[simp] theorem e_orV : mOrV a b ps = (a ps).bind fun x ps1 => (Out.of (dBool x) ps1).bind fun c ps1 => if c = true then .ok (.bool true) ps1 else b ps1 := rfl
@[simp] theorem e_notV : mNotV a ps = (a ps).bind fun x ps1 => (Out.of (dBool x) ps1).bind fun c ps1 => .ok (.bool (!c)) ps1 := rfl
@[simp] theorem e_if : mIf ta a b ps = (ta ps).bind fun x ps1 => if x = true then a ps1 else b ps1 := rfl
@[simp] theorem e_nil : mNil ps = .ok [] ps := rfl
@[simp] theorem e_cons : mCons a ms ps = (a ps).bind fun x ps1 => (ms ps1).bind fun xs ps2 => .ok (x :: xs) ps2 := rfl
@[simp] theorem e_tup : mTup ms ps = (ms ps).bind fun xs ps1 => if xs.length ≤ sizeLine then .ok (.tuple xs) ps1 else .bad := rfl
@[simp] theorem e_lst : mLst ms ps = (ms ps).bind fun xs ps1 => if xs.length ≤ sizeLine then .ok (.list xs) ps1 else .bad := rfl
@[simp] theorem e_disp : mDisp ms ps = (ms ps).bind fun xs ps1 => if xs.length ≤ sizeLine then .ok xs ps1 else .bad := rfl
@[simp] theorem e_fz {m : MLs} : mFz m ps = (m ps).bind fun ds ps1 => .ok (.list ds) ps1 := rfl
@[simp] theorem e_call {f : MF} : mCall f ms ps = (ms ps).bind fun ds ps1 => match f ds ps1.dk with
  | .ret d k => .ok d ⟨ps1.sl, k⟩
  | _ => .bad := rfl
@[simp] theorem e_callK {f : MF} {g : List D → List D → List D} {m2 : MA} : mCallK f g ms m2 ps = (ms ps).bind fun ds ps1 => (m2 ps1).bind fun es ps2 => match f (g ds es) ps2.dk with
  | .ret d k => .ok d ⟨ps2.sl, k⟩
  | _ => .bad := rfl
@[simp] theorem e_next : mNext ps = .next ps := rfl
@[simp] theorem e_seq : mSeq s1 s2 ps = (match s1 ps with
  | .next ps1 => s2 ps1
  | y => y) := rfl
@[simp] theorem e_ret : mRet a ps = (a ps).bindS fun d ps1 => .ret d ps1 := rfl
@[simp] theorem e_retN : mRetN ps = .ret .none ps := rfl
@[simp] theorem e_drop : mDrop a ps = (a ps).bindS fun _ ps1 => .next ps1 := rfl
@[simp] theorem e_set : mSet i a ps = (a ps).bindS fun d ps1 => .next ⟨ps1.sl.set i (.fz d), ps1.dk⟩ := rfl
@[simp] theorem e_asg {g : MG} : mAsg g a ps = (a ps).bindS fun d ps1 => match g d ps1 with
  | some ps2 => .next ps2
  | none => .bad := rfl
@[simp] theorem e_setS {x : Sl} : Ps.setS ⟨sl, k⟩ i x = ⟨sl.set i x, k⟩ := rfl
@[simp] theorem e_gn : mGn i d ⟨sl, k⟩ = some ⟨sl.set i (.fz d), k⟩ := rfl
@[simp] theorem e_gp {x y : D} : mGp i j (.tuple [x, y]) ⟨sl, k⟩ = some ⟨(sl.set i (.fz x)).set j (.fz y), k⟩ := rfl
@[simp] theorem e_par : mPar i j ms ps = (ms ps).bindS fun ds ps1 => match ds with
  | [x, y] => .next ⟨(ps1.sl.set i (.fz x)).set j (.fz y), ps1.dk⟩
  | _ => .bad := rfl
@[simp] theorem e_par3 : mPar3 i j l ms ps = (ms ps).bindS fun ds ps1 => match ds with
  | [x, y, z] => .next ⟨((ps1.sl.set i (.fz x)).set j (.fz y)).set l (.fz z), ps1.dk⟩
  | _ => .bad := rfl
@[simp] theorem e_parDL {f : Ps → Out (List (Key × D))} {m : MLs} : mParDL i j f m ps = (f ps).bindS fun kvs ps1 => (m ps1).bindS fun ys ps2 => .next ⟨(ps2.sl.set i (.md kvs)).set j (.ml ys), ps2.dk⟩ := rfl
@[simp] theorem e_parDEE {f : Ps → Out (List (Key × D))} : mParDEE i j l f a b ps = (f ps).bindS fun kvs ps1 => (a ps1).bindS fun y ps2 => (b ps2).bindS fun z ps3 => .next ⟨((ps3.sl.set i (.md kvs)).set j (.fz y)).set l (.fz z), ps3.dk⟩ := rfl
@[simp] theorem e_ifS : mIfS ta s1 s2 ps = (ta ps).bindS fun x ps1 => if x = true then s1 ps1 else s2 ps1 := rfl
@[simp] theorem e_own {m : MLs} : mOwn i m ps = (m ps).bindS fun ds ps1 => .next ⟨ps1.sl.set i (.ml ds), ps1.dk⟩ := rfl
@[simp] theorem e_ownD {f : Ps → Out (List (Key × D))} : mOwnD i f ps = (f ps).bindS fun ds ps1 => .next ⟨ps1.sl.set i (.md ds), ps1.dk⟩ := rfl
@[simp] theorem e_b {f : List D → Option D} : mB f ms ps = (ms ps).bind fun ds ps1 => .of (f ds) ps1 := rfl
@[simp] theorem e_noPart : mNoPart ps = .ok none ps := rfl
@[simp] theorem e_part : mPart a ps = (a ps).bind fun x ps1 => (Out.of (dInt x) ps1).bind fun i ps1 => .ok (some i) ps1 := rfl
@[simp] theorem e_sl {o1 o2 : MO} : mSl a o1 o2 ps = (a ps).bind fun x ps1 => (o1 ps1).bind fun lo ps2 => (o2 ps2).bind fun hi ps3 => .of (dSl x lo hi) ps3 := rfl
@[simp] theorem e_iter : mIter a ps = (a ps).bind fun x ps1 => .of (dSeq x) ps1 := rfl
@[simp] theorem e_range1 : mRange1 ms ps = (ms ps).bind fun ds ps1 => .of (dRange1 ds) ps1 := rfl
@[simp] theorem e_range2 : mRange2 ms ps = (ms ps).bind fun ds ps1 => .of (dRange2 ds) ps1 := rfl
@[simp] theorem e_zip : mZip ms ps = (ms ps).bind fun ds ps1 => .of (dZip ds) ps1 := rfl
@[simp] theorem e_for {g : MG} : mFor ms g s1 ps = (ms ps).bindS fun ds ps1 => mLoop g s1 ds ps1 := rfl
@[simp] theorem e_isi {f : D → Bool} : mIsi f a ps = (a ps).bind fun x ps1 => if isDeck x = true then .bad else .ok (.bool (f x)) ps1 := rfl
@[simp] theorem e_peek : peek ⟨sl, k⟩ i = (match sl[i]? with
  | some (.fz d) => some d
  | some (.ml ds) => some (.list ds)
  | some (.md kvs) => some (.dict (kvs.map fun p => (kD p.1, p.2)))
  | _ => none) := rfl
@[simp] theorem e_ixV : mIxV i a ps = (match peek ps i with
  | none => .bad
  | some _ => (a ps).bind fun y ps1 => .of ((peek ps1 i).bind fun x => dIx x y) ps1) := rfl
@[simp] theorem e_bL {f : D → D → Option Bool} : mBL f i a ps = (match peek ps i with
  | none => .bad
  | some _ => (a ps).bind fun y ps1 => (Out.of ((peek ps1 i).bind fun x => f x y) ps1).bind fun k ps1 => .ok (.bool k) ps1) := rfl
@[simp] theorem e_bR {f : D → D → Option Bool} : mBR f a i ps = (a ps).bind fun x ps1 => (Out.of ((peek ps1 i).bind fun y => f x y) ps1).bind fun k ps1 => .ok (.bool k) ps1 := rfl
@[simp] theorem e_append : mAppend i a ps = (match ps.sl[i]? with
  | some (.ml _) => (a ps).bind fun d ps1 => match ps1.sl[i]? with
    | some (.ml ds) => if ds.length < sizeLine then .ok .none ⟨ps1.sl.set i (.ml (ds ++ [d])), ps1.dk⟩ else .bad
    | _ => .bad
  | _ => .bad) := rfl
@[simp] theorem e_pop : mPop i ps = (match ps.sl[i]? with
  | some (.ml ds) => match ds.getLast? with
    | some d => .ok d ⟨ps.sl.set i (.ml ds.dropLast), ps.dk⟩
    | none => .bad
  | _ => .bad) := rfl
@[simp] theorem e_put : mPut i a b ps = (b ps).bindS fun v ps1 => match ps1.sl[i]? with
  | some (.md _) => (a ps1).bindS fun y ps2 => match ps2.sl[i]? with
    | some (.md kvs) => match toKey y with
      | some k => if kvs.length < sizeLine then .next ⟨ps2.sl.set i (.md (putD kvs k v)), ps2.dk⟩ else .bad
      | none => .bad
    | _ => .bad
  | _ => .bad := rfl
@[simp] theorem e_pairs0 : mPairs [] ps = .ok [] ps := rfl
@[simp] theorem e_pairs1 {r : List (ME × ME)} : mPairs ((a, b) :: r) ps = (a ps).bind fun x ps1 => (b ps1).bind fun y ps2 => (mPairs r ps2).bind fun xs ps3 => .ok ((x, y) :: xs) ps3 := rfl
@[simp] theorem e_dict {r : List (ME × ME)} : mDict r ps = (mPairs r ps).bind fun xs ps1 => match toKeys xs with
  | some kvs => if kvs.length ≤ 15 then .ok (mergeD kvs) ps1 else .bad
  | none => .bad := rfl
@[simp] theorem e_fzD {f : Ps → Out (List (Key × D))} : mFzD f ps = (f ps).bind fun ds ps1 => .ok (dctD ds) ps1 := rfl
@[simp] theorem e_newD : mNewD ps = .ok [] ps := rfl
@[simp] theorem e_yes : mYes ps = .ok true ps := rfl
@[simp] theorem e_chain {f g : D → D → Option D} : mChain f g a b c ps = (a ps).bind fun x ps1 => (b ps1).bind fun y ps2 => (Out.of ((f x y).bind dBool) ps2).bind fun k ps2 => if k = true then (c ps2).bind fun z ps3 => .of (g y z) ps3 else .ok (.bool false) ps2 := by first | rfl | (unfold mChain; rfl)
@[simp] theorem e_lenV : mLenV i ps = .of ((peek ps i).bind fun x => dLen [x]) ps := rfl
end
/-! ### the data -/
def iD (n : Nat) : D := .int (n : Int)
def iDs (xs : List Nat) : List D := xs.map iD
def LD (xs : List Nat) : D := .list (iDs xs)
def TD (xs : List Nat) : D := .tuple (iDs xs)
theorem iD_map (xs : List Nat) : iDs xs = (xs.map fun n : Nat => (n : Int)).map PyData.int := by unfold iDs; rw [List.map_map]; rfl
theorem cast_inj {xs ys : List Nat} : (xs.map fun n : Nat => (n : Int)) = (ys.map fun n : Nat => (n : Int)) ↔ xs = ys := by
  constructor
  · intro h
    have := congrArg (List.map Int.toNat) h
    simpa [List.map_map, Function.comp_def] using this
  · rintro rfl; rfl
@[simp] theorem eqv_iD (a b : Nat) : PyData.eqv (iD a) (iD b) = decide (a = b) := by
  show ((a : Int) == (b : Int)) = _
  by_cases h : a = b
  · subst h; simp
  · have : ¬ (a : Int) = b := by omega
    simp [h, this]
@[simp] theorem eqvAll_iD (xs ys : List Nat) : PyData.eqvAll (iDs xs) (iDs ys) = decide (xs = ys) := by
  rw [iD_map, iD_map, PySem.W.ked_eqvAll]
  exact decide_eq_decide.mpr cast_inj
@[simp] theorem eqv_LD (xs ys : List Nat) : PyData.eqv (LD xs) (LD ys) = decide (xs = ys) := by
  unfold LD; simp [PyData.eqv]
@[simp] theorem eqv_TD (xs ys : List Nat) : PyData.eqv (TD xs) (TD ys) = decide (xs = ys) := by
  unfold TD; simp [PyData.eqv]
@[simp] theorem shaped_iD (a : Nat) : SeqAt.shaped (iD a) = true := rfl
@[simp] theorem shaped_LD (xs : List Nat) : SeqAt.shaped (LD xs) = true := by
  unfold LD; rw [iD_map]; exact PySem.W.ke_shaped_ints _
@[simp] theorem shaped_TD (xs : List Nat) : SeqAt.shaped (TD xs) = true := by
  unfold TD; rw [iD_map]
  unfold SeqAt.shaped
  rw [Bool.and_eq_true]
  refine ⟨?_, decide_eq_true ?_⟩
  · rw [PyData.canLay0, PySem.W.ke_canLayAll0]
  · rw [PyData.depth, PySem.W.ke_depthAll]; omega
@[simp] theorem dEq_iD (a b : Nat) : dEq (iD a) (iD b) = some (.bool (decide (a = b))) := by simp [dEq]
@[simp] theorem dNe_iD (a b : Nat) : dNe (iD a) (iD b) = some (.bool (!decide (a = b))) := by simp [dNe]
@[simp] theorem dEq_LD (a b : List Nat) : dEq (LD a) (LD b) = some (.bool (decide (a = b))) := by simp [dEq]
@[simp] theorem dNe_LD (a b : List Nat) : dNe (LD a) (LD b) = some (.bool (!decide (a = b))) := by simp [dNe]
@[simp] theorem dEq_TD (a b : List Nat) : dEq (TD a) (TD b) = some (.bool (decide (a = b))) := by simp [dEq]
@[simp] theorem dNe_TD (a b : List Nat) : dNe (TD a) (TD b) = some (.bool (!decide (a = b))) := by simp [dNe]
@[simp] theorem bNe_LD (a b : List Nat) : bNe (LD a) (LD b) = some (!decide (a = b)) := by simp [bNe]
theorem any_iD (xs : List Nat) (x : Nat) : ((iDs xs).any fun z => PyData.eqv z (iD x)) = decide (x ∈ xs) := by
  induction xs with
  | nil => simp [iDs]
  | cons y ys ih =>
    show (PyData.eqv (iD y) (iD x) || (iDs ys).any fun z => PyData.eqv z (iD x)) = _
    rw [ih, eqv_iD]
    by_cases h : y = x
    · subst h; simp
    · have : ¬ x = y := fun z => h z.symm
      simp [h, this]
@[simp] theorem dInB_LD (x : Nat) (xs : List Nat) : dInB (iD x) (LD xs) = some (decide (x ∈ xs)) := by
  have h := shaped_LD xs
  unfold LD at h ⊢
  simp only [dInB, h, shaped_iD, Bool.and_self, if_true, any_iD]
@[simp] theorem dInB_TD (x : Nat) (xs : List Nat) : dInB (iD x) (TD xs) = some (decide (x ∈ xs)) := by
  have h := shaped_TD xs
  unfold TD at h ⊢
  simp only [dInB, h, shaped_iD, Bool.and_self, if_true, any_iD]
@[simp] theorem dIn_LD (x : Nat) (xs : List Nat) : dIn (iD x) (LD xs) = some (.bool (decide (x ∈ xs))) := by simp [dIn]
@[simp] theorem dNotIn_LD (x : Nat) (xs : List Nat) : dNotIn (iD x) (LD xs) = some (.bool (!decide (x ∈ xs))) := by simp [dNotIn]
@[simp] theorem dIn_TD (x : Nat) (xs : List Nat) : dIn (iD x) (TD xs) = some (.bool (decide (x ∈ xs))) := by simp [dIn]
@[simp] theorem dNotIn_TD (x : Nat) (xs : List Nat) : dNotIn (iD x) (TD xs) = some (.bool (!decide (x ∈ xs))) := by simp [dNotIn]
@[simp] theorem dBool_b (b : Bool) : dBool (.bool b) = some b := rfl
@[simp] theorem dSeq_list (xs : List D) : dSeq (.list xs) = some xs := rfl
@[simp] theorem dSeq_tuple (xs : List D) : dSeq (.tuple xs) = some xs := rfl
@[simp] theorem dSeq_LD (xs : List Nat) : dSeq (LD xs) = some (iDs xs) := rfl
@[simp] theorem dSeq_TD (xs : List Nat) : dSeq (TD xs) = some (iDs xs) := rfl
@[simp] theorem dLen_LD (xs : List Nat) : dLen [LD xs] = some (iD xs.length) := by unfold LD iDs; simp [dLen, iD]
@[simp] theorem dLen_TD (xs : List Nat) : dLen [TD xs] = some (iD xs.length) := by unfold TD iDs; simp [dLen, iD]
@[simp] theorem dTuple_LD (xs : List Nat) : dTuple [LD xs] = some (TD xs) := rfl
@[simp] theorem dList_TD (xs : List Nat) : dList [TD xs] = some (LD xs) := rfl
@[simp] theorem dRev_LD (xs : List Nat) : dRev (LD xs) = some (LD xs.reverse) := by unfold LD iDs; simp [dRev]
@[simp] theorem dRev_TD (xs : List Nat) : dRev (TD xs) = some (TD xs.reverse) := by unfold TD iDs; simp [dRev]
theorem dAdd_LD {xs ys : List Nat} (h : xs.length + ys.length ≤ 16777216) : dAdd (LD xs) (LD ys) = some (LD (xs ++ ys)) := by
  unfold LD iDs; simp [dAdd, sizeLine, h]
theorem dAdd_TD {xs ys : List Nat} (h : xs.length + ys.length ≤ 16777216) : dAdd (TD xs) (TD ys) = some (TD (xs ++ ys)) := by
  unfold TD iDs; simp [dAdd, sizeLine, h]
@[simp] theorem dAdd_int (x y : Int) : dAdd (.int x) (.int y) = some (.int (x + y)) := rfl
@[simp] theorem dSub_int (x y : Int) : dSub (.int x) (.int y) = some (.int (x - y)) := rfl
theorem iD_def (n : Nat) : iD n = .int (n : Int) := rfl
theorem ixN_nat {n i : Nat} (h : i < n) : ixN n (i : Int) = some i := by unfold ixN; simp; omega
theorem atI_nat {α : Type} {xs : List α} {i : Nat} {d : α} (h : xs[i]? = some d) : atI xs (i : Int) = some d := by
  obtain ⟨hl, _⟩ := List.getElem?_eq_some_iff.mp h
  unfold atI
  rw [ixN_nat hl]
  simpa using h
theorem dIx_TD {xs : List Nat} {i v : Nat} (h : xs[i]? = some v) : dIx (TD xs) (iD i) = some (iD v) := by
  show atI (iDs xs) (i : Int) = _
  exact atI_nat (by unfold iDs; rw [List.getElem?_map, h]; rfl)
theorem dIx_LD {xs : List Nat} {i v : Nat} (h : xs[i]? = some v) : dIx (LD xs) (iD i) = some (iD v) := by
  show atI (iDs xs) (i : Int) = _
  exact atI_nat (by unfold iDs; rw [List.getElem?_map, h]; rfl)
theorem iD_sub {a b : Nat} (h : b ≤ a) : (PyData.int ((a : Int) - (b : Int))) = iD (a - b) := by unfold iD; congr 1; omega
/-! ### loops -/
/-- what holds of the things gone through and the state -/
theorem loop_inv {g : MG} {body : MS} (P : List D → Ps → Prop) {ds : List D} {ps : Ps} (h0 : P [] ps)
    (h : ∀ done d rest ps, ds = done ++ d :: rest → P done ps → ∃ ps1 ps2, g d ps = some ps1 ∧ (body ps1 = .next ps2 ∨ body ps1 = .cont ps2) ∧ P (done ++ [d]) ps2) : ∃ ps', mLoop g body ds ps = .next ps' ∧ P ds ps' := by
  have key : ∀ (rest done : List D) (ps : Ps), ds = done ++ rest → P done ps → ∃ ps', mLoop g body rest ps = .next ps' ∧ P ds ps' := by
    intro rest
    induction rest with
    | nil => intro done ps e p; rw [List.append_nil] at e; subst e; exact ⟨ps, rfl, p⟩
    | cons d rest ih =>
      intro done ps e p
      obtain ⟨ps1, ps2, e1, e2, p2⟩ := h done d rest ps e p
      obtain ⟨ps', e3, p3⟩ := ih (done ++ [d]) ps2 (by rw [e, List.append_assoc]; rfl) p2
      refine ⟨ps', ?_, p3⟩
      unfold mLoop
      rw [e1]
      rcases e2 with e2 | e2
      · simp only [e2]; exact e3
      · simp only [e2]; exact e3
  exact key ds [] ps rfl h0
/-- the same of a list of numbers -/
theorem loop_nat {g : MG} {body : MS} (P : List Nat → Ps → Prop) {xs : List Nat} {ps : Ps} (h0 : P [] ps)
    (h : ∀ done x rest ps, xs = done ++ x :: rest → P done ps → ∃ ps1 ps2, g (iD x) ps = some ps1 ∧ (body ps1 = .next ps2 ∨ body ps1 = .cont ps2) ∧ P (done ++ [x]) ps2) : ∃ ps', mLoop g body (iDs xs) ps = .next ps' ∧ P xs ps' := by
  have key : ∀ (rest done : List Nat) (ps : Ps), xs = done ++ rest → P done ps → ∃ ps', mLoop g body (iDs rest) ps = .next ps' ∧ P xs ps' := by
    intro rest
    induction rest with
    | nil => intro done ps e p; rw [List.append_nil] at e; subst e; exact ⟨ps, rfl, p⟩
    | cons d rest ih =>
      intro done ps e p
      obtain ⟨ps1, ps2, e1, e2, p2⟩ := h done d rest ps e p
      obtain ⟨ps', e3, p3⟩ := ih (done ++ [d]) ps2 (by rw [e, List.append_assoc]; rfl) p2
      refine ⟨ps', ?_, p3⟩
      show mLoop g body (iD d :: iDs rest) ps = .next ps'
      unfold mLoop
      rw [e1]
      rcases e2 with e2 | e2
      · simp only [e2]; exact e3
      · simp only [e2]; exact e3
  exact key xs [] ps rfl h0
/-- while, with what falls -/
theorem while_inv {t : MT} {body : MS} (P : Nat → Ps → Prop) (Q : Ps → Prop) {n : Nat} {ps : Ps} (h0 : P n ps)
    (h : ∀ m ps, P m ps → (∃ ps1, t ps = .ok false ps1 ∧ Q ps1) ∨ (∃ m' ps1 ps2, m' < m ∧ t ps = .ok true ps1 ∧ (body ps1 = .next ps2 ∨ body ps1 = .cont ps2) ∧ P m' ps2)) {fuel : Nat} (hf : n < fuel) : ∃ ps', mWhile t body fuel ps = .next ps' ∧ Q ps' := by
  induction fuel generalizing n ps with
  | zero => omega
  | succ f ih =>
    unfold mWhile
    rcases h n ps h0 with ⟨ps1, e, q⟩ | ⟨m', ps1, ps2, e0, e, e2, p⟩
    · rw [e]; exact ⟨ps1, rfl, q⟩
    · obtain ⟨ps', e3, q⟩ := ih p (by omega)
      refine ⟨ps', ?_, q⟩
      rw [e]
      rcases e2 with e2 | e2
      · simp only [Out.bindS_ok, if_true, e2]; exact e3
      · simp only [Out.bindS_ok, if_true, e2]; exact e3
/-- a comprehension over numbers that leaves the state as it was -/
theorem cl_nat {g : MG} {tt : MT} {te : ME} {vs : List Nat} {ps : Ps} (p : Nat → Bool) (f : Nat → D) : ∀ (xs : List Nat) (acc : List D), acc.length + xs.length ≤ 16777216 →
    (∀ x ∈ xs, ∃ ps1 ps2, g (iD x) ps = some ps1 ∧ tt ps1 = .ok (p x) ps2 ∧ (p x = false → wipeP ps2 vs = ps) ∧ (p x = true → ∃ ps3, te ps2 = .ok (f x) ps3 ∧ wipeP ps3 vs = ps)) →
    mCl g tt te vs (iDs xs) acc ps = .ok (acc ++ (xs.filter p).map f) ps
  | [], acc, _, _ => by simp [mCl, iDs]
  | x :: xs, acc, hl, h => by
    obtain ⟨ps1, ps2, e1, e2, h1, h2⟩ := h x (by simp)
    rw [List.length_cons] at hl
    show mCl g tt te vs (iD x :: iDs xs) acc ps = _
    unfold mCl
    rw [e1]
    simp only [e2]
    cases hp : p x with
    | true =>
      obtain ⟨ps3, e3, e4⟩ := h2 hp
      simp only [if_true, e3]
      rw [if_pos (by show acc.length < 2 ^ 24; omega), e4, cl_nat p f xs (acc ++ [f x]) (by simp; omega) (fun y hy => h y (by simp [hy]))]
      simp [hp]
    | false =>
      simp only [Bool.false_eq_true, if_false]
      rw [h1 hp, cl_nat p f xs acc (by omega) (fun y hy => h y (by simp [hy]))]
      simp [hp]
theorem comp_nat {mi : MA} {g : MG} {tt : MT} {te : ME} {vs : List Nat} {ps ps0 : Ps} (p : Nat → Bool) (f : Nat → D) {xs : List Nat} (hi : ((mi ps).bind fun ds q => .ok ds (wipeP q vs)) = .ok (iDs xs) ps0) (hw : wipeP ps0 vs = ps0) (hl : xs.length ≤ 16777216)
    (h : ∀ x ∈ xs, ∃ ps1 ps2, g (iD x) ps0 = some ps1 ∧ tt ps1 = .ok (p x) ps2 ∧ (p x = false → wipeP ps2 vs = ps0) ∧ (p x = true → ∃ ps3, te ps2 = .ok (f x) ps3 ∧ wipeP ps3 vs = ps0)) :
    mComp mi g tt te vs ps = .ok ((xs.filter p).map f) ps0 := by
  unfold mComp
  cases e : mi ps with
  | ok ds q =>
    rw [e] at hi
    injection hi with e1 e2
    subst e1
    simp only [Out.bind_ok]
    rw [e2, cl_nat p f xs [] (by simpa using hl) h]
    simp only [Out.bind_ok, hw, List.nil_append]
  | exc x q => rw [e] at hi; cases hi
  | bad => rw [e] at hi; cases hi
theorem rangeD0 (n : Nat) : rangeD 0 n = iDs (List.range n) := by
  unfold rangeD iDs
  refine List.map_congr_left fun i _ => ?_
  simp [iD]
theorem dRange1_iD {n : Nat} (h : n < 4611686018427387904) : dRange1 [iD n] = some (iDs (List.range n)) := by
  have e : dRange1 [iD n] = if decide ((n : Int).natAbs < 4611686018427387904) = true then some (rangeD 0 (n : Int).toNat) else none := by
    unfold dRange1 iD
    dsimp only
  rw [e, if_pos (decide_eq_true (by omega)), Int.toNat_natCast, rangeD0]
theorem comp_iD {mi : MA} {g : MG} {tt : MT} {te : ME} {vs : List Nat} {ps ps0 : Ps} (p : Nat → Bool) (f : Nat → Nat) {xs : List Nat} (hi : ((mi ps).bind fun ds q => .ok ds (wipeP q vs)) = .ok (iDs xs) ps0) (hw : wipeP ps0 vs = ps0) (hl : xs.length ≤ 16777216)
    (h : ∀ x ∈ xs, ∃ ps1 ps2, g (iD x) ps0 = some ps1 ∧ tt ps1 = .ok (p x) ps2 ∧ (p x = false → wipeP ps2 vs = ps0) ∧ (p x = true → ∃ ps3, te ps2 = .ok (iD (f x)) ps3 ∧ wipeP ps3 vs = ps0)) :
    mComp mi g tt te vs ps = .ok (iDs ((xs.filter p).map f)) ps0 := by
  rw [comp_nat p (fun x => iD (f x)) hi hw hl h]
  unfold iDs
  rw [List.map_map]; rfl
@[simp] theorem iDs_list (xs : List Nat) : PyData.list (iDs xs) = LD xs := rfl
@[simp] theorem iDs_tuple (xs : List Nat) : PyData.tuple (iDs xs) = TD xs := rfl
@[simp] theorem iDs_len (xs : List Nat) : (iDs xs).length = xs.length := by unfold iDs; simp
@[simp] theorem iDs_app (xs ys : List Nat) : iDs xs ++ iDs ys = iDs (xs ++ ys) := by unfold iDs; simp
@[simp] theorem iDs_snoc (xs : List Nat) (x : Nat) : iDs xs ++ [iD x] = iDs (xs ++ [x]) := by unfold iDs; simp
theorem iDs_one (x : Nat) : [iD x] = iDs [x] := rfl
@[simp] theorem e_wipe (sl : List Sl) (k : Dk) (vs : List Nat) : wipeP ⟨sl, k⟩ vs = ⟨wipeS sl vs, k⟩ := rfl
@[simp] theorem e_wipe0 (sl : List Sl) : wipeS sl [] = sl := rfl
@[simp] theorem e_wipe1 (sl : List Sl) (v : Nat) (vs : List Nat) : wipeS sl (v :: vs) = (wipeS sl vs).set v .no := rfl
theorem ixN_neg1 {n : Nat} (h : 0 < n) : ixN n (-1) = some (n - 1) := by
  unfold ixN
  simp
  omega
theorem atI_last {α : Type} (xs : List α) (x : α) : atI (xs ++ [x]) (-1) = some x := by
  unfold atI
  rw [ixN_neg1 (by simp)]
  simp
@[simp] theorem dIx_last (xs : List Nat) (x : Nat) : dIx (LD (xs ++ [x])) (.int (-1)) = some (iD x) := by
  have : LD (xs ++ [x]) = .list (iDs xs ++ [iD x]) := by unfold LD; rw [iDs_snoc]
  rw [this]
  exact atI_last _ _
@[simp] theorem dNeg_int (x : Int) : dNeg (.int x) = some (.int (-x)) := rfl
end PP
/-! Trees by parents, each below its child: ways, branches between. -/
namespace PP
structure Tr where
  p : Nat → Nat
  hp : ∀ x, 0 < x → p x < x
namespace Tr
def anc (T : Tr) (x : Nat) : List Nat := if h : x = 0 then [0] else x :: T.anc (T.p x)
termination_by x
decreasing_by exact T.hp x (by omega)
def path (T : Tr) (a b : Nat) : List Nat := if a = b then [a] else if h : b < a then a :: T.path (T.p a) b else T.path a (T.p b) ++ [b]
termination_by a + b
decreasing_by
  · have := T.hp a (by omega); omega
  · have := T.hp b (by omega); omega
def d (T : Tr) (a b : Nat) : Nat := if a = b then 0 else if h : b < a then T.d (T.p a) b + 1 else T.d a (T.p b) + 1
termination_by a + b
decreasing_by
  · have := T.hp a (by omega); omega
  · have := T.hp b (by omega); omega
/-- the next place from a to b -/
def nx (T : Tr) (a b : Nat) : Nat := if b < a then T.p a else if a = T.p b then b else if h : a < b then T.nx a (T.p b) else a
termination_by b
decreasing_by exact T.hp b (by omega)
variable {T : Tr}
theorem path_self (a : Nat) : T.path a a = [a] := by rw [path, if_pos rfl]
theorem path_up {a b : Nat} (h : b < a) : T.path a b = a :: T.path (T.p a) b := by rw [path, if_neg (by omega), dif_pos h]
theorem path_dn {a b : Nat} (h : a < b) : T.path a b = T.path a (T.p b) ++ [b] := by rw [path, if_neg (by omega), dif_neg (by omega)]
theorem d_self (a : Nat) : T.d a a = 0 := by rw [d, if_pos rfl]
theorem d_up {a b : Nat} (h : b < a) : T.d a b = T.d (T.p a) b + 1 := by rw [d, if_neg (by omega), dif_pos h]
theorem d_dn {a b : Nat} (h : a < b) : T.d a b = T.d a (T.p b) + 1 := by rw [d, if_neg (by omega), dif_neg (by omega)]
theorem nx_up {a b : Nat} (h : b < a) : T.nx a b = T.p a := by rw [nx, if_pos h]
theorem nx_dn1 {b : Nat} (h : 0 < b) : T.nx (T.p b) b = b := by
  have := T.hp b h
  rw [nx, if_neg (by omega), if_pos rfl]
theorem nx_dn {a b : Nat} (h : a < b) (n : a ≠ T.p b) : T.nx a b = T.nx a (T.p b) := by rw [nx, if_neg (by omega), if_neg n, dif_pos h]
/-- two numbers at once -/
theorem two {P : Nat → Nat → Prop} (h0 : ∀ a, P a a) (hu : ∀ a b, b < a → P (T.p a) b → P a b) (hd : ∀ a b, a < b → P a (T.p b) → P a b) (a b : Nat) : P a b := by
  have key : ∀ n a b, a + b < n → P a b := by
    intro n
    induction n with
    | zero => intro a b h; omega
    | succ n ih =>
      intro a b h
      by_cases h1 : b < a
      · exact hu a b h1 (ih _ _ (by have := T.hp a (by omega); omega))
      · by_cases h2 : a < b
        · exact hd a b h2 (ih _ _ (by have := T.hp b (by omega); omega))
        · have : a = b := by omega
          subst this; exact h0 a
  exact key (a + b + 1) a b (by omega)
theorem anc_zero : T.anc 0 = [0] := by rw [anc, dif_pos rfl]
theorem anc_pos {x : Nat} (h : 0 < x) : T.anc x = x :: T.anc (T.p x) := by rw [anc, dif_neg (by omega)]
theorem anc_le {x y : Nat} (h : y ∈ T.anc x) : y ≤ x := by
  induction x using Nat.strongRecOn with
  | ind x ih =>
    by_cases hx : 0 < x
    · rw [anc_pos hx, List.mem_cons] at h
      rcases h with h | h
      · omega
      · have := ih _ (T.hp x hx) h; have := T.hp x hx; omega
    · have : x = 0 := by omega
      subst this
      rw [anc_zero, List.mem_singleton] at h; omega
theorem anc_head (x : Nat) : ∃ r, T.anc x = x :: r := by
  by_cases hx : 0 < x
  · exact ⟨_, anc_pos hx⟩
  · have : x = 0 := by omega
    subst this; exact ⟨[], anc_zero⟩
theorem anc_self (x : Nat) : x ∈ T.anc x := by obtain ⟨r, e⟩ := anc_head (T := T) x; rw [e]; simp
theorem anc_not {x b : Nat} (h : b < x) : x ∉ T.anc b := fun z => by have := anc_le z; omega
def way (T : Tr) (a b : Nat) : List Nat := ((T.anc a).filter fun x => !decide (x ∈ T.anc b)) ++ ((T.anc a).filter fun x => decide (x ∈ T.anc b)).take 1 ++ ((T.anc b).filter fun x => !decide (x ∈ T.anc a)).reverse
theorem filter_true {α : Type} {xs : List α} {p : α → Bool} (h : ∀ x ∈ xs, p x = true) : xs.filter p = xs := List.filter_eq_self.mpr h
theorem filter_false {α : Type} {xs : List α} {p : α → Bool} (h : ∀ x ∈ xs, p x = false) : xs.filter p = [] := List.filter_eq_nil_iff.mpr fun x hx => by rw [h x hx]; simp
theorem way_path (a b : Nat) : way T a b = T.path a b := by
  refine two (T := T) (P := fun a b => way T a b = T.path a b) ?_ ?_ ?_ a b
  · intro a
    unfold way
    rw [path_self, filter_false (fun x hx => by simp [hx]), filter_true (p := fun x => decide (x ∈ T.anc a)) (fun x hx => by simp [hx])]
    obtain ⟨r, e⟩ := anc_head (T := T) a
    rw [e]; rfl
  · intro a b h ih
    have hn := anc_not (T := T) h
    rw [path_up h, ← ih]
    unfold way
    have e := anc_pos (T := T) (x := a) (by omega)
    have e2 : (T.anc b).filter (fun x => !decide (x ∈ T.anc a)) = (T.anc b).filter (fun x => !decide (x ∈ T.anc (T.p a))) := by
      refine List.filter_congr fun x hx => ?_
      have : x ≠ a := fun z => hn (z ▸ hx)
      rw [e]; simp [this]
    rw [e2, e, List.filter_cons_of_pos (by simp [hn]), List.filter_cons_of_neg (by simp [hn])]
    rfl
  · intro a b h ih
    have hn := anc_not (T := T) h
    rw [path_dn h, ← ih]
    unfold way
    have e := anc_pos (T := T) (x := b) (by omega)
    have e2 : (T.anc a).filter (fun x => !decide (x ∈ T.anc b)) = (T.anc a).filter (fun x => !decide (x ∈ T.anc (T.p b))) := by
      refine List.filter_congr fun x hx => ?_
      have : x ≠ b := fun z => hn (z ▸ hx)
      rw [e]; simp [this]
    have e3 : (T.anc a).filter (fun x => decide (x ∈ T.anc b)) = (T.anc a).filter (fun x => decide (x ∈ T.anc (T.p b))) := by
      refine List.filter_congr fun x hx => ?_
      have : x ≠ b := fun z => hn (z ▸ hx)
      rw [e]; simp [this]
    rw [e2, e3, e, List.filter_cons_of_pos (by simp [hn])]
    simp [List.append_assoc]
theorem path_len (a b : Nat) : (T.path a b).length = T.d a b + 1 := by
  refine two (T := T) (P := fun a b => (T.path a b).length = T.d a b + 1) ?_ ?_ ?_ a b
  · intro a; rw [path_self, d_self]; rfl
  · intro a b h ih; rw [path_up h, d_up h, List.length_cons, ih]
  · intro a b h ih; rw [path_dn h, d_dn h, List.length_append, ih]; rfl
theorem path_rev (a b : Nat) : T.path b a = (T.path a b).reverse := by
  refine two (T := T) (P := fun a b => T.path b a = (T.path a b).reverse) ?_ ?_ ?_ a b
  · intro a; rw [path_self]; rfl
  · intro a b h ih; rw [path_up h, path_dn h, List.reverse_cons, ih]
  · intro a b h ih; rw [path_dn h, path_up h, List.reverse_append, ih]; rfl
theorem d_comm (a b : Nat) : T.d b a = T.d a b := by
  have h1 := path_len (T := T) a b
  have h2 := path_len (T := T) b a
  rw [path_rev, List.length_reverse] at h2
  omega
theorem nx_max {a b : Nat} (h : a ≠ b) : T.nx a b ≤ max a b := by
  induction b using Nat.strongRecOn with
  | ind b ih =>
    by_cases h1 : b < a
    · rw [nx_up h1]; have := T.hp a (by omega); omega
    · have h2 : a < b := by omega
      have hb := T.hp b (by omega)
      by_cases h3 : a = T.p b
      · rw [h3, nx_dn1 (by omega)]; omega
      · rw [nx_dn h2 h3]; have := ih _ hb h3; omega
theorem path_nx {a b : Nat} (h : a ≠ b) : T.path a b = a :: T.path (T.nx a b) b := by
  induction b using Nat.strongRecOn with
  | ind b ih =>
    by_cases h1 : b < a
    · rw [nx_up h1, path_up h1]
    · have h2 : a < b := by omega
      have hb := T.hp b (by omega)
      by_cases h3 : a = T.p b
      · rw [path_dn h2, h3, nx_dn1 (by omega), path_self, path_self]; rfl
      · rw [nx_dn h2 h3, path_dn h2, ih _ hb h3]
        have := nx_max (T := T) h3
        rw [path_dn (a := T.nx a (T.p b)) (b := b) (by omega)]
        rfl
theorem d_nx {a b : Nat} (h : a ≠ b) : T.d a b = T.d (T.nx a b) b + 1 := by
  have h1 := path_len (T := T) a b
  have h2 := path_len (T := T) (T.nx a b) b
  rw [path_nx h, List.length_cons] at h1
  omega
theorem d_zero {a b : Nat} (h : T.d a b = 0) : a = b := by
  by_cases e : a = b
  · exact e
  · rw [d_nx e] at h; omega
/-- two places that a branch joins -/
def adj (T : Tr) (x y : Nat) : Prop := (0 < x ∧ y = T.p x) ∨ (0 < y ∧ x = T.p y)
theorem adj.symm {x y : Nat} (h : adj T x y) : adj T y x := Or.symm h
theorem nx_adj {a b : Nat} (h : a ≠ b) : adj T a (T.nx a b) := by
  induction b using Nat.strongRecOn with
  | ind b ih =>
    by_cases h1 : b < a
    · rw [nx_up h1]; exact .inl ⟨by omega, rfl⟩
    · have h2 : a < b := by omega
      have hb := T.hp b (by omega)
      by_cases h3 : a = T.p b
      · rw [h3, nx_dn1 (by omega)]; exact .inr ⟨by omega, rfl⟩
      · rw [nx_dn h2 h3]; exact ih _ hb h3
theorem edge {x b : Nat} (hx : 0 < x) : (x ≠ b ∧ T.nx x b = T.p x) ∨ (T.p x ≠ b ∧ T.nx (T.p x) b = x) := by
  have hp := T.hp x hx
  induction b using Nat.strongRecOn with
  | ind b ih =>
    by_cases h1 : b < x
    · exact .inl ⟨by omega, nx_up h1⟩
    · by_cases h2 : x = b
      · subst h2; exact .inr ⟨by omega, nx_dn1 hx⟩
      · have h3 : x < b := by omega
        have hb := T.hp b (by omega)
        by_cases h4 : x = T.p b
        · refine .inr ⟨by omega, ?_⟩
          rw [nx_dn (by omega) (by omega), ← h4]; exact nx_dn1 hx
        · rcases ih _ hb with ⟨a1, a2⟩ | ⟨a1, a2⟩
          · exact .inl ⟨h2, by rw [nx_dn h3 h4]; exact a2⟩
          · exact .inr ⟨by omega, by rw [nx_dn (by omega) a1]; exact a2⟩
theorem adj_nx {x y b : Nat} (h : adj T x y) : (x ≠ b ∧ T.nx x b = y) ∨ (y ≠ b ∧ T.nx y b = x) := by
  rcases h with ⟨h, e⟩ | ⟨h, e⟩
  · subst e; exact edge h
  · subst e; exact (edge h).symm
theorem adj_d {x y b : Nat} (h : adj T x y) : T.d x b = T.d y b + 1 ∨ T.d y b = T.d x b + 1 := by
  rcases adj_nx (b := b) h with ⟨h1, h2⟩ | ⟨h1, h2⟩
  · left; rw [d_nx h1, h2]
  · right; rw [d_nx h1, h2]
theorem tri (a b c : Nat) : T.d a c ≤ T.d a b + T.d b c := by
  generalize hn : T.d a b = n
  induction n generalizing a with
  | zero => have := d_zero hn; subst this; omega
  | succ n ih =>
    have hab : a ≠ b := fun z => by rw [z, d_self] at hn; omega
    have h1 := d_nx (T := T) hab
    have h2 := ih (T.nx a b) (by omega)
    rcases adj_d (b := c) (nx_adj (T := T) hab) with h | h <;> omega
theorem mem_path {a b x : Nat} : x ∈ T.path a b ↔ T.d a x + T.d x b = T.d a b := by
  generalize hn : T.d a b = n
  induction n generalizing a with
  | zero =>
    have := d_zero hn; subst this
    rw [path_self, List.mem_singleton]
    constructor
    · rintro rfl; rw [d_self]
    · intro h; exact (d_zero (T := T) (by omega : T.d x a = 0))
  | succ n ih =>
    have hab : a ≠ b := fun z => by rw [z, d_self] at hn; omega
    have h1 := d_nx (T := T) hab
    have h2 := ih (a := T.nx a b) (by omega)
    rw [path_nx hab, List.mem_cons]
    constructor
    · rintro (rfl | h)
      · rw [d_self]; omega
      · have h3 := h2.mp h
        have h4 := tri (T := T) a x b
        rcases adj_d (b := x) (nx_adj (T := T) hab) with h | h <;> omega
    · intro h
      by_cases hx : x = a
      · exact .inl hx
      · right
        have hax : a ≠ x := fun z => hx z.symm
        have h3 := d_nx (T := T) hax
        have h4 := tri (T := T) (T.nx a x) x b
        have h5 : T.nx a b = T.nx a x := by
          rcases adj_nx (b := b) (nx_adj (T := T) hax) with ⟨_, h6⟩ | ⟨h6, h7⟩
          · exact h6
          · have := d_nx (T := T) h6; rw [h7] at this; omega
        exact h2.mpr (by rw [h5]; omega)
theorem path_nodup (a b : Nat) : (T.path a b).Nodup := by
  generalize hn : T.d a b = n
  induction n generalizing a with
  | zero => have := d_zero hn; subst this; rw [path_self]; simp
  | succ n ih =>
    have hab : a ≠ b := fun z => by rw [z, d_self] at hn; omega
    have h1 := d_nx (T := T) hab
    rw [path_nx hab, List.nodup_cons]
    refine ⟨fun h => ?_, ih _ (by omega)⟩
    have h2 := mem_path.mp h
    omega
theorem path_le {a b x n : Nat} (h : x ∈ T.path a b) (ha : a ≤ n) (hb : b ≤ n) : x ≤ n := by
  revert h ha hb
  refine two (T := T) (P := fun a b => x ∈ T.path a b → a ≤ n → b ≤ n → x ≤ n) ?_ ?_ ?_ a b
  · intro a h; rw [path_self, List.mem_singleton] at h; omega
  · intro a b h ih h' ha hb
    rw [path_up h, List.mem_cons] at h'
    have := T.hp a (by omega)
    rcases h' with h' | h'
    · omega
    · exact ih h' (by omega) hb
  · intro a b h ih h' ha hb
    rw [path_dn h, List.mem_append, List.mem_singleton] at h'
    have := T.hp b (by omega)
    rcases h' with h' | h'
    · exact ih h' ha (by omega)
    · omega
theorem nx_le {a b n : Nat} (h : a ≠ b) (ha : a ≤ n) (hb : b ≤ n) : T.nx a b ≤ n := by have := nx_max (T := T) h; omega
/-- what has b and each place whose next one it has, has all -/
theorem all_of {b n : Nat} (S : Nat → Prop) (hb : b ≤ n) (h0 : S b) (h : ∀ x y, x ≤ n → y ≤ n → S x → adj T x y → S y) : ∀ x, x ≤ n → S x := by
  intro x hx
  generalize hn : T.d x b = m
  induction m generalizing x with
  | zero => have := d_zero hn; subst this; exact h0
  | succ m ih =>
    have hab : x ≠ b := fun z => by rw [z, d_self] at hn; omega
    have h1 := d_nx (T := T) hab
    have h2 := nx_le (T := T) hab hx hb
    exact h _ _ h2 hx (ih _ h2 (by omega)) (nx_adj hab).symm
/-- a place at each lesser count of branches -/
theorem at_d {b n c x : Nat} (hb : b ≤ n) (hx : x ≤ n) (h : c ≤ T.d x b) : ∃ y, y ≤ n ∧ T.d y b = c := by
  generalize hn : T.d x b = m at h
  induction m generalizing x with
  | zero => exact ⟨x, hx, by omega⟩
  | succ m ih =>
    by_cases e : c = m + 1
    · exact ⟨x, hx, by omega⟩
    · have hab : x ≠ b := fun z => by rw [z, d_self] at hn; omega
      have h1 := d_nx (T := T) hab
      exact ih (nx_le (T := T) hab hx hb) (by omega) (by omega)
end Tr
end PP
/-! The deck and the draws. -/
namespace PP
open PySem MM L2
def drawB : MS :=
  (mSeq (mDkPut 0 DkF.turn (mBin dAdd (mDk 0 DkF.turn) (mC (.int 1))))
    (mSeq (mPar 2 3 (mCons (mDk 0 DkF.turn) (mCons (mDk 0 DkF.seed) mNil)))
    (mSeq (mIfS (mTst (mDkNe 0))
    (mSeq (mSet 3 (mDkPop 0))
    (mSeq (mIfS (mTst (mBin dGe (mVar 3) (mBin dPow (mC (.int 10)) (mC (.int 18)))))
    (mSeq (mDrop (mDkApp 0 (mBin dFdiv (mVar 3) (mVar 1))))
    (mRet (mBin dMod (mVar 3) (mVar 1)))) mNext)
    (mSet 3 (mBin dAdd (mVar 3) (mDk 0 DkF.seed))))) mNext)
    (mSeq (mSet 4 (mBin dMod (mBin dMul (mBin dAdd (mBin dAdd (mBin dMod (mVar 3) (mC (.int 2147483629))) (mBin dMul (mBin dMul (mC (.int 86243)) (mVar 2)) (mVar 2))) (mC (.int 41))) (mC (.int 39373))) (mC (.int 2147483647))))
    (mSeq (mSet 4 (mBin dMod (mBin dAdd (mBin dAdd (mBin dMul (mVar 4) (mVar 4)) (mBin dMul (mC (.int 69621)) (mVar 2))) (mC (.int 3))) (mC (.int 2147483587))))
    (mRet (mBin dMod (mBin dFdiv (mBin dMod (mBin dAdd (mBin dMul (mVar 4) (mC (.int 40692))) (mBin dFdiv (mVar 4) (mC (.int 7)))) (mC (.int 2147483563))) (mC (.int 64))) (mVar 1))))))))
def drawM : MF := mFun 2 5 drawB
def treeB : MS :=
  (mSeq (mPar 2 3 (mCons (mCall drawM (mCons (mVar 0) (mCons (mVar 1) mNil))) (mCons (mCall drawM (mCons (mVar 0) (mCons (mC (.int 5)) mNil))) mNil)))
    (mSeq (mOwn 4 (mDisp mNil))
    (mSeq (mFor (mRange1 (mCons (mVar 2) mNil)) (mGn 5)
    (mSeq (mSet 6 (mLst (mCons (mCall drawM (mCons (mVar 0) (mCons (mBin dAdd (mVar 5) (mC (.int 1))) mNil))) (mCons (mVar 5) (mCons (mC (.int 0)) (mCons (mB dMax2 (mCons (mC (.int 0)) (mCons (mBin dSub (mVar 5) (mC (.int 1))) mNil))) mNil))))))
    (mDrop (mAppend 4 (mBin dIx (mBin dAdd (mVar 6) (mSl (mVar 6) mNoPart (mPart (mC (.int 1))))) (mVar 3))))))
    (mRet (mB dTuple (mCons (mVar 4) mNil))))))
def treeM : MF := mFun 2 7 treeB
def deckB : MS :=
  (mSeq (mSet 2 (mBin dAdd (mC (.int 20011)) (mB dLen (mCons (mVar 1) mNil))))
    (mSeq (mFor (mIter (mVar 1)) (mGn 3)
    (mSet 2 (mBin dMod (mBin dAdd (mBin dAdd (mBin dMul (mVar 2) (mC (.int 48271))) (mBin dMod (mVar 3) (mC (.int 2147483629)))) (mC (.int 19))) (mC (.int 2147483587)))))
    (mRet (mFzD (mDict [((mC (.str "cells")), (mUn dRev (mVar 1))), ((mC (.str "seed")), (mVar 2)), ((mC (.str "at")), (mC (.int 0)))])))))
def deckM : MF := mFunS 4 1 deckB
section
variable {sl : List Sl} {k : Dk} {i : Nat} {a : ME} {f : DkF} {ps : Ps}
@[simp] theorem e_deckAt : deckAt? ⟨sl, k⟩ i = (match sl[i]? with
  | some (.fz d) => isDeck d
  | _ => false) := rfl
@[simp] theorem isDeck_d : isDeck deckD = true := rfl
@[simp] theorem e_dk : mDk i f ps = if deckAt? ps i = true then (Out.of (dkNum ps.dk f) ps).bind fun n ps => .ok (.int n) ps else .bad := rfl
@[simp] theorem e_dkNum1 : dkNum k .seed = some k.seed := rfl
@[simp] theorem e_dkNum2 : dkNum k .turn = some k.tn := rfl
@[simp] theorem e_dkPut : mDkPut i f a ps = (a ps).bindS fun v ps1 => if deckAt? ps1 i = true then (match dInt v with
  | some n => (match dkPut ps1.dk f n with
    | some k' => .next ⟨ps1.sl, k'⟩
    | none => .bad)
  | none => .bad) else .bad := rfl
@[simp] theorem e_dkPut1 {n : Int} : dkPut k .seed n = some ⟨k.cells, n, k.tn⟩ := rfl
@[simp] theorem e_dkPut2 {n : Int} : dkPut k .turn n = some ⟨k.cells, k.seed, n⟩ := rfl
@[simp] theorem e_dkNe : mDkNe i ps = if deckAt? ps i = true then .ok (.bool (!ps.dk.cells.isEmpty)) ps else .bad := rfl
@[simp] theorem e_dkPop : mDkPop i ps = if deckAt? ps i = true then (match ps.dk.cells.getLast? with
  | some n => .ok (.int n) ⟨ps.sl, ⟨ps.dk.cells.dropLast, ps.dk.seed, ps.dk.tn⟩⟩
  | none => .bad) else .bad := rfl
@[simp] theorem e_dkApp : mDkApp i a ps = if deckAt? ps i = true then (a ps).bind fun v ps1 => (if deckAt? ps1 i = true then (match dInt v with
  | some n => if ps1.dk.cells.length < sizeLine then .ok .none ⟨ps1.sl, ⟨ps1.dk.cells ++ [n], ps1.dk.seed, ps1.dk.tn⟩⟩ else .bad
  | none => .bad) else .bad) else .bad := rfl
@[simp] theorem dInt_i (n : Int) : dInt (.int n) = some n := rfl
end
/-- a deck as it may stand after n draws -/
structure Vd (k : Dk) (n : Nat) : Prop where
  c : k.cells.length ≤ 63
  t0 : 0 ≤ k.tn
  t1 : k.tn ≤ (n : Int)
theorem dMod_i {x y : Int} (h : 0 < y) : dMod (.int x) (.int y) = some (.int (x % y)) := by simp [dMod, dI, h]
theorem dFdiv_i {x y : Int} (h : 0 < y) (h2 : y < 1073741824) : dFdiv (.int x) (.int y) = some (.int (x / y)) := by simp [dFdiv, dI, h, h2]
theorem dMul_i {x y : Int} (h : (-(2 ^ 64) < x ∧ x < 2 ^ 64) ∨ (-(2 ^ 64) < y ∧ y < 2 ^ 64)) : dMul (.int x) (.int y) = some (.int (x * y)) := by
  show dMulI (.int x) (.int y) = _
  simp only [dMulI, dI]
  rw [if_pos (decide_eq_true h)]
theorem dPow10 : dPow (.int 10) (.int 18) = some (.int 1000000000000000000) := rfl
@[simp] theorem dGe_int (x y : Int) : dGe (.int x) (.int y) = some (.bool (decide (y ≤ x))) := by simp [dGe, dI]
@[simp] theorem dGt_int (x y : Int) : dGt (.int x) (.int y) = some (.bool (decide (y < x))) := by simp [dGt, dI]
@[simp] theorem dLe_int (x y : Int) : dLe (.int x) (.int y) = some (.bool (decide (x ≤ y))) := by simp [dLe, dI]
@[simp] theorem dLt_int (x y : Int) : dLt (.int x) (.int y) = some (.bool (decide (x < y))) := rfl
/-- it returns such a thing -/
def RetP (P : D → Dk → Prop) : So → Prop
  | .ret d ps => P d ps.dk
  | _ => False
def FoP (P : D → Dk → Prop) : Fo → Prop
  | .ret d k => P d k
  | _ => False
@[simp] theorem RetP_ret (P : D → Dk → Prop) (d : D) (ps : Ps) : RetP P (.ret d ps) = P d ps.dk := rfl
@[simp] theorem FoP_ret (P : D → Dk → Prop) (d : D) (k : Dk) : FoP P (.ret d k) = P d k := rfl
theorem FoP.ex {P : D → Dk → Prop} {f : Fo} (h : FoP P f) : ∃ d k, f = .ret d k ∧ P d k := by
  cases f with
  | ret d k => exact ⟨d, k, rfl, h⟩
  | exc e k => exact h.elim
  | bad => exact h.elim
theorem fn_ret {np n : Nat} {body : MS} {ds : List D} {k : Dk} {P : D → Dk → Prop} (h : ds.length = np) (hb : RetP P (body ⟨sl0 n ds, k⟩)) : FoP P (mFun np n body ds k) := by
  unfold mFun
  rw [if_pos h]
  cases e : body ⟨sl0 n ds, k⟩ with
  | ret d ps => rw [e] at hb; exact hb
  | _ => rw [e] at hb; exact hb.elim
theorem draw_ok {lots : Int} {k : Dk} {n : Nat} (v : Vd k n) (hn : n < 2 ^ 59) (hl : 0 < lots) (h1 : lots < 1073741824) : FoP (fun d k' => ∃ r, d = .int r ∧ 0 ≤ r ∧ r < lots ∧ Vd k' (n + 1)) (drawM [deckD, .int lots] k) := by
  obtain ⟨c, t0, t1⟩ := v
  obtain ⟨cells, seed, t⟩ := k
  dsimp only at c t0 t1
  refine fn_ret rfl ?_
  have b1 : -(2 ^ 64) < t + 1 ∧ t + 1 < 2 ^ 64 := by omega
  have m1 : ∀ x : Int, -(2 ^ 64) < x % 2147483587 ∧ x % 2147483587 < 2 ^ 64 := fun x => by omega
  have m2 : ∀ x : Int, -(2 ^ 64) < x % 2147483647 ∧ x % 2147483647 < 2 ^ 64 := fun x => by omega
  have z1 : ∀ x : Int, 0 ≤ x % lots := fun x => Int.emod_nonneg _ (by omega)
  have z2 : ∀ x : Int, x % lots < lots := fun x => Int.emod_lt_of_pos _ hl
  have vd : ∀ cells' : List Int, ∀ s' : Int, cells'.length ≤ 63 → Vd ⟨cells', s', t + 1⟩ (n + 1) := fun cells' s' h => ⟨h, by show 0 ≤ t + 1; omega, by show t + 1 ≤ ((n + 1 : Nat) : Int); omega⟩
  unfold drawB
  by_cases hc : cells = []
  · subst hc
    simp [sl0, dMod_i, dFdiv_i, dMul_i (.inl (by decide) : (-(2 ^ 64) < (86243 : Int) ∧ (86243 : Int) < 2 ^ 64) ∨ _), dMul_i (.inl (by decide) : (-(2 ^ 64) < (69621 : Int) ∧ (69621 : Int) < 2 ^ 64) ∨ _), dMul_i (.inr b1), dMul_i (.inr (by decide) : _ ∨ (-(2 ^ 64) < (39373 : Int) ∧ (39373 : Int) < 2 ^ 64)), dMul_i (.inr (by decide) : _ ∨ (-(2 ^ 64) < (40692 : Int) ∧ (40692 : Int) < 2 ^ 64)), dMul_i (.inl (m1 _)), dMul_i (.inl (m2 _)), hl, List.replicate, z1, z2]
    exact vd _ _ (by simp)
  · obtain ⟨z, hz⟩ : ∃ z, cells.getLast? = some z := by
      cases h : cells.getLast? with
      | none => exact absurd (List.getLast?_eq_none_iff.mp h) hc
      | some z => exact ⟨z, rfl⟩
    have hne : cells.isEmpty = false := by simpa using hc
    have hdl : cells.dropLast.length ≤ 62 := by rw [List.length_dropLast]; omega
    by_cases hb : 1000000000000000000 ≤ z
    · have hs : cells.length - 1 < sizeLine := by show _ < 2 ^ 24; omega
      simp [sl0, dMod_i, dFdiv_i, hl, h1, List.replicate, z1, z2, hne, hz, dPow10, hb, hs]
      exact vd _ _ (by simp; omega)
    · simp [sl0, dMod_i, dFdiv_i, dMul_i (.inl (by decide) : (-(2 ^ 64) < (86243 : Int) ∧ (86243 : Int) < 2 ^ 64) ∨ _), dMul_i (.inl (by decide) : (-(2 ^ 64) < (69621 : Int) ∧ (69621 : Int) < 2 ^ 64) ∨ _), dMul_i (.inr b1), dMul_i (.inr (by decide) : _ ∨ (-(2 ^ 64) < (39373 : Int) ∧ (39373 : Int) < 2 ^ 64)), dMul_i (.inr (by decide) : _ ∨ (-(2 ^ 64) < (40692 : Int) ∧ (40692 : Int) < 2 ^ 64)), dMul_i (.inl (m1 _)), dMul_i (.inl (m2 _)), hl, List.replicate, z1, z2, hne, hz, dPow10, hb]
      exact vd _ _ (by simp; omega)
theorem Vd.le {k : Dk} {n m : Nat} (v : Vd k n) (h : n ≤ m) : Vd k m := ⟨v.c, v.t0, by have := v.t1; omega⟩
theorem draw_nat {lots : Nat} {k : Dk} {n : Nat} (v : Vd k n) (hn : n < 2 ^ 59) (hl : 0 < lots) (h1 : lots < 1073741824) : ∃ r k', drawM [deckD, iD lots] k = .ret (iD r) k' ∧ r < lots ∧ Vd k' (n + 1) := by
  obtain ⟨d, k', e, r, rfl, r0, r1, v'⟩ := (draw_ok (lots := (lots : Int)) v hn (by omega) (by omega)).ex
  refine ⟨r.toNat, k', ?_, by omega, v'⟩
  have : iD r.toNat = .int r := by unfold iD; congr 1; omega
  rw [this]; exact e
theorem dIx_list {xs : List D} {i : Nat} {v : D} (h : xs[i]? = some v) : dIx (.list xs) (iD i) = some v := by
  show atI xs (i : Int) = _
  exact atI_nat h
theorem dIx_tuple {xs : List D} {i : Nat} {v : D} (h : xs[i]? = some v) : dIx (.tuple xs) (iD i) = some v := by
  show atI xs (i : Int) = _
  exact atI_nat h
@[simp] theorem dAdd_iD1 (x : Nat) : dAdd (iD x) (.int 1) = some (iD (x + 1)) := rfl
@[simp] theorem dAdd_iD (x y : Nat) : dAdd (iD x) (iD y) = some (iD (x + y)) := by
  show some (PyData.int ((x : Int) + (y : Int))) = some (PyData.int ((x + y : Nat) : Int))
  rw [Int.natCast_add]
theorem dSub_iD {x y : Nat} (h : y ≤ x) : dSub (iD x) (iD y) = some (iD (x - y)) := by
  show some (PyData.int ((x : Int) - (y : Int))) = some (PyData.int ((x - y : Nat) : Int))
  rw [Int.natCast_sub h]
theorem dSub_iD1 {x : Nat} (h : 1 ≤ x) : dSub (iD x) (.int 1) = some (iD (x - 1)) := dSub_iD (y := 1) h
theorem dMax_pred (x : Nat) : ((dSub (iD x) (.int 1)).bind fun z => dMax2 [.int 0, z]) = some (iD (x - 1)) := by
  show some (PyData.int (if (x : Int) - 1 > 0 then (x : Int) - 1 else 0)) = some (PyData.int ((x - 1 : Nat) : Int))
  congr 2
  split <;> omega
theorem range_at {n : Nat} {done rest : List Nat} {x : Nat} (h : List.range n = done ++ x :: rest) : x = done.length ∧ x < n ∧ done = List.range x := by
  have h1 : (List.range n)[done.length]? = some x := by rw [h]; simp
  have hl : done.length < n := by
    have := congrArg List.length h
    simp at this
    omega
  rw [List.getElem?_range hl] at h1
  injection h1 with h1
  refine ⟨h1.symm, by omega, ?_⟩
  have h2 := congrArg (List.take done.length) h
  rw [List.take_left, List.take_range] at h2
  rw [← h2, ← h1]
  congr 1
  omega
theorem dRev_list (xs : List D) : dRev (.list xs) = some (.list xs.reverse) := rfl
theorem dTuple_list (xs : List D) : dTuple [.list xs] = some (.tuple xs) := rfl
@[simp] theorem dSl_list (ds : List D) (lo hi : Option Int) : dSl (.list ds) lo hi = some (.list (cut ds lo hi)) := rfl
@[simp] theorem dSl_tuple (ds : List D) (lo hi : Option Int) : dSl (.tuple ds) lo hi = some (.tuple (cut ds lo hi)) := rfl
theorem dAdd_list {xs ys : List D} (h : xs.length + ys.length ≤ 16777216) : dAdd (.list xs) (.list ys) = some (.list (xs ++ ys)) := by simp [dAdd, sizeLine, h]
theorem dAdd_tuple {xs ys : List D} (h : xs.length + ys.length ≤ 16777216) : dAdd (.tuple xs) (.tuple ys) = some (.tuple (xs ++ ys)) := by simp [dAdd, sizeLine, h]
theorem sz_le {n : Nat} (h : n ≤ 16777216) : n ≤ sizeLine := h
theorem sz_lt {n : Nat} (h : n < 16777216) : n < sizeLine := h
theorem cut1 {α : Type} (xs : List α) : cut xs none (some 1) = xs.take 1 := by
  show (xs.drop 0).take (HT.sIx xs.length xs.length (some ((1 : Nat) : Int)) - 0) = _
  rw [HT.sIx_nat]
  cases xs with
  | nil => simp
  | cons x xs => simp
/-- numbers that tell a tree -/
def TrOk (t : List Nat) : Prop := ∀ (i v : Nat), t[i]? = some v → v ≤ i
theorem TrOk.nil : TrOk [] := fun i v h => by simp at h
theorem TrOk.snoc {t : List Nat} {v : Nat} (h : TrOk t) (hv : v ≤ t.length) : TrOk (t ++ [v]) := by
  intro i w e
  by_cases hi : i < t.length
  · rw [List.getElem?_append_left hi] at e; exact h _ _ e
  · rw [List.getElem?_append_right (by omega)] at e
    by_cases h0 : i - t.length = 0
    · rw [h0] at e; simp at e; omega
    · rw [List.getElem?_eq_none (by simp; omega)] at e; cases e
def treeL : MS := (mSeq (mSet 6 (mLst (mCons (mCall drawM (mCons (mVar 0) (mCons (mBin dAdd (mVar 5) (mC (.int 1))) mNil))) (mCons (mVar 5) (mCons (mC (.int 0)) (mCons (mB dMax2 (mCons (mC (.int 0)) (mCons (mBin dSub (mVar 5) (mC (.int 1))) mNil))) mNil))))))
    (mDrop (mAppend 4 (mBin dIx (mBin dAdd (mVar 6) (mSl (mVar 6) mNoPart (mPart (mC (.int 1))))) (mVar 3)))))
theorem treeL_ok {m lots srt x : Nat} {t : List Nat} {s5 s6 : Sl} {k' : Dk} {n : Nat} (hsrt : srt < 5) (ht : t.length < 1000) (hn : n < 2 ^ 59) (hx : x < 1000) (vk : Vd k' n) :
    ∃ v k4 s6', v ≤ x ∧ treeL ⟨[.fz deckD, .fz (iD m), .fz (iD lots), .fz (iD srt), .ml (iDs t), .fz (iD x), s6], k'⟩ = .next ⟨[.fz deckD, .fz (iD m), .fz (iD lots), .fz (iD srt), .ml (iDs (t ++ [v])), .fz (iD x), s6'], k4⟩ ∧ Vd k4 (n + 1) := by
  obtain ⟨r, k4, e4, hr, v4⟩ := draw_nat (lots := x + 1) vk (by omega) (by omega) (by omega)
  have hm := dMax_pred x
  have hsub : dSub (iD x) (.int 1) = some (.int ((x : Int) - 1)) := rfl
  rw [hsub] at hm
  simp only [Option.bind_some] at hm
  have hc : cut [iD r, iD x, .int 0, iD (x - 1)] none (some 1) = [iD r] := by
    rw [cut1]; rfl
  have hi : ∃ v, v ≤ x ∧ [iD r, iD x, .int 0, iD (x - 1), iD r][srt]? = some (iD v) := by
    match srt, hsrt with
    | 0, _ => exact ⟨r, by omega, rfl⟩
    | 1, _ => exact ⟨x, by omega, rfl⟩
    | 2, _ => exact ⟨0, by omega, rfl⟩
    | 3, _ => exact ⟨x - 1, by omega, rfl⟩
    | 4, _ => exact ⟨r, by omega, rfl⟩
  obtain ⟨v, hv, hi⟩ := hi
  have hix := dIx_list hi
  have hs : t.length < sizeLine := sz_lt (by omega)
  refine ⟨v, k4, .fz (.list [iD r, iD x, .int 0, iD (x - 1)]), hv, ?_, v4⟩
  have hsz : 4 ≤ sizeLine := sz_le (by omega)
  have ha : dAdd (.list [iD r, iD x, .int 0, iD (x - 1)]) (.list [iD r]) = some (.list [iD r, iD x, .int 0, iD (x - 1), iD r]) := dAdd_list (by show 4 + 1 ≤ 16777216; omega)
  unfold treeL
  simp [e4, hsub, hm, hsz, hc, ha, hix, hs]
theorem tree_ok {most : Nat} {k : Dk} {n : Nat} (v : Vd k n) (hn : n + most + 2 < 2 ^ 59) (hl : 0 < most) (h1 : most < 1000) :
    FoP (fun d k' => ∃ t, d = TD t ∧ t.length < most ∧ TrOk t ∧ Vd k' (n + most + 2)) (treeM [deckD, iD most] k) := by
  refine fn_ret rfl ?_
  obtain ⟨lots, k1, e1, hlots, v1⟩ := draw_nat v (by omega) hl (by omega)
  obtain ⟨srt, k2, e2, hsrt, v2⟩ := draw_nat (lots := 5) v1 (by omega) (by omega) (by omega)
  have e2' : drawM [deckD, .int 5] k1 = .ret (iD srt) k2 := e2
  have h62 : lots < 4611686018427387904 := by omega
  obtain ⟨ps', eL, t, s5, s6, k3, rfl, ht, hlen, v3⟩ := loop_nat (g := mGn 5) (body := treeL)
    (fun done ps => ∃ t s5 s6 k', ps = ⟨[.fz deckD, .fz (iD most), .fz (iD lots), .fz (iD srt), .ml (iDs t), s5, s6], k'⟩ ∧ TrOk t ∧ t.length = done.length ∧ Vd k' (n + 2 + done.length))
    (xs := List.range lots) (ps := ⟨[.fz deckD, .fz (iD most), .fz (iD lots), .fz (iD srt), .ml [], .no, .no], k2⟩) ⟨[], .no, .no, k2, rfl, .nil, rfl, v2⟩ (by
      rintro done x rest ps hx ⟨t, s5, s6, k', rfl, ht, hlen, vk⟩
      obtain ⟨hx1, hx2, -⟩ := range_at hx
      obtain ⟨v, k4, s6', hv, e, v4⟩ := treeL_ok (m := most) (lots := lots) (srt := srt) (x := x) (t := t) (s5 := s5) (s6 := s6) hsrt (by omega) (by omega) (by omega) vk
      refine ⟨_, _, rfl, .inl e, t ++ [v], _, _, k4, rfl, ht.snoc (by omega), by simp; omega, ?_⟩
      have : (done ++ [x]).length = done.length + 1 := by simp
      rw [this]; exact v4)
  unfold treeB
  unfold treeL at eL
  simp [sl0, List.replicate, e1, e2', dRange1_iD h62, eL, sz_le, dTuple_list]
  refine ⟨t, rfl, ?_, ht, v3.le ?_⟩
  · rw [hlen]; simpa using hlots
  · simp; omega
theorem merge3 {a b c : Key} {x y z : D} (h1 : a ≠ b) (h2 : a ≠ c) (h3 : b ≠ c) : mergeD [(a, x), (b, y), (c, z)] = [(a, x), (b, y), (c, z)] := by
  simp [mergeD, putD, h1, h2, h3]
def deckL : MS := (mSet 2 (mBin dMod (mBin dAdd (mBin dAdd (mBin dMul (mVar 2) (mC (.int 48271))) (mBin dMod (mVar 3) (mC (.int 2147483629)))) (mC (.int 19))) (mC (.int 2147483587))))
theorem deck_ok (ns : List Int) (h : ns.length ≤ 63) : ∃ k k', deckM [.list (ns.map .int)] k00 = .ret (deckDict "seed" "at" k) k' ∧ Vd k 0 := by
  obtain ⟨ps', eL, z, s3, rfl⟩ := loop_inv (g := mGn 3) (body := deckL) (fun done ps => ∃ z s3, ps = ⟨[.no, .fz (.list (ns.map .int)), .fz (.int z), s3], k00⟩)
    (ds := ns.map .int) (ps := ⟨[.no, .fz (.list (ns.map .int)), .fz (.int (20011 + (ns.length : Int))), .no], k00⟩) ⟨_, _, rfl⟩ (by
      rintro done d rest ps hx ⟨z, s3, rfl⟩
      obtain ⟨m, -, rfl⟩ := List.mem_map.mp (show d ∈ ns.map PyData.int by rw [hx]; simp)
      refine ⟨_, _, rfl, .inl ?_, (z * 48271 + m % 2147483629 + 19) % 2147483587, .fz (.int m), rfl⟩
      unfold deckL
      simp [dMod_i, dMul_i (.inr (by decide) : _ ∨ (-(2 ^ 64) < (48271 : Int) ∧ (48271 : Int) < 2 ^ 64))])
  unfold deckL at eL
  have hl : dLen [.list (ns.map .int)] = some (.int (ns.length : Int)) := by simp [dLen]
  have hk : toKeys [(.str "cells", .list (ns.map PyData.int).reverse), (.str "seed", .int z), (.str "at", .int 0)] = some [(.inr "cells", .list (ns.map PyData.int).reverse), (.inr "seed", .int z), (.inr "at", .int 0)] := rfl
  have hm := merge3 (a := .inr "cells") (b := .inr "seed") (c := .inr "at") (x := .list (ns.map PyData.int).reverse) (y := .int z) (z := .int 0) (by decide +kernel) (by decide +kernel) (by decide +kernel)
  refine ⟨⟨ns.reverse, z, 0⟩, k00, ?_, ⟨by simpa using h, by show (0 : Int) ≤ 0; omega, by show (0 : Int) ≤ 0; omega⟩⟩
  have e : deckB ⟨[.no, .fz (.list (ns.map .int)), .no, .no], k00⟩ = .ret (deckDict "seed" "at" ⟨ns.reverse, z, 0⟩) ⟨[.no, .fz (.list (ns.map .int)), .fz (.int z), s3], k00⟩ := by
    unfold deckB
    have h15 : ([(.inr "cells", .list (ns.map PyData.int).reverse), (.inr "seed", .int z), (.inr "at", .int 0)] : List (Key × D)).length ≤ 15 := by show 3 ≤ 15; omega
    simp only [e_seq, e_set, e_bin, e_c, e_b, e_cons, e_nil, e_var, e_for, e_iter, e_ret, e_fzD, e_dict, e_pairs0, e_pairs1, e_un, Out.bind_ok, Out.bindS_ok, Out.of_some, List.getElem?_cons_succ, List.getElem?_cons_zero, List.set_cons_succ, List.set_cons_zero, hl, dAdd_int, dSeq, eL, dRev_list, hk, h15, if_true, hm]
    simp [deckDict, dctD, kD, List.map_reverse]
  unfold deckM mFunS
  have e0 : (List.replicate 4 Sl.no).set 1 (.fz (.list (ns.map .int))) = [.no, .fz (.list (ns.map .int)), .no, .no] := rfl
  simp only [e0, e]
end PP
/-! The ways of a tree told by numbers: to_first, way, far. -/
namespace PP
open PySem MM L2
theorem trOf_hp {t : List Nat} (h : TrOk t) (x : Nat) (hx : 0 < x) : t.getD (x - 1) 0 < x := by
  rw [List.getD_eq_getElem?_getD]
  cases e : t[x - 1]? with
  | none => simpa using hx
  | some v => have := h _ _ e; simp; omega
def trOf (t : List Nat) (h : TrOk t) : Tr := ⟨fun x => t.getD (x - 1) 0, trOf_hp h⟩
theorem trOf_at {t : List Nat} (h : TrOk t) {x : Nat} (hx : 0 < x) (hl : x ≤ t.length) : t[x - 1]? = some ((trOf t h).p x) := by
  show t[x - 1]? = some (t.getD (x - 1) 0)
  rw [List.getD_eq_getElem?_getD]
  have : x - 1 < t.length := by omega
  rw [List.getElem?_eq_getElem this]; rfl
theorem anc_len (T : Tr) (x : Nat) : (T.anc x).length ≤ x + 1 := by
  induction x using Nat.strongRecOn with
  | ind x ih =>
    by_cases hx : 0 < x
    · rw [Tr.anc_pos hx, List.length_cons]; have := ih _ (T.hp x hx); have := T.hp x hx; omega
    · have : x = 0 := by omega
      subst this; rw [Tr.anc_zero]; simp
def firstB : MS :=
  (mSeq (mOwn 2 (mDisp (mCons (mVar 1) mNil)))
    (mSeq (mWhile (mTst (mBin dGt (mIxV 2 (mUn dNeg (mC (.int 1)))) (mC (.int 0))))
    (mDrop (mAppend 2 (mBin dIx (mVar 0) (mBin dSub (mIxV 2 (mUn dNeg (mC (.int 1)))) (mC (.int 1)))))) 64)
    (mRet (mVar 2))))
def firstM : MF := mFun 2 3 firstB
theorem dGt_iD0 (x : Nat) : dGt (iD x) (.int 0) = some (.bool (decide (0 < x))) := by
  show some (PyData.bool (decide ((0 : Int) < (x : Int)))) = _
  by_cases h : 0 < x <;> simp [h] <;> omega
theorem first_ok {t : List Nat} (h : TrOk t) (hl : t.length < 8) {x : Nat} (hx : x ≤ t.length) (k : Dk) : firstM [TD t, iD x] k = .ret (LD ((trOf t h).anc x)) k := by
  have hw := while_inv (t := (mTst (mBin dGt (mIxV 2 (mUn dNeg (mC (.int 1)))) (mC (.int 0))))) (body := (mDrop (mAppend 2 (mBin dIx (mVar 0) (mBin dSub (mIxV 2 (mUn dNeg (mC (.int 1)))) (mC (.int 1))))))) (n := x)
    (fun m ps => ∃ done y, ps = ⟨[.fz (TD t), .fz (iD x), .ml (iDs (done ++ [y]))], k⟩ ∧ (trOf t h).anc x = done ++ (trOf t h).anc y ∧ y ≤ t.length ∧ m = y ∧ done.length + y ≤ x)
    (fun ps => ps = ⟨[.fz (TD t), .fz (iD x), .ml (iDs ((trOf t h).anc x))], k⟩) (ps := ⟨[.fz (TD t), .fz (iD x), .ml (iDs ([] ++ [x]))], k⟩) ⟨[], x, rfl, rfl, hx, rfl, by simp⟩ (by
      rintro m ps ⟨done, y, rfl, ha, hy, rfl, hd⟩
      by_cases h0 : 0 < m
      · right
        have hp := (trOf t h).hp m h0
        have hix := dIx_TD (trOf_at h h0 hy)
        have hs := dSub_iD1 (x := m) h0
        have hsz : done.length + 1 < sizeLine := sz_lt (by omega)
        refine ⟨(trOf t h).p m, ⟨[.fz (TD t), .fz (iD x), .ml (iDs (done ++ [m]))], k⟩, ⟨[.fz (TD t), .fz (iD x), .ml (iDs ((done ++ [m]) ++ [(trOf t h).p m]))], k⟩, hp, ?_, .inl ?_, done ++ [m], (trOf t h).p m, rfl, ?_, by omega, rfl, by simp; omega⟩
        · simp [dGt_iD0, h0]
        · simp [hix, hs, hsz]
        · rw [ha, Tr.anc_pos h0]; simp
      · left
        refine ⟨⟨[.fz (TD t), .fz (iD x), .ml (iDs (done ++ [m]))], k⟩, ?_, ?_⟩
        · simp [dGt_iD0, h0]
        · have : m = 0 := by omega
          subst this
          rw [ha, Tr.anc_zero]) (fuel := 64) (by omega)
  obtain ⟨ps', e, rfl⟩ := hw
  unfold firstM mFun firstB
  simp only [List.nil_append] at e
  have hsz : 1 ≤ sizeLine := sz_le (by omega)
  have ei : (Sl.ml [iD x]) = .ml (iDs [x]) := rfl
  simp [sl0, List.replicate, hsz, ei, e]
def wayB : MS :=
  (mSeq (mAsg (mGp 3 4) (mTup (mCons (mCall firstM (mCons (mVar 0) (mCons (mVar 1) mNil))) (mCons (mCall firstM (mCons (mVar 0) (mCons (mVar 2) mNil))) mNil))))
    (mSeq (mOwn 5 (mComp (mIter (mVar 3)) (mGn 8) (mTst (mBin dNotIn (mVar 8) (mVar 4))) (mVar 8) [8]))
    (mSeq (mOwn 6 (mComp (mIter (mVar 3)) (mGn 8) (mTst (mBin dIn (mVar 8) (mVar 4))) (mVar 8) [8]))
    (mSeq (mOwn 7 (mComp (mIter (mVar 4)) (mGn 8) (mTst (mBin dNotIn (mVar 8) (mVar 3))) (mVar 8) [8]))
    (mRet (mB dTuple (mCons (mBin dAdd (mBin dAdd (mVar 5) (mSl (mVar 6) mNoPart (mPart (mC (.int 1))))) (mUn dRev (mVar 7))) mNil)))))))
def wayM : MF := mFun 3 9 wayB
@[simp] theorem dSl_LD1 (xs : List Nat) : dSl (LD xs) none (some 1) = some (LD (xs.take 1)) := by
  show some (PyData.list (cut (iDs xs) none (some 1))) = _
  rw [cut1]
  unfold LD iDs
  rw [List.map_take]
theorem way_ok {t : List Nat} (h : TrOk t) (hl : t.length < 8) {a b : Nat} (ha : a ≤ t.length) (hb : b ≤ t.length) (k : Dk) : wayM [TD t, iD a, iD b] k = .ret (TD ((trOf t h).path a b)) k := by
  have e1 := first_ok h hl ha k
  have e2 := first_ok h hl hb k
  have l1 := anc_len (trOf t h) a
  have l2 := anc_len (trOf t h) b
  rw [← Tr.way_path]
  unfold Tr.way
  generalize (trOf t h).anc a = A at *
  generalize (trOf t h).anc b = B at *
  have c1 := comp_iD (mi := (mIter (mVar 3))) (g := (mGn 8)) (tt := (mTst (mBin dNotIn (mVar 8) (mVar 4)))) (te := (mVar 8)) (vs := [8]) (ps := ⟨[.fz (TD t), .fz (iD a), .fz (iD b), .fz (LD A), .fz (LD B), .no, .no, .no, .no], k⟩) (ps0 := ⟨[.fz (TD t), .fz (iD a), .fz (iD b), .fz (LD A), .fz (LD B), .no, .no, .no, .no], k⟩)
    (fun x => !decide (x ∈ B)) (fun x => x) (xs := A) (by simp) (by simp) (by omega) (fun x hx => by simp)
  have c2 := comp_iD (mi := (mIter (mVar 3))) (g := (mGn 8)) (tt := (mTst (mBin dIn (mVar 8) (mVar 4)))) (te := (mVar 8)) (vs := [8]) (ps := ⟨[.fz (TD t), .fz (iD a), .fz (iD b), .fz (LD A), .fz (LD B), .ml (iDs (A.filter fun x => !decide (x ∈ B))), .no, .no, .no], k⟩) (ps0 := ⟨[.fz (TD t), .fz (iD a), .fz (iD b), .fz (LD A), .fz (LD B), .ml (iDs (A.filter fun x => !decide (x ∈ B))), .no, .no, .no], k⟩)
    (fun x => decide (x ∈ B)) (fun x => x) (xs := A) (by simp) (by simp) (by omega) (fun x hx => by simp)
  have c3 := comp_iD (mi := (mIter (mVar 4))) (g := (mGn 8)) (tt := (mTst (mBin dNotIn (mVar 8) (mVar 3)))) (te := (mVar 8)) (vs := [8]) (ps := ⟨[.fz (TD t), .fz (iD a), .fz (iD b), .fz (LD A), .fz (LD B), .ml (iDs (A.filter fun x => !decide (x ∈ B))), .ml (iDs (A.filter fun x => decide (x ∈ B))), .no, .no], k⟩) (ps0 := ⟨[.fz (TD t), .fz (iD a), .fz (iD b), .fz (LD A), .fz (LD B), .ml (iDs (A.filter fun x => !decide (x ∈ B))), .ml (iDs (A.filter fun x => decide (x ∈ B))), .no, .no], k⟩)
    (fun x => !decide (x ∈ A)) (fun x => x) (xs := B) (by simp) (by simp) (by omega) (fun x hx => by simp)
  simp only [List.map_id'] at c1 c2 c3
  have f1 : (A.filter fun x => !decide (x ∈ B)).length ≤ A.length := List.length_filter_le _ _
  have f2 : (A.filter fun x => decide (x ∈ B)).length ≤ A.length := List.length_filter_le _ _
  have f3 : (B.filter fun x => !decide (x ∈ A)).length ≤ B.length := List.length_filter_le _ _
  have hsz : 2 ≤ sizeLine := sz_le (by omega)
  generalize (A.filter fun x => !decide (x ∈ B)) = U at *
  generalize (A.filter fun x => decide (x ∈ B)) = V at *
  generalize (B.filter fun x => !decide (x ∈ A)) = W at *
  have d1 : dAdd (LD U) (LD (V.take 1)) = some (LD (U ++ V.take 1)) := dAdd_LD (by rw [List.length_take]; omega)
  have d2 : dAdd (LD (U ++ V.take 1)) (LD W.reverse) = some (LD (U ++ V.take 1 ++ W.reverse)) := dAdd_LD (by rw [List.length_append, List.length_take, List.length_reverse]; omega)
  unfold wayM mFun wayB
  simp [sl0, List.replicate, e1, e2, hsz, c1, c2, c3, d1, -List.append_assoc, d2]
def farB : MS :=
  (mRet (mBin dSub (mB dLen (mCons (mCall wayM (mCons (mVar 0) (mCons (mVar 1) (mCons (mVar 2) mNil)))) mNil)) (mC (.int 1))))
def farM : MF := mFun 3 3 farB
theorem far_ok {t : List Nat} (h : TrOk t) (hl : t.length < 8) {a b : Nat} (ha : a ≤ t.length) (hb : b ≤ t.length) (k : Dk) : farM [TD t, iD a, iD b] k = .ret (iD ((trOf t h).d a b)) k := by
  have e := way_ok h hl ha hb k
  have e2 := dSub_iD1 (x := ((trOf t h).path a b).length) (by rw [Tr.path_len]; omega)
  unfold farM mFun farB
  simp [sl0, List.replicate, e, e2]
  rw [Tr.path_len]; simp
end PP
/-! Neighbours, and branches counted level by level. -/
namespace PP
open PySem MM L2
/-! ### dicts by numbers -/
def kvD (m : List (Nat × D)) : List (Key × D) := m.map fun p => (.inl (p.1 : Int), p.2)
def DD (m : List (Nat × D)) : D := .dict ((kvD m).map fun p => (kD p.1, p.2))
@[simp] theorem kvD_fold (m : List (Nat × D)) : PyData.dict ((kvD m).map fun p => (kD p.1, p.2)) = DD m := rfl
@[simp] theorem kvD_len (m : List (Nat × D)) : (kvD m).length = m.length := by unfold kvD; simp
theorem kvD_put {m : List (Nat × D)} {x : Nat} {v : D} (h : x ∉ m.map (·.1)) : putD (kvD m) (.inl (x : Int)) v = kvD (m ++ [(x, v)]) := by
  unfold putD
  rw [if_neg]
  · unfold kvD; simp
  · intro e
    obtain ⟨p, hp, e⟩ := List.any_eq_true.mp e
    obtain ⟨q, hq, rfl⟩ := List.mem_map.mp hp
    have e := of_decide_eq_true e
    injection e with e
    exact h (List.mem_map.mpr ⟨q, hq, by show q.1 = x; omega⟩)
@[simp] theorem toKey_iD (x : Nat) : toKey (iD x) = some (.inl (x : Int)) := rfl
theorem kv_any (m : List (Nat × D)) : (((kvD m).map fun p => (kD p.1, p.2)).any fun p => (toKey p.1).isNone) = false := by
  rw [List.any_eq_false]
  intro p hp
  unfold kvD at hp
  rw [List.map_map] at hp
  obtain ⟨q, _, rfl⟩ := List.mem_map.mp hp
  simp [kD, toKey]
theorem kv_look (m : List (Nat × D)) (x : Nat) : dLook ((kvD m).map fun p => (kD p.1, p.2)) (.inl (x : Int)) = (m.find? fun p => decide (p.1 = x)).map (·.2) := by
  unfold dLook kvD
  induction m with
  | nil => rfl
  | cons p m ih =>
    rw [List.map_cons, List.map_cons, List.find?_cons, List.find?_cons]
    have e : decide (toKey (kD (Sum.inl (p.1 : Int))) = some (Sum.inl (x : Int))) = decide (p.1 = x) := by
      refine decide_eq_decide.mpr ?_
      show some (Sum.inl (p.1 : Int)) = some (Sum.inl (x : Int)) ↔ _
      constructor
      · intro h; injection h with h; injection h with h; omega
      · intro h; rw [h]
    dsimp only
    rw [e]
    by_cases h : p.1 = x
    · rw [decide_eq_true h]; rfl
    · rw [decide_eq_false h]; exact ih
theorem dInB_DD (x : Nat) (m : List (Nat × D)) : dInB (iD x) (DD m) = some (decide (x ∈ m.map (·.1))) := by
  unfold DD
  show (if _ then none else (toKey (iD x)).map fun k => (dLook _ k).isSome) = _
  rw [kv_any, if_neg (by simp), toKey_iD, Option.map_some, kv_look]
  congr 1
  rw [Option.isSome_map, Bool.eq_iff_iff]
  simp [List.find?_isSome]
@[simp] theorem bNotIn_DD (x : Nat) (m : List (Nat × D)) : bNotIn (iD x) (DD m) = some (!decide (x ∈ m.map (·.1))) := by
  unfold bNotIn; rw [dInB_DD]; rfl
theorem find_mem {m : List (Nat × D)} {x : Nat} {v : D} (hn : (m.map (·.1)).Nodup) (h : (x, v) ∈ m) : (m.find? fun p => decide (p.1 = x)) = some (x, v) := by
  induction m with
  | nil => cases h
  | cons p m ih =>
    rw [List.map_cons, List.nodup_cons] at hn
    rcases List.mem_cons.mp h with h | h
    · subst h; rw [List.find?_cons_of_pos (by simp)]
    · rw [List.find?_cons_of_neg, ih hn.2 h]
      intro e
      have e := of_decide_eq_true e
      exact hn.1 (List.mem_map.mpr ⟨_, h, e.symm⟩)
theorem dIx_DD {m : List (Nat × D)} {x : Nat} {v : D} (hn : (m.map (·.1)).Nodup) (h : (x, v) ∈ m) : dIx (DD m) (iD x) = some v := by
  unfold DD
  show (if _ then none else (toKey (iD x)).bind fun k => dLook _ k) = _
  rw [kv_any, if_neg (by simp), toKey_iD, Option.bind_some, kv_look, find_mem hn h]
  rfl
theorem len_le {xs : List Nat} {n : Nat} (hn : xs.Nodup) (h : ∀ x ∈ xs, x ≤ n) : xs.length ≤ n + 1 := by
  have := hn.length_le_of_subset (l₂ := List.range (n + 1)) (fun x hx => by have := h x hx; simp; omega)
  simpa using this
/-! ### neighbours -/
def nearL (T : Tr) (n x : Nat) : List Nat := (if 0 < x then [T.p x] else []) ++ ((List.range n).filter fun k => decide (T.p (k + 1) = x)).map (· + 1)
theorem mem_near {T : Tr} {n x y : Nat} (hx : x ≤ n) : y ∈ nearL T n x ↔ y ≤ n ∧ T.adj x y := by
  unfold nearL Tr.adj
  rw [List.mem_append, List.mem_map]
  constructor
  · rintro (h | ⟨z, hz, rfl⟩)
    · split at h
      · rename_i h0
        rw [List.mem_singleton] at h
        have := T.hp x h0
        exact ⟨by omega, .inl ⟨h0, h⟩⟩
      · cases h
    · rw [List.mem_filter, List.mem_range] at hz
      exact ⟨by omega, .inr ⟨by omega, (of_decide_eq_true hz.2).symm⟩⟩
  · rintro ⟨hy, ⟨h0, h⟩ | ⟨h0, h⟩⟩
    · left; rw [if_pos h0, h]; simp
    · right
      refine ⟨y - 1, List.mem_filter.mpr ⟨List.mem_range.mpr (by omega), decide_eq_true ?_⟩, by omega⟩
      have e : y - 1 + 1 = y := by omega
      rw [e]; exact h.symm
theorem nodup_filter {α : Type} {xs : List α} {p : α → Bool} (h : xs.Nodup) : (xs.filter p).Nodup := List.Pairwise.filter p h
theorem near_nodup (T : Tr) (n x : Nat) : (nearL T n x).Nodup := by
  unfold nearL
  rw [List.nodup_append]
  refine ⟨by split <;> simp, ?_, ?_⟩
  · refine List.Pairwise.map (R := fun a b => a ≠ b) _ (fun a b h => by omega) (nodup_filter List.nodup_range)
  · intro a ha b hb
    obtain ⟨z, hz, rfl⟩ := List.mem_map.mp hb
    rw [List.mem_filter] at hz
    have hz := of_decide_eq_true hz.2
    split at ha
    · rename_i h0
      rw [List.mem_singleton] at ha
      have h1 := T.hp x h0
      have h2 := T.hp (z + 1) (by omega)
      omega
    · cases ha
def nearB : MS :=
  (mSeq (mOwn 2 (mComp (mRange1 (mCons (mB dLen (mCons (mVar 0) mNil)) mNil)) (mGn 3) (mTst (mBin dEq (mBin dIx (mVar 0) (mVar 3)) (mVar 1))) (mBin dAdd (mVar 3) (mC (.int 1))) [3]))
    (mSeq (mIfS (mTst (mBin dGt (mVar 1) (mC (.int 0))))
    (mSet 2 (mBin dAdd (mLst (mCons (mBin dIx (mVar 0) (mBin dSub (mVar 1) (mC (.int 1)))) mNil)) (mVar 2))) mNext)
    (mRet (mVar 2))))
def nearM : MF := mFun 2 4 nearB
theorem near_ok {t : List Nat} (h : TrOk t) (hl : t.length < 8) {x : Nat} (hx : x ≤ t.length) (k : Dk) : nearM [TD t, iD x] k = .ret (LD (nearL (trOf t h) t.length x)) k := by
  have hr := dRange1_iD (n := t.length) (by omega)
  have c1 := comp_iD (mi := (mRange1 (mCons (mB dLen (mCons (mVar 0) mNil)) mNil))) (g := (mGn 3)) (tt := (mTst (mBin dEq (mBin dIx (mVar 0) (mVar 3)) (mVar 1)))) (te := (mBin dAdd (mVar 3) (mC (.int 1)))) (vs := [3]) (ps := ⟨[.fz (TD t), .fz (iD x), .no, .no], k⟩) (ps0 := ⟨[.fz (TD t), .fz (iD x), .no, .no], k⟩)
    (fun j => decide ((trOf t h).p (j + 1) = x)) (fun j => j + 1) (xs := List.range t.length) (by simp [hr]) (by simp) (by simp; omega) (fun j hj => by
      have e := dIx_TD (trOf_at h (x := j + 1) (by omega) (by rw [List.mem_range] at hj; omega))
      have e : dIx (TD t) (iD j) = some (iD ((trOf t h).p (j + 1))) := e
      simp [e])
  unfold nearM mFun nearB nearL
  by_cases h0 : 0 < x
  · have e := dIx_TD (trOf_at h h0 hx)
    have e2 := dSub_iD1 (x := x) h0
    have hsz : 1 ≤ sizeLine := sz_le (by omega)
    have e3 : (PyData.list [iD ((trOf t h).p x)]) = LD [(trOf t h).p x] := rfl
    have e4 : dAdd (LD [(trOf t h).p x]) (LD (((List.range t.length).filter fun j => decide ((trOf t h).p (j + 1) = x)).map (· + 1))) = some (LD ([(trOf t h).p x] ++ (((List.range t.length).filter fun j => decide ((trOf t h).p (j + 1) = x)).map (· + 1)))) := dAdd_LD (by
      have := List.length_filter_le (fun j => decide ((trOf t h).p (j + 1) = x)) (List.range t.length)
      rw [List.length_range] at this
      simp only [List.length_map, List.length_cons, List.length_nil]
      omega)
    simp [sl0, List.replicate, c1, dGt_iD0, h0, e, e2, hsz, e3, e4]
  · simp [sl0, List.replicate, c1, dGt_iD0, h0]
end PP
namespace PP
open PySem MM L2
/-! ### branches, level by level -/
structure Bfs (T : Tr) (n one : Nat) (cm : List (Nat × D)) (here : List Nat) (c : Nat) : Prop where
  keys : (cm.map (·.1)).Nodup
  mem : ∀ x v, (x, v) ∈ cm ↔ x ≤ n ∧ T.d x one ≤ c ∧ v = iD (T.d x one)
  hn : here.Nodup
  hm : ∀ x, x ∈ here ↔ x ≤ n ∧ T.d x one = c
theorem Bfs.key {T : Tr} {n one : Nat} {cm : List (Nat × D)} {here : List Nat} {c : Nat} (b : Bfs T n one cm here c) (x : Nat) : x ∈ cm.map (·.1) ↔ x ≤ n ∧ T.d x one ≤ c := by
  rw [List.mem_map]
  constructor
  · rintro ⟨⟨y, v⟩, h, rfl⟩
    have := (b.mem y v).mp h
    exact ⟨this.1, this.2.1⟩
  · rintro ⟨h1, h2⟩
    exact ⟨(x, iD (T.d x one)), (b.mem _ _).mpr ⟨h1, h2, rfl⟩, rfl⟩
theorem Bfs.len {T : Tr} {n one : Nat} {cm : List (Nat × D)} {here : List Nat} {c : Nat} (b : Bfs T n one cm here c) : cm.length ≤ n + 1 := by
  have := len_le (n := n) b.keys (fun x hx => ((b.key x).mp hx).1)
  simpa using this
theorem Bfs.first {T : Tr} {n one : Nat} (h : one ≤ n) : Bfs T n one [(one, iD 0)] [one] 0 := by
  refine ⟨by simp, fun x v => ?_, by simp, fun x => ?_⟩
  · rw [List.mem_singleton]
    constructor
    · intro e; injection e with e1 e2; subst e1; subst e2; exact ⟨h, by rw [Tr.d_self]; omega, by rw [Tr.d_self]⟩
    · rintro ⟨h1, h2, h3⟩
      have := Tr.d_zero (T := T) (a := x) (b := one) (by omega)
      subst this
      rw [h3, Tr.d_self]
  · rw [List.mem_singleton]
    constructor
    · rintro rfl; exact ⟨h, Tr.d_self _⟩
    · rintro ⟨_, h2⟩; exact Tr.d_zero h2
theorem Bfs.next {T : Tr} {n one : Nat} {cm : List (Nat × D)} {here more : List Nat} {c : Nat} (b : Bfs T n one cm here c) (hn : more.Nodup) (hm : ∀ x, x ∈ more ↔ x ≤ n ∧ T.d x one = c + 1) :
    Bfs T n one (cm ++ more.map fun x => (x, iD (c + 1))) more (c + 1) := by
  refine ⟨?_, fun x v => ?_, hn, hm⟩
  · rw [List.map_append, List.nodup_append]
    refine ⟨b.keys, ?_, ?_⟩
    · rw [List.map_map]
      show (more.map fun x => x).Nodup
      rw [List.map_id']; exact hn
    · intro x hx y hy e
      subst e
      rw [List.map_map] at hy
      have hy : x ∈ more.map fun x => x := hy
      rw [List.map_id'] at hy
      have := (b.key x).mp hx
      have := (hm x).mp hy
      omega
  · rw [List.mem_append, b.mem, List.mem_map]
    constructor
    · rintro (⟨h1, h2, h3⟩ | ⟨y, hy, e⟩)
      · exact ⟨h1, by omega, h3⟩
      · injection e with e1 e2
        subst e1; subst e2
        have := (hm y).mp hy
        exact ⟨this.1, by omega, by rw [this.2]⟩
    · rintro ⟨h1, h2, h3⟩
      by_cases hc : T.d x one ≤ c
      · exact .inl ⟨h1, hc, h3⟩
      · right
        have hd : T.d x one = c + 1 := by omega
        exact ⟨x, (hm x).mpr ⟨h1, hd⟩, by rw [h3, hd]⟩
theorem Bfs.all {T : Tr} {n one : Nat} {cm : List (Nat × D)} {c : Nat} (b : Bfs T n one cm [] c) (h1 : one ≤ n) {x : Nat} (hx : x ≤ n) : (x, iD (T.d x one)) ∈ cm := by
  refine (b.mem _ _).mpr ⟨hx, ?_, rfl⟩
  by_cases hc : T.d x one ≤ c
  · exact hc
  · obtain ⟨y, hy, e⟩ := Tr.at_d (T := T) (c := c) h1 hx (by omega)
    have := (b.hm y).mpr ⟨hy, e⟩
    cases this
structure OffOk (T : Tr) (n one : Nat) (cm : List (Nat × D)) : Prop where
  keys : (cm.map (·.1)).Nodup
  at_ : ∀ x, x ≤ n → (x, iD (T.d x one)) ∈ cm
def offA : MS := (mSet 5 (mBin dAdd (mVar 5) (mFz (mComp (mIter (mCall nearM (mCons (mVar 0) (mCons (mVar 6) mNil)))) (mGn 7) (mTst (mBR bNotIn (mVar 7) 2)) (mVar 7) [7]))))
def offBd : MS := (mPut 2 (mVar 7) (mVar 4))
def offB : MS :=
  (mSeq (mParDEE 2 3 4 (mDict [((mVar 1), (mC (.int 0)))]) (mLst (mCons (mVar 1) mNil)) (mC (.int 0)))
    (mSeq (mWhile (mTst (mBin dNe (mVar 3) (mLst mNil)))
    (mSeq (mPar 5 4 (mCons (mLst mNil) (mCons (mBin dAdd (mVar 4) (mC (.int 1))) mNil)))
    (mSeq (mFor (mIter (mVar 3)) (mGn 6) offA)
    (mSeq (mFor (mIter (mVar 5)) (mGn 7) offBd)
    (mSet 3 (mVar 5))))) 64)
    (mRet (mVar 2))))
def offM : MF := mFun 2 8 offB
section
variable {t : List Nat} (h : TrOk t) (hl : t.length < 8) {one : Nat} (h1 : one ≤ t.length) {k : Dk}
include hl h1
theorem offA_ok {cm : List (Nat × D)} {here : List Nat} {c : Nat} (b : Bfs (trOf t h) t.length one cm here c) (s6 s7 : Sl) :
    ∃ more s6' s7', more.Nodup ∧ (∀ y, y ∈ more ↔ y ≤ t.length ∧ (trOf t h).d y one = c + 1) ∧ mLoop (mGn 6) offA (iDs here) ⟨[.fz (TD t), .fz (iD one), .md (kvD cm), .fz (LD here), .fz (iD (c + 1)), .fz (LD []), s6, s7], k⟩ = .next ⟨[.fz (TD t), .fz (iD one), .md (kvD cm), .fz (LD here), .fz (iD (c + 1)), .fz (LD more), s6', s7'], k⟩ := by
  obtain ⟨ps', e, more, s6, s7, rfl, m1, m2⟩ := loop_nat (g := mGn 6) (body := offA) (xs := here) (ps := ⟨[.fz (TD t), .fz (iD one), .md (kvD cm), .fz (LD here), .fz (iD (c + 1)), .fz (LD []), s6, s7], k⟩)
    (fun done ps => ∃ more s6 s7, ps = ⟨[.fz (TD t), .fz (iD one), .md (kvD cm), .fz (LD here), .fz (iD (c + 1)), .fz (LD more), s6, s7], k⟩ ∧ more.Nodup ∧ ∀ y, y ∈ more ↔ y ≤ t.length ∧ (trOf t h).d y one = c + 1 ∧ (trOf t h).nx y one ∈ done)
    ⟨[], s6, s7, rfl, by simp, fun y => by simp⟩ (by
      rintro done x rest ps hx ⟨more, s6, s7, rfl, m1, m2⟩
      have hxh : x ∈ here := by rw [hx]; simp
      obtain ⟨x1, x2⟩ := (b.hm x).mp hxh
      have hxd : x ∉ done := fun z => by
        have := b.hn
        rw [hx, List.nodup_append] at this
        exact this.2.2 x z x (by simp) rfl
      have hk := b.key
      generalize hks : cm.map (·.1) = ks at hk
      have hnew : ∀ y, y ∈ ((nearL (trOf t h) t.length x).filter fun y => !decide (y ∈ ks)) ↔ y ≤ t.length ∧ (trOf t h).d y one = c + 1 ∧ (trOf t h).nx y one = x := by
        intro y
        rw [List.mem_filter, mem_near x1]
        constructor
        · rintro ⟨⟨y1, y2⟩, y3⟩
          have y3 : ¬ y ∈ ks := by simpa using y3
          have y4 : ¬ (trOf t h).d y one ≤ c := fun z => y3 ((hk y).mpr ⟨y1, z⟩)
          rcases Tr.adj_nx (b := one) y2 with ⟨z1, z2⟩ | ⟨z1, z2⟩
          · have := Tr.d_nx (T := trOf t h) z1
            rw [z2] at this; omega
          · have := Tr.d_nx (T := trOf t h) z1
            rw [z2] at this
            exact ⟨y1, by omega, z2⟩
        · rintro ⟨y1, y2, y3⟩
          have yo : y ≠ one := fun z => by rw [z, Tr.d_self] at y2; omega
          refine ⟨⟨y1, ?_⟩, ?_⟩
          · have := Tr.nx_adj (T := trOf t h) yo
            rw [y3] at this; exact this.symm
          · have : ¬ y ∈ ks := fun z => by have := ((hk y).mp z).2; omega
            simpa using this
      have hnn : ((nearL (trOf t h) t.length x).filter fun y => !decide (y ∈ ks)).Nodup := nodup_filter (near_nodup _ _ _)
      generalize hN : ((nearL (trOf t h) t.length x).filter fun y => !decide (y ∈ ks)) = new at *
      have m1' : (more ++ new).Nodup := by
        rw [List.nodup_append]
        refine ⟨m1, hnn, fun y hy z hz e => ?_⟩
        subst e
        have z1 := (m2 y).mp hy
        have z2 := (hnew y).mp hz
        rw [z2.2.2] at z1
        exact hxd z1.2.2
      have hlm : (more ++ new).length ≤ t.length + 1 := len_le m1' (fun y hy => by
        rcases List.mem_append.mp hy with hy | hy
        · exact ((m2 y).mp hy).1
        · exact ((hnew y).mp hy).1)
      have hadd : dAdd (LD more) (LD new) = some (LD (more ++ new)) := dAdd_LD (by rw [List.length_append] at hlm; omega)
      have hnear := near_ok h hl x1 k
      have hln : (nearL (trOf t h) t.length x).length ≤ 16777216 := by
        have := len_le (near_nodup (trOf t h) t.length x) (fun y hy => ((mem_near x1).mp hy).1)
        omega
      have c1 := comp_iD (mi := (mIter (mCall nearM (mCons (mVar 0) (mCons (mVar 6) mNil))))) (g := (mGn 7)) (tt := (mTst (mBR bNotIn (mVar 7) 2))) (te := (mVar 7)) (vs := [7])
        (ps := ⟨[.fz (TD t), .fz (iD one), .md (kvD cm), .fz (LD here), .fz (iD (c + 1)), .fz (LD more), .fz (iD x), s7], k⟩) (ps0 := ⟨[.fz (TD t), .fz (iD one), .md (kvD cm), .fz (LD here), .fz (iD (c + 1)), .fz (LD more), .fz (iD x), .no], k⟩)
        (fun y => !decide (y ∈ ks)) (fun y => y) (xs := nearL (trOf t h) t.length x) (by simp [hnear]) (by simp) hln (fun y hy => by simp [hks])
      rw [List.map_id', hN] at c1
      refine ⟨⟨[.fz (TD t), .fz (iD one), .md (kvD cm), .fz (LD here), .fz (iD (c + 1)), .fz (LD more), .fz (iD x), s7], k⟩, ⟨[.fz (TD t), .fz (iD one), .md (kvD cm), .fz (LD here), .fz (iD (c + 1)), .fz (LD (more ++ new)), .fz (iD x), .no], k⟩, rfl, .inl ?_, more ++ new, _, _, rfl, m1', fun y => ?_⟩
      · unfold offA
        simp [c1, hadd]
      · rw [List.mem_append, m2, hnew, List.mem_append, List.mem_singleton]
        constructor
        · rintro (⟨a1, a2, a3⟩ | ⟨a1, a2, a3⟩)
          · exact ⟨a1, a2, .inl a3⟩
          · exact ⟨a1, a2, .inr a3⟩
        · rintro ⟨a1, a2, a3 | a3⟩
          · exact .inl ⟨a1, a2, a3⟩
          · exact .inr ⟨a1, a2, a3⟩)
  refine ⟨more, s6, s7, m1, fun y => ?_, e⟩
  rw [m2]
  constructor
  · rintro ⟨a1, a2, _⟩; exact ⟨a1, a2⟩
  · rintro ⟨a1, a2⟩
    have yo : y ≠ one := fun z => by rw [z, Tr.d_self] at a2; omega
    exact ⟨a1, a2, (b.hm _).mpr ⟨Tr.nx_le yo a1 h1, by have := Tr.d_nx (T := trOf t h) yo; omega⟩⟩
theorem offBd_ok {cm : List (Nat × D)} {here more : List Nat} {c : Nat} (b : Bfs (trOf t h) t.length one cm here c) (hn : more.Nodup) (hm : ∀ x, x ∈ more ↔ x ≤ t.length ∧ (trOf t h).d x one = c + 1) (s6 s7 : Sl) :
    ∃ s7', mLoop (mGn 7) offBd (iDs more) ⟨[.fz (TD t), .fz (iD one), .md (kvD cm), .fz (LD here), .fz (iD (c + 1)), .fz (LD more), s6, s7], k⟩ = .next ⟨[.fz (TD t), .fz (iD one), .md (kvD (cm ++ more.map fun x => (x, iD (c + 1)))), .fz (LD here), .fz (iD (c + 1)), .fz (LD more), s6, s7'], k⟩ := by
  have hlm : more.length ≤ t.length + 1 := len_le hn fun x hx => ((hm x).mp hx).1
  have hlc := b.len
  obtain ⟨ps', e, s7, rfl⟩ := loop_nat (g := mGn 7) (body := offBd) (xs := more) (ps := ⟨[.fz (TD t), .fz (iD one), .md (kvD cm), .fz (LD here), .fz (iD (c + 1)), .fz (LD more), s6, s7], k⟩)
    (fun done ps => ∃ s7, ps = ⟨[.fz (TD t), .fz (iD one), .md (kvD (cm ++ done.map fun x => (x, iD (c + 1)))), .fz (LD here), .fz (iD (c + 1)), .fz (LD more), s6, s7], k⟩)
    ⟨s7, by simp⟩ (by
      rintro done x rest ps hx ⟨s7, rfl⟩
      have hxm : x ∈ more := by rw [hx]; simp
      have hxd : x ∉ done := fun z => by
        have := hn
        rw [hx, List.nodup_append] at this
        exact this.2.2 x z x (by simp) rfl
      have hf : x ∉ (cm ++ done.map fun x => (x, iD (c + 1))).map (·.1) := by
        rw [List.map_append, List.mem_append, List.map_map]
        rintro (z | z)
        · have := (b.key x).mp z; have := (hm x).mp hxm; omega
        · have z : x ∈ done.map fun x => x := z
          rw [List.map_id'] at z; exact hxd z
      have hp := kvD_put (v := iD (c + 1)) hf
      have hsz : (cm ++ done.map fun x => (x, iD (c + 1))).length < sizeLine := sz_lt (by
        have := congrArg List.length hx
        simp at this ⊢
        omega)
      refine ⟨⟨[.fz (TD t), .fz (iD one), .md (kvD (cm ++ done.map fun x => (x, iD (c + 1)))), .fz (LD here), .fz (iD (c + 1)), .fz (LD more), s6, .fz (iD x)], k⟩, ⟨[.fz (TD t), .fz (iD one), .md (kvD ((cm ++ done.map fun x => (x, iD (c + 1))) ++ [(x, iD (c + 1))])), .fz (LD here), .fz (iD (c + 1)), .fz (LD more), s6, .fz (iD x)], k⟩, rfl, .inl ?_, .fz (iD x), ?_⟩
      · unfold offBd
        generalize (cm ++ done.map fun x => (x, iD (c + 1))) = Z at *
        simp [hp, hsz]
      · rw [List.append_assoc, List.map_append]; rfl)
  exact ⟨s7, e⟩
theorem off_ok (k : Dk) : ∃ cm, OffOk (trOf t h) t.length one cm ∧ offM [TD t, iD one] k = .ret (DD cm) k := by
  obtain ⟨ps', e, cm, s3, s4, s5, s6, s7, rfl, ok⟩ := while_inv (t := (mTst (mBin dNe (mVar 3) (mLst mNil)))) (body := (mSeq (mPar 5 4 (mCons (mLst mNil) (mCons (mBin dAdd (mVar 4) (mC (.int 1))) mNil)))
    (mSeq (mFor (mIter (mVar 3)) (mGn 6) offA)
    (mSeq (mFor (mIter (mVar 5)) (mGn 7) offBd)
    (mSet 3 (mVar 5)))))) (n := t.length + 1) (ps := ⟨[.fz (TD t), .fz (iD one), .md (kvD [(one, .int 0)]), .fz (LD [one]), .fz (.int 0), .no, .no, .no], k⟩) (fuel := 64)
    (fun m ps => ∃ cm here c s5 s6 s7, ps = ⟨[.fz (TD t), .fz (iD one), .md (kvD cm), .fz (LD here), .fz (iD c), s5, s6, s7], k⟩ ∧ Bfs (trOf t h) t.length one cm here c ∧ m = (t.length + 1 - cm.length) + (if here = [] then 0 else 1))
    (fun ps => ∃ cm s3 s4 s5 s6 s7, ps = ⟨[.fz (TD t), .fz (iD one), .md (kvD cm), s3, s4, s5, s6, s7], k⟩ ∧ OffOk (trOf t h) t.length one cm)
    ⟨[(one, iD 0)], [one], 0, .no, .no, .no, rfl, .first h1, by simp⟩ (by
      rintro m ps ⟨cm, here, c, s5, s6, s7, rfl, b, rfl⟩
      have he : (PyData.list []) = LD [] := rfl
      by_cases hh : here = []
      · left
        subst hh
        refine ⟨⟨[.fz (TD t), .fz (iD one), .md (kvD cm), .fz (LD []), .fz (iD c), s5, s6, s7], k⟩, ?_, cm, _, _, _, _, _, rfl, b.keys, fun x hx => b.all h1 hx⟩
        simp [he]
      · right
        obtain ⟨more, s6a, s7a, m1, m2, e1⟩ := offA_ok h hl h1 (k := k) b s6 s7
        obtain ⟨s7b, e2⟩ := offBd_ok h hl h1 (k := k) b m1 m2 s6a s7a
        have b2 := b.next m1 m2
        have l1 := b.len
        have l2 := b2.len
        simp only [List.length_append, List.length_map] at l2
        refine ⟨_, ⟨[.fz (TD t), .fz (iD one), .md (kvD cm), .fz (LD here), .fz (iD c), s5, s6, s7], k⟩, ⟨[.fz (TD t), .fz (iD one), .md (kvD (cm ++ more.map fun x => (x, iD (c + 1)))), .fz (LD more), .fz (iD (c + 1)), .fz (LD more), s6a, s7b], k⟩, ?_, ?_, .inl ?_, _, more, c + 1, _, _, _, rfl, b2, rfl⟩
        · rw [if_neg hh]
          simp only [List.length_append, List.length_map]
          by_cases hm : more = []
          · rw [if_pos hm, hm]; simp
          · rw [if_neg hm]
            have : 0 < more.length := List.length_pos_iff.mpr hm
            omega
        · simp [he, hh]
        · simp [he, e1, e2]) (by omega)
  refine ⟨cm, ok, ?_⟩
  have hd : mergeD [(Sum.inl ((one : Nat) : Int), PyData.int 0)] = kvD [(one, .int 0)] := rfl
  have hl1 : (PyData.list [iD one]) = LD [one] := rfl
  have hsz : 1 ≤ sizeLine := sz_le (by omega)
  unfold offM mFun offB
  simp [sl0, List.replicate, toKeys, hd, hl1, hsz, e]
end
end PP
namespace PP
open PySem MM L2
/-! ### what is alike -/
@[simp] theorem isTup_iD (x : Nat) : isTup (iD x) = false := rfl
@[simp] theorem isTup_TD (x : List Nat) : isTup (TD x) = true := rfl
@[simp] theorem isDeck_iD (x : Nat) : isDeck (iD x) = false := rfl
@[simp] theorem isDeck_TD (x : List Nat) : isDeck (TD x) = false := rfl
@[simp] theorem isBool_iD (x : Nat) : isBool (iD x) = false := rfl
@[simp] theorem isIntB_iD (x : Nat) : isIntB (iD x) = true := rfl
@[simp] theorem dIsN_iD (x : Nat) : dIsN (iD x) .none = some (.bool false) := rfl
@[simp] theorem dNotN_iD (x : Nat) : dNotN (iD x) .none = some (.bool true) := rfl
@[simp] theorem dIsN_TD (x : List Nat) : dIsN (TD x) .none = some (.bool false) := rfl
/-- a comprehension over anything, the state as it was -/
theorem cl_gen {α : Type} (e : α → D) {g : MG} {tt : MT} {te : ME} {vs : List Nat} {ps : Ps} (p : α → Bool) (f : α → D) : ∀ (xs : List α) (acc : List D), acc.length + xs.length ≤ 16777216 →
    (∀ x ∈ xs, ∃ ps1 ps2, g (e x) ps = some ps1 ∧ tt ps1 = .ok (p x) ps2 ∧ (p x = false → wipeP ps2 vs = ps) ∧ (p x = true → ∃ ps3, te ps2 = .ok (f x) ps3 ∧ wipeP ps3 vs = ps)) →
    mCl g tt te vs (xs.map e) acc ps = .ok (acc ++ (xs.filter p).map f) ps
  | [], acc, _, _ => by simp [mCl]
  | x :: xs, acc, hl, h => by
    obtain ⟨ps1, ps2, e1, e2, h1, h2⟩ := h x (by simp)
    rw [List.length_cons] at hl
    rw [List.map_cons]
    unfold mCl
    rw [e1]
    simp only [e2]
    cases hp : p x with
    | true =>
      obtain ⟨ps3, e3, e4⟩ := h2 hp
      simp only [if_true, e3]
      rw [if_pos (by show acc.length < 2 ^ 24; omega), e4, cl_gen e p f xs (acc ++ [f x]) (by simp; omega) (fun y hy => h y (by simp [hy]))]
      simp [hp]
    | false =>
      simp only [Bool.false_eq_true, if_false]
      rw [h1 hp, cl_gen e p f xs acc (by omega) (fun y hy => h y (by simp [hy]))]
      simp [hp]
theorem comp_gen {α : Type} (e : α → D) {mi : MA} {g : MG} {tt : MT} {te : ME} {vs : List Nat} {ps ps0 : Ps} (p : α → Bool) (f : α → D) {xs : List α} (hi : ((mi ps).bind fun ds q => .ok ds (wipeP q vs)) = .ok (xs.map e) ps0) (hw : wipeP ps0 vs = ps0) (hl : xs.length ≤ 16777216)
    (h : ∀ x ∈ xs, ∃ ps1 ps2, g (e x) ps0 = some ps1 ∧ tt ps1 = .ok (p x) ps2 ∧ (p x = false → wipeP ps2 vs = ps0) ∧ (p x = true → ∃ ps3, te ps2 = .ok (f x) ps3 ∧ wipeP ps3 vs = ps0)) :
    mComp mi g tt te vs ps = .ok ((xs.filter p).map f) ps0 := by
  unfold mComp
  cases e0 : mi ps with
  | ok ds q =>
    rw [e0] at hi
    injection hi with e1 e2
    subst e1
    simp only [Out.bind_ok]
    rw [e2, cl_gen e p f xs [] (by simpa using hl) h]
    simp only [Out.bind_ok, hw, List.nil_append]
  | exc x q => rw [e0] at hi; cases hi
  | bad => rw [e0] at hi; cases hi
def sameB (rec : MF) : MS :=
  (mSeq (mIfS (mTst (mIsi isTup (mVar 1)))
    (mSeq (mIfS (mOr (mNot (mTst (mIsi isTup (mVar 0)))) (mTst (mBin dNe (mB dLen (mCons (mVar 0) mNil)) (mB dLen (mCons (mVar 1) mNil)))))
    (mRet (mC (.bool false))) mNext)
    (mRet (mB dAll (mCons (mFz (mComp (mZip (mCons (mVar 0) (mCons (mVar 1) mNil))) (mGp 2 3) mYes (mCall rec (mCons (mVar 2) (mCons (mVar 3) mNil))) [2, 3])) mNil)))) mNext)
    (mSeq (mIfS (mTst (mBin dIsN (mVar 1) (mC .none)))
    (mRet (mBin dIsN (mVar 0) (mC .none))) mNext)
    (mSeq (mIfS (mOr (mTst (mIsi isBool (mVar 1))) (mTst (mIsi isBool (mVar 0))))
    (mRet (mAndV (mIsi isBool (mVar 1)) (mAndV (mIsi isBool (mVar 0)) (mBin dEq (mVar 0) (mVar 1))))) mNext)
    (mRet (mAndV (mIsi isIntB (mVar 0)) (mBin dEq (mVar 0) (mVar 1)))))))
def sameM : Nat → MF
  | 0 => fun _ _ => .bad
  | n + 1 => mFun 2 4 (sameB (sameM n))
theorem same_int (n a b : Nat) (k : Dk) : sameM (n + 1) [iD a, iD b] k = .ret (.bool (decide (a = b))) k := by
  show mFun 2 4 (sameB (sameM n)) _ _ = _
  unfold mFun sameB
  simp [sl0, List.replicate]
theorem dAll_true (n : Nat) : dAll [.list (List.replicate n (.bool true))] = some (.bool true) := by
  have : blsOf (List.replicate n (.bool true)) = some (List.replicate n true) := by
    induction n with
    | zero => rfl
    | succ n ih => rw [List.replicate_succ, List.replicate_succ]; simp [blsOf, ih]
  simp [dAll, this]
theorem same_tup (n : Nat) (xs : List Nat) (hl : xs.length ≤ 16777216) (k : Dk) : sameM (n + 2) [TD xs, TD xs] k = .ret (.bool true) k := by
  show mFun 2 4 (sameB (sameM (n + 1))) _ _ = _
  have hz : dZip [TD xs, TD xs] = some (xs.map fun x => PyData.tuple [iD x, iD x]) := by
    show some (zipD (iDs xs) (iDs xs)) = _
    unfold zipD iDs
    rw [List.zip_map, List.map_map]
    congr 1
    induction xs with
    | nil => rfl
    | cons x xs ih => rw [List.zip_cons_cons, List.map_cons, List.map_cons, ih (by simp at hl; omega)]; rfl
  have c1 := comp_gen (fun x => PyData.tuple [iD x, iD x]) (mi := (mZip (mCons (mVar 0) (mCons (mVar 1) mNil)))) (g := (mGp 2 3)) (tt := mYes) (te := (mCall (sameM (n + 1)) (mCons (mVar 2) (mCons (mVar 3) mNil)))) (vs := [2, 3]) (ps := ⟨[.fz (TD xs), .fz (TD xs), .no, .no], k⟩) (ps0 := ⟨[.fz (TD xs), .fz (TD xs), .no, .no], k⟩)
    (fun _ => true) (fun _ => .bool true) (xs := xs) (by simp [hz]) (by simp) hl (fun x hx => by simp [same_int])
  have e1 : (List.filter (fun _ => true) xs).map (fun _ => PyData.bool true) = List.replicate xs.length (.bool true) := by
    rw [List.filter_eq_self.mpr (by simp)]
    clear c1 hz hl
    induction xs with
    | nil => rfl
    | cons x xs ih => simp [List.replicate_succ, ih]
  rw [e1] at c1
  have ha := dAll_true xs.length
  unfold mFun sameB
  simp [sl0, List.replicate, c1, ha]
/-! ### all counts -/
def offsB : MS :=
  (mRet (mFz (mComp (mRange1 (mCons (mBin dAdd (mB dLen (mCons (mVar 0) mNil)) (mC (.int 1))) mNil)) (mGn 1) mYes (mCall offM (mCons (mVar 0) (mCons (mVar 1) mNil))) [1])))
def offsM : MF := mFun 1 2 offsB
theorem offs_ok {t : List Nat} (h : TrOk t) (hl : t.length < 8) (k : Dk) : ∃ F : Nat → List (Nat × D), (∀ x, x ≤ t.length → OffOk (trOf t h) t.length x (F x)) ∧ offsM [TD t] k = .ret (.list ((List.range (t.length + 1)).map fun x => DD (F x))) k := by
  have hF : ∀ x, ∃ cm, x ≤ t.length → OffOk (trOf t h) t.length x cm ∧ offM [TD t, iD x] k = .ret (DD cm) k := fun x => by
    by_cases hx : x ≤ t.length
    · obtain ⟨cm, a, b⟩ := off_ok h hl hx k
      exact ⟨cm, fun _ => ⟨a, b⟩⟩
    · exact ⟨[], fun z => absurd z hx⟩
  obtain ⟨F, hF⟩ := Classical.skolem.mp hF
  refine ⟨F, fun x hx => (hF x hx).1, ?_⟩
  have hr := dRange1_iD (n := t.length + 1) (by omega)
  have c1 := comp_nat (mi := (mRange1 (mCons (mBin dAdd (mB dLen (mCons (mVar 0) mNil)) (mC (.int 1))) mNil))) (g := (mGn 1)) (tt := mYes) (te := (mCall offM (mCons (mVar 0) (mCons (mVar 1) mNil)))) (vs := [1]) (ps := ⟨[.fz (TD t), .no], k⟩) (ps0 := ⟨[.fz (TD t), .no], k⟩)
    (fun _ => true) (fun x => DD (F x)) (xs := List.range (t.length + 1)) (by simp [hr]) (by simp) (by simp; omega) (fun x hx => by
      have e := (hF x (by rw [List.mem_range] at hx; omega)).2
      simp [e])
  rw [List.filter_eq_self.mpr (by simp)] at c1
  unfold offsM mFun offsB
  simp [sl0, List.replicate, c1]
theorem offs_at {t : List Nat} {h : TrOk t} {F : Nat → List (Nat × D)} (hF : ∀ x, x ≤ t.length → OffOk (trOf t h) t.length x (F x)) {p q : Nat} (hp : p ≤ t.length) (hq : q ≤ t.length) :
    dIx (.list ((List.range (t.length + 1)).map fun x => DD (F x))) (iD p) = some (DD (F p)) ∧ dIx (DD (F p)) (iD q) = some (iD ((trOf t h).d q p)) := by
  refine ⟨dIx_list ?_, dIx_DD (hF p hp).keys ((hF p hp).at_ q hq)⟩
  rw [List.getElem?_map, List.getElem?_range (by omega)]; rfl
end PP
namespace PP
open PySem MM L2
/-- a comprehension over numbers whose elements change the state -/
theorem comp_inv {mi : MA} {g : MG} {te : ME} {vs : List Nat} {ps ps0 : Ps} {xs : List Nat} (P : List Nat → List D → Ps → Prop) (hi : ((mi ps).bind fun ds q => .ok ds (wipeP q vs)) = .ok (iDs xs) ps0) (hl : xs.length ≤ 16777216) (h0 : P [] [] ps0)
    (h : ∀ done x rest acc ps, xs = done ++ x :: rest → acc.length = done.length → P done acc ps → ∃ ps1 ps3 y, g (iD x) ps = some ps1 ∧ te ps1 = .ok y ps3 ∧ P (done ++ [x]) (acc ++ [y]) (wipeP ps3 vs)) :
    ∃ ys ps', mComp mi g mYes te vs ps = .ok ys (wipeP ps' vs) ∧ P xs ys ps' ∧ ys.length = xs.length := by
  have key : ∀ (rest done : List Nat) (acc : List D) (ps : Ps), xs = done ++ rest → acc.length = done.length → P done acc ps → ∃ ys ps', mCl g mYes te vs (iDs rest) acc ps = .ok ys ps' ∧ P xs ys ps' ∧ ys.length = xs.length := by
    intro rest
    induction rest with
    | nil => intro done acc ps e hlen p; rw [List.append_nil] at e; subst e; exact ⟨acc, ps, by simp [mCl, iDs], p, hlen⟩
    | cons x rest ih =>
      intro done acc ps e hlen p
      obtain ⟨ps1, ps3, y, e1, e2, p2⟩ := h done x rest acc ps e hlen p
      obtain ⟨ys, ps', e3, p3⟩ := ih (done ++ [x]) (acc ++ [y]) _ (by rw [e, List.append_assoc]; rfl) (by simp [hlen]) p2
      refine ⟨ys, ps', ?_, p3⟩
      show mCl g mYes te vs (iD x :: iDs rest) acc ps = _
      have hz : acc.length < sizeLine := by
        have := congrArg List.length e
        rw [List.length_append, List.length_cons] at this
        show acc.length < 16777216
        omega
      unfold mCl
      simp only [e1, e_yes, if_true, e2, if_pos hz]
      exact e3
  obtain ⟨ys, ps', e, p, hlen⟩ := key xs [] [] ps0 rfl rfl h0
  refine ⟨ys, ps', ?_, p, hlen⟩
  unfold mComp
  cases e0 : mi ps with
  | ok ds q =>
    rw [e0] at hi
    injection hi with e1 e2
    subst e1
    simp only [Out.bind_ok]
    rw [e2, e]; rfl
  | exc x q => rw [e0] at hi; cases hi
  | bad => rw [e0] at hi; cases hi
/-- a comprehension over anything, whose test and elements may change the state -/
theorem comp_inv2 {mi : MA} {g : MG} {tt : MT} {te : ME} {vs : List Nat} {ps ps0 : Ps} {xs : List D} (P : List D → List D → Ps → Prop) (hi : ((mi ps).bind fun ds q => .ok ds (wipeP q vs)) = .ok xs ps0) (hl : xs.length ≤ 16777216) (h0 : P [] [] ps0)
    (h : ∀ done x rest acc ps, xs = done ++ x :: rest → acc.length ≤ done.length → P done acc ps → ∃ ps1 b ps2, g x ps = some ps1 ∧ tt ps1 = .ok b ps2 ∧ (b = false → P (done ++ [x]) acc (wipeP ps2 vs)) ∧ (b = true → ∃ y ps3, te ps2 = .ok y ps3 ∧ P (done ++ [x]) (acc ++ [y]) (wipeP ps3 vs))) :
    ∃ ys ps', mComp mi g tt te vs ps = .ok ys (wipeP ps' vs) ∧ P xs ys ps' ∧ ys.length ≤ xs.length := by
  have key : ∀ (rest done : List D) (acc : List D) (ps : Ps), xs = done ++ rest → acc.length ≤ done.length → P done acc ps → ∃ ys ps', mCl g tt te vs rest acc ps = .ok ys ps' ∧ P xs ys ps' ∧ ys.length ≤ xs.length := by
    intro rest
    induction rest with
    | nil => intro done acc ps e hlen p; rw [List.append_nil] at e; subst e; exact ⟨acc, ps, by simp [mCl], p, hlen⟩
    | cons x rest ih =>
      intro done acc ps e hlen p
      obtain ⟨ps1, b, ps2, e1, e2, hf, ht⟩ := h done x rest acc ps e hlen p
      have e' : xs = (done ++ [x]) ++ rest := by rw [e, List.append_assoc]; rfl
      unfold mCl
      rw [e1]
      simp only [e2]
      cases b with
      | false =>
        obtain ⟨ys, ps', e3, p3⟩ := ih (done ++ [x]) acc _ e' (by simp; omega) (hf rfl)
        exact ⟨ys, ps', by simpa using e3, p3⟩
      | true =>
        obtain ⟨y, ps3, e4, p4⟩ := ht rfl
        obtain ⟨ys, ps', e3, p3⟩ := ih (done ++ [x]) (acc ++ [y]) _ e' (by simp; omega) p4
        have hz : acc.length < sizeLine := by
          have := congrArg List.length e
          rw [List.length_append, List.length_cons] at this
          show acc.length < 16777216
          omega
        refine ⟨ys, ps', ?_, p3⟩
        simp only [if_true, e4, if_pos hz]
        exact e3
  obtain ⟨ys, ps', e, p, hlen⟩ := key xs [] [] ps0 rfl (Nat.le_refl _) h0
  refine ⟨ys, ps', ?_, p, hlen⟩
  unfold mComp
  cases e0 : mi ps with
  | ok ds q =>
    rw [e0] at hi
    injection hi with e1 e2
    subst e1
    simp only [Out.bind_ok]
    rw [e2, e]; rfl
  | exc x q => rw [e0] at hi; cases hi
  | bad => rw [e0] at hi; cases hi
/-- a list of whole numbers from range -/
theorem rg_n {n : Nat} (h : n ≤ 1000) : dRg [.int (n : Int)] = some (iDs (List.range n)) := by
  show rgD 0 (n : Int) = _
  unfold rgD
  rw [if_pos (by
    rw [Bool.and_eq_true, Bool.and_eq_true]
    exact ⟨⟨decide_eq_true (by simp), decide_eq_true (by omega)⟩, decide_eq_true (by omega)⟩)]
  rw [Int.sub_zero, Int.toNat_natCast, rangeD0]
theorem e_rgL {m : MA} {ps : Ps} : mRgL m ps = (m ps).bind fun ds ps1 => .of (dRg ds) ps1 := rfl
theorem e_cat {a b : ME} {ps : Ps} : mCat a b ps = (a ps).bind fun x ps1 => (b ps1).bind fun y ps2 => match x, y with
  | .list xs, .list ys => if xs.length + ys.length ≤ sizeLine then .ok (xs ++ ys) ps2 else .bad
  | _, _ => .bad := rfl
end PP
/-! The plain functions of the law k02, printed by gen.py. -/
namespace G_k02
open PySem MM L2

def b_is_whole : MS :=
  (mRet (mAndV (mIsi isIntB (mVar 0)) (mNotV (mIsi isBool (mVar 0)))))
def m_is_whole : MF := mFun 1 1 b_is_whole
def b_is_number : MS :=
  (mRet (mAndV (mCall m_is_whole (mCons (mVar 0) mNil)) (mChain dLe dLt (mC (.int 0)) (mVar 0) (mVar 1))))
def m_is_number : MF := mFun 2 2 b_is_number
def b_is_tree : MS :=
  (mSeq (mIfS (mOr (mNot (mTst (mIsi isTup (mVar 0)))) (mTst (mBin dGe (mB dLen (mCons (mVar 0) mNil)) (mC (.int 8)))))
    (mRet (mC (.bool false))) mNext)
    (mRet (mB dAll (mCons (mFz (mComp (mEnum (mCons (mVar 0) mNil)) (mGp 1 2) mYes (mCall m_is_number (mCons (mVar 2) (mCons (mBin dAdd (mVar 1) (mC (.int 1))) mNil))) [1, 2])) mNil))))
def m_is_tree : MF := mFun 1 3 b_is_tree
def b__law_deck : MS :=
  (mSeq (mSet 2 (mBin dAdd (mC (.int 20011)) (mB dLen (mCons (mVar 1) mNil))))
    (mSeq (mFor (mIter (mVar 1)) (mGn 3)
    (mSet 2 (mBin dMod (mBin dAdd (mBin dAdd (mBin dMul (mVar 2) (mC (.int 48271))) (mBin dMod (mVar 3) (mC (.int 2147483629)))) (mC (.int 19))) (mC (.int 2147483587)))))
    (mRet (mFzD (mDict [((mC (.str "cells")), (mUn dRev (mVar 1))), ((mC (.str "seed")), (mVar 2)), ((mC (.str "at")), (mC (.int 0)))])))))
def m__law_deck : MF := mFunS 4 1 b__law_deck
def b__law_draw : MS :=
  (mSeq (mDkPut 0 DkF.turn (mBin dAdd (mDk 0 DkF.turn) (mC (.int 1))))
    (mSeq (mPar 2 3 (mCons (mDk 0 DkF.turn) (mCons (mDk 0 DkF.seed) mNil)))
    (mSeq (mIfS (mTst (mDkNe 0))
    (mSeq (mSet 3 (mDkPop 0))
    (mSeq (mIfS (mTst (mBin dGe (mVar 3) (mBin dPow (mC (.int 10)) (mC (.int 18)))))
    (mSeq (mDrop (mDkApp 0 (mBin dFdiv (mVar 3) (mVar 1))))
    (mRet (mBin dMod (mVar 3) (mVar 1)))) mNext)
    (mSet 3 (mBin dAdd (mVar 3) (mDk 0 DkF.seed))))) mNext)
    (mSeq (mSet 4 (mBin dMod (mBin dMul (mBin dAdd (mBin dAdd (mBin dMod (mVar 3) (mC (.int 2147483629))) (mBin dMul (mBin dMul (mC (.int 86243)) (mVar 2)) (mVar 2))) (mC (.int 41))) (mC (.int 39373))) (mC (.int 2147483647))))
    (mSeq (mSet 4 (mBin dMod (mBin dAdd (mBin dAdd (mBin dMul (mVar 4) (mVar 4)) (mBin dMul (mC (.int 69621)) (mVar 2))) (mC (.int 3))) (mC (.int 2147483587))))
    (mRet (mBin dMod (mBin dFdiv (mBin dMod (mBin dAdd (mBin dMul (mVar 4) (mC (.int 40692))) (mBin dFdiv (mVar 4) (mC (.int 7)))) (mC (.int 2147483563))) (mC (.int 64))) (mVar 1))))))))
def m__law_draw : MF := mFun 2 5 b__law_draw
def b__law_tree : MS :=
  (mSeq (mPar 2 3 (mCons (mCall m__law_draw (mCons (mVar 0) (mCons (mVar 1) mNil))) (mCons (mCall m__law_draw (mCons (mVar 0) (mCons (mC (.int 5)) mNil))) mNil)))
    (mSeq (mOwn 4 (mDisp mNil))
    (mSeq (mFor (mRange1 (mCons (mVar 2) mNil)) (mGn 5)
    (mSeq (mSet 6 (mLst (mCons (mCall m__law_draw (mCons (mVar 0) (mCons (mBin dAdd (mVar 5) (mC (.int 1))) mNil))) (mCons (mVar 5) (mCons (mC (.int 0)) (mCons (mB dMax2 (mCons (mC (.int 0)) (mCons (mBin dSub (mVar 5) (mC (.int 1))) mNil))) mNil))))))
    (mDrop (mAppend 4 (mBin dIx (mBin dAdd (mVar 6) (mSl (mVar 6) mNoPart (mPart (mC (.int 1))))) (mVar 3))))))
    (mRet (mB dTuple (mCons (mVar 4) mNil))))))
def m__law_tree : MF := mFun 2 7 b__law_tree
def b__law_bent_number : MS :=
  (mSeq (mSet 2 (mLst (mCons (mBin dAdd (mVar 1) (mC (.int 1))) (mCons (mBin dSub (mVar 1) (mC (.int 1))) (mCons (mBin dSub (mC (.int 0)) (mVar 1)) (mCons (mBin dAdd (mVar 1) (mC (.int 2))) (mCons (mBin dPow (mC (.int 10)) (mC (.int 39))) (mCons (mBin dEq (mVar 1) (mC (.int 1))) (mCons (mB dStr (mCons (mVar 1) mNil)) (mCons (mC .none) (mCons (mTup (mCons (mVar 1) mNil)) mNil)))))))))))
    (mRet (mBin dIx (mBin dAdd (mVar 2) (mLst (mCons (mLst (mCons (mVar 1) mNil)) mNil))) (mCall m__law_draw (mCons (mVar 0) (mCons (mC (.int 10)) mNil))))))
def m__law_bent_number : MF := mFun 2 3 b__law_bent_number
def b__law_bent (rec : MF) : MS :=
  (mSeq (mSet 2 (mCall m__law_draw (mCons (mVar 0) (mCons (mC (.int 8)) mNil))))
    (mSeq (mIfS (mAnd (mTst (mIsi isTup (mVar 1))) (mAnd (mTst (mBin (dEq0 not) (mVar 1) (mTup mNil))) (mTst (mBin dLt (mVar 2) (mC (.int 5))))))
    (mSeq (mSet 3 (mCall m__law_draw (mCons (mVar 0) (mCons (mB dLen (mCons (mVar 1) mNil)) mNil))))
    (mRet (mBin dAdd (mBin dAdd (mSl (mVar 1) mNoPart (mPart (mVar 3))) (mTup (mCons (mCall rec (mCons (mVar 0) (mCons (mBin dIx (mVar 1) (mVar 3)) mNil))) mNil))) (mSl (mVar 1) (mPart (mBin dAdd (mVar 3) (mC (.int 1)))) mNoPart)))) mNext)
    (mSeq (mIfS (mTst (mIsi isTup (mVar 1)))
    (mSeq (mSet 3 (mCall m__law_draw (mCons (mVar 0) (mCons (mBin dAdd (mB dLen (mCons (mVar 1) mNil)) (mC (.int 1))) mNil))))
    (mSeq (mPar 4 5 (mCons (mSl (mVar 1) (mPart (mVar 3)) (mPart (mBin dAdd (mVar 3) (mC (.int 1))))) (mCons (mSl (mVar 1) (mPart (mBin dAdd (mVar 3) (mC (.int 1)))) (mPart (mBin dAdd (mVar 3) (mC (.int 2))))) mNil)))
    (mSeq (mSet 6 (mLst (mCons (mBin dAdd (mSl (mVar 1) mNoPart (mPart (mVar 3))) (mSl (mVar 1) (mPart (mBin dAdd (mVar 3) (mC (.int 1)))) mNoPart)) (mCons (mBin dAdd (mBin dAdd (mSl (mVar 1) mNoPart (mPart (mVar 3))) (mVar 4)) (mSl (mVar 1) (mPart (mVar 3)) mNoPart)) (mCons (mBin dAdd (mBin dAdd (mBin dAdd (mSl (mVar 1) mNoPart (mPart (mVar 3))) (mVar 5)) (mVar 4)) (mSl (mVar 1) (mPart (mBin dAdd (mVar 3) (mC (.int 2)))) mNoPart)) mNil)))))
    (mSeq (mSet 6 (mBin dAdd (mVar 6) (mLst (mCons (mB dList (mCons (mVar 1) mNil)) (mCons (mUn dRev (mVar 1)) (mCons (mBin dAdd (mVar 1) (mTup (mCons (mC (.int 0)) mNil))) (mCons (mBin dAdd (mTup (mCons (mC (.int 0)) mNil)) (mVar 1)) (mCons (mBin dAdd (mVar 1) (mTup (mCons (mTup (mCons (mC (.int 0)) (mCons (mC (.int 0)) mNil))) mNil))) (mCons (mTup (mCons (mVar 1) mNil)) (mCons (mC .none) mNil))))))))))
    (mRet (mBin dIx (mVar 6) (mCall m__law_draw (mCons (mVar 0) (mCons (mC (.int 10)) mNil))))))))) mNext)
    (mSeq (mIfS (mAnd (mTst (mIsi isIntB (mVar 1))) (mNot (mTst (mIsi isBool (mVar 1)))))
    (mRet (mCall m__law_bent_number (mCons (mVar 0) (mCons (mVar 1) mNil)))) mNext)
    (mRet (mBin dIx (mLst (mCons (mC .none) (mCons (mC (.str "")) (mCons (mC (.str "a")) (mCons (mC (.bool true)) (mCons (mC (.bool false)) (mCons (mC (.int 0)) (mCons (mTup mNil) (mCons (mLst mNil) (mCons (mFzD mNewD) (mCons (mFzD (mDict [((mC (.str "a")), (mC (.int 1)))])) mNil))))))))))) (mCall m__law_draw (mCons (mVar 0) (mCons (mC (.int 10)) mNil)))))))))
def m__law_bent : Nat → MF
  | 0 => fun _ _ => .bad
  | n + 1 => mFun 2 7 (b__law_bent (m__law_bent n))
def b__law_odd : MS :=
  (mSeq (mSet 0 (mTup mNil))
    (mSeq (mFor (mRange1 (mCons (mC (.int 18)) mNil)) (mGn 1)
    (mSet 0 (mBin dIx (mLst (mCons (mTup (mCons (mVar 0) mNil)) (mCons (mLst (mCons (mVar 0) mNil)) mNil))) (mBin dMod (mVar 1) (mC (.int 2))))))
    (mSeq (mSet 2 (mLst (mCons (mC .none) (mCons (mC (.bool true)) (mCons (mC (.bool false)) (mCons (mC (.int 0)) (mCons (mUn dNeg (mC (.int 1))) (mCons (mBin dPow (mC (.int 10)) (mC (.int 39))) (mCons (mC (.str "")) (mCons (mC (.str "(0,)")) (mCons (mLst mNil) (mCons (mFzD mNewD) (mCons (mFzD (mDict [((mC (.int 0)), (mC (.int 0)))])) (mCons (mLst (mCons (mC (.int 0)) mNil)) (mCons (mVar 0) mNil)))))))))))))))
    (mRet (mBin dAdd (mVar 2) (mLst (mCons (mTup (mCons (mC .none) mNil)) (mCons (mTup (mCons (mTup mNil) mNil)) (mCons (mTup (mCons (mLst mNil) mNil)) (mCons (mTup (mCons (mFzD mNewD) mNil)) (mCons (mTup (mCons (mC (.str "0")) mNil)) (mCons (mTup (mCons (mC (.bool true)) mNil)) (mCons (mTup (mCons (mC (.int 0)) (mCons (mC .none) mNil))) (mCons (mTup (mCons (mUn dNeg (mC (.int 1))) mNil)) mNil))))))))))))))
def m__law_odd : MF := mFun 0 3 b__law_odd
def b__law_due : MS :=
  (mSeq (mIfS (mOr (mNot (mTst (mIsi isTup (mVar 0)))) (mTst (mBin dGt (mB dLen (mCons (mVar 0) mNil)) (mC (.int 7)))))
    (mRet (mC (.bool false))) mNext)
    (mSeq (mFor (mRange1 (mCons (mB dLen (mCons (mVar 0) mNil)) mNil)) (mGn 1)
    (mIfS (mOr (mTst (mIsi isBool (mBin dIx (mVar 0) (mVar 1)))) (mOr (mNot (mTst (mIsi isIntB (mBin dIx (mVar 0) (mVar 1))))) (mNot (mTst (mChain dLe dLe (mC (.int 0)) (mBin dIx (mVar 0) (mVar 1)) (mVar 1))))))
    (mRet (mC (.bool false))) mNext))
    (mRet (mC (.bool true)))))
def m__law_due : MF := mFun 1 2 b__law_due
def b__law_right : MS :=
  (mSeq (mSet 1 (mB dRepr (mCons (mVar 0) mNil)))
    (mSeq (mFor (mRange1 (mCons (mC (.int 2)) mNil)) (mGn 2)
    (mSeq (mSet 3 (mBin dIx (mLst (mCons (mCall m_is_tree (mCons (mVar 0) mNil)) (mCons (mCallK m_is_tree (pick 0 1 [0]) mNil (mCons (mVar 0) mNil)) mNil))) (mVar 2)))
    (mIfS (mOr (mNot (mTst (mIsi isBool (mVar 3)))) (mTst (mBin dNe (mVar 3) (mCall m__law_due (mCons (mVar 0) mNil)))))
    (mRet (mC (.bool false))) mNext)))
    (mRet (mBin (dEqS id) (mB dRepr (mCons (mVar 0) mNil)) (mVar 1)))))
def m__law_right : MF := mFun 1 4 b__law_right
def b_law : MS :=
  (mSeq (mFor (mRange1 (mCons (mC (.int 3)) mNil)) (mGn 2)
    (mSeq (mSet 3 (mCall m__law_tree (mCons (mVar 1) (mCons (mC (.int 8)) mNil))))
    (mSeq (mOwn 4 (mDisp (mCons (mVar 3) (mCons (mB dList (mCons (mVar 3) mNil)) (mCons (mBin dAdd (mVar 3) (mTup (mCons (mB dLen (mCons (mVar 3) mNil)) mNil))) (mCons (mBin dMulT (mTup (mCons (mC (.int 0)) mNil)) (mC (.int 7))) (mCons (mBin dMulT (mTup (mCons (mC (.int 0)) mNil)) (mC (.int 8))) mNil)))))))
    (mSeq (mOwn 4 (mCat (mVar 4) (mLst (mCons (mB dTuple (mCons (mFz (mRgL (mCons (mC (.int 7)) mNil))) mNil)) (mCons (mB dTuple (mCons (mFz (mRgL (mCons (mC (.int 8)) mNil))) mNil)) mNil)))))
    (mSeq (mFor (mRange1 (mCons (mC (.int 12)) mNil)) (mGn 5)
    (mSeq (mSet 6 (mCall (m__law_bent 6) (mCons (mVar 1) (mCons (mVar 3) mNil))))
    (mSeq (mIfS (mTst (mBin dEq (mCall m__law_draw (mCons (mVar 1) (mCons (mC (.int 2)) mNil))) (mC (.int 1))))
    (mSet 6 (mCall (m__law_bent 6) (mCons (mVar 1) (mCons (mVar 6) mNil)))) mNext)
    (mDrop (mAppend 4 (mVar 6))))))
    (mSeq (mFor (mIter (mBin dAdd (mVar 4) (mCall m__law_odd mNil))) (mGn 7)
    (mIfS (mNot (mTst (mCall m__law_right (mCons (mVar 7) mNil))))
    (mRet (mC (.bool false))) mNext))
    (mIfS (mTst (mBin dNotB (mCall m_is_tree (mCons (mVar 3) mNil)) (mC (.bool true))))
    (mRet (mC (.bool false))) mNext)))))))
    (mRet (mBin dIsB (mCall m_is_tree (mCons (mTup mNil) mNil)) (mC (.bool true)))))
end G_k02
namespace PP
open PySem MM L2
@[simp] theorem e_enum {ms : MA} {ps : Ps} : mEnum ms ps = (ms ps).bind fun ds ps1 => .of (dEnum ds) ps1 := rfl
@[simp] theorem dEnum_tuple (xs : List D) : dEnum [.tuple xs] = some (enumD xs) := rfl
/-- a loop that goes on or returns -/
theorem loop_all {α : Type} (e : α → D) {g : MG} {body : MS} (good : α → Bool) (P : Ps → Prop) (d : D) (R : Ps → Prop) : ∀ {xs : List α} {ps : Ps},
    (∀ x ∈ xs, ∀ ps, P ps → ∃ ps1, g (e x) ps = some ps1 ∧ (good x = true → ∃ ps2, body ps1 = .next ps2 ∧ P ps2) ∧ (good x = false → ∃ ps2, body ps1 = .ret d ps2 ∧ R ps2)) → P ps →
    (xs.all good = true → ∃ ps', mLoop g body (xs.map e) ps = .next ps' ∧ P ps') ∧ (xs.all good = false → ∃ ps', mLoop g body (xs.map e) ps = .ret d ps' ∧ R ps')
  | [], ps, _, hp => ⟨fun _ => ⟨ps, rfl, hp⟩, fun h => by simp at h⟩
  | x :: xs, ps, h, hp => by
    obtain ⟨ps1, e1, h1, h2⟩ := h x (by simp) ps hp
    rw [List.map_cons]
    unfold mLoop
    rw [e1]
    cases hg : good x with
    | true =>
      obtain ⟨ps2, e2, p2⟩ := h1 hg
      simp only [e2, List.all_cons, hg, Bool.true_and]
      exact loop_all e good P d R (fun y hy => h y (by simp [hy])) p2
    | false =>
      obtain ⟨ps2, e2, p2⟩ := h2 hg
      rw [List.all_cons, hg, Bool.false_and]
      exact ⟨(fun h => nomatch h), fun _ => ⟨ps2, by simp only [e2], p2⟩⟩
end PP
namespace G_k02
open PySem MM L2 PP
def isI : D → Bool
  | .int _ => true
  | _ => false
/-- a whole number from 0 to below b -/
def inB (b : Int) : D → Bool
  | .int v => decide (0 ≤ v) && decide (v < b)
  | _ => false
theorem whole_ok {x : D} (h : isDeck x = false) (k : Dk) : m_is_whole [x] k = .ret (.bool (isI x)) k := by
  unfold m_is_whole mFun b_is_whole
  cases x <;> simp [sl0, List.replicate, h, isIntB, isBool, isI]
theorem number_ok {x : D} (h : isDeck x = false) (b : Int) (k : Dk) : m_is_number [x, .int b] k = .ret (.bool (inB b x)) k := by
  have e := whole_ok h k
  unfold m_is_number mFun b_is_number
  cases x with
  | int v =>
    have e : m_is_whole [.int v] k = .ret (.bool true) k := e
    by_cases h0 : 0 ≤ v
    · simp [sl0, List.replicate, e, inB, h0]
    · simp [sl0, List.replicate, e, inB, h0]
  | none => simp [sl0, List.replicate, e, inB, isI]
  | bool z => simp [sl0, List.replicate, e, inB, isI]
  | str z => simp [sl0, List.replicate, e, inB, isI]
  | list z => simp [sl0, List.replicate, e, inB, isI]
  | tuple z => simp [sl0, List.replicate, e, inB, isI]
  | dict z => simp [sl0, List.replicate, e, inB, isI]
theorem isDeck_of {x : D} {l : Bool} (h : cln l x = true) : isDeck x = false := by
  cases x with
  | dict kvs => rw [cln, Bool.and_eq_true] at h; simpa using h.1
  | _ => rfl
theorem mem_cln {l : Bool} {x : D} : ∀ {xs : List D}, clnAll l xs = true → x ∈ xs → cln l x = true
  | y :: ys, h, hx => by
    rw [clnAll, Bool.and_eq_true] at h
    rcases List.mem_cons.mp hx with e | e
    · rw [e]; exact h.1
    · exact mem_cln h.2 e
/-- a tree -/
def treeD : D → Bool
  | .tuple xs => decide (xs.length < 8) && xs.zipIdx.all fun p => inB ((p.2 : Nat) + 1) p.1
  | _ => false
theorem blsOf_map {α : Type} (f : α → Bool) (xs : List α) : blsOf (xs.map fun x => PyData.bool (f x)) = some (xs.map f) := by
  induction xs with
  | nil => rfl
  | cons x xs ih => simp [blsOf, ih]
theorem dGe_len (xs : List D) (n : Nat) : dGe (.int (xs.length : Int)) (.int (n : Int)) = some (.bool (decide (n ≤ xs.length))) := by
  rw [dGe_int]
  congr 2
  by_cases h : n ≤ xs.length <;> simp [h]
theorem is_tree_ok {x : D} {l : Bool} (h : cln l x = true) (k : Dk) : m_is_tree [x] k = .ret (.bool (treeD x)) k := by
  have hd := isDeck_of h
  unfold m_is_tree mFun b_is_tree
  cases x with
  | tuple xs =>
    rw [cln] at h
    have hlen : dLen [.tuple xs] = some (.int (xs.length : Int)) := rfl
    have hge := dGe_len xs 8
    have hge : dGe (.int (xs.length : Int)) (.int 8) = _ := hge
    by_cases hl : xs.length < 8
    · have c1 := comp_gen (fun p : D × Nat => PyData.tuple [.int (p.2 : Nat), p.1]) (mi := (mEnum (mCons (mVar 0) mNil))) (g := (mGp 1 2)) (tt := mYes) (te := (mCall m_is_number (mCons (mVar 2) (mCons (mBin dAdd (mVar 1) (mC (.int 1))) mNil)))) (vs := [1, 2]) (ps := ⟨[.fz (.tuple xs), .no, .no], k⟩) (ps0 := ⟨[.fz (.tuple xs), .no, .no], k⟩)
        (fun _ => true) (fun p => .bool (inB ((p.2 : Nat) + 1) p.1)) (xs := xs.zipIdx) (by simp [enumD]) (by simp) (by simp; omega) (fun p hp => by
          have hx : p.1 ∈ xs := by
            have := List.mem_zipIdx hp
            rw [this.2.2]; exact List.getElem_mem _
          have e := number_ok (isDeck_of (mem_cln h hx)) ((p.2 : Nat) + 1) k
          simp [e])
      rw [List.filter_eq_self.mpr (by simp)] at c1
      have hb := blsOf_map (fun p : D × Nat => inB ((p.2 : Nat) + 1) p.1) xs.zipIdx
      have hn : ¬ 8 ≤ xs.length := by omega
      simp [sl0, List.replicate, hd, isTup, hlen, hge, hn, c1, dAll, hb, treeD, hl]
    · have hn : 8 ≤ xs.length := by omega
      simp [sl0, List.replicate, hd, isTup, hlen, hge, hn, treeD, hl]
  | _ => simp [sl0, List.replicate, hd, isTup, treeD]
theorem all_range (xs : List D) : ((List.range xs.length).all fun i => inB ((i : Nat) + 1) (xs.getD i .none)) = xs.zipIdx.all fun p => inB ((p.2 : Nat) + 1) p.1 := by
  rw [Bool.eq_iff_iff, List.all_eq_true, List.all_eq_true]
  constructor
  · intro h p hp
    have hm := List.mem_zipIdx hp
    have := h p.2 (by rw [List.mem_range]; omega)
    rw [hm.2.2]
    rw [List.getD_eq_getElem?_getD, List.getElem?_eq_getElem (by omega)] at this
    simpa using this
  · intro h i hi
    rw [List.mem_range] at hi
    have hm : (xs[i], i) ∈ xs.zipIdx := by rw [List.mem_zipIdx_iff_getElem?]; simp [hi]
    have := h _ hm
    rw [List.getD_eq_getElem?_getD, List.getElem?_eq_getElem hi]
    simpa using this
def dueL : MS := (mIfS (mOr (mTst (mIsi isBool (mBin dIx (mVar 0) (mVar 1)))) (mOr (mNot (mTst (mIsi isIntB (mBin dIx (mVar 0) (mVar 1))))) (mNot (mTst (mChain dLe dLe (mC (.int 0)) (mBin dIx (mVar 0) (mVar 1)) (mVar 1))))))
    (mRet (mC (.bool false))) mNext)
theorem due_step {xs : List D} {i : Nat} {x : D} {k : Dk} (hx : xs[i]? = some x) (hd : isDeck x = false) : dueL ⟨[.fz (.tuple xs), .fz (iD i)], k⟩ = if inB ((i : Nat) + 1) x = true then .next ⟨[.fz (.tuple xs), .fz (iD i)], k⟩ else .ret (.bool false) ⟨[.fz (.tuple xs), .fz (iD i)], k⟩ := by
  have hix := dIx_tuple hx
  unfold dueL
  cases x with
  | int v =>
    have e2 : dLe (.int v) (iD i) = some (.bool (decide (v ≤ (i : Int)))) := dLe_int _ _
    have e3 : inB ((i : Nat) + 1) (.int v) = (decide (0 ≤ v) && decide (v ≤ (i : Int))) := by
      show (decide (0 ≤ v) && decide (v < (i : Int) + 1)) = _
      congr 1
      exact decide_eq_decide.mpr (by omega)
    rw [e3]
    by_cases h0 : 0 ≤ v
    · by_cases h1 : v ≤ (i : Int)
      · simp [hix, hd, isBool, isIntB, e2, h0, h1]
      · simp [hix, hd, isBool, isIntB, e2, h0, h1]
    · simp [hix, hd, isBool, isIntB, h0]
  | none => simp [hix, hd, isBool, isIntB, inB]
  | bool z => simp [hix, hd, isBool, isIntB, inB]
  | str z => simp [hix, hd, isBool, isIntB, inB]
  | list z => simp [hix, hd, isBool, isIntB, inB]
  | tuple z => simp [hix, hd, isBool, isIntB, inB]
  | dict z => simp [hix, hd, isBool, isIntB, inB]
theorem due_ok {x : D} {l : Bool} (h : cln l x = true) (k : Dk) : m__law_due [x] k = .ret (.bool (treeD x)) k := by
  have hd := isDeck_of h
  unfold m__law_due mFun b__law_due
  cases x with
  | tuple xs =>
    rw [cln] at h
    have hlen : dLen [.tuple xs] = some (iD xs.length) := rfl
    have hgt : dGt (iD xs.length) (.int 7) = some (.bool (decide (7 < xs.length))) := by
      show dGt (.int (xs.length : Int)) (.int 7) = _
      rw [dGt_int]
      congr 2
      by_cases h : 7 < xs.length <;> simp [h] <;> omega
    by_cases hl : xs.length < 8
    · have hr := dRange1_iD (n := xs.length) (by omega)
      have hn : ¬ 7 < xs.length := by omega
      obtain ⟨t1, t2⟩ := loop_all iD (g := mGn 1) (body := dueL) (fun i => inB ((i : Nat) + 1) (xs.getD i .none)) (fun ps => ∃ s, ps = ⟨[.fz (.tuple xs), s], k⟩) (.bool false) (fun ps => ∃ s, ps = ⟨[.fz (.tuple xs), s], k⟩) (xs := List.range xs.length) (ps := ⟨[.fz (.tuple xs), .no], k⟩) (fun i hi ps ⟨s, e⟩ => by
        subst e
        rw [List.mem_range] at hi
        have hx : xs[i]? = some (xs.getD i .none) := by rw [List.getD_eq_getElem?_getD, List.getElem?_eq_getElem hi]; rfl
        have st := due_step (k := k) hx (isDeck_of (mem_cln h (List.mem_of_getElem? hx)))
        refine ⟨_, rfl, fun g => ⟨⟨[.fz (.tuple xs), .fz (iD i)], k⟩, ?_, _, rfl⟩, fun g => ⟨⟨[.fz (.tuple xs), .fz (iD i)], k⟩, ?_, _, rfl⟩⟩
        · rw [if_pos g] at st; exact st
        · rw [if_neg (by rw [g]; simp)] at st; exact st) ⟨_, rfl⟩
      rw [all_range] at t1 t2
      have hrr : (List.range xs.length).map iD = iDs (List.range xs.length) := rfl
      rw [hrr] at t1 t2
      unfold dueL at t1 t2
      cases ha : (xs.zipIdx.all fun p => inB ((p.2 : Nat) + 1) p.1) with
      | true =>
        obtain ⟨ps', e, s, rfl⟩ := t1 ha
        simp [sl0, List.replicate, hd, isTup, hlen, hgt, hn, hr, e, treeD, hl]
        simpa using ha
      | false =>
        obtain ⟨ps', e, s, rfl⟩ := t2 ha
        simp [sl0, List.replicate, hd, isTup, hlen, hgt, hn, hr, e, treeD, hl]
        simpa using ha
    · have hn : 7 < xs.length := by omega
      simp [sl0, List.replicate, hd, isTup, hlen, hgt, hn, treeD, hl]
  | _ => simp [sl0, List.replicate, hd, isTup, treeD]
theorem shw_cln {x : D} (h : shwOk x = true) : ∃ l, cln l x = true := by
  unfold shwOk at h
  rw [Bool.and_eq_true, Bool.or_eq_true] at h
  rcases h.2 with h | h
  · exact ⟨false, h⟩
  · rw [Bool.and_eq_true] at h; exact ⟨true, h.1⟩
theorem eqv_str (s : Str) : PyData.eqv (.str s) (.str s) = true := by simp [PyData.eqv]
theorem right_ok {x : D} (h : shwOk x = true) (k : Dk) : m__law_right [x] k = .ret (.bool true) k := by
  obtain ⟨l, hc⟩ := shw_cln h
  have t := is_tree_ok hc k
  have d := due_ok hc k
  have hr : dRepr [x] = some (.str x.shown) := by
    show (if shwOk x = true then some (PyData.str x.shown) else none) = _
    rw [if_pos h]
  have hr2 : dRange1 [.int 2] = some [iD 0, iD 1] := rfl
  have hp : pick 0 1 [0] [] [x] = [x] := rfl
  have i0 : dIx (.list [.bool (treeD x), .bool (treeD x)]) (iD 0) = some (.bool (treeD x)) := dIx_list rfl
  have i1 : dIx (.list [.bool (treeD x), .bool (treeD x)]) (iD 1) = some (.bool (treeD x)) := dIx_list rfl
  have ne : dNe (.bool (treeD x)) (.bool (treeD x)) = some (.bool false) := by cases treeD x <;> rfl
  have eq : dEqS id (.str x.shown) (.str x.shown) = some (.bool true) := by simp [dEqS]
  have z2 : 2 ≤ sizeLine := sz_le (by omega)
  unfold m__law_right mFun b__law_right
  simp [sl0, List.replicate, hr, hr2, mLoop, t, d, hp, i0, i1, ne, eq, isBool, z2, isDeck]
end G_k02
namespace SZ
open PySem MM L2 PP
/-! what repr takes: a look at the parts, a count of them -/
def smallD : List (D × D) → Bool
  | [] => true
  | [(.str "a", .int 1)] => true
  | [(.int 0, .int 0)] => true
  | _ => false
mutual
/-- whole numbers to b, short texts; l: lists, dd: three small dicts -/
def ck (b : Nat) (l dd : Bool) : D → Bool
  | .none => true
  | .bool _ => true
  | .int i => decide (i.natAbs ≤ b)
  | .str x => decide (x.length ≤ 60) && x.cps.toList.all fun c => decide (c < 16 ^ 8)
  | .list xs => l && ckAll b l dd xs
  | .tuple xs => ckAll b l dd xs
  | .dict kvs => dd && smallD kvs
def ckAll (b : Nat) (l dd : Bool) : List D → Bool
  | [] => true
  | x :: xs => ck b l dd x && ckAll b l dd xs
end
mutual
def nd : D → Nat
  | .list xs => 1 + ndAll xs
  | .tuple xs => 1 + ndAll xs
  | _ => 1
def ndAll : List D → Nat
  | [] => 0
  | x :: xs => nd x + ndAll xs
end
theorem shown_dict {kvs : List (D × D)} (h : smallD kvs = true) : kvs = [] ∨ kvs = [(.str "a", .int 1)] ∨ kvs = [(.int 0, .int 0)] := by
  unfold smallD at h
  split at h
  · exact .inl rfl
  · exact .inr (.inl rfl)
  · exact .inr (.inr rfl)
  · cases h
theorem textFrom_le : ∀ (ts : List Str) (k : Nat) (acc : Str), (textFrom k acc ts).length ≤ acc.length + piled ts
  | [], k, acc => by simp [textFrom, piled]
  | t :: ts, k, acc => by
    have ih := textFrom_le ts (k + 1) (acc ++ (if k > 0 then ", " else "" : String) ++ t)
    have e : (acc ++ (if k > 0 then ", " else "" : String) ++ t : Str).length ≤ acc.length + 2 + t.length := by
      rw [strLen_append, strLen_append]
      have : ((if k > 0 then ", " else "" : String) : Str).length ≤ 2 := by split <;> decide
      omega
    rw [piled_cons]
    show (textFrom (k + 1) _ ts).length ≤ _
    omega
theorem listText_le (ts : List Str) : (listText ts).length ≤ piled ts + 2 := by
  have h := textFrom_le ts 0 "["
  have e : (listText ts).length = (textFrom 0 "[" ts).length + 1 := by unfold listText; rw [strLen_append]; rfl
  have e1 : ("[" : Str).length = 1 := rfl
  omega
theorem tupleText_le (ts : List Str) : (tupleText ts).length ≤ piled ts + 3 := by
  have e : (tupleText ts).length = 1 + (Str.join ", " ts).length + ((if ts.length == 1 then ",)" else ")" : String) : Str).length := by
    unfold tupleText; rw [strLen_append, strLen_append]; rfl
  have e2 : ((if ts.length == 1 then ",)" else ")" : String) : Str).length ≤ 2 := by split <;> decide
  by_cases h : ts = []
  · subst h
    have : (Str.join ", " ([] : List Str)).length = 0 := rfl
    omega
  · have := join_length_add ts h
    omega
theorem int_len {i : Int} {b : Nat} (hb : b < 10 ^ 45) (h : i.natAbs ≤ b) : (Str.ofString (toString i)).length ≤ 46 := by
  rw [ofString_length]
  exact int_text_length_le10 (k := 45) (by omega) (by omega)
theorem int_show {i : Int} {b : Nat} (hb : b < 10 ^ 45) (h : i.natAbs ≤ b) : i.natAbs.log2 < 1920 := by
  by_cases h0 : i.natAbs = 0
  · rw [h0]; decide
  · rw [Nat.log2_lt h0]
    have : (10 : Nat) ^ 45 < 2 ^ 1920 := by decide +kernel
    omega
section
variable {b : Nat} {l dd : Bool}
mutual
theorem ck_ok (hb : b < 10 ^ 45) : ∀ d : D, ck b l dd d = true → d.showable = true ∧ d.shown.length + 2 ≤ 700 * nd d ∧ cln l d = true ∧ (dd = false → d.hasDict = false)
  | .none, _ => ⟨rfl, by simp only [PyData.shown, nd]; decide, rfl, fun _ => rfl⟩
  | .bool z, _ => ⟨rfl, by simp only [PyData.shown, nd]; cases z <;> decide, rfl, fun _ => rfl⟩
  | .int i, h => by
    rw [ck] at h
    have h := of_decide_eq_true h
    have := int_len hb h
    refine ⟨by rw [PyData.showable]; exact decide_eq_true (int_show hb h), ?_, rfl, fun _ => by rw [PyData.hasDict]⟩
    simp only [PyData.shown, nd]
    omega
  | .str x, h => by
    rw [ck, Bool.and_eq_true] at h
    have h1 := of_decide_eq_true h.1
    have := PySem.StrLaws.reprText_len x fun c hc => of_decide_eq_true (List.all_eq_true.mp h.2 c hc)
    refine ⟨by rw [PyData.showable], ?_, rfl, fun _ => by rw [PyData.hasDict]⟩
    simp only [PyData.shown, nd]
    omega
  | .list xs, h => by
    rw [ck, Bool.and_eq_true] at h
    obtain ⟨h1, h2, h3, h4⟩ := ckAll_ok hb xs h.2
    refine ⟨by rw [PyData.showable]; exact h1, ?_, by rw [cln, Bool.and_eq_true]; exact ⟨h.1, h3⟩, fun z => by rw [PyData.hasDict]; exact h4 z⟩
    have := listText_le (PyData.shownAll xs)
    simp only [PyData.shown, nd]
    omega
  | .tuple xs, h => by
    rw [ck] at h
    obtain ⟨h1, h2, h3, h4⟩ := ckAll_ok hb xs h
    refine ⟨by rw [PyData.showable]; exact h1, ?_, by rw [cln]; exact h3, fun z => by rw [PyData.hasDict]; exact h4 z⟩
    have := tupleText_le (PyData.shownAll xs)
    simp only [PyData.shown, nd]
    omega
  | .dict kvs, h => by
    rw [ck, Bool.and_eq_true] at h
    have hd : dd = false → False := fun z => by rw [z] at h; exact nomatch h.1
    rcases shown_dict h.2 with e | e | e
    · subst e; exact ⟨rfl, by simp only [nd]; decide +kernel, rfl, fun z => (hd z).elim⟩
    · subst e; exact ⟨by decide +kernel, by simp only [nd]; decide +kernel, rfl, fun z => (hd z).elim⟩
    · subst e; exact ⟨by decide +kernel, by simp only [nd]; decide +kernel, rfl, fun z => (hd z).elim⟩
theorem ckAll_ok (hb : b < 10 ^ 45) : ∀ xs : List D, ckAll b l dd xs = true → PyData.showableAll xs = true ∧ piled (PyData.shownAll xs) ≤ 700 * ndAll xs ∧ clnAll l xs = true ∧ (dd = false → PyData.hasDictAll xs = false)
  | [], _ => ⟨by rw [PyData.showableAll], by simp [PyData.shownAll, piled], by rw [clnAll], fun _ => by rw [PyData.hasDictAll]⟩
  | x :: xs, h => by
    rw [ckAll, Bool.and_eq_true] at h
    obtain ⟨a1, a2, a3, a4⟩ := ck_ok hb x h.1
    obtain ⟨h1, h2, h3, h4⟩ := ckAll_ok hb xs h.2
    refine ⟨by rw [PyData.showableAll, a1, h1]; rfl, ?_, by rw [clnAll, a3, h3]; rfl, fun z => by rw [PyData.hasDictAll, a4 z, h4 z]; rfl⟩
    rw [PyData.shownAll, piled_cons, ndAll]
    omega
end
/-- a thing: its parts, how many, how deep -/
structure Cl (b : Nat) (l dd : Bool) (n m : Nat) (d : D) : Prop where
  c : ck b l dd d = true
  n_ : nd d ≤ n
  m_ : d.depth ≤ m
structure Ca (b : Nat) (l dd : Bool) (n m : Nat) (xs : List D) : Prop where
  c : ckAll b l dd xs = true
  n_ : ndAll xs ≤ n
  m_ : PyData.depthAll xs ≤ m
theorem shw_of {n m : Nat} {d : D} (h : Cl b l dd n m d) (hb : b < 10 ^ 45) (hn : n ≤ 20000) (hm : m ≤ 64) (hl : l = false ∨ dd = false) : shwOk d = true := by
  obtain ⟨h1, h2, h3, h4⟩ := ck_ok hb d h.c
  have a := h.n_
  have a2 := h.m_
  have hs : d.shown.length ≤ sizeLine := sz_le (by omega)
  have hd : d.depth ≤ 64 := by omega
  unfold shwOk
  rw [h1, decide_eq_true hs, decide_eq_true hd]
  rcases hl with z | z
  · subst z; rw [h3]; rfl
  · subst z
    have h4 := h4 rfl
    cases l with
    | false => rw [h3]; rfl
    | true => rw [h3, h4]; simp
theorem Ca.nil : Ca b l dd 0 0 [] := ⟨by rw [ckAll], by rw [ndAll]; exact Nat.le_refl _, by rw [PyData.depthAll]; exact Nat.le_refl _⟩
theorem Ca.cons {n n2 m : Nat} {x : D} {xs : List D} (h : Cl b l dd n m x) (t : Ca b l dd n2 m xs) : Ca b l dd (n + n2) m (x :: xs) :=
  ⟨by rw [ckAll, h.c, t.c]; rfl, by rw [ndAll]; have := h.n_; have := t.n_; omega, by rw [PyData.depthAll]; have := h.m_; have := t.m_; omega⟩
theorem Cl.le {n n2 m m2 : Nat} {x : D} (h : Cl b l dd n m x) (a : n ≤ n2) (a2 : m ≤ m2) : Cl b l dd n2 m2 x := ⟨h.c, Nat.le_trans h.n_ a, Nat.le_trans h.m_ a2⟩
theorem Ca.le {n n2 m m2 : Nat} {x : List D} (h : Ca b l dd n m x) (a : n ≤ n2) (a2 : m ≤ m2) : Ca b l dd n2 m2 x := ⟨h.c, Nat.le_trans h.n_ a, Nat.le_trans h.m_ a2⟩
theorem Cl.one {n m : Nat} {x : D} (h : Cl b l dd n m x) : Ca b l dd n m [x] := (Ca.cons h (Ca.nil.le (Nat.le_refl _) (Nat.zero_le _))).le (by omega) (Nat.le_refl _)
theorem Ca.tup {n m : Nat} {xs : List D} (h : Ca b l dd n m xs) : Cl b l dd (n + 1) (m + 1) (.tuple xs) :=
  ⟨by rw [ck]; exact h.c, by rw [nd]; have := h.n_; omega, by rw [PyData.depth]; have := h.m_; omega⟩
theorem Ca.lst {n m : Nat} {xs : List D} (h : Ca b true dd n m xs) : Cl b true dd (n + 1) (m + 1) (.list xs) :=
  ⟨by rw [ck, h.c]; rfl, by rw [nd]; have := h.n_; omega, by rw [PyData.depth]; have := h.m_; omega⟩
theorem ckAll_app : ∀ xs ys : List D, ckAll b l dd (xs ++ ys) = (ckAll b l dd xs && ckAll b l dd ys)
  | [], ys => by rw [ckAll]; rfl
  | x :: xs, ys => by rw [List.cons_append, ckAll, ckAll, ckAll_app xs ys, Bool.and_assoc]
theorem ndAll_app : ∀ xs ys : List D, ndAll (xs ++ ys) = ndAll xs + ndAll ys
  | [], ys => by rw [ndAll, List.nil_append, Nat.zero_add]
  | x :: xs, ys => by rw [List.cons_append, ndAll, ndAll, ndAll_app xs ys, Nat.add_assoc]
theorem depAll_app : ∀ xs ys : List D, PyData.depthAll (xs ++ ys) = max (PyData.depthAll xs) (PyData.depthAll ys)
  | [], ys => by rw [PyData.depthAll, List.nil_append]; omega
  | x :: xs, ys => by rw [List.cons_append, PyData.depthAll, PyData.depthAll, depAll_app xs ys]; omega
theorem Ca.app {n n2 m : Nat} {xs ys : List D} (h : Ca b l dd n m xs) (t : Ca b l dd n2 m ys) : Ca b l dd (n + n2) m (xs ++ ys) :=
  ⟨by rw [ckAll_app, h.c, t.c]; rfl, by rw [ndAll_app]; have := h.n_; have := t.n_; omega, by rw [depAll_app]; have := h.m_; have := t.m_; omega⟩
theorem Ca.split {n m : Nat} {xs ys : List D} (h : Ca b l dd n m (xs ++ ys)) : Ca b l dd n m xs ∧ Ca b l dd n m ys := by
  have h1 := h.c
  have h2 := h.n_
  have h3 := h.m_
  rw [ckAll_app, Bool.and_eq_true] at h1
  rw [ndAll_app] at h2
  rw [depAll_app] at h3
  exact ⟨⟨h1.1, by omega, by omega⟩, ⟨h1.2, by omega, by omega⟩⟩
theorem Ca.take {n m : Nat} {xs : List D} (h : Ca b l dd n m xs) (i : Nat) : Ca b l dd n m (xs.take i) := by
  rw [← List.take_append_drop i xs] at h; exact h.split.1
theorem Ca.drop {n m : Nat} {xs : List D} (h : Ca b l dd n m xs) (i : Nat) : Ca b l dd n m (xs.drop i) := by
  rw [← List.take_append_drop i xs] at h; exact h.split.2
theorem Ca.cut {n m : Nat} {xs : List D} (h : Ca b l dd n m xs) (lo hi : Option Int) : Ca b l dd n m (MM.cut xs lo hi) := (h.drop _).take _
theorem Ca.mem {n m : Nat} {xs : List D} {x : D} (h : Ca b l dd n m xs) (hx : x ∈ xs) : Cl b l dd n m x := by
  obtain ⟨s, t, rfl⟩ := List.append_of_mem hx
  have h2 := h.split.2
  have a := h2.c
  have a2 := h2.n_
  have a3 := h2.m_
  rw [ckAll, Bool.and_eq_true] at a
  rw [ndAll] at a2
  rw [PyData.depthAll] at a3
  exact ⟨a.1, by omega, by omega⟩
theorem Ca.rev {n m : Nat} : ∀ {xs : List D}, Ca b l dd n m xs → Ca b l dd n m xs.reverse := by
  intro xs
  induction xs generalizing n with
  | nil => exact fun h => h
  | cons x xs ih =>
    intro h
    have a := h.c
    have a2 := h.n_
    have a3 := h.m_
    rw [ckAll, Bool.and_eq_true] at a
    rw [ndAll] at a2
    rw [PyData.depthAll] at a3
    rw [List.reverse_cons]
    exact ((ih (n := ndAll xs) ⟨a.2, Nat.le_refl _, by omega⟩).app (Cl.one (n := nd x) ⟨a.1, Nat.le_refl _, by omega⟩)).le (by omega) (Nat.le_refl _)
end
mutual
/-- more is let -/
theorem ck_mono {b b2 : Nat} {l dd l2 d2 : Bool} (hb : b ≤ b2) (hl : l = true → l2 = true) (hd : dd = true → d2 = true) : ∀ d : D, ck b l dd d = true → ck b2 l2 d2 d = true
  | .none, _ => by rw [ck]
  | .bool _, _ => by rw [ck]
  | .int i, h => by rw [ck] at h ⊢; have := of_decide_eq_true h; exact decide_eq_true (by omega)
  | .str x, h => by rw [ck] at h ⊢; exact h
  | .list xs, h => by rw [ck, Bool.and_eq_true] at h ⊢; exact ⟨hl h.1, ckAll_mono hb hl hd xs h.2⟩
  | .tuple xs, h => by rw [ck] at h ⊢; exact ckAll_mono hb hl hd xs h
  | .dict kvs, h => by rw [ck, Bool.and_eq_true] at h ⊢; exact ⟨hd h.1, h.2⟩
theorem ckAll_mono {b b2 : Nat} {l dd l2 d2 : Bool} (hb : b ≤ b2) (hl : l = true → l2 = true) (hd : dd = true → d2 = true) : ∀ xs : List D, ckAll b l dd xs = true → ckAll b2 l2 d2 xs = true
  | [], _ => by rw [ckAll]
  | x :: xs, h => by rw [ckAll, Bool.and_eq_true] at h ⊢; exact ⟨ck_mono hb hl hd x h.1, ckAll_mono hb hl hd xs h.2⟩
end
theorem Cl.up {b b2 n m : Nat} {l dd l2 d2 : Bool} {d : D} (h : Cl b l dd n m d) (hb : b ≤ b2) (hl : l = true → l2 = true) (hd : dd = true → d2 = true) : Cl b2 l2 d2 n m d := ⟨ck_mono hb hl hd d h.c, h.n_, h.m_⟩
theorem Ca.up {b b2 n m : Nat} {l dd l2 d2 : Bool} {d : List D} (h : Ca b l dd n m d) (hb : b ≤ b2) (hl : l = true → l2 = true) (hd : dd = true → d2 = true) : Ca b2 l2 d2 n m d := ⟨ckAll_mono hb hl hd d h.c, h.n_, h.m_⟩
end SZ
/-! The plain functions of the law k61, printed by gen.py. -/
namespace G_k61
open PySem MM L2 PySem.W

def kv_MANY : List (Str × Int) := [("put", 3), ("out", 1), ("bar", 3), ("free", 1), ("step", 2), ("lead", 1), ("ask", 2), ("forget", 1)]
def b_is_deed : MS :=
  (mSeq (mIfS (mOr (mNot (mTst (mIsi isTup (mVar 0)))) (mOr (mTst (mBin (dEq0 id) (mVar 0) (mTup mNil))) (mNot (mTst (mIsi isStr (mBin dIx (mVar 0) (mC (.int 0))))))))
    (mRet (mC (.bool false))) mNext)
    (mRet (mAndV (mUn (dInK kv_MANY) (mBin dIx (mVar 0) (mC (.int 0)))) (mBin dEq (mB dLen (mCons (mVar 0) mNil)) (mBin dAdd (mC (.int 1)) (mUn (dIxK kv_MANY) (mBin dIx (mVar 0) (mC (.int 0)))))))))
def m_is_deed : MF := mFun 1 1 b_is_deed
def b__law_deck : MS :=
  (mSeq (mSet 2 (mC (.int 77003)))
    (mSeq (mFor (mIter (mVar 1)) (mGn 3)
    (mSet 2 (mBin dMod (mBin dAdd (mBin dAdd (mBin dMul (mVar 2) (mC (.int 69069))) (mBin dMod (mVar 3) (mC (.int 2147483629)))) (mC (.int 11))) (mC (.int 2147483587)))))
    (mRet (mFzD (mDict [((mC (.str "cells")), (mUn dRev (mVar 1))), ((mC (.str "seed")), (mVar 2)), ((mC (.str "turn")), (mC (.int 0)))])))))
def m__law_deck : MF := mFunS 4 1 b__law_deck
def b__law_draw : MS :=
  (mSeq (mDkPut 0 DkF.turn (mBin dAdd (mDk 0 DkF.turn) (mC (.int 1))))
    (mSeq (mPar 2 3 (mCons (mDk 0 DkF.seed) (mCons (mDk 0 DkF.turn) mNil)))
    (mSeq (mIfS (mTst (mDkNe 0))
    (mSeq (mSet 2 (mDkPop 0))
    (mSeq (mIfS (mTst (mBin dGe (mVar 2) (mBin dPow (mC (.int 10)) (mC (.int 18)))))
    (mSeq (mDrop (mDkApp 0 (mBin dFdiv (mVar 2) (mVar 1))))
    (mRet (mBin dMod (mVar 2) (mVar 1)))) mNext)
    (mSet 2 (mBin dAdd (mVar 2) (mDk 0 DkF.seed))))) mNext)
    (mSeq (mSet 4 (mBin dMod (mBin dMul (mBin dAdd (mBin dAdd (mBin dMod (mVar 2) (mC (.int 2147483629))) (mBin dMul (mBin dMul (mC (.int 7919)) (mVar 3)) (mVar 3))) (mC (.int 13))) (mC (.int 48271))) (mC (.int 2147483647))))
    (mSeq (mSet 4 (mBin dMod (mBin dAdd (mBin dAdd (mBin dMul (mVar 4) (mVar 4)) (mBin dMul (mC (.int 39373)) (mVar 4))) (mVar 3)) (mC (.int 2147483563))))
    (mSeq (mDkPut 0 DkF.seed (mVar 4))
    (mRet (mBin dMod (mBin dFdiv (mBin dMod (mBin dMul (mVar 4) (mC (.int 40692))) (mC (.int 2147483399))) (mC (.int 64))) (mVar 1)))))))))
def m__law_draw : MF := mFun 2 5 b__law_draw
def b__law_pick : MS :=
  (mRet (mBin dIx (mVar 1) (mCall m__law_draw (mCons (mVar 0) (mCons (mB dLen (mCons (mVar 1) mNil)) mNil)))))
def m__law_pick : MF := mFun 2 2 b__law_pick
def b__law_any : MS :=
  (mSeq (mSet 1 (mLst (mCons (mC .none) (mCons (mC (.bool true)) (mCons (mC (.int 0)) (mCons (mUn dNeg (mC (.int 1))) (mCons (mBin dPow (mC (.int 10)) (mC (.int 39))) (mCons (mC (.str "")) (mCons (mC (.str "a")) (mCons (mC (.str "put")) (mCons (mTup mNil) (mCons (mLst mNil) (mCons (mFzD mNewD) (mCons (mTup (mCons (mTup mNil) mNil)) (mCons (mLst (mCons (mC (.str "put")) mNil)) (mCons (mTup (mCons (mC (.str "put")) mNil)) (mCons (mFzD (mDict [((mC (.str "put")), (mC (.int 0)))])) (mCons (mTup (mCons (mC (.int 0)) (mCons (mC (.int 1)) mNil))) mNil))))))))))))))))))
    (mRet (mCall m__law_pick (mCons (mVar 0) (mCons (mBin dAdd (mVar 1) (mLst (mCons (mTup (mCons (mTup (mCons (mC (.str "a")) (mCons (mC (.int 0)) mNil))) mNil)) (mCons (mTup (mCons (mC (.str "a")) (mCons (mC (.str "b")) mNil))) (mCons (mTup (mCons (mC (.int 0)) mNil)) mNil))))) mNil)))))
def m__law_any : MF := mFun 1 2 b__law_any
def b__law_due : MS :=
  (mSeq (mSet 1 (mFzD (mDict [((mC (.str "put")), (mC (.int 4))), ((mC (.str "out")), (mC (.int 2))), ((mC (.str "bar")), (mC (.int 4))), ((mC (.str "free")), (mC (.int 2))), ((mC (.str "step")), (mC (.int 3))), ((mC (.str "lead")), (mC (.int 2))), ((mC (.str "ask")), (mC (.int 3))), ((mC (.str "forget")), (mC (.int 2)))])))
    (mSeq (mIfS (mOr (mNot (mTst (mIsi isTup (mVar 0)))) (mOr (mTst (mBin (dEq0 id) (mVar 0) (mTup mNil))) (mNot (mTst (mIsi isStr (mBin dIx (mVar 0) (mC (.int 0))))))))
    (mRet (mC (.bool false))) mNext)
    (mRet (mAndV (mBin dIn (mBin dIx (mVar 0) (mC (.int 0))) (mVar 1)) (mBin dEq (mB dLen (mCons (mVar 0) mNil)) (mBin dIx (mVar 1) (mBin dIx (mVar 0) (mC (.int 0)))))))))
def m__law_due : MF := mFun 1 2 b__law_due
def b__law_bent : MS :=
  (mSeq (mSet 2 (mBin dAdd (mC (.int 1)) (mCall m__law_draw (mCons (mVar 0) (mCons (mBin dSub (mB dLen (mCons (mVar 1) mNil)) (mC (.int 1))) mNil)))))
    (mSeq (mSet 3 (mCall m__law_pick (mCons (mVar 0) (mCons (mLst (mCons (mC (.str "put")) (mCons (mC (.str "out")) (mCons (mC (.str "bar")) (mCons (mC (.str "free")) (mCons (mC (.str "step")) (mCons (mC (.str "lead")) (mCons (mC (.str "ask")) (mCons (mC (.str "forget")) (mCons (mC (.str "back")) (mCons (mC (.str "do")) (mCons (mC (.str "still")) (mCons (mC (.str "")) mNil))))))))))))) mNil))))
    (mSeq (mSet 4 (mLst (mCons (mBin dAdd (mVar 1) (mTup (mCons (mCall m__law_any (mCons (mVar 0) mNil)) mNil))) (mCons (mBin dAdd (mSl (mVar 1) mNoPart (mPart (mVar 2))) (mSl (mVar 1) (mPart (mBin dAdd (mVar 2) (mC (.int 1)))) mNoPart)) (mCons (mB dList (mCons (mVar 1) mNil)) (mCons (mSl (mVar 1) mNoPart (mPart (mC (.int 1)))) (mCons (mSl (mVar 1) (mPart (mC (.int 1))) mNoPart) (mCons (mUn dRev (mVar 1)) mNil))))))))
    (mSeq (mSet 4 (mBin dAdd (mVar 4) (mLst (mCons (mBin dAdd (mTup (mCons (mUn dUpper (mBin dIx (mVar 1) (mC (.int 0)))) mNil)) (mSl (mVar 1) (mPart (mC (.int 1))) mNoPart)) (mCons (mBin dAdd (mTup (mCons (mBin dAdd (mBin dIx (mVar 1) (mC (.int 0))) (mC (.str "s"))) mNil)) (mSl (mVar 1) (mPart (mC (.int 1))) mNoPart)) (mCons (mBin dAdd (mTup (mCons (mVar 3) mNil)) (mSl (mVar 1) (mPart (mC (.int 1))) mNoPart)) (mCons (mTup (mCons (mVar 1) mNil)) mNil)))))))
    (mSeq (mSet 4 (mBin dAdd (mVar 4) (mLst (mCons (mBin dAdd (mTup (mCons (mTup (mCons (mBin dIx (mVar 1) (mC (.int 0))) mNil)) mNil)) (mSl (mVar 1) (mPart (mC (.int 1))) mNoPart)) (mCons (mBin dAdd (mTup (mCons (mLst (mCons (mBin dIx (mVar 1) (mC (.int 0))) mNil)) mNil)) (mSl (mVar 1) (mPart (mC (.int 1))) mNoPart)) (mCons (mBin dAdd (mTup (mCons (mC .none) mNil)) (mSl (mVar 1) (mPart (mC (.int 1))) mNoPart)) (mCons (mFzD (mDict [((mBin dIx (mVar 1) (mC (.int 0))), (mSl (mVar 1) (mPart (mC (.int 1))) mNoPart))])) mNil)))))))
    (mRet (mBin dAdd (mVar 4) (mLst (mCons (mBin dAdd (mBin dAdd (mSl (mVar 1) mNoPart (mPart (mVar 2))) (mTup (mCons (mCall m__law_any (mCons (mVar 0) mNil)) mNil))) (mSl (mVar 1) (mPart (mBin dAdd (mVar 2) (mC (.int 1)))) mNoPart)) (mCons (mBin dIx (mVar 1) (mC (.int 0))) (mCons (mBin dAdd (mVar 1) (mVar 1)) (mCons (mBin dAdd (mTup (mCons (mSl (mBin dIx (mVar 1) (mC (.int 0))) mNoPart (mPart (mUn dNeg (mC (.int 1))))) mNil)) (mSl (mVar 1) (mPart (mC (.int 1))) mNoPart)) mNil))))))))))))
def m__law_bent : MF := mFun 2 5 b__law_bent
def b__law_right : MS :=
  (mSeq (mPar 1 2 (mCons (mB dRepr2 (mCons (mVar 0) mNil)) (mCons (mB dRepr2 (mCons (mCall m__law_due (mCons (mVar 0) mNil)) mNil)) mNil)))
    (mSeq (mSet 3 (mLst (mCons (mB dRepr2 (mCons (mCall m_is_deed (mCons (mVar 0) mNil)) mNil)) (mCons (mB dRepr2 (mCons (mCallK m_is_deed (pick 0 1 [0]) mNil (mCons (mVar 0) mNil)) mNil)) mNil))))
    (mRet (mAndV (mBin dEq (mVar 3) (mLst (mCons (mVar 2) (mCons (mVar 2) mNil)))) (mBin (dEqS id) (mB dRepr2 (mCons (mVar 0) mNil)) (mVar 1))))))
def m__law_right : MF := mFun 1 4 b__law_right
def b_law : MS :=
  (mSeq (mFor (mIter (mLst (mCons (mC (.str "put")) (mCons (mC (.str "out")) (mCons (mC (.str "bar")) (mCons (mC (.str "free")) (mCons (mC (.str "step")) (mCons (mC (.str "lead")) (mCons (mC (.str "ask")) (mCons (mC (.str "forget")) mNil)))))))))) (mGn 2)
    (mSeq (mSet 3 (mGet (mFzD (mDict [((mC (.str "put")), (mC (.int 3))), ((mC (.str "bar")), (mC (.int 3))), ((mC (.str "step")), (mC (.int 2))), ((mC (.str "ask")), (mC (.int 2)))])) (mVar 2) (mC (.int 1))))
    (mSeq (mSet 4 (mBin dAdd (mTup (mCons (mVar 2) mNil)) (mB dTuple (mCons (mFz (mComp (mRange1 (mCons (mVar 3) mNil)) (mGn 7) mYes (mCall m__law_any (mCons (mVar 1) mNil)) [7])) mNil))))
    (mSeq (mIfS (mTst (mBin dNotB (mCall m_is_deed (mCons (mVar 4) mNil)) (mC (.bool true))))
    (mRet (mC (.bool false))) mNext)
    (mIfS (mTst (mBin (dEqL0 not) (mFz (mComp (mIter (mBin dAdd (mBin dAdd (mLst (mCons (mVar 4) mNil)) (mCall m__law_bent (mCons (mVar 1) (mCons (mVar 4) mNil)))) (mLst (mCons (mVar 4) mNil)))) (mGn 8) (mNot (mTst (mCall m__law_right (mCons (mVar 8) mNil)))) (mVar 8) [8])) (mLst mNil)))
    (mRet (mC (.bool false))) mNext)))))
    (mSeq (mSet 5 (mLst (mCons (mC (.str "back")) (mCons (mC (.str "together")) (mCons (mC (.str "do")) (mCons (mC (.str "log")) (mCons (mC (.str "where")) (mCons (mC (.str "still")) (mCons (mC (.str "named")) (mCons (mC (.str "kept")) (mCons (mC (.str "answers")) (mCons (mC (.str "world")) (mCons (mC (.str "look")) (mCons (mC (.str "")) (mCons (mC (.str "Put")) mNil)))))))))))))))
    (mSeq (mSet 6 (mBin dAdd (mBin dAdd (mFz (mComp (mIter (mVar 5)) (mGn 2) mYes (mTup (mCons (mVar 2) (mCons (mC (.int 0)) mNil))) [2])) (mFz (mComp (mIter (mVar 5)) (mGn 2) mYes (mTup (mCons (mVar 2) mNil)) [2]))) (mVar 5)))
    (mSeq (mSet 6 (mBin dAdd (mVar 6) (mLst (mCons (mC .none) (mCons (mC (.bool true)) (mCons (mC (.int 0)) (mCons (mTup mNil) (mCons (mLst mNil) (mCons (mFzD mNewD) (mCons (mTup (mCons (mTup mNil) mNil)) (mCons (mTup (mCons (mC .none) mNil)) (mCons (mTup (mCons (mC (.str "put")) mNil)) (mCons (mLst (mCons (mC (.str "out")) (mCons (mC (.str "a")) mNil))) (mCons (mTup (mCons (mC (.str "out")) (mCons (mC (.str "a")) (mCons (mC (.str "a")) mNil)))) (mCons (mTup (mCons (mC (.int 0)) (mCons (mC (.str "a")) mNil))) mNil)))))))))))))))
    (mRet (mBin (dEqL0 id) (mFz (mComp (mIter (mVar 6)) (mGn 8) (mNot (mTst (mCall m__law_right (mCons (mVar 8) mNil)))) (mVar 8) [8])) (mLst mNil)))))))
end G_k61
namespace G_k61
open PySem MM L2 PP SZ
/-! draws -/
theorem draw_ok {lots : Int} {k : Dk} {n : Nat} (v : Vd k n) (hn : n < 2 ^ 59) (hl : 0 < lots) (h1 : lots < 1073741824) : FoP (fun d k' => ∃ r, d = .int r ∧ 0 ≤ r ∧ r < lots ∧ Vd k' (n + 1)) (m__law_draw [deckD, .int lots] k) := by
  obtain ⟨c, t0, t1⟩ := v
  obtain ⟨cells, seed, t⟩ := k
  dsimp only at c t0 t1
  refine fn_ret rfl ?_
  have b1 : -(2 ^ 64) < t + 1 ∧ t + 1 < 2 ^ 64 := by omega
  have m1 : ∀ x : Int, -(2 ^ 64) < x % 2147483563 ∧ x % 2147483563 < 2 ^ 64 := fun x => by omega
  have m2 : ∀ x : Int, -(2 ^ 64) < x % 2147483647 ∧ x % 2147483647 < 2 ^ 64 := fun x => by omega
  have z1 : ∀ x : Int, 0 ≤ x % lots := fun x => Int.emod_nonneg _ (by omega)
  have z2 : ∀ x : Int, x % lots < lots := fun x => Int.emod_lt_of_pos _ hl
  have vd : ∀ cells' : List Int, ∀ s' : Int, cells'.length ≤ 63 → Vd ⟨cells', s', t + 1⟩ (n + 1) := fun cells' s' h => ⟨h, by show 0 ≤ t + 1; omega, by show t + 1 ≤ ((n + 1 : Nat) : Int); omega⟩
  unfold b__law_draw
  by_cases hc : cells = []
  · subst hc
    simp [sl0, dMod_i, dFdiv_i, dMul_i (.inl (by decide) : (-(2 ^ 64) < (7919 : Int) ∧ (7919 : Int) < 2 ^ 64) ∨ _), dMul_i (.inl (by decide) : (-(2 ^ 64) < (39373 : Int) ∧ (39373 : Int) < 2 ^ 64) ∨ _), dMul_i (.inr b1), dMul_i (.inr (by decide) : _ ∨ (-(2 ^ 64) < (48271 : Int) ∧ (48271 : Int) < 2 ^ 64)), dMul_i (.inr (by decide) : _ ∨ (-(2 ^ 64) < (40692 : Int) ∧ (40692 : Int) < 2 ^ 64)), dMul_i (.inl (m1 _)), dMul_i (.inl (m2 _)), hl, List.replicate, z1, z2]
    exact vd _ _ (by simp)
  · obtain ⟨z, hz⟩ : ∃ z, cells.getLast? = some z := by
      cases h : cells.getLast? with
      | none => exact absurd (List.getLast?_eq_none_iff.mp h) hc
      | some z => exact ⟨z, rfl⟩
    have hne : cells.isEmpty = false := by simpa using hc
    have hdl : cells.dropLast.length ≤ 62 := by rw [List.length_dropLast]; omega
    by_cases hb : 1000000000000000000 ≤ z
    · have hs : cells.length - 1 < sizeLine := by show _ < 2 ^ 24; omega
      simp [sl0, dMod_i, dFdiv_i, hl, h1, List.replicate, z1, z2, hne, hz, dPow10, hb, hs]
      exact vd _ _ (by simp; omega)
    · simp [sl0, dMod_i, dFdiv_i, dMul_i (.inl (by decide) : (-(2 ^ 64) < (7919 : Int) ∧ (7919 : Int) < 2 ^ 64) ∨ _), dMul_i (.inl (by decide) : (-(2 ^ 64) < (39373 : Int) ∧ (39373 : Int) < 2 ^ 64) ∨ _), dMul_i (.inr b1), dMul_i (.inr (by decide) : _ ∨ (-(2 ^ 64) < (48271 : Int) ∧ (48271 : Int) < 2 ^ 64)), dMul_i (.inr (by decide) : _ ∨ (-(2 ^ 64) < (40692 : Int) ∧ (40692 : Int) < 2 ^ 64)), dMul_i (.inl (m1 _)), dMul_i (.inl (m2 _)), hl, List.replicate, z1, z2, hne, hz, dPow10, hb]
      exact vd _ _ (by simp; omega)
theorem draw_nat {lots : Nat} {k : Dk} {n : Nat} (v : Vd k n) (hn : n < 2 ^ 59) (hl : 0 < lots) (h1 : lots < 1073741824) : ∃ r k', m__law_draw [deckD, iD lots] k = .ret (iD r) k' ∧ r < lots ∧ Vd k' (n + 1) := by
  obtain ⟨d, k', e, r, rfl, r0, r1, v'⟩ := (draw_ok (lots := (lots : Int)) v hn (by omega) (by omega)).ex
  refine ⟨r.toNat, k', ?_, by omega, v'⟩
  have : iD r.toNat = .int r := by unfold iD; congr 1; omega
  rw [this]; exact e
def deckL : MS := (mSet 2 (mBin dMod (mBin dAdd (mBin dAdd (mBin dMul (mVar 2) (mC (.int 69069))) (mBin dMod (mVar 3) (mC (.int 2147483629)))) (mC (.int 11))) (mC (.int 2147483587))))
theorem deck_ok (ns : List Int) (h : ns.length ≤ 63) : ∃ k k', m__law_deck [.list (ns.map .int)] k00 = .ret (deckDict "seed" "turn" k) k' ∧ Vd k 0 := by
  obtain ⟨ps', eL, z, s3, rfl⟩ := loop_inv (g := mGn 3) (body := deckL) (fun done ps => ∃ z s3, ps = ⟨[.no, .fz (.list (ns.map .int)), .fz (.int z), s3], k00⟩)
    (ds := ns.map .int) (ps := ⟨[.no, .fz (.list (ns.map .int)), .fz (.int 77003), .no], k00⟩) ⟨_, _, rfl⟩ (by
      rintro done d rest ps hx ⟨z, s3, rfl⟩
      obtain ⟨m, -, rfl⟩ := List.mem_map.mp (show d ∈ ns.map PyData.int by rw [hx]; simp)
      refine ⟨_, _, rfl, .inl ?_, (z * 69069 + m % 2147483629 + 11) % 2147483587, .fz (.int m), rfl⟩
      unfold deckL
      simp [dMod_i, dMul_i (.inr (by decide) : _ ∨ (-(2 ^ 64) < (69069 : Int) ∧ (69069 : Int) < 2 ^ 64))])
  unfold deckL at eL
  have hk : toKeys [(.str "cells", .list (ns.map PyData.int).reverse), (.str "seed", .int z), (.str "turn", .int 0)] = some [(.inr "cells", .list (ns.map PyData.int).reverse), (.inr "seed", .int z), (.inr "turn", .int 0)] := rfl
  have hm := merge3 (a := .inr "cells") (b := .inr "seed") (c := .inr "turn") (x := .list (ns.map PyData.int).reverse) (y := .int z) (z := .int 0) (by decide +kernel) (by decide +kernel) (by decide +kernel)
  refine ⟨⟨ns.reverse, z, 0⟩, k00, ?_, ⟨by simpa using h, by show (0 : Int) ≤ 0; omega, by show (0 : Int) ≤ 0; omega⟩⟩
  have e : b__law_deck ⟨[.no, .fz (.list (ns.map .int)), .no, .no], k00⟩ = .ret (deckDict "seed" "turn" ⟨ns.reverse, z, 0⟩) ⟨[.no, .fz (.list (ns.map .int)), .fz (.int z), s3], k00⟩ := by
    unfold b__law_deck
    have h15 : ([(.inr "cells", .list (ns.map PyData.int).reverse), (.inr "seed", .int z), (.inr "turn", .int 0)] : List (Key × D)).length ≤ 15 := by show 3 ≤ 15; omega
    simp only [e_seq, e_set, e_bin, e_c, e_b, e_cons, e_nil, e_var, e_for, e_iter, e_ret, e_fzD, e_dict, e_pairs0, e_pairs1, e_un, Out.bind_ok, Out.bindS_ok, Out.of_some, List.getElem?_cons_succ, List.getElem?_cons_zero, List.set_cons_succ, List.set_cons_zero, dAdd_int, dSeq, eL, dRev_list, hk, h15, if_true, hm]
    simp [deckDict, dctD, kD, List.map_reverse]
  unfold m__law_deck mFunS
  have e0 : (List.replicate 4 Sl.no).set 1 (.fz (.list (ns.map .int))) = [.no, .fz (.list (ns.map .int)), .no, .no] := rfl
  simp only [e0, e]
/-! what is shown: a bound of its text, its depth -/
structure Sh (n m : Nat) (d : D) : Prop where
  s : d.showable = true
  l : d.shown.length ≤ n
  m_ : d.depth ≤ m
  c : cln true d = true
theorem Sh.le {n n2 m m2 : Nat} {d : D} (h : Sh n m d) (a : n ≤ n2) (b : m ≤ m2) : Sh n2 m2 d := ⟨h.s, Nat.le_trans h.l a, Nat.le_trans h.m_ b, h.c⟩
theorem Sh.ok {n m : Nat} {d : D} (h : Sh n m d) (a : n ≤ 16777216) (b : m ≤ 64) : shwOk2 d = true := by
  have a1 : d.shown.length ≤ sizeLine := sz_le (Nat.le_trans h.l a)
  have a2 : d.depth ≤ 64 := Nat.le_trans h.m_ b
  unfold shwOk2
  rw [h.s, h.c, decide_eq_true a1, decide_eq_true a2]; rfl
def shB (d : D) : Bool := d.showable && decide (d.shown.length ≤ 200) && decide (d.depth ≤ 5) && cln true d
theorem sh_of {d : D} (h : shB d = true) : Sh 200 5 d := by
  unfold shB at h
  rw [Bool.and_eq_true, Bool.and_eq_true, Bool.and_eq_true, decide_eq_true_eq, decide_eq_true_eq] at h
  exact ⟨h.1.1.1, h.1.1.2, h.1.2, h.2⟩
def AllSh (n m : Nat) (xs : List D) : Prop := ∀ x ∈ xs, Sh n m x
theorem all_sh {n m : Nat} : ∀ {xs : List D}, AllSh n m xs → PyData.showableAll xs = true ∧ piled (PyData.shownAll xs) ≤ xs.length * (n + 2) ∧ PyData.depthAll xs ≤ m ∧ clnAll true xs = true
  | [], _ => ⟨by rw [PyData.showableAll], by simp [PyData.shownAll, piled], by rw [PyData.depthAll]; omega, by rw [clnAll]⟩
  | x :: xs, h => by
    obtain ⟨a, b, c, d⟩ := all_sh (n := n) (m := m) (xs := xs) fun y hy => h y (by simp [hy])
    have hx := h x (by simp)
    refine ⟨by rw [PyData.showableAll, hx.s, a]; rfl, ?_, ?_, by rw [clnAll, hx.c, d]; rfl⟩
    · rw [PyData.shownAll, piled_cons, List.length_cons, Nat.succ_mul]
      have := hx.l
      omega
    · rw [PyData.depthAll]
      have := hx.m_
      omega
theorem tup_sh {n m c : Nat} {xs : List D} (h : AllSh n m xs) (hl : xs.length ≤ c) : Sh (c * (n + 2) + 3) (m + 1) (.tuple xs) := by
  obtain ⟨a, b, d, e⟩ := all_sh h
  have hm := Nat.mul_le_mul hl (Nat.le_refl (n + 2))
  refine ⟨by rw [PyData.showable]; exact a, ?_, by rw [PyData.depth]; omega, by rw [cln]; exact e⟩
  have := tupleText_le (PyData.shownAll xs)
  simp only [PyData.shown]
  omega
theorem lst_sh {n m c : Nat} {xs : List D} (h : AllSh n m xs) (hl : xs.length ≤ c) : Sh (c * (n + 2) + 3) (m + 1) (.list xs) := by
  obtain ⟨a, b, d, e⟩ := all_sh h
  have hm := Nat.mul_le_mul hl (Nat.le_refl (n + 2))
  refine ⟨by rw [PyData.showable]; exact a, ?_, by rw [PyData.depth]; omega, by rw [cln, e]; rfl⟩
  have := listText_le (PyData.shownAll xs)
  simp only [PyData.shown]
  omega
/-! is_deed -/
def deedD : D → Bool
  | .tuple (.str z :: r) => match kv_MANY.lookup z with
    | some n => decide (1 + (r.length : Int) = 1 + n)
    | none => false
  | _ => false
theorem isDeck_of {x : D} {l : Bool} (h : cln l x = true) : isDeck x = false := by
  cases x with
  | dict kvs => rw [cln, Bool.and_eq_true] at h; simpa using h.1
  | _ => rfl
theorem head_cln {l : Bool} {x : D} {xs : List D} (h : clnAll l (x :: xs) = true) : isDeck x = false := by
  rw [clnAll, Bool.and_eq_true] at h
  exact isDeck_of h.1
theorem len_cons (x : D) (r : List D) : dLen [.tuple (x :: r)] = some (.int (1 + (r.length : Int))) := by
  show some (PyData.int ((x :: r).length : Int)) = _
  rw [List.length_cons]
  congr 2
  omega
theorem dEq_i (a b : Int) : dEq (.int a) (.int b) = some (.bool (decide (a = b))) := by
  have h1 : SeqAt.shaped (.int a) = true := rfl
  have h2 : SeqAt.shaped (.int b) = true := rfl
  have h3 : PyData.eqv (.int a) (.int b) = decide (a = b) := by
    show (a == b) = _
    by_cases h : a = b
    · subst h; simp
    · rw [decide_eq_false h]; exact beq_eq_false_iff_ne.mpr h
  unfold dEq
  rw [h1, h2, h3]; rfl
theorem is_deed_ok {x : D} {l : Bool} (hc : cln l x = true) (k : Dk) : m_is_deed [x] k = .ret (.bool (deedD x)) k := by
  have hd := isDeck_of hc
  have z0 : 0 ≤ sizeLine := sz_le (by omega)
  cases x with
  | tuple xs =>
    cases xs with
    | nil =>
      have q0 : dEq0 id (.tuple []) (.tuple []) = some (.bool true) := rfl
      unfold m_is_deed mFun b_is_deed
      simp [sl0, List.replicate, hd, isTup, q0, z0, deedD]
    | cons y r =>
      have q0 : dEq0 id (.tuple (y :: r)) (.tuple []) = some (.bool false) := rfl
      have i0 : dIx (.tuple (y :: r)) (.int 0) = some y := dIx_tuple (i := 0) rfl
      rw [cln] at hc
      have dy := head_cln hc
      cases y with
      | str z =>
        have hl := len_cons (.str z) r
        have e1 : dInK kv_MANY (.str z) = some (.bool (kv_MANY.lookup z).isSome) := rfl
        show _ = Fo.ret (.bool (match kv_MANY.lookup z with
          | some n => decide (1 + (r.length : Int) = 1 + n)
          | none => false)) k
        cases h : kv_MANY.lookup z with
        | none =>
          rw [h] at e1
          have e1 : dInK kv_MANY (.str z) = some (.bool false) := e1
          unfold m_is_deed mFun b_is_deed
          simp [sl0, List.replicate, hd, isTup, q0, z0, i0, dy, isStr, e1]
        | some n =>
          rw [h] at e1
          have e1 : dInK kv_MANY (.str z) = some (.bool true) := e1
          have e2 : dIxK kv_MANY (.str z) = some (.int n) := by show (kv_MANY.lookup z).map _ = _; rw [h]; rfl
          have e3 := dEq_i (1 + (r.length : Int)) (1 + n)
          unfold m_is_deed mFun b_is_deed
          simp [sl0, List.replicate, hd, isTup, q0, z0, i0, dy, isStr, e1, e2, hl, e3]
      | _ =>
        unfold m_is_deed mFun b_is_deed
        simp [sl0, List.replicate, hd, isTup, q0, z0, i0, dy, isStr, deedD]
  | _ =>
    unfold m_is_deed mFun b_is_deed
    simp [sl0, List.replicate, hd, isTup, deedD]
def longD : List (D × D) := kv_MANY.map fun p => (.str p.1, .int (1 + p.2))
theorem long_look (z : Str) : ∀ kv : List (Str × Int), dLook (kv.map fun p => ((.str p.1 : D), (.int (1 + p.2) : D))) (.inr z) = (kv.lookup z).map fun n => .int (1 + n)
  | [] => rfl
  | (a, n) :: r => by
    have ih := long_look z r
    unfold dLook at ih ⊢
    rw [List.map_cons, List.find?_cons, List.lookup_cons]
    have e : decide (toKey (.str a) = some (.inr z)) = decide (z = a) := by
      show decide (some (Sum.inr a : Key) = some (.inr z)) = _
      refine decide_eq_decide.mpr ⟨fun h => ?_, fun h => by rw [h]⟩
      injection h with h; injection h with h; exact h.symm
    dsimp only
    rw [e]
    by_cases h : z = a
    · subst h
      rw [decide_eq_true rfl, beq_self_eq_true]; rfl
    · rw [decide_eq_false h, beq_eq_false_iff_ne.mpr h]; exact ih
theorem due_ok {x : D} {l : Bool} (hc : cln l x = true) (k : Dk) : m__law_due [x] k = .ret (.bool (deedD x)) k := by
  have hd := isDeck_of hc
  have z0 : 0 ≤ sizeLine := sz_le (by omega)
  have tk : toKeys [(.str "put", .int 4), (.str "out", .int 2), (.str "bar", .int 4), (.str "free", .int 2), (.str "step", .int 3), (.str "lead", .int 2), (.str "ask", .int 3), (.str "forget", .int 2)] = some [(.inr "put", .int 4), (.inr "out", .int 2), (.inr "bar", .int 4), (.inr "free", .int 2), (.inr "step", .int 3), (.inr "lead", .int 2), (.inr "ask", .int 3), (.inr "forget", .int 2)] := rfl
  have md : dctD (mergeD [(.inr "put", .int 4), (.inr "out", .int 2), (.inr "bar", .int 4), (.inr "free", .int 2), (.inr "step", .int 3), (.inr "lead", .int 2), (.inr "ask", .int 3), (.inr "forget", .int 2)]) = .dict longD := rfl
  have hany : longD.any (fun p => (toKey p.1).isNone) = false := rfl
  have z8 : (8 : Nat) ≤ 15 := by omega
  cases x with
  | tuple xs =>
    cases xs with
    | nil =>
      have q0 : dEq0 id (.tuple []) (.tuple []) = some (.bool true) := rfl
      unfold m__law_due mFun b__law_due
      simp [sl0, List.replicate, hd, isTup, q0, z0, deedD, tk, md]
    | cons y r =>
      have q0 : dEq0 id (.tuple (y :: r)) (.tuple []) = some (.bool false) := rfl
      have i0 : dIx (.tuple (y :: r)) (.int 0) = some y := dIx_tuple (i := 0) rfl
      rw [cln] at hc
      have dy := head_cln hc
      cases y with
      | str z =>
        have hl := len_cons (.str z) r
        have lk := long_look z kv_MANY
        have e1 : dIn (.str z) (.dict longD) = some (.bool ((kv_MANY.lookup z).map fun n => PyData.int (1 + n)).isSome) := by
          show ((if longD.any (fun p => (toKey p.1).isNone) = true then none else (toKey (.str z)).map fun k => (dLook longD k).isSome).map PyData.bool) = _
          rw [hany, if_neg (by simp)]
          show some (PyData.bool (dLook longD (.inr z)).isSome) = _
          unfold longD
          rw [lk]
        have e2 : dIx (.dict longD) (.str z) = (kv_MANY.lookup z).map fun n => PyData.int (1 + n) := by
          show (if longD.any (fun p => (toKey p.1).isNone) = true then none else (toKey (.str z)).bind fun k => dLook longD k) = _
          rw [hany, if_neg (by simp)]
          show dLook longD (.inr z) = _
          unfold longD
          rw [lk]
        show _ = Fo.ret (.bool (match kv_MANY.lookup z with
          | some n => decide (1 + (r.length : Int) = 1 + n)
          | none => false)) k
        generalize longD = L at *
        cases h : kv_MANY.lookup z with
        | none =>
          rw [h] at e1
          have e1 : dIn (.str z) (.dict L) = some (.bool false) := e1
          unfold m__law_due mFun b__law_due
          simp [sl0, List.replicate, hd, isTup, q0, z0, i0, dy, isStr, e1, tk, md]
        | some n =>
          rw [h] at e1 e2
          have e1 : dIn (.str z) (.dict L) = some (.bool true) := e1
          have e2 : dIx (.dict L) (.str z) = some (.int (1 + n)) := e2
          have e3 := dEq_i (1 + (r.length : Int)) (1 + n)
          unfold m__law_due mFun b__law_due
          simp [sl0, List.replicate, hd, isTup, q0, z0, i0, dy, isStr, e1, e2, hl, e3, tk, md]
      | _ =>
        unfold m__law_due mFun b__law_due
        simp [sl0, List.replicate, hd, isTup, q0, z0, i0, dy, isStr, deedD, tk, md]
  | _ =>
    unfold m__law_due mFun b__law_due
    simp [sl0, List.replicate, hd, isTup, deedD, tk, md]
theorem rep_b (b : Bool) : dRepr2 [.bool b] = some (.str (PyData.bool b).shown) := by
  cases b
  · show (if shwOk2 (.bool false) = true then some _ else none) = _
    rw [if_pos (by decide +kernel)]
  · show (if shwOk2 (.bool true) = true then some _ else none) = _
    rw [if_pos (by decide +kernel)]
theorem two_eq (b : Bool) : dEq (.list [.str (PyData.bool b).shown, .str (PyData.bool b).shown]) (.list [.str (PyData.bool b).shown, .str (PyData.bool b).shown]) = some (.bool true) := by
  have h : SeqAt.shaped (.list [.str (PyData.bool b).shown, .str (PyData.bool b).shown]) = true ∧ PyData.eqv (.list [.str (PyData.bool b).shown, .str (PyData.bool b).shown]) (.list [.str (PyData.bool b).shown, .str (PyData.bool b).shown]) = true := by cases b <;> decide +kernel
  unfold dEq
  rw [h.1, h.2]; rfl
theorem right_ok {n m : Nat} {x : D} (h : Sh n m x) (a : n ≤ 16777216) (b : m ≤ 64) (k : Dk) : m__law_right [x] k = .ret (.bool true) k := by
  have t := is_deed_ok h.c k
  have d := due_ok h.c k
  have ok := h.ok a b
  have hr : dRepr2 [x] = some (.str x.shown) := by
    show (if shwOk2 x = true then some (PyData.str x.shown) else none) = _
    rw [if_pos ok]
  have hb := rep_b (deedD x)
  have h2 := two_eq (deedD x)
  have hp : pick 0 1 [0] [] [x] = [x] := rfl
  generalize (PyData.bool (deedD x)).shown = S at hb h2
  generalize x.shown = S2 at hr
  have eq : dEqS id (.str S2) (.str S2) = some (.bool true) := by simp [dEqS]
  have z2 : 2 ≤ sizeLine := sz_le (by omega)
  unfold m__law_right mFun b__law_right
  simp [sl0, List.replicate, hr, d, t, hb, hp, h2, eq, z2]
end G_k61
namespace G_k61
open PySem MM L2 PP SZ
theorem dLen_list (xs : List D) : dLen [.list xs] = some (iD xs.length) := rfl
theorem pick_ok {xs : List D} (h0 : 0 < xs.length) (h1 : xs.length < 1000) {k : Dk} {c : Nat} (v : Vd k c) (hc : c < 2 ^ 58) : ∃ x k', m__law_pick [deckD, .list xs] k = .ret x k' ∧ x ∈ xs ∧ Vd k' (c + 1) := by
  obtain ⟨r, k1, e1, hr, v1⟩ := draw_nat (lots := xs.length) v (by omega) h0 (by omega)
  have hx := dIx_list (List.getElem?_eq_getElem hr)
  refine ⟨xs[r], k1, ?_, List.getElem_mem hr, v1⟩
  generalize xs[r] = y at hx
  have hl := dLen_list xs
  unfold m__law_pick mFun b__law_pick
  simp [sl0, List.replicate, hl, e1, hx]
def anys : List D := [.none, .bool true, .int 0, .int (-1), .int 1000000000000000000000000000000000000000, .str "", .str "a", .str "put", .tuple [], .list [], .dict [], .tuple [.tuple []], .list [.str "put"], .tuple [.str "put"], .dict [(.str "put", .int 0)], .tuple [.int 0, .int 1],
  .tuple [.tuple [.str "a", .int 0]], .tuple [.str "a", .str "b"], .tuple [.int 0]]
theorem anys_sh : ∀ x ∈ anys, Sh 200 5 x := by
  have h : anys.all shB = true := by decide +kernel
  intro x hx
  exact sh_of (List.all_eq_true.mp h x hx)
theorem any_ok {k : Dk} {c : Nat} (v : Vd k c) (hc : c < 2 ^ 58) : ∃ x k', m__law_any [deckD] k = .ret x k' ∧ Sh 200 5 x ∧ Vd k' (c + 1) := by
  obtain ⟨x, k1, e1, hx, v1⟩ := pick_ok (xs := anys) (by show 0 < 19; omega) (by show 19 < 1000; omega) v hc
  refine ⟨x, k1, ?_, anys_sh x hx, v1⟩
  have p39 : dPow (.int 10) (.int 39) = some (.int 1000000000000000000000000000000000000000) := rfl
  have tk : toKeys [(.str "put", .int 0)] = some [(.inr "put", .int 0)] := rfl
  have e0 : dctD [] = .dict [] := rfl
  have e2 : dctD (mergeD [(.inr "put", .int 0)]) = .dict [(.str "put", .int 0)] := rfl
  have ha : dAdd (.list [.none, .bool true, .int 0, .int (-1), .int 1000000000000000000000000000000000000000, .str "", .str "a", .str "put", .tuple [], .list [], .dict [], .tuple [.tuple []], .list [.str "put"], .tuple [.str "put"], .dict [(.str "put", .int 0)], .tuple [.int 0, .int 1]])
      (.list [.tuple [.tuple [.str "a", .int 0]], .tuple [.str "a", .str "b"], .tuple [.int 0]]) = some (.list anys) := by
    rw [dAdd_list (by show 16 + 3 ≤ 16777216; omega)]; rfl
  have z : ∀ n : Nat, n ≤ 100 → n ≤ sizeLine := fun n h => sz_le (by omega)
  have z0 := z 0 (by omega)
  have z1 := z 1 (by omega)
  have z2 := z 2 (by omega)
  have z3 := z 3 (by omega)
  have z16 := z 16 (by omega)
  generalize anys = A at *
  unfold m__law_any mFun b__law_any
  simp [sl0, List.replicate, p39, tk, e0, e2, ha, z0, z1, z2, z3, z16, e1]
/-! a deed's word, and what is made of it -/
def wOk (w : Str) : Bool := shB (.str w) && shB (.str (Txt.upper w)) && shB (.str (w ++ "s")) && shB (.str (cutS w none (some (-1)))) && decide (w.length ≤ 100) && shB (.tuple [.str w]) && shB (.list [.str w])
theorem cutL1 {α : Type} (xs : List α) : cut xs none (some (-1)) = xs.dropLast := by
  show (xs.drop 0).take (HT.sIx xs.length xs.length (some (-1)) - 0) = _
  have : HT.sIx xs.length xs.length (some (-1)) = xs.length - 1 := by
    show ((-1 : Int) + (xs.length : Int)).toNat = _
    omega
  rw [this, List.drop_zero, Nat.sub_zero, List.dropLast_eq_take]
theorem cut_mem {α : Type} {xs : List α} {lo hi : Option Int} {x : α} (h : x ∈ cut xs lo hi) : x ∈ xs := List.mem_of_mem_drop (List.mem_of_mem_take h)
theorem cut_len {α : Type} (xs : List α) (lo hi : Option Int) : (cut xs lo hi).length ≤ xs.length := by
  unfold cut
  rw [List.length_take, List.length_drop]; omega
def Good (x : D) : Prop := Sh 100000 20 x
theorem cons_all {n m : Nat} {x : D} {xs : List D} (h : Sh n m x) (t : AllSh n m xs) : AllSh n m (x :: xs) := fun y hy => by
  rcases List.mem_cons.mp hy with e | e
  · rw [e]; exact h
  · exact t y e
theorem app_all {n m : Nat} {xs ys : List D} (h : AllSh n m xs) (t : AllSh n m ys) : AllSh n m (xs ++ ys) := fun y hy => (List.mem_append.mp hy).elim (h y) (t y)
theorem cut_all {n m : Nat} {xs : List D} {lo hi : Option Int} (h : AllSh n m xs) : AllSh n m (cut xs lo hi) := fun y hy => h y (cut_mem hy)
theorem tup_good {xs : List D} (h : AllSh 200 5 xs) (hl : xs.length ≤ 10) : Good (.tuple xs) := (tup_sh h hl).le (by omega) (by omega)
theorem cut1' {α : Type} (x : α) (xs : List α) : cut (x :: xs) none (some 1) = [x] := by rw [cut1]; rfl
theorem dict1 {w : Str} {t : D} (hw : Sh 200 5 (.str w)) (ht : Sh 5000 8 t) : Good (.dict [(.str w, t)]) := by
  refine ⟨?_, ?_, ?_, ?_⟩
  · simp [PyData.showable, PyData.showableKv, ht.s]
  · have e : (PyData.dict [(.str w, t)]).shown = dictText [(PyData.str w).shown ++ ": " ++ t.shown] := by simp only [PyData.shown, PyData.shownKv]
    rw [e]
    have j := join_length_add [(PyData.str w).shown ++ ": " ++ t.shown] (by simp)
    rw [piled_cons, piled_nil] at j
    have l1 := hw.l
    have l2 := ht.l
    have a : ((PyData.str w).shown ++ ": " ++ t.shown : Str).length = (PyData.str w).shown.length + 2 + t.shown.length := by rw [strLen_append, strLen_append]; rfl
    unfold dictText
    rw [strLen_append, strLen_append]
    have b1 : ("{" : Str).length = 1 := rfl
    have b2 : ("}" : Str).length = 1 := rfl
    omega
  · simp [PyData.depth, PyData.depthKv]; have := ht.m_; omega
  · rw [cln, clnKv, clnKv, ht.c]; rfl
theorem w_of {w : Str} (h : wOk w = true) : Sh 200 5 (.str w) ∧ Sh 200 5 (.str (Txt.upper w)) ∧ Sh 200 5 (.str (w ++ "s")) ∧ Sh 200 5 (.str (cutS w none (some (-1)))) ∧ w.length ≤ 100 ∧ Sh 200 5 (.tuple [.str w]) ∧ Sh 200 5 (.list [.str w]) := by
  unfold wOk at h
  simp only [Bool.and_eq_true, decide_eq_true_eq] at h
  obtain ⟨⟨⟨⟨⟨⟨a, b⟩, c⟩, d⟩, e⟩, f⟩, g⟩ := h
  exact ⟨sh_of a, sh_of b, sh_of c, sh_of d, e, sh_of f, sh_of g⟩
def words : List D := [.str "put", .str "out", .str "bar", .str "free", .str "step", .str "lead", .str "ask", .str "forget", .str "back", .str "do", .str "still", .str ""]
theorem words_sh : ∀ x ∈ words, Sh 200 5 x := by
  have h : words.all shB = true := by decide +kernel
  intro x hx
  exact sh_of (List.all_eq_true.mp h x hx)
theorem none_sh : Sh 200 5 .none := sh_of (by decide +kernel)
theorem bent_ok {w : Str} {xs : List D} (hw : wOk w = true) (hx : AllSh 200 5 xs) (hm : 1 ≤ xs.length) (hm3 : xs.length ≤ 3) {k : Dk} {c : Nat} (v : Vd k c) (hc : c < 2 ^ 50) :
    ∃ B k', m__law_bent [deckD, .tuple (.str w :: xs)] k = .ret (.list B) k' ∧ (∀ x ∈ B, Good x) ∧ B.length = 18 ∧ Vd k' (c + 10) := by
  obtain ⟨h1, h2, h3, h4, h5, h6, h7⟩ := w_of hw
  obtain ⟨r, k1, e1, hr, v1⟩ := draw_nat (lots := xs.length) v (by omega) hm (by omega)
  obtain ⟨o, k2, e2, ho, v2⟩ := pick_ok (xs := words) (by show 0 < 12; omega) (by show 12 < 1000; omega) v1 (by omega)
  obtain ⟨y, k3, e3, hy, v3⟩ := any_ok v2 (by omega)
  obtain ⟨y2, k4, e4, hy2, v4⟩ := any_ok v3 (by omega)
  have hos := words_sh o ho
  have hD := cons_all h1 hx
  have hl : (PyData.str w :: xs : List D).length = xs.length + 1 := List.length_cons
  have dl : dLen [.tuple (.str w :: xs)] = some (iD (xs.length + 1)) := rfl
  have sb : dSub (iD (xs.length + 1)) (.int 1) = some (iD xs.length) := dSub_iD1 (by omega)
  have ad : dAdd (.int 1) (iD r) = some (iD (1 + r)) := dAdd_iD 1 r
  have ad1 : dAdd (iD (1 + r)) (.int 1) = some (iD (1 + r + 1)) := rfl
  have in1 : dInt (iD (1 + r)) = some ((1 + r : Nat) : Int) := rfl
  have in2 : dInt (iD (1 + r + 1)) = some ((1 + r + 1 : Nat) : Int) := rfl
  generalize hd : (PyData.str w :: xs : List D) = ds at *
  have i0 : dIx (.tuple ds) (.int 0) = some (.str w) := by rw [← hd]; exact dIx_tuple (i := 0) rfl
  have s1 : dSl (.tuple ds) none (some 1) = some (.tuple [.str w]) := by rw [dSl_tuple, ← hd, cut1']
  have s2 : dSl (.tuple ds) (some 1) none = some (.tuple xs) := by
    rw [dSl_tuple, ← hd]
    have : cut (PyData.str w :: xs) (some 1) none = xs := by
      show ((PyData.str w :: xs).drop (HT.sIx (xs.length + 1) 0 (some ((1 : Nat) : Int)))).take (xs.length + 1 - HT.sIx (xs.length + 1) 0 (some ((1 : Nat) : Int))) = xs
      rw [HT.sIx_nat, Nat.min_eq_left (by omega)]
      simp
    rw [this]
  have s3 : dSl (.tuple ds) none (some ((1 + r : Nat) : Int)) = some (.tuple (cut ds none (some ((1 + r : Nat) : Int)))) := dSl_tuple _ _ _
  have s4 : dSl (.tuple ds) (some ((1 + r + 1 : Nat) : Int)) none = some (.tuple (cut ds (some ((1 + r + 1 : Nat) : Int)) none)) := dSl_tuple _ _ _
  have g1 := cut_all (lo := none) (hi := some ((1 + r : Nat) : Int)) hD
  have g2 := cut_all (lo := some ((1 + r + 1 : Nat) : Int)) (hi := none) hD
  have l1 := cut_len ds none (some ((1 + r : Nat) : Int))
  have l2 := cut_len ds (some ((1 + r + 1 : Nat) : Int)) none
  generalize cut ds none (some ((1 + r : Nat) : Int)) = c1 at *
  generalize cut ds (some ((1 + r + 1 : Nat) : Int)) none = c2 at *
  have a1 : dAdd (.tuple ds) (.tuple [y]) = some (.tuple (ds ++ [y])) := dAdd_tuple (by simp only [List.length_cons, List.length_nil]; omega)
  have a2 : dAdd (.tuple c1) (.tuple c2) = some (.tuple (c1 ++ c2)) := dAdd_tuple (by omega)
  have a3 : ∀ z : D, dAdd (.tuple [z]) (.tuple xs) = some (.tuple (z :: xs)) := fun z => dAdd_tuple (xs := [z]) (by simp only [List.length_cons, List.length_nil]; omega)
  have a4 : dAdd (.tuple c1) (.tuple [y2]) = some (.tuple (c1 ++ [y2])) := dAdd_tuple (by simp only [List.length_cons, List.length_nil]; omega)
  have a5 : dAdd (.tuple (c1 ++ [y2])) (.tuple c2) = some (.tuple (c1 ++ [y2] ++ c2)) := dAdd_tuple (by simp only [List.length_append, List.length_cons, List.length_nil]; omega)
  have a6 : dAdd (.tuple ds) (.tuple ds) = some (.tuple (ds ++ ds)) := dAdd_tuple (by omega)
  have a7 : dAdd (.str w) (.str "s") = some (.str (w ++ "s")) := by
    show (if w.length + ("s" : Str).length ≤ sizeLine then some (PyData.str (w ++ "s")) else none) = _
    rw [if_pos (sz_le (by have : ("s" : Str).length = 1 := rfl; omega))]
  have up : dUpper (.str w) = some (.str (Txt.upper w)) := if_pos (by omega)
  have s5 : dSl (.str w) none (some (-1)) = some (.str (cutS w none (some (-1)))) := if_pos (sz_le (by omega))
  have ls : dList [.tuple ds] = some (.list ds) := rfl
  have rv : dRev (.tuple ds) = some (.tuple ds.reverse) := rfl
  have tk : toKeys [(.str w, .tuple xs)] = some [(.inr w, .tuple xs)] := rfl
  have md : dctD (mergeD [(.inr w, .tuple xs)]) = .dict [(.str w, .tuple xs)] := rfl
  have i1 : dInt (.int 1) = some 1 := rfl
  have im : dNeg (.int 1) = some (.int (-1)) := rfl
  have i2 : dInt (.int (-1)) = some (-1) := rfl
  have z : ∀ n : Nat, n ≤ 100 → n ≤ sizeLine := fun n h => sz_le (by omega)
  have z1 := z 1 (by omega)
  have z4 := z 4 (by omega)
  have z6 := z 6 (by omega)
  have z12 := z 12 (by omega)
  let L1 : List D := [.tuple (ds ++ [y]), .tuple (c1 ++ c2), .list ds, .tuple [.str w], .tuple xs, .tuple ds.reverse]
  let L2 : List D := [.tuple (.str (Txt.upper w) :: xs), .tuple (.str (w ++ "s") :: xs), .tuple (o :: xs), .tuple [.tuple ds]]
  let L3 : List D := [.tuple (.tuple [.str w] :: xs), .tuple (.list [.str w] :: xs), .tuple (.none :: xs), .dict [(.str w, .tuple xs)]]
  let L4 : List D := [.tuple (c1 ++ [y2] ++ c2), .str w, .tuple (ds ++ ds), .tuple (.str (cutS w none (some (-1))) :: xs)]
  have b1 : dAdd (.list L1) (.list L2) = some (.list (L1 ++ L2)) := dAdd_list (by show 6 + 4 ≤ 16777216; omega)
  have b2 : dAdd (.list (L1 ++ L2)) (.list L3) = some (.list (L1 ++ L2 ++ L3)) := dAdd_list (by show 10 + 4 ≤ 16777216; omega)
  have b3 : dAdd (.list (L1 ++ L2 ++ L3)) (.list L4) = some (.list (L1 ++ L2 ++ L3 ++ L4)) := dAdd_list (by show 14 + 4 ≤ 16777216; omega)
  have ww : ∀ z : D, Sh 200 5 z → Good (.tuple (z :: xs)) := fun z hz => tup_good (cons_all hz hx) (by simp only [List.length_cons]; omega)
  have nil_ : AllSh 200 5 [] := fun _ h => nomatch h
  have dG : Good (.tuple ds) := tup_good hD (by omega)
  have dS : Sh 5000 8 (.tuple ds) := (tup_sh (c := 10) hD (by omega)).le (by omega) (by omega)
  have q1 : ∀ x ∈ L1, Good x := by
    intro x hx'
    simp only [L1, List.mem_cons, List.not_mem_nil, or_false] at hx'
    rcases hx' with e | e | e | e | e | e
    · subst e; exact tup_good (app_all hD (cons_all hy nil_)) (by simp only [List.length_append, List.length_cons, List.length_nil]; omega)
    · subst e; exact tup_good (app_all g1 g2) (by simp only [List.length_append]; omega)
    · subst e; exact (lst_sh (c := 10) hD (by omega)).le (by omega) (by omega)
    · subst e; exact h6.le (by omega) (by omega)
    · subst e; exact tup_good hx (by omega)
    · subst e; exact tup_good (fun x h => hD x (by simpa using h)) (by simp only [List.length_reverse]; omega)
  have q2 : ∀ x ∈ L2, Good x := by
    intro x hx'
    simp only [L2, List.mem_cons, List.not_mem_nil, or_false] at hx'
    rcases hx' with e | e | e | e
    · subst e; exact ww _ h2
    · subst e; exact ww _ h3
    · subst e; exact ww _ hos
    · subst e; exact (tup_sh (n := 5000) (m := 8) (c := 1) (fun x h => by rw [List.mem_singleton.mp h]; exact dS) (by simp)).le (by omega) (by omega)
  have q3 : ∀ x ∈ L3, Good x := by
    intro x hx'
    simp only [L3, List.mem_cons, List.not_mem_nil, or_false] at hx'
    rcases hx' with e | e | e | e
    · subst e; exact ww _ h6
    · subst e; exact ww _ h7
    · subst e; exact ww _ none_sh
    · subst e; exact dict1 h1 ((tup_sh (c := 10) hx (by omega)).le (by omega) (by omega))
  have q4 : ∀ x ∈ L4, Good x := by
    intro x hx'
    simp only [L4, List.mem_cons, List.not_mem_nil, or_false] at hx'
    rcases hx' with e | e | e | e
    · subst e; exact tup_good (app_all (app_all g1 (cons_all hy2 nil_)) g2) (by simp only [List.length_append, List.length_cons, List.length_nil]; omega)
    · subst e; exact h1.le (by omega) (by omega)
    · subst e; exact tup_good (app_all hD hD) (by simp only [List.length_append]; omega)
    · subst e; exact ww _ h4
  refine ⟨L1 ++ L2 ++ L3 ++ L4, k4, ?_, fun x h => ?_, rfl, v4.le (by omega)⟩
  · have wd : words = [.str "put", .str "out", .str "bar", .str "free", .str "step", .str "lead", .str "ask", .str "forget", .str "back", .str "do", .str "still", .str ""] := rfl
    rw [wd] at e2
    have eL1 : L1 = [.tuple (ds ++ [y]), .tuple (c1 ++ c2), .list ds, .tuple [.str w], .tuple xs, .tuple ds.reverse] := rfl
    have eL2 : L2 = [.tuple (.str (Txt.upper w) :: xs), .tuple (.str (w ++ "s") :: xs), .tuple (o :: xs), .tuple [.tuple ds]] := rfl
    have eL3 : L3 = [.tuple (.tuple [.str w] :: xs), .tuple (.list [.str w] :: xs), .tuple (.none :: xs), .dict [(.str w, .tuple xs)]] := rfl
    have eL4 : L4 = [.tuple (c1 ++ [y2] ++ c2), .str w, .tuple (ds ++ ds), .tuple (.str (cutS w none (some (-1))) :: xs)] := rfl
    have n1 : L1.length ≤ sizeLine := z 6 (by omega)
    have n2 : L2.length ≤ sizeLine := z 4 (by omega)
    have n3 : L3.length ≤ sizeLine := z 4 (by omega)
    have n4 : L4.length ≤ sizeLine := z 4 (by omega)
    generalize L1 = M1 at *
    generalize L2 = M2 at *
    generalize L3 = M3 at *
    generalize L4 = M4 at *
    unfold m__law_bent mFun b__law_bent
    simp only [sl0, List.replicate, List.length_cons, List.length_nil, List.map_cons, List.map_nil, List.cons_append, List.nil_append, Nat.sub_self, Nat.zero_add, Nat.reduceAdd, Nat.reduceSub, if_true, e_seq, e_set, e_bin, e_un, e_b, e_c, e_call, e_cons, e_nil, e_var, e_tup, e_lst, e_sl, e_noPart, e_part, e_fzD, e_dict, e_pairs0, e_pairs1, e_ret, List.getElem?_cons_succ, List.getElem?_cons_zero, List.set_cons_succ, List.set_cons_zero, Out.bind_ok, Out.bindS_ok, Out.of_some, dl, sb, e1, ad, e2, z12, e3, z1, a1, in1, ad1, in2, s3, s4, a2, ls, i1, s1, s2, rv, z6, i0, up, a3, a7, z4, ← eL1, n1, ← eL2, n2, b1, tk, md, ← eL3, n3, b2, e4, a4, a5, im, i2, s5, a6, ← eL4, n4, b3, Nat.reduceLeDiff]
  · rcases List.mem_append.mp h with h | h
    · rcases List.mem_append.mp h with h | h
      · rcases List.mem_append.mp h with h | h
        · exact q1 x h
        · exact q2 x h
      · exact q3 x h
    · exact q4 x h
end G_k61
namespace G_k61
open PySem MM L2 PP SZ
theorem e_get {a b c : ME} {ps : Ps} : mGet a b c ps = (a ps).bind fun x ps1 => match x with
  | .dict kvs => if (isDeck (.dict kvs) || kvs.any (fun p => (toKey p.1).isNone)) = true then .bad else
    (b ps1).bind fun y ps2 => (c ps2).bind fun z ps3 => match toKey y with
      | some k => .ok ((dLook kvs k).getD z) ps3
      | none => .bad
  | _ => .bad := rfl
def rightC (ms : MA) : MLs := (mComp ms (mGn 8) (mNot (mTst (mCall m__law_right (mCons (mVar 8) mNil)))) (mVar 8) [8])
theorem rights {xs : List D} (h : ∀ x ∈ xs, Good x) (hl : xs.length ≤ 1000) {ms : MA} {ps : Ps} {a b c d e f g i : Sl} {k : Dk} (hi : ((ms ps).bind fun ds q => .ok ds (wipeP q [8])) = .ok xs ⟨[a, b, c, d, e, f, g, i, .no], k⟩) : rightC ms ps = .ok [] ⟨[a, b, c, d, e, f, g, i, .no], k⟩ := by
  have c1 := comp_gen (fun x : D => x) (mi := ms) (g := (mGn 8)) (tt := (mNot (mTst (mCall m__law_right (mCons (mVar 8) mNil))))) (te := (mVar 8)) (vs := [8]) (ps := ps) (ps0 := ⟨[a, b, c, d, e, f, g, i, .no], k⟩)
    (fun _ => false) (fun x => x) (xs := xs) (by rw [hi]; simp) (by simp) (by omega) (fun x hx => by
      have r := right_ok (h x hx) (by omega) (by omega) k
      simp [r])
  rw [List.filter_eq_nil_iff.mpr (by simp)] at c1
  exact c1
def DG : List (D × D) := [(.str "put", .int 3), (.str "bar", .int 3), (.str "step", .int 2), (.str "ask", .int 2)]
def W8 : List D := [.str "put", .str "out", .str "bar", .str "free", .str "step", .str "lead", .str "ask", .str "forget"]
structure Wd (w : Str) (m : Nat) : Prop where
  ok : wOk w = true
  g : (dLook DG (.inr w)).getD (.int 1) = iD m
  k : kv_MANY.lookup w = some (m : Int)
  m1 : 1 ≤ m
  m3 : m ≤ 3
theorem w8 : ∀ d ∈ W8, ∃ w m, d = .str w ∧ Wd w m := by
  intro d hd
  simp only [W8, List.mem_cons, List.not_mem_nil, or_false] at hd
  rcases hd with e | e | e | e | e | e | e | e
  · exact ⟨_, 3, e, by decide +kernel, rfl, by decide +kernel, by omega, by omega⟩
  · exact ⟨_, 1, e, by decide +kernel, rfl, by decide +kernel, by omega, by omega⟩
  · exact ⟨_, 3, e, by decide +kernel, rfl, by decide +kernel, by omega, by omega⟩
  · exact ⟨_, 1, e, by decide +kernel, rfl, by decide +kernel, by omega, by omega⟩
  · exact ⟨_, 2, e, by decide +kernel, rfl, by decide +kernel, by omega, by omega⟩
  · exact ⟨_, 1, e, by decide +kernel, rfl, by decide +kernel, by omega, by omega⟩
  · exact ⟨_, 2, e, by decide +kernel, rfl, by decide +kernel, by omega, by omega⟩
  · exact ⟨_, 1, e, by decide +kernel, rfl, by decide +kernel, by omega, by omega⟩
def turnL : MS :=
    (mSeq (mSet 3 (mGet (mFzD (mDict [((mC (.str "put")), (mC (.int 3))), ((mC (.str "bar")), (mC (.int 3))), ((mC (.str "step")), (mC (.int 2))), ((mC (.str "ask")), (mC (.int 2)))])) (mVar 2) (mC (.int 1))))
    (mSeq (mSet 4 (mBin dAdd (mTup (mCons (mVar 2) mNil)) (mB dTuple (mCons (mFz (mComp (mRange1 (mCons (mVar 3) mNil)) (mGn 7) mYes (mCall m__law_any (mCons (mVar 1) mNil)) [7])) mNil))))
    (mSeq (mIfS (mTst (mBin dNotB (mCall m_is_deed (mCons (mVar 4) mNil)) (mC (.bool true))))
    (mRet (mC (.bool false))) mNext)
    (mIfS (mTst (mBin (dEqL0 not) (mFz (rightC (mIter (mBin dAdd (mBin dAdd (mLst (mCons (mVar 4) mNil)) (mCall m__law_bent (mCons (mVar 1) (mCons (mVar 4) mNil)))) (mLst (mCons (mVar 4) mNil)))))) (mLst mNil)))
    (mRet (mC (.bool false))) mNext))))
theorem turn_ok {w : Str} {m : Nat} (W : Wd w m) {s3 s4 s5 s6 s7 s8 : Sl} {k : Dk} {c : Nat} (v : Vd k c) (hc : c < 2 ^ 40) :
    ∃ s3' s4' s7' s8' k', Vd k' (c + 20) ∧ turnL ⟨[.no, .fz deckD, .fz (.str w), s3, s4, s5, s6, s7, s8], k⟩ = .next ⟨[.no, .fz deckD, .fz (.str w), s3', s4', s5, s6, s7', s8'], k'⟩ := by
  obtain ⟨h1, -⟩ := w_of W.ok
  have hm3 := W.m3
  have hm1 := W.m1
  have hr := dRange1_iD (n := m) (by omega)
  obtain ⟨xs, ps', e, ⟨k1, rfl, hxs, v1⟩, hlen⟩ := comp_inv (mi := (mRange1 (mCons (mVar 3) mNil))) (te := (mCall m__law_any (mCons (mVar 1) mNil))) (g := mGn 7) (vs := [7]) (ps := ⟨[.no, .fz deckD, .fz (.str w), .fz (iD m), s4, s5, s6, s7, s8], k⟩) (ps0 := ⟨[.no, .fz deckD, .fz (.str w), .fz (iD m), s4, s5, s6, .no, s8], k⟩) (xs := List.range m)
    (fun done acc ps => ∃ k', ps = ⟨[.no, .fz deckD, .fz (.str w), .fz (iD m), s4, s5, s6, .no, s8], k'⟩ ∧ AllSh 200 5 acc ∧ Vd k' (c + done.length)) (by simp [hr]) (by simp; omega) ⟨k, rfl, fun _ h => (nomatch h), v⟩ (by
      rintro done x rest acc ps hx hl ⟨k', rfl, ha, v'⟩
      obtain ⟨g1, g2, -⟩ := range_at hx
      obtain ⟨y, k2, e2, hy, v2⟩ := any_ok v' (by omega)
      have hd : (done ++ [x]).length = done.length + 1 := by simp
      refine ⟨_, _, y, rfl, by simp [e2]; rfl, k2, rfl, app_all ha (cons_all hy fun _ h => (nomatch h)), v2.le (by rw [hd]; omega)⟩)
  have lm : (List.range m).length = m := by simp
  rw [lm] at hlen v1
  obtain ⟨B, k2, e2, hB, hBl, v2⟩ := bent_ok W.ok hxs (by omega) (by omega) v1 (by omega)
  have hD := cons_all h1 hxs
  have gD : Good (.tuple (.str w :: xs)) := tup_good hD (by rw [List.length_cons]; omega)
  have dd := is_deed_ok gD.c k1
  have ed : deedD (.tuple (.str w :: xs)) = true := by
    show (match kv_MANY.lookup w with
      | some n => decide (1 + (xs.length : Int) = 1 + n)
      | none => false) = true
    rw [W.k, hlen]
    exact decide_eq_true rfl
  rw [ed] at dd
  have tk : toKeys [(.str "put", .int 3), (.str "bar", .int 3), (.str "step", .int 2), (.str "ask", .int 2)] = some [(.inr "put", .int 3), (.inr "bar", .int 3), (.inr "step", .int 2), (.inr "ask", .int 2)] := rfl
  have md : dctD (mergeD [(.inr "put", .int 3), (.inr "bar", .int 3), (.inr "step", .int 2), (.inr "ask", .int 2)]) = .dict DG := rfl
  have hdk : (isDeck (.dict DG) || DG.any (fun p => (toKey p.1).isNone)) = false := rfl
  have kw : toKey (.str w) = some (.inr w) := rfl
  have hg := W.g
  have a1 : dAdd (.tuple [.str w]) (.tuple xs) = some (.tuple (.str w :: xs)) := dAdd_tuple (xs := [.str w]) (by simp only [List.length_cons, List.length_nil]; omega)
  have tt : dTuple [.list xs] = some (.tuple xs) := rfl
  have nb : dNotB (.bool true) (.bool true) = some (.bool false) := rfl
  have q0 : dEqL0 not (.list []) (.list []) = some (.bool false) := rfl
  have z1 : 1 ≤ sizeLine := sz_le (by omega)
  have z0 : 0 ≤ sizeLine := sz_le (by omega)
  generalize hd0 : PyData.tuple (.str w :: xs) = dd0 at *
  have a2 : dAdd (.list [dd0]) (.list B) = some (.list ([dd0] ++ B)) := dAdd_list (by simp only [List.length_cons, List.length_nil]; omega)
  have a3 : dAdd (.list ([dd0] ++ B)) (.list [dd0]) = some (.list ([dd0] ++ B ++ [dd0])) := dAdd_list (by simp only [List.length_append, List.length_cons, List.length_nil]; omega)
  have rt := rights (xs := [dd0] ++ B ++ [dd0]) (fun x hx => by
    rcases List.mem_append.mp hx with h | h
    · rcases List.mem_append.mp h with h | h
      · rw [List.mem_singleton.mp h]; exact gD
      · exact hB x h
    · rw [List.mem_singleton.mp h]; exact gD) (by simp only [List.length_append, List.length_cons, List.length_nil]; omega) (ms := (mIter (mBin dAdd (mBin dAdd (mLst (mCons (mVar 4) mNil)) (mCall m__law_bent (mCons (mVar 1) (mCons (mVar 4) mNil)))) (mLst (mCons (mVar 4) mNil)))))
    (ps := ⟨[.no, .fz deckD, .fz (.str w), .fz (iD m), .fz dd0, s5, s6, .no, s8], k1⟩) (a := .no) (b := .fz deckD) (c := .fz (.str w)) (d := .fz (iD m)) (e := .fz dd0) (f := s5) (g := s6) (i := .no) (k := k2) (by
      simp only [e_iter, e_bin, e_lst, e_cons, e_nil, e_var, e_call, List.getElem?_cons_succ, List.getElem?_cons_zero, Out.bind_ok, Out.of_some, List.length_cons, List.length_nil, Nat.zero_add, z1, if_true, e2, a2, a3, dSeq_list, e_wipe, e_wipe1, e_wipe0, List.set_cons_succ, List.set_cons_zero])
  have z8 : (4 : Nat) ≤ 15 := by omega
  generalize DG = dg at *
  refine ⟨.fz (iD m), .fz dd0, .no, .no, k2, v2.le (by omega), ?_⟩
  unfold turnL
  simp only [e_seq, e_set, e_get, e_fzD, e_dict, e_pairs1, e_pairs0, e_c, e_var, List.getElem?_cons_succ, List.getElem?_cons_zero, List.set_cons_succ, List.set_cons_zero, Out.bind_ok, Out.bindS_ok, Out.of_some, tk, List.length_cons, List.length_nil, Nat.zero_add, Nat.reduceAdd, Nat.reduceLeDiff, if_true, md, hdk, Bool.false_eq_true, if_false, kw, hg, e_bin, e_tup, e_cons, e_nil, z1, z0, e_b, e_fz, e, e_wipe, e_wipe1, e_wipe0, tt, a1, e_ifS, e_tst, e_call, dd, nb, dBool_b, e_next, rt, e_lst, q0]
def W13 : List D := [.str "back", .str "together", .str "do", .str "log", .str "where", .str "still", .str "named", .str "kept", .str "answers", .str "world", .str "look", .str "", .str "Put"]
def extra : List D := [.none, .bool true, .int 0, .tuple [], .list [], .dict [], .tuple [.tuple []], .tuple [.none], .tuple [.str "put"], .list [.str "out", .str "a"], .tuple [.str "out", .str "a", .str "a"], .tuple [.int 0, .str "a"]]
def things : List D := (W13.map fun x => .tuple [x, .int 0]) ++ (W13.map fun x => .tuple [x]) ++ W13 ++ extra
theorem things_good : ∀ x ∈ things, Good x := by
  have h : things.all shB = true := by decide +kernel
  intro x hx
  exact (sh_of (List.all_eq_true.mp h x hx)).le (by omega) (by omega)
theorem law_runs : LawRuns m__law_deck 9 1 "seed" "turn" b_law := by
  intro ns hns
  obtain ⟨k, k', e, v⟩ := deck_ok ns hns
  refine ⟨k, k', ?_⟩
  have e0 : (List.replicate 9 Sl.no).set 1 (.fz deckD) = [.no, .fz deckD, .no, .no, .no, .no, .no, .no, .no] := rfl
  rw [e0]
  obtain ⟨ps', eL, s2, s3, s4, s7, s8, k2, rfl, v2⟩ := loop_inv (g := mGn 2) (body := turnL) (fun done ps => ∃ s2 s3 s4 s7 s8 k', ps = ⟨[.no, .fz deckD, s2, s3, s4, .no, .no, s7, s8], k'⟩ ∧ Vd k' (20 * done.length))
    (ds := W8) (ps := ⟨[.no, .fz deckD, .no, .no, .no, .no, .no, .no, .no], k⟩) ⟨.no, .no, .no, .no, .no, k, rfl, v⟩ (by
      rintro done d rest ps hx ⟨s2, s3, s4, s7, s8, k', rfl, vk⟩
      obtain ⟨w, m, rfl, W⟩ := w8 d (by rw [hx]; simp)
      have hl : done.length ≤ 8 := by
        have := congrArg List.length hx
        rw [List.length_append] at this
        have h8 : W8.length = 8 := rfl
        omega
      obtain ⟨s3', s4', s7', s8', k3, v3, e⟩ := turn_ok W (s3 := s3) (s4 := s4) (s5 := .no) (s6 := .no) (s7 := s7) (s8 := s8) vk (by omega)
      have hd : (done ++ [PyData.str w]).length = done.length + 1 := by simp
      exact ⟨_, _, rfl, .inl e, _, _, _, _, _, k3, rfl, v3.le (by rw [hd]; omega)⟩)
  have z : ∀ n : Nat, n ≤ 100 → n ≤ sizeLine := fun n h => sz_le (by omega)
  have z0 := z 0 (by omega)
  have z1 := z 1 (by omega)
  have z2 := z 2 (by omega)
  have z3 := z 3 (by omega)
  have z8 := z 8 (by omega)
  have z12 := z 12 (by omega)
  have z13 := z 13 (by omega)
  have w13 : PyData.list [.str "back", .str "together", .str "do", .str "log", .str "where", .str "still", .str "named", .str "kept", .str "answers", .str "world", .str "look", .str "", .str "Put"] = .list W13 := rfl
  have w8l : [.str "put", .str "out", .str "bar", .str "free", .str "step", .str "lead", .str "ask", .str "forget"] = W8 := rfl
  have c1 : mComp (mIter (mVar 5)) (mGn 2) mYes (mTup (mCons (mVar 2) (mCons (mC (.int 0)) mNil))) [2] ⟨[.no, .fz deckD, s2, s3, s4, .fz (.list W13), .no, s7, s8], k2⟩ = .ok (W13.map fun x => .tuple [x, .int 0]) ⟨[.no, .fz deckD, .no, s3, s4, .fz (.list W13), .no, s7, s8], k2⟩ := by
    have := comp_gen (fun x : D => x) (mi := (mIter (mVar 5))) (g := (mGn 2)) (tt := mYes) (te := (mTup (mCons (mVar 2) (mCons (mC (.int 0)) mNil)))) (vs := [2]) (ps := ⟨[.no, .fz deckD, s2, s3, s4, .fz (.list W13), .no, s7, s8], k2⟩) (ps0 := ⟨[.no, .fz deckD, .no, s3, s4, .fz (.list W13), .no, s7, s8], k2⟩)
      (fun _ => true) (fun x => .tuple [x, .int 0]) (xs := W13) (by simp) (by simp) (by show 13 ≤ _; omega) (fun x hx => by simp [z2])
    rw [List.filter_eq_self.mpr (by simp)] at this
    exact this
  have c2 : mComp (mIter (mVar 5)) (mGn 2) mYes (mTup (mCons (mVar 2) mNil)) [2] ⟨[.no, .fz deckD, .no, s3, s4, .fz (.list W13), .no, s7, s8], k2⟩ = .ok (W13.map fun x => .tuple [x]) ⟨[.no, .fz deckD, .no, s3, s4, .fz (.list W13), .no, s7, s8], k2⟩ := by
    have := comp_gen (fun x : D => x) (mi := (mIter (mVar 5))) (g := (mGn 2)) (tt := mYes) (te := (mTup (mCons (mVar 2) mNil))) (vs := [2]) (ps := ⟨[.no, .fz deckD, .no, s3, s4, .fz (.list W13), .no, s7, s8], k2⟩) (ps0 := ⟨[.no, .fz deckD, .no, s3, s4, .fz (.list W13), .no, s7, s8], k2⟩)
      (fun _ => true) (fun x => .tuple [x]) (xs := W13) (by simp) (by simp) (by show 13 ≤ _; omega) (fun x hx => by simp [z1])
    rw [List.filter_eq_self.mpr (by simp)] at this
    exact this
  have a1 : dAdd (.list (W13.map fun x => .tuple [x, .int 0])) (.list (W13.map fun x => .tuple [x])) = some (.list ((W13.map fun x => .tuple [x, .int 0]) ++ (W13.map fun x => .tuple [x]))) := dAdd_list (by show 13 + 13 ≤ 16777216; omega)
  have a2 : dAdd (.list ((W13.map fun x => .tuple [x, .int 0]) ++ (W13.map fun x => .tuple [x]))) (.list W13) = some (.list ((W13.map fun x => .tuple [x, .int 0]) ++ (W13.map fun x => .tuple [x]) ++ W13)) := dAdd_list (by show 26 + 13 ≤ 16777216; omega)
  have a3 : dAdd (.list ((W13.map fun x => .tuple [x, .int 0]) ++ (W13.map fun x => .tuple [x]) ++ W13)) (.list extra) = some (.list things) := dAdd_list (by show 39 + 12 ≤ 16777216; omega)
  have ex : PyData.list [.none, .bool true, .int 0, .tuple [], .list [], .dict [], .tuple [.tuple []], .tuple [.none], .tuple [.str "put"], .list [.str "out", .str "a"], .tuple [.str "out", .str "a", .str "a"], .tuple [.int 0, .str "a"]] = .list extra := rfl
  have d0 : dctD [] = .dict [] := rfl
  have rt := rights (xs := things) things_good (by show 51 ≤ 1000; omega) (ms := (mIter (mVar 6))) (ps := ⟨[.no, .fz deckD, .no, s3, s4, .fz (.list W13), .fz (.list things), s7, s8], k2⟩) (a := .no) (b := .fz deckD) (c := .no) (d := s3) (e := s4) (f := .fz (.list W13)) (g := .fz (.list things)) (i := s7) (k := k2) (by simp)
  have q0 : dEqL0 id (.list []) (.list []) = some (.bool true) := rfl
  have zz8 : W8.length ≤ sizeLine := z 8 (by omega)
  generalize (W13.map fun x => PyData.tuple [x, .int 0]) = F1 at *
  generalize (W13.map fun x => PyData.tuple [x]) = F2 at *
  generalize W13 = F3 at *
  generalize W8 = F8 at *
  generalize things = TH at *
  generalize extra = EX at *
  have fin : ∃ ps', b_law ⟨[.no, .fz deckD, .no, .no, .no, .no, .no, .no, .no], k⟩ = .ret (.bool true) ps' := by
    refine ⟨⟨[.no, .fz deckD, .no, s3, s4, .fz (.list F3), .fz (.list TH), s7, .no], k2⟩, ?_⟩
    unfold turnL rightC at eL
    unfold rightC at rt
    unfold b_law
    simp only [e_seq, e_for, e_iter, e_lst, e_cons, e_nil, e_c, Out.bind_ok, Out.bindS_ok, Out.of_some, List.length_cons, List.length_nil, Nat.zero_add, Nat.reduceAdd, z0, z1, z2, z3, z8, z12, z13, if_true, dSeq_list, w8l, zz8, eL, e_set, List.set_cons_succ, List.set_cons_zero, w13, e_bin, e_fz, c1, c2, a1, e_var, List.getElem?_cons_succ, List.getElem?_cons_zero, a2, e_tup, e_fzD, e_newD, d0, ex, a3, e_ret, rt, q0]
  obtain ⟨ps', fin⟩ := fin
  exact ⟨ps', e, fin⟩
end G_k61
/-! The walk of the law k61, printed by gen.py. -/
namespace G_k61
open PySem PySem.Spec PyProof.Rows L2 MM
def topS (i : Nat) : Stmt := PySem.Challenge.pw_middleyard_k61_what_is_a_deed.main.body.getD i (.Pass ⟨0, 0, 0, 0⟩)
abbrev s_is_deed : Stmt := topS 2
abbrev N_is_deed : List Str := ["thing"]
theorem sc_is_deed : FnScope ["thing"] ["thing"] (defScope s_is_deed) := ⟨rfl, rfl, rfl, by decide +kernel, rfl, by decide +kernel, by decide +kernel⟩
abbrev s__law_deck : Stmt := topS 4
abbrev N__law_deck : List Str := ["_law_script", "_law_cells", "_law_seed", "_law_cell"]
theorem sc__law_deck : FnScope ["_law_script", "_law_cells", "_law_seed", "_law_cell"] ["_law_script"] (defScope s__law_deck) := ⟨rfl, rfl, rfl, by decide +kernel, rfl, by decide +kernel, by decide +kernel⟩
abbrev s__law_draw : Stmt := topS 5
abbrev N__law_draw : List Str := ["_law_deck_here", "_law_sides", "_law_cell", "_law_nth", "_law_mixed"]
theorem sc__law_draw : FnScope ["_law_deck_here", "_law_sides", "_law_cell", "_law_nth", "_law_mixed"] ["_law_deck_here", "_law_sides"] (defScope s__law_draw) := ⟨rfl, rfl, rfl, by decide +kernel, rfl, by decide +kernel, by decide +kernel⟩
abbrev s__law_pick : Stmt := topS 6
abbrev N__law_pick : List Str := ["_law_deck_here", "_law_some"]
theorem sc__law_pick : FnScope ["_law_deck_here", "_law_some"] ["_law_deck_here", "_law_some"] (defScope s__law_pick) := ⟨rfl, rfl, rfl, by decide +kernel, rfl, by decide +kernel, by decide +kernel⟩
abbrev s__law_any : Stmt := topS 7
abbrev N__law_any : List Str := ["_law_deck_here", "_law_some"]
theorem sc__law_any : FnScope ["_law_deck_here", "_law_some"] ["_law_deck_here"] (defScope s__law_any) := ⟨rfl, rfl, rfl, by decide +kernel, rfl, by decide +kernel, by decide +kernel⟩
abbrev s__law_due : Stmt := topS 8
abbrev N__law_due : List Str := ["_law_it", "_law_long"]
theorem sc__law_due : FnScope ["_law_it", "_law_long"] ["_law_it"] (defScope s__law_due) := ⟨rfl, rfl, rfl, by decide +kernel, rfl, by decide +kernel, by decide +kernel⟩
abbrev s__law_bent : Stmt := topS 9
abbrev N__law_bent : List Str := ["_law_deck_here", "_law_deed", "_law_at", "_law_other", "_law_found"]
theorem sc__law_bent : FnScope ["_law_deck_here", "_law_deed", "_law_at", "_law_other", "_law_found"] ["_law_deck_here", "_law_deed"] (defScope s__law_bent) := ⟨rfl, rfl, rfl, by decide +kernel, rfl, by decide +kernel, by decide +kernel⟩
abbrev s__law_right : Stmt := topS 10
abbrev N__law_right : List Str := ["_law_it", "_law_kept", "_law_due_here", "_law_told"]
theorem sc__law_right : FnScope ["_law_it", "_law_kept", "_law_due_here", "_law_told"] ["_law_it"] (defScope s__law_right) := ⟨rfl, rfl, rfl, by decide +kernel, rfl, by decide +kernel, by decide +kernel⟩
abbrev s_law : Stmt := topS 11
abbrev N_law : List Str := ["_law_script", "_law_deck_here", "_law_word", "_law_many", "_law_deed", "_law_words", "_law_things", "_law_k", "_law_it"]
theorem sc_law : FnScope ["_law_script", "_law_deck_here", "_law_word", "_law_many", "_law_deed", "_law_words", "_law_things", "_law_k", "_law_it"] ["_law_script"] (defScope s_law) := ⟨rfl, rfl, rfl, by decide +kernel, rfl, by decide +kernel, by decide +kernel⟩
structure Tx (w : World) (K : PySem.W.Frag) (mg : Str → Option Value) where
  a_is_deed : Addr
  d_is_deed : FuncData
  F_is_deed : Fun K "is_deed" "is_deed" s_is_deed a_is_deed d_is_deed
  g_is_deed : mg "is_deed" = some (.ref a_is_deed)
  a__law_deck : Addr
  d__law_deck : FuncData
  F__law_deck : Fun K "_law_deck" "_law_deck" s__law_deck a__law_deck d__law_deck
  g__law_deck : mg "_law_deck" = some (.ref a__law_deck)
  a__law_draw : Addr
  d__law_draw : FuncData
  F__law_draw : Fun K "_law_draw" "_law_draw" s__law_draw a__law_draw d__law_draw
  g__law_draw : mg "_law_draw" = some (.ref a__law_draw)
  a__law_pick : Addr
  d__law_pick : FuncData
  F__law_pick : Fun K "_law_pick" "_law_pick" s__law_pick a__law_pick d__law_pick
  g__law_pick : mg "_law_pick" = some (.ref a__law_pick)
  a__law_any : Addr
  d__law_any : FuncData
  F__law_any : Fun K "_law_any" "_law_any" s__law_any a__law_any d__law_any
  g__law_any : mg "_law_any" = some (.ref a__law_any)
  a__law_due : Addr
  d__law_due : FuncData
  F__law_due : Fun K "_law_due" "_law_due" s__law_due a__law_due d__law_due
  g__law_due : mg "_law_due" = some (.ref a__law_due)
  a__law_bent : Addr
  d__law_bent : FuncData
  F__law_bent : Fun K "_law_bent" "_law_bent" s__law_bent a__law_bent d__law_bent
  g__law_bent : mg "_law_bent" = some (.ref a__law_bent)
  a__law_right : Addr
  d__law_right : FuncData
  F__law_right : Fun K "_law_right" "_law_right" s__law_right a__law_right d__law_right
  g__law_right : mg "_law_right" = some (.ref a__law_right)
  a_law : Addr
  d_law : FuncData
  F_law : Fun K "law" "law" s_law a_law d_law
  g_law : mg "law" = some (.ref a_law)
  n_isinstance : mg "isinstance" = none
  n_len : mg "len" = none
  n_list : mg "list" = none
  n_range : mg "range" = none
  n_repr : mg "repr" = none
  n_str : mg "str" = none
  n_tuple : mg "tuple" = none
  d_MANY : Addr
  n_MANY : mg "MANY" = some (.ref d_MANY)
  k_MANY : KTab K w d_MANY kv_MANY
section
variable {P : Program} {w : World} {K : PySem.W.Frag} {mg : Str → Option Value} {base : Heap} {C : Mc}
theorem B_is_deed (T : Tx w K mg) : Binds K T.d_is_deed ["thing"] [] := T.F_is_deed.binds fun _ _ _ _ _ _ us hl => match us, hl with | [_], _ => rfl
theorem B__law_deck (T : Tx w K mg) : Binds K T.d__law_deck ["_law_script"] [] := T.F__law_deck.binds fun _ _ _ _ _ _ us hl => match us, hl with | [_], _ => rfl
theorem B__law_draw (T : Tx w K mg) : Binds K T.d__law_draw ["_law_deck_here", "_law_sides"] [] := T.F__law_draw.binds fun _ _ _ _ _ _ us hl => match us, hl with | [_, _], _ => rfl
theorem B__law_pick (T : Tx w K mg) : Binds K T.d__law_pick ["_law_deck_here", "_law_some"] [] := T.F__law_pick.binds fun _ _ _ _ _ _ us hl => match us, hl with | [_, _], _ => rfl
theorem B__law_any (T : Tx w K mg) : Binds K T.d__law_any ["_law_deck_here"] [] := T.F__law_any.binds fun _ _ _ _ _ _ us hl => match us, hl with | [_], _ => rfl
theorem B__law_due (T : Tx w K mg) : Binds K T.d__law_due ["_law_it"] [] := T.F__law_due.binds fun _ _ _ _ _ _ us hl => match us, hl with | [_], _ => rfl
theorem B__law_bent (T : Tx w K mg) : Binds K T.d__law_bent ["_law_deck_here", "_law_deed"] [] := T.F__law_bent.binds fun _ _ _ _ _ _ us hl => match us, hl with | [_, _], _ => rfl
theorem B__law_right (T : Tx w K mg) : Binds K T.d__law_right ["_law_it"] [] := T.F__law_right.binds fun _ _ _ _ _ _ us hl => match us, hl with | [_], _ => rfl
theorem B_law (T : Tx w K mg) : Binds K T.d_law ["_law_script"] [] := T.F_law.binds fun _ _ _ _ _ _ us hl => match us, hl with | [_], _ => rfl
theorem kb_is_deed_0_thing {fd : FuncData} {a : Addr} (F : Fun K "is_deed" "is_deed" s_is_deed a fd) : KBinds K fd ["thing"] ["thing"] (pick 0 1 [0]) (pick 0 1 [0]) := by
  obtain ⟨oc, od, kV, doc, pm, an, cdv, ct, osl, rfl, lk, hcd⟩ := F.ex
  exact kb_mk (by decide) fun s us ws h1 h2 => match us, ws, h1, h2 with | [], [w0], _, _ => .of_eq rfl
theorem ok_is_deed (T : Tx w K mg) (hK : C.K = K) (hD : DkIs C false "seed" "turn") : FnOk P w K mg base CX0 1 T.a_is_deed T.d_is_deed ["thing"] (spM C m_is_deed) := by
  exact fn_ok (k := 0) T.F_is_deed sc_is_deed (fun cdv A outer s H E hr => by
    have h0 := hr.units0; have h1 := hu1 hr; have h64 := hr.units; have h65 := hu65 hr
    exact (xs_cons (xs_if (PW.pt (xw_or (xt_not (xt_val (xisi hK k_tuple rfl T.n_isinstance rfl T.n_tuple (by decide +kernel) (xv (pv 0))))) (xw_or (xt_cmp (op_eq0 h0) (om_eq0 hK) (xv (pv 0)) (xtup xa_nil)) (xw_or1 (xt_not (xt_val (xisi hK k_str rfl T.n_isinstance rfl T.n_str (by decide +kernel) (xix h1 hK (xv (pv 0)) xint (fun _ _ => rfl))))))))) (xs_one (xs_ret xbl)) xs_nil)
      (xs_one (xs_ret (xband (xinK T.k_MANY rfl T.n_MANY (xix h1 hK (xv (pv 0)) xint (fun _ _ => rfl))) (xone (xcmp (op_eqD h64) (om_eq hK) (xcallB call_len (cm_len hK) rfl T.n_len PySem.boot_len (xa_cons (xv (pv 0)) xa_nil)) (xop op_addAll (om_add hK) xint (xixK T.k_MANY rfl T.n_MANY (xix h1 hK (xv (pv 0)) xint (fun _ _ => rfl)) (fun _ _ => rfl))))))))))
theorem ok__law_deck (T : Tx w K mg) (hK : C.K = K) : FnOk P w K mg base CX0 1 T.a__law_deck T.d__law_deck ["_law_script"] (spScr C m__law_deck) := by
  exact fn_scr (k := 0) (i := 1) T.F__law_deck sc__law_deck (fun cdv A outer s H E hr => by
    have h0 := hr.units0; have h1 := hu1 hr; have h64 := hr.units; have h65 := hu65 hr
    exact xss_scr hK (ps_set (i := 1) sc__law_deck.nd rfl (by first | exact Or.inl rfl | exact Or.inr rfl) (pe_callTy call_list_of rfl T.n_list (by decide +kernel) (pa_cons (pe_slice sl_list (pv 0) po_none (po_some pe_int)) pa_nil))) (xs_cons (xs_set (i := 2) sc__law_deck.nd rfl (by first | exact Or.inl rfl | exact Or.inr rfl) xint)
      (xs_cons (xs_for PassesOwn.never rfl (xi_seq hK (xv (pv 1))) (xg_name (i := 3) sc__law_deck.nd rfl (by first | exact Or.inl rfl | exact Or.inr rfl)) (xs_one (xs_set (i := 2) sc__law_deck.nd rfl (by first | exact Or.inl rfl | exact Or.inr rfl) (xop op_mod om_mod (xop op_addAll (om_add hK) (xop op_addAll (om_add hK) (xop op_mulAll om_mul (xv (pv 2)) xint) (xop op_mod om_mod (xv (pv 3)) xint)) xint) xint))))
      (xs_one (xs_ret (xfzd (xdictF (xp_cons xstr (xrev hK (xv (pv 1))) (xp_cons xstr (xv (pv 2)) (xp_cons xstr xint xp_nil))))))))))
theorem ok__law_draw (T : Tx w K mg) (hK : C.K = K) (hD : DkIs C false "seed" "turn") : FnOk P w K mg base CX0 1 T.a__law_draw T.d__law_draw ["_law_deck_here", "_law_sides"] (spM C m__law_draw) := by
  exact fn_ok (k := 0) T.F__law_draw sc__law_draw (fun cdv A outer s H E hr => by
    have h0 := hr.units0; have h1 := hu1 hr; have h64 := hr.units; have h65 := hu65 hr
    exact (xs_cons (xs_dkput DkF.turn h1 hD (pv 0) pe_str (xop op_addAll (om_add hK) (xdk DkF.turn h1 hD (pv 0) pe_str (fun _ _ => rfl)) xint))
      (xs_cons (xs_par (i := 2) (j := 3) (by rfl) sc__law_draw.nd rfl rfl (by decide) rfl rfl (xa_cons (xdk DkF.seed h1 hD (pv 0) pe_str (fun _ _ => rfl)) (xa_cons (xdk DkF.turn h1 hD (pv 0) pe_str (fun _ _ => rfl)) xa_nil)) (by rfl))
      (xs_cons (xs_if (xt_dk_ne h64 hK hD (pv 0) pe_str (fun _ _ => rfl)) (xs_cons (xs_set (i := 2) sc__law_draw.nd rfl (by first | exact Or.inl rfl | exact Or.inr rfl) (xdk_pop h1 hD (pv 0) pe_str (fun _ _ => rfl)))
      (xs_cons (xs_if (xt_cmp op_ge om_ge (xv (pv 2)) (xop op_pow om_pow xint xint)) (xs_cons (xs_expr (xdk_app h1 hD (pv 0) pe_str (fun _ _ => rfl) (xop op_fdiv om_fdiv (xv (pv 2)) (xv (pv 1)))))
      (xs_one (xs_ret (xop op_mod om_mod (xv (pv 2)) (xv (pv 1)))))) xs_nil)
      (xs_one (xs_set (i := 2) sc__law_draw.nd rfl (by first | exact Or.inl rfl | exact Or.inr rfl) (xop op_addAll (om_add hK) (xv (pv 2)) (xdk DkF.seed h1 hD (pv 0) pe_str (fun _ _ => rfl))))))) xs_nil)
      (xs_cons (xs_set (i := 4) sc__law_draw.nd rfl (by first | exact Or.inl rfl | exact Or.inr rfl) (xop op_mod om_mod (xop op_mulAll om_mul (xop op_addAll (om_add hK) (xop op_addAll (om_add hK) (xop op_mod om_mod (xv (pv 2)) xint) (xop op_mulAll om_mul (xop op_mulAll om_mul xint (xv (pv 3))) (xv (pv 3)))) xint) xint) xint))
      (xs_cons (xs_set (i := 4) sc__law_draw.nd rfl (by first | exact Or.inl rfl | exact Or.inr rfl) (xop op_mod om_mod (xop op_addAll (om_add hK) (xop op_addAll (om_add hK) (xop op_mulAll om_mul (xv (pv 4)) (xv (pv 4))) (xop op_mulAll om_mul xint (xv (pv 4)))) (xv (pv 3))) xint))
      (xs_cons (xs_dkput DkF.seed h1 hD (pv 0) pe_str (xv (pv 4)))
      (xs_one (xs_ret (xop op_mod om_mod (xop op_fdiv om_fdiv (xop op_mod om_mod (xop op_mulAll om_mul (xv (pv 4)) xint) xint) xint) (xv (pv 1))))))))))))
theorem ok__law_pick (T : Tx w K mg) (hK : C.K = K) (hD : DkIs C false "seed" "turn") : FnOk P w K mg base CX0 2 T.a__law_pick T.d__law_pick ["_law_deck_here", "_law_some"] (spM C m__law_pick) := by
  have G__law_draw := ok__law_draw (P := P) (w := w) (base := base) (C := C) T hK hD
  exact fn_ok (k := 1) T.F__law_pick sc__law_pick (fun cdv A outer s H E hr => by
    have h0 := hr.units0; have h1 := hu1 hr; have h64 := hr.units; have h65 := hu65 hr
    exact (xs_one (xs_ret (xix h1 hK (xv (pv 1)) (xcall G__law_draw (hr.mono (by decide)) rfl T.g__law_draw T.F__law_draw.kp (B__law_draw T) (xa_cons (xv (pv 0)) (xa_cons (xcallB call_len (cm_len hK) rfl T.n_len PySem.boot_len (xa_cons (xv (pv 1)) xa_nil)) xa_nil))) (fun _ _ => rfl)))))
theorem ok__law_any (T : Tx w K mg) (hK : C.K = K) (hD : DkIs C false "seed" "turn") : FnOk P w K mg base CX0 3 T.a__law_any T.d__law_any ["_law_deck_here"] (spM C m__law_any) := by
  have G__law_pick := ok__law_pick (P := P) (w := w) (base := base) (C := C) T hK hD
  exact fn_ok (k := 2) T.F__law_any sc__law_any (fun cdv A outer s H E hr => by
    have h0 := hr.units0; have h1 := hu1 hr; have h64 := hr.units; have h65 := hu65 hr
    exact (xs_cons (xs_set (i := 1) sc__law_any.nd rfl (by first | exact Or.inl rfl | exact Or.inr rfl) (xlst (xa_cons xnon (xa_cons xbl (xa_cons xint (xa_cons (xun un_neg um_neg xint) (xa_cons (xop op_pow om_pow xint xint) (xa_cons xstr (xa_cons xstr (xa_cons xstr (xa_cons (xtup xa_nil) (xa_cons (xlst xa_nil) (xa_cons (xfzd xdnewF) (xa_cons (xtup (xa_cons (xtup xa_nil) xa_nil)) (xa_cons (xlst (xa_cons xstr xa_nil)) (xa_cons (xtup (xa_cons xstr xa_nil)) (xa_cons (xfzd (xdictF (xp_cons xstr xint xp_nil))) (xa_cons (xtup (xa_cons xint (xa_cons xint xa_nil))) xa_nil))))))))))))))))))
      (xs_one (xs_ret (xcall G__law_pick (hr.mono (by decide)) rfl T.g__law_pick T.F__law_pick.kp (B__law_pick T) (xa_cons (xv (pv 0)) (xa_cons (xop op_addAll (om_add hK) (xv (pv 1)) (xlst (xa_cons (xtup (xa_cons (xtup (xa_cons xstr (xa_cons xint xa_nil))) xa_nil)) (xa_cons (xtup (xa_cons xstr (xa_cons xstr xa_nil))) (xa_cons (xtup (xa_cons xint xa_nil)) xa_nil))))) xa_nil)))))))
theorem ok__law_due (T : Tx w K mg) (hK : C.K = K) (hD : DkIs C false "seed" "turn") : FnOk P w K mg base CX0 1 T.a__law_due T.d__law_due ["_law_it"] (spM C m__law_due) := by
  exact fn_ok (k := 0) T.F__law_due sc__law_due (fun cdv A outer s H E hr => by
    have h0 := hr.units0; have h1 := hu1 hr; have h64 := hr.units; have h65 := hu65 hr
    exact (xs_cons (xs_set (i := 1) sc__law_due.nd rfl (by first | exact Or.inl rfl | exact Or.inr rfl) (xfzd (xdictF (xp_cons xstr xint (xp_cons xstr xint (xp_cons xstr xint (xp_cons xstr xint (xp_cons xstr xint (xp_cons xstr xint (xp_cons xstr xint (xp_cons xstr xint xp_nil)))))))))))
      (xs_cons (xs_if (PW.pt (xw_or (xt_not (xt_val (xisi hK k_tuple rfl T.n_isinstance rfl T.n_tuple (by decide +kernel) (xv (pv 0))))) (xw_or (xt_cmp (op_eq0 h0) (om_eq0 hK) (xv (pv 0)) (xtup xa_nil)) (xw_or1 (xt_not (xt_val (xisi hK k_str rfl T.n_isinstance rfl T.n_str (by decide +kernel) (xix h1 hK (xv (pv 0)) xint (fun _ _ => rfl))))))))) (xs_one (xs_ret xbl)) xs_nil)
      (xs_one (xs_ret (xband (xcmp (op_inAll h65) (om_in hK) (xix h1 hK (xv (pv 0)) xint (fun _ _ => rfl)) (xv (pv 1))) (xone (xcmp (op_eqD h64) (om_eq hK) (xcallB call_len (cm_len hK) rfl T.n_len PySem.boot_len (xa_cons (xv (pv 0)) xa_nil)) (xix h1 hK (xv (pv 1)) (xix h1 hK (xv (pv 0)) xint (fun _ _ => rfl)) (fun _ _ => rfl))))))))))
theorem ok__law_bent (T : Tx w K mg) (hK : C.K = K) (hD : DkIs C false "seed" "turn") : FnOk P w K mg base CX0 4 T.a__law_bent T.d__law_bent ["_law_deck_here", "_law_deed"] (spM C m__law_bent) := by
  have G__law_draw := ok__law_draw (P := P) (w := w) (base := base) (C := C) T hK hD
  have G__law_pick := ok__law_pick (P := P) (w := w) (base := base) (C := C) T hK hD
  have G__law_any := ok__law_any (P := P) (w := w) (base := base) (C := C) T hK hD
  exact fn_ok (k := 3) T.F__law_bent sc__law_bent (fun cdv A outer s H E hr => by
    have h0 := hr.units0; have h1 := hu1 hr; have h64 := hr.units; have h65 := hu65 hr
    exact (xs_cons (xs_set (i := 2) sc__law_bent.nd rfl (by first | exact Or.inl rfl | exact Or.inr rfl) (xop op_addAll (om_add hK) xint (xcall G__law_draw (hr.mono (by decide)) rfl T.g__law_draw T.F__law_draw.kp (B__law_draw T) (xa_cons (xv (pv 0)) (xa_cons (xop op_sub om_sub (xcallB call_len (cm_len hK) rfl T.n_len PySem.boot_len (xa_cons (xv (pv 1)) xa_nil)) xint) xa_nil)))))
      (xs_cons (xs_set (i := 3) sc__law_bent.nd rfl (by first | exact Or.inl rfl | exact Or.inr rfl) (xcall G__law_pick (hr.mono (by decide)) rfl T.g__law_pick T.F__law_pick.kp (B__law_pick T) (xa_cons (xv (pv 0)) (xa_cons (xlst (xa_cons xstr (xa_cons xstr (xa_cons xstr (xa_cons xstr (xa_cons xstr (xa_cons xstr (xa_cons xstr (xa_cons xstr (xa_cons xstr (xa_cons xstr (xa_cons xstr (xa_cons xstr xa_nil))))))))))))) xa_nil))))
      (xs_cons (xs_set (i := 4) sc__law_bent.nd rfl (by first | exact Or.inl rfl | exact Or.inr rfl) (xlst (xa_cons (xop op_addAll (om_add hK) (xv (pv 1)) (xtup (xa_cons (xcall G__law_any (hr.mono (by decide)) rfl T.g__law_any T.F__law_any.kp (B__law_any T) (xa_cons (xv (pv 0)) xa_nil)) xa_nil))) (xa_cons (xop op_addAll (om_add hK) (xslice hK (xv (pv 1)) xo_none (xo_some (xv (pv 2)))) (xslice hK (xv (pv 1)) (xo_some (xop op_addAll (om_add hK) (xv (pv 2)) xint)) xo_none)) (xa_cons (xcallTy call_list_of (cm_list hK) rfl T.n_list (by decide +kernel) (xa_cons (xv (pv 1)) xa_nil)) (xa_cons (xslice hK (xv (pv 1)) xo_none (xo_some xint)) (xa_cons (xslice hK (xv (pv 1)) (xo_some xint) xo_none) (xa_cons (xrev hK (xv (pv 1))) xa_nil))))))))
      (xs_cons (xs_set (i := 4) sc__law_bent.nd rfl (by first | exact Or.inl rfl | exact Or.inr rfl) (xop op_addAll (om_add hK) (xv (pv 4)) (xlst (xa_cons (xop op_addAll (om_add hK) (xtup (xa_cons (xupper (xix h1 hK (xv (pv 1)) xint (fun _ _ => rfl))) xa_nil)) (xslice hK (xv (pv 1)) (xo_some xint) xo_none)) (xa_cons (xop op_addAll (om_add hK) (xtup (xa_cons (xop op_addAll (om_add hK) (xix h1 hK (xv (pv 1)) xint (fun _ _ => rfl)) xstr) xa_nil)) (xslice hK (xv (pv 1)) (xo_some xint) xo_none)) (xa_cons (xop op_addAll (om_add hK) (xtup (xa_cons (xv (pv 3)) xa_nil)) (xslice hK (xv (pv 1)) (xo_some xint) xo_none)) (xa_cons (xtup (xa_cons (xv (pv 1)) xa_nil)) xa_nil)))))))
      (xs_cons (xs_set (i := 4) sc__law_bent.nd rfl (by first | exact Or.inl rfl | exact Or.inr rfl) (xop op_addAll (om_add hK) (xv (pv 4)) (xlst (xa_cons (xop op_addAll (om_add hK) (xtup (xa_cons (xtup (xa_cons (xix h1 hK (xv (pv 1)) xint (fun _ _ => rfl)) xa_nil)) xa_nil)) (xslice hK (xv (pv 1)) (xo_some xint) xo_none)) (xa_cons (xop op_addAll (om_add hK) (xtup (xa_cons (xlst (xa_cons (xix h1 hK (xv (pv 1)) xint (fun _ _ => rfl)) xa_nil)) xa_nil)) (xslice hK (xv (pv 1)) (xo_some xint) xo_none)) (xa_cons (xop op_addAll (om_add hK) (xtup (xa_cons xnon xa_nil)) (xslice hK (xv (pv 1)) (xo_some xint) xo_none)) (xa_cons (xfzd (xdictF (xp_cons (xix h1 hK (xv (pv 1)) xint (fun _ _ => rfl)) (xslice hK (xv (pv 1)) (xo_some xint) xo_none) xp_nil))) xa_nil)))))))
      (xs_one (xs_ret (xop op_addAll (om_add hK) (xv (pv 4)) (xlst (xa_cons (xop op_addAll (om_add hK) (xop op_addAll (om_add hK) (xslice hK (xv (pv 1)) xo_none (xo_some (xv (pv 2)))) (xtup (xa_cons (xcall G__law_any (hr.mono (by decide)) rfl T.g__law_any T.F__law_any.kp (B__law_any T) (xa_cons (xv (pv 0)) xa_nil)) xa_nil))) (xslice hK (xv (pv 1)) (xo_some (xop op_addAll (om_add hK) (xv (pv 2)) xint)) xo_none)) (xa_cons (xix h1 hK (xv (pv 1)) xint (fun _ _ => rfl)) (xa_cons (xop op_addAll (om_add hK) (xv (pv 1)) (xv (pv 1))) (xa_cons (xop op_addAll (om_add hK) (xtup (xa_cons (xslice hK (xix h1 hK (xv (pv 1)) xint (fun _ _ => rfl)) xo_none (xo_some (xun un_neg um_neg xint))) xa_nil)) (xslice hK (xv (pv 1)) (xo_some xint) xo_none)) xa_nil))))))))))))))
theorem ok__law_right (T : Tx w K mg) (hK : C.K = K) (hD : DkIs C false "seed" "turn") (hB : ∃ o, base.get? sysModules = some o) : FnG P w K mg base 2 T.a__law_right T.d__law_right ["_law_it"] (spM C m__law_right) := by
  have G__law_due := ok__law_due (P := P) (w := w) (base := base) (C := C) T hK hD
  have G_is_deed := ok_is_deed (P := P) (w := w) (base := base) (C := C) T hK hD
  exact fn_okG (k := 1) T.F__law_right sc__law_right (fun cdv A outer s H E cA hr => by
    have h0 := hr.units0; have h1 := hu1 hr; have h64 := hr.units; have h65 := hu65 hr
    exact (xs_cons (xs_par (i := 1) (j := 2) (by rfl) sc__law_right.nd rfl rfl (by decide) rfl rfl (xa_cons (xcallB (cr_repr2 cA h65 hK hB) cm_repr2 rfl T.n_repr (by decide +kernel) (xa_cons (xv (pv 0)) xa_nil)) (xa_cons (xcallB (cr_repr2 cA h65 hK hB) cm_repr2 rfl T.n_repr (by decide +kernel) (xa_cons (xcall G__law_due (hr.mono (by decide)) rfl T.g__law_due T.F__law_due.kp (B__law_due T) (xa_cons (xv (pv 0)) xa_nil)) xa_nil)) xa_nil)) (by rfl))
      (xs_cons (xs_set (i := 3) sc__law_right.nd rfl (by first | exact Or.inl rfl | exact Or.inr rfl) (xlst (xa_cons (xcallB (cr_repr2 cA h65 hK hB) cm_repr2 rfl T.n_repr (by decide +kernel) (xa_cons (xcall G_is_deed (hr.mono (by decide)) rfl T.g_is_deed T.F_is_deed.kp (B_is_deed T) (xa_cons (xv (pv 0)) xa_nil)) xa_nil)) (xa_cons (xcallB (cr_repr2 cA h65 hK hB) cm_repr2 rfl T.n_repr (by decide +kernel) (xa_cons (xcallK0 G_is_deed (hr.mono (by decide)) rfl T.g_is_deed T.F_is_deed.kp (kb_is_deed_0_thing T.F_is_deed) (xk_cons (xv (pv 0)) xk_nil)) xa_nil)) xa_nil))))
      (xs_one (xs_ret (xband (xcmp (op_eqD h64) (om_eq hK) (xv (pv 3)) (xlst (xa_cons (xv (pv 2)) (xa_cons (xv (pv 2)) xa_nil)))) (xone (xcmp op_eq om_eqS (xcallB (cr_repr2 cA h65 hK hB) cm_repr2 rfl T.n_repr (by decide +kernel) (xa_cons (xv (pv 0)) xa_nil)) (xv (pv 1))))))))))
theorem ok_law (T : Tx w K mg) (hB : ∃ o, base.get? sysModules = some o) (hr : LawRuns m__law_deck 9 1 "seed" "turn" b_law) : FnG P w K mg base 5 T.a_law T.d_law ["_law_script"] (spLaw K) := by
  have G_deck := ok__law_deck (P := P) (w := w) (base := base) (C := mc0 K) T rfl
  exact law_okG (k := 4) T.F_law sc_law (fun cdv A outer s H E cA hr => by
    exact pss_cons (ps_set (i := 1) sc_law.nd rfl (by first | exact Or.inl rfl | exact Or.inr rfl) (pe_call G_deck (hr.mono (by decide)) rfl T.g__law_deck T.F__law_deck.kp (B__law_deck T) .nil pass0 (pa_cons (pv 0) pa_nil))) (xss_rest fun C hK hD => by
      have G__law_any := ok__law_any (P := P) (w := w) (base := base) (C := C) T hK hD
      have G_is_deed := ok_is_deed (P := P) (w := w) (base := base) (C := C) T hK hD
      have G__law_bent := ok__law_bent (P := P) (w := w) (base := base) (C := C) T hK hD
      have G__law_right := ok__law_right (P := P) (w := w) (base := base) (C := C) T hK hD hB
      have h0 := hr.units0; have h1 := hu1 hr; have h64 := hr.units; have h65 := hu65 hr
      exact (xs_cons (xs_for PassesOwn.never rfl (xi_seq hK (xlst (xa_cons xstr (xa_cons xstr (xa_cons xstr (xa_cons xstr (xa_cons xstr (xa_cons xstr (xa_cons xstr (xa_cons xstr xa_nil)))))))))) (xg_name (i := 2) sc_law.nd rfl (by first | exact Or.inl rfl | exact Or.inr rfl)) (xs_cons (xs_set (i := 3) sc_law.nd rfl (by first | exact Or.inl rfl | exact Or.inr rfl) (xget h1 (xfzd (xdictF (xp_cons xstr xint (xp_cons xstr xint (xp_cons xstr xint (xp_cons xstr xint xp_nil)))))) (xv (pv 2)) xint ⟨rfl, rfl, rfl, rfl⟩))
      (xs_cons (xs_set (i := 4) sc_law.nd rfl (by first | exact Or.inl rfl | exact Or.inr rfl) (xop op_addAll (om_add hK) (xtup (xa_cons (xv (pv 2)) xa_nil)) (xcallTy call_tuple_of (cm_tuple hK) rfl T.n_tuple (by decide +kernel) (xa_cons (xfz (xlc (own := [("_law_k", 7)]) (by decide) rfl sc_law.nd (xi_range1 rfl T.n_range (xa_cons (xv (pv 3)) xa_nil)) (blkOk_by (by show blkC N_law (defScope s_law) _ _ = true; decide +kernel)) (fun _ _ _ _ _ => (xg_name (i := 7) sc_law.nd rfl (by first | exact Or.inl rfl | exact Or.inr rfl))) (fun _ _ _ _ _ => xts_nil) (fun _ _ _ _ _ => (xcall G__law_any (hr.mono (by decide)) rfl T.g__law_any T.F__law_any.kp (B__law_any T) (xa_cons (xv (pv 1)) xa_nil))))) xa_nil))))
      (xs_cons (xs_if (xt_cmp op_notBl om_notB (xcall G_is_deed (hr.mono (by decide)) rfl T.g_is_deed T.F_is_deed.kp (B_is_deed T) (xa_cons (xv (pv 4)) xa_nil)) xbl) (xs_one (xs_ret xbl)) xs_nil)
      (xs_one (xs_if (xt_cmp (op_neL0 h0) om_eqL0 (xfz (xlc (own := [("_law_it", 8)]) (by decide) rfl sc_law.nd (xi_seq hK (xop op_addAll (om_add hK) (xop op_addAll (om_add hK) (xlst (xa_cons (xv (pv 4)) xa_nil)) (xcall G__law_bent (hr.mono (by decide)) rfl T.g__law_bent T.F__law_bent.kp (B__law_bent T) (xa_cons (xv (pv 1)) (xa_cons (xv (pv 4)) xa_nil)))) (xlst (xa_cons (xv (pv 4)) xa_nil)))) (blkOk_by (by show blkC N_law (defScope s_law) _ _ = true; decide +kernel)) (fun _ _ _ _ _ => (xg_name (i := 8) sc_law.nd rfl (by first | exact Or.inl rfl | exact Or.inr rfl))) (fun _ _ _ _ _ => (xts_one (xt_not (xt_val (gcall G__law_right cA (hr.mono (by decide)) rfl T.g__law_right T.F__law_right.kp (B__law_right T) (xa_cons (xv (pv 8)) xa_nil)))))) (fun _ _ _ _ _ => (xv (pv 8))))) (xlst xa_nil)) (xs_one (xs_ret xbl)) xs_nil))))))
      (xs_cons (xs_set (i := 5) sc_law.nd rfl (by first | exact Or.inl rfl | exact Or.inr rfl) (xlst (xa_cons xstr (xa_cons xstr (xa_cons xstr (xa_cons xstr (xa_cons xstr (xa_cons xstr (xa_cons xstr (xa_cons xstr (xa_cons xstr (xa_cons xstr (xa_cons xstr (xa_cons xstr (xa_cons xstr xa_nil)))))))))))))))
      (xs_cons (xs_set (i := 6) sc_law.nd rfl (by first | exact Or.inl rfl | exact Or.inr rfl) (xop op_addAll (om_add hK) (xop op_addAll (om_add hK) (xfz (xlc (own := [("_law_word", 2)]) (by decide) rfl sc_law.nd (xi_seq hK (xv (pv 5))) (blkOk_by (by show blkC N_law (defScope s_law) _ _ = true; decide +kernel)) (fun _ _ _ _ _ => (xg_name (i := 2) sc_law.nd rfl (by first | exact Or.inl rfl | exact Or.inr rfl))) (fun _ _ _ _ _ => xts_nil) (fun _ _ _ _ _ => (xtup (xa_cons (xv (pv 2)) (xa_cons xint xa_nil)))))) (xfz (xlc (own := [("_law_word", 2)]) (by decide) rfl sc_law.nd (xi_seq hK (xv (pv 5))) (blkOk_by (by show blkC N_law (defScope s_law) _ _ = true; decide +kernel)) (fun _ _ _ _ _ => (xg_name (i := 2) sc_law.nd rfl (by first | exact Or.inl rfl | exact Or.inr rfl))) (fun _ _ _ _ _ => xts_nil) (fun _ _ _ _ _ => (xtup (xa_cons (xv (pv 2)) xa_nil)))))) (xv (pv 5))))
      (xs_cons (xs_set (i := 6) sc_law.nd rfl (by first | exact Or.inl rfl | exact Or.inr rfl) (xop op_addAll (om_add hK) (xv (pv 6)) (xlst (xa_cons xnon (xa_cons xbl (xa_cons xint (xa_cons (xtup xa_nil) (xa_cons (xlst xa_nil) (xa_cons (xfzd xdnewF) (xa_cons (xtup (xa_cons (xtup xa_nil) xa_nil)) (xa_cons (xtup (xa_cons xnon xa_nil)) (xa_cons (xtup (xa_cons xstr xa_nil)) (xa_cons (xlst (xa_cons xstr (xa_cons xstr xa_nil))) (xa_cons (xtup (xa_cons xstr (xa_cons xstr (xa_cons xstr xa_nil)))) (xa_cons (xtup (xa_cons xint (xa_cons xstr xa_nil))) xa_nil)))))))))))))))
      (xs_one (xs_ret (xcmp (op_eqL0 h0) om_eqL0 (xfz (xlc (own := [("_law_it", 8)]) (by decide) rfl sc_law.nd (xi_seq hK (xv (pv 6))) (blkOk_by (by show blkC N_law (defScope s_law) _ _ = true; decide +kernel)) (fun _ _ _ _ _ => (xg_name (i := 8) sc_law.nd rfl (by first | exact Or.inl rfl | exact Or.inr rfl))) (fun _ _ _ _ _ => (xts_one (xt_not (xt_val (gcall G__law_right cA (hr.mono (by decide)) rfl T.g__law_right T.F__law_right.kp (B__law_right T) (xa_cons (xv (pv 8)) xa_nil)))))) (fun _ _ _ _ _ => (xv (pv 8))))) (xlst xa_nil)))))))))) hr
end
theorem all_mk {l : PySem.W.OpenLaw} {w : World} {K : PySem.W.Frag} {h : Heap} {mg : Str → Option Value} {fa f0 f1 f2 f3 f4 f5 f6 f7 f8 : Addr} (X : K.In h) (G : h.Ns mainGlobals mg) (hfa : mg "law" = some (.ref fa)) (hr : LawRuns m__law_deck 9 1 "seed" "turn" b_law)
    {od0 an0 od1 an1 od2 an2 od3 an3 od4 an4 od5 an5 od6 an6 od7 an7 od8 an8 : Option Addr} {sl0 sl1 sl2 sl3 sl4 sl5 sl6 sl7 sl8 : Array (Option Value)} {oc0 kV0 dc0 pm0 cd0 ct0 oc1 kV1 dc1 pm1 cd1 ct1 oc2 kV2 dc2 pm2 cd2 ct2 oc3 kV3 dc3 pm3 cd3 ct3 oc4 kV4 dc4 pm4 cd4 ct4 oc5 kV5 dc5 pm5 cd5 ct5 oc6 kV6 dc6 pm6 cd6 ct6 oc7 kV7 dc7 pm7 cd7 ct7 oc8 kV8 dc8 pm8 cd8 ct8 : Value}
    (a0 : PySem.W.nsIn K mainGlobals "is_deed" = some (some (.ref f0))) (l0 : K.lookup f0 = some ⟨oc0, od0, .func (PySem.W.fnOf "is_deed" "is_deed" (defArgs s_is_deed) (defBody s_is_deed) (defScope s_is_deed) .none kV0 dc0 pm0 an0 cd0 ct0), sl0⟩) (c0 : PySem.W.codeIn K cd0 "is_deed" = true) (k0 : PySem.W.keepIn K (.ref f0) = true)
    (a1 : PySem.W.nsIn K mainGlobals "_law_deck" = some (some (.ref f1))) (l1 : K.lookup f1 = some ⟨oc1, od1, .func (PySem.W.fnOf "_law_deck" "_law_deck" (defArgs s__law_deck) (defBody s__law_deck) (defScope s__law_deck) .none kV1 dc1 pm1 an1 cd1 ct1), sl1⟩) (c1 : PySem.W.codeIn K cd1 "_law_deck" = true) (k1 : PySem.W.keepIn K (.ref f1) = true)
    (a2 : PySem.W.nsIn K mainGlobals "_law_draw" = some (some (.ref f2))) (l2 : K.lookup f2 = some ⟨oc2, od2, .func (PySem.W.fnOf "_law_draw" "_law_draw" (defArgs s__law_draw) (defBody s__law_draw) (defScope s__law_draw) .none kV2 dc2 pm2 an2 cd2 ct2), sl2⟩) (c2 : PySem.W.codeIn K cd2 "_law_draw" = true) (k2 : PySem.W.keepIn K (.ref f2) = true)
    (a3 : PySem.W.nsIn K mainGlobals "_law_pick" = some (some (.ref f3))) (l3 : K.lookup f3 = some ⟨oc3, od3, .func (PySem.W.fnOf "_law_pick" "_law_pick" (defArgs s__law_pick) (defBody s__law_pick) (defScope s__law_pick) .none kV3 dc3 pm3 an3 cd3 ct3), sl3⟩) (c3 : PySem.W.codeIn K cd3 "_law_pick" = true) (k3 : PySem.W.keepIn K (.ref f3) = true)
    (a4 : PySem.W.nsIn K mainGlobals "_law_any" = some (some (.ref f4))) (l4 : K.lookup f4 = some ⟨oc4, od4, .func (PySem.W.fnOf "_law_any" "_law_any" (defArgs s__law_any) (defBody s__law_any) (defScope s__law_any) .none kV4 dc4 pm4 an4 cd4 ct4), sl4⟩) (c4 : PySem.W.codeIn K cd4 "_law_any" = true) (k4 : PySem.W.keepIn K (.ref f4) = true)
    (a5 : PySem.W.nsIn K mainGlobals "_law_due" = some (some (.ref f5))) (l5 : K.lookup f5 = some ⟨oc5, od5, .func (PySem.W.fnOf "_law_due" "_law_due" (defArgs s__law_due) (defBody s__law_due) (defScope s__law_due) .none kV5 dc5 pm5 an5 cd5 ct5), sl5⟩) (c5 : PySem.W.codeIn K cd5 "_law_due" = true) (k5 : PySem.W.keepIn K (.ref f5) = true)
    (a6 : PySem.W.nsIn K mainGlobals "_law_bent" = some (some (.ref f6))) (l6 : K.lookup f6 = some ⟨oc6, od6, .func (PySem.W.fnOf "_law_bent" "_law_bent" (defArgs s__law_bent) (defBody s__law_bent) (defScope s__law_bent) .none kV6 dc6 pm6 an6 cd6 ct6), sl6⟩) (c6 : PySem.W.codeIn K cd6 "_law_bent" = true) (k6 : PySem.W.keepIn K (.ref f6) = true)
    (a7 : PySem.W.nsIn K mainGlobals "_law_right" = some (some (.ref f7))) (l7 : K.lookup f7 = some ⟨oc7, od7, .func (PySem.W.fnOf "_law_right" "_law_right" (defArgs s__law_right) (defBody s__law_right) (defScope s__law_right) .none kV7 dc7 pm7 an7 cd7 ct7), sl7⟩) (c7 : PySem.W.codeIn K cd7 "_law_right" = true) (k7 : PySem.W.keepIn K (.ref f7) = true)
    (a8 : PySem.W.nsIn K mainGlobals "law" = some (some (.ref f8))) (l8 : K.lookup f8 = some ⟨oc8, od8, .func (PySem.W.fnOf "law" "law" (defArgs s_law) (defBody s_law) (defScope s_law) .none kV8 dc8 pm8 an8 cd8 ct8), sl8⟩) (c8 : PySem.W.codeIn K cd8 "law" = true) (k8 : PySem.W.keepIn K (.ref f8) = true)
    (z0 : PySem.W.nsIn K mainGlobals "isinstance" = some none)
    (z1 : PySem.W.nsIn K mainGlobals "len" = some none)
    (z2 : PySem.W.nsIn K mainGlobals "list" = some none)
    (z3 : PySem.W.nsIn K mainGlobals "range" = some none)
    (z4 : PySem.W.nsIn K mainGlobals "repr" = some none)
    (z5 : PySem.W.nsIn K mainGlobals "str" = some none)
    (z6 : PySem.W.nsIn K mainGlobals "tuple" = some none)
    {u0 : Addr} {y0_0 y0_1 y0_2 y0_3 y0_4 y0_5 y0_6 y0_7 : Tok} (w0 : PySem.W.nsIn K mainGlobals "MANY" = some (some (.ref u0))) (v0 : He.dicW K u0 = some (He.keysIn w.params ["put", "out", "bar", "free", "step", "lead", "ask", "forget"]))
    (x0_0 : PySem.W.nsIn K u0 "put" = some (some (.int 3 y0_0)))
    (x0_1 : PySem.W.nsIn K u0 "out" = some (some (.int 1 y0_1)))
    (x0_2 : PySem.W.nsIn K u0 "bar" = some (some (.int 3 y0_2)))
    (x0_3 : PySem.W.nsIn K u0 "free" = some (some (.int 1 y0_3)))
    (x0_4 : PySem.W.nsIn K u0 "step" = some (some (.int 2 y0_4)))
    (x0_5 : PySem.W.nsIn K u0 "lead" = some (some (.int 1 y0_5)))
    (x0_6 : PySem.W.nsIn K u0 "ask" = some (some (.int 2 y0_6)))
    (x0_7 : PySem.W.nsIn K u0 "forget" = some (some (.int 1 y0_7))) :
    ∃ fd : FuncData, (∀ (s : Shared) (v : Value), BindsTo s fd ⟨[v], []⟩ [("_law_script", v)]) ∧ ∀ base : Heap, K.In base → base.Ns mainGlobals mg → (∃ o, base.get? sysModules = some o) → FnG l.prog w K mg base 5 fa fd ["_law_script"] (spLaw K) := by
  have e := hfa.symm.trans (PySem.W.mg_of X G a8)
  cases e
  let T : Tx w K mg := ⟨f0, _, fun_mk (st := s_is_deed) l0 c0 k0, PySem.W.mg_of X G a0, f1, _, fun_mk (st := s__law_deck) l1 c1 k1, PySem.W.mg_of X G a1, f2, _, fun_mk (st := s__law_draw) l2 c2 k2, PySem.W.mg_of X G a2, f3, _, fun_mk (st := s__law_pick) l3 c3 k3, PySem.W.mg_of X G a3, f4, _, fun_mk (st := s__law_any) l4 c4 k4, PySem.W.mg_of X G a4, f5, _, fun_mk (st := s__law_due) l5 c5 k5, PySem.W.mg_of X G a5, f6, _, fun_mk (st := s__law_bent) l6 c6 k6, PySem.W.mg_of X G a6, f7, _, fun_mk (st := s__law_right) l7 c7 k7, PySem.W.mg_of X G a7, fa, _, fun_mk (st := s_law) l8 c8 k8, PySem.W.mg_of X G a8, PySem.W.mg_none_of X G z0, PySem.W.mg_none_of X G z1, PySem.W.mg_none_of X G z2, PySem.W.mg_none_of X G z3, PySem.W.mg_none_of X G z4, PySem.W.mg_none_of X G z5, PySem.W.mg_none_of X G z6, u0, PySem.W.mg_of X G w0, ktab_mk (kvs := kv_MANY) v0 (valsIn_cons x0_0 (valsIn_cons x0_1 (valsIn_cons x0_2 (valsIn_cons x0_3 (valsIn_cons x0_4 (valsIn_cons x0_5 (valsIn_cons x0_6 (valsIn_cons x0_7 valsIn_nil))))))))⟩
  exact ⟨T.d_law, fun s v => .of_eq rfl, fun base _ _ hB => ok_law T hB hr⟩
end G_k61
open PySem PySem.W PyProof.Rows
set_option maxRecDepth 100000 in
set_option maxHeartbeats 0 in
theorem PySem.Challenge.cw_middleyard_k61_what_is_a_deed_holds : PySem.Challenge.rw_middleyard_k61_what_is_a_deed.Holds := by
  w_on; o_law; k_head; (case hw => w_witness2)
  k_fill
  refine MM.walkG2 (l := PySem.Challenge.rw_middleyard_k61_what_is_a_deed) (k := 5) (x := "_law_script") (by decide +kernel) rfl rfl ⟨rfl, by decide, by decide⟩ (fun w h Y => PySem.W.kIn_of Y) ?F
  case F =>
    intro w mg fa h KX G hmg
    refine' G_k61.all_mk KX G hmg G_k61.law_runs ?a0 ?l0 ?c0 ?k0 ?a1 ?l1 ?c1 ?k1 ?a2 ?l2 ?c2 ?k2 ?a3 ?l3 ?c3 ?k3 ?a4 ?l4 ?c4 ?k4 ?a5 ?l5 ?c5 ?k5 ?a6 ?l6 ?c6 ?k6 ?a7 ?l7 ?c7 ?k7 ?a8 ?l8 ?c8 ?k8 ?z0 ?z1 ?z2 ?z3 ?z4 ?z5 ?z6 ?w0 ?v0 ?x0_0 ?x0_1 ?x0_2 ?x0_3 ?x0_4 ?x0_5 ?x0_6 ?x0_7
    (case a0 => k_is); (case l0 => k_is); (case c0 => k_is); (case k0 => k_is); (case a1 => k_is); (case l1 => k_is); (case c1 => k_is); (case k1 => k_is); (case a2 => k_is); (case l2 => k_is); (case c2 => k_is); (case k2 => k_is); (case a3 => k_is); (case l3 => k_is); (case c3 => k_is); (case k3 => k_is); (case a4 => k_is); (case l4 => k_is); (case c4 => k_is); (case k4 => k_is); (case a5 => k_is); (case l5 => k_is); (case c5 => k_is); (case k5 => k_is); (case a6 => k_is); (case l6 => k_is); (case c6 => k_is); (case k6 => k_is); (case a7 => k_is); (case l7 => k_is); (case c7 => k_is); (case k7 => k_is); (case a8 => k_is); (case l8 => k_is); (case c8 => k_is); (case k8 => k_is); (case z0 => k_is); (case z1 => k_is); (case z2 => k_is); (case z3 => k_is); (case z4 => k_is); (case z5 => k_is); (case z6 => k_is); (case w0 => k_is); (case v0 => first | rfl | (with_unfolding_all rfl) | decide +kernel); (case x0_0 => k_is); (case x0_1 => k_is); (case x0_2 => k_is); (case x0_3 => k_is); (case x0_4 => k_is); (case x0_5 => k_is); (case x0_6 => k_is); (case x0_7 => k_is)
#print axioms PySem.Challenge.cw_middleyard_k61_what_is_a_deed_holds
