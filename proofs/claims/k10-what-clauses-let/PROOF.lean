import PyProof.Rows.All
import Wide.All
import OpenK.AllK
import Wide.FinOn
import HandS.ForMost
import HandS.Exc
import HandS.TryOnly
import HandS.IsInst
import HandS.TupAny
import HandS.TupLe
import HandS.Style
import HandS.Flow
import HandS.Deep
import KE.KSortedM
import PyProof.P3In
import HandS.SortInts
import HandS.Zip
import HandS.More
import HandS.Ends
import HandS.Conv
import HandS.HeadHook3
import HandS.Text
import HandS.SetFor
import HandS.ExcInit
import HandS.ExcField
import HandS.ExcOwn
import HandS.WordsExc
import HandS.ExcIs
import KE.KExcIs
import KE.KIsAll
import PyProof.ReprRoads
import HandS.TupMul
import KE.GoesEnum
import PyProof.StrLawsRepr
import PyProof.FitsInt
import KE.DataMinMax
import HandS.DictComp
import PyProof.DictCompW
import KE.KIndexOf
import HandS.SortRule
import KE.KDictList
import HandS.ListItems
import PySem.Challenge.RW_middleyard_k10_what_clauses_let
set_option Elab.async false
set_option linter.all false
set_option autoImplicit false
set_option maxRecDepth 100000
/-! MM: a layer of plain functions over HandS: what a piece of the program does is told as a plain function of data (PyData), once for each construct. -/
namespace MM
open PySem PySem.Spec PyProof.Rows L2

abbrev D := PyData
abbrev St := L2.St
abbrev Ex := String × List D
structure Dk where
  cells : List Int
  seed : Int
  tn : Int
inductive Sl where
  | no | fz (d : D) | ml (ds : List D) | md (kvs : List (Key × D)) | mt (kvs : List (List Key × D))
def Sl.mut : Sl → Bool
  | .ml _ => true
  | .md _ => true
  | .mt _ => true
  | _ => false
structure Ps where
  sl : List Sl
  dk : Dk
/-- the deck: where it stands, where its cells stand, whether it is a list, else the names of its seed and its turn -/
structure DkI where
  a : Addr
  c : Addr
  lst : Bool
  sn : Str
  nm : Str
  h1 : sn ≠ "cells"
  h2 : nm ≠ "cells"
  h3 : nm ≠ sn
def DkI.obj (i : DkI) (k : Dk) : HO := if i.lst = true then .lst [.ref i.c, .int k.seed, .int k.tn] else .dK [(.inr "cells", .ref i.c), (.inr i.sn, .int k.seed), (.inr i.nm, .int k.tn)]
/-- where one stands: the written part, the deck, how an exception lies -/
structure Mc where
  K : PySem.W.Frag
  dk : Option DkI
  xr : Ex → Value → Option Addr → Hp → Hp → Prop
def deckD : D := .dict [(.bool true, .none)]
def kD : Key → D
  | .inl i => .int i
  | .inr x => .str x
mutual
inductive Rp (C : Mc) (F : Hp) : V → D → Prop
  | non : Rp C F .non .none
  | bl (b : Bool) : Rp C F (.bl b) (.bool b)
  | int (i : Int) : Rp C F (.int i) (.int i)
  | str (x : Str) : Rp C F (.str x) (.str x)
  | lst {a : Addr} {xs : List V} {ds : List D} : F a = some (.lst xs) → RpA C F xs ds → Rp C F (.ref a) (.list ds)
  | tup {a : Addr} {xs : List V} {ds : List D} : F a = some (.tup xs) → RpA C F xs ds → Rp C F (.ref a) (.tuple ds)
  | dct {a : Addr} {kvs : List (Key × V)} {ds : List (D × D)} : F a = some (.dK kvs) → RpA C F (kvs.map (·.2)) (ds.map (·.2)) → ds.map (·.1) = kvs.map (fun p => kD p.1) → Rp C F (.ref a) (.dict ds)
  | dcT {a : Addr} {kvs : List (List Key × V)} {ds : List (D × D)} : F a = some (.dT kvs) → kvs ≠ [] → RpA C F (kvs.map (·.2)) (ds.map (·.2)) → ds.map (·.1) = kvs.map (fun p => PyData.tuple (p.1.map kD)) → Rp C F (.ref a) (.dict ds)
  | dz {a : Addr} {o : Obj} {kvs : List (Key × V)} {ds : List (D × D)} : F a = some (.frz o (.dK kvs)) → RpA C F (kvs.map (·.2)) (ds.map (·.2)) → ds.map (·.1) = kvs.map (fun p => kD p.1) → Rp C F (.ref a) (.dict ((.bool false, .none) :: ds))
  | nt {a : Addr} {o : Obj} {xs : List V} {ds : List D} : F a = some (.frz o (.tup xs)) → o.dict = none → RpA C F xs ds → Rp C F (.ref a) (.dict [(.bool true, .tuple ds)])
  | deck {i : DkI} : C.dk = some i → Rp C F (.ref i.a) deckD
inductive RpA (C : Mc) (F : Hp) : List V → List D → Prop
  | nil : RpA C F [] []
  | cons {v : V} {vs : List V} {d : D} {ds : List D} : Rp C F v d → RpA C F vs ds → RpA C F (v :: vs) (d :: ds)
end
theorem sqT_mono {K : PySem.W.Frag} {H H' : Hp} {a : Addr} {xs : List V} (e : Same H H') (h : H a = some (.tup xs)) : SqT K H' a xs := .inl (.inl (e _ _ h))
section
variable {C : Mc} {F F' : Hp}
mutual
theorem Rp.mono (s : Same F F') : ∀ {v : V} {d : D}, Rp C F v d → Rp C F' v d
  | _, _, .non => .non
  | _, _, .bl b => .bl b
  | _, _, .int i => .int i
  | _, _, .str x => .str x
  | _, _, .lst h r => .lst (s _ _ h) (RpA.mono s r)
  | _, _, .tup h r => .tup (s _ _ h) (RpA.mono s r)
  | _, _, .dct h r k => .dct (s _ _ h) (RpA.mono s r) k
  | _, _, .dcT h n r k => .dcT (s _ _ h) n (RpA.mono s r) k
  | _, _, .dz h r k => .dz (s _ _ h) (RpA.mono s r) k
  | _, _, .nt h n r => .nt (s _ _ h) n (RpA.mono s r)
  | _, _, .deck h => .deck h
theorem RpA.mono (s : Same F F') : ∀ {vs : List V} {ds : List D}, RpA C F vs ds → RpA C F' vs ds
  | _, _, .nil => .nil
  | _, _, .cons r t => .cons (Rp.mono s r) (RpA.mono s t)
end
theorem RpA.length : ∀ {vs : List V} {ds : List D}, RpA C F vs ds → vs.length = ds.length
  | _, _, .nil => rfl
  | _, _, .cons _ t => congrArg (· + 1) (RpA.length t)
theorem RpA.get : ∀ {vs : List V} {ds : List D} {i : Nat} {v : V}, RpA C F vs ds → vs[i]? = some v → ∃ d, ds[i]? = some d ∧ Rp C F v d
  | _, _, i, v, .nil, e => by simp at e
  | _, _, 0, v, .cons r _, e => by simp at e; subst e; exact ⟨_, rfl, r⟩
  | _, _, i + 1, v, .cons _ t, e => by
    obtain ⟨d, h1, h2⟩ := RpA.get (i := i) (v := v) t (by simpa using e)
    exact ⟨d, by simpa using h1, h2⟩
theorem RpA.get' : ∀ {vs : List V} {ds : List D} {i : Nat} {d : D}, RpA C F vs ds → ds[i]? = some d → ∃ v, vs[i]? = some v ∧ Rp C F v d
  | _, _, i, v, .nil, e => by simp at e
  | _, _, 0, v, .cons r _, e => by simp at e; subst e; exact ⟨_, rfl, r⟩
  | _, _, i + 1, v, .cons _ t, e => by
    obtain ⟨d, h1, h2⟩ := RpA.get' (i := i) (d := v) t (by simpa using e)
    exact ⟨d, by simpa using h1, h2⟩
theorem RpA.append : ∀ {xs ys : List V} {ds es : List D}, RpA C F xs ds → RpA C F ys es → RpA C F (xs ++ ys) (ds ++ es)
  | _, _, _, _, .nil, s => s
  | _, _, _, _, .cons r t, s => .cons r (RpA.append t s)
theorem RpA.take : ∀ {xs : List V} {ds : List D} (n : Nat), RpA C F xs ds → RpA C F (xs.take n) (ds.take n)
  | _, _, 0, _ => .nil
  | _, _, _ + 1, .nil => .nil
  | _, _, n + 1, .cons r t => .cons r (RpA.take n t)
theorem RpA.drop : ∀ {xs : List V} {ds : List D} (n : Nat), RpA C F xs ds → RpA C F (xs.drop n) (ds.drop n)
  | _, _, 0, r => r
  | _, _, _ + 1, .nil => .nil
  | _, _, n + 1, .cons _ t => RpA.drop n t
theorem RpA.reverse {xs : List V} {ds : List D} (r : RpA C F xs ds) : RpA C F xs.reverse ds.reverse := by
  induction xs generalizing ds with
  | nil => cases r; exact .nil
  | cons x xs ih =>
    cases r with
    | cons a b =>
      rw [List.reverse_cons, List.reverse_cons]
      exact (ih b).append (.cons a .nil)
theorem RpA.set : ∀ {xs : List V} {ds : List D} (n : Nat) {v : V} {d : D}, RpA C F xs ds → Rp C F v d → RpA C F (xs.set n v) (ds.set n d)
  | _, _, _, _, _, .nil, _ => .nil
  | _, _, 0, _, _, .cons _ t, r => .cons r t
  | _, _, n + 1, _, _, .cons a t, r => .cons a (RpA.set n t r)
theorem RpA.dropLast {xs : List V} {ds : List D} (r : RpA C F xs ds) : RpA C F xs.dropLast ds.dropLast := by
  rw [List.dropLast_eq_take, List.dropLast_eq_take, r.length]
  exact r.take _
/-- flat data is told by its value -/
theorem RpA.ints : ∀ {xs : List V} {ns : List Int}, RpA C F xs (ns.map PyData.int) → xs = ns.map V.int
  | _, [], .nil => rfl
  | _, n :: ns, .cons r t => by
    cases r
    exact congrArg (V.int n :: ·) (RpA.ints (ns := ns) t)
theorem RpA.of_ints : ∀ ns : List Int, RpA C F (ns.map V.int) (ns.map PyData.int)
  | [] => .nil
  | n :: ns => .cons (.int n) (RpA.of_ints ns)
end

/-! ### states -/
def Own (sl : List Sl) (σ : St) (i : Nat) (p : Addr) : Prop := (∃ s, sl[i]? = some s ∧ s.mut = true) ∧ σ[i]? = some (some (.ref p))
def SlR (C : Mc) (Gc F H : Hp) (v : Option (Option V)) : Sl → Prop
  | .no => True
  | .fz d => ∃ x, v = some (some x) ∧ Rp C F x d
  | .ml ds => ∃ p xs, v = some (some (.ref p)) ∧ H p = some (.lst xs) ∧ F p = none ∧ Gc p = none ∧ RpA C F xs ds
  | .md ds => ∃ p kvs, v = some (some (.ref p)) ∧ H p = some (.dK kvs) ∧ F p = none ∧ Gc p = none ∧ RpA C F (kvs.map (·.2)) (ds.map (·.2)) ∧ ds.map (·.1) = kvs.map (·.1)
  | .mt ds => ∃ p kvs, v = some (some (.ref p)) ∧ H p = some (.dT kvs) ∧ F p = none ∧ Gc p = none ∧ RpA C F (kvs.map (·.2)) (ds.map (·.2)) ∧ ds.map (·.1) = kvs.map (·.1)
structure DeckAt (i : DkI) (F Gc H : Hp) (k : Dk) : Prop where
  d : H i.a = some (i.obj k)
  l : H i.c = some (.lst (k.cells.map V.int))
  fa : F i.a = none
  fc : F i.c = none
  ga : Gc i.a = none
  gc : Gc i.c = none
structure Rel (C : Mc) (Gc F H : Hp) (ps : Ps) (σ : St) : Prop where
  fh : Same F H
  gh : Same Gc H
  dj : ∀ p o, Gc p = some o → F p = none
  len : σ.length = ps.sl.length
  sl : ∀ (i : Nat) (s : Sl), ps.sl[i]? = some s → SlR C Gc F H σ[i]? s
  ow : ∀ i j p, Own ps.sl σ i p → Own ps.sl σ j p → i = j
  dk : ∀ i, C.dk = some i → DeckAt i F Gc H ps.dk
  od : ∀ i, C.dk = some i → ∀ j p, Own ps.sl σ j p → p ≠ i.a ∧ p ≠ i.c

section
variable {C : Mc} {Gc F F' H H' : Hp} {ps : Ps} {σ : St}
theorem SlR.next {s : Sl} {v : Option (Option V)} (h : SlR C Gc F H v s) (sf : Same F F') (k : ∀ p o, H p = some o → F p = none → H' p = some o ∧ F' p = none) : SlR C Gc F' H' v s := by
  cases s with
  | no => trivial
  | fz d => obtain ⟨x, e, r⟩ := h; exact ⟨x, e, r.mono sf⟩
  | ml ds => obtain ⟨p, xs, e, h1, h2, h3, r⟩ := h; exact ⟨p, xs, e, (k _ _ h1 h2).1, (k _ _ h1 h2).2, h3, r.mono sf⟩
  | md ds => obtain ⟨p, xs, e, h1, h2, h3, r, z⟩ := h; exact ⟨p, xs, e, (k _ _ h1 h2).1, (k _ _ h1 h2).2, h3, r.mono sf, z⟩
  | mt ds => obtain ⟨p, xs, e, h1, h2, h3, r, z⟩ := h; exact ⟨p, xs, e, (k _ _ h1 h2).1, (k _ _ h1 h2).2, h3, r.mono sf, z⟩
/-- what isn't frozen is as it was -/
theorem Rel.next (R : Rel C Gc F H ps σ) (sf : Same F F') (sh : Same F' H') (k : ∀ p o, H p = some o → F p = none → H' p = some o ∧ F' p = none) : Rel C Gc F' H' ps σ := by
  refine ⟨sh, fun p o e => (k p o (R.gh p o e) (R.dj p o e)).1, fun p o e => (k p o (R.gh p o e) (R.dj p o e)).2, R.len, fun i s e => (R.sl i s e).next sf k, R.ow, fun i e => ?_, R.od⟩
  have d := R.dk i e
  exact ⟨(k _ _ d.d d.fa).1, (k _ _ d.l d.fc).1, (k _ _ d.d d.fa).2, (k _ _ d.l d.fc).2, d.ga, d.gc⟩
theorem Rel.alloc {p : Addr} {o : HO} (R : Rel C Gc F H ps σ) (n : H p = none) : Rel C Gc (upd F p o) (upd H p o) ps σ := by
  have nf : F p = none := R.fh.free n
  refine R.next (fun b u e => ?_) (fun b u e => ?_) fun b u e f => ?_
  · rw [upd_ne (ne_of_none e nf)]; exact e
  · by_cases hb : b = p
    · subst hb; rw [upd_same] at e ⊢; exact e
    · rw [upd_ne hb] at e ⊢; exact R.fh _ _ e
  · have hb : b ≠ p := ne_of_none e n
    rw [upd_ne hb, upd_ne hb]; exact ⟨e, f⟩
theorem same_alloc {p : Addr} {o : HO} (n : F p = none) : Same F (upd F p o) := fun b u e => by
  rw [upd_ne (ne_of_none e n)]; exact e
/-- a new object that is not frozen -/
theorem Rel.fresh {p : Addr} {o : HO} (R : Rel C Gc F H ps σ) (n : H p = none) : Rel C Gc F (upd H p o) ps σ := by
  refine R.next (Same.refl F) (fun b u e => ?_) fun b u e f => ?_
  · rw [upd_ne (ne_of_none (R.fh _ _ e) n)]; exact R.fh _ _ e
  · rw [upd_ne (ne_of_none e n)]; exact ⟨e, f⟩
theorem Rel.get {i : Nat} {s : Sl} (R : Rel C Gc F H ps σ) (e : ps.sl[i]? = some s) : SlR C Gc F H σ[i]? s := R.sl i s e
theorem own_set {sl : List Sl} {σ : St} {i j : Nat} {p : Addr} {s : Sl} {v : Option V} (hs : s.mut = false) (h : Own (sl.set i s) (σ.set i v) j p) : j ≠ i ∧ Own sl σ j p := by
  obtain ⟨⟨s', e, m⟩, e2⟩ := h
  have hj : j ≠ i := by
    rintro rfl
    rw [List.getElem?_set] at e
    simp only [if_pos] at e
    split at e
    · cases e; rw [hs] at m; cases m
    · cases e
  refine ⟨hj, ⟨s', ?_, m⟩, ?_⟩
  · rwa [List.getElem?_set_ne (Ne.symm hj)] at e
  · rwa [List.getElem?_set_ne (Ne.symm hj)] at e2
/-- a name is stored -/
theorem Rel.set {i : Nat} {v : V} {d : D} (R : Rel C Gc F H ps σ) (r : Rp C F v d) : Rel C Gc F H { ps with sl := ps.sl.set i (.fz d) } (σ.set i (some v)) := by
  refine ⟨R.fh, R.gh, R.dj, by rw [List.length_set, List.length_set]; exact R.len, fun j s e => ?_, fun j k p a b => ?_, R.dk, fun x e j p a => ?_⟩
  · by_cases hj : j = i
    · subst hj
      have hl : j < ps.sl.length := by
        have := (List.getElem?_eq_some_iff.mp e).1
        rwa [List.length_set] at this
      rw [List.getElem?_set_self hl] at e
      cases e
      exact ⟨v, by rw [List.getElem?_set_self (by rw [R.len]; exact hl)], r⟩
    · rw [List.getElem?_set_ne (Ne.symm hj)] at e ⊢
      exact R.sl j s e
  · exact R.ow j k p (own_set (by rfl) a).2 (own_set (by rfl) b).2
  · exact R.od x e j p (own_set (by rfl) a).2
/-- slots forgotten -/
theorem Rel.wipe1 {i : Nat} {v : Option V} (R : Rel C Gc F H ps σ) : Rel C Gc F H { ps with sl := ps.sl.set i .no } (σ.set i v) := by
  refine ⟨R.fh, R.gh, R.dj, by rw [List.length_set, List.length_set]; exact R.len, fun j s e => ?_, fun j k p a b => ?_, R.dk, fun x e j p a => ?_⟩
  · by_cases hj : j = i
    · subst hj
      have hl : j < ps.sl.length := by
        have := (List.getElem?_eq_some_iff.mp e).1
        rwa [List.length_set] at this
      rw [List.getElem?_set_self hl] at e
      cases e
      trivial
    · rw [List.getElem?_set_ne (Ne.symm hj)] at e ⊢
      exact R.sl j s e
  · exact R.ow j k p (own_set (by rfl) a).2 (own_set (by rfl) b).2
  · exact R.od x e j p (own_set (by rfl) a).2
end
end MM
namespace MM
open PySem PySem.Spec PyProof.Rows L2

inductive Out (α : Type) where
  | ok (a : α) (ps : Ps)
  | exc (e : Ex) (ps : Ps)
  | bad
def Out.bind {α β : Type} (x : Out α) (f : α → Ps → Out β) : Out β :=
  match x with
  | .ok a ps => f a ps
  | .exc e ps => .exc e ps
  | .bad => .bad
@[simp] theorem Out.bind_ok {α β : Type} (a : α) (ps : Ps) (f : α → Ps → Out β) : (Out.ok a ps).bind f = f a ps := rfl
@[simp] theorem Out.bind_exc {α β : Type} (e : Ex) (ps : Ps) (f : α → Ps → Out β) : (Out.exc e ps : Out α).bind f = .exc e ps := rfl
@[simp] theorem Out.bind_bad {α β : Type} (f : α → Ps → Out β) : (Out.bad : Out α).bind f = .bad := rfl
def Out.of {α : Type} (o : Option α) (ps : Ps) : Out α := match o with
  | some a => .ok a ps
  | none => .bad
@[simp] theorem Out.of_some {α : Type} (a : α) (ps : Ps) : Out.of (some a) ps = .ok a ps := rfl
@[simp] theorem Out.of_none {α : Type} (ps : Ps) : (Out.of none ps : Out α) = .bad := rfl

abbrev ME := Ps → Out D
abbrev MT := Ps → Out Bool
abbrev MA := Ps → Out (List D)

/-- an outcome is as wanted: P of what is told, the state, the frozen heap -/
def Po {α : Type} (C : Mc) (W : WX) (Gc : Hp) (σ : St) (P : α → Ps → Hp → Prop) (F : Hp) : Out α → Prop
  | .ok a ps' => P a ps' F
  | .exc e ps' => ∀ F' H' cls dx, Same F F' → Rel C Gc F' H' ps' σ → C.xr e cls dx F' H' → W cls dx σ H'
  | .bad => False
def Mono {α : Type} (P : α → Ps → Hp → Prop) : Prop := ∀ a ps F F', Same F F' → P a ps F → P a ps F'
theorem Po.mono {α : Type} {C : Mc} {W : WX} {Gc : Hp} {σ : St} {P : α → Ps → Hp → Prop} (m : Mono P) {F F' : Hp} (s : Same F F') : ∀ {x : Out α}, Po C W Gc σ P F x → Po C W Gc σ P F' x
  | .ok _ _, h => m _ _ _ _ s h
  | .exc _ _, h => fun F2 H2 c d s2 => h F2 H2 c d (s.trans s2)
  | .bad, h => h
section
variable (C : Mc) (W : WX)
def qE (Gc : Hp) (σ : St) (Q : VK) : D → Ps → Hp → Prop := fun d ps' F => ∀ v F' H', Same F F' → Rel C Gc F' H' ps' σ → Rp C F' v d → Q v H'
def qT (Gc : Hp) (σ : St) (Q : Bool → Hp → Prop) : Bool → Ps → Hp → Prop := fun b ps' F => ∀ F' H', Same F F' → Rel C Gc F' H' ps' σ → Q b H'
def qA (Gc : Hp) (σ : St) (Q : List V → Hp → Prop) : List D → Ps → Hp → Prop := fun ds ps' F => ∀ vs F' H', Same F F' → Rel C Gc F' H' ps' σ → RpA C F' vs ds → Q vs H'
theorem qE.mono {C : Mc} {Gc : Hp} {σ : St} {Q : VK} : Mono (qE C Gc σ Q) := fun _ _ _ _ s h v F' H' s' => h v F' H' (s.trans s')
theorem qT.mono {C : Mc} {Gc : Hp} {σ : St} {Q : Bool → Hp → Prop} : Mono (qT C Gc σ Q) := fun _ _ _ _ s h F' H' s' => h F' H' (s.trans s')
theorem qA.mono {C : Mc} {Gc : Hp} {σ : St} {Q : List V → Hp → Prop} : Mono (qA C Gc σ Q) := fun _ _ _ _ s h v F' H' s' => h v F' H' (s.trans s')
def tE (m : ME) : TE := fun σ H Q => ∃ Gc F ps, Rel C Gc F H ps σ ∧ Po C W Gc σ (qE C Gc σ Q) F (m ps)
def tT (m : MT) : TT := fun σ H Q => ∃ Gc F ps, Rel C Gc F H ps σ ∧ Po C W Gc σ (qT C Gc σ Q) F (m ps)
def tA (m : MA) : TA := fun σ H Q => ∃ Gc F ps, Rel C Gc F H ps σ ∧ Po C W Gc σ (qA C Gc σ Q) F (m ps)
end
section
variable {C : Mc} {W : WX} {Gc F H : Hp} {ps : Ps} {σ : St} {β : Type} {P : β → Ps → Hp → Prop}
theorem seqE {m : ME} {f : D → Ps → Out β} {Q : VK} (hP : Mono P) (R : Rel C Gc F H ps σ) (h : Po C W Gc σ P F ((m ps).bind f))
    (k : ∀ d ps' v F' H', Same F F' → Rel C Gc F' H' ps' σ → Rp C F' v d → Po C W Gc σ P F' (f d ps') → Q v H') : tE C W m σ H Q := by
  refine ⟨Gc, F, ps, R, ?_⟩
  cases e : m ps with
  | ok d ps' => rw [e] at h; exact fun v F' H' s R' r => k d ps' v F' H' s R' r (h.mono hP s)
  | exc x ps' => rw [e] at h; exact h
  | bad => rw [e] at h; exact h
theorem seqT {m : MT} {f : Bool → Ps → Out β} {Q : Bool → Hp → Prop} (hP : Mono P) (R : Rel C Gc F H ps σ) (h : Po C W Gc σ P F ((m ps).bind f))
    (k : ∀ b ps' F' H', Same F F' → Rel C Gc F' H' ps' σ → Po C W Gc σ P F' (f b ps') → Q b H') : tT C W m σ H Q := by
  refine ⟨Gc, F, ps, R, ?_⟩
  cases e : m ps with
  | ok d ps' => rw [e] at h; exact fun F' H' s R' => k d ps' F' H' s R' (h.mono hP s)
  | exc x ps' => rw [e] at h; exact h
  | bad => rw [e] at h; exact h
theorem seqA {m : MA} {f : List D → Ps → Out β} {Q : List V → Hp → Prop} (hP : Mono P) (R : Rel C Gc F H ps σ) (h : Po C W Gc σ P F ((m ps).bind f))
    (k : ∀ d ps' v F' H', Same F F' → Rel C Gc F' H' ps' σ → RpA C F' v d → Po C W Gc σ P F' (f d ps') → Q v H') : tA C W m σ H Q := by
  refine ⟨Gc, F, ps, R, ?_⟩
  cases e : m ps with
  | ok d ps' => rw [e] at h; exact fun v F' H' s R' r => k d ps' v F' H' s R' r (h.mono hP s)
  | exc x ps' => rw [e] at h; exact h
  | bad => rw [e] at h; exact h
end

/-! ### weaker readings -/
theorem pe_imp {X : Cx} {e : Expr} {t t' : TE} (h : PE X e t) (k : ∀ σ H Q, t' σ H Q → t σ H Q) : PE X e t' := ⟨fun pins s σ H Q I q => h.run pins s σ H Q I (k σ H Q q)⟩
theorem pt_imp {X : Cx} {e : Expr} {t t' : TT} (h : PT X e t) (k : ∀ σ H Q, t' σ H Q → t σ H Q) : PT X e t' := ⟨fun pins s σ H Q I q => h.run pins s σ H Q I (k σ H Q q)⟩
theorem pw_imp {X : Cx} {e : Expr} {t t' : TT} (h : PW X e t) (k : ∀ σ H Q, t' σ H Q → t σ H Q) : PW X e t' := ⟨fun wh pins s σ H Q I q => h.run wh pins s σ H Q I (k σ H Q q)⟩
theorem pa_imp {X : Cx} {es : List Expr} {t t' : TA} (h : PA X es t) (k : ∀ σ H Q, t' σ H Q → t σ H Q) : PA X es t' := ⟨fun pos pins s σ H Q I q => h.run pos pins s σ H Q I (k σ H Q q)⟩
theorem ps_imp {X : Cx} {st : Stmt} {t t' : TS} (h : PS X st t) (k : ∀ D σ H, t' D σ H → t D σ H) : PS X st t' := ⟨fun pins s σ H D I q => h.run pins s σ H D I (k D σ H q)⟩
theorem pss_imp {X : Cx} {st : List Stmt} {t t' : TS} (h : PSs X st t) (k : ∀ D σ H, t' D σ H → t D σ H) : PSs X st t' := ⟨fun pins s σ H D I q => h.run pins s σ H D I (k D σ H q)⟩

/-! ### names -/
def Ps.setS (ps : Ps) (i : Nat) (s : Sl) : Ps := { ps with sl := ps.sl.set i s }
/-- a name's value; what was its own is frozen -/
def mVar (i : Nat) : ME := fun ps => match ps.sl[i]? with
  | some (.fz d) => .ok d ps
  | some (.ml ds) => .ok (.list ds) (ps.setS i (.fz (.list ds)))
  | some (.md kvs) => .ok (.dict (kvs.map fun p => (kD p.1, p.2))) (ps.setS i (.fz (.dict (kvs.map fun p => (kD p.1, p.2)))))
  | _ => .bad
theorem own_at {sl : List Sl} {σ : St} {i : Nat} {p : Addr} {s : Sl} (e : sl[i]? = some s) (m : s.mut = true) (e2 : σ[i]? = some (some (.ref p))) : Own sl σ i p := ⟨⟨s, e, m⟩, e2⟩
/-- own_set where the slots stay -/
theorem own_setS {sl : List Sl} {σ : St} {i j : Nat} {p : Addr} {s : Sl} (hs : s.mut = false) (h : Own (sl.set i s) σ j p) : j ≠ i ∧ Own sl σ j p := by
  obtain ⟨⟨s', e, m⟩, e2⟩ := h
  have hj : j ≠ i := by
    rintro rfl
    rw [List.getElem?_set] at e
    simp only [if_pos] at e
    split at e
    · cases e; rw [hs] at m; cases m
    · cases e
  refine ⟨hj, ⟨s', ?_, m⟩, e2⟩
  rwa [List.getElem?_set_ne (Ne.symm hj)] at e
section
variable {C : Mc} {Gc F H : Hp} {ps : Ps} {σ : St}
/-- an own object is frozen -/
theorem Rel.freeze {i : Nat} {p : Addr} {o : HO} {s : Sl} {d : D} (R : Rel C Gc F H ps σ) (e : ps.sl[i]? = some s) (m : s.mut = true) (e2 : σ[i]? = some (some (.ref p))) (hp : H p = some o) (fp : F p = none) (gp : Gc p = none)
    (r : Rp C (upd F p o) (.ref p) d) : Rel C Gc (upd F p o) H (ps.setS i (.fz d)) σ := by
  have ow : Own ps.sl σ i p := own_at e m e2
  have sf : Same F (upd F p o) := same_alloc fp
  have dkn : ∀ x, C.dk = some x → p ≠ x.a ∧ p ≠ x.c := fun x hx => R.od x hx i p ow
  refine ⟨fun b u q => ?_, R.gh, fun b u q => ?_, by rw [Ps.setS, List.length_set]; exact R.len, fun j t q => ?_, fun j k b a c => ?_, fun x hx => ?_, fun x hx j b a => ?_⟩
  · by_cases hb : b = p
    · subst hb; rw [upd_same] at q; cases q; exact hp
    · rw [upd_ne hb] at q; exact R.fh _ _ q
  · have hb : b ≠ p := fun z => by subst z; rw [gp] at q; cases q
    rw [upd_ne hb]; exact R.dj b u q
  · by_cases hj : j = i
    · subst hj
      have hl : j < ps.sl.length := (List.getElem?_eq_some_iff.mp e).1
      rw [Ps.setS, List.getElem?_set_self hl] at q
      cases q
      exact ⟨_, e2, r⟩
    · rw [Ps.setS, List.getElem?_set_ne (Ne.symm hj)] at q
      have z := R.sl j t q
      cases t with
      | no => trivial
      | fz d => obtain ⟨x, h1, h2⟩ := z; exact ⟨x, h1, h2.mono sf⟩
      | ml ds =>
        obtain ⟨b, xs, h1, h2, h3, h4, h5⟩ := z
        have hb : b ≠ p := fun w => hj (R.ow j i p (own_at q rfl (by rw [h1, w])) ow)
        exact ⟨b, xs, h1, h2, by rw [upd_ne hb]; exact h3, h4, h5.mono sf⟩
      | md ds =>
        obtain ⟨b, xs, h1, h2, h3, h4, h5, h6⟩ := z
        have hb : b ≠ p := fun w => hj (R.ow j i p (own_at q rfl (by rw [h1, w])) ow)
        exact ⟨b, xs, h1, h2, by rw [upd_ne hb]; exact h3, h4, h5.mono sf, h6⟩
      | mt ds =>
        obtain ⟨b, xs, h1, h2, h3, h4, h5, h6⟩ := z
        have hb : b ≠ p := fun w => hj (R.ow j i p (own_at q rfl (by rw [h1, w])) ow)
        exact ⟨b, xs, h1, h2, by rw [upd_ne hb]; exact h3, h4, h5.mono sf, h6⟩
  · exact R.ow j k b (own_setS (by rfl) a).2 (own_setS (by rfl) c).2
  · have d := R.dk x hx
    exact ⟨d.d, d.l, by rw [upd_ne (dkn x hx).1.symm]; exact d.fa, by rw [upd_ne (dkn x hx).2.symm]; exact d.fc, d.ga, d.gc⟩
  · exact R.od x hx j b (own_setS (by rfl) a).2
theorem var_ok {i : Nat} {d : D} {ps' : Ps} (R : Rel C Gc F H ps σ) (h : mVar i ps = .ok d ps') : ∃ v F', σ[i]? = some (some v) ∧ Same F F' ∧ Rel C Gc F' H ps' σ ∧ Rp C F' v d := by
  unfold mVar at h
  cases e : ps.sl[i]? with
  | none => rw [e] at h; cases h
  | some s =>
    rw [e] at h
    have z := R.sl i s e
    cases s with
    | no => cases h
    | fz d =>
      cases h
      obtain ⟨x, h1, h2⟩ := z
      exact ⟨x, F, h1, Same.refl F, R, h2⟩
    | ml ds =>
      cases h
      obtain ⟨p, xs, h1, h2, h3, h4, h5⟩ := z
      have r : Rp C (upd F p (.lst xs)) (.ref p) (.list ds) := .lst upd_same (h5.mono (same_alloc h3))
      exact ⟨.ref p, _, h1, same_alloc h3, R.freeze e rfl h1 h2 h3 h4 r, r⟩
    | md ds =>
      cases h
      obtain ⟨p, xs, h1, h2, h3, h4, h5, h6⟩ := z
      have r : Rp C (upd F p (.dK xs)) (.ref p) (.dict (ds.map fun p => (kD p.1, p.2))) := by
        refine .dct upd_same ?_ ?_
        · have q : (ds.map fun p => (kD p.1, p.2)).map (·.2) = ds.map (·.2) := by rw [List.map_map]; rfl
          rw [q]; exact h5.mono (same_alloc h3)
        · rw [List.map_map]
          have q : (ds.map (·.1)).map kD = (xs.map (·.1)).map kD := by rw [h6]
          rw [List.map_map, List.map_map] at q
          exact q
      exact ⟨.ref p, _, h1, same_alloc h3, R.freeze e rfl h1 h2 h3 h4 r, r⟩
    | mt ds => cases h
theorem var_noexc {i : Nat} {e : Ex} {ps' : Ps} (h : mVar i ps = .exc e ps') : False := by
  unfold mVar at h
  split at h <;> cases h
end
section
variable {X : Cx} {C : Mc} {W : WX} {a b e : Expr} {es : List Expr} {pos : Pos}
theorem xv {i : Nat} (h : PE X e (tVar i)) : PE X e (tE C W (mVar i)) := pe_imp h fun σ H Q ⟨Gc, F, ps, R, q⟩ => by
  cases z : mVar i ps with
  | ok d ps' =>
    rw [z] at q
    obtain ⟨v, F', h1, h2, h3, h4⟩ := var_ok R z
    exact ⟨v, h1, q v F' H h2 h3 h4⟩
  | exc x ps' => exact (var_noexc z).elim
  | bad => rw [z] at q; exact q.elim
/-- a written value -/
def mC (d : D) : ME := fun ps => .ok d ps
theorem xc {v : V} {d : D} (h : PE X e (tC v)) (r : ∀ F, Rp C F v d) : PE X e (tE C W (mC d)) := pe_imp h fun σ H Q ⟨Gc, F, ps, R, q⟩ => q v F H (Same.refl F) R (r F)
theorem xint {i : Int} {j} : PE X (.Constant (.int i) j pos) (tE C W (mC (.int i))) := xc pe_int fun _ => .int i
theorem xbl {i : Bool} {j} : PE X (.Constant (.bool i) j pos) (tE C W (mC (.bool i))) := xc pe_bl fun _ => .bl i
theorem xnon {j} : PE X (.Constant .none j pos) (tE C W (mC .none)) := xc pe_non fun _ => .non
theorem xstr {x} {j} : PE X (.Constant (.str x) j pos) (tE C W (mC (.str x))) := xc pe_str fun _ => .str _
/-! ### operators by values -/
def mBin (f : D → D → Option D) (a b : ME) : ME := fun ps => (a ps).bind fun x ps1 => (b ps1).bind fun y ps2 => .of (f x y) ps2
/-- the operator's reading serves f -/
def OpM (C : Mc) (f : D → D → Option D) (r : R2) : Prop := ∀ Gc F H ps σ v u x y z (Q : VK), Rel C Gc F H ps σ → Rp C F v x → Rp C F u y → f x y = some z →
  (∀ w F' H', Same F F' → Rel C Gc F' H' ps σ → Rp C F' w z → Q w H') → r v u H Q
theorem bin_ok {f : D → D → Option D} {r : R2} {ma mb : ME} (hm : OpM C f r) {σ : St} {H : Hp} {Q : VK} (h : tE C W (mBin f ma mb) σ H Q) : tOp r (tE C W ma) (tE C W mb) σ H Q := by
  obtain ⟨Gc, F, ps, R, q⟩ := h
  refine seqE qE.mono R q fun x ps1 v F1 H1 s1 R1 r1 q1 => ?_
  refine seqE qE.mono R1 q1 fun y ps2 u F2 H2 s2 R2 r2 q2 => ?_
  cases z : f x y with
  | none => rw [z] at q2; exact q2.elim
  | some d =>
    rw [z] at q2
    exact hm Gc F2 H2 ps2 σ v u x y d Q R2 (r1.mono s2) r2 z q2
theorem xop {op : Operator} {f : D → D → Option D} {r : R2} {ma mb : ME} (ho : OpR X (binaryOp op) r) (hm : OpM C f r) (ha : PE X a (tE C W ma)) (hb : PE X b (tE C W mb)) : PE X (.BinOp a op b pos) (tE C W (mBin f ma mb)) :=
  pe_imp (pe_op ho ha hb) fun _ _ _ h => bin_ok hm h
theorem xcmp {op : CmpOp} {f : D → D → Option D} {r : R2} {ma mb : ME} (ho : OpR X (compareOp op) r) (hm : OpM C f r) (ha : PE X a (tE C W ma)) (hb : PE X b (tE C W mb)) (hk : behindInMarks op b = false := by rfl) : PE X (.Compare a [op] [b] pos) (tE C W (mBin f ma mb)) :=
  pe_imp (pe_cmpR ho ha hb hk) fun _ _ _ h => bin_ok hm h
def mUn (f : D → Option D) (a : ME) : ME := fun ps => (a ps).bind fun x ps1 => .of (f x) ps1
def UnM (C : Mc) (f : D → Option D) (r : V → Hp → VK → Prop) : Prop := ∀ Gc F H ps σ v x z (Q : VK), Rel C Gc F H ps σ → Rp C F v x → f x = some z →
  (∀ w F' H', Same F F' → Rel C Gc F' H' ps σ → Rp C F' w z → Q w H') → r v H Q
theorem un_ok {f : D → Option D} {r : V → Hp → VK → Prop} {ma : ME} (hm : UnM C f r) {σ : St} {H : Hp} {Q : VK} (h : tE C W (mUn f ma) σ H Q) : tE C W ma σ H fun v H1 => r v H1 Q := by
  obtain ⟨Gc, F, ps, R, q⟩ := h
  refine seqE qE.mono R q fun x ps1 v F1 H1 s1 R1 r1 q1 => ?_
  cases z : f x with
  | none => rw [z] at q1; exact q1.elim
  | some d =>
    rw [z] at q1
    exact hm Gc F1 H1 ps1 σ v x d Q R1 r1 z q1
theorem xun {op : UnaryOp} {f : D → Option D} {r : V → Hp → VK → Prop} {ma : ME} (ho : UnR X (unaryOp op) r) (hm : UnM C f r) (ha : PE X a (tE C W ma)) : PE X (.UnaryOp op a pos) (tE C W (mUn f ma)) :=
  pe_imp (pe_un ho ha) fun _ _ _ h => un_ok hm h
/-! ### tests -/
def dBool : D → Option Bool
  | .bool b => some b
  | _ => none
/-- a value that is a truth, as a test -/
def mTst (a : ME) : MT := fun ps => (a ps).bind fun x ps1 => .of (dBool x) ps1
theorem tst_ok {ma : ME} {σ : St} {H : Hp} {Q : Bool → Hp → Prop} (h : tT C W (mTst ma) σ H Q) : tE C W ma σ H fun x H1 => ∃ c, x = .bl c ∧ Q c H1 := by
  obtain ⟨Gc, F, ps, R, q⟩ := h
  refine seqE qT.mono R q fun x ps1 v F1 H1 s1 R1 r1 q1 => ?_
  cases x with
  | bool b => cases r1; exact ⟨b, rfl, q1 F1 H1 (Same.refl _) R1⟩
  | _ => exact q1.elim
theorem xt_val {ma : ME} (h : PE X e (tE C W ma)) (he : ∀ whole, isTrue e X.env whole = (do let v ← whole; standAt e.pos; holding [v] (truthy v)) := by intro _; rfl) : PT X e (tT C W (mTst ma)) :=
  pt_imp (pt_val h he) fun _ _ _ q => tst_ok q
theorem xt_cmp {op : CmpOp} {f : D → D → Option D} {r : R2} {ma mb : ME} (ho : OpR X (compareOp op) r) (hm : OpM C f r) (ha : PE X a (tE C W ma)) (hb : PE X b (tE C W mb)) (hk : behindInMarks op b = false := by rfl) : PT X (.Compare a [op] [b] pos) (tT C W (mTst (mBin f ma mb))) :=
  pt_imp (pt_cmpR ho ha hb hk) fun _ _ _ h => bin_ok hm (tst_ok h)
def mNot (a : MT) : MT := fun ps => (a ps).bind fun x ps1 => .ok (!x) ps1
def mAnd (a b : MT) : MT := fun ps => (a ps).bind fun x ps1 => if x = true then b ps1 else .ok false ps1
def mOr (a b : MT) : MT := fun ps => (a ps).bind fun x ps1 => if x = true then .ok true ps1 else b ps1
theorem xt_not {ma : MT} (ha : PT X a (tT C W ma)) : PT X (.UnaryOp .Not a pos) (tT C W (mNot ma)) := pt_imp (pt_not ha) fun σ H Q ⟨Gc, F, ps, R, q⟩ =>
  seqT qT.mono R q fun x ps1 F1 H1 s1 R1 q1 => q1 F1 H1 (Same.refl _) R1
theorem xw_and1 {ma : MT} (ha : PT X a (tT C W ma)) : PW X (.BoolOp .And [a] pos) (tT C W ma) := pw_and1 ha
theorem xw_or1 {ma : MT} (ha : PT X a (tT C W ma)) : PW X (.BoolOp .Or [a] pos) (tT C W ma) := pw_or1 ha
variable {rest : List Expr}
theorem xw_and {ma mb : MT} (ha : PT X a (tT C W ma)) (hb : PW X (.BoolOp .And (b :: rest) pos) (tT C W mb)) : PW X (.BoolOp .And (a :: b :: rest) pos) (tT C W (mAnd ma mb)) :=
  pw_imp (pw_and ha hb) fun σ H Q ⟨Gc, F, ps, R, q⟩ => seqT qT.mono R q fun x ps1 F1 H1 s1 R1 q1 => by
    cases x with
    | true => exact iteT ⟨Gc, F1, ps1, R1, q1⟩
    | false => exact iteF (q1 F1 H1 (Same.refl _) R1)
theorem xw_or {ma mb : MT} (ha : PT X a (tT C W ma)) (hb : PW X (.BoolOp .Or (b :: rest) pos) (tT C W mb)) : PW X (.BoolOp .Or (a :: b :: rest) pos) (tT C W (mOr ma mb)) :=
  pw_imp (pw_or ha hb) fun σ H Q ⟨Gc, F, ps, R, q⟩ => seqT qT.mono R q fun x ps1 F1 H1 s1 R1 q1 => by
    cases x with
    | true => exact iteT (q1 F1 H1 (Same.refl _) R1)
    | false => exact iteF ⟨Gc, F1, ps1, R1, q1⟩
/-- .. as values -/
def mAndV (a b : ME) : ME := fun ps => (a ps).bind fun x ps1 => (Out.of (dBool x) ps1).bind fun c ps1 => if c = true then b ps1 else .ok (.bool false) ps1
def mOrV (a b : ME) : ME := fun ps => (a ps).bind fun x ps1 => (Out.of (dBool x) ps1).bind fun c ps1 => if c = true then .ok (.bool true) ps1 else b ps1
def mNotV (a : ME) : ME := fun ps => (a ps).bind fun x ps1 => (Out.of (dBool x) ps1).bind fun c ps1 => .ok (.bool (!c)) ps1
theorem xone {op} {ma : ME} (h : PE X a (tE C W ma)) : PE X (.BoolOp op [a] pos) (tE C W ma) := pe_one h
theorem xband {ma mb : ME} (ha : PE X a (tE C W ma)) (hb : PE X (.BoolOp .And (b :: rest) pos) (tE C W mb)) : PE X (.BoolOp .And (a :: b :: rest) pos) (tE C W (mAndV ma mb)) :=
  pe_imp (pe_and ha hb) fun σ H Q ⟨Gc, F, ps, R, q⟩ => seqE qE.mono R q fun x ps1 v F1 H1 s1 R1 r1 q1 => by
    cases x with
    | bool c =>
      cases r1
      cases c with
      | true => exact ⟨_, rfl, iteT ⟨Gc, F1, ps1, R1, q1⟩⟩
      | false => exact ⟨_, rfl, iteF (q1 _ F1 H1 (Same.refl _) R1 (.bl _))⟩
    | _ => exact q1.elim
theorem xbor {ma mb : ME} (ha : PE X a (tE C W ma)) (hb : PE X (.BoolOp .Or (b :: rest) pos) (tE C W mb)) : PE X (.BoolOp .Or (a :: b :: rest) pos) (tE C W (mOrV ma mb)) :=
  pe_imp (pe_or ha hb) fun σ H Q ⟨Gc, F, ps, R, q⟩ => seqE qE.mono R q fun x ps1 v F1 H1 s1 R1 r1 q1 => by
    cases x with
    | bool c =>
      cases r1
      cases c with
      | false => exact ⟨_, rfl, iteF ⟨Gc, F1, ps1, R1, q1⟩⟩
      | true => exact ⟨_, rfl, iteT (q1 _ F1 H1 (Same.refl _) R1 (.bl _))⟩
    | _ => exact q1.elim
theorem xnot {ma : ME} (ha : PE X a (tE C W ma)) : PE X (.UnaryOp .Not a pos) (tE C W (mNotV ma)) :=
  pe_imp (pe_not ha) fun σ H Q ⟨Gc, F, ps, R, q⟩ => seqE qE.mono R q fun x ps1 v F1 H1 s1 R1 r1 q1 => by
    cases x with
    | bool c =>
      cases r1
      exact ⟨_, rfl, q1 _ F1 H1 (Same.refl _) R1 (.bl _)⟩
    | _ => exact q1.elim
def mIf (t : MT) (a b : ME) : ME := fun ps => (t ps).bind fun x ps1 => if x = true then a ps1 else b ps1
theorem xif {c : Expr} {mt : MT} {ma mb : ME} (hc : PT X c (tT C W mt)) (ha : PE X a (tE C W ma)) (hb : PE X b (tE C W mb)) : PE X (.IfExp c a b pos) (tE C W (mIf mt ma mb)) :=
  pe_imp (pe_ifExp hc ha hb) fun σ H Q ⟨Gc, F, ps, R, q⟩ => seqT qE.mono R q fun x ps1 F1 H1 s1 R1 q1 => by
    cases x with
    | true => exact iteT ⟨Gc, F1, ps1, R1, q1⟩
    | false => exact iteF ⟨Gc, F1, ps1, R1, q1⟩
/-! ### lists of arguments, displays -/
def mNil : MA := fun ps => .ok [] ps
def mCons (a : ME) (r : MA) : MA := fun ps => (a ps).bind fun x ps1 => (r ps1).bind fun xs ps2 => .ok (x :: xs) ps2
theorem xa_nil : PA X [] (tA C W mNil) := pa_imp pa_nil fun σ H Q ⟨Gc, F, ps, R, q⟩ => q [] F H (Same.refl _) R .nil
theorem xa_cons {ma : ME} {mr : MA} (ha : PE X e (tE C W ma)) (hr : PA X es (tA C W mr)) (hs : starEach (e :: es) X.env = (false, eval e X.env) :: starEach es X.env := by rfl) : PA X (e :: es) (tA C W (mCons ma mr)) :=
  pa_imp (pa_cons ha hr hs) fun σ H Q ⟨Gc, F, ps, R, q⟩ => seqE qA.mono R q fun x ps1 v F1 H1 s1 R1 r1 q1 =>
    seqA qA.mono R1 q1 fun xs ps2 vs F2 H2 s2 R2 r2 q2 => q2 (v :: vs) F2 H2 (Same.refl _) R2 (.cons (r1.mono s2) r2)
def mTup (a : MA) : ME := fun ps => (a ps).bind fun xs ps1 => if xs.length ≤ sizeLine then .ok (.tuple xs) ps1 else .bad
def mLst (a : MA) : ME := fun ps => (a ps).bind fun xs ps1 => if xs.length ≤ sizeLine then .ok (.list xs) ps1 else .bad
theorem xtup {x1} {ma : MA} (h : PA X es (tA C W ma)) : PE X (.Tuple es x1 pos) (tE C W (mTup ma)) :=
  pe_imp (pe_tup h) fun σ H Q ⟨Gc, F, ps, R, q⟩ => seqA qE.mono R q fun xs ps1 vs F1 H1 s1 R1 r1 q1 => by
    by_cases hl : xs.length ≤ sizeLine
    · rw [if_pos hl] at q1
      have hf : ∀ p, H1 p = none → F1 p = none := fun p n => R1.fh.free n
      exact ⟨by rw [r1.length]; exact hl, fun p n => q1 _ _ _ (same_alloc (hf p n)) (R1.alloc n) (.tup upd_same (r1.mono (same_alloc (hf p n))))⟩
    · rw [if_neg hl] at q1; exact q1.elim
theorem xlst {ma : MA} (h : PA X es (tA C W ma)) : PE X (.List es pos) (tE C W (mLst ma)) :=
  pe_imp (pe_lst h) fun σ H Q ⟨Gc, F, ps, R, q⟩ => seqA qE.mono R q fun xs ps1 vs F1 H1 s1 R1 r1 q1 => by
    by_cases hl : xs.length ≤ sizeLine
    · rw [if_pos hl] at q1
      have hf : ∀ p, H1 p = none → F1 p = none := fun p n => R1.fh.free n
      exact ⟨by rw [r1.length]; exact hl, fun p n => q1 _ _ _ (same_alloc (hf p n)) (R1.alloc n) (.lst upd_same (r1.mono (same_alloc (hf p n))))⟩
    · rw [if_neg hl] at q1; exact q1.elim
end
end MM
namespace MM
open PySem PySem.Spec PyProof.Rows L2

/-! ### a def's promise -/
inductive Fo where
  | ret (d : D) (k : Dk)
  | exc (e : Ex) (k : Dk)
  | bad
abbrev MF := List D → Dk → Fo
def PoF (C : Mc) (E : Option XK) (Gc : Hp) (Q : VK) (F : Hp) : Fo → Prop
  | .ret d k' => ∀ v F' H', Same F F' → Rel C Gc F' H' ⟨[], k'⟩ [] → Rp C F' v d → Q v H'
  | .exc e k' => match E with
    | some E => ∀ cls dx F' H', Same F F' → Rel C Gc F' H' ⟨[], k'⟩ [] → C.xr e cls dx F' H' → E cls dx H'
    | none => False
  | .bad => False
/-- f tells what is told; no exception -/
def spM (C : Mc) (f : MF) : Sp := fun vs H Q _ => ∃ Gc F ds k, Rel C Gc F H ⟨[], k⟩ [] ∧ RpA C F vs ds ∧ PoF C none Gc Q F (f ds k)
/-- f tells what is told, or the exception -/
def spX (C : Mc) (f : MF) : Sp := fun vs H Q E => ∃ Gc F ds k, Rel C Gc F H ⟨[], k⟩ [] ∧ RpA C F vs ds ∧ PoF C (some E) Gc Q F (f ds k)

section
variable {C : Mc} {Gc F H : Hp} {ps : Ps} {σ : St}
open Classical in
theorem Rel.enter (R : Rel C Gc F H ps σ) : ∃ Gc', Rel C Gc' F H ⟨[], ps.dk⟩ [] ∧ ∀ F' H' k', Same F F' → Rel C Gc' F' H' ⟨[], k'⟩ [] → Rel C Gc F' H' ⟨ps.sl, k'⟩ σ := by
  let Gc' : Hp := fun b => if F b = none ∧ (∀ i, C.dk = some i → b ≠ i.a ∧ b ≠ i.c) then H b else none
  have yes : ∀ b, F b = none → (∀ i, C.dk = some i → b ≠ i.a ∧ b ≠ i.c) → Gc' b = H b := fun b h1 h2 => if_pos ⟨h1, h2⟩
  have get : ∀ b o, Gc' b = some o → H b = some o ∧ F b = none := fun b o e => by
    by_cases h : F b = none ∧ (∀ i, C.dk = some i → b ≠ i.a ∧ b ≠ i.c)
    · rw [yes b h.1 h.2] at e; exact ⟨e, h.1⟩
    · have z : Gc' b = none := if_neg h
      rw [z] at e; cases e
  have noA : ∀ i, C.dk = some i → Gc' i.a = none := fun i hi => if_neg fun h => (h.2 i hi).1 rfl
  have noC : ∀ i, C.dk = some i → Gc' i.c = none := fun i hi => if_neg fun h => (h.2 i hi).2 rfl
  have own0 : ∀ {σ : St} {j p}, Own [] σ j p → False := fun {σ j p} ⟨⟨s, e, _⟩, _⟩ => by simp at e
  refine ⟨Gc', ⟨R.fh, fun b o e => (get b o e).1, fun b o e => (get b o e).2, rfl, fun i s e => by simp at e, fun i j p a _ => (own0 a).elim, fun i hi => ?_, fun i _ j p a => (own0 a).elim⟩, fun F' H' k' sf R' => ?_⟩
  · have d := R.dk i hi
    exact ⟨d.d, d.l, d.fa, d.fc, noA i hi, noC i hi⟩
  · have old : ∀ b o, Gc b = some o → Gc' b = some o := fun b o e => by
      have n1 : ∀ i, C.dk = some i → b ≠ i.a := fun i hi z => by rw [z, (R.dk i hi).ga] at e; cases e
      have n2 : ∀ i, C.dk = some i → b ≠ i.c := fun i hi z => by rw [z, (R.dk i hi).gc] at e; cases e
      rw [yes b (R.dj b o e) fun i hi => ⟨n1 i hi, n2 i hi⟩]
      exact R.gh b o e
    have own : ∀ j p o, Own ps.sl σ j p → H p = some o → F p = none → Gc' p = some o := fun j p o w h f => by
      rw [yes p f fun i hi => R.od i hi j p w]; exact h
    refine ⟨R'.fh, fun b o e => R'.gh b o (old b o e), fun b o e => R'.dj b o (old b o e), R.len, fun i s e => ?_, R.ow, fun i hi => ?_, R.od⟩
    · have z := R.sl i s e
      cases s with
      | no => trivial
      | fz d => obtain ⟨x, h1, h2⟩ := z; exact ⟨x, h1, h2.mono sf⟩
      | ml ds =>
        obtain ⟨p, xs, h1, h2, h3, h4, h5⟩ := z
        have g := own i p _ (own_at e rfl h1) h2 h3
        exact ⟨p, xs, h1, R'.gh _ _ g, R'.dj _ _ g, h4, h5.mono sf⟩
      | md ds =>
        obtain ⟨p, xs, h1, h2, h3, h4, h5, h6⟩ := z
        have g := own i p _ (own_at e rfl h1) h2 h3
        exact ⟨p, xs, h1, R'.gh _ _ g, R'.dj _ _ g, h4, h5.mono sf, h6⟩
      | mt ds =>
        obtain ⟨p, xs, h1, h2, h3, h4, h5, h6⟩ := z
        have g := own i p _ (own_at e rfl h1) h2 h3
        exact ⟨p, xs, h1, R'.gh _ _ g, R'.dj _ _ g, h4, h5.mono sf, h6⟩
    · have d := R'.dk i hi
      exact ⟨d.d, d.l, d.fa, d.fc, (R.dk i hi).ga, (R.dk i hi).gc⟩
/-- the slots are dropped -/
theorem Rel.drop (R : Rel C Gc F H ps σ) : Rel C Gc F H ⟨[], ps.dk⟩ [] :=
  ⟨R.fh, R.gh, R.dj, rfl, fun i s e => by simp at e, fun i j p ⟨⟨s, e, _⟩, _⟩ _ => by simp at e, R.dk, fun i _ j p ⟨⟨s, e, _⟩, _⟩ => by simp at e⟩
end
def mCall (f : MF) (a : MA) : ME := fun ps => (a ps).bind fun ds ps1 => match f ds ps1.dk with
  | .ret d k => .ok d ⟨ps1.sl, k⟩
  | _ => .bad
section
variable {X : Cx} {C : Mc} {W : WX} {e : Expr} {es : List Expr} {pos p : Pos} {k : Nat} {f : Addr} {fd : FuncData} {pn : List Str} {x : Str} {mf : MF}
/-- a call of a def that raises nothing -/
theorem xcall {ma : MA} (G : FnOk X.prog X.w X.K X.mg X.base CX0 k f fd pn (spM C mf)) (hr : Room k X.A) (hg : Gl X x) (hm : X.mg x = some (.ref f)) (hk : PySem.W.keepIn X.K (.ref f) = true) (hb : Binds X.K fd pn []) (ha : PA X (e :: es) (tA C W ma))
    (hdb : (x == ("__debug__" : Str)) = false := by decide) (he : starEach (e :: es) X.env = (false, eval e X.env) :: starEach es X.env := by rfl) (hpl : (backTo pos (starEach es X.env)).any (·.1) = false := by rfl) :
    PE X (.Call (.Name x p) (e :: es) [] pos) (tE C W (mCall mf ma)) :=
  pe_imp (pe_call (E := E0) G hr hg hm hk hb .nil pass0 ha hdb he hpl) fun σ H Q ⟨Gc, F, ps, R, q⟩ => seqA qE.mono R q fun ds ps1 vs F1 H1 s1 R1 r1 q1 => by
    obtain ⟨Gc', R2, back⟩ := R1.enter
    rw [List.append_nil]
    refine ⟨Gc', F1, ds, ps1.dk, R2, r1, ?_⟩
    cases z : mf ds ps1.dk with
    | ret d k' => rw [z] at q1; exact fun v F' H' s R' r => q1 v F' H' s (back F' H' k' s R') r
    | exc e' k' => rw [z] at q1; exact q1.elim
    | bad => rw [z] at q1; exact q1.elim
theorem xcall0 (G : FnOk X.prog X.w X.K X.mg X.base CX0 k f fd pn (spM C mf)) (hr : Room k X.A) (hg : Gl X x) (hm : X.mg x = some (.ref f)) (hk : PySem.W.keepIn X.K (.ref f) = true) (hb : Binds X.K fd pn [])
    (hdb : (x == ("__debug__" : Str)) = false := by decide) :
    PE X (.Call (.Name x p) [] [] pos) (tE C W (mCall mf mNil)) :=
  pe_imp (pe_call0 (E := E0) G hr hg hm hk hb .nil pass0 hdb) fun σ H Q ⟨Gc, F, ps, R, q⟩ => by
    show spM C mf ([] ++ []) H Q E0
    obtain ⟨Gc', R2, back⟩ := R.enter
    refine ⟨Gc', F, [], ps.dk, R2, .nil, ?_⟩
    have q1 : Po C W Gc σ (qE C Gc σ Q) F (match mf [] ps.dk with
      | .ret d k => .ok d ⟨ps.sl, k⟩
      | _ => .bad) := q
    cases z : mf [] ps.dk with
    | ret d k' => rw [z] at q1; exact fun v F' H' s R' r => q1 v F' H' s (back F' H' k' s R') r
    | exc e' k' => rw [z] at q1; exact q1.elim
    | bad => rw [z] at q1; exact q1.elim
/-- .. by keywords: the arguments in the row's order, put in the parameters' order by g -/
def mCallK (f : MF) (g : List D → List D → List D) (a b : MA) : ME := fun ps => (a ps).bind fun ds ps1 => (b ps1).bind fun es ps2 => match f (g ds es) ps2.dk with
  | .ret d k => .ok d ⟨ps2.sl, k⟩
  | _ => .bad
end

/-! ### statements -/
inductive So where
  | next (ps : Ps)
  | ret (d : D) (ps : Ps)
  | brk (ps : Ps)
  | cont (ps : Ps)
  | exc (e : Ex) (ps : Ps)
  | bad
abbrev MS := Ps → So
def Out.bindS {α : Type} (x : Out α) (f : α → Ps → So) : So := match x with
  | .ok a ps => f a ps
  | .exc e ps => .exc e ps
  | .bad => .bad
@[simp] theorem Out.bindS_ok {α : Type} (a : α) (ps : Ps) (f : α → Ps → So) : (Out.ok a ps).bindS f = f a ps := rfl
@[simp] theorem Out.bindS_exc {α : Type} (e : Ex) (ps : Ps) (f : α → Ps → So) : (Out.exc e ps : Out α).bindS f = .exc e ps := rfl
@[simp] theorem Out.bindS_bad {α : Type} (f : α → Ps → So) : (Out.bad : Out α).bindS f = .bad := rfl
def PoS (C : Mc) (W : WX) (Gc : Hp) (D : Ends) (F : Hp) : So → Prop
  | .next ps' => ∀ σ' F' H', Same F F' → Rel C Gc F' H' ps' σ' → D.nx σ' H'
  | .ret d ps' => ∀ v σ' F' H', Same F F' → Rel C Gc F' H' ps' σ' → Rp C F' v d → D.rt v H'
  | .brk ps' => ∀ σ' F' H', Same F F' → Rel C Gc F' H' ps' σ' → D.bk σ' H'
  | .cont ps' => ∀ σ' F' H', Same F F' → Rel C Gc F' H' ps' σ' → D.ct σ' H'
  | .exc e ps' => ∀ σ' F' H' cls dx, Same F F' → Rel C Gc F' H' ps' σ' → C.xr e cls dx F' H' → W cls dx σ' H'
  | .bad => False
def tS (C : Mc) (W : WX) (m : MS) : TS := fun D σ H => ∃ Gc F ps, Rel C Gc F H ps σ ∧ PoS C W Gc D F (m ps)
section
variable {C : Mc} {W : WX} {Gc F H : Hp} {ps : Ps} {σ : St} {D : Ends}
theorem PoS.mono {F F' : Hp} (s : Same F F') : ∀ {x : So}, PoS C W Gc D F x → PoS C W Gc D F' x
  | .next _, h => fun σ F2 H2 s2 => h σ F2 H2 (s.trans s2)
  | .ret _ _, h => fun v σ F2 H2 s2 => h v σ F2 H2 (s.trans s2)
  | .brk _, h => fun σ F2 H2 s2 => h σ F2 H2 (s.trans s2)
  | .cont _, h => fun σ F2 H2 s2 => h σ F2 H2 (s.trans s2)
  | .exc _ _, h => fun σ F2 H2 c d s2 => h σ F2 H2 c d (s.trans s2)
  | .bad, h => h
/-- another end where a piece goes on -/
theorem PoS.thn {D' : Ends} {x : So} {g : Ps → So} (h : PoS C W Gc D F (match x with | .next ps => g ps | y => y)) (hr : D'.rt = D.rt) (hb : D'.bk = D.bk) (hc : D'.ct = D.ct)
    (k : ∀ ps' σ' F' H', Same F F' → Rel C Gc F' H' ps' σ' → PoS C W Gc D F' (g ps') → D'.nx σ' H') : PoS C W Gc D' F x := by
  cases x with
  | next ps' => exact fun σ' F' H' s R => k ps' σ' F' H' s R (PoS.mono s h)
  | ret d ps' => intro v σ' F' H' s R r; rw [hr]; exact h v σ' F' H' s R r
  | brk ps' => intro σ' F' H' s R; rw [hb]; exact h σ' F' H' s R
  | cont ps' => intro σ' F' H' s R; rw [hc]; exact h σ' F' H' s R
  | exc e ps' => exact h
  | bad => exact h
theorem seqES {m : ME} {f : MM.D → Ps → So} {Q : VK} (R : Rel C Gc F H ps σ) (h : PoS C W Gc D F ((m ps).bindS f))
    (k : ∀ d ps' v F' H', Same F F' → Rel C Gc F' H' ps' σ → Rp C F' v d → PoS C W Gc D F' (f d ps') → Q v H') : tE C W m σ H Q := by
  refine ⟨Gc, F, ps, R, ?_⟩
  cases e : m ps with
  | ok d ps' => rw [e] at h; exact fun v F' H' s R' r => k d ps' v F' H' s R' r (h.mono s)
  | exc x ps' => rw [e] at h; exact fun F' H' c d s => h σ F' H' c d s
  | bad => rw [e] at h; exact h
theorem seqTS {m : MT} {f : Bool → Ps → So} {Q : Bool → Hp → Prop} (R : Rel C Gc F H ps σ) (h : PoS C W Gc D F ((m ps).bindS f))
    (k : ∀ d ps' F' H', Same F F' → Rel C Gc F' H' ps' σ → PoS C W Gc D F' (f d ps') → Q d H') : tT C W m σ H Q := by
  refine ⟨Gc, F, ps, R, ?_⟩
  cases e : m ps with
  | ok d ps' => rw [e] at h; exact fun F' H' s R' => k d ps' F' H' s R' (h.mono s)
  | exc x ps' => rw [e] at h; exact fun F' H' c d s => h σ F' H' c d s
  | bad => rw [e] at h; exact h
theorem seqAS {m : MA} {f : List MM.D → Ps → So} {Q : List V → Hp → Prop} (R : Rel C Gc F H ps σ) (h : PoS C W Gc D F ((m ps).bindS f))
    (k : ∀ d ps' v F' H', Same F F' → Rel C Gc F' H' ps' σ → RpA C F' v d → PoS C W Gc D F' (f d ps') → Q v H') : tA C W m σ H Q := by
  refine ⟨Gc, F, ps, R, ?_⟩
  cases e : m ps with
  | ok d ps' => rw [e] at h; exact fun v F' H' s R' r => k d ps' v F' H' s R' r (h.mono s)
  | exc x ps' => rw [e] at h; exact fun F' H' c d s => h σ F' H' c d s
  | bad => rw [e] at h; exact h
end
section
variable {X : Cx} {C : Mc} {W : WX} {st : Stmt} {rest : List Stmt} {e : Expr} {pos : Pos}
def mNext : MS := fun ps => .next ps
def mSeq (a b : MS) : MS := fun ps => match a ps with
  | .next ps1 => b ps1
  | y => y
theorem xs_nil : PSs X [] (tS C W mNext) := pss_imp pss_nil fun D σ H ⟨Gc, F, ps, R, q⟩ => q σ F H (Same.refl _) R
theorem xs_cons {ma mb : MS} (h1 : PS X st (tS C W ma)) (h2 : PSs X rest (tS C W mb)) : PSs X (st :: rest) (tS C W (mSeq ma mb)) :=
  pss_imp (pss_cons h1 h2) fun D σ H ⟨Gc, F, ps, R, q⟩ => ⟨Gc, F, ps, R, PoS.thn (g := mb) q rfl rfl rfl fun ps' σ' F' H' s R' q' => ⟨Gc, F', ps', R', q'⟩⟩
theorem xs_one {ma : MS} (h1 : PS X st (tS C W ma)) : PSs X [st] (tS C W ma) := pss_one h1
def mRet (a : ME) : MS := fun ps => (a ps).bindS fun d ps1 => .ret d ps1
theorem xs_ret {ma : ME} (h : PE X e (tE C W ma)) : PS X (.Return (some e) pos) (tS C W (mRet ma)) :=
  ps_imp (ps_ret h) fun D σ H ⟨Gc, F, ps, R, q⟩ => seqES R q fun d ps' v F' H' s R' r q' => q' v σ F' H' (Same.refl _) R' r
def mRetN : MS := fun ps => .ret .none ps
theorem xs_retN : PS X (.Return none pos) (tS C W mRetN) := ps_imp ps_retN fun D σ H ⟨Gc, F, ps, R, q⟩ => q .non σ F H (Same.refl _) R .non
def mBrk : MS := fun ps => .brk ps
def mCnt : MS := fun ps => .cont ps
theorem xs_break : PS X (.Break pos) (tS C W mBrk) := ps_imp ps_break fun D σ H ⟨Gc, F, ps, R, q⟩ => q σ F H (Same.refl _) R
theorem xs_continue : PS X (.Continue pos) (tS C W mCnt) := ps_imp ps_continue fun D σ H ⟨Gc, F, ps, R, q⟩ => q σ F H (Same.refl _) R
theorem xs_pass : PS X (.Pass pos) (tS C W mNext) := ps_imp ps_pass fun D σ H ⟨Gc, F, ps, R, q⟩ => q σ F H (Same.refl _) R
def mDrop (a : ME) : MS := fun ps => (a ps).bindS fun _ ps1 => .next ps1
theorem xs_expr {ma : ME} (h : PE X e (tE C W ma)) (hs : swapsWith e none pos.line X.env = pure false := by rfl) : PS X (.Expr e pos) (tS C W (mDrop ma)) :=
  ps_imp (ps_expr h hs) fun D σ H ⟨Gc, F, ps, R, q⟩ => seqES R q fun d ps' v F' H' s R' r q' => q' σ F' H' (Same.refl _) R'
def mSet (i : Nat) (a : ME) : MS := fun ps => (a ps).bindS fun d ps1 => .next (ps1.setS i (.fz d))
theorem xs_set {i : Nat} {x : Str} {ma : ME} {pos' : Pos} (hN : X.N.Nodup) (hi : X.N[i]? = some x) (hx : Loc X.env.scope x) (he : PE X e (tE C W ma)) (hs : swapsWith e (some (.Name x pos')) pos.line X.env = pure false := by rfl) (hf : X.fn x = true ∨ X.env.scope.names.lookup x = some .local := by first | exact .inl rfl | exact .inr rfl | assumption) :
    PS X (.Assign [.Name x pos'] e pos) (tS C W (mSet i ma)) :=
  ps_imp (ps_set hN hi hx he hs hf) fun D σ H ⟨Gc, F, ps, R, q⟩ => seqES R q fun d ps' v F' H' s R' r q' => q' _ F' H' (Same.refl _) (R'.set r)
/-- a, b = x, y -/
def mPar (i j : Nat) (a : MA) : MS := fun ps => (a ps).bindS fun ds ps1 => match ds with
  | [x, y] => .next ((ps1.setS i (.fz x)).setS j (.fz y))
  | _ => .bad
theorem xs_par {i j : Nat} {x y : Str} {a b : Expr} {ma : MA} {px py pt : Pos} {kt k2 pt2} (hc : X.calm = true) (hN : X.N.Nodup) (hi : X.N[i]? = some x) (hj : X.N[j]? = some y) (hij : i ≠ j)
    (hx : X.env.scope.names.lookup x = some .local) (hy : X.env.scope.names.lookup y = some .local) (ha : PA X [a, b] (tA C W ma))
    (hw : swappedStores [.Tuple [.Name x px, .Name y py] kt pt] (.Tuple [a, b] k2 pt2) X.env = pure (some [x, y]))
    (hs : swapsWithSole [.Tuple [.Name x px, .Name y py] kt pt] (.Tuple [a, b] k2 pt2) pos.line X.env = pure false := by rfl) :
    PS X (.Assign [.Tuple [.Name x px, .Name y py] kt pt] (.Tuple [a, b] k2 pt2) pos) (tS C W (mPar i j ma)) :=
  ps_imp (ps_par hc hN hi hj hij hx hy ha hw hs) fun D σ H ⟨Gc, F, ps, R, q⟩ => seqAS R q fun ds ps' vs F' H' s R' r q' => by
    match ds, r with
    | [d1, d2], .cons r1 (.cons r2 .nil) => exact ⟨_, _, rfl, q' _ F' H' (Same.refl _) ((R'.set r1).set r2)⟩
    | [], _ => exact q'.elim
    | [_], _ => exact q'.elim
    | _ :: _ :: _ :: _, _ => exact q'.elim
/-- a, b, c = x, y, z -/
def mPar3 (i j l : Nat) (a : MA) : MS := fun ps => (a ps).bindS fun ds ps1 => match ds with
  | [x, y, z] => .next (((ps1.setS i (.fz x)).setS j (.fz y)).setS l (.fz z))
  | _ => .bad
theorem par3_ok {i j l : Nat} {ma : MA} {D : Ends} {σ : St} {H : Hp} (h : tS C W (mPar3 i j l ma) D σ H) : tPar3 i j l (tA C W ma) D σ H := by
  obtain ⟨Gc, F, ps, R, q⟩ := h
  refine seqAS R q fun ds ps' vs F' H' s R' r q' => ?_
  match ds, r with
  | [d1, d2, d3], .cons r1 (.cons r2 (.cons r3 .nil)) => exact ⟨_, _, _, rfl, q' _ F' H' (Same.refl _) (((R'.set r1).set r2).set r3)⟩
  | [], _ => exact q'.elim
  | [_], _ => exact q'.elim
  | [_, _], _ => exact q'.elim
  | _ :: _ :: _ :: _ :: _, _ => exact q'.elim
def mIfS (t : MT) (a b : MS) : MS := fun ps => (t ps).bindS fun x ps1 => if x = true then a ps1 else b ps1
theorem xs_if {c : Expr} {a b : List Stmt} {mt : MT} {ma mb : MS} (hc : PT X c (tT C W mt)) (ha : PSs X a (tS C W ma)) (hb : PSs X b (tS C W mb)) : PS X (.If c a b pos) (tS C W (mIfS mt ma mb)) :=
  ps_imp (ps_if hc ha hb) fun D σ H ⟨Gc, F, ps, R, q⟩ => seqTS R q fun x ps1 F1 H1 s1 R1 q1 => by
    cases x with
    | true => exact iteT ⟨Gc, F1, ps1, R1, q1⟩
    | false => exact iteF ⟨Gc, F1, ps1, R1, q1⟩
/-- while, at most n turns -/
def mWhile (t : MT) (a : MS) : Nat → MS
  | 0 => fun _ => .bad
  | n + 1 => fun ps => (t ps).bindS fun x ps1 => if x = true then (match a ps1 with
      | .next ps2 => mWhile t a n ps2
      | .cont ps2 => mWhile t a n ps2
      | .brk ps2 => .next ps2
      | y => y) else .next ps1
theorem xs_while {c : Expr} {body : List Stmt} {mt : MT} {mb : MS} (n : Nat) (hp : PassesOwn (model X.prog X.w) X.A X.env X.xe) (hc : PT X c (tT C W mt)) (hb : PSs X body (tS C W mb)) : PS X (.While c body [] pos) (tS C W (mWhile mt mb n)) :=
  ps_imp (ps_while hp hc hb) fun D σ H ⟨Gc, F, ps, R, q⟩ => by
    refine ⟨fun m σ H => ∃ F' ps', Same F F' ∧ Rel C Gc F' H ps' σ ∧ PoS C W Gc D F' (mWhile mt mb m ps'), ⟨n, F, ps, Same.refl _, R, q⟩, ?_⟩
    rintro m σ1 H1 ⟨F1, ps1, s1, R1, q1⟩
    cases m with
    | zero => exact q1.elim
    | succ m =>
      refine seqTS R1 q1 fun x ps2 F2 H2 s2 R2 q2 => ?_
      cases x with
      | false => exact iteF (q2 σ1 F2 H2 (Same.refl _) R2)
      | true =>
        refine iteT ⟨fun σ' H' => ∃ F' ps', Same F F' ∧ Rel C Gc F' H' ps' σ' ∧ PoS C W Gc D F' (mWhile mt mb m ps'), fun σ' H' h => ⟨m, Nat.lt_succ_self m, h⟩, Gc, F2, ps2, R2, ?_⟩
        have q3 : PoS C W Gc D F2 (match mb ps2 with
          | .next ps2 => mWhile mt mb m ps2
          | .cont ps2 => mWhile mt mb m ps2
          | .brk ps2 => .next ps2
          | y => y) := q2
        cases z : mb ps2 with
        | next ps3 => rw [z] at q3; exact fun σ' F' H' s R' => ⟨F', ps3, (s1.trans s2).trans s, R', q3.mono s⟩
        | cont ps3 => rw [z] at q3; exact fun σ' F' H' s R' => ⟨F', ps3, (s1.trans s2).trans s, R', q3.mono s⟩
        | brk ps3 => rw [z] at q3; exact q3
        | ret d ps3 => rw [z] at q3; exact q3
        | exc e ps3 => rw [z] at q3; exact q3
        | bad => rw [z] at q3; exact q3
end
/-! ### a def -/
def sl0 (n : Nat) (ds : List D) : List Sl := ds.map Sl.fz ++ List.replicate (n - ds.length) Sl.no
def mFun (np n : Nat) (body : MS) : MF := fun ds k => if ds.length = np then (match body ⟨sl0 n ds, k⟩ with
  | .ret d ps => .ret d ps.dk
  | .next ps => .ret .none ps.dk
  | .exc e ps => .exc e ps.dk
  | _ => .bad) else .bad
theorem own_none {sl : List Sl} {σ : St} (h : ∀ (i : Nat) (s : Sl), sl[i]? = some s → s.mut = false) {j : Nat} {p : Addr} : ¬ Own sl σ j p := fun ⟨⟨s, e, m⟩, _⟩ => by rw [h j s e] at m; cases m
theorem sl0_mut {n : Nat} {ds : List D} : ∀ (i : Nat) (s : Sl), (sl0 n ds)[i]? = some s → s.mut = false := fun i s e => by
  have := List.mem_of_getElem? e
  unfold sl0 at this
  rcases List.mem_append.mp this with h | h
  · obtain ⟨d, _, rfl⟩ := List.mem_map.mp h; rfl
  · rw [(List.mem_replicate.mp h).2]; rfl
theorem rel_start {C : Mc} {Gc F H : Hp} {k : Dk} {N : List Str} {vs : List V} {ds : List D} (R : Rel C Gc F H ⟨[], k⟩ []) (r : RpA C F vs ds) : Rel C Gc F H ⟨sl0 N.length ds, k⟩ (L2.start N vs) := by
  have hl := r.length
  refine ⟨R.fh, R.gh, R.dj, by simp [L2.start, sl0, hl], fun i s e => ?_, fun i j p a _ => (own_none sl0_mut a).elim, R.dk, fun i _ j p a => (own_none sl0_mut a).elim⟩
  by_cases hi : i < ds.length
  · have e' : (sl0 N.length ds)[i]? = some (.fz ds[i]) := by
      unfold sl0
      rw [List.getElem?_append_left (by simpa using hi)]
      simp [hi]
    have e2 : (sl0 N.length ds)[i]? = some s := e
    rw [e'] at e2
    cases e2
    obtain ⟨v, h1, h2⟩ := r.get' (i := i) (d := ds[i]) (by simp [hi])
    refine ⟨v, ?_, h2⟩
    unfold L2.start
    rw [List.getElem?_append_left (by simp [hl, hi])]
    simp [h1]
  · have hm : s = .no := by
      have e2 : (sl0 N.length ds)[i]? = some s := e
      unfold sl0 at e2
      rw [List.getElem?_append_right (by simp; omega)] at e2
      exact (List.mem_replicate.mp (List.mem_of_getElem? e2)).2
    subst hm
    trivial
def W0 : WX := fun _ _ _ _ => False
section
variable {P : Program} {w : World} {K : PySem.W.Frag} {mg : Str → Option Value} {base : Heap}
/-- a def that raises nothing: its body's plain function -/
theorem fn_ok {x qual : Str} {st : Stmt} {f : Addr} {fd : FuncData} {N pn : List Str} {k : Nat} {C : Mc} {mb : MS} (F : Fun K x qual st f fd) (S : FnScope N pn (defScope st)) 
    (hbody : ∀ (cdv : Value) (A : Around) (outer : List Env) (s : Shared) (H : Hp) (E : XK), Room k (A.deeper (envOfC qual (defScope st) s.heap.objs.size f cdv)) →
      PSs (cxOf CX0 P w K mg base N qual (defScope st) f cdv A outer s H E).nox (defBody st) (tS C W0 mb)) : FnOk P w K mg base CX0 (k + 1) f fd pn (spM C (mFun pn.length N.length mb)) := by
  refine F.ok S (fun vs H Q E h => ?_) (fun cdv A outer s H vs Q E hr h => ?_)
  · obtain ⟨Gc, Fz, ds, k', R, r, q⟩ := h
    unfold mFun at q
    by_cases hl : ds.length = pn.length
    · exact r.length.trans hl
    · rw [if_neg hl] at q; exact q.elim
  · obtain ⟨Gc, Fz, ds, k', R, r, q⟩ := h
    refine ⟨_, hbody cdv A outer s H E hr, Gc, Fz, ⟨sl0 N.length ds, k'⟩, rel_start R r, ?_⟩
    unfold mFun at q
    by_cases hl : ds.length = pn.length
    · rw [if_pos hl] at q
      cases z : mb ⟨sl0 N.length ds, k'⟩ with
      | next ps => rw [z] at q; exact fun σ' F' H' s R' => q .non F' H' s R'.drop .non
      | ret d ps => rw [z] at q; exact fun v σ' F' H' s R' r' => q v F' H' s R'.drop r'
      | brk ps => rw [z] at q; exact q.elim
      | cont ps => rw [z] at q; exact q.elim
      | exc e ps => rw [z] at q; exact q.elim
      | bad => rw [z] at q; exact q.elim
    · rw [if_neg hl] at q; exact q.elim
end
end MM
namespace MM
open PySem PySem.Spec PyProof.Rows L2

/-! ### data without dicts, for == and in -/
section
variable {C : Mc} {F H : Hp}
mutual
theorem Rp.dp (hF : Same F H) : ∀ {v : V} {d : D}, Rp C F v d → d.canLay0 = true → Dp C.K H v d
  | _, _, .non, _ => .non
  | _, _, .bl b, _ => .bl b
  | _, _, .int i, _ => .int i
  | _, _, .str x, _ => .str x
  | _, _, .lst h r, l => .lst (SqL.of (hF _ _ h)) (RpA.dp hF r (by simpa only [PyData.canLay0] using l))
  | _, _, .tup h r, l => .tup (sqT_mono hF h) (RpA.dp hF r (by simpa only [PyData.canLay0] using l))
  | _, _, .dct _ _ _, l => by simp [PyData.canLay0] at l
  | _, _, .dcT _ _ _ _, l => by simp [PyData.canLay0] at l
  | _, _, .dz _ _ _, l => by simp [PyData.canLay0] at l
  | _, _, .nt _ _ _, l => by simp [PyData.canLay0] at l
  | _, _, .deck _, l => by simp [deckD, PyData.canLay0] at l
theorem RpA.dp (hF : Same F H) : ∀ {vs : List V} {ds : List D}, RpA C F vs ds → PyData.canLayAll0 ds = true → DpAll C.K H vs ds
  | _, _, .nil, _ => .nil
  | _, _, .cons r t, l => by
    have l' := l
    rw [PyData.canLayAll0, Bool.and_eq_true] at l'
    exact .cons (Rp.dp hF r l'.1) (RpA.dp hF t l'.2)
end
end
theorem lay_of {d : D} (h : SeqAt.shaped d = true) : d.canLay0 = true := SeqAt.canLay_of_shaped h
def dEq (x y : D) : Option D := if (SeqAt.shaped x && SeqAt.shaped y) = true then some (.bool (PyData.eqv x y)) else none
def dNe (x y : D) : Option D := if (SeqAt.shaped x && SeqAt.shaped y) = true then some (.bool (!PyData.eqv x y)) else none
section
variable {X : Cx} {C : Mc}
theorem om_eq (hK : C.K = X.K) : OpM C dEq (rEqD X.K) := by
  intro Gc F H ps σ v u x y z Q R rx ry hz q
  unfold dEq at hz
  by_cases h : (SeqAt.shaped x && SeqAt.shaped y) = true
  · rw [if_pos h] at hz
    cases hz
    rw [Bool.and_eq_true] at h
    rw [← hK]
    exact ⟨x, y, rx.dp R.fh (lay_of h.1), ry.dp R.fh (lay_of h.2), h.1, h.2, q _ F H (Same.refl _) R (.bl _)⟩
  · rw [if_neg h] at hz; cases hz
theorem om_ne (hK : C.K = X.K) : OpM C dNe (rNeD X.K) := by
  intro Gc F H ps σ v u x y z Q R rx ry hz q
  unfold dNe at hz
  by_cases h : (SeqAt.shaped x && SeqAt.shaped y) = true
  · rw [if_pos h] at hz
    cases hz
    rw [Bool.and_eq_true] at h
    rw [← hK]
    exact ⟨x, y, rx.dp R.fh (lay_of h.1), ry.dp R.fh (lay_of h.2), h.1, h.2, q _ F H (Same.refl _) R (.bl _)⟩
  · rw [if_neg h] at hz; cases hz
/-! ### in -/
def rInT (K : PySem.W.Frag) (neg : Bool) : R2 := fun x y H Q => ∃ d ds, Dp K H x d ∧ Dp K H y (.tuple ds) ∧ SeqAt.shaped d = true ∧ SeqAt.shaped (.tuple ds) = true ∧ Q (.bl (xor neg (ds.any fun z => PyData.eqv z d))) H
theorem op_inT (hu : X.A.units + 65 < cLine) : OpR X (compareOp .In) (rInT X.K false) := fun pins s σ H x y v u Q I rx ry ⟨d, ds, hd, he, sd, se, q⟩ => by
  obtain ⟨as, r1⟩ := Dp.reads I d x v hd rx
  obtain ⟨bs, r2⟩ := Dp.reads I (.tuple ds) y u he ry
  refine SeqAt.in_tuple_reads r2 r1 (SeqAt.canLay_of_shaped se) (lay_of sd) (room_in_shaped sd hu) ⟨.bl _, H, I, ?_, q⟩
  rw [Bool.false_xor]; rfl
theorem op_notInT (hu : X.A.units + 65 < cLine) : OpR X (compareOp .NotIn) (rInT X.K true) := fun pins s σ H x y v u Q I rx ry ⟨d, ds, hd, he, sd, se, q⟩ => by
  obtain ⟨as, r1⟩ := Dp.reads I d x v hd rx
  obtain ⟨bs, r2⟩ := Dp.reads I (.tuple ds) y u he ry
  refine SeqAt.notIn_tuple_reads r2 r1 (SeqAt.canLay_of_shaped se) (lay_of sd) (room_in_shaped sd hu) ⟨.bl _, H, I, ?_, q⟩
  rw [Bool.true_xor]; rfl
def toKey : D → Option Key
  | .int i => some (.inl i)
  | .str x => some (.inr x)
  | _ => none
theorem kD_of {d : D} {k : Key} (h : toKey d = some k) : d = kD k := by
  cases d <;> simp [toKey] at h <;> subst h <;> rfl
theorem toKey_kD (k : Key) : toKey (kD k) = some k := by cases k <;> rfl
/-- what a dict holds -/
def dLook (kvs : List (D × D)) (k : Key) : Option D := (kvs.find? fun p => decide (toKey p.1 = some k)).map (·.2)
def rInD2 (neg : Bool) : R2 := fun x y H Q => ∃ a o, y = .ref a ∧ DGet H a x o ∧ Q (.bl (xor neg o.isSome)) H
theorem op_inK (hu : X.A.units + 1 < cLine) : OpR X (compareOp .In) (rInD2 false) := fun pins s σ H x y v u Q I rx ry ⟨a, o, e, g, q⟩ => by
  subst e
  cases ry
  exact d_in hu I g rx fun s3 I3 => ⟨.bl o.isSome, H, I3, rfl, by rwa [Bool.false_xor] at q⟩
theorem op_notInK (hu : X.A.units + 1 < cLine) : OpR X (compareOp .NotIn) (rInD2 true) := fun pins s σ H x y v u Q I rx ry ⟨a, o, e, g, q⟩ => by
  subst e
  cases ry
  exact d_notIn hu I g rx fun s3 I3 => ⟨.bl (!o.isSome), H, I3, rfl, by rwa [Bool.true_xor] at q⟩
theorem look_find {F : Hp} : ∀ {kvs : List (Key × V)} {ds : List (D × D)}, RpA C F (kvs.map (·.2)) (ds.map (·.2)) → ds.map (·.1) = kvs.map (fun p => kD p.1) → ∀ k, (valV kvs k = none ∧ dLook ds k = none) ∨ ∃ v d, valV kvs k = some v ∧ dLook ds k = some d ∧ Rp C F v d
  | [], [], _, _, k => .inl ⟨rfl, rfl⟩
  | [], _ :: _, r, _, _ => nomatch r
  | _ :: _, [], r, _, _ => nomatch r
  | p :: kvs, q :: ds, r, e, k => by
    rw [List.map_cons, List.map_cons] at r e
    cases r with
    | cons r1 r2 =>
      injection e with e1 e2
      by_cases h : p.1 = k
      · refine .inr ⟨p.2, q.2, valV_pos h, ?_, r1⟩
        have z : decide (toKey q.1 = some k) = true := by rw [e1, toKey_kD, h]; simp
        simp [dLook, List.find?_cons, z]
      · have z : decide (toKey q.1 = some k) = false := by rw [e1, toKey_kD]; simpa using h
        have z1 : dLook (q :: ds) k = dLook ds k := by simp [dLook, List.find?_cons, z]
        rw [valV_neg h, z1]
        exact look_find r2 e2 k
theorem rp_kD {F : Hp} {v : V} {k : Key} (h : Rp C F v (kD k)) : v = kV k := by
  cases k with
  | inl i => cases h; rfl
  | inr x => cases h; rfl
/-- x in y -/
def dInB (x y : D) : Option Bool := match y with
  | .list ds => if (SeqAt.shaped x && SeqAt.shaped (.list ds)) = true then some (ds.any fun z => PyData.eqv z x) else none
  | .tuple ds => if (SeqAt.shaped x && SeqAt.shaped (.tuple ds)) = true then some (ds.any fun z => PyData.eqv z x) else none
  | .str b => match x with
    | .str a => some (!(Builtin.Str.occurrences b a 0 b.length 1).isEmpty)
    | _ => none
  | .dict kvs => if kvs.any (fun p => (toKey p.1).isNone) = true then none else (toKey x).map fun k => (dLook kvs k).isSome
  | _ => none
def dIn (x y : D) : Option D := (dInB x y).map .bool
def dNotIn (x y : D) : Option D := (dInB x y).map fun b => .bool (!b)
def rInAll (K : PySem.W.Frag) : R2 := fun x y H Q => rInD K x y H Q ∨ rInT K false x y H Q ∨ rInD2 false x y H Q ∨ ∃ i j, x = .str i ∧ y = .str j ∧ Q (.bl (!(Builtin.Str.occurrences j i 0 j.length 1).isEmpty)) H
def rNotInAll (K : PySem.W.Frag) : R2 := fun x y H Q => rNotInD K x y H Q ∨ rInT K true x y H Q ∨ rInD2 true x y H Q ∨ ∃ i j, x = .str i ∧ y = .str j ∧ Q (.bl (!(!(Builtin.Str.occurrences j i 0 j.length 1).isEmpty))) H
theorem op_inAll (hu : X.A.units + 65 < cLine) : OpR X (compareOp .In) (rInAll X.K) := (op_inD hu).or ((op_inT hu).or ((op_inK (by omega)).or op_in_str))
theorem op_notInAll (hu : X.A.units + 65 < cLine) : OpR X (compareOp .NotIn) (rNotInAll X.K) := (op_notInD hu).or ((op_notInT hu).or ((op_notInK (by omega)).or op_notin_str))
theorem tk_any {ks : List (List Key × V)} {kvs : List (D × D)} (h2 : ks ≠ []) (h4 : kvs.map (·.1) = ks.map (fun p => PyData.tuple (p.1.map kD))) : kvs.any (fun p => (toKey p.1).isNone) = true := by
  cases ks with
  | nil => exact (h2 rfl).elim
  | cons q qs =>
    cases kvs with
    | nil => simp at h4
    | cons p ps =>
      rw [List.map_cons, List.map_cons] at h4
      injection h4 with e1 e2
      rw [List.any_cons, e1]
      simp [toKey]
theorem dget_ok {Gc F H : Hp} {ps : Ps} {σ : St} {v : V} {kvs : List (D × D)} {k : Key} (R : Rel C Gc F H ps σ) (r : Rp C F v (.dict kvs)) (hk : kvs.any (fun p => (toKey p.1).isNone) = false) :
    ∃ a o, v = .ref a ∧ DGet H a (kV k) o ∧ ((o = none ∧ dLook kvs k = none) ∨ ∃ y d, o = some y ∧ dLook kvs k = some d ∧ Rp C F y d) := by
  cases r with
  | dct h1 h2 h3 =>
    rename_i a ks
    refine ⟨a, valV ks k, rfl, DGet.k (R.fh _ _ h1), ?_⟩
    rcases look_find h2 h3 k with ⟨e1, e2⟩ | ⟨y, d, e1, e2, e3⟩
    · exact .inl ⟨e1, e2⟩
    · exact .inr ⟨y, d, e1, e2, e3⟩
  | dcT h1 h2 h3 h4 => rw [tk_any h2 h4] at hk; cases hk
  | dz _ _ _ => simp [toKey] at hk
  | nt _ _ _ => simp [toKey] at hk
  | deck h => simp [toKey] at hk
theorem in_any (hK : C.K = X.K) {Gc F H : Hp} {ps : Ps} {σ : St} {v u : V} {x y : D} {b : Bool} {Q : VK} (R : Rel C Gc F H ps σ) (rx : Rp C F v x) (ry : Rp C F u y) (hz : dInB x y = some b) (hq : ∀ F' H', Same F F' → Rel C Gc F' H' ps σ → True) :
    (Q (.bl b) H → rInAll X.K v u H Q) ∧ (Q (.bl (!b)) H → rNotInAll X.K v u H Q) := by
  cases y with
  | list ds =>
    unfold dInB at hz
    dsimp only at hz
    by_cases h : (SeqAt.shaped x && SeqAt.shaped (.list ds)) = true
    · rw [if_pos h] at hz
      cases hz
      rw [Bool.and_eq_true] at h
      rw [← hK]
      exact ⟨fun q => .inl ⟨x, ds, rx.dp R.fh (lay_of h.1), ry.dp R.fh (lay_of h.2), h.1, h.2, q⟩, fun q => .inl ⟨x, ds, rx.dp R.fh (lay_of h.1), ry.dp R.fh (lay_of h.2), h.1, h.2, q⟩⟩
    · rw [if_neg h] at hz; cases hz
  | tuple ds =>
    unfold dInB at hz
    dsimp only at hz
    by_cases h : (SeqAt.shaped x && SeqAt.shaped (.tuple ds)) = true
    · rw [if_pos h] at hz
      cases hz
      rw [Bool.and_eq_true] at h
      rw [← hK]
      exact ⟨fun q => .inr (.inl ⟨x, ds, rx.dp R.fh (lay_of h.1), ry.dp R.fh (lay_of h.2), h.1, h.2, by rw [Bool.false_xor]; exact q⟩), fun q => .inr (.inl ⟨x, ds, rx.dp R.fh (lay_of h.1), ry.dp R.fh (lay_of h.2), h.1, h.2, by rw [Bool.true_xor]; exact q⟩)⟩
    · rw [if_neg h] at hz; cases hz
  | dict kvs =>
    unfold dInB at hz
    dsimp only at hz
    by_cases h : kvs.any (fun p => (toKey p.1).isNone) = true
    · rw [if_pos h] at hz; cases hz
    · rw [if_neg h] at hz
      obtain ⟨k, e1, e2⟩ := Option.map_eq_some_iff.mp hz
      have ex := kD_of e1
      subst ex
      have ev := rp_kD rx
      subst ev
      obtain ⟨a, o, rfl, g, cs⟩ := dget_ok (k := k) R ry (by simpa using h)
      have eo : o.isSome = b := by
        rcases cs with ⟨c1, c2⟩ | ⟨y, d, c1, c2, _⟩
        · rw [c1, ← e2, c2] <;> rfl
        · rw [c1, ← e2, c2] <;> rfl
      exact ⟨fun q => .inr (.inr (.inl ⟨a, o, rfl, g, by rw [Bool.false_xor, eo]; exact q⟩)), fun q => .inr (.inr (.inl ⟨a, o, rfl, g, by rw [Bool.true_xor, eo]; exact q⟩))⟩
  | str t =>
    cases x with
    | str a =>
      cases rx; cases ry
      have hz' : some (!(Builtin.Str.occurrences t a 0 t.length 1).isEmpty) = some b := hz
      cases hz'
      exact ⟨fun q => .inr (.inr (.inr ⟨a, t, rfl, rfl, q⟩)), fun q => .inr (.inr (.inr ⟨a, t, rfl, rfl, q⟩))⟩
    | _ => cases hz
  | _ => cases hz
theorem om_in (hK : C.K = X.K) : OpM C dIn (rInAll X.K) := by
  intro Gc F H ps σ v u x y z Q R rx ry hz q
  obtain ⟨b, e1, e2⟩ := Option.map_eq_some_iff.mp hz
  subst e2
  exact (in_any hK R rx ry e1 fun _ _ _ _ => trivial).1 (q _ F H (Same.refl _) R (.bl _))
theorem om_notIn (hK : C.K = X.K) : OpM C dNotIn (rNotInAll X.K) := by
  intro Gc F H ps σ v u x y z Q R rx ry hz q
  obtain ⟨b, e1, e2⟩ := Option.map_eq_some_iff.mp hz
  subst e2
  exact (in_any hK R rx ry e1 fun _ _ _ _ => trivial).2 (q _ F H (Same.refl _) R (.bl _))
/-! ### arithmetic -/
def dAdd : D → D → Option D
  | .int i, .int j => some (.int (i + j))
  | .str x, .str y => if x.length + y.length ≤ sizeLine then some (.str (x ++ y)) else none
  | .list xs, .list ys => if xs.length + ys.length ≤ sizeLine then some (.list (xs ++ ys)) else none
  | .tuple xs, .tuple ys => if xs.length + ys.length ≤ sizeLine then some (.tuple (xs ++ ys)) else none
  | _, _ => none
def rAddAll (K : PySem.W.Frag) : R2 := fun x y H Q => (∃ i j, x = .int i ∧ y = .int j ∧ Q (.int (i + j)) H) ∨ (∃ i j, x = .str i ∧ y = .str j ∧ i.length + j.length ≤ sizeLine ∧ Q (.str (i ++ j)) H) ∨ rCat x y H Q ∨ rCatA K x y H Q
theorem op_addAll : OpR X (binaryOp .Add) (rAddAll X.K) := OpR.or op_add (op_add_str.or (op_cat.or op_catA))
theorem om_add (hK : C.K = X.K) : OpM C dAdd (rAddAll X.K) := by
  intro Gc F H ps σ v u x y z Q R rx ry hz q
  have hf : ∀ p, H p = none → F p = none := fun p n => R.fh.free n
  unfold dAdd at hz
  split at hz
  · cases hz; cases rx; cases ry
    exact .inl ⟨_, _, rfl, rfl, q _ F H (Same.refl _) R (.int _)⟩
  · rename_i a b
    by_cases h : a.length + b.length ≤ sizeLine
    · rw [if_pos h] at hz; cases hz; cases rx; cases ry
      exact .inr (.inl ⟨_, _, rfl, rfl, h, q _ F H (Same.refl _) R (.str _)⟩)
    · rw [if_neg h] at hz; cases hz
  · rename_i a b
    by_cases h : a.length + b.length ≤ sizeLine
    · rw [if_pos h] at hz; cases hz
      cases rx with
      | lst h1 r1 =>
        cases ry with
        | lst h2 r2 =>
          exact .inr (.inr (.inl ⟨_, _, _, _, rfl, rfl, R.fh _ _ h1, R.fh _ _ h2, by rw [r1.length, r2.length]; exact h, fun p n => q _ _ _ (same_alloc (hf p n)) (R.alloc n) (.lst upd_same ((r1.append r2).mono (same_alloc (hf p n))))⟩))
    · rw [if_neg h] at hz; cases hz
  · rename_i a b
    by_cases h : a.length + b.length ≤ sizeLine
    · rw [if_pos h] at hz; cases hz
      cases rx with
      | tup h1 r1 =>
        cases ry with
        | tup h2 r2 =>
          rename_i p1 xs p2 ys
          rw [← hK]
          refine .inr (.inr (.inr ⟨_, _, xs, ys, rfl, rfl, sqT_mono R.fh h1, sqT_mono R.fh h2, by rw [r1.length, r2.length]; exact h, fun e => ?_, fun _ e => ?_, fun _ _ p n => q _ _ _ (same_alloc (hf p n)) (R.alloc n) (.tup upd_same ((r1.append r2).mono (same_alloc (hf p n))))⟩))
          · subst e; cases r1; exact q _ F H (Same.refl _) R (.tup h2 r2)
          · subst e; cases r2; rw [List.append_nil] at q; exact q _ F H (Same.refl _) R (.tup h1 r1)
    · rw [if_neg h] at hz; cases hz
  · cases hz
/-- ints by ints -/
def dI (P : Int → Int → Bool) (g : Int → Int → D) : D → D → Option D
  | .int i, .int j => if P i j = true then some (g i j) else none
  | _, _ => none
theorem om_int {P : Int → Int → Bool} {g : Int → Int → D} {Cd : Int → Int → Prop} {gv : Int → Int → V} (hp : ∀ i j, P i j = true → Cd i j) (hg : ∀ F i j, Rp C F (gv i j) (g i j)) : OpM C (dI P g) (rI Cd gv) := by
  intro Gc F H ps σ v u x y z Q R rx ry hz q
  unfold dI at hz
  split at hz
  · rename_i i j
    by_cases h : P i j = true
    · rw [if_pos h] at hz; cases hz; cases rx; cases ry
      exact ⟨_, _, rfl, rfl, hp _ _ h, q _ F H (Same.refl _) R (hg F _ _)⟩
    · rw [if_neg h] at hz; cases hz
  · cases hz
theorem om_int0 {g : Int → Int → D} {gv : Int → Int → V} (hg : ∀ F i j, Rp C F (gv i j) (g i j)) : OpM C (dI (fun _ _ => true) g) (rI0 gv) := by
  intro Gc F H ps σ v u x y z Q R rx ry hz q
  unfold dI at hz
  split at hz
  · rename_i i j
    rw [if_pos rfl] at hz; cases hz; cases rx; cases ry
    exact ⟨_, _, rfl, rfl, q _ F H (Same.refl _) R (hg F _ _)⟩
  · cases hz
abbrev dSub := dI (fun _ _ => true) fun i j => .int (i - j)
theorem om_sub : OpM C dSub (rI0 fun i j => .int (i - j)) := om_int0 fun _ i j => .int (i - j)
abbrev dFdiv := dI (fun _ j => decide (0 < j ∧ j < 1073741824)) fun i j => .int (i / j)
theorem om_fdiv : OpM C dFdiv (rI CDiv fun i j => .int (i / j)) := om_int (fun i j h => of_decide_eq_true (p := 0 < j ∧ j < 1073741824) h) fun _ i j => .int _
abbrev dMod := dI (fun _ j => decide (0 < j)) fun i j => .int (i % j)
theorem om_mod : OpM C dMod (rI (fun _ j => 0 < j) fun i j => .int (i % j)) := om_int (fun i j h => of_decide_eq_true h) fun _ i j => .int _
abbrev dPow := dI (fun i j => decide (0 ≤ j ∧ j ≤ 1000000 ∧ i.natAbs < 2 ^ 64)) fun i j => .int (i ^ j.toNat)
theorem om_pow : OpM C dPow (rI CPow fun i j => .int (i ^ j.toNat)) := om_int (fun i j h => of_decide_eq_true (p := 0 ≤ j ∧ j ≤ 1000000 ∧ i.natAbs < 2 ^ 64) h) fun _ i j => .int _
abbrev dMulI := dI (fun i j => decide ((-(2 ^ 64) < i ∧ i < 2 ^ 64) ∨ (-(2 ^ 64) < j ∧ j < 2 ^ 64))) fun i j => .int (i * j)
def dMul : D → D → Option D
  | .list xs, .int k => if (decide (-(2 ^ 63) ≤ k) && decide (k < 2 ^ 63) && decide (xs.length * k.toNat ≤ sizeLine)) = true then some (.list (List.replicate k.toNat xs).flatten) else none
  | x, y => dMulI x y
def rMulAll : R2 := fun x y H Q => rI CMul (fun i j => .int (i * j)) x y H Q ∨ rRep x y H Q
theorem op_mulAll : OpR X (binaryOp .Mult) rMulAll := OpR.or op_mul op_rep
theorem RpA.rep {F : Hp} {xs : List V} {ds : List D} (r : RpA C F xs ds) : ∀ k : Nat, RpA C F (List.replicate k xs).flatten (List.replicate k ds).flatten
  | 0 => .nil
  | k + 1 => by
    rw [List.replicate_succ, List.replicate_succ, List.flatten_cons, List.flatten_cons]
    exact r.append (RpA.rep r k)
theorem om_mul : OpM C dMul rMulAll := by
  intro Gc F H ps σ v u x y z Q R rx ry hz q
  unfold dMul at hz
  split at hz
  · rename_i xs k
    split at hz
    · rename_i h
      cases hz
      simp only [Bool.and_eq_true, decide_eq_true_eq] at h
      cases ry
      cases rx with
      | lst h1 r1 =>
        have hf : ∀ p, H p = none → F p = none := fun p n => R.fh.free n
        exact .inr ⟨_, _, _, rfl, rfl, R.fh _ _ h1, h.1.1, h.1.2, by rw [r1.length]; exact h.2, fun p n => q _ _ _ (same_alloc (hf p n)) (R.alloc n) (.lst upd_same ((r1.rep _).mono (same_alloc (hf p n))))⟩
    · cases hz
  · exact .inl (om_int (P := fun i j => decide ((-(2 ^ 64) < i ∧ i < 2 ^ 64) ∨ (-(2 ^ 64) < j ∧ j < 2 ^ 64))) (g := fun i j => .int (i * j)) (Cd := CMul) (gv := fun i j => .int (i * j)) (fun i j h => of_decide_eq_true (p := (-(2 ^ 64) < i ∧ i < 2 ^ 64) ∨ (-(2 ^ 64) < j ∧ j < 2 ^ 64)) h) (fun _ i j => .int _) Gc F H ps σ v u x y z Q R rx ry hz q)
abbrev dShr := dI (fun _ j => decide (0 ≤ j)) fun i j => .int (i / 2 ^ j.toNat)
theorem om_shr : OpM C dShr (rI (fun _ j => 0 ≤ j) fun i j => .int (i / 2 ^ j.toNat)) := om_int (fun i j h => of_decide_eq_true h) fun _ i j => .int _
abbrev dShl := dI (fun i j => decide (0 ≤ j ∧ j ≤ 1000000 ∧ i.natAbs < 2 ^ 64)) fun i j => .int (i * 2 ^ j.toNat)
theorem om_shl : OpM C dShl (rI CPow fun i j => .int (i * 2 ^ j.toNat)) := om_int (fun i j h => of_decide_eq_true (p := 0 ≤ j ∧ j ≤ 1000000 ∧ i.natAbs < 2 ^ 64) h) fun _ i j => .int _
abbrev dAnd := dI (fun _ _ => true) fun i j => .int (Builtin.bitAnd i j)
theorem om_and : OpM C dAnd (rI0 fun i j => .int (Builtin.bitAnd i j)) := om_int0 fun _ i j => .int _
abbrev dOr := dI (fun _ _ => true) fun i j => .int (Builtin.bitOr i j)
theorem om_or : OpM C dOr (rI0 fun i j => .int (Builtin.bitOr i j)) := om_int0 fun _ i j => .int _
def dNeg : D → Option D
  | .int i => some (.int (-i))
  | _ => none
theorem um_neg : UnM C dNeg (rU fun i => .int (-i)) := by
  intro Gc F H ps σ v x z Q R rx hz q
  cases x <;> simp [dNeg] at hz
  subst hz; cases rx
  exact ⟨_, rfl, q _ F H (Same.refl _) R (.int _)⟩
/-! ### order -/
def intsOf : List D → Option (List Int)
  | [] => some []
  | .int i :: r => (intsOf r).map (i :: ·)
  | _ :: _ => none
theorem intsOf_map (ns : List Int) : intsOf (ns.map .int) = some ns := by
  induction ns with
  | nil => rfl
  | cons n ns ih => simp [intsOf, ih]
theorem intsOf_eq : ∀ {ds : List D} {ns : List Int}, intsOf ds = some ns → ds = ns.map .int
  | [], ns, h => by simp [intsOf] at h; subst h; rfl
  | .int i :: r, ns, h => by
    simp only [intsOf] at h
    obtain ⟨ms, e1, e2⟩ := Option.map_eq_some_iff.mp h
    subst e2
    rw [intsOf_eq e1]; rfl
  | .none :: _, ns, h => nomatch h
  | .bool _ :: _, ns, h => nomatch h
  | .str _ :: _, ns, h => nomatch h
  | .list _ :: _, ns, h => nomatch h
  | .tuple _ :: _, ns, h => nomatch h
  | .dict _ :: _, ns, h => nomatch h
def dLt : D → D → Option D
  | .int i, .int j => some (.bool (decide (i < j)))
  | .tuple xs, .tuple ys => (intsOf xs).bind fun ns => (intsOf ys).map fun ms => .bool (HT.lexLt ns ms)
  | _, _ => none
def rLtAll (K : PySem.W.Frag) : R2 := fun x y H Q => rI0 (fun i j => .bl (decide (i < j))) x y H Q ∨ rLtT K x y H Q
theorem op_ltAll (hu : X.A.units < cLine) : OpR X (compareOp .Lt) (rLtAll X.K) := OpR.or op_lt (op_ltT hu)
theorem om_lt (hK : C.K = X.K) : OpM C dLt (rLtAll X.K) := by
  intro Gc F H ps σ v u x y z Q R rx ry hz q
  unfold dLt at hz
  split at hz
  · cases hz; cases rx; cases ry
    exact .inl ⟨_, _, rfl, rfl, q _ F H (Same.refl _) R (.bl _)⟩
  · rename_i xs ys
    obtain ⟨ns, e1, h2⟩ := Option.bind_eq_some_iff.mp hz
    obtain ⟨ms, e3, e4⟩ := Option.map_eq_some_iff.mp h2
    have h1 := intsOf_eq e1
    have h3 := intsOf_eq e3
    subst h1; subst h3; subst e4
    cases rx with
    | tup a1 r1 =>
      cases ry with
      | tup a2 r2 =>
        have z1 := r1.ints
        have z2 := r2.ints
        subst z1; subst z2
        rw [← hK]
        exact .inr ⟨_, _, ns, ms, rfl, rfl, sqT_mono R.fh a1, sqT_mono R.fh a2, q _ F H (Same.refl _) R (.bl _)⟩
  · cases hz
abbrev dGt := dI (fun _ _ => true) fun i j => .bool (decide (j < i))
theorem om_gt : OpM C dGt (rI0 fun i j => .bl (decide (j < i))) := om_int0 fun _ i j => .bl _
abbrev dGe := dI (fun _ _ => true) fun i j => .bool (decide (j ≤ i))
theorem om_ge : OpM C dGe (rI0 fun i j => .bl (decide (j ≤ i))) := om_int0 fun _ i j => .bl _
abbrev dLe := dI (fun _ _ => true) fun i j => .bool (decide (i ≤ j))
theorem om_le : OpM C dLe (rI0 fun i j => .bl (decide (i ≤ j))) := om_int0 fun _ i j => .bl _
/-! ### is -/
def isNon : D → Bool
  | .none => true
  | _ => false
def dIsN (x y : D) : Option D := match y with
  | .none => some (.bool (isNon x))
  | _ => none
def dNotN (x y : D) : Option D := match y with
  | .none => some (.bool (!isNon x))
  | _ => none
theorem isNon_ok {F : Hp} {v : V} {x : D} (r : Rp C F v x) : decide (v = .non) = isNon x := by cases r <;> rfl
theorem om_isN : OpM C dIsN (fun x y H Q => y = .non ∧ Q (.bl (decide (x = .non))) H) := by
  intro Gc F H ps σ v u x y z Q R rx ry hz q
  cases y <;> simp [dIsN] at hz
  subst hz; cases ry
  exact ⟨rfl, by rw [isNon_ok rx]; exact q _ F H (Same.refl _) R (.bl _)⟩
theorem om_notN : OpM C dNotN (fun x y H Q => y = .non ∧ Q (.bl (!decide (x = .non))) H) := by
  intro Gc F H ps σ v u x y z Q R rx ry hz q
  cases y <;> simp [dNotN] at hz
  subst hz; cases ry
  exact ⟨rfl, by rw [isNon_ok rx]; exact q _ F H (Same.refl _) R (.bl _)⟩
end
end MM
/-! ### a tuple turned about -/
namespace HT
open PySem PyProof.Rows
section
variable {prog : Program} {w : World} {A : Around} {E : Value → Shared → Prop} {s : Shared}
theorem picked_back (xs : Array Value) : ((List.range xs.size).filterMap fun (m : Nat) => xs[(((xs.size : Nat) : Int) - 1 + (m : Int) * (-1)).toNat]?).toArray = xs.toList.reverse.toArray := by
  have e : (fun (m : Nat) => xs[(((xs.size : Nat) : Int) - 1 + (m : Int) * (-1)).toNat]?) = fun m => xs[xs.size - 1 - m]? := by
    funext m
    have : (((xs.size : Nat) : Int) - 1 + (m : Int) * (-1)).toNat = xs.size - 1 - m := by omega
    rw [this]
  rw [e, ← PySem.W.krv_all xs, ← List.filterMap_reverse, ← PySem.W.krv_range, List.filterMap_map]
  rfl
theorem applied_back {sl : Addr} {vl vu vs : Value} {n : Nat} {Q : Int × Int × Nat → Shared → Prop} (hs : s.heap.IsSliceOf sl vl vu vs) (pl : IsPart vl none) (pu : IsPart vu none) (ps : IsPart vs (some (-1)))
    (h : Q ((n : Int) - 1, -1, n) s) : wpAny (model prog w) A (Builtin.Slice.sliceApplied (.ref sl) (pure (n : Int))) Q E s := by
  obtain ⟨os, hos, hcs, hds⟩ := id hs
  unfold Builtin.Slice.sliceApplied Builtin.Slice.sliceFields
  refine wpAny_bind (wpAny_bind (wpAny_field hos hds (x := vl) rfl (wpAny_bind (wpAny_field hos hds (x := vu) rfl
    (wpAny_bind (wpAny_field hos hds (x := vs) rfl (wpAny_pure ?_)))))))
  refine wpAny_bind (slicePart_ ps ?_)
  show wpAny _ _ (if ((-1 : Int) == 0) = true then _ else _) _ _ s
  rw [if_neg (by decide)]
  refine wpAny_bind (slicePart_ pl (wpAny_bind (slicePart_ pu
    (wpAny_bind (wpAny_pure ?_)))))
  have e1 : Builtin.Slice.sliceAdjust none none (-1) (n : Int) = ((n : Int) - 1, -1) := by
    unfold Builtin.Slice.sliceAdjust
    simp
  show wpAny _ _ (match Builtin.Slice.sliceAdjust none none (-1) (n : Int) with | (lo, hi) => pure (lo, (-1 : Int), Builtin.Slice.slicePlaces lo hi (-1))) _ _ s
  rw [e1]
  have e2 : Builtin.Slice.slicePlaces ((n : Int) - 1) (-1) (-1) = n := by
    unfold Builtin.Slice.slicePlaces
    have h1 : ¬ ((-1 : Int) > 0) := by omega
    simp only [h1, if_false]
    have e3 : (- -1 : Int) = 1 := by decide
    rw [e3, Int.ediv_one]
    split <;> omega
  show wpAny _ _ (pure ((n : Int) - 1, (-1 : Int), Builtin.Slice.slicePlaces ((n : Int) - 1) (-1) (-1))) _ _ s
  rw [e2]
  exact wpAny_pure h
theorem getItem_tuple_back {t sl : Addr} {items : Array Value} {vl vu vs : Value} {Q : Value → Shared → Prop} (ht : IsTup s.heap t items) (hs : s.heap.IsSliceOf sl vl vu vs) (pl : IsPart vl none) (pu : IsPart vu none) (ps : IsPart vs (some (-1)))
    (h : Q (.ref s.heap.objs.size) { s with heap := s.heap.push { cls := .type "tuple", data := .seq items.toList.reverse.toArray } }) (hsz : items.size ≤ sizeLine) : wpAny (model prog w) A (getItem (.ref t) (.ref sl)) Q E s := by
  have hok : sizeOk (.seq items.toList.reverse.toArray) := by
    show items.toList.reverse.toArray.size ≤ sizeLine
    rw [List.size_toArray, List.length_reverse, Array.length_toList]
    exact hsz
  obtain ⟨os, hos, hcs, hds⟩ := id hs
  have hTs : s.TypeIs (.ref sl) "slice" := ⟨os, hos, hcs⟩
  unfold getItem
  try with_reducible refine wpAny_holding ?_
  first | refine wpAny_bind (wpAny_pure ?_) | skip
  refine wpAny_bind (wpAny_sequenceKey ht.typeIs (by decide) ?_)
  refine wpAny_bind (wpAny_callSpecial?_slot (name := Str.ofString "__getitem__") ht.typeIs
    PyProof.Rows.slot_tuple_getitem (wpAny_call_entry PyProof.Rows.slot_tuple_getitem ht.typeIs
      entry_tuple_getitem ?_ (args_tuple_getitem _ _)))
  show wpAny _ _ (Builtin.Tuple.tupleItemsOf (.ref t) >>= _) _ _ s
  refine wpAny_bind (tupleItemsOf_ ht ?_)
  refine wpAny_bind (wpAny_typeOf hTs ?_)
  rw [if_pos (by decide)]
  refine wpAny_bind (applied_back hs pl pu ps ?_)
  have hno : ¬ ((((items.size : Int) - 1 == 0) && (-1 : Int) == 1 && items.size == items.size) = true) := by
    intro q
    rw [Bool.and_eq_true, Bool.and_eq_true] at q
    exact absurd q.1.2 (by decide)
  show wpAny _ _ (if ((((items.size : Nat) : Int) - 1 == 0) && (-1 : Int) == 1 && items.size == items.size) = true then _ else _) _ _ s
  rw [if_neg hno, picked_back]
  first
    | exact wpAny_bind (m := Builtin.Tuple.tupleExact _) (wpAny_newObj_type (wpAny_pure ⟨_, rfl, wpAny_pure h⟩) hok)
    | exact wpAny_bind (m := Builtin.Tuple.tupleExact _) (wpAny_newObj_type (wpAny_bind (wpAny_pure (wpAny_pure ⟨_, rfl, wpAny_pure h⟩))) hok)
    | exact wpAny_bind (wpAny_bind (m := Builtin.Tuple.tupleExact _) (wpAny_newObj_type (wpAny_pure (wpAny_pure ⟨_, rfl, wpAny_pure h⟩)) hok))
    | exact wpAny_bind (wpAny_bind (m := Builtin.Tuple.tupleExact _) (wpAny_newObj_type (wpAny_pure ⟨_, rfl, wpAny_pure h⟩) hok))
end
end HT
namespace MM
open PySem PySem.Spec PyProof.Rows L2
section
variable {X : Cx} {C : Mc} {W : WX} {a b e : Expr} {es : List Expr} {pos : Pos}
def tRevA (K : PySem.W.Frag) (te : TE) : TE := fun σ H Q => te σ H fun x H1 =>
  (∃ a xs, x = .ref a ∧ SqL K H1 a xs ∧ ∀ p, H1 p = none → Q (.ref p) (upd H1 p (.lst xs.reverse))) ∨ ∃ a xs, x = .ref a ∧ SqT K H1 a xs ∧ ∀ p, H1 p = none → Q (.ref p) (upd H1 p (.tup xs.reverse))
theorem pe_revA {te : TE} {k : Nat} {p1 p2 p3 : Pos} (he : PE X e te) : PE X (.Subscript e (.Slice none none (some (.UnaryOp .USub (.Constant (.int 1) k p1) p2)) p3) pos) (tRevA X.K te) := by
  refine ⟨fun pins s σ H Q I h => ?_⟩
  refine Subscript_ (thn (he.run pins s σ H _ I h) fun v s1 ⟨x, H1, I1, r1, q1⟩ => ?_)
  have hst : PO X (some (.UnaryOp .USub (.Constant (.int 1) k p1) p2)) (tPart (tUn (rU fun i => .int (-i)) (tC (.int 1)))) := po_some (pe_un un_neg pe_int)
  refine wpAny_Slice (thn (po_none.run pins s1 σ H1 (fun o H2 => o = none ∧ H2 = H1) I1 ⟨rfl, rfl⟩)
    fun vl s2 ⟨l, H2, I2, pl, el, e2⟩ => ?_)
  subst el e2
  refine thn (po_none.run pins s2 σ H2 (fun o H3 => o = none ∧ H3 = H2) I2 ⟨rfl, rfl⟩)
    fun vu s3 ⟨u, H3, I3, pu, eu, e3⟩ => ?_
  subst eu e3
  refine thn (hst.run pins s3 σ H3 (fun o H4 => o = some (-1) ∧ H4 = H3) I3 ⟨1, rfl, -1, rfl, rfl, rfl⟩)
    fun vs s4 ⟨o, H4, I4, ps, eo, e4⟩ => ?_
  subst eo e4
  have I5 : Inv X pins σ H4 { s4 with heap := s4.heap.push { cls := .type "slice", data := .fields #[vl, vu, vs] } } :=
    I4.kept (t' := s4.toks) fun b ob q => Heap.get?_push_of_some _ q
  rcases q1 with ⟨a, xs, ex, hx, q⟩ | ⟨a, xs, ex, hx, q⟩
  · subst ex
    cases r1
    obtain ⟨its, r, ht, hz⟩ := I5.list hx
    have hlen := r.length
    show wpAny _ X.A (subscriptTail e (.Slice none none (some (.UnaryOp .USub (.Constant (.int 1) k p1) p2)) p3) (.ref a) (.ref s4.heap.objs.size)) _ _ { s4 with heap := s4.heap.push { cls := .type "slice", data := .fields #[vl, vu, vs] } }
    refine tail_any (ops := [.ref a, .ref s4.heap.objs.size]) ht.isList.typeIs
      (PySem.slot_list_getitem.lookup) ?_ (by with_unfolding_all rfl)
    refine wpAny_getItem_list_slice ht.isList (Heap.IsSliceOf.new _ vl vu vs)
      pl pu ps (by decide) ?_ (by rw [List.size_toArray]; omega)
    rw [PySem.W.krv_pick]
    refine ⟨.ref _, _, I5.laid (t' := s4.toks) (o := .lst xs.reverse)
      (fun b ob q => Heap.get?_push_of_some _ q) (Nat.le_refl _) ?_, rfl, q _ (I5.hok.fresh (Nat.le_refl _))⟩
    exact ⟨by rw [List.length_reverse]; exact hz, _, 0, r.reverse, Heap.get?_push_size _ rfl⟩
  · subst ex
    cases r1
    obtain ⟨its, r, ht, hz⟩ := I5.tuple hx
    have hlen := r.length
    show wpAny _ X.A (subscriptTail e (.Slice none none (some (.UnaryOp .USub (.Constant (.int 1) k p1) p2)) p3) (.ref a) (.ref s4.heap.objs.size)) _ _ { s4 with heap := s4.heap.push { cls := .type "slice", data := .fields #[vl, vu, vs] } }
    refine tail_any (ops := [.ref a, .ref s4.heap.objs.size]) ht.typeIs
      (PyProof.Rows.slot_tuple_getitem.lookup) ?_ (by with_unfolding_all rfl)
    refine HT.getItem_tuple_back ht (Heap.IsSliceOf.new _ vl vu vs)
      pl pu ps ?_ (by rw [List.size_toArray]; omega)
    refine ⟨.ref _, _, I5.laid (t' := s4.toks) (o := .tup xs.reverse)
      (fun b ob q => Heap.get?_push_of_some _ q) (Nat.le_refl _) ?_, rfl, q _ (I5.hok.fresh (Nat.le_refl _))⟩
    exact ⟨by rw [List.length_reverse]; exact hz, _, r.reverse, ⟨_, Heap.get?_push_size _ rfl, rfl, _, rfl⟩⟩
def dRev : D → Option D
  | .list ds => some (.list ds.reverse)
  | .tuple ds => some (.tuple ds.reverse)
  | _ => none
theorem xrev {ma : ME} {k : Nat} {p1 p2 p3 : Pos} (hK : C.K = X.K) (he : PE X e (tE C W ma)) : PE X (.Subscript e (.Slice none none (some (.UnaryOp .USub (.Constant (.int 1) k p1) p2)) p3) pos) (tE C W (mUn dRev ma)) :=
  pe_imp (pe_revA he) fun σ H Q ⟨Gc, F, ps, R, q⟩ => seqE qE.mono R q fun x ps1 v F1 H1 s1 R1 r1 q1 => by
    have hf : ∀ p, H1 p = none → F1 p = none := fun p n => R1.fh.free n
    cases r1 with
    | lst h r => exact .inl ⟨_, _, rfl, SqL.of (R1.fh _ _ h), fun p n => q1 _ _ _ (same_alloc (hf p n)) (R1.alloc n) (.lst upd_same (r.reverse.mono (same_alloc (hf p n))))⟩
    | tup h r => exact .inr ⟨_, _, rfl, by rw [← hK]; exact sqT_mono R1.fh h, fun p n => q1 _ _ _ (same_alloc (hf p n)) (R1.alloc n) (.tup upd_same (r.reverse.mono (same_alloc (hf p n))))⟩
    | _ => exact q1.elim
/-! ### items -/
def rIxK : R2 := fun x y H Q => ∃ a v, x = .ref a ∧ DGet H a y (some v) ∧ Q v H
theorem ix_dict (hu : X.A.units + 1 < cLine) : IxR X rIxK := by
  intro value slice pins s σ H x y v u Q I rx ry ⟨a, z, ex, g, q⟩ hs
  subst ex
  cases rx
  exact tail_any (dict_typeIs I g) PySem.F.slot_dict_getitem.lookup (d_getItem hu I g ry fun w' s3 I3 rw' => ⟨z, H, I3, rw', q⟩) hs
def rIxAll (K : PySem.W.Frag) : R2 := fun x y H Q => rIx K x y H Q ∨ rIxK x y H Q
theorem ix_all (hu : X.A.units + 1 < cLine) : IxR X (rIxAll X.K) := ix_seq.or (ix_dict hu)
def dIx (x y : D) : Option D := match x with
  | .list ds => match y with
    | .int i => atI ds i
    | _ => none
  | .tuple ds => match y with
    | .int i => atI ds i
    | _ => none
  | .str z => match y with
    | .int i => if z.length ≤ sizeLine then (atI z.cps.toList i).map fun c => .str ⟨#[c]⟩ else none
    | _ => none
  | .dict kvs => if kvs.any (fun p => (toKey p.1).isNone) = true then none else (toKey y).bind fun k => dLook kvs k
  | _ => none
theorem RpA.atI {F : Hp} {xs : List V} {ds : List D} {i : Int} {d : D} (r : RpA C F xs ds) (h : L2.atI ds i = some d) : ∃ v, L2.atI xs i = some v ∧ Rp C F v d := by
  unfold L2.atI at h ⊢
  rw [r.length]
  cases e : ixN ds.length i with
  | none => rw [e] at h; cases h
  | some j =>
    rw [e] at h
    obtain ⟨v, h1, h2⟩ := r.get' (i := j) (d := d) h
    exact ⟨v, h1, h2⟩
theorem om_ix (hK : C.K = X.K) : OpM C dIx (rIxAll X.K) := by
  intro Gc F H ps σ v u x y z Q R rx ry hz q
  cases x with
  | list ds =>
    cases y with
    | int i =>
      cases rx with
      | lst h r =>
        cases ry
        obtain ⟨w, h1, h2⟩ := r.atI (i := i) (d := z) hz
        exact .inl (.inl ⟨_, _, i, w, rfl, rfl, SqL.of (R.fh _ _ h), h1, q w F H (Same.refl _) R h2⟩)
    | _ => cases hz
  | tuple ds =>
    cases y with
    | int i =>
      cases rx with
      | tup h r =>
        cases ry
        obtain ⟨w, h1, h2⟩ := r.atI (i := i) (d := z) hz
        exact .inl (.inr (.inl ⟨_, _, i, w, rfl, rfl, by rw [← hK]; exact sqT_mono R.fh h, h1, q w F H (Same.refl _) R h2⟩))
    | _ => cases hz
  | str t =>
    cases y with
    | int i =>
      cases rx; cases ry
      unfold dIx at hz
      dsimp only at hz
      by_cases hl : t.length ≤ sizeLine
      · rw [if_pos hl] at hz
        obtain ⟨c, h1, h2⟩ := Option.map_eq_some_iff.mp hz
        subst h2
        exact .inl (.inr (.inr ⟨t, i, c, rfl, rfl, hl, h1, q _ F H (Same.refl _) R (.str _)⟩))
      · rw [if_neg hl] at hz; cases hz
    | _ => cases hz
  | dict kvs =>
    unfold dIx at hz
    dsimp only at hz
    by_cases h : kvs.any (fun p => (toKey p.1).isNone) = true
    · rw [if_pos h] at hz; cases hz
    · rw [if_neg h] at hz
      obtain ⟨k, e1, e2⟩ := Option.bind_eq_some_iff.mp hz
      have ex := kD_of e1
      subst ex
      have ev := rp_kD ry
      subst ev
      obtain ⟨a, o, rfl, g, cs⟩ := dget_ok (k := k) R rx (by simpa using h)
      rcases cs with ⟨c1, c2⟩ | ⟨y, d, c1, c2, c3⟩
      · rw [c2] at e2; cases e2
      · rw [c2] at e2; cases e2
        subst c1
        exact .inr ⟨a, y, rfl, g, q y F H (Same.refl _) R c3⟩
  | _ => cases hz
theorem xix {ma mb : ME} (hu : X.A.units + 1 < cLine) (hK : C.K = X.K) (ha : PE X a (tE C W ma)) (hb : PE X b (tE C W mb)) (hs : PlainIx b) : PE X (.Subscript a b pos) (tE C W (mBin dIx ma mb)) :=
  pe_imp (pe_ix (ix_all hu) ha hb hs) fun _ _ _ h => bin_ok (om_ix hK) h
/-! ### parts -/
abbrev MO := Ps → Out (Option Int)
def tO (C : Mc) (W : WX) (m : MO) : TO := fun σ H Q => ∃ Gc F ps, Rel C Gc F H ps σ ∧ Po C W Gc σ (fun o ps' F => ∀ F' H', Same F F' → Rel C Gc F' H' ps' σ → Q o H') F (m ps)
theorem po_imp {e : Option Expr} {t t' : TO} (h : PO X e t) (k : ∀ σ H Q, t' σ H Q → t σ H Q) : PO X e t' := ⟨fun pins s σ H Q I q => h.run pins s σ H Q I (k σ H Q q)⟩
def mNoPart : MO := fun ps => .ok none ps
def dInt : D → Option Int
  | .int i => some i
  | _ => none
def mPart (a : ME) : MO := fun ps => (a ps).bind fun x ps1 => (Out.of (dInt x) ps1).bind fun i ps1 => .ok (some i) ps1
theorem xo_none : PO X none (tO C W mNoPart) := po_imp po_none fun σ H Q ⟨Gc, F, ps, R, q⟩ => q F H (Same.refl _) R
theorem xo_some {ma : ME} (h : PE X e (tE C W ma)) : PO X (some e) (tO C W (mPart ma)) := po_imp (po_some h) fun σ H Q ⟨Gc, F, ps, R, q⟩ =>
  seqE (P := fun o ps' F => ∀ F' H', Same F F' → Rel C Gc F' H' ps' σ → Q o H') (fun _ _ _ _ s h F' H' s' => h F' H' (s.trans s')) R q fun x ps1 v F1 H1 s1 R1 r1 q1 => by
    cases x with
    | int i => cases r1; exact ⟨i, rfl, q1 F1 H1 (Same.refl _) R1⟩
    | _ => exact q1.elim
theorem seqO {β : Type} {P : β → Ps → Hp → Prop} {Gc F H : Hp} {ps : Ps} {σ : St} {m : MO} {f : Option Int → Ps → Out β} {Q : Option Int → Hp → Prop} (hP : Mono P) (R : Rel C Gc F H ps σ) (h : Po C W Gc σ P F ((m ps).bind f))
    (k : ∀ d ps' F' H', Same F F' → Rel C Gc F' H' ps' σ → Po C W Gc σ P F' (f d ps') → Q d H') : tO C W m σ H Q := by
  refine ⟨Gc, F, ps, R, ?_⟩
  cases e : m ps with
  | ok d ps' => rw [e] at h; exact fun F' H' s R' => k d ps' F' H' s R' (h.mono hP s)
  | exc x ps' => rw [e] at h; exact h
  | bad => rw [e] at h; exact h
def cut {α : Type} (xs : List α) (lo hi : Option Int) : List α := (xs.drop (HT.sIx xs.length 0 lo)).take (HT.sIx xs.length xs.length hi - HT.sIx xs.length 0 lo)
theorem RpA.cut {F : Hp} {xs : List V} {ds : List D} (r : RpA C F xs ds) (lo hi : Option Int) : RpA C F (cutV xs lo hi) (MM.cut ds lo hi) := by
  unfold cutV MM.cut
  rw [r.length]
  exact (r.drop _).take _
def dSl (x : D) (lo hi : Option Int) : Option D := match x with
  | .list ds => some (.list (cut ds lo hi))
  | .tuple ds => some (.tuple (cut ds lo hi))
  | .str z => if z.length ≤ sizeLine then some (.str (cutS z lo hi)) else none
  | _ => none
def mSl (a : ME) (l h : MO) : ME := fun ps => (a ps).bind fun x ps1 => (l ps1).bind fun lo ps2 => (h ps2).bind fun hi ps3 => .of (dSl x lo hi) ps3
theorem xslice {ma : ME} {ml mh : MO} {lo hi : Option Expr} {p2 : Pos} (hK : C.K = X.K) (he : PE X e (tE C W ma)) (hl : PO X lo (tO C W ml)) (hh : PO X hi (tO C W mh)) : PE X (.Subscript e (.Slice lo hi none p2) pos) (tE C W (mSl ma ml mh)) :=
  pe_imp (pe_slice (sl_list.or (sl_tupA.or sl_str)) he hl hh) fun σ H Q ⟨Gc, F, ps, R, q⟩ => seqE qE.mono R q fun x ps1 v F1 H1 s1 R1 r1 q1 =>
    seqO qE.mono R1 q1 fun l ps2 F2 H2 s2 R2 q2 => seqO qE.mono R2 q2 fun h ps3 F3 H3 s3 R3 q3 => by
      have r := r1.mono (s2.trans s3)
      have hf : ∀ p, H3 p = none → F3 p = none := fun p n => R3.fh.free n
      cases r with
      | lst e r => exact .inl ⟨_, _, rfl, SqL.of (R3.fh _ _ e), fun p n => q3 _ _ _ (same_alloc (hf p n)) (R3.alloc n) (.lst upd_same ((r.cut l h).mono (same_alloc (hf p n))))⟩
      | tup e r =>
        rename_i a xs ds
        refine .inr (.inl ⟨_, xs, rfl, by rw [← hK]; exact sqT_mono R3.fh e, fun hw => ?_, fun _ p n => q3 _ _ _ (same_alloc (hf p n)) (R3.alloc n) (.tup upd_same ((r.cut l h).mono (same_alloc (hf p n))))⟩)
        have ew : MM.cut ds l h = ds := by
          rw [r.length] at hw
          unfold MM.cut
          rw [hw.1, hw.2, List.drop_zero, Nat.sub_zero, List.take_length]
        refine q3 _ F3 H3 (Same.refl _) R3 ?_
        rw [ew]
        exact .tup e r
      | str z =>
        by_cases hz : z.length ≤ sizeLine
        · have q4 : Po C W Gc σ (qE C Gc σ Q) F3 (Out.of (if z.length ≤ sizeLine then some (PyData.str (cutS z l h)) else none) ps3) := q3
          rw [if_pos hz] at q4
          exact .inr (.inr ⟨z, rfl, hz, q4 _ F3 H3 (Same.refl _) R3 (.str _)⟩)
        · have q4 : Po C W Gc σ (qE C Gc σ Q) F3 (Out.of (if z.length ≤ sizeLine then some (PyData.str (cutS z l h)) else none) ps3) := q3
          rw [if_neg hz] at q4
          exact q4.elim
      | _ => exact q3.elim
/-! ### calls of built-ins -/
def CallM (C : Mc) (f : List D → Option D) (r : List V → Hp → VK → Prop) : Prop := ∀ Gc F H ps σ vs ds z (Q : VK), Rel C Gc F H ps σ → RpA C F vs ds → f ds = some z →
  (∀ w F' H', Same F F' → Rel C Gc F' H' ps σ → Rp C F' w z → Q w H') → r vs H Q
def mB (f : List D → Option D) (a : MA) : ME := fun ps => (a ps).bind fun ds ps1 => .of (f ds) ps1
theorem b_ok {f : List D → Option D} {r : List V → Hp → VK → Prop} {ma : MA} (hm : CallM C f r) {σ : St} {H : Hp} {Q : VK} (h : tE C W (mB f ma) σ H Q) : tA C W ma σ H fun vs H1 => r vs H1 Q := by
  obtain ⟨Gc, F, ps, R, q⟩ := h
  refine seqA qE.mono R q fun ds ps1 vs F1 H1 s1 R1 r1 q1 => ?_
  cases z : f ds with
  | none => rw [z] at q1; exact q1.elim
  | some d =>
    rw [z] at q1
    exact hm Gc F1 H1 ps1 σ vs ds d Q R1 r1 z q1
theorem xcallB {x : Str} {p : Pos} {id : String} {f : List D → Option D} {r : List V → Hp → VK → Prop} {ma : MA} (hc : CallR X (.builtin id) r) (hm : CallM C f r) (hg : Gl X x) (hn : X.mg x = none) (hv : bootBuiltins x = some (.builtin id)) (ha : PA X (e :: es) (tA C W ma)) (hnn : x ≠ "__name__" := by decide) (hdb : (x == ("__debug__" : Str)) = false := by decide)
    (he : starEach (e :: es) X.env = (false, eval e X.env) :: starEach es X.env := by rfl) (hpl : (backTo pos (starEach es X.env)).any (·.1) = false := by rfl) : PE X (.Call (.Name x p) (e :: es) [] pos) (tE C W (mB f ma)) :=
  pe_imp (pe_callB hc hg hn hv ha hnn hdb he hpl) fun _ _ _ h => b_ok hm h
theorem xcallTy {x : Str} {p : Pos} {T : String} {f : List D → Option D} {r : List V → Hp → VK → Prop} {ma : MA} (hc : CallR X (.type T) r) (hm : CallM C f r) (hg : Gl X x) (hn : X.mg x = none) (hv : bootBuiltins x = some (.type T)) (ha : PA X (e :: es) (tA C W ma)) (hnn : x ≠ "__name__" := by decide) (hdb : (x == ("__debug__" : Str)) = false := by decide)
    (he : starEach (e :: es) X.env = (false, eval e X.env) :: starEach es X.env := by rfl) (hpl : (backTo pos (starEach es X.env)).any (·.1) = false := by rfl) : PE X (.Call (.Name x p) (e :: es) [] pos) (tE C W (mB f ma)) :=
  pe_imp (pe_callTy hc hg hn hv ha hnn hdb he hpl) fun _ _ _ h => b_ok hm h
def dLen : List D → Option D
  | [.list ds] => some (.int ds.length)
  | [.tuple ds] => some (.int ds.length)
  | [.str z] => if z.length ≤ sizeLine then some (.int z.length) else none
  | _ => none
theorem cm_len (hK : C.K = X.K) : CallM C dLen (fun xs H Q => ∃ x n, xs = [x] ∧ LenV X.K x H n ∧ Q (.int n) H) := by
  intro Gc F H ps σ vs ds z Q R r hz q
  match ds, r with
  | [.list ds], .cons (.lst h r1) .nil =>
    cases hz
    exact ⟨_, ds.length, rfl, .inl ⟨_, SqL.of (R.fh _ _ h), r1.length.symm⟩, q _ F H (Same.refl _) R (.int _)⟩
  | [.tuple ds], .cons (.tup h r1) .nil =>
    cases hz
    exact ⟨_, ds.length, rfl, .inr ⟨_, by rw [← hK]; exact sqT_mono R.fh h, r1.length.symm⟩, q _ F H (Same.refl _) R (.int _)⟩
  | [.str t], .cons (.str _) .nil =>
    unfold dLen at hz
    dsimp only at hz
    by_cases hl : t.length ≤ sizeLine
    · rw [if_pos hl] at hz
      cases hz
      exact ⟨_, t.length, rfl, ⟨hl, rfl⟩, q _ F H (Same.refl _) R (.int _)⟩
    · rw [if_neg hl] at hz; cases hz
def dList : List D → Option D
  | [.list ds] => some (.list ds)
  | [.tuple ds] => some (.list ds)
  | _ => none
theorem cm_list (hK : C.K = X.K) : CallM C dList (fun xs H Q => ∃ p ys, xs = [.ref p] ∧ (SqL X.K H p ys ∨ SqT X.K H p ys) ∧ ∀ l, H l = none → Q (.ref l) (upd H l (.lst ys))) := by
  intro Gc F H ps σ vs ds z Q R r hz q
  have hf : ∀ p, H p = none → F p = none := fun p n => R.fh.free n
  match ds, r with
  | [.list ds], .cons (.lst h r1) .nil =>
    cases hz
    exact ⟨_, _, rfl, .inl (SqL.of (R.fh _ _ h)), fun p n => q _ _ _ (same_alloc (hf p n)) (R.alloc n) (.lst upd_same (r1.mono (same_alloc (hf p n))))⟩
  | [.tuple ds], .cons (.tup h r1) .nil =>
    cases hz
    exact ⟨_, _, rfl, .inr (by rw [← hK]; exact sqT_mono R.fh h), fun p n => q _ _ _ (same_alloc (hf p n)) (R.alloc n) (.lst upd_same (r1.mono (same_alloc (hf p n))))⟩
def dTuple : List D → Option D
  | [.list ds] => some (.tuple ds)
  | [.tuple ds] => some (.tuple ds)
  | _ => none
theorem cm_tuple (hK : C.K = X.K) : CallM C dTuple (fun xs H Q => ∃ p ys, xs = [.ref p] ∧ ((SqL X.K H p ys ∧ ∀ l, H l = none → Q (.ref l) (upd H l (.tup ys))) ∨ (SqT X.K H p ys ∧ Q (.ref p) H))) := by
  intro Gc F H ps σ vs ds z Q R r hz q
  have hf : ∀ p, H p = none → F p = none := fun p n => R.fh.free n
  match ds, r with
  | [.list ds], .cons (.lst h r1) .nil =>
    cases hz
    exact ⟨_, _, rfl, .inl ⟨SqL.of (R.fh _ _ h), fun p n => q _ _ _ (same_alloc (hf p n)) (R.alloc n) (.tup upd_same (r1.mono (same_alloc (hf p n))))⟩⟩
  | [.tuple ds], .cons (.tup h r1) .nil =>
    cases hz
    exact ⟨_, _, rfl, .inr ⟨by rw [← hK]; exact sqT_mono R.fh h, q _ F H (Same.refl _) R (.tup h r1)⟩⟩
def dMax2 : List D → Option D
  | [.int i, .int j] => some (.int (if j > i then j else i))
  | _ => none
theorem cm_max2 : CallM C dMax2 (fun xs H Q => ∃ i j, xs = [.int i, .int j] ∧ Q (.int (if j > i then j else i)) H) := by
  intro Gc F H ps σ vs ds z Q R r hz q
  match ds, r with
  | [.int i, .int j], .cons (.int _) (.cons (.int _) .nil) =>
    cases hz
    exact ⟨i, j, rfl, q _ F H (Same.refl _) R (.int _)⟩
def blsOf : List D → Option (List Bool)
  | [] => some []
  | .bool i :: r => (blsOf r).map (i :: ·)
  | _ :: _ => none
theorem blsOf_eq {F : Hp} : ∀ {ds : List D} {bs : List Bool} {xs : List V}, blsOf ds = some bs → RpA C F xs ds → xs = bs.map V.bl
  | [], bs, _, h, .nil => by simp [blsOf] at h; subst h; rfl
  | .bool i :: r, bs, _, h, .cons (.bl _) t => by
    simp only [blsOf] at h
    obtain ⟨ms, e1, e2⟩ := Option.map_eq_some_iff.mp h
    subst e2
    rw [blsOf_eq e1 t]; rfl
  | .none :: _, _, _, h, _ => nomatch h
  | .int _ :: _, _, _, h, _ => nomatch h
  | .str _ :: _, _, _, h, _ => nomatch h
  | .list _ :: _, _, _, h, _ => nomatch h
  | .tuple _ :: _, _, _, h, _ => nomatch h
  | .dict _ :: _, _, _, h, _ => nomatch h
def dAll : List D → Option D
  | [.list ds] => (blsOf ds).map fun bs => .bool (bs.all id)
  | _ => none
theorem cm_all : CallM C dAll (rAll X.K) := by
  intro Gc F H ps σ vs ds z Q R r hz q
  match ds, r with
  | [.list ds], .cons (.lst h r1) .nil =>
    obtain ⟨bs, e1, e2⟩ := Option.map_eq_some_iff.mp hz
    subst e2
    have e := blsOf_eq e1 r1
    subst e
    exact ⟨_, bs, rfl, SqL.of (R.fh _ _ h), q _ F H (Same.refl _) R (.bl _)⟩
def dAny : List D → Option D
  | [.list ds] => (blsOf ds).map fun bs => .bool (bs.any id)
  | _ => none
theorem cm_any : CallM C dAny (rAny X.K) := by
  intro Gc F H ps σ vs ds z Q R r hz q
  match ds, r with
  | [.list ds], .cons (.lst h r1) .nil =>
    obtain ⟨bs, e1, e2⟩ := Option.map_eq_some_iff.mp hz
    subst e2
    have e := blsOf_eq e1 r1
    subst e
    exact ⟨_, bs, rfl, SqL.of (R.fh _ _ h), q _ F H (Same.refl _) R (.bl _)⟩
def dSum : List D → Option D
  | [.list ds] => (intsOf ds).map fun ns => .int ns.sum
  | _ => none
theorem cm_sum : CallM C dSum (rSum X.K) := by
  intro Gc F H ps σ vs ds z Q R r hz q
  match ds, r with
  | [.list ds], .cons (.lst h r1) .nil =>
    obtain ⟨ns, e1, e2⟩ := Option.map_eq_some_iff.mp hz
    subst e2
    have e0 := intsOf_eq e1
    subst e0
    have e := r1.ints
    subst e
    exact ⟨_, ns, rfl, SqL.of (R.fh _ _ h), q _ F H (Same.refl _) R (.int _)⟩
end
end MM
namespace MM
open PySem PySem.Spec PyProof.Rows L2
/-! ### what is walked -/
/-- the iterator J gives the data ds, one by one -/
structure ItR (C : Mc) (J : It) (F : Hp) (ds : List D) : Prop where
  go : ∀ i H, i < ds.length → Same F H → J.go i H
  stop : ∀ H, Same F H → J.stop ds.length H
  yld : ∀ i H x H' Gc F' ps σ d, Same F F' → Rel C Gc F' H ps σ → ds[i]? = some d → J.yld i H x H' → ∃ F'', Same F' F'' ∧ Rel C Gc F'' H' ps σ ∧ Rp C F'' x d
def qI (C : Mc) (Gc : Hp) (σ : St) (R : It → Hp → Prop) : List D → Ps → Hp → Prop := fun ds ps' F => ∀ J F' H', Same F F' → Rel C Gc F' H' ps' σ → ItR C J F' ds → R J H'
theorem qI.mono {C : Mc} {Gc : Hp} {σ : St} {R : It → Hp → Prop} : Mono (qI C Gc σ R) := fun _ _ _ _ s h v F' H' s' => h v F' H' (s.trans s')
def tI (C : Mc) (W : WX) (m : MA) : TI := fun σ H R => ∃ Gc F ps, Rel C Gc F H ps σ ∧ Po C W Gc σ (qI C Gc σ R) F (m ps)
theorem pi_imp {X : Cx} {tg e : Expr} {t t' : TI} (h : PI X tg e t) (k : ∀ σ H R, t' σ H R → t σ H R) : PI X tg e t' := ⟨fun pins s σ H R I q => h.run pins s σ H R I (k σ H R q)⟩
section
variable {C : Mc} {W : WX} {Gc F H : Hp} {ps : Ps} {σ : St} {β : Type} {P : β → Ps → Hp → Prop}
theorem seqI {m : MA} {f : List D → Ps → Out β} {Q : It → Hp → Prop} (hP : Mono P) (R : Rel C Gc F H ps σ) (h : Po C W Gc σ P F ((m ps).bind f))
    (k : ∀ d ps' v F' H', Same F F' → Rel C Gc F' H' ps' σ → ItR C v F' d → Po C W Gc σ P F' (f d ps') → Q v H') : tI C W m σ H Q := by
  refine ⟨Gc, F, ps, R, ?_⟩
  cases e : m ps with
  | ok d ps' => rw [e] at h; exact fun v F' H' s R' r => k d ps' v F' H' s R' r (h.mono hP s)
  | exc x ps' => rw [e] at h; exact h
  | bad => rw [e] at h; exact h
theorem seqIS {m : MA} {f : List MM.D → Ps → So} {D : Ends} {Q : It → Hp → Prop} (R : Rel C Gc F H ps σ) (h : PoS C W Gc D F ((m ps).bindS f))
    (k : ∀ d ps' v F' H', Same F F' → Rel C Gc F' H' ps' σ → ItR C v F' d → PoS C W Gc D F' (f d ps') → Q v H') : tI C W m σ H Q := by
  refine ⟨Gc, F, ps, R, ?_⟩
  cases e : m ps with
  | ok d ps' => rw [e] at h; exact fun v F' H' s R' r => k d ps' v F' H' s R' r (h.mono s)
  | exc x ps' => rw [e] at h; exact fun F' H' c d s => h σ F' H' c d s
  | bad => rw [e] at h; exact h
theorem itr_list {K : PySem.W.Frag} {a : Addr} {xs : List V} {ds : List D} (hK : C.K = K) (h : F a = some (.lst xs)) (r : RpA C F xs ds) : ItR C (Itl K a) F ds where
  go := fun i H hi s => ⟨xs, xs[i]'(by rw [r.length]; exact hi), SqL.of (s _ _ h), by simp⟩
  stop := fun H s => ⟨xs, SqL.of (s _ _ h), by rw [r.length]; exact Nat.le_refl _⟩
  yld := fun i H x H' Gc F' ps σ d s R hd ⟨e, y⟩ => by
    subst e
    obtain ⟨v, h1, h2⟩ := r.get' hd
    have e2 := y xs (SqL.of (R.fh _ _ (s _ _ h)))
    rw [h1] at e2
    cases e2
    exact ⟨F', Same.refl _, R, h2.mono s⟩
theorem itr_tup {K : PySem.W.Frag} {a : Addr} {xs : List V} {ds : List D} (hK : C.K = K) (h : F a = some (.tup xs)) (r : RpA C F xs ds) : ItR C (Itt K a) F ds where
  go := fun i H hi s => ⟨xs, xs[i]'(by rw [r.length]; exact hi), by rw [← hK]; exact sqT_mono s h, by simp⟩
  stop := fun H s => ⟨xs, by rw [← hK]; exact sqT_mono s h, by rw [r.length]; exact Nat.le_refl _⟩
  yld := fun i H x H' Gc F' ps σ d s R hd ⟨e, y⟩ => by
    subst e
    obtain ⟨v, h1, h2⟩ := r.get' hd
    have e2 := y xs (by rw [← hK]; exact sqT_mono (s.trans R.fh) h)
    rw [h1] at e2
    cases e2
    exact ⟨F', Same.refl _, R, h2.mono s⟩
def rangeD (lo : Int) (n : Nat) : List D := (List.range n).map fun i => PyData.int (lo + (i : Nat))
theorem itr_range {lo : Int} {n : Nat} : ItR C (Itr lo n) F (rangeD lo n) where
  go := fun i H hi s => show i < n by simpa [rangeD] using hi
  stop := fun H s => by simp [rangeD, Itr]
  yld := fun i H x H' Gc F' ps σ d s R hd ⟨e, y⟩ => by
    subst e; subst y
    refine ⟨F', Same.refl _, R, ?_⟩
    unfold rangeD at hd
    rw [List.getElem?_map] at hd
    by_cases hi : i < n
    · rw [List.getElem?_range hi] at hd
      cases hd
      exact .int _
    · rw [List.getElem?_eq_none (by simpa using hi)] at hd
      cases hd
end
section
variable {X : Cx} {C : Mc} {W : WX} {tg a b e : Expr} {es : List Expr} {pos p : Pos}
/-- a list or a tuple, by its value -/
def iSeq (K : PySem.W.Frag) (tl : TE) : TI := fun σ H R => tl σ H fun x H1 => (∃ a, x = .ref a ∧ (∃ xs, SqL K H1 a xs) ∧ R (Itl K a) H1) ∨ ∃ a, x = .ref a ∧ (∃ xs, SqT K H1 a xs) ∧ R (Itt K a) H1
theorem pi_seq {l : Expr} {tl : TE} (hl : PE X l tl) : PI X tg l (iSeq X.K tl) := by
  refine ⟨fun pins s σ H R I h => ?_⟩
  refine thn (hl.run pins s σ H _ I h) fun v s1 ⟨x, H1, I1, r1, q1⟩ => ?_
  rcases q1 with ⟨a, e, ⟨xs, hq⟩, q⟩ | ⟨a, e, ⟨xs, hq⟩, q⟩
  · subst e
    cases r1
    obtain ⟨its, rv, p, hz⟩ := I1.list hq
    refine wpAny_pyIter_list p.isList ?_
    refine ⟨s1.heap.objs.size, [s1.heap.objs.size], _, _, H1, rfl, I1.kept (t' := s1.toks) fun b o e => Heap.get?_push_of_some _ e,
      turn_list a _, ⟨_, Heap.get?_push_size _ rfl, rfl, rfl⟩, fun b hb => ?_, q⟩
    have e : b = s1.heap.objs.size := by simpa using hb
    subst e
    exact I1.fpOk (Nat.le_refl _) (I1.hok.fresh (Nat.le_refl _))
  · subst e
    cases r1
    obtain ⟨its, rv, p, hz⟩ := I1.tuple hq
    refine wpAny_pyIter_tuple (show s1.heap.IsTuple a its.toArray from p) ?_
    refine ⟨s1.heap.objs.size, [s1.heap.objs.size], _, _, H1, rfl, I1.kept (t' := s1.toks) fun b o e => Heap.get?_push_of_some _ e,
      turn_tuple a _, ⟨_, Heap.get?_push_size _ rfl, rfl, rfl⟩, fun b hb => ?_, q⟩
    have e : b = s1.heap.objs.size := by simpa using hb
    subst e
    exact I1.fpOk (Nat.le_refl _) (I1.hok.fresh (Nat.le_refl _))
def dSeq : D → Option (List D)
  | .list ds => some ds
  | .tuple ds => some ds
  | _ => none
def mIter (a : ME) : MA := fun ps => (a ps).bind fun x ps1 => .of (dSeq x) ps1
theorem xi_seq {ma : ME} (hK : C.K = X.K) (h : PE X e (tE C W ma)) : PI X tg e (tI C W (mIter ma)) :=
  pi_imp (pi_seq h) fun σ H Q ⟨Gc, F, ps, R, q⟩ => seqE qI.mono R q fun x ps1 v F1 H1 s1 R1 r1 q1 => by
    cases r1 with
    | lst h r => exact .inl ⟨_, rfl, ⟨_, SqL.of (R1.fh _ _ h)⟩, q1 _ F1 H1 (Same.refl _) R1 (itr_list hK h r)⟩
    | tup h r => exact .inr ⟨_, rfl, ⟨_, by rw [← hK]; exact sqT_mono R1.fh h⟩, q1 _ F1 H1 (Same.refl _) R1 (itr_tup hK h r)⟩
    | _ => exact q1.elim
def dRange1 : List D → Option (List D)
  | [.int j] => if decide (j.natAbs < 4611686018427387904) = true then some (rangeD 0 j.toNat) else none
  | _ => none
def dRange2 : List D → Option (List D)
  | [.int i, .int j] => if (decide (i.natAbs < 4611686018427387904) && decide (j.natAbs < 4611686018427387904)) = true then some (rangeD i (j - i).toNat) else none
  | _ => none
def mRange1 (a : MA) : MA := fun ps => (a ps).bind fun ds ps1 => .of (dRange1 ds) ps1
def mRange2 (a : MA) : MA := fun ps => (a ps).bind fun ds ps1 => .of (dRange2 ds) ps1
theorem xi_range1 {ma : MA} (hg : Gl X "range") (hm : X.mg "range" = none) (ha : PA X [a] (tA C W ma)) (hs : starEach [a] X.env = [(false, eval a X.env)] := by rfl) : PI X tg (.Call (.Name "range" p) [a] [] pos) (tI C W (mRange1 ma)) :=
  pi_imp (pi_range1 hg hm ha hs) fun σ H Q ⟨Gc, F, ps, R, q⟩ => seqA qI.mono R q fun ds ps1 vs F1 H1 s1 R1 r1 q1 => by
    match ds, r1 with
    | [.int j], .cons (.int _) .nil =>
      have q2 : Po C W Gc σ (qI C Gc σ Q) F1 (Out.of (if decide (j.natAbs < 4611686018427387904) = true then some (rangeD 0 j.toNat) else none) ps1) := q1
      by_cases h : decide (j.natAbs < 4611686018427387904) = true
      · rw [if_pos h] at q2
        have h := of_decide_eq_true h
        exact ⟨j, rfl, by omega, by omega, q2 _ F1 H1 (Same.refl _) R1 itr_range⟩
      · rw [if_neg h] at q2; exact q2.elim
    | [], _ => exact q1.elim
    | [.none], _ => exact q1.elim
    | [.bool _], _ => exact q1.elim
    | [.str _], _ => exact q1.elim
    | [.list _], _ => exact q1.elim
    | [.tuple _], _ => exact q1.elim
    | [.dict _], _ => exact q1.elim
    | .none :: _ :: _, _ => exact q1.elim
    | .bool _ :: _ :: _, _ => exact q1.elim
    | .int _ :: _ :: _, _ => exact q1.elim
    | .str _ :: _ :: _, _ => exact q1.elim
    | .list _ :: _ :: _, _ => exact q1.elim
    | .tuple _ :: _ :: _, _ => exact q1.elim
    | .dict _ :: _ :: _, _ => exact q1.elim
theorem range2_inv {ds : List D} {zs : List D} (h : dRange2 ds = some zs) : ∃ i j, ds = [.int i, .int j] ∧ (-(2 ^ 62) ≤ i ∧ i < 2 ^ 62 ∧ -(2 ^ 62) ≤ j ∧ j < 2 ^ 62) ∧ zs = rangeD i (j - i).toNat := by
  unfold dRange2 at h
  split at h
  · rename_i i j
    split at h
    · rename_i hc
      cases h
      rw [Bool.and_eq_true] at hc
      have h1 := of_decide_eq_true hc.1
      have h2 := of_decide_eq_true hc.2
      exact ⟨i, j, rfl, by omega, rfl⟩
    · cases h
  · cases h
theorem xi_range2 {ma : MA} (hg : Gl X "range") (hm : X.mg "range" = none) (ha : PA X [a, b] (tA C W ma)) (hs : starEach [a, b] X.env = [(false, eval a X.env), (false, eval b X.env)] := by rfl) (hs2 : starEach [b] X.env = [(false, eval b X.env)] := by rfl) :
    PI X tg (.Call (.Name "range" p) [a, b] [] pos) (tI C W (mRange2 ma)) :=
  pi_imp (pi_range2 hg hm ha hs hs2) fun σ H Q ⟨Gc, F, ps, R, q⟩ => seqA qI.mono R q fun ds ps1 vs F1 H1 s1 R1 r1 q1 => by
    cases z : dRange2 ds with
    | none => rw [z] at q1; exact q1.elim
    | some zs =>
      rw [z] at q1
      obtain ⟨i, j, e, h, e2⟩ := range2_inv z
      subst e; subst e2
      cases r1 with
      | cons x1 x2 =>
        cases x1
        cases x2 with
        | cons y1 y2 =>
          cases y1; cases y2
          exact ⟨i, j, rfl, h, q1 _ F1 H1 (Same.refl _) R1 itr_range⟩
/-! ### targets -/
abbrev MG := D → Ps → Option Ps
/-- a target, storing into the slots ts alone -/
def tG (C : Mc) (ts : List Nat) (m : MG) : TG := fun v σ H Q => ∃ Gc F ps d ps', Rel C Gc F H ps σ ∧ Rp C F v d ∧ m d ps = some ps' ∧
  ∀ σ' F' H', Same F F' → Rel C Gc F' H' ps' σ' → (∀ vs, (∀ t ∈ ts, t ∈ vs) → wipe σ' vs = wipe σ vs) → Q σ' H'
theorem pg_imp {t t' : TG} (h : PG X tg t) (k : ∀ v σ H Q, t' v σ H Q → t v σ H Q) : PG X tg t' := ⟨fun pins s σ H v u Q I r q => h.run pins s σ H v u Q I r (k v σ H Q q)⟩
theorem wipe_get (σ : St) : ∀ (vs : List Nat) (j : Nat), (wipe σ vs)[j]? = if j ∈ vs then (if j < σ.length then some none else none) else σ[j]?
  | [], j => by simp [wipe]
  | v :: vs, j => by
    unfold wipe
    by_cases h : v = j
    · subst h
      rw [List.getElem?_set]
      simp [wipe_length]
    · rw [List.getElem?_set_ne h, wipe_get σ vs j]
      have : (j ∈ v :: vs) ↔ j ∈ vs := by simp [Ne.symm h]
      simp only [this]
theorem wipe_set {σ : St} {i : Nat} {x : Option V} {vs : List Nat} (h : i ∈ vs) : wipe (σ.set i x) vs = wipe σ vs := by
  apply List.ext_getElem?
  intro j
  rw [wipe_get, wipe_get, List.length_set]
  by_cases hj : j ∈ vs
  · rw [if_pos hj, if_pos hj]
  · rw [if_neg hj, if_neg hj, List.getElem?_set_ne]
    rintro rfl
    exact hj h
def mGn (i : Nat) : MG := fun d ps => some (ps.setS i (.fz d))
theorem xg_name {i : Nat} {x : Str} (hN : X.N.Nodup) (hi : X.N[i]? = some x) (hx : Loc X.env.scope x) (hf : X.fn x = true ∨ X.env.scope.names.lookup x = some .local := by first | exact .inl rfl | exact .inr rfl | assumption) : PG X (.Name x pos) (tG C [i] (mGn i)) :=
  pg_imp (pg_name hN hi hx hf) fun v σ H Q ⟨Gc, F, ps, d, ps', R, r, e, q⟩ => by
    cases e
    exact q _ F H (Same.refl _) (R.set r) fun vs h => wipe_set (h i (by simp))
/-- a pair, into two names -/
def mGp (i j : Nat) : MG := fun d ps => match d with
  | .tuple [x, y] => some ((ps.setS i (.fz x)).setS j (.fz y))
  | _ => none
theorem xg_pair {i j : Nat} {x y : Str} {k : Nat} {p1 p2 : Pos} (hc : X.calm = true) (hK : C.K = X.K) (hN : X.N.Nodup) (hi : X.N[i]? = some x) (hj : X.N[j]? = some y) (hx : Loc X.env.scope x) (hy : Loc X.env.scope y)
    (h0 : (assignEach [.Name x p1, .Name y p2] X.env).map (·.2) = assign (.Name x p1) X.env :: (assignEach [.Name y p2] X.env).map (·.2) := by rfl) (h1 : (assignEach [.Name y p2] X.env).map (·.2) = assign (.Name y p2) X.env :: (assignEach [] X.env).map (·.2) := by rfl)
    (hn : (assignEach [.Name x p1, .Name y p2] X.env).length = 2 := by rfl) (hst : (assignEach [.Name x p1, .Name y p2] X.env).findIdx? (·.1) = none := by rfl)
    (hf : X.fn x = true ∨ X.env.scope.names.lookup x = some .local := by first | exact .inl rfl | exact .inr rfl | assumption) (hf2 : X.fn y = true ∨ X.env.scope.names.lookup y = some .local := by first | exact .inl rfl | exact .inr rfl | assumption) :
    PG X (.Tuple [.Name x p1, .Name y p2] k pos) (tG C [i, j] (mGp i j)) :=
  pg_imp (pg_tup (n := 2) hc (pgs_cons (pg_name hN hi hx hf) (pgs_cons (pg_name hN hj hy hf2) pgs_nil h1) h0) hn hst) fun v σ H Q ⟨Gc, F, ps, d, ps', R, r, e, q⟩ => by
    unfold mGp at e
    split at e
    · cases e
      cases r with
      | tup h r =>
        cases r with
        | cons r1 r =>
          cases r with
          | cons r2 r =>
            cases r
            refine ⟨_, _, rfl, by rw [← hK]; exact sqT_mono R.fh h, rfl, _, _, rfl, _, _, rfl, rfl, ?_⟩
            refine q _ F H (Same.refl _) ((R.set r1).set r2) fun vs hv => ?_
            rw [wipe_set (hv j (by simp)), wipe_set (hv i (by simp))]
    · cases e
/-! ### for -/
def mLoop (g : MG) (body : MS) : List D → MS
  | [], ps => .next ps
  | d :: ds, ps => match g d ps with
    | none => .bad
    | some ps1 => match body ps1 with
      | .next ps2 => mLoop g body ds ps2
      | .cont ps2 => mLoop g body ds ps2
      | .brk ps2 => .next ps2
      | y => y
def mFor (i : MA) (g : MG) (body : MS) : MS := fun ps => (i ps).bindS fun ds ps1 => mLoop g body ds ps1
theorem xs_for {iter : Expr} {body : List Stmt} {mi : MA} {g : MG} {mb : MS} {ts : List Nat} (hp : PassesOwn (model X.prog X.w) X.A X.env X.xe) (hc : X.calm = true) (hi : PI X tg iter (tI C W mi)) (hg : PG X tg (tG C ts g)) (hb : PSs X body (tS C W mb))
    (hs : ∀ x, foldedSetIterable iter X.env x = pure x := by intro _; rfl) :
    PS X (.For tg iter body [] pos) (tS C W (mFor mi g mb)) :=
  ps_imp (ps_for hp hc hi hg hb hs) fun D σ H ⟨Gc, F, ps, R, q⟩ => seqIS R q fun ds ps1 J F1 H1 s1 R1 it q1 => by
    refine ⟨fun i m σ H => m = ds.length - i ∧ i ≤ ds.length ∧ ∃ F' ps', Same F1 F' ∧ Rel C Gc F' H ps' σ ∧ PoS C W Gc D F' (mLoop g mb (ds.drop i) ps'), ⟨ds.length, by simp, Nat.zero_le _, F1, ps1, Same.refl _, R1, by rw [List.drop_zero]; exact q1⟩, ?_⟩
    rintro i m σ2 H2 ⟨rfl, hi, F2, ps2, s2, R2, q2⟩
    by_cases hlt : i < ds.length
    · refine .inr ⟨it.go i H2 hlt (s2.trans R2.fh), fun σ' H' => ∃ F' ps', Same F1 F' ∧ Rel C Gc F' H' ps' σ' ∧ PoS C W Gc D F' (mLoop g mb (ds.drop (i + 1)) ps'), fun σ' H' h => ⟨ds.length - (i + 1), by omega, rfl, hlt, h⟩, fun x H' y => ?_⟩
      obtain ⟨F3, s3, R3, r3⟩ := it.yld i H2 x H' Gc F2 ps2 σ2 ds[i] s2 R2 (by simp [hlt]) y
      rw [List.drop_eq_getElem_cons hlt] at q2
      have q3 : PoS C W Gc D F2 (match g ds[i] ps2 with
        | none => .bad
        | some ps1 => match mb ps1 with
          | .next ps2 => mLoop g mb (ds.drop (i + 1)) ps2
          | .cont ps2 => mLoop g mb (ds.drop (i + 1)) ps2
          | .brk ps2 => .next ps2
          | y => y) := q2
      cases eg : g ds[i] ps2 with
      | none => rw [eg] at q3; exact q3.elim
      | some ps3 =>
        rw [eg] at q3
        dsimp only at q3
        refine ⟨Gc, F3, ps2, ds[i], ps3, R3, r3, eg, fun σ' F4 H4 s4 R4 _ => ⟨Gc, F4, ps3, R4, ?_⟩⟩
        have q4 := q3.mono (s3.trans s4)
        have sa : Same F1 F4 := (s2.trans s3).trans s4
        cases z : mb ps3 with
        | next ps4 => rw [z] at q4; exact fun σ' F' H' s R' => ⟨F', ps4, sa.trans s, R', q4.mono s⟩
        | cont ps4 => rw [z] at q4; exact fun σ' F' H' s R' => ⟨F', ps4, sa.trans s, R', q4.mono s⟩
        | brk ps4 => rw [z] at q4; exact q4
        | ret d ps4 => rw [z] at q4; exact q4
        | exc e ps4 => rw [z] at q4; exact q4
        | bad => rw [z] at q4; exact q4
    · have e : i = ds.length := by omega
      subst e
      rw [List.drop_length] at q2
      exact .inl ⟨it.stop H2 (s2.trans R2.fh), q2 σ2 F2 H2 (Same.refl _) R2⟩
end
/-! ### new lists -/
/-- a new list of our own, in no slot yet -/
structure Loose (C : Mc) (Gc F H : Hp) (ps : Ps) (σ : St) (p : Addr) (o : HO) : Prop where
  h : H p = some o
  f : F p = none
  g : Gc p = none
  d : ∀ i, C.dk = some i → p ≠ i.a ∧ p ≠ i.c
  w : ∀ j, ¬ Own ps.sl σ j p
section
variable {C : Mc} {W : WX} {Gc F F' H H' : Hp} {ps : Ps} {σ : St} {p : Addr} {o : HO}
theorem Rel.own_there (R : Rel C Gc F H ps σ) {j : Nat} (w : Own ps.sl σ j p) : ∃ o, H p = some o := by
  obtain ⟨⟨s, e, m⟩, e2⟩ := w
  have z := R.sl j s e
  cases s with
  | no => cases m
  | fz d => cases m
  | ml ds => obtain ⟨q, xs, h1, h2, _⟩ := z; rw [e2] at h1; cases h1; exact ⟨_, h2⟩
  | md ds => obtain ⟨q, xs, h1, h2, _⟩ := z; rw [e2] at h1; cases h1; exact ⟨_, h2⟩
  | mt ds => obtain ⟨q, xs, h1, h2, _⟩ := z; rw [e2] at h1; cases h1; exact ⟨_, h2⟩
theorem Rel.loose (R : Rel C Gc F H ps σ) (n : H p = none) : Loose C Gc F (upd H p o) ps σ p o := by
  have n1 : ∀ i, C.dk = some i → p ≠ i.a := fun i hi z => by rw [z, (R.dk i hi).d] at n; cases n
  have n2 : ∀ i, C.dk = some i → p ≠ i.c := fun i hi z => by rw [z, (R.dk i hi).l] at n; cases n
  exact ⟨upd_same, R.fh.free n, R.gh.free n, fun i hi => ⟨n1 i hi, n2 i hi⟩, fun j w => by obtain ⟨u, e⟩ := R.own_there w; rw [n] at e; cases e⟩
/-- .. it is frozen -/
theorem Rel.frozen (R : Rel C Gc F H ps σ) (l : Loose C Gc F H ps σ p o) : Rel C Gc (upd F p o) H ps σ := by
  refine ⟨fun b u q => ?_, R.gh, fun b u q => ?_, R.len, fun j t q => ?_, R.ow, fun x hx => ?_, R.od⟩
  · by_cases hb : b = p
    · subst hb; rw [upd_same] at q; cases q; exact l.h
    · rw [upd_ne hb] at q; exact R.fh _ _ q
  · have hb : b ≠ p := fun z => by subst z; rw [l.g] at q; cases q
    rw [upd_ne hb]; exact R.dj b u q
  · have z := R.sl j t q
    cases t with
    | no => trivial
    | fz d => obtain ⟨x, h1, h2⟩ := z; exact ⟨x, h1, h2.mono (same_alloc l.f)⟩
    | ml ds =>
      obtain ⟨b, xs, h1, h2, h3, h4, h5⟩ := z
      have hb : b ≠ p := fun w => l.w j (own_at q rfl (by rw [h1, w]))
      exact ⟨b, xs, h1, h2, by rw [upd_ne hb]; exact h3, h4, h5.mono (same_alloc l.f)⟩
    | md ds =>
      obtain ⟨b, xs, h1, h2, h3, h4, h5, h6⟩ := z
      have hb : b ≠ p := fun w => l.w j (own_at q rfl (by rw [h1, w]))
      exact ⟨b, xs, h1, h2, by rw [upd_ne hb]; exact h3, h4, h5.mono (same_alloc l.f), h6⟩
    | mt ds =>
      obtain ⟨b, xs, h1, h2, h3, h4, h5, h6⟩ := z
      have hb : b ≠ p := fun w => l.w j (own_at q rfl (by rw [h1, w]))
      exact ⟨b, xs, h1, h2, by rw [upd_ne hb]; exact h3, h4, h5.mono (same_alloc l.f), h6⟩
  · have d := R.dk x hx
    exact ⟨d.d, d.l, by rw [upd_ne (l.d x hx).1.symm]; exact d.fa, by rw [upd_ne (l.d x hx).2.symm]; exact d.fc, d.ga, d.gc⟩
/-- .. it is stored into a slot, as our own -/
theorem Rel.setO {i : Nat} {s : Sl} (R : Rel C Gc F H ps σ) (l : Loose C Gc F H ps σ p o) (hs : SlR C Gc F H (some (some (.ref p))) s) : Rel C Gc F H (ps.setS i s) (σ.set i (some (.ref p))) := by
  have own : ∀ {j b}, Own (ps.sl.set i s) (σ.set i (some (.ref p))) j b → (j = i ∧ b = p) ∨ (j ≠ i ∧ Own ps.sl σ j b) := fun {j b} ⟨⟨t, e, m⟩, e2⟩ => by
    by_cases hj : j = i
    · subst hj
      rw [List.getElem?_set] at e2
      simp only [if_pos] at e2
      split at e2
      · cases e2; exact .inl ⟨rfl, rfl⟩
      · cases e2
    · rw [List.getElem?_set_ne (Ne.symm hj)] at e e2
      exact .inr ⟨hj, ⟨t, e, m⟩, e2⟩
  refine ⟨R.fh, R.gh, R.dj, by rw [Ps.setS, List.length_set, List.length_set]; exact R.len, fun j t q => ?_, fun j k b a c => ?_, R.dk, fun x hx j b a => ?_⟩
  · by_cases hj : j = i
    · subst hj
      have hl : j < ps.sl.length := by
        have := (List.getElem?_eq_some_iff.mp q).1
        rwa [Ps.setS, List.length_set] at this
      rw [Ps.setS, List.getElem?_set_self hl] at q
      cases q
      rw [List.getElem?_set_self (by rw [R.len]; exact hl)]
      exact hs
    · rw [Ps.setS, List.getElem?_set_ne (Ne.symm hj)] at q
      rw [List.getElem?_set_ne (Ne.symm hj)]
      exact R.sl j t q
  · rcases own a with ⟨e1, e2⟩ | ⟨n1, w1⟩
    · rcases own c with ⟨e3, _⟩ | ⟨n2, w2⟩
      · rw [e1, e3]
      · rw [e2] at w2; exact (l.w _ w2).elim
    · rcases own c with ⟨_, e4⟩ | ⟨n2, w2⟩
      · rw [e4] at w1; exact (l.w _ w1).elim
      · exact R.ow j k b w1 w2
  · rcases own a with ⟨_, e2⟩ | ⟨_, w1⟩
    · rw [e2]; exact l.d x hx
    · exact R.od x hx j b w1
/-- the content of our own slot changes -/
theorem Rel.mutate {i : Nat} {s s' : Sl} {o' : HO} (R : Rel C Gc F H ps σ) (e : ps.sl[i]? = some s) (m : s.mut = true) (e2 : σ[i]? = some (some (.ref p))) (fp : F p = none) (gp : Gc p = none) (m' : s'.mut = true)
    (hs : SlR C Gc F (upd H p o') (some (some (.ref p))) s') : Rel C Gc F (upd H p o') (ps.setS i s') σ := by
  have ow : Own ps.sl σ i p := own_at e m e2
  have dkn : ∀ x, C.dk = some x → p ≠ x.a ∧ p ≠ x.c := fun x hx => R.od x hx i p ow
  have hl : i < ps.sl.length := (List.getElem?_eq_some_iff.mp e).1
  have own : ∀ {j b}, Own (ps.sl.set i s') σ j b → Own ps.sl σ j b := fun {j b} ⟨⟨t, e', mt⟩, e3⟩ => by
    by_cases hj : j = i
    · subst hj; exact ⟨⟨s, e, m⟩, e3⟩
    · rw [List.getElem?_set_ne (Ne.symm hj)] at e'
      exact ⟨⟨t, e', mt⟩, e3⟩
  have kp : ∀ b o, b ≠ p → H b = some o → (upd H p o') b = some o := fun b o hb h => by rw [upd_ne hb]; exact h
  refine ⟨fun b u q => kp b u (fun z => by rw [z, fp] at q; cases q) (R.fh _ _ q), fun b u q => kp b u (fun z => by rw [z, gp] at q; cases q) (R.gh _ _ q), R.dj, by rw [Ps.setS, List.length_set]; exact R.len, fun j t q => ?_, fun j k b a c => R.ow j k b (own a) (own c), fun x hx => ?_, fun x hx j b a => R.od x hx j b (own a)⟩
  · by_cases hj : j = i
    · subst hj
      rw [Ps.setS, List.getElem?_set_self hl] at q
      cases q
      rw [e2]
      exact hs
    · rw [Ps.setS, List.getElem?_set_ne (Ne.symm hj)] at q
      have z := R.sl j t q
      cases t with
      | no => trivial
      | fz d => exact z
      | ml ds =>
        obtain ⟨b, xs, h1, h2, h3, h4, h5⟩ := z
        exact ⟨b, xs, h1, kp _ _ (fun w => hj (R.ow j i p (own_at q rfl (by rw [h1, w])) ow)) h2, h3, h4, h5⟩
      | md ds =>
        obtain ⟨b, xs, h1, h2, h3, h4, h5, h6⟩ := z
        exact ⟨b, xs, h1, kp _ _ (fun w => hj (R.ow j i p (own_at q rfl (by rw [h1, w])) ow)) h2, h3, h4, h5, h6⟩
      | mt ds =>
        obtain ⟨b, xs, h1, h2, h3, h4, h5, h6⟩ := z
        exact ⟨b, xs, h1, kp _ _ (fun w => hj (R.ow j i p (own_at q rfl (by rw [h1, w])) ow)) h2, h3, h4, h5, h6⟩
  · have d := R.dk x hx
    exact ⟨kp _ _ (dkn x hx).1.symm d.d, kp _ _ (dkn x hx).2.symm d.l, d.fa, d.fc, d.ga, d.gc⟩
end
end MM
namespace MM
open PySem PySem.Spec PyProof.Rows L2
abbrev MLs := Ps → Out (List D)
/-- a new list, told with its data -/
def qF (C : Mc) (Gc : Hp) (σ : St) (Q : VK) : List D → Ps → Hp → Prop := fun ds ps' F => ∀ p xs F' H', Same F F' → Rel C Gc F' H' ps' σ → Loose C Gc F' H' ps' σ p (.lst xs) → RpA C F' xs ds → Q (.ref p) H'
theorem qF.mono {C : Mc} {Gc : Hp} {σ : St} {Q : VK} : Mono (qF C Gc σ Q) := fun _ _ _ _ s h p xs F' H' s' => h p xs F' H' (s.trans s')
def tF (C : Mc) (W : WX) (m : MLs) : TE := fun σ H Q => ∃ Gc F ps, Rel C Gc F H ps σ ∧ Po C W Gc σ (qF C Gc σ Q) F (m ps)
section
variable {C : Mc} {W : WX} {Gc F F' H H' : Hp} {ps : Ps} {σ : St} {p : Addr} {o o' : HO}
theorem seqF {β : Type} {P : β → Ps → Hp → Prop} {m : MLs} {f : List D → Ps → Out β} {Q : VK} (hP : Mono P) (R : Rel C Gc F H ps σ) (h : Po C W Gc σ P F ((m ps).bind f))
    (k : ∀ d ps' p xs F' H', Same F F' → Rel C Gc F' H' ps' σ → Loose C Gc F' H' ps' σ p (.lst xs) → RpA C F' xs d → Po C W Gc σ P F' (f d ps') → Q (.ref p) H') : tF C W m σ H Q := by
  refine ⟨Gc, F, ps, R, ?_⟩
  cases e : m ps with
  | ok d ps' => rw [e] at h; exact fun p xs F' H' s R' l r => k d ps' p xs F' H' s R' l r (h.mono hP s)
  | exc x ps' => rw [e] at h; exact h
  | bad => rw [e] at h; exact h
theorem seqFS {m : MLs} {f : List MM.D → Ps → So} {D : Ends} {Q : VK} (R : Rel C Gc F H ps σ) (h : PoS C W Gc D F ((m ps).bindS f))
    (k : ∀ d ps' p xs F' H', Same F F' → Rel C Gc F' H' ps' σ → Loose C Gc F' H' ps' σ p (.lst xs) → RpA C F' xs d → PoS C W Gc D F' (f d ps') → Q (.ref p) H') : tF C W m σ H Q := by
  refine ⟨Gc, F, ps, R, ?_⟩
  cases e : m ps with
  | ok d ps' => rw [e] at h; exact fun p xs F' H' s R' l r => k d ps' p xs F' H' s R' l r (h.mono s)
  | exc x ps' => rw [e] at h; exact fun F' H' c d s => h σ F' H' c d s
  | bad => rw [e] at h; exact h
theorem Rel.inG (R : Rel C Gc F H ps σ) (l : Loose C Gc F H ps σ p o) : Rel C (upd Gc p o) F H ps σ := by
  refine ⟨R.fh, fun b u q => ?_, fun b u q => ?_, R.len, fun j t q => ?_, R.ow, fun x hx => ?_, R.od⟩
  · by_cases hb : b = p
    · subst hb; rw [upd_same] at q; cases q; exact l.h
    · rw [upd_ne hb] at q; exact R.gh _ _ q
  · by_cases hb : b = p
    · subst hb; exact l.f
    · rw [upd_ne hb] at q; exact R.dj _ _ q
  · have z := R.sl j t q
    cases t with
    | no => trivial
    | fz d => exact z
    | ml ds =>
      obtain ⟨b, xs, h1, h2, h3, h4, h5⟩ := z
      have hb : b ≠ p := fun w => l.w j (own_at q rfl (by rw [h1, w]))
      exact ⟨b, xs, h1, h2, h3, by rw [upd_ne hb]; exact h4, h5⟩
    | md ds =>
      obtain ⟨b, xs, h1, h2, h3, h4, h5, h6⟩ := z
      have hb : b ≠ p := fun w => l.w j (own_at q rfl (by rw [h1, w]))
      exact ⟨b, xs, h1, h2, h3, by rw [upd_ne hb]; exact h4, h5, h6⟩
    | mt ds =>
      obtain ⟨b, xs, h1, h2, h3, h4, h5, h6⟩ := z
      have hb : b ≠ p := fun w => l.w j (own_at q rfl (by rw [h1, w]))
      exact ⟨b, xs, h1, h2, h3, by rw [upd_ne hb]; exact h4, h5, h6⟩
  · have d := R.dk x hx
    exact ⟨d.d, d.l, d.fa, d.fc, by rw [upd_ne (l.d x hx).1.symm]; exact d.ga, by rw [upd_ne (l.d x hx).2.symm]; exact d.gc⟩
theorem Rel.outG (R : Rel C (upd Gc p o) F H ps σ) (g : Gc p = none) : Rel C Gc F H ps σ ∧ Loose C Gc F H ps σ p o := by
  have gp : ∀ b, (upd Gc p o) b = none → Gc b = none ∧ b ≠ p := fun b q => by
    have hb : b ≠ p := fun z => by subst z; rw [upd_same] at q; cases q
    rw [upd_ne hb] at q; exact ⟨q, hb⟩
  have up : ∀ b u, Gc b = some u → (upd Gc p o) b = some u := fun b u q => by
    rw [upd_ne (ne_of_none q g)]; exact q
  refine ⟨⟨R.fh, fun b u q => R.gh b u (up b u q), fun b u q => R.dj b u (up b u q), R.len, fun j t q => ?_, R.ow, fun x hx => ?_, R.od⟩, ⟨R.gh p o upd_same, R.dj p o upd_same, g, fun x hx => ?_, fun j w => ?_⟩⟩
  · have z := R.sl j t q
    cases t with
    | no => trivial
    | fz d => exact z
    | ml ds =>
      obtain ⟨b, xs, h1, h2, h3, h4, h5⟩ := z
      exact ⟨b, xs, h1, h2, h3, (gp b h4).1, h5⟩
    | md ds =>
      obtain ⟨b, xs, h1, h2, h3, h4, h5, h6⟩ := z
      exact ⟨b, xs, h1, h2, h3, (gp b h4).1, h5, h6⟩
    | mt ds =>
      obtain ⟨b, xs, h1, h2, h3, h4, h5, h6⟩ := z
      exact ⟨b, xs, h1, h2, h3, (gp b h4).1, h5, h6⟩
  · have d := R.dk x hx
    exact ⟨d.d, d.l, d.fa, d.fc, (gp _ d.ga).1, (gp _ d.gc).1⟩
  · have d := R.dk x hx
    exact ⟨(gp _ d.ga).2.symm, (gp _ d.gc).2.symm⟩
  · obtain ⟨⟨s, e, m⟩, e2⟩ := w
    have z := R.sl j s e
    cases s with
    | no => cases m
    | fz d => cases m
    | ml ds => obtain ⟨b, xs, h1, h2, h3, h4, _⟩ := z; rw [e2] at h1; cases h1; exact (gp _ h4).2 rfl
    | md ds => obtain ⟨b, xs, h1, h2, h3, h4, _⟩ := z; rw [e2] at h1; cases h1; exact (gp _ h4).2 rfl
    | mt ds => obtain ⟨b, xs, h1, h2, h3, h4, _⟩ := z; rw [e2] at h1; cases h1; exact (gp _ h4).2 rfl
/-- what is loose changes -/
theorem Rel.looseSet (R : Rel C Gc F H ps σ) (l : Loose C Gc F H ps σ p o) : Rel C Gc F (upd H p o') ps σ ∧ Loose C Gc F (upd H p o') ps σ p o' := by
  have kp : ∀ b u, b ≠ p → H b = some u → (upd H p o') b = some u := fun b u hb q => by rw [upd_ne hb]; exact q
  refine ⟨⟨fun b u q => kp b u (fun z => by rw [z, l.f] at q; cases q) (R.fh _ _ q), fun b u q => kp b u (fun z => by rw [z, l.g] at q; cases q) (R.gh _ _ q), R.dj, R.len, fun j t q => ?_, R.ow, fun x hx => ?_, R.od⟩, ⟨upd_same, l.f, l.g, l.d, l.w⟩⟩
  · have z := R.sl j t q
    cases t with
    | no => trivial
    | fz d => exact z
    | ml ds =>
      obtain ⟨b, xs, h1, h2, h3, h4, h5⟩ := z
      exact ⟨b, xs, h1, kp b _ (fun w => l.w j (own_at q rfl (by rw [h1, w]))) h2, h3, h4, h5⟩
    | md ds =>
      obtain ⟨b, xs, h1, h2, h3, h4, h5, h6⟩ := z
      exact ⟨b, xs, h1, kp b _ (fun w => l.w j (own_at q rfl (by rw [h1, w]))) h2, h3, h4, h5, h6⟩
    | mt ds =>
      obtain ⟨b, xs, h1, h2, h3, h4, h5, h6⟩ := z
      exact ⟨b, xs, h1, kp b _ (fun w => l.w j (own_at q rfl (by rw [h1, w]))) h2, h3, h4, h5, h6⟩
  · have d := R.dk x hx
    exact ⟨kp _ _ (l.d x hx).1.symm d.d, kp _ _ (l.d x hx).2.symm d.l, d.fa, d.fc, d.ga, d.gc⟩
/-- slots forgotten -/
def wipeS (sl : List Sl) : List Nat → List Sl
  | [] => sl
  | v :: vs => (wipeS sl vs).set v .no
def wipeP (ps : Ps) (vs : List Nat) : Ps := { ps with sl := wipeS ps.sl vs }
theorem wipeS_len (sl : List Sl) : ∀ vs : List Nat, (wipeS sl vs).length = sl.length
  | [] => rfl
  | v :: vs => by unfold wipeS; rw [List.length_set, wipeS_len sl vs]
theorem wipeS_get (sl : List Sl) : ∀ (vs : List Nat) (j : Nat), (wipeS sl vs)[j]? = if j ∈ vs then (if j < sl.length then some .no else none) else sl[j]?
  | [], j => by simp [wipeS]
  | v :: vs, j => by
    unfold wipeS
    by_cases h : v = j
    · subst h
      rw [List.getElem?_set]
      simp [wipeS_len]
    · rw [List.getElem?_set_ne h, wipeS_get sl vs j]
      have : (j ∈ v :: vs) ↔ j ∈ vs := by simp [Ne.symm h]
      simp only [this]
theorem Rel.wipeP (R : Rel C Gc F H ps σ) : ∀ vs : List Nat, Rel C Gc F H (wipeP ps vs) (wipe σ vs)
  | [] => R
  | v :: vs => (Rel.wipeP R vs).wipe1
theorem wipe_idem (σ : St) (vs : List Nat) : wipe (wipe σ vs) vs = wipe σ vs := by
  apply List.ext_getElem?
  intro j
  rw [wipe_get, wipe_length, wipe_get]
  by_cases h : j ∈ vs <;> simp [h]
/-- the outer names as they were -/
theorem Rel.unwipe {vs : List Nat} (R : Rel C Gc F H (MM.wipeP ps vs) (wipe σ vs)) : Rel C Gc F H (MM.wipeP ps vs) σ := by
  have hs : ∀ (j : Nat) (s : Sl), (MM.wipeP ps vs).sl[j]? = some s → s ≠ .no → (wipe σ vs)[j]? = σ[j]? := fun j s e n => by
    have e' : (wipeS ps.sl vs)[j]? = some s := e
    rw [wipeS_get] at e'
    by_cases h : j ∈ vs
    · rw [if_pos h] at e'
      split at e'
      · cases e'; exact (n rfl).elim
      · cases e'
    · rw [wipe_get, if_neg h]
  have own : ∀ {j b}, Own (MM.wipeP ps vs).sl σ j b → Own (MM.wipeP ps vs).sl (wipe σ vs) j b := fun {j b} ⟨⟨s, e, m⟩, e2⟩ =>
    ⟨⟨s, e, m⟩, by rw [hs j s e fun z => by subst z; cases m]; exact e2⟩
  refine ⟨R.fh, R.gh, R.dj, by rw [← R.len, wipe_length], fun j s e => ?_, fun j k b a c => R.ow j k b (own a) (own c), R.dk, fun x hx j b a => R.od x hx j b (own a)⟩
  have z := R.sl j s e
  cases s with
  | no => trivial
  | fz d => rw [← hs j _ e (fun q => by cases q)]; exact z
  | ml d => rw [← hs j _ e (fun q => by cases q)]; exact z
  | md d => rw [← hs j _ e (fun q => by cases q)]; exact z
  | mt d => rw [← hs j _ e (fun q => by cases q)]; exact z
end
/-! ### displays, comprehensions -/
def mFz (m : MLs) : ME := fun ps => (m ps).bind fun ds ps1 => .ok (.list ds) ps1
def mDisp (a : MA) : MLs := fun ps => (a ps).bind fun ds ps1 => if ds.length ≤ sizeLine then .ok ds ps1 else .bad
def mCl (g : MG) (tt : MT) (te : ME) (vs : List Nat) : List D → List D → Ps → Out (List D)
  | [], acc, ps => .ok acc ps
  | d :: ds, acc, ps => match g d ps with
    | none => .bad
    | some ps1 => match tt ps1 with
      | .ok b ps2 => if b = true then (match te ps2 with
          | .ok y ps3 => if acc.length < sizeLine then mCl g tt te vs ds (acc ++ [y]) (wipeP ps3 vs) else .bad
          | _ => .bad) else mCl g tt te vs ds acc (wipeP ps2 vs)
      | _ => .bad
def mComp (i : MA) (g : MG) (tt : MT) (te : ME) (vs : List Nat) : MLs := fun ps => (i ps).bind fun ds ps1 => (mCl g tt te vs ds [] (wipeP ps1 vs)).bind fun ys ps2 => .ok ys (wipeP ps2 vs)
def mYes : MT := fun ps => .ok true ps
section
variable {X : Cx} {C : Mc} {W : WX} {e : Expr} {es : List Expr} {pos : Pos}
theorem xfz {m : MLs} (h : PE X e (tF C W m)) : PE X e (tE C W (mFz m)) := pe_imp h fun σ H Q ⟨Gc, F, ps, R, q⟩ =>
  seqF qE.mono R q fun ds ps1 p xs F1 H1 s1 R1 l r q1 => q1 _ _ H1 (same_alloc l.f) (R1.frozen l) (.lst upd_same (r.mono (same_alloc l.f)))
theorem xdisp {ma : MA} (h : PA X es (tA C W ma)) : PE X (.List es pos) (tF C W (mDisp ma)) :=
  pe_imp (pe_lst h) fun σ H Q ⟨Gc, F, ps, R, q⟩ => seqA qF.mono R q fun xs ps1 vs F1 H1 s1 R1 r1 q1 => by
    by_cases hl : xs.length ≤ sizeLine
    · rw [if_pos hl] at q1
      exact ⟨by rw [r1.length]; exact hl, fun p n => q1 p vs F1 _ (Same.refl _) (R1.fresh n) (R1.loose n) r1⟩
    · rw [if_neg hl] at q1; exact q1.elim
theorem pts_imp {ifs : List Expr} {t t' : TT} (h : PTs X ifs t) (k : ∀ σ H Q, t' σ H Q → t σ H Q) : PTs X ifs t' := ⟨fun pins s σ H Q I q => h.run pins s σ H Q I (k σ H Q q)⟩
theorem xts_nil : PTs X [] (tT C W mYes) := pts_imp pts_nil fun σ H Q ⟨Gc, F, ps, R, q⟩ => q F H (Same.refl _) R
theorem xts_one {c : Expr} {m : MT} (h : PT X c (tT C W m)) : PTs X [c] (tT C W m) := pts_one h
/-- the reading of a comprehension -/
theorem comp_ok {mi : MA} {g : MG} {mt : MT} {me : ME} {vs ts : List Nat} (hv : ∀ t ∈ ts, t ∈ vs) {σ : St} {H : Hp} {Q : VK} (h : tF C W (mComp mi g mt me vs) σ H Q) :
    tLc (tI C W mi) (tG C ts g) (tT C W0 mt) (tE C W0 me) vs σ H Q := by
  obtain ⟨Gc, F, ps, R, q⟩ := h
  refine seqI qF.mono R q fun ds ps1 J F1 H1 s1 R1 it q1 => ?_
  intro Dl nD
  have gD : Gc Dl = none := R1.gh.free nD
  have R2 : Rel C (upd Gc Dl (.lst [])) F1 (upd H1 Dl (.lst [])) (wipeP ps1 vs) (wipe σ vs) :=
    ((R1.fresh nD).inG (R1.loose nD)).wipeP vs
  refine ⟨fun i m H => m = ds.length - i ∧ i ≤ ds.length ∧ ∃ F' ps' acc accV, Same F1 F' ∧ Rel C (upd Gc Dl (.lst accV)) F' H ps' (wipe σ vs) ∧ RpA C F' accV acc ∧
    Po C W Gc σ (qF C Gc σ Q) F' ((mCl g mt me vs (ds.drop i) acc ps').bind fun ys ps2 => .ok ys (wipeP ps2 vs)),
    ⟨ds.length, by simp, Nat.zero_le _, F1, _, [], [], Same.refl _, R2, .nil, by rw [List.drop_zero]; exact q1⟩, ?_⟩
  rintro i m H2 ⟨rfl, hi, F2, ps2, acc, accV, s2, R3, ra, q2⟩
  by_cases hlt : i < ds.length
  · refine .inr ⟨it.go i H2 hlt (s2.trans R3.fh), fun H' => ∃ F' ps' acc accV, Same F1 F' ∧ Rel C (upd Gc Dl (.lst accV)) F' H' ps' (wipe σ vs) ∧ RpA C F' accV acc ∧
        Po C W Gc σ (qF C Gc σ Q) F' ((mCl g mt me vs (ds.drop (i + 1)) acc ps').bind fun ys ps2 => .ok ys (wipeP ps2 vs)), fun H' h => ⟨ds.length - (i + 1), by omega, rfl, hlt, h⟩, fun x H' y => ?_⟩
    obtain ⟨F3, s3, R4, r4⟩ := it.yld i H2 x H' _ F2 ps2 _ ds[i] s2 R3 (by simp [hlt]) y
    rw [List.drop_eq_getElem_cons hlt] at q2
    unfold mCl at q2
    cases eg : g ds[i] ps2 with
    | none => rw [eg] at q2; exact q2.elim
    | some ps3 =>
      rw [eg] at q2
      dsimp only at q2
      refine ⟨_, F3, ps2, ds[i], ps3, R4, r4, eg, fun σ' F4 H4 s4 R5 hw => ⟨by rw [hw vs hv, wipe_idem], ?_⟩⟩
      have ew : wipe σ' vs = wipe σ vs := by rw [hw vs hv, wipe_idem]
      cases et : mt ps3 with
      | bad => rw [et] at q2; exact q2.elim
      | exc _ _ => rw [et] at q2; exact q2.elim
      | ok b ps4 =>
        rw [et] at q2
        dsimp only at q2
        refine ⟨_, F4, ps3, R5, ?_⟩
        rw [et]
        refine fun F5 H5 s5 R6 => ?_
        have sa : Same F1 F5 := ((s2.trans s3).trans s4).trans s5
        cases b with
        | false =>
          rw [if_neg (by decide)] at q2
          refine iteF ⟨F5, wipeP ps4 vs, acc, accV, sa, ?_, ra.mono ((s3.trans s4).trans s5), q2.mono qF.mono ((s3.trans s4).trans s5)⟩
          rw [← ew]
          exact R6.wipeP vs
        | true =>
          rw [if_pos rfl] at q2
          refine iteT ⟨_, F5, ps4, R6, ?_⟩
          cases ee : me ps4 with
          | bad => rw [ee] at q2; exact q2.elim
          | exc _ _ => rw [ee] at q2; exact q2.elim
          | ok y ps5 =>
            rw [ee] at q2
            dsimp only at q2
            refine fun v F6 H6 s6 R7 ry => ?_
            by_cases hl : acc.length < sizeLine
            · rw [if_pos hl] at q2
              have sb : Same F2 F6 := ((s3.trans s4).trans s5).trans s6
              refine ⟨accV, R7.gh _ _ upd_same, by rw [ra.length]; exact hl, F6, wipeP ps5 vs, acc ++ [y], accV ++ [v], sa.trans s6, ?_, (ra.mono sb).append (.cons ry .nil), q2.mono qF.mono sb⟩
              obtain ⟨R8, l8⟩ := R7.outG gD
              obtain ⟨R9, l9⟩ := R8.looseSet (o' := .lst (accV ++ [v])) l8
              rw [← ew]
              exact (R9.inG l9).wipeP vs
            · rw [if_neg hl] at q2; exact q2.elim
  · have e : i = ds.length := by omega
    subst e
    rw [List.drop_length] at q2
    refine .inl ⟨it.stop H2 (s2.trans R3.fh), ?_⟩
    have R4 : Rel C (upd Gc Dl (.lst accV)) F2 H2 (wipeP ps2 vs) σ := by
      have z := R3.wipeP vs
      rw [wipe_idem] at z
      exact z.unwipe
    obtain ⟨R5, l5⟩ := R4.outG gD
    exact q2 Dl accV F2 H2 (Same.refl _) R5 l5 ra
theorem xlc {elt tg iter : Expr} {ifs : List Expr} {scope : Scope} {own : List (Str × Nat)} {mi : MA} {g : MG} {mt : MT} {me : ME} {ts : List Nat} (hv : ∀ t ∈ ts, t ∈ own.map (·.2)) (hc : X.calm = true) (hN : X.N.Nodup) (hi : PI X tg iter (tI C W mi)) (ok : BlkOk X.N X.env.scope scope own)
    (hg : ∀ (s : Shared) (H : Hp) (A : Addr) (cl : List (Str × Addr)) (fp : List Addr), PG (X.blk s H scope (compEnvC scope cl A X.env) fp) tg (tG C ts g)) (ht : ∀ (s : Shared) (H : Hp) (A : Addr) (cl : List (Str × Addr)) (fp : List Addr), PTs (X.blk s H scope (compEnvC scope cl A X.env) fp) ifs (tT C W0 mt))
    (he : ∀ (s : Shared) (H : Hp) (A : Addr) (cl : List (Str × Addr)) (fp : List Addr), PE (X.blk s H scope (compEnvC scope cl A X.env) fp) elt (tE C W0 me)) (hs : ∀ x, foldedSetIterable iter X.env x = pure x := by intro _; rfl) :
    PE X (.ListComp elt [⟨tg, iter, ifs, 0⟩] scope pos) (tF C W (mComp mi g mt me (own.map (·.2)))) :=
  pe_imp (pe_lc hc hN hi ok hg ht he hs) fun _ _ _ h => comp_ok hv h
/-! ### storing -/
/-- name = what is new, to be our own -/
def mOwn (i : Nat) (m : MLs) : MS := fun ps => (m ps).bindS fun ds ps1 => .next (ps1.setS i (.ml ds))
theorem own_ok {i : Nat} {m : MLs} {te : TE} {D : Ends} {σ : St} {H : Hp} (k : ∀ Q, tF C W m σ H Q → te σ H Q) (h : tS C W (mOwn i m) D σ H) : tAsg te (gName i) D σ H := by
  obtain ⟨Gc, F, ps, R, q⟩ := h
  refine k _ (seqFS R q fun ds ps1 p xs F1 H1 s1 R1 l r q1 => ?_)
  exact q1 _ F1 H1 (Same.refl _) (R1.setO l ⟨p, xs, rfl, l.h, l.f, l.g, r⟩)
theorem xs_own {i : Nat} {x : Str} {m : MLs} {pos' : Pos} (hN : X.N.Nodup) (hi : X.N[i]? = some x) (hx : Loc X.env.scope x) (he : PE X e (tF C W m)) (hs : swapsWith e (some (.Name x pos')) pos.line X.env = pure false := by rfl) (hf : X.fn x = true ∨ X.env.scope.names.lookup x = some .local := by first | exact .inl rfl | exact .inr rfl | assumption) :
    PS X (.Assign [.Name x pos'] e pos) (tS C W (mOwn i m)) :=
  ps_imp (ps_set hN hi hx he hs hf) fun D σ H h => own_ok (fun _ z => z) h
theorem xs_ownLc {i : Nat} {y : Str} {py : Pos} {elt tg iter : Expr} {ifs : List Expr} {scope : Scope} {own : List (Str × Nat)} {spos : Pos} {mi : MA} {g : MG} {mt : MT} {me : ME} {ts : List Nat} (hv : ∀ t ∈ ts, t ∈ own.map (·.2)) (hc : X.calm = true) (hN : X.N.Nodup) (hy : X.N[i]? = some y) (hyl : X.env.scope.names.lookup y = some .local)
    (hsw : swapsWith (.ListComp elt [⟨tg, iter, ifs, 0⟩] scope pos) (some (.Name y py)) spos.line X.env = pure true) (hi : PI X tg iter (tI C W mi)) (ok : BlkOk X.N X.env.scope scope own)
    (hg : ∀ (s : Shared) (H : Hp) (A : Addr) (cl : List (Str × Addr)) (fp : List Addr), PG (X.blk s H scope (compEnvC scope cl A X.env) fp) tg (tG C ts g)) (ht : ∀ (s : Shared) (H : Hp) (A : Addr) (cl : List (Str × Addr)) (fp : List Addr), PTs (X.blk s H scope (compEnvC scope cl A X.env) fp) ifs (tT C W0 mt))
    (he : ∀ (s : Shared) (H : Hp) (A : Addr) (cl : List (Str × Addr)) (fp : List Addr), PE (X.blk s H scope (compEnvC scope cl A X.env) fp) elt (tE C W0 me)) (hs : ∀ x, foldedSetIterable iter X.env x = pure x := by intro _; rfl) :
    PS X (.Assign [.Name y py] (.ListComp elt [⟨tg, iter, ifs, 0⟩] scope pos) spos) (tS C W (mOwn i (mComp mi g mt me (own.map (·.2))))) :=
  ps_imp (ps_setLc hc hN hy hyl hsw hi ok hg ht he hs) fun D σ H h => own_ok (fun _ z => comp_ok hv z) h
end
end MM
namespace MM
open PySem PySem.Spec PyProof.Rows L2
/-! ### calls by keywords alone -/
def permL {α : Type} (π : List Nat) (xs : List α) : List α := π.filterMap fun i => xs[i]?
def pick {α : Type} (n m : Nat) (π : List Nat) (us ws : List α) : List α := if us.length = n ∧ ws.length = m then permL π (us ++ ws) else []
theorem perm_vals {vs : List V} {us : List Value} (r : Vals vs us) : ∀ π : List Nat, Vals (permL π vs) (permL π us)
  | [] => .nil
  | i :: π => by
    unfold permL
    cases e : vs[i]? with
    | none =>
      rw [List.filterMap_cons_none e, List.filterMap_cons_none (Vals.none_of r e)]
      exact perm_vals r π
    | some v =>
      obtain ⟨u, h1, h2⟩ := r.get e
      rw [List.filterMap_cons_some e, List.filterMap_cons_some h1]
      exact .cons h2 (perm_vals r π)
theorem perm_rpa {C : Mc} {F : Hp} {vs : List V} {us : List D} (r : RpA C F vs us) : ∀ π : List Nat, RpA C F (permL π vs) (permL π us)
  | [] => .nil
  | i :: π => by
    unfold permL
    cases e : vs[i]? with
    | none =>
      have e2 : us[i]? = none := by
        have := List.getElem?_eq_none_iff.mp e
        exact List.getElem?_eq_none_iff.mpr (by rw [← r.length]; exact this)
      rw [List.filterMap_cons_none e, List.filterMap_cons_none e2]
      exact perm_rpa r π
    | some v =>
      obtain ⟨u, h1, h2⟩ := r.get e
      rw [List.filterMap_cons_some e, List.filterMap_cons_some h1]
      exact .cons h2 (perm_rpa r π)
theorem pick_vals (n m : Nat) (π : List Nat) {vs zs : List V} {us ws : List Value} (r : Vals vs us) (q : Vals zs ws) : Vals (pick n m π vs zs) (pick n m π us ws) := by
  unfold pick
  rw [r.length, q.length]
  split
  · exact perm_vals (r.append q) π
  · exact .nil
theorem pick_rpa {C : Mc} {F : Hp} (n m : Nat) (π : List Nat) {vs zs : List V} {us ws : List D} (r : RpA C F vs us) (q : RpA C F zs ws) : RpA C F (pick n m π vs zs) (pick n m π us ws) := by
  unfold pick
  rw [r.length, q.length]
  split
  · exact perm_rpa (r.append q) π
  · exact .nil
theorem kb_mk {K : PySem.W.Frag} {fd : FuncData} {pn ks : List Str} {n m : Nat} {π : List Nat} (h0 : pn ≠ []) (h : ∀ (s : Shared) (us ws : List Value), us.length = n → ws.length = m → BindsTo s fd ⟨us, ks.zip ws⟩ (pn.zip (permL π (us ++ ws)))) :
    KBinds K fd pn ks (pick n m π) (pick n m π) where
  to := fun s us ws _ hl => by
    unfold pick at hl ⊢
    by_cases c : us.length = n ∧ ws.length = m
    · rw [if_pos c]; exact h s us ws c.1 c.2
    · rw [if_neg c] at hl
      exact absurd (List.eq_nil_of_length_eq_zero hl.symm) h0
  rel := fun r q => pick_vals n m π r q
section
variable {X : Cx} {C : Mc} {W : WX} {a b c e o : Expr} {es : List Expr} {kws : List Keyword} {pos p apos cpos : Pos} {k : Nat} {f : Addr} {fd : FuncData} {pn ks : List Str} {x : Str} {mf : MF}
theorem xk_nil : PK X [] (tA C W mNil) := ⟨fun pos pins s σ H Q I ⟨Gc, F, ps, R, q⟩ => pk_nil.run pos pins s σ H Q I (q [] F H (Same.refl _) R .nil)⟩
theorem xk_cons {nm : Option Str} {kpos : Pos} {ma : ME} {mr : MA} (ha : PE X e (tE C W ma)) (hr : PK X kws (tA C W mr)) : PK X (⟨nm, e, kpos⟩ :: kws) (tA C W (mCons ma mr)) :=
  ⟨fun pos pins s σ H Q I ⟨Gc, F, ps, R, q⟩ => (pk_cons ha hr).run pos pins s σ H Q I (seqE qA.mono R q fun x ps1 v F1 H1 s1 R1 r1 q1 =>
    seqA qA.mono R1 q1 fun xs ps2 vs F2 H2 s2 R2 r2 q2 => q2 (v :: vs) F2 H2 (Same.refl _) R2 (.cons (r1.mono s2) r2))⟩
/-- f(k = v, ..) -/
theorem pe_callK0 {CX : CXT} {sp : Sp} {E : XK} {tk : TA} {g : List Value → List Value → List Value} {gV : List V → List V → List V} (F : FnOk X.prog X.w X.K X.mg X.base CX k f fd pn sp) (hr : Room k X.A) (hg : Gl X x) (hm : X.mg x = some (.ref f)) (hk : PySem.W.keepIn X.K (.ref f) = true) (hb : KBinds X.K fd pn ks g gV) (hx : Passes CX X E)
    (hkw : PK X kws tk) (hall : (backToKw pos (keywordEach kws X.env)).all (·.1.isSome) = true := by rfl) (hks : (backToKw pos (keywordEach kws X.env)).filterMap (·.1) = ks := by rfl)
    (hdb : (x == ("__debug__" : Str)) = false := by decide) (hpl : ((backTo pos (starEach [] X.env)).any (·.1) || (backToKw pos (keywordEach kws X.env)).any (·.1.isNone)) = false := by rfl) :
    PE X (.Call (.Name x p) [] kws pos) (tCallK sp gV E tNil tk) := by
  refine ⟨fun pins s σ H Q I h => ?_⟩
  refine wpAny_Call_Name_kw (ld_glob I hg hm ?_ hdb)
  refine PySem.W.callWith_KW0 (h₀ := X.base) I.ok.mod.kin hk hall (thn (hkw.run pos pins s σ H _ I h) fun ws s2 ⟨zs, H2, I2, rz, q2⟩ => ⟨I2.kIn, ?_⟩) hpl
  rw [hks]
  exact run_fnk (us := []) F hr hb hx I2 .nil rz q2
theorem xcallK0 {n m : Nat} {π : List Nat} {mk : MA} (G : FnOk X.prog X.w X.K X.mg X.base CX0 k f fd pn (spM C mf)) (hr : Room k X.A) (hg : Gl X x) (hm : X.mg x = some (.ref f)) (hk : PySem.W.keepIn X.K (.ref f) = true) (hb : KBinds X.K fd pn ks (pick n m π) (pick n m π))
    (hkw : PK X kws (tA C W mk)) (hall : (backToKw pos (keywordEach kws X.env)).all (·.1.isSome) = true := by rfl) (hks : (backToKw pos (keywordEach kws X.env)).filterMap (·.1) = ks := by rfl)
    (hdb : (x == ("__debug__" : Str)) = false := by decide) (hpl : ((backTo pos (starEach [] X.env)).any (·.1) || (backToKw pos (keywordEach kws X.env)).any (·.1.isNone)) = false := by rfl) :
    PE X (.Call (.Name x p) [] kws pos) (tE C W (mCallK mf (pick n m π) mNil mk)) :=
  pe_imp (pe_callK0 (E := E0) G hr hg hm hk hb pass0 hkw hall hks hdb hpl) fun σ H Q ⟨Gc, F, ps, R, q⟩ => by
    show tA C W mk σ H fun zs H2 => spM C mf (pick n m π [] zs) H2 Q E0
    refine seqA qE.mono R q fun ds ps1 vs F1 H1 s1 R1 r1 q1 => ?_
    obtain ⟨Gc', R2, back⟩ := R1.enter
    refine ⟨Gc', F1, pick n m π [] ds, ps1.dk, R2, pick_rpa n m π .nil r1, ?_⟩
    cases z : mf (pick n m π [] ds) ps1.dk with
    | ret d k' => rw [z] at q1; exact fun v F' H' s R' r => q1 v F' H' s (back F' H' k' s R') r
    | exc e' k' => rw [z] at q1; exact q1.elim
    | bad => rw [z] at q1; exact q1.elim
theorem xcallK {n m : Nat} {π : List Nat} {ma mk : MA} (G : FnOk X.prog X.w X.K X.mg X.base CX0 k f fd pn (spM C mf)) (hr : Room k X.A) (hg : Gl X x) (hm : X.mg x = some (.ref f)) (hk : PySem.W.keepIn X.K (.ref f) = true) (hb : KBinds X.K fd pn ks (pick n m π) (pick n m π))
    (ha : PA X (e :: es) (tA C W ma)) (hkw : PK X kws (tA C W mk)) (hall : (backToKw pos (keywordEach kws X.env)).all (·.1.isSome) = true := by rfl) (hks : (backToKw pos (keywordEach kws X.env)).filterMap (·.1) = ks := by rfl)
    (hdb : (x == ("__debug__" : Str)) = false := by decide) (he : starEach (e :: es) X.env = (false, eval e X.env) :: starEach es X.env := by rfl)
    (hpl : ((backTo pos (starEach (e :: es) X.env)).any (·.1) || (backToKw pos (keywordEach kws X.env)).any (·.1.isNone)) = false := by rfl) :
    PE X (.Call (.Name x p) (e :: es) kws pos) (tE C W (mCallK mf (pick n m π) ma mk)) :=
  pe_imp (pe_callK (E := E0) G hr hg hm hk hb pass0 ha hkw hall hks hdb he hpl) fun σ H Q ⟨Gc, F, ps, R, q⟩ => by
    refine seqA qE.mono R q fun ds ps1 vs F1 H1 s1 R1 r1 q1 => ?_
    refine seqA qE.mono R1 q1 fun es ps2 ws F2 H2 s2 R2 r2 q2 => ?_
    obtain ⟨Gc', R3, back⟩ := R2.enter
    refine ⟨Gc', F2, pick n m π ds es, ps2.dk, R3, pick_rpa n m π (r1.mono s2) r2, ?_⟩
    cases z : mf (pick n m π ds es) ps2.dk with
    | ret d k' => rw [z] at q2; exact fun v F' H' s R' r => q2 v F' H' s (back F' H' k' s R') r
    | exc e' k' => rw [z] at q2; exact q2.elim
    | bad => rw [z] at q2; exact q2.elim
/-! ### chains -/
def mChain (f g : D → D → Option D) (a b c : ME) : ME := fun ps => (a ps).bind fun x ps1 => (b ps1).bind fun y ps2 => (Out.of ((f x y).bind dBool) ps2).bind fun k ps2 =>
  if k = true then (c ps2).bind fun z ps3 => .of (g y z) ps3 else .ok (.bool false) ps2
theorem chain_ok {f g : D → D → Option D} {r r' : R2} {ma mb mc : ME} (hm : OpM C f r) (hm' : OpM C g r') {σ : St} {H : Hp} {Q : VK} (h : tE C W (mChain f g ma mb mc) σ H Q) : tChain r r' (tE C W ma) (tE C W mb) (tE C W mc) σ H Q := by
  obtain ⟨Gc, F, ps, R, q⟩ := h
  refine seqE qE.mono R q fun x ps1 v F1 H1 s1 R1 r1 q1 => seqE qE.mono R1 q1 fun y ps2 u F2 H2 s2 R2 r2 q2 => ?_
  cases z : f x y with
  | none => rw [z] at q2; exact q2.elim
  | some d =>
    rw [z] at q2
    cases d with
    | bool k =>
      refine hm Gc F2 H2 ps2 σ v u x y _ _ R2 (r1.mono s2) r2 z fun w' F3 H3 s3 R3 r3 => ?_
      cases r3
      have q3 : Po C W Gc σ (qE C Gc σ Q) F2 (if k = true then (mc ps2).bind fun z ps3 => .of (g y z) ps3 else .ok (.bool false) ps2) := q2
      have q4 := q3.mono qE.mono s3
      refine ⟨k, rfl, ?_⟩
      cases k with
      | false =>
        rw [if_neg (by decide)] at q4
        exact iteF (q4 _ F3 H3 (Same.refl _) R3 (.bl _))
      | true =>
        rw [if_pos rfl] at q4
        refine iteT (seqE qE.mono R3 q4 fun z' ps4 w4 F4 H4 s4 R4 r4 q5 => ?_)
        cases z2 : g y z' with
        | none => rw [z2] at q5; exact q5.elim
        | some d2 =>
          rw [z2] at q5
          exact hm' Gc F4 H4 ps4 σ u w4 y z' d2 Q R4 (r2.mono (s3.trans s4)) r4 z2 q5
    | _ => exact q2.elim
theorem xchain {op op' : CmpOp} {f g : D → D → Option D} {r r' : R2} {ma mb mc : ME} (ho : OpR X (compareOp op) r) (hm : OpM C f r) (ho' : OpR X (compareOp op') r') (hm' : OpM C g r') (ha : PE X a (tE C W ma)) (hb : PE X b (tE C W mb)) (hc : PE X c (tE C W mc))
    (hk : lastMarks [op, op'] [b, c] = false := by with_unfolding_all rfl) : PE X (.Compare a [op, op'] [b, c] pos) (tE C W (mChain f g ma mb mc)) :=
  pe_imp (pe_chain ho ho' ha hb hc hk) fun _ _ _ h => chain_ok hm hm' h
theorem xt_chain {op op' : CmpOp} {f g : D → D → Option D} {r r' : R2} {ma mb mc : ME} (ho : OpR X (compareOp op) r) (hm : OpM C f r) (ho' : OpR X (compareOp op') r') (hm' : OpM C g r') (ha : PE X a (tE C W ma)) (hb : PE X b (tE C W mb)) (hc : PE X c (tE C W mc))
    (hk : lastMarks [op, op'] [b, c] = false := by with_unfolding_all rfl) : PT X (.Compare a [op, op'] [b, c] pos) (tT C W (mTst (mChain f g ma mb mc))) :=
  pt_imp (pt_chain ho ho' ha hb hc hk) fun _ _ _ h => chain_ok hm hm' (tst_ok h)
/-! ### our own lists and dicts -/
/-- what a slot holds, looked at -/
def peek (ps : Ps) (i : Nat) : Option D := match ps.sl[i]? with
  | some (.fz d) => some d
  | some (.ml ds) => some (.list ds)
  | some (.md kvs) => some (.dict (kvs.map fun p => (kD p.1, p.2)))
  | _ => none
theorem peek_ok {Gc F H : Hp} {ps : Ps} {σ : St} {i : Nat} {d : D} (R : Rel C Gc F H ps σ) (h : peek ps i = some d) : ∃ v F1 ps1, σ[i]? = some (some v) ∧ Same F F1 ∧ Rel C Gc F1 H ps1 σ ∧ Rp C F1 v d := by
  have e : ∃ ps1, mVar i ps = .ok d ps1 := by
    unfold peek at h
    unfold mVar
    cases z : ps.sl[i]? with
    | none => rw [z] at h; cases h
    | some s =>
      rw [z] at h
      cases s with
      | no => cases h
      | fz d => cases h; exact ⟨_, rfl⟩
      | ml ds => cases h; exact ⟨_, rfl⟩
      | md ds => cases h; exact ⟨_, rfl⟩
      | mt ds => cases h
  obtain ⟨ps1, e⟩ := e
  obtain ⟨v, F', h1, h2, h3, h4⟩ := var_ok R e
  exact ⟨v, F', ps1, h1, h2, h3, h4⟩
theorem peek_val {Gc F H : Hp} {ps : Ps} {σ : St} {i : Nat} {d : D} (R : Rel C Gc F H ps σ) (h : peek ps i = some d) : ∃ v, σ[i]? = some (some v) := by
  obtain ⟨v, _, _, h1, _⟩ := peek_ok R h
  exact ⟨v, h1⟩
/-- an operator that tells a truth and changes nothing -/
def OpB (C : Mc) (f : D → D → Option Bool) (r : R2) : Prop := ∀ Gc F H ps σ v u x y b (Q : VK), Rel C Gc F H ps σ → Rp C F v x → Rp C F u y → f x y = some b → Q (.bl b) H → r v u H Q
def bEq (x y : D) : Option Bool := if (SeqAt.shaped x && SeqAt.shaped y) = true then some (PyData.eqv x y) else none
def bNe (x y : D) : Option Bool := if (SeqAt.shaped x && SeqAt.shaped y) = true then some (!PyData.eqv x y) else none
theorem ob_eq (hK : C.K = X.K) : OpB C bEq (rEqD X.K) := by
  intro Gc F H ps σ v u x y z Q R rx ry hz q
  unfold bEq at hz
  split at hz
  · rename_i h
    cases hz
    rw [Bool.and_eq_true] at h
    rw [← hK]
    exact ⟨x, y, rx.dp R.fh (lay_of h.1), ry.dp R.fh (lay_of h.2), h.1, h.2, q⟩
  · cases hz
theorem ob_ne (hK : C.K = X.K) : OpB C bNe (rNeD X.K) := by
  intro Gc F H ps σ v u x y z Q R rx ry hz q
  unfold bNe at hz
  split at hz
  · rename_i h
    cases hz
    rw [Bool.and_eq_true] at h
    rw [← hK]
    exact ⟨x, y, rx.dp R.fh (lay_of h.1), ry.dp R.fh (lay_of h.2), h.1, h.2, q⟩
  · cases hz
theorem ob_in (hK : C.K = X.K) : OpB C dInB (rInAll X.K) := fun Gc F H ps σ v u x y b Q R rx ry hz q => (in_any hK R rx ry hz fun _ _ _ _ => trivial).1 q
def bNotIn (x y : D) : Option Bool := (dInB x y).map (!·)
theorem ob_notIn (hK : C.K = X.K) : OpB C bNotIn (rNotInAll X.K) := fun Gc F H ps σ v u x y b Q R rx ry hz q => by
  obtain ⟨b', e1, e2⟩ := Option.map_eq_some_iff.mp hz
  subst e2
  exact (in_any hK R rx ry e1 fun _ _ _ _ => trivial).2 q
/-- left a name that is looked at -/
def mBL (f : D → D → Option Bool) (i : Nat) (b : ME) : ME := fun ps => match peek ps i with
  | none => .bad
  | some _ => (b ps).bind fun y ps1 => (Out.of ((peek ps1 i).bind fun x => f x y) ps1).bind fun k ps1 => .ok (.bool k) ps1
/-- right a name that is looked at -/
def mBR (f : D → D → Option Bool) (a : ME) (i : Nat) : ME := fun ps => (a ps).bind fun x ps1 => (Out.of ((peek ps1 i).bind fun y => f x y) ps1).bind fun k ps1 => .ok (.bool k) ps1
theorem bl_ok {f : D → D → Option Bool} {r : R2} {i : Nat} {mb : ME} (hm : OpB C f r) {σ : St} {H : Hp} {Q : VK} (h : tE C W (mBL f i mb) σ H Q) : tOp r (tVar i) (tE C W mb) σ H Q := by
  obtain ⟨Gc, F, ps, R, q⟩ := h
  unfold mBL at q
  cases z : peek ps i with
  | none => rw [z] at q; exact q.elim
  | some d0 =>
    rw [z] at q
    obtain ⟨v, hv⟩ := peek_val R z
    refine ⟨v, hv, seqE qE.mono R q fun y ps1 u F1 H1 s1 R1 r1 q1 => ?_⟩
    cases z2 : (peek ps1 i).bind fun x => f x y with
    | none => rw [z2] at q1; exact q1.elim
    | some b =>
      rw [z2] at q1
      obtain ⟨d, e1, e2⟩ := Option.bind_eq_some_iff.mp z2
      obtain ⟨v', F2, ps2, h1, h2, h3, h4⟩ := peek_ok R1 e1
      rw [hv] at h1
      cases h1
      exact hm Gc F2 H1 ps2 σ v u d y b Q h3 h4 (r1.mono h2) e2 (q1 _ F1 H1 (Same.refl _) R1 (.bl _))
theorem br_ok {f : D → D → Option Bool} {r : R2} {i : Nat} {ma : ME} (hm : OpB C f r) {σ : St} {H : Hp} {Q : VK} (h : tE C W (mBR f ma i) σ H Q) : tOp r (tE C W ma) (tVar i) σ H Q := by
  obtain ⟨Gc, F, ps, R, q⟩ := h
  refine seqE qE.mono R q fun x ps1 v F1 H1 s1 R1 r1 q1 => ?_
  cases z2 : (peek ps1 i).bind fun y => f x y with
  | none => rw [z2] at q1; exact q1.elim
  | some b =>
    rw [z2] at q1
    obtain ⟨d, e1, e2⟩ := Option.bind_eq_some_iff.mp z2
    obtain ⟨u, F2, ps2, h1, h2, h3, h4⟩ := peek_ok R1 e1
    exact ⟨u, h1, hm Gc F2 H1 ps2 σ v u x d b Q h3 (r1.mono h2) h4 e2 (q1 _ F1 H1 (Same.refl _) R1 (.bl _))⟩
theorem xcmpL {op : CmpOp} {f : D → D → Option Bool} {r : R2} {i : Nat} {mb : ME} (ho : OpR X (compareOp op) r) (hm : OpB C f r) (ha : PE X a (tVar i)) (hb : PE X b (tE C W mb)) (hk : behindInMarks op b = false := by rfl) : PE X (.Compare a [op] [b] pos) (tE C W (mBL f i mb)) :=
  pe_imp (pe_cmpR ho ha hb hk) fun _ _ _ h => bl_ok hm h
theorem xt_cmpL {op : CmpOp} {f : D → D → Option Bool} {r : R2} {i : Nat} {mb : ME} (ho : OpR X (compareOp op) r) (hm : OpB C f r) (ha : PE X a (tVar i)) (hb : PE X b (tE C W mb)) (hk : behindInMarks op b = false := by rfl) : PT X (.Compare a [op] [b] pos) (tT C W (mTst (mBL f i mb))) :=
  pt_imp (pt_cmpR ho ha hb hk) fun _ _ _ h => bl_ok hm (tst_ok h)
theorem xcmpR {op : CmpOp} {f : D → D → Option Bool} {r : R2} {i : Nat} {ma : ME} (ho : OpR X (compareOp op) r) (hm : OpB C f r) (ha : PE X a (tE C W ma)) (hb : PE X b (tVar i)) (hk : behindInMarks op b = false := by rfl) : PE X (.Compare a [op] [b] pos) (tE C W (mBR f ma i)) :=
  pe_imp (pe_cmpR ho ha hb hk) fun _ _ _ h => br_ok hm h
theorem xt_cmpR {op : CmpOp} {f : D → D → Option Bool} {r : R2} {i : Nat} {ma : ME} (ho : OpR X (compareOp op) r) (hm : OpB C f r) (ha : PE X a (tE C W ma)) (hb : PE X b (tVar i)) (hk : behindInMarks op b = false := by rfl) : PT X (.Compare a [op] [b] pos) (tT C W (mTst (mBR f ma i))) :=
  pt_imp (pt_cmpR ho ha hb hk) fun _ _ _ h => br_ok hm (tst_ok h)
/-- x[i], x a name that is looked at -/
def mIxV (i : Nat) (b : ME) : ME := fun ps => match peek ps i with
  | none => .bad
  | some _ => (b ps).bind fun y ps1 => .of ((peek ps1 i).bind fun x => dIx x y) ps1
/-- x[y] where the heap is looked at as it stands -/
theorem ix_core (hK : C.K = X.K) {F H : Hp} {v u : V} {x y z : D} {Q : VK} (fh : Same F H) (rx : Rp C F v x) (ru : Rp C F u y) (hz : dIx x y = some z) (q : ∀ w, Rp C F w z → Q w H) : rIxAll X.K v u H Q := by
  cases x with
  | list ds =>
    cases y with
    | int i =>
      cases rx with
      | lst h r =>
        cases ru
        obtain ⟨w, h1, h2⟩ := r.atI (i := i) (d := z) hz
        exact .inl (.inl ⟨_, _, i, w, rfl, rfl, SqL.of (fh _ _ h), h1, q w h2⟩)
    | _ => cases hz
  | tuple ds =>
    cases y with
    | int i =>
      cases rx with
      | tup h r =>
        cases ru
        obtain ⟨w, h1, h2⟩ := r.atI (i := i) (d := z) hz
        exact .inl (.inr (.inl ⟨_, _, i, w, rfl, rfl, by rw [← hK]; exact sqT_mono fh h, h1, q w h2⟩))
    | _ => cases hz
  | str t =>
    cases y with
    | int i =>
      cases rx; cases ru
      unfold dIx at hz
      dsimp only at hz
      split at hz
      · rename_i hl
        obtain ⟨c, h1, h2⟩ := Option.map_eq_some_iff.mp hz
        subst h2
        exact .inl (.inr (.inr ⟨t, i, c, rfl, rfl, hl, h1, q _ (.str _)⟩))
      · cases hz
    | _ => cases hz
  | dict kvs =>
    unfold dIx at hz
    dsimp only at hz
    split at hz
    · cases hz
    · rename_i h
      obtain ⟨k, e1, e2⟩ := Option.bind_eq_some_iff.mp hz
      have ex := kD_of e1
      subst ex
      have ev := rp_kD ru
      subst ev
      cases rx with
      | dct h1 h2 h3 =>
        rcases look_find h2 h3 k with ⟨c1, c2⟩ | ⟨y, d, c1, c2, c3⟩
        · rw [c2] at e2; cases e2
        · rw [c2] at e2; cases e2
          exact .inr ⟨_, y, rfl, by rw [← c1]; exact DGet.k (fh _ _ h1), q y c3⟩
      | dcT h1 h2 h3 h4 => exact (h (tk_any h2 h4)).elim
      | dz _ _ _ => simp [toKey] at h
      | nt _ _ _ => simp [toKey] at h
      | deck h1 => simp [toKey] at h
  | _ => cases hz
theorem ix_peek (hK : C.K = X.K) {Gc F H : Hp} {ps : Ps} {σ : St} {i : Nat} {v u : V} {y z : D} {Q : VK} (R : Rel C Gc F H ps σ) (hv : σ[i]? = some (some v)) (ru : Rp C F u y) (h : ((peek ps i).bind fun x => dIx x y) = some z)
    (q : ∀ w, Rp C F w z → Q w H) : rIxAll X.K v u H Q := by
  obtain ⟨d, e1, e2⟩ := Option.bind_eq_some_iff.mp h
  unfold peek at e1
  cases es : ps.sl[i]? with
  | none => rw [es] at e1; cases e1
  | some s =>
    rw [es] at e1
    have zz := R.sl i s es
    rw [hv] at zz
    cases s with
    | no => cases e1
    | fz d' =>
      cases e1
      obtain ⟨x, h1, h2⟩ := zz
      cases h1
      exact ix_core hK R.fh h2 ru e2 q
    | ml ds =>
      cases e1
      obtain ⟨p, xs, h1, h2, h3, h4, h5⟩ := zz
      cases h1
      cases y with
      | int j =>
        cases ru
        obtain ⟨w, g1, g2⟩ := h5.atI (i := j) (d := z) e2
        exact .inl (.inl ⟨_, _, j, w, rfl, rfl, SqL.of h2, g1, q w g2⟩)
      | _ => cases e2
    | md ds =>
      cases e1
      obtain ⟨p, xs, h1, h2, h3, h4, h5, h6⟩ := zz
      cases h1
      unfold dIx at e2
      dsimp only at e2
      split at e2
      · cases e2
      · obtain ⟨k, e1, e3⟩ := Option.bind_eq_some_iff.mp e2
        have ex := kD_of e1
        subst ex
        have ev := rp_kD ru
        subst ev
        have k1 : (ds.map fun p => (kD p.1, p.2)).map (·.2) = ds.map (·.2) := by rw [List.map_map]; rfl
        have k2 : (ds.map fun p => (kD p.1, p.2)).map (·.1) = xs.map fun p => kD p.1 := by
          have q2 : (ds.map (·.1)).map kD = (xs.map (·.1)).map kD := by rw [h6]
          rw [List.map_map, List.map_map] at q2
          rw [List.map_map]
          exact q2
        rcases look_find (by rw [k1]; exact h5) k2 k with ⟨c1, c2⟩ | ⟨y, d, c1, c2, c3⟩
        · rw [c2] at e3; cases e3
        · rw [c2] at e3; cases e3
          exact .inr ⟨_, y, rfl, by rw [← c1]; exact DGet.k h2, q y c3⟩
    | mt ds => cases e1
theorem xixV {i : Nat} {mb : ME} (hu : X.A.units + 1 < cLine) (hK : C.K = X.K) (ha : PE X a (tVar i)) (hb : PE X b (tE C W mb)) (hs : PlainIx b) : PE X (.Subscript a b pos) (tE C W (mIxV i mb)) :=
  pe_imp (pe_ix (ix_all hu) ha hb hs) fun σ H Q ⟨Gc, F, ps, R, q⟩ => by
    unfold mIxV at q
    cases z : peek ps i with
    | none => rw [z] at q; exact q.elim
    | some d0 =>
      rw [z] at q
      obtain ⟨v, hv⟩ := peek_val R z
      refine ⟨v, hv, seqE qE.mono R q fun y ps1 u F1 H1 s1 R1 r1 q1 => ?_⟩
      cases z2 : (peek ps1 i).bind fun x => dIx x y with
      | none => rw [z2] at q1; exact q1.elim
      | some d =>
        rw [z2] at q1
        exact ix_peek hK R1 hv r1 z2 fun w rw' => q1 w F1 H1 (Same.refl _) R1 rw'
/-- len of a name that is looked at -/
def mLenV (i : Nat) : ME := fun ps => .of ((peek ps i).bind fun x => dLen [x]) ps
theorem xlenV {i : Nat} (hK : C.K = X.K) (hg : Gl X "len") (hn : X.mg "len" = none) (ha : PE X e (tVar i)) (he : starEach (e :: []) X.env = (false, eval e X.env) :: starEach [] X.env := by rfl) (hpl : (backTo pos (starEach [] X.env)).any (·.1) = false := by rfl) :
    PE X (.Call (.Name "len" p) [e] [] pos) (tE C W (mLenV i)) :=
  pe_imp (pe_callB call_len hg hn PySem.boot_len (pa_cons ha pa_nil he) (by decide) (by decide) he hpl) fun σ H Q ⟨Gc, F, ps, R, q⟩ => by
    unfold mLenV at q
    cases z : (peek ps i).bind fun x => dLen [x] with
    | none => rw [z] at q; exact q.elim
    | some d =>
      rw [z] at q
      obtain ⟨x, e1, e2⟩ := Option.bind_eq_some_iff.mp z
      obtain ⟨v, F1, ps1, h1, h2, h3, h4⟩ := peek_ok R e1
      refine ⟨v, h1, ?_⟩
      cases x with
      | list ds =>
        cases e2
        cases h4 with
        | lst g r => exact ⟨_, ds.length, rfl, .inl ⟨_, SqL.of (h3.fh _ _ g), r.length.symm⟩, q _ F H (Same.refl _) R (.int _)⟩
      | tuple ds =>
        cases e2
        cases h4 with
        | tup g r => exact ⟨_, ds.length, rfl, .inr ⟨_, by rw [← hK]; exact sqT_mono h3.fh g, r.length.symm⟩, q _ F H (Same.refl _) R (.int _)⟩
      | str t =>
        cases h4
        unfold dLen at e2
        dsimp only at e2
        split at e2
        · rename_i hl
          cases e2
          exact ⟨_, t.length, rfl, ⟨hl, rfl⟩, q _ F H (Same.refl _) R (.int _)⟩
        · cases e2
      | _ => cases e2
/-- x.append(e) -/
def mAppend (i : Nat) (a : ME) : ME := fun ps => match ps.sl[i]? with
  | some (.ml _) => (a ps).bind fun d ps1 => match ps1.sl[i]? with
    | some (.ml ds) => if ds.length < sizeLine then .ok .none (ps1.setS i (.ml (ds ++ [d]))) else .bad
    | _ => .bad
  | _ => .bad
theorem ml_at {Gc F H : Hp} {ps : Ps} {σ : St} {i : Nat} {ds : List D} (R : Rel C Gc F H ps σ) (h : ps.sl[i]? = some (.ml ds)) : ∃ p xs, σ[i]? = some (some (.ref p)) ∧ H p = some (.lst xs) ∧ F p = none ∧ Gc p = none ∧ RpA C F xs ds := R.sl i _ h
theorem append_ok {i : Nat} {ma : ME} {σ : St} {H : Hp} {Q : VK} (h : tE C W (mAppend i ma) σ H Q) : tBM X.K "list" rAppend (tVar i) (tCons (tE C W ma) tNil) σ H Q := by
  obtain ⟨Gc, F, ps, R, q⟩ := h
  unfold mAppend at q
  cases es : ps.sl[i]? with
  | none => rw [es] at q; exact q.elim
  | some s =>
    rw [es] at q
    cases s with
    | ml d0 =>
      obtain ⟨p, xs, h1, h2, _⟩ := ml_at R es
      refine ⟨.ref p, h1, .inl ⟨rfl, xs, SqL.of h2⟩, ?_⟩
      show tE C W ma σ H fun x H1 => rAppend (.ref p) [x] H1 Q
      refine seqE qE.mono R q fun d ps1 v F1 H1 s1 R1 r1 q1 => ?_
      cases es2 : ps1.sl[i]? with
      | none => rw [es2] at q1; exact q1.elim
      | some s2 =>
        rw [es2] at q1
        cases s2 with
        | ml ds =>
          obtain ⟨p', ys, g1, g2, g3, g4, g5⟩ := ml_at R1 es2
          rw [h1] at g1
          cases g1
          dsimp only at q1
          by_cases hl : ds.length < sizeLine
          · rw [if_pos hl] at q1
            refine ⟨p, ys, v, rfl, rfl, g2, by rw [g5.length]; exact hl, q1 _ F1 _ (Same.refl _) ?_ .non⟩
            exact R1.mutate es2 rfl h1 g3 g4 rfl ⟨p, _, rfl, upd_same, g3, g4, g5.append (.cons r1 .nil)⟩
          · rw [if_neg hl] at q1; exact q1.elim
        | _ => exact q1.elim
    | _ => exact q.elim
theorem xappend {i : Nat} {ma : ME} (ho : PE X o (tVar i)) (ha : PE X e (tE C W ma))
    (hbase : attributeBase o "append" X.env (eval o X.env) = eval o X.env := by rfl)
    (hfew : ((backTo cpos (starEach (e :: []) X.env)).all (fun x => !x.1) && (backToKw cpos (keywordEach [] X.env)).all (fun x => x.1.isSome)
      && decide ((e :: ([] : List Expr)).length + ([] : List Keyword).length + (if ([] : List Keyword).isEmpty then 0 else 1) < 30)) = true := by rfl)
    (hline : (apos.endLine == cpos.line) = true := by rfl) (hs : starEach (e :: []) X.env = (false, eval e X.env) :: starEach [] X.env := by rfl) (hplain : (backTo cpos (starEach [] X.env)).any (·.1) = false := by rfl) :
    PE X (.Call (.Attribute o "append" apos) [e] [] cpos) (tE C W (mAppend i ma)) :=
  pe_imp (pe_bm PySem.F.plainAttrs_list PySem.F.slot_list_append PySem.F.type_list_append mt_append ho (pa_cons ha pa_nil hs) hbase hfew hline hs hplain) fun _ _ _ h => append_ok h
/-- x.pop() -/
def mPop (i : Nat) : ME := fun ps => match ps.sl[i]? with
  | some (.ml ds) => match ds.getLast? with
    | some d => .ok d (ps.setS i (.ml ds.dropLast))
    | none => .bad
  | _ => .bad
theorem pop_ok {i : Nat} {σ : St} {H : Hp} {Q : VK} (h : tE C W (mPop i) σ H Q) : tBM0 X.K "list" rPop (tVar i) σ H Q := by
  obtain ⟨Gc, F, ps, R, q⟩ := h
  unfold mPop at q
  cases es : ps.sl[i]? with
  | none => rw [es] at q; exact q.elim
  | some s =>
    rw [es] at q
    cases s with
    | ml ds =>
      dsimp only at q
      obtain ⟨p, xs, h1, h2, h3, h4, h5⟩ := ml_at R es
      cases el : ds.getLast? with
      | none => rw [el] at q; exact q.elim
      | some d =>
        rw [el] at q
        rw [List.getLast?_eq_getElem?] at el
        obtain ⟨v, g1, g2⟩ := h5.get' el
        rw [← h5.length] at g1
        refine ⟨.ref p, h1, .inl ⟨rfl, xs, SqL.of h2⟩, p, xs, v, rfl, rfl, h2, g1, q v F _ (Same.refl _) ?_ g2⟩
        exact R.mutate es rfl h1 h3 h4 rfl ⟨p, _, rfl, upd_same, h3, h4, h5.dropLast⟩
    | _ => exact q.elim
theorem xpop {i : Nat} (ho : PE X o (tVar i)) (hbase : attributeBase o "pop" X.env (eval o X.env) = eval o X.env := by rfl) (hline : (apos.endLine == cpos.line) = true := by rfl) : PE X (.Call (.Attribute o "pop" apos) [] [] cpos) (tE C W (mPop i)) :=
  pe_imp (pe_bm0 PySem.F.plainAttrs_list PySem.F.slot_list_pop PySem.F.type_list_pop mt_pop ho hbase hline) fun _ _ _ h => pop_ok h
/-! ### dicts of our own -/
def putD (kvs : List (Key × D)) (k : Key) (v : D) : List (Key × D) :=
  if (kvs.any fun kv => decide (kv.1 = k)) = true then kvs.map (fun kv => if kv.1 = k then (kv.1, v) else kv) else kvs ++ [(k, v)]
theorem put_rel {F : Hp} {k : Key} {y : V} {d : D} (ry : Rp C F y d) : ∀ {kvs : List (Key × V)} {ds : List (Key × D)}, RpA C F (kvs.map (·.2)) (ds.map (·.2)) → ds.map (·.1) = kvs.map (·.1) →
    RpA C F ((putK kvs k y).map (·.2)) ((putD ds k d).map (·.2)) ∧ (putD ds k d).map (·.1) = (putK kvs k y).map (·.1) := by
  intro kvs ds r e
  have ea : ∀ {kvs : List (Key × V)} {ds : List (Key × D)}, ds.map (·.1) = kvs.map (·.1) → (ds.any fun kv => decide (kv.1 = k)) = (kvs.any fun kv => decide (kv.1 = k)) := by
    intro kvs ds e
    have e1 : (ds.any fun kv => decide (kv.1 = k)) = (ds.map (·.1)).any fun z => decide (z = k) := by rw [List.any_map]; rfl
    have e2 : (kvs.any fun kv => decide (kv.1 = k)) = (kvs.map (·.1)).any fun z => decide (z = k) := by rw [List.any_map]; rfl
    rw [e1, e2, e]
  unfold putK putD
  rw [ea e]
  by_cases c : (kvs.any fun kv => decide (kv.1 = k)) = true
  · rw [if_pos c, if_pos c]
    clear c ea
    induction kvs generalizing ds with
    | nil =>
      cases ds with
      | nil => exact ⟨.nil, rfl⟩
      | cons q ds => cases r
    | cons p kvs ih =>
      cases ds with
      | nil => cases r
      | cons q ds =>
        rw [List.map_cons, List.map_cons] at r e
        injection e with e1 e2
        cases r with
        | cons r1 r2 =>
          obtain ⟨i1, i2⟩ := ih r2 e2
          rw [List.map_cons, List.map_cons, List.map_cons, List.map_cons, List.map_cons, List.map_cons, e1]
          by_cases h : p.1 = k
          · rw [if_pos h, if_pos h]; exact ⟨.cons ry i1, by rw [i2]⟩
          · rw [if_neg h, if_neg h]; exact ⟨.cons r1 i1, by rw [i2, e1]⟩
  · rw [if_neg c, if_neg c, List.map_append, List.map_append, List.map_append, List.map_append, e]
    exact ⟨r.append (.cons ry .nil), rfl⟩
/-- x[k] = v, x a dict of our own -/
def mPut (i : Nat) (mk mv : ME) : MS := fun ps => (mv ps).bindS fun v ps1 => match ps1.sl[i]? with
  | some (.md _) => (mk ps1).bindS fun y ps2 => match ps2.sl[i]? with
    | some (.md kvs) => match toKey y with
      | some k => if kvs.length < sizeLine then .next (ps2.setS i (.md (putD kvs k v))) else .bad
      | none => .bad
    | _ => .bad
  | _ => .bad
theorem md_at {Gc F H : Hp} {ps : Ps} {σ : St} {i : Nat} {ds : List (Key × D)} (R : Rel C Gc F H ps σ) (h : ps.sl[i]? = some (.md ds)) : ∃ p kvs, σ[i]? = some (some (.ref p)) ∧ H p = some (.dK kvs) ∧ F p = none ∧ Gc p = none ∧ RpA C F (kvs.map (·.2)) (ds.map (·.2)) ∧ ds.map (·.1) = kvs.map (·.1) := R.sl i _ h
theorem xs_put {i : Nat} {mk mv : ME} {kx value : Expr} {pos' : Pos} (hu : X.A.units + 1 < cLine) (ho : PE X o (tVar i)) (hk : PE X kx (tE C W mk)) (hv : PE X value (tE C W mv)) (hs : swapsWith value (some (.Subscript o kx pos')) pos.line X.env = pure false := by rfl) :
    PS X (.Assign [.Subscript o kx pos'] value pos) (tS C W (mPut i mk mv)) :=
  ps_imp (ps_dput hu ho hk hv hs) fun D σ H ⟨Gc, F, ps, R, q⟩ => by
    refine seqES R q fun v ps1 vv F1 H1 s1 R1 r1 q1 => ?_
    cases es : ps1.sl[i]? with
    | none => rw [es] at q1; exact q1.elim
    | some s =>
      rw [es] at q1
      cases s with
      | md d0 =>
        obtain ⟨p, kvs0, h1, h2, _⟩ := md_at R1 es
        refine ⟨.ref p, h1, seqES R1 q1 fun y ps2 yv F2 H2 s2 R2 r2 q2 => ?_⟩
        cases es2 : ps2.sl[i]? with
        | none => rw [es2] at q2; exact q2.elim
        | some s2' =>
          rw [es2] at q2
          cases s2' with
          | md ds =>
            obtain ⟨p', kvs, g1, g2, g3, g4, g5, g6⟩ := md_at R2 es2
            rw [h1] at g1
            cases g1
            dsimp only at q2
            cases ek : toKey y with
            | none => rw [ek] at q2; exact q2.elim
            | some k =>
              rw [ek] at q2
              dsimp only at q2
              by_cases hl : ds.length < sizeLine
              · rw [if_pos hl] at q2
                have ex := kD_of ek
                subst ex
                have ev := rp_kD r2
                subst ev
                have el : kvs.length = ds.length := by have := congrArg List.length g6; simpa using this.symm
                obtain ⟨n1, n2⟩ := put_rel (k := k) (r1.mono s2) g5 g6
                refine ⟨p, _, rfl, DPut.k g2 (by rw [el]; exact hl), q2 _ F2 _ (Same.refl _) ?_⟩
                exact R2.mutate es2 rfl h1 g3 g4 rfl ⟨p, _, rfl, upd_same, g3, g4, n1, n2⟩
              · rw [if_neg hl] at q2; exact q2.elim
          | _ => exact q2.elim
      | _ => exact q1.elim
end
end MM
/-! ### sorted of a tuple -/
namespace SrtO
open PySem PyProof.Rows Srt
section
variable {prog : Program} {w : World} {A : Around} {E : Value → Shared → Prop} {s : Shared}
theorem collected_tuple {l : Addr} {vs : List Value} {Q : List Value → Shared → Prop} (hl : IsTup s.heap l vs.toArray)
    (h : Q vs { s with heap := (s.heap.push (seqObj "list" #[] 0)).update s.heap.objs.size (Obj.mapSeq (· ++ vs.toArray)) }) (hsz : vs.length ≤ sizeLine) :
    wpAny (model prog w) A (collect (.ref l)) Q E s := by
  obtain ⟨o, ho, hc, n, hd⟩ := id hl
  unfold collect
  refine wpAny_bind (wpAny_runValue (codeAny_builtin PyProof.Rows.entry_proto_collect' ?_))
  show wpAny _ _ (do again (.builtin "list.__iadd__" ⟨[← newList [], .ref l], []⟩)) _ _ s
  refine wpAny_bind (wpAny_newList (wpAny_pure ⟨Code.quiet_builtin _ (by decide +kernel),
    codeAny_builtin PyProof.Rows.entry_list_iadd' ?_⟩))
  show wpAny _ _ (Builtin.List.listExtendWith (.ref s.heap.objs.size) (.ref l) (.ref s.heap.objs.size)) _ _ { s with heap := s.heap.push (seqObj "list" #[] 0) }
  unfold Builtin.List.listExtendWith
  have ho' : (s.heap.push (seqObj "list" #[] 0)).get? l = some o := Heap.get?_push_of_some _ ho
  refine wpAny_bind (wpAny_typeOf (T := "tuple") ⟨o, ho', hc⟩ ?_)
  have ht : (Value.type "tuple" == Value.type "tuple") = true := by rfl
  rw [if_pos (by rw [ht]; simp)]
  refine wpAny_bind (listItems_at ho' hd ?_)
  refine wpAny_bind (listItems_at (xs := #[]) (n := 0)
    (Heap.get?_push_size _ rfl) rfl ?_)
  rw [if_neg (by simp)]
  refine wpAny_bind (listUpdate_at (xs := #[]) (n := 0) (Heap.get?_push_size _ rfl) rfl ?_
    (Nat.zero_le _) (by show (#[] ++ vs.toArray).size ≤ sizeLine + 1; simp only [Array.size_append, List.size_toArray, List.length_nil]; omega))
  refine wpAny_pure ?_
  show wpAny (model prog w) A (do
      let o ← load s.heap.objs.size
      match o.data with
      | .seq xs _ => pure xs.toList
      | _ => unsupported "internal:collect") Q E { s with heap := (s.heap.push (seqObj "list" #[] 0)).update s.heap.objs.size (Obj.mapSeq (· ++ vs.toArray)) }
  refine wpAny_bind (wpAny_load (get?_update_seq (Heap.get?_push_size _ rfl) _) ?_)
  show wpAny _ _ (pure ((#[] : Array Value) ++ vs.toArray).toList) Q E _
  rw [show ((#[] : Array Value) ++ vs.toArray).toList = vs by simp]
  exact wpAny_pure h
theorem sorted_tup {l : Addr} {vs : List Value} {ltv : Value → Value → Bool} {Q : Value → Shared → Prop} (O : Swo ltv) (hl : IsTup s.heap l vs.toArray) (hz : vs.length ≤ sizeLine)
    (hS : 2 ≤ vs.length → ∀ (h₁ : Heap) (a : Addr), h₁.get? a = some (seqObj "list" vs.toArray 0) → (∀ b o, s.heap.get? b = some o → b ≠ a ∧ h₁.get? b = some o) → SortableO prog w A.in1.in1 { s with heap := h₁ } a vs ltv)
    (h : ∀ out : List Value, Srtd ltv out → Stb ltv out vs → Q (.ref (s.heap.objs.size + 1)) { s with heap := sortedAll s.heap vs out.toArray }) :
    wpAny (model prog w) A (call (.builtin "sorted") [.ref l]) Q E s := by
  refine Calls.call_function_entry kind_sorted plain_sorted entry_sorted (args_sorted1 _) ?_
  unfold Builtin.«sorted»
  refine wpAny_bind (m := checkCount "sorted" 1 1 _) (wpAny_pure ?_)
  refine wpAny_bind (collected_tuple hl ?_ hz)
  refine wpAny_bind (wpAny_newList ?_ hz)
  have hsz : ((s.heap.push (seqObj "list" #[] 0)).update s.heap.objs.size (Obj.mapSeq (· ++ vs.toArray))).objs.size = s.heap.objs.size + 1 := by
    rw [Heap.size_update, size_push']
  have hoL : (((s.heap.push (seqObj "list" #[] 0)).update s.heap.objs.size (Obj.mapSeq (· ++ vs.toArray))).push (seqObj "list" vs.toArray 0)).get? (s.heap.objs.size + 1) = some (seqObj "list" vs.toArray 0) := by
    rw [← hsz]; exact Heap.get?_push_size _ rfl
  have keep : ∀ b o, s.heap.get? b = some o → b ≠ s.heap.objs.size + 1 ∧ (((s.heap.push (seqObj "list" #[] 0)).update s.heap.objs.size (Obj.mapSeq (· ++ vs.toArray))).push (seqObj "list" vs.toArray 0)).get? b = some o := fun b o q => by
    have hlt : b < s.heap.objs.size := Heap.lt_size q
    refine ⟨Nat.ne_of_lt (Nat.lt_succ_of_lt hlt), Heap.get?_push_of_some _ ?_⟩
    rw [Heap.get?_update_ne _ _ _ _ (Nat.ne_of_lt hlt)]
    exact Heap.get?_push_of_some _ q
  show wpAny _ _ _ _ _ { s with heap := ((s.heap.push (seqObj "list" #[] 0)).update s.heap.objs.size (Obj.mapSeq (· ++ vs.toArray))).push (seqObj "list" vs.toArray 0) }
  rw [hsz]
  refine wpAny_bind (wpAny_holding (wpAny_call_entry slot_list_sort ⟨_, hoL, rfl⟩ entry_list_sort
    (list_sort_ord O hoL hz (fun h2 => hS h2 _ _ hoL keep) fun out hs hb => ⟨_, rfl, ?_⟩) (args_list_sort _)))
  exact wpAny_pure ⟨_, rfl, h out hs hb⟩
end
end SrtO
namespace MM
open PySem PySem.Spec PyProof.Rows L2
section
variable {X : Cx} {C : Mc} {W : WX} {a b c e o : Expr} {es : List Expr} {pos p : Pos}
def rSortedJ (K : PySem.W.Frag) : List V → Hp → VK → Prop := fun vs H Q => ∃ (a : Addr) (ns : List Int), vs = [V.ref a] ∧ SqT K H a (ns.map V.int) ∧
  ∀ (ns' : List Int) (p : Addr), ns'.Perm ns → ns'.Pairwise (· ≤ ·) → H p = none → Q (.ref p) (upd H p (.lst (ns'.map V.int)))
theorem cr_sortedJ : CallR X (.builtin "sorted") (rSortedJ X.K) := by
  intro pins s σ H vs us Q I r h
  obtain ⟨a, ns, rfl, hs, q⟩ := h
  obtain ⟨its, rv, hl, hz⟩ := I.tuple hs
  rw [Vals.ref1 r]
  have hi := rv.ints
  refine SrtO.sorted_tup SrtO.swo_int hl (by rw [← rv.length]; exact hz)
    (fun h2 h₁ a' _ _ => SrtO.ints_sortable hi h2) fun out h1 h2 => ?_
  obtain ⟨k1, k2, k3⟩ := SrtO.ints_out hi h1 h2
  obtain ⟨ep, he'⟩ := PyProof.Rows.sortedAll_at s.heap its out.toArray
  have hlen : ((out.map SrtO.iv).map V.int).length ≤ sizeLine := by
    rw [List.length_map, k2.length_eq]
    rw [List.length_map] at hz
    exact hz
  exact ⟨.ref _, upd H (s.heap.objs.size + 1) (.lst ((out.map SrtO.iv).map V.int)), I.laid (t' := s.toks) (fun _ _ => PyProof.Rows.sortedAll_old)
    (Nat.le_succ _) ⟨hlen, out, ep, vals_of_ints k1, he'⟩, rfl, q _ _ k2 k3 (I.hok.fresh (Nat.le_succ _))⟩
/-- the ints, rising -/
def sortI (ns : List Int) : List Int := ns.mergeSort (fun a b => decide (a ≤ b))
theorem sortI_eq {ns ns' : List Int} (h : ns'.Perm ns) (o : ns'.Pairwise (· ≤ ·)) : ns' = sortI ns := by
  refine PySem.W.ksm_same (h.trans (List.mergeSort_perm ns _).symm) o ?_
  have z := List.pairwise_mergeSort (le := fun a b : Int => decide (a ≤ b)) (fun a b c h1 h2 => by
    have := of_decide_eq_true h1; have := of_decide_eq_true h2; exact decide_eq_true (by omega)) (fun a b => by
    by_cases h : a ≤ b
    · simp [h]
    · have : b ≤ a := by omega
      simp [this]) ns
  exact z.imp fun h => of_decide_eq_true h
def dSorted : List D → Option D
  | [.list ds] => (intsOf ds).map fun ns => .list ((sortI ns).map .int)
  | [.tuple ds] => (intsOf ds).map fun ns => .list ((sortI ns).map .int)
  | _ => none
theorem cm_sorted (hK : C.K = X.K) : CallM C dSorted (fun vs H Q => rSortedI X.K vs H Q ∨ rSortedJ X.K vs H Q) := by
  intro Gc F H ps σ vs ds z Q R r hz q
  have hf : ∀ p, H p = none → F p = none := fun p n => R.fh.free n
  match ds, r with
  | [.list ds], .cons (.lst h r1) .nil =>
    obtain ⟨ns, e1, e2⟩ := Option.map_eq_some_iff.mp hz
    subst e2
    have e0 := intsOf_eq e1
    subst e0
    have e := r1.ints
    subst e
    refine .inl ⟨_, ns, rfl, SqL.of (R.fh _ _ h), fun ns' p h1 h2 n => ?_⟩
    rw [sortI_eq h1 h2]
    exact q _ _ _ (same_alloc (hf p n)) (R.alloc n) (.lst upd_same (RpA.of_ints _))
  | [.tuple ds], .cons (.tup h r1) .nil =>
    obtain ⟨ns, e1, e2⟩ := Option.map_eq_some_iff.mp hz
    subst e2
    have e0 := intsOf_eq e1
    subst e0
    have e := r1.ints
    subst e
    refine .inr ⟨_, ns, rfl, by rw [← hK]; exact sqT_mono R.fh h, fun ns' p h1 h2 n => ?_⟩
    rw [sortI_eq h1 h2]
    exact q _ _ _ (same_alloc (hf p n)) (R.alloc n) (.lst upd_same (RpA.of_ints _))
theorem xsorted {x : Str} {ma : MA} (hK : C.K = X.K) (hg : Gl X x) (hn : X.mg x = none) (hv : bootBuiltins x = some (.builtin "sorted")) (ha : PA X (e :: es) (tA C W ma)) (hnn : x ≠ "__name__" := by decide) (hdb : (x == ("__debug__" : Str)) = false := by decide)
    (he : starEach (e :: es) X.env = (false, eval e X.env) :: starEach es X.env := by rfl) (hpl : (backTo pos (starEach es X.env)).any (·.1) = false := by rfl) : PE X (.Call (.Name x p) (e :: es) [] pos) (tE C W (mB dSorted ma)) :=
  xcallB (cr_sortedI.or cr_sortedJ) (cm_sorted hK) hg hn hv ha hnn hdb he hpl
/-! ### kinds -/
def tyN : D → String
  | .none => "NoneType"
  | .bool _ => "bool"
  | .int _ => "int"
  | .str _ => "str"
  | .list _ => "list"
  | .tuple _ => "tuple"
  | .dict _ => "dict"
/-- told apart: the deck, and what stands for a dict that is walked -/
def isDeck : D → Bool
  | .dict ((.bool _, _) :: _) => true
  | _ => false
def isDk0 : D → Bool
  | .dict [(.bool true, .none)] => true
  | _ => false
theorem isDeck_eq {d : D} (h : isDk0 d = true) : d = deckD := by
  unfold isDk0 at h
  split at h
  · rfl
  · cases h
theorem tyX_of (hK : C.K = X.K) {F H : Hp} {ps : Ps} {Gc : Hp} {σ : St} (R : Rel C Gc F H ps σ) {v : V} {d : D} (r : Rp C F v d) (nd : isDeck d = false) : TyX X.K H v (.type (tyN d)) := by
  cases r with
  | non => exact .base .non
  | bl b => exact .base (.bl b)
  | int i => exact .base (.int i)
  | str x => exact .base (.str x)
  | lst h _ => exact .base (.lst (R.fh _ _ h))
  | tup h _ =>
    rw [← hK]
    rcases sqT_mono R.fh h with (h | ⟨o, h⟩) | ⟨o, its, n, h1, h2, _⟩
    · exact .base (.tup h)
    · exact .fTuple h
    · exact .kTuple h1 h2
  | dct h _ _ => exact .base (.dK (R.fh _ _ h))
  | dcT h _ _ _ => exact .base (.dT (R.fh _ _ h))
  | dz _ _ _ => cases nd
  | nt _ _ _ => cases nd
  | deck h => cases nd
/-- the kinds that T takes -/
structure KindOk (T : String) (f : D → Bool) : Prop where
  ok : ∀ d : D, kitB (tyN d) T = some (f d)
def isTup : D → Bool
  | .tuple _ => true
  | _ => false
def isLst : D → Bool
  | .list _ => true
  | _ => false
def isIntB : D → Bool
  | .int _ => true
  | .bool _ => true
  | _ => false
def isBool : D → Bool
  | .bool _ => true
  | _ => false
def isStr : D → Bool
  | .str _ => true
  | _ => false
def isDct : D → Bool
  | .dict _ => true
  | _ => false
theorem k_tuple : KindOk "tuple" isTup := ⟨fun d => by cases d <;> (dsimp only [tyN, isTup]; decide +kernel)⟩
theorem k_list : KindOk "list" isLst := ⟨fun d => by cases d <;> (dsimp only [tyN, isLst]; decide +kernel)⟩
theorem k_int : KindOk "int" isIntB := ⟨fun d => by cases d <;> (dsimp only [tyN, isIntB]; decide +kernel)⟩
theorem k_bool : KindOk "bool" isBool := ⟨fun d => by cases d <;> (dsimp only [tyN, isBool]; decide +kernel)⟩
theorem k_str : KindOk "str" isStr := ⟨fun d => by cases d <;> (dsimp only [tyN, isStr]; decide +kernel)⟩
theorem k_dict : KindOk "dict" isDct := ⟨fun d => by cases d <;> (dsimp only [tyN, isDct]; decide +kernel)⟩
def mIsi (f : D → Bool) (a : ME) : ME := fun ps => (a ps).bind fun x ps1 => if isDeck x = true then .bad else .ok (.bool (f x)) ps1
theorem xisi {ma : ME} {T : String} {y : Str} {p2 : Pos} {f : D → Bool} (hK : C.K = X.K) (kf : KindOk T f) (hg : Gl X "isinstance") (hn : X.mg "isinstance" = none) (hg2 : Gl X y) (hn2 : X.mg y = none) (hv : bootBuiltins y = some (.type T)) (ha : PE X e (tE C W ma))
    (h1 : y ≠ "__name__" := by decide) (h2 : (y == ("__debug__" : Str)) = false := by decide)
    (hs2 : starEach (.Name y p2 :: []) X.env = (false, eval (.Name y p2) X.env) :: starEach [] X.env := by rfl)
    (he : starEach (e :: [.Name y p2]) X.env = (false, eval e X.env) :: starEach [.Name y p2] X.env := by rfl) (hpl : (backTo pos (starEach [.Name y p2] X.env)).any (·.1) = false := by rfl) :
    PE X (.Call (.Name "isinstance" p) [e, .Name y p2] [] pos) (tE C W (mIsi f ma)) :=
  pe_imp (pe_callB call_isi hg hn (by decide +kernel) (pa_cons ha (pa_cons (pe_bltn (v := .ty T) hg2 hn2 hv rfl h1 h2) pa_nil hs2) he) (by decide) (by decide) he hpl) fun σ H Q ⟨Gc, F, ps, R, q⟩ =>
    seqE qE.mono R q fun x ps1 v F1 H1 s1 R1 r1 q1 => by
      by_cases hd : isDeck x = true
      · rw [if_pos hd] at q1; exact q1.elim
      · rw [if_neg hd] at q1
        exact ⟨v, .ty T, .type (tyN x), .type T, f x, rfl, .ty T, tyX_of hK R1 r1 (by simpa using hd), kit_ty (kf.ok x), q1 _ F1 H1 (Same.refl _) R1 (.bl _)⟩
/-! ### zip, enumerate -/
def zipD (xs ys : List D) : List D := (xs.zip ys).map fun p => .tuple [p.1, p.2]
theorem zipD_len (xs ys : List D) : (zipD xs ys).length = min xs.length ys.length := by simp [zipD]
theorem zipD_get {xs ys : List D} {i : Nat} {d : D} (h : (zipD xs ys)[i]? = some d) : ∃ x y, xs[i]? = some x ∧ ys[i]? = some y ∧ d = .tuple [x, y] := by
  unfold zipD at h
  rw [List.getElem?_map] at h
  obtain ⟨p, h1, h2⟩ := Option.map_eq_some_iff.mp h
  rw [List.getElem?_zip_eq_some] at h1
  exact ⟨p.1, p.2, h1.1, h1.2, h2.symm⟩
theorem itr_zipL {F : Hp} {K : PySem.W.Frag} {a b : Addr} {xs ys : List V} {ds es : List D} (h : F a = some (.lst xs)) (r : RpA C F xs ds) (h' : F b = some (.lst ys)) (r' : RpA C F ys es) : ItR C (Itz K a b) F (zipD ds es) where
  go := fun i H hi s => by
    rw [zipD_len] at hi
    exact ⟨xs, ys, xs[i]'(by rw [r.length]; omega), ys[i]'(by rw [r'.length]; omega), SqL.of (s _ _ h), SqL.of (s _ _ h'), by simp, by simp⟩
  stop := fun H s => ⟨xs, ys, SqL.of (s _ _ h), SqL.of (s _ _ h'), by rw [zipD_len, r.length, r'.length]; omega⟩
  yld := fun i H x H' Gc F' ps σ d s R hd ⟨T, x1, y1, e1, n, e2, g1, g2⟩ => by
    subst e1; subst e2
    obtain ⟨dx, dy, k1, k2, k3⟩ := zipD_get hd
    subst k3
    obtain ⟨v1, m1, m2⟩ := r.get' k1
    obtain ⟨v2, m3, m4⟩ := r'.get' k2
    have q1 := g1 xs (SqL.of (R.fh _ _ (s _ _ h)))
    have q2 := g2 ys (SqL.of (R.fh _ _ (s _ _ h')))
    rw [m1] at q1; cases q1
    rw [m3] at q2; cases q2
    have nf : F' T = none := R.fh.free n
    exact ⟨_, same_alloc nf, R.alloc n, .tup upd_same (.cons ((m2.mono s).mono (same_alloc nf)) (.cons ((m4.mono s).mono (same_alloc nf)) .nil))⟩
theorem itr_zipT {F : Hp} {K : PySem.W.Frag} (hK : C.K = K) {a b : Addr} {xs ys : List V} {ds es : List D} (h : F a = some (.tup xs)) (r : RpA C F xs ds) (h' : F b = some (.tup ys)) (r' : RpA C F ys es) : ItR C (RZ.ItzT K a b) F (zipD ds es) where
  go := fun i H hi s => by
    rw [zipD_len] at hi
    exact ⟨xs, ys, xs[i]'(by rw [r.length]; omega), ys[i]'(by rw [r'.length]; omega), by rw [← hK]; exact sqT_mono s h, by rw [← hK]; exact sqT_mono s h', by simp, by simp⟩
  stop := fun H s => ⟨xs, ys, by rw [← hK]; exact sqT_mono s h, by rw [← hK]; exact sqT_mono s h', by rw [zipD_len, r.length, r'.length]; omega⟩
  yld := fun i H x H' Gc F' ps σ d s R hd ⟨T, x1, y1, e1, n, e2, g1, g2⟩ => by
    subst e1; subst e2
    obtain ⟨dx, dy, k1, k2, k3⟩ := zipD_get hd
    subst k3
    obtain ⟨v1, m1, m2⟩ := r.get' k1
    obtain ⟨v2, m3, m4⟩ := r'.get' k2
    have q1 := g1 xs (by rw [← hK]; exact sqT_mono (s.trans R.fh) h)
    have q2 := g2 ys (by rw [← hK]; exact sqT_mono (s.trans R.fh) h')
    rw [m1] at q1; cases q1
    rw [m3] at q2; cases q2
    have nf : F' T = none := R.fh.free n
    exact ⟨_, same_alloc nf, R.alloc n, .tup upd_same (.cons ((m2.mono s).mono (same_alloc nf)) (.cons ((m4.mono s).mono (same_alloc nf)) .nil))⟩
def dZip : List D → Option (List D)
  | [.list xs, .list ys] => some (zipD xs ys)
  | [.tuple xs, .tuple ys] => some (zipD xs ys)
  | _ => none
theorem dZip_inv {ds zs : List D} (h : dZip ds = some zs) : ∃ xs ys, zs = zipD xs ys ∧ (ds = [.list xs, .list ys] ∨ ds = [.tuple xs, .tuple ys]) := by
  unfold dZip at h
  split at h
  · cases h; exact ⟨_, _, rfl, .inl rfl⟩
  · cases h; exact ⟨_, _, rfl, .inr rfl⟩
  · cases h
def mZip (a : MA) : MA := fun ps => (a ps).bind fun ds ps1 => .of (dZip ds) ps1
theorem xi_zip {e2 : Expr} {ma : MA} {tpos : Pos} {elts : List Expr} {kk : Nat} (hK : C.K = X.K) (hg : Gl X "zip") (hm : X.mg "zip" = none) (ha : PA X [e, e2] (tA C W ma))
    (hs : starEach [e, e2] X.env = (false, eval e X.env) :: starEach [e2] X.env := by rfl) (hpl : (backTo pos (starEach [e2] X.env)).any (·.1) = false := by rfl) :
    PI X (.Tuple elts kk tpos) (.Call (.Name "zip" p) [e, e2] [] pos) (tI C W (mZip ma)) :=
  pi_imp (RZ.pi_zipA hg hm ha hs hpl) fun σ H Q ⟨Gc, F, ps, R, q⟩ => seqA qI.mono R q fun ds ps1 vs F1 H1 s1 R1 r1 q1 => by
    cases z : dZip ds with
    | none => rw [z] at q1; exact q1.elim
    | some zs =>
      rw [z] at q1
      obtain ⟨xs, ys, e1, e2⟩ := dZip_inv z
      subst e1
      rcases e2 with e2 | e2
      · subst e2
        cases r1 with
        | cons x1 x2 =>
          cases x1 with
          | lst h r =>
            cases x2 with
            | cons y1 y2 =>
              cases y1 with
              | lst h' r' =>
                cases y2
                exact ⟨_, _, _, _, rfl, .inl ⟨SqL.of (R1.fh _ _ h), SqL.of (R1.fh _ _ h'), q1 _ F1 H1 (Same.refl _) R1 (itr_zipL h r h' r')⟩⟩
      · subst e2
        cases r1 with
        | cons x1 x2 =>
          cases x1 with
          | tup h r =>
            cases x2 with
            | cons y1 y2 =>
              cases y1 with
              | tup h' r' =>
                cases y2
                exact ⟨_, _, _, _, rfl, .inr ⟨by rw [← hK]; exact sqT_mono R1.fh h, by rw [← hK]; exact sqT_mono R1.fh h', q1 _ F1 H1 (Same.refl _) R1 (itr_zipT hK h r h' r')⟩⟩
def enumD (xs : List D) : List D := xs.zipIdx.map fun p => .tuple [.int (p.2 : Nat), p.1]
theorem enumD_get {xs : List D} {i : Nat} {d : D} (h : (enumD xs)[i]? = some d) : ∃ x, xs[i]? = some x ∧ d = .tuple [.int (i : Nat), x] := by
  unfold enumD at h
  rw [List.getElem?_map, List.getElem?_zipIdx] at h
  cases e : xs[i]? with
  | none => rw [e] at h; cases h
  | some x => rw [e] at h; cases h; exact ⟨x, rfl, by simp⟩
theorem itr_enum {F : Hp} {K : PySem.W.Frag} {a : Addr} {xs : List V} {ds : List D} (h : F a = some (.lst xs)) (r : RpA C F xs ds) : ItR C (Ite K a) F (enumD ds) where
  go := fun i H hi s => ⟨xs, xs[i]'(by rw [r.length]; simpa [enumD] using hi), SqL.of (s _ _ h), by simp⟩
  stop := fun H s => ⟨xs, SqL.of (s _ _ h), by rw [r.length]; simp [enumD]⟩
  yld := fun i H x H' Gc F' ps σ d s R hd ⟨T, x1, e1, n, e2, g1⟩ => by
    subst e1; subst e2
    obtain ⟨dx, k1, k3⟩ := enumD_get hd
    subst k3
    obtain ⟨v1, m1, m2⟩ := r.get' k1
    have q1 := g1 xs (SqL.of (R.fh _ _ (s _ _ h)))
    rw [m1] at q1; cases q1
    have nf : F' T = none := R.fh.free n
    exact ⟨_, same_alloc nf, R.alloc n, .tup upd_same (.cons (.int _) (.cons ((m2.mono s).mono (same_alloc nf)) .nil))⟩
/-! ### dicts that are written -/
def mPairs : List (ME × ME) → Ps → Out (List (D × D))
  | [], ps => .ok [] ps
  | (k, v) :: r, ps => (k ps).bind fun x ps1 => (v ps1).bind fun y ps2 => (mPairs r ps2).bind fun xs ps3 => .ok ((x, y) :: xs) ps3
def trsOf (C : Mc) (W : WX) (ms : List (ME × ME)) : List (TE × TE) := ms.map fun m => (tE C W m.1, tE C W m.2)
theorem xp_nil : PPs X pos [] [] (trsOf C W []) := pps_nil
theorem xp_cons {k v : Expr} {ks : List (Option Expr)} {vs : List Expr} {mk mv : ME} {ms : List (ME × ME)} (hk : PE X k (tE C W mk)) (hv : PE X v (tE C W mv)) (hr : PPs X pos ks vs (trsOf C W ms)) : PPs X pos (some k :: ks) (v :: vs) (trsOf C W ((mk, mv) :: ms)) := pps_cons hk hv hr
theorem pairs_ok {σ : St} {Gc : Hp} : ∀ (ms : List (ME × ME)) {β : Type} {P : β → Ps → Hp → Prop} {F H : Hp} {ps : Ps} {f : List (D × D) → Ps → Out β} {Q : List (V × V) → Hp → Prop} (hP : Mono P) (R : Rel C Gc F H ps σ) (h : Po C W Gc σ P F ((mPairs ms ps).bind f))
    (k : ∀ xs ps' vs F' H', Same F F' → Rel C Gc F' H' ps' σ → RpA C F' (vs.map (·.1)) (xs.map (·.1)) → RpA C F' (vs.map (·.2)) (xs.map (·.2)) → Po C W Gc σ P F' (f xs ps') → Q vs H'), tPairs (trsOf C W ms) σ H Q
  | [], _, _, F, H, ps, f, Q, hP, R, h, k => k [] ps [] F H (Same.refl _) R .nil .nil h
  | (mk, mv) :: ms, β, P, F, H, ps, f, Q, hP, R, h, k => by
    have h' : Po C W Gc σ P F ((mk ps).bind fun x ps1 => (mv ps1).bind fun y ps2 => (mPairs ms ps2).bind fun xs ps3 => f ((x, y) :: xs) ps3) := by
      have e : (mPairs ((mk, mv) :: ms) ps).bind f = (mk ps).bind fun x ps1 => (mv ps1).bind fun y ps2 => (mPairs ms ps2).bind fun xs ps3 => f ((x, y) :: xs) ps3 := by
        show ((mk ps).bind fun x ps1 => (mv ps1).bind fun y ps2 => (mPairs ms ps2).bind fun xs ps3 => Out.ok ((x, y) :: xs) ps3).bind f = _
        cases mk ps with
        | ok x ps1 =>
          show ((mv ps1).bind fun y ps2 => (mPairs ms ps2).bind fun xs ps3 => Out.ok ((x, y) :: xs) ps3).bind f = (mv ps1).bind fun y ps2 => (mPairs ms ps2).bind fun xs ps3 => f ((x, y) :: xs) ps3
          cases mv ps1 with
          | ok y ps2 =>
            show ((mPairs ms ps2).bind fun xs ps3 => Out.ok ((x, y) :: xs) ps3).bind f = (mPairs ms ps2).bind fun xs ps3 => f ((x, y) :: xs) ps3
            cases mPairs ms ps2 <;> rfl
          | exc _ _ => rfl
          | bad => rfl
        | exc _ _ => rfl
        | bad => rfl
      rw [← e]; exact h
    refine seqE hP R h' fun x ps1 v F1 H1 s1 R1 r1 q1 => seqE hP R1 q1 fun y ps2 u F2 H2 s2 R2 r2 q2 => ?_
    exact pairs_ok ms hP R2 q2 fun xs ps3 vs F3 H3 s3 R3 r3 r4 q3 => k ((x, y) :: xs) ps3 ((v, u) :: vs) F3 H3 ((s1.trans s2).trans s3) R3 (.cons (r1.mono (s2.trans s3)) r3) (.cons (r2.mono s3) r4) q3
def toKeys : List (D × D) → Option (List (Key × D))
  | [] => some []
  | (k, v) :: r => (toKey k).bind fun k' => (toKeys r).map fun r' => (k', v) :: r'
def mergeD (kvs : List (Key × D)) : List (Key × D) := kvs.foldl (fun acc kv => putD acc kv.1 kv.2) []
def mDict (ms : List (ME × ME)) : Ps → Out (List (Key × D)) := fun ps => (mPairs ms ps).bind fun xs ps1 => match toKeys xs with
  | some kvs => if kvs.length ≤ 15 then .ok (mergeD kvs) ps1 else .bad
  | none => .bad
theorem toKeys_ok {F : Hp} : ∀ {xs : List (D × D)} {kvs : List (Key × D)} {vs : List (V × V)}, toKeys xs = some kvs → RpA C F (vs.map (·.1)) (xs.map (·.1)) → RpA C F (vs.map (·.2)) (xs.map (·.2)) →
    ∃ ks : List (Key × V), vs = ks.map (fun kv => (kV kv.1, kv.2)) ∧ ks.length = kvs.length ∧ RpA C F (ks.map (·.2)) (kvs.map (·.2)) ∧ kvs.map (·.1) = ks.map (·.1)
  | [], kvs, vs, h, r, _ => by
    cases h
    cases vs with
    | nil => exact ⟨[], rfl, rfl, .nil, rfl⟩
    | cons _ _ => cases r
  | (k, d) :: xs, kvs, vs, h, r, r' => by
    simp only [toKeys] at h
    obtain ⟨k', e1, h2⟩ := Option.bind_eq_some_iff.mp h
    obtain ⟨kvs', e2, e3⟩ := Option.map_eq_some_iff.mp h2
    subst e3
    cases vs with
    | nil => cases r
    | cons v vs =>
      rw [List.map_cons, List.map_cons] at r r'
      cases r with
      | cons r1 r2 =>
        cases r' with
        | cons r3 r4 =>
          obtain ⟨ks, g1, g2, g3, g4⟩ := toKeys_ok e2 r2 r4
          have ek := kD_of e1
          have ev : v.1 = kV k' := rp_kD (by rw [← ek]; exact r1)
          refine ⟨(k', v.2) :: ks, ?_, by rw [List.length_cons, List.length_cons, g2], .cons r3 g3, by rw [List.map_cons, List.map_cons, g4]⟩
          rw [List.map_cons, ← g1]
          show v :: vs = (kV k', v.2) :: vs
          rw [← ev]
theorem merge_rel {F : Hp} : ∀ {ks : List (Key × V)} {kvs : List (Key × D)} {as : List (Key × V)} {ds : List (Key × D)}, RpA C F (ks.map (·.2)) (kvs.map (·.2)) → kvs.map (·.1) = ks.map (·.1) → RpA C F (as.map (·.2)) (ds.map (·.2)) → ds.map (·.1) = as.map (·.1) →
    RpA C F ((mergeK as ks).map (·.2)) ((kvs.foldl (fun acc kv => putD acc kv.1 kv.2) ds).map (·.2)) ∧ (kvs.foldl (fun acc kv => putD acc kv.1 kv.2) ds).map (·.1) = (mergeK as ks).map (·.1)
  | [], [], as, ds, _, _, r, e => ⟨r, e⟩
  | [], _ :: _, _, _, r, _, _, _ => nomatch r
  | _ :: _, [], _, _, r, _, _, _ => nomatch r
  | p :: ks, q :: kvs, as, ds, r0, e0, r, e => by
    rw [List.map_cons, List.map_cons] at r0 e0
    injection e0 with e1 e2
    cases r0 with
    | cons r1 r2 =>
      obtain ⟨n1, n2⟩ := put_rel (k := p.1) r1 r e
      have z := merge_rel (as := putK as p.1 p.2) (ds := putD ds p.1 q.2) r2 e2 n1 n2
      have ef : (q :: kvs).foldl (fun acc kv => putD acc kv.1 kv.2) ds = kvs.foldl (fun acc kv => putD acc kv.1 kv.2) (putD ds p.1 q.2) := by
        rw [List.foldl_cons, e1]
      rw [ef]
      exact z
def qFd (C : Mc) (Gc : Hp) (σ : St) (Q : VK) : List (Key × D) → Ps → Hp → Prop := fun ds ps' F => ∀ p kvs F' H', Same F F' → Rel C Gc F' H' ps' σ → Loose C Gc F' H' ps' σ p (.dK kvs) → RpA C F' (kvs.map (·.2)) (ds.map (·.2)) → ds.map (·.1) = kvs.map (·.1) → Q (.ref p) H'
theorem qFd.mono {Gc : Hp} {σ : St} {Q : VK} : Mono (qFd C Gc σ Q) := fun _ _ _ _ s h p xs F' H' s' => h p xs F' H' (s.trans s')
def tFd (C : Mc) (W : WX) (m : Ps → Out (List (Key × D))) : TE := fun σ H Q => ∃ Gc F ps, Rel C Gc F H ps σ ∧ Po C W Gc σ (qFd C Gc σ Q) F (m ps)
theorem xdictF {keys : List (Option Expr)} {values : List Expr} {ms : List (ME × ME)} (h : PPs X pos keys values (trsOf C W ms)) (hall : keys.all (·.isSome) = true := by rfl) (hl : keys.length = values.length := by rfl) (h0 : keys ≠ [] := by intro z; cases z)
    (h15 : keys.length ≤ 15 := by decide) : PE X (.Dict keys values pos) (tFd C W (mDict ms)) :=
  pe_imp (pe_disp h hall hl h0 h15) fun σ H Q ⟨Gc, F, ps, R, q⟩ => by
    intro p n
    have g : Gc p = none := R.gh.free n
    have R1 : Rel C (upd Gc p (.dK [])) F (upd H p (.dK [])) ps σ := (R.fresh n).inG (R.loose n)
    have q' : Po C W (upd Gc p (.dK [])) σ (qFd C Gc σ Q) F (mDict ms ps) := by
      revert q
      cases mDict ms ps with
      | ok a ps' => exact fun q => q
      | exc e ps' => exact fun q F' H' cls dx s R' x => q F' H' cls dx s (R'.outG g).1 x
      | bad => exact fun q => q
    refine pairs_ok ms (P := qFd C Gc σ Q) qFd.mono R1 q' fun xs ps1 vs F1 H1 s1 R2 r1 r2 q1 => ?_
    obtain ⟨R3, l3⟩ := R2.outG g
    refine ⟨l3.h, ?_⟩
    cases ek : toKeys xs with
    | none => rw [ek] at q1; exact q1.elim
    | some kvs =>
      rw [ek] at q1
      dsimp only at q1
      by_cases hz : kvs.length ≤ 15
      · rw [if_pos hz] at q1
        obtain ⟨ks, g1, g2, g3, g4⟩ := toKeys_ok ek r1 r2
        obtain ⟨R4, l4⟩ := R3.looseSet (o' := .dK (mergeK [] ks)) l3
        obtain ⟨m1, m2⟩ := merge_rel (as := []) (ds := []) g3 g4 .nil rfl
        exact ⟨ks, g1, by rw [g2]; exact hz, q1 p _ F1 _ (Same.refl _) R4 l4 m1 m2⟩
      · rw [if_neg hz] at q1; exact q1.elim
def dctD (kvs : List (Key × D)) : D := .dict (kvs.map fun p => (kD p.1, p.2))
def mFzD (m : Ps → Out (List (Key × D))) : ME := fun ps => (m ps).bind fun ds ps1 => .ok (dctD ds) ps1
theorem seqFd {β : Type} {P : β → Ps → Hp → Prop} {Gc F H : Hp} {ps : Ps} {σ : St} {m : Ps → Out (List (Key × D))} {f : List (Key × D) → Ps → Out β} {Q : VK} (hP : Mono P) (R : Rel C Gc F H ps σ) (h : Po C W Gc σ P F ((m ps).bind f))
    (k : ∀ d ps' p kvs F' H', Same F F' → Rel C Gc F' H' ps' σ → Loose C Gc F' H' ps' σ p (.dK kvs) → RpA C F' (kvs.map (·.2)) (d.map (·.2)) → d.map (·.1) = kvs.map (·.1) → Po C W Gc σ P F' (f d ps') → Q (.ref p) H') : tFd C W m σ H Q := by
  refine ⟨Gc, F, ps, R, ?_⟩
  cases e : m ps with
  | ok d ps' => rw [e] at h; exact fun p xs F' H' s R' l r r2 => k d ps' p xs F' H' s R' l r r2 (h.mono hP s)
  | exc x ps' => rw [e] at h; exact h
  | bad => rw [e] at h; exact h
theorem xfzd {m : Ps → Out (List (Key × D))} (h : PE X e (tFd C W m)) : PE X e (tE C W (mFzD m)) := pe_imp h fun σ H Q ⟨Gc, F, ps, R, q⟩ =>
  seqFd qE.mono R q fun ds ps1 p xs F1 H1 s1 R1 l r r2 q1 => by
    refine q1 _ _ H1 (same_alloc l.f) (R1.frozen l) (.dct upd_same ?_ ?_)
    · have k1 : (ds.map fun p => (kD p.1, p.2)).map (·.2) = ds.map (·.2) := by rw [List.map_map]; rfl
      rw [k1]
      exact r.mono (same_alloc l.f)
    · have q2 : (ds.map (·.1)).map kD = (xs.map (·.1)).map kD := by rw [r2]
      rw [List.map_map, List.map_map] at q2
      rw [List.map_map]
      exact q2
/-- name = {..}, to be our own -/
def mOwnD (i : Nat) (m : Ps → Out (List (Key × D))) : MS := fun ps => (m ps).bindS fun ds ps1 => .next (ps1.setS i (.md ds))
theorem seqFdS {Gc F H : Hp} {ps : Ps} {σ : St} {m : Ps → Out (List (Key × D))} {f : List (Key × MM.D) → Ps → So} {D : Ends} {Q : VK} (R : Rel C Gc F H ps σ) (h : PoS C W Gc D F ((m ps).bindS f))
    (k : ∀ d ps' p kvs F' H', Same F F' → Rel C Gc F' H' ps' σ → Loose C Gc F' H' ps' σ p (.dK kvs) → RpA C F' (kvs.map (·.2)) (d.map (·.2)) → d.map (·.1) = kvs.map (·.1) → PoS C W Gc D F' (f d ps') → Q (.ref p) H') : tFd C W m σ H Q := by
  refine ⟨Gc, F, ps, R, ?_⟩
  cases e : m ps with
  | ok d ps' => rw [e] at h; exact fun p xs F' H' s R' l r r2 => k d ps' p xs F' H' s R' l r r2 (h.mono s)
  | exc x ps' => rw [e] at h; exact fun F' H' c d s => h σ F' H' c d s
  | bad => rw [e] at h; exact h
theorem xs_ownD {i : Nat} {x : Str} {m : Ps → Out (List (Key × D))} {pos' : Pos} (hN : X.N.Nodup) (hi : X.N[i]? = some x) (hx : Loc X.env.scope x) (he : PE X e (tFd C W m)) (hs : swapsWith e (some (.Name x pos')) pos.line X.env = pure false := by rfl) (hf : X.fn x = true ∨ X.env.scope.names.lookup x = some .local := by first | exact .inl rfl | exact .inr rfl | assumption) :
    PS X (.Assign [.Name x pos'] e pos) (tS C W (mOwnD i m)) :=
  ps_imp (ps_set hN hi hx he hs hf) fun D σ H ⟨Gc, F, ps, R, q⟩ => seqFdS R q fun ds ps1 p xs F1 H1 s1 R1 l r r2 q1 =>
    q1 _ F1 H1 (Same.refl _) (R1.setO l ⟨p, xs, rfl, l.h, l.f, l.g, r, r2⟩)
def mNewD : Ps → Out (List (Key × D)) := fun ps => .ok [] ps
theorem xdnewF : PE X (.Dict [] [] pos) (tFd C W mNewD) := pe_imp pe_dnewK fun σ H Q ⟨Gc, F, ps, R, q⟩ => fun p n => q p [] F _ (Same.refl _) (R.fresh n) (R.loose n) .nil rfl
end
end MM
namespace MM
open PySem PySem.Spec PyProof.Rows L2
/-! ### the deck -/
inductive DkF where
  | cells | seed | turn
/-- of which kind the deck is -/
def DkIs (C : Mc) (l : Bool) (s n : Str) : Prop := ∀ i, C.dk = some i → i.lst = l ∧ i.sn = s ∧ i.nm = n
def keyOf (l : Bool) (s n : Str) : DkF → V
  | .cells => if l = true then .int 0 else .str "cells"
  | .seed => if l = true then .int 1 else .str s
  | .turn => if l = true then .int 2 else .str n
def valOf (i : DkI) (k : Dk) : DkF → V
  | .cells => .ref i.c
  | .seed => .int k.seed
  | .turn => .int k.tn
section
variable {C : Mc} {Gc F H : Hp} {ps : Ps} {σ : St} {I : DkI}
theorem tup_ne {x : D} {xs : List D} {kvs : List (List Key × V)} (hx : ∀ t, x ≠ .tuple t) : x :: xs ≠ kvs.map (fun p => PyData.tuple (p.1.map kD)) := by
  intro h
  cases kvs with
  | nil => cases h
  | cons p kvs =>
    rw [List.map_cons] at h
    injection h with h5 _
    exact hx _ h5
theorem deck_at {i : Nat} {d : D} (R : Rel C Gc F H ps σ) (e : ps.sl[i]? = some (.fz d)) (h : isDk0 d = true) : ∃ I, C.dk = some I ∧ σ[i]? = some (some (.ref I.a)) ∧ DeckAt I F Gc H ps.dk := by
  obtain ⟨x, e1, r⟩ := R.sl i _ e
  have ed := isDeck_eq h
  subst ed
  generalize hd : deckD = d at r
  cases r with
  | deck hI => exact ⟨_, hI, e1, R.dk _ hI⟩
  | dct h1 h2 h3 =>
    rename_i kvs ds
    unfold deckD at hd
    injection hd with hd
    subst hd
    cases kvs with
    | nil => cases h3
    | cons p kvs =>
      rw [List.map_cons, List.map_cons] at h3
      injection h3 with h4 _
      have h5 : PyData.bool true = kD p.1 := h4
      cases hp : p.1 with
      | inl z => rw [hp] at h5; cases h5
      | inr z => rw [hp] at h5; cases h5
  | dcT h1 h2 h3 h4 =>
    rename_i kvs ds
    unfold deckD at hd
    injection hd with hd
    subst hd
    cases kvs with
    | nil => cases h4
    | cons p kvs =>
      rw [List.map_cons, List.map_cons] at h4
      injection h4 with h5 _
      cases h5
  | dz _ _ _ => simp [deckD] at hd
  | nt _ _ _ => simp [deckD] at hd
  | _ => cases hd
theorem dk_ix {K : PySem.W.Frag} {k : Dk} {l : Bool} {s n : Str} (f : DkF) {Q : VK} (h : H I.a = some (I.obj k)) (hl : I.lst = l) (hs : I.sn = s) (hn : I.nm = n) (q : Q (valOf I k f) H) : rIxAll K (.ref I.a) (keyOf l s n f) H Q := by
  subst hl hs hn
  unfold DkI.obj at h
  by_cases c : I.lst = true
  · rw [if_pos c] at h
    cases f with
    | cells => exact .inl (.inl ⟨_, _, 0, .ref I.c, rfl, by simp [keyOf, c], SqL.of h, rfl, q⟩)
    | seed => exact .inl (.inl ⟨_, _, 1, .int k.seed, rfl, by simp [keyOf, c], SqL.of h, rfl, q⟩)
    | turn => exact .inl (.inl ⟨_, _, 2, .int k.tn, rfl, by simp [keyOf, c], SqL.of h, rfl, q⟩)
  · rw [if_neg c] at h
    have k1 : ∀ {a b : Str}, a ≠ b → (Sum.inr a : Key) ≠ Sum.inr b := fun h z => h (Sum.inr.inj z)
    cases f with
    | cells =>
      refine .inr ⟨_, .ref I.c, rfl, ?_, q⟩
      have e : keyOf I.lst I.sn I.nm .cells = kV (.inr "cells") := by simp [keyOf, c, kV]
      rw [e, ← valV_pos (p := ((Sum.inr "cells" : Key), V.ref I.c)) (r := [(.inr I.sn, .int k.seed), (.inr I.nm, .int k.tn)]) (k := (Sum.inr "cells" : Key)) rfl]
      exact DGet.k h
    | seed =>
      refine .inr ⟨_, .int k.seed, rfl, ?_, q⟩
      have e : keyOf I.lst I.sn I.nm .seed = kV (.inr I.sn) := by simp [keyOf, c, kV]
      have v : valV [((Sum.inr "cells" : Key), V.ref I.c), (.inr I.sn, .int k.seed), (.inr I.nm, .int k.tn)] (.inr I.sn) = some (.int k.seed) := by
        rw [valV_neg (k1 I.h1.symm), valV_pos rfl]
      rw [e, ← v]
      exact DGet.k h
    | turn =>
      refine .inr ⟨_, .int k.tn, rfl, ?_, q⟩
      have e : keyOf I.lst I.sn I.nm .turn = kV (.inr I.nm) := by simp [keyOf, c, kV]
      have v : valV [((Sum.inr "cells" : Key), V.ref I.c), (.inr I.sn, .int k.seed), (.inr I.nm, .int k.tn)] (.inr I.nm) = some (.int k.tn) := by
        rw [valV_neg (k1 I.h2.symm), valV_neg (k1 I.h3.symm), valV_pos rfl]
      rw [e, ← v]
      exact DGet.k h
theorem dk_ne (d : DeckAt I F Gc H ps.dk) : I.c ≠ I.a := by
  intro z
  have h1 := d.d
  have h2 := d.l
  rw [z] at h2
  rw [h1] at h2
  unfold DkI.obj at h2
  split at h2
  · have h3 := Option.some.inj h2
    injection h3 with h3
    cases hc : ps.dk.cells with
    | nil => rw [hc] at h3; cases h3
    | cons x xs => rw [hc] at h3; cases h3
  · cases h2
/-- the deck's own object changes -/
theorem Rel.dkSet {k' : Dk} (R : Rel C Gc F H ps σ) (hI : C.dk = some I) (hc : k'.cells = ps.dk.cells) : Rel C Gc F (upd H I.a (I.obj k')) ⟨ps.sl, k'⟩ σ := by
  have d := R.dk I hI
  have kp : ∀ b u, b ≠ I.a → H b = some u → (upd H I.a (I.obj k')) b = some u := fun b u hb q => by rw [upd_ne hb]; exact q
  refine ⟨fun b u q => kp b u (fun z => by rw [z, d.fa] at q; cases q) (R.fh _ _ q), fun b u q => kp b u (fun z => by rw [z, d.ga] at q; cases q) (R.gh _ _ q), R.dj, R.len, fun j t q => ?_, R.ow, fun x hx => ?_, R.od⟩
  · have z := R.sl j t q
    cases t with
    | no => trivial
    | fz d => exact z
    | ml ds =>
      obtain ⟨b, xs, h1, h2, h3, h4, h5⟩ := z
      exact ⟨b, xs, h1, kp b _ (R.od I hI j b (own_at q rfl h1)).1 h2, h3, h4, h5⟩
    | md ds =>
      obtain ⟨b, xs, h1, h2, h3, h4, h5, h6⟩ := z
      exact ⟨b, xs, h1, kp b _ (R.od I hI j b (own_at q rfl h1)).1 h2, h3, h4, h5, h6⟩
    | mt ds =>
      obtain ⟨b, xs, h1, h2, h3, h4, h5, h6⟩ := z
      exact ⟨b, xs, h1, kp b _ (R.od I hI j b (own_at q rfl h1)).1 h2, h3, h4, h5, h6⟩
  · rw [hI] at hx
    cases hx
    exact ⟨upd_same, kp _ _ (dk_ne d) (by rw [hc]; exact d.l), d.fa, d.fc, d.ga, d.gc⟩
/-- its cells change -/
theorem Rel.dkCells {cs : List Int} (R : Rel C Gc F H ps σ) (hI : C.dk = some I) : Rel C Gc F (upd H I.c (.lst (cs.map V.int))) ⟨ps.sl, ⟨cs, ps.dk.seed, ps.dk.tn⟩⟩ σ := by
  have d := R.dk I hI
  have kp : ∀ b u, b ≠ I.c → H b = some u → (upd H I.c (.lst (cs.map V.int))) b = some u := fun b u hb q => by rw [upd_ne hb]; exact q
  refine ⟨fun b u q => kp b u (fun z => by rw [z, d.fc] at q; cases q) (R.fh _ _ q), fun b u q => kp b u (fun z => by rw [z, d.gc] at q; cases q) (R.gh _ _ q), R.dj, R.len, fun j t q => ?_, R.ow, fun x hx => ?_, R.od⟩
  · have z := R.sl j t q
    cases t with
    | no => trivial
    | fz d => exact z
    | ml ds =>
      obtain ⟨b, xs, h1, h2, h3, h4, h5⟩ := z
      exact ⟨b, xs, h1, kp b _ (R.od I hI j b (own_at q rfl h1)).2 h2, h3, h4, h5⟩
    | md ds =>
      obtain ⟨b, xs, h1, h2, h3, h4, h5, h6⟩ := z
      exact ⟨b, xs, h1, kp b _ (R.od I hI j b (own_at q rfl h1)).2 h2, h3, h4, h5, h6⟩
    | mt ds =>
      obtain ⟨b, xs, h1, h2, h3, h4, h5, h6⟩ := z
      exact ⟨b, xs, h1, kp b _ (R.od I hI j b (own_at q rfl h1)).2 h2, h3, h4, h5, h6⟩
  · rw [hI] at hx
    cases hx
    exact ⟨kp _ _ (dk_ne d).symm d.d, upd_same, d.fa, d.fc, d.ga, d.gc⟩
end
def deckAt? (ps : Ps) (i : Nat) : Bool := match ps.sl[i]? with
  | some (.fz d) => isDk0 d
  | _ => false
theorem deckAt_eq {ps : Ps} {i : Nat} (h : deckAt? ps i = true) : ∃ d, ps.sl[i]? = some (.fz d) ∧ isDk0 d = true := by
  unfold deckAt? at h
  split at h
  · rename_i d e; exact ⟨d, e, h⟩
  · cases h
def dkNum (k : Dk) : DkF → Option Int
  | .cells => none
  | .seed => some k.seed
  | .turn => some k.tn
/-- d["seed"], d["at"] -/
def mDk (i : Nat) (f : DkF) : ME := fun ps => if deckAt? ps i = true then (Out.of (dkNum ps.dk f) ps).bind fun n ps => .ok (.int n) ps else .bad
def dkPut (k : Dk) (f : DkF) (n : Int) : Option Dk := match f with
  | .cells => none
  | .seed => some ⟨k.cells, n, k.tn⟩
  | .turn => some ⟨k.cells, k.seed, n⟩
def mDkPut (i : Nat) (f : DkF) (a : ME) : MS := fun ps => (a ps).bindS fun v ps1 => if deckAt? ps1 i = true then (match dInt v with
  | some n => match dkPut ps1.dk f n with
    | some k => .next ⟨ps1.sl, k⟩
    | none => .bad
  | none => .bad) else .bad
def mDkNe (i : Nat) : ME := fun ps => if deckAt? ps i = true then .ok (.bool (!ps.dk.cells.isEmpty)) ps else .bad
def mDkPop (i : Nat) : ME := fun ps => if deckAt? ps i = true then (match ps.dk.cells.getLast? with
  | some n => .ok (.int n) ⟨ps.sl, ⟨ps.dk.cells.dropLast, ps.dk.seed, ps.dk.tn⟩⟩
  | none => .bad) else .bad
def mDkApp (i : Nat) (a : ME) : ME := fun ps => if deckAt? ps i = true then (a ps).bind fun v ps1 => (if deckAt? ps1 i = true then (match dInt v with
  | some n => if ps1.dk.cells.length < sizeLine then .ok .none ⟨ps1.sl, ⟨ps1.dk.cells ++ [n], ps1.dk.seed, ps1.dk.tn⟩⟩ else .bad
  | none => .bad) else .bad) else .bad
theorem ints_shaped (ns : List Int) : SeqAt.shaped (.list (ns.map .int)) = true := by
  have h1 : PyData.canLayAll0 (ns.map .int) = true := by
    induction ns with
    | nil => rfl
    | cons n ns ih => simp [PyData.canLayAll0, PyData.canLay0, ih]
  have h2 : PyData.depthAll (ns.map .int) ≤ 1 := by
    clear h1
    induction ns with
    | nil => simp [PyData.depthAll]
    | cons n ns ih =>
      simp only [List.map_cons, PyData.depthAll, PyData.depth]
      omega
  unfold SeqAt.shaped
  rw [Bool.and_eq_true]
  refine ⟨by simp only [PyData.canLay0]; exact h1, decide_eq_true ?_⟩
  simp only [PyData.depth]
  omega
section
variable {X : Cx} {C : Mc} {W : WX} {a b e o kx : Expr} {pos p1 apos cpos : Pos} {l : Bool} {s n : Str}
theorem xdk {i : Nat} (f : DkF) (hu : X.A.units + 1 < cLine) (hD : DkIs C l s n) (ho : PE X o (tVar i)) (hk : PE X kx (tC (keyOf l s n f))) (hs : PlainIx kx) : PE X (.Subscript o kx pos) (tE C W (mDk i f)) :=
  pe_imp (pe_ix (ix_all hu) ho hk hs) fun σ H Q ⟨Gc, F, ps, R, q⟩ => by
    unfold mDk at q
    by_cases h : deckAt? ps i = true
    · rw [if_pos h] at q
      obtain ⟨d, e1, e2⟩ := deckAt_eq h
      obtain ⟨I, hI, hv, da⟩ := deck_at R e1 e2
      obtain ⟨g1, g2, g3⟩ := hD I hI
      refine ⟨_, hv, dk_ix f da.d g1 g2 g3 ?_⟩
      cases f with
      | cells => exact q.elim
      | seed => exact q _ F H (Same.refl _) R (.int _)
      | turn => exact q _ F H (Same.refl _) R (.int _)
    · rw [if_neg h] at q; exact q.elim
theorem xs_dkput {i : Nat} {ma : ME} (f : DkF) (hu : X.A.units + 1 < cLine) (hD : DkIs C false s n) (ho : PE X o (tVar i)) (hk : PE X kx (tC (keyOf false s n f))) (hv : PE X e (tE C W ma)) (hs : swapsWith e (some (.Subscript o kx p1)) pos.line X.env = pure false := by rfl) :
    PS X (.Assign [.Subscript o kx p1] e pos) (tS C W (mDkPut i f ma)) :=
  ps_imp (ps_dput hu ho hk hv hs) fun D σ H ⟨Gc, F, ps, R, q⟩ => seqES R q fun v ps1 vv F1 H1 s1 R1 r1 q1 => by
    by_cases h : deckAt? ps1 i = true
    · rw [if_pos h] at q1
      obtain ⟨d, e1, e2⟩ := deckAt_eq h
      obtain ⟨I, hI, hv, da⟩ := deck_at R1 e1 e2
      obtain ⟨g1, g2, g3⟩ := hD I hI
      cases v with
      | int m =>
        cases r1
        have k1 : ∀ {a b : Str}, a ≠ b → (Sum.inr a : Key) ≠ Sum.inr b := fun h z => h (Sum.inr.inj z)
        have dd := da.d
        unfold DkI.obj at dd
        rw [if_neg (by rw [g1]; decide)] at dd
        have big : 3 < sizeLine := by rw [sizeLine_eq]; decide
        cases f with
        | cells => exact q1.elim
        | seed =>
          have q2 : PoS C W Gc D F1 (.next ⟨ps1.sl, ⟨ps1.dk.cells, m, ps1.dk.tn⟩⟩) := q1
          refine ⟨_, hv, I.a, _, rfl, DPut.k (k := .inr s) dd big, ?_⟩
          have ep : putK [((Sum.inr "cells" : Key), V.ref I.c), (.inr I.sn, .int ps1.dk.seed), (.inr I.nm, .int ps1.dk.tn)] (.inr s) (.int m) = [((Sum.inr "cells" : Key), V.ref I.c), (.inr I.sn, .int m), (.inr I.nm, .int ps1.dk.tn)] := by
            subst g2
            have a1 : (Sum.inr "cells" : Key) ≠ .inr I.sn := k1 I.h1.symm
            have a2 : (Sum.inr I.nm : Key) ≠ .inr I.sn := k1 I.h3
            simp [putK, a1, a2]
          rw [ep]
          have eo : HO.dK [((Sum.inr "cells" : Key), V.ref I.c), (.inr I.sn, .int m), (.inr I.nm, .int ps1.dk.tn)] = I.obj ⟨ps1.dk.cells, m, ps1.dk.tn⟩ := by
            unfold DkI.obj; rw [if_neg (by rw [g1]; decide)]
          rw [eo]
          exact q2 σ F1 _ (Same.refl _) (R1.dkSet hI rfl)
        | turn =>
          have q2 : PoS C W Gc D F1 (.next ⟨ps1.sl, ⟨ps1.dk.cells, ps1.dk.seed, m⟩⟩) := q1
          refine ⟨_, hv, I.a, _, rfl, DPut.k (k := .inr n) dd big, ?_⟩
          have ep : putK [((Sum.inr "cells" : Key), V.ref I.c), (.inr I.sn, .int ps1.dk.seed), (.inr I.nm, .int ps1.dk.tn)] (.inr n) (.int m) = [((Sum.inr "cells" : Key), V.ref I.c), (.inr I.sn, .int ps1.dk.seed), (.inr I.nm, .int m)] := by
            subst g3
            have a1 : (Sum.inr "cells" : Key) ≠ .inr I.nm := k1 I.h2.symm
            have a2 : (Sum.inr I.sn : Key) ≠ .inr I.nm := k1 I.h3.symm
            simp [putK, a1, a2]
          rw [ep]
          have eo : HO.dK [((Sum.inr "cells" : Key), V.ref I.c), (.inr I.sn, .int ps1.dk.seed), (.inr I.nm, .int m)] = I.obj ⟨ps1.dk.cells, ps1.dk.seed, m⟩ := by
            unfold DkI.obj; rw [if_neg (by rw [g1]; decide)]
          rw [eo]
          exact q2 σ F1 _ (Same.refl _) (R1.dkSet hI rfl)
      | _ => exact q1.elim
    · rw [if_neg h] at q1; exact q1.elim
theorem eqv_nil (ns : List Int) : PyData.eqv (.list (ns.map .int)) (.list []) = ns.isEmpty := by
  cases ns with
  | nil => rfl
  | cons x xs => simp [PyData.eqv, PyData.eqvAll]
theorem dkne_ok (hK : C.K = X.K) {i : Nat} (hD : DkIs C l s n) {σ : St} {H : Hp} {Q : VK} (h : tE C W (mDkNe i) σ H Q) :
    tOp (rNeD X.K) (tOp (rIxAll X.K) (tVar i) (tC (keyOf l s n .cells))) (tLst tNil) σ H Q := by
  obtain ⟨Gc, F, ps, R, q⟩ := h
  unfold mDkNe at q
  by_cases h : deckAt? ps i = true
  · rw [if_pos h] at q
    obtain ⟨d, e1, e2⟩ := deckAt_eq h
    obtain ⟨I, hI, hv, da⟩ := deck_at R e1 e2
    obtain ⟨g1, g2, g3⟩ := hD I hI
    refine ⟨_, hv, dk_ix .cells da.d g1 g2 g3 ⟨Nat.zero_le _, fun p np => ?_⟩⟩
    have nc : I.c ≠ p := ne_of_none da.l np
    refine ⟨.list (ps.dk.cells.map .int), .list [], .lst (SqL.of (by rw [upd_ne nc]; exact da.l)) ((RpA.of_ints (C := C) (F := F) _).dp R.fh (by
      have := lay_of (ints_shaped ps.dk.cells)
      simpa only [PyData.canLay0] using this) |> fun z => ?_), .lst (SqL.of upd_same) .nil, ints_shaped _, by decide, ?_⟩
    · have z2 := (RpA.of_ints (C := C) (F := F) ps.dk.cells).dp (H := upd H p (.lst [])) (fun b u q => by rw [upd_ne (ne_of_none (R.fh _ _ q) np)]; exact R.fh _ _ q) (by
        have := lay_of (ints_shaped ps.dk.cells)
        simpa only [PyData.canLay0] using this)
      rw [hK] at z2
      exact z2
    · show Q (.bl (!PyData.eqv (.list (ps.dk.cells.map .int)) (.list []))) (upd H p (.lst []))
      rw [eqv_nil]
      exact q _ F _ (Same.refl _) (R.fresh np) (.bl _)
  · rw [if_neg h] at q; exact q.elim
theorem xdk_ne {i : Nat} {p2 p3 : Pos} (hu : X.A.units + 64 < cLine) (hK : C.K = X.K) (hD : DkIs C l s n) (ho : PE X o (tVar i)) (hk : PE X kx (tC (keyOf l s n .cells))) (hs : PlainIx kx) : PE X (.Compare (.Subscript o kx p2) [.NotEq] [.List [] p3] pos) (tE C W (mDkNe i)) :=
  pe_imp (pe_cmpR (op_neD hu) (pe_ix (ix_all (by omega)) ho hk hs) (pe_lst pa_nil) (nomark _)) fun _ _ _ h => dkne_ok hK hD h
theorem xt_dk_ne {i : Nat} {p2 p3 : Pos} (hu : X.A.units + 64 < cLine) (hK : C.K = X.K) (hD : DkIs C l s n) (ho : PE X o (tVar i)) (hk : PE X kx (tC (keyOf l s n .cells))) (hs : PlainIx kx) : PT X (.Compare (.Subscript o kx p2) [.NotEq] [.List [] p3] pos) (tT C W (mTst (mDkNe i))) :=
  pt_imp (pt_cmpR (op_neD hu) (pe_ix (ix_all (by omega)) ho hk hs) (pe_lst pa_nil) (nomark _)) fun _ _ _ h => dkne_ok hK hD (tst_ok h)
theorem last_map {ns : List Int} {m : Int} (h : ns.getLast? = some m) : (ns.map V.int)[(ns.map V.int).length - 1]? = some (.int m) := by
  rw [List.getLast?_eq_getElem?] at h
  rw [List.length_map, List.getElem?_map, h]
  rfl
theorem xdk_pop {i : Nat} {p2 : Pos} (hu : X.A.units + 1 < cLine) (hD : DkIs C l s n) (ho : PE X o (tVar i)) (hk : PE X kx (tC (keyOf l s n .cells))) (hs : PlainIx kx)
    (hbase : attributeBase (.Subscript o kx p2) "pop" X.env (eval (.Subscript o kx p2) X.env) = eval (.Subscript o kx p2) X.env := by rfl) (hline : (apos.endLine == cpos.line) = true := by rfl) :
    PE X (.Call (.Attribute (.Subscript o kx p2) "pop" apos) [] [] cpos) (tE C W (mDkPop i)) :=
  pe_imp (pe_bm0 PySem.F.plainAttrs_list PySem.F.slot_list_pop PySem.F.type_list_pop mt_pop (pe_ix (ix_all hu) ho hk hs) hbase hline) fun σ H Q ⟨Gc, F, ps, R, q⟩ => by
    unfold mDkPop at q
    by_cases h : deckAt? ps i = true
    · rw [if_pos h] at q
      obtain ⟨d, e1, e2⟩ := deckAt_eq h
      obtain ⟨I, hI, hv, da⟩ := deck_at R e1 e2
      obtain ⟨g1, g2, g3⟩ := hD I hI
      refine ⟨_, hv, dk_ix .cells da.d g1 g2 g3 ⟨.inl ⟨rfl, _, SqL.of da.l⟩, ?_⟩⟩
      cases el : ps.dk.cells.getLast? with
      | none => rw [el] at q; exact q.elim
      | some m =>
        rw [el] at q
        refine ⟨I.c, _, .int m, rfl, rfl, da.l, last_map el, ?_⟩
        rw [← List.map_dropLast]
        exact q _ F _ (Same.refl _) (R.dkCells hI) (.int _)
    · rw [if_neg h] at q; exact q.elim
theorem xdk_app {i : Nat} {p2 : Pos} {ma : ME} (hu : X.A.units + 1 < cLine) (hD : DkIs C l s n) (ho : PE X o (tVar i)) (hk : PE X kx (tC (keyOf l s n .cells))) (hs : PlainIx kx) (ha : PE X e (tE C W ma))
    (hbase : attributeBase (.Subscript o kx p2) "append" X.env (eval (.Subscript o kx p2) X.env) = eval (.Subscript o kx p2) X.env := by rfl)
    (hfew : ((backTo cpos (starEach (e :: []) X.env)).all (fun x => !x.1) && (backToKw cpos (keywordEach [] X.env)).all (fun x => x.1.isSome)
      && decide ((e :: ([] : List Expr)).length + ([] : List Keyword).length + (if ([] : List Keyword).isEmpty then 0 else 1) < 30)) = true := by rfl)
    (hline : (apos.endLine == cpos.line) = true := by rfl) (hs1 : starEach (e :: []) X.env = (false, eval e X.env) :: starEach [] X.env := by rfl) (hplain : (backTo cpos (starEach [] X.env)).any (·.1) = false := by rfl) :
    PE X (.Call (.Attribute (.Subscript o kx p2) "append" apos) [e] [] cpos) (tE C W (mDkApp i ma)) :=
  pe_imp (pe_bm PySem.F.plainAttrs_list PySem.F.slot_list_append PySem.F.type_list_append mt_append (pe_ix (ix_all hu) ho hk hs) (pa_cons ha pa_nil hs1) hbase hfew hline hs1 hplain) fun σ H Q ⟨Gc, F, ps, R, q⟩ => by
    unfold mDkApp at q
    by_cases h : deckAt? ps i = true
    · rw [if_pos h] at q
      obtain ⟨d, e1, e2⟩ := deckAt_eq h
      obtain ⟨I, hI, hv, da⟩ := deck_at R e1 e2
      obtain ⟨g1, g2, g3⟩ := hD I hI
      refine ⟨_, hv, dk_ix .cells da.d g1 g2 g3 ⟨.inl ⟨rfl, _, SqL.of da.l⟩, ?_⟩⟩
      show tE C W ma σ H fun x H1 => rAppend (.ref I.c) [x] H1 Q
      refine seqE qE.mono R q fun v ps1 vv F1 H1 s1 R1 r1 q1 => ?_
      by_cases h2 : deckAt? ps1 i = true
      · rw [if_pos h2] at q1
        have da1 := R1.dk I hI
        cases v with
        | int m =>
          cases r1
          have q2 : Po C W Gc σ (qE C Gc σ Q) F1 (if ps1.dk.cells.length < sizeLine then .ok .none ⟨ps1.sl, ⟨ps1.dk.cells ++ [m], ps1.dk.seed, ps1.dk.tn⟩⟩ else .bad) := q1
          by_cases hl : ps1.dk.cells.length < sizeLine
          · rw [if_pos hl] at q2
            refine ⟨I.c, _, .int m, rfl, rfl, da1.l, by rw [List.length_map]; exact hl, ?_⟩
            have e : ps1.dk.cells.map V.int ++ [V.int m] = (ps1.dk.cells ++ [m]).map V.int := by rw [List.map_append]; rfl
            rw [e]
            exact q2 _ F1 _ (Same.refl _) (R1.dkCells hI) .non
          · rw [if_neg hl] at q2; exact q2.elim
        | _ => exact q1.elim
      · rw [if_neg h2] at q1; exact q1.elim
    · rw [if_neg h] at q; exact q.elim
end
end MM
namespace MM
open PySem PySem.Spec PyProof.Rows L2
/-! ### the def that takes the script -/
def spScr (C : Mc) (f : MF) : Sp := fun vs H Q _ => ∃ (a : Addr) (ns : List Int) (Gc F : Hp) (k : Dk), vs = [.ref a] ∧ SqL C.K H a (ns.map V.int) ∧ ns.length ≤ 63 ∧ Rel C Gc F H ⟨[], k⟩ [] ∧ PoF C none Gc Q F (f [.list (ns.map .int)] k)
def tScr (C : Mc) (i : Nat) (m : MS) : TS := fun D σ H => ∃ (a : Addr) (ns : List Int) (Gc F : Hp) (ps : Ps), σ[0]? = some (some (.ref a)) ∧ SqL C.K H a (ns.map V.int) ∧ ns.length ≤ 63 ∧ Rel C Gc F H ps σ ∧ PoS C W0 Gc D F (m (ps.setS i (.fz (.list (ns.map .int)))))
/-- cells = list(script[:63]), then the rest -/
theorem xss_scr {X : Cx} {C : Mc} {i : Nat} {st : Stmt} {rest : List Stmt} {m : MS} (hK : C.K = X.K)
    (h1 : PS X st (tAsg (tCB (fun xs H Q => ∃ p ys, xs = [.ref p] ∧ (SqL X.K H p ys ∨ SqT X.K H p ys) ∧ ∀ l, H l = none → Q (.ref l) (upd H l (.lst ys))) (tCons (tSl (rSlL X.K) (tVar 0) tNoPart (tPart (tC (.int 63)))) tNil)) (gName i)))
    (h2 : PSs X rest (tS C W0 m)) : PSs X (st :: rest) (tScr C i m) :=
  pss_imp (pss_cons h1 h2) fun D σ H ⟨a, ns, Gc, F, ps, e0, hS, hl, R, q⟩ => by
    refine ⟨.ref a, e0, 63, rfl, a, _, rfl, by rw [← hK]; exact hS, fun p np => ?_⟩
    have ec : cutV (ns.map V.int) none (some 63) = ns.map V.int := by
      unfold cutV
      have e1 : HT.sIx (ns.map V.int).length (ns.map V.int).length (some 63) = ns.length := by
        rw [show (63 : Int) = ((63 : Nat) : Int) from rfl, HT.sIx_nat, List.length_map]
        omega
      rw [e1, HT.sIx_none, List.drop_zero, Nat.sub_zero, List.take_of_length_le]
      rw [List.length_map]; exact Nat.le_refl _
    rw [ec]
    have R1 := R.fresh (p := p) (o := .lst (ns.map V.int)) np
    refine ⟨p, _, rfl, .inl (SqL.of upd_same), fun q' nq => ?_⟩
    have nf : F q' = none := R1.fh.free nq
    have R2 := R1.alloc (p := q') (o := .lst (ns.map V.int)) nq
    refine ⟨Gc, _, _, R2.set (i := i) (d := .list (ns.map .int)) (.lst upd_same (RpA.of_ints ns)), ?_⟩
    exact q.mono (same_alloc nf)
def mFunS (n i : Nat) (body : MS) : MF := fun ds k => match ds with
  | [.list xs] => (match body ⟨(List.replicate n Sl.no).set i (.fz (.list xs)), k⟩ with
    | .ret d ps => .ret d ps.dk
    | .next ps => .ret .none ps.dk
    | .exc e ps => .exc e ps.dk
    | _ => .bad)
  | _ => .bad
theorem rel_no {C : Mc} {Gc F H : Hp} {k : Dk} {n : Nat} {σ : St} (R : Rel C Gc F H ⟨[], k⟩ []) (hn : σ.length = n) : Rel C Gc F H ⟨List.replicate n Sl.no, k⟩ σ := by
  have hm : ∀ (j : Nat) (s : Sl), (List.replicate n Sl.no)[j]? = some s → s = .no := fun j s e => (List.mem_replicate.mp (List.mem_of_getElem? e)).2
  refine ⟨R.fh, R.gh, R.dj, by rw [List.length_replicate]; exact hn, fun j s e => ?_, fun j k p a _ => ?_, R.dk, fun i hi j p a => ?_⟩
  · rw [hm j s e]; trivial
  · obtain ⟨⟨s, e, m⟩, _⟩ := a; rw [hm j s e] at m; cases m
  · obtain ⟨⟨s, e, m⟩, _⟩ := a; rw [hm j s e] at m; cases m
section
variable {P : Program} {w : World} {K : PySem.W.Frag} {mg : Str → Option Value} {base : Heap}
theorem fn_scr {x qual p : Str} {st : Stmt} {f : Addr} {fd : FuncData} {N : List Str} {k i : Nat} {C : Mc} {mb : MS} (F : Fun K x qual st f fd) (S : FnScope N [p] (defScope st))
    (hbody : ∀ (cdv : Value) (A : Around) (outer : List Env) (s : Shared) (H : Hp) (E : XK), Room k (A.deeper (envOfC qual (defScope st) s.heap.objs.size f cdv)) →
      PSs (cxOf CX0 P w K mg base N qual (defScope st) f cdv A outer s H E).nox (defBody st) (tScr C i mb)) (hNl : 1 ≤ N.length := by decide) : FnOk P w K mg base CX0 (k + 1) f fd [p] (spScr C (mFunS N.length i mb)) := by
  refine F.ok S (fun vs H Q E h => ?_) (fun cdv A outer s H vs Q E hr h => ?_)
  · obtain ⟨a, ns, Gc, Fz, k', rfl, _⟩ := h
    rfl
  · obtain ⟨a, ns, Gc, Fz, k', rfl, hS, hl, R, q⟩ := h
    have hlen : (L2.start N [V.ref a]).length = N.length := by
      simp only [L2.start, List.length_append, List.length_map, List.length_replicate, List.length_cons, List.length_nil]
      omega
    refine ⟨_, hbody cdv A outer s H E hr, a, ns, Gc, Fz, ⟨List.replicate N.length .no, k'⟩, rfl, hS, hl, rel_no R hlen, ?_⟩
    have q2 : PoF C none Gc Q Fz (match mb ⟨(List.replicate N.length Sl.no).set i (.fz (.list (ns.map .int))), k'⟩ with
      | .ret d ps => .ret d ps.dk
      | .next ps => .ret .none ps.dk
      | .exc e ps => .exc e ps.dk
      | _ => .bad) := q
    show PoS C W0 Gc _ Fz (mb ⟨(List.replicate N.length Sl.no).set i (.fz (.list (ns.map .int))), k'⟩)
    cases z : mb ⟨(List.replicate N.length Sl.no).set i (.fz (.list (ns.map .int))), k'⟩ with
    | next ps => rw [z] at q2; exact fun σ' F' H' s R' => q2 .non F' H' s R'.drop .non
    | ret d ps => rw [z] at q2; exact fun v σ' F' H' s R' r' => q2 v F' H' s R'.drop r'
    | brk ps => rw [z] at q2; exact q2.elim
    | cont ps => rw [z] at q2; exact q2.elim
    | exc e ps => rw [z] at q2; exact q2.elim
    | bad => rw [z] at q2; exact q2.elim
end
/-! ### the law -/
def mc0 (K : PySem.W.Frag) : Mc := ⟨K, none, fun _ _ _ _ _ => False⟩
def deckDict (s n : Str) (k : Dk) : D := .dict [(.str "cells", .list (k.cells.map .int)), (.str s, .int k.seed), (.str n, .int k.tn)]
def k00 : Dk := ⟨[], 0, 0⟩
def spLaw (K : PySem.W.Frag) : Sp := fun vs H Q _ => ∃ (a : Addr) (ns : List Int), vs = [.ref a] ∧ SqL K H a (ns.map V.int) ∧ ns.length ≤ 63 ∧ ∀ H', Q (.bl true) H'
/-- what the law's own run tells -/
def LawRuns (mD : MF) (n i : Nat) (s t : Str) (mb : MS) : Prop := ∀ ns : List Int, ns.length ≤ 63 → ∃ k k' ps', mD [.list (ns.map .int)] k00 = .ret (deckDict s t k) k' ∧ mb ⟨(List.replicate n Sl.no).set i (.fz deckD), k⟩ = .ret (.bool true) ps'
section
variable {X : Cx} {st : Stmt} {rest : List Stmt} {i : Nat} {s t : Str} {mD : MF} {mb : MS}
def tRest (K : PySem.W.Frag) (s t : Str) (mb : MS) : TS := fun D σ H => ∃ C : Mc, C.K = K ∧ DkIs C false s t ∧ tS C W0 mb D σ H
theorem xss_rest (h : ∀ C : Mc, C.K = X.K → DkIs C false s t → PSs X rest (tS C W0 mb)) : PSs X rest (tRest X.K s t mb) :=
  ⟨fun pins s0 σ H D I ⟨C, e1, e2, q⟩ => (h C e1 e2).run pins s0 σ H D I q⟩
theorem none_rel {K : PySem.W.Frag} {H : Hp} {k : Dk} : Rel (mc0 K) (fun _ => none) (fun _ => none) H ⟨[], k⟩ [] :=
  ⟨fun _ _ h => (nomatch h), fun _ _ h => (nomatch h), fun _ _ h => (nomatch h), rfl, fun i s e => by simp at e, fun i j p ⟨⟨s, e, _⟩, _⟩ _ => by simp at e, fun i h => (nomatch h), fun i h => (nomatch h)⟩
theorem kD_str {k : Key} {x : Str} (h : PyData.str x = kD k) : k = .inr x := by
  cases k with
  | inl z => cases h
  | inr z => cases h; rfl
theorem law_reads (h1 : s ≠ "cells") (h2 : t ≠ "cells") (h3 : t ≠ s) {D : Ends} {σ : St} {H : Hp} {n : Nat} {a : Addr} {ns : List Int} (hn : σ.length = n) (e0 : σ[0]? = some (some (.ref a))) (hS : SqL X.K H a (ns.map V.int)) (hl : ns.length ≤ 63)
    (hr : LawRuns mD n i s t mb) (hq : ∀ H', D.rt (.bl true) H') : tSeq (tAsg (tCall (spScr (mc0 X.K) mD) [] E0 (tCons (tVar 0) tNil)) (gName i)) (tRest X.K s t mb) D σ H := by
  obtain ⟨k, k', ps', d1, d2⟩ := hr ns hl
  refine ⟨.ref a, e0, ?_⟩
  show spScr (mc0 X.K) mD ([V.ref a] ++ []) H _ E0
  refine ⟨a, ns, fun _ => none, fun _ => none, k00, rfl, hS, hl, none_rel, ?_⟩
  rw [d1]
  intro v F' H' _ R' r
  generalize hd : deckDict s t k = d at r
  cases r with
  | dct f1 r1 r2 =>
    rename_i p kvs ds
    unfold deckDict at hd
    injection hd with hd
    subst hd
    match kvs, r1, r2 with
    | [x1, x2, x3], .cons y1 (.cons y2 (.cons y3 .nil)), r2 =>
      rw [List.map_cons, List.map_cons, List.map_cons, List.map_cons, List.map_cons, List.map_cons] at r2
      injection r2 with z1 r2
      injection r2 with z2 r2
      injection r2 with z3 r2
      have w1 := kD_str z1
      have w2 := kD_str z2
      have w3 := kD_str z3
      obtain ⟨x1k, x1v⟩ := x1
      obtain ⟨x2k, x2v⟩ := x2
      obtain ⟨x3k, x3v⟩ := x3
      simp only at w1 w2 w3
      subst w1; subst w2; subst w3
      cases y2 with
      | int _ =>
        cases y3 with
        | int _ =>
          cases y1 with
          | lst g1 g2 =>
            rename_i c xs
            have ex := g2.ints
            subst ex
            let I : DkI := ⟨p, c, false, s, t, h1, h2, h3⟩
            refine ⟨⟨X.K, some I, fun _ _ _ _ _ => False⟩, rfl, fun i' hi => by cases hi; exact ⟨rfl, rfl, rfl⟩, fun _ => none, fun _ => none, ⟨(List.replicate n Sl.no).set i (.fz deckD), k⟩, ?_, ?_⟩
            · have hm : ∀ (j : Nat) (s' : Sl), ((List.replicate n Sl.no).set i (.fz deckD))[j]? = some s' → s' = .no ∨ (j = i ∧ s' = .fz deckD) := fun j s' e => by
                by_cases hj : j = i
                · subst hj
                  rw [List.getElem?_set] at e
                  simp only [if_pos] at e
                  split at e
                  · cases e; exact .inr ⟨rfl, rfl⟩
                  · cases e
                · rw [List.getElem?_set_ne (Ne.symm hj)] at e
                  exact .inl (List.mem_replicate.mp (List.mem_of_getElem? e)).2
              have nown : ∀ {σ : St} {j : Nat} {b : Addr}, ¬ Own ((List.replicate n Sl.no).set i (.fz deckD)) σ j b := fun {σ j b} ⟨⟨s', e, m⟩, _⟩ => by
                rcases hm j s' e with z | ⟨_, z⟩
                · rw [z] at m; cases m
                · rw [z] at m; cases m
              refine ⟨fun _ _ h => (nomatch h), fun _ _ h => (nomatch h), fun _ _ h => (nomatch h), by rw [List.length_set, List.length_set, List.length_replicate]; exact hn, fun j s' e => ?_, fun j k p a _ => (nown a).elim, fun i' hi => ?_, fun i' _ j p a => (nown a).elim⟩
              · rcases hm j s' e with z | ⟨z1, z⟩
                · rw [z]; trivial
                · subst z1; rw [z]
                  have hj : j < n := by
                    have := (List.getElem?_eq_some_iff.mp e).1
                    simpa using this
                  exact ⟨.ref p, by rw [List.getElem?_set_self (by rw [hn]; exact hj)], Rp.deck (i := I) rfl⟩
              · cases hi
                exact ⟨R'.fh _ _ f1, R'.fh _ _ g1, rfl, rfl, rfl, rfl⟩
            · rw [d2]
              intro v' σ' F2 H2 _ _ rv
              cases rv
              exact hq H2
    | [], r1, _ => nomatch r1
    | [_], r1, _ => nomatch r1
    | [_, _], r1, _ => nomatch r1
    | _ :: _ :: _ :: _ :: _, r1, _ => nomatch r1
  | dcT h1 h2 h3 h4 => cases hd; exact (tup_ne (fun t z => by cases z) h4).elim
  | _ => cases hd
end
section
variable {P : Program} {w : World} {K : PySem.W.Frag} {mg : Str → Option Value} {base : Heap}
theorem law_ok {x qual p : Str} {st : Stmt} {f : Addr} {fd : FuncData} {N : List Str} {k i : Nat} {s t : Str} {mD : MF} {mb : MS} (F : Fun K x qual st f fd) (S : FnScope N [p] (defScope st))
    (hbody : ∀ (cdv : Value) (A : Around) (outer : List Env) (s0 : Shared) (H : Hp) (E : XK), Room k (A.deeper (envOfC qual (defScope st) s0.heap.objs.size f cdv)) →
      PSs (cxOf CX0 P w K mg base N qual (defScope st) f cdv A outer s0 H E).nox (defBody st) (tSeq (tAsg (tCall (spScr (mc0 K) mD) [] E0 (tCons (tVar 0) tNil)) (gName i)) (tRest K s t mb)))
    (hr : LawRuns mD N.length i s t mb) (h1 : s ≠ "cells" := by decide +kernel) (h2 : t ≠ "cells" := by decide +kernel) (h3 : t ≠ s := by decide +kernel) (hNl : 1 ≤ N.length := by decide) : FnOk P w K mg base CX0 (k + 1) f fd [p] (spLaw K) := by
  refine F.ok S (fun vs H Q E h => ?_) (fun cdv A outer s0 H vs Q E hr' h => ?_)
  · obtain ⟨a, ns, rfl, _⟩ := h
    rfl
  · obtain ⟨a, ns, rfl, hS, hl, q⟩ := h
    have hlen : (L2.start N [V.ref a]).length = N.length := by
      simp only [L2.start, List.length_append, List.length_map, List.length_replicate, List.length_cons, List.length_nil]
      omega
    exact ⟨_, hbody cdv A outer s0 H E hr', law_reads (X := (cxOf CX0 P w K mg base N qual (defScope st) f cdv A outer s0 H E).nox) h1 h2 h3 hlen rfl hS hl hr q⟩
end
/-! ### two and three names at once, some of them new lists and dicts of our own -/
section
variable {X : Cx} {C : Mc} {W : WX} {Gc F H : Hp} {ps : Ps} {σ : St} {p q : Addr} {o u : HO}
theorem PoS.gsub {D : Ends} {x : So} (h : PoS C W Gc D F x) (g : Gc p = none) : PoS C W (upd Gc p o) D F x := by
  cases x with
  | next ps' => exact fun σ' F' H' s R => h σ' F' H' s (R.outG g).1
  | ret d ps' => exact fun v σ' F' H' s R r => h v σ' F' H' s (R.outG g).1 r
  | brk ps' => exact fun σ' F' H' s R => h σ' F' H' s (R.outG g).1
  | cont ps' => exact fun σ' F' H' s R => h σ' F' H' s (R.outG g).1
  | exc e ps' => exact fun σ' F' H' c d s R => h σ' F' H' c d s (R.outG g).1
  | bad => exact h
/-- {..}, [..] -/
def mParDL (i j : Nat) (a : Ps → Out (List (Key × D))) (b : MLs) : MS := fun ps => (a ps).bindS fun kvs ps1 => (b ps1).bindS fun ys ps2 => .next ((ps2.setS i (.md kvs)).setS j (.ml ys))
theorem parDL_ok {i j : Nat} (hij : i ≠ j) {a : Ps → Out (List (Key × D))} {b : MLs} {D : Ends} {σ : St} {H : Hp} (h : tS C W (mParDL i j a b) D σ H) : tPar i j (tCons (tFd C W a) (tCons (tF C W b) tNil)) D σ H := by
  obtain ⟨Gc, F, ps, R, q⟩ := h
  refine seqFdS R q fun kvs ps1 p pk F1 H1 s1 R1 l1 r1 e1 q1 => ?_
  have g1 : Gc p = none := l1.g
  refine ⟨_, F1, ps1, R1.inG l1, ?_⟩
  cases z : b ps1 with
  | bad => rw [z] at q1; exact q1.elim
  | exc e ps2 => rw [z] at q1; exact fun F' H' c d s R' => q1 σ F' H' c d s (R'.outG g1).1
  | ok ys ps2 =>
    rw [z] at q1
    intro p2 xs F2 H2 s2 R2 l2 r2
    obtain ⟨R3, l3⟩ := R2.outG g1
    have g2 : Gc p2 = none ∧ p2 ≠ p := by
      have g := l2.g
      have hb : p2 ≠ p := fun w => by rw [w, upd_same] at g; cases g
      rw [upd_ne hb] at g
      exact ⟨g, hb⟩
    refine ⟨_, _, rfl, q1 _ F2 H2 s2 ?_⟩
    have R4 := R3.setO (i := i) l3 (s := .md kvs) ⟨p, pk, rfl, l3.h, l3.f, l3.g, r1.mono s2, e1⟩
    refine R4.setO (i := j) (s := .ml ys) (p := p2) (o := .lst xs) ⟨l2.h, l2.f, g2.1, l2.d, fun m w => ?_⟩ ⟨p2, xs, rfl, l2.h, l2.f, g2.1, r2⟩
    obtain ⟨⟨s', e, mm⟩, e2⟩ := w
    by_cases hm : m = i
    · subst hm
      rw [List.getElem?_set] at e2
      simp only [if_pos] at e2
      split at e2
      · cases e2; exact g2.2 rfl
      · cases e2
    · have e' : ps2.sl[m]? = some s' := by rwa [Ps.setS, List.getElem?_set_ne (Ne.symm hm)] at e
      rw [List.getElem?_set_ne (Ne.symm hm)] at e2
      exact l2.w m ⟨⟨s', e', mm⟩, e2⟩
/-- {..}, x, y -/
def mParDEE (i j k : Nat) (a : Ps → Out (List (Key × D))) (b c : ME) : MS := fun ps => (a ps).bindS fun kvs ps1 => (b ps1).bindS fun y ps2 => (c ps2).bindS fun z ps3 => .next (((ps3.setS i (.md kvs)).setS j (.fz y)).setS k (.fz z))
theorem parDEE_ok {i j k : Nat} {a : Ps → Out (List (Key × D))} {b c : ME} {D : Ends} {σ : St} {H : Hp} (h : tS C W (mParDEE i j k a b c) D σ H) : tPar3 i j k (tCons (tFd C W a) (tCons (tE C W b) (tCons (tE C W c) tNil))) D σ H := by
  obtain ⟨Gc, F, ps, R, q⟩ := h
  refine seqFdS R q fun kvs ps1 p pk F1 H1 s1 R1 l1 r1 e1 q1 => ?_
  have g1 : Gc p = none := l1.g
  have q1' : PoS C W (upd Gc p (.dK pk)) D F1 ((b ps1).bindS fun y ps2 => (c ps2).bindS fun z ps3 => .next (((ps3.setS i (.md kvs)).setS j (.fz y)).setS k (.fz z))) → True := fun _ => trivial
  refine ⟨_, F1, ps1, R1.inG l1, ?_⟩
  cases z : b ps1 with
  | bad => rw [z] at q1; exact q1.elim
  | exc e ps2 => rw [z] at q1; exact fun F' H' c d s R' => q1 σ F' H' c d s (R'.outG g1).1
  | ok y ps2 =>
    rw [z] at q1
    intro v2 F2 H2 s2 R2 r2
    refine ⟨_, F2, ps2, R2, ?_⟩
    have q2 := q1.mono s2
    cases z3 : c ps2 with
    | bad => dsimp only [Out.bindS_ok] at q2; rw [z3] at q2; exact q2.elim
    | exc e ps3 => dsimp only [Out.bindS_ok] at q2; rw [z3] at q2; exact fun F' H' c d s R' => q2 σ F' H' c d s (R'.outG g1).1
    | ok y3 ps3 =>
      dsimp only [Out.bindS_ok] at q2
      rw [z3] at q2
      intro v3 F3 H3 s3 R3 r3
      obtain ⟨R4, l4⟩ := R3.outG g1
      refine ⟨_, _, _, rfl, q2 _ F3 H3 s3 ?_⟩
      exact ((R4.setO (i := i) l4 (s := .md kvs) ⟨p, pk, rfl, l4.h, l4.f, l4.g, r1.mono (s2.trans s3), e1⟩).set (r2.mono s3)).set r3
end
end MM
namespace MM
open PySem PySem.Spec PyProof.Rows L2
theorem hu65 {A : Around} {k : Nat} (hr : Room k A) : A.units + 65 < cLine := by have := hr.un; omega
theorem hu1 {A : Around} {k : Nat} (hr : Room k A) : A.units + 1 < cLine := by have := hr.un; omega
section
variable {X : Cx} {C : Mc} {W : WX} {e : Expr} {pos : Pos}
/-- target = value, any target -/
def mAsg (g : MG) (a : ME) : MS := fun ps => (a ps).bindS fun d ps1 => match g d ps1 with
  | some ps2 => .next ps2
  | none => .bad
theorem xs_asg {tg : Expr} {g : MG} {ts : List Nat} {ma : ME} (he : PE X e (tE C W ma)) (hg : PG X tg (tG C ts g)) (hs : swapsWithSole [tg] e pos.line X.env = pure false := by rfl) (hw : swappedStores [tg] e X.env = pure none := by rfl)
    (h1 : (assignEach [tg] X.env).map (·.2) = [assign tg X.env] := by rfl) : PS X (.Assign [tg] e pos) (tS C W (mAsg g ma)) :=
  ps_imp (ps_asg he hg hs hw h1) fun D σ H ⟨Gc, F, ps, R, q⟩ => seqES R q fun d ps1 v F1 H1 s1 R1 r1 q1 => by
    cases z : g d ps1 with
    | none => rw [z] at q1; exact q1.elim
    | some ps2 =>
      rw [z] at q1
      exact ⟨Gc, F1, ps1, d, ps2, R1, r1, z, fun σ' F' H' s R' _ => q1 σ' F' H' s R'⟩
/-- a, b, c = {..}, x, y by a tuple that is laid and taken apart -/
theorem asgDEE_ok {i j k : Nat} {a : Ps → Out (List (Key × D))} {b c : ME} {D : Ends} {σ : St} {H : Hp} (h : tS C W (mParDEE i j k a b c) D σ H) :
    tAsg (tTup (tCons (tFd C W a) (tCons (tE C W b) (tCons (tE C W c) tNil)))) (gTup X.K 3 (gCons (gName i) (gCons (gName j) (gCons (gName k) gNil)))) D σ H := by
  obtain ⟨Gc, F, ps, R, q⟩ := h
  refine seqFdS R q fun kvs ps1 p pk F1 H1 s1 R1 l1 r1 e1 q1 => ?_
  have g1 : Gc p = none := l1.g
  refine ⟨_, F1, ps1, R1.inG l1, ?_⟩
  cases z : b ps1 with
  | bad => rw [z] at q1; exact q1.elim
  | exc e ps2 => rw [z] at q1; exact fun F' H' c d s R' => q1 σ F' H' c d s (R'.outG g1).1
  | ok y ps2 =>
    rw [z] at q1
    intro v2 F2 H2 s2 R2 r2
    refine ⟨_, F2, ps2, R2, ?_⟩
    have q2 := q1.mono s2
    cases z3 : c ps2 with
    | bad => dsimp only [Out.bindS_ok] at q2; rw [z3] at q2; exact q2.elim
    | exc e ps3 => dsimp only [Out.bindS_ok] at q2; rw [z3] at q2; exact fun F' H' c d s R' => q2 σ F' H' c d s (R'.outG g1).1
    | ok y3 ps3 =>
      dsimp only [Out.bindS_ok] at q2
      rw [z3] at q2
      intro v3 F3 H3 s3 R3 r3
      refine ⟨by show 3 ≤ sizeLine; decide, fun t nt => ?_⟩
      have R3' := R3.fresh (p := t) (o := .tup [V.ref p, v2, v3]) nt
      obtain ⟨R4, l4⟩ := R3'.outG g1
      refine ⟨t, _, rfl, .of upd_same, rfl, _, _, rfl, _, _, rfl, _, _, rfl, rfl, ?_⟩
      refine q2 _ F3 _ s3 ?_
      exact ((R4.setO (i := i) l4 (s := .md kvs) ⟨p, pk, rfl, l4.h, l4.f, l4.g, r1.mono (s2.trans s3), e1⟩).set (r2.mono s3)).set r3
end
section
variable {X : Cx} {C : Mc}
def dIsB (x y : D) : Option D := match x, y with
  | .bool a, .bool b => some (.bool (decide (a = b)))
  | _, _ => none
def dNotB (x y : D) : Option D := match x, y with
  | .bool a, .bool b => some (.bool (!decide (a = b)))
  | _, _ => none
theorem om_isB : OpM C dIsB rIsB := by
  intro Gc F H ps σ v u x y z Q R rx ry hz q
  unfold dIsB at hz
  split at hz
  · cases hz; cases rx; cases ry
    exact ⟨_, _, rfl, rfl, q _ F H (Same.refl _) R (.bl _)⟩
  · cases hz
theorem om_notB : OpM C dNotB rNotB := by
  intro Gc F H ps σ v u x y z Q R rx ry hz q
  unfold dNotB at hz
  split at hz
  · cases hz; cases rx; cases ry
    exact ⟨_, _, rfl, rfl, q _ F H (Same.refl _) R (.bl _)⟩
  · cases hz
end
end MM
/-! list(range(..)), tuple(range(..)). -/
namespace MM
open PySem PySem.Spec PyProof.Rows L2
section
variable {X : Cx} {C : Mc} {W : WX} {e a b : Expr} {pos p p2 pos2 : Pos}
def rgD (i j : Int) : Option (List D) := if (decide (i.natAbs < 16777217) && decide (j.natAbs < 16777217) && decide ((j - i).toNat < 16777217)) = true then some (rangeD i (j - i).toNat) else none
def dRg : List D → Option (List D)
  | [.int j] => rgD 0 j
  | [.int i, .int j] => rgD i j
  | _ => none
def mRgL (m : MA) : MLs := fun ps => (m ps).bind fun ds ps1 => .of (dRg ds) ps1
theorem rpa_rg {F : Hp} (i j : Int) : RpA C F (rgV i j) (rangeD i (j - i).toNat) := by
  unfold rgV rangeD
  generalize List.range (j - i).toNat = xs
  induction xs with
  | nil => exact .nil
  | cons x xs ih => exact .cons (.int _) ih
theorem rgD_ok {i j : Int} {ds : List D} (h : rgD i j = some ds) : RgOk i j ∧ ds = rangeD i (j - i).toNat := by
  unfold rgD at h
  split at h
  · rename_i hc
    rw [Bool.and_eq_true, Bool.and_eq_true] at hc
    have h1 := of_decide_eq_true hc.1.1
    have h2 := of_decide_eq_true hc.1.2
    have h3 := of_decide_eq_true hc.2
    cases h
    exact ⟨⟨by omega, by omega, by omega, by omega, by omega⟩, rfl⟩
  · cases h
theorem xlistRg1 {ma : ME} (hc : X.calm = true) (hg : Gl X "list") (hm : X.mg "list" = none) (hg2 : Gl X "range") (hm2 : X.mg "range" = none) (ha : PE X a (tE C W ma)) (na : starEach [a] X.env = (false, eval a X.env) :: starEach [] X.env := by rfl)
    (na2 : starEach [.Call (.Name "range" p2) [a] [] pos2] X.env = (false, eval (.Call (.Name "range" p2) [a] [] pos2) X.env) :: starEach [] X.env := by rfl) :
    PE X (.Call (.Name "list" p) [.Call (.Name "range" p2) [a] [] pos2] [] pos) (tF C W (mRgL (mCons ma mNil))) :=
  pe_imp (pe_listRg hc hg hm (prg_1 hg2 hm2 ha na) na2) fun σ H Q ⟨Gc, F, ps, R, q⟩ => by
    have q' : Po C W Gc σ (qF C Gc σ Q) F ((ma ps).bind fun x ps1 => .of (dRg [x]) ps1) := by
      revert q; unfold mRgL mCons mNil; cases ma ps <;> exact fun h => h
    refine seqE qF.mono R q' fun x ps1 v F1 H1 s1 R1 r1 q1 => ?_
    cases z : dRg [x] with
    | none => rw [z] at q1; exact q1.elim
    | some ds =>
      rw [z] at q1
      cases x with
      | int j =>
        cases r1
        obtain ⟨ok, rfl⟩ := rgD_ok z
        exact ⟨j, rfl, ok, fun p n => q1 p _ F1 _ (Same.refl _) (R1.fresh n) (R1.loose n) (rpa_rg _ _)⟩
      | _ => cases z
theorem xlistRg2 {ma mb : ME} (hc : X.calm = true) (hg : Gl X "list") (hm : X.mg "list" = none) (hg2 : Gl X "range") (hm2 : X.mg "range" = none) (ha : PE X a (tE C W ma)) (hb : PE X b (tE C W mb)) (na : starEach [a, b] X.env = (false, eval a X.env) :: starEach [b] X.env := by rfl)
    (nb : starEach [b] X.env = (false, eval b X.env) :: starEach [] X.env := by rfl) (hp : (backTo pos2 (starEach [b] X.env)).any (·.1) = false := by rfl)
    (na2 : starEach [.Call (.Name "range" p2) [a, b] [] pos2] X.env = (false, eval (.Call (.Name "range" p2) [a, b] [] pos2) X.env) :: starEach [] X.env := by rfl) :
    PE X (.Call (.Name "list" p) [.Call (.Name "range" p2) [a, b] [] pos2] [] pos) (tF C W (mRgL (mCons ma (mCons mb mNil)))) :=
  pe_imp (pe_listRg hc hg hm (prg_2 hg2 hm2 ha hb na nb hp) na2) fun σ H Q ⟨Gc, F, ps, R, q⟩ => by
    have q' : Po C W Gc σ (qF C Gc σ Q) F ((ma ps).bind fun x ps1 => (mb ps1).bind fun y ps2 => .of (dRg [x, y]) ps2) := by
      revert q; unfold mRgL mCons mNil
      cases ma ps with
      | ok x ps1 => dsimp only [Out.bind_ok]; cases mb ps1 <;> exact fun h => h
      | _ => exact fun h => h
    refine seqE qF.mono R q' fun x ps1 v F1 H1 s1 R1 r1 q1 => ?_
    refine seqE qF.mono R1 q1 fun y ps2 u F2 H2 s2 R2 r2 q2 => ?_
    cases z : dRg [x, y] with
    | none => rw [z] at q2; exact q2.elim
    | some ds =>
      rw [z] at q2
      cases x with
      | int i =>
        cases y with
        | int j =>
          cases r1
          cases r2
          obtain ⟨ok, rfl⟩ := rgD_ok z
          exact ⟨i, j, rfl, rfl, ok, fun p n => q2 p _ F2 _ (Same.refl _) (R2.fresh n) (R2.loose n) (rpa_rg _ _)⟩
        | _ => cases z
      | _ => cases z
end
end MM
/-! Defs that are called while no repr is under way: what a def promises there, calls of it, the law's own call. -/
namespace MM
open PySem PySem.Spec PyProof.Rows L2
/-- no repr is under way -/
def Calm (A : Around) : Prop := A.guards = some []
theorem Calm.deeper {A : Around} {env : Env} (h : Calm A) : Calm (A.deeper env) := h
structure FnG (P : Program) (w : World) (K : PySem.W.Frag) (mg : Str → Option Value) (base : Heap) (k : Nat) (f : Addr) (fd : FuncData) (pn : List Str) (sp : Sp) : Prop where
  ln : ∀ xs H Q E, sp xs H Q E → xs.length = pn.length
  go : ∀ (A : Around) (fr : List Env) (s : Shared) (H : Hp) (gs : Args) (us : List Value) (xs : List V) (Q : VK) (E : XK), Calm A → Room k A → Env0 P w K mg base A fr s H → BindsTo s fd gs (pn.zip us) → Vals xs us → sp xs H Q E →
    codeAny (model P w) A (.call (.ref f) gs) (CR CX0 fr P w H s Q E) s
section
variable {P : Program} {w : World} {K : PySem.W.Frag} {mg : Str → Option Value} {base : Heap} {k : Nat} {f : Addr} {fd : FuncData} {pn : List Str} {sp : Sp}
theorem FnG.of (F : FnOk P w K mg base CX0 k f fd pn sp) : FnG P w K mg base k f fd pn sp := ⟨F.len, fun A fr s H gs us xs Q E _ => F.run A fr s H gs us xs Q E⟩
theorem FnG.mono {j : Nat} (F : FnG P w K mg base j f fd pn sp) (h : j ≤ k) : FnG P w K mg base k f fd pn sp := ⟨F.ln, fun A fr s H gs us xs Q E c r => F.go A fr s H gs us xs Q E c (r.mono h)⟩
/-- a def by its body -/
theorem okG {x qual : Str} {st : Stmt} {N : List Str} (F : Fun K x qual st f fd) (S : FnScope N pn (defScope st)) (ln : ∀ xs H Q E, sp xs H Q E → xs.length = pn.length)
    (hb : ∀ (cdv : Value) (A : Around) (fr : List Env) (s : Shared) (H : Hp) (xs : List V) (Q : VK) (E : XK), Calm A → Room k (A.deeper (envOfC qual (defScope st) s.heap.objs.size f cdv)) → sp xs H Q E →
      ∃ t, PSs (cxOf CX0 P w K mg base N qual (defScope st) f cdv A fr s H E).nox (defBody st) t ∧ t { nx := fun _ H' => Q .non H', rt := Q } (start N xs) H) : FnG P w K mg base (k + 1) f fd pn sp := by
  obtain ⟨oc, od, kV, doc, pm, an, cdv, ct, osl, rfl, lk, hcd⟩ := F.ex
  refine ⟨ln, fun A fr s H gs us xs Q E cA hr e0 bi rv hs => ?_⟩
  have up : ∀ b o, base.get? b = some o → s.heap.get? b = some o := fun b o e => (e0.bs b o e).1
  refine Att.call_fn (e0.mod.kin.keeps up) (e0.mod.nolimit.keeps up) lk hcd hr.depth bi (List.all_eq_true.mpr fun ⟨n, v⟩ hy => ?_) (fun s1 x => ?_) S.co S.gen S.kind
  · rcases S.par n (List.of_mem_zip hy).1 with q | q <;> simp [q]
  · obtain ⟨t, ht, q⟩ := hb cdv A fr s H xs Q E cA (hr.deeper _) hs
    have J0 := inv_start (CX := CX0) (P := P) (w := w) (qual := qual) (f := f) (cd := cdv) (E := E) S hr.hd e0 (ln _ _ _ _ hs) rv x
    refine wpAny_mono (ht.run [] s1 (start N xs) H _ (J0.wish _) q) (fun fl s' z => ?_) fun _ _ z => False.elim z
    cases fl with
    | ret u =>
      obtain ⟨v, σ', H', J, rv', q'⟩ := z
      exact ⟨v, H', J.os, J.bare, J.base, J.hok, rv', q'⟩
    | next =>
      obtain ⟨σ', H', J, q'⟩ := z
      exact ⟨.non, H', J.os, J.bare, J.base, J.hok, rfl, q'⟩
    | brk => obtain ⟨σ', H', J, q'⟩ := z; exact False.elim q'
    | cont => obtain ⟨σ', H', J, q'⟩ := z; exact False.elim q'
end
section
variable {X : Cx} {C : Mc} {W : WX} {e : Expr} {es : List Expr} {kws : List Keyword} {pos p : Pos} {k : Nat} {f : Addr} {fd : FuncData} {pn ks : List Str} {x : Str} {mf : MF} {sp : Sp} {t tk : TA}
theorem end_fn {pins : List (Addr × Obj)} {σ : St} {H : Hp} {s : Shared} {Q : VK} (I : Inv X pins σ H s) {r : Result} {s' : Shared} (h : CR CX0 X.stack X.prog X.w H s Q E0 r s') : ∃ u, r = .ok (.ret u) ∧ EP X pins σ Q u s' := by
  match r, h with
  | .ok (.ret u), h => exact ⟨u, rfl, I.after h⟩
  | .ok .next, h => exact False.elim h
  | .ok .brk, h => exact False.elim h
  | .ok .cont, h => exact False.elim h
  | .error _, h => exact False.elim h
theorem goG (G : FnG X.prog X.w X.K X.mg X.base k f fd pn sp) (cA : Calm X.A) (hr : Room k X.A) (hb : Binds X.K fd pn []) {pins : List (Addr × Obj)} {σ : St} {H : Hp} {s : Shared} {Q : VK} {us : List Value} {xs : List V} (I : Inv X pins σ H s) (r : Vals xs us) (h : sp xs H Q E0) :
    wpAny (model X.prog X.w) X.A (call (.ref f) us) (EP X pins σ Q) X.xe s := by
  have hl := r.length
  have hn := G.ln _ _ _ _ h
  have b := hb s us I.kIn (by rw [List.append_nil]; omega)
  rw [List.append_nil] at b
  refine wpAny_call (codeAny_mono (G.go X.A X.stack s H ⟨us, []⟩ us xs Q E0 cA hr I.env0 b r h) fun r s' z => ?_)
  obtain ⟨u, e, y⟩ := end_fn I z
  subst e
  exact y
theorem goGk (G : FnG X.prog X.w X.K X.mg X.base k f fd pn sp) (cA : Calm X.A) (hr : Room k X.A) {n m : Nat} {π : List Nat} (hb : KBinds X.K fd pn ks (pick n m π) (pick n m π)) {pins : List (Addr × Obj)} {σ : St} {H : Hp} {s : Shared} {Q : VK} {us ws : List Value} {xs zs : List V} (I : Inv X pins σ H s)
    (r : Vals xs us) (rz : Vals zs ws) (h : sp (pick n m π xs zs) H Q E0) : wpAny (model X.prog X.w) X.A (call (.ref f) us (ks.zip ws)) (EP X pins σ Q) X.xe s := by
  have r2 := hb.rel r rz
  have hl := r2.length
  have hn := G.ln _ _ _ _ h
  refine wpAny_call (codeAny_mono (G.go X.A X.stack s H ⟨us, ks.zip ws⟩ (pick n m π us ws) _ Q E0 cA hr I.env0 (hb.to s us ws I.kIn (by omega)) r2 h) fun r s' z => ?_)
  obtain ⟨u, e, y⟩ := end_fn I z
  subst e
  exact y
/-- what a call of it tells -/
theorem tellG {vs : List V} {ds : List D} {ps1 : Ps} {Gc F1 H1 : Hp} {σ : St} {Q : VK} {np : Nat} (R1 : Rel C Gc F1 H1 ps1 σ) (r1 : RpA C F1 vs ds) (q1 : Po C W Gc σ (qE C Gc σ Q) F1 (match mf ds ps1.dk with
    | .ret d k => .ok d ⟨ps1.sl, k⟩
    | _ => .bad)) : spM C mf vs H1 Q E0 := by
  obtain ⟨Gc', R2, back⟩ := R1.enter
  refine ⟨Gc', F1, ds, ps1.dk, R2, r1, ?_⟩
  cases z : mf ds ps1.dk with
  | ret d k' => rw [z] at q1; exact fun v F' H' s R' r => q1 v F' H' s (back F' H' k' s R') r
  | exc e' k' => rw [z] at q1; exact q1.elim
  | bad => rw [z] at q1; exact q1.elim
theorem gcall {ma : MA} (G : FnG X.prog X.w X.K X.mg X.base k f fd pn (spM C mf)) (cA : Calm X.A) (hr : Room k X.A) (hg : Gl X x) (hm : X.mg x = some (.ref f)) (hk : PySem.W.keepIn X.K (.ref f) = true) (hb : Binds X.K fd pn []) (ha : PA X (e :: es) (tA C W ma))
    (hdb : (x == ("__debug__" : Str)) = false := by decide) (he : starEach (e :: es) X.env = (false, eval e X.env) :: starEach es X.env := by rfl) (hpl : (backTo pos (starEach es X.env)).any (·.1) = false := by rfl) :
    PE X (.Call (.Name x p) (e :: es) [] pos) (tE C W (mCall mf ma)) :=
  ⟨fun pins s σ H Q I ⟨Gc, F, ps, R, q⟩ => wpAny_Call_Name_kw (ld_glob I hg hm (PySem.W.callWith_K (h₀ := X.base) I.ok.mod.kin hk
    (thn (ha.run pos pins s σ H _ I (seqA qE.mono R q fun ds ps1 vs F1 H1 s1 R1 r1 q1 => tellG (np := 0) R1 r1 q1)) fun us s1 ⟨vs, H1, I1, r, h⟩ => ⟨I1.kIn, goG G cA hr hb I1 r h⟩) he hpl) hdb)⟩
theorem gcall0 (G : FnG X.prog X.w X.K X.mg X.base k f fd pn (spM C mf)) (cA : Calm X.A) (hr : Room k X.A) (hg : Gl X x) (hm : X.mg x = some (.ref f)) (hk : PySem.W.keepIn X.K (.ref f) = true) (hb : Binds X.K fd pn [])
    (hdb : (x == ("__debug__" : Str)) = false := by decide) : PE X (.Call (.Name x p) [] [] pos) (tE C W (mCall mf mNil)) :=
  ⟨fun pins s σ H Q I ⟨Gc, F, ps, R, q⟩ => wpAny_Call_Name_kw (ld_glob I hg hm (PySem.W.callWith_K0 I.kIn hk (goG G cA hr hb I .nil (tellG (np := 0) R .nil q))) hdb)⟩
theorem gcallK0 {n m : Nat} {π : List Nat} {mk : MA} (G : FnG X.prog X.w X.K X.mg X.base k f fd pn (spM C mf)) (cA : Calm X.A) (hr : Room k X.A) (hg : Gl X x) (hm : X.mg x = some (.ref f)) (hk : PySem.W.keepIn X.K (.ref f) = true) (hb : KBinds X.K fd pn ks (pick n m π) (pick n m π))
    (hkw : PK X kws (tA C W mk)) (hall : (backToKw pos (keywordEach kws X.env)).all (·.1.isSome) = true := by rfl) (hks : (backToKw pos (keywordEach kws X.env)).filterMap (·.1) = ks := by rfl)
    (hdb : (x == ("__debug__" : Str)) = false := by decide) (hpl : ((backTo pos (starEach [] X.env)).any (·.1) || (backToKw pos (keywordEach kws X.env)).any (·.1.isNone)) = false := by rfl) :
    PE X (.Call (.Name x p) [] kws pos) (tE C W (mCallK mf (pick n m π) mNil mk)) :=
  ⟨fun pins s σ H Q I ⟨Gc, F, ps, R, q⟩ => wpAny_Call_Name_kw (ld_glob I hg hm (PySem.W.callWith_KW0 (h₀ := X.base) I.ok.mod.kin hk hall
    (thn (hkw.run pos pins s σ H _ I (seqA (Q := fun zs H2 => spM C mf (pick n m π [] zs) H2 Q E0) qE.mono R q fun ds ps1 vs F1 H1 s1 R1 r1 q1 => tellG (np := 0) R1 (pick_rpa n m π .nil r1) q1)) fun ws s2 ⟨zs, H2, I2, rz, h⟩ => ⟨I2.kIn, by rw [hks]; exact goGk (us := []) G cA hr hb I2 .nil rz h⟩) hpl) hdb)⟩
end
section
variable {P : Program} {w : World} {K : PySem.W.Frag} {mg : Str → Option Value} {base : Heap}
/-- a def by its plain function -/
theorem fn_okG {x qual : Str} {st : Stmt} {f : Addr} {fd : FuncData} {N pn : List Str} {k : Nat} {C : Mc} {mb : MS} (F : Fun K x qual st f fd) (S : FnScope N pn (defScope st))
    (hb : ∀ (cdv : Value) (A : Around) (fr : List Env) (s : Shared) (H : Hp) (E : XK), Calm A → Room k (A.deeper (envOfC qual (defScope st) s.heap.objs.size f cdv)) →
      PSs (cxOf CX0 P w K mg base N qual (defScope st) f cdv A fr s H E).nox (defBody st) (tS C W0 mb)) : FnG P w K mg base (k + 1) f fd pn (spM C (mFun pn.length N.length mb)) := by
  refine okG F S (fun vs H Q E h => ?_) (fun cdv A fr s H vs Q E cA hr h => ?_)
  · obtain ⟨Gc, Fz, ds, k', R, r, q⟩ := h
    unfold mFun at q
    by_cases hl : ds.length = pn.length
    · exact r.length.trans hl
    · rw [if_neg hl] at q; exact q.elim
  · obtain ⟨Gc, Fz, ds, k', R, r, q⟩ := h
    refine ⟨_, hb cdv A fr s H E cA hr, Gc, Fz, ⟨sl0 N.length ds, k'⟩, rel_start R r, ?_⟩
    unfold mFun at q
    by_cases hl : ds.length = pn.length
    · rw [if_pos hl] at q
      cases z : mb ⟨sl0 N.length ds, k'⟩ with
      | next ps => rw [z] at q; exact fun σ' F' H' s R' => q .non F' H' s R'.drop .non
      | ret d ps => rw [z] at q; exact fun v σ' F' H' s R' r' => q v F' H' s R'.drop r'
      | brk ps => rw [z] at q; exact q.elim
      | cont ps => rw [z] at q; exact q.elim
      | exc e ps => rw [z] at q; exact q.elim
      | bad => rw [z] at q; exact q.elim
    · rw [if_neg hl] at q; exact q.elim
theorem law_okG {x qual p : Str} {st : Stmt} {f : Addr} {fd : FuncData} {N : List Str} {k i : Nat} {s t : Str} {mD : MF} {mb : MS} (F : Fun K x qual st f fd) (S : FnScope N [p] (defScope st))
    (hb : ∀ (cdv : Value) (A : Around) (fr : List Env) (s0 : Shared) (H : Hp) (E : XK), Calm A → Room k (A.deeper (envOfC qual (defScope st) s0.heap.objs.size f cdv)) →
      PSs (cxOf CX0 P w K mg base N qual (defScope st) f cdv A fr s0 H E).nox (defBody st) (tSeq (tAsg (tCall (spScr (mc0 K) mD) [] E0 (tCons (tVar 0) tNil)) (gName i)) (tRest K s t mb)))
    (hr : LawRuns mD N.length i s t mb) (h1 : s ≠ "cells" := by decide +kernel) (h2 : t ≠ "cells" := by decide +kernel) (h3 : t ≠ s := by decide +kernel) (hNl : 1 ≤ N.length := by decide) : FnG P w K mg base (k + 1) f fd [p] (spLaw K) := by
  refine okG F S (fun vs H Q E h => ?_) (fun cdv A fr s0 H vs Q E cA hr' h => ?_)
  · obtain ⟨a, ns, rfl, _⟩ := h
    rfl
  · obtain ⟨a, ns, rfl, hS, hl, q⟩ := h
    have hlen : (L2.start N [V.ref a]).length = N.length := by
      simp only [L2.start, List.length_append, List.length_map, List.length_replicate, List.length_cons, List.length_nil]
      omega
    exact ⟨_, hb cdv A fr s0 H E cA hr', law_reads (X := (cxOf CX0 P w K mg base N qual (defScope st) f cdv A fr s0 H E).nox) h1 h2 h3 hlen rfl hS hl hr q⟩
/-- the law is called: nothing is tracked but the script, unless it is one of the module's own objects -/
theorem law_goG {mb : Str → Option Value} {k : Nat} {fa a : Addr} {fd : FuncData} {x : Str} {s1 : Shared} {vs : List Value} {ns : List Int} (KX : K.In s1.heap) (hns : s1.heap.Ns mainGlobals mg) (hbl : s1.heap.Ns builtinsNs mb) (hbb : ∀ x : Str, x ≠ "__name__" → mb x = bootBuiltins x) (hlim : s1.heap.NoLimit) (hg : s1.gens = #[])
    (ha : s1.heap.get? a = some { cls := .type "list", data := .seq vs.toArray }) (hi : IntsAre vs ns) (hl : ns.length ≤ 63) (hr : Room k callerA) (F : ∀ base : Heap, K.In base → base.Ns mainGlobals mg → FnG P w K mg base k fa fd [x] (spLaw K)) (hbi : ∀ (s : Shared) (u : Value), BindsTo s fd ⟨[u], []⟩ [(x, u)]) :
    codeAny (model P w) callerA (.call (.ref fa) ⟨[.ref a], []⟩) (fun r s' => r = .ok (.ret (.bool true)) ∧ OldK s1.heap s'.heap ∧ s'.os = s1.os ∧ AllBare s'.gens) s1 := by
  have rv := vals_ints hi
  have nv := hi.length
  let o : Obj := { cls := .type "list", data := .seq vs.toArray }
  let u : Option HO := if (K.lookup a).isSome = true then none else some (.frz o (.lst (ns.map V.int)))
  let H : Hp := fun b => if b = a then u else none
  have Ha : H a = u := if_pos rfl
  have Hn : ∀ {b : Addr} {z : HO}, H b = some z → b = a ∧ u = some z := fun {b z} e => by
    by_cases hb : b = a
    · subst hb; exact ⟨rfl, Ha ▸ e⟩
    · have e2 : H b = none := if_neg hb
      rw [e2] at e; cases e
  have un : ∀ {z : HO}, u = some z → K.lookup a = none ∧ z = .frz o (.lst (ns.map V.int)) := fun {z} e => by
    by_cases hk : (K.lookup a).isSome = true
    · have : u = none := if_pos hk
      rw [this] at e; cases e
    · have : u = some (.frz o (.lst (ns.map V.int))) := if_neg hk
      rw [this] at e; cases e
      exact ⟨Option.not_isSome_iff_eq_none.mp hk, rfl⟩
  have sz : ns.length ≤ sizeLine := Nat.le_trans hl (by decide)
  have hok : HOk P w H s1.heap := fun b z e => by
    obtain ⟨rfl, e2⟩ := Hn e
    obtain ⟨_, rfl⟩ := un e2
    exact ⟨ha, by rw [List.length_map]; exact sz, vs, _, rv, ha⟩
  have hS : SqL K H a (ns.map V.int) := by
    cases hk : K.lookup a with
    | none => exact .inl (.inr ⟨o, Ha.trans (if_neg (by rw [hk]; simp))⟩)
    | some o1 =>
      have e := KX a o1 hk
      rw [ha] at e
      cases e
      exact .inr ⟨_, vs.toArray, _, hk, rfl, rfl, rfl, by rw [List.size_toArray, nv]; exact sz, by simpa using rv⟩
  have keepB : ∀ {b : Addr} {o1 : Obj}, s1.heap.get? b = some o1 → H b = none → (hidT s1.heap H).get? b = some o1 := fun e n => hidT_get e n
  have noD : ∀ {b : Addr} {o1 : Obj} {es : Array DictEntry} {ep : Nat}, s1.heap.get? b = some o1 → o1.data = .dict es ep → H b = none := fun {b o1 es ep} e d => by
    cases q : H b with
    | none => rfl
    | some z =>
      obtain ⟨rfl, _⟩ := Hn q
      rw [ha] at e
      cases e
      exact nomatch (show Data.seq vs.toArray _ = Data.dict es ep from d)
  have nsB : ∀ {b : Addr} {m : Str → Option Value}, s1.heap.Ns b m → (hidT s1.heap H).Ns b m := fun ⟨o1, es, ep, e, d, r⟩ => ⟨o1, es, ep, keepB e (noD e d), d, r⟩
  have KB : K.In (hidT s1.heap H) := fun b o1 e => keepB (KX b o1 e) (by
    cases q : H b with
    | none => rfl
    | some z =>
      obtain ⟨rfl, e2⟩ := Hn q
      rw [(un e2).1] at e; cases e)
  obtain ⟨mc, l1, l2⟩ := hlim
  have e0 : Env0 P w K mg (hidT s1.heap H) callerA [] s1 H := {
    frames := rfl
    mod := ⟨KB, nsB hns, ⟨mb, nsB hbl, hbb⟩, ⟨mc, nsB l1, l2⟩⟩
    bs := fun b o1 e => of_hidT e
    bsz := Nat.le_of_eq (hidT_size _ _)
    funs := trivial
    frf := fun b z => (nomatch z)
    hok := hok
    bare := .of_eq hg }
  have sp : spLaw K [.ref a] H (fun v _ => v = .bl true) E0 := ⟨a, ns, rfl, hS, hl, fun _ => rfl⟩
  refine codeAny_mono ((F _ KB (nsB hns)).go callerA [] s1 H ⟨[.ref a], []⟩ [.ref a] [.ref a] _ E0 rfl hr e0 (hbi s1 (.ref a)) (.cons rfl .nil) sp) fun r s' h => ?_
  match r, h with
  | .ok (.ret u'), h =>
    obtain ⟨v, H', os, bare, un2, hok', r', q⟩ := h
    have q : v = .bl true := q
    subst q
    obtain rfl : u' = Value.bool true := r'
    refine ⟨rfl, OldK.of_keep fun b o1 e => ?_, os, bare⟩
    cases q : H b with
    | none => exact un2.keep b o1 e q (fun z => nomatch z) (by simp)
    | some z =>
      obtain ⟨rfl, e2⟩ := Hn q
      obtain ⟨_, rfl⟩ := un e2
      have g := (hok' b _ (un2.frzs b o _ q)).1
      rw [ha] at e
      cases e
      exact g
  | .ok .next, h => exact False.elim h
  | .ok .brk, h => exact False.elim h
  | .ok .cont, h => exact False.elim h
  | .error _, h => exact False.elim h
end
/-- the closing step -/
theorem walkG {l : PySem.W.OpenLaw} {k : Nat} {q : Program} {loose : List Str} {XP : (Str → Option Value) → Heap → Prop} {YP : World → Heap → Prop} {d : DefRec} {K : Params → PySem.W.Frag} {x : Str} (hn : l.most = some 63) (hdf : d.params.defaults = []) (hr : Room k callerA) (hY : ∀ (w : World) (h : Heap), YP w h → (K w.params).In h)
    (F : ∀ (w : World) (mg : Str → Option Value) (fa : Addr) (h : Heap), (K w.params).In h → h.Ns mainGlobals mg → mg d.name = some (.ref fa) →
      ∃ fd : FuncData, (∀ (s : Shared) (u : Value), BindsTo s fd ⟨[u], []⟩ [(x, u)]) ∧ ∀ base : Heap, (K w.params).In base → base.Ns mainGlobals mg → FnG l.prog w (K w.params) mg base k fa fd [x] (spLaw (K w.params))) :
    PySem.W.WalkO q loose XP YP l.row.toRowW d [] (fun f vs => PySem.call f vs) :=
  Att.attach_call hn hdf fun w s0 s1 mg mb fa o pm cd doc a vs ns G Y ho hd hcd hmg hobj hints hlen hg => by
    obtain ⟨fd, hb, hF⟩ := F w mg fa _ (hY w _ Y) G.T.g hmg
    exact law_goG (hY w _ Y) G.T.g G.T.b G.T.builtins G.T.nolimit hg hobj hints hlen hr hF hb
end MM
/-! repr of data. -/
namespace MM
open PySem PySem.Spec PyProof.Rows L2
mutual
/-- no deck in it; l: lists may be in it -/
def cln (l : Bool) : D → Bool
  | .list xs => l && clnAll l xs
  | .tuple xs => clnAll l xs
  | .dict kvs => !isDeck (.dict kvs) && clnKv l kvs
  | _ => true
def clnAll (l : Bool) : List D → Bool
  | [] => true
  | x :: xs => cln l x && clnAll l xs
def clnKv (l : Bool) : List (D × D) → Bool
  | [] => true
  | (_, v) :: r => cln l v && clnKv l r
end
theorem clnKv_all (l : Bool) : ∀ ds : List (D × D), clnKv l ds = clnAll l (ds.map (·.2))
  | [] => by rw [clnKv]; rfl
  | (a, b) :: r => by
    rw [clnKv, clnKv_all l r]
    show (_ && _) = clnAll l (b :: r.map (·.2))
    rw [clnAll]
theorem key_reads {h : Heap} {k : Key} {v : Value} (hk : keyIs k v = true) : Reads h v (kD k) [] := by
  rcases keyIs_shape hk with ⟨i, t, rfl, rfl⟩ | ⟨x, t, rfl, rfl⟩
  · exact .int i t
  · exact .str x t
theorem pairs_keys {P : Program} {w : World} {h : Heap} : ∀ {es : List DictEntry} {kvs : List (Key × Value)}, Pairs (mixKind P w) es kvs → ReadsAll h (es.map (·.key)) (kvs.map fun p => kD p.1) [] ∧ es.map (·.val) = kvs.map (·.2)
  | _, _, .nil => ⟨.nil, rfl⟩
  | _, _, .cons h1 h2 h3 => by
    obtain ⟨i1, i2⟩ := pairs_keys (h := h) h3
    refine ⟨?_, ?_⟩
    · exact ReadsAll.cons (key_reads h1) i1
    · rw [List.map_cons, List.map_cons, h2, i2]
theorem kv_vals : ∀ {kvs : List (Key × V)} {vs : List (Key × Value)}, KV kvs vs → Vals (kvs.map (·.2)) (vs.map (·.2)) ∧ (vs.map fun p => kD p.1) = kvs.map fun p => kD p.1
  | _, _, .nil => ⟨.nil, rfl⟩
  | _, _, .cons h t => by
    obtain ⟨i1, i2⟩ := kv_vals t
    refine ⟨.cons h.2 i1, ?_⟩
    rw [List.map_cons, List.map_cons, h.1, i2]
theorem keys_reads {h : Heap} : ∀ {ks : List Key} {us : List Value}, Vals (ks.map kV) us → ReadsAll h us (ks.map kD) []
  | [], _, .nil => .nil
  | k :: ks, _, .cons r t => by
    refine ReadsAll.cons (as := []) (bs := []) ?_ (keys_reads t)
    cases k with
    | inl i => obtain ⟨t, rfl⟩ := r; exact .int i t
    | inr x => obtain ⟨t, rfl⟩ := r; exact .str x t
theorem tkeys_reads {X : Cx} {pins : List (Addr × Obj)} {σ : St} {H : Hp} {s : Shared} (I : Inv X pins σ H s) : ∀ {kvs : List (List Key × V)} {xs : List (List Key × Addr × Value)}, KT H kvs xs →
    ReadsAll s.heap ((xs.map (entryOfKey (tupleKind (mixKind X.prog X.w)))).map (·.key)) (kvs.map fun p => PyData.tuple (p.1.map kD)) [] ∧ Vals (kvs.map (·.2)) ((xs.map (entryOfKey (tupleKind (mixKind X.prog X.w)))).map (·.val))
  | _, _, .nil => ⟨.nil, .nil⟩
  | _, _, .cons h t => by
    obtain ⟨i1, i2⟩ := tkeys_reads I t
    obtain ⟨its, rv, ⟨o, ho, hc, n, hd⟩, _⟩ := I.tuple (.inl (.inl h.2.1))
    exact ⟨ReadsAll.cons (as := []) (bs := []) (.tuple ho hc hd (keys_reads rv)) i1, .cons h.2.2 i2⟩
section
variable {X : Cx} {C : Mc} {pins : List (Addr × Obj)} {σ : St} {F H : Hp} {s : Shared} {l : Bool}
mutual
theorem Rp.rd (I : Inv X pins σ H s) (hK : C.K = X.K) (hF : Same F H) : ∀ {v : V} {d : D} {u : Value}, Rp C F v d → cln l d = true → RelV v u → ∃ as, Reads s.heap u d as ∧ (l = false → sysModules ∉ as)
  | _, _, _, .non, _, r => by cases r; exact ⟨[], .none, fun _ => by simp⟩
  | _, _, _, .bl b, _, r => by cases r; exact ⟨[], .bool b, fun _ => by simp⟩
  | _, _, _, .int i, _, r => by obtain ⟨t, rfl⟩ := r; exact ⟨[], .int i t, fun _ => by simp⟩
  | _, _, _, .str x, _, r => by obtain ⟨t, rfl⟩ := r; exact ⟨[], .str x t, fun _ => by simp⟩
  | _, _, _, .lst h a, c, r => by
    rw [cln, Bool.and_eq_true] at c
    cases r
    obtain ⟨its, rv, ⟨o, n, ho, hc, _, hd⟩, _⟩ := I.list (SqL.of (hF _ _ h))
    obtain ⟨as, hr, _⟩ := RpA.rd I hK hF a c.2 rv
    exact ⟨_, .list ho hc hd hr, fun z => by rw [z] at c; exact nomatch c.1⟩
  | _, _, _, .tup h a, c, r => by
    rw [cln] at c
    cases r
    obtain ⟨its, rv, ⟨o, ho, hc, n, hd⟩, _⟩ := I.tuple (by rw [← hK]; exact sqT_mono hF h)
    obtain ⟨as, hr, hs⟩ := RpA.rd I hK hF a c rv
    exact ⟨_, .tuple ho hc hd hr, hs⟩
  | _, _, _, .dct h a k, c, r => by
    rw [cln, Bool.and_eq_true, clnKv_all] at c
    cases r
    obtain ⟨z, lo, vs, rk, o, es, ep, ho, hx, hd, _, hp, _⟩ := I.hok _ _ (hF _ _ h)
    obtain ⟨k1, k2⟩ := kv_vals rk
    obtain ⟨p1, p2⟩ := pairs_keys (h := s.heap) hp
    obtain ⟨as, hr, hs⟩ := RpA.rd I hK hF a c.2 k1
    rw [k2, ← k] at p1
    rw [← p2] at hr
    refine ⟨_, .dict ho hx.1 hd p1 hr, fun z => ?_⟩
    rw [List.mem_append, List.mem_singleton]
    rintro (e | e)
    · rw [← e] at lo; simp at lo
    · exact hs z e
  | _, _, _, .dcT h n a k, c, r => by
    rw [cln, Bool.and_eq_true, clnKv_all] at c
    cases r
    obtain ⟨z, lo, vs, rk, o, es, ep, ho, hx, hd, he, _⟩ := I.hok _ _ (hF _ _ h)
    obtain ⟨p1, k1⟩ := tkeys_reads I rk
    rw [← he] at p1 k1
    obtain ⟨as, hr, hs⟩ := RpA.rd I hK hF a c.2 k1
    rw [← k] at p1
    refine ⟨_, .dict ho hx.1 hd p1 hr, fun z => ?_⟩
    rw [List.mem_append, List.mem_singleton]
    rintro (e | e)
    · rw [← e] at lo; simp at lo
    · exact hs z e
  | _, _, _, .dz _ _ _, c, _ => by
    rw [cln] at c
    exact nomatch c
  | _, _, _, .nt _ _ _, c, _ => by
    rw [cln] at c
    exact nomatch c
  | _, _, _, .deck h, c, _ => by
    have : cln l deckD = false := rfl
    rw [this] at c; cases c
theorem RpA.rd (I : Inv X pins σ H s) (hK : C.K = X.K) (hF : Same F H) : ∀ {vs : List V} {ds : List D} {us : List Value}, RpA C F vs ds → clnAll l ds = true → Vals vs us → ∃ as, ReadsAll s.heap us ds as ∧ (l = false → sysModules ∉ as)
  | _, _, _, .nil, _, r => by cases r; exact ⟨[], .nil, fun _ => by simp⟩
  | _, _, _, .cons h t, c, r => by
    rw [clnAll, Bool.and_eq_true] at c
    cases r with
    | cons r1 r2 =>
      obtain ⟨as, q1, n1⟩ := Rp.rd I hK hF h c.1 r1
      obtain ⟨bs, q2, n2⟩ := RpA.rd I hK hF t c.2 r2
      exact ⟨_, .cons q1 q2, fun z m => (List.mem_append.mp m).elim (n1 z) (n2 z)⟩
end
end
/-- what repr tells -/
def shwOk (d : D) : Bool := d.showable && decide (d.shown.length ≤ sizeLine) && decide (d.depth ≤ 64) && (cln false d || (cln true d && !d.hasDict))
def dRepr : List D → Option D
  | [d] => if shwOk d = true then some (.str d.shown) else none
  | _ => none
section
variable {X : Cx} {C : Mc} {W : WX} {e : Expr} {pos p : Pos}
theorem repr_run {pins : List (Addr × Obj)} {σ : St} {F H : Hp} {s : Shared} {v : V} {d : D} {u : Value} {Q : VK} (cA : Calm X.A) (hu : X.A.units + 65 < cLine) (hK : C.K = X.K) (hF : Same F H) (I : Inv X pins σ H s) (r : Rp C F v d) (ok : shwOk d = true) (rv : RelV v u) (q : Q (.str d.shown) H) :
    wpAny (model X.prog X.w) X.A (call (.builtin "repr") [u]) (EP X pins σ Q) X.xe s := by
  unfold shwOk at ok
  rw [Bool.and_eq_true, Bool.and_eq_true, Bool.and_eq_true, decide_eq_true_eq, decide_eq_true_eq] at ok
  obtain ⟨⟨⟨h1, h2⟩, h3⟩, h4⟩ := ok
  have tell : ∀ (h' : Heap) (t tk : Tok), (∀ b o, s.heap.get? b = some o → h'.get? b = some o) → EP X pins σ Q (.str d.shown t) { s with heap := h', toks := tk } := fun h' t tk hk => ⟨.str d.shown, H, I.kept hk, ⟨t, rfl⟩, q⟩
  have rd : ∃ as, Reads s.heap u d as ∧ (d.hasDict = true → sysModules ∉ as) := by
    rw [Bool.or_eq_true, Bool.and_eq_true] at h4
    rcases h4 with h4 | ⟨h4, h5⟩
    · obtain ⟨as, a, b⟩ := r.rd I hK hF h4 rv
      exact ⟨as, a, fun _ => b rfl⟩
    · obtain ⟨as, a, _⟩ := r.rd I hK hF h4 rv
      exact ⟨as, a, fun z => by rw [z] at h5; cases h5⟩
  obtain ⟨as, rd, hsm⟩ := rd
  cases rd with
  | none => exact PySem.P.repr_of_none (tell s.heap _ _ fun _ _ e => e)
  | bool b => exact PySem.P.repr_of_bool (tell s.heap _ _ fun _ _ e => e)
  | int i t => exact PySem.P.repr_of_int (by simpa [PyData.showable] using h1) (tell s.heap _ _ fun _ _ e => e)
  | str x t => exact PySem.P.repr_of_str (tell s.heap _ _ fun _ _ e => e) (hsz := by simpa [PyData.shown] using h2)
  | list a1 a2 a3 a4 => exact repr_of_reads' (.list a1 a2 a3 a4) h1 hsm cA (by omega) (fun _ _ e => e) (fun h' t tk hk => tell h' t tk hk) h2
  | tuple a1 a2 a3 a4 => exact repr_of_reads' (.tuple a1 a2 a3 a4) h1 hsm cA (by omega) (fun _ _ e => e) (fun h' t tk hk => tell h' t tk hk) h2
  | dict a1 a2 a3 a4 a5 => exact repr_of_reads' (.dict a1 a2 a3 a4 a5) h1 hsm cA (by omega) (fun _ _ e => e) (fun h' t tk hk => tell h' t tk hk) h2
end
end MM
/-! repr, str of a number, a constant of the module, == (), tuple * number, a list of one's own from a + b. -/
namespace MM
open PySem PySem.Spec PyProof.Rows L2
section
variable {X : Cx} {C : Mc} {W : WX} {e a b : Expr} {es : List Expr} {pos p : Pos}
def rShw (C : Mc) : List V → Hp → VK → Prop := fun xs H Q => ∃ v F d, xs = [v] ∧ Same F H ∧ Rp C F v d ∧ shwOk d = true ∧ Q (.str d.shown) H
theorem cr_repr (cA : Calm X.A) (hu : X.A.units + 65 < cLine) (hK : C.K = X.K) : CallR X (.builtin "repr") (rShw C) := by
  intro pins s σ H xs us Q I r ⟨v, F, d, e, hF, rp, ok, q⟩
  subst e
  obtain ⟨u, rfl, ru⟩ := vals1 r
  exact repr_run cA hu hK hF I rp ok ru q
theorem cm_repr : CallM C dRepr (rShw C) := by
  intro Gc F H ps σ vs ds z Q R r hz q
  match ds, r with
  | [d], .cons r .nil =>
    have hz : (if shwOk d = true then some (PyData.str d.shown) else none) = some z := hz
    by_cases ok : shwOk d = true
    · rw [if_pos ok] at hz
      cases hz
      exact ⟨_, F, d, rfl, R.fh, r, ok, q _ F H (Same.refl _) R (.str _)⟩
    · rw [if_neg ok] at hz; cases hz
  | [], _ => cases hz
  | _ :: _ :: _, _ => cases hz
def dStr : List D → Option D
  | [.int i] => if decide (i.natAbs.log2 < 1920) = true then some (.str (toString i)) else none
  | _ => none
theorem cm_str : CallM C dStr (fun xs H Q => ∃ i, xs = [V.int i] ∧ i.natAbs.log2 < 1920 ∧ Q (.str (toString i)) H) := by
  intro Gc F H ps σ vs ds z Q R r hz q
  unfold dStr at hz
  split at hz
  · split at hz
    · rename_i hc
      cases hz
      cases r with
      | cons r1 r2 =>
        cases r1; cases r2
        exact ⟨_, rfl, of_decide_eq_true hc, q _ F H (Same.refl _) R (.str _)⟩
    · cases hz
  · cases hz
/-- a whole number of the module -/
theorem xconst {x : Str} {n : Int} {t : Tok} (hg : Gl X x) (hm : X.mg x = some (.int n t)) (hd : (x == ("__debug__" : Str)) = false := by decide) : PE X (.Name x pos) (tE C W (mC (.int n))) :=
  pe_imp (pe_glob (v := .int n) hg hm ⟨t, rfl⟩ hd) fun σ H Q ⟨Gc, F, ps, R, q⟩ => q (.int n) F H (Same.refl _) R (.int n)
/-! x == (), whatever x has -/
def rEq0 (K : PySem.W.Frag) (f : Bool → Bool) : R2 := fun x y H Q => ∃ l m xs, x = .ref l ∧ y = .ref m ∧ SqT K H l xs ∧ SqT K H m [] ∧ Q (.bl (f xs.isEmpty)) H
theorem eq0_parts {pins : List (Addr × Obj)} {σ : St} {H : Hp} {s : Shared} (I : Inv X pins σ H s) {l m : Addr} {xs : List V} (h1 : SqT X.K H l xs) (h2 : SqT X.K H m []) :
    ∃ us ws : Array Value, s.heap.IsTuple l us ∧ s.heap.IsTuple m ws ∧ ws.size = 0 ∧ us.size = xs.length := by
  obtain ⟨u1, r1, p1, _⟩ := I.tuple h1
  obtain ⟨u2, r2, p2, _⟩ := I.tuple h2
  refine ⟨u1.toArray, u2.toArray, ?_, ?_, ?_, ?_⟩
  · obtain ⟨o, ho, hc, n, hd⟩ := p1; exact ⟨o, ho, hc, n, hd⟩
  · obtain ⟨o, ho, hc, n, hd⟩ := p2; exact ⟨o, ho, hc, n, hd⟩
  · cases r2; rfl
  · rw [List.size_toArray, ← r1.length]
theorem empty_and {xs : List V} {n m : Nat} (h : m = 0) (h2 : n = xs.length) : ((List.range (min n m)).all (fun _ => true) && n == m) = xs.isEmpty := by
  subst h; subst h2
  cases xs <;> simp
theorem op_eq0 (hu : X.A.units < cLine) : OpR X (compareOp .Eq) (rEq0 X.K id) := by
  intro pins s σ H x y v u Q I rx ry ⟨l, m, xs, e1, e2, h1, h2, q⟩
  subst e1; subst e2
  cases rx; cases ry
  obtain ⟨us, ws, p1, p2, z, n⟩ := eq0_parts I h1 h2
  refine SeqAt.eq_tupleAt (e := fun _ => true) p1 p2 hu (fun j a1 a2 => by omega) ?_
  rw [empty_and z n]
  exact ⟨.bl xs.isEmpty, H, I, rfl, q⟩
theorem op_ne0 (hu : X.A.units < cLine) : OpR X (compareOp .NotEq) (rEq0 X.K not) := by
  intro pins s σ H x y v u Q I rx ry ⟨l, m, xs, e1, e2, h1, h2, q⟩
  subst e1; subst e2
  cases rx; cases ry
  obtain ⟨us, ws, p1, p2, z, n⟩ := eq0_parts I h1 h2
  refine SeqAt.RcNeAt.tuples (e := fun _ => true) p1 p2 hu (fun j a1 a2 => by omega) X.prog X.w _ _ ?_
  rw [empty_and z n]
  exact ⟨.bl (!xs.isEmpty), H, I, rfl, q⟩
def dEq0 (f : Bool → Bool) (x y : D) : Option D := match x, y with
  | .tuple xs, .tuple [] => some (.bool (f xs.isEmpty))
  | _, _ => none
theorem om_eq0 {f : Bool → Bool} (hK : C.K = X.K) : OpM C (dEq0 f) (rEq0 X.K f) := by
  intro Gc F H ps σ v u x y z Q R rx ry hz q
  unfold dEq0 at hz
  split at hz
  · cases hz
    cases rx with
    | tup t1 a1 =>
      cases ry with
      | tup t2 a2 =>
        cases a2
        refine ⟨_, _, _, rfl, rfl, by rw [← hK]; exact sqT_mono R.fh t1, by rw [← hK]; exact sqT_mono R.fh t2, ?_⟩
        have e : ∀ {vs : List V} {ds : List D}, RpA C F vs ds → vs.isEmpty = ds.isEmpty := fun r => by cases r <;> rfl
        rw [e a1]
        exact q _ F H (Same.refl _) R (.bl _)
  · cases hz
/-! tuple * number -/
def dMulT (x y : D) : Option D := match x, y with
  | .tuple xs, .int k => if (!xs.isEmpty && decide (2 ≤ k.toNat) && decide (k.toNat ≤ 1000) && decide (xs.length ≤ 1000)) = true then some (.tuple (List.replicate k.toNat xs).flatten) else none
  | _, _ => none
theorem rpa_rep {F : Hp} {xs : List V} {ds : List D} (r : RpA C F xs ds) : ∀ n : Nat, RpA C F (List.replicate n xs).flatten (List.replicate n ds).flatten
  | 0 => .nil
  | n + 1 => by
    rw [List.replicate_succ, List.replicate_succ, List.flatten_cons, List.flatten_cons]
    exact r.append (rpa_rep r n)
theorem om_mulT (hK : C.K = X.K) : OpM C dMulT (rRepT X.K) := by
  intro Gc F H ps σ v u x y z Q R rx ry hz q
  unfold dMulT at hz
  split at hz
  · rename_i xs k
    split at hz
    · rename_i hc
      rw [Bool.and_eq_true, Bool.and_eq_true, Bool.and_eq_true] at hc
      obtain ⟨⟨⟨c1, c2⟩, c3⟩, c4⟩ := hc
      have c2 := of_decide_eq_true c2
      have c3 := of_decide_eq_true c3
      have c4 := of_decide_eq_true c4
      cases hz
      cases ry
      cases rx with
      | tup t1 a1 =>
        refine ⟨_, k, _, rfl, rfl, by rw [← hK]; exact sqT_mono R.fh t1, ?_, by omega, by omega, by rw [a1.length]; exact c4, fun p n => ?_⟩
        · intro e
          rw [e] at a1
          cases a1
          cases c1
        · exact q _ _ _ (same_alloc (R.fh.free n)) (R.alloc n) (.tup upd_same ((rpa_rep a1 _).mono (same_alloc (R.fh.free n))))
    · cases hz
  · cases hz
/-! a new list: a + b -/
def mCat (ma mb : ME) : MLs := fun ps => (ma ps).bind fun x ps1 => (mb ps1).bind fun y ps2 => match x, y with
  | .list xs, .list ys => if xs.length + ys.length ≤ sizeLine then .ok (xs ++ ys) ps2 else .bad
  | _, _ => .bad
theorem xcat {ma mb : ME} (ha : PE X a (tE C W ma)) (hb : PE X b (tE C W mb)) : PE X (.BinOp a .Add b pos) (tF C W (mCat ma mb)) :=
  pe_imp (pe_op op_cat ha hb) fun σ H Q ⟨Gc, F, ps, R, q⟩ => seqE qF.mono R q fun x ps1 v F1 H1 s1 R1 r1 q1 => seqE qF.mono R1 q1 fun y ps2 u F2 H2 s2 R2 r2 q2 => by
    cases x with
    | list xs =>
      cases y with
      | list ys =>
        have q2 : Po C W Gc σ (qF C Gc σ Q) F2 (if xs.length + ys.length ≤ sizeLine then .ok (xs ++ ys) ps2 else .bad) := q2
        by_cases hl : xs.length + ys.length ≤ sizeLine
        · rw [if_pos hl] at q2
          cases r1 with
          | lst h1 a1 =>
            cases r2 with
            | lst h2 a2 =>
              exact ⟨_, _, _, _, rfl, rfl, R2.fh _ _ (s2 _ _ h1), R2.fh _ _ h2, by rw [a1.length, a2.length]; exact hl, fun p n => q2 p _ F2 _ (Same.refl _) (R2.fresh n) (R2.loose n) ((a1.mono s2).append a2)⟩
        · rw [if_neg hl] at q2; exact q2.elim
      | _ => exact q2.elim
    | _ => exact q2.elim
/-! two texts, whatever they are -/
def dEqS (f : Bool → Bool) (x y : D) : Option D := match x, y with
  | .str s, .str t => some (.bool (f (decide (s = t))))
  | _, _ => none
theorem dec_vstr {s t : Str} : decide (V.str s = V.str t) = decide (s = t) := decide_eq_decide.mpr ⟨fun h => by injection h, fun h => by rw [h]⟩
theorem om_eqS : OpM C (dEqS id) rEq := by
  intro Gc F H ps σ v u x y z Q R rx ry hz q
  unfold dEqS at hz
  split at hz
  · cases hz; cases rx; cases ry
    exact ⟨rfl, by rw [dec_vstr]; exact q _ F H (Same.refl _) R (.bl _)⟩
  · cases hz
theorem om_neS : OpM C (dEqS not) rNe := by
  intro Gc F H ps σ v u x y z Q R rx ry hz q
  unfold dEqS at hz
  split at hz
  · cases hz; cases rx; cases ry
    exact ⟨rfl, by rw [dec_vstr]; exact q _ F H (Same.refl _) R (.bl _)⟩
  · cases hz
end
end MM
/-! enumerate(a tuple). -/
namespace MM
open PySem PySem.Spec PyProof.Rows L2
def enumOb (it : Addr) : Obj := { cls := .type "enumerate", data := .fields #[.none, .bool false, .ref it, rawInt 0, .none, .none] }
set_option maxHeartbeats 1000000 in
theorem enum1_meets {v : Value} {o : Obj} {G : Heap → Prop} (B : Begins v o G) :
    Meets (Builtin.«enumerate.__new__» ⟨[.type "enumerate", v], []⟩) (fun _ R s => G s.heap ∧ R (.ok (.ret (.ref (s.heap.push o).objs.size))) { s with heap := (s.heap.push o).push (enumOb s.heap.objs.size) }) :=
  .of_wp fun prog w A R ⟨hp, g, d, tk, os⟩ ⟨hg, hR⟩ => by
    have hsub := sub_enumerate
    have itr : ∀ {A' : Around} {E Q : Value → Shared → Prop}, Q (.ref hp.objs.size) ⟨hp.push o, g, d, tk, os⟩ → wpAny (model prog w) A' (pyIter v) Q E ⟨hp, g, d, tk, os⟩ := fun q => B.iter prog w _ _ ⟨hp, g, d, tk, os⟩ _ hg q
    wp_walk using itr
    refine wpAny_stack_any fun st => wpAny_pure ?_
    split
    · rename_i c _ _ _ _ _
      generalize (c == Value.type "enumerate") = t
      cases t <;> (wp_walk using itr; exact ⟨_, rfl, hR⟩)
    · wp_walk using itr; exact ⟨_, rfl, hR⟩
section
variable {prog : Program} {w : World} {A : Around} {E : Value → Shared → Prop} {s : Shared}
theorem call_enumT {a : Addr} {its : Array Value} {Q : Value → Shared → Prop} (ht : s.heap.IsTuple a its)
    (h : ∀ h' : Heap, IsEnum h' (s.heap.objs.size + 1) s.heap.objs.size 0 .none → h'.IsTupleIter s.heap.objs.size a 0 → (∀ b o, s.heap.get? b = some o → h'.get? b = some o) → Q (.ref (s.heap.objs.size + 1)) { s with heap := h' }) :
    wpAny (model prog w) A (call (.type "enumerate") [.ref a]) Q E s := by
  let o : Obj := { cls := .type "tuple_iterator", data := .fields #[.ref a, .int 0 0] }
  have z : (s.heap.push o).objs.size = s.heap.objs.size + 1 := Heap.size_push ..
  have e1 : ((s.heap.push o).push (enumOb s.heap.objs.size)).get? (s.heap.objs.size + 1) = some (enumOb s.heap.objs.size) := by
    rw [← z]; exact Heap.get?_push_size _ rfl
  have e2 : ((s.heap.push o).push (enumOb s.heap.objs.size)).get? s.heap.objs.size = some o := Heap.get?_push_of_some _ (Heap.get?_push_size _ rfl)
  refine callType_new F.called_enumerate (by decide) (F.typeCall_enumerate_1 _) (F.newCall_enumerate_1 _) (fun obj => F.args_object_init_2 obj _) F.entry_enumerate_new (enum1_meets (begins_tuple a its)) ⟨ht, ?_⟩
  show _ ∧ _
  rw [z]
  exact ⟨⟨_, e1, rfl⟩, h _ e1 ⟨_, e2, rfl, rfl⟩ fun b o' x => Heap.get?_push_of_some _ (Heap.get?_push_of_some _ x)⟩
end
/-- the tuple at a, each item in a new pair -/
def ItU (K : PySem.W.Frag) (a : Addr) : It :=
  ⟨fun i H => ∃ (xs : List V) (x : V), SqT K H a xs ∧ xs[i]? = some x, fun i H v H' => ∃ T x, v = .ref T ∧ H T = none ∧ H' = upd H T (.tup [.int (i : Nat), x]) ∧ ∀ xs, SqT K H a xs → xs[i]? = some x, fun i H => ∃ xs : List V, SqT K H a xs ∧ xs.length ≤ i⟩
def tnU (a e it : Addr) (i : Nat) (h : Heap) : Prop := (∃ old, IsEnum h e it ((i : Nat) : Int) old) ∧ h.IsTupleIter it a i ∧ e ≠ it ∧ a ≠ it ∧ e ≠ a
theorem turnU {P : Program} {w : World} {K : PySem.W.Frag} {elts : List Expr} {kk : Nat} {tpos : Pos} (a e it : Addr) : Turn P w K (.Tuple elts kk tpos) (ItU K a) [e, it] e (tnU a e it) where
  mem := List.mem_cons_self ..
  obj := fun i h ⟨⟨old, he⟩, ⟨o, ho, hc, hd⟩, _⟩ b hb => by
    rcases List.mem_cons.mp hb with z | z
    · subst z; exact ⟨_, he, fun v q => nomatch q⟩
    · rw [List.mem_singleton.mp z]; exact ⟨o, ho, fun v q => by rw [hd] at q; cases q⟩
  keep := fun i h h' ⟨⟨old, he⟩, hi, hn⟩ k => ⟨⟨old, k e (by simp) _ he⟩, hi.at fun o q => k it (by simp) o q, hn⟩
  item := fun X hP hw hK hc i pins s σ H E I hf ⟨⟨old, he⟩, hi, n1, n2, n3⟩ ⟨xs, x, hq, hx⟩ => by
    subst hP hw hK
    obtain ⟨its, rv, p, _⟩ := I.tuple hq
    obtain ⟨u, hu, ru⟩ := rv.get hx
    have p' : s.heap.IsTuple a its.toArray := by obtain ⟨o, ho, hc, n, hd⟩ := p; exact ⟨o, ho, hc, n, hd⟩
    have le : e < s.heap.objs.size := Heap.lt_size he
    have li : it < s.heap.objs.size := by obtain ⟨_, q, _⟩ := hi; exact Heap.lt_size q
    have hlt : i < its.toArray.size := by
      have := (List.getElem?_eq_some_iff.mp hu).1
      simpa using this
    have D := Draws.tuple (prog := X.prog) (w := X.w) (A := X.A.in1) (I.ok.hd hc) it a n2 its.toArray
    refine wpAny_pyNext_enum_itemD D he ⟨hi, p'⟩ hlt n1 (by simp [n1, n3]) fun y h1 tk hy ho st hT hsz hk => ?_
    have hyu : y = u := by
      have : its[i]? = some y := by simpa using hy
      rw [hu] at this; cases this; rfl
    subst hyu
    refine ⟨_, rfl, wpAny_letOwnedTupleGo_enum (s := { s with heap := h1, toks := tk + 1 }) ho fun h2 he2 sb => ?_⟩
    have hT2 := (sb.2 _ (Nat.ne_of_gt le)).trans hT
    have new : ObjOk X.prog X.w (upd H s.heap.objs.size (.tup [.int (i : Nat), x])) h2 s.heap.objs.size (.tup [.int (i : Nat), x]) := ⟨by show 2 ≤ sizeLine; decide, [.int i tk, y], .cons ⟨_, rfl⟩ (.cons ru .nil), ⟨_, hT2, rfl, _, rfl⟩⟩
    have I1 : Inv X pins σ (upd H s.heap.objs.size (.tup [.int (i : Nat), x])) { s with heap := h2, toks := tk + 1 } :=
      I.turnedNew (ch := [e, it]) (fun b ob hb q => (sb.2 b (fun z => hb (by simp [z]))).trans (hk b ob (fun z => hb (by simp [z])) (fun z => hb (by simp [z])) q)) hf (Nat.le_refl _) new
    refine ⟨.ref s.heap.objs.size, _, I1, rfl, ⟨_, x, rfl, I.hok.fresh (Nat.le_refl _), rfl, fun ys hy => by rw [I.tuple_inj hy hq]; exact hx⟩, ⟨⟨y, ?_⟩, st.1.at fun o q => (sb.2 it (Ne.symm n1)).trans q, n1, n2, n3⟩, fun b hb => ?_⟩
    · have c : ((i + 1 : Nat) : Int) = (i : Int) + 1 := by omega
      rw [c]; exact he2
    · have lb : b < s.heap.objs.size := by
        rcases List.mem_cons.mp hb with z | z
        · rw [z]; exact le
        · rw [List.mem_singleton.mp z]; exact li
      rw [upd_ne (Nat.ne_of_lt lb)]
      exact (hf b hb).1
  done := fun X hP hw hK hc i pins s σ H E I hf ⟨⟨old, he⟩, hi, n1, n2, n3⟩ ⟨xs, hq, hx⟩ => by
    subst hP hw hK
    obtain ⟨its, rv, p, _⟩ := I.tuple hq
    have p' : s.heap.IsTuple a its.toArray := by obtain ⟨o, ho, hc, n, hd⟩ := p; exact ⟨o, ho, hc, n, hd⟩
    obtain ⟨f0, f1, f2, f3, f4, f5⟩ := hf it (by simp)
    have hl := rv.length
    have D : Draws X.prog X.w X.A.in1 it [it, a] 0 (fun _ _ => False) (fun _ h => h.IsTupleIter it a i ∧ h.IsTuple a its.toArray) := {
      live := fun _ _ st => let ⟨o, ho, _⟩ := st.1; ⟨o, ho⟩
      frame := fun _ _ _ st k => ⟨st.1.at fun o q => k it (by simp) o q, st.2.at fun o q => k a (by simp) o q⟩
      item := fun j s Q E hj => absurd hj (Nat.not_lt_zero _)
      done := fun s Q E st hE => wpAny_nextOf_tuple_end (I.ok.hd hc) st.1 st.2 (by simp; omega) hE }
    exact wpAny_pyNext_enum_endD D he ⟨hi, p'⟩ fun h' eb => ⟨rfl, I.turned (t' := s.toks) (fun b o hb q => eb b o hb q) f0 f1 f3 f4 f5⟩
  self := fun A i s Q E ⟨⟨_, he⟩, _⟩ h => wpAny_pyIter_enum he h
def iEnumT (K : PySem.W.Frag) (ta : TA) : TI := fun σ H R => ta σ H fun vs H1 => (∃ a xs, vs = [.ref a] ∧ SqL K H1 a xs ∧ R (Ite K a) H1) ∨ ∃ a xs, vs = [.ref a] ∧ SqT K H1 a xs ∧ R (ItU K a) H1
theorem pi_enumA {X : Cx} {e : Expr} {ta : TA} {p pos tpos : Pos} {elts : List Expr} {kk : Nat} (hg : Gl X "enumerate") (hm : X.mg "enumerate" = none) (ha : PA X [e] ta) (hs : starEach [e] X.env = [(false, eval e X.env)] := by rfl) :
    PI X (.Tuple elts kk tpos) (.Call (.Name "enumerate" p) [e] [] pos) (iEnumT X.K ta) := ⟨fun pins s σ H R I h => by
  refine Call_ (ld_blt I hg hm boot_enumerate (PyProof.Rows.callWith_type1 (thn (ha.run pos pins s σ H _ I h) fun us s1 ⟨vs, H1, I1, r1, q1⟩ => ?_) hs rfl))
  have fresh : ∀ {b : Addr}, s1.heap.objs.size ≤ b → FpOk X pins H1 b := fun {b} hb => I1.fpOk hb (I1.hok.fresh hb)
  have both : ∀ b ∈ [s1.heap.objs.size + 1, s1.heap.objs.size], FpOk X pins H1 b := fun b hb => by
    rcases List.mem_cons.mp hb with z | z
    · exact fresh (by omega)
    · exact fresh (by rw [List.mem_singleton.mp z]; exact Nat.le_refl _)
  rcases q1 with ⟨a, xs, ex, hq, q⟩ | ⟨a, xs, ex, hq, q⟩
  · subst ex
    obtain ⟨us1, rfl, r⟩ := vals1 r1
    cases r
    obtain ⟨its, rv, p', hz⟩ := I1.list hq
    exact call_enumerate_list p'.isList fun h' he hit hsz hk => wpAny_pyIter_enum he ⟨s1.heap.objs.size + 1, [s1.heap.objs.size + 1, s1.heap.objs.size], _, _, H1, rfl, I1.kept (t' := s1.toks) hk, turn_enum a (s1.heap.objs.size + 1) s1.heap.objs.size, ⟨⟨.none, he⟩, hit, Nat.succ_ne_self _⟩, both, q⟩
  · subst ex
    obtain ⟨us1, rfl, r⟩ := vals1 r1
    cases r
    obtain ⟨its, rv, p', hz⟩ := I1.tuple hq
    have la : a < s1.heap.objs.size := by obtain ⟨o, ho, _⟩ := p'; exact Heap.lt_size ho
    have tt : s1.heap.IsTuple a its.toArray := by obtain ⟨o, ho, hc, n, hd⟩ := p'; exact ⟨o, ho, hc, n, hd⟩
    exact call_enumT tt fun h' he hit hk => wpAny_pyIter_enum he ⟨s1.heap.objs.size + 1, [s1.heap.objs.size + 1, s1.heap.objs.size], _, _, H1, rfl, I1.kept (t' := s1.toks) hk, turnU a (s1.heap.objs.size + 1) s1.heap.objs.size, ⟨⟨.none, he⟩, hit, Nat.succ_ne_self _, Nat.ne_of_lt la, Nat.ne_of_gt (Nat.lt_succ_of_lt la)⟩, both, q⟩⟩
section
variable {X : Cx} {C : Mc} {W : WX} {e : Expr}
theorem itr_enumT {F : Hp} {K : PySem.W.Frag} {a : Addr} {xs : List V} {ds : List D} (hK : C.K = K) (h : F a = some (.tup xs)) (r : RpA C F xs ds) : ItR C (ItU K a) F (enumD ds) where
  go := fun i H hi s => ⟨xs, xs[i]'(by rw [r.length]; simpa [enumD] using hi), by rw [← hK]; exact sqT_mono s h, by simp⟩
  stop := fun H s => ⟨xs, by rw [← hK]; exact sqT_mono s h, by rw [r.length]; simp [enumD]⟩
  yld := fun i H x H' Gc F' ps σ d s R hd ⟨T, x1, e1, n, e2, g1⟩ => by
    subst e1; subst e2
    obtain ⟨dx, k1, k3⟩ := enumD_get hd
    subst k3
    obtain ⟨v1, m1, m2⟩ := r.get' k1
    have q1 := g1 xs (by rw [← hK]; exact sqT_mono R.fh (s _ _ h))
    rw [m1] at q1; cases q1
    have nf : F' T = none := R.fh.free n
    exact ⟨_, same_alloc nf, R.alloc n, .tup upd_same (.cons (.int _) (.cons ((m2.mono s).mono (same_alloc nf)) .nil))⟩
def dEnum : List D → Option (List D)
  | [.list xs] => some (enumD xs)
  | [.tuple xs] => some (enumD xs)
  | _ => none
def mEnum (a : MA) : MA := fun ps => (a ps).bind fun ds ps1 => .of (dEnum ds) ps1
theorem xi_enum {ma : MA} {p pos tpos : Pos} {elts : List Expr} {kk : Nat} (hK : C.K = X.K) (hg : Gl X "enumerate") (hm : X.mg "enumerate" = none) (ha : PA X [e] (tA C W ma)) (hs : starEach [e] X.env = [(false, eval e X.env)] := by rfl) :
    PI X (.Tuple elts kk tpos) (.Call (.Name "enumerate" p) [e] [] pos) (tI C W (mEnum ma)) :=
  pi_imp (pi_enumA hg hm ha hs) fun σ H Q ⟨Gc, F, ps, R, q⟩ => seqA qI.mono R q fun ds ps1 vs F1 H1 s1 R1 r1 q1 => by
    match ds, r1 with
    | [.list ds], .cons (.lst h r) .nil => exact .inl ⟨_, _, rfl, SqL.of (R1.fh _ _ h), q1 _ F1 H1 (Same.refl _) R1 (itr_enum h r)⟩
    | [.tuple ds], .cons (.tup h r) .nil => exact .inr ⟨_, _, rfl, by rw [← hK]; exact sqT_mono R1.fh h, q1 _ F1 H1 (Same.refl _) R1 (itr_enumT hK h r)⟩
    | [], _ => exact q1.elim
    | [.none], _ => exact q1.elim
    | [.bool _], _ => exact q1.elim
    | [.int _], _ => exact q1.elim
    | [.str _], _ => exact q1.elim
    | [.dict _], _ => exact q1.elim
    | .none :: _ :: _, _ => exact q1.elim
    | .bool _ :: _ :: _, _ => exact q1.elim
    | .int _ :: _ :: _, _ => exact q1.elim
    | .str _ :: _ :: _, _ => exact q1.elim
    | .list _ :: _ :: _, _ => exact q1.elim
    | .tuple _ :: _ :: _, _ => exact q1.elim
    | .dict _ :: _ :: _, _ => exact q1.elim
end
end MM
/-! int(a truth), x.insert(i, v), <= of tuples. -/
namespace MM
open PySem PySem.Spec PyProof.Rows L2
section
variable {X : Cx} {C : Mc} {W : WX} {o e a b : Expr} {es : List Expr} {pos p apos cpos : Pos}
def dIntC : List D → Option D
  | [.int i] => some (.int i)
  | [.bool b] => some (.int (if b then 1 else 0))
  | _ => none
theorem cm_int : CallM C dIntC (fun xs H Q => (∃ i, xs = [V.int i] ∧ Q (.int i) H) ∨ ∃ k, xs = [V.bl k] ∧ Q (.int (if k then 1 else 0)) H) := by
  intro Gc F H ps σ vs ds z Q R r hz q
  unfold dIntC at hz
  split at hz
  · cases hz
    cases r with
    | cons r1 r2 => cases r1; cases r2; exact .inl ⟨_, rfl, q _ F H (Same.refl _) R (.int _)⟩
  · cases hz
    cases r with
    | cons r1 r2 => cases r1; cases r2; exact .inr ⟨_, rfl, q _ F H (Same.refl _) R (.int _)⟩
  · cases hz
/-- x.insert(i, v) -/
def mInsert (i : Nat) (a b : ME) : ME := fun ps => match ps.sl[i]? with
  | some (.ml _) => (a ps).bind fun n ps1 => (b ps1).bind fun d ps2 => match ps2.sl[i]?, n with
    | some (.ml ds), .int j => if (decide (ds.length < sizeLine) && decide (0 ≤ j) && decide (j.natAbs < 1000000)) = true then .ok .none (ps2.setS i (.ml (ds.take j.toNat ++ [d] ++ ds.drop j.toNat))) else .bad
    | _, _ => .bad
  | _ => .bad
theorem insert_ok {i : Nat} {ma mb : ME} {σ : St} {H : Hp} {Q : VK} (h : tE C W (mInsert i ma mb) σ H Q) : tBM X.K "list" (fun x vs H Q => ∃ (l : Addr) (xs : List V) (i : Int) (y : V), x = .ref l ∧ vs = [.int i, y] ∧ H l = some (.lst xs) ∧ xs.length < sizeLine ∧ 0 ≤ i ∧ i < 2 ^ 63 ∧
    Q .non (upd H l (.lst (xs.take i.toNat ++ [y] ++ xs.drop i.toNat)))) (tVar i) (tCons (tE C W ma) (tCons (tE C W mb) tNil)) σ H Q := by
  obtain ⟨Gc, F, ps, R, q⟩ := h
  unfold mInsert at q
  cases es : ps.sl[i]? with
  | none => rw [es] at q; exact q.elim
  | some s =>
    rw [es] at q
    cases s with
    | ml d0 =>
      obtain ⟨p, xs, h1, h2, _⟩ := ml_at R es
      refine ⟨.ref p, h1, .inl ⟨rfl, xs, SqL.of h2⟩, ?_⟩
      refine seqE qE.mono R q fun n ps1 v F1 H1 s1 R1 r1 q1 => ?_
      refine seqE qE.mono R1 q1 fun d ps2 u F2 H2 s2 R2 r2 q2 => ?_
      cases es2 : ps2.sl[i]? with
      | none => rw [es2] at q2; exact q2.elim
      | some s3 =>
        rw [es2] at q2
        cases s3 with
        | ml ds =>
          cases n with
          | int j =>
            obtain ⟨p', ys, g1, g2, g3, g4, g5⟩ := ml_at R2 es2
            rw [h1] at g1
            cases g1
            cases r1
            dsimp only at q2
            by_cases hl : (decide (ds.length < sizeLine) && decide (0 ≤ j) && decide (j.natAbs < 1000000)) = true
            · rw [if_pos hl] at q2
              rw [Bool.and_eq_true, Bool.and_eq_true] at hl
              have c1 := of_decide_eq_true hl.1.1
              have c2 := of_decide_eq_true hl.1.2
              have c3 := of_decide_eq_true hl.2
              refine ⟨p, ys, j, u, rfl, rfl, g2, by rw [g5.length]; exact c1, c2, by omega, q2 _ F2 _ (Same.refl _) ?_ .non⟩
              exact R2.mutate es2 rfl h1 g3 g4 rfl ⟨p, _, rfl, upd_same, g3, g4, ((g5.take _).append (.cons r2 .nil)).append (g5.drop _)⟩
            · rw [if_neg hl] at q2; exact q2.elim
          | _ => exact q2.elim
        | _ => cases n <;> exact q2.elim
    | _ => exact q.elim
theorem xinsert {i : Nat} {ma mb : ME} (ho : PE X o (tVar i)) (ha : PE X a (tE C W ma)) (hb : PE X b (tE C W mb))
    (hbase : attributeBase o "insert" X.env (eval o X.env) = eval o X.env := by rfl)
    (hfew : ((backTo cpos (starEach (a :: [b]) X.env)).all (fun x => !x.1) && (backToKw cpos (keywordEach [] X.env)).all (fun x => x.1.isSome)
      && decide ((a :: ([b] : List Expr)).length + ([] : List Keyword).length + (if ([] : List Keyword).isEmpty then 0 else 1) < 30)) = true := by rfl)
    (hline : (apos.endLine == cpos.line) = true := by rfl) (hs : starEach (a :: [b]) X.env = (false, eval a X.env) :: starEach [b] X.env := by rfl) (hs2 : starEach (b :: []) X.env = (false, eval b X.env) :: starEach [] X.env := by rfl) (hplain : (backTo cpos (starEach [b] X.env)).any (·.1) = false := by rfl) :
    PE X (.Call (.Attribute o "insert" apos) [a, b] [] cpos) (tE C W (mInsert i ma mb)) :=
  pe_imp (pe_bm PySem.F.plainAttrs_list PySem.F.slot_list_insert PySem.F.type_list_insert mt_insert ho (pa_cons ha (pa_cons hb pa_nil hs2) hs) hbase hfew hline hs hplain) fun _ _ _ h => insert_ok h
/-- <= of numbers, of tuples of numbers -/
def leT (ns ms : List Int) : Bool := Ob.lexAt (fun j => decide (ns.getD j 0 = ms.getD j 0)) (fun j => decide (ns.getD j 0 ≤ ms.getD j 0)) (decide (ns.length ≤ ms.length)) 0 (min ns.length ms.length)
def dLeT (x y : D) : Option D := match x, y with
  | .tuple xs, .tuple ys => (intsOf xs).bind fun ns => (intsOf ys).map fun ms => .bool (leT ns ms)
  | _, _ => none
theorem om_leT (hK : C.K = X.K) : OpM C dLeT (rLeT X.K) := by
  intro Gc F H ps σ v u x y z Q R rx ry hz q
  unfold dLeT at hz
  split at hz
  · obtain ⟨ns, e1, hz⟩ := Option.bind_eq_some_iff.mp hz
    obtain ⟨ms, e2, hz⟩ := Option.map_eq_some_iff.mp hz
    subst hz
    have i1 := intsOf_eq e1
    have i2 := intsOf_eq e2
    subst i1; subst i2
    cases rx with
    | tup t1 a1 =>
      cases ry with
      | tup t2 a2 =>
        have j1 := a1.ints
        have j2 := a2.ints
        subst j1; subst j2
        exact ⟨_, _, ns, ms, rfl, rfl, by rw [← hK]; exact sqT_mono R.fh t1, by rw [← hK]; exact sqT_mono R.fh t2, q _ F H (Same.refl _) R (.bl _)⟩
  · cases hz
end
end MM
/-! min(a, b), max(a, b) of data that are alike. -/
namespace MM
open PySem PySem.Spec PyProof.Rows L2 PySem.W
section
variable {prog : Program} {w : World} {A : Around} {E : Value → Shared → Prop} {s : Shared}
theorem best2 {bt : Nat → Nat → Bool} : argBest bt 1 = if bt 1 0 = true then 1 else 0 := by
  show (if bt (0 + 1) 0 = true then 0 + 1 else 0) = _
  rfl
theorem min2_run {a b : Value} {da db : PyData} {as bs : List Addr} {Q : Value → Shared → Prop} (hh : A.handled = none) (ra : Reads s.heap a da as) (rb : Reads s.heap b db bs) (al : AlikeAll [da, db]) (hu : A.units + 1 + PyData.depthAll [da, db] < cLine)
    (h : ∀ h' tk, (∀ c o, s.heap.get? c = some o → h'.get? c = some o) → Q (if dataLt db da = true then b else a) { s with heap := h', toks := tk }) : wpAny (model prog w) A (call (.builtin "min") [a, b]) Q E s := by
  have nm : (toString "min" ++ toString ".loop" : String) = "min.loop" := by decide
  refine call_function_tree F.kind_min F.plain_min F.entry_min (F.args_min2 _ _) (show wpAny _ A.in1 (Builtin.Builtins.bindParams "min" ["key", "default"] 0 ⟨[], []⟩ >>= _) _ _ s from wpAny_bind (wpAny_of_eq (show _ = pure [none, none] from rfl) ?_))
  show wpAny _ A.in1 (newTuple [a, b] >>= _) _ _ s
  refine wpAny_bind (wpAny_newObj_type ?_)
  have up : ∀ c o, s.heap.get? c = some o → (s.heap.push { cls := .type "tuple", data := .seq #[a, b] }).get? c = some o := fun c o e => Heap.get?_push_of_some _ e
  let s1 : Shared := { s with heap := s.heap.push { cls := .type "tuple", data := .seq #[a, b] } }
  have ht : s1.heap.IsTuple s.heap.objs.size #[a, b] := ⟨_, Heap.get?_push_size _ rfl, rfl, 0, rfl⟩
  have hr : ReadsAll s1.heap (#[a, b] : Array Value).toList [da, db] _ := ReadsAll.cons (Reads.keeps up ra) (ReadsAll.cons (Reads.keeps up rb) ReadsAll.nil)
  refine wpAny_bind (iter_tupleW (s := s1) (A := A.in1) hh ht fun s2 e W st hfp hw hk => ?_)
  refine wpAny_bind (wpAny_newObj_type ?_)
  have hS : s2.heap.objs.size ∉ [s1.heap.objs.size, s.heap.objs.size] := fun m => Nat.lt_irrefl _ (hfp _ m)
  rw [nm]
  refine wpAny_pure ⟨plainId_quiet F.plain_min_loop _, codeAny_min_loop_firstH W s1.heap hw _ (cmpIn_lt (A := A.in1) hr al (by show A.units + 1 + _ < _; exact hu)) s2.heap.objs.size hS (fresh_in hk) _ (by show 0 < 2; decide) (fun c o e => Heap.get?_push_of_some _ (hk c o e))
    (W.frame 0 s2 _ s2.toks st (Nat.le_refl _) fun c _ o e => Heap.get?_push_of_some _ e) (Heap.get?_push_size _ rfl) fun v s' hP hm => ?_⟩
  obtain ⟨h', tk, e', hk'⟩ := moved_old e rfl (Moved.drop_new (tk := s2.toks) hm (Nat.le_refl _))
  subst e'
  have q := h h' tk fun c o e => hk' c o (up c o e)
  have hv : v = if dataLt db da = true then b else a := by
    have hP : (#[a, b] : Array Value)[argBest (fun i j => dataLt ([da, db].getD i .none) ([da, db].getD j .none)) 1]? = some v := hP
    rw [best2] at hP
    by_cases c : dataLt db da = true
    · have c' : dataLt ([da, db].getD 1 .none) ([da, db].getD 0 .none) = true := c
      rw [if_pos c'] at hP
      rw [if_pos c]
      simpa using hP.symm
    · have c' : ¬ dataLt ([da, db].getD 1 .none) ([da, db].getD 0 .none) = true := c
      rw [if_neg c'] at hP
      rw [if_neg c]
      simpa using hP.symm
  rw [hv]; exact q
theorem max2_run {a b : Value} {da db : PyData} {as bs : List Addr} {Q : Value → Shared → Prop} (hh : A.handled = none) (ra : Reads s.heap a da as) (rb : Reads s.heap b db bs) (al : AlikeAll [da, db]) (hu : A.units + 1 + PyData.depthAll [da, db] < cLine)
    (h : ∀ h' tk, (∀ c o, s.heap.get? c = some o → h'.get? c = some o) → Q (if dataLt da db = true then b else a) { s with heap := h', toks := tk }) : wpAny (model prog w) A (call (.builtin "max") [a, b]) Q E s := by
  have nm : (toString "max" ++ toString ".loop" : String) = "max.loop" := by decide
  refine call_function_tree F.kind_max F.plain_max F.entry_max (F.args_max2 _ _) (show wpAny _ A.in1 (Builtin.Builtins.bindParams "max" ["key", "default"] 0 ⟨[], []⟩ >>= _) _ _ s from wpAny_bind (wpAny_of_eq (show _ = pure [none, none] from rfl) ?_))
  show wpAny _ A.in1 (newTuple [a, b] >>= _) _ _ s
  refine wpAny_bind (wpAny_newObj_type ?_)
  have up : ∀ c o, s.heap.get? c = some o → (s.heap.push { cls := .type "tuple", data := .seq #[a, b] }).get? c = some o := fun c o e => Heap.get?_push_of_some _ e
  let s1 : Shared := { s with heap := s.heap.push { cls := .type "tuple", data := .seq #[a, b] } }
  have ht : s1.heap.IsTuple s.heap.objs.size #[a, b] := ⟨_, Heap.get?_push_size _ rfl, rfl, 0, rfl⟩
  have hr : ReadsAll s1.heap (#[a, b] : Array Value).toList [da, db] _ := ReadsAll.cons (Reads.keeps up ra) (ReadsAll.cons (Reads.keeps up rb) ReadsAll.nil)
  refine wpAny_bind (iter_tupleW (s := s1) (A := A.in1) hh ht fun s2 e W st hfp hw hk => ?_)
  refine wpAny_bind (wpAny_newObj_type ?_)
  have hS : s2.heap.objs.size ∉ [s1.heap.objs.size, s.heap.objs.size] := fun m => Nat.lt_irrefl _ (hfp _ m)
  rw [nm]
  refine wpAny_pure ⟨plainId_quiet F.plain_max_loop _, codeAny_max_loop_firstH W s1.heap hw _ (cmpIn_gt (A := A.in1) hr al (by show A.units + 1 + _ < _; exact hu)) s2.heap.objs.size hS (fresh_in hk) _ (by show 0 < 2; decide) (fun c o e => Heap.get?_push_of_some _ (hk c o e))
    (W.frame 0 s2 _ s2.toks st (Nat.le_refl _) fun c _ o e => Heap.get?_push_of_some _ e) (Heap.get?_push_size _ rfl) fun v s' hP hm => ?_⟩
  obtain ⟨h', tk, e', hk'⟩ := moved_old e rfl (Moved.drop_new (tk := s2.toks) hm (Nat.le_refl _))
  subst e'
  have q := h h' tk fun c o e => hk' c o (up c o e)
  have hv : v = if dataLt da db = true then b else a := by
    have hP : (#[a, b] : Array Value)[argBest (fun i j => dataLt ([da, db].getD j .none) ([da, db].getD i .none)) 1]? = some v := hP
    rw [best2] at hP
    by_cases c : dataLt da db = true
    · have c' : dataLt ([da, db].getD 0 .none) ([da, db].getD 1 .none) = true := c
      rw [if_pos c'] at hP
      rw [if_pos c]
      simpa using hP.symm
    · have c' : ¬ dataLt ([da, db].getD 0 .none) ([da, db].getD 1 .none) = true := c
      rw [if_neg c'] at hP
      rw [if_neg c]
      simpa using hP.symm
  rw [hv]; exact q
end
def alk (x y : D) : Bool := alike x y && alike y x && alike x x && alike y y && !isNon x && !isNon y && decide (PyData.depthAll [x, y] ≤ 60) && cln true x && cln true y
theorem alk_ok {x y : D} (h : alk x y = true) : AlikeAll [x, y] ∧ PyData.depthAll [x, y] ≤ 60 ∧ cln true x = true ∧ cln true y = true := by
  unfold alk at h
  simp only [Bool.and_eq_true, decide_eq_true_eq, Bool.not_eq_true'] at h
  obtain ⟨⟨⟨⟨⟨⟨⟨⟨a1, a2⟩, a3⟩, a4⟩, a5⟩, a6⟩, a7⟩, a8⟩, a9⟩ := h
  refine ⟨⟨fun p hp q hq => ?_, fun p hp e => ?_⟩, a7, a8, a9⟩
  · simp only [List.mem_cons, List.not_mem_nil, or_false] at hp hq
    rcases hp with rfl | rfl <;> rcases hq with rfl | rfl <;> assumption
  · simp only [List.mem_cons, List.not_mem_nil, or_false] at hp
    subst e
    rcases hp with e | e
    · rw [← e] at a5; cases a5
    · rw [← e] at a6; cases a6
section
variable {X : Cx} {C : Mc}
def rTwo (C : Mc) (f : D → D → Bool) : List V → Hp → VK → Prop := fun xs H Q => ∃ v u F x y, xs = [v, u] ∧ Same F H ∧ Rp C F v x ∧ Rp C F u y ∧ alk x y = true ∧ Q (if f x y = true then u else v) H
theorem cr_min2D (hc : X.calm = true) (hu : X.A.units + 65 < cLine) (hK : C.K = X.K) : CallR X (.builtin "min") (rTwo C fun x y => dataLt y x) := by
  intro pins s σ H xs us Q I r ⟨v, u, F, x, y, e, hF, rx, ry, ok, q⟩
  subst e
  obtain ⟨a, b, rfl, ra, rb⟩ := vals2 r
  obtain ⟨al, d, c1, c2⟩ := alk_ok ok
  obtain ⟨as, qa, _⟩ := rx.rd I hK hF c1 ra
  obtain ⟨bs, qb, _⟩ := ry.rd I hK hF c2 rb
  refine min2_run (I.ok.hd hc) qa qb al (by omega) fun h' tk k => ⟨if dataLt y x = true then u else v, H, I.kept k, ?_, q⟩
  by_cases c : dataLt y x = true
  · rw [if_pos c, if_pos c]; exact rb
  · rw [if_neg c, if_neg c]; exact ra
theorem cr_max2D (hc : X.calm = true) (hu : X.A.units + 65 < cLine) (hK : C.K = X.K) : CallR X (.builtin "max") (rTwo C fun x y => dataLt x y) := by
  intro pins s σ H xs us Q I r ⟨v, u, F, x, y, e, hF, rx, ry, ok, q⟩
  subst e
  obtain ⟨a, b, rfl, ra, rb⟩ := vals2 r
  obtain ⟨al, d, c1, c2⟩ := alk_ok ok
  obtain ⟨as, qa, _⟩ := rx.rd I hK hF c1 ra
  obtain ⟨bs, qb, _⟩ := ry.rd I hK hF c2 rb
  refine max2_run (I.ok.hd hc) qa qb al (by omega) fun h' tk k => ⟨if dataLt x y = true then u else v, H, I.kept k, ?_, q⟩
  by_cases c : dataLt x y = true
  · rw [if_pos c, if_pos c]; exact rb
  · rw [if_neg c, if_neg c]; exact ra
def dTwo (f : D → D → Bool) : List D → Option D
  | [x, y] => if alk x y = true then some (if f x y = true then y else x) else none
  | _ => none
theorem cm_two {f : D → D → Bool} : CallM C (dTwo f) (rTwo C f) := by
  intro Gc F H ps σ vs ds z Q R r hz q
  match ds, r with
  | [x, y], .cons rx (.cons ry .nil) =>
    have hz : (if alk x y = true then some (if f x y = true then y else x) else none) = some z := hz
    by_cases ok : alk x y = true
    · rw [if_pos ok] at hz
      cases hz
      refine ⟨_, _, F, x, y, rfl, R.fh, rx, ry, ok, ?_⟩
      by_cases c : f x y = true
      · rw [if_pos c]; exact q _ F H (Same.refl _) R (by rw [if_pos c]; exact ry)
      · rw [if_neg c]; exact q _ F H (Same.refl _) R (by rw [if_neg c]; exact rx)
    · rw [if_neg ok] at hz; cases hz
  | [], _ => cases hz
  | [_], _ => cases hz
  | _ :: _ :: _ :: _, _ => cases hz
end
end MM
/-! == [] whatever the list has; >= of numbers or of tuples of numbers. -/
namespace MM
open PySem PySem.Spec PyProof.Rows L2
section
variable {X : Cx} {C : Mc}
def rEqL0 (K : PySem.W.Frag) (f : Bool → Bool) : R2 := fun x y H Q => ∃ l m xs, x = .ref l ∧ y = .ref m ∧ SqL K H l xs ∧ SqL K H m [] ∧ Q (.bl (f xs.isEmpty)) H
theorem eqL0_parts {pins : List (Addr × Obj)} {σ : St} {H : Hp} {s : Shared} (I : Inv X pins σ H s) {l m : Addr} {xs : List V} (h1 : SqL X.K H l xs) (h2 : SqL X.K H m []) :
    ∃ us ws : Array Value, s.heap.IsList l us ∧ s.heap.IsList m ws ∧ ws.size = 0 ∧ us.size = xs.length := by
  obtain ⟨u1, r1, ⟨o1, n1, g1, c1, b1, d1⟩, _⟩ := I.list h1
  obtain ⟨u2, r2, ⟨o2, n2, g2, c2, b2, d2⟩, _⟩ := I.list h2
  refine ⟨u1.toArray, u2.toArray, ⟨o1, g1, c1, n1, d1⟩, ⟨o2, g2, c2, n2, d2⟩, ?_, ?_⟩
  · cases r2; rfl
  · rw [List.size_toArray, ← r1.length]
theorem op_eqL0 (hu : X.A.units < cLine) : OpR X (compareOp .Eq) (rEqL0 X.K id) := by
  intro pins s σ H x y v u Q I rx ry ⟨l, m, xs, e1, e2, h1, h2, q⟩
  subst e1; subst e2
  cases rx; cases ry
  obtain ⟨us, ws, p1, p2, z, n⟩ := eqL0_parts I h1 h2
  have fin : wpAny (model X.prog X.w) X.A (compareOp .Eq (.ref l) (.ref m)) (EP X pins σ Q) X.xe s := by
    cases xs with
    | nil =>
      have n : us.size = 0 := n
      refine SeqAt.eq_listAt (e := fun _ => true) p1 p2 (by omega) hu (fun j a1 a2 => by omega) ?_
      rw [n]
      exact ⟨.bl true, H, I, rfl, q⟩
    | cons x xs =>
      have n : us.size = xs.length + 1 := n
      refine SeqAt.eq_list_lengthsAt p1 p2 (by rw [n, z]; simp) hu ?_
      exact ⟨.bl false, H, I, rfl, q⟩
  exact fin
theorem op_neL0 (hu : X.A.units < cLine) : OpR X (compareOp .NotEq) (rEqL0 X.K not) := by
  intro pins s σ H x y v u Q I rx ry ⟨l, m, xs, e1, e2, h1, h2, q⟩
  subst e1; subst e2
  cases rx; cases ry
  obtain ⟨us, ws, p1, p2, z, n⟩ := eqL0_parts I h1 h2
  have fin : wpAny (model X.prog X.w) X.A (compareOp .NotEq (.ref l) (.ref m)) (EP X pins σ Q) X.xe s := by
    cases xs with
    | nil =>
      have n : us.size = 0 := n
      refine SeqAt.RcNeAt.lists (e := fun _ => true) p1 p2 (by omega) hu (fun j a1 a2 => by omega) X.prog X.w _ _ ?_
      rw [n]
      exact ⟨.bl false, H, I, rfl, q⟩
    | cons x xs =>
      have n : us.size = xs.length + 1 := n
      refine SeqAt.RcNeAt.lists_lengths p1 p2 (by rw [n, z]; simp) hu X.prog X.w _ _ ?_
      exact ⟨.bl true, H, I, rfl, q⟩
  exact fin
def dEqL0 (f : Bool → Bool) (x y : D) : Option D := match x, y with
  | .list xs, .list [] => some (.bool (f xs.isEmpty))
  | _, _ => none
theorem om_eqL0 {f : Bool → Bool} : OpM C (dEqL0 f) (rEqL0 X.K f) := by
  intro Gc F H ps σ v u x y z Q R rx ry hz q
  unfold dEqL0 at hz
  split at hz
  · cases hz
    cases rx with
    | lst t1 a1 =>
      cases ry with
      | lst t2 a2 =>
        cases a2
        refine ⟨_, _, _, rfl, rfl, SqL.of (R.fh _ _ t1), SqL.of (R.fh _ _ t2), ?_⟩
        have e : ∀ {vs : List V} {ds : List D}, RpA C F vs ds → vs.isEmpty = ds.isEmpty := fun r => by cases r <;> rfl
        rw [e a1]
        exact q _ F H (Same.refl _) R (.bl _)
  · cases hz
/-! >= -/
def rGeT (K : PySem.W.Frag) : R2 := fun x y H Q => ∃ (a b : Addr) (ns ms : List Int), x = .ref a ∧ y = .ref b ∧ SqT K H a (ns.map V.int) ∧ SqT K H b (ms.map V.int) ∧
  Q (.bl (Ob.lexAt (fun j => decide (ns.getD j 0 = ms.getD j 0)) (fun j => decide (ms.getD j 0 ≤ ns.getD j 0)) (decide (ms.length ≤ ns.length)) 0 (min ns.length ms.length))) H
theorem op_geT {X : Cx} (hu : X.A.units < cLine) : OpR X (compareOp .GtE) (rGeT X.K) := by
  intro pins s σ H x y v u Q I rx ry h
  obtain ⟨a, b, ns, ms, rfl, rfl, ha, hb, q⟩ := h
  cases rx
  cases ry
  obtain ⟨its, r1, p1, _⟩ := I.tuple ha
  obtain ⟨its2, r2, p2, _⟩ := I.tuple hb
  have i1 : IntsAre its ns := Vals.ints r1
  have i2 : IntsAre its2 ms := Vals.ints r2
  have e1 : its.toArray.size = ns.length := by rw [List.size_toArray]; exact i1.length
  have e2 : its2.toArray.size = ms.length := by rw [List.size_toArray]; exact i2.length
  have at1 : ∀ j (h1 : j < its.toArray.size), ∃ t, its.toArray[j] = .int (ns.getD j 0) t := fun j h1 => PyProof.Rows.IntsAre.int_at i1 _ _ (by simp at h1; simp [h1])
  have at2 : ∀ j (h1 : j < its2.toArray.size), ∃ t, its2.toArray[j] = .int (ms.getD j 0) t := fun j h1 => PyProof.Rows.IntsAre.int_at i2 _ _ (by simp at h1; simp [h1])
  have got := Ob.RcOp.tuples_ge (A := X.A) (s := s) (e := fun j => decide (ns.getD j 0 = ms.getD j 0)) (r := fun j => decide (ms.getD j 0 ≤ ns.getD j 0)) p1 p2 hu (fun j h1 h2 => by
    obtain ⟨t, et⟩ := at1 j h1
    obtain ⟨t', et'⟩ := at2 j h2
    rw [et, et']
    have z : decide (ns.getD j 0 = ms.getD j 0) = (ns.getD j 0 == ms.getD j 0) := by
      by_cases q : ns.getD j 0 = ms.getD j 0
      · rw [decide_eq_true q, beq_iff_eq.mpr q]
      · rw [decide_eq_false q, beq_eq_false_iff_ne.mpr q]
    rw [z]
    exact SeqAt.EqAt.int_int _ _ _ _) (fun j h1 h2 _ => by
    obtain ⟨t, et⟩ := at1 j h1
    obtain ⟨t', et'⟩ := at2 j h2
    rw [et, et']
    exact Ob.RcOp.ge_int _ _ _ _)
  rw [e1, e2] at got
  have z : wpAny (model X.prog X.w) X.A (compareOp .GtE (.ref a) (.ref b)) (EP X pins σ Q) X.xe s := got X.prog X.w X.xe (EP X pins σ Q) ⟨.bl _, H, I, rfl, q⟩
  exact z
def geT (ns ms : List Int) : Bool := Ob.lexAt (fun j => decide (ns.getD j 0 = ms.getD j 0)) (fun j => decide (ms.getD j 0 ≤ ns.getD j 0)) (decide (ms.length ≤ ns.length)) 0 (min ns.length ms.length)
def dGeT (x y : D) : Option D := match x, y with
  | .int i, .int j => some (.bool (decide (j ≤ i)))
  | .tuple xs, .tuple ys => (intsOf xs).bind fun ns => (intsOf ys).map fun ms => .bool (geT ns ms)
  | _, _ => none
def rGeAll (K : PySem.W.Frag) : R2 := fun x y H Q => rI0 (fun i j => .bl (decide (j ≤ i))) x y H Q ∨ rGeT K x y H Q
theorem op_geAll (hu : X.A.units < cLine) : OpR X (compareOp .GtE) (rGeAll X.K) := OpR.or op_ge (op_geT hu)
theorem om_geT (hK : C.K = X.K) : OpM C dGeT (rGeAll X.K) := by
  intro Gc F H ps σ v u x y z Q R rx ry hz q
  unfold dGeT at hz
  split at hz
  · cases hz; cases rx; cases ry
    exact .inl ⟨_, _, rfl, rfl, q _ F H (Same.refl _) R (.bl _)⟩
  · obtain ⟨ns, e1, hz⟩ := Option.bind_eq_some_iff.mp hz
    obtain ⟨ms, e2, hz⟩ := Option.map_eq_some_iff.mp hz
    subst hz
    have i1 := intsOf_eq e1
    have i2 := intsOf_eq e2
    subst i1; subst i2
    cases rx with
    | tup t1 a1 =>
      cases ry with
      | tup t2 a2 =>
        have j1 := a1.ints
        have j2 := a2.ints
        subst j1; subst j2
        exact .inr ⟨_, _, ns, ms, rfl, rfl, by rw [← hK]; exact sqT_mono R.fh t1, by rw [← hK]; exact sqT_mono R.fh t2, q _ F H (Same.refl _) R (.bl _)⟩
  · cases hz
end
end MM
/-! repr of things with lists and dicts both: no list stands where sys.modules stands. -/
namespace MM
open PySem PySem.Spec PyProof.Rows L2
section
variable {X : Cx} {C : Mc} {pins : List (Addr × Obj)} {σ : St} {F H : Hp} {s : Shared}
mutual
theorem Rp.rd2 (I : Inv X pins σ H s) (hK : C.K = X.K) (hF : Same F H) (hS : H sysModules = none) : ∀ {v : V} {d : D} {u : Value}, Rp C F v d → cln true d = true → RelV v u → ∃ as, Reads s.heap u d as ∧ sysModules ∉ as
  | _, _, _, .non, _, r => by cases r; exact ⟨[], .none, by simp⟩
  | _, _, _, .bl b, _, r => by cases r; exact ⟨[], .bool b, by simp⟩
  | _, _, _, .int i, _, r => by obtain ⟨t, rfl⟩ := r; exact ⟨[], .int i t, by simp⟩
  | _, _, _, .str x, _, r => by obtain ⟨t, rfl⟩ := r; exact ⟨[], .str x t, by simp⟩
  | _, _, _, .lst h b, c, r => by
    rw [cln, Bool.and_eq_true] at c
    cases r
    have ha := hF _ _ h
    obtain ⟨its, rv, ⟨o, n, ho, hc, _, hd⟩, _⟩ := I.list (SqL.of ha)
    obtain ⟨as, hr, hs⟩ := RpA.rd2 I hK hF hS b c.2 rv
    refine ⟨_, .list ho hc hd hr, fun z => ?_⟩
    rcases List.mem_cons.mp z with e | e
    · rw [← e, hS] at ha; cases ha
    · exact hs e
  | _, _, _, .tup h a, c, r => by
    rw [cln] at c
    cases r
    obtain ⟨its, rv, ⟨o, ho, hc, n, hd⟩, _⟩ := I.tuple (by rw [← hK]; exact sqT_mono hF h)
    obtain ⟨as, hr, hs⟩ := RpA.rd2 I hK hF hS a c rv
    exact ⟨_, .tuple ho hc hd hr, hs⟩
  | _, _, _, .dct h a k, c, r => by
    rw [cln, Bool.and_eq_true, clnKv_all] at c
    cases r
    obtain ⟨z, lo, vs, rk, o, es, ep, ho, hx, hd, _, hp, _⟩ := I.hok _ _ (hF _ _ h)
    obtain ⟨k1, k2⟩ := kv_vals rk
    obtain ⟨p1, p2⟩ := pairs_keys (h := s.heap) hp
    obtain ⟨as, hr, hs⟩ := RpA.rd2 I hK hF hS a c.2 k1
    rw [k2, ← k] at p1
    rw [← p2] at hr
    refine ⟨_, .dict ho hx.1 hd p1 hr, ?_⟩
    rw [List.mem_append, List.mem_singleton]
    rintro (e | e)
    · rw [← e] at lo; simp at lo
    · exact hs e
  | _, _, _, .dcT h n a k, c, r => by
    rw [cln, Bool.and_eq_true, clnKv_all] at c
    cases r
    obtain ⟨z, lo, vs, rk, o, es, ep, ho, hx, hd, he, _⟩ := I.hok _ _ (hF _ _ h)
    obtain ⟨p1, k1⟩ := tkeys_reads I rk
    rw [← he] at p1 k1
    obtain ⟨as, hr, hs⟩ := RpA.rd2 I hK hF hS a c.2 k1
    rw [← k] at p1
    refine ⟨_, .dict ho hx.1 hd p1 hr, ?_⟩
    rw [List.mem_append, List.mem_singleton]
    rintro (e | e)
    · rw [← e] at lo; simp at lo
    · exact hs e
  | _, _, _, .dz _ _ _, c, _ => by
    rw [cln] at c
    exact nomatch c
  | _, _, _, .nt _ _ _, c, _ => by
    rw [cln] at c
    exact nomatch c
  | _, _, _, .deck h, c, _ => by
    have : cln true deckD = false := rfl
    rw [this] at c; cases c
theorem RpA.rd2 (I : Inv X pins σ H s) (hK : C.K = X.K) (hF : Same F H) (hS : H sysModules = none) : ∀ {vs : List V} {ds : List D} {us : List Value}, RpA C F vs ds → clnAll true ds = true → Vals vs us → ∃ as, ReadsAll s.heap us ds as ∧ sysModules ∉ as
  | _, _, _, .nil, _, r => by cases r; exact ⟨[], .nil, by simp⟩
  | _, _, _, .cons h t, c, r => by
    rw [clnAll, Bool.and_eq_true] at c
    cases r with
    | cons r1 r2 =>
      obtain ⟨as, q1, n1⟩ := Rp.rd2 I hK hF hS h c.1 r1
      obtain ⟨bs, q2, n2⟩ := RpA.rd2 I hK hF hS t c.2 r2
      exact ⟨_, .cons q1 q2, fun m => (List.mem_append.mp m).elim n1 n2⟩
end
end
/-- what repr tells, lists and dicts both let -/
def shwOk2 (d : D) : Bool := d.showable && decide (d.shown.length ≤ sizeLine) && decide (d.depth ≤ 64) && cln true d
def dRepr2 : List D → Option D
  | [d] => if shwOk2 d = true then some (.str d.shown) else none
  | _ => none
section
variable {X : Cx} {C : Mc}
def rShw2 (C : Mc) : List V → Hp → VK → Prop := fun xs H Q => ∃ v F d, xs = [v] ∧ Same F H ∧ Rp C F v d ∧ shwOk2 d = true ∧ Q (.str d.shown) H
theorem cr_repr2 (cA : Calm X.A) (hu : X.A.units + 65 < cLine) (hK : C.K = X.K) (hB : ∃ o, X.base.get? sysModules = some o) : CallR X (.builtin "repr") (rShw2 C) := by
  intro pins s σ H xs us Q I r ⟨v, F, d, e, hF, rp, ok, q⟩
  subst e
  obtain ⟨u, rfl, rv⟩ := vals1 r
  unfold shwOk2 at ok
  rw [Bool.and_eq_true, Bool.and_eq_true, Bool.and_eq_true, decide_eq_true_eq, decide_eq_true_eq] at ok
  obtain ⟨⟨⟨h1, h2⟩, h3⟩, h4⟩ := ok
  have tell : ∀ (h' : Heap) (t tk : Tok), (∀ b o, s.heap.get? b = some o → h'.get? b = some o) → EP X pins σ Q (.str d.shown t) { s with heap := h', toks := tk } := fun h' t tk hk => ⟨.str d.shown, H, I.kept hk, ⟨t, rfl⟩, q⟩
  obtain ⟨o, hB⟩ := hB
  have hS : H sysModules = none := (I.bs _ _ hB).2
  obtain ⟨as, rd, hsm⟩ := rp.rd2 I hK hF hS h4 rv
  have hsm : d.hasDict = true → sysModules ∉ as := fun _ => hsm
  cases rd with
  | none => exact PySem.P.repr_of_none (tell s.heap _ _ fun _ _ e => e)
  | bool b => exact PySem.P.repr_of_bool (tell s.heap _ _ fun _ _ e => e)
  | int i t => exact PySem.P.repr_of_int (by simpa [PyData.showable] using h1) (tell s.heap _ _ fun _ _ e => e)
  | str x t => exact PySem.P.repr_of_str (tell s.heap _ _ fun _ _ e => e) (hsz := by simpa [PyData.shown] using h2)
  | list a1 a2 a3 a4 => exact repr_of_reads' (.list a1 a2 a3 a4) h1 hsm cA (by omega) (fun _ _ e => e) (fun h' t tk hk => tell h' t tk hk) h2
  | tuple a1 a2 a3 a4 => exact repr_of_reads' (.tuple a1 a2 a3 a4) h1 hsm cA (by omega) (fun _ _ e => e) (fun h' t tk hk => tell h' t tk hk) h2
  | dict a1 a2 a3 a4 a5 => exact repr_of_reads' (.dict a1 a2 a3 a4 a5) h1 hsm cA (by omega) (fun _ _ e => e) (fun h' t tk hk => tell h' t tk hk) h2
theorem cm_repr2 : CallM C dRepr2 (rShw2 C) := by
  intro Gc F H ps σ vs ds z Q R r hz q
  match ds, r with
  | [d], .cons r .nil =>
    have hz : (if shwOk2 d = true then some (PyData.str d.shown) else none) = some z := hz
    by_cases ok : shwOk2 d = true
    · rw [if_pos ok] at hz
      cases hz
      exact ⟨_, F, d, rfl, R.fh, r, ok, q _ F H (Same.refl _) R (.str _)⟩
    · rw [if_neg ok] at hz; cases hz
  | [], _ => cases hz
  | _ :: _ :: _, _ => cases hz
end
/-! the closing, with sys.modules known to stand -/
section
variable {P : Program} {w : World} {K : PySem.W.Frag} {mg : Str → Option Value}
theorem law_goG2 {mb : Str → Option Value} {k : Nat} {fa a : Addr} {fd : FuncData} {x : Str} {s1 : Shared} {vs : List Value} {ns : List Int} (KX : K.In s1.heap) (hns : s1.heap.Ns mainGlobals mg) (hbl : s1.heap.Ns builtinsNs mb) (hbb : ∀ x : Str, x ≠ "__name__" → mb x = bootBuiltins x) (hlim : s1.heap.NoLimit) (hsys : s1.heap.NoSeer) (hg : s1.gens = #[])
    (ha : s1.heap.get? a = some { cls := .type "list", data := .seq vs.toArray }) (hi : IntsAre vs ns) (hl : ns.length ≤ 63) (hr : Room k callerA) (F : ∀ base : Heap, K.In base → base.Ns mainGlobals mg → (∃ o, base.get? sysModules = some o) → FnG P w K mg base k fa fd [x] (spLaw K)) (hbi : ∀ (s : Shared) (u : Value), BindsTo s fd ⟨[u], []⟩ [(x, u)]) :
    codeAny (model P w) callerA (.call (.ref fa) ⟨[.ref a], []⟩) (fun r s' => r = .ok (.ret (.bool true)) ∧ OldK s1.heap s'.heap ∧ s'.os = s1.os ∧ AllBare s'.gens) s1 := by
  have rv := vals_ints hi
  have nv := hi.length
  let o : Obj := { cls := .type "list", data := .seq vs.toArray }
  let u : Option HO := if (K.lookup a).isSome = true then none else some (.frz o (.lst (ns.map V.int)))
  let H : Hp := fun b => if b = a then u else none
  have Ha : H a = u := if_pos rfl
  have Hn : ∀ {b : Addr} {z : HO}, H b = some z → b = a ∧ u = some z := fun {b z} e => by
    by_cases hb : b = a
    · subst hb; exact ⟨rfl, Ha ▸ e⟩
    · have e2 : H b = none := if_neg hb
      rw [e2] at e; cases e
  have un : ∀ {z : HO}, u = some z → K.lookup a = none ∧ z = .frz o (.lst (ns.map V.int)) := fun {z} e => by
    by_cases hk : (K.lookup a).isSome = true
    · have : u = none := if_pos hk
      rw [this] at e; cases e
    · have : u = some (.frz o (.lst (ns.map V.int))) := if_neg hk
      rw [this] at e; cases e
      exact ⟨Option.not_isSome_iff_eq_none.mp hk, rfl⟩
  have sz : ns.length ≤ sizeLine := Nat.le_trans hl (by decide)
  have hok : HOk P w H s1.heap := fun b z e => by
    obtain ⟨rfl, e2⟩ := Hn e
    obtain ⟨_, rfl⟩ := un e2
    exact ⟨ha, by rw [List.length_map]; exact sz, vs, _, rv, ha⟩
  have hS : SqL K H a (ns.map V.int) := by
    cases hk : K.lookup a with
    | none => exact .inl (.inr ⟨o, Ha.trans (if_neg (by rw [hk]; simp))⟩)
    | some o1 =>
      have e := KX a o1 hk
      rw [ha] at e
      cases e
      exact .inr ⟨_, vs.toArray, _, hk, rfl, rfl, rfl, by rw [List.size_toArray, nv]; exact sz, by simpa using rv⟩
  have keepB : ∀ {b : Addr} {o1 : Obj}, s1.heap.get? b = some o1 → H b = none → (hidT s1.heap H).get? b = some o1 := fun e n => hidT_get e n
  have noD : ∀ {b : Addr} {o1 : Obj} {es : Array DictEntry} {ep : Nat}, s1.heap.get? b = some o1 → o1.data = .dict es ep → H b = none := fun {b o1 es ep} e d => by
    cases q : H b with
    | none => rfl
    | some z =>
      obtain ⟨rfl, _⟩ := Hn q
      rw [ha] at e
      cases e
      exact nomatch (show Data.seq vs.toArray _ = Data.dict es ep from d)
  have nsB : ∀ {b : Addr} {m : Str → Option Value}, s1.heap.Ns b m → (hidT s1.heap H).Ns b m := fun ⟨o1, es, ep, e, d, r⟩ => ⟨o1, es, ep, keepB e (noD e d), d, r⟩
  have KB : K.In (hidT s1.heap H) := fun b o1 e => keepB (KX b o1 e) (by
    cases q : H b with
    | none => rfl
    | some z =>
      obtain ⟨rfl, e2⟩ := Hn q
      rw [(un e2).1] at e; cases e)
  obtain ⟨mc, l1, l2⟩ := hlim
  have e0 : Env0 P w K mg (hidT s1.heap H) callerA [] s1 H := {
    frames := rfl
    mod := ⟨KB, nsB hns, ⟨mb, nsB hbl, hbb⟩, ⟨mc, nsB l1, l2⟩⟩
    bs := fun b o1 e => of_hidT e
    bsz := Nat.le_of_eq (hidT_size _ _)
    funs := trivial
    frf := fun b z => (nomatch z)
    hok := hok
    bare := .of_eq hg }
  have hsb : ∃ o, (hidT s1.heap H).get? sysModules = some o := by
    obtain ⟨mm, hm, _⟩ := hsys.mods
    obtain ⟨o1, _, _, e1, _⟩ := nsB hm
    exact ⟨o1, e1⟩
  have sp : spLaw K [.ref a] H (fun v _ => v = .bl true) E0 := ⟨a, ns, rfl, hS, hl, fun _ => rfl⟩
  refine codeAny_mono ((F _ KB (nsB hns) hsb).go callerA [] s1 H ⟨[.ref a], []⟩ [.ref a] [.ref a] _ E0 rfl hr e0 (hbi s1 (.ref a)) (.cons rfl .nil) sp) fun r s' h => ?_
  match r, h with
  | .ok (.ret u'), h =>
    obtain ⟨v, H', os, bare, un2, hok', r', q⟩ := h
    have q : v = .bl true := q
    subst q
    obtain rfl : u' = Value.bool true := r'
    refine ⟨rfl, OldK.of_keep fun b o1 e => ?_, os, bare⟩
    cases q : H b with
    | none => exact un2.keep b o1 e q (fun z => nomatch z) (by simp)
    | some z =>
      obtain ⟨rfl, e2⟩ := Hn q
      obtain ⟨_, rfl⟩ := un e2
      have g := (hok' b _ (un2.frzs b o _ q)).1
      rw [ha] at e
      cases e
      exact g
  | .ok .next, h => exact False.elim h
  | .ok .brk, h => exact False.elim h
  | .ok .cont, h => exact False.elim h
  | .error _, h => exact False.elim h
end
theorem walkG2 {l : PySem.W.OpenLaw} {k : Nat} {q : Program} {loose : List Str} {XP : (Str → Option Value) → Heap → Prop} {YP : World → Heap → Prop} {d : DefRec} {K : Params → PySem.W.Frag} {x : Str} (himp : importsNone q = true) (hn : l.most = some 63) (hdf : d.params.defaults = []) (hr : Room k callerA) (hY : ∀ (w : World) (h : Heap), YP w h → (K w.params).In h)
    (F : ∀ (w : World) (mg : Str → Option Value) (fa : Addr) (h : Heap), (K w.params).In h → h.Ns mainGlobals mg → mg d.name = some (.ref fa) →
      ∃ fd : FuncData, (∀ (s : Shared) (u : Value), BindsTo s fd ⟨[u], []⟩ [(x, u)]) ∧ ∀ base : Heap, (K w.params).In base → base.Ns mainGlobals mg → (∃ o, base.get? sysModules = some o) → FnG l.prog w (K w.params) mg base k fa fd [x] (spLaw (K w.params))) :
    PySem.W.WalkO q loose XP YP l.row.toRowW d [] (fun f vs => PySem.call f vs) :=
  Att.attach_call hn hdf fun w s0 s1 mg mb fa o pm cd doc a vs ns G Y ho hd hcd hmg hobj hints hlen hg => by
    obtain ⟨fd, hb, hF⟩ := F w mg fa _ (hY w _ Y) G.T.g hmg
    exact law_goG2 (hY w _ Y) G.T.g G.T.b G.T.builtins G.T.nolimit (G.T.seer himp) hg hobj hints hlen hr hF hb
end MM
/-! a dict of the module with texts and numbers; upper; d.get(k, v). -/
namespace MM
open PySem PySem.Spec PyProof.Rows L2
/-- what stands in a dict of the module -/
structure KTab (K : PySem.W.Frag) (w : World) (d : Addr) (kvs : List (Str × Int)) : Prop where
  kd : ∃ es n, KDict K w d es n
  at_ : ∀ z, ∃ r, PySem.W.nsIn K d z = some r ∧ RelO ((kvs.lookup z).map V.int) r
def ValsIn (K : PySem.W.Frag) (d : Addr) (kvs : List (Str × Int)) : Prop := ∀ p ∈ kvs, ∃ t, PySem.W.nsIn K d p.1 = some (some (.int p.2 t))
theorem valsIn_nil {K : PySem.W.Frag} {d : Addr} : ValsIn K d [] := fun _ h => nomatch h
theorem valsIn_cons {K : PySem.W.Frag} {d : Addr} {k : Str} {i : Int} {t : Tok} {r : List (Str × Int)} (h : PySem.W.nsIn K d k = some (some (.int i t))) (hr : ValsIn K d r) : ValsIn K d ((k, i) :: r) := fun p hp => by
  rcases List.mem_cons.mp hp with e | e
  · subst e; exact ⟨t, h⟩
  · exact hr p e
theorem lookup_mem {z : Str} {i : Int} : ∀ {kvs : List (Str × Int)}, kvs.lookup z = some i → (z, i) ∈ kvs
  | [], h => by cases h
  | (k, v) :: r, h => by
    rw [List.lookup_cons] at h
    by_cases e : z = k
    · subst e
      rw [beq_self_eq_true] at h
      cases h
      exact List.mem_cons_self
    · rw [beq_eq_false_iff_ne.mpr e] at h
      exact List.mem_cons_of_mem _ (lookup_mem h)
theorem lookup_no {z : Str} : ∀ {kvs : List (Str × Int)}, kvs.lookup z = none → z ∉ kvs.map (·.1)
  | [], _ => by simp
  | (k, v) :: r, h => by
    rw [List.lookup_cons] at h
    by_cases e : z = k
    · subst e
      rw [beq_self_eq_true] at h
      cases h
    · rw [beq_eq_false_iff_ne.mpr e] at h
      rw [List.map_cons, List.mem_cons]
      rintro (q | q)
      · exact e q
      · exact lookup_no h q
theorem find_none {P : Params} {z : Str} : ∀ {es : List DictEntry} {ks : List Str}, es.map He.keyOf = He.keysIn P ks → z ∉ ks → es.find? (·.key.isStr z) = none ∧ es.any (·.refKey) = false
  | [], _, _, _ => ⟨rfl, rfl⟩
  | e :: r, [], h, _ => by cases h
  | e :: r, k :: ks, h, hz => by
    have h1 : He.keyOf e :: r.map He.keyOf = some (k, PyData.keyHash P k) :: He.keysIn P ks := h
    injection h1 with h2 h3
    have hz : z ≠ k ∧ z ∉ ks := ⟨fun q => hz (by simp [q]), fun q => hz (by simp [q])⟩
    obtain ⟨i1, i2⟩ := find_none h3 hz.2
    unfold He.keyOf at h2
    split at h2
    · rename_i x t q
      have h4 := Option.some.inj h2
      obtain ⟨h5, h6⟩ := Prod.mk.inj h4
      subst h5
      have a : e.key.isStr z = false := by
        rw [q]
        have : ¬ x = z := fun q => hz.1 q.symm
        simp [Value.isStr, this]
      refine ⟨?_, ?_⟩
      · rw [List.find?_cons, a]; exact i1
      · rw [List.any_cons, i2, Bool.or_false]
        unfold DictEntry.refKey
        rw [q]
    · cases h2
theorem ktab_mk {K : PySem.W.Frag} {w : World} {d : Addr} {kvs : List (Str × Int)} (h : He.dicW K d = some (He.keysIn w.params (kvs.map (·.1)))) (hv : ValsIn K d kvs) : KTab K w d kvs := by
  obtain ⟨es, n, D⟩ := He.dicW_ok h
  refine ⟨⟨es, n, D⟩, fun z => ?_⟩
  cases q : kvs.lookup z with
  | some i =>
    obtain ⟨t, e⟩ := hv _ (lookup_mem q)
    exact ⟨_, e, ⟨t, rfl⟩⟩
  | none =>
    have hz := lookup_no q
    have hm : es.toList.map He.keyOf = He.keysIn w.params (kvs.map (·.1)) := by
      unfold He.dicW at h
      rw [D.at_] at h
      dsimp only at h
      split at h
      · exact Option.some.inj h
      · cases h
    obtain ⟨i1, i2⟩ := find_none hm hz
    refine ⟨none, ?_, trivial⟩
    unfold PySem.W.nsIn
    rw [D.at_]
    dsimp only
    rw [i1]
    dsimp only
    rw [if_neg (by rw [i2]; simp)]
section
variable {X : Cx} {C : Mc} {W : WX} {o a b e : Expr} {pos p apos cpos : Pos} {d : Addr} {kvs : List (Str × Int)} {x : Str}
def dInK (kvs : List (Str × Int)) : D → Option D
  | .str z => some (.bool (kvs.lookup z).isSome)
  | _ => none
def dIxK (kvs : List (Str × Int)) : D → Option D
  | .str z => (kvs.lookup z).map .int
  | _ => none
theorem xinK {ma : ME} (T : KTab X.K X.w d kvs) (hg : Gl X x) (hm : X.mg x = some (.ref d)) (ha : PE X a (tE C W ma)) (hd : (x == ("__debug__" : Str)) = false := by decide) (hk : behindInMarks .In (.Name x p) = false := by rfl) : PE X (.Compare a [.In] [.Name x p] pos) (tE C W (mUn (dInK kvs) ma)) := by
  obtain ⟨es, n, D⟩ := T.kd
  refine pe_imp (pe_cmpR (op_in_kd D) ha (pe_glob (v := .ref d) hg hm rfl hd) hk) fun σ H Q ⟨Gc, F, ps, R, q⟩ => seqE qE.mono R q fun y ps1 v F1 H1 s1 R1 r1 q1 => ?_
  cases y with
  | str z =>
    cases r1
    obtain ⟨r, e1, e2⟩ := T.at_ z
    refine ⟨z, r, rfl, rfl, e1, ?_⟩
    have : r.isSome = (kvs.lookup z).isSome := by
      cases h : kvs.lookup z with
      | none => rw [h] at e2; cases r with
        | none => rfl
        | some u => exact e2.elim
      | some i => rw [h] at e2; cases r with
        | none => exact e2.elim
        | some u => rfl
    rw [this]
    exact q1 _ F1 H1 (Same.refl _) R1 (.bl _)
  | _ => exact q1.elim
theorem ix_kd {es : Array DictEntry} {n : Nat} (D : KDict X.K X.w d es n) : IxR X (fun x y H Q => ∃ (z : Str) (u0 : Value) (v0 : V), x = .ref d ∧ y = .str z ∧ PySem.W.nsIn X.K d z = some (some u0) ∧ RelV v0 u0 ∧ Q v0 H) := by
  intro value slice pins s σ H x y v u Q I rx ry h hs
  have h0 := h
  obtain ⟨z, u0, v0, ex, ey, e, r, q⟩ := h
  subst ex
  cases rx
  exact tail_any (kd_type D I) PySem.F.slot_dict_getitem.lookup (op_item_kd D pins s σ H (.ref d) _ (.ref d) _ Q I rfl ry h0) hs
theorem xixK {ma : ME} (T : KTab X.K X.w d kvs) (hg : Gl X x) (hm : X.mg x = some (.ref d)) (hb : PE X b (tE C W ma)) (hs : PlainIx b) (hd : (x == ("__debug__" : Str)) = false := by decide) : PE X (.Subscript (.Name x p) b pos) (tE C W (mUn (dIxK kvs) ma)) := by
  obtain ⟨es, n, D⟩ := T.kd
  refine pe_imp (pe_ix (ix_kd D) (pe_glob (v := .ref d) hg hm rfl hd) hb hs) fun σ H Q ⟨Gc, F, ps, R, q⟩ => ?_
  show tE C W ma σ H fun y H2 => _
  refine seqE qE.mono R q fun y ps1 v F1 H1 s1 R1 r1 q1 => ?_
  cases y with
  | str z =>
    cases r1
    obtain ⟨r, e1, e2⟩ := T.at_ z
    cases h : kvs.lookup z with
    | none =>
      have : dIxK kvs (.str z) = none := by show (kvs.lookup z).map _ = none; rw [h]; rfl
      rw [this] at q1; exact q1.elim
    | some i =>
      have e3 : dIxK kvs (.str z) = some (.int i) := by show (kvs.lookup z).map _ = _; rw [h]; rfl
      rw [e3] at q1
      rw [h] at e2
      cases r with
      | none => exact e2.elim
      | some u => exact ⟨z, u, .int i, rfl, rfl, e1, e2, q1 _ F1 H1 (Same.refl _) R1 (.int i)⟩
  | _ => exact q1.elim
/-- s.upper() -/
def dUpper : D → Option D
  | .str z => if z.length ≤ 5592405 then some (.str (Txt.upper z)) else none
  | _ => none
theorem xupper {ma : ME} (ho : PE X o (tE C W ma)) (hbase : attributeBase o "upper" X.env (eval o X.env) = eval o X.env := by rfl) (hline : (apos.endLine == pos.line) = true := by rfl) : PE X (.Call (.Attribute o "upper" apos) [] [] pos) (tE C W (mUn dUpper ma)) :=
  pe_imp (pe_upper ho hbase hline) fun σ H Q ⟨Gc, F, ps, R, q⟩ => seqE qE.mono R q fun y ps1 v F1 H1 s1 R1 r1 q1 => by
    cases y with
    | str z =>
      cases r1
      by_cases h : z.length ≤ 5592405
      · have e3 : dUpper (.str z) = some (.str (Txt.upper z)) := if_pos h
        rw [e3] at q1
        exact ⟨⟨z, rfl⟩, z, rfl, rfl, h, q1 _ F1 H1 (Same.refl _) R1 (.str _)⟩
      · have e3 : dUpper (.str z) = none := if_neg h
        rw [e3] at q1; exact q1.elim
    | _ => exact q1.elim
/-- d.get(k, v) -/
def mGet (a b c : ME) : ME := fun ps => (a ps).bind fun x ps1 => match x with
  | .dict kvs => if (isDeck (.dict kvs) || kvs.any (fun p => (toKey p.1).isNone)) = true then .bad else
    (b ps1).bind fun y ps2 => (c ps2).bind fun z ps3 => match toKey y with
      | some k => .ok ((dLook kvs k).getD z) ps3
      | none => .bad
  | _ => .bad
theorem xget {ma mb mc : ME} (hu : X.A.units + 1 < cLine) (ho : PE X o (tE C W ma)) (ha : PE X a (tE C W mb)) (hb : PE X b (tE C W mc)) (m : M2 X o "get" apos a b cpos) : PE X (.Call (.Attribute o "get" apos) [a, b] [] cpos) (tE C W (mGet ma mb mc)) :=
  pe_imp (pe_dget2 hu ho ha hb m) fun σ H Q ⟨Gc, F, ps, R, q⟩ => by
    refine seqE qE.mono R q fun x ps1 v F1 H1 s1 R1 r1 q1 => ?_
    cases x with
    | dict kvs =>
      dsimp only at q1
      by_cases h : (isDeck (.dict kvs) || kvs.any (fun p => (toKey p.1).isNone)) = true
      · rw [if_pos h] at q1; exact q1.elim
      · rw [if_neg h] at q1
        have h : (isDeck (.dict kvs) || kvs.any (fun p => (toKey p.1).isNone)) = false := by simpa using h
        rw [Bool.or_eq_false_iff] at h
        cases r1 with
        | dct h1 h2 h3 =>
          rename_i p ks
          refine ⟨p, rfl, .inl ⟨_, .inl (R1.fh _ _ h1)⟩, ?_⟩
          have r1 : Rp C F1 (.ref p) (.dict kvs) := .dct h1 h2 h3
          refine seqE qE.mono R1 q1 fun y ps2 u F2 H2 s2 R2 r2 q2 => ?_
          refine seqE qE.mono R2 q2 fun z ps3 t F3 H3 s3 R3 r3 q3 => ?_
          have r1 := r1.mono (s2.trans s3)
          have r2 := r2.mono s3
          cases e1 : toKey y with
          | none => rw [e1] at q3; exact q3.elim
          | some k =>
            rw [e1] at q3
            have ex := kD_of e1
            subst ex
            have ev := rp_kD r2
            subst ev
            obtain ⟨a, o, ea, g, cs⟩ := dget_ok (k := k) R3 r1 h.2
            cases ea
            refine ⟨o, g, ?_⟩
            rcases cs with ⟨c1, c2⟩ | ⟨y, d, c1, c2, c3⟩
            · subst c1
              have q3 : qE C Gc σ Q ((dLook kvs k).getD z) ps3 F3 := q3
              rw [c2] at q3
              exact q3 _ F3 H3 (Same.refl _) R3 r3
            · subst c1
              have q3 : qE C Gc σ Q ((dLook kvs k).getD z) ps3 F3 := q3
              rw [c2] at q3
              exact q3 _ F3 H3 (Same.refl _) R3 c3
        | dcT h1 h2 h3 h4 => have hk := h.2; rw [tk_any h2 h4] at hk; cases hk
        | dz _ _ _ => cases h.1
        | nt _ _ _ => cases h.1
        | deck h' => cases h.1
    | _ => exact q1.elim
end
end MM
/-! what isn't reached; min of a list of numbers, x.index(v), x.count(v). -/
namespace MM
open PySem PySem.Spec PyProof.Rows L2
section
variable {X : Cx} {C : Mc} {W : WX} {o e : Expr} {st : Stmt} {apos cpos : Pos}
/-- a row that isn't reached -/
def mBads : MS := fun _ => .bad
theorem xs_bads : PS X st (tS C W mBads) := ⟨fun _ _ _ _ _ _ ⟨_, _, _, _, q⟩ => q.elim⟩
def lmin : List Int → Int
  | [] => 0
  | [a] => a
  | a :: b :: r => min a (lmin (b :: r))
theorem lmin_le : ∀ {ns : List Int} {x : Int}, x ∈ ns → lmin ns ≤ x
  | [a], x, h => by rw [List.mem_singleton.mp h]; exact Int.le_refl _
  | a :: b :: r, x, h => by
    show min a (lmin (b :: r)) ≤ x
    rcases List.mem_cons.mp h with e | e
    · subst e; exact Int.min_le_left _ _
    · exact Int.le_trans (Int.min_le_right _ _) (lmin_le e)
theorem lmin_mem : ∀ {ns : List Int}, ns ≠ [] → lmin ns ∈ ns
  | [a], _ => by simp [lmin]
  | a :: b :: r, _ => by
    show min a (lmin (b :: r)) ∈ _
    have ih := lmin_mem (ns := b :: r) (by simp)
    by_cases h : a ≤ lmin (b :: r)
    · rw [Int.min_eq_left h]; exact List.mem_cons_self
    · rw [Int.min_eq_right (by omega)]; exact List.mem_cons_of_mem _ ih
def dMinL : List D → Option D
  | [.list ds] => (intsOf ds).bind fun ns => if ns.isEmpty = true then none else some (.int (lmin ns))
  | _ => none
theorem cm_minL {K : PySem.W.Frag} : CallM C dMinL (rMin K) := by
  intro Gc F H ps σ vs ds z Q R r hz q
  unfold dMinL at hz
  split at hz
  · obtain ⟨ns, e1, e2⟩ := Option.bind_eq_some_iff.mp hz
    have i1 := intsOf_eq e1
    subst i1
    by_cases h : ns.isEmpty = true
    · rw [if_pos h] at e2; cases e2
    · rw [if_neg h] at e2
      cases e2
      have hne : ns ≠ [] := by simpa using h
      cases r with
      | cons rx r2 =>
        cases r2
        cases rx with
        | lst t1 a1 =>
          have j1 := a1.ints
          subst j1
          refine ⟨_, ns, rfl, SqL.of (R.fh _ _ t1), List.length_pos_iff.mpr hne, fun m hm hle => ?_⟩
          have : m = lmin ns := Int.le_antisymm (hle _ (lmin_mem hne)) (lmin_le hm)
          rw [this]
          exact q _ F H (Same.refl _) R (.int _)
  · cases hz
/-- x.index(v), x.count(v), x a list of numbers -/
def dIndexI (x y : D) : Option D := match x, y with
  | .list ds, .int i => (intsOf ds).bind fun ns => if ns.contains i = true then some (.int (ns.idxOf i : Nat)) else none
  | _, _ => none
def dCountI (x y : D) : Option D := match x, y with
  | .list ds, .int i => (intsOf ds).map fun ns => .int (ns.count i : Nat)
  | _, _ => none
def mOnL (f : D → D → Option D) (a b : ME) : ME := fun ps => (a ps).bind fun x ps1 => match x with
  | .list ds => (b ps1).bind fun y ps2 => .of (f (.list ds) y) ps2
  | _ => .bad
theorem bmL {f : D → D → Option D} {r : V → List V → Hp → VK → Prop} {ma mb : ME} (hf : ∀ ds y z, f (.list ds) y = some z → ∃ (ns : List Int) (i : Int), ds = ns.map PyData.int ∧ y = .int i)
    (hr : ∀ {Gc F H : Hp} {ps : Ps} {σ : St} {p : Addr} {ns : List Int} {i : Int} {z : D} {Q : VK}, Rel C Gc F H ps σ → F p = some (.lst (ns.map V.int)) → f (.list (ns.map .int)) (.int i) = some z → (∀ w F' H', Same F F' → Rel C Gc F' H' ps σ → Rp C F' w z → Q w H') → r (.ref p) [.int i] H Q)
    {σ : St} {H : Hp} {Q : VK} (h : tE C W (mOnL f ma mb) σ H Q) : tBM X.K "list" r (tE C W ma) (tCons (tE C W mb) tNil) σ H Q := by
  obtain ⟨Gc, F, ps, R, q⟩ := h
  refine seqE qE.mono R q fun x ps1 v F1 H1 s1 R1 r1 q1 => ?_
  cases x with
  | list ds =>
    cases r1 with
    | lst t1 a1 =>
      refine ⟨.inl ⟨rfl, _, SqL.of (R1.fh _ _ t1)⟩, ?_⟩
      show tE C W mb σ H1 fun y H2 => r _ [y] H2 Q
      refine seqE qE.mono R1 q1 fun y ps2 u F2 H2 s2 R2 r2 q2 => ?_
      cases e2 : f (.list ds) y with
      | none => rw [e2] at q2; exact q2.elim
      | some z =>
        rw [e2] at q2
        obtain ⟨ns, i, en, ey⟩ := hf _ _ _ e2
        subst ey
        cases r2
        subst en
        have j1 := a1.ints
        subst j1
        exact hr R2 (s2 _ _ t1) e2 q2
  | _ => exact q1.elim
theorem index_f (ds : List D) (y z : D) (h : dIndexI (.list ds) y = some z) : ∃ (ns : List Int) (i : Int), ds = ns.map PyData.int ∧ y = .int i := by
  cases y with
  | int i =>
    obtain ⟨ns, e1, _⟩ := Option.bind_eq_some_iff.mp (show ((intsOf ds).bind fun ns => if ns.contains i = true then some (PyData.int (ns.idxOf i : Nat)) else none) = some z from h)
    exact ⟨ns, i, intsOf_eq e1, rfl⟩
  | _ => cases h
theorem count_f (ds : List D) (y z : D) (h : dCountI (.list ds) y = some z) : ∃ (ns : List Int) (i : Int), ds = ns.map PyData.int ∧ y = .int i := by
  cases y with
  | int i =>
    obtain ⟨ns, e1, _⟩ := Option.map_eq_some_iff.mp (show ((intsOf ds).map fun ns => PyData.int (ns.count i : Nat)) = some z from h)
    exact ⟨ns, i, intsOf_eq e1, rfl⟩
  | _ => cases h
theorem idx_le {z : Int} : ∀ {ns : List Int} {m : Nat}, ns[m]? = some z → ns.idxOf z ≤ m
  | [], m, e => by simp at e
  | a :: r, m, e => by
    rw [List.idxOf_cons]
    by_cases ha : (a == z) = true
    · rw [ha]; exact Nat.zero_le _
    · have ha' : (a == z) = false := by simpa using ha
      rw [ha']
      cases m with
      | zero =>
        have : a = z := by simpa using e
        rw [this] at ha'
        simp at ha'
      | succ m =>
        have := idx_le (ns := r) (m := m) (by simpa using e)
        show r.idxOf z + 1 ≤ m + 1
        omega
theorem idx_get {ns : List Int} {i : Int} (h : i ∈ ns) : ns[ns.idxOf i]? = some i ∧ ∀ m z, m < ns.idxOf i → ns[m]? = some z → z ≠ i := by
  have hl := List.idxOf_lt_length_iff.mpr h
  refine ⟨by rw [List.getElem?_eq_getElem hl, List.getElem_idxOf], fun m z hm hz e => ?_⟩
  subst e
  have := idx_le hz
  omega
theorem index_r {Gc F H : Hp} {ps : Ps} {σ : St} {p : Addr} {ns : List Int} {i : Int} {z : D} {Q : VK} (R : Rel C Gc F H ps σ) (t : F p = some (.lst (ns.map V.int))) (e : dIndexI (.list (ns.map .int)) (.int i) = some z) (q : ∀ w F' H', Same F F' → Rel C Gc F' H' ps σ → Rp C F' w z → Q w H') : rIndex X.K (.ref p) [.int i] H Q := by
  have e : ((intsOf (ns.map PyData.int)).bind fun ns => if ns.contains i = true then some (PyData.int (ns.idxOf i : Nat)) else none) = some z := e
  rw [intsOf_map] at e
  have e : (if ns.contains i = true then some (PyData.int (ns.idxOf i : Nat)) else none) = some z := e
  by_cases h : ns.contains i = true
  · rw [if_pos h] at e
    cases e
    have hm : i ∈ ns := by simpa using h
    obtain ⟨g1, g2⟩ := idx_get hm
    refine ⟨p, ns.map V.int, .int i, ns.idxOf i, .int i, rfl, rfl, SqL.of (R.fh _ _ t), rfl, ?_, ?_, ?_, ?_, q _ F H (Same.refl _) R (.int _)⟩
    · rw [List.all_map, List.all_eq_true]; intro x _; rfl
    · rw [List.getElem?_map, g1]; rfl
    · show (i == i) = true
      exact beq_self_eq_true i
    · intro m z' hm hz
      rw [List.getElem?_map] at hz
      obtain ⟨x, hx, ex⟩ := Option.map_eq_some_iff.mp hz
      subst ex
      show (x == i) = false
      exact beq_eq_false_iff_ne.mpr (g2 m x hm hx)
  · rw [if_neg h] at e; cases e
theorem count_r {Gc F H : Hp} {ps : Ps} {σ : St} {p : Addr} {ns : List Int} {i : Int} {z : D} {Q : VK} (R : Rel C Gc F H ps σ) (t : F p = some (.lst (ns.map V.int))) (e : dCountI (.list (ns.map .int)) (.int i) = some z) (q : ∀ w F' H', Same F F' → Rel C Gc F' H' ps σ → Rp C F' w z → Q w H') : rCntI X.K (.ref p) [.int i] H Q := by
  have e : ((intsOf (ns.map PyData.int)).map fun ns => PyData.int (ns.count i : Nat)) = some z := e
  rw [intsOf_map] at e
  cases e
  exact ⟨p, ns, i, rfl, rfl, SqL.of (R.fh _ _ t), q _ F H (Same.refl _) R (.int _)⟩
theorem xindexI {ma mb : ME} (ho : PE X o (tE C W ma)) (ha : PE X e (tE C W mb))
    (hbase : attributeBase o "index" X.env (eval o X.env) = eval o X.env := by rfl)
    (hfew : ((backTo cpos (starEach (e :: []) X.env)).all (fun x => !x.1) && (backToKw cpos (keywordEach [] X.env)).all (fun x => x.1.isSome)
      && decide ((e :: ([] : List Expr)).length + ([] : List Keyword).length + (if ([] : List Keyword).isEmpty then 0 else 1) < 30)) = true := by rfl)
    (hline : (apos.endLine == cpos.line) = true := by rfl) (hs : starEach (e :: []) X.env = (false, eval e X.env) :: starEach [] X.env := by rfl) (hplain : (backTo cpos (starEach [] X.env)).any (·.1) = false := by rfl) :
    PE X (.Call (.Attribute o "index" apos) [e] [] cpos) (tE C W (mOnL dIndexI ma mb)) :=
  pe_imp (pe_bm PySem.F.plainAttrs_list PySem.F.slot_list_index PySem.F.type_list_index mt_index ho (pa_cons ha pa_nil hs) hbase hfew hline hs hplain) fun _ _ _ h => bmL index_f index_r h
theorem xcountI {ma mb : ME} (ho : PE X o (tE C W ma)) (ha : PE X e (tE C W mb))
    (hbase : attributeBase o "count" X.env (eval o X.env) = eval o X.env := by rfl)
    (hfew : ((backTo cpos (starEach (e :: []) X.env)).all (fun x => !x.1) && (backToKw cpos (keywordEach [] X.env)).all (fun x => x.1.isSome)
      && decide ((e :: ([] : List Expr)).length + ([] : List Keyword).length + (if ([] : List Keyword).isEmpty then 0 else 1) < 30)) = true := by rfl)
    (hline : (apos.endLine == cpos.line) = true := by rfl) (hs : starEach (e :: []) X.env = (false, eval e X.env) :: starEach [] X.env := by rfl) (hplain : (backTo cpos (starEach [] X.env)).any (·.1) = false := by rfl) :
    PE X (.Call (.Attribute o "count" apos) [e] [] cpos) (tE C W (mOnL dCountI ma mb)) :=
  pe_imp (pe_bm PySem.F.plainAttrs_list PySem.F.slot_list_count PySem.F.type_list_count mt_lcount ho (pa_cons ha pa_nil hs) hbase hfew hline hs hplain) fun _ _ _ h => bmL count_f count_r h
end
end MM
/-! MM: dicts of our own by numbers and texts, or by tuples of these: which, the first key tells. -/
namespace MM
open PySem PySem.Spec PyProof.Rows L2
def keysOf : List D → Option (List Key)
  | [] => some []
  | d :: r => (toKey d).bind fun k => (keysOf r).map fun ks => k :: ks
theorem keysOf_eq : ∀ {ds : List D} {ks : List Key}, keysOf ds = some ks → ds = ks.map kD
  | [], ks, h => by simp [keysOf] at h; subst h; rfl
  | d :: r, ks, h => by
    simp only [keysOf] at h
    obtain ⟨k, e1, e2⟩ := Option.bind_eq_some_iff.mp h
    obtain ⟨ks', e3, e4⟩ := Option.map_eq_some_iff.mp e2
    subst e4
    rw [keysOf_eq e3, kD_of e1]; rfl
theorem keysOf_kD : ∀ ks : List Key, keysOf (ks.map kD) = some ks
  | [] => rfl
  | k :: ks => by
    show (toKey (kD k)).bind _ = _
    rw [toKey_kD, Option.bind_some, keysOf_kD ks]; rfl
def toTup : D → Option (List Key)
  | .tuple ds => keysOf ds
  | _ => none
theorem toTup_eq {d : D} {ks : List Key} (h : toTup d = some ks) : d = .tuple (ks.map kD) := by
  cases d <;> simp only [toTup] at h <;> first | (cases h; done) | rw [keysOf_eq h]
theorem rpa_kD {C : Mc} {F : Hp} : ∀ {vs : List V} {ks : List Key}, RpA C F vs (ks.map kD) → vs = ks.map kV
  | _, [], .nil => rfl
  | _, k :: ks, .cons r t => by rw [rp_kD r, rpa_kD (ks := ks) t]; rfl
theorem rp_tup {C : Mc} {F : Hp} {u : V} {ks : List Key} (r : Rp C F u (.tuple (ks.map kD))) : ∃ b, u = .ref b ∧ F b = some (.tup (ks.map kV)) := by
  cases r with
  | tup h r => rw [rpa_kD r] at h; exact ⟨_, rfl, h⟩
section
variable {κ : Type} [DecidableEq κ]
def lookK (kvs : List (κ × D)) (k : κ) : Option D := (kvs.find? fun p => decide (p.1 = k)).map (·.2)
def putG (kvs : List (κ × D)) (k : κ) (v : D) : List (κ × D) :=
  if (kvs.any fun kv => decide (kv.1 = k)) = true then kvs.map (fun kv => if kv.1 = k then (kv.1, v) else kv) else kvs ++ [(k, v)]
theorem look_rel {C : Mc} {F : Hp} : ∀ {kvs : List (κ × V)} {ds : List (κ × D)}, RpA C F (kvs.map (·.2)) (ds.map (·.2)) → ds.map (·.1) = kvs.map (·.1) → ∀ k, (valV kvs k = none ∧ lookK ds k = none) ∨ ∃ v d, valV kvs k = some v ∧ lookK ds k = some d ∧ Rp C F v d
  | [], [], _, _, k => .inl ⟨rfl, rfl⟩
  | [], _ :: _, r, _, _ => nomatch r
  | _ :: _, [], r, _, _ => nomatch r
  | p :: kvs, q :: ds, r, e, k => by
    rw [List.map_cons, List.map_cons] at r e
    injection e with e1 e2
    cases r with
    | cons r1 r2 =>
      by_cases h : p.1 = k
      · refine .inr ⟨p.2, q.2, valV_pos h, ?_, r1⟩
        simp [lookK, List.find?_cons, e1, h]
      · have z : decide (q.1 = k) = false := by rw [e1]; simpa using h
        have z1 : lookK (q :: ds) k = lookK ds k := by simp [lookK, List.find?_cons, z]
        rw [valV_neg h, z1]
        exact look_rel r2 e2 k
theorem putG_rel {C : Mc} {F : Hp} {k : κ} {y : V} {d : D} (ry : Rp C F y d) : ∀ {kvs : List (κ × V)} {ds : List (κ × D)}, RpA C F (kvs.map (·.2)) (ds.map (·.2)) → ds.map (·.1) = kvs.map (·.1) →
    RpA C F ((putK kvs k y).map (·.2)) ((putG ds k d).map (·.2)) ∧ (putG ds k d).map (·.1) = (putK kvs k y).map (·.1) := by
  intro kvs ds r e
  have ea : (ds.any fun kv => decide (kv.1 = k)) = (kvs.any fun kv => decide (kv.1 = k)) := by
    have q : ∀ {β : Type} (l : List (κ × β)), (l.any fun kv => decide (kv.1 = k)) = (l.map (·.1)).any fun z => decide (z = k) := fun l => by rw [List.any_map]; rfl
    rw [q, q, e]
  unfold putK putG
  rw [ea]
  split
  · rename_i c0
    clear ea c0
    induction kvs generalizing ds with
    | nil =>
      cases ds with
      | nil => exact ⟨.nil, rfl⟩
      | cons q ds => cases r
    | cons p kvs ih =>
      cases ds with
      | nil => cases r
      | cons q ds =>
        simp only [List.map_cons] at r e ⊢
        injection e with e1 e2
        cases r with
        | cons r1 r2 =>
          obtain ⟨i1, i2⟩ := ih r2 e2
          rw [e1]
          by_cases h : p.1 = k
          · simp only [if_pos h]; exact ⟨.cons ry i1, by rw [i2]⟩
          · simp only [if_neg h]; exact ⟨.cons r1 i1, by rw [i2, e1]⟩
  · simp only [List.map_append, e]
    exact ⟨r.append (.cons ry .nil), rfl⟩
end
/-- what a dict of our own holds -/
def lookU : Option Sl → D → Option (Option D)
  | some (.md kvs), y => match toKey y with
    | some k => some (lookK kvs k)
    | none => match toTup y with
      | some _ => if kvs.isEmpty = true then some none else none
      | none => none
  | some (.mt kvs), y => (toTup y).map fun ks => lookK kvs ks
  | _, _ => none
def putU : Option Sl → D → D → Option Sl
  | some (.md kvs), y, v => match toKey y with
    | some k => if kvs.length < sizeLine then some (.md (putD kvs k v)) else none
    | none => match toTup y with
      | some ks => if kvs.isEmpty = true then some (.mt [(ks, v)]) else none
      | none => none
  | some (.mt kvs), y, v => match toTup y with
    | some ks => if kvs.length < sizeLine then some (.mt (putG kvs ks v)) else none
    | none => none
  | _, _, _ => none
def isUd : Option Sl → Bool
  | some (.md _) => true
  | some (.mt _) => true
  | _ => false
/-- the same, of an empty dict and a tuple too -/
def DGetU (H : Hp) (a : Addr) (y : V) (r : Option V) : Prop := DGet H a y r ∨ ∃ (k : List Key) (b : Addr), H a = some (.dK []) ∧ y = .ref b ∧ H b = some (.tup (k.map kV)) ∧ r = none
def DPutU (H : Hp) (a : Addr) (y v : V) (H' : Hp) : Prop := DPut H a y v H' ∨ ∃ (k : List Key) (b : Addr), H a = some (.dK []) ∧ y = .ref b ∧ H b = some (.tup (k.map kV)) ∧ H' = upd H a (.dT [(k, v)])
section
variable {X : Cx} {pins : List (Addr × Obj)} {σ : St} {H : Hp} {s : Shared} {a : Addr}
theorem same_obj {a : Addr} {h : Heap} : Heap.SameBut a h h := ⟨rfl, fun _ _ => rfl⟩
/-- an empty dict, looked at as one by tuples -/
theorem as_dT (I : Inv X pins σ H s) (e : H a = some (.dK [])) : Inv X pins σ (upd H a (.dT [])) s := by
  obtain ⟨z, lo, vs, rel, o, es, ep, h1, h2, h3, h4, h5, h6⟩ := dk_of I.hok e
  cases rel
  have he : es.toList = [] := by
    cases q : es.toList with
    | nil => rfl
    | cons x xs => rw [q] at h5; cases h5
  exact d_write (t' := s.toks) I (by rw [e]; exact True.intro) same_obj ⟨o, h1⟩ ⟨Nat.zero_le _, lo, [], .nil, o, es, ep, h1, h2, h3, he, List.nodup_nil⟩
theorem as_dK (I : Inv X pins σ H s) (e : H a = some (.dT [])) : Inv X pins σ (upd H a (.dK [])) s := by
  obtain ⟨z, lo, xs, rel, o, es, ep, h1, h2, h3, h4, h5⟩ := (show ObjOk X.prog X.w H s.heap a (.dT []) from I.hok a _ e)
  cases rel
  have he : es = #[] := by
    obtain ⟨l⟩ := es
    have : l = [] := h4
    rw [this]
  subst he
  refine d_write (t' := s.toks) I (by rw [e]; exact True.intro) same_obj ⟨o, h1⟩ ⟨Nat.zero_le _, lo, [], .nil, o, #[], ep, h1, h2, h3, ?_, .nil, List.nodup_nil⟩
  intro x hx
  simp at hx
theorem upd_back {o u : HO} (e : H a = some o) : upd (upd H a u) a o = H := by
  rw [upd_upd]
  funext b
  by_cases hb : b = a
  · subst hb; rw [upd_same, e]
  · rw [upd_ne hb]
theorem dU_in {A : Around} {E : Value → Shared → Prop} {y : V} {u : Value} {o : Option V} {Q : Value → Shared → Prop} (hu : A.units + 1 < cLine) (I : Inv X pins σ H s) (g : DGetU H a y o) (ry : RelV y u) (h : ∀ s', Inv X pins σ H s' → Q (.bool o.isSome) s') :
    wpAny (model X.prog X.w) A (compareOp .In u (.ref a)) Q E s := by
  rcases g with g | ⟨k, b, e, rfl, eb, rfl⟩
  · exact d_in hu I g ry h
  · have hb : b ≠ a := fun z => by rw [z, e] at eb; cases eb
    refine d_in hu (as_dT I e) (DGet.t upd_same (by rw [upd_ne hb]; exact eb)) ry fun s' I' => h s' ?_
    have := as_dK I' upd_same
    rwa [upd_back e] at this
theorem dU_notIn {A : Around} {E : Value → Shared → Prop} {y : V} {u : Value} {o : Option V} {Q : Value → Shared → Prop} (hu : A.units + 1 < cLine) (I : Inv X pins σ H s) (g : DGetU H a y o) (ry : RelV y u) (h : ∀ s', Inv X pins σ H s' → Q (.bool (!o.isSome)) s') :
    wpAny (model X.prog X.w) A (compareOp .NotIn u (.ref a)) Q E s := by
  rcases g with g | ⟨k, b, e, rfl, eb, rfl⟩
  · exact d_notIn hu I g ry h
  · have hb : b ≠ a := fun z => by rw [z, e] at eb; cases eb
    refine d_notIn hu (as_dT I e) (DGet.t upd_same (by rw [upd_ne hb]; exact eb)) ry fun s' I' => h s' ?_
    have := as_dK I' upd_same
    rwa [upd_back e] at this
theorem dU_put {A : Around} {E : Value → Shared → Prop} {y v : V} {u r : Value} {H' : Hp} {Q : Unit → Shared → Prop} (hu : A.units + 1 < cLine) (I : Inv X pins σ H s) (g : DPutU H a y v H') (ry : RelV y u) (rv : RelV v r) (h : ∀ s', Inv X pins σ H' s' → Q () s') :
    wpAny (model X.prog X.w) A (setItem (.ref a) u r) Q E s := by
  rcases g with g | ⟨k, b, e, rfl, eb, rfl⟩
  · exact d_setItem hu I g ry rv h
  · have hb : b ≠ a := fun z => by rw [z, e] at eb; cases eb
    refine d_setItem hu (as_dT I e) (DPut.t upd_same (by rw [upd_ne hb]; exact eb) (by show 0 < sizeLine; decide)) ry rv fun s' I' => h s' ?_
    rw [upd_upd] at I'
    exact I'
end
def rInU (neg : Bool) : R2 := fun x y H Q => ∃ a o, y = .ref a ∧ DGetU H a x o ∧ Q (.bl (xor neg o.isSome)) H
section
variable {X : Cx} {C : Mc} {W : WX} {e o : Expr} {pos : Pos}
theorem op_inU (hu : X.A.units + 1 < cLine) : OpR X (compareOp .In) (rInU false) := fun pins s σ H x y v u Q I rx ry ⟨a, o, e, g, q⟩ => by
  subst e
  cases ry
  exact dU_in hu I g rx fun t J => ⟨.bl o.isSome, H, J, rfl, by rwa [Bool.false_xor] at q⟩
theorem op_notInU (hu : X.A.units + 1 < cLine) : OpR X (compareOp .NotIn) (rInU true) := fun pins s σ H x y v u Q I rx ry ⟨a, o, e, g, q⟩ => by
  subst e
  cases ry
  exact dU_notIn hu I g rx fun t J => ⟨.bl (!o.isSome), H, J, rfl, by rwa [Bool.true_xor] at q⟩
theorem mt_at {Gc F H : Hp} {ps : Ps} {σ : St} {i : Nat} {ds : List (List Key × D)} (R : Rel C Gc F H ps σ) (h : ps.sl[i]? = some (.mt ds)) : ∃ p kvs, σ[i]? = some (some (.ref p)) ∧ H p = some (.dT kvs) ∧ F p = none ∧ Gc p = none ∧ RpA C F (kvs.map (·.2)) (ds.map (·.2)) ∧ ds.map (·.1) = kvs.map (·.1) := R.sl i _ h
theorem ud_at {Gc F H : Hp} {ps : Ps} {σ : St} {i : Nat} (R : Rel C Gc F H ps σ) (h : isUd ps.sl[i]? = true) : ∃ p, σ[i]? = some (some (.ref p)) := by
  cases e : ps.sl[i]? with
  | none => rw [e] at h; cases h
  | some s =>
    rw [e] at h
    cases s with
    | md ds => obtain ⟨p, _, q, _⟩ := md_at R e; exact ⟨p, q⟩
    | mt ds => obtain ⟨p, _, q, _⟩ := mt_at R e; exact ⟨p, q⟩
    | _ => cases h
theorem look_ok {Gc F H : Hp} {ps : Ps} {σ : St} {i : Nat} {y : D} {u : V} {od : Option D} (R : Rel C Gc F H ps σ) (ru : Rp C F u y) (h : lookU ps.sl[i]? y = some od) :
    ∃ p ov, σ[i]? = some (some (.ref p)) ∧ DGetU H p u ov ∧ ((ov = none ∧ od = none) ∨ ∃ v d, ov = some v ∧ od = some d ∧ Rp C F v d ∧ DGet H p u ov) := by
  cases e : ps.sl[i]? with
  | none => rw [e] at h; cases h
  | some s =>
    rw [e] at h
    cases s with
    | md ds =>
      obtain ⟨p, kvs, h1, h2, h3, h4, h5, h6⟩ := md_at R e
      simp only [lookU] at h
      cases ek : toKey y with
      | some k =>
        rw [ek] at h
        cases h
        have ex := kD_of ek
        subst ex
        have ev := rp_kD ru
        subst ev
        rcases look_rel h5 h6 k with ⟨c1, c2⟩ | ⟨v, d, c1, c2, c3⟩
        · exact ⟨p, _, h1, .inl (DGet.k h2), .inl ⟨c1, c2⟩⟩
        · exact ⟨p, _, h1, .inl (DGet.k h2), .inr ⟨v, d, c1, c2, c3, DGet.k h2⟩⟩
      | none =>
        rw [ek] at h
        dsimp only at h
        cases et : toTup y with
        | none => rw [et] at h; cases h
        | some ks =>
          rw [et] at h
          dsimp only at h
          split at h
          · rename_i hz
            cases h
            have hd : ds = [] := by simpa using hz
            subst hd
            have hk : kvs = [] := by
              cases kvs with
              | nil => rfl
              | cons q qs => simp at h6
            subst hk
            have ex := toTup_eq et
            subst ex
            obtain ⟨b, rfl, hb⟩ := rp_tup ru
            exact ⟨p, none, h1, .inr ⟨ks, b, h2, rfl, R.fh _ _ hb, rfl⟩, .inl ⟨rfl, rfl⟩⟩
          · cases h
    | mt ds =>
      obtain ⟨p, kvs, h1, h2, h3, h4, h5, h6⟩ := mt_at R e
      simp only [lookU] at h
      obtain ⟨ks, et, eo⟩ := Option.map_eq_some_iff.mp h
      subst eo
      have ex := toTup_eq et
      subst ex
      obtain ⟨b, rfl, hb⟩ := rp_tup ru
      have hb := R.fh _ _ hb
      rcases look_rel h5 h6 ks with ⟨c1, c2⟩ | ⟨v, d, c1, c2, c3⟩
      · exact ⟨p, _, h1, .inl (DGet.t h2 hb), .inl ⟨c1, c2⟩⟩
      · exact ⟨p, _, h1, .inl (DGet.t h2 hb), .inr ⟨v, d, c1, c2, c3, DGet.t h2 hb⟩⟩
    | _ => cases h
/-- x in y, y a dict of our own -/
def mInU (neg : Bool) (a : ME) (i : Nat) : ME := fun ps => (a ps).bind fun x ps1 => (Out.of (lookU ps1.sl[i]? x) ps1).bind fun o ps2 => .ok (.bool (xor neg o.isSome)) ps2
theorem inU_ok {neg : Bool} {i : Nat} {ma : ME} {σ : St} {H : Hp} {Q : VK} (h : tE C W (mInU neg ma i) σ H Q) : tOp (rInU neg) (tE C W ma) (tVar i) σ H Q := by
  obtain ⟨Gc, F, ps, R, q⟩ := h
  refine seqE qE.mono R q fun x ps1 v F1 H1 s1 R1 r1 q1 => ?_
  cases z : lookU ps1.sl[i]? x with
  | none => rw [z] at q1; exact q1.elim
  | some od =>
    rw [z] at q1
    obtain ⟨p, ov, h1, h2, h3⟩ := look_ok R1 r1 z
    refine ⟨.ref p, h1, p, ov, rfl, h2, ?_⟩
    have eo : ov.isSome = od.isSome := by
      rcases h3 with ⟨rfl, rfl⟩ | ⟨_, _, rfl, rfl, _⟩ <;> rfl
    rw [eo]
    exact q1 _ F1 H1 (Same.refl _) R1 (.bl _)
variable {a b : Expr}
theorem xinU {i : Nat} {ma : ME} (hu : X.A.units + 65 < cLine) (ha : PE X a (tE C W ma)) (hb : PE X b (tVar i)) (hk : behindInMarks .In b = false := by rfl) : PE X (.Compare a [.In] [b] pos) (tE C W (mInU false ma i)) :=
  pe_imp (pe_cmpR (op_inU (by omega)) ha hb hk) fun _ _ _ h => inU_ok h
theorem xnotInU {i : Nat} {ma : ME} (hu : X.A.units + 65 < cLine) (ha : PE X a (tE C W ma)) (hb : PE X b (tVar i)) (hk : behindInMarks .NotIn b = false := by rfl) : PE X (.Compare a [.NotIn] [b] pos) (tE C W (mInU true ma i)) :=
  pe_imp (pe_cmpR (op_notInU (by omega)) ha hb hk) fun _ _ _ h => inU_ok h
theorem xt_inU {i : Nat} {ma : ME} (hu : X.A.units + 65 < cLine) (ha : PE X a (tE C W ma)) (hb : PE X b (tVar i)) (hk : behindInMarks .In b = false := by rfl) : PT X (.Compare a [.In] [b] pos) (tT C W (mTst (mInU false ma i))) :=
  pt_imp (pt_cmpR (op_inU (by omega)) ha hb hk) fun _ _ _ h => inU_ok (tst_ok h)
theorem xt_notInU {i : Nat} {ma : ME} (hu : X.A.units + 65 < cLine) (ha : PE X a (tE C W ma)) (hb : PE X b (tVar i)) (hk : behindInMarks .NotIn b = false := by rfl) : PT X (.Compare a [.NotIn] [b] pos) (tT C W (mTst (mInU true ma i))) :=
  pt_imp (pt_cmpR (op_notInU (by omega)) ha hb hk) fun _ _ _ h => inU_ok (tst_ok h)
/-- x[y], x a dict of our own -/
def mIxU (i : Nat) (b : ME) : ME := fun ps => if isUd ps.sl[i]? = true then (b ps).bind fun y ps1 => Out.of ((lookU ps1.sl[i]? y).bind fun o => o) ps1 else .bad
theorem ixU_ok {i : Nat} {mb : ME} {σ : St} {H : Hp} {Q : VK} (h : tE C W (mIxU i mb) σ H Q) : tOp rIxK (tVar i) (tE C W mb) σ H Q := by
  obtain ⟨Gc, F, ps, R, q⟩ := h
  unfold mIxU at q
  cases hz : isUd ps.sl[i]? with
  | false => rw [hz] at q; exact q.elim
  | true =>
    rw [hz, if_pos rfl] at q
    obtain ⟨p, hp⟩ := ud_at R hz
    refine ⟨.ref p, hp, seqE qE.mono R q fun y ps1 u F1 H1 s1 R1 r1 q1 => ?_⟩
    cases z : (lookU ps1.sl[i]? y).bind fun o => o with
    | none => rw [z] at q1; exact q1.elim
    | some d =>
      rw [z] at q1
      obtain ⟨od, e1, e2⟩ := Option.bind_eq_some_iff.mp z
      obtain ⟨p', ov, h1, h2, h3⟩ := look_ok R1 r1 e1
      rw [hp] at h1
      cases h1
      rcases h3 with ⟨_, rfl⟩ | ⟨v, d', rfl, rfl, r3, g⟩
      · cases e2
      · cases e2
        exact ⟨p, v, rfl, g, q1 v F1 H1 (Same.refl _) R1 r3⟩
theorem xixU {i : Nat} {mb : ME} (hu : X.A.units + 1 < cLine) (ha : PE X a (tVar i)) (hb : PE X b (tE C W mb)) (hs : PlainIx b) : PE X (.Subscript a b pos) (tE C W (mIxU i mb)) :=
  pe_imp (pe_ix (ix_dict hu) ha hb hs) fun _ _ _ h => ixU_ok h
/-- x[k] = v, x a dict of our own of either kind -/
def mPutU (i : Nat) (mk mv : ME) : MS := fun ps => (mv ps).bindS fun v ps1 => if isUd ps1.sl[i]? = true then (mk ps1).bindS fun y ps2 => match putU ps2.sl[i]? y v with
  | some s => .next (ps2.setS i s)
  | none => .bad else .bad
/-- such a dict changed -/
theorem putU_ok {Gc F H : Hp} {ps : Ps} {σ : St} {i : Nat} {y v : D} {u w : V} {sl : Sl} (R : Rel C Gc F H ps σ) (ru : Rp C F u y) (rw_ : Rp C F w v) (h : putU ps.sl[i]? y v = some sl) :
    ∃ p H', σ[i]? = some (some (.ref p)) ∧ DPutU H p u w H' ∧ Rel C Gc F H' (ps.setS i sl) σ := by
  cases e : ps.sl[i]? with
  | none => rw [e] at h; cases h
  | some s =>
    rw [e] at h
    cases s with
    | md ds =>
      obtain ⟨p, kvs, h1, h2, h3, h4, h5, h6⟩ := md_at R e
      simp only [putU] at h
      cases ek : toKey y with
      | some k =>
        rw [ek] at h
        dsimp only at h
        split at h
        · rename_i hl
          cases h
          have ex := kD_of ek
          subst ex
          have ev := rp_kD ru
          subst ev
          have el : kvs.length = ds.length := by have := congrArg List.length h6; simpa using this.symm
          obtain ⟨n1, n2⟩ := put_rel (k := k) rw_ h5 h6
          exact ⟨p, _, h1, .inl (DPut.k h2 (by rw [el]; exact hl)), R.mutate e rfl h1 h3 h4 rfl ⟨p, _, rfl, upd_same, h3, h4, n1, n2⟩⟩
        · cases h
      | none =>
        rw [ek] at h
        dsimp only at h
        cases et : toTup y with
        | none => rw [et] at h; cases h
        | some ks =>
          rw [et] at h
          dsimp only at h
          split at h
          · rename_i hz
            cases h
            have hd : ds = [] := by simpa using hz
            subst hd
            have hk : kvs = [] := by
              cases kvs with
              | nil => rfl
              | cons q qs => simp at h6
            subst hk
            have ex := toTup_eq et
            subst ex
            obtain ⟨b, rfl, hb⟩ := rp_tup ru
            exact ⟨p, _, h1, .inr ⟨ks, b, h2, rfl, R.fh _ _ hb, rfl⟩, R.mutate e rfl h1 h3 h4 rfl ⟨p, _, rfl, upd_same, h3, h4, .cons rw_ .nil, rfl⟩⟩
          · cases h
    | mt ds =>
      obtain ⟨p, kvs, h1, h2, h3, h4, h5, h6⟩ := mt_at R e
      simp only [putU] at h
      cases et : toTup y with
      | none => rw [et] at h; cases h
      | some ks =>
        rw [et] at h
        dsimp only at h
        split at h
        · rename_i hl
          cases h
          have ex := toTup_eq et
          subst ex
          obtain ⟨b, rfl, hb⟩ := rp_tup ru
          have el : kvs.length = ds.length := by have := congrArg List.length h6; simpa using this.symm
          obtain ⟨n1, n2⟩ := putG_rel (k := ks) rw_ h5 h6
          exact ⟨p, _, h1, .inl (DPut.t h2 (R.fh _ _ hb) (by rw [el]; exact hl)), R.mutate e rfl h1 h3 h4 rfl ⟨p, _, rfl, upd_same, h3, h4, n1, n2⟩⟩
        · cases h
    | _ => cases h
def sPutU (td ty tv : TE) : TS := fun D σ H => tv σ H fun v H1 => td σ H1 fun x H2 => ty σ H2 fun y H3 => ∃ a H4, x = .ref a ∧ DPutU H3 a y v H4 ∧ D.nx σ H4
theorem ps_putU {kx value : Expr} {pos' : Pos} {td ty tv : TE} (hu : X.A.units + 1 < cLine) (ho : PE X o td) (hk : PE X kx ty) (hv : PE X value tv) (hs : swapsWith value (some (.Subscript o kx pos')) pos.line X.env = pure false) :
    PS X (.Assign [.Subscript o kx pos'] value pos) (sPutU td ty tv) := by
  constructor
  intro pins s σ H D I q0
  refine wpAny_Assign_Subscript ?_ hs
  refine thn (hv.run pins s σ H _ I q0) fun rv sa ⟨w, Ha, Ia, ra, qa⟩ => ?_
  refine thn (ho.run pins sa σ Ha _ Ia qa) fun ro sb ⟨x, Hb, Ib, rb, qb⟩ => ?_
  refine thn (hk.run pins sb σ Hb _ Ib qb) fun rk sc ⟨y, Hc, Ic, rc, a, Hd, ex, g, qd⟩ => ?_
  subst ex
  cases rb
  exact dU_put hu Ic g rc ra fun sd Id => ⟨σ, Hd, Id, qd⟩
theorem xs_putU {i : Nat} {mk mv : ME} {kx value : Expr} {pos' : Pos} (hu : X.A.units + 1 < cLine) (ho : PE X o (tVar i)) (hk : PE X kx (tE C W mk)) (hv : PE X value (tE C W mv)) (hs : swapsWith value (some (.Subscript o kx pos')) pos.line X.env = pure false := by rfl) :
    PS X (.Assign [.Subscript o kx pos'] value pos) (tS C W (mPutU i mk mv)) :=
  ps_imp (ps_putU hu ho hk hv hs) fun D σ H ⟨Gc, F, ps, R, q⟩ => by
    refine seqES R q fun v ps1 vv F1 H1 s1 R1 r1 q1 => ?_
    cases hz : isUd ps1.sl[i]? with
    | false => rw [hz] at q1; exact q1.elim
    | true =>
      rw [hz, if_pos rfl] at q1
      obtain ⟨p, hp⟩ := ud_at R1 hz
      refine ⟨.ref p, hp, seqES R1 q1 fun y ps2 yv F2 H2 s2 R2 r2 q2 => ?_⟩
      cases ep : putU ps2.sl[i]? y v with
      | none => rw [ep] at q2; exact q2.elim
      | some sl =>
        rw [ep] at q2
        obtain ⟨p', H', h1, h2, h3⟩ := putU_ok R2 r2 (r1.mono s2) ep
        rw [hp] at h1
        cases h1
        exact ⟨p, H', rfl, h2, q2 _ F2 _ (Same.refl _) h3⟩
end
end MM
/-! MM: comprehensions of two clauses, and such that make dicts: what grows is a slot's content. -/
namespace MM
open PySem PySem.Spec PyProof.Rows L2
/-- the turns: mb makes what grows greater -/
def mLp (g : MG) (tt : MT) (mb : Sl → Ps → Out Sl) (vs : List Nat) : List D → Sl → Ps → Out Sl
  | [], sl, ps => .ok sl ps
  | d :: ds, sl, ps => match g d ps with
    | none => .bad
    | some ps1 => match tt ps1 with
      | .ok b ps2 => if b = true then (match mb sl ps2 with
          | .ok sl2 ps3 => mLp g tt mb vs ds sl2 (wipeP ps3 vs)
          | _ => .bad) else mLp g tt mb vs ds sl (wipeP ps2 vs)
      | _ => .bad
/-- the second clause -/
def mIn (mi : MA) (g : MG) (tt : MT) (mb : Sl → Ps → Out Sl) (vs : List Nat) : Sl → Ps → Out Sl := fun sl ps => match mi ps with
  | .ok ds ps1 => mLp g tt mb vs ds sl (wipeP ps1 vs)
  | _ => .bad
def mApp (te : ME) : Sl → Ps → Out Sl := fun sl ps => match te ps with
  | .ok y ps1 => (match sl with
    | .ml acc => if acc.length < sizeLine then .ok (.ml (acc ++ [y])) ps1 else .bad
    | _ => .bad)
  | _ => .bad
def mKv (tk tv : ME) : Sl → Ps → Out Sl := fun sl ps => match tk ps with
  | .ok y ps1 => (match tv ps1 with
    | .ok v ps2 => (match putU (some sl) y v with
      | some sl2 => .ok sl2 ps2
      | none => .bad)
    | _ => .bad)
  | _ => .bad
def mComp2 (i : MA) (g : MG) (tt : MT) (mi : MA) (g1 : MG) (tt1 : MT) (te : ME) (vs vs1 : List Nat) : MLs := fun ps => (i ps).bind fun ds ps1 => match mLp g tt (mIn mi g1 tt1 (mApp te) vs1) vs ds (.ml []) (wipeP ps1 vs) with
  | .ok (.ml ys) ps2 => .ok ys (wipeP ps2 vs)
  | _ => .bad
abbrev MUd := Ps → Out Sl
def mDc (i : MA) (g : MG) (tt : MT) (tk tv : ME) (vs : List Nat) : MUd := fun ps => (i ps).bind fun ds ps1 => match mLp g tt (mKv tk tv) vs ds (.md []) (wipeP ps1 vs) with
  | .ok sl ps2 => .ok sl (wipeP ps2 vs)
  | _ => .bad
def mDc2 (i : MA) (g : MG) (tt : MT) (mi : MA) (g1 : MG) (tt1 : MT) (tk tv : ME) (vs vs1 : List Nat) : MUd := fun ps => (i ps).bind fun ds ps1 => match mLp g tt (mIn mi g1 tt1 (mKv tk tv) vs1) vs ds (.md []) (wipeP ps1 vs) with
  | .ok sl ps2 => .ok sl (wipeP ps2 vs)
  | _ => .bad
/-- what grows, and its object -/
def GrS (C : Mc) (F : Hp) (o : HO) : Sl → Prop
  | .ml acc => ∃ xs, o = .lst xs ∧ RpA C F xs acc
  | .md ds => ∃ kvs, o = .dK kvs ∧ RpA C F (kvs.map (·.2)) (ds.map (·.2)) ∧ ds.map (·.1) = kvs.map (·.1)
  | .mt ds => ∃ kvs, o = .dT kvs ∧ RpA C F (kvs.map (·.2)) (ds.map (·.2)) ∧ ds.map (·.1) = kvs.map (·.1)
  | _ => False
theorem GrS.mono {C : Mc} {F F' : Hp} {o : HO} {sl : Sl} (s : Same F F') (h : GrS C F o sl) : GrS C F' o sl := by
  cases sl with
  | ml acc => obtain ⟨xs, e, r⟩ := h; exact ⟨xs, e, r.mono s⟩
  | md ds => obtain ⟨kvs, e, r, k⟩ := h; exact ⟨kvs, e, r.mono s, k⟩
  | mt ds => obtain ⟨kvs, e, r, k⟩ := h; exact ⟨kvs, e, r.mono s, k⟩
  | _ => exact h.elim
/-- a body's reading: Dl what grows, Nx what is wanted behind it -/
abbrev TBd := Addr → St → Hp → (Hp → Prop) → Prop
def GoOn (C : Mc) (Gc : Hp) (Dl : Addr) (σ : St) (vs : List Nat) (F : Hp) (Nx : Hp → Prop) : Out Sl → Prop
  | .ok sl ps => ∀ σ' F' H' o, wipe σ' vs = wipe σ vs → Same F F' → Rel C (upd Gc Dl o) F' H' ps σ' → GrS C F' o sl → Nx H'
  | _ => False
theorem GoOn.mono {C : Mc} {Gc : Hp} {Dl : Addr} {σ : St} {vs : List Nat} {F F' : Hp} {Nx : Hp → Prop} {x : Out Sl} (s : Same F F') (h : GoOn C Gc Dl σ vs F Nx x) : GoOn C Gc Dl σ vs F' Nx x := by
  cases x with
  | ok sl ps => exact fun σ' F'' H' o e s' => h σ' F'' H' o e (s.trans s')
  | _ => exact h.elim
def BdOk (C : Mc) (tb : TBd) (mb : Sl → Ps → Out Sl) (vs : List Nat) : Prop := ∀ {Gc : Hp} {Dl : Addr} {σ : St} {F H : Hp} {ps : Ps} {o : HO} {sl : Sl} {Nx : Hp → Prop},
  Gc Dl = none → Rel C (upd Gc Dl o) F H ps σ → GrS C F o sl → GoOn C Gc Dl σ vs F Nx (mb sl ps) → tb Dl σ H Nx
def tLoop (J : It) (Dl : Addr) (σ : St) (vs : List Nat) (g : TG) (tt : TT) (tb : TBd) (End : Hp → Prop) (H1 : Hp) : Prop := ∃ W : Nat → Nat → Hp → Prop, (∃ m, W 0 m H1) ∧ ∀ i m H, W i m H →
  (J.stop i H ∧ End H) ∨ (J.go i H ∧ ∃ Nx : Hp → Prop, (∀ H', Nx H' → ∃ m', m' < m ∧ W (i + 1) m' H') ∧ ∀ x H', J.yld i H x H' → g x (wipe σ vs) H' fun σ2 H2 => wipe σ2 vs = wipe σ vs ∧ tt σ2 H2 fun b H3 =>
    if b = true then tb Dl σ2 H3 Nx else Nx H3)
section
variable {C : Mc} {Gc F H : Hp} {ps : Ps} {σ : St}
theorem loop_ok {g : MG} {mt : MT} {mb : Sl → Ps → Out Sl} {tb : TBd} {vs ts : List Nat} (hv : ∀ t ∈ ts, t ∈ vs) (hb : BdOk C tb mb vs) {J : It} {ds : List D} {Dl : Addr} {o : HO} {sl : Sl} {End : Hp → Prop} (it : ItR C J F ds) (gD : Gc Dl = none)
    (R : Rel C (upd Gc Dl o) F H ps (wipe σ vs)) (gr : GrS C F o sl) (q : GoOn C Gc Dl σ vs F End (mLp g mt mb vs ds sl ps)) : tLoop J Dl σ vs (tG C ts g) (tT C W0 mt) tb End H := by
  refine ⟨fun i m H => m = ds.length - i ∧ i ≤ ds.length ∧ ∃ F' ps' o' sl', Same F F' ∧ Rel C (upd Gc Dl o') F' H ps' (wipe σ vs) ∧ GrS C F' o' sl' ∧ GoOn C Gc Dl σ vs F' End (mLp g mt mb vs (ds.drop i) sl' ps'),
    ⟨ds.length, by simp, Nat.zero_le _, F, ps, o, sl, Same.refl _, R, gr, by rw [List.drop_zero]; exact q⟩, ?_⟩
  rintro i m H2 ⟨rfl, hi, F2, ps2, o2, sl2, s2, R3, ra, q2⟩
  by_cases hlt : i < ds.length
  · refine .inr ⟨it.go i H2 hlt (s2.trans R3.fh), fun H' => ∃ F' ps' o' sl', Same F F' ∧ Rel C (upd Gc Dl o') F' H' ps' (wipe σ vs) ∧ GrS C F' o' sl' ∧ GoOn C Gc Dl σ vs F' End (mLp g mt mb vs (ds.drop (i + 1)) sl' ps'),
      fun H' h => ⟨ds.length - (i + 1), by omega, rfl, hlt, h⟩, fun x H' y => ?_⟩
    obtain ⟨F3, s3, R4, r4⟩ := it.yld i H2 x H' _ F2 ps2 _ ds[i] s2 R3 (by simp [hlt]) y
    rw [List.drop_eq_getElem_cons hlt] at q2
    unfold mLp at q2
    cases eg : g ds[i] ps2 with
    | none => rw [eg] at q2; exact q2.elim
    | some ps3 =>
      rw [eg] at q2
      dsimp only at q2
      refine ⟨_, F3, ps2, ds[i], ps3, R4, r4, eg, fun σ' F4 H4 s4 R5 hw => ⟨by rw [hw vs hv, wipe_idem], ?_⟩⟩
      have ew : wipe σ' vs = wipe σ vs := by rw [hw vs hv, wipe_idem]
      cases et : mt ps3 with
      | bad => rw [et] at q2; exact q2.elim
      | exc _ _ => rw [et] at q2; exact q2.elim
      | ok b ps4 =>
        rw [et] at q2
        dsimp only at q2
        refine ⟨_, F4, ps3, R5, ?_⟩
        rw [et]
        refine fun F5 H5 s5 R6 => ?_
        have sa : Same F2 F5 := (s3.trans s4).trans s5
        cases b with
        | false =>
          rw [if_neg (by decide)] at q2
          refine iteF ⟨F5, wipeP ps4 vs, o2, sl2, s2.trans sa, ?_, ra.mono sa, q2.mono sa⟩
          rw [← ew]
          exact R6.wipeP vs
        | true =>
          rw [if_pos rfl] at q2
          refine iteT (hb (Nx := _) gD R6 (ra.mono sa) ?_)
          cases em : mb sl2 ps4 with
          | bad => rw [em] at q2; exact q2.elim
          | exc _ _ => rw [em] at q2; exact q2.elim
          | ok sl3 ps5 =>
            rw [em] at q2
            dsimp only at q2
            refine fun σ9 F6 H6 o6 e6 s6 R7 gr7 => ?_
            refine ⟨F6, wipeP ps5 vs, o6, sl3, (s2.trans sa).trans s6, ?_, gr7, q2.mono (sa.trans s6)⟩
            have z := R7.wipeP vs
            rw [e6, ew] at z
            exact z
  · have e : i = ds.length := by omega
    subst e
    rw [List.drop_length] at q2
    refine .inl ⟨it.stop H2 (s2.trans R3.fh), ?_⟩
    exact q2 (wipe σ vs) F2 H2 o2 (wipe_idem σ vs) (Same.refl _) R3 ra
/-- the second clause as a body of the first -/
def tIn (wi1 : TI) (g1 : TG) (tt1 : TT) (tb : TBd) (vs1 : List Nat) : TBd := fun Dl σ H Nx => wi1 σ H fun J1 H4 => tLoop J1 Dl σ vs1 g1 tt1 tb Nx H4
theorem wipe_wipe {vs vs1 : List Nat} (h : ∀ i ∈ vs1, i ∈ vs) (σ : St) : wipe (wipe σ vs1) vs = wipe σ vs := by
  apply List.ext_getElem?
  intro j
  rw [wipe_get, wipe_get, wipe_length, wipe_get]
  by_cases hj : j ∈ vs
  · simp [hj]
  · have : j ∉ vs1 := fun z => hj (h j z)
    simp [hj, this]
theorem in_ok {mi : MA} {g : MG} {mt : MT} {mb : Sl → Ps → Out Sl} {tb : TBd} {vs vs1 ts : List Nat} (hv : ∀ t ∈ ts, t ∈ vs1) (h1 : ∀ i ∈ vs1, i ∈ vs) (hb : BdOk C tb mb vs1) : BdOk C (tIn (tI C W0 mi) (tG C ts g) (tT C W0 mt) tb vs1) (mIn mi g mt mb vs1) vs := by
  intro Gc Dl σ F H ps o sl Nx gD R gr q
  unfold mIn at q
  cases ei : mi ps with
  | bad => rw [ei] at q; exact q.elim
  | exc _ _ => rw [ei] at q; exact q.elim
  | ok ds ps1 =>
    rw [ei] at q
    dsimp only at q
    refine ⟨_, F, ps, R, ?_⟩
    rw [ei]
    intro J F1 H1 s1 R1 it
    refine loop_ok (o := o) (sl := sl) hv hb it gD (R1.wipeP vs1) (gr.mono s1) ?_
    cases e : mLp g mt mb vs1 ds sl (wipeP ps1 vs1) with
    | bad => rw [e] at q; exact q.elim
    | exc _ _ => rw [e] at q; exact q.elim
    | ok sl2 ps2 =>
      rw [e] at q
      intro σ' F' H' o' ew s' R' gr'
      refine q σ' F' H' o' ?_ (s1.trans s') R' gr'
      have := congrArg (fun z => wipe z vs) ew
      simp only [wipe_wipe h1] at this
      exact this
/-- x.append(elt) within a comprehension -/
def tApp (te : TE) : TBd := fun Dl σ H Nx => te σ H fun y H7 => ∃ acc, H7 Dl = some (.lst acc) ∧ acc.length < sizeLine ∧ Nx (upd H7 Dl (.lst (acc ++ [y])))
theorem app_bd {me : ME} {vs : List Nat} : BdOk C (tApp (tE C W0 me)) (mApp me) vs := by
  intro Gc Dl σ F H ps o sl Nx gD R gr q
  unfold mApp at q
  cases ee : me ps with
  | bad => rw [ee] at q; exact q.elim
  | exc _ _ => rw [ee] at q; exact q.elim
  | ok y ps1 =>
    rw [ee] at q
    dsimp only at q
    refine ⟨_, F, ps, R, ?_⟩
    rw [ee]
    intro v F1 H1 s1 R1 ry
    cases sl with
    | ml acc =>
      dsimp only at q
      obtain ⟨xs, rfl, r⟩ := gr
      by_cases hl : acc.length < sizeLine
      · rw [if_pos hl] at q
        obtain ⟨R8, l8⟩ := R1.outG gD
        obtain ⟨R9, l9⟩ := R8.looseSet (o' := .lst (xs ++ [v])) l8
        exact ⟨xs, R1.gh _ _ upd_same, by rw [r.length]; exact hl, q σ F1 _ _ rfl s1 (R9.inG l9) ⟨_, rfl, (r.mono s1).append (.cons ry .nil)⟩⟩
      · rw [if_neg hl] at q; exact q.elim
    | _ => exact q.elim
/-- d[k] = v within a comprehension -/
def tKv (tk tv : TE) : TBd := fun Dl σ H Nx => tk σ H fun y H4 => tv σ H4 fun z H5 => ∃ H6, DPutU H5 Dl y z H6 ∧ Nx H6
theorem grow_kv {o : HO} {Dl : Addr} {sl sl2 : Sl} {y v : D} {u w : V} (hD : H Dl = some o) (hf : Same F H) (gr : GrS C F o sl) (ru : Rp C F u y) (rw_ : Rp C F w v) (h : putU (some sl) y v = some sl2) : ∃ o2, DPutU H Dl u w (upd H Dl o2) ∧ GrS C F o2 sl2 := by
  cases sl with
  | md ds =>
    obtain ⟨kvs, rfl, h5, h6⟩ := gr
    simp only [putU] at h
    cases ek : toKey y with
    | some k =>
      rw [ek] at h
      dsimp only at h
      split at h
      · rename_i hl
        cases h
        have ex := kD_of ek
        subst ex
        have ev := rp_kD ru
        subst ev
        have el : kvs.length = ds.length := by have := congrArg List.length h6; simpa using this.symm
        obtain ⟨n1, n2⟩ := put_rel (k := k) rw_ h5 h6
        exact ⟨_, .inl (DPut.k hD (by rw [el]; exact hl)), _, rfl, n1, n2⟩
      · cases h
    | none =>
      rw [ek] at h
      dsimp only at h
      cases et : toTup y with
      | none => rw [et] at h; cases h
      | some ks =>
        rw [et] at h
        dsimp only at h
        split at h
        · rename_i hz
          cases h
          have hd : ds = [] := by simpa using hz
          subst hd
          have hk : kvs = [] := by
            cases kvs with
            | nil => rfl
            | cons q qs => simp at h6
          subst hk
          have ex := toTup_eq et
          subst ex
          obtain ⟨b, rfl, hb⟩ := rp_tup ru
          exact ⟨_, .inr ⟨ks, b, hD, rfl, hf _ _ hb, rfl⟩, _, rfl, .cons rw_ .nil, rfl⟩
        · cases h
  | mt ds =>
    obtain ⟨kvs, rfl, h5, h6⟩ := gr
    simp only [putU] at h
    cases et : toTup y with
    | none => rw [et] at h; cases h
    | some ks =>
      rw [et] at h
      dsimp only at h
      split at h
      · rename_i hl
        cases h
        have ex := toTup_eq et
        subst ex
        obtain ⟨b, rfl, hb⟩ := rp_tup ru
        have el : kvs.length = ds.length := by have := congrArg List.length h6; simpa using this.symm
        obtain ⟨n1, n2⟩ := putG_rel (k := ks) rw_ h5 h6
        exact ⟨_, .inl (DPut.t hD (hf _ _ hb) (by rw [el]; exact hl)), _, rfl, n1, n2⟩
      · cases h
  | _ => cases h
theorem kv_bd {mk mv : ME} {vs : List Nat} : BdOk C (tKv (tE C W0 mk) (tE C W0 mv)) (mKv mk mv) vs := by
  intro Gc Dl σ F H ps o sl Nx gD R gr q
  unfold mKv at q
  cases ek : mk ps with
  | bad => rw [ek] at q; exact q.elim
  | exc _ _ => rw [ek] at q; exact q.elim
  | ok y ps1 =>
    rw [ek] at q
    dsimp only at q
    refine ⟨_, F, ps, R, ?_⟩
    rw [ek]
    intro u F1 H1 s1 R1 ru
    cases ev : mv ps1 with
    | bad => rw [ev] at q; exact q.elim
    | exc _ _ => rw [ev] at q; exact q.elim
    | ok v ps2 =>
      rw [ev] at q
      dsimp only at q
      refine ⟨_, F1, ps1, R1, ?_⟩
      rw [ev]
      intro w F2 H2 s2 R2 rw_
      cases ep : putU (some sl) y v with
      | none => rw [ep] at q; exact q.elim
      | some sl2 =>
        rw [ep] at q
        dsimp only at q
        obtain ⟨o2, d2, g2⟩ := grow_kv (R2.gh _ _ upd_same) R2.fh (gr.mono (s1.trans s2)) (ru.mono s2) rw_ ep
        obtain ⟨R8, l8⟩ := R2.outG gD
        obtain ⟨R9, l9⟩ := R8.looseSet (o' := o2) l8
        exact ⟨_, d2, q σ F2 _ o2 rfl (s1.trans s2) (R9.inG l9) g2⟩
end
end MM
/-! MM: comprehensions that make dicts, of one clause and of two. -/
namespace MM
open PySem PySem.Spec PyProof.Rows L2
abbrev tsts (ifs : List Expr) (env : Env) : Sem Bool := forIn ifs true fun c r => if r = true then do let ok ← isTrue c env (eval c env); pure (ForInStep.yield ok) else pure (ForInStep.yield r)
/-- a turn, with what is done where the tests are passed -/
def turnK (dp : Nat) (e : Expr) (tg iter : Expr) (ifs : List Expr) (it acc : Value) (env : Env) (kT : Sem Fin) : Sem Fin :=
  standAt iter.pos >>= fun _ => pyNext it >>= fun r => match r with
    | none => pure (.done .next)
    | some v => letOwnedTupleGo tg it v >>= fun _ => assign tg env v >>= fun _ => tsts ifs env >>= fun ok => if ok = true then kT else again (.compLoop e dp it acc env)
section
variable {prog : Program} {w : World} {A : Around} {R : Result → Shared → Prop} {s : Shared}
theorem loopK {dp : Nat} {e tg iter : Expr} {ifs : List Expr} {it acc : Value} {env : Env} {kT : Sem Fin} (hq : (Code.compLoop e dp it acc env).quiet = true)
    (hd : (model prog w).den (.compLoop e dp it acc env) = (turnK dp e tg iter ifs it acc env kT).onRaise (fun x => do noteFrame x env; theTreesLotGoes x)) (hu : A.under (.compLoop e dp it acc env) = A) (I : Nat → Shared → Prop)
    (turn : ∀ n s, I n s → wpAny (model prog w) A (pyNext it) (fun r s1 => match r with
      | none => R (.ok .next) s1
      | some v => wpAny (model prog w) A (letOwnedTupleGo tg it v) (fun _ s2 => wpAny (model prog w) A (assign tg env v) (fun _ s3 => wpAny (model prog w) A (tsts ifs env) (fun ok s4 =>
          if ok = true then wpAny (model prog w) A kT (fun f s5 => f = .again (.compLoop e dp it acc env) ∧ ∃ m, m < n ∧ I m s5) (fun _ _ => False) s4
          else ∃ m, m < n ∧ I m s4) (fun _ _ => False) s3) (fun _ _ => False) s2) (fun _ _ => False) s1) (fun _ _ => False) s)
    (n : Nat) (h : I n s) : codeAny (model prog w) A (.compLoop e dp it acc env) R s := by
  refine codeAny_loop hq I (fun n s hI => ?_) n h
  rw [hd, hu]
  refine wpAny_noted ?_
  unfold turnK
  refine wpAny_bind (wpAny_standAt (wpAny_bind (thnF (turn n s hI) fun r s1 h1 => ?_)))
  cases r with
  | none => exact wpAny_pure h1
  | some v =>
    refine wpAny_bind (thnF h1 fun _ s2 h2 => wpAny_bind (thnF h2 fun _ s3 h3 => wpAny_bind (thnF h3 fun ok s4 h4 => ?_)))
    cases ok with
    | false => exact wpAny_pure ⟨rfl, h4⟩
    | true =>
      simp only [if_true] at h4 ⊢
      refine thnF h4 fun f s5 h5 => ?_
      obtain ⟨rfl, m, hm, hI'⟩ := h5
      exact ⟨rfl, m, hm, hI'⟩
end
section
/-- the turns of a clause within the block -/
theorem run_loop {X : Cx} {pins : List (Addr × Obj)} {σ : St} {vs : List Nat} {dp : Nat} {e tg iter : Expr} {ifs : List Expr} {D : Addr} {kT : Sem Fin} {J : It} {fp : List Addr} {it : Addr} {tn : Nat → Heap → Prop} {g : TG} {tt : TT} {tb : TBd} {End : Hp → Prop} {H1 : Hp} {s1 : Shared}
    (hc : X.calm = true) (hxe : X.xe = fun _ _ => False) (T : Turn X.prog X.w X.K tg J fp it tn) (hq : (Code.compLoop e dp (.ref it) (.ref D) X.env).quiet = true)
    (hd : (model X.prog X.w).den (.compLoop e dp (.ref it) (.ref D) X.env) = (turnK dp e tg iter ifs (.ref it) (.ref D) X.env kT).onRaise (fun x => do noteFrame x X.env; theTreesLotGoes x)) (hu : X.A.under (.compLoop e dp (.ref it) (.ref D) X.env) = X.A)
    (pg : PG X tg g) (pt : PTs X ifs tt)
    (hb : ∀ (pins : List (Addr × Obj)) (s : Shared) (σ2 : St) (H : Hp) (Nx : Hp → Prop) (P : Shared → Prop), Inv X pins σ2 H s → tb D σ2 H Nx →
      (∀ (σ3 : St) (H' : Hp) (s' : Shared), Inv X pins σ3 H' s' → (wipe σ2 vs).length = σ3.length → (∀ (j : Nat) v, (wipe σ2 vs)[j]? = some (some v) → σ3[j]? = some (some v)) → Nx H' → P s') →
      wpAny (model X.prog X.w) X.A kT (fun f s' => f = .again (.compLoop e dp (.ref it) (.ref D) X.env) ∧ P s') (fun _ _ => False) s)
    (hl : tLoop J D σ vs g tt tb End H1) (I1 : Inv X pins (wipe σ vs) H1 s1) (st : tn 0 s1.heap) (hf : ∀ b ∈ fp, FpOk X pins H1 b) (R : Result → Shared → Prop)
    (hR : ∀ (H' : Hp) (s' : Shared), Inv X pins (wipe σ vs) H' s' → End H' → R (.ok .next) s') : codeAny (model X.prog X.w) X.A (.compLoop e dp (.ref it) (.ref D) X.env) R s1 := by
  obtain ⟨W, ⟨m0, w0⟩, turn⟩ := hl
  have fpo : ∀ {H' : Hp}, (∀ b ∈ fp, H' b = none) → ∀ b ∈ fp, FpOk X pins H' b := fun n b hb' => ⟨n b hb', (hf b hb').2⟩
  refine loopK (A := X.A) (R := R) hq hd hu (fun n s' => ∃ i H', Inv X pins (wipe σ vs) H' s' ∧ tn i s'.heap ∧ (∀ b ∈ fp, H' b = none) ∧ W i n H') ?_ m0 ⟨0, H1, I1, st, fun b hb' => (hf b hb').1, w0⟩
  rintro n sa ⟨i, Ha, Ia, sta, na, wa⟩
  rcases turn i n Ha wa with ⟨stop, qq⟩ | ⟨go, Nx, hNx, step⟩
  · refine thnF (T.done X rfl rfl rfl hc i _ sa _ Ha (fun _ _ => False) Ia (fpo na) sta stop) fun r sb h => ?_
    obtain ⟨rfl, Ib⟩ := h
    exact hR Ha sb Ib qq
  · refine thnF (T.item X rfl rfl rfl hc i _ sa _ Ha (fun _ _ => False) Ia (fpo na) sta go) fun r sb h => ?_
    obtain ⟨u, rfl, h⟩ := h
    refine thnF h fun _ sc ⟨x, Hc, Ic, rc, yc, stc, nc⟩ => ?_
    have Ip := Ic.pinned (fpo nc) (T.obj _ _ stc)
    have pgr := pg.run _ sc _ Hc x u _ Ip rc (step x Hc yc)
    rw [hxe] at pgr
    refine thnF pgr fun _ sd ⟨σd, Hd, Id, hwd, qd⟩ => ?_
    have ptr := pt.run _ sd σd Hd _ Id qd
    rw [hxe] at ptr
    refine thnF ptr fun b se ⟨He, Ie, qe⟩ => ?_
    have fin : ∀ {σ3 : St} {s' : Shared} {H' : Hp}, Inv X (pins ++ pinsAt fp sc.heap) σ3 H' s' → (wipe σ vs).length = σ3.length → (∀ (j : Nat) v, (wipe σ vs)[j]? = some (some v) → σ3[j]? = some (some v)) → Nx H' →
        ∃ m, m < n ∧ ∃ i H', Inv X pins (wipe σ vs) H' s' ∧ tn i s'.heap ∧ (∀ b ∈ fp, H' b = none) ∧ W i m H' := fun {σ3 s' H'} I' hl3 hk3 nx => by
      obtain ⟨m', hm, w'⟩ := hNx H' nx
      have at_pin : ∀ b ∈ fp, ∀ o, sc.heap.get? b = some o → s'.heap.get? b = some o ∧ H' b = none := fun b hb' o eo =>
        let z := I'.pin (b, o) (List.mem_append_right _ (List.mem_append_right _ (mem_pinsAt hb' eo)))
        ⟨z.1, z.2.1⟩
      refine ⟨m', hm, i + 1, H', I'.unpinned.weak hl3 hk3, T.keep _ _ _ stc fun b hb' o eo => (at_pin b hb' o eo).1, fun b hb' => ?_, w'⟩
      obtain ⟨o, eo, _⟩ := T.obj _ _ stc b hb'
      exact (at_pin b hb' o eo).2
    have ld : (wipe σ vs).length = σd.length := by rw [← hwd, wipe_length]
    have kd : ∀ (j : Nat) v, (wipe σ vs)[j]? = some (some v) → σd[j]? = some (some v) := fun j v ev => by
      rw [← hwd] at ev
      exact (wipe_some ev).1
    cases b with
    | false =>
      simp only [Bool.false_eq_true, if_false] at qe ⊢
      exact fin Ie ld kd qe
    | true =>
      simp only [if_true] at qe ⊢
      exact hb _ se σd He Nx _ Ie qe fun σ3 H' s' I' l3 k3 nx => fin I' (by rw [← hwd]; exact l3) (fun j v ev => k3 j v (by rw [hwd]; exact ev)) nx
/-- one pair -/
def kOne (e kx vx : Expr) (dp : Nat) (it : Value) (D : Addr) (env : Env) : Sem Fin := (do
    let kv ← eval kx env
    let vv ← holding [kv] (eval vx env)
    standAt { kx.pos with endLine := vx.pos.endLine, endCol := vx.pos.endCol }
    holding [kv, vv] (dictSet D kv vv) : Sem Unit) >>= fun _ => again (.compLoop e dp it (.ref D) env)
/-- d[k] = v by a comprehension, of a dict of either kind -/
theorem dU_set {X : Cx} {pins : List (Addr × Obj)} {σ : St} {H H' : Hp} {s : Shared} {D : Addr} {y v : V} {u r : Value} {Q : Unit → Shared → Prop} {E : Value → Shared → Prop} (hu : X.A.units + 65 < cLine) (I : Inv X pins σ H s) (g : DPutU H D y v H') (ry : RelV y u) (rv : RelV v r)
    (h : ∀ s', Inv X pins σ H' s' → Q () s') : wpAny (model X.prog X.w) X.A (dictSet D u r) Q E s := by
  have tupled : ∀ {H : Hp} {s : Shared} {kvs : List (List Key × V)} {k : List Key} {b : Addr} {Q : Unit → Shared → Prop}, Inv X pins σ H s → H D = some (.dT kvs) → y = .ref b → H b = some (.tup (k.map kV)) → kvs.length < sizeLine →
      (∀ s', Inv X pins σ (upd H D (.dT (putK kvs k v))) s' → Q () s') → wpAny (model X.prog X.w) X.A (dictSet D u r) Q E s := by
    intro H s kvs k b Q I e ey eb l h
    subst ey
    cases ry
    obtain ⟨z, lo, xs, rel, dd⟩ := dt_of I.hok e
    have hz : xs.length ≤ sizeLine := by rw [← Paired.length rel]; exact z
    have hl : (putK kvs k v).length ≤ sizeLine := by have := length_putK kvs k v; omega
    refine wpAny_dictSet_heap (hsz := hz) (show (tupleKind (mixKind X.prog X.w)).room X.A from (by show X.A.units < cLine; omega)) (key_of I.hok eb) dd fun h' dd' hs => h _ ?_
    obtain ⟨q, es, ep, hq, h2, h3, h4, _, h5⟩ := dd'
    refine d_write I (by rw [e]; exact True.intro) hs ⟨q, hq⟩ ⟨hl, lo, _, (rel.put k eb rv).keeps fun c ys ec => ?_, q, es, ep, hq, h2, h3, h4, h5⟩
    rw [upd_ne (ne_of ec e (fun z => nomatch z))]
    exact ec
  rcases g with (⟨kvs, k, e, ey, l, eH⟩ | ⟨kvs, k, b, e, ey, eb, l, eH⟩) | ⟨k, b, e, ey, eb, eH⟩
  · subst ey eH
    exact d_dictSet I e l ry rv h
  · subst eH
    exact tupled I e ey eb l h
  · have hb : b ≠ D := fun z => by rw [z, e] at eb; cases eb
    refine tupled (as_dT I e) upd_same ey (by rw [upd_ne hb]; exact eb) (by show 0 < sizeLine; decide) fun s' I' => h s' ?_
    rw [upd_upd] at I'
    rw [eH]; exact I'
theorem one_ok {X : Cx} {e kx vx : Expr} {dp : Nat} {it : Value} {D : Addr} {tk tv : TE} {vs : List Nat} (hxe : X.xe = fun _ _ => False) (hu : X.A.units + 65 < cLine) (pk : PE X kx tk) (pv' : PE X vx tv) (pins : List (Addr × Obj)) (s : Shared) (σ2 : St) (H : Hp) (Nx : Hp → Prop) (P : Shared → Prop)
    (I : Inv X pins σ2 H s) (ht : tKv tk tv D σ2 H Nx) (hP : ∀ (σ3 : St) (H' : Hp) (s' : Shared), Inv X pins σ3 H' s' → (wipe σ2 vs).length = σ3.length → (∀ (j : Nat) v, (wipe σ2 vs)[j]? = some (some v) → σ3[j]? = some (some v)) → Nx H' → P s') :
    wpAny (model X.prog X.w) X.A (kOne e kx vx dp it D X.env) (fun f s' => f = .again (.compLoop e dp it (.ref D) X.env) ∧ P s') (fun _ _ => False) s := by
  unfold kOne
  have pkr := pk.run _ s σ2 H _ I ht
  rw [hxe] at pkr
  refine wpAny_bind (wpAny_bind (thnF pkr fun kv sa ⟨y, Ha, Ia, ra, qa⟩ => ?_))
  have pvr := pv'.run _ sa σ2 Ha _ Ia qa
  rw [hxe] at pvr
  refine wpAny_bind (wpAny_holding (thnF pvr fun vv sb ⟨z, Hb, Ib, rb, H6, g, nx⟩ => ?_))
  refine wpAny_bind (wpAny_standAt (wpAny_holding (dU_set hu Ib g ra rb fun sc Ic => wpAny_pure ⟨rfl, ?_⟩)))
  exact hP σ2 H6 sc Ic (by rw [wipe_length]) (fun j v ev => (wipe_some ev).1) nx
end
end MM
namespace MM
open PySem PySem.Spec PyProof.Rows L2
/-- the dict of a comprehension -/
def tDcu (wi : TI) (g : TG) (tt : TT) (tb : TBd) (vs : List Nat) : TE := fun σ H Q => wi σ H fun J H1 => ∀ D, H1 D = none → tLoop J D σ vs g tt tb (fun H => Q (.ref D) H) (upd H1 D (.dK []))
/-- what is done where the tests of the first clause are passed -/
structure BodyK (X : Cx) (e tg iter : Expr) (ifs : List Expr) (it : Value) (D : Addr) (tb : TBd) (vs : List Nat) (kT : Sem Fin) : Prop where
  q : (Code.compLoop e 0 it (.ref D) X.env).quiet = true
  d : (model X.prog X.w).den (.compLoop e 0 it (.ref D) X.env) = (turnK 0 e tg iter ifs it (.ref D) X.env kT).onRaise (fun x => do noteFrame x X.env; theTreesLotGoes x)
  u : X.A.under (.compLoop e 0 it (.ref D) X.env) = X.A
  b : ∀ (pins : List (Addr × Obj)) (s : Shared) (σ2 : St) (H : Hp) (Nx : Hp → Prop) (P : Shared → Prop), Inv X pins σ2 H s → tb D σ2 H Nx →
      (∀ (σ3 : St) (H' : Hp) (s' : Shared), Inv X pins σ3 H' s' → (wipe σ2 vs).length = σ3.length → (∀ (j : Nat) v, (wipe σ2 vs)[j]? = some (some v) → σ3[j]? = some (some v)) → Nx H' → P s') →
      wpAny (model X.prog X.w) X.A kT (fun f s' => f = .again (.compLoop e 0 it (.ref D) X.env) ∧ P s') (fun _ _ => False) s
section
variable {X : Cx}
theorem dcu_core {pins : List (Addr × Obj)} {s : Shared} {σ : St} {H : Hp} {Q : VK} {kx vx tg iter : Expr} {ifs : List Expr} {rest : List Comprehension} {scope : Scope} {own : List (Str × Nat)} {pos pos' : Pos} {wi : TI} {g : TG} {tt : TT} {tb : TBd} {use : Option (Value → Sem Unit)} {Qf : Value → Shared → Prop}
    (hc : X.calm = true) (hN : X.N.Nodup) (I : Inv X pins σ H s) (hi : PI X tg iter wi) (ok : BlkOk X.N X.env.scope scope own)
    (hg : ∀ (t : Shared) (F : Hp) (B : Addr) (cl : List (Str × Addr)) (fp : List Addr), PG (X.blk t F scope (compEnvC scope cl B X.env) fp) tg g)
    (ht : ∀ (t : Shared) (F : Hp) (B : Addr) (cl : List (Str × Addr)) (fp : List Addr), PTs (X.blk t F scope (compEnvC scope cl B X.env) fp) ifs tt)
    (hb : ∀ (t : Shared) (F : Hp) (B : Addr) (cl : List (Str × Addr)) (fp : List Addr) (it : Value) (D : Addr), ∃ kT, BodyK (X.blk t F scope (compEnvC scope cl B X.env) fp) (.DictComp kx vx (⟨tg, iter, ifs, 0⟩ :: rest) scope pos) tg iter ifs it D tb (own.map (·.2)) kT)
    (hs : ∀ x, foldedSetIterable iter X.env x = pure x) (h : tDcu wi g tt tb (own.map (·.2)) σ H Q)
    (hE : ∀ D B s' m H', Inv X pins σ H' s' → Q (.ref D) H' → s'.heap.Ns B m → FpOk X pins H' B → compPost (model X.prog X.w) X.A X.xe use Qf (.ref D) B (.ok .next) s') :
    wpAny (model X.prog X.w) X.A (comprehension (.DictComp kx vx (⟨tg, iter, ifs, 0⟩ :: rest) scope pos) scope X.env pos' newDict false (eval iter X.env) use) Qf X.xe s := by
  have frees : ∀ y ∈ scope.names, y.2 = .free → ∃ c, X.env.cells.lookup y.1 = some c := by
    intro y hy e
    rcases ok.free y hy e with q | q
    · exact I.ok.has _ (.inl q)
    · exact I.ok.has _ (.inr q)
  refine wpAny_comprehension_free (use := use) rfl hs (closure_ok frees) ok.kind (fun y hy e => by rw [ok.uniq y hy, e]) ?_
  refine thn (hi.run pins s σ H _ I h) fun xv sa hx => thn hx fun itv sb hb2 => ?_
  obtain ⟨it, fp, tn, J, Hb, rfl, Ib, T, stb, fb, loop⟩ := hb2
  refine wpAny_newObj_type (newEnv_comp ?_)
  generalize eD : sb.heap.objs.size = D
  have nD : Hb D = none := Ib.hok.fresh (Nat.le_of_eq eD)
  have loop := loop D nD
  -- the new dict
  generalize es : ({ sb with heap := sb.heap.push { cls := .type "dict", data := .dict #[] } } : Shared) = sc
  have hsc : sc.heap = sb.heap.push { cls := .type "dict", data := .dict #[] } := by rw [← es]
  have Ic : Inv X pins σ (upd Hb D (.dK [])) sc := by
    rw [← es]
    refine Ib.laid (t' := sb.toks) (fun b o q => Heap.get?_push_of_some _ q) (Nat.le_of_eq eD) ?_
    rw [← eD]
    exact dk_empty sb.heap Ib.big
  have below : ∀ b ∈ fp, b < sb.heap.objs.size := by
    intro b hb'
    obtain ⟨o, q, _⟩ := T.obj _ _ stb b hb'
    exact Heap.lt_size q
  have fc : ∀ b ∈ fp, FpOk X pins (upd Hb D (.dK [])) b ∧ b < sc.heap.objs.size := by
    intro b hb'
    have lt := below b hb'
    refine ⟨⟨?_, (fb b hb').2⟩, by rw [hsc, Heap.size_push]; exact Nat.lt_succ_of_lt lt⟩
    rw [upd_ne (fun z => Nat.lt_irrefl D (by rw [z, eD] at lt; exact lt))]
    exact (fb b hb').1
  have stc : tn 0 sc.heap := T.keep _ _ _ stb fun b _ o q => by rw [hsc]; exact Heap.get?_push_of_some _ q
  have Id := block_start Ic ok hN fc
  obtain ⟨kT, K⟩ := hb sc (upd Hb D (.dK [])) sc.heap.objs.size (cellsFrom (sc.heap.objs.size + 1) scope.names (cloFrom X.env.cells scope.names [])) fp (.ref it) D
  have pg := hg sc (upd Hb D (.dK [])) sc.heap.objs.size (cellsFrom (sc.heap.objs.size + 1) scope.names (cloFrom X.env.cells scope.names [])) fp
  have pt := ht sc (upd Hb D (.dK [])) sc.heap.objs.size (cellsFrom (sc.heap.objs.size + 1) scope.names (cloFrom X.env.cells scope.names [])) fp
  show codeAny _ _ (.compStart (.DictComp kx vx (⟨tg, iter, ifs, 0⟩ :: rest) scope pos) 0 (.ref it) (.ref D) (compEnvC scope (cellsFrom (sc.heap.objs.size + 1) scope.names (cloFrom X.env.cells scope.names [])) sc.heap.objs.size X.env))
    (compPost (model X.prog X.w) X.A X.xe use Qf (.ref D) sc.heap.objs.size) { sc with heap := pushCells (sc.heap.push { cls := .type "dict", data := .dict #[] }) scope.names }
  generalize ece : compEnvC scope (cellsFrom (sc.heap.objs.size + 1) scope.names (cloFrom X.env.cells scope.names [])) sc.heap.objs.size X.env = ce at Id K pg pt ⊢
  have eL : ce.locals = sc.heap.objs.size := by rw [← ece]; rfl
  generalize esd : ({ sc with heap := pushCells (sc.heap.push { cls := .type "dict", data := .dict #[] }) scope.names } : Shared) = sd at Id ⊢
  have std : tn 0 sd.heap := T.keep _ _ _ stc fun b _ o q => by rw [← esd]; exact pushCells_keeps _ _ _ _ (Heap.get?_push_of_some _ q)
  have fd : ∀ b ∈ fp, FpOk (X.blk sc (upd Hb D (.dK [])) scope ce fp) [] (upd Hb D (.dK [])) b := fun b hb' =>
    ⟨(fc b hb').1.1, (Id.ok.exf b hb').1, Id.ok.exfs b hb', .inl hb', fun x c q => (Id.ok.exf b hb').2 x c q, fun p hp => absurd (show p ∈ ([] : List (Addr × Obj)) ++ [] from hp) (by simp)⟩
  have turns : codeAny (model X.prog X.w) X.A (.compLoop (.DictComp kx vx (⟨tg, iter, ifs, 0⟩ :: rest) scope pos) 0 (.ref it) (.ref D) ce) (compPost (model X.prog X.w) X.A X.xe use Qf (.ref D) sc.heap.objs.size) sd := by
    refine run_loop (X := X.blk sc (upd Hb D (.dK [])) scope ce fp) hc rfl T K.q K.d K.u pg pt K.b loop Id std fd _ fun He se Ie qe => ?_
    have If : Inv X pins σ He se := Ic.call' (ch := fp) Ie.os Ie.base Ie.hok Ie.bare fun b hb' => ⟨(fc b hb').1.2.2.2.1, (fc b hb').1.2.1, (fc b hb').1.2.2.2.2.1, (fc b hb').1.2.2.2.2.2⟩
    have nB : He sc.heap.objs.size = none := by
      have z : He ce.locals = none := Ie.free
      rwa [eL] at z
    obtain ⟨m, hn, _⟩ := Ie.loc
    have hn : se.heap.Ns ce.locals m := hn
    rw [eL] at hn
    exact hE D sc.heap.objs.size se m He If qe hn (Ic.fpOk (Nat.le_refl _) nB)
  exact codeAny_compStart_dict turns (T.self X.A 0 _ _ _ std turns)
/-- as a value -/
theorem pe_dcu {kx vx tg iter : Expr} {ifs : List Expr} {rest : List Comprehension} {scope : Scope} {own : List (Str × Nat)} {pos : Pos} {wi : TI} {g : TG} {tt : TT} {tb : TBd} (hc : X.calm = true) (hN : X.N.Nodup) (hi : PI X tg iter wi) (ok : BlkOk X.N X.env.scope scope own)
    (hg : ∀ (t : Shared) (F : Hp) (B : Addr) (cl : List (Str × Addr)) (fp : List Addr), PG (X.blk t F scope (compEnvC scope cl B X.env) fp) tg g)
    (ht : ∀ (t : Shared) (F : Hp) (B : Addr) (cl : List (Str × Addr)) (fp : List Addr), PTs (X.blk t F scope (compEnvC scope cl B X.env) fp) ifs tt)
    (hb : ∀ (t : Shared) (F : Hp) (B : Addr) (cl : List (Str × Addr)) (fp : List Addr) (it : Value) (D : Addr), ∃ kT, BodyK (X.blk t F scope (compEnvC scope cl B X.env) fp) (.DictComp kx vx (⟨tg, iter, ifs, 0⟩ :: rest) scope pos) tg iter ifs it D tb (own.map (·.2)) kT)
    (hs : ∀ x, foldedSetIterable iter X.env x = pure x) : PE X (.DictComp kx vx (⟨tg, iter, ifs, 0⟩ :: rest) scope pos) (tDcu wi g tt tb (own.map (·.2))) := by
  constructor
  intro pins s σ H Q I h
  rw [arm_eval_DictComp]
  refine dcu_core hc hN I hi ok hg ht hb hs h fun D B s' m H' I' q hn f => ⟨m, hn, fun h2 sb => ?_⟩
  obtain ⟨f0, f1, f2, f3, f4, f5⟩ := f
  exact ⟨.ref D, H', I'.turned (t' := s'.toks) (fun b o hb' e => (sb.2 b hb').trans e) f0 f1 f3 f4 f5, rfl, q⟩
/-- of one clause -/
theorem body1 {kx vx tg iter : Expr} {ifs : List Expr} {scope : Scope} {pos : Pos} {it : Value} {D : Addr} {tk tv : TE} {vs : List Nat} (hxe : X.xe = fun _ _ => False) (hu : X.A.units + 65 < cLine) (pk : PE X kx tk) (pv' : PE X vx tv) :
    BodyK X (.DictComp kx vx [⟨tg, iter, ifs, 0⟩] scope pos) tg iter ifs it D (tKv tk tv) vs (kOne (.DictComp kx vx [⟨tg, iter, ifs, 0⟩] scope pos) kx vx 0 it D X.env) where
  q := rfl
  d := by rfl
  u := rfl
  b := one_ok hxe hu pk pv'
/-- the second clause's own turns -/
def kTwo (e i1 : Expr) (it : Value) (D : Addr) (env : Env) : Sem Fin := eval i1 env >>= fun x => standAt i1.pos >>= fun _ => foldedSetIterable i1 env x >>= fun x => holding [x] (pyIter x) >>= fun it1 => runOwn (.compStart e 1 it1 (.ref D) env) env >>= fun _ => again (.compLoop e 0 it (.ref D) env)
theorem start1 {prog : Program} {w : World} {A : Around} {R : Result → Shared → Prop} {s : Shared} {kx vx t0 i0 t1 i1 : Expr} {ifs0 ifs1 : List Expr} {scope : Scope} {pos : Pos} {it acc : Value} {env : Env}
    (h0 : codeAny (model prog w) A (.compLoop (.DictComp kx vx [⟨t0, i0, ifs0, 0⟩, ⟨t1, i1, ifs1, 0⟩] scope pos) 1 it acc env) R s)
    (h : wpAny (model prog w) A (pyIter it) (fun it' s' => codeAny (model prog w) A (.compLoop (.DictComp kx vx [⟨t0, i0, ifs0, 0⟩, ⟨t1, i1, ifs1, 0⟩] scope pos) 1 it' acc env) R s') (notedBy (model prog w) A env fun x s' => R (.error x) s') s) :
    codeAny (model prog w) A (.compStart (.DictComp kx vx [⟨t0, i0, ifs0, 0⟩, ⟨t1, i1, ifs1, 0⟩] scope pos) 1 it acc env) R s := by
  apply codeAny_of_tree
  show wpAny _ A ((compStart (.DictComp kx vx [⟨t0, i0, ifs0, 0⟩, ⟨t1, i1, ifs1, 0⟩] scope pos) 1 it acc env).onRaise (fun x => do noteFrame x env; standAt theWindowsPlace)) _ _ s
  apply wpAny_notedAt
  unfold compStart
  show wpAny _ A (ask >>= _) _ _ s
  refine wpAny_bind (wpAny_askSetting (wpAny_ite ?_))
  split
  · first
      | exact wpAny_bind (wpAny_pure (wpAny_pure ⟨rfl, h0⟩))
      | exact wpAny_pure ⟨rfl, h0⟩
  · refine wpAny_bind (wpAny_rule ?_)
    first
      | exact wpAny_bind (wpAny_standAt (wpAny_bind (wpAny_mono h (fun it' s' h' => wpAny_pure ⟨rfl, h'⟩) fun _ _ x => x)))
      | (show wpAny _ A (standAt i1.pos >>= _) _ _ s; exact wpAny_bind (wpAny_standAt (wpAny_bind (wpAny_mono h (fun it' s' h' => wpAny_pure ⟨rfl, h'⟩) fun _ _ x => x))))
theorem body2 {kx vx tg iter tg1 i1 : Expr} {ifs ifs1 : List Expr} {scope : Scope} {pos : Pos} {it : Value} {D : Addr} {wi1 : TI} {g1 : TG} {tt1 : TT} {tk tv : TE} {vs vs1 : List Nat} (hc : X.calm = true) (hxe : X.xe = fun _ _ => False) (hu : X.A.units + 65 < cLine) (h1 : ∀ i ∈ vs1, i ∈ vs)
    (pi1 : PI X tg1 i1 wi1) (pg1 : PG X tg1 g1) (pt1 : PTs X ifs1 tt1) (pk : PE X kx tk) (pv' : PE X vx tv) (hs1 : ∀ x, foldedSetIterable i1 X.env x = pure x) :
    BodyK X (.DictComp kx vx [⟨tg, iter, ifs, 0⟩, ⟨tg1, i1, ifs1, 0⟩] scope pos) tg iter ifs it D (tIn wi1 g1 tt1 (tKv tk tv) vs1) vs (kTwo (.DictComp kx vx [⟨tg, iter, ifs, 0⟩, ⟨tg1, i1, ifs1, 0⟩] scope pos) i1 it D X.env) where
  q := rfl
  d := by rfl
  u := rfl
  b := by
    intro pins s σ2 H Nx P I ht hP
    unfold kTwo
    have r1 := pi1.run pins s σ2 H _ I ht
    rw [hxe] at r1
    refine wpAny_bind (thnF r1 fun x sa ha => ?_)
    refine wpAny_bind (wpAny_standAt (wpAny_bind (wpAny_of_eq (hs1 x) (wpAny_bind (wpAny_holding (thnF ha fun itv sb hb => ?_))))))
    obtain ⟨it1, fp1, tn1, J1, Hb, rfl, Ib, T1, stb, fb, loop⟩ := hb
    refine wpAny_bind (wpAny_runOwn ?_)
    rw [Around.mark_none]
    have turns : codeAny (model X.prog X.w) X.A (.compLoop (.DictComp kx vx [⟨tg, iter, ifs, 0⟩, ⟨tg1, i1, ifs1, 0⟩] scope pos) 1 (.ref it1) (.ref D) X.env) (fun r s' => match r with
        | .ok _ => P s'
        | .error _ => False) sb := by
      refine run_loop (X := X) (dp := 1) (kT := kOne (.DictComp kx vx [⟨tg, iter, ifs, 0⟩, ⟨tg1, i1, ifs1, 0⟩] scope pos) kx vx 1 (.ref it1) D X.env) (vs := vs1) (σ := σ2) hc hxe T1 rfl (by rfl) rfl pg1 pt1 (one_ok hxe hu pk pv') loop (Ib.weak (wipe_length _ _) (fun j v e => (wipe_some e).1)) stb fb _ fun He se Ie qe => ?_
      refine hP (wipe σ2 vs1) He se Ie (by rw [wipe_length, wipe_length]) (fun j v e => ?_) qe
      obtain ⟨e1, e2⟩ := wipe_some e
      rw [wipe_out fun z => e2 (h1 j z)]
      exact e1
    refine codeAny_mono (start1 turns (T1.self X.A 0 _ _ _ stb turns)) fun r s' hr => ?_
    cases r with
    | ok f => exact wpAny_pure ⟨rfl, hr⟩
    | error x => exact hr.elim
end
end MM
namespace MM
open PySem PySem.Spec PyProof.Rows L2
section
variable {C : Mc} {W : WX} {Gc F H : Hp} {ps : Ps} {σ : St}
/-- the end of a comprehension's own turns -/
theorem end_ok {vs : List Nat} {Dl : Addr} {sl : Sl} {ps2 : Ps} {σ' : St} {o : HO} (gD : Gc Dl = none) (ew : wipe σ' vs = wipe σ vs) (R : Rel C (upd Gc Dl o) F H ps2 σ') : Rel C Gc F H (wipeP ps2 vs) σ ∧ Loose C Gc F H (wipeP ps2 vs) σ Dl o := by
  have z := R.wipeP vs
  rw [ew] at z
  exact z.unwipe.outG gD
theorem comp2_ok {mi mi1 : MA} {g g1 : MG} {mt mt1 : MT} {me : ME} {vs vs1 ts ts1 : List Nat} (hv : ∀ t ∈ ts, t ∈ vs) (hv1 : ∀ t ∈ ts1, t ∈ vs1) (h1 : ∀ i ∈ vs1, i ∈ vs) {Q : VK} (h : tF C W (mComp2 mi g mt mi1 g1 mt1 me vs vs1) σ H Q) :
    tLc2 (tI C W mi) (tG C ts g) (tT C W0 mt) (tI C W0 mi1) (tG C ts1 g1) (tT C W0 mt1) (tE C W0 me) vs vs1 σ H Q := by
  obtain ⟨Gc, F, ps, R, q⟩ := h
  refine seqI qF.mono R q fun ds ps1 J F1 H1 s1 R1 it q1 => ?_
  intro Dl nD
  have gD : Gc Dl = none := R1.gh.free nD
  have R2 : Rel C (upd Gc Dl (.lst [])) F1 (upd H1 Dl (.lst [])) (wipeP ps1 vs) (wipe σ vs) := ((R1.fresh nD).inG (R1.loose nD)).wipeP vs
  refine loop_ok (tb := tIn (tI C W0 mi1) (tG C ts1 g1) (tT C W0 mt1) (tApp (tE C W0 me)) vs1) (o := .lst []) (sl := .ml []) hv (in_ok hv1 h1 app_bd) it gD R2 ⟨[], rfl, .nil⟩ ?_
  cases e : mLp g mt (mIn mi1 g1 mt1 (mApp me) vs1) vs ds (.ml []) (wipeP ps1 vs) with
  | bad => rw [e] at q1; exact q1.elim
  | exc _ _ => rw [e] at q1; exact q1.elim
  | ok sl ps2 =>
    rw [e] at q1
    intro σ' F' H' o ew s' R' gr
    cases sl with
    | ml ys =>
      obtain ⟨xs, rfl, r⟩ := gr
      obtain ⟨R5, l5⟩ := end_ok (sl := .ml ys) gD ew R'
      exact q1 Dl xs F' H' s' R5 l5 r
    | _ => exact q1.elim
variable {X : Cx} {e : Expr} {pos : Pos}
theorem xlc2 {elt tg iter tg1 iter1 : Expr} {ifs ifs1 : List Expr} {scope : Scope} {own : List (Str × Nat)} {mi mi1 : MA} {g g1 : MG} {mt mt1 : MT} {me : ME} {ts ts1 vs1 : List Nat} (hv : ∀ t ∈ ts, t ∈ own.map (·.2)) (hv1 : ∀ t ∈ ts1, t ∈ vs1) (h1 : ∀ i ∈ vs1, i ∈ own.map (·.2)) (hc : X.calm = true) (hN : X.N.Nodup)
    (hi : PI X tg iter (tI C W mi)) (ok : BlkOk X.N X.env.scope scope own)
    (hg : ∀ (s : Shared) (H : Hp) (A : Addr) (cl : List (Str × Addr)) (fp : List Addr), PG (X.blk s H scope (compEnvC scope cl A X.env) fp) tg (tG C ts g)) (ht : ∀ (s : Shared) (H : Hp) (A : Addr) (cl : List (Str × Addr)) (fp : List Addr), PTs (X.blk s H scope (compEnvC scope cl A X.env) fp) ifs (tT C W0 mt))
    (hi1 : ∀ (s : Shared) (H : Hp) (A : Addr) (cl : List (Str × Addr)) (fp : List Addr), PI (X.blk s H scope (compEnvC scope cl A X.env) fp) tg1 iter1 (tI C W0 mi1))
    (hg1 : ∀ (s : Shared) (H : Hp) (A : Addr) (cl : List (Str × Addr)) (fp : List Addr), PG (X.blk s H scope (compEnvC scope cl A X.env) fp) tg1 (tG C ts1 g1)) (ht1 : ∀ (s : Shared) (H : Hp) (A : Addr) (cl : List (Str × Addr)) (fp : List Addr), PTs (X.blk s H scope (compEnvC scope cl A X.env) fp) ifs1 (tT C W0 mt1))
    (he : ∀ (s : Shared) (H : Hp) (A : Addr) (cl : List (Str × Addr)) (fp : List Addr), PE (X.blk s H scope (compEnvC scope cl A X.env) fp) elt (tE C W0 me)) (hs : ∀ x, foldedSetIterable iter X.env x = pure x := by intro _; rfl) (hs1 : ∀ env x, foldedSetIterable iter1 env x = pure x := by intro _ _; rfl) :
    PE X (.ListComp elt [⟨tg, iter, ifs, 0⟩, ⟨tg1, iter1, ifs1, 0⟩] scope pos) (tF C W (mComp2 mi g mt mi1 g1 mt1 me (own.map (·.2)) vs1)) :=
  pe_imp (pe_lc2 hc hN hi ok h1 hg ht hi1 hg1 ht1 he hs hs1) fun _ _ _ h => comp2_ok hv hv1 h1 h
theorem xs_ownLc2 {i : Nat} {y : Str} {py : Pos} {elt tg iter tg1 iter1 : Expr} {ifs ifs1 : List Expr} {scope : Scope} {own : List (Str × Nat)} {spos : Pos} {mi mi1 : MA} {g g1 : MG} {mt mt1 : MT} {me : ME} {ts ts1 vs1 : List Nat} (hv : ∀ t ∈ ts, t ∈ own.map (·.2)) (hv1 : ∀ t ∈ ts1, t ∈ vs1) (h1 : ∀ i ∈ vs1, i ∈ own.map (·.2))
    (hc : X.calm = true) (hN : X.N.Nodup) (hy : X.N[i]? = some y) (hyl : X.env.scope.names.lookup y = some .local)
    (hsw : swapsWith (.ListComp elt [⟨tg, iter, ifs, 0⟩, ⟨tg1, iter1, ifs1, 0⟩] scope pos) (some (.Name y py)) spos.line X.env = pure true) (hi : PI X tg iter (tI C W mi)) (ok : BlkOk X.N X.env.scope scope own)
    (hg : ∀ (s : Shared) (H : Hp) (A : Addr) (cl : List (Str × Addr)) (fp : List Addr), PG (X.blk s H scope (compEnvC scope cl A X.env) fp) tg (tG C ts g)) (ht : ∀ (s : Shared) (H : Hp) (A : Addr) (cl : List (Str × Addr)) (fp : List Addr), PTs (X.blk s H scope (compEnvC scope cl A X.env) fp) ifs (tT C W0 mt))
    (hi1 : ∀ (s : Shared) (H : Hp) (A : Addr) (cl : List (Str × Addr)) (fp : List Addr), PI (X.blk s H scope (compEnvC scope cl A X.env) fp) tg1 iter1 (tI C W0 mi1))
    (hg1 : ∀ (s : Shared) (H : Hp) (A : Addr) (cl : List (Str × Addr)) (fp : List Addr), PG (X.blk s H scope (compEnvC scope cl A X.env) fp) tg1 (tG C ts1 g1)) (ht1 : ∀ (s : Shared) (H : Hp) (A : Addr) (cl : List (Str × Addr)) (fp : List Addr), PTs (X.blk s H scope (compEnvC scope cl A X.env) fp) ifs1 (tT C W0 mt1))
    (he : ∀ (s : Shared) (H : Hp) (A : Addr) (cl : List (Str × Addr)) (fp : List Addr), PE (X.blk s H scope (compEnvC scope cl A X.env) fp) elt (tE C W0 me)) (hs : ∀ x, foldedSetIterable iter X.env x = pure x := by intro _; rfl) (hs1 : ∀ env x, foldedSetIterable iter1 env x = pure x := by intro _ _; rfl) :
    PS X (.Assign [.Name y py] (.ListComp elt [⟨tg, iter, ifs, 0⟩, ⟨tg1, iter1, ifs1, 0⟩] scope pos) spos) (tS C W (mOwn i (mComp2 mi g mt mi1 g1 mt1 me (own.map (·.2)) vs1))) :=
  ps_imp (ps_setLc2 hc hN hy hyl hsw hi ok h1 hg ht hi1 hg1 ht1 he hs hs1) fun D σ H h => own_ok (fun _ z => comp2_ok hv hv1 h1 z) h
/-! ### dicts that a comprehension makes -/
def qFu (C : Mc) (Gc : Hp) (σ : St) (Q : VK) : Sl → Ps → Hp → Prop := fun sl ps' F => ∀ p o F' H', Same F F' → Rel C Gc F' H' ps' σ → Loose C Gc F' H' ps' σ p o → GrS C F' o sl → Q (.ref p) H'
theorem qFu.mono {C : Mc} {Gc : Hp} {σ : St} {Q : VK} : Mono (qFu C Gc σ Q) := fun _ _ _ _ s h p o F' H' s' => h p o F' H' (s.trans s')
def tFu (C : Mc) (W : WX) (m : MUd) : TE := fun σ H Q => ∃ Gc F ps, Rel C Gc F H ps σ ∧ Po C W Gc σ (qFu C Gc σ Q) F (m ps)
def mDg (i : MA) (g : MG) (tt : MT) (mb : Sl → Ps → Out Sl) (vs : List Nat) : MUd := fun ps => (i ps).bind fun ds ps1 => match mLp g tt mb vs ds (.md []) (wipeP ps1 vs) with
  | .ok sl ps2 => .ok sl (wipeP ps2 vs)
  | _ => .bad
theorem dg_ok {mi : MA} {g : MG} {mt : MT} {mb : Sl → Ps → Out Sl} {tb : TBd} {vs ts : List Nat} (hv : ∀ t ∈ ts, t ∈ vs) (hb : BdOk C tb mb vs) {Q : VK} (h : tFu C W (mDg mi g mt mb vs) σ H Q) : tDcu (tI C W mi) (tG C ts g) (tT C W0 mt) tb vs σ H Q := by
  obtain ⟨Gc, F, ps, R, q⟩ := h
  refine seqI qFu.mono R q fun ds ps1 J F1 H1 s1 R1 it q1 => ?_
  intro Dl nD
  have gD : Gc Dl = none := R1.gh.free nD
  have R2 : Rel C (upd Gc Dl (.dK [])) F1 (upd H1 Dl (.dK [])) (wipeP ps1 vs) (wipe σ vs) := ((R1.fresh nD).inG (R1.loose nD)).wipeP vs
  refine loop_ok (o := .dK []) (sl := .md []) hv hb it gD R2 ⟨[], rfl, .nil, rfl⟩ ?_
  cases e : mLp g mt mb vs ds (.md []) (wipeP ps1 vs) with
  | bad => rw [e] at q1; exact q1.elim
  | exc _ _ => rw [e] at q1; exact q1.elim
  | ok sl ps2 =>
    rw [e] at q1
    intro σ' F' H' o ew s' R' gr
    obtain ⟨R5, l5⟩ := end_ok (sl := sl) gD ew R'
    exact q1 Dl o F' H' s' R5 l5 gr
/-- name = a new dict, to be our own -/
def mOwnU (i : Nat) (m : MUd) : MS := fun ps => (m ps).bindS fun sl ps1 => .next (ps1.setS i sl)
theorem ownU_ok {i : Nat} {m : MUd} {te : TE} {D : Ends} (k : ∀ Q, tFu C W m σ H Q → te σ H Q) (h : tS C W (mOwnU i m) D σ H) : tAsg te (gName i) D σ H := by
  obtain ⟨Gc, F, ps, R, q⟩ := h
  refine k _ ⟨Gc, F, ps, R, ?_⟩
  unfold mOwnU at q
  cases e : m ps with
  | bad => rw [e] at q; exact q
  | exc x ps' => rw [e] at q; exact fun F' H' c d s => q σ F' H' c d s
  | ok sl ps1 =>
    rw [e] at q
    intro p o F' H' s R1 l gr
    refine q _ F' H' s (R1.setO l ?_)
    cases sl with
    | ml acc => obtain ⟨xs, rfl, r⟩ := gr; exact ⟨p, xs, rfl, l.h, l.f, l.g, r⟩
    | md ds => obtain ⟨kvs, rfl, r, z⟩ := gr; exact ⟨p, kvs, rfl, l.h, l.f, l.g, r, z⟩
    | mt ds => obtain ⟨kvs, rfl, r, z⟩ := gr; exact ⟨p, kvs, rfl, l.h, l.f, l.g, r, z⟩
    | _ => exact gr.elim
theorem xs_ownU {i : Nat} {x : Str} {m : MUd} {pos' : Pos} (hN : X.N.Nodup) (hi : X.N[i]? = some x) (hx : Loc X.env.scope x) (he : PE X e (tFu C W m)) (hs : swapsWith e (some (.Name x pos')) pos.line X.env = pure false := by rfl) (hf : X.fn x = true ∨ X.env.scope.names.lookup x = some .local := by first | exact .inl rfl | exact .inr rfl | assumption) :
    PS X (.Assign [.Name x pos'] e pos) (tS C W (mOwnU i m)) :=
  ps_imp (ps_set hN hi hx he hs hf) fun D σ H h => ownU_ok (fun _ z => z) h
/-- the block's names are exchanged with the store's -/
theorem ps_setDcu {i : Nat} {y : Str} {py : Pos} {kx vx tg iter : Expr} {ifs : List Expr} {rest : List Comprehension} {scope : Scope} {own : List (Str × Nat)} {spos : Pos} {wi : TI} {g : TG} {tt : TT} {tb : TBd} (hc : X.calm = true) (hN : X.N.Nodup) (hy : X.N[i]? = some y) (hyl : X.env.scope.names.lookup y = some .local)
    (hsw : swapsWith (.DictComp kx vx (⟨tg, iter, ifs, 0⟩ :: rest) scope pos) (some (.Name y py)) spos.line X.env = pure true) (hi : PI X tg iter wi) (ok : BlkOk X.N X.env.scope scope own)
    (hg : ∀ (t : Shared) (F : Hp) (B : Addr) (cl : List (Str × Addr)) (fp : List Addr), PG (X.blk t F scope (compEnvC scope cl B X.env) fp) tg g)
    (ht : ∀ (t : Shared) (F : Hp) (B : Addr) (cl : List (Str × Addr)) (fp : List Addr), PTs (X.blk t F scope (compEnvC scope cl B X.env) fp) ifs tt)
    (hb : ∀ (t : Shared) (F : Hp) (B : Addr) (cl : List (Str × Addr)) (fp : List Addr) (it : Value) (D : Addr), ∃ kT, BodyK (X.blk t F scope (compEnvC scope cl B X.env) fp) (.DictComp kx vx (⟨tg, iter, ifs, 0⟩ :: rest) scope pos) tg iter ifs it D tb (own.map (·.2)) kT)
    (hs : ∀ x, foldedSetIterable iter X.env x = pure x) : PS X (.Assign [.Name y py] (.DictComp kx vx (⟨tg, iter, ifs, 0⟩ :: rest) scope pos) spos) (tAsg (tDcu wi g tt tb (own.map (·.2))) (gName i)) := by
  constructor
  intro pins s σ H D I h
  rw [exec_Assign_Name_used _ _ _ _ hsw]
  refine wpAny_bind (wpAny_standAt (wpAny_bind ?_))
  show wpAny _ X.A (do
    let _ ← comprehension (.DictComp kx vx (⟨tg, iter, ifs, 0⟩ :: rest) scope pos) scope X.env (firstIterPos (⟨tg, iter, ifs, 0⟩ :: rest) pos) newDict false (eval iter X.env) (some (assign (.Name y py) X.env))) _ _ s
  have h : tDcu wi g tt tb (own.map (·.2)) σ H (fun x H1 => gName i x σ H1 D.nx) := h
  refine wpAny_bind (thn (dcu_core (Qf := fun _ t => SP X pins D .next t) hc hN I hi ok hg ht hb hs h fun L B t m H' J q hn f => ?_) fun _ t hq => wpAny_pure (wpAny_pure hq))
  obtain ⟨f0, f1, f2, f3, f4, f5⟩ := f
  show wpAny _ _ (assign (.Name y py) X.env (.ref L)) _ _ _
  refine wpAny_assign_Name (store_ok2 (v := V.ref L) J hN hy (.inl hyl) rfl (fun t2 J2 ⟨a, sb, ha⟩ => ?_) (.inr hyl))
  have ne : B ≠ a := by
    rcases ha with z | z
    · subst z; exact f1
    · exact fun z2 => f4 y a z z2.symm
  refine ⟨m, hn.sameBut sb ne, fun h3 sb3 => ⟨_, H', ?_, q⟩⟩
  exact J2.turned (t' := t2.toks) (fun b o hb' e => (sb3.2 b hb').trans e) f0 f1 f3 f4 f5
theorem sw_trueD {kx vx : Expr} {gs : List Comprehension} {scope : Scope} {pos py : Pos} {y : Str} {l : Nat} {env : Env} (hk : env.scope.kind = .function) (hy : env.scope.names.lookup y = some .local) (hl : (py.line == pos.line) = true)
    (ha : (scope.names.any fun (n, k) => n == y && (k == .local || k == .cell)) = false) : swapsWith (.DictComp kx vx gs scope pos) (some (.Name y py)) l env = pure true := by
  have kf : env.blockKind = .function := by
    unfold Env.blockKind
    rw [hk]; rfl
  have kn : env.kindOf y = some .local := hy
  unfold swapsWith
  simp only [kf, kn, ha, Expr.pos, hl]
  rfl
end
end MM
namespace MM
open PySem PySem.Spec PyProof.Rows L2
section
variable {C : Mc} {W : WX} {X : Cx} {e : Expr} {pos : Pos}
/-- {k: v for ..} -/
theorem xdc1 {kx vx tg iter : Expr} {ifs : List Expr} {scope : Scope} {own : List (Str × Nat)} {mi : MA} {g : MG} {mt : MT} {mk mv : ME} {ts : List Nat} (hu : X.A.units + 65 < cLine) (hv : ∀ t ∈ ts, t ∈ own.map (·.2)) (hc : X.calm = true) (hN : X.N.Nodup) (hi : PI X tg iter (tI C W mi)) (ok : BlkOk X.N X.env.scope scope own)
    (hg : ∀ (t : Shared) (F : Hp) (B : Addr) (cl : List (Str × Addr)) (fp : List Addr), PG (X.blk t F scope (compEnvC scope cl B X.env) fp) tg (tG C ts g)) (ht : ∀ (t : Shared) (F : Hp) (B : Addr) (cl : List (Str × Addr)) (fp : List Addr), PTs (X.blk t F scope (compEnvC scope cl B X.env) fp) ifs (tT C W0 mt))
    (hk : ∀ (t : Shared) (F : Hp) (B : Addr) (cl : List (Str × Addr)) (fp : List Addr), PE (X.blk t F scope (compEnvC scope cl B X.env) fp) kx (tE C W0 mk)) (hv2 : ∀ (t : Shared) (F : Hp) (B : Addr) (cl : List (Str × Addr)) (fp : List Addr), PE (X.blk t F scope (compEnvC scope cl B X.env) fp) vx (tE C W0 mv))
    (hs : ∀ x, foldedSetIterable iter X.env x = pure x := by intro _; rfl) : PE X (.DictComp kx vx [⟨tg, iter, ifs, 0⟩] scope pos) (tFu C W (mDg mi g mt (mKv mk mv) (own.map (·.2)))) :=
  pe_imp (pe_dcu hc hN hi ok hg ht (fun t F B cl fp it D => ⟨_, body1 rfl hu (hk t F B cl fp) (hv2 t F B cl fp)⟩) hs) fun _ _ _ h => dg_ok hv kv_bd h
theorem xs_ownDc1 {i : Nat} {y : Str} {py : Pos} {spos : Pos} {kx vx tg iter : Expr} {ifs : List Expr} {scope : Scope} {own : List (Str × Nat)} {mi : MA} {g : MG} {mt : MT} {mk mv : ME} {ts : List Nat} (hu : X.A.units + 65 < cLine) (hv : ∀ t ∈ ts, t ∈ own.map (·.2)) (hc : X.calm = true) (hN : X.N.Nodup) (hy : X.N[i]? = some y) (hyl : X.env.scope.names.lookup y = some .local)
    (hsw : swapsWith (.DictComp kx vx [⟨tg, iter, ifs, 0⟩] scope pos) (some (.Name y py)) spos.line X.env = pure true) (hi : PI X tg iter (tI C W mi)) (ok : BlkOk X.N X.env.scope scope own)
    (hg : ∀ (t : Shared) (F : Hp) (B : Addr) (cl : List (Str × Addr)) (fp : List Addr), PG (X.blk t F scope (compEnvC scope cl B X.env) fp) tg (tG C ts g)) (ht : ∀ (t : Shared) (F : Hp) (B : Addr) (cl : List (Str × Addr)) (fp : List Addr), PTs (X.blk t F scope (compEnvC scope cl B X.env) fp) ifs (tT C W0 mt))
    (hk : ∀ (t : Shared) (F : Hp) (B : Addr) (cl : List (Str × Addr)) (fp : List Addr), PE (X.blk t F scope (compEnvC scope cl B X.env) fp) kx (tE C W0 mk)) (hv2 : ∀ (t : Shared) (F : Hp) (B : Addr) (cl : List (Str × Addr)) (fp : List Addr), PE (X.blk t F scope (compEnvC scope cl B X.env) fp) vx (tE C W0 mv))
    (hs : ∀ x, foldedSetIterable iter X.env x = pure x := by intro _; rfl) : PS X (.Assign [.Name y py] (.DictComp kx vx [⟨tg, iter, ifs, 0⟩] scope pos) spos) (tS C W (mOwnU i (mDg mi g mt (mKv mk mv) (own.map (·.2))))) :=
  ps_imp (ps_setDcu hc hN hy hyl hsw hi ok hg ht (fun t F B cl fp it D => ⟨_, body1 rfl hu (hk t F B cl fp) (hv2 t F B cl fp)⟩) hs) fun D σ H h => ownU_ok (fun _ z => dg_ok hv kv_bd z) h
/-- {k: v for .. for ..} -/
theorem xdc2 {kx vx tg iter tg1 iter1 : Expr} {ifs ifs1 : List Expr} {scope : Scope} {own : List (Str × Nat)} {mi mi1 : MA} {g g1 : MG} {mt mt1 : MT} {mk mv : ME} {ts ts1 vs1 : List Nat} (hu : X.A.units + 65 < cLine) (hv : ∀ t ∈ ts, t ∈ own.map (·.2)) (hv1 : ∀ t ∈ ts1, t ∈ vs1) (h1 : ∀ i ∈ vs1, i ∈ own.map (·.2)) (hc : X.calm = true) (hN : X.N.Nodup) (hi : PI X tg iter (tI C W mi)) (ok : BlkOk X.N X.env.scope scope own)
    (hg : ∀ (t : Shared) (F : Hp) (B : Addr) (cl : List (Str × Addr)) (fp : List Addr), PG (X.blk t F scope (compEnvC scope cl B X.env) fp) tg (tG C ts g)) (ht : ∀ (t : Shared) (F : Hp) (B : Addr) (cl : List (Str × Addr)) (fp : List Addr), PTs (X.blk t F scope (compEnvC scope cl B X.env) fp) ifs (tT C W0 mt))
    (hi1 : ∀ (t : Shared) (F : Hp) (B : Addr) (cl : List (Str × Addr)) (fp : List Addr), PI (X.blk t F scope (compEnvC scope cl B X.env) fp) tg1 iter1 (tI C W0 mi1))
    (hg1 : ∀ (t : Shared) (F : Hp) (B : Addr) (cl : List (Str × Addr)) (fp : List Addr), PG (X.blk t F scope (compEnvC scope cl B X.env) fp) tg1 (tG C ts1 g1)) (ht1 : ∀ (t : Shared) (F : Hp) (B : Addr) (cl : List (Str × Addr)) (fp : List Addr), PTs (X.blk t F scope (compEnvC scope cl B X.env) fp) ifs1 (tT C W0 mt1))
    (hk : ∀ (t : Shared) (F : Hp) (B : Addr) (cl : List (Str × Addr)) (fp : List Addr), PE (X.blk t F scope (compEnvC scope cl B X.env) fp) kx (tE C W0 mk)) (hv2 : ∀ (t : Shared) (F : Hp) (B : Addr) (cl : List (Str × Addr)) (fp : List Addr), PE (X.blk t F scope (compEnvC scope cl B X.env) fp) vx (tE C W0 mv))
    (hs : ∀ x, foldedSetIterable iter X.env x = pure x := by intro _; rfl) (hs1 : ∀ env x, foldedSetIterable iter1 env x = pure x := by intro _ _; rfl) : PE X (.DictComp kx vx [⟨tg, iter, ifs, 0⟩, ⟨tg1, iter1, ifs1, 0⟩] scope pos) (tFu C W (mDg mi g mt (mIn mi1 g1 mt1 (mKv mk mv) vs1) (own.map (·.2)))) :=
  pe_imp (pe_dcu hc hN hi ok hg ht (fun t F B cl fp it D => ⟨_, body2 hc rfl hu h1 (hi1 t F B cl fp) (hg1 t F B cl fp) (ht1 t F B cl fp) (hk t F B cl fp) (hv2 t F B cl fp) (hs1 _)⟩) hs) fun _ _ _ h => dg_ok hv (in_ok hv1 h1 kv_bd) h
theorem xs_ownDc2 {i : Nat} {y : Str} {py : Pos} {spos : Pos} {kx vx tg iter tg1 iter1 : Expr} {ifs ifs1 : List Expr} {scope : Scope} {own : List (Str × Nat)} {mi mi1 : MA} {g g1 : MG} {mt mt1 : MT} {mk mv : ME} {ts ts1 vs1 : List Nat} (hu : X.A.units + 65 < cLine) (hv : ∀ t ∈ ts, t ∈ own.map (·.2)) (hv1 : ∀ t ∈ ts1, t ∈ vs1) (h1 : ∀ i ∈ vs1, i ∈ own.map (·.2)) (hc : X.calm = true) (hN : X.N.Nodup) (hy : X.N[i]? = some y) (hyl : X.env.scope.names.lookup y = some .local)
    (hsw : swapsWith (.DictComp kx vx [⟨tg, iter, ifs, 0⟩, ⟨tg1, iter1, ifs1, 0⟩] scope pos) (some (.Name y py)) spos.line X.env = pure true) (hi : PI X tg iter (tI C W mi)) (ok : BlkOk X.N X.env.scope scope own)
    (hg : ∀ (t : Shared) (F : Hp) (B : Addr) (cl : List (Str × Addr)) (fp : List Addr), PG (X.blk t F scope (compEnvC scope cl B X.env) fp) tg (tG C ts g)) (ht : ∀ (t : Shared) (F : Hp) (B : Addr) (cl : List (Str × Addr)) (fp : List Addr), PTs (X.blk t F scope (compEnvC scope cl B X.env) fp) ifs (tT C W0 mt))
    (hi1 : ∀ (t : Shared) (F : Hp) (B : Addr) (cl : List (Str × Addr)) (fp : List Addr), PI (X.blk t F scope (compEnvC scope cl B X.env) fp) tg1 iter1 (tI C W0 mi1))
    (hg1 : ∀ (t : Shared) (F : Hp) (B : Addr) (cl : List (Str × Addr)) (fp : List Addr), PG (X.blk t F scope (compEnvC scope cl B X.env) fp) tg1 (tG C ts1 g1)) (ht1 : ∀ (t : Shared) (F : Hp) (B : Addr) (cl : List (Str × Addr)) (fp : List Addr), PTs (X.blk t F scope (compEnvC scope cl B X.env) fp) ifs1 (tT C W0 mt1))
    (hk : ∀ (t : Shared) (F : Hp) (B : Addr) (cl : List (Str × Addr)) (fp : List Addr), PE (X.blk t F scope (compEnvC scope cl B X.env) fp) kx (tE C W0 mk)) (hv2 : ∀ (t : Shared) (F : Hp) (B : Addr) (cl : List (Str × Addr)) (fp : List Addr), PE (X.blk t F scope (compEnvC scope cl B X.env) fp) vx (tE C W0 mv))
    (hs : ∀ x, foldedSetIterable iter X.env x = pure x := by intro _; rfl) (hs1 : ∀ env x, foldedSetIterable iter1 env x = pure x := by intro _ _; rfl) : PS X (.Assign [.Name y py] (.DictComp kx vx [⟨tg, iter, ifs, 0⟩, ⟨tg1, iter1, ifs1, 0⟩] scope pos) spos) (tS C W (mOwnU i (mDg mi g mt (mIn mi1 g1 mt1 (mKv mk mv) vs1) (own.map (·.2))))) :=
  ps_imp (ps_setDcu hc hN hy hyl hsw hi ok hg ht (fun t F B cl fp it D => ⟨_, body2 hc rfl hu h1 (hi1 t F B cl fp) (hg1 t F B cl fp) (ht1 t F B cl fp) (hk t F B cl fp) (hv2 t F B cl fp) (hs1 _)⟩) hs) fun D σ H h => ownU_ok (fun _ z => dg_ok hv (in_ok hv1 h1 kv_bd) z) h
/-! ### three names -/
def mGt (i j k : Nat) : MG := fun d ps => match d with
  | .tuple [x, y, z] => some (((ps.setS i (.fz x)).setS j (.fz y)).setS k (.fz z))
  | _ => none
theorem xg_trip {i j l : Nat} {x y z : Str} {k : Nat} {p1 p2 p3 : Pos} (hc : X.calm = true) (hK : C.K = X.K) (hN : X.N.Nodup) (hi : X.N[i]? = some x) (hj : X.N[j]? = some y) (hl : X.N[l]? = some z) (hx : Loc X.env.scope x) (hy : Loc X.env.scope y) (hz : Loc X.env.scope z)
    (h0 : (assignEach [.Name x p1, .Name y p2, .Name z p3] X.env).map (·.2) = assign (.Name x p1) X.env :: (assignEach [.Name y p2, .Name z p3] X.env).map (·.2) := by rfl) (h1 : (assignEach [.Name y p2, .Name z p3] X.env).map (·.2) = assign (.Name y p2) X.env :: (assignEach [.Name z p3] X.env).map (·.2) := by rfl) (h2 : (assignEach [.Name z p3] X.env).map (·.2) = assign (.Name z p3) X.env :: (assignEach [] X.env).map (·.2) := by rfl)
    (hn : (assignEach [.Name x p1, .Name y p2, .Name z p3] X.env).length = 3 := by rfl) (hst : (assignEach [.Name x p1, .Name y p2, .Name z p3] X.env).findIdx? (·.1) = none := by rfl)
    (hf : X.fn x = true ∨ X.env.scope.names.lookup x = some .local := by first | exact .inl rfl | exact .inr rfl | assumption) (hf2 : X.fn y = true ∨ X.env.scope.names.lookup y = some .local := by first | exact .inl rfl | exact .inr rfl | assumption) (hf3 : X.fn z = true ∨ X.env.scope.names.lookup z = some .local := by first | exact .inl rfl | exact .inr rfl | assumption) :
    PG X (.Tuple [.Name x p1, .Name y p2, .Name z p3] k pos) (tG C [i, j, l] (mGt i j l)) :=
  pg_imp (pg_tup (n := 3) hc (pgs_cons (pg_name hN hi hx hf) (pgs_cons (pg_name hN hj hy hf2) (pgs_cons (pg_name hN hl hz hf3) pgs_nil h2) h1) h0) hn hst) fun v σ H Q ⟨Gc, F, ps, d, ps', R, r, e, q⟩ => by
    unfold mGt at e
    split at e
    · cases e
      cases r with
      | tup h r =>
        cases r with
        | cons r1 r =>
          cases r with
          | cons r2 r =>
            cases r with
            | cons r3 r =>
              cases r
              refine ⟨_, _, rfl, by rw [← hK]; exact sqT_mono R.fh h, rfl, _, _, rfl, _, _, rfl, _, _, rfl, rfl, ?_⟩
              refine q _ F H (Same.refl _) (((R.set r1).set r2).set r3) fun vs hv => ?_
              rw [wipe_set (hv l (by simp)), wipe_set (hv j (by simp)), wipe_set (hv i (by simp))]
    · cases e
/-! ### name += number -/
def dAug (f : Int → Int → Int) (x y : D) : Option D := match x, y with
  | .int i, .int j => some (.int (f i j))
  | _, _ => none
def mAug (f : Int → Int → Int) (i : Nat) (a : ME) : MS := fun ps => match ps.sl[i]? with
  | some (.fz d) => (a ps).bindS fun y ps1 => match dAug f d y with
    | some z => .next (ps1.setS i (.fz z))
    | none => .bad
  | _ => .bad
theorem xs_aug {i : Nat} {x : Str} {op : Operator} {f : Int → Int → Int} {ma : ME} {pos' : Pos} (ho : PIp X op (ipI f)) (hN : X.N.Nodup) (hi : X.N[i]? = some x) (hx : Loc X.env.scope x) (he : PE X e (tE C W ma)) (hf : X.fn x = true ∨ X.env.scope.names.lookup x = some .local := by first | exact .inl rfl | exact .inr rfl | assumption) :
    PS X (.AugAssign (.Name x pos') op e pos) (tS C W (mAug f i ma)) :=
  ps_imp (ps_aug hN hi hx he ho hf) fun D σ H ⟨Gc, F, ps, R, q⟩ => by
    unfold mAug at q
    cases es : ps.sl[i]? with
    | none => rw [es] at q; exact q.elim
    | some s =>
      rw [es] at q
      cases s with
      | fz d =>
        obtain ⟨v, hv, rv⟩ := R.sl i _ es
        refine ⟨v, hv, seqES R q fun y ps1 u F1 H1 s1 R1 r1 q1 => ?_⟩
        cases ed : dAug f d y with
        | none => rw [ed] at q1; exact q1.elim
        | some z =>
          rw [ed] at q1
          unfold dAug at ed
          split at ed
          · cases ed
            cases rv
            cases r1
            exact ⟨_, _, rfl, rfl, q1 _ F1 H1 (Same.refl _) (R1.set (.int _))⟩
          · cases ed
      | _ => exact q.elim
end
end MM
namespace MM
open PySem PySem.Spec PyProof.Rows L2
section
variable {C : Mc} {W : WX} {X : Cx} {e o a b : Expr} {es : List Expr} {pos p apos cpos : Pos}
/-! ### x.extend(xs) -/
def mExtend (i : Nat) (a : ME) : ME := fun ps => match ps.sl[i]? with
  | some (.ml _) => (a ps).bind fun d ps1 => match ps1.sl[i]?, d with
    | some (.ml ds), .list es => if ds.length + es.length ≤ sizeLine then .ok .none (ps1.setS i (.ml (ds ++ es))) else .bad
    | _, _ => .bad
  | _ => .bad
theorem extend_ok {i : Nat} {ma : ME} {σ : St} {H : Hp} {Q : VK} (h : tE C W (mExtend i ma) σ H Q) : tBM X.K "list" rExtend (tVar i) (tCons (tE C W ma) tNil) σ H Q := by
  obtain ⟨Gc, F, ps, R, q⟩ := h
  unfold mExtend at q
  cases es : ps.sl[i]? with
  | none => rw [es] at q; exact q.elim
  | some s =>
    rw [es] at q
    cases s with
    | ml d0 =>
      obtain ⟨p, xs, h1, h2, _⟩ := ml_at R es
      refine ⟨.ref p, h1, .inl ⟨rfl, xs, SqL.of h2⟩, ?_⟩
      show tE C W ma σ H fun x H1 => rExtend (.ref p) [x] H1 Q
      refine seqE qE.mono R q fun d ps1 v F1 H1 s1 R1 r1 q1 => ?_
      cases es2 : ps1.sl[i]? with
      | none => rw [es2] at q1; exact q1.elim
      | some s2 =>
        rw [es2] at q1
        cases s2 with
        | ml ds =>
          cases d with
          | list ys =>
            obtain ⟨p', zs, g1, g2, g3, g4, g5⟩ := ml_at R1 es2
            rw [h1] at g1
            cases g1
            dsimp only at q1
            by_cases hl : ds.length + ys.length ≤ sizeLine
            · rw [if_pos hl] at q1
              cases r1 with
              | lst k1 k2 =>
                refine ⟨p, _, zs, _, rfl, rfl, g2, R1.fh _ _ k1, by rw [g5.length, k2.length]; exact hl, q1 _ F1 _ (Same.refl _) ?_ .non⟩
                exact R1.mutate es2 rfl h1 g3 g4 rfl ⟨p, _, rfl, upd_same, g3, g4, g5.append k2⟩
            · rw [if_neg hl] at q1; exact q1.elim
          | _ => exact q1.elim
        | _ => exact q1.elim
    | _ => exact q.elim
theorem xextend {i : Nat} {ma : ME} (ho : PE X o (tVar i)) (ha : PE X e (tE C W ma))
    (hbase : attributeBase o "extend" X.env (eval o X.env) = eval o X.env := by rfl)
    (hfew : ((backTo cpos (starEach (e :: []) X.env)).all (fun x => !x.1) && (backToKw cpos (keywordEach [] X.env)).all (fun x => x.1.isSome)
      && decide ((e :: ([] : List Expr)).length + ([] : List Keyword).length + (if ([] : List Keyword).isEmpty then 0 else 1) < 30)) = true := by rfl)
    (hline : (apos.endLine == cpos.line) = true := by rfl) (hs : starEach (e :: []) X.env = (false, eval e X.env) :: starEach [] X.env := by rfl) (hplain : (backTo cpos (starEach [] X.env)).any (·.1) = false := by rfl) :
    PE X (.Call (.Attribute o "extend" apos) [e] [] cpos) (tE C W (mExtend i ma)) :=
  pe_imp (pe_bm PySem.F.plainAttrs_list PySem.F.slot_list_extend PySem.F.type_list_extend mt_extend ho (pa_cons ha pa_nil hs) hbase hfew hline hs hplain) fun _ _ _ h => extend_ok h
/-! ### the first place in a tuple of ints -/
def dIndexT (x y : D) : Option D := match x, y with
  | .tuple ds, .int i => (intsOf ds).bind fun ns => if ns.contains i = true then some (.int (ns.idxOf i : Nat)) else none
  | _, _ => none
def rIdxT (K : PySem.W.Frag) : V → List V → Hp → VK → Prop := fun x xs H Q => ∃ (a : Addr) (ns : List Int) (i : Int), x = V.ref a ∧ xs = [.int i] ∧ SqT K H a (ns.map V.int) ∧ i ∈ ns ∧ Q (.int (ns.idxOf i : Nat)) H
theorem ints_are : ∀ {ns : List Int} {us : List Value}, Vals (ns.map V.int) us → IntsAre us ns
  | [], _, .nil => .nil
  | n :: ns, _, .cons r t => by obtain ⟨t', rfl⟩ := r; exact .cons _ _ (ints_are t)
theorem mt_idxT : MtR X "tuple.index" (rIdxT X.K) := by
  intro pins s σ H x xs v us Q I rx rxs h
  obtain ⟨a, ns, i, rfl, rfl, hs, hm, q⟩ := h
  cases rx
  cases rxs with
  | cons ry rt =>
    cases rt
    obtain ⟨t, rfl⟩ := ry
    obtain ⟨its, rv, ht, _⟩ := I.tuple hs
    exact PySem.SeqAt.tuple_index_ints ht (ints_are rv) hm ⟨.int _, H, I.tok _, ⟨_, rfl⟩, q⟩
/-! ### a dict that is walked from now on -/
def zD (kvs : List (Key × D)) : D := .dict ((.bool false, .none) :: kvs.map fun p => (kD p.1, p.2))
def mVarZ (i : Nat) : ME := fun ps => match ps.sl[i]? with
  | some (.md kvs) => .ok (zD kvs) (ps.setS i (.fz (zD kvs)))
  | _ => .bad
def tLk (i : Nat) : TE := fun σ H Q => ∃ p kvs, σ[i]? = some (some (.ref p)) ∧ H p = some (.dK kvs) ∧ ∀ od, Q (.ref p) (upd H p (.frz od (.dK kvs)))
theorem pe_lk {i : Nat} (h : PE X e (tVar i)) : PE X e (tLk i) := by
  constructor
  intro pins s σ H Q I ⟨p, kvs, h1, h2, q⟩
  refine thn (h.run pins s σ H (fun v H' => v = .ref p ∧ H' = H) I ⟨.ref p, h1, rfl, rfl⟩) fun u t ⟨v, H1, I1, r, e1, e2⟩ => ?_
  subst e1 e2
  obtain ⟨od, I2⟩ := I1.lock h2 True.intro
  exact ⟨.ref p, _, I2, r, q od⟩
theorem xvZ {i : Nat} (h : PE X e (tVar i)) : PE X e (tE C W (mVarZ i)) := pe_imp (pe_lk h) fun σ H Q ⟨Gc, F, ps, R, q⟩ => by
  unfold mVarZ at q
  cases es : ps.sl[i]? with
  | none => rw [es] at q; exact q.elim
  | some s =>
    rw [es] at q
    cases s with
    | md ds =>
      obtain ⟨p, kvs, h1, h2, h3, h4, h5, h6⟩ := md_at R es
      refine ⟨p, kvs, h1, h2, fun od => ?_⟩
      have R1 : Rel C Gc F H { ps with sl := ps.sl.set i .no } (σ.set i (some (.ref p))) := R.wipe1
      have eσ : σ.set i (some (V.ref p)) = σ := by
        apply List.ext_getElem?
        intro j
        by_cases hj : i = j
        · subst hj
          rw [h1, List.getElem?_set]
          have := (List.getElem?_eq_some_iff.mp h1).1
          simp [this]
        · rw [List.getElem?_set_ne hj]
      rw [eσ] at R1
      have ow : Own ps.sl σ i p := own_at es rfl h1
      have l : Loose C Gc F H { ps with sl := ps.sl.set i .no } σ p (.dK kvs) := ⟨h2, h3, h4, fun x hx => R.od x hx i p ow, fun j w => by
        obtain ⟨nj, w2⟩ := own_setS (s := .no) rfl w
        exact nj (R.ow j i p w2 ow)⟩
      obtain ⟨R2, l2⟩ := R1.looseSet (o' := .frz od (.dK kvs)) l
      have R3 := R2.frozen l2
      have rz : Rp C (upd F p (.frz od (.dK kvs))) (.ref p) (zD ds) := by
        refine .dz upd_same ?_ ?_
        · rw [List.map_map]
          exact h5.mono (same_alloc h3)
        · rw [List.map_map]
          have := congrArg (List.map kD) h6
          rw [List.map_map, List.map_map] at this
          exact this
      have R4 := R3.set (i := i) rz
      rw [eσ] at R4
      have e5 : ({ sl := (ps.sl.set i Sl.no).set i (.fz (zD ds)), dk := ps.dk } : Ps) = ps.setS i (.fz (zD ds)) := by
        unfold Ps.setS
        rw [List.set_set]
      have R4 : Rel C Gc (upd F p (.frz od (.dK kvs))) (upd H p (.frz od (.dK kvs))) ({ sl := (ps.sl.set i Sl.no).set i (.fz (zD ds)), dk := ps.dk } : Ps) σ := R4
      rw [e5] at R4
      exact q (.ref p) _ _ (same_alloc h3) R4 rz
    | _ => exact q.elim
/-- x[y], x such a dict -/
def dIxZ (x y : D) : Option D := match x with
  | .dict ((.bool false, .none) :: kvs) => (toKey y).bind fun k => dLook kvs k
  | _ => none
theorem zD_no {F : Hp} {v : V} {kvs : List (D × D)} (r : Rp C F v (.dict ((.bool false, .none) :: kvs))) : ∃ p o ks, v = .ref p ∧ F p = some (.frz o (.dK ks)) ∧ RpA C F (ks.map (·.2)) (kvs.map (·.2)) ∧ kvs.map (·.1) = ks.map (fun p => kD p.1) := by
  generalize ed : PyData.dict ((.bool false, .none) :: kvs) = d at r
  cases r with
  | dz h1 h2 h3 => cases ed; exact ⟨_, _, _, rfl, h1, h2, h3⟩
  | dct h1 h2 h3 =>
    cases ed
    rename_i ks
    cases ks with
    | nil => cases h3
    | cons q qs =>
      rw [List.map_cons, List.map_cons] at h3
      injection h3 with h4 _
      have h5 : PyData.bool false = kD q.1 := h4
      cases hq : q.1 with
      | inl z => rw [hq] at h5; cases h5
      | inr z => rw [hq] at h5; cases h5
  | dcT h1 h2 h3 h4 =>
    cases ed
    exact (tup_ne (fun t z => by cases z) h4).elim
  | deck h => simp [deckD] at ed
  | _ => cases ed
theorem om_ixZ : OpM C dIxZ rIxK := by
  intro Gc F H ps σ v u x y z Q R rx ry hz q
  unfold dIxZ at hz
  split at hz
  · rename_i kvs
    obtain ⟨k, e1, e2⟩ := Option.bind_eq_some_iff.mp hz
    have ex := kD_of e1
    subst ex
    have ev := rp_kD ry
    subst ev
    obtain ⟨p, o, ks, rfl, h1, h2, h3⟩ := zD_no rx
    rcases look_find h2 h3 k with ⟨c1, c2⟩ | ⟨w, d, c1, c2, c3⟩
    · rw [c2] at e2; cases e2
    · rw [c2] at e2; cases e2
      exact ⟨p, w, rfl, .inl ⟨ks, k, .inr ⟨o, R.fh _ _ h1⟩, rfl, c1.symm⟩, q w F H (Same.refl _) R c3⟩
  · cases hz
theorem xixZ {ma mb : ME} (hu : X.A.units + 1 < cLine) (ha : PE X a (tE C W ma)) (hb : PE X b (tE C W mb)) (hs : PlainIx b) : PE X (.Subscript a b pos) (tE C W (mBin dIxZ ma mb)) :=
  pe_imp (pe_ix (ix_dict hu) ha hb hs) fun _ _ _ h => bin_ok om_ixZ h
/-- its keys, one after another -/
def mKeys (a : ME) : MA := fun ps => (a ps).bind fun x ps1 => match x with
  | .dict ((.bool false, .none) :: kvs) => .ok (kvs.map (·.1)) ps1
  | _ => .bad
theorem xi_keys {tg : Expr} {ma : ME} (h : PE X e (tE C W ma)) : PI X tg e (tI C W (mKeys ma)) := pi_imp (pi_keys h) fun σ H Rr ⟨Gc, F, ps, R, q⟩ => by
  refine seqE qI.mono R q fun x ps1 v F1 H1 s1 R1 r1 q1 => ?_
  split at q1
  · rename_i kvs
    obtain ⟨p, o, ks, rfl, h1, h2, h3⟩ := zD_no r1
    have el : kvs.length = ks.length := by have := congrArg List.length h3; simpa using this
    refine ⟨p, o, rfl, .inl ⟨ks, R1.fh _ _ h1, q1 _ F1 H1 (Same.refl _) R1 ⟨fun i H2 hi s2 => ⟨s2 _ _ h1, by simpa [el] using hi⟩, fun H2 s2 => ⟨s2 _ _ h1, by simp [el]⟩, fun i H2 x H' Gc' F' ps' σ' d s2 R2 hd ⟨eH, k, w, hk, ex⟩ => ?_⟩⟩⟩
    subst eH ex
    refine ⟨F', Same.refl _, R2, ?_⟩
    have h4 := congrArg (fun l => l[i]?) h3
    simp only [List.getElem?_map, hk] at h4
    rw [List.getElem?_map] at hd
    rw [h4] at hd
    cases hd
    cases k with
    | inl z => exact .int z
    | inr z => exact .str z
  · exact q1.elim
/-! ### pairs of ints, sorted -/
def pairsOf : List D → Option (List (Int × Int))
  | [] => some []
  | .tuple [.int a, .int b] :: r => (pairsOf r).map fun ns => (a, b) :: ns
  | _ => none
def pD (p : Int × Int) : D := .tuple [.int p.1, .int p.2]
theorem pairsOf_eq : ∀ {ds : List D} {ns : List (Int × Int)}, pairsOf ds = some ns → ds = ns.map pD
  | [], ns, h => by simp [pairsOf] at h; subst h; rfl
  | d :: r, ns, h => by
    unfold pairsOf at h
    split at h
    · cases ‹_ :: _ = []›
    · rename_i a b r' e
      injection e with e1 e2
      subst e1 e2
      obtain ⟨ms, e3, e4⟩ := Option.map_eq_some_iff.mp h
      subst e4
      rw [pairsOf_eq e3]; rfl
    · cases h
theorem pairsOf_pD : ∀ ns : List (Int × Int), pairsOf (ns.map pD) = some ns
  | [] => rfl
  | (a, b) :: ns => by
    show (pairsOf (ns.map pD)).map _ = _
    rw [pairsOf_pD ns]; rfl
def leP (a b : Int × Int) : Bool := decide (a.1 < b.1 ∨ a.1 = b.1 ∧ a.2 ≤ b.2)
def sortP (ns : List (Int × Int)) : List (Int × Int) := ns.mergeSort leP
theorem leP_eq : ∀ {a b : Int × Int}, leP a b = true → leP b a = true → a = b := by
  rintro ⟨a1, a2⟩ ⟨b1, b2⟩ h1 h2
  have h1 := of_decide_eq_true h1
  have h2 := of_decide_eq_true h2
  simp only at h1 h2
  have e1 : a1 = b1 := by omega
  have e2 : a2 = b2 := by omega
  rw [e1, e2]
theorem sortP_eq {ns ns' : List (Int × Int)} (h : ns'.Perm ns) (o : ns'.Pairwise fun a b => leP a b = true) : ns' = sortP ns := by
  have z := List.pairwise_mergeSort (le := leP) (fun a b c h1 h2 => by
    have := of_decide_eq_true h1; have := of_decide_eq_true h2; exact decide_eq_true (by omega)) (fun a b => by
    unfold leP
    rw [Bool.or_eq_true, decide_eq_true_eq, decide_eq_true_eq]; omega) ns
  exact List.Perm.eq_of_pairwise (le := fun a b => leP a b = true) (fun a b _ _ h1 h2 => leP_eq h1 h2) o z (h.trans (List.mergeSort_perm ns leP).symm)
def dSortedP : List D → Option D
  | [.list ds] => (pairsOf ds).map fun ns => .list ((sortP ns).map pD)
  | _ => none
theorem rpa_pairs {F : Hp} : ∀ {xs : List V} {ns : List (Int × Int)}, RpA C F xs (ns.map pD) → ∀ x ∈ xs, ∃ (t : Addr) (p : Int × Int), x = V.ref t ∧ F t = some (.tup [.int p.1, .int p.2])
  | _, [], .nil, x, hx => nomatch hx
  | _, n :: ns, .cons r t, x, hx => by
    rcases List.mem_cons.mp hx with hx | hx
    · subst hx
      cases r with
      | tup h a =>
        cases a with
        | cons a1 a2 =>
          cases a2 with
          | cons a2 a3 => cases a1; cases a2; cases a3; exact ⟨_, n, rfl, h⟩
    · exact rpa_pairs (ns := ns) t x hx
noncomputable def keyP (F : Hp) (x : V) : Int × Int := match x with
  | .ref t => match F t with
    | some (.tup [.int a, .int b]) => (a, b)
    | _ => (0, 0)
  | _ => (0, 0)
theorem rpa_keyP {F : Hp} : ∀ {xs : List V} {ns : List (Int × Int)}, RpA C F xs (ns.map pD) → xs.map (keyP F) = ns
  | _, [], .nil => rfl
  | _, n :: ns, .cons r t => by
    rw [List.map_cons, rpa_keyP (ns := ns) t]
    congr 1
    cases r with
    | tup h a =>
      cases a with
      | cons a1 a2 =>
        cases a2 with
        | cons a2 a3 => cases a1; cases a2; cases a3; simp only [keyP, h]
theorem rpa_of_keyP {F : Hp} : ∀ {ys : List V}, (∀ y ∈ ys, ∃ (t : Addr) (p : Int × Int), y = V.ref t ∧ F t = some (.tup [.int p.1, .int p.2])) → RpA C F ys ((ys.map (keyP F)).map pD)
  | [], _ => .nil
  | y :: ys, h => by
    obtain ⟨t, p, rfl, e⟩ := h y (by simp)
    refine .cons ?_ (rpa_of_keyP fun z hz => h z (by simp [hz]))
    have : keyP F (.ref t) = (p.1, p.2) := by simp only [keyP, e]
    rw [this]
    exact .tup e (.cons (.int _) (.cons (.int _) .nil))
theorem cm_sortedP : CallM C dSortedP (rSortedPO X.K) := by
  intro Gc F H ps σ vs ds z Q R r hz q
  match ds, r with
  | [.list ds], .cons (.lst h r1) .nil =>
    rename_i a xs
    obtain ⟨ns, e1, e2⟩ := Option.map_eq_some_iff.mp hz
    subst e2
    have e0 := pairsOf_eq e1
    subst e0
    refine ⟨a, xs, keyP F, rfl, SqL.of (R.fh _ _ h), fun x hx => ?_, fun ys p hsrt hstb n => ?_⟩
    · obtain ⟨t, pr, rfl, e⟩ := rpa_pairs r1 x hx
      have : keyP F (.ref t) = (pr.1, pr.2) := by simp only [keyP, e]
      exact ⟨t, rfl, by rw [this]; exact R.fh _ _ e⟩
    · have hk := rpa_keyP r1
      have hp : (ys.map (keyP F)).Perm ns := by rw [← hk]; exact hstb.perm.map _
      have hs : (ys.map (keyP F)).Pairwise fun a b => leP a b = true := by
        rw [List.pairwise_map]
        refine List.Pairwise.imp ?_ hsrt
        intro x y hxy
        have := SrtO.lexB_no.mp hxy
        exact decide_eq_true (by omega)
      have es := sortP_eq hp hs
      have rr : RpA C F ys ((ys.map (keyP F)).map pD) := rpa_of_keyP fun y hy => rpa_pairs r1 y (hstb.perm.mem_iff.mp hy)
      rw [es] at rr
      have nf : F p = none := R.fh.free n
      exact q _ _ _ (same_alloc nf) (R.alloc n) (.lst upd_same (rr.mono (same_alloc nf)))
theorem xsortedP {x : Str} {ma : MA} (hg : Gl X x) (hn : X.mg x = none) (hv : bootBuiltins x = some (.builtin "sorted")) (ha : PA X (e :: es) (tA C W ma)) (hnn : x ≠ "__name__" := by decide) (hdb : (x == ("__debug__" : Str)) = false := by decide)
    (he : starEach (e :: es) X.env = (false, eval e X.env) :: starEach es X.env := by rfl) (hpl : (backTo pos (starEach es X.env)).any (·.1) = false := by rfl) : PE X (.Call (.Name x p) (e :: es) [] pos) (tE C W (mB dSortedP ma)) :=
  xcallB cr_sortedPO cm_sortedP hg hn hv ha hnn hdb he hpl
end
end MM
/-! MM: tuples of which it is known that they have no dict of their own (a tuple's method can be called of these alone). -/
namespace MM
open PySem PySem.Spec PyProof.Rows L2
def ntD (ds : List D) : D := .dict [(.bool true, .tuple ds)]
def unN : D → D
  | .dict [(.bool true, .tuple ds)] => .tuple ds
  | d => d
section
variable {C : Mc} {F H : Hp}
theorem nt_inv {v : V} {ds : List D} (r : Rp C F v (ntD ds)) : ∃ a o xs, v = .ref a ∧ F a = some (.frz o (.tup xs)) ∧ o.dict = none ∧ RpA C F xs ds := by
  unfold ntD at r
  generalize ed : PyData.dict [(.bool true, .tuple ds)] = d at r
  cases r with
  | nt h1 h2 h3 => cases ed; exact ⟨_, _, _, rfl, h1, h2, h3⟩
  | dct h1 h2 h3 =>
    cases ed
    rename_i ks
    cases ks with
    | nil => cases h3
    | cons q qs =>
      rw [List.map_cons, List.map_cons] at h3
      injection h3 with h4 _
      have h5 : PyData.bool true = kD q.1 := h4
      cases hq : q.1 with
      | inl z => rw [hq] at h5; cases h5
      | inr z => rw [hq] at h5; cases h5
  | dcT h1 h2 h3 h4 =>
    cases ed
    exact (tup_ne (fun t z => by cases z) h4).elim
  | dz _ _ _ => simp at ed
  | deck h => simp [deckD] at ed
  | _ => cases ed
theorem sqT_frz {K : PySem.W.Frag} {a : Addr} {o : Obj} {xs : List V} (e : Same F H) (h : F a = some (.frz o (.tup xs))) : SqT K H a xs := .inl (.inr ⟨o, e _ _ h⟩)
end
section
variable {C : Mc} {W : WX} {X : Cx} {e o a b : Expr} {es : List Expr} {pos p apos cpos : Pos}
/-! ### such tuples made -/
def mTupN (ms : MA) : ME := fun ps => (ms ps).bind fun xs ps1 => if xs.length ≤ sizeLine then .ok (ntD xs) ps1 else .bad
def tTupN (t : TA) : TE := fun σ H Q => t σ H fun xs H1 => xs.length ≤ sizeLine ∧ ∀ p od, H1 p = none → od.dict = none → Q (.ref p) (upd H1 p (.frz od (.tup xs)))
theorem pe_tupN {k : Nat} {t : TA} (h : PA X es t) : PE X (.Tuple es k pos) (tTupN t) := by
  constructor
  intro pins s σ H Q I hq
  refine wpAny_Tuple_spliced (thn (h.run pos pins s σ H _ I hq) fun us sa ⟨xs, Ha, Ia, r, z, q⟩ => ⟨by rw [← r.length]; exact z, ?_⟩)
  have nf : Ha sa.heap.objs.size = none := Ia.hok.fresh (Nat.le_refl _)
  refine ⟨.ref sa.heap.objs.size, _, Ia.laid (t' := sa.toks) (o := .frz { cls := .type "tuple", data := .seq us.toArray } (.tup xs)) (fun b u e => Heap.get?_push_of_some _ e) (Nat.le_refl _) ?_, rfl, q _ _ nf rfl⟩
  exact ⟨Heap.get?_push_size _ rfl, z, us, r, ⟨_, Heap.get?_push_size _ rfl, rfl, _, rfl⟩⟩
theorem xtupN {k : Nat} {ma : MA} (h : PA X es (tA C W ma)) : PE X (.Tuple es k pos) (tE C W (mTupN ma)) :=
  pe_imp (pe_tupN h) fun σ H Q ⟨Gc, F, ps, R, q⟩ => seqA qE.mono R q fun xs ps1 vs F1 H1 s1 R1 r1 q1 => by
    by_cases hl : xs.length ≤ sizeLine
    · rw [if_pos hl] at q1
      refine ⟨by rw [r1.length]; exact hl, fun p od n hd => ?_⟩
      have nf : F1 p = none := R1.fh.free n
      exact q1 (.ref p) _ _ (same_alloc nf) (R1.alloc n) (.nt upd_same hd (r1.mono (same_alloc nf)))
    · rw [if_neg hl] at q1; exact q1.elim
/-- t[lo:hi], not the whole -/
def rSlN (K : PySem.W.Frag) : V → Option Int → Option Int → Hp → VK → Prop := fun x lo hi H Q => ∃ a xs, x = .ref a ∧ SqT K H a xs ∧ ¬ (HT.sIx xs.length 0 lo = 0 ∧ HT.sIx xs.length xs.length hi = xs.length) ∧
  ∀ p od, H p = none → od.dict = none → Q (.ref p) (upd H p (.frz od (.tup (cutV xs lo hi))))
theorem sl_tupN : L2.SlR X (rSlN X.K) := by
  intro pins s σ H x v vl vu lo hi sl Q I rx hs pl pu ⟨a, xs, ex, hx, hw, q⟩
  subst ex
  cases rx
  obtain ⟨its, r, ht, hz⟩ := I.tuple hx
  have hlen : its.toArray.size = xs.length := by rw [List.size_toArray]; exact r.length.symm
  refine ⟨"tuple", _, PyProof.Rows.slot_tuple_getitem.lookup, ht.typeIs, HT.getItem_tuple_cut ht hs pl pu (by rw [hlen]; exact hw) ?_ (by rw [hlen]; exact hz)⟩
  rw [hlen]
  refine ⟨.ref s.heap.objs.size, _, I.laid (t' := s.toks) (o := .frz { cls := .type "tuple", data := .seq ((its.toArray.toList.drop (HT.sIx xs.length 0 lo)).take (HT.sIx xs.length xs.length hi - HT.sIx xs.length 0 lo)).toArray } (.tup (cutV xs lo hi))) (fun b ob e => Heap.get?_push_of_some _ e) (Nat.le_refl _) ?_, rfl, q _ _ (I.hok.fresh (Nat.le_refl _)) rfl⟩
  exact ⟨Heap.get?_push_size _ rfl, Nat.le_trans (cutV_length xs lo hi) hz, _, (r.drop (HT.sIx xs.length 0 lo)).take (HT.sIx xs.length xs.length hi - HT.sIx xs.length 0 lo), IsTup.new _ _⟩
def dSlN (x : D) (lo hi : Option Int) : Option D := match unN x with
  | .tuple ds => if HT.sIx ds.length 0 lo = 0 ∧ HT.sIx ds.length ds.length hi = ds.length then none else some (ntD (cut ds lo hi))
  | _ => none
def mSlN (a : ME) (l h : MO) : ME := fun ps => (a ps).bind fun x ps1 => (l ps1).bind fun lo ps2 => (h ps2).bind fun hi ps3 => .of (dSlN x lo hi) ps3
/-- what is read of either kind -/
theorem rp_un {F H : Hp} {v : V} {d : D} {ds : List D} (s : Same F H) (r : Rp C F v d) (h : unN d = .tuple ds) : ∃ a xs, v = .ref a ∧ SqT C.K H a xs ∧ RpA C F xs ds := by
  unfold unN at h
  split at h
  · cases h
    obtain ⟨a, o, xs, rfl, h1, h2, h3⟩ := nt_inv r
    exact ⟨a, xs, rfl, sqT_frz s h1, h3⟩
  · subst h
    cases r with
    | tup h1 h2 => exact ⟨_, _, rfl, sqT_mono s h1, h2⟩
theorem xslN {ma : ME} {ml mh : MO} {lo hi : Option Expr} {p2 : Pos} (hK : C.K = X.K) (he : PE X e (tE C W ma)) (hl : PO X lo (tO C W ml)) (hh : PO X hi (tO C W mh)) : PE X (.Subscript e (.Slice lo hi none p2) pos) (tE C W (mSlN ma ml mh)) :=
  pe_imp (pe_slice sl_tupN he hl hh) fun σ H Q ⟨Gc, F, ps, R, q⟩ => seqE qE.mono R q fun x ps1 v F1 H1 s1 R1 r1 q1 =>
    seqO qE.mono R1 q1 fun l ps2 F2 H2 s2 R2 q2 => seqO qE.mono R2 q2 fun h ps3 F3 H3 s3 R3 q3 => by
      have r := r1.mono (s2.trans s3)
      cases ez : dSlN x l h with
      | none => rw [ez] at q3; exact q3.elim
      | some z =>
        rw [ez] at q3
        unfold dSlN at ez
        split at ez
        · rename_i ds eu
          split at ez
          · cases ez
          · rename_i hw
            cases ez
            obtain ⟨a, xs, rfl, h1, h2⟩ := rp_un R3.fh r eu
            refine ⟨a, xs, rfl, by rw [← hK]; exact h1, by rw [h2.length]; exact hw, fun p od n hd => ?_⟩
            have nf : F3 p = none := R3.fh.free n
            exact q3 (.ref p) _ _ (same_alloc nf) (R3.alloc n) (.nt upd_same hd ((h2.cut l h).mono (same_alloc nf)))
        · cases ez
/-- t[::-1] -/
def tRevN (K : PySem.W.Frag) (te : TE) : TE := fun σ H Q => te σ H fun x H1 => ∃ a xs, x = .ref a ∧ SqT K H1 a xs ∧ ∀ p od, H1 p = none → od.dict = none → Q (.ref p) (upd H1 p (.frz od (.tup xs.reverse)))
theorem pe_revN {te : TE} {k : Nat} {p1 p2 p3 : Pos} (he : PE X e te) : PE X (.Subscript e (.Slice none none (some (.UnaryOp .USub (.Constant (.int 1) k p1) p2)) p3) pos) (tRevN X.K te) := by
  constructor
  intro pins s σ H Q I h
  refine Subscript_ (thn (he.run pins s σ H _ I h) fun v s1 ⟨x, H1, I1, r1, q1⟩ => ?_)
  have hst : PO X (some (.UnaryOp .USub (.Constant (.int 1) k p1) p2)) (tPart (tUn (rU fun i => .int (-i)) (tC (.int 1)))) := po_some (pe_un un_neg pe_int)
  refine wpAny_Slice (thn (po_none.run pins s1 σ H1 (fun o H2 => o = none ∧ H2 = H1) I1 ⟨rfl, rfl⟩) fun vl s2 ⟨l, H2, I2, pl, el, e2⟩ => ?_)
  subst el e2
  refine thn (po_none.run pins s2 σ H2 (fun o H3 => o = none ∧ H3 = H2) I2 ⟨rfl, rfl⟩) fun vu s3 ⟨u, H3, I3, pu, eu, e3⟩ => ?_
  subst eu e3
  refine thn (hst.run pins s3 σ H3 (fun o H4 => o = some (-1) ∧ H4 = H3) I3 ⟨1, rfl, -1, rfl, rfl, rfl⟩) fun vs s4 ⟨o, H4, I4, ps, eo, e4⟩ => ?_
  subst eo e4
  have I5 : Inv X pins σ H4 { s4 with heap := s4.heap.push { cls := .type "slice", data := .fields #[vl, vu, vs] } } := I4.kept (t' := s4.toks) fun b ob q => Heap.get?_push_of_some _ q
  obtain ⟨a, xs, ex, hx, q⟩ := q1
  subst ex
  cases r1
  obtain ⟨its, r, ht, hz⟩ := I5.tuple hx
  have hlen := r.length
  show wpAny _ X.A (subscriptTail e (.Slice none none (some (.UnaryOp .USub (.Constant (.int 1) k p1) p2)) p3) (.ref a) (.ref s4.heap.objs.size)) _ _ { s4 with heap := s4.heap.push { cls := .type "slice", data := .fields #[vl, vu, vs] } }
  refine tail_any (ops := [.ref a, .ref s4.heap.objs.size]) ht.typeIs (PyProof.Rows.slot_tuple_getitem.lookup) ?_ (by with_unfolding_all rfl)
  refine HT.getItem_tuple_back ht (Heap.IsSliceOf.new _ vl vu vs) pl pu ps ?_ (by rw [List.size_toArray]; omega)
  refine ⟨.ref _, _, I5.laid (t' := s4.toks) (o := .frz { cls := .type "tuple", data := .seq its.reverse.toArray } (.tup xs.reverse)) (fun b ob q => Heap.get?_push_of_some _ q) (Nat.le_refl _) ?_, rfl, q _ _ (I5.hok.fresh (Nat.le_refl _)) rfl⟩
  exact ⟨Heap.get?_push_size _ rfl, by rw [List.length_reverse]; exact hz, _, r.reverse, ⟨_, Heap.get?_push_size _ rfl, rfl, _, rfl⟩⟩
def dRevN (x : D) : Option D := match unN x with
  | .tuple ds => some (ntD ds.reverse)
  | _ => none
theorem xrevN {ma : ME} {k : Nat} {p1 p2 p3 : Pos} (hK : C.K = X.K) (he : PE X e (tE C W ma)) : PE X (.Subscript e (.Slice none none (some (.UnaryOp .USub (.Constant (.int 1) k p1) p2)) p3) pos) (tE C W (mUn dRevN ma)) :=
  pe_imp (pe_revN he) fun σ H Q ⟨Gc, F, ps, R, q⟩ => seqE qE.mono R q fun x ps1 v F1 H1 s1 R1 r1 q1 => by
    cases ez : dRevN x with
    | none => rw [ez] at q1; exact q1.elim
    | some z =>
      rw [ez] at q1
      unfold dRevN at ez
      split at ez
      · rename_i ds eu
        cases ez
        obtain ⟨a, xs, rfl, h1, h2⟩ := rp_un R1.fh r1 eu
        refine ⟨a, xs, rfl, by rw [← hK]; exact h1, fun p od n hd => ?_⟩
        have nf : F1 p = none := R1.fh.free n
        exact q1 (.ref p) _ _ (same_alloc nf) (R1.alloc n) (.nt upd_same hd (h2.reverse.mono (same_alloc nf)))
      · cases ez
/-! ### their method -/
def tBN (r : V → List V → Hp → VK → Prop) (to : TE) (t : TA) : TE := fun σ H Q => to σ H fun x H1 => (∃ a od xs, x = .ref a ∧ H1 a = some (.frz od (.tup xs)) ∧ od.dict = none) ∧ t σ H1 fun xs H2 => r x xs H2 Q
theorem pe_bN {to : TE} {t : TA} {name : Str} {id : String} {r : V → List V → Hp → VK → Prop} (slot : Slot "tuple" name id) (hty : typeOf (.builtin id) = pure (.type "method_descriptor")) (hm : MtR X id r) (ho : PE X o to) (ha : PA X (e :: es) t)
    (hbase : attributeBase o name X.env (eval o X.env) = eval o X.env := by rfl)
    (hfew : ((backTo cpos (starEach (e :: es) X.env)).all (fun x => !x.1) && (backToKw cpos (keywordEach [] X.env)).all (fun x => x.1.isSome)
      && decide ((e :: es).length + ([] : List Keyword).length + (if ([] : List Keyword).isEmpty then 0 else 1) < 30)) = true := by rfl)
    (hline : (apos.endLine == cpos.line) = true := by rfl) (hs : starEach (e :: es) X.env = (false, eval e X.env) :: starEach es X.env := by rfl) (hplain : (backTo cpos (starEach es X.env)).any (·.1) = false := by rfl) :
    PE X (.Call (.Attribute o name apos) (e :: es) [] cpos) (tBN r to t) := by
  constructor
  intro pins s σ H Q I h
  refine wpAny_Call_method_late hbase hfew hline rfl (thn (ho.run pins s σ H _ I h) fun v sa ⟨x, Ha, Ia, ra, ⟨a, od, xs, ex, hf, hd⟩, qa⟩ => ?_)
  subst ex
  cases ra
  obtain ⟨g1, g2⟩ := (show ObjOk X.prog X.w Ha sa.heap a (.frz od (.tup xs)) from Ia.hok a _ hf)
  obtain ⟨_, its, _, ob, g3, g4, _⟩ := g2
  rw [g1] at g3
  cases g3
  refine ⟨"tuple", id, PySem.F.plainAttrs_tuple, slot, hty, ⟨od, g1, g4⟩, fun b eb => ?_, ?_⟩
  · cases eb; exact ⟨od, g1, hd⟩
  · have hA := ha.run cpos pins sa σ Ha _ Ia qa
    rw [hs] at hA ⊢
    refine Calls.callWith_builtin (by show (false || (backTo cpos (starEach es X.env)).any (·.1)) = false; rw [hplain] <;> rfl) (Calls.evalArgs_plain ?_)
    exact thn hA fun us sb ⟨vs, Hb, Ib, rb, qb⟩ => hm pins sb σ Hb (.ref a) vs (.ref a) us Q Ib rfl rb qb
def mIdxN (a b : ME) : ME := fun ps => (a ps).bind fun x ps1 => match x with
  | .dict [(.bool true, .tuple ds)] => (b ps1).bind fun y ps2 => .of (dIndexT (.tuple ds) y) ps2
  | _ => .bad
theorem idxN_ok {ma mb : ME} (hK : C.K = X.K) {σ : St} {H : Hp} {Q : VK} (h : tE C W (mIdxN ma mb) σ H Q) : tBN (rIdxT X.K) (tE C W ma) (tCons (tE C W mb) tNil) σ H Q := by
  obtain ⟨Gc, F, ps, R, q⟩ := h
  refine seqE qE.mono R q fun x ps1 v F1 H1 s1 R1 r1 q1 => ?_
  split at q1
  · rename_i ds
    obtain ⟨a, od, xs, rfl, h1, h2, h3⟩ := nt_inv r1
    refine ⟨⟨a, od, xs, rfl, R1.fh _ _ h1, h2⟩, ?_⟩
    show tE C W mb σ H1 fun y H2 => rIdxT X.K (.ref a) [y] H2 Q
    refine seqE qE.mono R1 q1 fun y ps2 u F2 H2 s2 R2 r2 q2 => ?_
    cases e2 : dIndexT (.tuple ds) y with
    | none => rw [e2] at q2; exact q2.elim
    | some z =>
      rw [e2] at q2
      cases y with
      | int i =>
        obtain ⟨ns, e3, e4⟩ := Option.bind_eq_some_iff.mp (show ((intsOf ds).bind fun ns => if ns.contains i = true then some (PyData.int (ns.idxOf i : Nat)) else none) = some z from e2)
        have en := intsOf_eq e3
        subst en
        have j1 := h3.ints
        subst j1
        cases r2
        by_cases hc : ns.contains i = true
        · rw [if_pos hc] at e4
          cases e4
          exact ⟨a, ns, i, rfl, rfl, sqT_frz R2.fh (s2 _ _ h1), by simpa using hc, q2 _ F2 H2 (Same.refl _) R2 (.int _)⟩
        · rw [if_neg hc] at e4; cases e4
      | _ => cases e2
  · exact q1.elim
theorem xidxN {ma mb : ME} (hK : C.K = X.K) (ho : PE X o (tE C W ma)) (ha : PE X e (tE C W mb))
    (hbase : attributeBase o "index" X.env (eval o X.env) = eval o X.env := by rfl)
    (hfew : ((backTo cpos (starEach (e :: []) X.env)).all (fun x => !x.1) && (backToKw cpos (keywordEach [] X.env)).all (fun x => x.1.isSome)
      && decide ((e :: ([] : List Expr)).length + ([] : List Keyword).length + (if ([] : List Keyword).isEmpty then 0 else 1) < 30)) = true := by rfl)
    (hline : (apos.endLine == cpos.line) = true := by rfl) (hs : starEach (e :: []) X.env = (false, eval e X.env) :: starEach [] X.env := by rfl) (hplain : (backTo cpos (starEach [] X.env)).any (·.1) = false := by rfl) :
    PE X (.Call (.Attribute o "index" apos) [e] [] cpos) (tE C W (mIdxN ma mb)) :=
  pe_imp (pe_bN PySem.F.slot_tuple_index PySem.F.type_tuple_index mt_idxT ho (pa_cons ha pa_nil hs) hbase hfew hline hs hplain) fun _ _ _ h => idxN_ok hK h
/-! ### read as any tuple is -/
def dLenN : List D → Option D
  | [x] => dLen [unN x]
  | _ => none
theorem unN_or (x : D) : (∃ ds, x = ntD ds) ∨ unN x = x := by
  unfold unN
  split
  · exact .inl ⟨_, rfl⟩
  · exact .inr rfl
theorem cm_lenN (hK : C.K = X.K) : CallM C dLenN (fun xs H Q => ∃ x n, xs = [x] ∧ LenV X.K x H n ∧ Q (.int n) H) := by
  intro Gc F H ps σ vs ds z Q R r hz q
  match ds, r, hz with
  | [x], .cons r1 .nil, hz =>
    rcases unN_or x with ⟨ds, rfl⟩ | e
    · obtain ⟨a, o, xs, rfl, h1, h2, h3⟩ := nt_inv r1
      cases hz
      exact ⟨_, ds.length, rfl, .inr ⟨_, sqT_frz R.fh h1, h3.length.symm⟩, q _ F H (Same.refl _) R (.int _)⟩
    · rw [dLenN, e] at hz
      exact cm_len hK Gc F H ps σ _ _ z Q R (.cons r1 .nil) hz q
def dIxN (x y : D) : Option D := dIx (unN x) y
theorem om_ixN (hK : C.K = X.K) : OpM C dIxN (rIxAll X.K) := by
  intro Gc F H ps σ v u x y z Q R rx ry hz q
  rcases unN_or x with ⟨ds, rfl⟩ | e
  · obtain ⟨a, o, xs, rfl, h1, h2, h3⟩ := nt_inv rx
    cases y with
    | int i =>
      cases ry
      obtain ⟨w, g1, g2⟩ := h3.atI (i := i) (d := z) hz
      exact .inl (.inr (.inl ⟨_, _, i, w, rfl, rfl, sqT_frz R.fh h1, g1, q w F H (Same.refl _) R g2⟩))
    | _ => cases hz
  · rw [dIxN, e] at hz
    exact om_ix hK Gc F H ps σ v u x y z Q R rx ry hz q
theorem xixN {ma mb : ME} (hu : X.A.units + 1 < cLine) (hK : C.K = X.K) (ha : PE X a (tE C W ma)) (hb : PE X b (tE C W mb)) (hs : PlainIx b) : PE X (.Subscript a b pos) (tE C W (mBin dIxN ma mb)) :=
  pe_imp (pe_ix (ix_all hu) ha hb hs) fun _ _ _ h => bin_ok (om_ixN hK) h
def dSortedN : List D → Option D
  | [x] => dSorted [unN x]
  | _ => none
theorem cm_sortedN (hK : C.K = X.K) : CallM C dSortedN (fun vs H Q => rSortedI X.K vs H Q ∨ rSortedJ X.K vs H Q) := by
  intro Gc F H ps σ vs ds z Q R r hz q
  match ds, r, hz with
  | [x], .cons r1 .nil, hz =>
    rcases unN_or x with ⟨ds, rfl⟩ | e
    · obtain ⟨a, o, xs, rfl, h1, h2, h3⟩ := nt_inv r1
      obtain ⟨ns, e1, e2⟩ := Option.map_eq_some_iff.mp (show (intsOf ds).map (fun ns => PyData.list ((sortI ns).map .int)) = some z from hz)
      subst e2
      have e0 := intsOf_eq e1
      subst e0
      have e := h3.ints
      subst e
      refine .inr ⟨_, ns, rfl, sqT_frz R.fh h1, fun ns' p g1 g2 n => ?_⟩
      rw [sortI_eq g1 g2]
      have nf : F p = none := R.fh.free n
      exact q _ _ _ (same_alloc nf) (R.alloc n) (.lst upd_same (RpA.of_ints _))
    · rw [dSortedN, e] at hz
      exact cm_sorted hK Gc F H ps σ _ _ z Q R (.cons r1 .nil) hz q
theorem xsortedN {x : Str} {ma : MA} (hK : C.K = X.K) (hg : Gl X x) (hn : X.mg x = none) (hv : bootBuiltins x = some (.builtin "sorted")) (ha : PA X (e :: es) (tA C W ma)) (hnn : x ≠ "__name__" := by decide) (hdb : (x == ("__debug__" : Str)) = false := by decide)
    (he : starEach (e :: es) X.env = (false, eval e X.env) :: starEach es X.env := by rfl) (hpl : (backTo pos (starEach es X.env)).any (·.1) = false := by rfl) : PE X (.Call (.Name x p) (e :: es) [] pos) (tE C W (mB dSortedN ma)) :=
  xcallB (cr_sortedI.or cr_sortedJ) (cm_sortedN hK) hg hn hv ha hnn hdb he hpl
/-- t + u, neither empty where t is such a tuple -/
def dAddN (x y : D) : Option D := match x with
  | .dict [(.bool true, .tuple ds)] => (match y with
    | .tuple es => if (!ds.isEmpty && !es.isEmpty && decide (ds.length + es.length ≤ sizeLine)) = true then some (.tuple (ds ++ es)) else none
    | _ => none)
  | _ => dAdd x y
theorem om_addN (hK : C.K = X.K) : OpM C dAddN (rAddAll X.K) := by
  intro Gc F H ps σ v u x y z Q R rx ry hz q
  unfold dAddN at hz
  split at hz
  · rename_i ds
    split at hz
    · rename_i es
      split at hz
      · rename_i hc
        cases hz
        rw [Bool.and_eq_true, Bool.and_eq_true, decide_eq_true_eq] at hc
        obtain ⟨⟨c1, c2⟩, c3⟩ := hc
        obtain ⟨a, o, xs, rfl, h1, h2, h3⟩ := nt_inv rx
        cases ry with
        | tup h4 h5 =>
          rename_i p2 ys
          refine .inr (.inr (.inr ⟨_, _, xs, ys, rfl, rfl, sqT_frz R.fh h1, by rw [← hK]; exact sqT_mono R.fh h4, by rw [h3.length, h5.length]; exact c3, fun e => ?_, fun _ e => ?_, fun _ _ p n => ?_⟩))
          · subst e; cases h3; cases c1
          · subst e; cases h5; cases c2
          · have nf : F p = none := R.fh.free n
            exact q _ _ _ (same_alloc nf) (R.alloc n) (.tup upd_same ((h3.append h5).mono (same_alloc nf)))
      · cases hz
    · cases hz
  · exact om_add hK Gc F H ps σ v u x y z Q R rx ry hz q
/-! ### repr of a tuple that has such in it -/
def un1 : D → D
  | .tuple ds => .tuple (ds.map unN)
  | d => d
def dReprN : List D → Option D
  | [d] => if shwOk (un1 d) = true then some (.str (un1 d).shown) else none
  | _ => none
theorem rd_N {pins : List (Addr × Obj)} {σ : St} {F H : Hp} {s : Shared} {l : Bool} (hK : C.K = X.K) (hF : Same F H) (I : Inv X pins σ H s) : ∀ {vs : List V} {ds : List D} {us : List Value}, RpA C F vs ds → clnAll l (ds.map unN) = true → Vals vs us → ∃ as, ReadsAll s.heap us (ds.map unN) as ∧ (l = false → sysModules ∉ as)
  | _, _, _, .nil, _, r => by cases r; exact ⟨[], .nil, fun _ => by simp⟩
  | _, _, _, .cons (d := d) h t, c, r => by
    rw [List.map_cons, clnAll, Bool.and_eq_true] at c
    cases r with
    | @cons _ u0 _ _ r1 r2 =>
      obtain ⟨bs, q2, n2⟩ := rd_N hK hF I t c.2 r2
      have one : ∃ as, Reads s.heap u0 (unN d) as ∧ (l = false → sysModules ∉ as) := by
        rcases unN_or d with ⟨es, rfl⟩ | e
        · obtain ⟨a, o, xs, rfl, h1, h2, h3⟩ := nt_inv h
          cases r1
          obtain ⟨its, rv, ⟨ob, ho, hc, n, hd⟩, _⟩ := I.tuple (sqT_frz (K := X.K) hF h1)
          have ce : clnAll l es = true := by
            have := c.1
            rwa [show unN (ntD es) = .tuple es from rfl, cln] at this
          obtain ⟨as, hr, hs⟩ := RpA.rd I hK hF h3 ce rv
          exact ⟨as, .tuple ho hc hd hr, hs⟩
        · rw [e] at c ⊢
          exact Rp.rd I hK hF h c.1 r1
      obtain ⟨as, q1, n1⟩ := one
      exact ⟨_, .cons q1 q2, fun z m => (List.mem_append.mp m).elim (n1 z) (n2 z)⟩
def rShwN (C : Mc) : List V → Hp → VK → Prop := fun vs H Q => ∃ v d F, vs = [v] ∧ Same F H ∧ Rp C F v d ∧ shwOk (un1 d) = true ∧ Q (.str (un1 d).shown) H
theorem cr_reprN (cA : Calm X.A) (hu : X.A.units + 65 < cLine) (hK : C.K = X.K) : CallR X (.builtin "repr") (rShwN C) := by
  intro pins s σ H vs us Q I r h
  obtain ⟨v, d, F, rfl, hF, rd, ok, q⟩ := h
  cases r with
  | cons rv rt =>
    cases rt
    by_cases ht : ∃ ds, d = .tuple ds
    · obtain ⟨ds, rfl⟩ := ht
      have e1 : un1 (.tuple ds) = .tuple (ds.map unN) := rfl
      rw [e1] at ok q
      unfold shwOk at ok
      rw [Bool.and_eq_true, Bool.and_eq_true, Bool.and_eq_true, decide_eq_true_eq, decide_eq_true_eq] at ok
      obtain ⟨⟨⟨h1, h2⟩, h3⟩, h4⟩ := ok
      cases rd with
      | tup t1 t2 =>
        cases rv
        obtain ⟨its, rvs, ⟨ob, ho, hc, n, hd⟩, _⟩ := I.tuple (by rw [← hK]; exact sqT_mono hF t1)
        have rr : ∃ as, ReadsAll s.heap its (ds.map unN) as ∧ ((PyData.tuple (ds.map unN)).hasDict = true → sysModules ∉ as) := by
          rw [Bool.or_eq_true, Bool.and_eq_true] at h4
          rcases h4 with h4 | ⟨h4, h5⟩
          · rw [cln] at h4
            obtain ⟨as, g1, g2⟩ := rd_N hK hF I t2 h4 rvs
            exact ⟨as, g1, fun _ => g2 rfl⟩
          · rw [cln] at h4
            obtain ⟨as, g1, g2⟩ := rd_N hK hF I t2 h4 rvs
            exact ⟨as, g1, fun z => by rw [z] at h5; cases h5⟩
        obtain ⟨as, g1, g2⟩ := rr
        exact repr_of_reads' (.tuple ho hc hd g1) h1 g2 cA (by omega) (fun _ _ e => e) (fun h' t tk hk => ⟨.str (PyData.tuple (ds.map unN)).shown, H, I.kept hk, ⟨t, rfl⟩, q⟩) h2
    · have e1 : un1 d = d := by
        unfold un1
        split
        · exact (ht ⟨_, rfl⟩).elim
        · rfl
      rw [e1] at ok q
      exact repr_run cA hu hK hF I rd ok rv q
theorem cm_reprN : CallM C dReprN (rShwN C) := by
  intro Gc F H ps σ vs ds z Q R r hz q
  match ds, r, hz with
  | [d], .cons r1 .nil, hz =>
    by_cases h : shwOk (un1 d) = true
    · rw [dReprN, if_pos h] at hz
      cases hz
      exact ⟨_, d, F, rfl, R.fh, r1, h, q _ F H (Same.refl _) R (.str _)⟩
    · rw [dReprN, if_neg h] at hz; cases hz
end
end MM
namespace MM
open PySem PySem.Spec PyProof.Rows L2
section
variable {C : Mc} {W : WX} {X : Cx} {e o : Expr} {p apos cpos pos : Pos}
def tVals (te : TE) : TE := fun σ H Q => te σ H fun x H1 => ∃ d kvs, x = .ref d ∧ H1 d = some (.dK kvs) ∧ ∀ l, H1 l = none → Q (.ref l) (upd H1 l (.lst (kvs.map (·.2))))
theorem pairs_vals : ∀ {kvs : List (Key × V)} {vs : List (Key × Value)}, KV kvs vs → Vals (kvs.map (·.2)) (vs.map (·.2))
  | _, _, .nil => .nil
  | _, _, .cons h t => .cons h.2 (pairs_vals t)
/-- list(o.values()) -/
theorem pe_listVals {te : TE} (hc : X.calm = true) (ho : PE X o te) (hg : Gl X "list") (hm : X.mg "list" = none) (hv : bootBuiltins "list" = some (.type "list")) (hb : attributeBase o "values" X.env (eval o X.env) = eval o X.env := by rfl) (hl : (apos.endLine == cpos.line) = true := by rfl)
    (hs : starEach [.Call (.Attribute o "values" apos) [] [] cpos] X.env = (false, eval (.Call (.Attribute o "values" apos) [] [] cpos) X.env) :: starEach [] X.env := by rfl) :
    PE X (.Call (.Name "list" p) [.Call (.Attribute o "values" apos) [] [] cpos] [] pos) (tVals te) := by
  constructor
  intro pins s σ H Q I hq
  refine wpAny_Call_Name_kw (ld_blt I hg hm hv ?_)
  refine PyProof.Rows.callWith_type1 ?_ hs rfl
  rw [hs]
  show wpAny _ _ (spliced ((false, eval (.Call (.Attribute o "values" apos) [] [] cpos) X.env) :: backTo pos (starEach [] X.env))) _ _ s
  refine Calls.spliced_cons (wpAny_Call_method (T := "dict") (id := "dict.values") hb rfl hl F.plainAttrs_dict F.slot_dict_values F.type_dict_values ?_)
  refine thn (ho.run pins s σ H _ I hq) fun u t ⟨x, Ha, Ia, rx, d, kvs, ex, hd, q⟩ => ?_
  subst ex
  cases rx
  obtain ⟨hz, lo, vs, kv, dof⟩ := dk_of Ia.hok hd
  obtain ⟨ep, dat⟩ := dof.dictAt
  have lk : kvs.length = vs.length := Paired.length kv
  have Ib : Inv X pins σ Ha { t with heap := t.heap.push { cls := .type "dict_values", data := .fields #[.ref d] } } := Ia.kept (t' := t.toks) fun b ob y => Heap.get?_push_of_some _ y
  refine ⟨dof.typeIs, dof.mapOf.noDict, ?_⟩
  show wpAny _ _ (callWith cpos (.builtin "dict.values") [.ref d] [] []) _ X.xe t
  refine method_meetsIn F.slot_dict_values F.entry_dict_values rfl (PySem.evalArgs_none ⟨rfl, dof.typeIs, F.args_dict_values_1 _, _, meets_dict_values (mixKind X.prog X.w) d lo, ⟨vs, dof⟩, ?_⟩)
  refine Calls.spliced_nil ?_
  refine PySem.W.kdl_call (PySem.W.kdl_values (knd := mixKind X.prog X.w) (r := t.heap.objs.size) (kvs := vs) (ep := ep)) (Ia.ok.hd hc) ⟨⟨_, Heap.get?_push_size _ rfl, rfl, rfl⟩, dat.push _⟩ (by rw [← lk]; exact hz) fun h2 tk acc c hk hS hacc => ?_
  have ev : acc.toList = vs.map (·.2) := PySem.W.kdl_vals_eq _ (by rw [Array.length_toList]; exact hacc.1) fun j v hj => hacc.2 j v (by rw [← Array.getElem?_toList]; exact hj)
  have nf : Ha (t.heap.push { cls := .type "dict_values", data := .fields #[.ref d] }).objs.size = none := Ib.hok.fresh (Nat.le_refl _)
  refine ⟨.ref _, _, Ib.laid (t' := tk) (o := .lst (kvs.map (·.2))) hk (Nat.le_refl _) ?_, rfl, q _ nf⟩
  refine ⟨by rw [List.length_map]; exact hz, vs.map (·.2), c, pairs_vals kv, ?_⟩
  rw [← ev, Array.toArray_toList]
  exact hS
def mValsL (a : ME) : ME := fun ps => (a ps).bind fun x ps1 => match x with
  | .dict kvs => if (isDeck (.dict kvs) || kvs.any (fun p => (toKey p.1).isNone)) = true then .bad else .ok (.list (kvs.map (·.2))) ps1
  | _ => .bad
theorem xvalsL {ma : ME} (hc : X.calm = true) (ho : PE X o (tE C W ma)) (hg : Gl X "list") (hm : X.mg "list" = none) (hv : bootBuiltins "list" = some (.type "list")) (hb : attributeBase o "values" X.env (eval o X.env) = eval o X.env := by rfl) (hl : (apos.endLine == cpos.line) = true := by rfl)
    (hs : starEach [.Call (.Attribute o "values" apos) [] [] cpos] X.env = (false, eval (.Call (.Attribute o "values" apos) [] [] cpos) X.env) :: starEach [] X.env := by rfl) :
    PE X (.Call (.Name "list" p) [.Call (.Attribute o "values" apos) [] [] cpos] [] pos) (tE C W (mValsL ma)) :=
  pe_imp (pe_listVals hc ho hg hm hv hb hl hs) fun σ H Q ⟨Gc, F, ps, R, q⟩ => seqE qE.mono R q fun x ps1 v F1 H1 s1 R1 r1 q1 => by
    cases x with
    | dict kvs =>
      dsimp only at q1
      split at q1
      · exact q1.elim
      · rename_i hh
        have hh : (isDeck (.dict kvs) || kvs.any (fun p => (toKey p.1).isNone)) = false := by simpa using hh
        rw [Bool.or_eq_false_iff] at hh
        cases r1 with
        | dct h1 h2 h3 =>
          rename_i a ks
          refine ⟨a, ks, rfl, R1.fh _ _ h1, fun l n => ?_⟩
          have nf : F1 l = none := R1.fh.free n
          exact q1 (.ref l) _ _ (same_alloc nf) (R1.alloc n) (.lst upd_same (h2.mono (same_alloc nf)))
        | dcT h1 h2 h3 h4 => have hk := hh.2; rw [tk_any h2 h4] at hk; cases hk
        | dz _ _ _ => cases hh.1
        | nt _ _ _ => cases hh.1
        | deck h' => cases hh.1
    | _ => exact q1.elim
end
end MM
namespace MM
open PySem PySem.Spec PyProof.Rows L2
section
variable {C : Mc} {W : WX} {X : Cx}
/-- a, b = x, [..], the second to be our own -/
def mParEL (i j : Nat) (a : ME) (b : MLs) : MS := fun ps => (a ps).bindS fun x ps1 => (b ps1).bindS fun ys ps2 => .next ((ps2.setS j (.ml ys)).setS i (.fz x))
theorem asgEL_ok {i j : Nat} (hij : i ≠ j) {a : ME} {b : MLs} {D : Ends} {σ : St} {H : Hp} (h : tS C W (mParEL i j a b) D σ H) :
    tAsg (tTup (tCons (tE C W a) (tCons (tF C W b) tNil))) (gTup X.K 2 (gCons (gName i) (gCons (gName j) gNil))) D σ H := by
  obtain ⟨Gc, F, ps, R, q⟩ := h
  refine seqES R q fun x ps1 v F1 H1 s1 R1 r1 q1 => ?_
  refine seqFS R1 q1 fun ys ps2 p xs F2 H2 s2 R2 l2 r2 q2 => ?_
  refine ⟨by show 2 ≤ sizeLine; decide, fun t nt => ?_⟩
  obtain ⟨R4, l4⟩ := ((R2.inG l2).fresh (p := t) (o := .tup [v, V.ref p]) nt).outG l2.g
  refine ⟨t, _, rfl, .of upd_same, rfl, _, _, rfl, _, _, rfl, rfl, ?_⟩
  have R5 := (R4.setO (i := j) l4 (s := .ml ys) ⟨p, xs, rfl, l4.h, l4.f, l4.g, r2⟩).set (i := i) (r1.mono s2)
  rw [List.set_comm _ _ (Ne.symm hij)] at R5
  exact q2 _ F2 _ (Same.refl _) R5
theorem parEL_ok {i j : Nat} (hij : i ≠ j) {a : ME} {b : MLs} {D : Ends} {σ : St} {H : Hp} (h : tS C W (mParEL i j a b) D σ H) : tPar i j (tCons (tE C W a) (tCons (tF C W b) tNil)) D σ H := by
  obtain ⟨Gc, F, ps, R, q⟩ := h
  refine seqES R q fun x ps1 v F1 H1 s1 R1 r1 q1 => ?_
  refine seqFS R1 q1 fun ys ps2 p xs F2 H2 s2 R2 l2 r2 q2 => ?_
  refine ⟨_, _, rfl, ?_⟩
  have R5 := (R2.setO (i := j) l2 (s := .ml ys) ⟨p, xs, rfl, l2.h, l2.f, l2.g, r2⟩).set (i := i) (r1.mono s2)
  rw [List.set_comm _ _ (Ne.symm hij)] at R5
  exact q2 _ F2 _ (Same.refl _) R5
variable {pos : Pos}
/-- a, b = a list of two -/
def mGpL (i j : Nat) : MG := fun d ps => match d with
  | .list [x, y] => some ((ps.setS i (.fz x)).setS j (.fz y))
  | _ => none
theorem xg_pairL {i j : Nat} {x y : Str} {k : Nat} {p1 p2 : Pos} (hc : X.calm = true) (hN : X.N.Nodup) (hi : X.N[i]? = some x) (hj : X.N[j]? = some y) (hx : Loc X.env.scope x) (hy : Loc X.env.scope y)
    (h0 : (assignEach [.Name x p1, .Name y p2] X.env).map (·.2) = assign (.Name x p1) X.env :: (assignEach [.Name y p2] X.env).map (·.2) := by rfl) (h1 : (assignEach [.Name y p2] X.env).map (·.2) = assign (.Name y p2) X.env :: (assignEach [] X.env).map (·.2) := by rfl)
    (hn : (assignEach [.Name x p1, .Name y p2] X.env).length = 2 := by rfl) (hst : (assignEach [.Name x p1, .Name y p2] X.env).findIdx? (·.1) = none := by rfl)
    (hf : X.fn x = true ∨ X.env.scope.names.lookup x = some .local := by first | exact .inl rfl | exact .inr rfl | assumption) (hf2 : X.fn y = true ∨ X.env.scope.names.lookup y = some .local := by first | exact .inl rfl | exact .inr rfl | assumption) :
    PG X (.Tuple [.Name x p1, .Name y p2] k pos) (tG C [i, j] (mGpL i j)) :=
  pg_imp (pg_lst (n := 2) hc (pgs_cons (pg_name hN hi hx hf) (pgs_cons (pg_name hN hj hy hf2) pgs_nil h1) h0) hn hst) fun v σ H Q ⟨Gc, F, ps, d, ps', R, r, e, q⟩ => by
    unfold mGpL at e
    split at e
    · cases e
      cases r with
      | lst h r =>
        cases r with
        | cons r1 r =>
          cases r with
          | cons r2 r =>
            cases r
            refine ⟨_, _, rfl, SqL.of (R.fh _ _ h), rfl, _, _, rfl, _, _, rfl, rfl, ?_⟩
            refine q _ F H (Same.refl _) ((R.set r1).set r2) fun vs hv => ?_
            rw [wipe_set (hv j (by simp)), wipe_set (hv i (by simp))]
    · cases e
end
end MM
/-! How the plain functions of the layer MM are worked out: one equation for each form, and laws of loops. -/
namespace PP
open PySem MM L2
section
variable {ps : Ps} {sl : List Sl} {k : Dk} {a b c : ME} {ta tb : MT} {ms : MA} {s1 s2 : MS} {i j l : Nat} {d : D}
@[simp] theorem e_var : mVar i ⟨sl, k⟩ = (match sl[i]? with
  | some (.fz d) => .ok d ⟨sl, k⟩
  | some (.ml ds) => .ok (.list ds) ⟨sl.set i (.fz (.list ds)), k⟩
  | some (.md kvs) => .ok (.dict (kvs.map fun p => (kD p.1, p.2))) ⟨sl.set i (.fz (.dict (kvs.map fun p => (kD p.1, p.2)))), k⟩
  | _ => .bad) := rfl
@[simp] theorem e_c : mC d ps = .ok d ps := rfl
@[simp] theorem e_bin {f : D → D → Option D} : mBin f a b ps = (a ps).bind fun x ps1 => (b ps1).bind fun y ps2 => .of (f x y) ps2 := rfl
@[simp] theorem e_un {f : D → Option D} : mUn f a ps = (a ps).bind fun x ps1 => .of (f x) ps1 := rfl
@[simp] theorem e_tst : mTst a ps = (a ps).bind fun x ps1 => .of (dBool x) ps1 := rfl
@[simp] theorem e_not : mNot ta ps = (ta ps).bind fun x ps1 => .ok (!x) ps1 := rfl
@[simp] theorem e_and : mAnd ta tb ps = (ta ps).bind fun x ps1 => if x = true then tb ps1 else .ok false ps1 := rfl
@[simp] theorem e_or : mOr ta tb ps = (ta ps).bind fun x ps1 => if x = true then .ok true ps1 else tb ps1 := rfl
@[simp] theorem e_andV : mAndV a b ps = (a ps).bind fun x ps1 => (Out.of (dBool x) ps1).bind fun c ps1 => if c = true then b ps1 else .ok (.bool false) ps1 := rfl
@[simp] theorem e_orV : mOrV a b ps = (a ps).bind fun x ps1 => (Out.of (dBool x) ps1).bind fun c ps1 => if c = true then .ok (.bool true) ps1 else b ps1 := rfl
@[simp] theorem e_notV : mNotV a ps = (a ps).bind fun x ps1 => (Out.of (dBool x) ps1).bind fun c ps1 => .ok (.bool (!c)) ps1 := rfl
@[simp] theorem e_if : mIf ta a b ps = (ta ps).bind fun x ps1 => if x = true then a ps1 else b ps1 := rfl
@[simp] theorem e_nil : mNil ps = .ok [] ps := rfl
@[simp] theorem e_cons : mCons a ms ps = (a ps).bind fun x ps1 => (ms ps1).bind fun xs ps2 => .ok (x :: xs) ps2 := rfl
@[simp] theorem e_tup : mTup ms ps = (ms ps).bind fun xs ps1 => if xs.length ≤ sizeLine then .ok (.tuple xs) ps1 else .bad := rfl
@[simp] theorem e_lst : mLst ms ps = (ms ps).bind fun xs ps1 => if xs.length ≤ sizeLine then .ok (.list xs) ps1 else .bad := rfl
@[simp] theorem e_disp : mDisp ms ps = (ms ps).bind fun xs ps1 => if xs.length ≤ sizeLine then .ok xs ps1 else .bad := rfl
@[simp] theorem e_fz {m : MLs} : mFz m ps = (m ps).bind fun ds ps1 => .ok (.list ds) ps1 := rfl
@[simp] theorem e_call {f : MF} : mCall f ms ps = (ms ps).bind fun ds ps1 => match f ds ps1.dk with
  | .ret d k => .ok d ⟨ps1.sl, k⟩
  | _ => .bad := rfl
@[simp] theorem e_callK {f : MF} {g : List D → List D → List D} {m2 : MA} : mCallK f g ms m2 ps = (ms ps).bind fun ds ps1 => (m2 ps1).bind fun es ps2 => match f (g ds es) ps2.dk with
  | .ret d k => .ok d ⟨ps2.sl, k⟩
  | _ => .bad := rfl
@[simp] theorem e_next : mNext ps = .next ps := rfl
@[simp] theorem e_seq : mSeq s1 s2 ps = (match s1 ps with
  | .next ps1 => s2 ps1
  | y => y) := rfl
@[simp] theorem e_ret : mRet a ps = (a ps).bindS fun d ps1 => .ret d ps1 := rfl
@[simp] theorem e_retN : mRetN ps = .ret .none ps := rfl
@[simp] theorem e_drop : mDrop a ps = (a ps).bindS fun _ ps1 => .next ps1 := rfl
@[simp] theorem e_set : mSet i a ps = (a ps).bindS fun d ps1 => .next ⟨ps1.sl.set i (.fz d), ps1.dk⟩ := rfl
@[simp] theorem e_asg {g : MG} : mAsg g a ps = (a ps).bindS fun d ps1 => match g d ps1 with
  | some ps2 => .next ps2
  | none => .bad := rfl
@[simp] theorem e_setS {x : Sl} : Ps.setS ⟨sl, k⟩ i x = ⟨sl.set i x, k⟩ := rfl
@[simp] theorem e_gn : mGn i d ⟨sl, k⟩ = some ⟨sl.set i (.fz d), k⟩ := rfl
@[simp] theorem e_gp {x y : D} : mGp i j (.tuple [x, y]) ⟨sl, k⟩ = some ⟨(sl.set i (.fz x)).set j (.fz y), k⟩ := rfl
@[simp] theorem e_par : mPar i j ms ps = (ms ps).bindS fun ds ps1 => match ds with
  | [x, y] => .next ⟨(ps1.sl.set i (.fz x)).set j (.fz y), ps1.dk⟩
  | _ => .bad := rfl
@[simp] theorem e_par3 : mPar3 i j l ms ps = (ms ps).bindS fun ds ps1 => match ds with
  | [x, y, z] => .next ⟨((ps1.sl.set i (.fz x)).set j (.fz y)).set l (.fz z), ps1.dk⟩
  | _ => .bad := rfl
@[simp] theorem e_parDL {f : Ps → Out (List (Key × D))} {m : MLs} : mParDL i j f m ps = (f ps).bindS fun kvs ps1 => (m ps1).bindS fun ys ps2 => .next ⟨(ps2.sl.set i (.md kvs)).set j (.ml ys), ps2.dk⟩ := rfl
@[simp] theorem e_parDEE {f : Ps → Out (List (Key × D))} : mParDEE i j l f a b ps = (f ps).bindS fun kvs ps1 => (a ps1).bindS fun y ps2 => (b ps2).bindS fun z ps3 => .next ⟨((ps3.sl.set i (.md kvs)).set j (.fz y)).set l (.fz z), ps3.dk⟩ := rfl
@[simp] theorem e_ifS : mIfS ta s1 s2 ps = (ta ps).bindS fun x ps1 => if x = true then s1 ps1 else s2 ps1 := rfl
@[simp] theorem e_own {m : MLs} : mOwn i m ps = (m ps).bindS fun ds ps1 => .next ⟨ps1.sl.set i (.ml ds), ps1.dk⟩ := rfl
@[simp] theorem e_ownD {f : Ps → Out (List (Key × D))} : mOwnD i f ps = (f ps).bindS fun ds ps1 => .next ⟨ps1.sl.set i (.md ds), ps1.dk⟩ := rfl
@[simp] theorem e_b {f : List D → Option D} : mB f ms ps = (ms ps).bind fun ds ps1 => .of (f ds) ps1 := rfl
@[simp] theorem e_noPart : mNoPart ps = .ok none ps := rfl
@[simp] theorem e_part : mPart a ps = (a ps).bind fun x ps1 => (Out.of (dInt x) ps1).bind fun i ps1 => .ok (some i) ps1 := rfl
@[simp] theorem e_sl {o1 o2 : MO} : mSl a o1 o2 ps = (a ps).bind fun x ps1 => (o1 ps1).bind fun lo ps2 => (o2 ps2).bind fun hi ps3 => .of (dSl x lo hi) ps3 := rfl
@[simp] theorem e_iter : mIter a ps = (a ps).bind fun x ps1 => .of (dSeq x) ps1 := rfl
@[simp] theorem e_range1 : mRange1 ms ps = (ms ps).bind fun ds ps1 => .of (dRange1 ds) ps1 := rfl
@[simp] theorem e_range2 : mRange2 ms ps = (ms ps).bind fun ds ps1 => .of (dRange2 ds) ps1 := rfl
@[simp] theorem e_zip : mZip ms ps = (ms ps).bind fun ds ps1 => .of (dZip ds) ps1 := rfl
@[simp] theorem e_for {g : MG} : mFor ms g s1 ps = (ms ps).bindS fun ds ps1 => mLoop g s1 ds ps1 := rfl
@[simp] theorem e_isi {f : D → Bool} : mIsi f a ps = (a ps).bind fun x ps1 => if isDeck x = true then .bad else .ok (.bool (f x)) ps1 := rfl
@[simp] theorem e_peek : peek ⟨sl, k⟩ i = (match sl[i]? with
  | some (.fz d) => some d
  | some (.ml ds) => some (.list ds)
  | some (.md kvs) => some (.dict (kvs.map fun p => (kD p.1, p.2)))
  | _ => none) := rfl
@[simp] theorem e_ixV : mIxV i a ps = (match peek ps i with
  | none => .bad
  | some _ => (a ps).bind fun y ps1 => .of ((peek ps1 i).bind fun x => dIx x y) ps1) := rfl
@[simp] theorem e_bL {f : D → D → Option Bool} : mBL f i a ps = (match peek ps i with
  | none => .bad
  | some _ => (a ps).bind fun y ps1 => (Out.of ((peek ps1 i).bind fun x => f x y) ps1).bind fun k ps1 => .ok (.bool k) ps1) := rfl
@[simp] theorem e_bR {f : D → D → Option Bool} : mBR f a i ps = (a ps).bind fun x ps1 => (Out.of ((peek ps1 i).bind fun y => f x y) ps1).bind fun k ps1 => .ok (.bool k) ps1 := rfl
@[simp] theorem e_append : mAppend i a ps = (match ps.sl[i]? with
  | some (.ml _) => (a ps).bind fun d ps1 => match ps1.sl[i]? with
    | some (.ml ds) => if ds.length < sizeLine then .ok .none ⟨ps1.sl.set i (.ml (ds ++ [d])), ps1.dk⟩ else .bad
    | _ => .bad
  | _ => .bad) := rfl
@[simp] theorem e_pop : mPop i ps = (match ps.sl[i]? with
  | some (.ml ds) => match ds.getLast? with
    | some d => .ok d ⟨ps.sl.set i (.ml ds.dropLast), ps.dk⟩
    | none => .bad
  | _ => .bad) := rfl
@[simp] theorem e_put : mPut i a b ps = (b ps).bindS fun v ps1 => match ps1.sl[i]? with
  | some (.md _) => (a ps1).bindS fun y ps2 => match ps2.sl[i]? with
    | some (.md kvs) => match toKey y with
      | some k => if kvs.length < sizeLine then .next ⟨ps2.sl.set i (.md (putD kvs k v)), ps2.dk⟩ else .bad
      | none => .bad
    | _ => .bad
  | _ => .bad := rfl
@[simp] theorem e_pairs0 : mPairs [] ps = .ok [] ps := rfl
@[simp] theorem e_pairs1 {r : List (ME × ME)} : mPairs ((a, b) :: r) ps = (a ps).bind fun x ps1 => (b ps1).bind fun y ps2 => (mPairs r ps2).bind fun xs ps3 => .ok ((x, y) :: xs) ps3 := rfl
@[simp] theorem e_dict {r : List (ME × ME)} : mDict r ps = (mPairs r ps).bind fun xs ps1 => match toKeys xs with
  | some kvs => if kvs.length ≤ 15 then .ok (mergeD kvs) ps1 else .bad
  | none => .bad := rfl
@[simp] theorem e_fzD {f : Ps → Out (List (Key × D))} : mFzD f ps = (f ps).bind fun ds ps1 => .ok (dctD ds) ps1 := rfl
@[simp] theorem e_newD : mNewD ps = .ok [] ps := rfl
@[simp] theorem e_yes : mYes ps = .ok true ps := rfl
@[simp] theorem e_chain {f g : D → D → Option D} : mChain f g a b c ps = (a ps).bind fun x ps1 => (b ps1).bind fun y ps2 => (Out.of ((f x y).bind dBool) ps2).bind fun k ps2 => if k = true then (c ps2).bind fun z ps3 => .of (g y z) ps3 else .ok (.bool false) ps2 := by first | rfl | (unfold mChain; rfl)
@[simp] theorem e_lenV : mLenV i ps = .of ((peek ps i).bind fun x => dLen [x]) ps := rfl
end
/-! ### the data -/
def iD (n : Nat) : D := .int (n : Int)
def iDs (xs : List Nat) : List D := xs.map iD
def LD (xs : List Nat) : D := .list (iDs xs)
def TD (xs : List Nat) : D := .tuple (iDs xs)
theorem iD_map (xs : List Nat) : iDs xs = (xs.map fun n : Nat => (n : Int)).map PyData.int := by unfold iDs; rw [List.map_map]; rfl
theorem cast_inj {xs ys : List Nat} : (xs.map fun n : Nat => (n : Int)) = (ys.map fun n : Nat => (n : Int)) ↔ xs = ys := by
  constructor
  · intro h
    have := congrArg (List.map Int.toNat) h
    simpa [List.map_map, Function.comp_def] using this
  · rintro rfl; rfl
@[simp] theorem eqv_iD (a b : Nat) : PyData.eqv (iD a) (iD b) = decide (a = b) := by
  show ((a : Int) == (b : Int)) = _
  by_cases h : a = b
  · subst h; simp
  · have : ¬ (a : Int) = b := by omega
    simp [h, this]
@[simp] theorem eqvAll_iD (xs ys : List Nat) : PyData.eqvAll (iDs xs) (iDs ys) = decide (xs = ys) := by
  rw [iD_map, iD_map, PySem.W.ked_eqvAll]
  exact decide_eq_decide.mpr cast_inj
@[simp] theorem eqv_LD (xs ys : List Nat) : PyData.eqv (LD xs) (LD ys) = decide (xs = ys) := by
  unfold LD; simp [PyData.eqv]
@[simp] theorem eqv_TD (xs ys : List Nat) : PyData.eqv (TD xs) (TD ys) = decide (xs = ys) := by
  unfold TD; simp [PyData.eqv]
@[simp] theorem shaped_iD (a : Nat) : SeqAt.shaped (iD a) = true := rfl
@[simp] theorem shaped_LD (xs : List Nat) : SeqAt.shaped (LD xs) = true := by
  unfold LD; rw [iD_map]; exact PySem.W.ke_shaped_ints _
@[simp] theorem shaped_TD (xs : List Nat) : SeqAt.shaped (TD xs) = true := by
  unfold TD; rw [iD_map]
  unfold SeqAt.shaped
  rw [Bool.and_eq_true]
  refine ⟨?_, decide_eq_true ?_⟩
  · rw [PyData.canLay0, PySem.W.ke_canLayAll0]
  · rw [PyData.depth, PySem.W.ke_depthAll]; omega
@[simp] theorem dEq_iD (a b : Nat) : dEq (iD a) (iD b) = some (.bool (decide (a = b))) := by simp [dEq]
@[simp] theorem dNe_iD (a b : Nat) : dNe (iD a) (iD b) = some (.bool (!decide (a = b))) := by simp [dNe]
@[simp] theorem dEq_LD (a b : List Nat) : dEq (LD a) (LD b) = some (.bool (decide (a = b))) := by simp [dEq]
@[simp] theorem dNe_LD (a b : List Nat) : dNe (LD a) (LD b) = some (.bool (!decide (a = b))) := by simp [dNe]
@[simp] theorem dEq_TD (a b : List Nat) : dEq (TD a) (TD b) = some (.bool (decide (a = b))) := by simp [dEq]
@[simp] theorem dNe_TD (a b : List Nat) : dNe (TD a) (TD b) = some (.bool (!decide (a = b))) := by simp [dNe]
@[simp] theorem bNe_LD (a b : List Nat) : bNe (LD a) (LD b) = some (!decide (a = b)) := by simp [bNe]
theorem any_iD (xs : List Nat) (x : Nat) : ((iDs xs).any fun z => PyData.eqv z (iD x)) = decide (x ∈ xs) := by
  induction xs with
  | nil => simp [iDs]
  | cons y ys ih =>
    show (PyData.eqv (iD y) (iD x) || (iDs ys).any fun z => PyData.eqv z (iD x)) = _
    rw [ih, eqv_iD]
    by_cases h : y = x
    · subst h; simp
    · have : ¬ x = y := fun z => h z.symm
      simp [h, this]
@[simp] theorem dInB_LD (x : Nat) (xs : List Nat) : dInB (iD x) (LD xs) = some (decide (x ∈ xs)) := by
  have h := shaped_LD xs
  unfold LD at h ⊢
  simp only [dInB, h, shaped_iD, Bool.and_self, if_true, any_iD]
@[simp] theorem dInB_TD (x : Nat) (xs : List Nat) : dInB (iD x) (TD xs) = some (decide (x ∈ xs)) := by
  have h := shaped_TD xs
  unfold TD at h ⊢
  simp only [dInB, h, shaped_iD, Bool.and_self, if_true, any_iD]
@[simp] theorem dIn_LD (x : Nat) (xs : List Nat) : dIn (iD x) (LD xs) = some (.bool (decide (x ∈ xs))) := by simp [dIn]
@[simp] theorem dNotIn_LD (x : Nat) (xs : List Nat) : dNotIn (iD x) (LD xs) = some (.bool (!decide (x ∈ xs))) := by simp [dNotIn]
@[simp] theorem dIn_TD (x : Nat) (xs : List Nat) : dIn (iD x) (TD xs) = some (.bool (decide (x ∈ xs))) := by simp [dIn]
@[simp] theorem dNotIn_TD (x : Nat) (xs : List Nat) : dNotIn (iD x) (TD xs) = some (.bool (!decide (x ∈ xs))) := by simp [dNotIn]
@[simp] theorem dBool_b (b : Bool) : dBool (.bool b) = some b := rfl
@[simp] theorem dSeq_list (xs : List D) : dSeq (.list xs) = some xs := rfl
@[simp] theorem dSeq_tuple (xs : List D) : dSeq (.tuple xs) = some xs := rfl
@[simp] theorem dSeq_LD (xs : List Nat) : dSeq (LD xs) = some (iDs xs) := rfl
@[simp] theorem dSeq_TD (xs : List Nat) : dSeq (TD xs) = some (iDs xs) := rfl
@[simp] theorem dLen_LD (xs : List Nat) : dLen [LD xs] = some (iD xs.length) := by unfold LD iDs; simp [dLen, iD]
@[simp] theorem dLen_TD (xs : List Nat) : dLen [TD xs] = some (iD xs.length) := by unfold TD iDs; simp [dLen, iD]
@[simp] theorem dTuple_LD (xs : List Nat) : dTuple [LD xs] = some (TD xs) := rfl
@[simp] theorem dList_TD (xs : List Nat) : dList [TD xs] = some (LD xs) := rfl
@[simp] theorem dRev_LD (xs : List Nat) : dRev (LD xs) = some (LD xs.reverse) := by unfold LD iDs; simp [dRev]
@[simp] theorem dRev_TD (xs : List Nat) : dRev (TD xs) = some (TD xs.reverse) := by unfold TD iDs; simp [dRev]
theorem dAdd_LD {xs ys : List Nat} (h : xs.length + ys.length ≤ 16777216) : dAdd (LD xs) (LD ys) = some (LD (xs ++ ys)) := by
  unfold LD iDs; simp [dAdd, sizeLine, h]
theorem dAdd_TD {xs ys : List Nat} (h : xs.length + ys.length ≤ 16777216) : dAdd (TD xs) (TD ys) = some (TD (xs ++ ys)) := by
  unfold TD iDs; simp [dAdd, sizeLine, h]
@[simp] theorem dAdd_int (x y : Int) : dAdd (.int x) (.int y) = some (.int (x + y)) := rfl
@[simp] theorem dSub_int (x y : Int) : dSub (.int x) (.int y) = some (.int (x - y)) := rfl
theorem iD_def (n : Nat) : iD n = .int (n : Int) := rfl
theorem ixN_nat {n i : Nat} (h : i < n) : ixN n (i : Int) = some i := by unfold ixN; simp; omega
theorem atI_nat {α : Type} {xs : List α} {i : Nat} {d : α} (h : xs[i]? = some d) : atI xs (i : Int) = some d := by
  obtain ⟨hl, _⟩ := List.getElem?_eq_some_iff.mp h
  unfold atI
  rw [ixN_nat hl]
  simpa using h
theorem dIx_TD {xs : List Nat} {i v : Nat} (h : xs[i]? = some v) : dIx (TD xs) (iD i) = some (iD v) := by
  show atI (iDs xs) (i : Int) = _
  exact atI_nat (by unfold iDs; rw [List.getElem?_map, h]; rfl)
theorem dIx_LD {xs : List Nat} {i v : Nat} (h : xs[i]? = some v) : dIx (LD xs) (iD i) = some (iD v) := by
  show atI (iDs xs) (i : Int) = _
  exact atI_nat (by unfold iDs; rw [List.getElem?_map, h]; rfl)
theorem iD_sub {a b : Nat} (h : b ≤ a) : (PyData.int ((a : Int) - (b : Int))) = iD (a - b) := by unfold iD; congr 1; omega
/-! ### loops -/
/-- what holds of the things gone through and the state -/
theorem loop_inv {g : MG} {body : MS} (P : List D → Ps → Prop) {ds : List D} {ps : Ps} (h0 : P [] ps)
    (h : ∀ done d rest ps, ds = done ++ d :: rest → P done ps → ∃ ps1 ps2, g d ps = some ps1 ∧ (body ps1 = .next ps2 ∨ body ps1 = .cont ps2) ∧ P (done ++ [d]) ps2) : ∃ ps', mLoop g body ds ps = .next ps' ∧ P ds ps' := by
  have key : ∀ (rest done : List D) (ps : Ps), ds = done ++ rest → P done ps → ∃ ps', mLoop g body rest ps = .next ps' ∧ P ds ps' := by
    intro rest
    induction rest with
    | nil => intro done ps e p; rw [List.append_nil] at e; subst e; exact ⟨ps, rfl, p⟩
    | cons d rest ih =>
      intro done ps e p
      obtain ⟨ps1, ps2, e1, e2, p2⟩ := h done d rest ps e p
      obtain ⟨ps', e3, p3⟩ := ih (done ++ [d]) ps2 (by rw [e, List.append_assoc]; rfl) p2
      refine ⟨ps', ?_, p3⟩
      unfold mLoop
      rw [e1]
      rcases e2 with e2 | e2
      · simp only [e2]; exact e3
      · simp only [e2]; exact e3
  exact key ds [] ps rfl h0
/-- the same of a list of numbers -/
theorem loop_nat {g : MG} {body : MS} (P : List Nat → Ps → Prop) {xs : List Nat} {ps : Ps} (h0 : P [] ps)
    (h : ∀ done x rest ps, xs = done ++ x :: rest → P done ps → ∃ ps1 ps2, g (iD x) ps = some ps1 ∧ (body ps1 = .next ps2 ∨ body ps1 = .cont ps2) ∧ P (done ++ [x]) ps2) : ∃ ps', mLoop g body (iDs xs) ps = .next ps' ∧ P xs ps' := by
  have key : ∀ (rest done : List Nat) (ps : Ps), xs = done ++ rest → P done ps → ∃ ps', mLoop g body (iDs rest) ps = .next ps' ∧ P xs ps' := by
    intro rest
    induction rest with
    | nil => intro done ps e p; rw [List.append_nil] at e; subst e; exact ⟨ps, rfl, p⟩
    | cons d rest ih =>
      intro done ps e p
      obtain ⟨ps1, ps2, e1, e2, p2⟩ := h done d rest ps e p
      obtain ⟨ps', e3, p3⟩ := ih (done ++ [d]) ps2 (by rw [e, List.append_assoc]; rfl) p2
      refine ⟨ps', ?_, p3⟩
      show mLoop g body (iD d :: iDs rest) ps = .next ps'
      unfold mLoop
      rw [e1]
      rcases e2 with e2 | e2
      · simp only [e2]; exact e3
      · simp only [e2]; exact e3
  exact key xs [] ps rfl h0
/-- while, with what falls -/
theorem while_inv {t : MT} {body : MS} (P : Nat → Ps → Prop) (Q : Ps → Prop) {n : Nat} {ps : Ps} (h0 : P n ps)
    (h : ∀ m ps, P m ps → (∃ ps1, t ps = .ok false ps1 ∧ Q ps1) ∨ (∃ m' ps1 ps2, m' < m ∧ t ps = .ok true ps1 ∧ (body ps1 = .next ps2 ∨ body ps1 = .cont ps2) ∧ P m' ps2)) {fuel : Nat} (hf : n < fuel) : ∃ ps', mWhile t body fuel ps = .next ps' ∧ Q ps' := by
  induction fuel generalizing n ps with
  | zero => omega
  | succ f ih =>
    unfold mWhile
    rcases h n ps h0 with ⟨ps1, e, q⟩ | ⟨m', ps1, ps2, e0, e, e2, p⟩
    · rw [e]; exact ⟨ps1, rfl, q⟩
    · obtain ⟨ps', e3, q⟩ := ih p (by omega)
      refine ⟨ps', ?_, q⟩
      rw [e]
      rcases e2 with e2 | e2
      · simp only [Out.bindS_ok, if_true, e2]; exact e3
      · simp only [Out.bindS_ok, if_true, e2]; exact e3
/-- a comprehension over numbers that leaves the state as it was -/
theorem cl_nat {g : MG} {tt : MT} {te : ME} {vs : List Nat} {ps : Ps} (p : Nat → Bool) (f : Nat → D) : ∀ (xs : List Nat) (acc : List D), acc.length + xs.length ≤ 16777216 →
    (∀ x ∈ xs, ∃ ps1 ps2, g (iD x) ps = some ps1 ∧ tt ps1 = .ok (p x) ps2 ∧ (p x = false → wipeP ps2 vs = ps) ∧ (p x = true → ∃ ps3, te ps2 = .ok (f x) ps3 ∧ wipeP ps3 vs = ps)) →
    mCl g tt te vs (iDs xs) acc ps = .ok (acc ++ (xs.filter p).map f) ps
  | [], acc, _, _ => by simp [mCl, iDs]
  | x :: xs, acc, hl, h => by
    obtain ⟨ps1, ps2, e1, e2, h1, h2⟩ := h x (by simp)
    rw [List.length_cons] at hl
    show mCl g tt te vs (iD x :: iDs xs) acc ps = _
    unfold mCl
    rw [e1]
    simp only [e2]
    cases hp : p x with
    | true =>
      obtain ⟨ps3, e3, e4⟩ := h2 hp
      simp only [if_true, e3]
      rw [if_pos (by show acc.length < 2 ^ 24; omega), e4, cl_nat p f xs (acc ++ [f x]) (by simp; omega) (fun y hy => h y (by simp [hy]))]
      simp [hp]
    | false =>
      simp only [Bool.false_eq_true, if_false]
      rw [h1 hp, cl_nat p f xs acc (by omega) (fun y hy => h y (by simp [hy]))]
      simp [hp]
theorem comp_nat {mi : MA} {g : MG} {tt : MT} {te : ME} {vs : List Nat} {ps ps0 : Ps} (p : Nat → Bool) (f : Nat → D) {xs : List Nat} (hi : ((mi ps).bind fun ds q => .ok ds (wipeP q vs)) = .ok (iDs xs) ps0) (hw : wipeP ps0 vs = ps0) (hl : xs.length ≤ 16777216)
    (h : ∀ x ∈ xs, ∃ ps1 ps2, g (iD x) ps0 = some ps1 ∧ tt ps1 = .ok (p x) ps2 ∧ (p x = false → wipeP ps2 vs = ps0) ∧ (p x = true → ∃ ps3, te ps2 = .ok (f x) ps3 ∧ wipeP ps3 vs = ps0)) :
    mComp mi g tt te vs ps = .ok ((xs.filter p).map f) ps0 := by
  unfold mComp
  cases e : mi ps with
  | ok ds q =>
    rw [e] at hi
    injection hi with e1 e2
    subst e1
    simp only [Out.bind_ok]
    rw [e2, cl_nat p f xs [] (by simpa using hl) h]
    simp only [Out.bind_ok, hw, List.nil_append]
  | exc x q => rw [e] at hi; cases hi
  | bad => rw [e] at hi; cases hi
theorem rangeD0 (n : Nat) : rangeD 0 n = iDs (List.range n) := by
  unfold rangeD iDs
  refine List.map_congr_left fun i _ => ?_
  simp [iD]
theorem dRange1_iD {n : Nat} (h : n < 4611686018427387904) : dRange1 [iD n] = some (iDs (List.range n)) := by
  have e : dRange1 [iD n] = if decide ((n : Int).natAbs < 4611686018427387904) = true then some (rangeD 0 (n : Int).toNat) else none := by
    unfold dRange1 iD
    dsimp only
  rw [e, if_pos (decide_eq_true (by omega)), Int.toNat_natCast, rangeD0]
theorem comp_iD {mi : MA} {g : MG} {tt : MT} {te : ME} {vs : List Nat} {ps ps0 : Ps} (p : Nat → Bool) (f : Nat → Nat) {xs : List Nat} (hi : ((mi ps).bind fun ds q => .ok ds (wipeP q vs)) = .ok (iDs xs) ps0) (hw : wipeP ps0 vs = ps0) (hl : xs.length ≤ 16777216)
    (h : ∀ x ∈ xs, ∃ ps1 ps2, g (iD x) ps0 = some ps1 ∧ tt ps1 = .ok (p x) ps2 ∧ (p x = false → wipeP ps2 vs = ps0) ∧ (p x = true → ∃ ps3, te ps2 = .ok (iD (f x)) ps3 ∧ wipeP ps3 vs = ps0)) :
    mComp mi g tt te vs ps = .ok (iDs ((xs.filter p).map f)) ps0 := by
  rw [comp_nat p (fun x => iD (f x)) hi hw hl h]
  unfold iDs
  rw [List.map_map]; rfl
@[simp] theorem iDs_list (xs : List Nat) : PyData.list (iDs xs) = LD xs := rfl
@[simp] theorem iDs_tuple (xs : List Nat) : PyData.tuple (iDs xs) = TD xs := rfl
@[simp] theorem iDs_len (xs : List Nat) : (iDs xs).length = xs.length := by unfold iDs; simp
@[simp] theorem iDs_app (xs ys : List Nat) : iDs xs ++ iDs ys = iDs (xs ++ ys) := by unfold iDs; simp
@[simp] theorem iDs_snoc (xs : List Nat) (x : Nat) : iDs xs ++ [iD x] = iDs (xs ++ [x]) := by unfold iDs; simp
theorem iDs_one (x : Nat) : [iD x] = iDs [x] := rfl
@[simp] theorem e_wipe (sl : List Sl) (k : Dk) (vs : List Nat) : wipeP ⟨sl, k⟩ vs = ⟨wipeS sl vs, k⟩ := rfl
@[simp] theorem e_wipe0 (sl : List Sl) : wipeS sl [] = sl := rfl
@[simp] theorem e_wipe1 (sl : List Sl) (v : Nat) (vs : List Nat) : wipeS sl (v :: vs) = (wipeS sl vs).set v .no := rfl
theorem ixN_neg1 {n : Nat} (h : 0 < n) : ixN n (-1) = some (n - 1) := by
  unfold ixN
  simp
  omega
theorem atI_last {α : Type} (xs : List α) (x : α) : atI (xs ++ [x]) (-1) = some x := by
  unfold atI
  rw [ixN_neg1 (by simp)]
  simp
@[simp] theorem dIx_last (xs : List Nat) (x : Nat) : dIx (LD (xs ++ [x])) (.int (-1)) = some (iD x) := by
  have : LD (xs ++ [x]) = .list (iDs xs ++ [iD x]) := by unfold LD; rw [iDs_snoc]
  rw [this]
  exact atI_last _ _
@[simp] theorem dNeg_int (x : Int) : dNeg (.int x) = some (.int (-x)) := rfl
end PP
/-! Trees by parents, each below its child: ways, branches between. -/
namespace PP
structure Tr where
  p : Nat → Nat
  hp : ∀ x, 0 < x → p x < x
namespace Tr
def anc (T : Tr) (x : Nat) : List Nat := if h : x = 0 then [0] else x :: T.anc (T.p x)
termination_by x
decreasing_by exact T.hp x (by omega)
def path (T : Tr) (a b : Nat) : List Nat := if a = b then [a] else if h : b < a then a :: T.path (T.p a) b else T.path a (T.p b) ++ [b]
termination_by a + b
decreasing_by
  · have := T.hp a (by omega); omega
  · have := T.hp b (by omega); omega
def d (T : Tr) (a b : Nat) : Nat := if a = b then 0 else if h : b < a then T.d (T.p a) b + 1 else T.d a (T.p b) + 1
termination_by a + b
decreasing_by
  · have := T.hp a (by omega); omega
  · have := T.hp b (by omega); omega
/-- the next place from a to b -/
def nx (T : Tr) (a b : Nat) : Nat := if b < a then T.p a else if a = T.p b then b else if h : a < b then T.nx a (T.p b) else a
termination_by b
decreasing_by exact T.hp b (by omega)
variable {T : Tr}
theorem path_self (a : Nat) : T.path a a = [a] := by rw [path, if_pos rfl]
theorem path_up {a b : Nat} (h : b < a) : T.path a b = a :: T.path (T.p a) b := by rw [path, if_neg (by omega), dif_pos h]
theorem path_dn {a b : Nat} (h : a < b) : T.path a b = T.path a (T.p b) ++ [b] := by rw [path, if_neg (by omega), dif_neg (by omega)]
theorem d_self (a : Nat) : T.d a a = 0 := by rw [d, if_pos rfl]
theorem d_up {a b : Nat} (h : b < a) : T.d a b = T.d (T.p a) b + 1 := by rw [d, if_neg (by omega), dif_pos h]
theorem d_dn {a b : Nat} (h : a < b) : T.d a b = T.d a (T.p b) + 1 := by rw [d, if_neg (by omega), dif_neg (by omega)]
theorem nx_up {a b : Nat} (h : b < a) : T.nx a b = T.p a := by rw [nx, if_pos h]
theorem nx_dn1 {b : Nat} (h : 0 < b) : T.nx (T.p b) b = b := by
  have := T.hp b h
  rw [nx, if_neg (by omega), if_pos rfl]
theorem nx_dn {a b : Nat} (h : a < b) (n : a ≠ T.p b) : T.nx a b = T.nx a (T.p b) := by rw [nx, if_neg (by omega), if_neg n, dif_pos h]
/-- two numbers at once -/
theorem two {P : Nat → Nat → Prop} (h0 : ∀ a, P a a) (hu : ∀ a b, b < a → P (T.p a) b → P a b) (hd : ∀ a b, a < b → P a (T.p b) → P a b) (a b : Nat) : P a b := by
  have key : ∀ n a b, a + b < n → P a b := by
    intro n
    induction n with
    | zero => intro a b h; omega
    | succ n ih =>
      intro a b h
      by_cases h1 : b < a
      · exact hu a b h1 (ih _ _ (by have := T.hp a (by omega); omega))
      · by_cases h2 : a < b
        · exact hd a b h2 (ih _ _ (by have := T.hp b (by omega); omega))
        · have : a = b := by omega
          subst this; exact h0 a
  exact key (a + b + 1) a b (by omega)
theorem anc_zero : T.anc 0 = [0] := by rw [anc, dif_pos rfl]
theorem anc_pos {x : Nat} (h : 0 < x) : T.anc x = x :: T.anc (T.p x) := by rw [anc, dif_neg (by omega)]
theorem anc_le {x y : Nat} (h : y ∈ T.anc x) : y ≤ x := by
  induction x using Nat.strongRecOn with
  | ind x ih =>
    by_cases hx : 0 < x
    · rw [anc_pos hx, List.mem_cons] at h
      rcases h with h | h
      · omega
      · have := ih _ (T.hp x hx) h; have := T.hp x hx; omega
    · have : x = 0 := by omega
      subst this
      rw [anc_zero, List.mem_singleton] at h; omega
theorem anc_head (x : Nat) : ∃ r, T.anc x = x :: r := by
  by_cases hx : 0 < x
  · exact ⟨_, anc_pos hx⟩
  · have : x = 0 := by omega
    subst this; exact ⟨[], anc_zero⟩
theorem anc_self (x : Nat) : x ∈ T.anc x := by obtain ⟨r, e⟩ := anc_head (T := T) x; rw [e]; simp
theorem anc_not {x b : Nat} (h : b < x) : x ∉ T.anc b := fun z => by have := anc_le z; omega
def way (T : Tr) (a b : Nat) : List Nat := ((T.anc a).filter fun x => !decide (x ∈ T.anc b)) ++ ((T.anc a).filter fun x => decide (x ∈ T.anc b)).take 1 ++ ((T.anc b).filter fun x => !decide (x ∈ T.anc a)).reverse
theorem filter_true {α : Type} {xs : List α} {p : α → Bool} (h : ∀ x ∈ xs, p x = true) : xs.filter p = xs := List.filter_eq_self.mpr h
theorem filter_false {α : Type} {xs : List α} {p : α → Bool} (h : ∀ x ∈ xs, p x = false) : xs.filter p = [] := List.filter_eq_nil_iff.mpr fun x hx => by rw [h x hx]; simp
theorem way_path (a b : Nat) : way T a b = T.path a b := by
  refine two (T := T) (P := fun a b => way T a b = T.path a b) ?_ ?_ ?_ a b
  · intro a
    unfold way
    rw [path_self, filter_false (fun x hx => by simp [hx]), filter_true (p := fun x => decide (x ∈ T.anc a)) (fun x hx => by simp [hx])]
    obtain ⟨r, e⟩ := anc_head (T := T) a
    rw [e]; rfl
  · intro a b h ih
    have hn := anc_not (T := T) h
    rw [path_up h, ← ih]
    unfold way
    have e := anc_pos (T := T) (x := a) (by omega)
    have e2 : (T.anc b).filter (fun x => !decide (x ∈ T.anc a)) = (T.anc b).filter (fun x => !decide (x ∈ T.anc (T.p a))) := by
      refine List.filter_congr fun x hx => ?_
      have : x ≠ a := fun z => hn (z ▸ hx)
      rw [e]; simp [this]
    rw [e2, e, List.filter_cons_of_pos (by simp [hn]), List.filter_cons_of_neg (by simp [hn])]
    rfl
  · intro a b h ih
    have hn := anc_not (T := T) h
    rw [path_dn h, ← ih]
    unfold way
    have e := anc_pos (T := T) (x := b) (by omega)
    have e2 : (T.anc a).filter (fun x => !decide (x ∈ T.anc b)) = (T.anc a).filter (fun x => !decide (x ∈ T.anc (T.p b))) := by
      refine List.filter_congr fun x hx => ?_
      have : x ≠ b := fun z => hn (z ▸ hx)
      rw [e]; simp [this]
    have e3 : (T.anc a).filter (fun x => decide (x ∈ T.anc b)) = (T.anc a).filter (fun x => decide (x ∈ T.anc (T.p b))) := by
      refine List.filter_congr fun x hx => ?_
      have : x ≠ b := fun z => hn (z ▸ hx)
      rw [e]; simp [this]
    rw [e2, e3, e, List.filter_cons_of_pos (by simp [hn])]
    simp [List.append_assoc]
theorem path_len (a b : Nat) : (T.path a b).length = T.d a b + 1 := by
  refine two (T := T) (P := fun a b => (T.path a b).length = T.d a b + 1) ?_ ?_ ?_ a b
  · intro a; rw [path_self, d_self]; rfl
  · intro a b h ih; rw [path_up h, d_up h, List.length_cons, ih]
  · intro a b h ih; rw [path_dn h, d_dn h, List.length_append, ih]; rfl
theorem path_rev (a b : Nat) : T.path b a = (T.path a b).reverse := by
  refine two (T := T) (P := fun a b => T.path b a = (T.path a b).reverse) ?_ ?_ ?_ a b
  · intro a; rw [path_self]; rfl
  · intro a b h ih; rw [path_up h, path_dn h, List.reverse_cons, ih]
  · intro a b h ih; rw [path_dn h, path_up h, List.reverse_append, ih]; rfl
theorem d_comm (a b : Nat) : T.d b a = T.d a b := by
  have h1 := path_len (T := T) a b
  have h2 := path_len (T := T) b a
  rw [path_rev, List.length_reverse] at h2
  omega
theorem nx_max {a b : Nat} (h : a ≠ b) : T.nx a b ≤ max a b := by
  induction b using Nat.strongRecOn with
  | ind b ih =>
    by_cases h1 : b < a
    · rw [nx_up h1]; have := T.hp a (by omega); omega
    · have h2 : a < b := by omega
      have hb := T.hp b (by omega)
      by_cases h3 : a = T.p b
      · rw [h3, nx_dn1 (by omega)]; omega
      · rw [nx_dn h2 h3]; have := ih _ hb h3; omega
theorem path_nx {a b : Nat} (h : a ≠ b) : T.path a b = a :: T.path (T.nx a b) b := by
  induction b using Nat.strongRecOn with
  | ind b ih =>
    by_cases h1 : b < a
    · rw [nx_up h1, path_up h1]
    · have h2 : a < b := by omega
      have hb := T.hp b (by omega)
      by_cases h3 : a = T.p b
      · rw [path_dn h2, h3, nx_dn1 (by omega), path_self, path_self]; rfl
      · rw [nx_dn h2 h3, path_dn h2, ih _ hb h3]
        have := nx_max (T := T) h3
        rw [path_dn (a := T.nx a (T.p b)) (b := b) (by omega)]
        rfl
theorem d_nx {a b : Nat} (h : a ≠ b) : T.d a b = T.d (T.nx a b) b + 1 := by
  have h1 := path_len (T := T) a b
  have h2 := path_len (T := T) (T.nx a b) b
  rw [path_nx h, List.length_cons] at h1
  omega
theorem d_zero {a b : Nat} (h : T.d a b = 0) : a = b := by
  by_cases e : a = b
  · exact e
  · rw [d_nx e] at h; omega
/-- two places that a branch joins -/
def adj (T : Tr) (x y : Nat) : Prop := (0 < x ∧ y = T.p x) ∨ (0 < y ∧ x = T.p y)
theorem adj.symm {x y : Nat} (h : adj T x y) : adj T y x := Or.symm h
theorem nx_adj {a b : Nat} (h : a ≠ b) : adj T a (T.nx a b) := by
  induction b using Nat.strongRecOn with
  | ind b ih =>
    by_cases h1 : b < a
    · rw [nx_up h1]; exact .inl ⟨by omega, rfl⟩
    · have h2 : a < b := by omega
      have hb := T.hp b (by omega)
      by_cases h3 : a = T.p b
      · rw [h3, nx_dn1 (by omega)]; exact .inr ⟨by omega, rfl⟩
      · rw [nx_dn h2 h3]; exact ih _ hb h3
theorem edge {x b : Nat} (hx : 0 < x) : (x ≠ b ∧ T.nx x b = T.p x) ∨ (T.p x ≠ b ∧ T.nx (T.p x) b = x) := by
  have hp := T.hp x hx
  induction b using Nat.strongRecOn with
  | ind b ih =>
    by_cases h1 : b < x
    · exact .inl ⟨by omega, nx_up h1⟩
    · by_cases h2 : x = b
      · subst h2; exact .inr ⟨by omega, nx_dn1 hx⟩
      · have h3 : x < b := by omega
        have hb := T.hp b (by omega)
        by_cases h4 : x = T.p b
        · refine .inr ⟨by omega, ?_⟩
          rw [nx_dn (by omega) (by omega), ← h4]; exact nx_dn1 hx
        · rcases ih _ hb with ⟨a1, a2⟩ | ⟨a1, a2⟩
          · exact .inl ⟨h2, by rw [nx_dn h3 h4]; exact a2⟩
          · exact .inr ⟨by omega, by rw [nx_dn (by omega) a1]; exact a2⟩
theorem adj_nx {x y b : Nat} (h : adj T x y) : (x ≠ b ∧ T.nx x b = y) ∨ (y ≠ b ∧ T.nx y b = x) := by
  rcases h with ⟨h, e⟩ | ⟨h, e⟩
  · subst e; exact edge h
  · subst e; exact (edge h).symm
theorem adj_d {x y b : Nat} (h : adj T x y) : T.d x b = T.d y b + 1 ∨ T.d y b = T.d x b + 1 := by
  rcases adj_nx (b := b) h with ⟨h1, h2⟩ | ⟨h1, h2⟩
  · left; rw [d_nx h1, h2]
  · right; rw [d_nx h1, h2]
theorem tri (a b c : Nat) : T.d a c ≤ T.d a b + T.d b c := by
  generalize hn : T.d a b = n
  induction n generalizing a with
  | zero => have := d_zero hn; subst this; omega
  | succ n ih =>
    have hab : a ≠ b := fun z => by rw [z, d_self] at hn; omega
    have h1 := d_nx (T := T) hab
    have h2 := ih (T.nx a b) (by omega)
    rcases adj_d (b := c) (nx_adj (T := T) hab) with h | h <;> omega
theorem mem_path {a b x : Nat} : x ∈ T.path a b ↔ T.d a x + T.d x b = T.d a b := by
  generalize hn : T.d a b = n
  induction n generalizing a with
  | zero =>
    have := d_zero hn; subst this
    rw [path_self, List.mem_singleton]
    constructor
    · rintro rfl; rw [d_self]
    · intro h; exact (d_zero (T := T) (by omega : T.d x a = 0))
  | succ n ih =>
    have hab : a ≠ b := fun z => by rw [z, d_self] at hn; omega
    have h1 := d_nx (T := T) hab
    have h2 := ih (a := T.nx a b) (by omega)
    rw [path_nx hab, List.mem_cons]
    constructor
    · rintro (rfl | h)
      · rw [d_self]; omega
      · have h3 := h2.mp h
        have h4 := tri (T := T) a x b
        rcases adj_d (b := x) (nx_adj (T := T) hab) with h | h <;> omega
    · intro h
      by_cases hx : x = a
      · exact .inl hx
      · right
        have hax : a ≠ x := fun z => hx z.symm
        have h3 := d_nx (T := T) hax
        have h4 := tri (T := T) (T.nx a x) x b
        have h5 : T.nx a b = T.nx a x := by
          rcases adj_nx (b := b) (nx_adj (T := T) hax) with ⟨_, h6⟩ | ⟨h6, h7⟩
          · exact h6
          · have := d_nx (T := T) h6; rw [h7] at this; omega
        exact h2.mpr (by rw [h5]; omega)
theorem path_nodup (a b : Nat) : (T.path a b).Nodup := by
  generalize hn : T.d a b = n
  induction n generalizing a with
  | zero => have := d_zero hn; subst this; rw [path_self]; simp
  | succ n ih =>
    have hab : a ≠ b := fun z => by rw [z, d_self] at hn; omega
    have h1 := d_nx (T := T) hab
    rw [path_nx hab, List.nodup_cons]
    refine ⟨fun h => ?_, ih _ (by omega)⟩
    have h2 := mem_path.mp h
    omega
theorem path_le {a b x n : Nat} (h : x ∈ T.path a b) (ha : a ≤ n) (hb : b ≤ n) : x ≤ n := by
  revert h ha hb
  refine two (T := T) (P := fun a b => x ∈ T.path a b → a ≤ n → b ≤ n → x ≤ n) ?_ ?_ ?_ a b
  · intro a h; rw [path_self, List.mem_singleton] at h; omega
  · intro a b h ih h' ha hb
    rw [path_up h, List.mem_cons] at h'
    have := T.hp a (by omega)
    rcases h' with h' | h'
    · omega
    · exact ih h' (by omega) hb
  · intro a b h ih h' ha hb
    rw [path_dn h, List.mem_append, List.mem_singleton] at h'
    have := T.hp b (by omega)
    rcases h' with h' | h'
    · exact ih h' ha (by omega)
    · omega
theorem nx_le {a b n : Nat} (h : a ≠ b) (ha : a ≤ n) (hb : b ≤ n) : T.nx a b ≤ n := by have := nx_max (T := T) h; omega
/-- what has b and each place whose next one it has, has all -/
theorem all_of {b n : Nat} (S : Nat → Prop) (hb : b ≤ n) (h0 : S b) (h : ∀ x y, x ≤ n → y ≤ n → S x → adj T x y → S y) : ∀ x, x ≤ n → S x := by
  intro x hx
  generalize hn : T.d x b = m
  induction m generalizing x with
  | zero => have := d_zero hn; subst this; exact h0
  | succ m ih =>
    have hab : x ≠ b := fun z => by rw [z, d_self] at hn; omega
    have h1 := d_nx (T := T) hab
    have h2 := nx_le (T := T) hab hx hb
    exact h _ _ h2 hx (ih _ h2 (by omega)) (nx_adj hab).symm
/-- a place at each lesser count of branches -/
theorem at_d {b n c x : Nat} (hb : b ≤ n) (hx : x ≤ n) (h : c ≤ T.d x b) : ∃ y, y ≤ n ∧ T.d y b = c := by
  generalize hn : T.d x b = m at h
  induction m generalizing x with
  | zero => exact ⟨x, hx, by omega⟩
  | succ m ih =>
    by_cases e : c = m + 1
    · exact ⟨x, hx, by omega⟩
    · have hab : x ≠ b := fun z => by rw [z, d_self] at hn; omega
      have h1 := d_nx (T := T) hab
      exact ih (nx_le (T := T) hab hx hb) (by omega) (by omega)
end Tr
end PP
/-! The deck and the draws. -/
namespace PP
open PySem MM L2
def drawB : MS :=
  (mSeq (mDkPut 0 DkF.turn (mBin dAdd (mDk 0 DkF.turn) (mC (.int 1))))
    (mSeq (mPar 2 3 (mCons (mDk 0 DkF.turn) (mCons (mDk 0 DkF.seed) mNil)))
    (mSeq (mIfS (mTst (mDkNe 0))
    (mSeq (mSet 3 (mDkPop 0))
    (mSeq (mIfS (mTst (mBin dGe (mVar 3) (mBin dPow (mC (.int 10)) (mC (.int 18)))))
    (mSeq (mDrop (mDkApp 0 (mBin dFdiv (mVar 3) (mVar 1))))
    (mRet (mBin dMod (mVar 3) (mVar 1)))) mNext)
    (mSet 3 (mBin dAdd (mVar 3) (mDk 0 DkF.seed))))) mNext)
    (mSeq (mSet 4 (mBin dMod (mBin dMul (mBin dAdd (mBin dAdd (mBin dMod (mVar 3) (mC (.int 2147483629))) (mBin dMul (mBin dMul (mC (.int 86243)) (mVar 2)) (mVar 2))) (mC (.int 41))) (mC (.int 39373))) (mC (.int 2147483647))))
    (mSeq (mSet 4 (mBin dMod (mBin dAdd (mBin dAdd (mBin dMul (mVar 4) (mVar 4)) (mBin dMul (mC (.int 69621)) (mVar 2))) (mC (.int 3))) (mC (.int 2147483587))))
    (mRet (mBin dMod (mBin dFdiv (mBin dMod (mBin dAdd (mBin dMul (mVar 4) (mC (.int 40692))) (mBin dFdiv (mVar 4) (mC (.int 7)))) (mC (.int 2147483563))) (mC (.int 64))) (mVar 1))))))))
def drawM : MF := mFun 2 5 drawB
def treeB : MS :=
  (mSeq (mPar 2 3 (mCons (mCall drawM (mCons (mVar 0) (mCons (mVar 1) mNil))) (mCons (mCall drawM (mCons (mVar 0) (mCons (mC (.int 5)) mNil))) mNil)))
    (mSeq (mOwn 4 (mDisp mNil))
    (mSeq (mFor (mRange1 (mCons (mVar 2) mNil)) (mGn 5)
    (mSeq (mSet 6 (mLst (mCons (mCall drawM (mCons (mVar 0) (mCons (mBin dAdd (mVar 5) (mC (.int 1))) mNil))) (mCons (mVar 5) (mCons (mC (.int 0)) (mCons (mB dMax2 (mCons (mC (.int 0)) (mCons (mBin dSub (mVar 5) (mC (.int 1))) mNil))) mNil))))))
    (mDrop (mAppend 4 (mBin dIx (mBin dAdd (mVar 6) (mSl (mVar 6) mNoPart (mPart (mC (.int 1))))) (mVar 3))))))
    (mRet (mB dTuple (mCons (mVar 4) mNil))))))
def treeM : MF := mFun 2 7 treeB
def deckB : MS :=
  (mSeq (mSet 2 (mBin dAdd (mC (.int 20011)) (mB dLen (mCons (mVar 1) mNil))))
    (mSeq (mFor (mIter (mVar 1)) (mGn 3)
    (mSet 2 (mBin dMod (mBin dAdd (mBin dAdd (mBin dMul (mVar 2) (mC (.int 48271))) (mBin dMod (mVar 3) (mC (.int 2147483629)))) (mC (.int 19))) (mC (.int 2147483587)))))
    (mRet (mFzD (mDict [((mC (.str "cells")), (mUn dRev (mVar 1))), ((mC (.str "seed")), (mVar 2)), ((mC (.str "at")), (mC (.int 0)))])))))
def deckM : MF := mFunS 4 1 deckB
section
variable {sl : List Sl} {k : Dk} {i : Nat} {a : ME} {f : DkF} {ps : Ps}
@[simp] theorem e_deckAt : deckAt? ⟨sl, k⟩ i = (match sl[i]? with
  | some (.fz d) => isDk0 d
  | _ => false) := rfl
@[simp] theorem isDeck_d : isDk0 deckD = true := rfl
@[simp] theorem e_dk : mDk i f ps = if deckAt? ps i = true then (Out.of (dkNum ps.dk f) ps).bind fun n ps => .ok (.int n) ps else .bad := rfl
@[simp] theorem e_dkNum1 : dkNum k .seed = some k.seed := rfl
@[simp] theorem e_dkNum2 : dkNum k .turn = some k.tn := rfl
@[simp] theorem e_dkPut : mDkPut i f a ps = (a ps).bindS fun v ps1 => if deckAt? ps1 i = true then (match dInt v with
  | some n => (match dkPut ps1.dk f n with
    | some k' => .next ⟨ps1.sl, k'⟩
    | none => .bad)
  | none => .bad) else .bad := rfl
@[simp] theorem e_dkPut1 {n : Int} : dkPut k .seed n = some ⟨k.cells, n, k.tn⟩ := rfl
@[simp] theorem e_dkPut2 {n : Int} : dkPut k .turn n = some ⟨k.cells, k.seed, n⟩ := rfl
@[simp] theorem e_dkNe : mDkNe i ps = if deckAt? ps i = true then .ok (.bool (!ps.dk.cells.isEmpty)) ps else .bad := rfl
@[simp] theorem e_dkPop : mDkPop i ps = if deckAt? ps i = true then (match ps.dk.cells.getLast? with
  | some n => .ok (.int n) ⟨ps.sl, ⟨ps.dk.cells.dropLast, ps.dk.seed, ps.dk.tn⟩⟩
  | none => .bad) else .bad := rfl
@[simp] theorem e_dkApp : mDkApp i a ps = if deckAt? ps i = true then (a ps).bind fun v ps1 => (if deckAt? ps1 i = true then (match dInt v with
  | some n => if ps1.dk.cells.length < sizeLine then .ok .none ⟨ps1.sl, ⟨ps1.dk.cells ++ [n], ps1.dk.seed, ps1.dk.tn⟩⟩ else .bad
  | none => .bad) else .bad) else .bad := rfl
@[simp] theorem dInt_i (n : Int) : dInt (.int n) = some n := rfl
end
/-- a deck as it may stand after n draws -/
structure Vd (k : Dk) (n : Nat) : Prop where
  c : k.cells.length ≤ 63
  t0 : 0 ≤ k.tn
  t1 : k.tn ≤ (n : Int)
theorem dMod_i {x y : Int} (h : 0 < y) : dMod (.int x) (.int y) = some (.int (x % y)) := by simp [dMod, dI, h]
theorem dFdiv_i {x y : Int} (h : 0 < y) (h2 : y < 1073741824) : dFdiv (.int x) (.int y) = some (.int (x / y)) := by simp [dFdiv, dI, h, h2]
theorem dMul_i {x y : Int} (h : (-(2 ^ 64) < x ∧ x < 2 ^ 64) ∨ (-(2 ^ 64) < y ∧ y < 2 ^ 64)) : dMul (.int x) (.int y) = some (.int (x * y)) := by
  show dMulI (.int x) (.int y) = _
  simp only [dMulI, dI]
  rw [if_pos (decide_eq_true h)]
theorem dPow10 : dPow (.int 10) (.int 18) = some (.int 1000000000000000000) := rfl
@[simp] theorem dGe_int (x y : Int) : dGe (.int x) (.int y) = some (.bool (decide (y ≤ x))) := by simp [dGe, dI]
@[simp] theorem dGt_int (x y : Int) : dGt (.int x) (.int y) = some (.bool (decide (y < x))) := by simp [dGt, dI]
@[simp] theorem dLe_int (x y : Int) : dLe (.int x) (.int y) = some (.bool (decide (x ≤ y))) := by simp [dLe, dI]
@[simp] theorem dLt_int (x y : Int) : dLt (.int x) (.int y) = some (.bool (decide (x < y))) := rfl
/-- it returns such a thing -/
def RetP (P : D → Dk → Prop) : So → Prop
  | .ret d ps => P d ps.dk
  | _ => False
def FoP (P : D → Dk → Prop) : Fo → Prop
  | .ret d k => P d k
  | _ => False
@[simp] theorem RetP_ret (P : D → Dk → Prop) (d : D) (ps : Ps) : RetP P (.ret d ps) = P d ps.dk := rfl
@[simp] theorem FoP_ret (P : D → Dk → Prop) (d : D) (k : Dk) : FoP P (.ret d k) = P d k := rfl
theorem FoP.ex {P : D → Dk → Prop} {f : Fo} (h : FoP P f) : ∃ d k, f = .ret d k ∧ P d k := by
  cases f with
  | ret d k => exact ⟨d, k, rfl, h⟩
  | exc e k => exact h.elim
  | bad => exact h.elim
theorem fn_ret {np n : Nat} {body : MS} {ds : List D} {k : Dk} {P : D → Dk → Prop} (h : ds.length = np) (hb : RetP P (body ⟨sl0 n ds, k⟩)) : FoP P (mFun np n body ds k) := by
  unfold mFun
  rw [if_pos h]
  cases e : body ⟨sl0 n ds, k⟩ with
  | ret d ps => rw [e] at hb; exact hb
  | _ => rw [e] at hb; exact hb.elim
theorem draw_ok {lots : Int} {k : Dk} {n : Nat} (v : Vd k n) (hn : n < 2 ^ 59) (hl : 0 < lots) (h1 : lots < 1073741824) : FoP (fun d k' => ∃ r, d = .int r ∧ 0 ≤ r ∧ r < lots ∧ Vd k' (n + 1)) (drawM [deckD, .int lots] k) := by
  obtain ⟨c, t0, t1⟩ := v
  obtain ⟨cells, seed, t⟩ := k
  dsimp only at c t0 t1
  refine fn_ret rfl ?_
  have b1 : -(2 ^ 64) < t + 1 ∧ t + 1 < 2 ^ 64 := by omega
  have m1 : ∀ x : Int, -(2 ^ 64) < x % 2147483587 ∧ x % 2147483587 < 2 ^ 64 := fun x => by omega
  have m2 : ∀ x : Int, -(2 ^ 64) < x % 2147483647 ∧ x % 2147483647 < 2 ^ 64 := fun x => by omega
  have z1 : ∀ x : Int, 0 ≤ x % lots := fun x => Int.emod_nonneg _ (by omega)
  have z2 : ∀ x : Int, x % lots < lots := fun x => Int.emod_lt_of_pos _ hl
  have vd : ∀ cells' : List Int, ∀ s' : Int, cells'.length ≤ 63 → Vd ⟨cells', s', t + 1⟩ (n + 1) := fun cells' s' h => ⟨h, by show 0 ≤ t + 1; omega, by show t + 1 ≤ ((n + 1 : Nat) : Int); omega⟩
  unfold drawB
  by_cases hc : cells = []
  · subst hc
    simp [sl0, dMod_i, dFdiv_i, dMul_i (.inl (by decide) : (-(2 ^ 64) < (86243 : Int) ∧ (86243 : Int) < 2 ^ 64) ∨ _), dMul_i (.inl (by decide) : (-(2 ^ 64) < (69621 : Int) ∧ (69621 : Int) < 2 ^ 64) ∨ _), dMul_i (.inr b1), dMul_i (.inr (by decide) : _ ∨ (-(2 ^ 64) < (39373 : Int) ∧ (39373 : Int) < 2 ^ 64)), dMul_i (.inr (by decide) : _ ∨ (-(2 ^ 64) < (40692 : Int) ∧ (40692 : Int) < 2 ^ 64)), dMul_i (.inl (m1 _)), dMul_i (.inl (m2 _)), hl, List.replicate, z1, z2]
    exact vd _ _ (by simp)
  · obtain ⟨z, hz⟩ : ∃ z, cells.getLast? = some z := by
      cases h : cells.getLast? with
      | none => exact absurd (List.getLast?_eq_none_iff.mp h) hc
      | some z => exact ⟨z, rfl⟩
    have hne : cells.isEmpty = false := by simpa using hc
    have hdl : cells.dropLast.length ≤ 62 := by rw [List.length_dropLast]; omega
    by_cases hb : 1000000000000000000 ≤ z
    · have hs : cells.length - 1 < sizeLine := by show _ < 2 ^ 24; omega
      simp [sl0, dMod_i, dFdiv_i, hl, h1, List.replicate, z1, z2, hne, hz, dPow10, hb, hs]
      exact vd _ _ (by simp; omega)
    · simp [sl0, dMod_i, dFdiv_i, dMul_i (.inl (by decide) : (-(2 ^ 64) < (86243 : Int) ∧ (86243 : Int) < 2 ^ 64) ∨ _), dMul_i (.inl (by decide) : (-(2 ^ 64) < (69621 : Int) ∧ (69621 : Int) < 2 ^ 64) ∨ _), dMul_i (.inr b1), dMul_i (.inr (by decide) : _ ∨ (-(2 ^ 64) < (39373 : Int) ∧ (39373 : Int) < 2 ^ 64)), dMul_i (.inr (by decide) : _ ∨ (-(2 ^ 64) < (40692 : Int) ∧ (40692 : Int) < 2 ^ 64)), dMul_i (.inl (m1 _)), dMul_i (.inl (m2 _)), hl, List.replicate, z1, z2, hne, hz, dPow10, hb]
      exact vd _ _ (by simp; omega)
theorem Vd.le {k : Dk} {n m : Nat} (v : Vd k n) (h : n ≤ m) : Vd k m := ⟨v.c, v.t0, by have := v.t1; omega⟩
theorem draw_nat {lots : Nat} {k : Dk} {n : Nat} (v : Vd k n) (hn : n < 2 ^ 59) (hl : 0 < lots) (h1 : lots < 1073741824) : ∃ r k', drawM [deckD, iD lots] k = .ret (iD r) k' ∧ r < lots ∧ Vd k' (n + 1) := by
  obtain ⟨d, k', e, r, rfl, r0, r1, v'⟩ := (draw_ok (lots := (lots : Int)) v hn (by omega) (by omega)).ex
  refine ⟨r.toNat, k', ?_, by omega, v'⟩
  have : iD r.toNat = .int r := by unfold iD; congr 1; omega
  rw [this]; exact e
theorem dIx_list {xs : List D} {i : Nat} {v : D} (h : xs[i]? = some v) : dIx (.list xs) (iD i) = some v := by
  show atI xs (i : Int) = _
  exact atI_nat h
theorem dIx_tuple {xs : List D} {i : Nat} {v : D} (h : xs[i]? = some v) : dIx (.tuple xs) (iD i) = some v := by
  show atI xs (i : Int) = _
  exact atI_nat h
@[simp] theorem dAdd_iD1 (x : Nat) : dAdd (iD x) (.int 1) = some (iD (x + 1)) := rfl
@[simp] theorem dAdd_iD (x y : Nat) : dAdd (iD x) (iD y) = some (iD (x + y)) := by
  show some (PyData.int ((x : Int) + (y : Int))) = some (PyData.int ((x + y : Nat) : Int))
  rw [Int.natCast_add]
theorem dSub_iD {x y : Nat} (h : y ≤ x) : dSub (iD x) (iD y) = some (iD (x - y)) := by
  show some (PyData.int ((x : Int) - (y : Int))) = some (PyData.int ((x - y : Nat) : Int))
  rw [Int.natCast_sub h]
theorem dSub_iD1 {x : Nat} (h : 1 ≤ x) : dSub (iD x) (.int 1) = some (iD (x - 1)) := dSub_iD (y := 1) h
theorem dMax_pred (x : Nat) : ((dSub (iD x) (.int 1)).bind fun z => dMax2 [.int 0, z]) = some (iD (x - 1)) := by
  show some (PyData.int (if (x : Int) - 1 > 0 then (x : Int) - 1 else 0)) = some (PyData.int ((x - 1 : Nat) : Int))
  congr 2
  split <;> omega
theorem range_at {n : Nat} {done rest : List Nat} {x : Nat} (h : List.range n = done ++ x :: rest) : x = done.length ∧ x < n ∧ done = List.range x := by
  have h1 : (List.range n)[done.length]? = some x := by rw [h]; simp
  have hl : done.length < n := by
    have := congrArg List.length h
    simp at this
    omega
  rw [List.getElem?_range hl] at h1
  injection h1 with h1
  refine ⟨h1.symm, by omega, ?_⟩
  have h2 := congrArg (List.take done.length) h
  rw [List.take_left, List.take_range] at h2
  rw [← h2, ← h1]
  congr 1
  omega
theorem dRev_list (xs : List D) : dRev (.list xs) = some (.list xs.reverse) := rfl
theorem dTuple_list (xs : List D) : dTuple [.list xs] = some (.tuple xs) := rfl
@[simp] theorem dSl_list (ds : List D) (lo hi : Option Int) : dSl (.list ds) lo hi = some (.list (cut ds lo hi)) := rfl
@[simp] theorem dSl_tuple (ds : List D) (lo hi : Option Int) : dSl (.tuple ds) lo hi = some (.tuple (cut ds lo hi)) := rfl
theorem dAdd_list {xs ys : List D} (h : xs.length + ys.length ≤ 16777216) : dAdd (.list xs) (.list ys) = some (.list (xs ++ ys)) := by simp [dAdd, sizeLine, h]
theorem dAdd_tuple {xs ys : List D} (h : xs.length + ys.length ≤ 16777216) : dAdd (.tuple xs) (.tuple ys) = some (.tuple (xs ++ ys)) := by simp [dAdd, sizeLine, h]
theorem sz_le {n : Nat} (h : n ≤ 16777216) : n ≤ sizeLine := h
theorem sz_lt {n : Nat} (h : n < 16777216) : n < sizeLine := h
theorem cut1 {α : Type} (xs : List α) : cut xs none (some 1) = xs.take 1 := by
  show (xs.drop 0).take (HT.sIx xs.length xs.length (some ((1 : Nat) : Int)) - 0) = _
  rw [HT.sIx_nat]
  cases xs with
  | nil => simp
  | cons x xs => simp
/-- numbers that tell a tree -/
def TrOk (t : List Nat) : Prop := ∀ (i v : Nat), t[i]? = some v → v ≤ i
theorem TrOk.nil : TrOk [] := fun i v h => by simp at h
theorem TrOk.snoc {t : List Nat} {v : Nat} (h : TrOk t) (hv : v ≤ t.length) : TrOk (t ++ [v]) := by
  intro i w e
  by_cases hi : i < t.length
  · rw [List.getElem?_append_left hi] at e; exact h _ _ e
  · rw [List.getElem?_append_right (by omega)] at e
    by_cases h0 : i - t.length = 0
    · rw [h0] at e; simp at e; omega
    · rw [List.getElem?_eq_none (by simp; omega)] at e; cases e
def treeL : MS := (mSeq (mSet 6 (mLst (mCons (mCall drawM (mCons (mVar 0) (mCons (mBin dAdd (mVar 5) (mC (.int 1))) mNil))) (mCons (mVar 5) (mCons (mC (.int 0)) (mCons (mB dMax2 (mCons (mC (.int 0)) (mCons (mBin dSub (mVar 5) (mC (.int 1))) mNil))) mNil))))))
    (mDrop (mAppend 4 (mBin dIx (mBin dAdd (mVar 6) (mSl (mVar 6) mNoPart (mPart (mC (.int 1))))) (mVar 3)))))
theorem treeL_ok {m lots srt x : Nat} {t : List Nat} {s5 s6 : Sl} {k' : Dk} {n : Nat} (hsrt : srt < 5) (ht : t.length < 1000) (hn : n < 2 ^ 59) (hx : x < 1000) (vk : Vd k' n) :
    ∃ v k4 s6', v ≤ x ∧ treeL ⟨[.fz deckD, .fz (iD m), .fz (iD lots), .fz (iD srt), .ml (iDs t), .fz (iD x), s6], k'⟩ = .next ⟨[.fz deckD, .fz (iD m), .fz (iD lots), .fz (iD srt), .ml (iDs (t ++ [v])), .fz (iD x), s6'], k4⟩ ∧ Vd k4 (n + 1) := by
  obtain ⟨r, k4, e4, hr, v4⟩ := draw_nat (lots := x + 1) vk (by omega) (by omega) (by omega)
  have hm := dMax_pred x
  have hsub : dSub (iD x) (.int 1) = some (.int ((x : Int) - 1)) := rfl
  rw [hsub] at hm
  simp only [Option.bind_some] at hm
  have hc : cut [iD r, iD x, .int 0, iD (x - 1)] none (some 1) = [iD r] := by
    rw [cut1]; rfl
  have hi : ∃ v, v ≤ x ∧ [iD r, iD x, .int 0, iD (x - 1), iD r][srt]? = some (iD v) := by
    match srt, hsrt with
    | 0, _ => exact ⟨r, by omega, rfl⟩
    | 1, _ => exact ⟨x, by omega, rfl⟩
    | 2, _ => exact ⟨0, by omega, rfl⟩
    | 3, _ => exact ⟨x - 1, by omega, rfl⟩
    | 4, _ => exact ⟨r, by omega, rfl⟩
  obtain ⟨v, hv, hi⟩ := hi
  have hix := dIx_list hi
  have hs : t.length < sizeLine := sz_lt (by omega)
  refine ⟨v, k4, .fz (.list [iD r, iD x, .int 0, iD (x - 1)]), hv, ?_, v4⟩
  have hsz : 4 ≤ sizeLine := sz_le (by omega)
  have ha : dAdd (.list [iD r, iD x, .int 0, iD (x - 1)]) (.list [iD r]) = some (.list [iD r, iD x, .int 0, iD (x - 1), iD r]) := dAdd_list (by show 4 + 1 ≤ 16777216; omega)
  unfold treeL
  simp [e4, hsub, hm, hsz, hc, ha, hix, hs]
theorem tree_ok {most : Nat} {k : Dk} {n : Nat} (v : Vd k n) (hn : n + most + 2 < 2 ^ 59) (hl : 0 < most) (h1 : most < 1000) :
    FoP (fun d k' => ∃ t, d = TD t ∧ t.length < most ∧ TrOk t ∧ Vd k' (n + most + 2)) (treeM [deckD, iD most] k) := by
  refine fn_ret rfl ?_
  obtain ⟨lots, k1, e1, hlots, v1⟩ := draw_nat v (by omega) hl (by omega)
  obtain ⟨srt, k2, e2, hsrt, v2⟩ := draw_nat (lots := 5) v1 (by omega) (by omega) (by omega)
  have e2' : drawM [deckD, .int 5] k1 = .ret (iD srt) k2 := e2
  have h62 : lots < 4611686018427387904 := by omega
  obtain ⟨ps', eL, t, s5, s6, k3, rfl, ht, hlen, v3⟩ := loop_nat (g := mGn 5) (body := treeL)
    (fun done ps => ∃ t s5 s6 k', ps = ⟨[.fz deckD, .fz (iD most), .fz (iD lots), .fz (iD srt), .ml (iDs t), s5, s6], k'⟩ ∧ TrOk t ∧ t.length = done.length ∧ Vd k' (n + 2 + done.length))
    (xs := List.range lots) (ps := ⟨[.fz deckD, .fz (iD most), .fz (iD lots), .fz (iD srt), .ml [], .no, .no], k2⟩) ⟨[], .no, .no, k2, rfl, .nil, rfl, v2⟩ (by
      rintro done x rest ps hx ⟨t, s5, s6, k', rfl, ht, hlen, vk⟩
      obtain ⟨hx1, hx2, -⟩ := range_at hx
      obtain ⟨v, k4, s6', hv, e, v4⟩ := treeL_ok (m := most) (lots := lots) (srt := srt) (x := x) (t := t) (s5 := s5) (s6 := s6) hsrt (by omega) (by omega) (by omega) vk
      refine ⟨_, _, rfl, .inl e, t ++ [v], _, _, k4, rfl, ht.snoc (by omega), by simp; omega, ?_⟩
      have : (done ++ [x]).length = done.length + 1 := by simp
      rw [this]; exact v4)
  unfold treeB
  unfold treeL at eL
  simp [sl0, List.replicate, e1, e2', dRange1_iD h62, eL, sz_le, dTuple_list]
  refine ⟨t, rfl, ?_, ht, v3.le ?_⟩
  · rw [hlen]; simpa using hlots
  · simp; omega
theorem merge3 {a b c : Key} {x y z : D} (h1 : a ≠ b) (h2 : a ≠ c) (h3 : b ≠ c) : mergeD [(a, x), (b, y), (c, z)] = [(a, x), (b, y), (c, z)] := by
  simp [mergeD, putD, h1, h2, h3]
def deckL : MS := (mSet 2 (mBin dMod (mBin dAdd (mBin dAdd (mBin dMul (mVar 2) (mC (.int 48271))) (mBin dMod (mVar 3) (mC (.int 2147483629)))) (mC (.int 19))) (mC (.int 2147483587))))
theorem deck_ok (ns : List Int) (h : ns.length ≤ 63) : ∃ k k', deckM [.list (ns.map .int)] k00 = .ret (deckDict "seed" "at" k) k' ∧ Vd k 0 := by
  obtain ⟨ps', eL, z, s3, rfl⟩ := loop_inv (g := mGn 3) (body := deckL) (fun done ps => ∃ z s3, ps = ⟨[.no, .fz (.list (ns.map .int)), .fz (.int z), s3], k00⟩)
    (ds := ns.map .int) (ps := ⟨[.no, .fz (.list (ns.map .int)), .fz (.int (20011 + (ns.length : Int))), .no], k00⟩) ⟨_, _, rfl⟩ (by
      rintro done d rest ps hx ⟨z, s3, rfl⟩
      obtain ⟨m, -, rfl⟩ := List.mem_map.mp (show d ∈ ns.map PyData.int by rw [hx]; simp)
      refine ⟨_, _, rfl, .inl ?_, (z * 48271 + m % 2147483629 + 19) % 2147483587, .fz (.int m), rfl⟩
      unfold deckL
      simp [dMod_i, dMul_i (.inr (by decide) : _ ∨ (-(2 ^ 64) < (48271 : Int) ∧ (48271 : Int) < 2 ^ 64))])
  unfold deckL at eL
  have hl : dLen [.list (ns.map .int)] = some (.int (ns.length : Int)) := by simp [dLen]
  have hk : toKeys [(.str "cells", .list (ns.map PyData.int).reverse), (.str "seed", .int z), (.str "at", .int 0)] = some [(.inr "cells", .list (ns.map PyData.int).reverse), (.inr "seed", .int z), (.inr "at", .int 0)] := rfl
  have hm := merge3 (a := .inr "cells") (b := .inr "seed") (c := .inr "at") (x := .list (ns.map PyData.int).reverse) (y := .int z) (z := .int 0) (by decide +kernel) (by decide +kernel) (by decide +kernel)
  refine ⟨⟨ns.reverse, z, 0⟩, k00, ?_, ⟨by simpa using h, by show (0 : Int) ≤ 0; omega, by show (0 : Int) ≤ 0; omega⟩⟩
  have e : deckB ⟨[.no, .fz (.list (ns.map .int)), .no, .no], k00⟩ = .ret (deckDict "seed" "at" ⟨ns.reverse, z, 0⟩) ⟨[.no, .fz (.list (ns.map .int)), .fz (.int z), s3], k00⟩ := by
    unfold deckB
    have h15 : ([(.inr "cells", .list (ns.map PyData.int).reverse), (.inr "seed", .int z), (.inr "at", .int 0)] : List (Key × D)).length ≤ 15 := by show 3 ≤ 15; omega
    simp only [e_seq, e_set, e_bin, e_c, e_b, e_cons, e_nil, e_var, e_for, e_iter, e_ret, e_fzD, e_dict, e_pairs0, e_pairs1, e_un, Out.bind_ok, Out.bindS_ok, Out.of_some, List.getElem?_cons_succ, List.getElem?_cons_zero, List.set_cons_succ, List.set_cons_zero, hl, dAdd_int, dSeq, eL, dRev_list, hk, h15, if_true, hm]
    simp [deckDict, dctD, kD, List.map_reverse]
  unfold deckM mFunS
  have e0 : (List.replicate 4 Sl.no).set 1 (.fz (.list (ns.map .int))) = [.no, .fz (.list (ns.map .int)), .no, .no] := rfl
  simp only [e0, e]
end PP
/-! The ways of a tree told by numbers: to_first, way, far. -/
namespace PP
open PySem MM L2
theorem trOf_hp {t : List Nat} (h : TrOk t) (x : Nat) (hx : 0 < x) : t.getD (x - 1) 0 < x := by
  rw [List.getD_eq_getElem?_getD]
  cases e : t[x - 1]? with
  | none => simpa using hx
  | some v => have := h _ _ e; simp; omega
def trOf (t : List Nat) (h : TrOk t) : Tr := ⟨fun x => t.getD (x - 1) 0, trOf_hp h⟩
theorem trOf_at {t : List Nat} (h : TrOk t) {x : Nat} (hx : 0 < x) (hl : x ≤ t.length) : t[x - 1]? = some ((trOf t h).p x) := by
  show t[x - 1]? = some (t.getD (x - 1) 0)
  rw [List.getD_eq_getElem?_getD]
  have : x - 1 < t.length := by omega
  rw [List.getElem?_eq_getElem this]; rfl
theorem anc_len (T : Tr) (x : Nat) : (T.anc x).length ≤ x + 1 := by
  induction x using Nat.strongRecOn with
  | ind x ih =>
    by_cases hx : 0 < x
    · rw [Tr.anc_pos hx, List.length_cons]; have := ih _ (T.hp x hx); have := T.hp x hx; omega
    · have : x = 0 := by omega
      subst this; rw [Tr.anc_zero]; simp
def firstB : MS :=
  (mSeq (mOwn 2 (mDisp (mCons (mVar 1) mNil)))
    (mSeq (mWhile (mTst (mBin dGt (mIxV 2 (mUn dNeg (mC (.int 1)))) (mC (.int 0))))
    (mDrop (mAppend 2 (mBin dIx (mVar 0) (mBin dSub (mIxV 2 (mUn dNeg (mC (.int 1)))) (mC (.int 1)))))) 64)
    (mRet (mVar 2))))
def firstM : MF := mFun 2 3 firstB
theorem dGt_iD0 (x : Nat) : dGt (iD x) (.int 0) = some (.bool (decide (0 < x))) := by
  show some (PyData.bool (decide ((0 : Int) < (x : Int)))) = _
  by_cases h : 0 < x <;> simp [h] <;> omega
theorem first_ok {t : List Nat} (h : TrOk t) (hl : t.length < 8) {x : Nat} (hx : x ≤ t.length) (k : Dk) : firstM [TD t, iD x] k = .ret (LD ((trOf t h).anc x)) k := by
  have hw := while_inv (t := (mTst (mBin dGt (mIxV 2 (mUn dNeg (mC (.int 1)))) (mC (.int 0))))) (body := (mDrop (mAppend 2 (mBin dIx (mVar 0) (mBin dSub (mIxV 2 (mUn dNeg (mC (.int 1)))) (mC (.int 1))))))) (n := x)
    (fun m ps => ∃ done y, ps = ⟨[.fz (TD t), .fz (iD x), .ml (iDs (done ++ [y]))], k⟩ ∧ (trOf t h).anc x = done ++ (trOf t h).anc y ∧ y ≤ t.length ∧ m = y ∧ done.length + y ≤ x)
    (fun ps => ps = ⟨[.fz (TD t), .fz (iD x), .ml (iDs ((trOf t h).anc x))], k⟩) (ps := ⟨[.fz (TD t), .fz (iD x), .ml (iDs ([] ++ [x]))], k⟩) ⟨[], x, rfl, rfl, hx, rfl, by simp⟩ (by
      rintro m ps ⟨done, y, rfl, ha, hy, rfl, hd⟩
      by_cases h0 : 0 < m
      · right
        have hp := (trOf t h).hp m h0
        have hix := dIx_TD (trOf_at h h0 hy)
        have hs := dSub_iD1 (x := m) h0
        have hsz : done.length + 1 < sizeLine := sz_lt (by omega)
        refine ⟨(trOf t h).p m, ⟨[.fz (TD t), .fz (iD x), .ml (iDs (done ++ [m]))], k⟩, ⟨[.fz (TD t), .fz (iD x), .ml (iDs ((done ++ [m]) ++ [(trOf t h).p m]))], k⟩, hp, ?_, .inl ?_, done ++ [m], (trOf t h).p m, rfl, ?_, by omega, rfl, by simp; omega⟩
        · simp [dGt_iD0, h0]
        · simp [hix, hs, hsz]
        · rw [ha, Tr.anc_pos h0]; simp
      · left
        refine ⟨⟨[.fz (TD t), .fz (iD x), .ml (iDs (done ++ [m]))], k⟩, ?_, ?_⟩
        · simp [dGt_iD0, h0]
        · have : m = 0 := by omega
          subst this
          rw [ha, Tr.anc_zero]) (fuel := 64) (by omega)
  obtain ⟨ps', e, rfl⟩ := hw
  unfold firstM mFun firstB
  simp only [List.nil_append] at e
  have hsz : 1 ≤ sizeLine := sz_le (by omega)
  have ei : (Sl.ml [iD x]) = .ml (iDs [x]) := rfl
  simp [sl0, List.replicate, hsz, ei, e]
def wayB : MS :=
  (mSeq (mAsg (mGp 3 4) (mTup (mCons (mCall firstM (mCons (mVar 0) (mCons (mVar 1) mNil))) (mCons (mCall firstM (mCons (mVar 0) (mCons (mVar 2) mNil))) mNil))))
    (mSeq (mOwn 5 (mComp (mIter (mVar 3)) (mGn 8) (mTst (mBin dNotIn (mVar 8) (mVar 4))) (mVar 8) [8]))
    (mSeq (mOwn 6 (mComp (mIter (mVar 3)) (mGn 8) (mTst (mBin dIn (mVar 8) (mVar 4))) (mVar 8) [8]))
    (mSeq (mOwn 7 (mComp (mIter (mVar 4)) (mGn 8) (mTst (mBin dNotIn (mVar 8) (mVar 3))) (mVar 8) [8]))
    (mRet (mB dTuple (mCons (mBin dAdd (mBin dAdd (mVar 5) (mSl (mVar 6) mNoPart (mPart (mC (.int 1))))) (mUn dRev (mVar 7))) mNil)))))))
def wayM : MF := mFun 3 9 wayB
@[simp] theorem dSl_LD1 (xs : List Nat) : dSl (LD xs) none (some 1) = some (LD (xs.take 1)) := by
  show some (PyData.list (cut (iDs xs) none (some 1))) = _
  rw [cut1]
  unfold LD iDs
  rw [List.map_take]
theorem way_ok {t : List Nat} (h : TrOk t) (hl : t.length < 8) {a b : Nat} (ha : a ≤ t.length) (hb : b ≤ t.length) (k : Dk) : wayM [TD t, iD a, iD b] k = .ret (TD ((trOf t h).path a b)) k := by
  have e1 := first_ok h hl ha k
  have e2 := first_ok h hl hb k
  have l1 := anc_len (trOf t h) a
  have l2 := anc_len (trOf t h) b
  rw [← Tr.way_path]
  unfold Tr.way
  generalize (trOf t h).anc a = A at *
  generalize (trOf t h).anc b = B at *
  have c1 := comp_iD (mi := (mIter (mVar 3))) (g := (mGn 8)) (tt := (mTst (mBin dNotIn (mVar 8) (mVar 4)))) (te := (mVar 8)) (vs := [8]) (ps := ⟨[.fz (TD t), .fz (iD a), .fz (iD b), .fz (LD A), .fz (LD B), .no, .no, .no, .no], k⟩) (ps0 := ⟨[.fz (TD t), .fz (iD a), .fz (iD b), .fz (LD A), .fz (LD B), .no, .no, .no, .no], k⟩)
    (fun x => !decide (x ∈ B)) (fun x => x) (xs := A) (by simp) (by simp) (by omega) (fun x hx => by simp)
  have c2 := comp_iD (mi := (mIter (mVar 3))) (g := (mGn 8)) (tt := (mTst (mBin dIn (mVar 8) (mVar 4)))) (te := (mVar 8)) (vs := [8]) (ps := ⟨[.fz (TD t), .fz (iD a), .fz (iD b), .fz (LD A), .fz (LD B), .ml (iDs (A.filter fun x => !decide (x ∈ B))), .no, .no, .no], k⟩) (ps0 := ⟨[.fz (TD t), .fz (iD a), .fz (iD b), .fz (LD A), .fz (LD B), .ml (iDs (A.filter fun x => !decide (x ∈ B))), .no, .no, .no], k⟩)
    (fun x => decide (x ∈ B)) (fun x => x) (xs := A) (by simp) (by simp) (by omega) (fun x hx => by simp)
  have c3 := comp_iD (mi := (mIter (mVar 4))) (g := (mGn 8)) (tt := (mTst (mBin dNotIn (mVar 8) (mVar 3)))) (te := (mVar 8)) (vs := [8]) (ps := ⟨[.fz (TD t), .fz (iD a), .fz (iD b), .fz (LD A), .fz (LD B), .ml (iDs (A.filter fun x => !decide (x ∈ B))), .ml (iDs (A.filter fun x => decide (x ∈ B))), .no, .no], k⟩) (ps0 := ⟨[.fz (TD t), .fz (iD a), .fz (iD b), .fz (LD A), .fz (LD B), .ml (iDs (A.filter fun x => !decide (x ∈ B))), .ml (iDs (A.filter fun x => decide (x ∈ B))), .no, .no], k⟩)
    (fun x => !decide (x ∈ A)) (fun x => x) (xs := B) (by simp) (by simp) (by omega) (fun x hx => by simp)
  simp only [List.map_id'] at c1 c2 c3
  have f1 : (A.filter fun x => !decide (x ∈ B)).length ≤ A.length := List.length_filter_le _ _
  have f2 : (A.filter fun x => decide (x ∈ B)).length ≤ A.length := List.length_filter_le _ _
  have f3 : (B.filter fun x => !decide (x ∈ A)).length ≤ B.length := List.length_filter_le _ _
  have hsz : 2 ≤ sizeLine := sz_le (by omega)
  generalize (A.filter fun x => !decide (x ∈ B)) = U at *
  generalize (A.filter fun x => decide (x ∈ B)) = V at *
  generalize (B.filter fun x => !decide (x ∈ A)) = W at *
  have d1 : dAdd (LD U) (LD (V.take 1)) = some (LD (U ++ V.take 1)) := dAdd_LD (by rw [List.length_take]; omega)
  have d2 : dAdd (LD (U ++ V.take 1)) (LD W.reverse) = some (LD (U ++ V.take 1 ++ W.reverse)) := dAdd_LD (by rw [List.length_append, List.length_take, List.length_reverse]; omega)
  unfold wayM mFun wayB
  simp [sl0, List.replicate, e1, e2, hsz, c1, c2, c3, d1, -List.append_assoc, d2]
def farB : MS :=
  (mRet (mBin dSub (mB dLen (mCons (mCall wayM (mCons (mVar 0) (mCons (mVar 1) (mCons (mVar 2) mNil)))) mNil)) (mC (.int 1))))
def farM : MF := mFun 3 3 farB
theorem far_ok {t : List Nat} (h : TrOk t) (hl : t.length < 8) {a b : Nat} (ha : a ≤ t.length) (hb : b ≤ t.length) (k : Dk) : farM [TD t, iD a, iD b] k = .ret (iD ((trOf t h).d a b)) k := by
  have e := way_ok h hl ha hb k
  have e2 := dSub_iD1 (x := ((trOf t h).path a b).length) (by rw [Tr.path_len]; omega)
  unfold farM mFun farB
  simp [sl0, List.replicate, e, e2]
  rw [Tr.path_len]; simp
end PP
/-! Neighbours, and branches counted level by level. -/
namespace PP
open PySem MM L2
/-! ### dicts by numbers -/
def kvD (m : List (Nat × D)) : List (Key × D) := m.map fun p => (.inl (p.1 : Int), p.2)
def DD (m : List (Nat × D)) : D := .dict ((kvD m).map fun p => (kD p.1, p.2))
@[simp] theorem kvD_fold (m : List (Nat × D)) : PyData.dict ((kvD m).map fun p => (kD p.1, p.2)) = DD m := rfl
@[simp] theorem kvD_len (m : List (Nat × D)) : (kvD m).length = m.length := by unfold kvD; simp
theorem kvD_put {m : List (Nat × D)} {x : Nat} {v : D} (h : x ∉ m.map (·.1)) : putD (kvD m) (.inl (x : Int)) v = kvD (m ++ [(x, v)]) := by
  unfold putD
  rw [if_neg]
  · unfold kvD; simp
  · intro e
    obtain ⟨p, hp, e⟩ := List.any_eq_true.mp e
    obtain ⟨q, hq, rfl⟩ := List.mem_map.mp hp
    have e := of_decide_eq_true e
    injection e with e
    exact h (List.mem_map.mpr ⟨q, hq, by show q.1 = x; omega⟩)
@[simp] theorem toKey_iD (x : Nat) : toKey (iD x) = some (.inl (x : Int)) := rfl
theorem kv_any (m : List (Nat × D)) : (((kvD m).map fun p => (kD p.1, p.2)).any fun p => (toKey p.1).isNone) = false := by
  rw [List.any_eq_false]
  intro p hp
  unfold kvD at hp
  rw [List.map_map] at hp
  obtain ⟨q, _, rfl⟩ := List.mem_map.mp hp
  simp [kD, toKey]
theorem kv_look (m : List (Nat × D)) (x : Nat) : dLook ((kvD m).map fun p => (kD p.1, p.2)) (.inl (x : Int)) = (m.find? fun p => decide (p.1 = x)).map (·.2) := by
  unfold dLook kvD
  induction m with
  | nil => rfl
  | cons p m ih =>
    rw [List.map_cons, List.map_cons, List.find?_cons, List.find?_cons]
    have e : decide (toKey (kD (Sum.inl (p.1 : Int))) = some (Sum.inl (x : Int))) = decide (p.1 = x) := by
      refine decide_eq_decide.mpr ?_
      show some (Sum.inl (p.1 : Int)) = some (Sum.inl (x : Int)) ↔ _
      constructor
      · intro h; injection h with h; injection h with h; omega
      · intro h; rw [h]
    dsimp only
    rw [e]
    by_cases h : p.1 = x
    · rw [decide_eq_true h]; rfl
    · rw [decide_eq_false h]; exact ih
theorem dInB_DD (x : Nat) (m : List (Nat × D)) : dInB (iD x) (DD m) = some (decide (x ∈ m.map (·.1))) := by
  unfold DD
  show (if _ then none else (toKey (iD x)).map fun k => (dLook _ k).isSome) = _
  rw [kv_any, if_neg (by simp), toKey_iD, Option.map_some, kv_look]
  congr 1
  rw [Option.isSome_map, Bool.eq_iff_iff]
  simp [List.find?_isSome]
@[simp] theorem bNotIn_DD (x : Nat) (m : List (Nat × D)) : bNotIn (iD x) (DD m) = some (!decide (x ∈ m.map (·.1))) := by
  unfold bNotIn; rw [dInB_DD]; rfl
theorem find_mem {m : List (Nat × D)} {x : Nat} {v : D} (hn : (m.map (·.1)).Nodup) (h : (x, v) ∈ m) : (m.find? fun p => decide (p.1 = x)) = some (x, v) := by
  induction m with
  | nil => cases h
  | cons p m ih =>
    rw [List.map_cons, List.nodup_cons] at hn
    rcases List.mem_cons.mp h with h | h
    · subst h; rw [List.find?_cons_of_pos (by simp)]
    · rw [List.find?_cons_of_neg, ih hn.2 h]
      intro e
      have e := of_decide_eq_true e
      exact hn.1 (List.mem_map.mpr ⟨_, h, e.symm⟩)
theorem dIx_DD {m : List (Nat × D)} {x : Nat} {v : D} (hn : (m.map (·.1)).Nodup) (h : (x, v) ∈ m) : dIx (DD m) (iD x) = some v := by
  unfold DD
  show (if _ then none else (toKey (iD x)).bind fun k => dLook _ k) = _
  rw [kv_any, if_neg (by simp), toKey_iD, Option.bind_some, kv_look, find_mem hn h]
  rfl
theorem len_le {xs : List Nat} {n : Nat} (hn : xs.Nodup) (h : ∀ x ∈ xs, x ≤ n) : xs.length ≤ n + 1 := by
  have := hn.length_le_of_subset (l₂ := List.range (n + 1)) (fun x hx => by have := h x hx; simp; omega)
  simpa using this
/-! ### neighbours -/
def nearL (T : Tr) (n x : Nat) : List Nat := (if 0 < x then [T.p x] else []) ++ ((List.range n).filter fun k => decide (T.p (k + 1) = x)).map (· + 1)
theorem mem_near {T : Tr} {n x y : Nat} (hx : x ≤ n) : y ∈ nearL T n x ↔ y ≤ n ∧ T.adj x y := by
  unfold nearL Tr.adj
  rw [List.mem_append, List.mem_map]
  constructor
  · rintro (h | ⟨z, hz, rfl⟩)
    · split at h
      · rename_i h0
        rw [List.mem_singleton] at h
        have := T.hp x h0
        exact ⟨by omega, .inl ⟨h0, h⟩⟩
      · cases h
    · rw [List.mem_filter, List.mem_range] at hz
      exact ⟨by omega, .inr ⟨by omega, (of_decide_eq_true hz.2).symm⟩⟩
  · rintro ⟨hy, ⟨h0, h⟩ | ⟨h0, h⟩⟩
    · left; rw [if_pos h0, h]; simp
    · right
      refine ⟨y - 1, List.mem_filter.mpr ⟨List.mem_range.mpr (by omega), decide_eq_true ?_⟩, by omega⟩
      have e : y - 1 + 1 = y := by omega
      rw [e]; exact h.symm
theorem nodup_filter {α : Type} {xs : List α} {p : α → Bool} (h : xs.Nodup) : (xs.filter p).Nodup := List.Pairwise.filter p h
theorem near_nodup (T : Tr) (n x : Nat) : (nearL T n x).Nodup := by
  unfold nearL
  rw [List.nodup_append]
  refine ⟨by split <;> simp, ?_, ?_⟩
  · refine List.Pairwise.map (R := fun a b => a ≠ b) _ (fun a b h => by omega) (nodup_filter List.nodup_range)
  · intro a ha b hb
    obtain ⟨z, hz, rfl⟩ := List.mem_map.mp hb
    rw [List.mem_filter] at hz
    have hz := of_decide_eq_true hz.2
    split at ha
    · rename_i h0
      rw [List.mem_singleton] at ha
      have h1 := T.hp x h0
      have h2 := T.hp (z + 1) (by omega)
      omega
    · cases ha
def nearB : MS :=
  (mSeq (mOwn 2 (mComp (mRange1 (mCons (mB dLen (mCons (mVar 0) mNil)) mNil)) (mGn 3) (mTst (mBin dEq (mBin dIx (mVar 0) (mVar 3)) (mVar 1))) (mBin dAdd (mVar 3) (mC (.int 1))) [3]))
    (mSeq (mIfS (mTst (mBin dGt (mVar 1) (mC (.int 0))))
    (mSet 2 (mBin dAdd (mLst (mCons (mBin dIx (mVar 0) (mBin dSub (mVar 1) (mC (.int 1)))) mNil)) (mVar 2))) mNext)
    (mRet (mVar 2))))
def nearM : MF := mFun 2 4 nearB
theorem near_ok {t : List Nat} (h : TrOk t) (hl : t.length < 8) {x : Nat} (hx : x ≤ t.length) (k : Dk) : nearM [TD t, iD x] k = .ret (LD (nearL (trOf t h) t.length x)) k := by
  have hr := dRange1_iD (n := t.length) (by omega)
  have c1 := comp_iD (mi := (mRange1 (mCons (mB dLen (mCons (mVar 0) mNil)) mNil))) (g := (mGn 3)) (tt := (mTst (mBin dEq (mBin dIx (mVar 0) (mVar 3)) (mVar 1)))) (te := (mBin dAdd (mVar 3) (mC (.int 1)))) (vs := [3]) (ps := ⟨[.fz (TD t), .fz (iD x), .no, .no], k⟩) (ps0 := ⟨[.fz (TD t), .fz (iD x), .no, .no], k⟩)
    (fun j => decide ((trOf t h).p (j + 1) = x)) (fun j => j + 1) (xs := List.range t.length) (by simp [hr]) (by simp) (by simp; omega) (fun j hj => by
      have e := dIx_TD (trOf_at h (x := j + 1) (by omega) (by rw [List.mem_range] at hj; omega))
      have e : dIx (TD t) (iD j) = some (iD ((trOf t h).p (j + 1))) := e
      simp [e])
  unfold nearM mFun nearB nearL
  by_cases h0 : 0 < x
  · have e := dIx_TD (trOf_at h h0 hx)
    have e2 := dSub_iD1 (x := x) h0
    have hsz : 1 ≤ sizeLine := sz_le (by omega)
    have e3 : (PyData.list [iD ((trOf t h).p x)]) = LD [(trOf t h).p x] := rfl
    have e4 : dAdd (LD [(trOf t h).p x]) (LD (((List.range t.length).filter fun j => decide ((trOf t h).p (j + 1) = x)).map (· + 1))) = some (LD ([(trOf t h).p x] ++ (((List.range t.length).filter fun j => decide ((trOf t h).p (j + 1) = x)).map (· + 1)))) := dAdd_LD (by
      have := List.length_filter_le (fun j => decide ((trOf t h).p (j + 1) = x)) (List.range t.length)
      rw [List.length_range] at this
      simp only [List.length_map, List.length_cons, List.length_nil]
      omega)
    simp [sl0, List.replicate, c1, dGt_iD0, h0, e, e2, hsz, e3, e4]
  · simp [sl0, List.replicate, c1, dGt_iD0, h0]
end PP
namespace PP
open PySem MM L2
/-! ### branches, level by level -/
structure Bfs (T : Tr) (n one : Nat) (cm : List (Nat × D)) (here : List Nat) (c : Nat) : Prop where
  keys : (cm.map (·.1)).Nodup
  mem : ∀ x v, (x, v) ∈ cm ↔ x ≤ n ∧ T.d x one ≤ c ∧ v = iD (T.d x one)
  hn : here.Nodup
  hm : ∀ x, x ∈ here ↔ x ≤ n ∧ T.d x one = c
theorem Bfs.key {T : Tr} {n one : Nat} {cm : List (Nat × D)} {here : List Nat} {c : Nat} (b : Bfs T n one cm here c) (x : Nat) : x ∈ cm.map (·.1) ↔ x ≤ n ∧ T.d x one ≤ c := by
  rw [List.mem_map]
  constructor
  · rintro ⟨⟨y, v⟩, h, rfl⟩
    have := (b.mem y v).mp h
    exact ⟨this.1, this.2.1⟩
  · rintro ⟨h1, h2⟩
    exact ⟨(x, iD (T.d x one)), (b.mem _ _).mpr ⟨h1, h2, rfl⟩, rfl⟩
theorem Bfs.len {T : Tr} {n one : Nat} {cm : List (Nat × D)} {here : List Nat} {c : Nat} (b : Bfs T n one cm here c) : cm.length ≤ n + 1 := by
  have := len_le (n := n) b.keys (fun x hx => ((b.key x).mp hx).1)
  simpa using this
theorem Bfs.first {T : Tr} {n one : Nat} (h : one ≤ n) : Bfs T n one [(one, iD 0)] [one] 0 := by
  refine ⟨by simp, fun x v => ?_, by simp, fun x => ?_⟩
  · rw [List.mem_singleton]
    constructor
    · intro e; injection e with e1 e2; subst e1; subst e2; exact ⟨h, by rw [Tr.d_self]; omega, by rw [Tr.d_self]⟩
    · rintro ⟨h1, h2, h3⟩
      have := Tr.d_zero (T := T) (a := x) (b := one) (by omega)
      subst this
      rw [h3, Tr.d_self]
  · rw [List.mem_singleton]
    constructor
    · rintro rfl; exact ⟨h, Tr.d_self _⟩
    · rintro ⟨_, h2⟩; exact Tr.d_zero h2
theorem Bfs.next {T : Tr} {n one : Nat} {cm : List (Nat × D)} {here more : List Nat} {c : Nat} (b : Bfs T n one cm here c) (hn : more.Nodup) (hm : ∀ x, x ∈ more ↔ x ≤ n ∧ T.d x one = c + 1) :
    Bfs T n one (cm ++ more.map fun x => (x, iD (c + 1))) more (c + 1) := by
  refine ⟨?_, fun x v => ?_, hn, hm⟩
  · rw [List.map_append, List.nodup_append]
    refine ⟨b.keys, ?_, ?_⟩
    · rw [List.map_map]
      show (more.map fun x => x).Nodup
      rw [List.map_id']; exact hn
    · intro x hx y hy e
      subst e
      rw [List.map_map] at hy
      have hy : x ∈ more.map fun x => x := hy
      rw [List.map_id'] at hy
      have := (b.key x).mp hx
      have := (hm x).mp hy
      omega
  · rw [List.mem_append, b.mem, List.mem_map]
    constructor
    · rintro (⟨h1, h2, h3⟩ | ⟨y, hy, e⟩)
      · exact ⟨h1, by omega, h3⟩
      · injection e with e1 e2
        subst e1; subst e2
        have := (hm y).mp hy
        exact ⟨this.1, by omega, by rw [this.2]⟩
    · rintro ⟨h1, h2, h3⟩
      by_cases hc : T.d x one ≤ c
      · exact .inl ⟨h1, hc, h3⟩
      · right
        have hd : T.d x one = c + 1 := by omega
        exact ⟨x, (hm x).mpr ⟨h1, hd⟩, by rw [h3, hd]⟩
theorem Bfs.all {T : Tr} {n one : Nat} {cm : List (Nat × D)} {c : Nat} (b : Bfs T n one cm [] c) (h1 : one ≤ n) {x : Nat} (hx : x ≤ n) : (x, iD (T.d x one)) ∈ cm := by
  refine (b.mem _ _).mpr ⟨hx, ?_, rfl⟩
  by_cases hc : T.d x one ≤ c
  · exact hc
  · obtain ⟨y, hy, e⟩ := Tr.at_d (T := T) (c := c) h1 hx (by omega)
    have := (b.hm y).mpr ⟨hy, e⟩
    cases this
structure OffOk (T : Tr) (n one : Nat) (cm : List (Nat × D)) : Prop where
  keys : (cm.map (·.1)).Nodup
  at_ : ∀ x, x ≤ n → (x, iD (T.d x one)) ∈ cm
def offA : MS := (mSet 5 (mBin dAdd (mVar 5) (mFz (mComp (mIter (mCall nearM (mCons (mVar 0) (mCons (mVar 6) mNil)))) (mGn 7) (mTst (mBR bNotIn (mVar 7) 2)) (mVar 7) [7]))))
def offBd : MS := (mPut 2 (mVar 7) (mVar 4))
def offB : MS :=
  (mSeq (mParDEE 2 3 4 (mDict [((mVar 1), (mC (.int 0)))]) (mLst (mCons (mVar 1) mNil)) (mC (.int 0)))
    (mSeq (mWhile (mTst (mBin dNe (mVar 3) (mLst mNil)))
    (mSeq (mPar 5 4 (mCons (mLst mNil) (mCons (mBin dAdd (mVar 4) (mC (.int 1))) mNil)))
    (mSeq (mFor (mIter (mVar 3)) (mGn 6) offA)
    (mSeq (mFor (mIter (mVar 5)) (mGn 7) offBd)
    (mSet 3 (mVar 5))))) 64)
    (mRet (mVar 2))))
def offM : MF := mFun 2 8 offB
section
variable {t : List Nat} (h : TrOk t) (hl : t.length < 8) {one : Nat} (h1 : one ≤ t.length) {k : Dk}
include hl h1
theorem offA_ok {cm : List (Nat × D)} {here : List Nat} {c : Nat} (b : Bfs (trOf t h) t.length one cm here c) (s6 s7 : Sl) :
    ∃ more s6' s7', more.Nodup ∧ (∀ y, y ∈ more ↔ y ≤ t.length ∧ (trOf t h).d y one = c + 1) ∧ mLoop (mGn 6) offA (iDs here) ⟨[.fz (TD t), .fz (iD one), .md (kvD cm), .fz (LD here), .fz (iD (c + 1)), .fz (LD []), s6, s7], k⟩ = .next ⟨[.fz (TD t), .fz (iD one), .md (kvD cm), .fz (LD here), .fz (iD (c + 1)), .fz (LD more), s6', s7'], k⟩ := by
  obtain ⟨ps', e, more, s6, s7, rfl, m1, m2⟩ := loop_nat (g := mGn 6) (body := offA) (xs := here) (ps := ⟨[.fz (TD t), .fz (iD one), .md (kvD cm), .fz (LD here), .fz (iD (c + 1)), .fz (LD []), s6, s7], k⟩)
    (fun done ps => ∃ more s6 s7, ps = ⟨[.fz (TD t), .fz (iD one), .md (kvD cm), .fz (LD here), .fz (iD (c + 1)), .fz (LD more), s6, s7], k⟩ ∧ more.Nodup ∧ ∀ y, y ∈ more ↔ y ≤ t.length ∧ (trOf t h).d y one = c + 1 ∧ (trOf t h).nx y one ∈ done)
    ⟨[], s6, s7, rfl, by simp, fun y => by simp⟩ (by
      rintro done x rest ps hx ⟨more, s6, s7, rfl, m1, m2⟩
      have hxh : x ∈ here := by rw [hx]; simp
      obtain ⟨x1, x2⟩ := (b.hm x).mp hxh
      have hxd : x ∉ done := fun z => by
        have := b.hn
        rw [hx, List.nodup_append] at this
        exact this.2.2 x z x (by simp) rfl
      have hk := b.key
      generalize hks : cm.map (·.1) = ks at hk
      have hnew : ∀ y, y ∈ ((nearL (trOf t h) t.length x).filter fun y => !decide (y ∈ ks)) ↔ y ≤ t.length ∧ (trOf t h).d y one = c + 1 ∧ (trOf t h).nx y one = x := by
        intro y
        rw [List.mem_filter, mem_near x1]
        constructor
        · rintro ⟨⟨y1, y2⟩, y3⟩
          have y3 : ¬ y ∈ ks := by simpa using y3
          have y4 : ¬ (trOf t h).d y one ≤ c := fun z => y3 ((hk y).mpr ⟨y1, z⟩)
          rcases Tr.adj_nx (b := one) y2 with ⟨z1, z2⟩ | ⟨z1, z2⟩
          · have := Tr.d_nx (T := trOf t h) z1
            rw [z2] at this; omega
          · have := Tr.d_nx (T := trOf t h) z1
            rw [z2] at this
            exact ⟨y1, by omega, z2⟩
        · rintro ⟨y1, y2, y3⟩
          have yo : y ≠ one := fun z => by rw [z, Tr.d_self] at y2; omega
          refine ⟨⟨y1, ?_⟩, ?_⟩
          · have := Tr.nx_adj (T := trOf t h) yo
            rw [y3] at this; exact this.symm
          · have : ¬ y ∈ ks := fun z => by have := ((hk y).mp z).2; omega
            simpa using this
      have hnn : ((nearL (trOf t h) t.length x).filter fun y => !decide (y ∈ ks)).Nodup := nodup_filter (near_nodup _ _ _)
      generalize hN : ((nearL (trOf t h) t.length x).filter fun y => !decide (y ∈ ks)) = new at *
      have m1' : (more ++ new).Nodup := by
        rw [List.nodup_append]
        refine ⟨m1, hnn, fun y hy z hz e => ?_⟩
        subst e
        have z1 := (m2 y).mp hy
        have z2 := (hnew y).mp hz
        rw [z2.2.2] at z1
        exact hxd z1.2.2
      have hlm : (more ++ new).length ≤ t.length + 1 := len_le m1' (fun y hy => by
        rcases List.mem_append.mp hy with hy | hy
        · exact ((m2 y).mp hy).1
        · exact ((hnew y).mp hy).1)
      have hadd : dAdd (LD more) (LD new) = some (LD (more ++ new)) := dAdd_LD (by rw [List.length_append] at hlm; omega)
      have hnear := near_ok h hl x1 k
      have hln : (nearL (trOf t h) t.length x).length ≤ 16777216 := by
        have := len_le (near_nodup (trOf t h) t.length x) (fun y hy => ((mem_near x1).mp hy).1)
        omega
      have c1 := comp_iD (mi := (mIter (mCall nearM (mCons (mVar 0) (mCons (mVar 6) mNil))))) (g := (mGn 7)) (tt := (mTst (mBR bNotIn (mVar 7) 2))) (te := (mVar 7)) (vs := [7])
        (ps := ⟨[.fz (TD t), .fz (iD one), .md (kvD cm), .fz (LD here), .fz (iD (c + 1)), .fz (LD more), .fz (iD x), s7], k⟩) (ps0 := ⟨[.fz (TD t), .fz (iD one), .md (kvD cm), .fz (LD here), .fz (iD (c + 1)), .fz (LD more), .fz (iD x), .no], k⟩)
        (fun y => !decide (y ∈ ks)) (fun y => y) (xs := nearL (trOf t h) t.length x) (by simp [hnear]) (by simp) hln (fun y hy => by simp [hks])
      rw [List.map_id', hN] at c1
      refine ⟨⟨[.fz (TD t), .fz (iD one), .md (kvD cm), .fz (LD here), .fz (iD (c + 1)), .fz (LD more), .fz (iD x), s7], k⟩, ⟨[.fz (TD t), .fz (iD one), .md (kvD cm), .fz (LD here), .fz (iD (c + 1)), .fz (LD (more ++ new)), .fz (iD x), .no], k⟩, rfl, .inl ?_, more ++ new, _, _, rfl, m1', fun y => ?_⟩
      · unfold offA
        simp [c1, hadd]
      · rw [List.mem_append, m2, hnew, List.mem_append, List.mem_singleton]
        constructor
        · rintro (⟨a1, a2, a3⟩ | ⟨a1, a2, a3⟩)
          · exact ⟨a1, a2, .inl a3⟩
          · exact ⟨a1, a2, .inr a3⟩
        · rintro ⟨a1, a2, a3 | a3⟩
          · exact .inl ⟨a1, a2, a3⟩
          · exact .inr ⟨a1, a2, a3⟩)
  refine ⟨more, s6, s7, m1, fun y => ?_, e⟩
  rw [m2]
  constructor
  · rintro ⟨a1, a2, _⟩; exact ⟨a1, a2⟩
  · rintro ⟨a1, a2⟩
    have yo : y ≠ one := fun z => by rw [z, Tr.d_self] at a2; omega
    exact ⟨a1, a2, (b.hm _).mpr ⟨Tr.nx_le yo a1 h1, by have := Tr.d_nx (T := trOf t h) yo; omega⟩⟩
theorem offBd_ok {cm : List (Nat × D)} {here more : List Nat} {c : Nat} (b : Bfs (trOf t h) t.length one cm here c) (hn : more.Nodup) (hm : ∀ x, x ∈ more ↔ x ≤ t.length ∧ (trOf t h).d x one = c + 1) (s6 s7 : Sl) :
    ∃ s7', mLoop (mGn 7) offBd (iDs more) ⟨[.fz (TD t), .fz (iD one), .md (kvD cm), .fz (LD here), .fz (iD (c + 1)), .fz (LD more), s6, s7], k⟩ = .next ⟨[.fz (TD t), .fz (iD one), .md (kvD (cm ++ more.map fun x => (x, iD (c + 1)))), .fz (LD here), .fz (iD (c + 1)), .fz (LD more), s6, s7'], k⟩ := by
  have hlm : more.length ≤ t.length + 1 := len_le hn fun x hx => ((hm x).mp hx).1
  have hlc := b.len
  obtain ⟨ps', e, s7, rfl⟩ := loop_nat (g := mGn 7) (body := offBd) (xs := more) (ps := ⟨[.fz (TD t), .fz (iD one), .md (kvD cm), .fz (LD here), .fz (iD (c + 1)), .fz (LD more), s6, s7], k⟩)
    (fun done ps => ∃ s7, ps = ⟨[.fz (TD t), .fz (iD one), .md (kvD (cm ++ done.map fun x => (x, iD (c + 1)))), .fz (LD here), .fz (iD (c + 1)), .fz (LD more), s6, s7], k⟩)
    ⟨s7, by simp⟩ (by
      rintro done x rest ps hx ⟨s7, rfl⟩
      have hxm : x ∈ more := by rw [hx]; simp
      have hxd : x ∉ done := fun z => by
        have := hn
        rw [hx, List.nodup_append] at this
        exact this.2.2 x z x (by simp) rfl
      have hf : x ∉ (cm ++ done.map fun x => (x, iD (c + 1))).map (·.1) := by
        rw [List.map_append, List.mem_append, List.map_map]
        rintro (z | z)
        · have := (b.key x).mp z; have := (hm x).mp hxm; omega
        · have z : x ∈ done.map fun x => x := z
          rw [List.map_id'] at z; exact hxd z
      have hp := kvD_put (v := iD (c + 1)) hf
      have hsz : (cm ++ done.map fun x => (x, iD (c + 1))).length < sizeLine := sz_lt (by
        have := congrArg List.length hx
        simp at this ⊢
        omega)
      refine ⟨⟨[.fz (TD t), .fz (iD one), .md (kvD (cm ++ done.map fun x => (x, iD (c + 1)))), .fz (LD here), .fz (iD (c + 1)), .fz (LD more), s6, .fz (iD x)], k⟩, ⟨[.fz (TD t), .fz (iD one), .md (kvD ((cm ++ done.map fun x => (x, iD (c + 1))) ++ [(x, iD (c + 1))])), .fz (LD here), .fz (iD (c + 1)), .fz (LD more), s6, .fz (iD x)], k⟩, rfl, .inl ?_, .fz (iD x), ?_⟩
      · unfold offBd
        generalize (cm ++ done.map fun x => (x, iD (c + 1))) = Z at *
        simp [hp, hsz]
      · rw [List.append_assoc, List.map_append]; rfl)
  exact ⟨s7, e⟩
theorem off_ok (k : Dk) : ∃ cm, OffOk (trOf t h) t.length one cm ∧ offM [TD t, iD one] k = .ret (DD cm) k := by
  obtain ⟨ps', e, cm, s3, s4, s5, s6, s7, rfl, ok⟩ := while_inv (t := (mTst (mBin dNe (mVar 3) (mLst mNil)))) (body := (mSeq (mPar 5 4 (mCons (mLst mNil) (mCons (mBin dAdd (mVar 4) (mC (.int 1))) mNil)))
    (mSeq (mFor (mIter (mVar 3)) (mGn 6) offA)
    (mSeq (mFor (mIter (mVar 5)) (mGn 7) offBd)
    (mSet 3 (mVar 5)))))) (n := t.length + 1) (ps := ⟨[.fz (TD t), .fz (iD one), .md (kvD [(one, .int 0)]), .fz (LD [one]), .fz (.int 0), .no, .no, .no], k⟩) (fuel := 64)
    (fun m ps => ∃ cm here c s5 s6 s7, ps = ⟨[.fz (TD t), .fz (iD one), .md (kvD cm), .fz (LD here), .fz (iD c), s5, s6, s7], k⟩ ∧ Bfs (trOf t h) t.length one cm here c ∧ m = (t.length + 1 - cm.length) + (if here = [] then 0 else 1))
    (fun ps => ∃ cm s3 s4 s5 s6 s7, ps = ⟨[.fz (TD t), .fz (iD one), .md (kvD cm), s3, s4, s5, s6, s7], k⟩ ∧ OffOk (trOf t h) t.length one cm)
    ⟨[(one, iD 0)], [one], 0, .no, .no, .no, rfl, .first h1, by simp⟩ (by
      rintro m ps ⟨cm, here, c, s5, s6, s7, rfl, b, rfl⟩
      have he : (PyData.list []) = LD [] := rfl
      by_cases hh : here = []
      · left
        subst hh
        refine ⟨⟨[.fz (TD t), .fz (iD one), .md (kvD cm), .fz (LD []), .fz (iD c), s5, s6, s7], k⟩, ?_, cm, _, _, _, _, _, rfl, b.keys, fun x hx => b.all h1 hx⟩
        simp [he]
      · right
        obtain ⟨more, s6a, s7a, m1, m2, e1⟩ := offA_ok h hl h1 (k := k) b s6 s7
        obtain ⟨s7b, e2⟩ := offBd_ok h hl h1 (k := k) b m1 m2 s6a s7a
        have b2 := b.next m1 m2
        have l1 := b.len
        have l2 := b2.len
        simp only [List.length_append, List.length_map] at l2
        refine ⟨_, ⟨[.fz (TD t), .fz (iD one), .md (kvD cm), .fz (LD here), .fz (iD c), s5, s6, s7], k⟩, ⟨[.fz (TD t), .fz (iD one), .md (kvD (cm ++ more.map fun x => (x, iD (c + 1)))), .fz (LD more), .fz (iD (c + 1)), .fz (LD more), s6a, s7b], k⟩, ?_, ?_, .inl ?_, _, more, c + 1, _, _, _, rfl, b2, rfl⟩
        · rw [if_neg hh]
          simp only [List.length_append, List.length_map]
          by_cases hm : more = []
          · rw [if_pos hm, hm]; simp
          · rw [if_neg hm]
            have : 0 < more.length := List.length_pos_iff.mpr hm
            omega
        · simp [he, hh]
        · simp [he, e1, e2]) (by omega)
  refine ⟨cm, ok, ?_⟩
  have hd : mergeD [(Sum.inl ((one : Nat) : Int), PyData.int 0)] = kvD [(one, .int 0)] := rfl
  have hl1 : (PyData.list [iD one]) = LD [one] := rfl
  have hsz : 1 ≤ sizeLine := sz_le (by omega)
  unfold offM mFun offB
  simp [sl0, List.replicate, toKeys, hd, hl1, hsz, e]
end
end PP
namespace PP
open PySem MM L2
/-! ### what is alike -/
@[simp] theorem isTup_iD (x : Nat) : isTup (iD x) = false := rfl
@[simp] theorem isTup_TD (x : List Nat) : isTup (TD x) = true := rfl
@[simp] theorem isDeck_iD (x : Nat) : isDeck (iD x) = false := rfl
@[simp] theorem isDeck_TD (x : List Nat) : isDeck (TD x) = false := rfl
@[simp] theorem isBool_iD (x : Nat) : isBool (iD x) = false := rfl
@[simp] theorem isIntB_iD (x : Nat) : isIntB (iD x) = true := rfl
@[simp] theorem dIsN_iD (x : Nat) : dIsN (iD x) .none = some (.bool false) := rfl
@[simp] theorem dNotN_iD (x : Nat) : dNotN (iD x) .none = some (.bool true) := rfl
@[simp] theorem dIsN_TD (x : List Nat) : dIsN (TD x) .none = some (.bool false) := rfl
/-- a comprehension over anything, the state as it was -/
theorem cl_gen {α : Type} (e : α → D) {g : MG} {tt : MT} {te : ME} {vs : List Nat} {ps : Ps} (p : α → Bool) (f : α → D) : ∀ (xs : List α) (acc : List D), acc.length + xs.length ≤ 16777216 →
    (∀ x ∈ xs, ∃ ps1 ps2, g (e x) ps = some ps1 ∧ tt ps1 = .ok (p x) ps2 ∧ (p x = false → wipeP ps2 vs = ps) ∧ (p x = true → ∃ ps3, te ps2 = .ok (f x) ps3 ∧ wipeP ps3 vs = ps)) →
    mCl g tt te vs (xs.map e) acc ps = .ok (acc ++ (xs.filter p).map f) ps
  | [], acc, _, _ => by simp [mCl]
  | x :: xs, acc, hl, h => by
    obtain ⟨ps1, ps2, e1, e2, h1, h2⟩ := h x (by simp)
    rw [List.length_cons] at hl
    rw [List.map_cons]
    unfold mCl
    rw [e1]
    simp only [e2]
    cases hp : p x with
    | true =>
      obtain ⟨ps3, e3, e4⟩ := h2 hp
      simp only [if_true, e3]
      rw [if_pos (by show acc.length < 2 ^ 24; omega), e4, cl_gen e p f xs (acc ++ [f x]) (by simp; omega) (fun y hy => h y (by simp [hy]))]
      simp [hp]
    | false =>
      simp only [Bool.false_eq_true, if_false]
      rw [h1 hp, cl_gen e p f xs acc (by omega) (fun y hy => h y (by simp [hy]))]
      simp [hp]
theorem comp_gen {α : Type} (e : α → D) {mi : MA} {g : MG} {tt : MT} {te : ME} {vs : List Nat} {ps ps0 : Ps} (p : α → Bool) (f : α → D) {xs : List α} (hi : ((mi ps).bind fun ds q => .ok ds (wipeP q vs)) = .ok (xs.map e) ps0) (hw : wipeP ps0 vs = ps0) (hl : xs.length ≤ 16777216)
    (h : ∀ x ∈ xs, ∃ ps1 ps2, g (e x) ps0 = some ps1 ∧ tt ps1 = .ok (p x) ps2 ∧ (p x = false → wipeP ps2 vs = ps0) ∧ (p x = true → ∃ ps3, te ps2 = .ok (f x) ps3 ∧ wipeP ps3 vs = ps0)) :
    mComp mi g tt te vs ps = .ok ((xs.filter p).map f) ps0 := by
  unfold mComp
  cases e0 : mi ps with
  | ok ds q =>
    rw [e0] at hi
    injection hi with e1 e2
    subst e1
    simp only [Out.bind_ok]
    rw [e2, cl_gen e p f xs [] (by simpa using hl) h]
    simp only [Out.bind_ok, hw, List.nil_append]
  | exc x q => rw [e0] at hi; cases hi
  | bad => rw [e0] at hi; cases hi
def sameB (rec : MF) : MS :=
  (mSeq (mIfS (mTst (mIsi isTup (mVar 1)))
    (mSeq (mIfS (mOr (mNot (mTst (mIsi isTup (mVar 0)))) (mTst (mBin dNe (mB dLen (mCons (mVar 0) mNil)) (mB dLen (mCons (mVar 1) mNil)))))
    (mRet (mC (.bool false))) mNext)
    (mRet (mB dAll (mCons (mFz (mComp (mZip (mCons (mVar 0) (mCons (mVar 1) mNil))) (mGp 2 3) mYes (mCall rec (mCons (mVar 2) (mCons (mVar 3) mNil))) [2, 3])) mNil)))) mNext)
    (mSeq (mIfS (mTst (mBin dIsN (mVar 1) (mC .none)))
    (mRet (mBin dIsN (mVar 0) (mC .none))) mNext)
    (mSeq (mIfS (mOr (mTst (mIsi isBool (mVar 1))) (mTst (mIsi isBool (mVar 0))))
    (mRet (mAndV (mIsi isBool (mVar 1)) (mAndV (mIsi isBool (mVar 0)) (mBin dEq (mVar 0) (mVar 1))))) mNext)
    (mRet (mAndV (mIsi isIntB (mVar 0)) (mBin dEq (mVar 0) (mVar 1)))))))
def sameM : Nat → MF
  | 0 => fun _ _ => .bad
  | n + 1 => mFun 2 4 (sameB (sameM n))
theorem same_int (n a b : Nat) (k : Dk) : sameM (n + 1) [iD a, iD b] k = .ret (.bool (decide (a = b))) k := by
  show mFun 2 4 (sameB (sameM n)) _ _ = _
  unfold mFun sameB
  simp [sl0, List.replicate]
theorem dAll_true (n : Nat) : dAll [.list (List.replicate n (.bool true))] = some (.bool true) := by
  have : blsOf (List.replicate n (.bool true)) = some (List.replicate n true) := by
    induction n with
    | zero => rfl
    | succ n ih => rw [List.replicate_succ, List.replicate_succ]; simp [blsOf, ih]
  simp [dAll, this]
theorem same_tup (n : Nat) (xs : List Nat) (hl : xs.length ≤ 16777216) (k : Dk) : sameM (n + 2) [TD xs, TD xs] k = .ret (.bool true) k := by
  show mFun 2 4 (sameB (sameM (n + 1))) _ _ = _
  have hz : dZip [TD xs, TD xs] = some (xs.map fun x => PyData.tuple [iD x, iD x]) := by
    show some (zipD (iDs xs) (iDs xs)) = _
    unfold zipD iDs
    rw [List.zip_map, List.map_map]
    congr 1
    induction xs with
    | nil => rfl
    | cons x xs ih => rw [List.zip_cons_cons, List.map_cons, List.map_cons, ih (by simp at hl; omega)]; rfl
  have c1 := comp_gen (fun x => PyData.tuple [iD x, iD x]) (mi := (mZip (mCons (mVar 0) (mCons (mVar 1) mNil)))) (g := (mGp 2 3)) (tt := mYes) (te := (mCall (sameM (n + 1)) (mCons (mVar 2) (mCons (mVar 3) mNil)))) (vs := [2, 3]) (ps := ⟨[.fz (TD xs), .fz (TD xs), .no, .no], k⟩) (ps0 := ⟨[.fz (TD xs), .fz (TD xs), .no, .no], k⟩)
    (fun _ => true) (fun _ => .bool true) (xs := xs) (by simp [hz]) (by simp) hl (fun x hx => by simp [same_int])
  have e1 : (List.filter (fun _ => true) xs).map (fun _ => PyData.bool true) = List.replicate xs.length (.bool true) := by
    rw [List.filter_eq_self.mpr (by simp)]
    clear c1 hz hl
    induction xs with
    | nil => rfl
    | cons x xs ih => simp [List.replicate_succ, ih]
  rw [e1] at c1
  have ha := dAll_true xs.length
  unfold mFun sameB
  simp [sl0, List.replicate, c1, ha]
/-! ### all counts -/
def offsB : MS :=
  (mRet (mFz (mComp (mRange1 (mCons (mBin dAdd (mB dLen (mCons (mVar 0) mNil)) (mC (.int 1))) mNil)) (mGn 1) mYes (mCall offM (mCons (mVar 0) (mCons (mVar 1) mNil))) [1])))
def offsM : MF := mFun 1 2 offsB
theorem offs_ok {t : List Nat} (h : TrOk t) (hl : t.length < 8) (k : Dk) : ∃ F : Nat → List (Nat × D), (∀ x, x ≤ t.length → OffOk (trOf t h) t.length x (F x)) ∧ offsM [TD t] k = .ret (.list ((List.range (t.length + 1)).map fun x => DD (F x))) k := by
  have hF : ∀ x, ∃ cm, x ≤ t.length → OffOk (trOf t h) t.length x cm ∧ offM [TD t, iD x] k = .ret (DD cm) k := fun x => by
    by_cases hx : x ≤ t.length
    · obtain ⟨cm, a, b⟩ := off_ok h hl hx k
      exact ⟨cm, fun _ => ⟨a, b⟩⟩
    · exact ⟨[], fun z => absurd z hx⟩
  obtain ⟨F, hF⟩ := Classical.skolem.mp hF
  refine ⟨F, fun x hx => (hF x hx).1, ?_⟩
  have hr := dRange1_iD (n := t.length + 1) (by omega)
  have c1 := comp_nat (mi := (mRange1 (mCons (mBin dAdd (mB dLen (mCons (mVar 0) mNil)) (mC (.int 1))) mNil))) (g := (mGn 1)) (tt := mYes) (te := (mCall offM (mCons (mVar 0) (mCons (mVar 1) mNil)))) (vs := [1]) (ps := ⟨[.fz (TD t), .no], k⟩) (ps0 := ⟨[.fz (TD t), .no], k⟩)
    (fun _ => true) (fun x => DD (F x)) (xs := List.range (t.length + 1)) (by simp [hr]) (by simp) (by simp; omega) (fun x hx => by
      have e := (hF x (by rw [List.mem_range] at hx; omega)).2
      simp [e])
  rw [List.filter_eq_self.mpr (by simp)] at c1
  unfold offsM mFun offsB
  simp [sl0, List.replicate, c1]
theorem offs_at {t : List Nat} {h : TrOk t} {F : Nat → List (Nat × D)} (hF : ∀ x, x ≤ t.length → OffOk (trOf t h) t.length x (F x)) {p q : Nat} (hp : p ≤ t.length) (hq : q ≤ t.length) :
    dIx (.list ((List.range (t.length + 1)).map fun x => DD (F x))) (iD p) = some (DD (F p)) ∧ dIx (DD (F p)) (iD q) = some (iD ((trOf t h).d q p)) := by
  refine ⟨dIx_list ?_, dIx_DD (hF p hp).keys ((hF p hp).at_ q hq)⟩
  rw [List.getElem?_map, List.getElem?_range (by omega)]; rfl
end PP
namespace PP
open PySem MM L2
/-- a comprehension over numbers whose elements change the state -/
theorem comp_inv {mi : MA} {g : MG} {te : ME} {vs : List Nat} {ps ps0 : Ps} {xs : List Nat} (P : List Nat → List D → Ps → Prop) (hi : ((mi ps).bind fun ds q => .ok ds (wipeP q vs)) = .ok (iDs xs) ps0) (hl : xs.length ≤ 16777216) (h0 : P [] [] ps0)
    (h : ∀ done x rest acc ps, xs = done ++ x :: rest → acc.length = done.length → P done acc ps → ∃ ps1 ps3 y, g (iD x) ps = some ps1 ∧ te ps1 = .ok y ps3 ∧ P (done ++ [x]) (acc ++ [y]) (wipeP ps3 vs)) :
    ∃ ys ps', mComp mi g mYes te vs ps = .ok ys (wipeP ps' vs) ∧ P xs ys ps' ∧ ys.length = xs.length := by
  have key : ∀ (rest done : List Nat) (acc : List D) (ps : Ps), xs = done ++ rest → acc.length = done.length → P done acc ps → ∃ ys ps', mCl g mYes te vs (iDs rest) acc ps = .ok ys ps' ∧ P xs ys ps' ∧ ys.length = xs.length := by
    intro rest
    induction rest with
    | nil => intro done acc ps e hlen p; rw [List.append_nil] at e; subst e; exact ⟨acc, ps, by simp [mCl, iDs], p, hlen⟩
    | cons x rest ih =>
      intro done acc ps e hlen p
      obtain ⟨ps1, ps3, y, e1, e2, p2⟩ := h done x rest acc ps e hlen p
      obtain ⟨ys, ps', e3, p3⟩ := ih (done ++ [x]) (acc ++ [y]) _ (by rw [e, List.append_assoc]; rfl) (by simp [hlen]) p2
      refine ⟨ys, ps', ?_, p3⟩
      show mCl g mYes te vs (iD x :: iDs rest) acc ps = _
      have hz : acc.length < sizeLine := by
        have := congrArg List.length e
        rw [List.length_append, List.length_cons] at this
        show acc.length < 16777216
        omega
      unfold mCl
      simp only [e1, e_yes, if_true, e2, if_pos hz]
      exact e3
  obtain ⟨ys, ps', e, p, hlen⟩ := key xs [] [] ps0 rfl rfl h0
  refine ⟨ys, ps', ?_, p, hlen⟩
  unfold mComp
  cases e0 : mi ps with
  | ok ds q =>
    rw [e0] at hi
    injection hi with e1 e2
    subst e1
    simp only [Out.bind_ok]
    rw [e2, e]; rfl
  | exc x q => rw [e0] at hi; cases hi
  | bad => rw [e0] at hi; cases hi
/-- a comprehension over anything, whose test and elements may change the state -/
theorem comp_inv2 {mi : MA} {g : MG} {tt : MT} {te : ME} {vs : List Nat} {ps ps0 : Ps} {xs : List D} (P : List D → List D → Ps → Prop) (hi : ((mi ps).bind fun ds q => .ok ds (wipeP q vs)) = .ok xs ps0) (hl : xs.length ≤ 16777216) (h0 : P [] [] ps0)
    (h : ∀ done x rest acc ps, xs = done ++ x :: rest → acc.length ≤ done.length → P done acc ps → ∃ ps1 b ps2, g x ps = some ps1 ∧ tt ps1 = .ok b ps2 ∧ (b = false → P (done ++ [x]) acc (wipeP ps2 vs)) ∧ (b = true → ∃ y ps3, te ps2 = .ok y ps3 ∧ P (done ++ [x]) (acc ++ [y]) (wipeP ps3 vs))) :
    ∃ ys ps', mComp mi g tt te vs ps = .ok ys (wipeP ps' vs) ∧ P xs ys ps' ∧ ys.length ≤ xs.length := by
  have key : ∀ (rest done : List D) (acc : List D) (ps : Ps), xs = done ++ rest → acc.length ≤ done.length → P done acc ps → ∃ ys ps', mCl g tt te vs rest acc ps = .ok ys ps' ∧ P xs ys ps' ∧ ys.length ≤ xs.length := by
    intro rest
    induction rest with
    | nil => intro done acc ps e hlen p; rw [List.append_nil] at e; subst e; exact ⟨acc, ps, by simp [mCl], p, hlen⟩
    | cons x rest ih =>
      intro done acc ps e hlen p
      obtain ⟨ps1, b, ps2, e1, e2, hf, ht⟩ := h done x rest acc ps e hlen p
      have e' : xs = (done ++ [x]) ++ rest := by rw [e, List.append_assoc]; rfl
      unfold mCl
      rw [e1]
      simp only [e2]
      cases b with
      | false =>
        obtain ⟨ys, ps', e3, p3⟩ := ih (done ++ [x]) acc _ e' (by simp; omega) (hf rfl)
        exact ⟨ys, ps', by simpa using e3, p3⟩
      | true =>
        obtain ⟨y, ps3, e4, p4⟩ := ht rfl
        obtain ⟨ys, ps', e3, p3⟩ := ih (done ++ [x]) (acc ++ [y]) _ e' (by simp; omega) p4
        have hz : acc.length < sizeLine := by
          have := congrArg List.length e
          rw [List.length_append, List.length_cons] at this
          show acc.length < 16777216
          omega
        refine ⟨ys, ps', ?_, p3⟩
        simp only [if_true, e4, if_pos hz]
        exact e3
  obtain ⟨ys, ps', e, p, hlen⟩ := key xs [] [] ps0 rfl (Nat.le_refl _) h0
  refine ⟨ys, ps', ?_, p, hlen⟩
  unfold mComp
  cases e0 : mi ps with
  | ok ds q =>
    rw [e0] at hi
    injection hi with e1 e2
    subst e1
    simp only [Out.bind_ok]
    rw [e2, e]; rfl
  | exc x q => rw [e0] at hi; cases hi
  | bad => rw [e0] at hi; cases hi
/-- a list of whole numbers from range -/
theorem rg_n {n : Nat} (h : n ≤ 1000) : dRg [.int (n : Int)] = some (iDs (List.range n)) := by
  show rgD 0 (n : Int) = _
  unfold rgD
  rw [if_pos (by
    rw [Bool.and_eq_true, Bool.and_eq_true]
    exact ⟨⟨decide_eq_true (by simp), decide_eq_true (by omega)⟩, decide_eq_true (by omega)⟩)]
  rw [Int.sub_zero, Int.toNat_natCast, rangeD0]
theorem e_rgL {m : MA} {ps : Ps} : mRgL m ps = (m ps).bind fun ds ps1 => .of (dRg ds) ps1 := rfl
theorem e_cat {a b : ME} {ps : Ps} : mCat a b ps = (a ps).bind fun x ps1 => (b ps1).bind fun y ps2 => match x, y with
  | .list xs, .list ys => if xs.length + ys.length ≤ sizeLine then .ok (xs ++ ys) ps2 else .bad
  | _, _ => .bad := rfl
end PP
/-! Middles of odd many places: plain. -/
namespace PP
namespace Tr
variable {T : Tr}
/-- all branches from v to these places together -/
def S (T : Tr) (ps : List Nat) (v : Nat) : Nat := (ps.map fun p => T.d p v).sum
/-- how many of these are nearer to w than to v -/
def cnt (T : Tr) (ps : List Nat) (v w : Nat) : Nat := (ps.filter fun p => decide (T.d p w < T.d p v)).length
theorem S_adj {v w : Nat} (h : T.adj v w) (ps : List Nat) : T.S ps w + 2 * T.cnt ps v w = T.S ps v + ps.length := by
  induction ps with
  | nil => rfl
  | cons p ps ih =>
    have h1 := adj_d (b := p) h
    rw [d_comm (T := T) p v, d_comm (T := T) p w] at h1
    unfold S cnt at *
    by_cases hc : T.d p w < T.d p v
    · rw [List.filter_cons_of_pos (by simpa using hc)]
      simp only [List.map_cons, List.sum_cons, List.length_cons]
      omega
    · rw [List.filter_cons_of_neg (by simpa using hc)]
      simp only [List.map_cons, List.sum_cons, List.length_cons]
      omega
theorem cnt_half {v w : Nat} (h : T.adj v w) (ps : List Nat) : 2 * T.cnt ps v w < ps.length ↔ T.S ps v < T.S ps w := by
  have := S_adj h ps
  omega
theorem cnt_mono {ps : List Nat} {v w v' w' : Nat} (h : ∀ p, T.d p w < T.d p v → T.d p w' < T.d p v') : T.cnt ps v w ≤ T.cnt ps v' w' := by
  unfold cnt
  induction ps with
  | nil => exact Nat.le_refl _
  | cons p ps ih =>
    by_cases hc : T.d p w < T.d p v
    · rw [List.filter_cons_of_pos (by simpa using hc), List.filter_cons_of_pos (by simpa using h p hc), List.length_cons, List.length_cons]; omega
    · rw [List.filter_cons_of_neg (by simpa using hc)]
      by_cases hd : T.d p w' < T.d p v'
      · rw [List.filter_cons_of_pos (by simpa using hd), List.length_cons]; omega
      · rw [List.filter_cons_of_neg (by simpa using hd)]; exact ih
theorem near_nx {v w p : Nat} (h : T.adj v w) : T.d p w < T.d p v ↔ v ≠ p ∧ T.nx v p = w := by
  constructor
  · intro hl
    rcases adj_nx (b := p) h with h1 | ⟨h2, h3⟩
    · exact h1
    · have := d_nx (T := T) h2
      rw [h3] at this
      rw [d_comm (T := T) p v, d_comm (T := T) p w] at this
      omega
  · rintro ⟨h1, h2⟩
    have := d_nx (T := T) h1
    rw [h2] at this
    rw [d_comm (T := T) p v, d_comm (T := T) p w] at this
    omega
/-- each side of it has fewer than half of them -/
def Mid (T : Tr) (n : Nat) (ps : List Nat) (v : Nat) : Prop := ∀ w, w ≤ n → T.adj v w → 2 * T.cnt ps v w < ps.length
theorem Mid.step {n : Nat} {ps : List Nat} {v : Nat} (hv : v ≤ n) (m : T.Mid n ps v) {u : Nat} (hu : u ≤ n) (hne : u ≠ v) : 2 * T.cnt ps (T.nx u v) u < ps.length := by
  generalize hn : T.d u v = k
  induction k generalizing u with
  | zero => exact absurd (d_zero hn) hne
  | succ k ih =>
    have h1 := d_nx (T := T) hne
    have ha := nx_adj (T := T) hne
    have hy := nx_le (T := T) hne hu hv
    by_cases e : T.nx u v = v
    · rw [e]; rw [e] at ha; exact m u hu ha.symm
    · have h2 := ih hy e (by omega)
      have hb := nx_adj (T := T) e
      have h3 := d_nx (T := T) e
      refine Nat.lt_of_le_of_lt (Nat.mul_le_mul_left 2 (cnt_mono fun p hp => ?_)) h2
      obtain ⟨q1, q2⟩ := (near_nx ha.symm).mp hp
      refine (near_nx hb.symm).mpr ?_
      rcases adj_nx (b := p) hb with ⟨_, h5⟩ | h5
      · exfalso
        rw [q2] at h5
        rw [← h5] at h3
        omega
      · exact h5
theorem Mid.lt {n : Nat} {ps : List Nat} {v : Nat} (hv : v ≤ n) (m : T.Mid n ps v) {u : Nat} (hu : u ≤ n) (hne : u ≠ v) : T.S ps v < T.S ps u := by
  generalize hn : T.d u v = k
  induction k generalizing u with
  | zero => exact absurd (d_zero hn) hne
  | succ k ih =>
    have h1 := d_nx (T := T) hne
    have ha := nx_adj (T := T) hne
    have hy := nx_le (T := T) hne hu hv
    have h2 := (cnt_half ha.symm ps).mp (m.step hv hu hne)
    by_cases e : T.nx u v = v
    · rw [e] at h2; exact h2
    · have := ih hy e (by omega); omega
theorem ex_min (f : Nat → Nat) (n : Nat) : ∃ v, v ≤ n ∧ ∀ u, u ≤ n → f v ≤ f u := by
  induction n with
  | zero => exact ⟨0, Nat.le_refl _, fun u hu => by have : u = 0 := by omega
                                                    rw [this]; exact Nat.le_refl _⟩
  | succ n ih =>
    obtain ⟨v, hv, h⟩ := ih
    by_cases hc : f v ≤ f (n + 1)
    · refine ⟨v, by omega, fun u hu => ?_⟩
      by_cases e : u = n + 1
      · rw [e]; exact hc
      · exact h u (by omega)
    · refine ⟨n + 1, Nat.le_refl _, fun u hu => ?_⟩
      by_cases e : u = n + 1
      · rw [e]; exact Nat.le_refl _
      · have := h u (by omega); omega
/-- the one place from which all of them are the fewest branches -/
structure IsMed (T : Tr) (n : Nat) (ps : List Nat) (v : Nat) : Prop where
  le : v ≤ n
  mid : T.Mid n ps v
  lt : ∀ u, u ≤ n → u ≠ v → T.S ps v < T.S ps u
theorem ex_med (n : Nat) {ps : List Nat} (ho : ps.length % 2 = 1) : ∃ v, T.IsMed n ps v := by
  obtain ⟨v, hv, h⟩ := ex_min (T.S ps) n
  have m : T.Mid n ps v := fun w hw ha => by
    have h1 := h w hw
    have h2 := S_adj ha ps
    omega
  exact ⟨v, hv, m, fun u hu hne => m.lt hv hu hne⟩
theorem IsMed.uniq {n : Nat} {ps qs : List Nat} {v w c : Nat} (h : T.IsMed n ps v) (h2 : T.IsMed n qs w) (hc : 0 < c) (e : ∀ u, T.S qs u = c * T.S ps u) : w = v := by
  by_cases hne : w = v
  · exact hne
  · have h3 := h.lt w h2.le hne
    have h4 := h2.lt v h.le (fun z => hne z.symm)
    rw [e, e] at h4
    have := Nat.lt_of_mul_lt_mul_left h4
    omega
theorem S_app (T : Tr) (ps qs : List Nat) (u : Nat) : T.S (ps ++ qs) u = T.S ps u + T.S qs u := by unfold S; rw [List.map_append, List.sum_append]
theorem S_nil (T : Tr) (u : Nat) : T.S [] u = 0 := rfl
theorem S_cons (T : Tr) (p : Nat) (ps : List Nat) (u : Nat) : T.S (p :: ps) u = T.d p u + T.S ps u := by unfold S; rw [List.map_cons, List.sum_cons]
theorem S_rev (T : Tr) (ps : List Nat) (u : Nat) : T.S ps.reverse u = T.S ps u := by
  induction ps with
  | nil => rfl
  | cons p ps ih => rw [List.reverse_cons, S_app, ih, S_cons, S_cons, S_nil]; omega
theorem Mid.med {n : Nat} {ps : List Nat} {v : Nat} (hv : v ≤ n) (m : T.Mid n ps v) : T.IsMed n ps v := ⟨hv, m, fun u hu hne => m.lt hv hu hne⟩
/-- the median, told -/
def med (T : Tr) (n : Nat) (ps : List Nat) : Nat := ((List.range (n + 1)).filter fun v => (List.range (n + 1)).all fun u => decide (T.S ps v ≤ T.S ps u)).headD 0
theorem med_is {n : Nat} {ps : List Nat} {v : Nat} (h : T.IsMed n ps v) : T.med n ps = v := by
  unfold med
  generalize hL : ((List.range (n + 1)).filter fun v => (List.range (n + 1)).all fun u => decide (T.S ps v ≤ T.S ps u)) = L
  have hv : v ∈ L := by
    rw [← hL, List.mem_filter, List.mem_range, List.all_eq_true]
    refine ⟨by have := h.le; omega, fun u hu => decide_eq_true ?_⟩
    rw [List.mem_range] at hu
    by_cases e : u = v
    · rw [e]; exact Nat.le_refl _
    · have := h.lt u (by omega) e; omega
  have ha : ∀ x ∈ L, x = v := fun x hx => by
    rw [← hL, List.mem_filter, List.mem_range, List.all_eq_true] at hx
    have h1 := of_decide_eq_true (hx.2 v (List.mem_range.mpr (by have := h.le; omega)))
    by_cases e : x = v
    · exact e
    · have := h.lt x (by omega) e; omega
  cases L with
  | nil => cases hv
  | cons x xs => exact ha x (by simp)
theorem med_ok (n : Nat) {ps : List Nat} (ho : ps.length % 2 = 1) : T.IsMed n ps (T.med n ps) := by
  obtain ⟨v, h⟩ := ex_med (T := T) n ho
  rw [med_is h]; exact h
/-- a branch crossed -/
theorem cross {m w a b : Nat} (h : T.adj m w) (ha : T.d a w < T.d a m) (hb : T.d b m < T.d b w) : T.d a b = T.d a w + 1 + T.d m b := by
  generalize hk : T.d a w = k
  induction k generalizing a with
  | zero =>
    have := d_zero hk
    subst this
    obtain ⟨h1, h2⟩ := (near_nx h.symm).mp hb
    have h3 := d_nx (T := T) h1
    rw [h2] at h3; omega
  | succ k ih =>
    have hne : a ≠ w := fun z => by rw [z, d_self] at hk; omega
    have h1 := d_nx (T := T) hne
    have hadj := nx_adj (T := T) hne
    have h2 : T.d (T.nx a w) w < T.d (T.nx a w) m := by
      have e1 := adj_d (b := a) h
      have e2 := adj_d (b := m) hadj
      rw [d_comm (T := T) a m, d_comm (T := T) a w] at e1
      omega
    have h3 := ih h2 (by omega)
    rcases adj_d (b := b) hadj with h4 | h4
    · omega
    · exfalso
      rcases adj_nx (b := b) hadj with ⟨h5, h6⟩ | ⟨h5, h6⟩
      · have := d_nx (T := T) h5; rw [h6] at this; omega
      · have t1 := tri (T := T) a w b
        have t2 : T.d w b = T.d m b + 1 := by
          obtain ⟨h1, h2⟩ := (near_nx h.symm).mp hb
          have h3 := d_nx (T := T) h1
          rw [h2] at h3; exact h3
        have t3 := tri (T := T) a w m
        have t4 := tri (T := T) (T.nx a w) w b
        by_cases e : T.nx a w = w
        · rw [e] at h6 h5
          have q := (near_nx h.symm).mp hb
          rw [h6] at q
          have : T.d a w = k + 1 := hk
          rw [q.2] at ha
          rw [d_self] at ha; omega
        · have h7 := d_nx (T := T) e
          have h8 : T.nx (T.nx a w) w = a := by
            rcases adj_nx (b := w) (nx_adj (T := T) e) with ⟨_, _⟩ | _
            all_goals
              have hp : w ∈ T.path (T.nx a w) b := mem_path.mpr (by omega)
              rw [path_nx h5, List.mem_cons] at hp
              rcases hp with hp | hp
              · exact absurd hp.symm e
              · rw [h6] at hp
                have := mem_path.mp hp
                omega
          rw [h8] at h7; omega
theorem med3 {n : Nat} {a b : Nat} {ps : List Nat} {m : Nat} (h : T.IsMed n ps m) (hl : ps.length ≤ 3) (ha : a ≤ n) (hb : b ≤ n) (hs : ∀ w, (T.d a w < T.d a m) → (T.d b w < T.d b m) → 2 ≤ T.cnt ps m w) : m ∈ T.path a b := by
  rw [mem_path]
  by_cases e1 : m = a
  · subst e1; rw [d_self]; omega
  · have hx := (near_nx (nx_adj (T := T) e1)).mpr ⟨e1, rfl⟩
    have hadj := nx_adj (T := T) e1
    have h1 := adj_d (b := b) hadj
    rw [d_comm (T := T) b m, d_comm (T := T) b (T.nx m a)] at h1
    by_cases hc : T.d b (T.nx m a) < T.d b m
    · have := hs _ hx hc
      have h2 := h.mid _ (nx_le (T := T) e1 h.le ha) hadj
      omega
    · have h3 := cross (b := b) hadj hx (by omega)
      have h4 := adj_d (b := a) hadj
      rw [d_comm (T := T) a m, d_comm (T := T) a (T.nx m a)] at h4
      omega
theorem med3_all {n a b c : Nat} (ha : a ≤ n) (hb : b ≤ n) (hc : c ≤ n) : T.med n [a, b, c] ∈ T.path a b ∧ T.med n [a, b, c] ∈ T.path b c ∧ T.med n [a, b, c] ∈ T.path a c := by
  have h := med_ok (T := T) n (ps := [a, b, c]) (by simp)
  generalize T.med n [a, b, c] = m at *
  have l3 : [a, b, c].length ≤ 3 := Nat.le_refl _
  refine ⟨med3 h l3 ha hb fun w h1 h2 => ?_, med3 h l3 hb hc fun w h1 h2 => ?_, med3 h l3 ha hc fun w h1 h2 => ?_⟩
  · unfold cnt
    rw [List.filter_cons_of_pos (by simpa using h1), List.filter_cons_of_pos (by simpa using h2)]
    simp
  · unfold cnt
    have : [b, c].Sublist [a, b, c] := List.sublist_cons_self _ _
    have := (this.filter fun p => decide (T.d p w < T.d p m)).length_le
    rw [List.filter_cons_of_pos (by simpa using h1), List.filter_cons_of_pos (by simpa using h2)] at this
    simpa using this
  · unfold cnt
    have : [a, c].Sublist [a, b, c] := List.Sublist.cons_cons _ (List.sublist_cons_self _ _)
    have := (this.filter fun p => decide (T.d p w < T.d p m)).length_le
    rw [List.filter_cons_of_pos (by simpa using h1), List.filter_cons_of_pos (by simpa using h2)] at this
    simpa using this
theorem med_two {n p q : Nat} (hp : p ≤ n) (hq : q ≤ n) : T.med n [p, q, p] = p ∧ T.med n [q, p, p] = p := by
  have h1 := (med3_all (T := T) hp hq hp).2.2
  have h2 := (med3_all (T := T) hq hp hp).2.1
  rw [path_self, List.mem_singleton] at h1 h2
  exact ⟨h1, h2⟩
end Tr
end PP
/-! Places, neighbours, sides and middles worked out. -/
namespace PP
open PySem MM L2
theorem enum_n (t : List Nat) : dEnum [TD t] = some ((List.range t.length).map fun i => PyData.tuple [iD i, iD (t.getD i 0)]) := by
  show some ((iDs t).zipIdx.map fun p => PyData.tuple [.int (p.2 : Nat), p.1]) = _
  congr 1
  refine List.ext_getElem? fun i => ?_
  rw [List.getElem?_map, List.getElem?_zipIdx, List.getElem?_map]
  unfold iDs
  rw [List.getElem?_map]
  by_cases h : i < t.length
  · rw [List.getElem?_eq_getElem h, List.getElem?_range h]
    simp [h, iD]
  · rw [List.getElem?_eq_none (by omega), List.getElem?_eq_none (by simp; omega)]; rfl
@[simp] theorem e_ins {i : Nat} {a b : ME} {ps : Ps} : mInsert i a b ps = (match ps.sl[i]? with
  | some (.ml _) => (a ps).bind fun n ps1 => (b ps1).bind fun d ps2 => match ps2.sl[i]?, n with
    | some (.ml ds), .int j => if (decide (ds.length < sizeLine) && decide (0 ≤ j) && decide (j.natAbs < 1000000)) = true then .ok .none ⟨ps2.sl.set i (.ml (ds.take j.toNat ++ [d] ++ ds.drop j.toNat)), ps2.dk⟩ else .bad
    | _, _ => .bad
  | _ => .bad) := rfl
@[simp] theorem e_enm {m : MA} {ps : Ps} : mEnum m ps = (m ps).bind fun ds ps1 => .of (dEnum ds) ps1 := rfl
def placesB : MS :=
  (mRet (mFz (mRgL (mCons (mBin dAdd (mB dLen (mCons (mVar 0) mNil)) (mC (.int 1))) mNil))))
def placesM : MF := mFun 1 1 placesB
def joinedB : MS :=
  (mSeq (mOwn 2 (mComp (mEnum (mCons (mVar 0) mNil)) (mGp 3 4) (mTst (mBin dEq (mVar 4) (mVar 1))) (mBin dAdd (mVar 3) (mC (.int 1))) [3, 4]))
    (mSeq (mIfS (mTst (mBin dGt (mVar 1) (mC (.int 0))))
    (mDrop (mInsert 2 (mC (.int 0)) (mBin dIx (mVar 0) (mBin dSub (mVar 1) (mC (.int 1)))))) mNext)
    (mRet (mVar 2))))
def joinedM : MF := mFun 2 5 joinedB
def sideB : MS :=
  (mRet (mB dTuple (mCons (mFz (mComp (mIter (mCall placesM (mCons (mVar 0) mNil))) (mGn 3) (mTst (mBin dIn (mVar 2) (mCall wayM (mCons (mVar 0) (mCons (mVar 3) (mCons (mVar 1) mNil)))))) (mVar 3) [3])) mNil)))
def sideM : MF := mFun 3 4 sideB
def isMidL : MS :=
    (mSeq (mSet 4 (mCall sideM (mCons (mVar 0) (mCons (mVar 2) (mCons (mVar 3) mNil)))))
    (mIfS (mTst (mBin dGe (mBin dMul (mC (.int 2)) (mB dLen (mCons (mFz (mComp (mIter (mVar 1)) (mGn 5) (mTst (mBin dIn (mVar 5) (mVar 4))) (mVar 5) [5])) mNil))) (mB dLen (mCons (mVar 1) mNil))))
    (mRet (mC (.bool false))) mNext))
def isMidB : MS :=
  (mSeq (mFor (mIter (mCall joinedM (mCons (mVar 0) (mCons (mVar 2) mNil)))) (mGn 3) isMidL)
    (mRet (mC (.bool true))))
def isMidM : MF := mFun 3 6 isMidB
def isMidB2 : MS :=
  (mSeq (mFor (mIter (mCall nearM (mCons (mVar 0) (mCons (mVar 2) mNil)))) (mGn 3) isMidL)
    (mRet (mC (.bool true))))
def isMidM2 : MF := mFun 3 6 isMidB2
def middleB : MS :=
  (mSeq (mIfS (mTst (mBin dEq (mBin dMod (mB dLen (mCons (mVar 1) mNil)) (mC (.int 2))) (mC (.int 0))))
    mBads mNext)
    (mRet (mBin dIx (mFz (mComp (mIter (mCall placesM (mCons (mVar 0) mNil))) (mGn 2) (mTst (mCall isMidM (mCons (mVar 0) (mCons (mVar 1) (mCons (mVar 2) mNil))))) (mVar 2) [2])) (mC (.int 0)))))
def middleM : MF := mFun 2 3 middleB
/-- the places nearer to b than to a -/
def sdL (T : Tr) (n a b : Nat) : List Nat := (List.range (n + 1)).filter fun x => decide (T.d x b < T.d x a)
theorem mem_sdL {T : Tr} {n a b x : Nat} : x ∈ sdL T n a b ↔ x ≤ n ∧ T.d x b < T.d x a := by
  unfold sdL; rw [List.mem_filter, List.mem_range, decide_eq_true_eq]; omega
theorem sdL_len {T : Tr} {n a b : Nat} : (sdL T n a b).length ≤ n + 1 := by
  have := List.length_filter_le (fun x => decide (T.d x b < T.d x a)) (List.range (n + 1))
  rwa [List.length_range] at this
theorem sd_iff {T : Tr} {x a b : Nat} (h : T.adj a b) : b ∈ T.path x a ↔ T.d x b < T.d x a := by
  rw [Tr.mem_path]
  have h1 := Tr.adj_d (b := x) h
  have h2 : T.d b a = 1 := by
    have h0 := Tr.adj_d (b := a) h
    rw [Tr.d_self] at h0; omega
  rw [Tr.d_comm (T := T) x a, Tr.d_comm (T := T) x b] at h1
  rw [h2]
  omega
theorem range_one {n m : Nat} (h : m ≤ n) {p : Nat → Bool} (hp : ∀ x, x ≤ n → (p x = true ↔ x = m)) : (List.range (n + 1)).filter p = [m] := by
  refine List.perm_singleton.mp ((List.perm_ext_iff_of_nodup (nodup_filter List.nodup_range) (by simp)).mpr fun x => ?_)
  rw [List.mem_filter, List.mem_range, List.mem_singleton]
  constructor
  · rintro ⟨h1, h2⟩; exact (hp x (by omega)).mp h2
  · rintro rfl; exact ⟨by omega, (hp x h).mpr rfl⟩
section
variable {t : List Nat} (h : TrOk t) (hl : t.length < 8) (k : Dk)
include h hl
theorem plc_ok : placesM [TD t] k = .ret (LD (List.range (t.length + 1))) k := by
  have hr := rg_n (n := t.length + 1) (by omega)
  have hr : dRg [iD (t.length + 1)] = some (iDs (List.range (t.length + 1))) := hr
  unfold placesM mFun placesB
  simp [sl0, List.replicate, hr, e_rgL]
theorem jnd_ok {a : Nat} (ha : a ≤ t.length) : joinedM [TD t, iD a] k = .ret (LD (nearL (trOf t h) t.length a)) k := by
  have c1 := comp_gen (fun i : Nat => PyData.tuple [iD i, iD (t.getD i 0)]) (mi := (mEnum (mCons (mVar 0) mNil))) (g := (mGp 3 4)) (tt := (mTst (mBin dEq (mVar 4) (mVar 1)))) (te := (mBin dAdd (mVar 3) (mC (.int 1)))) (vs := [3, 4]) (ps := ⟨[.fz (TD t), .fz (iD a), .no, .no, .no], k⟩) (ps0 := ⟨[.fz (TD t), .fz (iD a), .no, .no, .no], k⟩)
    (fun i => decide ((trOf t h).p (i + 1) = a)) (fun i => iD (i + 1)) (xs := List.range t.length) (by simp [enum_n]) (by simp) (by simp; omega) (fun i hi => by
      have e : t[i]?.getD 0 = (trOf t h).p (i + 1) := by rw [← List.getD_eq_getElem?_getD]; rfl
      simp [e])
  have e1 : ((List.range t.length).filter fun i => decide ((trOf t h).p (i + 1) = a)).map (fun i => iD (i + 1)) = iDs (((List.range t.length).filter fun i => decide ((trOf t h).p (i + 1) = a)).map (· + 1)) := by
    unfold iDs; rw [List.map_map]; rfl
  rw [e1] at c1
  have hlen := List.length_filter_le (fun j => decide ((trOf t h).p (j + 1) = a)) (List.range t.length)
  rw [List.length_range] at hlen
  unfold joinedM mFun joinedB nearL
  by_cases h0 : 0 < a
  · have e := dIx_TD (trOf_at h h0 ha)
    have e2 := dSub_iD1 (x := a) h0
    have hz : (((List.range t.length).filter fun i => decide ((trOf t h).p (i + 1) = a)).map (· + 1)).length < sizeLine := sz_lt (by rw [List.length_map]; omega)
    have e3 : ∀ X : List Nat, [iD ((trOf t h).p a)] ++ iDs X = iDs ([(trOf t h).p a] ++ X) := fun X => iDs_app [(trOf t h).p a] X
    have e3' : ∀ X : List Nat, iD ((trOf t h).p a) :: iDs X = iDs ([(trOf t h).p a] ++ X) := e3
    generalize (((List.range t.length).filter fun i => decide ((trOf t h).p (i + 1) = a)).map (· + 1)) = X at *
    simp [sl0, List.replicate, c1, dGt_iD0, h0, e, e2, hz, e3']
  · simp [sl0, List.replicate, c1, dGt_iD0, h0]
theorem sd_ok {a b : Nat} (ha : a ≤ t.length) (hb : b ≤ t.length) (hab : (trOf t h).adj a b) : sideM [TD t, iD a, iD b] k = .ret (TD (sdL (trOf t h) t.length a b)) k := by
  have hp := plc_ok h hl k
  have c1 := comp_iD (mi := (mIter (mCall placesM (mCons (mVar 0) mNil)))) (g := (mGn 3)) (tt := (mTst (mBin dIn (mVar 2) (mCall wayM (mCons (mVar 0) (mCons (mVar 3) (mCons (mVar 1) mNil))))))) (te := (mVar 3)) (vs := [3]) (ps := ⟨[.fz (TD t), .fz (iD a), .fz (iD b), .no], k⟩) (ps0 := ⟨[.fz (TD t), .fz (iD a), .fz (iD b), .no], k⟩)
    (fun x => decide (b ∈ (trOf t h).path x a)) (fun x => x) (xs := List.range (t.length + 1)) (by simp [hp]) (by simp) (by simp; omega) (fun x hx => by
      have e := way_ok h hl (a := x) (b := a) (by rw [List.mem_range] at hx; omega) ha k
      simp [e])
  rw [List.map_id'] at c1
  have e : (List.range (t.length + 1)).filter (fun x => decide (b ∈ (trOf t h).path x a)) = sdL (trOf t h) t.length a b := List.filter_congr fun x _ => decide_eq_decide.mpr (sd_iff hab)
  rw [e] at c1
  unfold sideM mFun sideB
  simp [sl0, List.replicate, c1]
theorem isMidL_ok {ps : List Nat} (hps : ∀ p ∈ ps, p ≤ t.length) (hpl : ps.length ≤ 10000) {v w : Nat} (hv : v ≤ t.length) (hw : w ≤ t.length) (hvw : (trOf t h).adj v w) (s4 : Sl) :
    isMidL ⟨[.fz (TD t), .fz (TD ps), .fz (iD v), .fz (iD w), s4, .no], k⟩ = if 2 * (trOf t h).cnt ps v w < ps.length then .next ⟨[.fz (TD t), .fz (TD ps), .fz (iD v), .fz (iD w), .fz (TD (sdL (trOf t h) t.length v w)), .no], k⟩ else .ret (.bool false) ⟨[.fz (TD t), .fz (TD ps), .fz (iD v), .fz (iD w), .fz (TD (sdL (trOf t h) t.length v w)), .no], k⟩ := by
  have e1 := sd_ok h hl k hv hw hvw
  have c1 := comp_iD (mi := (mIter (mVar 1))) (g := (mGn 5)) (tt := (mTst (mBin dIn (mVar 5) (mVar 4)))) (te := (mVar 5)) (vs := [5]) (ps := ⟨[.fz (TD t), .fz (TD ps), .fz (iD v), .fz (iD w), .fz (TD (sdL (trOf t h) t.length v w)), .no], k⟩) (ps0 := ⟨[.fz (TD t), .fz (TD ps), .fz (iD v), .fz (iD w), .fz (TD (sdL (trOf t h) t.length v w)), .no], k⟩)
    (fun x => decide (x ∈ sdL (trOf t h) t.length v w)) (fun x => x) (xs := ps) (by simp) (by simp) (by omega) (fun x hx => by simp)
  rw [List.map_id'] at c1
  have e2 : ps.filter (fun x => decide (x ∈ sdL (trOf t h) t.length v w)) = ps.filter (fun p => decide ((trOf t h).d p w < (trOf t h).d p v)) := List.filter_congr fun x hx => decide_eq_decide.mpr (by rw [mem_sdL]; have := hps x hx; omega)
  rw [e2] at c1
  have e3 : (ps.filter (fun p => decide ((trOf t h).d p w < (trOf t h).d p v))).length = (trOf t h).cnt ps v w := rfl
  have e4 : (trOf t h).cnt ps v w ≤ ps.length := List.length_filter_le _ _
  generalize ps.filter (fun p => decide ((trOf t h).d p w < (trOf t h).d p v)) = Z at *
  have hm : dMul (.int 2) (iD Z.length) = some (iD (2 * Z.length)) := by
    have : dMul (.int 2) (.int (Z.length : Int)) = some (.int (2 * (Z.length : Int))) := dMul_i (.inl (by decide))
    exact this
  have hg : dGe (iD (2 * Z.length)) (iD ps.length) = some (.bool (decide (ps.length ≤ 2 * Z.length))) := by
    show dGe (.int _) (.int _) = _
    rw [dGe_int]
    congr 2
    exact decide_eq_decide.mpr (by omega)
  unfold isMidL
  by_cases hc : 2 * (trOf t h).cnt ps v w < ps.length
  · have hc2 : ¬ ps.length ≤ 2 * Z.length := by omega
    rw [if_pos hc]
    simp [e1, c1, hm, hg, hc2]
  · have hc2 : ps.length ≤ 2 * Z.length := by omega
    rw [if_neg hc]
    simp [e1, c1, hm, hg, hc2]
theorem midloop {ps : List Nat} (hps : ∀ p ∈ ps, p ≤ t.length) (hpl : ps.length ≤ 10000) {v : Nat} (hv : v ≤ t.length) :
    ((trOf t h).Mid t.length ps v → ∃ ps', mLoop (mGn 3) isMidL (iDs (nearL (trOf t h) t.length v)) ⟨[.fz (TD t), .fz (TD ps), .fz (iD v), .no, .no, .no], k⟩ = .next ps' ∧ ps'.dk = k) ∧ (¬ (trOf t h).Mid t.length ps v → ∃ ps', mLoop (mGn 3) isMidL (iDs (nearL (trOf t h) t.length v)) ⟨[.fz (TD t), .fz (TD ps), .fz (iD v), .no, .no, .no], k⟩ = .ret (.bool false) ps' ∧ ps'.dk = k) := by
  have key : ∀ (xs : List Nat) (s3 s4 : Sl), (∀ w ∈ xs, w ≤ t.length ∧ (trOf t h).adj v w) →
      ((∀ w ∈ xs, 2 * (trOf t h).cnt ps v w < ps.length) → ∃ ps', mLoop (mGn 3) isMidL (iDs xs) ⟨[.fz (TD t), .fz (TD ps), .fz (iD v), s3, s4, .no], k⟩ = .next ps' ∧ ps'.dk = k) ∧ ((∃ w ∈ xs, ¬ 2 * (trOf t h).cnt ps v w < ps.length) → ∃ ps', mLoop (mGn 3) isMidL (iDs xs) ⟨[.fz (TD t), .fz (TD ps), .fz (iD v), s3, s4, .no], k⟩ = .ret (.bool false) ps' ∧ ps'.dk = k) := by
    intro xs
    induction xs with
    | nil => intro s3 s4 _; exact ⟨fun _ => ⟨_, rfl, rfl⟩, fun ⟨w, hw, _⟩ => nomatch hw⟩
    | cons w xs ih =>
      intro s3 s4 hx
      obtain ⟨hw, ha⟩ := hx w (by simp)
      have e := isMidL_ok h hl k hps hpl hv hw ha s4
      obtain ⟨i1, i2⟩ := ih (.fz (iD w)) (.fz (TD (sdL (trOf t h) t.length v w))) (fun w hw => hx w (by simp [hw]))
      have e0 : mGn 3 (iD w) ⟨[.fz (TD t), .fz (TD ps), .fz (iD v), s3, s4, .no], k⟩ = some ⟨[.fz (TD t), .fz (TD ps), .fz (iD v), .fz (iD w), s4, .no], k⟩ := rfl
      have e5 : mLoop (mGn 3) isMidL (iDs (w :: xs)) ⟨[.fz (TD t), .fz (TD ps), .fz (iD v), s3, s4, .no], k⟩ = mLoop (mGn 3) isMidL (iD w :: iDs xs) ⟨[.fz (TD t), .fz (TD ps), .fz (iD v), s3, s4, .no], k⟩ := rfl
      rw [e5]
      unfold mLoop
      rw [e0]
      simp only [e]
      by_cases hc : 2 * (trOf t h).cnt ps v w < ps.length
      · simp only [if_pos hc]
        refine ⟨fun z => i1 fun w hw => z w (by simp [hw]), fun ⟨z, hz, hn⟩ => i2 ⟨z, ?_, hn⟩⟩
        rcases List.mem_cons.mp hz with hz | hz
        · subst hz; exact absurd hc hn
        · exact hz
      · simp only [if_neg hc]
        exact ⟨fun z => absurd (z w (by simp)) hc, fun _ => ⟨_, rfl, rfl⟩⟩
  obtain ⟨k1, k2⟩ := key (nearL (trOf t h) t.length v) .no .no (fun w hw => (mem_near hv).mp hw)
  constructor
  · intro m
    exact k1 fun w hw => m w ((mem_near hv).mp hw).1 ((mem_near hv).mp hw).2
  · intro m
    refine k2 (Classical.byContradiction fun z => m fun w hw ha => ?_)
    refine Classical.byContradiction fun y => z ⟨w, (mem_near hv).mpr ⟨hw, ha⟩, y⟩
theorem isMid_ok {ps : List Nat} (hps : ∀ p ∈ ps, p ≤ t.length) (hpl : ps.length ≤ 10000) {v : Nat} (hv : v ≤ t.length) :
    ((trOf t h).Mid t.length ps v → isMidM [TD t, TD ps, iD v] k = .ret (.bool true) k ∧ isMidM2 [TD t, TD ps, iD v] k = .ret (.bool true) k) ∧ (¬ (trOf t h).Mid t.length ps v → isMidM [TD t, TD ps, iD v] k = .ret (.bool false) k ∧ isMidM2 [TD t, TD ps, iD v] k = .ret (.bool false) k) := by
  have ej := jnd_ok h hl k hv
  have en := near_ok h hl hv k
  obtain ⟨k1, k2⟩ := midloop h hl k hps hpl hv
  constructor
  · intro m
    obtain ⟨⟨sl', kk⟩, e, rfl⟩ := k1 m
    constructor
    · unfold isMidM mFun isMidB
      simp [sl0, List.replicate, ej, e]
    · unfold isMidM2 mFun isMidB2
      simp [sl0, List.replicate, en, e]
  · intro m
    obtain ⟨⟨sl', kk⟩, e, rfl⟩ := k2 m
    constructor
    · unfold isMidM mFun isMidB
      simp [sl0, List.replicate, ej, e]
    · unfold isMidM2 mFun isMidB2
      simp [sl0, List.replicate, en, e]
theorem middle_ok {ps : List Nat} (hps : ∀ p ∈ ps, p ≤ t.length) (hpl : ps.length ≤ 10000) (ho : ps.length % 2 = 1) : middleM [TD t, TD ps] k = .ret (iD ((trOf t h).med t.length ps)) k := by
  have hp := plc_ok h hl k
  have M := Tr.med_ok (T := trOf t h) t.length ho
  have hmid : ∀ x, x ≤ t.length → ((trOf t h).Mid t.length ps x ↔ x = (trOf t h).med t.length ps) := fun x hx => ⟨fun m => (Tr.med_is (m.med hx)).symm, fun e => e ▸ M.mid⟩
  have c1 := comp_iD (mi := (mIter (mCall placesM (mCons (mVar 0) mNil)))) (g := (mGn 2)) (tt := (mTst (mCall isMidM (mCons (mVar 0) (mCons (mVar 1) (mCons (mVar 2) mNil)))))) (te := (mVar 2)) (vs := [2]) (ps := ⟨[.fz (TD t), .fz (TD ps), .no], k⟩) (ps0 := ⟨[.fz (TD t), .fz (TD ps), .no], k⟩)
    (fun x => decide (x = (trOf t h).med t.length ps)) (fun x => x) (xs := List.range (t.length + 1)) (by simp [hp]) (by simp) (by simp; omega) (fun x hx => by
      have hx : x ≤ t.length := by rw [List.mem_range] at hx; omega
      obtain ⟨k1, k2⟩ := isMid_ok h hl k hps hpl hx
      by_cases e : x = (trOf t h).med t.length ps
      · have e2 := (k1 ((hmid x hx).mpr e)).1
        rw [decide_eq_true e]
        simp [e2]
      · have e2 := (k2 (fun z => e ((hmid x hx).mp z))).1
        rw [decide_eq_false e]
        simp [e2])
  rw [List.map_id', range_one M.le (fun x hx => by simp)] at c1
  generalize (trOf t h).med t.length ps = m at *
  have e1 : dMod (iD ps.length) (.int 2) = some (iD 1) := by
    show dMod (.int _) (.int 2) = _
    rw [dMod_i (by omega)]
    have : (ps.length : Int) % 2 = 1 := by omega
    rw [this]; rfl
  have e2 : dEq (iD 1) (.int 0) = some (.bool false) := rfl
  have e3 : dIx (LD [m]) (.int 0) = some (iD m) := rfl
  unfold middleM mFun middleB
  simp [sl0, List.replicate, c1, e1, e2, e3]
end
end PP
/-! Forms of the later texts worked out: turns of two clauses, bits, tuples known, enumerate. -/
namespace PP
open PySem MM L2
section
variable {ps : Ps} {sl : List Sl} {k : Dk} {a b c : ME} {ms : MA} {i j l : Nat}
@[simp] theorem e_ownU {m : MUd} : mOwnU i m ps = (m ps).bindS fun s ps1 => .next ⟨ps1.sl.set i s, ps1.dk⟩ := rfl
@[simp] theorem e_tupN : mTupN ms ps = (ms ps).bind fun xs ps1 => if xs.length ≤ sizeLine then .ok (ntD xs) ps1 else .bad := rfl
@[simp] theorem e_gt {x y z : D} : mGt i j l (.tuple [x, y, z]) ⟨sl, k⟩ = some ⟨((sl.set i (.fz x)).set j (.fz y)).set l (.fz z), k⟩ := rfl
@[simp] theorem e_gpL {x y : D} : mGpL i j (.list [x, y]) ⟨sl, k⟩ = some ⟨(sl.set i (.fz x)).set j (.fz y), k⟩ := rfl
@[simp] theorem e_parEL {m : MLs} : mParEL i j a m ps = (a ps).bindS fun x ps1 => (m ps1).bindS fun ys ps2 => .next ⟨(ps2.sl.set j (.ml ys)).set i (.fz x), ps2.dk⟩ := rfl
@[simp] theorem unN_nt (ds : List D) : unN (ntD ds) = .tuple ds := rfl
@[simp] theorem unN_LD (xs : List Nat) : unN (LD xs) = LD xs := rfl
@[simp] theorem unN_TD (xs : List Nat) : unN (TD xs) = TD xs := rfl
@[simp] theorem unN_tup (ds : List D) : unN (.tuple ds) = .tuple ds := rfl
@[simp] theorem unN_list (ds : List D) : unN (.list ds) = .list ds := rfl
@[simp] theorem dLenN_nt (xs : List Nat) : dLenN [ntD (iDs xs)] = some (iD xs.length) := by
  show some (PyData.int ((iDs xs).length : Int)) = _
  rw [iDs_len]; rfl
theorem dIxN_nt {xs : List Nat} {i v : Nat} (h : xs[i]? = some v) : dIxN (ntD (iDs xs)) (iD i) = some (iD v) := dIx_TD h
@[simp] theorem e_sln {o1 o2 : MO} : mSlN a o1 o2 ps = (a ps).bind fun x ps1 => (o1 ps1).bind fun lo ps2 => (o2 ps2).bind fun hi ps3 => .of (dSlN x lo hi) ps3 := rfl
@[simp] theorem e_idxN {ds : List D} : mIdxN a b ps = (a ps).bind fun x ps1 => match x with
  | .dict [(.bool true, .tuple ds)] => (b ps1).bind fun y ps2 => .of (dIndexT (.tuple ds) y) ps2
  | _ => .bad := rfl
end
theorem idx_cast (xs : List Nat) (x : Nat) : (xs.map fun n : Nat => (n : Int)).idxOf (x : Int) = xs.idxOf x := by
  induction xs with
  | nil => rfl
  | cons y ys ih =>
    rw [List.map_cons, List.idxOf_cons, List.idxOf_cons, ih]
    by_cases e : y = x
    · subst e; simp
    · have e2 : ((y : Int) == (x : Int)) = false := by simp; omega
      have e3 : (y == x) = false := by simpa using e
      rw [e2, e3]
/-- the first place of x in a pair's numbers -/
theorem dIndexT_TD {xs : List Nat} {x : Nat} (h : x ∈ xs) : dIndexT (.tuple (iDs xs)) (iD x) = some (iD (xs.idxOf x)) := by
  show (intsOf (iDs xs)).bind (fun ns => if ns.contains (x : Int) = true then some (PyData.int (ns.idxOf (x : Int) : Nat)) else none) = _
  rw [iD_map, intsOf_map, Option.bind_some, if_pos]
  · rw [idx_cast]; rfl
  · rw [List.contains_iff_mem]
    exact List.mem_map.mpr ⟨x, h, rfl⟩
/-- turns whose bodies make something greater -/
theorem lp_inv {α : Type} (e : α → D) {g : MG} {mb : Sl → Ps → Out Sl} {vs : List Nat} (P : List α → Sl → Ps → Prop) {xs : List α} {sl : Sl} {ps : Ps} (h0 : P [] sl ps)
    (h : ∀ done x rest sl ps, xs = done ++ x :: rest → P done sl ps → ∃ ps1 sl2 ps3, g (e x) ps = some ps1 ∧ mb sl ps1 = .ok sl2 ps3 ∧ P (done ++ [x]) sl2 (wipeP ps3 vs)) :
    ∃ sl' ps', mLp g mYes mb vs (xs.map e) sl ps = .ok sl' ps' ∧ P xs sl' ps' := by
  have key : ∀ (rest done : List α) (sl : Sl) (ps : Ps), xs = done ++ rest → P done sl ps → ∃ sl' ps', mLp g mYes mb vs (rest.map e) sl ps = .ok sl' ps' ∧ P xs sl' ps' := by
    intro rest
    induction rest with
    | nil => intro done sl ps e' p; rw [List.append_nil] at e'; subst e'; exact ⟨sl, ps, rfl, p⟩
    | cons x rest ih =>
      intro done sl ps e' p
      obtain ⟨ps1, sl2, ps3, e1, e2, p2⟩ := h done x rest sl ps e' p
      obtain ⟨sl', ps', e3, p3⟩ := ih (done ++ [x]) sl2 _ (by rw [e', List.append_assoc]; rfl) p2
      refine ⟨sl', ps', ?_, p3⟩
      rw [List.map_cons]
      unfold mLp
      simp only [e1, e_yes, if_true, e2]
      exact e3
  exact key xs [] sl ps rfl h0
/-! ### enumerate -/
def enumL {α : Type} (e : α → D) (xs : List α) : List D := xs.zipIdx.map fun p => PyData.tuple [iD p.2, e p.1]
theorem dEnum_map {α : Type} (e : α → D) (xs : List α) : dEnum [.list (xs.map e)] = some (enumL e xs) := by
  show some ((xs.map e).zipIdx.map fun p => PyData.tuple [.int (p.2 : Nat), p.1]) = _
  rw [List.zipIdx_map, List.map_map]; rfl
theorem loop_enum {α : Type} (e : α → D) {i j : Nat} {body : MS} (P : List α → Ps → Prop) {xs : List α} {ps : Ps} (h0 : P [] ps)
    (h : ∀ done x rest sl k, xs = done ++ x :: rest → P done ⟨sl, k⟩ → ∃ ps2, (body ⟨(sl.set i (.fz (iD done.length))).set j (.fz (e x)), k⟩ = .next ps2 ∨ body ⟨(sl.set i (.fz (iD done.length))).set j (.fz (e x)), k⟩ = .cont ps2) ∧ P (done ++ [x]) ps2) :
    ∃ ps', mLoop (mGp i j) body (enumL e xs) ps = .next ps' ∧ P xs ps' := by
  have key : ∀ (rest done : List α) (ps : Ps), xs = done ++ rest → P done ps → ∃ ps', mLoop (mGp i j) body ((rest.zipIdx done.length).map fun p => PyData.tuple [iD p.2, e p.1]) ps = .next ps' ∧ P xs ps' := by
    intro rest
    induction rest with
    | nil => intro done ps e' p; rw [List.append_nil] at e'; subst e'; exact ⟨ps, rfl, p⟩
    | cons x rest ih =>
      intro done ps e' p
      obtain ⟨sl, k⟩ := ps
      obtain ⟨ps2, e2, p2⟩ := h done x rest sl k e' p
      obtain ⟨ps', e3, p3⟩ := ih (done ++ [x]) ps2 (by rw [e', List.append_assoc]; rfl) p2
      refine ⟨ps', ?_, p3⟩
      rw [List.zipIdx_cons, List.map_cons]
      rw [List.length_append, List.length_singleton] at e3
      unfold mLoop
      rw [e_gp]
      rcases e2 with e2 | e2
      · simp only [e2]; exact e3
      · simp only [e2]; exact e3
  exact key xs [] ps rfl h0
/-- the same of what is gone through, told by its data -/
theorem loop_map {α : Type} (e : α → D) {g : MG} {body : MS} (P : List α → Ps → Prop) {xs : List α} {ps : Ps} (h0 : P [] ps)
    (h : ∀ done x rest ps, xs = done ++ x :: rest → P done ps → ∃ ps1 ps2, g (e x) ps = some ps1 ∧ (body ps1 = .next ps2 ∨ body ps1 = .cont ps2) ∧ P (done ++ [x]) ps2) : ∃ ps', mLoop g body (xs.map e) ps = .next ps' ∧ P xs ps' := by
  have key : ∀ (rest done : List α) (ps : Ps), xs = done ++ rest → P done ps → ∃ ps', mLoop g body (rest.map e) ps = .next ps' ∧ P xs ps' := by
    intro rest
    induction rest with
    | nil => intro done ps e p; rw [List.append_nil] at e; subst e; exact ⟨ps, rfl, p⟩
    | cons d rest ih =>
      intro done ps e' p
      obtain ⟨ps1, ps2, e1, e2, p2⟩ := h done d rest ps e' p
      obtain ⟨ps', e3, p3⟩ := ih (done ++ [d]) ps2 (by rw [e', List.append_assoc]; rfl) p2
      refine ⟨ps', ?_, p3⟩
      rw [List.map_cons]
      unfold mLoop
      rw [e1]
      rcases e2 with e2 | e2
      · simp only [e2]; exact e3
      · simp only [e2]; exact e3
  exact key xs [] ps rfl h0
/-! ### bits -/
def bitsOf {α : Type} (p : α → Bool) : List α → Nat
  | [] => 0
  | x :: xs => (if p x = true then 1 else 0) + 2 * bitsOf p xs
theorem bits_snoc {α : Type} (p : α → Bool) (xs : List α) (x : α) : bitsOf p (xs ++ [x]) = bitsOf p xs + (if p x = true then 2 ^ xs.length else 0) := by
  induction xs with
  | nil => simp [bitsOf]
  | cons y ys ih =>
    rw [List.cons_append, bitsOf, ih, bitsOf, List.length_cons, Nat.pow_succ]
    split <;> split <;> omega
theorem bits_test {α : Type} (p : α → Bool) : ∀ (xs : List α) (m : Nat), (bitsOf p xs).testBit m = (match xs[m]? with
    | some x => p x
    | none => false)
  | [], m => by simp [bitsOf]
  | x :: xs, 0 => by
    rw [bitsOf, Nat.testBit_zero]
    simp only [List.getElem?_cons_zero]
    by_cases h : p x = true
    · rw [if_pos h, h]
      have : (1 + 2 * bitsOf p xs) % 2 = 1 := by omega
      rw [this]; rfl
    · rw [if_neg h]
      have h' : p x = false := by simpa using h
      have : (0 + 2 * bitsOf p xs) % 2 = 0 := by omega
      rw [h', this]; rfl
  | x :: xs, m + 1 => by
    rw [bitsOf, Nat.testBit_succ, List.getElem?_cons_succ, ← bits_test p xs m]
    congr 1
    split <;> omega
theorem bits_lt {α : Type} (p : α → Bool) (xs : List α) : bitsOf p xs < 2 ^ xs.length := by
  induction xs with
  | nil => simp [bitsOf]
  | cons x xs ih =>
    rw [bitsOf, List.length_cons, Nat.pow_succ]
    split <;> omega
theorem dShl_iD {m : Nat} (h : m ≤ 1000) : dShl (.int 1) (iD m) = some (iD (2 ^ m)) := by
  show (if decide (0 ≤ (m : Int) ∧ (m : Int) ≤ 1000000 ∧ (1 : Int).natAbs < 2 ^ 64) = true then some (PyData.int (1 * 2 ^ (m : Int).toNat)) else none) = _
  rw [if_pos (decide_eq_true ⟨by omega, by omega, by decide⟩), Int.toNat_natCast]
  unfold iD
  congr 2
  rw [Int.one_mul]
  try norm_cast
theorem dShr_iD (b m : Nat) : dShr (iD b) (iD m) = some (iD (b / 2 ^ m)) := by
  show (if decide (0 ≤ (m : Int)) = true then some (PyData.int ((b : Int) / 2 ^ (m : Int).toNat)) else none) = _
  rw [if_pos (decide_eq_true (by omega)), Int.toNat_natCast]
  unfold iD
  congr 2
  try norm_cast
theorem bitAnd_nat (a b : Nat) : Builtin.bitAnd (a : Int) (b : Int) = ((a &&& b : Nat) : Int) := by
  unfold Builtin.bitAnd
  have h1 : decide (0 ≤ (a : Int)) = true := decide_eq_true (by omega)
  have h2 : decide (0 ≤ (b : Int)) = true := decide_eq_true (by omega)
  rw [h1, h2]
  simp
theorem bitOr_nat (a b : Nat) : Builtin.bitOr (a : Int) (b : Int) = ((a ||| b : Nat) : Int) := by
  unfold Builtin.bitOr
  have e : ∀ x : Nat, Builtin.bitNot (Builtin.bitNot (x : Int)) = (x : Int) := fun x => by unfold Builtin.bitNot; omega
  have h : ∀ x : Nat, decide (0 ≤ Builtin.bitNot (x : Int)) = false := fun x => decide_eq_false (by unfold Builtin.bitNot; omega)
  have e2 : Builtin.bitAnd (Builtin.bitNot (a : Int)) (Builtin.bitNot (b : Int)) = Builtin.bitNot (((a ||| b : Nat) : Int)) := by
    unfold Builtin.bitAnd
    rw [h a, h b]
    simp only [e, Int.toNat_natCast]
  rw [e2, e]
theorem dOr_iD (a b : Nat) : dOr (iD a) (iD b) = some (iD (a ||| b)) := by
  show some (PyData.int (Builtin.bitOr (a : Int) (b : Int))) = _
  rw [bitOr_nat]; rfl
theorem dAnd_iD (a b : Nat) : dAnd (iD a) (iD b) = some (iD (a &&& b)) := by
  show some (PyData.int (Builtin.bitAnd (a : Int) (b : Int))) = _
  rw [bitAnd_nat]; rfl
end PP
/-! Rows, halves and what clauses let, worked out. -/
namespace PP
open PySem MM L2
@[simp] theorem e_aug {f : Int → Int → Int} {i : Nat} {a : ME} {sl : List Sl} {k : Dk} : mAug f i a ⟨sl, k⟩ = (match sl[i]? with
  | some (.fz d) => (a ⟨sl, k⟩).bindS fun y ps1 => match dAug f d y with
    | some z => .next ⟨ps1.sl.set i (.fz z), ps1.dk⟩
    | none => .bad
  | _ => .bad) := rfl
theorem dAug_add (a b : Nat) : dAug (fun i j => i + j) (iD a) (iD b) = some (iD (a + b)) := by
  show some (PyData.int ((a : Int) + (b : Int))) = _
  rw [← Int.natCast_add]; rfl
/-- a tree from any numbers -/
def trG (t : List Nat) : Tr := ⟨fun x => min (t.getD (x - 1) 0) (x - 1), fun x hx => by have := Nat.min_le_right (t.getD (x - 1) 0) (x - 1); omega⟩
theorem trG_eq {t : List Nat} (h : TrOk t) : trG t = trOf t h := by
  unfold trG trOf
  congr 1
  funext x
  rw [List.getD_eq_getElem?_getD]
  cases e : t[x - 1]? with
  | none => simp
  | some v => have := h _ _ e; simp; omega
def TsD (ts : List (List Nat)) : D := .tuple (ts.map TD)
structure TsOk (ts : List (List Nat)) : Prop where
  ok : ∀ t ∈ ts, TrOk t ∧ t.length < 8
def tg (ts : List (List Nat)) (i : Nat) : List Nat := ts.getD i []
def tr (ts : List (List Nat)) (i : Nat) : Tr := trG (tg ts i)
def nn (ts : List (List Nat)) (i : Nat) : Nat := (tg ts i).length
theorem ts_mem {ts : List (List Nat)} {i : Nat} (h : i < ts.length) : tg ts i ∈ ts := by unfold tg; rw [List.getD_eq_getElem?_getD, List.getElem?_eq_getElem h]; exact List.getElem_mem h
theorem ts_at {ts : List (List Nat)} {i : Nat} (h : i < ts.length) : dIx (TsD ts) (iD i) = some (TD (tg ts i)) := by
  refine dIx_tuple ?_
  unfold tg
  rw [List.getElem?_map, List.getD_eq_getElem?_getD, List.getElem?_eq_getElem h]; rfl
structure PrOk (ts : List (List Nat)) (P : List Nat) : Prop where
  len : P.length = 1 ∨ P.length = 2
  nd : P.Nodup
  lt : ∀ i ∈ P, i < ts.length
def RW (ts : List (List Nat)) : List Nat → List (List Nat)
  | [i] => (List.range (nn ts i + 1)).map fun a => [a]
  | [i, j] => (List.range (nn ts i + 1)).flatMap fun a => (List.range (nn ts j + 1)).map fun b => [a, b]
  | _ => []
def rD : List Nat → D
  | [a] => iD a
  | r => TD r
theorem pr_cases {ts : List (List Nat)} {P : List Nat} (h : PrOk ts P) : (∃ i, P = [i] ∧ i < ts.length) ∨ ∃ i j, P = [i, j] ∧ i < ts.length ∧ j < ts.length ∧ i ≠ j := by
  have hl := h.lt
  have hn := h.nd
  match P, h.len with
  | [i], _ => exact .inl ⟨i, rfl, hl i (by simp)⟩
  | [i, j], _ => exact .inr ⟨i, j, rfl, hl i (by simp), hl j (by simp), by simpa using hn⟩
theorem rw_mem {ts : List (List Nat)} {P : List Nat} {r : List Nat} (h : r ∈ RW ts P) : r.length = P.length ∧ ∀ m, m < P.length → r.getD m 0 ≤ nn ts (P.getD m 0) := by
  match P, h with
  | [i], h =>
    obtain ⟨a, ha, rfl⟩ := List.mem_map.mp h
    rw [List.mem_range] at ha
    refine ⟨rfl, fun m hm => ?_⟩
    have : m = 0 := by simp at hm; omega
    subst this
    show a ≤ nn ts i; omega
  | [i, j], h =>
    obtain ⟨a, ha, h⟩ := List.mem_flatMap.mp h
    obtain ⟨b, hb, rfl⟩ := List.mem_map.mp h
    rw [List.mem_range] at ha hb
    refine ⟨rfl, fun m hm => ?_⟩
    match m, hm with
    | 0, _ => show a ≤ nn ts i; omega
    | 1, _ => show b ≤ nn ts j; omega
theorem nn_lt {ts : List (List Nat)} (hT : TsOk ts) {i : Nat} (h : i < ts.length) : nn ts i < 8 := (hT.ok _ (ts_mem h)).2
theorem sum_const {α : Type} (m : Nat) (l : List α) : (l.map fun _ => m).sum = l.length * m := by
  induction l with
  | nil => simp
  | cons x xs ih => rw [List.map_cons, List.sum_cons, ih, List.length_cons, Nat.succ_mul]; omega
theorem rw_len {ts : List (List Nat)} (hT : TsOk ts) {P : List Nat} (hP : PrOk ts P) : (RW ts P).length ≤ 64 := by
  rcases pr_cases hP with ⟨i, rfl, h1⟩ | ⟨i, j, rfl, h1, h2, _⟩
  · have := nn_lt hT h1
    simp [RW]; omega
  · have a := nn_lt hT h1
    have b := nn_lt hT h2
    have e : ∀ (f : Nat → Nat → List Nat) (n m : Nat), ((List.range n).flatMap fun a => (List.range m).map (f a)).length = n * m := fun f n m => by
      rw [List.length_flatMap]
      simp only [List.length_map, List.length_range, sum_const]
    show (List.flatMap _ _).length ≤ 64
    rw [e (fun a b => [a, b])]
    have := Nat.mul_le_mul (show nn ts i + 1 ≤ 8 by omega) (show nn ts j + 1 ≤ 8 by omega)
    omega
def allB : MS :=
  (mSeq (mIfS (mTst (mBin dEq (mB dLenN (mCons (mVar 1) mNil)) (mC (.int 1))))
    (mRet (mCall placesM (mCons (mBin dIx (mVar 0) (mBin dIxN (mVar 1) (mC (.int 0)))) mNil))) mNext)
    (mRet (mFz (mComp2 (mIter (mCall placesM (mCons (mBin dIx (mVar 0) (mBin dIxN (mVar 1) (mC (.int 0)))) mNil))) (mGn 2) mYes (mIter (mCall placesM (mCons (mBin dIx (mVar 0) (mBin dIxN (mVar 1) (mC (.int 1)))) mNil))) (mGn 3) mYes (mTup (mCons (mVar 2) (mCons (mVar 3) mNil))) [2, 3] [3]))))
def allM : MF := mFun 2 4 allB
theorem plcs_ok {ts : List (List Nat)} (hT : TsOk ts) {i : Nat} (h : i < ts.length) (k : Dk) : placesM [TD (tg ts i)] k = .ret (LD (List.range (nn ts i + 1))) k :=
  plc_ok (hT.ok _ (ts_mem h)).1 (hT.ok _ (ts_mem h)).2 k
/-- the turns of the second clause, once -/
theorem in_ok' {mi : MA} {g : MG} {mb : Sl → Ps → Out Sl} {vs : List Nat} {sl sl2 : Sl} {ps ps1 ps2 : Ps} {ds : List D} (h1 : mi ps = .ok ds ps1) (h2 : mLp g mYes mb vs ds sl (wipeP ps1 vs) = .ok sl2 ps2) : mIn mi g mYes mb vs sl ps = .ok sl2 ps2 := by
  unfold mIn
  rw [h1]; exact h2
theorem all_ok {ts : List (List Nat)} (hT : TsOk ts) {P : List Nat} (hP : PrOk ts P) (k : Dk) : allM [TsD ts, ntD (iDs P)] k = .ret (.list ((RW ts P).map rD)) k := by
  rcases pr_cases hP with ⟨i, rfl, h1⟩ | ⟨i, j, rfl, h1, h2, hne⟩
  · have e1 := ts_at h1
    have e2 := plcs_ok hT h1 k
    have e3 : dIxN (ntD (iDs [i])) (.int 0) = some (iD i) := dIxN_nt (i := 0) rfl
    have e4 : dLenN [ntD (iDs [i])] = some (iD 1) := dLenN_nt [i]
    have e5 : dEq (iD 1) (.int 1) = some (.bool true) := rfl
    have e6 : LD (List.range (nn ts i + 1)) = .list ((RW ts [i]).map rD) := by
      unfold RW LD iDs; rw [List.map_map]; rfl
    rw [← e6]
    unfold allM mFun allB
    simp [sl0, List.replicate, e1, e2, e3, e4, e5, -dLenN_nt]
  · have e1 := ts_at h1
    have e1' := ts_at h2
    have e2 := plcs_ok hT h1 k
    have e2' := plcs_ok hT h2 k
    have n1 := nn_lt hT h1
    have n2 := nn_lt hT h2
    have e3 : dIxN (ntD (iDs [i, j])) (.int 0) = some (iD i) := dIxN_nt (i := 0) rfl
    have e3' : dIxN (ntD (iDs [i, j])) (.int 1) = some (iD j) := dIxN_nt (i := 1) rfl
    have e4 : dLenN [ntD (iDs [i, j])] = some (iD 2) := dLenN_nt [i, j]
    have e5 : dEq (iD 2) (.int 1) = some (.bool false) := rfl
    have z2 : 2 ≤ sizeLine := sz_le (by omega)
    have inner : ∀ (a : Nat) (acc : List D), acc.length ≤ 1000 → ∃ s3, mIn (mIter (mCall placesM (mCons (mBin dIx (mVar 0) (mBin dIxN (mVar 1) (mC (.int 1)))) mNil))) (mGn 3) mYes (mApp (mTup (mCons (mVar 2) (mCons (mVar 3) mNil)))) [3] (.ml acc) ⟨[.fz (TsD ts), .fz (ntD (iDs [i, j])), .fz (iD a), .no], k⟩ =
        .ok (.ml (acc ++ (List.range (nn ts j + 1)).map fun b => rD [a, b])) ⟨[.fz (TsD ts), .fz (ntD (iDs [i, j])), .fz (iD a), s3], k⟩ := by
      intro a acc hacc
      obtain ⟨sl', ps', e, rfl, s3, rfl⟩ := lp_inv iD (g := mGn 3) (mb := mApp (mTup (mCons (mVar 2) (mCons (mVar 3) mNil)))) (vs := [3]) (xs := List.range (nn ts j + 1)) (sl := .ml acc) (ps := ⟨[.fz (TsD ts), .fz (ntD (iDs [i, j])), .fz (iD a), .no], k⟩)
        (fun done sl ps => sl = .ml (acc ++ done.map fun b => rD [a, b]) ∧ ∃ s3, ps = ⟨[.fz (TsD ts), .fz (ntD (iDs [i, j])), .fz (iD a), s3], k⟩) ⟨by simp, _, rfl⟩ (by
          rintro done b rest sl ps hx ⟨rfl, s3, rfl⟩
          obtain ⟨q1, q2, -⟩ := range_at hx
          have z : (acc ++ done.map fun b => rD [a, b]).length < sizeLine := sz_lt (by rw [List.length_append, List.length_map]; omega)
          refine ⟨⟨[.fz (TsD ts), .fz (ntD (iDs [i, j])), .fz (iD a), .fz (iD b)], k⟩, .ml ((acc ++ done.map fun b => rD [a, b]) ++ [rD [a, b]]), ⟨[.fz (TsD ts), .fz (ntD (iDs [i, j])), .fz (iD a), .fz (iD b)], k⟩, rfl, ?_, by simp, .no, rfl⟩
          unfold mApp
          simp only [e_tup, e_cons, e_nil, e_var, List.getElem?_cons_succ, List.getElem?_cons_zero, Out.bind_ok, List.length_cons, List.length_nil, z2, if_true, if_pos z]
          rfl)
      exact ⟨s3, in_ok' (ps1 := ⟨[.fz (TsD ts), .fz (ntD (iDs [i, j])), .fz (iD a), .no], k⟩) (ds := (List.range (nn ts j + 1)).map iD) (by simp [e1', e2', e3']; rfl) e⟩
    obtain ⟨sl', ps', e, rfl, rfl⟩ := lp_inv iD (g := mGn 2) (mb := mIn (mIter (mCall placesM (mCons (mBin dIx (mVar 0) (mBin dIxN (mVar 1) (mC (.int 1)))) mNil))) (mGn 3) mYes (mApp (mTup (mCons (mVar 2) (mCons (mVar 3) mNil)))) [3]) (vs := [2, 3]) (xs := List.range (nn ts i + 1)) (sl := .ml []) (ps := ⟨[.fz (TsD ts), .fz (ntD (iDs [i, j])), .no, .no], k⟩)
      (fun done sl ps => sl = .ml (done.flatMap fun a => (List.range (nn ts j + 1)).map fun b => rD [a, b]) ∧ ps = ⟨[.fz (TsD ts), .fz (ntD (iDs [i, j])), .no, .no], k⟩) ⟨rfl, rfl⟩ (by
        rintro done a rest sl ps hx ⟨rfl, rfl⟩
        obtain ⟨q1, q2, -⟩ := range_at hx
        have hb : (done.flatMap fun a => (List.range (nn ts j + 1)).map fun b => rD [a, b]).length ≤ 1000 := by
          rw [List.length_flatMap]
          simp only [List.length_map, List.length_range, sum_const]
          have := Nat.mul_le_mul (show done.length ≤ 8 by omega) (show nn ts j + 1 ≤ 8 by omega)
          omega
        obtain ⟨s3, e⟩ := inner a _ hb
        exact ⟨⟨[.fz (TsD ts), .fz (ntD (iDs [i, j])), .fz (iD a), .no], k⟩, _, _, rfl, e, by simp, rfl⟩)
    have e6 : ((List.range (nn ts i + 1)).flatMap fun a => (List.range (nn ts j + 1)).map fun b => rD [a, b]) = (RW ts [i, j]).map rD := by
      unfold RW
      rw [List.map_flatMap]
      simp only [List.map_map]; rfl
    rw [e6] at e
    have c : mComp2 (mIter (mCall placesM (mCons (mBin dIx (mVar 0) (mBin dIxN (mVar 1) (mC (.int 0)))) mNil))) (mGn 2) mYes (mIter (mCall placesM (mCons (mBin dIx (mVar 0) (mBin dIxN (mVar 1) (mC (.int 1)))) mNil))) (mGn 3) mYes (mTup (mCons (mVar 2) (mCons (mVar 3) mNil))) [2, 3] [3] ⟨[.fz (TsD ts), .fz (ntD (iDs [i, j])), .no, .no], k⟩ = .ok ((RW ts [i, j]).map rD) ⟨[.fz (TsD ts), .fz (ntD (iDs [i, j])), .no, .no], k⟩ := by
      unfold mComp2
      have e7 : (mIter (mCall placesM (mCons (mBin dIx (mVar 0) (mBin dIxN (mVar 1) (mC (.int 0)))) mNil))) ⟨[.fz (TsD ts), .fz (ntD (iDs [i, j])), .no, .no], k⟩ = .ok ((List.range (nn ts i + 1)).map iD) ⟨[.fz (TsD ts), .fz (ntD (iDs [i, j])), .no, .no], k⟩ := by simp [e1, e2, e3]; rfl
      rw [e7]
      simp only [Out.bind_ok]
      have e8 : wipeP ⟨[.fz (TsD ts), .fz (ntD (iDs [i, j])), .no, .no], k⟩ [2, 3] = ⟨[.fz (TsD ts), .fz (ntD (iDs [i, j])), .no, .no], k⟩ := rfl
      rw [e8, e]
      rfl
    unfold allM mFun allB
    simp [sl0, List.replicate, e4, e5, c, -dLenN_nt]
end PP
namespace PP
open PySem MM L2
/-- a half: a thing, two joined places -/
abbrev Hf := Nat × Nat × Nat
def hD (h : Hf) : D := TD [h.1, h.2.1, h.2.2]
structure HOk (ts : List (List Nat)) (P : List Nat) (h : Hf) : Prop where
  i : h.1 ∈ P
  a : h.2.1 ≤ nn ts h.1
  b : h.2.2 ≤ nn ts h.1
  adj : (tr ts h.1).adj h.2.1 h.2.2
/-- whether a row has its place in a half -/
def inH (ts : List (List Nat)) (P : List Nat) (h : Hf) (r : List Nat) : Bool := decide ((tr ts h.1).d (r.getD (P.idxOf h.1) 0) h.2.2 < (tr ts h.1).d (r.getD (P.idxOf h.1) 0) h.2.1)
def hb (ts : List (List Nat)) (P : List Nat) (h : Hf) : Nat := bitsOf (inH ts P h) (RW ts P)
def hbB : MS :=
  (mSeq (mAsg (mGt 3 4 5) (mVar 2))
    (mSeq (mPar 6 7 (mCons (mCall sideM (mCons (mBin dIx (mVar 0) (mVar 3)) (mCons (mVar 4) (mCons (mVar 5) mNil)))) (mCons (mIdxN (mVar 1) (mVar 3)) mNil)))
    (mSeq (mSet 8 (mC (.int 0)))
    (mSeq (mFor (mEnum (mCons (mCall allM (mCons (mVar 0) (mCons (mVar 1) mNil))) mNil)) (mGp 9 10)
    (mSeq (mSet 11 (mIf (mTst (mBin dEq (mB dLenN (mCons (mVar 1) mNil)) (mC (.int 1)))) (mVar 10) (mBin dIx (mVar 10) (mVar 7))))
    (mIfS (mTst (mBin dIn (mVar 11) (mVar 6)))
    (mAug (fun i j => i + j) 8 (mBin dShl (mC (.int 1)) (mVar 9))) mNext)))
    (mRet (mVar 8))))))
def hbM : MF := mFun 3 12 hbB
def hbL : MS := (mSeq (mSet 11 (mIf (mTst (mBin dEq (mB dLenN (mCons (mVar 1) mNil)) (mC (.int 1)))) (mVar 10) (mBin dIx (mVar 10) (mVar 7))))
    (mIfS (mTst (mBin dIn (mVar 11) (mVar 6)))
    (mAug (fun i j => i + j) 8 (mBin dShl (mC (.int 1)) (mVar 9))) mNext))
section
variable {ts : List (List Nat)} (hT : TsOk ts) {P : List Nat} (hP : PrOk ts P) (k : Dk)
include hT hP
theorem side_t {h : Hf} (H : HOk ts P h) : sideM [TD (tg ts h.1), iD h.2.1, iD h.2.2] k = .ret (TD (sdL (tr ts h.1) (nn ts h.1) h.2.1 h.2.2)) k := by
  have q := hT.ok _ (ts_mem (hP.lt _ H.i))
  have e : tr ts h.1 = trOf (tg ts h.1) q.1 := trG_eq q.1
  have := sd_ok q.1 q.2 k H.a H.b (by rw [← e]; exact H.adj)
  rw [← e] at this
  exact this
theorem place_of {r : List Nat} (hr : r ∈ RW ts P) {i : Nat} (hi : i ∈ P) : P.idxOf i < P.length ∧ r.getD (P.idxOf i) 0 ≤ nn ts i ∧
    ((P.length = 1 ∧ rD r = iD (r.getD (P.idxOf i) 0)) ∨ (P.length = 2 ∧ dIx (rD r) (iD (P.idxOf i)) = some (iD (r.getD (P.idxOf i) 0)))) := by
  have hx := List.idxOf_lt_length_iff.mpr hi
  obtain ⟨q1, q2⟩ := rw_mem hr
  have q3 := q2 _ hx
  have e : P.getD (P.idxOf i) 0 = i := by rw [List.getD_eq_getElem?_getD, List.getElem?_eq_getElem hx, Option.getD_some, List.getElem_idxOf]
  rw [e] at q3
  refine ⟨hx, q3, ?_⟩
  rcases pr_cases hP with ⟨i', rfl, _⟩ | ⟨i', j', rfl, _⟩
  · left
    refine ⟨rfl, ?_⟩
    match r, q1 with
    | [a], _ =>
      have : [i'].idxOf i = 0 := by simp at hx; omega
      rw [this]; rfl
  · right
    refine ⟨rfl, ?_⟩
    match r, q1 with
    | [a, b], _ =>
      refine dIx_TD ?_
      rw [List.getD_eq_getElem?_getD]
      have hx : [i', j'].idxOf i < [a, b].length := hx
      rw [List.getElem?_eq_getElem hx]; rfl
theorem hbL_ok {h : Hf} (H : HOk ts P h) {done : List (List Nat)} {r : List Nat} (hr : r ∈ RW ts P) (hd : done.length ≤ 64) (hD' : D) (s3 s4 s5 s11 : Sl) (acc : Nat) (S : List Nat) (hS : ∀ x, x ≤ nn ts h.1 → (x ∈ S ↔ (tr ts h.1).d x h.2.2 < (tr ts h.1).d x h.2.1)) :
    ∃ s11', hbL ⟨[.fz (TsD ts), .fz (ntD (iDs P)), .fz hD', s3, s4, s5, .fz (TD S), .fz (iD (P.idxOf h.1)), .fz (iD acc), .fz (iD done.length), .fz (rD r), s11], k⟩ =
      .next ⟨[.fz (TsD ts), .fz (ntD (iDs P)), .fz hD', s3, s4, s5, .fz (TD S), .fz (iD (P.idxOf h.1)), .fz (iD (acc + (if inH ts P h r = true then 2 ^ done.length else 0))), .fz (iD done.length), .fz (rD r), s11'], k⟩ := by
  obtain ⟨p1, p2, p3⟩ := place_of hT hP hr H.i
  have hm := hS _ p2
  refine ⟨.fz (iD (r.getD (P.idxOf h.1) 0)), ?_⟩
  have e1 : dLenN [ntD (iDs P)] = some (iD P.length) := dLenN_nt P
  have e2 := dShl_iD (m := done.length) (by omega)
  have eH : inH ts P h r = decide (r.getD (P.idxOf h.1) 0 ∈ S) := by unfold inH; exact decide_eq_decide.mpr hm.symm
  rw [eH]
  clear hm eH hS p2
  generalize r.getD (P.idxOf h.1) 0 = x at *
  generalize P.idxOf h.1 = y at *
  have e5 := dAug_add acc (2 ^ done.length)
  generalize 2 ^ done.length = w at *
  unfold hbL
  rcases p3 with ⟨l1, e3⟩ | ⟨l2, e3⟩
  · have e4 : dEq (iD P.length) (.int 1) = some (.bool true) := by rw [l1]; rfl
    by_cases hx : x ∈ S
    · simp [e1, e2, e3, e4, e5, hx, -dLenN_nt]
    · simp [e1, e2, e3, e4, hx, -dLenN_nt]
  · have e4 : dEq (iD P.length) (.int 1) = some (.bool false) := by rw [l2]; rfl
    by_cases hx : x ∈ S
    · simp [e1, e2, e3, e4, e5, hx, -dLenN_nt]
    · simp [e1, e2, e3, e4, hx, -dLenN_nt]
theorem hb_ok {h : Hf} (H : HOk ts P h) : hbM [TsD ts, ntD (iDs P), hD h] k = .ret (iD (hb ts P h)) k := by
  have e1 := side_t hT hP k H
  have e2 := ts_at (hP.lt _ H.i)
  have e3 := all_ok hT hP k
  have e4 := dIndexT_TD H.i
  have hlen := rw_len hT hP
  have e5 := dEnum_map rD (RW ts P)
  have hS : ∀ x, x ≤ nn ts h.1 → (x ∈ sdL (tr ts h.1) (nn ts h.1) h.2.1 h.2.2 ↔ (tr ts h.1).d x h.2.2 < (tr ts h.1).d x h.2.1) := fun x hx => by rw [mem_sdL]; omega
  generalize sdL (tr ts h.1) (nn ts h.1) h.2.1 h.2.2 = S at *
  obtain ⟨ps', e, s9, s10, s11, rfl⟩ := loop_enum rD (i := 9) (j := 10) (body := hbL) (xs := RW ts P) (ps := ⟨[.fz (TsD ts), .fz (ntD (iDs P)), .fz (hD h), .fz (iD h.1), .fz (iD h.2.1), .fz (iD h.2.2), .fz (TD S), .fz (iD (P.idxOf h.1)), .fz (iD 0), .no, .no, .no], k⟩)
    (fun done ps => ∃ s9 s10 s11, ps = ⟨[.fz (TsD ts), .fz (ntD (iDs P)), .fz (hD h), .fz (iD h.1), .fz (iD h.2.1), .fz (iD h.2.2), .fz (TD S), .fz (iD (P.idxOf h.1)), .fz (iD (bitsOf (inH ts P h) done)), s9, s10, s11], k⟩) ⟨_, _, _, rfl⟩ (by
      rintro done r rest sl k' hx ⟨s9, s10, s11, e⟩
      cases e
      have hr : r ∈ RW ts P := by rw [hx]; simp
      have hd : done.length ≤ 64 := by
        have := congrArg List.length hx
        rw [List.length_append, List.length_cons] at this
        omega
      obtain ⟨s11', e⟩ := hbL_ok hT hP k H hr hd (hD h) (.fz (iD h.1)) (.fz (iD h.2.1)) (.fz (iD h.2.2)) s11 (bitsOf (inH ts P h) done) S hS
      rw [← bits_snoc] at e
      exact ⟨_, .inl e, _, _, _, rfl⟩)
  unfold hbL at e
  have e6 : hD h = .tuple [iD h.1, iD h.2.1, iD h.2.2] := rfl
  have e7 : (mIdxN (mVar 1) (mVar 3)) ⟨[.fz (TsD ts), .fz (ntD (iDs P)), .fz (hD h), .fz (iD h.1), .fz (iD h.2.1), .fz (iD h.2.2), .no, .no, .no, .no, .no, .no], k⟩ = .ok (iD (P.idxOf h.1)) ⟨[.fz (TsD ts), .fz (ntD (iDs P)), .fz (hD h), .fz (iD h.1), .fz (iD h.2.1), .fz (iD h.2.2), .no, .no, .no, .no, .no, .no], k⟩ := by
    unfold mIdxN ntD
    simp [e4, -iDs_tuple]
  have e8 : iD 0 = .int 0 := rfl
  rw [e8] at e
  have e9 : (mAsg (mGt 3 4 5) (mVar 2)) ⟨[.fz (TsD ts), .fz (ntD (iDs P)), .fz (hD h), .no, .no, .no, .no, .no, .no, .no, .no, .no], k⟩ = .next ⟨[.fz (TsD ts), .fz (ntD (iDs P)), .fz (hD h), .fz (iD h.1), .fz (iD h.2.1), .fz (iD h.2.2), .no, .no, .no, .no, .no, .no], k⟩ := rfl
  unfold hbM mFun hbB
  simp [-e_asg, -e_idxN, sl0, List.replicate, e9, e1, e2, e3, e5, e7, e, hb]
end
end PP
namespace PP
open PySem MM L2
/-! ### dicts told by what is in them -/
section
variable {α κ : Type} [DecidableEq α] [DecidableEq κ] {key : α → κ} (inj : ∀ x y, key x = key y → x = y) (val : α → D)
def insL (L : List α) (x : α) : List α := if x ∈ L then L else L ++ [x]
theorem mem_insL {L : List α} {x y : α} : y ∈ insL L x ↔ y ∈ L ∨ y = x := by
  unfold insL
  split
  · rename_i h
    constructor
    · exact .inl
    · rintro (h1 | rfl)
      · exact h1
      · exact h
  · simp
theorem insL_len {L : List α} {x : α} : (insL L x).length ≤ L.length + 1 := by
  unfold insL
  split
  · omega
  · simp
include inj
theorem any_key {β : Type} (f : α → β) (L : List α) (x : α) : ((L.map fun y => (key y, f y)).any fun kv => decide (kv.1 = key x)) = decide (x ∈ L) := by
  induction L with
  | nil => simp
  | cons y ys ih =>
    rw [List.map_cons, List.any_cons, ih]
    by_cases e : y = x
    · subst e; simp
    · have : ¬ key y = key x := fun z => e (inj _ _ z)
      have e2 : ¬ x = y := fun z => e z.symm
      simp [this, e2]
theorem look_map (L : List α) (x : α) : lookK (L.map fun y => (key y, val y)) (key x) = if x ∈ L then some (val x) else none := by
  unfold lookK
  induction L with
  | nil => rfl
  | cons y ys ih =>
    rw [List.map_cons, List.find?_cons]
    by_cases e : y = x
    · subst e; simp
    · have h1 : ¬ key y = key x := fun z => e (inj _ _ z)
      have e2 : ¬ x = y := fun z => e z.symm
      simp only [decide_eq_false h1]
      rw [ih]
      simp [e2]
theorem put_map (L : List α) (x : α) : putG (L.map fun y => (key y, val y)) (key x) (val x) = (insL L x).map fun y => (key y, val y) := by
  unfold putG insL
  rw [any_key inj]
  by_cases h : x ∈ L
  · rw [if_pos (by simpa using h), if_pos h, List.map_map]
    refine List.map_congr_left fun y _ => ?_
    simp only [Function.comp]
    by_cases e : key y = key x
    · have := inj _ _ e
      subst this
      simp
    · simp [e]
  · rw [if_neg (by simpa using h), if_neg h, List.map_append]; rfl
end
def hk (h : Hf) : List Key := [.inl (h.1 : Int), .inl (h.2.1 : Int), .inl (h.2.2 : Int)]
theorem hk_inj (x y : Hf) (e : hk x = hk y) : x = y := by
  obtain ⟨a, b, c⟩ := x
  obtain ⟨a', b', c'⟩ := y
  unfold hk at e
  injection e with e1 e
  injection e with e2 e
  injection e with e3 e
  injection e1 with e1; injection e2 with e2; injection e3 with e3
  have : a = a' := Int.ofNat.inj e1
  have : b = b' := Int.ofNat.inj e2
  have : c = c' := Int.ofNat.inj e3
  simp [*]
def slT {α : Type} (key : α → List Key) (val : α → D) (L : List α) : Sl := if L.isEmpty = true then .md [] else .mt (L.map fun y => (key y, val y))
theorem slT_nil {α : Type} (key : α → List Key) (val : α → D) : slT key val [] = .md [] := rfl
section
variable {α : Type} [DecidableEq α] {key : α → List Key} (inj : ∀ x y, key x = key y → x = y) (val : α → D) {e : α → D} (hk1 : ∀ x, toKey (e x) = none) (hk2 : ∀ x, toTup (e x) = some (key x))
include inj hk1 hk2
theorem slT_look (L : List α) (x : α) : lookU (some (slT key val L)) (e x) = some (if x ∈ L then some (val x) else none) := by
  unfold slT
  cases L with
  | nil => simp [lookU, hk1, hk2]
  | cons y ys =>
    show lookU (some (.mt ((y :: ys).map fun y => (key y, val y)))) (e x) = _
    simp only [lookU, hk2, Option.map_some]
    rw [look_map inj]
theorem slT_put {L : List α} (x : α) (hl : L.length < 10000000) : putU (some (slT key val L)) (e x) (val x) = some (slT key val (insL L x)) := by
  unfold slT
  cases L with
  | nil => simp [putU, hk1, hk2, insL]
  | cons y ys =>
    show putU (some (.mt ((y :: ys).map fun y => (key y, val y)))) (e x) (val x) = _
    simp only [putU, hk2]
    rw [if_pos (by rw [List.length_map]; show _ < 16777216; omega), put_map inj]
    have : (insL (y :: ys) x).isEmpty = false := by
      unfold insL; split <;> rfl
    rw [this]; rfl
end
theorem hD_key (h : Hf) : toKey (hD h) = none := rfl
theorem hD_tup (h : Hf) : toTup (hD h) = some (hk h) := rfl
/-! ### what clauses let -/
abbrev Cl2 := Hf × Hf
def clD (c : Cl2) : D := .tuple [hD c.1, hD c.2]
def barC (ts : List (List Nat)) (P : List Nat) (c : Cl2) (r : List Nat) : Bool := inH ts P c.1 r && inH ts P c.2 r
def barA (ts : List (List Nat)) (P : List Nat) (cs : List Cl2) (r : List Nat) : Bool := cs.any fun c => barC ts P c r
def letR (ts : List (List Nat)) (P : List Nat) (cs : List Cl2) : List (List Nat) := (RW ts P).filter fun r => !barA ts P cs r
def tbD (P : List Nat) (rows : List (List Nat)) : D := .tuple (iDs P ++ [.tuple (rows.map rD)])
def byB : MS :=
  (mSeq (mOwnU 3 (mDg (mIter (mVar 2)) (mGn 8) mYes (mIn (mIter (mVar 8)) (mGn 5) mYes (mKv (mVar 5) (mCall hbM (mCons (mVar 0) (mCons (mVar 1) (mCons (mVar 5) mNil))))) [5]) [8, 5]))
    (mSeq (mSet 4 (mC (.int 0)))
    (mSeq (mFor (mIter (mVar 2)) (mGp 5 6)
    (mSet 4 (mBin dOr (mVar 4) (mBin dAnd (mIxU 3 (mVar 5)) (mIxU 3 (mVar 6))))))
    (mSeq (mOwn 7 (mComp (mEnum (mCons (mCall allM (mCons (mVar 0) (mCons (mVar 1) mNil))) mNil)) (mGp 9 10) (mTst (mBin dEq (mBin dAnd (mBin dShr (mVar 4) (mVar 9)) (mC (.int 1))) (mC (.int 0)))) (mVar 10) [9, 10]))
    (mRet (mBin dAddN (mVar 1) (mTup (mCons (mB dTuple (mCons (mVar 7) mNil)) mNil))))))))
def byM : MF := mFun 3 11 byB
theorem zip_filter {α β : Type} (xs : List α) (q : α → Bool) (f : α → β) : ∀ s : Nat, ((xs.zipIdx s).filter fun p => q p.1).map (fun p => f p.1) = (xs.filter q).map f := by
  induction xs with
  | nil => intro s; rfl
  | cons x xs ih =>
    intro s
    rw [List.zipIdx_cons, List.filter_cons, List.filter_cons]
    split
    · rw [List.map_cons, List.map_cons, ih]
    · exact ih _
theorem shr_one (acc m : Nat) : ((acc / 2 ^ m) &&& 1 = 0) ↔ acc.testBit m = false := by
  rw [Nat.testBit_eq_decide_div_mod_eq, Nat.and_one_is_mod, decide_eq_false_iff_not]
  omega
section
variable {ts : List (List Nat)} (hT : TsOk ts) {P : List Nat} (hP : PrOk ts P) (k : Dk)
include hT hP
theorem by_bits {cs : List Cl2} (hc : ∀ c ∈ cs, HOk ts P c.1 ∧ HOk ts P c.2) (hl : cs.length ≤ 100000) {cD : D} (hcD : dSeq cD = some (cs.map clD)) :
    ∃ L : List Hf, (∀ c ∈ cs, c.1 ∈ L ∧ c.2 ∈ L) ∧ mDg (mIter (mVar 2)) (mGn 8) mYes (mIn (mIter (mVar 8)) (mGn 5) mYes (mKv (mVar 5) (mCall hbM (mCons (mVar 0) (mCons (mVar 1) (mCons (mVar 5) mNil))))) [5]) [8, 5] ⟨[.fz (TsD ts), .fz (ntD (iDs P)), .fz cD, .no, .no, .no, .no, .no, .no, .no, .no], k⟩ =
      .ok (slT hk (fun h => iD (hb ts P h)) L) ⟨[.fz (TsD ts), .fz (ntD (iDs P)), .fz cD, .no, .no, .no, .no, .no, .no, .no, .no], k⟩ := by
  obtain ⟨sl', ps', e, L, rfl, h1, h2, rfl⟩ := lp_inv clD (g := mGn 8) (mb := (mIn (mIter (mVar 8)) (mGn 5) mYes (mKv (mVar 5) (mCall hbM (mCons (mVar 0) (mCons (mVar 1) (mCons (mVar 5) mNil))))) [5])) (vs := [8, 5]) (xs := cs) (sl := .md []) (ps := ⟨[.fz (TsD ts), .fz (ntD (iDs P)), .fz cD, .no, .no, .no, .no, .no, .no, .no, .no], k⟩)
    (fun done sl ps => ∃ L : List Hf, sl = slT hk (fun h => iD (hb ts P h)) L ∧ (∀ c ∈ done, c.1 ∈ L ∧ c.2 ∈ L) ∧ L.length ≤ 2 * done.length ∧ ps = ⟨[.fz (TsD ts), .fz (ntD (iDs P)), .fz cD, .no, .no, .no, .no, .no, .no, .no, .no], k⟩) ⟨[], rfl, by simp, by simp, rfl⟩ (by
      rintro done c rest sl ps hx ⟨L, rfl, h1, h2, rfl⟩
      have hcc := hc c (by rw [hx]; simp)
      have hd : done.length ≤ 100000 := by
        have := congrArg List.length hx
        rw [List.length_append] at this
        omega
      obtain ⟨sl', ps', e, L', rfl, m1, m2, m3, s5, rfl⟩ := lp_inv hD (g := mGn 5) (mb := (mKv (mVar 5) (mCall hbM (mCons (mVar 0) (mCons (mVar 1) (mCons (mVar 5) mNil)))))) (vs := [5]) (xs := [c.1, c.2]) (sl := slT hk (fun h => iD (hb ts P h)) L) (ps := ⟨[.fz (TsD ts), .fz (ntD (iDs P)), .fz cD, .no, .no, .no, .no, .no, .fz (clD c), .no, .no], k⟩)
        (fun dn sl ps => ∃ L' : List Hf, sl = slT hk (fun h => iD (hb ts P h)) L' ∧ (∀ x ∈ L, x ∈ L') ∧ (∀ x ∈ dn, x ∈ L') ∧ L'.length ≤ L.length + dn.length ∧ ∃ s5, ps = ⟨[.fz (TsD ts), .fz (ntD (iDs P)), .fz cD, .no, .no, s5, .no, .no, .fz (clD c), .no, .no], k⟩) ⟨L, rfl, fun x h => h, by simp, by simp, _, rfl⟩ (by
          rintro dn h rest sl ps hx2 ⟨L', rfl, m1, m2, m3, s5, rfl⟩
          have hmem : h ∈ [c.1, c.2] := by rw [hx2]; simp
          have hH : HOk ts P h := by
            simp only [List.mem_cons, List.not_mem_nil, or_false] at hmem
            rcases hmem with rfl | rfl
            · exact hcc.1
            · exact hcc.2
          have hdn : dn.length ≤ 2 := by
            have := congrArg List.length hx2
            rw [List.length_append] at this
            simp at this; omega
          have e1 := hb_ok hT hP k hH
          have e2 := slT_put hk_inj (fun h => iD (hb ts P h)) hD_key hD_tup (L := L') h (by omega)
          refine ⟨⟨[.fz (TsD ts), .fz (ntD (iDs P)), .fz cD, .no, .no, .fz (hD h), .no, .no, .fz (clD c), .no, .no], k⟩, slT hk (fun h => iD (hb ts P h)) (insL L' h), ⟨[.fz (TsD ts), .fz (ntD (iDs P)), .fz cD, .no, .no, .fz (hD h), .no, .no, .fz (clD c), .no, .no], k⟩, rfl, ?_, insL L' h, rfl, fun x hx => mem_insL.mpr (.inl (m1 x hx)), ?_, ?_, .no, rfl⟩
          · unfold mKv
            simp [e1, e2]
          · intro x hx
            rcases List.mem_append.mp hx with hx | hx
            · exact mem_insL.mpr (.inl (m2 x hx))
            · rw [List.mem_singleton] at hx; exact mem_insL.mpr (.inr hx)
          · have := insL_len (L := L') (x := h)
            rw [List.length_append, List.length_singleton]; omega)
      have e3 : mIn (mIter (mVar 8)) (mGn 5) mYes (mKv (mVar 5) (mCall hbM (mCons (mVar 0) (mCons (mVar 1) (mCons (mVar 5) mNil))))) [5] (slT hk (fun h => iD (hb ts P h)) L) ⟨[.fz (TsD ts), .fz (ntD (iDs P)), .fz cD, .no, .no, .no, .no, .no, .fz (clD c), .no, .no], k⟩ = _ :=
        in_ok' (ps1 := ⟨[.fz (TsD ts), .fz (ntD (iDs P)), .fz cD, .no, .no, .no, .no, .no, .fz (clD c), .no, .no], k⟩) (ds := [c.1, c.2].map hD) rfl e
      refine ⟨⟨[.fz (TsD ts), .fz (ntD (iDs P)), .fz cD, .no, .no, .no, .no, .no, .fz (clD c), .no, .no], k⟩, _, _, rfl, e3, L', rfl, ?_, ?_, rfl⟩
      · intro x hx
        rcases List.mem_append.mp hx with hx | hx
        · exact ⟨m1 _ (h1 x hx).1, m1 _ (h1 x hx).2⟩
        · rw [List.mem_singleton] at hx
          subst hx
          exact ⟨m2 _ (by simp), m2 _ (by simp)⟩
      · simp only [List.length_append, List.length_cons, List.length_nil] at m3 ⊢
        omega)
  refine ⟨L, h1, ?_⟩
  unfold mDg
  have e7 : (mIter (mVar 2)) ⟨[.fz (TsD ts), .fz (ntD (iDs P)), .fz cD, .no, .no, .no, .no, .no, .no, .no, .no], k⟩ = .ok (cs.map clD) ⟨[.fz (TsD ts), .fz (ntD (iDs P)), .fz cD, .no, .no, .no, .no, .no, .no, .no, .no], k⟩ := by simp [hcD]
  rw [e7]
  simp only [Out.bind_ok]
  have e8 : wipeP ⟨[.fz (TsD ts), .fz (ntD (iDs P)), .fz cD, .no, .no, .no, .no, .no, .no, .no, .no], k⟩ [8, 5] = ⟨[.fz (TsD ts), .fz (ntD (iDs P)), .fz cD, .no, .no, .no, .no, .no, .no, .no, .no], k⟩ := rfl
  rw [e8, e]
  rfl
end
end PP
namespace PP
open PySem MM L2
theorem slT_ud {α : Type} (key : α → List Key) (val : α → D) (L : List α) : isUd (some (slT key val L)) = true := by
  unfold slT
  split <;> rfl
theorem ixU_slT {α : Type} [DecidableEq α] {key : α → List Key} (inj : ∀ x y, key x = key y → x = y) (val : α → D) {e : α → D} (hk1 : ∀ x, toKey (e x) = none) (hk2 : ∀ x, toTup (e x) = some (key x)) {L : List α} {x : α} (hx : x ∈ L) {i : Nat} {b : ME} {ps : Ps}
    (h1 : ps.sl[i]? = some (slT key val L)) (h2 : b ps = .ok (e x) ps) : mIxU i b ps = .ok (val x) ps := by
  unfold mIxU
  rw [h1, slT_ud, if_pos rfl, h2]
  simp only [Out.bind_ok, h1]
  rw [slT_look inj val hk1 hk2, if_pos hx]; rfl
def byL : MS := (mSet 4 (mBin dOr (mVar 4) (mBin dAnd (mIxU 3 (mVar 5)) (mIxU 3 (mVar 6)))))
theorem dAddN_nt {xs : List Nat} {ys : List D} (h1 : xs ≠ []) (h2 : ys ≠ []) (h : xs.length + ys.length ≤ 1000) : dAddN (ntD (iDs xs)) (.tuple ys) = some (.tuple (iDs xs ++ ys)) := by
  show (if (!(iDs xs).isEmpty && !ys.isEmpty && decide ((iDs xs).length + ys.length ≤ sizeLine)) = true then some (PyData.tuple (iDs xs ++ ys)) else none) = _
  rw [if_pos]
  have a : (iDs xs).isEmpty = false := by
    cases xs with
    | nil => exact absurd rfl h1
    | cons => rfl
  have b : ys.isEmpty = false := by
    cases ys with
    | nil => exact absurd rfl h2
    | cons => rfl
  rw [a, b, iDs_len, decide_eq_true (by show _ ≤ 16777216; omega)]; rfl
section
variable {ts : List (List Nat)} (hT : TsOk ts) {P : List Nat} (hP : PrOk ts P) (k : Dk)
include hT hP
theorem hb_test (h : Hf) {m : Nat} {r : List Nat} (hr : (RW ts P)[m]? = some r) : (hb ts P h).testBit m = inH ts P h r := by
  unfold hb
  rw [bits_test, hr]
theorem by_ok {cs : List Cl2} (hc : ∀ c ∈ cs, HOk ts P c.1 ∧ HOk ts P c.2) (hl : cs.length ≤ 100000) {cD : D} (hcD : dSeq cD = some (cs.map clD)) : byM [TsD ts, ntD (iDs P), cD] k = .ret (tbD P (letR ts P cs)) k := by
  obtain ⟨L, hL, e1⟩ := by_bits hT hP k hc hl hcD
  have e3 := all_ok hT hP k
  have e5 := dEnum_map rD (RW ts P)
  obtain ⟨ps', e, acc, s5, s6, rfl, hacc⟩ := loop_map clD (g := mGp 5 6) (body := byL) (xs := cs) (ps := ⟨[.fz (TsD ts), .fz (ntD (iDs P)), .fz cD, slT hk (fun h => iD (hb ts P h)) L, .fz (iD 0), .no, .no, .no, .no, .no, .no], k⟩)
    (fun done ps => ∃ acc s5 s6, ps = ⟨[.fz (TsD ts), .fz (ntD (iDs P)), .fz cD, slT hk (fun h => iD (hb ts P h)) L, .fz (iD acc), s5, s6, .no, .no, .no, .no], k⟩ ∧ ∀ m, acc.testBit m = done.any fun c => (hb ts P c.1).testBit m && (hb ts P c.2).testBit m) ⟨0, .no, .no, rfl, by simp⟩ (by
      rintro done c rest ps hx ⟨acc, s5, s6, rfl, ha⟩
      obtain ⟨m1, m2⟩ := hL c (by rw [hx]; simp)
      refine ⟨⟨[.fz (TsD ts), .fz (ntD (iDs P)), .fz cD, slT hk (fun h => iD (hb ts P h)) L, .fz (iD acc), .fz (hD c.1), .fz (hD c.2), .no, .no, .no, .no], k⟩, ⟨[.fz (TsD ts), .fz (ntD (iDs P)), .fz cD, slT hk (fun h => iD (hb ts P h)) L, .fz (iD (acc ||| (hb ts P c.1 &&& hb ts P c.2))), .fz (hD c.1), .fz (hD c.2), .no, .no, .no, .no], k⟩, rfl, .inl ?_, _, _, _, rfl, ?_⟩
      · have u1 := ixU_slT hk_inj (fun h => iD (hb ts P h)) hD_key hD_tup m1 (i := 3) (b := mVar 5) (ps := ⟨[.fz (TsD ts), .fz (ntD (iDs P)), .fz cD, slT hk (fun h => iD (hb ts P h)) L, .fz (iD acc), .fz (hD c.1), .fz (hD c.2), .no, .no, .no, .no], k⟩) rfl rfl
        have u2 := ixU_slT hk_inj (fun h => iD (hb ts P h)) hD_key hD_tup m2 (i := 3) (b := mVar 6) (ps := ⟨[.fz (TsD ts), .fz (ntD (iDs P)), .fz cD, slT hk (fun h => iD (hb ts P h)) L, .fz (iD acc), .fz (hD c.1), .fz (hD c.2), .no, .no, .no, .no], k⟩) rfl rfl
        have u3 := dAnd_iD (hb ts P c.1) (hb ts P c.2)
        have u4 := dOr_iD acc (hb ts P c.1 &&& hb ts P c.2)
        unfold byL
        simp only [e_set, e_bin, e_var, List.getElem?_cons_succ, List.getElem?_cons_zero, Out.bind_ok, Out.bindS_ok, Out.of_some, u1, u2, u3, u4, List.set_cons_succ, List.set_cons_zero]
      · intro m
        rw [Nat.testBit_or, Nat.testBit_and, ha m, List.any_append]
        simp)
  have c1 := comp_gen (fun p : List Nat × Nat => PyData.tuple [iD p.2, rD p.1]) (mi := (mEnum (mCons (mCall allM (mCons (mVar 0) (mCons (mVar 1) mNil))) mNil))) (g := (mGp 9 10)) (tt := (mTst (mBin dEq (mBin dAnd (mBin dShr (mVar 4) (mVar 9)) (mC (.int 1))) (mC (.int 0))))) (te := (mVar 10)) (vs := [9, 10]) (ps := ⟨[.fz (TsD ts), .fz (ntD (iDs P)), .fz cD, slT hk (fun h => iD (hb ts P h)) L, .fz (iD acc), s5, s6, .no, .no, .no, .no], k⟩) (ps0 := ⟨[.fz (TsD ts), .fz (ntD (iDs P)), .fz cD, slT hk (fun h => iD (hb ts P h)) L, .fz (iD acc), s5, s6, .no, .no, .no, .no], k⟩)
    (fun p => decide (acc / 2 ^ p.2 &&& 1 = 0)) (fun p => rD p.1) (xs := (RW ts P).zipIdx) (by simp [e3, e5]; rfl) (by simp) (by have := rw_len hT hP; rw [List.length_zipIdx]; omega) (fun p hp => by
      have u1 := dShr_iD acc p.2
      have u2 : dAnd (iD (acc / 2 ^ p.2)) (.int 1) = some (iD (acc / 2 ^ p.2 &&& 1)) := dAnd_iD (acc / 2 ^ p.2) 1
      have u3 : dEq (iD (acc / 2 ^ p.2 &&& 1)) (.int 0) = some (.bool (decide (acc / 2 ^ p.2 &&& 1 = 0))) := dEq_iD _ 0
      generalize acc / 2 ^ p.2 = w at *
      generalize w &&& 1 = v at *
      simp [u1, u2, u3])
  have e9 : ((RW ts P).zipIdx.filter fun p => decide (acc / 2 ^ p.2 &&& 1 = 0)) = (RW ts P).zipIdx.filter fun p => !barA ts P cs p.1 := by
    refine List.filter_congr fun p hp => ?_
    have hr : (RW ts P)[p.2]? = some p.1 := by
      have := List.mem_zipIdx_iff_getElem?.mp hp
      simpa using this
    have hb1 : acc.testBit p.2 = barA ts P cs p.1 := by
      rw [hacc]
      unfold barA barC
      congr 1
      funext c
      rw [hb_test hT hP c.1 hr, hb_test hT hP c.2 hr]
    rw [← hb1]
    cases h : acc.testBit p.2 with
    | false => exact decide_eq_true ((shr_one acc p.2).mpr h)
    | true =>
      refine decide_eq_false fun z => ?_
      rw [(shr_one acc p.2).mp z] at h
      cases h
  rw [e9, zip_filter (RW ts P) (fun r => !barA ts P cs r) rD 0] at c1
  have hne : P ≠ [] := by
    rcases hP.len with h | h <;> (intro z; rw [z] at h; simp at h)
  have e10 := dAddN_nt (xs := P) (ys := [.tuple ((letR ts P cs).map rD)]) hne (by simp) (by rcases hP.len with h | h <;> simp [h])
  have z1 : 1 ≤ sizeLine := sz_le (by omega)
  have e11 : (List.filter (fun r => !barA ts P cs r) (RW ts P)).map rD = (letR ts P cs).map rD := rfl
  rw [e11] at c1
  unfold byL at e
  have e8 : iD 0 = .int 0 := rfl
  rw [e8] at e
  generalize slT hk (fun h => iD (hb ts P h)) L = SL at *
  unfold byM mFun byB tbD
  simp [sl0, List.replicate, e1, hcD, e, c1, dTuple_list, z1, e10]
end
end PP
namespace PP
open PySem MM L2
/-! ### rows that are known -/
def rk (r : List Nat) : List Key := r.map fun a : Nat => (Sum.inl (a : Int) : Key)
theorem rk_inj (x y : List Nat) (e : rk x = rk y) : x = y := by
  unfold rk at e
  induction x generalizing y with
  | nil => cases y with
    | nil => rfl
    | cons b ys => simp at e
  | cons a xs ih =>
    cases y with
    | nil => simp at e
    | cons b ys =>
      rw [List.map_cons, List.map_cons] at e
      injection e with e1 e2
      injection e1 with e1
      rw [Int.ofNat.inj e1, ih ys e2]
def fk (a : Nat) : Key := .inl (a : Int)
theorem fk_inj (x y : Nat) (e : fk x = fk y) : x = y := by
  unfold fk at e
  injection e with e
  exact Int.ofNat.inj e
theorem TD_key (r : List Nat) : toKey (TD r) = none := rfl
theorem TD_tup (r : List Nat) : toTup (TD r) = some (rk r) := by
  show keysOf (iDs r) = _
  have e : iDs r = (rk r).map kD := by unfold iDs rk; rw [List.map_map]; rfl
  rw [e, keysOf_kD]
structure Kn1 (sl : Sl) (L : List (List Nat)) : Prop where
  ex : ∃ A : List Nat, sl = .md (A.map fun a => (fk a, PyData.bool true)) ∧ L = A.map fun a => [a]
def Kn (n : Nat) (sl : Sl) (L : List (List Nat)) : Prop := (n = 1 ∧ Kn1 sl L) ∨ (n = 2 ∧ sl = slT rk (fun _ => .bool true) L)
theorem kn_nil {n : Nat} (h : n = 1 ∨ n = 2) : Kn n (.md []) [] := by
  rcases h with h | h
  · exact .inl ⟨h, ⟨[], rfl, rfl⟩⟩
  · exact .inr ⟨h, rfl⟩
theorem rD_two {r : List Nat} (h : r.length = 2) : rD r = TD r := by
  match r, h with
  | [a, b], _ => rfl
theorem kn_look {n : Nat} {sl : Sl} {L : List (List Nat)} (h : Kn n sl L) {r : List Nat} (hr : r.length = n) : lookU (some sl) (rD r) = some (if r ∈ L then some (.bool true) else none) := by
  rcases h with ⟨rfl, ⟨A, rfl, rfl⟩⟩ | ⟨rfl, rfl⟩
  · match r, hr with
    | [a], _ =>
      show some (lookK (A.map fun a => (fk a, PyData.bool true)) (fk a)) = _
      rw [look_map fk_inj (fun _ => .bool true)]
      have : ([a] ∈ A.map fun a => [a]) ↔ a ∈ A := by simp
      simp only [this]
  · rw [rD_two hr]
    rw [slT_look rk_inj (fun _ => .bool true) TD_key TD_tup L r]
    by_cases hm : r ∈ L <;> simp [hm]
theorem kn_put {n : Nat} {sl : Sl} {L : List (List Nat)} (h : Kn n sl L) {r : List Nat} (hr : r.length = n) (hl : L.length < 10000000) : ∃ sl', putU (some sl) (rD r) (.bool true) = some sl' ∧ Kn n sl' (insL L r) := by
  rcases h with ⟨rfl, ⟨A, rfl, rfl⟩⟩ | ⟨rfl, rfl⟩
  · match r, hr with
    | [a], _ =>
      refine ⟨.md ((insL A a).map fun a => (fk a, PyData.bool true)), ?_, .inl ⟨rfl, ⟨insL A a, rfl, ?_⟩⟩⟩
      · have e := put_map fk_inj (fun _ : Nat => PyData.bool true) A a
        show (if (A.map fun a => (fk a, PyData.bool true)).length < sizeLine then some (Sl.md (putG (A.map fun a => (fk a, PyData.bool true)) (fk a) (.bool true))) else none) = _
        rw [List.length_map] at hl
        rw [if_pos (by rw [List.length_map]; show _ < 16777216; omega), e]
      · unfold insL
        have : ([a] ∈ A.map fun a => [a]) ↔ a ∈ A := by simp
        by_cases hm : a ∈ A
        · rw [if_pos hm, if_pos (this.mpr hm)]
        · rw [if_neg hm, if_neg (fun z => hm (this.mp z)), List.map_append]; rfl
  · rw [rD_two hr]
    exact ⟨_, slT_put rk_inj (fun _ => .bool true) TD_key TD_tup r hl, .inr ⟨rfl, rfl⟩⟩
theorem kn_ud {n : Nat} {sl : Sl} {L : List (List Nat)} (h : Kn n sl L) : isUd (some sl) = true := by
  rcases h with ⟨rfl, ⟨A, rfl, rfl⟩⟩ | ⟨rfl, rfl⟩
  · rfl
  · exact slT_ud _ _ _
theorem e_inU {neg : Bool} {a : ME} {i : Nat} {ps : Ps} : mInU neg a i ps = (a ps).bind fun x ps1 => (Out.of (lookU ps1.sl[i]? x) ps1).bind fun o ps2 => .ok (.bool (xor neg o.isSome)) ps2 := rfl
def rbB : MS :=
  (mSeq (mOwnU 3 (mDg (mIter (mVar 2)) (mGn 4) mYes (mKv (mVar 4) (mC (.bool true))) [4]))
    (mRet (mB dSum (mCons (mFz (mComp (mEnum (mCons (mCall allM (mCons (mVar 0) (mCons (mVar 1) mNil))) mNil)) (mGp 5 4) (mTst (mInU false (mVar 4) 3)) (mBin dShl (mC (.int 1)) (mVar 5)) [5, 4])) mNil))))
def rbM : MF := mFun 3 6 rbB
theorem dSum_n (xs : List Nat) : dSum [LD xs] = some (iD xs.sum) := by
  show (intsOf (iDs xs)).map (fun ns => PyData.int ns.sum) = _
  rw [iD_map, intsOf_map, Option.map_some]
  congr 2
  induction xs with
  | nil => rfl
  | cons x xs ih => rw [List.map_cons, List.sum_cons, List.sum_cons, ih]; simp
theorem sum_bits {α : Type} (q : α → Bool) (xs : List α) : ∀ s : Nat, (((xs.zipIdx s).filter fun p => q p.1).map fun p => 2 ^ p.2).sum = 2 ^ s * bitsOf q xs := by
  induction xs with
  | nil => intro s; simp [bitsOf]
  | cons x xs ih =>
    intro s
    rw [List.zipIdx_cons, List.filter_cons, bitsOf]
    have e : 2 ^ (s + 1) * bitsOf q xs = 2 ^ s * (2 * bitsOf q xs) := by rw [Nat.pow_succ, Nat.mul_assoc]
    split
    · rename_i h
      have h : q x = true := h
      rw [List.map_cons, List.sum_cons, ih, Nat.mul_add, e]
      simp
    · rename_i h
      have h : ¬ q x = true := h
      rw [ih, Nat.zero_add, e]
section
variable {ts : List (List Nat)} (hT : TsOk ts) {P : List Nat} (hP : PrOk ts P) (k : Dk)
include hT hP
theorem rb_ok {R : List (List Nat)} (hR : ∀ r ∈ R, r ∈ RW ts P) (hl : R.length ≤ 100000) : rbM [TsD ts, ntD (iDs P), .tuple (R.map rD)] k = .ret (iD (bitsOf (fun r => decide (r ∈ R)) (RW ts P))) k := by
  have e3 := all_ok hT hP k
  have e5 := dEnum_map rD (RW ts P)
  have hlen := rw_len hT hP
  obtain ⟨sl', ps', e, L, h1, h2, h3, rfl⟩ := lp_inv rD (g := mGn 4) (mb := mKv (mVar 4) (mC (.bool true))) (vs := [4]) (xs := R) (sl := .md []) (ps := ⟨[.fz (TsD ts), .fz (ntD (iDs P)), .fz (.tuple (R.map rD)), .no, .no, .no], k⟩)
    (fun done sl ps => ∃ L, Kn P.length sl L ∧ (∀ r, r ∈ L ↔ r ∈ done) ∧ L.length ≤ done.length ∧ ps = ⟨[.fz (TsD ts), .fz (ntD (iDs P)), .fz (.tuple (R.map rD)), .no, .no, .no], k⟩) ⟨[], kn_nil hP.len, by simp, by simp, rfl⟩ (by
      rintro done r rest sl ps hx ⟨L, h1, h2, h3, rfl⟩
      have hr : r ∈ RW ts P := hR r (by rw [hx]; simp)
      have hd : done.length ≤ 100000 := by
        have := congrArg List.length hx
        rw [List.length_append] at this
        omega
      obtain ⟨sl2, e2, h4⟩ := kn_put h1 (rw_mem hr).1 (by omega)
      refine ⟨⟨[.fz (TsD ts), .fz (ntD (iDs P)), .fz (.tuple (R.map rD)), .no, .fz (rD r), .no], k⟩, sl2, ⟨[.fz (TsD ts), .fz (ntD (iDs P)), .fz (.tuple (R.map rD)), .no, .fz (rD r), .no], k⟩, rfl, ?_, insL L r, h4, ?_, ?_, rfl⟩
      · unfold mKv
        simp [e2]
      · intro x
        rw [mem_insL, h2, List.mem_append, List.mem_singleton]
      · have := insL_len (L := L) (x := r)
        rw [List.length_append, List.length_singleton]; omega)
  have e1 : mDg (mIter (mVar 2)) (mGn 4) mYes (mKv (mVar 4) (mC (.bool true))) [4] ⟨[.fz (TsD ts), .fz (ntD (iDs P)), .fz (.tuple (R.map rD)), .no, .no, .no], k⟩ = .ok sl' ⟨[.fz (TsD ts), .fz (ntD (iDs P)), .fz (.tuple (R.map rD)), .no, .no, .no], k⟩ := by
    unfold mDg
    have e7 : (mIter (mVar 2)) ⟨[.fz (TsD ts), .fz (ntD (iDs P)), .fz (.tuple (R.map rD)), .no, .no, .no], k⟩ = .ok (R.map rD) ⟨[.fz (TsD ts), .fz (ntD (iDs P)), .fz (.tuple (R.map rD)), .no, .no, .no], k⟩ := by simp
    rw [e7]
    simp only [Out.bind_ok]
    have e8 : wipeP ⟨[.fz (TsD ts), .fz (ntD (iDs P)), .fz (.tuple (R.map rD)), .no, .no, .no], k⟩ [4] = ⟨[.fz (TsD ts), .fz (ntD (iDs P)), .fz (.tuple (R.map rD)), .no, .no, .no], k⟩ := rfl
    rw [e8, e]
    rfl
  have hlook : ∀ r ∈ RW ts P, lookU (some sl') (rD r) = some (if r ∈ R then some (.bool true) else none) := fun r hr => by
    rw [kn_look h1 (rw_mem hr).1]
    simp only [h2]
  have c1 := comp_gen (fun p : List Nat × Nat => PyData.tuple [iD p.2, rD p.1]) (mi := (mEnum (mCons (mCall allM (mCons (mVar 0) (mCons (mVar 1) mNil))) mNil))) (g := (mGp 5 4)) (tt := (mTst (mInU false (mVar 4) 3))) (te := (mBin dShl (mC (.int 1)) (mVar 5))) (vs := [5, 4]) (ps := ⟨[.fz (TsD ts), .fz (ntD (iDs P)), .fz (.tuple (R.map rD)), sl', .no, .no], k⟩) (ps0 := ⟨[.fz (TsD ts), .fz (ntD (iDs P)), .fz (.tuple (R.map rD)), sl', .no, .no], k⟩)
    (fun p => decide (p.1 ∈ R)) (fun p => iD (2 ^ p.2)) (xs := (RW ts P).zipIdx) (by simp [e3, e5]; rfl) (by simp) (by rw [List.length_zipIdx]; omega) (fun p hp => by
      have hr0 : (RW ts P)[p.2]? = some p.1 := by
        have := List.mem_zipIdx_iff_getElem?.mp hp
        simpa using this
      have hr : p.1 ∈ RW ts P := List.mem_of_getElem? hr0
      have hm : p.2 ≤ 1000 := by
        have := (List.getElem?_eq_some_iff.mp hr0).1
        omega
      have u1 := dShl_iD hm
      have u2 := hlook p.1 hr
      generalize 2 ^ p.2 = w at *
      by_cases hc : p.1 ∈ R
      · rw [if_pos hc] at u2
        simp [e_inU, u1, u2, hc]
      · rw [if_neg hc] at u2
        simp [e_inU, u1, u2, hc])
  have e9 : ((RW ts P).zipIdx.filter fun p => decide (p.1 ∈ R)).map (fun p => iD (2 ^ p.2)) = iDs (((RW ts P).zipIdx.filter fun p => decide (p.1 ∈ R)).map fun p => 2 ^ p.2) := by
    unfold iDs; rw [List.map_map]; rfl
  have e10 : (((RW ts P).zipIdx.filter fun p => decide (p.1 ∈ R)).map fun p => 2 ^ p.2).sum = bitsOf (fun r => decide (r ∈ R)) (RW ts P) := by
    have := sum_bits (fun r => decide (r ∈ R)) (RW ts P) 0
    simpa using this
  rw [e9] at c1
  have e11 := dSum_n (((RW ts P).zipIdx.filter fun p => decide (p.1 ∈ R)).map fun p => 2 ^ p.2)
  rw [e10] at e11
  generalize ((RW ts P).zipIdx.filter fun p => decide (p.1 ∈ R)).map (fun p => 2 ^ p.2) = X at *
  generalize bitsOf (fun r => decide (r ∈ R)) (RW ts P) = B at *
  unfold rbM mFun rbB
  simp [sl0, List.replicate, e1, c1, e11]
end
end PP
namespace PP
open PySem MM L2
/-- the things, rising -/
def sP : List Nat → List Nat
  | [i, j] => if i ≤ j then [i, j] else [j, i]
  | P => P
theorem sP_mem {ts : List (List Nat)} {P : List Nat} (hP : PrOk ts P) (i : Nat) : i ∈ sP P ↔ i ∈ P := by
  rcases pr_cases hP with ⟨i', rfl, _⟩ | ⟨i', j', rfl, _⟩
  · rfl
  · show i ∈ (if i' ≤ j' then [i', j'] else [j', i']) ↔ _
    split
    · rfl
    · simp [or_comm]
theorem sP_sorted {ts : List (List Nat)} {P : List Nat} (hP : PrOk ts P) : dSortedN [ntD (iDs P)] = some (LD (sP P)) := by
  have key : ∀ {xs ys : List Nat}, ys.Perm xs → ys.Pairwise (· ≤ ·) → dSortedN [ntD (iDs xs)] = some (LD ys) := by
    intro xs ys hp hs
    show (intsOf (iDs xs)).map (fun ns => PyData.list ((sortI ns).map .int)) = _
    rw [iD_map, intsOf_map, Option.map_some]
    have e := sortI_eq (ns := xs.map fun n : Nat => (n : Int)) (ns' := ys.map fun n : Nat => (n : Int)) (hp.map _) (List.Pairwise.map (R := fun a b : Nat => a ≤ b) _ (fun a b h => by omega) hs)
    rw [← e, ← iD_map]; rfl
  rcases pr_cases hP with ⟨i', rfl, _⟩ | ⟨i', j', rfl, _⟩
  · exact key (List.Perm.refl _) (List.pairwise_singleton _ _)
  · refine key ?_ ?_
    · show (if i' ≤ j' then [i', j'] else [j', i']).Perm _
      split
      · exact List.Perm.refl _
      · exact List.Perm.swap _ _ _
    · show (if i' ≤ j' then [i', j'] else [j', i']).Pairwise _
      split
      · rename_i h
        exact List.Pairwise.cons (fun x hx => by rw [List.mem_singleton] at hx; omega) (List.pairwise_singleton _ _)
      · rename_i h
        exact List.Pairwise.cons (fun x hx => by rw [List.mem_singleton] at hx; omega) (List.pairwise_singleton _ _)
def hvN (ts : List (List Nat)) (i a : Nat) : List Hf := (nearL (tr ts i) (nn ts i) a).map fun b => (i, a, b)
def hvI (ts : List (List Nat)) (i : Nat) (ys : List Nat) : List Hf := ys.flatMap fun a => hvN ts i a
def hvF (ts : List (List Nat)) (xs : List Nat) : List Hf := xs.flatMap fun i => hvI ts i (List.range (nn ts i + 1))
theorem hvI_app (ts : List (List Nat)) (i : Nat) (a b : List Nat) : hvI ts i (a ++ b) = hvI ts i a ++ hvI ts i b := List.flatMap_append
theorem hvF_app (ts : List (List Nat)) (a b : List Nat) : hvF ts (a ++ b) = hvF ts a ++ hvF ts b := List.flatMap_append
theorem hvI_one (ts : List (List Nat)) (i a : Nat) : hvI ts i [a] = hvN ts i a := by simp [hvI]
theorem hvF_one (ts : List (List Nat)) (i : Nat) : hvF ts [i] = hvI ts i (List.range (nn ts i + 1)) := by simp [hvF]
def HV (ts : List (List Nat)) (P : List Nat) : List Hf := hvF ts (sP P)
theorem mem_HV {ts : List (List Nat)} {P : List Nat} (hP : PrOk ts P) (h : Hf) : h ∈ HV ts P ↔ HOk ts P h := by
  unfold HV hvF hvI hvN
  simp only [List.mem_flatMap, List.mem_map, List.mem_range]
  constructor
  · rintro ⟨i, hi, a, ha, b, hb, rfl⟩
    have hb := (mem_near (T := tr ts i) (n := nn ts i) (x := a) (y := b) (by omega)).mp hb
    exact ⟨(sP_mem hP i).mp hi, by show a ≤ nn ts i; omega, hb.1, hb.2⟩
  · intro H
    obtain ⟨i, a, b⟩ := h
    exact ⟨i, (sP_mem hP i).mpr H.i, a, by have := H.a; simp only at this; omega, b, (mem_near H.a).mpr ⟨H.b, H.adj⟩, rfl⟩
def hvB : MS :=
  (mSeq (mOwn 2 (mDisp mNil))
    (mSeq (mFor (mIter (mB dSortedN (mCons (mVar 1) mNil))) (mGn 3)
    (mFor (mIter (mCall placesM (mCons (mBin dIx (mVar 0) (mVar 3)) mNil))) (mGn 4)
    (mDrop (mExtend 2 (mFz (mComp (mIter (mCall joinedM (mCons (mBin dIx (mVar 0) (mVar 3)) (mCons (mVar 4) mNil)))) (mGn 5) mYes (mTup (mCons (mVar 3) (mCons (mVar 4) (mCons (mVar 5) mNil)))) [5]))))))
    (mRet (mVar 2))))
def hvM : MF := mFun 2 6 hvB
@[simp] theorem e_extend {i : Nat} {a : ME} {ps : Ps} : mExtend i a ps = (match ps.sl[i]? with
  | some (.ml _) => (a ps).bind fun d ps1 => match ps1.sl[i]?, d with
    | some (.ml ds), .list es => if ds.length + es.length ≤ sizeLine then .ok .none ⟨ps1.sl.set i (.ml (ds ++ es)), ps1.dk⟩ else .bad
    | _, _ => .bad
  | _ => .bad) := rfl
theorem near_len {T : Tr} {n x : Nat} (hx : x ≤ n) : (nearL T n x).length ≤ n + 1 := len_le (near_nodup T n x) fun y hy => ((mem_near hx).mp hy).1
section
variable {ts : List (List Nat)} (hT : TsOk ts) {P : List Nat} (hP : PrOk ts P) (k : Dk)
include hT
theorem jnds_ok {i : Nat} (hi : i < ts.length) {a : Nat} (ha : a ≤ nn ts i) : joinedM [TD (tg ts i), iD a] k = .ret (LD (nearL (tr ts i) (nn ts i) a)) k := by
  have q := hT.ok _ (ts_mem hi)
  have e : tr ts i = trOf (tg ts i) q.1 := trG_eq q.1
  rw [e]
  exact jnd_ok q.1 q.2 k ha
theorem hvA_ok {i a : Nat} (hi : i < ts.length) (ha : a ≤ nn ts i) (pD : D) (acc : List Hf) (hl : acc.length ≤ 100000) :
    (mDrop (mExtend 2 (mFz (mComp (mIter (mCall joinedM (mCons (mBin dIx (mVar 0) (mVar 3)) (mCons (mVar 4) mNil)))) (mGn 5) mYes (mTup (mCons (mVar 3) (mCons (mVar 4) (mCons (mVar 5) mNil)))) [5])))) ⟨[.fz (TsD ts), .fz pD, .ml (acc.map hD), .fz (iD i), .fz (iD a), .no], k⟩ =
      .next ⟨[.fz (TsD ts), .fz pD, .ml ((acc ++ hvN ts i a).map hD), .fz (iD i), .fz (iD a), .no], k⟩ := by
  have e1 := jnds_ok hT k hi ha
  have e2 := ts_at hi
  have hn := near_len (T := tr ts i) ha
  have hv8 : (hvN ts i a).length = (nearL (tr ts i) (nn ts i) a).length := List.length_map _
  have h8 := nn_lt hT hi
  have z3 : 3 ≤ sizeLine := sz_le (by omega)
  have c1 := comp_nat (mi := (mIter (mCall joinedM (mCons (mBin dIx (mVar 0) (mVar 3)) (mCons (mVar 4) mNil))))) (g := (mGn 5)) (tt := mYes) (te := (mTup (mCons (mVar 3) (mCons (mVar 4) (mCons (mVar 5) mNil))))) (vs := [5]) (ps := ⟨[.fz (TsD ts), .fz pD, .ml (acc.map hD), .fz (iD i), .fz (iD a), .no], k⟩) (ps0 := ⟨[.fz (TsD ts), .fz pD, .ml (acc.map hD), .fz (iD i), .fz (iD a), .no], k⟩)
    (fun _ => true) (fun b => hD (i, a, b)) (xs := nearL (tr ts i) (nn ts i) a) (by simp [e1, e2]) (by simp) (by omega) (fun x hx => by
      have : PyData.tuple [iD i, iD a, iD x] = hD (i, a, x) := rfl
      simp [z3, this])
  rw [List.filter_eq_self.mpr (by simp)] at c1
  have e3 : (nearL (tr ts i) (nn ts i) a).map (fun b => hD (i, a, b)) = (hvN ts i a).map hD := by unfold hvN; rw [List.map_map]; rfl
  rw [e3] at c1
  have hz : (acc.map hD).length + ((hvN ts i a).map hD).length ≤ sizeLine := sz_le (by simp only [List.length_map]; omega)
  generalize (hvN ts i a) = X at *
  rw [List.map_append]
  simp only [e_drop, e_extend, e_fz, List.getElem?_cons_succ, List.getElem?_cons_zero, c1, Out.bind_ok, Out.bindS_ok, if_pos hz, List.set_cons_succ, List.set_cons_zero]
theorem hvN_len {i a : Nat} (ha : a ≤ nn ts i) (hi : i < ts.length) : (hvN ts i a).length ≤ 8 := by
  have hn : (hvN ts i a).length = (nearL (tr ts i) (nn ts i) a).length := List.length_map _
  have := near_len (T := tr ts i) ha
  have := nn_lt hT hi
  omega
theorem hvI_len {i : Nat} (hi : i < ts.length) : ∀ ys : List Nat, (∀ a ∈ ys, a ≤ nn ts i) → (hvI ts i ys).length ≤ ys.length * 8
  | [], _ => Nat.zero_le _
  | a :: ys, h => by
    have h1 := hvN_len hT (h a (by simp)) hi
    have h2 := hvI_len hi ys fun j hj => h j (by simp [hj])
    show (hvN ts i a ++ hvI ts i ys).length ≤ _
    rw [List.length_append, List.length_cons, Nat.succ_mul]
    omega
theorem hvF_len : ∀ xs : List Nat, (∀ i ∈ xs, i < ts.length) → (hvF ts xs).length ≤ xs.length * 64
  | [], _ => Nat.zero_le _
  | i :: xs, h => by
    have h1 := hvF_len xs fun j hj => h j (by simp [hj])
    have h8 := nn_lt hT (h i (by simp))
    have h2 := hvI_len hT (h i (by simp)) (List.range (nn ts i + 1)) (fun a ha => by rw [List.mem_range] at ha; omega)
    show (hvI ts i (List.range (nn ts i + 1)) ++ hvF ts xs).length ≤ _
    rw [List.length_range] at h2
    rw [List.length_append, List.length_cons, Nat.succ_mul]
    omega
include hP
theorem HV_len : (HV ts P).length ≤ 1000 := by
  have hl : (sP P).length ≤ 2 := by
    rcases pr_cases hP with ⟨i', rfl, _⟩ | ⟨i', j', rfl, _⟩
    · show 1 ≤ 2; omega
    · show (if i' ≤ j' then [i', j'] else [j', i']).length ≤ 2
      split <;> simp
  have := hvF_len hT (sP P) (fun i hi => hP.lt _ ((sP_mem hP i).mp hi))
  unfold HV
  omega
theorem hv_ok : hvM [TsD ts, ntD (iDs P)] k = .ret (.list ((HV ts P).map hD)) k := by
  have e1 := sP_sorted hP
  have hle : ∀ {A B : List Hf}, HV ts P = A ++ B → A.length ≤ 1000 := fun {A B} e => by
    have := HV_len hT hP
    rw [e, List.length_append] at this
    omega
  have hle : ∀ (done : List Nat), (∃ rest, sP P = done ++ rest) → (hvF ts done).length ≤ 1000 := fun done ⟨rest, e⟩ => by
    refine hle (B := hvF ts rest) ?_
    unfold HV
    rw [e, hvF_app]
  obtain ⟨ps', e, s3, s4, rfl⟩ := loop_nat (g := mGn 3) (body := (mFor (mIter (mCall placesM (mCons (mBin dIx (mVar 0) (mVar 3)) mNil))) (mGn 4)
    (mDrop (mExtend 2 (mFz (mComp (mIter (mCall joinedM (mCons (mBin dIx (mVar 0) (mVar 3)) (mCons (mVar 4) mNil)))) (mGn 5) mYes (mTup (mCons (mVar 3) (mCons (mVar 4) (mCons (mVar 5) mNil)))) [5])))))) (xs := sP P) (ps := ⟨[.fz (TsD ts), .fz (ntD (iDs P)), .ml [], .no, .no, .no], k⟩)
    (fun done ps => ∃ s3 s4, ps = ⟨[.fz (TsD ts), .fz (ntD (iDs P)), .ml ((hvF ts done).map hD), s3, s4, .no], k⟩) ⟨_, _, rfl⟩ (by
      rintro done i rest ps hx ⟨s3, s4, rfl⟩
      have hi : i < ts.length := hP.lt _ ((sP_mem hP i).mp (by rw [hx]; simp))
      have e2 := ts_at hi
      have e3 := plcs_ok hT hi k
      have hl1 := hle done ⟨_, hx⟩
      generalize hA : (hvF ts done) = A at *
      have n8 := nn_lt hT hi
      obtain ⟨ps', e, s4', rfl⟩ := loop_nat (g := mGn 4) (body := (mDrop (mExtend 2 (mFz (mComp (mIter (mCall joinedM (mCons (mBin dIx (mVar 0) (mVar 3)) (mCons (mVar 4) mNil)))) (mGn 5) mYes (mTup (mCons (mVar 3) (mCons (mVar 4) (mCons (mVar 5) mNil)))) [5]))))) (xs := List.range (nn ts i + 1)) (ps := ⟨[.fz (TsD ts), .fz (ntD (iDs P)), .ml (A.map hD), .fz (iD i), s4, .no], k⟩)
        (fun dn ps => ∃ s4, ps = ⟨[.fz (TsD ts), .fz (ntD (iDs P)), .ml ((A ++ hvI ts i dn).map hD), .fz (iD i), s4, .no], k⟩) ⟨s4, by simp [hvI]⟩ (by
          rintro dn a rest ps hx2 ⟨s4, rfl⟩
          obtain ⟨q1, q2, q3⟩ := range_at hx2
          have hdl : (hvI ts i dn).length ≤ 1000 := by
            have := hvI_len hT hi dn (fun x hx => by rw [q3, List.mem_range] at hx; omega)
            omega
          have e4 := hvA_ok hT k hi (a := a) (by omega) (ntD (iDs P)) (A ++ hvI ts i dn) (by rw [List.length_append]; omega)
          refine ⟨_, _, rfl, .inl e4, .fz (iD a), ?_⟩
          rw [hvI_app, hvI_one, List.append_assoc])
      refine ⟨⟨[.fz (TsD ts), .fz (ntD (iDs P)), .ml (A.map hD), .fz (iD i), s4, .no], k⟩, ⟨[.fz (TsD ts), .fz (ntD (iDs P)), .ml ((A ++ hvI ts i (List.range (nn ts i + 1))).map hD), .fz (iD i), s4', .no], k⟩, rfl, .inl ?_, .fz (iD i), s4', ?_⟩
      · simp [e2, e3, e]
      · rw [hvF_app, hvF_one, hA])
  have z0 : 0 ≤ sizeLine := sz_le (by omega)
  have e6 : (hvF ts (sP P)) = HV ts P := rfl
  rw [e6] at e
  unfold hvM mFun hvB
  simp [sl0, List.replicate, e1, e, z0]
end
end PP
namespace PP
open PySem MM L2
/-! ### clauses that bar none of some rows -/
theorem cut_but1 {α : Type} (xs : List α) (z : α) : cut (xs ++ [z]) none (some (-1)) = xs := by
  unfold cut
  have e1 : HT.sIx (xs ++ [z]).length (xs ++ [z]).length (some (-1)) = xs.length := by
    rw [List.length_append, List.length_singleton]
    unfold HT.sIx
    simp
    omega
  have e0 : HT.sIx (xs ++ [z]).length 0 none = 0 := rfl
  rw [e1, e0]
  simp
theorem sln_tb (P : List Nat) (rows : List (List Nat)) : dSlN (tbD P rows) none (some (-1)) = some (ntD (iDs P)) := by
  unfold tbD dSlN
  have e1 : HT.sIx (iDs P ++ [PyData.tuple (rows.map rD)]).length (iDs P ++ [PyData.tuple (rows.map rD)]).length (some (-1)) = (iDs P).length := by
    rw [List.length_append, List.length_singleton]
    unfold HT.sIx
    simp
    omega
  simp only [unN_tup]
  rw [if_neg (by rw [e1, List.length_append, List.length_singleton]; omega), cut_but1]
theorem ix_last (xs : List D) (z : D) : dIx (.tuple (xs ++ [z])) (.int (-1)) = some z := by
  show atI (xs ++ [z]) (-1) = _
  unfold atI
  have e : ixN (xs ++ [z]).length (-1) = some xs.length := by
    rw [List.length_append, List.length_singleton]
    unfold ixN
    simp
    omega
  rw [e]
  simp
def brA : MS := (mSeq (mSet 11 (mBin dAnd (mBin dIx (mVar 6) (mVar 8)) (mBin dIx (mVar 6) (mVar 10))))
    (mIfS (mAnd (mTst (mBin dGt (mVar 11) (mC (.int 0)))) (mAnd (mTst (mBin dEq (mBin dAnd (mVar 11) (mVar 4)) (mC (.int 0)))) (mTst (mBR bNotIn (mVar 11) 7))))
    (mPut 7 (mVar 11) (mTup (mCons (mVar 9) (mCons (mBin dIx (mVar 5) (mVar 10)) mNil)))) mNext))
def brO : MS := (mFor (mRange2 (mCons (mVar 8) (mCons (mB dLen (mCons (mVar 5) mNil)) mNil))) (mGn 10) brA)
def brB : MS :=
  (mSeq (mAsg (mGp 2 3) (mTup (mCons (mSlN (mVar 1) mNoPart (mPart (mUn dNeg (mC (.int 1))))) (mCons (mBin dIx (mVar 1) (mUn dNeg (mC (.int 1)))) mNil))))
    (mSeq (mPar 4 5 (mCons (mCall rbM (mCons (mVar 0) (mCons (mVar 2) (mCons (mVar 3) mNil)))) (mCons (mCall hvM (mCons (mVar 0) (mCons (mVar 2) mNil))) mNil)))
    (mSeq (mOwn 6 (mComp (mIter (mVar 5)) (mGn 9) mYes (mCall hbM (mCons (mVar 0) (mCons (mVar 2) (mCons (mVar 9) mNil)))) [9]))
    (mSeq (mOwnD 7 mNewD)
    (mSeq (mFor (mEnum (mCons (mVar 5) mNil)) (mGp 8 9) brO)
    (mRet (mVar 7)))))))
def brM : MF := mFun 2 12 brB
def gF (F : List (Nat × Cl2)) : List (Nat × D) := F.map fun p => (p.1, clD p.2)
theorem gF_keys (F : List (Nat × Cl2)) : (gF F).map (·.1) = F.map (·.1) := by unfold gF; rw [List.map_map]; rfl
theorem dGt_iD0' (x : Nat) : dGt (iD x) (.int 0) = some (.bool (decide (0 < x))) := dGt_iD0 ..
/-- what is known of the clauses found -/
structure BF (ts : List (List Nat)) (P : List Nat) (st : Nat) (F : List (Nat × Cl2)) : Prop where
  ok : ∀ p ∈ F, p.2.1 ∈ HV ts P ∧ p.2.2 ∈ HV ts P ∧ p.1 = hb ts P p.2.1 &&& hb ts P p.2.2 ∧ p.1 &&& st = 0
def BH (ts : List (List Nat)) (P : List Nat) (st : Nat) (F : List (Nat × Cl2)) (h1 h2 : Hf) : Prop :=
  0 < hb ts P h1 &&& hb ts P h2 → (hb ts P h1 &&& hb ts P h2) &&& st = 0 → (hb ts P h1 &&& hb ts P h2) ∈ F.map (·.1)
section
variable {ts : List (List Nat)} (P : List Nat) (st : Nat) (k : Dk) (tb nt rw : D)
def bS (ts : List (List Nat)) (P : List Nat) (tb nt rw : D) (st : Nat) (s6 : Sl) (F : List (Nat × Cl2)) (s8 s9 s10 s11 : Sl) (k : Dk) : Ps :=
  ⟨[.fz (TsD ts), .fz tb, .fz nt, .fz rw, .fz (iD st), .fz (.list ((HV ts P).map hD)), s6, .md (kvD (gF F)), s8, s9, s10, s11], k⟩
theorem brA_ok {s6 : Sl} (h6 : s6 = .ml ((HV ts P).map fun h => iD (hb ts P h)) ∨ s6 = .fz (.list ((HV ts P).map fun h => iD (hb ts P h)))) {F : List (Nat × Cl2)} (hF : BF ts P st F) {a b : Nat} {h1 h2 : Hf} (e1 : (HV ts P)[a]? = some h1) (e2 : (HV ts P)[b]? = some h2) (hl : F.length ≤ 1000000) (s11 : Sl) :
    ∃ F' s11', brA (bS ts P tb nt rw st s6 F (.fz (iD a)) (.fz (hD h1)) (.fz (iD b)) s11 k) = .next (bS ts P tb nt rw st (.fz (.list ((HV ts P).map fun h => iD (hb ts P h)))) F' (.fz (iD a)) (.fz (hD h1)) (.fz (iD b)) s11' k) ∧
      BF ts P st F' ∧ (∀ x ∈ F.map (·.1), x ∈ F'.map (·.1)) ∧ F'.length ≤ F.length + 1 ∧ BH ts P st F' h1 h2 := by
  have u1 : dIx (.list ((HV ts P).map fun h => iD (hb ts P h))) (iD a) = some (iD (hb ts P h1)) := dIx_list (by rw [List.getElem?_map, e1]; rfl)
  have u2 : dIx (.list ((HV ts P).map fun h => iD (hb ts P h))) (iD b) = some (iD (hb ts P h2)) := dIx_list (by rw [List.getElem?_map, e2]; rfl)
  have u3 : dIx (.list ((HV ts P).map hD)) (iD b) = some (hD h2) := dIx_list (by rw [List.getElem?_map, e2]; rfl)
  have u4 := dAnd_iD (hb ts P h1) (hb ts P h2)
  have m1 := List.mem_of_getElem? e1
  have m2 := List.mem_of_getElem? e2
  have z2 : 2 ≤ sizeLine := sz_le (by omega)
  have zF : (gF F).length < sizeLine := by unfold gF; rw [List.length_map]; show _ < 16777216; omega
  have c1 : PyData.tuple [hD h1, hD h2] = clD (h1, h2) := rfl
  have hB := hF
  unfold BH
  generalize hw : hb ts P h1 &&& hb ts P h2 = w at *
  have u5 := dAnd_iD w st
  have u6 : dEq (iD (w &&& st)) (.int 0) = some (.bool (decide (w &&& st = 0))) := dEq_iD _ 0
  have u7 := dGt_iD0' w
  have u8 : bNotIn (iD w) (DD (gF F)) = some (!decide (w ∈ F.map (·.1))) := by rw [bNotIn_DD, gF_keys]
  have u9 : toKey (iD w) = some (.inl (w : Int)) := rfl
  by_cases hc : 0 < w ∧ w &&& st = 0 ∧ w ∉ F.map (·.1)
  · obtain ⟨c2, c3, c4⟩ := hc
    have hp := kvD_put (m := gF F) (x := w) (v := clD (h1, h2)) (by rw [gF_keys]; exact c4)
    have hg : gF F ++ [(w, clD (h1, h2))] = gF (F ++ [(w, (h1, h2))]) := by unfold gF; rw [List.map_append]; rfl
    rw [hg] at hp
    refine ⟨F ++ [(w, (h1, h2))], .fz (iD w), ?_, ⟨fun p hp => ?_⟩, fun x hx => ?_, by simp, fun _ _ => by simp⟩
    · unfold brA bS
      have d2 : decide (0 < w) = true := decide_eq_true c2
      have d3 : decide (w &&& st = 0) = true := decide_eq_true c3
      have d4 : decide (w ∈ F.map (·.1)) = false := decide_eq_false c4
      rw [d2] at u7; rw [d3] at u6; rw [d4] at u8
      generalize w &&& st = v at *
      rcases h6 with rfl | rfl
      · simp [u1, u2, u3, u4, u5, u6, u7, u8, u9, z2, c1, zF, hp]
      · simp [u1, u2, u3, u4, u5, u6, u7, u8, u9, z2, c1, zF, hp]
    · rcases List.mem_append.mp hp with hp | hp
      · exact hB.ok p hp
      · rw [List.mem_singleton] at hp
        subst hp
        exact ⟨m1, m2, hw.symm, c3⟩
    · rw [List.map_append]; exact List.mem_append.mpr (.inl hx)
  · refine ⟨F, .fz (iD w), ?_, hF, fun x hx => hx, by omega, fun c2 c3 => ?_⟩
    · unfold brA bS
      have hcc : (decide (0 < w) && (decide (w &&& st = 0) && !decide (w ∈ F.map (·.1)))) = false := by
        rw [Bool.eq_false_iff]
        intro h
        simp only [Bool.and_eq_true, decide_eq_true_eq, Bool.not_eq_true', decide_eq_false_iff_not] at h
        exact hc h
      generalize decide (0 < w) = b1 at *
      generalize decide (w &&& st = 0) = b2 at *
      generalize decide (w ∈ F.map (·.1)) = b3 at *
      generalize w &&& st = v at *
      rcases h6 with rfl | rfl <;> cases b1 <;> cases b2 <;> cases b3 <;> first | (exact absurd hcc (by decide)) | simp [u1, u2, u3, u4, u5, u6, u7, u8, u9]
    · exact Classical.byContradiction fun z => hc ⟨c2, c3, z⟩
def S6 (ts : List (List Nat)) (P : List Nat) (s6 : Sl) : Prop := s6 = .ml ((HV ts P).map fun h => iD (hb ts P h)) ∨ s6 = .fz (.list ((HV ts P).map fun h => iD (hb ts P h)))
def BD (ts : List (List Nat)) (P : List Nat) (st : Nat) (F : List (Nat × Cl2)) (a b : Nat) : Prop := ∀ h1 h2, (HV ts P)[a]? = some h1 → (HV ts P)[b]? = some h2 → BH ts P st F h1 h2
theorem BD_up {F F' : List (Nat × Cl2)} (h : ∀ x ∈ F.map (·.1), x ∈ F'.map (·.1)) {a b : Nat} (H : BD ts P st F a b) : BD ts P st F' a b := fun h1 h2 e1 e2 c2 c3 => h _ (H h1 h2 e1 e2 c2 c3)
theorem brO_ok (hH : (HV ts P).length ≤ 128) {s6 : Sl} (h6 : S6 ts P s6) {F : List (Nat × Cl2)} (hF : BF ts P st F) {a : Nat} {h1 : Hf} (e1 : (HV ts P)[a]? = some h1) (hl : F.length ≤ 100000) (s10 s11 : Sl) :
    ∃ s6' F' s10' s11', brO (bS ts P tb nt rw st s6 F (.fz (iD a)) (.fz (hD h1)) s10 s11 k) = .next (bS ts P tb nt rw st s6' F' (.fz (iD a)) (.fz (hD h1)) s10' s11' k) ∧ S6 ts P s6' ∧
      BF ts P st F' ∧ (∀ x ∈ F.map (·.1), x ∈ F'.map (·.1)) ∧ F'.length ≤ F.length + 128 ∧ ∀ b, a ≤ b → BD ts P st F' a b := by
  have hal : a < (HV ts P).length := (List.getElem?_eq_some_iff.mp e1).1
  obtain ⟨ps', e, s6', F', s10', s11', rfl, h6', hF', hup, hlen, hbd⟩ := loop_map (fun j => iD (a + j)) (g := mGn 10) (body := brA) (xs := List.range ((HV ts P).length - a)) (ps := bS ts P tb nt rw st s6 F (.fz (iD a)) (.fz (hD h1)) s10 s11 k)
    (fun done ps => ∃ s6' F' s10' s11', ps = bS ts P tb nt rw st s6' F' (.fz (iD a)) (.fz (hD h1)) s10' s11' k ∧ S6 ts P s6' ∧ BF ts P st F' ∧ (∀ x ∈ F.map (·.1), x ∈ F'.map (·.1)) ∧ F'.length ≤ F.length + done.length ∧ ∀ b, a ≤ b → b < a + done.length → BD ts P st F' a b)
    ⟨s6, F, s10, s11, rfl, h6, hF, fun x h => h, by simp, fun b h1 h2 => by simp at h2; omega⟩ (by
      rintro done j rest ps hx ⟨s6', F', s10', s11', rfl, h6', hF', hup, hlen, hbd⟩
      obtain ⟨q1, q2, q3⟩ := range_at hx
      have hd : done.length ≤ 128 := by omega
      have hb1 : a + j < (HV ts P).length := by omega
      have e2 : (HV ts P)[a + j]? = some (HV ts P)[a + j] := List.getElem?_eq_getElem hb1
      obtain ⟨F2, s11'', e3, hF2, hup2, hlen2, hbh⟩ := brA_ok P st k tb nt rw h6' hF' e1 e2 (by omega) s11'
      refine ⟨bS ts P tb nt rw st s6' F' (.fz (iD a)) (.fz (hD h1)) (.fz (iD (a + j))) s11' k, _, rfl, .inl e3, _, F2, _, _, rfl, .inr rfl, hF2, fun x h => hup2 x (hup x h), ?_, fun b c1 c2 => ?_⟩
      · rw [List.length_append, List.length_singleton]; omega
      · rw [List.length_append, List.length_singleton] at c2
        by_cases hc : b = a + j
        · subst hc
          intro g1 g2 f1 f2
          rw [e1] at f1; rw [e2] at f2
          cases f1; cases f2
          exact hbh
        · exact BD_up P st hup2 (hbd b c1 (by omega)))
  have er : dRange2 [iD a, iD (HV ts P).length] = some ((List.range ((HV ts P).length - a)).map fun j => iD (a + j)) := by
    show (if (decide ((a : Int).natAbs < 4611686018427387904) && decide (((HV ts P).length : Int).natAbs < 4611686018427387904)) = true then some (rangeD (a : Int) (((HV ts P).length : Int) - (a : Int)).toNat) else none) = _
    rw [if_pos (by rw [Bool.and_eq_true]; exact ⟨decide_eq_true (by omega), decide_eq_true (by omega)⟩)]
    have : (((HV ts P).length : Int) - (a : Int)).toNat = (HV ts P).length - a := by omega
    rw [this]
    rfl
  have el : dLen [.list ((HV ts P).map hD)] = some (iD (HV ts P).length) := by
    show some (PyData.int (((HV ts P).map hD).length : Nat)) = _
    rw [List.length_map]; rfl
  refine ⟨s6', F', s10', s11', ?_, h6', hF', hup, ?_, fun b hb => ?_⟩
  · unfold brO
    have e0 : ∀ ps : Ps, ps = bS ts P tb nt rw st s6 F (.fz (iD a)) (.fz (hD h1)) s10 s11 k → mFor (mRange2 (mCons (mVar 8) (mCons (mB dLen (mCons (mVar 5) mNil)) mNil))) (mGn 10) brA ps = mLoop (mGn 10) brA ((List.range ((HV ts P).length - a)).map fun j => iD (a + j)) ps := by
      rintro ps rfl
      unfold bS
      simp only [e_for, e_range2, e_cons, e_nil, e_var, e_b, List.getElem?_cons_succ, List.getElem?_cons_zero, Out.bind_ok, Out.bindS_ok, Out.of_some, er, el]
    rw [e0 _ rfl, e]
  · rw [List.length_range] at hlen; omega
  · by_cases hc : b < (HV ts P).length
    · exact hbd b hb (by rw [List.length_range]; omega)
    · intro g1 g2 f1 f2
      rw [List.getElem?_eq_none (by omega)] at f2
      cases f2
end
end PP
namespace PP
open PySem MM L2
section
variable {ts : List (List Nat)} (hT : TsOk ts) {P : List Nat} (hP : PrOk ts P) (k : Dk)
include hT hP
theorem HV_le : (HV ts P).length ≤ 128 := by
  have hl : (sP P).length ≤ 2 := by
    rcases pr_cases hP with ⟨i', rfl, _⟩ | ⟨i', j', rfl, _⟩
    · show 1 ≤ 2; omega
    · show (if i' ≤ j' then [i', j'] else [j', i']).length ≤ 2
      split <;> simp
  have := hvF_len hT (sP P) (fun i hi => hP.lt _ ((sP_mem hP i).mp hi))
  unfold HV
  omega
theorem br_run {R : List (List Nat)} (hR : ∀ r ∈ R, r ∈ RW ts P) (hl : R.length ≤ 100000) :
    ∃ F, brM [TsD ts, tbD P R] k = .ret (DD (gF F)) k ∧ BF ts P (bitsOf (fun r => decide (r ∈ R)) (RW ts P)) F ∧ F.length ≤ 20000 ∧
      ∀ a b, a ≤ b → BD ts P (bitsOf (fun r => decide (r ∈ R)) (RW ts P)) F a b := by
  have e1 := rb_ok hT hP k hR hl
  have e2 := hv_ok hT hP k
  have hH := HV_le hT hP
  have e4 := sln_tb P R
  have e5 : dIx (tbD P R) (.int (-1)) = some (.tuple (R.map rD)) := ix_last _ _
  generalize bitsOf (fun r => decide (r ∈ R)) (RW ts P) = st at *
  have c1 := comp_gen hD (mi := mIter (mVar 5)) (g := mGn 9) (tt := mYes) (te := mCall hbM (mCons (mVar 0) (mCons (mVar 2) (mCons (mVar 9) mNil)))) (vs := [9])
    (ps := ⟨[.fz (TsD ts), .fz (tbD P R), .fz (ntD (iDs P)), .fz (.tuple (R.map rD)), .fz (iD st), .fz (.list ((HV ts P).map hD)), .no, .no, .no, .no, .no, .no], k⟩)
    (ps0 := ⟨[.fz (TsD ts), .fz (tbD P R), .fz (ntD (iDs P)), .fz (.tuple (R.map rD)), .fz (iD st), .fz (.list ((HV ts P).map hD)), .no, .no, .no, .no, .no, .no], k⟩)
    (fun _ => true) (fun h => iD (hb ts P h)) (xs := HV ts P) (by simp) (by simp) (by omega) (fun h hm => by
      have e := hb_ok hT hP k ((mem_HV hP h).mp hm)
      simp [e])
  rw [List.filter_eq_self.mpr (by simp)] at c1
  obtain ⟨ps', e, s6, F, s8, s9, s10, s11, rfl, h6, hF, hlen, hbd⟩ := loop_enum hD (i := 8) (j := 9) (body := brO) (xs := HV ts P) (ps := bS ts P (tbD P R) (ntD (iDs P)) (.tuple (R.map rD)) st (.ml ((HV ts P).map fun h => iD (hb ts P h))) [] .no .no .no .no k)
    (fun done ps => ∃ s6 F s8 s9 s10 s11, ps = bS ts P (tbD P R) (ntD (iDs P)) (.tuple (R.map rD)) st s6 F s8 s9 s10 s11 k ∧ S6 ts P s6 ∧ BF ts P st F ∧ F.length ≤ done.length * 128 ∧ ∀ a b, a < done.length → a ≤ b → BD ts P st F a b)
    ⟨_, [], .no, .no, .no, .no, rfl, .inl rfl, ⟨fun p h => by cases h⟩, by simp, fun a b h => by simp at h⟩ (by
      rintro done h rest sl kk hx ⟨s6, F, s8, s9, s10, s11, hp, h6, hF, hlen, hbd⟩
      unfold bS at hp
      cases hp
      have hd : done.length < (HV ts P).length := by rw [hx, List.length_append, List.length_cons]; omega
      have e1 : (HV ts P)[done.length]? = some h := by rw [hx]; simp
      obtain ⟨s6', F', s10', s11', e, h6', hF', hup, hlen', hbd'⟩ := brO_ok P st k (tbD P R) (ntD (iDs P)) (.tuple (R.map rD)) hH h6 hF e1 (by omega) s10 s11
      refine ⟨_, .inl e, s6', F', _, _, s10', s11', rfl, h6', hF', ?_, fun a b c1 c2 => ?_⟩
      · rw [List.length_append, List.length_singleton]; omega
      · rw [List.length_append, List.length_singleton] at c1
        by_cases hc : a = done.length
        · subst hc; exact hbd' b c2
        · exact BD_up P st hup (hbd a b (by omega) c2))
  refine ⟨F, ?_, hF, by omega, fun a b hab => ?_⟩
  · have e6 := dEnum_map hD (HV ts P)
    unfold brM mFun brB
    unfold bS at e
    have e0 : kvD (gF []) = [] := rfl
    rw [e0] at e
    have z2 : 2 ≤ sizeLine := sz_le (by omega)
    simp [sl0, List.replicate, e1, e2, e4, e5, c1, e6, e, z2]
  · by_cases hc : a < (HV ts P).length
    · exact hbd a b hc hab
    · intro g1 g2 f1
      rw [List.getElem?_eq_none (by omega)] at f1
      cases f1
theorem hb_and (h1 h2 : Hf) (R : List (List Nat)) : (hb ts P h1 &&& hb ts P h2) &&& bitsOf (fun r => decide (r ∈ R)) (RW ts P) = 0 ↔ ∀ r ∈ RW ts P, r ∈ R → barC ts P (h1, h2) r = false := by
  constructor
  · intro e r hr hm
    obtain ⟨m, hm1⟩ := List.getElem?_of_mem hr
    have e2 := congrArg (fun x => Nat.testBit x m) e
    simp only [Nat.testBit_and, Nat.zero_testBit] at e2
    rw [hb_test hT hP h1 hm1, hb_test hT hP h2 hm1, bits_test, hm1] at e2
    simp only [decide_eq_true hm, Bool.and_true] at e2
    exact e2
  · intro H
    refine Nat.eq_of_testBit_eq fun m => ?_
    rw [Nat.testBit_and, Nat.testBit_and, Nat.zero_testBit]
    cases hm : (RW ts P)[m]? with
    | none =>
      have : (bitsOf (fun r => decide (r ∈ R)) (RW ts P)).testBit m = false := by rw [bits_test, hm]
      rw [this, Bool.and_false]
    | some r =>
      rw [hb_test hT hP h1 hm, hb_test hT hP h2 hm, bits_test, hm]
      by_cases hr : r ∈ R
      · have := H r (List.mem_of_getElem? hm) hr
        unfold barC at this
        rw [this, Bool.false_and]
      · dsimp only
        rw [decide_eq_false hr, Bool.and_false]
theorem hb_pos {h1 h2 : Hf} {r : List Nat} (hr : r ∈ RW ts P) (h : barC ts P (h1, h2) r = true) : 0 < hb ts P h1 &&& hb ts P h2 := by
  obtain ⟨m, hm⟩ := List.getElem?_of_mem hr
  refine Nat.pos_of_ne_zero fun e => ?_
  have e2 := congrArg (fun x => Nat.testBit x m) e
  simp only [Nat.testBit_and, Nat.zero_testBit] at e2
  rw [hb_test hT hP h1 hm, hb_test hT hP h2 hm] at e2
  unfold barC at h
  rw [h] at e2
  cases e2
theorem hb_same {h1 h2 g1 g2 : Hf} (e : hb ts P h1 &&& hb ts P h2 = hb ts P g1 &&& hb ts P g2) {r : List Nat} (hr : r ∈ RW ts P) : barC ts P (h1, h2) r = barC ts P (g1, g2) r := by
  obtain ⟨m, hm⟩ := List.getElem?_of_mem hr
  have e2 := congrArg (fun x => Nat.testBit x m) e
  simp only [Nat.testBit_and] at e2
  rw [hb_test hT hP h1 hm, hb_test hT hP h2 hm, hb_test hT hP g1 hm, hb_test hT hP g2 hm] at e2
  exact e2
/-- the clauses that bar none of some rows, as told -/
theorem br_ok {R : List (List Nat)} (hR : ∀ r ∈ R, r ∈ RW ts P) (hl : R.length ≤ 100000) :
    ∃ F : List (Nat × Cl2), brM [TsD ts, tbD P R] k = .ret (DD (gF F)) k ∧ F.length ≤ 20000 ∧ (∀ p ∈ F, HOk ts P p.2.1 ∧ HOk ts P p.2.2) ∧
      ∀ r ∈ RW ts P, (barA ts P (F.map (·.2)) r = true ↔ ∃ h1 h2, HOk ts P h1 ∧ HOk ts P h2 ∧ barC ts P (h1, h2) r = true ∧ ∀ r' ∈ R, barC ts P (h1, h2) r' = false) := by
  obtain ⟨F, e, hF, hl2, hbd⟩ := br_run hT hP k hR hl
  refine ⟨F, e, hl2, fun p hp => ⟨(mem_HV hP _).mp (hF.ok p hp).1, (mem_HV hP _).mp (hF.ok p hp).2.1⟩, fun r hr => ?_⟩
  unfold barA
  rw [List.any_eq_true]
  constructor
  · rintro ⟨c, hc, h⟩
    obtain ⟨p, hp, rfl⟩ := List.mem_map.mp hc
    obtain ⟨f1, f2, f3, f4⟩ := hF.ok p hp
    rw [f3] at f4
    have := (hb_and hT hP p.2.1 p.2.2 R).mp f4
    exact ⟨p.2.1, p.2.2, (mem_HV hP _).mp f1, (mem_HV hP _).mp f2, h, fun r' h' => this r' (hR r' h') h'⟩
  · rintro ⟨h1, h2, H1, H2, h, hn⟩
    have f4 := (hb_and hT hP h1 h2 R).mpr fun r' _ h' => hn r' h'
    have f5 := hb_pos hT hP hr h
    obtain ⟨a, ha⟩ := List.getElem?_of_mem ((mem_HV hP _).mpr H1)
    obtain ⟨b, hb'⟩ := List.getElem?_of_mem ((mem_HV hP _).mpr H2)
    have key : (hb ts P h1 &&& hb ts P h2) ∈ F.map (·.1) := by
      rcases Nat.le_total a b with hab | hab
      · exact hbd a b hab h1 h2 ha hb' f5 f4
      · have := hbd b a hab h2 h1 hb' ha
        unfold BH at this
        rw [Nat.and_comm (hb ts P h2)] at this
        exact this f5 f4
    obtain ⟨p, hp, e2⟩ := List.mem_map.mp key
    obtain ⟨g1, g2, g3, g4⟩ := hF.ok p hp
    refine ⟨p.2, List.mem_map.mpr ⟨p, hp, rfl⟩, ?_⟩
    rw [← hb_same hT hP (h1 := h1) (h2 := h2) (g1 := p.2.1) (g2 := p.2.2) (by rw [← g3]; exact e2.symm) hr]
    exact h
end
end PP
namespace SZ
open PySem MM L2 PP
/-! what repr takes: a look at the parts, a count of them -/
def smallD : List (D × D) → Bool
  | [] => true
  | [(.str "a", .int 1)] => true
  | [(.int 0, .int 0)] => true
  | _ => false
mutual
/-- whole numbers to b, short texts; l: lists, dd: three small dicts -/
def ck (b : Nat) (l dd : Bool) : D → Bool
  | .none => true
  | .bool _ => true
  | .int i => decide (i.natAbs ≤ b)
  | .str x => decide (x.length ≤ 60) && x.cps.toList.all fun c => decide (c < 16 ^ 8)
  | .list xs => l && ckAll b l dd xs
  | .tuple xs => ckAll b l dd xs
  | .dict kvs => dd && smallD kvs
def ckAll (b : Nat) (l dd : Bool) : List D → Bool
  | [] => true
  | x :: xs => ck b l dd x && ckAll b l dd xs
end
mutual
def nd : D → Nat
  | .list xs => 1 + ndAll xs
  | .tuple xs => 1 + ndAll xs
  | _ => 1
def ndAll : List D → Nat
  | [] => 0
  | x :: xs => nd x + ndAll xs
end
theorem shown_dict {kvs : List (D × D)} (h : smallD kvs = true) : kvs = [] ∨ kvs = [(.str "a", .int 1)] ∨ kvs = [(.int 0, .int 0)] := by
  unfold smallD at h
  split at h
  · exact .inl rfl
  · exact .inr (.inl rfl)
  · exact .inr (.inr rfl)
  · cases h
theorem textFrom_le : ∀ (ts : List Str) (k : Nat) (acc : Str), (textFrom k acc ts).length ≤ acc.length + piled ts
  | [], k, acc => by simp [textFrom, piled]
  | t :: ts, k, acc => by
    have ih := textFrom_le ts (k + 1) (acc ++ (if k > 0 then ", " else "" : String) ++ t)
    have e : (acc ++ (if k > 0 then ", " else "" : String) ++ t : Str).length ≤ acc.length + 2 + t.length := by
      rw [strLen_append, strLen_append]
      have : ((if k > 0 then ", " else "" : String) : Str).length ≤ 2 := by split <;> decide
      omega
    rw [piled_cons]
    show (textFrom (k + 1) _ ts).length ≤ _
    omega
theorem listText_le (ts : List Str) : (listText ts).length ≤ piled ts + 2 := by
  have h := textFrom_le ts 0 "["
  have e : (listText ts).length = (textFrom 0 "[" ts).length + 1 := by unfold listText; rw [strLen_append]; rfl
  have e1 : ("[" : Str).length = 1 := rfl
  omega
theorem tupleText_le (ts : List Str) : (tupleText ts).length ≤ piled ts + 3 := by
  have e : (tupleText ts).length = 1 + (Str.join ", " ts).length + ((if ts.length == 1 then ",)" else ")" : String) : Str).length := by
    unfold tupleText; rw [strLen_append, strLen_append]; rfl
  have e2 : ((if ts.length == 1 then ",)" else ")" : String) : Str).length ≤ 2 := by split <;> decide
  by_cases h : ts = []
  · subst h
    have : (Str.join ", " ([] : List Str)).length = 0 := rfl
    omega
  · have := join_length_add ts h
    omega
theorem int_len {i : Int} {b : Nat} (hb : b < 10 ^ 45) (h : i.natAbs ≤ b) : (Str.ofString (toString i)).length ≤ 46 := by
  rw [ofString_length]
  exact int_text_length_le10 (k := 45) (by omega) (by omega)
theorem int_show {i : Int} {b : Nat} (hb : b < 10 ^ 45) (h : i.natAbs ≤ b) : i.natAbs.log2 < 1920 := by
  by_cases h0 : i.natAbs = 0
  · rw [h0]; decide
  · rw [Nat.log2_lt h0]
    have : (10 : Nat) ^ 45 < 2 ^ 1920 := by decide +kernel
    omega
section
variable {b : Nat} {l dd : Bool}
mutual
theorem ck_ok (hb : b < 10 ^ 45) : ∀ d : D, ck b l dd d = true → d.showable = true ∧ d.shown.length + 2 ≤ 700 * nd d ∧ cln l d = true ∧ (dd = false → d.hasDict = false)
  | .none, _ => ⟨rfl, by simp only [PyData.shown, nd]; decide, rfl, fun _ => rfl⟩
  | .bool z, _ => ⟨rfl, by simp only [PyData.shown, nd]; cases z <;> decide, rfl, fun _ => rfl⟩
  | .int i, h => by
    rw [ck] at h
    have h := of_decide_eq_true h
    have := int_len hb h
    refine ⟨by rw [PyData.showable]; exact decide_eq_true (int_show hb h), ?_, rfl, fun _ => by rw [PyData.hasDict]⟩
    simp only [PyData.shown, nd]
    omega
  | .str x, h => by
    rw [ck, Bool.and_eq_true] at h
    have h1 := of_decide_eq_true h.1
    have := PySem.StrLaws.reprText_len x fun c hc => of_decide_eq_true (List.all_eq_true.mp h.2 c hc)
    refine ⟨by rw [PyData.showable], ?_, rfl, fun _ => by rw [PyData.hasDict]⟩
    simp only [PyData.shown, nd]
    omega
  | .list xs, h => by
    rw [ck, Bool.and_eq_true] at h
    obtain ⟨h1, h2, h3, h4⟩ := ckAll_ok hb xs h.2
    refine ⟨by rw [PyData.showable]; exact h1, ?_, by rw [cln, Bool.and_eq_true]; exact ⟨h.1, h3⟩, fun z => by rw [PyData.hasDict]; exact h4 z⟩
    have := listText_le (PyData.shownAll xs)
    simp only [PyData.shown, nd]
    omega
  | .tuple xs, h => by
    rw [ck] at h
    obtain ⟨h1, h2, h3, h4⟩ := ckAll_ok hb xs h
    refine ⟨by rw [PyData.showable]; exact h1, ?_, by rw [cln]; exact h3, fun z => by rw [PyData.hasDict]; exact h4 z⟩
    have := tupleText_le (PyData.shownAll xs)
    simp only [PyData.shown, nd]
    omega
  | .dict kvs, h => by
    rw [ck, Bool.and_eq_true] at h
    have hd : dd = false → False := fun z => by rw [z] at h; exact nomatch h.1
    rcases shown_dict h.2 with e | e | e
    · subst e; exact ⟨rfl, by simp only [nd]; decide +kernel, rfl, fun z => (hd z).elim⟩
    · subst e; exact ⟨by decide +kernel, by simp only [nd]; decide +kernel, rfl, fun z => (hd z).elim⟩
    · subst e; exact ⟨by decide +kernel, by simp only [nd]; decide +kernel, rfl, fun z => (hd z).elim⟩
theorem ckAll_ok (hb : b < 10 ^ 45) : ∀ xs : List D, ckAll b l dd xs = true → PyData.showableAll xs = true ∧ piled (PyData.shownAll xs) ≤ 700 * ndAll xs ∧ clnAll l xs = true ∧ (dd = false → PyData.hasDictAll xs = false)
  | [], _ => ⟨by rw [PyData.showableAll], by simp [PyData.shownAll, piled], by rw [clnAll], fun _ => by rw [PyData.hasDictAll]⟩
  | x :: xs, h => by
    rw [ckAll, Bool.and_eq_true] at h
    obtain ⟨a1, a2, a3, a4⟩ := ck_ok hb x h.1
    obtain ⟨h1, h2, h3, h4⟩ := ckAll_ok hb xs h.2
    refine ⟨by rw [PyData.showableAll, a1, h1]; rfl, ?_, by rw [clnAll, a3, h3]; rfl, fun z => by rw [PyData.hasDictAll, a4 z, h4 z]; rfl⟩
    rw [PyData.shownAll, piled_cons, ndAll]
    omega
end
/-- a thing: its parts, how many, how deep -/
structure Cl (b : Nat) (l dd : Bool) (n m : Nat) (d : D) : Prop where
  c : ck b l dd d = true
  n_ : nd d ≤ n
  m_ : d.depth ≤ m
structure Ca (b : Nat) (l dd : Bool) (n m : Nat) (xs : List D) : Prop where
  c : ckAll b l dd xs = true
  n_ : ndAll xs ≤ n
  m_ : PyData.depthAll xs ≤ m
theorem shw_of {n m : Nat} {d : D} (h : Cl b l dd n m d) (hb : b < 10 ^ 45) (hn : n ≤ 20000) (hm : m ≤ 64) (hl : l = false ∨ dd = false) : shwOk d = true := by
  obtain ⟨h1, h2, h3, h4⟩ := ck_ok hb d h.c
  have a := h.n_
  have a2 := h.m_
  have hs : d.shown.length ≤ sizeLine := sz_le (by omega)
  have hd : d.depth ≤ 64 := by omega
  unfold shwOk
  rw [h1, decide_eq_true hs, decide_eq_true hd]
  rcases hl with z | z
  · subst z; rw [h3]; rfl
  · subst z
    have h4 := h4 rfl
    cases l with
    | false => rw [h3]; rfl
    | true => rw [h3, h4]; simp
theorem Ca.nil : Ca b l dd 0 0 [] := ⟨by rw [ckAll], by rw [ndAll]; exact Nat.le_refl _, by rw [PyData.depthAll]; exact Nat.le_refl _⟩
theorem Ca.cons {n n2 m : Nat} {x : D} {xs : List D} (h : Cl b l dd n m x) (t : Ca b l dd n2 m xs) : Ca b l dd (n + n2) m (x :: xs) :=
  ⟨by rw [ckAll, h.c, t.c]; rfl, by rw [ndAll]; have := h.n_; have := t.n_; omega, by rw [PyData.depthAll]; have := h.m_; have := t.m_; omega⟩
theorem Cl.le {n n2 m m2 : Nat} {x : D} (h : Cl b l dd n m x) (a : n ≤ n2) (a2 : m ≤ m2) : Cl b l dd n2 m2 x := ⟨h.c, Nat.le_trans h.n_ a, Nat.le_trans h.m_ a2⟩
theorem Ca.le {n n2 m m2 : Nat} {x : List D} (h : Ca b l dd n m x) (a : n ≤ n2) (a2 : m ≤ m2) : Ca b l dd n2 m2 x := ⟨h.c, Nat.le_trans h.n_ a, Nat.le_trans h.m_ a2⟩
theorem Cl.one {n m : Nat} {x : D} (h : Cl b l dd n m x) : Ca b l dd n m [x] := (Ca.cons h (Ca.nil.le (Nat.le_refl _) (Nat.zero_le _))).le (by omega) (Nat.le_refl _)
theorem Ca.tup {n m : Nat} {xs : List D} (h : Ca b l dd n m xs) : Cl b l dd (n + 1) (m + 1) (.tuple xs) :=
  ⟨by rw [ck]; exact h.c, by rw [nd]; have := h.n_; omega, by rw [PyData.depth]; have := h.m_; omega⟩
theorem Ca.lst {n m : Nat} {xs : List D} (h : Ca b true dd n m xs) : Cl b true dd (n + 1) (m + 1) (.list xs) :=
  ⟨by rw [ck, h.c]; rfl, by rw [nd]; have := h.n_; omega, by rw [PyData.depth]; have := h.m_; omega⟩
theorem ckAll_app : ∀ xs ys : List D, ckAll b l dd (xs ++ ys) = (ckAll b l dd xs && ckAll b l dd ys)
  | [], ys => by rw [ckAll]; rfl
  | x :: xs, ys => by rw [List.cons_append, ckAll, ckAll, ckAll_app xs ys, Bool.and_assoc]
theorem ndAll_app : ∀ xs ys : List D, ndAll (xs ++ ys) = ndAll xs + ndAll ys
  | [], ys => by rw [ndAll, List.nil_append, Nat.zero_add]
  | x :: xs, ys => by rw [List.cons_append, ndAll, ndAll, ndAll_app xs ys, Nat.add_assoc]
theorem depAll_app : ∀ xs ys : List D, PyData.depthAll (xs ++ ys) = max (PyData.depthAll xs) (PyData.depthAll ys)
  | [], ys => by rw [PyData.depthAll, List.nil_append]; omega
  | x :: xs, ys => by rw [List.cons_append, PyData.depthAll, PyData.depthAll, depAll_app xs ys]; omega
theorem Ca.app {n n2 m : Nat} {xs ys : List D} (h : Ca b l dd n m xs) (t : Ca b l dd n2 m ys) : Ca b l dd (n + n2) m (xs ++ ys) :=
  ⟨by rw [ckAll_app, h.c, t.c]; rfl, by rw [ndAll_app]; have := h.n_; have := t.n_; omega, by rw [depAll_app]; have := h.m_; have := t.m_; omega⟩
theorem Ca.split {n m : Nat} {xs ys : List D} (h : Ca b l dd n m (xs ++ ys)) : Ca b l dd n m xs ∧ Ca b l dd n m ys := by
  have h1 := h.c
  have h2 := h.n_
  have h3 := h.m_
  rw [ckAll_app, Bool.and_eq_true] at h1
  rw [ndAll_app] at h2
  rw [depAll_app] at h3
  exact ⟨⟨h1.1, by omega, by omega⟩, ⟨h1.2, by omega, by omega⟩⟩
theorem Ca.take {n m : Nat} {xs : List D} (h : Ca b l dd n m xs) (i : Nat) : Ca b l dd n m (xs.take i) := by
  rw [← List.take_append_drop i xs] at h; exact h.split.1
theorem Ca.drop {n m : Nat} {xs : List D} (h : Ca b l dd n m xs) (i : Nat) : Ca b l dd n m (xs.drop i) := by
  rw [← List.take_append_drop i xs] at h; exact h.split.2
theorem Ca.cut {n m : Nat} {xs : List D} (h : Ca b l dd n m xs) (lo hi : Option Int) : Ca b l dd n m (MM.cut xs lo hi) := (h.drop _).take _
end
end SZ
namespace PP
open PySem MM L2
/-! what == may look at -/
structure Ly (m : Nat) (d : D) : Prop where
  c : d.canLay0 = true
  m_ : d.depth ≤ m
theorem Ly_all {m : Nat} : ∀ {xs : List D}, (∀ x ∈ xs, Ly m x) → PyData.canLayAll0 xs = true ∧ PyData.depthAll xs ≤ m
  | [], _ => ⟨by rw [PyData.canLayAll0], by rw [PyData.depthAll]; omega⟩
  | x :: xs, h => by
    have h1 := h x (by simp)
    have h2 := Ly_all (xs := xs) fun y hy => h y (by simp [hy])
    rw [PyData.canLayAll0, PyData.depthAll, h1.c, h2.1]
    exact ⟨rfl, by have := h1.m_; have := h2.2; omega⟩
theorem Ly_tup {m : Nat} {xs : List D} (h : ∀ x ∈ xs, Ly m x) : Ly (m + 1) (.tuple xs) :=
  ⟨by rw [PyData.canLay0]; exact (Ly_all h).1, by rw [PyData.depth]; have := (Ly_all h).2; omega⟩
theorem Ly_list {m : Nat} {xs : List D} (h : ∀ x ∈ xs, Ly m x) : Ly (m + 1) (.list xs) :=
  ⟨by rw [PyData.canLay0]; exact (Ly_all h).1, by rw [PyData.depth]; have := (Ly_all h).2; omega⟩
theorem Ly_iD (m x : Nat) : Ly m (iD x) := ⟨rfl, by show (PyData.int (x : Int)).depth ≤ m; rw [PyData.depth]; omega⟩
theorem Ly.up {m m2 : Nat} {d : D} (h : Ly m d) (a : m ≤ m2) : Ly m2 d := ⟨h.c, Nat.le_trans h.m_ a⟩
theorem Ly_TD (xs : List Nat) : Ly 1 (TD xs) := Ly_tup (m := 0) fun x hx => by
  obtain ⟨y, _, rfl⟩ := List.mem_map.mp hx
  exact Ly_iD 0 y
theorem Ly.shaped {m : Nat} {d : D} (h : Ly m d) (hm : m ≤ 64) : SeqAt.shaped d = true := by
  unfold SeqAt.shaped
  rw [h.c, decide_eq_true (by have := h.m_; omega)]; rfl
theorem Ly_rD (r : List Nat) : Ly 1 (rD r) := by
  match r with
  | [] => exact Ly_TD []
  | [a] => exact Ly_iD 1 a
  | a :: b :: r => exact Ly_TD (a :: b :: r)
theorem Ly_rows (R : List (List Nat)) : Ly 2 (.tuple (R.map rD)) := Ly_tup fun x hx => by
  obtain ⟨y, _, rfl⟩ := List.mem_map.mp hx
  exact Ly_rD y
theorem Ly_tb (P : List Nat) (R : List (List Nat)) : Ly 3 (tbD P R) := Ly_tup fun x hx => by
  rcases List.mem_append.mp hx with hx | hx
  · obtain ⟨y, _, rfl⟩ := List.mem_map.mp hx
    exact Ly_iD 2 y
  · rw [List.mem_singleton] at hx; subst hx; exact Ly_rows R
theorem dEq_ly {m m2 : Nat} {x y : D} (h : Ly m x) (hm : m ≤ 64) (h2 : Ly m2 y) (hm2 : m2 ≤ 64) : dEq x y = some (.bool (PyData.eqv x y)) := by
  unfold dEq
  rw [h.shaped hm, h2.shaped hm2]; rfl
theorem dNe_ly {m m2 : Nat} {x y : D} (h : Ly m x) (hm : m ≤ 64) (h2 : Ly m2 y) (hm2 : m2 ≤ 64) : dNe x y = some (.bool (!PyData.eqv x y)) := by
  unfold dNe
  rw [h.shaped hm, h2.shaped hm2]; rfl
theorem dEq_self {m : Nat} {x : D} (h : Ly m x) (hm : m ≤ 64) : dEq x x = some (.bool true) := by
  rw [dEq_ly h hm h hm, PySem.SeqAt.eqv_refl x h.c]
theorem dNe_self {m : Nat} {x : D} (h : Ly m x) (hm : m ≤ 64) : dNe x x = some (.bool false) := by
  rw [dNe_ly h hm h hm, PySem.SeqAt.eqv_refl x h.c]; rfl
end PP
namespace PP
open PySem MM L2
def flB : MS :=
  (mSeq (mIfS (mTst (mBin (dEq0 id) (mBin dIx (mVar 1) (mUn dNeg (mC (.int 1)))) (mTup mNil)))
    (mRet (mVar 1)) mNext)
    (mRet (mCall byM (mCons (mVar 0) (mCons (mSlN (mVar 1) mNoPart (mPart (mUn dNeg (mC (.int 1))))) (mCons (mValsL (mCall brM (mCons (mVar 0) (mCons (mVar 1) mNil)))) mNil))))))
def flM : MF := mFun 2 2 flB
def unB : MS :=
  (mSeq (mIfS (mTst (mBin dEq (mCall flM (mCons (mVar 0) (mCons (mVar 1) mNil))) (mVar 1)))
    (mRet (mC .none)) mNext)
    mBads)
def unM : MF := mFun 2 3 unB
theorem vals_gF (F : List (Nat × Cl2)) {a : ME} {ps ps1 : Ps} (h : a ps = .ok (DD (gF F)) ps1) : mValsL a ps = .ok (.list ((F.map (·.2)).map clD)) ps1 := by
  unfold mValsL
  rw [h]
  simp only [Out.bind_ok]
  have e1 : DD (gF F) = .dict ((kvD (gF F)).map fun p => (kD p.1, p.2)) := rfl
  rw [e1]
  dsimp only
  have e2 : isDeck (.dict ((kvD (gF F)).map fun p => (kD p.1, p.2))) = false := by
    cases F with
    | nil => rfl
    | cons p F => rfl
  rw [e2, kv_any, if_neg (by simp)]
  congr 2
  unfold kvD gF
  simp only [List.map_map]
  rfl
section
variable {ts : List (List Nat)} (hT : TsOk ts) {P : List Nat} (hP : PrOk ts P) (k : Dk)
include hT hP
theorem fl_nil : flM [TsD ts, tbD P []] k = .ret (tbD P []) k := by
  have e5 : dIx (tbD P []) (.int (-1)) = some (.tuple []) := ix_last _ _
  have z0 : 0 ≤ sizeLine := Nat.zero_le _
  have e6 : dEq0 id (.tuple []) (.tuple []) = some (.bool true) := rfl
  unfold flM mFun flB
  simp [sl0, List.replicate, e5, e6, z0]
theorem fl_ok {R : List (List Nat)} (hR : ∀ r ∈ R, r ∈ RW ts P) (hl : R.length ≤ 100000) (hn : R ≠ []) :
    ∃ cs : List Cl2, flM [TsD ts, tbD P R] k = .ret (tbD P (letR ts P cs)) k ∧ (∀ c ∈ cs, HOk ts P c.1 ∧ HOk ts P c.2) ∧
      ∀ r ∈ RW ts P, (barA ts P cs r = true ↔ ∃ h1 h2, HOk ts P h1 ∧ HOk ts P h2 ∧ barC ts P (h1, h2) r = true ∧ ∀ r' ∈ R, barC ts P (h1, h2) r' = false) := by
  obtain ⟨F, e, hF1, hF2, hF3⟩ := br_ok hT hP k hR hl
  have hc : ∀ c ∈ F.map (·.2), HOk ts P c.1 ∧ HOk ts P c.2 := fun c hc => by
    obtain ⟨p, hp, rfl⟩ := List.mem_map.mp hc
    exact hF2 p hp
  have e2 := by_ok hT hP k hc (by rw [List.length_map]; omega) (cD := .list ((F.map (·.2)).map clD)) rfl
  refine ⟨F.map (·.2), ?_, hc, hF3⟩
  have e4 := sln_tb P R
  have e5 : dIx (tbD P R) (.int (-1)) = some (.tuple (R.map rD)) := ix_last _ _
  have z0 : 0 ≤ sizeLine := Nat.zero_le _
  have e6 : dEq0 id (.tuple (R.map rD)) (.tuple []) = some (.bool false) := by
    cases R with
    | nil => exact absurd rfl hn
    | cons => rfl
  have e7 := vals_gF F (a := mCall brM (mCons (mVar 0) (mCons (mVar 1) mNil))) (ps := ⟨[.fz (TsD ts), .fz (tbD P R)], k⟩) (ps1 := ⟨[.fz (TsD ts), .fz (tbD P R)], k⟩) (by simp [e])
  generalize ((F.map (·.2)).map clD) = vs at *
  unfold flM mFun flB
  simp [sl0, List.replicate, e5, e6, z0, e4, e7, e2]
/-- a table by clauses is filled -/
theorem fl_let {cs : List Cl2} (hc : ∀ c ∈ cs, HOk ts P c.1 ∧ HOk ts P c.2) : flM [TsD ts, tbD P (letR ts P cs)] k = .ret (tbD P (letR ts P cs)) k := by
  by_cases hn : letR ts P cs = []
  · rw [hn]; exact fl_nil hT hP k
  · have hsub : ∀ r ∈ letR ts P cs, r ∈ RW ts P := fun r hr => (List.mem_filter.mp hr).1
    have hlen : (letR ts P cs).length ≤ 100000 := by
      have := rw_len hT hP
      have h2 := List.length_filter_le (fun r => !barA ts P cs r) (RW ts P)
      show (List.filter (fun r => !barA ts P cs r) (RW ts P)).length ≤ _
      omega
    obtain ⟨cs', e, h1, h2⟩ := fl_ok hT hP k hsub hlen hn
    rw [e]
    congr 2
    show (RW ts P).filter _ = (RW ts P).filter _
    refine List.filter_congr fun r hr => ?_
    congr 1
    rw [Bool.eq_iff_iff, h2 r hr]
    constructor
    · rintro ⟨g1, g2, H1, H2, hb1, hno⟩
      refine Classical.byContradiction fun hf => ?_
      have hmem : r ∈ letR ts P cs := List.mem_filter.mpr ⟨hr, by simpa using hf⟩
      rw [hno r hmem] at hb1
      cases hb1
    · intro hb1
      unfold barA at hb1
      obtain ⟨c, hcm, hb2⟩ := List.any_eq_true.mp hb1
      refine ⟨c.1, c.2, (hc c hcm).1, (hc c hcm).2, hb2, fun r' hr' => ?_⟩
      have := (List.mem_filter.mp hr').2
      rw [Bool.not_eq_true'] at this
      unfold barA at this
      rw [List.any_eq_false] at this
      exact Bool.eq_false_iff.mpr (this c hcm)
theorem un_let {cs : List Cl2} (hc : ∀ c ∈ cs, HOk ts P c.1 ∧ HOk ts P c.2) : unM [TsD ts, tbD P (letR ts P cs)] k = .ret .none k := by
  have e := fl_let hT hP k hc
  have e2 := dEq_self (Ly_tb P (letR ts P cs)) (by omega)
  unfold unM mFun unB
  simp [sl0, List.replicate, e, e2]
end
end PP
namespace PP
open PySem MM L2
theorem dLt_iD (a b : Nat) : dLt (iD a) (iD b) = some (.bool (decide (a < b))) := by
  show some (PyData.bool (decide ((a : Int) < (b : Int)))) = _
  congr 2
  exact decide_eq_decide.mpr (by omega)
theorem e_varZ {i : Nat} {sl : List Sl} {k : Dk} : mVarZ i ⟨sl, k⟩ = (match sl[i]? with
  | some (.md kvs) => .ok (zD kvs) ⟨sl.set i (.fz (zD kvs)), k⟩
  | _ => .bad) := rfl
def offZB : MS :=
  (mSeq (mParDEE 2 3 4 (mDict [((mVar 1), (mC (.int 0)))]) (mLst (mCons (mVar 1) mNil)) (mC (.int 0)))
    (mSeq (mWhile (mTst (mBin dNe (mVar 3) (mLst mNil)))
    (mSeq (mPar 5 4 (mCons (mLst mNil) (mCons (mBin dAdd (mVar 4) (mC (.int 1))) mNil)))
    (mSeq (mFor (mIter (mVar 3)) (mGn 6) offA)
    (mSeq (mFor (mIter (mVar 5)) (mGn 7) offBd)
    (mSet 3 (mVar 5))))) 64)
    (mRet (mVarZ 2))))
def offZ : MF := mFun 2 8 offZB
section
variable {t : List Nat} (h : TrOk t) (hl : t.length < 8) {one : Nat} (h1 : one ≤ t.length)
include hl h1
theorem offZ_ok (k : Dk) : ∃ cm, OffOk (trOf t h) t.length one cm ∧ (∀ x ∈ cm.map (·.1), x ≤ t.length) ∧ offZ [TD t, iD one] k = .ret (zD (kvD cm)) k := by
  obtain ⟨ps', e, cm, s3, s4, s5, s6, s7, rfl, ok, okb⟩ := while_inv (t := (mTst (mBin dNe (mVar 3) (mLst mNil)))) (body := (mSeq (mPar 5 4 (mCons (mLst mNil) (mCons (mBin dAdd (mVar 4) (mC (.int 1))) mNil)))
    (mSeq (mFor (mIter (mVar 3)) (mGn 6) offA)
    (mSeq (mFor (mIter (mVar 5)) (mGn 7) offBd)
    (mSet 3 (mVar 5)))))) (n := t.length + 1) (ps := ⟨[.fz (TD t), .fz (iD one), .md (kvD [(one, .int 0)]), .fz (LD [one]), .fz (.int 0), .no, .no, .no], k⟩) (fuel := 64)
    (fun m ps => ∃ cm here c s5 s6 s7, ps = ⟨[.fz (TD t), .fz (iD one), .md (kvD cm), .fz (LD here), .fz (iD c), s5, s6, s7], k⟩ ∧ Bfs (trOf t h) t.length one cm here c ∧ m = (t.length + 1 - cm.length) + (if here = [] then 0 else 1))
    (fun ps => ∃ cm s3 s4 s5 s6 s7, ps = ⟨[.fz (TD t), .fz (iD one), .md (kvD cm), s3, s4, s5, s6, s7], k⟩ ∧ OffOk (trOf t h) t.length one cm ∧ (∀ x ∈ cm.map (·.1), x ≤ t.length))
    ⟨[(one, iD 0)], [one], 0, .no, .no, .no, rfl, .first h1, by simp⟩ (by
      rintro m ps ⟨cm, here, c, s5, s6, s7, rfl, b, rfl⟩
      have he : (PyData.list []) = LD [] := rfl
      by_cases hh : here = []
      · left
        subst hh
        refine ⟨⟨[.fz (TD t), .fz (iD one), .md (kvD cm), .fz (LD []), .fz (iD c), s5, s6, s7], k⟩, ?_, cm, _, _, _, _, _, rfl, ⟨b.keys, fun x hx => b.all h1 hx⟩, fun x hx => ((b.key x).mp hx).1⟩
        simp [he]
      · right
        obtain ⟨more, s6a, s7a, m1, m2, e1⟩ := offA_ok h hl h1 (k := k) b s6 s7
        obtain ⟨s7b, e2⟩ := offBd_ok h hl h1 (k := k) b m1 m2 s6a s7a
        have b2 := b.next m1 m2
        have l1 := b.len
        have l2 := b2.len
        simp only [List.length_append, List.length_map] at l2
        refine ⟨_, ⟨[.fz (TD t), .fz (iD one), .md (kvD cm), .fz (LD here), .fz (iD c), s5, s6, s7], k⟩, ⟨[.fz (TD t), .fz (iD one), .md (kvD (cm ++ more.map fun x => (x, iD (c + 1)))), .fz (LD more), .fz (iD (c + 1)), .fz (LD more), s6a, s7b], k⟩, ?_, ?_, .inl ?_, _, more, c + 1, _, _, _, rfl, b2, rfl⟩
        · rw [if_neg hh]
          simp only [List.length_append, List.length_map]
          by_cases hm : more = []
          · rw [if_pos hm, hm]; simp
          · rw [if_neg hm]
            have : 0 < more.length := List.length_pos_iff.mpr hm
            omega
        · simp [he, hh]
        · simp [he, e1, e2]) (by omega)
  refine ⟨cm, ok, okb, ?_⟩
  have hd : mergeD [(Sum.inl ((one : Nat) : Int), PyData.int 0)] = kvD [(one, .int 0)] := rfl
  have hl1 : (PyData.list [iD one]) = LD [one] := rfl
  have hsz : 1 ≤ sizeLine := sz_le (by omega)
  unfold offZ mFun offZB
  simp [sl0, List.replicate, toKeys, hd, hl1, hsz, e, e_varZ]
end
def ihB : MS :=
  (mSeq (mAsg (mGt 2 3 4) (mVar 1))
    (mSeq (mAsg (mGp 5 6) (mTup (mCons (mCall offZ (mCons (mBin dIx (mVar 0) (mVar 2)) (mCons (mVar 3) mNil))) (mCons (mCall offZ (mCons (mBin dIx (mVar 0) (mVar 2)) (mCons (mVar 4) mNil))) mNil))))
    (mRet (mFz (mComp (mKeys (mVar 5)) (mGn 7) (mTst (mBin dLt (mBin dIxZ (mVar 6) (mVar 7)) (mBin dIxZ (mVar 5) (mVar 7)))) (mVar 7) [7])))))
def ihM : MF := mFun 2 8 ihB
theorem ixZ_at {m : List (Nat × D)} {x : Nat} {v : D} (hn : (m.map (·.1)).Nodup) (h : (x, v) ∈ m) : dIxZ (zD (kvD m)) (iD x) = some v := by
  show (toKey (iD x)).bind (fun k => dLook ((kvD m).map fun p => (kD p.1, p.2)) k) = _
  rw [toKey_iD, Option.bind_some, kv_look, find_mem hn h]; rfl
section
variable {ts : List (List Nat)} (hT : TsOk ts) {P : List Nat} (k : Dk)
include hT
theorem ih_ok {h : Hf} (H : HOk ts P h) (hi : h.1 < ts.length) : ∃ S, ihM [TsD ts, hD h] k = .ret (LD S) k ∧ ∀ x, x ≤ nn ts h.1 → (x ∈ S ↔ (tr ts h.1).d x h.2.2 < (tr ts h.1).d x h.2.1) := by
  have q := hT.ok _ (ts_mem hi)
  have e : tr ts h.1 = trOf (tg ts h.1) q.1 := trG_eq q.1
  obtain ⟨ca, oka, ba, ea⟩ := offZ_ok q.1 q.2 (one := h.2.1) H.a k
  obtain ⟨cb, okb, bb, eb⟩ := offZ_ok q.1 q.2 (one := h.2.2) H.b k
  rw [← e] at oka okb
  have e2 := ts_at hi
  have z2 : 2 ≤ sizeLine := sz_le (by omega)
  have c1 := comp_iD (mi := (mKeys (mVar 5))) (g := mGn 7) (tt := (mTst (mBin dLt (mBin dIxZ (mVar 6) (mVar 7)) (mBin dIxZ (mVar 5) (mVar 7))))) (te := mVar 7) (vs := [7])
    (ps := ⟨[.fz (TsD ts), .fz (hD h), .fz (iD h.1), .fz (iD h.2.1), .fz (iD h.2.2), .fz (zD (kvD ca)), .fz (zD (kvD cb)), .no], k⟩)
    (ps0 := ⟨[.fz (TsD ts), .fz (hD h), .fz (iD h.1), .fz (iD h.2.1), .fz (iD h.2.2), .fz (zD (kvD ca)), .fz (zD (kvD cb)), .no], k⟩)
    (fun x => decide ((tr ts h.1).d x h.2.2 < (tr ts h.1).d x h.2.1)) (fun x => x) (xs := ca.map (·.1)) (by
      unfold mKeys
      simp only [e_var, List.getElem?_cons_succ, List.getElem?_cons_zero, Out.bind_ok]
      unfold zD
      simp only [Out.bind_ok]
      have : ((kvD ca).map fun p => (kD p.1, p.2)).map (·.1) = iDs (ca.map (·.1)) := by
        unfold kvD iDs
        simp only [List.map_map]
        rfl
      rw [this]; rfl) rfl (by
      have := len_le oka.keys fun x hx => ba x hx
      have := q.2
      omega) (fun x hx => by
      have hb := ba x hx
      have u1 := ixZ_at oka.keys (oka.at_ x hb)
      have u2 := ixZ_at okb.keys (okb.at_ x hb)
      have u3 : dLt (iD ((tr ts h.1).d x h.2.2)) (iD ((tr ts h.1).d x h.2.1)) = some (.bool (decide ((tr ts h.1).d x h.2.2 < (tr ts h.1).d x h.2.1))) := dLt_iD _ _
      simp [u1, u2, u3])
  refine ⟨(ca.map (·.1)).filter fun x => decide ((tr ts h.1).d x h.2.2 < (tr ts h.1).d x h.2.1), ?_, fun x hx => ?_⟩
  · rw [List.map_id'] at c1
    generalize (ca.map (·.1)).filter (fun x => decide ((tr ts h.1).d x h.2.2 < (tr ts h.1).d x h.2.1)) = S at *
    have e6 : (mAsg (mGt 2 3 4) (mVar 1)) ⟨[.fz (TsD ts), .fz (hD h), .no, .no, .no, .no, .no, .no], k⟩ = .next ⟨[.fz (TsD ts), .fz (hD h), .fz (iD h.1), .fz (iD h.2.1), .fz (iD h.2.2), .no, .no, .no], k⟩ := rfl
    have e7 : (mAsg (mGp 5 6) (mTup (mCons (mCall offZ (mCons (mBin dIx (mVar 0) (mVar 2)) (mCons (mVar 3) mNil))) (mCons (mCall offZ (mCons (mBin dIx (mVar 0) (mVar 2)) (mCons (mVar 4) mNil))) mNil)))) ⟨[.fz (TsD ts), .fz (hD h), .fz (iD h.1), .fz (iD h.2.1), .fz (iD h.2.2), .no, .no, .no], k⟩ =
        .next ⟨[.fz (TsD ts), .fz (hD h), .fz (iD h.1), .fz (iD h.2.1), .fz (iD h.2.2), .fz (zD (kvD ca)), .fz (zD (kvD cb)), .no], k⟩ := by
      simp [e2, ea, eb, z2]
    unfold ihM mFun ihB
    simp [-e_asg, sl0, List.replicate, e6, e7, c1]
  · rw [List.mem_filter, decide_eq_true_eq]
    exact ⟨fun z => z.2, fun z => ⟨List.mem_map.mpr ⟨_, oka.at_ x hx, rfl⟩, z⟩⟩
end
end PP
/-! The law's own rows, what a clause bars, what clauses let. -/
namespace PP
open PySem MM L2
def rwoB : MS :=
  (mSeq (mIfS (mTst (mBin dEq (mB dLenN (mCons (mVar 1) mNil)) (mC (.int 1))))
    (mRet (mFz (mRgL (mCons (mBin dAdd (mB dLen (mCons (mBin dIx (mVar 0) (mBin dIxN (mVar 1) (mC (.int 0)))) mNil)) (mC (.int 1))) mNil)))) mNext)
    (mSeq (mSet 2 (mLst mNil))
    (mSeq (mFor (mRange1 (mCons (mBin dAdd (mB dLen (mCons (mBin dIx (mVar 0) (mBin dIxN (mVar 1) (mC (.int 0)))) mNil)) (mC (.int 1))) mNil)) (mGn 3)
    (mSet 2 (mBin dAdd (mVar 2) (mFz (mComp (mRange1 (mCons (mBin dAdd (mB dLen (mCons (mBin dIx (mVar 0) (mBin dIxN (mVar 1) (mC (.int 1)))) mNil)) (mC (.int 1))) mNil)) (mGn 4) mYes (mTup (mCons (mVar 3) (mCons (mVar 4) mNil))) [4])))))
    (mRet (mVar 2)))))
def rwoM : MF := mFun 2 5 rwoB
section
variable {ts : List (List Nat)} (hT : TsOk ts) {P : List Nat} (hP : PrOk ts P) (k : Dk)
include hT hP
theorem rwo_ok : rwoM [TsD ts, ntD (iDs P)] k = .ret (.list ((RW ts P).map rD)) k := by
  rcases pr_cases hP with ⟨i, rfl, h1⟩ | ⟨i, j, rfl, h1, h2, hne⟩
  · have e1 := ts_at h1
    have n1 := nn_lt hT h1
    have e3 : dIxN (ntD (iDs [i])) (.int 0) = some (iD i) := dIxN_nt (i := 0) rfl
    have e4 : dLenN [ntD (iDs [i])] = some (iD 1) := dLenN_nt [i]
    have e5 : dEq (iD 1) (.int 1) = some (.bool true) := rfl
    have e7 : dLen [TD (tg ts i)] = some (iD (nn ts i)) := dLen_TD _
    have hr : dRg [iD (nn ts i + 1)] = some (iDs (List.range (nn ts i + 1))) := rg_n (n := nn ts i + 1) (by omega)
    have e6 : LD (List.range (nn ts i + 1)) = .list ((RW ts [i]).map rD) := by
      unfold RW LD iDs; rw [List.map_map]; rfl
    rw [← e6]
    unfold rwoM mFun rwoB
    simp [sl0, List.replicate, e1, e3, e4, e5, e7, hr, e_rgL, -dLenN_nt, -dLen_TD]
  · have e1 := ts_at h1
    have e1' := ts_at h2
    have n1 := nn_lt hT h1
    have n2 := nn_lt hT h2
    have e3 : dIxN (ntD (iDs [i, j])) (.int 0) = some (iD i) := dIxN_nt (i := 0) rfl
    have e3' : dIxN (ntD (iDs [i, j])) (.int 1) = some (iD j) := dIxN_nt (i := 1) rfl
    have e4 : dLenN [ntD (iDs [i, j])] = some (iD 2) := dLenN_nt [i, j]
    have e5 : dEq (iD 2) (.int 1) = some (.bool false) := rfl
    have e7 : dLen [TD (tg ts i)] = some (iD (nn ts i)) := dLen_TD _
    have e7' : dLen [TD (tg ts j)] = some (iD (nn ts j)) := dLen_TD _
    have hr : dRange1 [iD (nn ts i + 1)] = some (iDs (List.range (nn ts i + 1))) := dRange1_iD (by omega)
    have hr' : dRange1 [iD (nn ts j + 1)] = some (iDs (List.range (nn ts j + 1))) := dRange1_iD (by omega)
    have z2 : 2 ≤ sizeLine := sz_le (by omega)
    have z0 : 0 ≤ sizeLine := sz_le (by omega)
    have step : ∀ (a : Nat) (acc : List D), acc.length ≤ 1000 → (mSet 2 (mBin dAdd (mVar 2) (mFz (mComp (mRange1 (mCons (mBin dAdd (mB dLen (mCons (mBin dIx (mVar 0) (mBin dIxN (mVar 1) (mC (.int 1)))) mNil)) (mC (.int 1))) mNil)) (mGn 4) mYes (mTup (mCons (mVar 3) (mCons (mVar 4) mNil))) [4])))) ⟨[.fz (TsD ts), .fz (ntD (iDs [i, j])), .fz (.list acc), .fz (iD a), .no], k⟩ =
        .next ⟨[.fz (TsD ts), .fz (ntD (iDs [i, j])), .fz (.list (acc ++ (List.range (nn ts j + 1)).map fun b => rD [a, b])), .fz (iD a), .no], k⟩ := by
      intro a acc hacc
      have c1 := comp_nat (mi := (mRange1 (mCons (mBin dAdd (mB dLen (mCons (mBin dIx (mVar 0) (mBin dIxN (mVar 1) (mC (.int 1)))) mNil)) (mC (.int 1))) mNil))) (g := (mGn 4)) (tt := mYes) (te := (mTup (mCons (mVar 3) (mCons (mVar 4) mNil)))) (vs := [4]) (ps := ⟨[.fz (TsD ts), .fz (ntD (iDs [i, j])), .fz (.list acc), .fz (iD a), .no], k⟩) (ps0 := ⟨[.fz (TsD ts), .fz (ntD (iDs [i, j])), .fz (.list acc), .fz (iD a), .no], k⟩)
        (fun _ => true) (fun b => rD [a, b]) (xs := List.range (nn ts j + 1)) (by simp [e1', e3', e7', hr', -dLen_TD]) (by simp) (by simp; omega) (fun x hx => by
          have : PyData.tuple [iD a, iD x] = rD [a, x] := rfl
          simp [z2, this])
      rw [List.filter_eq_self.mpr (by simp)] at c1
      have hz := dAdd_list (xs := acc) (ys := (List.range (nn ts j + 1)).map fun b => rD [a, b]) (by rw [List.length_map, List.length_range]; omega)
      generalize ((List.range (nn ts j + 1)).map fun b => rD [a, b]) = X at *
      simp [c1, hz]
    obtain ⟨ps', e, s3, rfl⟩ := loop_nat (g := mGn 3) (body := (mSet 2 (mBin dAdd (mVar 2) (mFz (mComp (mRange1 (mCons (mBin dAdd (mB dLen (mCons (mBin dIx (mVar 0) (mBin dIxN (mVar 1) (mC (.int 1)))) mNil)) (mC (.int 1))) mNil)) (mGn 4) mYes (mTup (mCons (mVar 3) (mCons (mVar 4) mNil))) [4]))))) (xs := List.range (nn ts i + 1)) (ps := ⟨[.fz (TsD ts), .fz (ntD (iDs [i, j])), .fz (.list []), .no, .no], k⟩)
      (fun done ps => ∃ s3, ps = ⟨[.fz (TsD ts), .fz (ntD (iDs [i, j])), .fz (.list (done.flatMap fun a => (List.range (nn ts j + 1)).map fun b => rD [a, b])), s3, .no], k⟩) ⟨_, rfl⟩ (by
        rintro done a rest ps hx ⟨s3, rfl⟩
        obtain ⟨q1, q2, -⟩ := range_at hx
        have hb : (done.flatMap fun a => (List.range (nn ts j + 1)).map fun b => rD [a, b]).length ≤ 1000 := by
          rw [List.length_flatMap]
          simp only [List.length_map, List.length_range, sum_const]
          have := Nat.mul_le_mul (show done.length ≤ 8 by omega) (show nn ts j + 1 ≤ 8 by omega)
          omega
        exact ⟨_, _, rfl, .inl (step a _ hb), .fz (iD a), by simp⟩)
    have e6 : ((List.range (nn ts i + 1)).flatMap fun a => (List.range (nn ts j + 1)).map fun b => rD [a, b]) = (RW ts [i, j]).map rD := by
      unfold RW
      rw [List.map_flatMap]
      simp only [List.map_map]; rfl
    rw [e6] at e
    unfold rwoM mFun rwoB
    simp [sl0, List.replicate, e1, e3, e4, e5, e7, hr, z0, e, -dLenN_nt, -dLen_TD]
end
/-! ### what a clause bars -/
def bdL : MS :=
    (mSeq (mAsg (mGp 5 6) (mTup (mCons (mCall ihM (mCons (mVar 0) (mCons (mVar 4) mNil))) (mCons (mIdxN (mVar 1) (mBin dIx (mVar 4) (mC (.int 0)))) mNil))))
    (mIfS (mTst (mBin dEq (mB dLenN (mCons (mVar 1) mNil)) (mC (.int 1))))
    (mOwn 3 (mComp (mIter (mVar 3)) (mGn 7) (mTst (mBin dIn (mVar 7) (mVar 5))) (mVar 7) [7])) (mOwn 3 (mComp (mIter (mVar 3)) (mGn 7) (mTst (mBin dIn (mBin dIx (mVar 7) (mVar 6)) (mVar 5))) (mVar 7) [7]))))
def bdB : MS :=
  (mSeq (mSet 3 (mCall rwoM (mCons (mVar 0) (mCons (mVar 1) mNil))))
    (mSeq (mFor (mIter (mVar 2)) (mGn 4) bdL)
    (mRet (mVar 3))))
def bdM : MF := mFun 3 8 bdB
section
variable {ts : List (List Nat)} (hT : TsOk ts) {P : List Nat} (hP : PrOk ts P) (k : Dk)
include hT hP
theorem bdL_ok {h : Hf} (H : HOk ts P h) {X : List (List Nat)} (hX : ∀ r ∈ X, r ∈ RW ts P) (hl : X.length ≤ 1000) (cD : D) {s3 : Sl} (h3 : s3 = .fz (.list (X.map rD)) ∨ s3 = .ml (X.map rD)) (s5 s6 : Sl) :
    ∃ s5' s6', bdL ⟨[.fz (TsD ts), .fz (ntD (iDs P)), .fz cD, s3, .fz (hD h), s5, s6, .no], k⟩ =
      .next ⟨[.fz (TsD ts), .fz (ntD (iDs P)), .fz cD, .ml ((X.filter (inH ts P h)).map rD), .fz (hD h), s5', s6', .no], k⟩ := by
  obtain ⟨S, e1, hS⟩ := ih_ok hT (P := P) k H (hP.lt _ H.i)
  have e2 : dIx (hD h) (.int 0) = some (iD h.1) := dIx_TD (i := 0) rfl
  have e4 := dIndexT_TD H.i
  have e7 : (mIdxN (mVar 1) (mBin dIx (mVar 4) (mC (.int 0)))) ⟨[.fz (TsD ts), .fz (ntD (iDs P)), .fz cD, s3, .fz (hD h), s5, s6, .no], k⟩ = .ok (iD (P.idxOf h.1)) ⟨[.fz (TsD ts), .fz (ntD (iDs P)), .fz cD, s3, .fz (hD h), s5, s6, .no], k⟩ := by
    unfold mIdxN ntD
    simp [e2, e4, -iDs_tuple]
  have z2 : 2 ≤ sizeLine := sz_le (by omega)
  have e8 : (mAsg (mGp 5 6) (mTup (mCons (mCall ihM (mCons (mVar 0) (mCons (mVar 4) mNil))) (mCons (mIdxN (mVar 1) (mBin dIx (mVar 4) (mC (.int 0)))) mNil)))) ⟨[.fz (TsD ts), .fz (ntD (iDs P)), .fz cD, s3, .fz (hD h), s5, s6, .no], k⟩ =
      .next ⟨[.fz (TsD ts), .fz (ntD (iDs P)), .fz cD, s3, .fz (hD h), .fz (LD S), .fz (iD (P.idxOf h.1)), .no], k⟩ := by
    simp [-e_idxN, e1, e7, z2]
  have l1 : dLenN [ntD (iDs P)] = some (iD P.length) := dLenN_nt P
  refine ⟨.fz (LD S), .fz (iD (P.idxOf h.1)), ?_⟩
  have e9 : (mIter (mVar 3)) ⟨[.fz (TsD ts), .fz (ntD (iDs P)), .fz cD, s3, .fz (hD h), .fz (LD S), .fz (iD (P.idxOf h.1)), .no], k⟩ = .ok (X.map rD) ⟨[.fz (TsD ts), .fz (ntD (iDs P)), .fz cD, .fz (.list (X.map rD)), .fz (hD h), .fz (LD S), .fz (iD (P.idxOf h.1)), .no], k⟩ := by
    rcases h3 with rfl | rfl <;> simp
  have hin : ∀ r ∈ X, inH ts P h r = decide (r.getD (P.idxOf h.1) 0 ∈ S) := fun r hr => by
    obtain ⟨p1, p2, p3⟩ := place_of hT hP (hX r hr) H.i
    unfold inH
    exact decide_eq_decide.mpr (hS _ p2).symm
  rcases hP.len with hl1 | hl2
  · have e5 : dEq (iD P.length) (.int 1) = some (.bool true) := by rw [hl1]; rfl
    have c1 := comp_gen rD (mi := (mIter (mVar 3))) (g := (mGn 7)) (tt := (mTst (mBin dIn (mVar 7) (mVar 5)))) (te := mVar 7) (vs := [7]) (ps := ⟨[.fz (TsD ts), .fz (ntD (iDs P)), .fz cD, s3, .fz (hD h), .fz (LD S), .fz (iD (P.idxOf h.1)), .no], k⟩) (ps0 := ⟨[.fz (TsD ts), .fz (ntD (iDs P)), .fz cD, .fz (.list (X.map rD)), .fz (hD h), .fz (LD S), .fz (iD (P.idxOf h.1)), .no], k⟩)
      (inH ts P h) rD (xs := X) (by rw [e9]; rfl) (by simp) (by omega) (fun r hr => by
        obtain ⟨p1, p2, p3⟩ := place_of hT hP (hX r hr) H.i
        rw [hin r hr]
        rcases p3 with ⟨-, e3⟩ | ⟨q, -⟩
        · rw [e3]
          by_cases hx : r.getD (P.idxOf h.1) 0 ∈ S
          · simp [hx]
          · simp [hx]
        · omega)
    unfold bdL
    simp [-e_asg, -dLenN_nt, e8, l1, e5, c1]
  · have e5 : dEq (iD P.length) (.int 1) = some (.bool false) := by rw [hl2]; rfl
    have c1 := comp_gen rD (mi := (mIter (mVar 3))) (g := (mGn 7)) (tt := (mTst (mBin dIn (mBin dIx (mVar 7) (mVar 6)) (mVar 5)))) (te := mVar 7) (vs := [7]) (ps := ⟨[.fz (TsD ts), .fz (ntD (iDs P)), .fz cD, s3, .fz (hD h), .fz (LD S), .fz (iD (P.idxOf h.1)), .no], k⟩) (ps0 := ⟨[.fz (TsD ts), .fz (ntD (iDs P)), .fz cD, .fz (.list (X.map rD)), .fz (hD h), .fz (LD S), .fz (iD (P.idxOf h.1)), .no], k⟩)
      (inH ts P h) rD (xs := X) (by rw [e9]; rfl) (by simp) (by omega) (fun r hr => by
        obtain ⟨p1, p2, p3⟩ := place_of hT hP (hX r hr) H.i
        rw [hin r hr]
        rcases p3 with ⟨q, -⟩ | ⟨-, e3⟩
        · omega
        · by_cases hx : r.getD (P.idxOf h.1) 0 ∈ S
          · simp [e3, hx]
          · simp [e3, hx])
    unfold bdL
    simp [-e_asg, -dLenN_nt, e8, l1, e5, c1]
theorem bd_ok {c : Cl2} (h1 : HOk ts P c.1) (h2 : HOk ts P c.2) : bdM [TsD ts, ntD (iDs P), clD c] k = .ret (.list (((RW ts P).filter (barC ts P c)).map rD)) k := by
  have e1 := rwo_ok hT hP k
  have hlen := rw_len hT hP
  obtain ⟨s5, s6, e2⟩ := bdL_ok hT hP k h1 (X := RW ts P) (fun r hr => hr) (by omega) (clD c) (.inl rfl) .no .no
  have hf := List.length_filter_le (inH ts P c.1) (RW ts P)
  obtain ⟨s5', s6', e3⟩ := bdL_ok hT hP k h2 (X := (RW ts P).filter (inH ts P c.1)) (fun r hr => (List.mem_filter.mp hr).1) (by omega) (clD c) (.inr rfl) s5 s6
  rw [List.filter_filter] at e3
  have e4 : (RW ts P).filter (fun a => inH ts P c.2 a && inH ts P c.1 a) = (RW ts P).filter (barC ts P c) := List.filter_congr fun r _ => Bool.and_comm _ _
  rw [e4] at e3
  have e5 : mLoop (mGn 4) bdL [hD c.1, hD c.2] ⟨[.fz (TsD ts), .fz (ntD (iDs P)), .fz (clD c), .fz (.list ((RW ts P).map rD)), .no, .no, .no, .no], k⟩ = .next ⟨[.fz (TsD ts), .fz (ntD (iDs P)), .fz (clD c), .ml (((RW ts P).filter (barC ts P c)).map rD), .fz (hD c.2), s5', s6', .no], k⟩ := by
    unfold mLoop
    simp only [e_gn, List.set_cons_succ, List.set_cons_zero, e2]
    unfold mLoop
    simp only [e_gn, List.set_cons_succ, List.set_cons_zero, e3]
    rfl
  have e6 : dSeq (clD c) = some [hD c.1, hD c.2] := rfl
  unfold bdM mFun bdB
  simp [sl0, List.replicate, e1, e6, e5]
end
/-! ### what clauses let, by the law -/
theorem e_putU {i : Nat} {mk mv : ME} {ps : Ps} : mPutU i mk mv ps = (mv ps).bindS fun v ps1 => if isUd ps1.sl[i]? = true then (mk ps1).bindS fun y ps2 => match putU ps2.sl[i]? y v with
  | some s => .next (ps2.setS i s)
  | none => .bad else .bad := rfl
def ltB : MS :=
  (mSeq (mOwnD 3 mNewD)
    (mSeq (mFor (mIter (mVar 2)) (mGn 4)
    (mFor (mIter (mCall bdM (mCons (mVar 0) (mCons (mVar 1) (mCons (mVar 4) mNil))))) (mGn 5)
    (mPutU 3 (mVar 5) (mC (.bool true)))))
    (mRet (mB dTuple (mCons (mFz (mComp (mIter (mCall rwoM (mCons (mVar 0) (mCons (mVar 1) mNil)))) (mGn 5) (mTst (mInU true (mVar 5) 3)) (mVar 5) [5])) mNil)))))
def ltM : MF := mFun 3 6 ltB
section
variable {ts : List (List Nat)} (hT : TsOk ts) {P : List Nat} (hP : PrOk ts P) (k : Dk)
include hT hP
theorem lt_ok {cs : List Cl2} (hc : ∀ c ∈ cs, HOk ts P c.1 ∧ HOk ts P c.2) (hl : cs.length ≤ 10000) : ltM [TsD ts, ntD (iDs P), .tuple (cs.map clD)] k = .ret (.tuple ((letR ts P cs).map rD)) k := by
  have hlen := rw_len hT hP
  have e3 := rwo_ok hT hP k
  obtain ⟨ps', e, L, sl, s4, s5, hK, hL, -, rfl⟩ := loop_map clD (g := mGn 4) (body := (mFor (mIter (mCall bdM (mCons (mVar 0) (mCons (mVar 1) (mCons (mVar 4) mNil))))) (mGn 5)
    (mPutU 3 (mVar 5) (mC (.bool true))))) (xs := cs) (ps := ⟨[.fz (TsD ts), .fz (ntD (iDs P)), .fz (.tuple (cs.map clD)), .md [], .no, .no], k⟩)
    (fun done ps => ∃ L sl s4 s5, Kn P.length sl L ∧ (∀ r, r ∈ L ↔ r ∈ RW ts P ∧ barA ts P done r = true) ∧ L.length ≤ done.length * 64 ∧ ps = ⟨[.fz (TsD ts), .fz (ntD (iDs P)), .fz (.tuple (cs.map clD)), sl, s4, s5], k⟩) ⟨[], .md [], .no, .no, kn_nil hP.len, by simp [barA], by simp, rfl⟩ (by
      rintro done c rest ps hx ⟨L, sl, s4, s5, hK, hL, hLl, rfl⟩
      have hd : done.length ≤ 10000 := by
        have := congrArg List.length hx
        rw [List.length_append] at this
        omega
      have hcc := hc c (by rw [hx]; simp)
      have e1 := bd_ok hT hP k hcc.1 hcc.2
      have hfl := List.length_filter_le (barC ts P c) (RW ts P)
      obtain ⟨ps', e, L', sl', s5', hK', hL', hLl', rfl⟩ := loop_map rD (g := mGn 5) (body := (mPutU 3 (mVar 5) (mC (.bool true)))) (xs := (RW ts P).filter (barC ts P c)) (ps := ⟨[.fz (TsD ts), .fz (ntD (iDs P)), .fz (.tuple (cs.map clD)), sl, .fz (clD c), s5], k⟩)
        (fun dn ps => ∃ L' sl' s5, Kn P.length sl' L' ∧ (∀ r, r ∈ L' ↔ r ∈ L ∨ r ∈ dn) ∧ L'.length ≤ L.length + dn.length ∧ ps = ⟨[.fz (TsD ts), .fz (ntD (iDs P)), .fz (.tuple (cs.map clD)), sl', .fz (clD c), s5], k⟩) ⟨L, sl, s5, hK, by simp, by simp, rfl⟩ (by
          rintro dn r rs ps hx2 ⟨L', sl', s5, hK', hL', hLl', rfl⟩
          have hr : r ∈ RW ts P := by
            have : r ∈ (RW ts P).filter (barC ts P c) := by rw [hx2]; simp
            exact (List.mem_filter.mp this).1
          have hdn : dn.length ≤ 64 := by
            have := congrArg List.length hx2
            rw [List.length_append] at this
            omega
          obtain ⟨sl2, ep, hK2⟩ := kn_put hK' (rw_mem hr).1 (by omega)
          have hu := kn_ud hK'
          refine ⟨⟨[.fz (TsD ts), .fz (ntD (iDs P)), .fz (.tuple (cs.map clD)), sl', .fz (clD c), .fz (rD r)], k⟩, ⟨[.fz (TsD ts), .fz (ntD (iDs P)), .fz (.tuple (cs.map clD)), sl2, .fz (clD c), .fz (rD r)], k⟩, rfl, .inl ?_, insL L' r, sl2, _, hK2, ?_, ?_, rfl⟩
          · simp [e_putU, hu, ep]
          · intro x
            rw [mem_insL, hL', List.mem_append, List.mem_singleton, or_assoc]
          · have := insL_len (L := L') (x := r)
            rw [List.length_append, List.length_singleton]; omega)
      refine ⟨⟨[.fz (TsD ts), .fz (ntD (iDs P)), .fz (.tuple (cs.map clD)), sl, .fz (clD c), s5], k⟩, ⟨[.fz (TsD ts), .fz (ntD (iDs P)), .fz (.tuple (cs.map clD)), sl', .fz (clD c), s5'], k⟩, rfl, .inl ?_, L', sl', _, _, hK', ?_, ?_, rfl⟩
      · simp [e1, e]
      · intro r
        rw [hL', hL, List.mem_filter]
        unfold barA
        rw [List.any_append]
        simp only [List.any_cons, List.any_nil, Bool.or_false, Bool.or_eq_true]
        constructor
        · rintro (⟨a, b⟩ | ⟨a, b⟩)
          · exact ⟨a, .inl b⟩
          · exact ⟨a, .inr b⟩
        · rintro ⟨a, b | b⟩
          · exact .inl ⟨a, b⟩
          · exact .inr ⟨a, b⟩
      · rw [List.length_append, List.length_singleton, Nat.add_mul]; omega)
  have c1 := comp_gen rD (mi := (mIter (mCall rwoM (mCons (mVar 0) (mCons (mVar 1) mNil))))) (g := (mGn 5)) (tt := (mTst (mInU true (mVar 5) 3))) (te := (mVar 5)) (vs := [5]) (ps := ⟨[.fz (TsD ts), .fz (ntD (iDs P)), .fz (.tuple (cs.map clD)), sl, s4, s5], k⟩) (ps0 := ⟨[.fz (TsD ts), .fz (ntD (iDs P)), .fz (.tuple (cs.map clD)), sl, s4, .no], k⟩)
    (fun r => !barA ts P cs r) rD (xs := RW ts P) (by simp [e3]) (by simp) (by omega) (fun r hr => by
      have hh := hL r
      have u2 : lookU (some sl) (rD r) = some (if barA ts P cs r = true then some (.bool true) else none) := by
        rw [kn_look hK (rw_mem hr).1]
        by_cases hb : barA ts P cs r = true
        · rw [if_pos (hh.mpr ⟨hr, hb⟩), if_pos hb]
        · rw [if_neg (fun z => hb (hh.mp z).2), if_neg hb]
      cases hb : barA ts P cs r with
      | true => rw [hb, if_pos rfl] at u2; simp [e_inU, u2]
      | false => rw [hb, if_neg (by simp)] at u2; simp [e_inU, u2])
  have e9 : dSeq (.tuple (cs.map clD)) = some (cs.map clD) := rfl
  unfold ltM mFun ltB
  simp [sl0, List.replicate, e9, e, c1, dTuple_list, letR]
end
end PP
/-! Halves by the law, things drawn, what is alike, rows among rows, rows turned about. -/
namespace PP
open PySem MM L2
/-! ### alike in kinds -/
def Sm : Nat → D → Prop
  | 0, d => ∃ a : Nat, d = iD a
  | n + 1, d => (∃ a : Nat, d = iD a) ∨ ∃ xs, d = .tuple xs ∧ xs.length ≤ 16777216 ∧ ∀ x ∈ xs, Sm n x
theorem Sm_iD (n a : Nat) : Sm n (iD a) := by
  cases n with
  | zero => exact ⟨a, rfl⟩
  | succ n => exact .inl ⟨a, rfl⟩
theorem Sm_tup {n : Nat} {xs : List D} (hl : xs.length ≤ 16777216) (h : ∀ x ∈ xs, Sm n x) : Sm (n + 1) (.tuple xs) := .inr ⟨xs, rfl, hl, h⟩
theorem Sm_TD (n : Nat) {xs : List Nat} (hl : xs.length ≤ 16777216) : Sm (n + 1) (TD xs) := Sm_tup (by unfold iDs; rw [List.length_map]; exact hl) fun x hx => by
  obtain ⟨a, _, rfl⟩ := List.mem_map.mp hx
  exact Sm_iD _ _
theorem same_gen : ∀ (n : Nat) (d : D), Sm n d → ∀ k : Dk, sameM (n + 1) [d, d] k = .ret (.bool true) k := by
  have hi : ∀ (n a : Nat) (k : Dk), sameM (n + 1) [iD a, iD a] k = .ret (.bool true) k := fun n a k => by
    have := same_int n a a k
    rwa [decide_eq_true rfl] at this
  intro n
  induction n with
  | zero => rintro d ⟨a, rfl⟩ k; exact hi _ _ _
  | succ n ih =>
    rintro d (⟨a, rfl⟩ | ⟨xs, rfl, hl, h⟩) k
    · exact hi _ _ _
    · show mFun 2 4 (sameB (sameM (n + 1))) _ _ = _
      have hz : dZip [.tuple xs, .tuple xs] = some (xs.map fun x => PyData.tuple [x, x]) := by
        show some (zipD xs xs) = _
        unfold zipD
        congr 1
        clear h hl
        induction xs with
        | nil => rfl
        | cons x xs ih => rw [List.zip_cons_cons, List.map_cons, List.map_cons, ih]
      have c1 := comp_gen (fun x => PyData.tuple [x, x]) (mi := (mZip (mCons (mVar 0) (mCons (mVar 1) mNil)))) (g := (mGp 2 3)) (tt := mYes) (te := (mCall (sameM (n + 1)) (mCons (mVar 2) (mCons (mVar 3) mNil)))) (vs := [2, 3]) (ps := ⟨[.fz (.tuple xs), .fz (.tuple xs), .no, .no], k⟩) (ps0 := ⟨[.fz (.tuple xs), .fz (.tuple xs), .no, .no], k⟩)
        (fun _ => true) (fun _ => .bool true) (xs := xs) (by simp [hz]) (by simp) hl (fun x hx => by
          have := ih x (h x hx) k
          simp [this])
      have e1 : (List.filter (fun _ => true) xs).map (fun _ => PyData.bool true) = List.replicate xs.length (.bool true) := by
        rw [List.filter_eq_self.mpr (by simp)]
        clear c1 hz hl h
        induction xs with
        | nil => rfl
        | cons x xs ih => simp [List.replicate_succ, ih]
      rw [e1] at c1
      have ha := dAll_true xs.length
      have t1 : isTup (.tuple xs) = true := rfl
      have t2 : isDeck (.tuple xs) = false := rfl
      have t3 : dLen [.tuple xs] = some (iD xs.length) := rfl
      unfold mFun sameB
      simp [sl0, List.replicate, t1, t2, t3, c1, ha]
theorem Sm_rD {r : List Nat} (h : r.length ≤ 16777216) (n : Nat) : Sm (n + 1) (rD r) := by
  unfold rD
  split
  · exact Sm_iD _ _
  · exact Sm_TD n h
theorem Sm_tb {P : List Nat} {R : List (List Nat)} (hP : P.length ≤ 2) (hl : R.length ≤ 10000) (hR : ∀ r ∈ R, r.length ≤ 2) (n : Nat) : Sm (n + 3) (tbD P R) := by
  refine Sm_tup (by rw [List.length_append]; unfold iDs; simp; omega) fun x hx => ?_
  rcases List.mem_append.mp hx with hx | hx
  · obtain ⟨a, _, rfl⟩ := List.mem_map.mp hx
    exact Sm_iD _ _
  · rw [List.mem_singleton] at hx
    subst hx
    refine Sm_tup (by rw [List.length_map]; omega) fun y hy => ?_
    obtain ⟨r, hr, rfl⟩ := List.mem_map.mp hy
    exact Sm_rD (by have := hR r hr; omega) _
/-! ### a row among rows -/
theorem rD_eqv {n : Nat} (hn : n = 1 ∨ n = 2) {r s : List Nat} (h1 : r.length = n) (h2 : s.length = n) : PyData.eqv (rD r) (rD s) = decide (r = s) := by
  rcases hn with rfl | rfl
  · match r, h1, s, h2 with
    | [a], _, [b], _ =>
      show PyData.eqv (iD a) (iD b) = _
      rw [eqv_iD]
      exact decide_eq_decide.mpr (by simp)
  · rw [rD_two h1, rD_two h2, eqv_TD]
theorem inB_rows {n : Nat} (hn : n = 1 ∨ n = 2) {r : List Nat} (h1 : r.length = n) {R : List (List Nat)} (h2 : ∀ s ∈ R, s.length = n) : dInB (rD r) (.tuple (R.map rD)) = some (decide (r ∈ R)) := by
  have s1 := (Ly_rows R).shaped (by omega)
  have s2 := (Ly_rD r).shaped (by omega)
  show (if (SeqAt.shaped (rD r) && SeqAt.shaped (.tuple (R.map rD))) = true then some ((R.map rD).any fun z => PyData.eqv z (rD r)) else none) = _
  rw [s1, s2, Bool.and_self, if_pos rfl]
  congr 1
  clear s1 s2
  induction R with
  | nil => rfl
  | cons s R ih =>
    rw [List.map_cons, List.any_cons, ih fun x hx => h2 x (by simp [hx]), rD_eqv hn (h2 s (by simp)) h1]
    by_cases h : s = r
    · subst h; simp
    · have : ¬ r = s := fun z => h z.symm
      simp [h, this]
/-! ### rows of two things, turned about -/
def ltR (r s : List Nat) : Prop := r.getD 0 0 < s.getD 0 0 ∨ r.getD 0 0 = s.getD 0 0 ∧ r.getD 1 0 < s.getD 1 0
theorem RW_sorted (ts : List (List Nat)) (i j : Nat) : (RW ts [i, j]).Pairwise ltR := by
  show (List.flatMap _ _).Pairwise ltR
  rw [List.pairwise_flatMap]
  refine ⟨fun a _ => ?_, List.pairwise_lt_range.imp fun {a b} hab x hx y hy => ?_⟩
  · rw [List.pairwise_map]
    exact List.pairwise_lt_range.imp fun {b c} h => .inr ⟨rfl, h⟩
  · obtain ⟨c, _, rfl⟩ := List.mem_map.mp hx
    obtain ⟨c', _, rfl⟩ := List.mem_map.mp hy
    exact .inl hab
theorem RW_nodup {ts : List (List Nat)} (i j : Nat) : (RW ts [i, j]).Nodup := (RW_sorted ts i j).imp fun {a b} h e => by
  subst e
  unfold ltR at h
  omega
theorem mem_RW2 {ts : List (List Nat)} {i j : Nat} {r : List Nat} : r ∈ RW ts [i, j] ↔ ∃ a b, r = [a, b] ∧ a ≤ nn ts i ∧ b ≤ nn ts j := by
  show r ∈ List.flatMap _ _ ↔ _
  simp only [List.mem_flatMap, List.mem_map, List.mem_range]
  constructor
  · rintro ⟨a, ha, b, hb, rfl⟩; exact ⟨a, b, rfl, by omega, by omega⟩
  · rintro ⟨a, b, rfl, ha, hb⟩; exact ⟨a, by omega, b, by omega, rfl⟩
theorem inH_turn {ts : List (List Nat)} {i j : Nat} (hne : i ≠ j) {h : Hf} (hi : h.1 ∈ [i, j]) (a b : Nat) : inH ts [j, i] h [b, a] = inH ts [i, j] h [a, b] := by
  unfold inH
  have e : [b, a].getD ([j, i].idxOf h.1) 0 = [a, b].getD ([i, j].idxOf h.1) 0 := by
    have hji : ¬ j = i := fun z => hne z.symm
    simp only [List.mem_cons, List.not_mem_nil, or_false] at hi
    have b1 : (j == i) = false := beq_eq_false_iff_ne.mpr hji
    have b2 : (i == j) = false := beq_eq_false_iff_ne.mpr hne
    rcases hi with hi | hi <;> rw [hi] <;> simp [List.idxOf_cons, b1, b2]
  rw [e]
theorem barA_turn {ts : List (List Nat)} {i j : Nat} (hne : i ≠ j) {cs : List Cl2} (hc : ∀ c ∈ cs, c.1.1 ∈ [i, j] ∧ c.2.1 ∈ [i, j]) (a b : Nat) : barA ts [j, i] cs [b, a] = barA ts [i, j] cs [a, b] := by
  unfold barA barC
  rw [Bool.eq_iff_iff, List.any_eq_true, List.any_eq_true]
  refine ⟨fun ⟨c, h, z⟩ => ⟨c, h, ?_⟩, fun ⟨c, h, z⟩ => ⟨c, h, ?_⟩⟩
  · rwa [inH_turn hne (hc c h).1, inH_turn hne (hc c h).2] at z
  · rwa [inH_turn hne (hc c h).1, inH_turn hne (hc c h).2]
def prR (r : List Nat) : Int × Int := ((r.getD 0 0 : Nat), (r.getD 1 0 : Nat))
theorem pairsOf_pD : ∀ ns : List (Int × Int), pairsOf (ns.map pD) = some ns
  | [] => rfl
  | (a, b) :: ns => by
    show (pairsOf (ns.map pD)).map (fun ns => (a, b) :: ns) = _
    rw [pairsOf_pD ns]; rfl
theorem rD_pD {r : List Nat} (h : r.length = 2) : rD r = pD (prR r) := by
  match r, h with
  | [a, b], _ => rfl
theorem sort_turn {ts : List (List Nat)} {i j : Nat} (hne : i ≠ j) {cs : List Cl2} (hc : ∀ c ∈ cs, c.1.1 ∈ [i, j] ∧ c.2.1 ∈ [i, j]) :
    dSortedP [.list ((letR ts [i, j] cs).map fun r => rD r.reverse)] = some (.list ((letR ts [j, i] cs).map rD)) := by
  have m1 : ∀ r, r ∈ letR ts [i, j] cs ↔ ∃ a b, r = [a, b] ∧ a ≤ nn ts i ∧ b ≤ nn ts j ∧ barA ts [i, j] cs [a, b] = false := fun r => by
    show r ∈ List.filter _ _ ↔ _
    rw [List.mem_filter, mem_RW2]
    constructor
    · rintro ⟨⟨a, b, rfl, h1, h2⟩, h3⟩; exact ⟨a, b, rfl, h1, h2, by simpa using h3⟩
    · rintro ⟨a, b, rfl, h1, h2, h3⟩; exact ⟨⟨a, b, rfl, h1, h2⟩, by simpa using h3⟩
  have m2 : ∀ r, r ∈ letR ts [j, i] cs ↔ ∃ a b, r = [b, a] ∧ a ≤ nn ts i ∧ b ≤ nn ts j ∧ barA ts [i, j] cs [a, b] = false := fun r => by
    show r ∈ List.filter _ _ ↔ _
    rw [List.mem_filter, mem_RW2]
    constructor
    · rintro ⟨⟨b, a, rfl, h1, h2⟩, h3⟩; exact ⟨a, b, rfl, h2, h1, by rw [← barA_turn hne hc]; simpa using h3⟩
    · rintro ⟨a, b, rfl, h1, h2, h3⟩; exact ⟨⟨b, a, rfl, h2, h1⟩, by rw [barA_turn hne hc]; simpa using h3⟩
  have n1 : (letR ts [i, j] cs).Nodup := List.Pairwise.filter _ (RW_nodup i j)
  have n2 : (letR ts [j, i] cs).Nodup := List.Pairwise.filter _ (RW_nodup j i)
  have hp : (letR ts [j, i] cs).Perm ((letR ts [i, j] cs).map List.reverse) := by
    rw [List.perm_ext_iff_of_nodup n2 (by
      refine List.Pairwise.map (R := fun a b => a ≠ b) _ (fun a b h e => h ?_) n1
      have := congrArg List.reverse e
      rwa [List.reverse_reverse, List.reverse_reverse] at this)]
    intro r
    rw [m2, List.mem_map]
    constructor
    · rintro ⟨a, b, rfl, h⟩; exact ⟨[a, b], (m1 _).mpr ⟨a, b, rfl, h⟩, rfl⟩
    · rintro ⟨s, hs, rfl⟩
      obtain ⟨a, b, rfl, h⟩ := (m1 _).mp hs
      exact ⟨a, b, rfl, h⟩
  have e1 : ((letR ts [i, j] cs).map fun r => rD r.reverse) = (((letR ts [i, j] cs).map List.reverse).map prR).map pD := by
    rw [List.map_map, List.map_map]
    refine List.map_congr_left fun r hr => ?_
    obtain ⟨a, b, rfl, -⟩ := (m1 r).mp hr
    rfl
  have e2 : (letR ts [j, i] cs).map rD = ((letR ts [j, i] cs).map prR).map pD := by
    rw [List.map_map]
    refine List.map_congr_left fun r hr => ?_
    obtain ⟨a, b, rfl, -⟩ := (m2 r).mp hr
    rfl
  have e3 : (letR ts [j, i] cs).map prR = sortP (((letR ts [i, j] cs).map List.reverse).map prR) := by
    refine sortP_eq (hp.map _) ?_
    rw [List.pairwise_map]
    have hs : (letR ts [j, i] cs).Pairwise ltR := List.Pairwise.filter _ (RW_sorted ts j i)
    refine hs.imp fun {r s} h => ?_
    unfold ltR at h
    refine decide_eq_true ?_
    unfold prR
    simp only
    omega
  rw [e1, e2, e3]
  show (pairsOf _).map (fun ns => PyData.list ((sortP ns).map pD)) = _
  rw [pairsOf_pD]; rfl
/-! ### the law's halves -/
def lhB : MS :=
  (mSeq (mSet 2 (mLst mNil))
    (mSeq (mFor (mIter (mB dSortedN (mCons (mVar 1) mNil))) (mGn 3)
    (mFor (mRange1 (mCons (mBin dAdd (mB dLen (mCons (mBin dIx (mVar 0) (mVar 3)) mNil)) (mC (.int 1))) mNil)) (mGn 4)
    (mSet 2 (mBin dAdd (mVar 2) (mFz (mComp (mIter (mCall nearM (mCons (mBin dIx (mVar 0) (mVar 3)) (mCons (mVar 4) mNil)))) (mGn 5) mYes (mTup (mCons (mVar 3) (mCons (mVar 4) (mCons (mVar 5) mNil)))) [5]))))))
    (mRet (mVar 2))))
def lhM : MF := mFun 2 6 lhB
section
variable {ts : List (List Nat)} (hT : TsOk ts) {P : List Nat} (hP : PrOk ts P) (k : Dk)
include hT
theorem nears_ok {i : Nat} (hi : i < ts.length) {a : Nat} (ha : a ≤ nn ts i) : nearM [TD (tg ts i), iD a] k = .ret (LD (nearL (tr ts i) (nn ts i) a)) k := by
  have q := hT.ok _ (ts_mem hi)
  have e : tr ts i = trOf (tg ts i) q.1 := trG_eq q.1
  rw [e]
  exact near_ok q.1 q.2 ha k
theorem lhA_ok {i a : Nat} (hi : i < ts.length) (ha : a ≤ nn ts i) (pD : D) (acc : List Hf) (hl : acc.length ≤ 100000) :
    (mSet 2 (mBin dAdd (mVar 2) (mFz (mComp (mIter (mCall nearM (mCons (mBin dIx (mVar 0) (mVar 3)) (mCons (mVar 4) mNil)))) (mGn 5) mYes (mTup (mCons (mVar 3) (mCons (mVar 4) (mCons (mVar 5) mNil)))) [5])))) ⟨[.fz (TsD ts), .fz pD, .fz (.list (acc.map hD)), .fz (iD i), .fz (iD a), .no], k⟩ =
      .next ⟨[.fz (TsD ts), .fz pD, .fz (.list ((acc ++ hvN ts i a).map hD)), .fz (iD i), .fz (iD a), .no], k⟩ := by
  have e1 := nears_ok hT k hi ha
  have e2 := ts_at hi
  have hn := near_len (T := tr ts i) ha
  have hv8 : (hvN ts i a).length = (nearL (tr ts i) (nn ts i) a).length := List.length_map _
  have h8 := nn_lt hT hi
  have z3 : 3 ≤ sizeLine := sz_le (by omega)
  have c1 := comp_nat (mi := (mIter (mCall nearM (mCons (mBin dIx (mVar 0) (mVar 3)) (mCons (mVar 4) mNil))))) (g := (mGn 5)) (tt := mYes) (te := (mTup (mCons (mVar 3) (mCons (mVar 4) (mCons (mVar 5) mNil))))) (vs := [5]) (ps := ⟨[.fz (TsD ts), .fz pD, .fz (.list (acc.map hD)), .fz (iD i), .fz (iD a), .no], k⟩) (ps0 := ⟨[.fz (TsD ts), .fz pD, .fz (.list (acc.map hD)), .fz (iD i), .fz (iD a), .no], k⟩)
    (fun _ => true) (fun b => hD (i, a, b)) (xs := nearL (tr ts i) (nn ts i) a) (by simp [e1, e2]) (by simp) (by omega) (fun x hx => by
      have : PyData.tuple [iD i, iD a, iD x] = hD (i, a, x) := rfl
      simp [z3, this])
  rw [List.filter_eq_self.mpr (by simp)] at c1
  have e3 : (nearL (tr ts i) (nn ts i) a).map (fun b => hD (i, a, b)) = (hvN ts i a).map hD := by unfold hvN; rw [List.map_map]; rfl
  rw [e3] at c1
  have hz := dAdd_list (xs := acc.map hD) (ys := (hvN ts i a).map hD) (by simp only [List.length_map]; omega)
  rw [List.map_append]
  generalize (hvN ts i a).map hD = X at *
  generalize acc.map hD = Y at *
  simp [c1, hz]
include hP
theorem lh_ok : lhM [TsD ts, ntD (iDs P)] k = .ret (.list ((HV ts P).map hD)) k := by
  have e1 := sP_sorted hP
  have hle : ∀ {A B : List Hf}, HV ts P = A ++ B → A.length ≤ 1000 := fun {A B} e => by
    have := HV_len hT hP
    rw [e, List.length_append] at this
    omega
  have hle : ∀ (done : List Nat), (∃ rest, sP P = done ++ rest) → (hvF ts done).length ≤ 1000 := fun done ⟨rest, e⟩ => by
    refine hle (B := hvF ts rest) ?_
    unfold HV
    rw [e, hvF_app]
  obtain ⟨ps', e, s3, s4, rfl⟩ := loop_nat (g := mGn 3) (body := (mFor (mRange1 (mCons (mBin dAdd (mB dLen (mCons (mBin dIx (mVar 0) (mVar 3)) mNil)) (mC (.int 1))) mNil)) (mGn 4)
    (mSet 2 (mBin dAdd (mVar 2) (mFz (mComp (mIter (mCall nearM (mCons (mBin dIx (mVar 0) (mVar 3)) (mCons (mVar 4) mNil)))) (mGn 5) mYes (mTup (mCons (mVar 3) (mCons (mVar 4) (mCons (mVar 5) mNil)))) [5])))))) (xs := sP P) (ps := ⟨[.fz (TsD ts), .fz (ntD (iDs P)), .fz (.list []), .no, .no, .no], k⟩)
    (fun done ps => ∃ s3 s4, ps = ⟨[.fz (TsD ts), .fz (ntD (iDs P)), .fz (.list ((hvF ts done).map hD)), s3, s4, .no], k⟩) ⟨_, _, rfl⟩ (by
      rintro done i rest ps hx ⟨s3, s4, rfl⟩
      have hi : i < ts.length := hP.lt _ ((sP_mem hP i).mp (by rw [hx]; simp))
      have e2 := ts_at hi
      have hl1 := hle done ⟨_, hx⟩
      generalize hA : (hvF ts done) = A at *
      have n8 := nn_lt hT hi
      have e7 : dLen [TD (tg ts i)] = some (iD (nn ts i)) := dLen_TD _
      have hr : dRange1 [iD (nn ts i + 1)] = some (iDs (List.range (nn ts i + 1))) := dRange1_iD (by omega)
      obtain ⟨ps', e, s4', rfl⟩ := loop_nat (g := mGn 4) (body := (mSet 2 (mBin dAdd (mVar 2) (mFz (mComp (mIter (mCall nearM (mCons (mBin dIx (mVar 0) (mVar 3)) (mCons (mVar 4) mNil)))) (mGn 5) mYes (mTup (mCons (mVar 3) (mCons (mVar 4) (mCons (mVar 5) mNil)))) [5]))))) (xs := List.range (nn ts i + 1)) (ps := ⟨[.fz (TsD ts), .fz (ntD (iDs P)), .fz (.list (A.map hD)), .fz (iD i), s4, .no], k⟩)
        (fun dn ps => ∃ s4, ps = ⟨[.fz (TsD ts), .fz (ntD (iDs P)), .fz (.list ((A ++ hvI ts i dn).map hD)), .fz (iD i), s4, .no], k⟩) ⟨s4, by simp [hvI]⟩ (by
          rintro dn a rest ps hx2 ⟨s4, rfl⟩
          obtain ⟨q1, q2, q3⟩ := range_at hx2
          have hdl : (hvI ts i dn).length ≤ 1000 := by
            have := hvI_len hT hi dn (fun x hx => by rw [q3, List.mem_range] at hx; omega)
            omega
          have e4 := lhA_ok hT k hi (a := a) (by omega) (ntD (iDs P)) (A ++ hvI ts i dn) (by rw [List.length_append]; omega)
          refine ⟨_, _, rfl, .inl e4, .fz (iD a), ?_⟩
          rw [hvI_app, hvI_one, List.append_assoc])
      refine ⟨⟨[.fz (TsD ts), .fz (ntD (iDs P)), .fz (.list (A.map hD)), .fz (iD i), s4, .no], k⟩, ⟨[.fz (TsD ts), .fz (ntD (iDs P)), .fz (.list ((A ++ hvI ts i (List.range (nn ts i + 1))).map hD)), .fz (iD i), s4', .no], k⟩, rfl, .inl ?_, .fz (iD i), s4', ?_⟩
      · simp [e2, e7, hr, e, -dLen_TD]
      · rw [hvF_app, hvF_one, hA])
  have z0 : 0 ≤ sizeLine := sz_le (by omega)
  have e6 : (hvF ts (sP P)) = HV ts P := rfl
  rw [e6] at e
  unfold lhM mFun lhB
  simp [sl0, List.replicate, e1, e, z0]
end
/-! ### things drawn -/
def thB : MS :=
  (mSeq (mSet 2 (mCall drawM (mCons (mVar 0) (mCons (mB dLen (mCons (mVar 1) mNil)) mNil))))
    (mSeq (mIfS (mOr (mTst (mBin dEq (mB dLen (mCons (mVar 1) mNil)) (mC (.int 1)))) (mTst (mBin dEq (mCall drawM (mCons (mVar 0) (mCons (mC (.int 3)) mNil))) (mC (.int 0)))))
    (mRet (mTupN (mCons (mVar 2) mNil))) mNext)
    (mRet (mTupN (mCons (mVar 2) (mCons (mBin dMod (mBin dAdd (mBin dAdd (mVar 2) (mC (.int 1))) (mCall drawM (mCons (mVar 0) (mCons (mBin dSub (mB dLen (mCons (mVar 1) mNil)) (mC (.int 1))) mNil)))) (mB dLen (mCons (mVar 1) mNil))) mNil))))))
def thM : MF := mFun 2 3 thB
theorem dMod_iD {a b : Nat} (h : 0 < b) : dMod (iD a) (iD b) = some (iD (a % b)) := by
  show dMod (.int _) (.int _) = _
  rw [dMod_i (by omega)]
  rfl
theorem th_ok {ts : List (List Nat)} (h0 : 0 < ts.length) (h1 : ts.length ≤ 1000) {k : Dk} {c : Nat} (v : Vd k c) (hc : c < 2 ^ 58) : ∃ P k', thM [deckD, TsD ts] k = .ret (ntD (iDs P)) k' ∧ PrOk ts P ∧ Vd k' (c + 3) := by
  obtain ⟨r1, k1, d1, hr1, v1⟩ := draw_nat (lots := ts.length) v (by omega) (by omega) (by omega)
  have hO : dLen [TsD ts] = some (iD ts.length) := by show some (PyData.int ((ts.map TD).length : Nat)) = _; rw [List.length_map]; rfl
  have z1 : 1 ≤ sizeLine := sz_le (by omega)
  have z2 : 2 ≤ sizeLine := sz_le (by omega)
  have one : ntD [iD r1] = ntD (iDs [r1]) := rfl
  have p1 : PrOk ts [r1] := ⟨.inl rfl, by simp, fun i hi => by rw [List.mem_singleton] at hi; omega⟩
  by_cases hl : ts.length = 1
  · have q1 : dEq (iD ts.length) (.int 1) = some (.bool true) := by rw [hl]; rfl
    refine ⟨[r1], k1, ?_, p1, v1.le (by omega)⟩
    unfold thM mFun thB
    simp [sl0, List.replicate, hO, d1, q1, z1, one]
  · have q1 : dEq (iD ts.length) (.int 1) = some (.bool false) := by
      have : dEq (iD ts.length) (iD 1) = some (.bool (decide (ts.length = 1))) := dEq_iD _ _
      rwa [decide_eq_false hl] at this
    obtain ⟨r2, k2, d2, hr2, v2⟩ := draw_nat (lots := 3) v1 (by omega) (by omega) (by omega)
    have d2 : drawM [deckD, .int 3] k1 = .ret (iD r2) k2 := d2
    have q2 : dEq (iD r2) (.int 0) = some (.bool (decide (r2 = 0))) := dEq_iD r2 0
    by_cases h3 : r2 = 0
    · rw [decide_eq_true h3] at q2
      refine ⟨[r1], k2, ?_, p1, v2.le (by omega)⟩
      unfold thM mFun thB
      simp [sl0, List.replicate, hO, d1, q1, d2, q2, z1, one]
    · rw [decide_eq_false h3] at q2
      obtain ⟨r3, k3, d3, hr3, v3⟩ := draw_nat (lots := ts.length - 1) v2 (by omega) (by omega) (by omega)
      have s1 : dSub (iD ts.length) (.int 1) = some (iD (ts.length - 1)) := dSub_iD1 (by omega)
      have m1 := dMod_iD (a := r1 + 1 + r3) (b := ts.length) h0
      have hlt : (r1 + 1 + r3) % ts.length < ts.length := Nat.mod_lt _ h0
      have hne : (r1 + 1 + r3) % ts.length ≠ r1 := by
        by_cases hc : r1 + 1 + r3 < ts.length
        · rw [Nat.mod_eq_of_lt hc]; omega
        · rw [Nat.mod_eq_sub_mod (by omega), Nat.mod_eq_of_lt (by omega)]; omega
      generalize (r1 + 1 + r3) % ts.length = w at *
      have two : ntD [iD r1, iD w] = ntD (iDs [r1, w]) := rfl
      refine ⟨[r1, w], k3, ?_, ⟨.inr rfl, by simp; exact fun z => hne z.symm, fun i hi => ?_⟩, v3.le (by omega)⟩
      · unfold thM mFun thB
        simp [sl0, List.replicate, hO, d1, q1, d2, q2, d3, s1, m1, z2, two]
      · simp only [List.mem_cons, List.not_mem_nil, or_false] at hi
        omega
end PP
/-! Trees drawn of at most so many places, parts of clauses, what repr takes. -/
namespace PP
open PySem MM L2
theorem trunks_gen {most : Nat} (hm : 0 < most) (hm8 : most ≤ 8) {n : Nat} {mi : MA} {g : MG} {te : ME} {vs : List Nat} {ps : Ps} {sl : List Sl} {k0 : Dk} {c : Nat} (hn : n ≤ 5) (hi : ((mi ps).bind fun ds q => .ok ds (wipeP q vs)) = .ok (iDs (List.range n)) ⟨sl, k0⟩) (v : Vd k0 c) (hc : c < 2 ^ 40)
    (hg : ∀ x k, ∃ ps1, g (iD x) ⟨sl, k⟩ = some ps1 ∧ ∀ t k', treeM [deckD, iD most] k = .ret (TD t) k' → ∃ ps3, te ps1 = .ok (TD t) ps3 ∧ wipeP ps3 vs = ⟨sl, k'⟩) :
    ∃ ts k', mComp mi g mYes te vs ps = .ok (ts.map TD) (wipeP ⟨sl, k'⟩ vs) ∧ TsOk ts ∧ ts.length = n ∧ Vd k' (c + 10 * n) := by
  obtain ⟨ys, ps', e, ⟨ts, k', rfl, hT, hlen, rfl, v'⟩, -⟩ := comp_inv (te := te) (g := g) (vs := vs) (fun done acc ps => ∃ ts k', acc = ts.map TD ∧ (∀ t ∈ ts, TrOk t ∧ t.length < 8) ∧ ts.length = done.length ∧ ps = ⟨sl, k'⟩ ∧ Vd k' (c + 10 * done.length)) hi (by simp; omega) ⟨[], k0, rfl, fun t ht => (nomatch ht), rfl, rfl, v.le (by simp)⟩ (by
    rintro done x rest acc ps hx hlen ⟨ts, k', rfl, hT, hl, rfl, v'⟩
    obtain ⟨h1, h2, -⟩ := range_at hx
    obtain ⟨_, k1, e1, t, rfl, hl8, ht, v1⟩ := (tree_ok (most := most) v' (by omega) (by omega) (by omega)).ex
    obtain ⟨ps1, g1, g2⟩ := hg x k'
    obtain ⟨ps3, g3, g4⟩ := g2 t k1 e1
    have hd : (done ++ [x]).length = done.length + 1 := by simp
    refine ⟨ps1, ps3, TD t, g1, g3, ts ++ [t], k1, by simp, fun u hu => ?_, by simp [hl], g4, v1.le (by rw [hd]; omega)⟩
    rcases List.mem_append.mp hu with hu | hu
    · exact hT u hu
    · rw [List.mem_singleton.mp hu]; exact ⟨ht, by omega⟩)
  have l : (List.range n).length = n := by simp
  rw [l] at hlen v'
  exact ⟨ts, k', e, ⟨hT⟩, hlen, v'⟩
theorem TsD_len (ts : List (List Nat)) : dLen [TsD ts] = some (iD ts.length) := by show some (PyData.int ((ts.map TD).length : Int)) = _; rw [List.length_map]; rfl
/-! parts -/
theorem cut_map {α β : Type} (f : α → β) (xs : List α) (lo hi : Option Int) : cut (xs.map f) lo hi = (cut xs lo hi).map f := by
  unfold cut
  rw [List.length_map, List.map_take, List.map_drop]
theorem mem_cut {α : Type} {xs : List α} {lo hi : Option Int} {x : α} (h : x ∈ cut xs lo hi) : x ∈ xs := List.mem_of_mem_drop (List.mem_of_mem_take h)
theorem cut_len {α : Type} (xs : List α) (lo hi : Option Int) : (cut xs lo hi).length ≤ xs.length := by
  unfold cut
  rw [List.length_take, List.length_drop]; omega
theorem cut_to {α : Type} (xs : List α) (c : Nat) : cut xs none (some (c : Int)) = xs.take c := by
  show (xs.drop 0).take (HT.sIx xs.length xs.length (some ((c : Nat) : Int)) - 0) = _
  rw [HT.sIx_nat]
  simp
theorem cut_from {α : Type} (xs : List α) (c : Nat) (h : c ≤ xs.length) : cut xs (some (c : Int)) none = xs.drop c := by
  show (xs.drop (HT.sIx xs.length 0 (some ((c : Nat) : Int)))).take (xs.length - HT.sIx xs.length 0 (some ((c : Nat) : Int))) = _
  rw [HT.sIx_nat]
  have : min c xs.length = c := by omega
  rw [this, List.take_of_length_le (by simp)]
theorem dSl_map {α : Type} (f : α → D) (xs : List α) (lo hi : Option Int) : dSl (.tuple (xs.map f)) lo hi = some (.tuple ((cut xs lo hi).map f)) := by
  rw [dSl_tuple, cut_map]
theorem dAdd_map {α : Type} (f : α → D) {xs ys : List α} (h : xs.length + ys.length ≤ 16777216) : dAdd (.tuple (xs.map f)) (.tuple (ys.map f)) = some (.tuple ((xs ++ ys).map f)) := by
  rw [dAdd_tuple (by simpa using h), List.map_append]
theorem dRev_map {α : Type} (f : α → D) (xs : List α) : dRev (.tuple (xs.map f)) = some (.tuple (xs.reverse.map f)) := by
  show some (PyData.tuple (xs.map f).reverse) = _
  rw [List.map_reverse]
/-! repr -/
theorem Cl_iD {b i : Nat} {l dd : Bool} (h : i ≤ b) : SZ.Cl b l dd 1 0 (iD i) := ⟨by unfold iD; rw [SZ.ck]; exact decide_eq_true (by simpa using h), by show SZ.nd (.int _) ≤ 1; simp only [SZ.nd]; omega, by show (PyData.int _).depth ≤ 0; rw [PyData.depth]; omega⟩
theorem Ca_map {α : Type} {b n m : Nat} {l dd : Bool} {f : α → D} : ∀ {xs : List α}, (∀ x ∈ xs, SZ.Cl b l dd n m (f x)) → SZ.Ca b l dd (xs.length * n) m (xs.map f)
  | [], _ => SZ.Ca.nil.le (Nat.zero_le _) (Nat.zero_le _)
  | x :: xs, h => (SZ.Ca.cons (h x (by simp)) (Ca_map fun y hy => h y (by simp [hy]))).le (by rw [List.length_cons, Nat.add_mul]; omega) (Nat.le_refl _)
theorem Cl_TD {b : Nat} {l dd : Bool} {xs : List Nat} (h : ∀ x ∈ xs, x ≤ b) : SZ.Cl b l dd (xs.length + 1) 1 (TD xs) := by
  have := (Ca_map (f := iD) (l := l) (dd := dd) fun x hx => Cl_iD (h x hx)).tup
  rw [Nat.mul_one] at this
  exact this
theorem Cl_Ts {b : Nat} {l dd : Bool} (hb : 8 ≤ b) {ts : List (List Nat)} (h : TsOk ts) : SZ.Cl b l dd (ts.length * 9 + 1) 2 (TsD ts) :=
  (Ca_map (f := TD) (n := 9) (m := 1) fun t ht => (Cl_TD fun x hx => by
    obtain ⟨h1, h2⟩ := h.ok t ht
    obtain ⟨i, hi, e⟩ := List.getElem_of_mem hx
    have := h1 i x (by rw [List.getElem?_eq_getElem hi, e])
    omega).le (by have := (h.ok t ht).2; omega) (Nat.le_refl _)).tup
end PP
/-! The plain functions of the law k10, printed by gen.py. -/
namespace G_k10
open PySem MM L2 PySem.W

def b_places_in : MS :=
  (mRet (mFz (mRgL (mCons (mBin dAdd (mB dLen (mCons (mVar 0) mNil)) (mC (.int 1))) mNil))))
def m_places_in : MF := mFun 1 1 b_places_in
def b_joined_with : MS :=
  (mSeq (mOwn 2 (mComp (mEnum (mCons (mVar 0) mNil)) (mGp 3 4) (mTst (mBin dEq (mVar 4) (mVar 1))) (mBin dAdd (mVar 3) (mC (.int 1))) [3, 4]))
    (mSeq (mIfS (mTst (mBin dGt (mVar 1) (mC (.int 0))))
    (mDrop (mInsert 2 (mC (.int 0)) (mBin dIx (mVar 0) (mBin dSub (mVar 1) (mC (.int 1)))))) mNext)
    (mRet (mVar 2))))
def m_joined_with : MF := mFun 2 5 b_joined_with
def b_to_first : MS :=
  (mSeq (mOwn 2 (mDisp (mCons (mVar 1) mNil)))
    (mSeq (mWhile (mTst (mBin dGt (mIxV 2 (mUn dNeg (mC (.int 1)))) (mC (.int 0))))
    (mDrop (mAppend 2 (mBin dIx (mVar 0) (mBin dSub (mIxV 2 (mUn dNeg (mC (.int 1)))) (mC (.int 1)))))) 64)
    (mRet (mVar 2))))
def m_to_first : MF := mFun 2 3 b_to_first
def b_way : MS :=
  (mSeq (mAsg (mGp 3 4) (mTup (mCons (mCall m_to_first (mCons (mVar 0) (mCons (mVar 1) mNil))) (mCons (mCall m_to_first (mCons (mVar 0) (mCons (mVar 2) mNil))) mNil))))
    (mSeq (mOwn 5 (mComp (mIter (mVar 3)) (mGn 8) (mTst (mBin dNotIn (mVar 8) (mVar 4))) (mVar 8) [8]))
    (mSeq (mOwn 6 (mComp (mIter (mVar 3)) (mGn 8) (mTst (mBin dIn (mVar 8) (mVar 4))) (mVar 8) [8]))
    (mSeq (mOwn 7 (mComp (mIter (mVar 4)) (mGn 8) (mTst (mBin dNotIn (mVar 8) (mVar 3))) (mVar 8) [8]))
    (mRet (mB dTuple (mCons (mBin dAdd (mBin dAdd (mVar 5) (mSl (mVar 6) mNoPart (mPart (mC (.int 1))))) (mUn dRev (mVar 7))) mNil)))))))
def m_way : MF := mFun 3 9 b_way
def b_side : MS :=
  (mRet (mB dTuple (mCons (mFz (mComp (mIter (mCall m_places_in (mCons (mVar 0) mNil))) (mGn 3) (mTst (mBin dIn (mVar 2) (mCall m_way (mCons (mVar 0) (mCons (mVar 3) (mCons (mVar 1) mNil)))))) (mVar 3) [3])) mNil)))
def m_side : MF := mFun 3 4 b_side
def b_all_rows : MS :=
  (mSeq (mIfS (mTst (mBin dEq (mB dLenN (mCons (mVar 1) mNil)) (mC (.int 1))))
    (mRet (mCall m_places_in (mCons (mBin dIx (mVar 0) (mBin dIxN (mVar 1) (mC (.int 0)))) mNil))) mNext)
    (mRet (mFz (mComp2 (mIter (mCall m_places_in (mCons (mBin dIx (mVar 0) (mBin dIxN (mVar 1) (mC (.int 0)))) mNil))) (mGn 2) mYes (mIter (mCall m_places_in (mCons (mBin dIx (mVar 0) (mBin dIxN (mVar 1) (mC (.int 1)))) mNil))) (mGn 3) mYes (mTup (mCons (mVar 2) (mCons (mVar 3) mNil))) [2, 3] [3]))))
def m_all_rows : MF := mFun 2 4 b_all_rows
def b_halves_of : MS :=
  (mSeq (mOwn 2 (mDisp mNil))
    (mSeq (mFor (mIter (mB dSortedN (mCons (mVar 1) mNil))) (mGn 3)
    (mFor (mIter (mCall m_places_in (mCons (mBin dIx (mVar 0) (mVar 3)) mNil))) (mGn 4)
    (mDrop (mExtend 2 (mFz (mComp (mIter (mCall m_joined_with (mCons (mBin dIx (mVar 0) (mVar 3)) (mCons (mVar 4) mNil)))) (mGn 5) mYes (mTup (mCons (mVar 3) (mCons (mVar 4) (mCons (mVar 5) mNil)))) [5]))))))
    (mRet (mVar 2))))
def m_halves_of : MF := mFun 2 6 b_halves_of
def b_half_bits : MS :=
  (mSeq (mAsg (mGt 3 4 5) (mVar 2))
    (mSeq (mPar 6 7 (mCons (mCall m_side (mCons (mBin dIx (mVar 0) (mVar 3)) (mCons (mVar 4) (mCons (mVar 5) mNil)))) (mCons (mIdxN (mVar 1) (mVar 3)) mNil)))
    (mSeq (mSet 8 (mC (.int 0)))
    (mSeq (mFor (mEnum (mCons (mCall m_all_rows (mCons (mVar 0) (mCons (mVar 1) mNil))) mNil)) (mGp 9 10)
    (mSeq (mSet 11 (mIf (mTst (mBin dEq (mB dLenN (mCons (mVar 1) mNil)) (mC (.int 1)))) (mVar 10) (mBin dIx (mVar 10) (mVar 7))))
    (mIfS (mTst (mBin dIn (mVar 11) (mVar 6)))
    (mAug (fun i j => i + j) 8 (mBin dShl (mC (.int 1)) (mVar 9))) mNext)))
    (mRet (mVar 8))))))
def m_half_bits : MF := mFun 3 12 b_half_bits
def b_row_bits : MS :=
  (mSeq (mOwnU 3 (mDg (mIter (mVar 2)) (mGn 4) mYes (mKv (mVar 4) (mC (.bool true))) [4]))
    (mRet (mB dSum (mCons (mFz (mComp (mEnum (mCons (mCall m_all_rows (mCons (mVar 0) (mCons (mVar 1) mNil))) mNil)) (mGp 5 4) (mTst (mInU false (mVar 4) 3)) (mBin dShl (mC (.int 1)) (mVar 5)) [5, 4])) mNil))))
def m_row_bits : MF := mFun 3 6 b_row_bits
def b_by_clauses : MS :=
  (mSeq (mOwnU 3 (mDg (mIter (mVar 2)) (mGn 8) mYes (mIn (mIter (mVar 8)) (mGn 5) mYes (mKv (mVar 5) (mCall m_half_bits (mCons (mVar 0) (mCons (mVar 1) (mCons (mVar 5) mNil))))) [5]) [8, 5]))
    (mSeq (mSet 4 (mC (.int 0)))
    (mSeq (mFor (mIter (mVar 2)) (mGp 5 6)
    (mSet 4 (mBin dOr (mVar 4) (mBin dAnd (mIxU 3 (mVar 5)) (mIxU 3 (mVar 6))))))
    (mSeq (mOwn 7 (mComp (mEnum (mCons (mCall m_all_rows (mCons (mVar 0) (mCons (mVar 1) mNil))) mNil)) (mGp 9 10) (mTst (mBin dEq (mBin dAnd (mBin dShr (mVar 4) (mVar 9)) (mC (.int 1))) (mC (.int 0)))) (mVar 10) [9, 10]))
    (mRet (mBin dAddN (mVar 1) (mTup (mCons (mB dTuple (mCons (mVar 7) mNil)) mNil))))))))
def m_by_clauses : MF := mFun 3 11 b_by_clauses
def b_barring : MS :=
  (mSeq (mAsg (mGp 2 3) (mTup (mCons (mSlN (mVar 1) mNoPart (mPart (mUn dNeg (mC (.int 1))))) (mCons (mBin dIx (mVar 1) (mUn dNeg (mC (.int 1)))) mNil))))
    (mSeq (mPar 4 5 (mCons (mCall m_row_bits (mCons (mVar 0) (mCons (mVar 2) (mCons (mVar 3) mNil)))) (mCons (mCall m_halves_of (mCons (mVar 0) (mCons (mVar 2) mNil))) mNil)))
    (mSeq (mOwn 6 (mComp (mIter (mVar 5)) (mGn 9) mYes (mCall m_half_bits (mCons (mVar 0) (mCons (mVar 2) (mCons (mVar 9) mNil)))) [9]))
    (mSeq (mOwnD 7 mNewD)
    (mSeq (mFor (mEnum (mCons (mVar 5) mNil)) (mGp 8 9)
    (mFor (mRange2 (mCons (mVar 8) (mCons (mB dLen (mCons (mVar 5) mNil)) mNil))) (mGn 10)
    (mSeq (mSet 11 (mBin dAnd (mBin dIx (mVar 6) (mVar 8)) (mBin dIx (mVar 6) (mVar 10))))
    (mIfS (mAnd (mTst (mBin dGt (mVar 11) (mC (.int 0)))) (mAnd (mTst (mBin dEq (mBin dAnd (mVar 11) (mVar 4)) (mC (.int 0)))) (mTst (mBR bNotIn (mVar 11) 7))))
    (mPut 7 (mVar 11) (mTup (mCons (mVar 9) (mCons (mBin dIx (mVar 5) (mVar 10)) mNil)))) mNext))))
    (mRet (mVar 7)))))))
def m_barring : MF := mFun 2 12 b_barring
def b_filled : MS :=
  (mSeq (mIfS (mTst (mBin (dEq0 id) (mBin dIx (mVar 1) (mUn dNeg (mC (.int 1)))) (mTup mNil)))
    (mRet (mVar 1)) mNext)
    (mRet (mCall m_by_clauses (mCons (mVar 0) (mCons (mSlN (mVar 1) mNoPart (mPart (mUn dNeg (mC (.int 1))))) (mCons (mValsL (mCall m_barring (mCons (mVar 0) (mCons (mVar 1) mNil)))) mNil))))))
def m_filled : MF := mFun 2 2 b_filled
def b_unmiddled : MS :=
  (mSeq (mIfS (mTst (mBin dEq (mCall m_filled (mCons (mVar 0) (mCons (mVar 1) mNil))) (mVar 1)))
    (mRet (mC .none)) mNext)
    mBads)
def m_unmiddled : MF := mFun 2 3 b_unmiddled
def b__law_deck : MS :=
  (mSeq (mSet 2 (mBin dAdd (mC (.int 20011)) (mB dLen (mCons (mVar 1) mNil))))
    (mSeq (mFor (mIter (mVar 1)) (mGn 3)
    (mSet 2 (mBin dMod (mBin dAdd (mBin dAdd (mBin dMul (mVar 2) (mC (.int 48271))) (mBin dMod (mVar 3) (mC (.int 2147483629)))) (mC (.int 19))) (mC (.int 2147483587)))))
    (mRet (mFzD (mDict [((mC (.str "cells")), (mUn dRev (mVar 1))), ((mC (.str "seed")), (mVar 2)), ((mC (.str "at")), (mC (.int 0)))])))))
def m__law_deck : MF := mFunS 4 1 b__law_deck
def b__law_draw : MS :=
  (mSeq (mDkPut 0 DkF.turn (mBin dAdd (mDk 0 DkF.turn) (mC (.int 1))))
    (mSeq (mPar 2 3 (mCons (mDk 0 DkF.turn) (mCons (mDk 0 DkF.seed) mNil)))
    (mSeq (mIfS (mTst (mDkNe 0))
    (mSeq (mSet 3 (mDkPop 0))
    (mSeq (mIfS (mTst (mBin dGe (mVar 3) (mBin dPow (mC (.int 10)) (mC (.int 18)))))
    (mSeq (mDrop (mDkApp 0 (mBin dFdiv (mVar 3) (mVar 1))))
    (mRet (mBin dMod (mVar 3) (mVar 1)))) mNext)
    (mSet 3 (mBin dAdd (mVar 3) (mDk 0 DkF.seed))))) mNext)
    (mSeq (mSet 4 (mBin dMod (mBin dMul (mBin dAdd (mBin dAdd (mBin dMod (mVar 3) (mC (.int 2147483629))) (mBin dMul (mBin dMul (mC (.int 86243)) (mVar 2)) (mVar 2))) (mC (.int 41))) (mC (.int 39373))) (mC (.int 2147483647))))
    (mSeq (mSet 4 (mBin dMod (mBin dAdd (mBin dAdd (mBin dMul (mVar 4) (mVar 4)) (mBin dMul (mC (.int 69621)) (mVar 2))) (mC (.int 3))) (mC (.int 2147483587))))
    (mRet (mBin dMod (mBin dFdiv (mBin dMod (mBin dAdd (mBin dMul (mVar 4) (mC (.int 40692))) (mBin dFdiv (mVar 4) (mC (.int 7)))) (mC (.int 2147483563))) (mC (.int 64))) (mVar 1))))))))
def m__law_draw : MF := mFun 2 5 b__law_draw
def b__law_tree : MS :=
  (mSeq (mPar 2 3 (mCons (mCall m__law_draw (mCons (mVar 0) (mCons (mVar 1) mNil))) (mCons (mCall m__law_draw (mCons (mVar 0) (mCons (mC (.int 5)) mNil))) mNil)))
    (mSeq (mOwn 4 (mDisp mNil))
    (mSeq (mFor (mRange1 (mCons (mVar 2) mNil)) (mGn 5)
    (mSeq (mSet 6 (mLst (mCons (mCall m__law_draw (mCons (mVar 0) (mCons (mBin dAdd (mVar 5) (mC (.int 1))) mNil))) (mCons (mVar 5) (mCons (mC (.int 0)) (mCons (mB dMax2 (mCons (mC (.int 0)) (mCons (mBin dSub (mVar 5) (mC (.int 1))) mNil))) mNil))))))
    (mDrop (mAppend 4 (mBin dIx (mBin dAdd (mVar 6) (mSl (mVar 6) mNoPart (mPart (mC (.int 1))))) (mVar 3))))))
    (mRet (mB dTuple (mCons (mVar 4) mNil))))))
def m__law_tree : MF := mFun 2 7 b__law_tree
def b__law_near : MS :=
  (mSeq (mOwn 2 (mComp (mRange1 (mCons (mB dLen (mCons (mVar 0) mNil)) mNil)) (mGn 3) (mTst (mBin dEq (mBin dIx (mVar 0) (mVar 3)) (mVar 1))) (mBin dAdd (mVar 3) (mC (.int 1))) [3]))
    (mSeq (mIfS (mTst (mBin dGt (mVar 1) (mC (.int 0))))
    (mSet 2 (mBin dAdd (mLst (mCons (mBin dIx (mVar 0) (mBin dSub (mVar 1) (mC (.int 1)))) mNil)) (mVar 2))) mNext)
    (mRet (mVar 2))))
def m__law_near : MF := mFun 2 4 b__law_near
def b__law_off : MS :=
  (mSeq (mParDEE 2 3 4 (mDict [((mVar 1), (mC (.int 0)))]) (mLst (mCons (mVar 1) mNil)) (mC (.int 0)))
    (mSeq (mWhile (mTst (mBin dNe (mVar 3) (mLst mNil)))
    (mSeq (mPar 5 4 (mCons (mLst mNil) (mCons (mBin dAdd (mVar 4) (mC (.int 1))) mNil)))
    (mSeq (mFor (mIter (mVar 3)) (mGn 6)
    (mSet 5 (mBin dAdd (mVar 5) (mFz (mComp (mIter (mCall m__law_near (mCons (mVar 0) (mCons (mVar 6) mNil)))) (mGn 7) (mTst (mBR bNotIn (mVar 7) 2)) (mVar 7) [7])))))
    (mSeq (mFor (mIter (mVar 5)) (mGn 7)
    (mPut 2 (mVar 7) (mVar 4)))
    (mSet 3 (mVar 5))))) 64)
    (mRet (mVarZ 2))))
def m__law_off : MF := mFun 2 8 b__law_off
def b__law_same (rec : MF) : MS :=
  (mSeq (mIfS (mTst (mIsi isTup (mVar 1)))
    (mSeq (mIfS (mOr (mNot (mTst (mIsi isTup (mVar 0)))) (mTst (mBin dNe (mB dLen (mCons (mVar 0) mNil)) (mB dLen (mCons (mVar 1) mNil)))))
    (mRet (mC (.bool false))) mNext)
    (mRet (mB dAll (mCons (mFz (mComp (mZip (mCons (mVar 0) (mCons (mVar 1) mNil))) (mGp 2 3) mYes (mCall rec (mCons (mVar 2) (mCons (mVar 3) mNil))) [2, 3])) mNil)))) mNext)
    (mSeq (mIfS (mTst (mBin dIsN (mVar 1) (mC .none)))
    (mRet (mBin dIsN (mVar 0) (mC .none))) mNext)
    (mSeq (mIfS (mOr (mTst (mIsi isBool (mVar 1))) (mTst (mIsi isBool (mVar 0))))
    (mRet (mAndV (mIsi isBool (mVar 1)) (mAndV (mIsi isBool (mVar 0)) (mBin dEq (mVar 0) (mVar 1))))) mNext)
    (mRet (mAndV (mIsi isIntB (mVar 0)) (mBin dEq (mVar 0) (mVar 1)))))))
def m__law_same : Nat → MF
  | 0 => fun _ _ => .bad
  | n + 1 => mFun 2 4 (b__law_same (m__law_same n))
def b__law_rows_of : MS :=
  (mSeq (mIfS (mTst (mBin dEq (mB dLenN (mCons (mVar 1) mNil)) (mC (.int 1))))
    (mRet (mFz (mRgL (mCons (mBin dAdd (mB dLen (mCons (mBin dIx (mVar 0) (mBin dIxN (mVar 1) (mC (.int 0)))) mNil)) (mC (.int 1))) mNil)))) mNext)
    (mSeq (mSet 2 (mLst mNil))
    (mSeq (mFor (mRange1 (mCons (mBin dAdd (mB dLen (mCons (mBin dIx (mVar 0) (mBin dIxN (mVar 1) (mC (.int 0)))) mNil)) (mC (.int 1))) mNil)) (mGn 3)
    (mSet 2 (mBin dAdd (mVar 2) (mFz (mComp (mRange1 (mCons (mBin dAdd (mB dLen (mCons (mBin dIx (mVar 0) (mBin dIxN (mVar 1) (mC (.int 1)))) mNil)) (mC (.int 1))) mNil)) (mGn 4) mYes (mTup (mCons (mVar 3) (mCons (mVar 4) mNil))) [4])))))
    (mRet (mVar 2)))))
def m__law_rows_of : MF := mFun 2 5 b__law_rows_of
def b__law_things : MS :=
  (mSeq (mSet 2 (mCall m__law_draw (mCons (mVar 0) (mCons (mB dLen (mCons (mVar 1) mNil)) mNil))))
    (mSeq (mIfS (mOr (mTst (mBin dEq (mB dLen (mCons (mVar 1) mNil)) (mC (.int 1)))) (mTst (mBin dEq (mCall m__law_draw (mCons (mVar 0) (mCons (mC (.int 3)) mNil))) (mC (.int 0)))))
    (mRet (mTupN (mCons (mVar 2) mNil))) mNext)
    (mRet (mTupN (mCons (mVar 2) (mCons (mBin dMod (mBin dAdd (mBin dAdd (mVar 2) (mC (.int 1))) (mCall m__law_draw (mCons (mVar 0) (mCons (mBin dSub (mB dLen (mCons (mVar 1) mNil)) (mC (.int 1))) mNil)))) (mB dLen (mCons (mVar 1) mNil))) mNil))))))
def m__law_things : MF := mFun 2 3 b__law_things
def b__law_halves : MS :=
  (mSeq (mSet 2 (mLst mNil))
    (mSeq (mFor (mIter (mB dSortedN (mCons (mVar 1) mNil))) (mGn 3)
    (mFor (mRange1 (mCons (mBin dAdd (mB dLen (mCons (mBin dIx (mVar 0) (mVar 3)) mNil)) (mC (.int 1))) mNil)) (mGn 4)
    (mSet 2 (mBin dAdd (mVar 2) (mFz (mComp (mIter (mCall m__law_near (mCons (mBin dIx (mVar 0) (mVar 3)) (mCons (mVar 4) mNil)))) (mGn 5) mYes (mTup (mCons (mVar 3) (mCons (mVar 4) (mCons (mVar 5) mNil)))) [5]))))))
    (mRet (mVar 2))))
def m__law_halves : MF := mFun 2 6 b__law_halves
def b__law_in_half : MS :=
  (mSeq (mAsg (mGt 2 3 4) (mVar 1))
    (mSeq (mAsg (mGp 5 6) (mTup (mCons (mCall m__law_off (mCons (mBin dIx (mVar 0) (mVar 2)) (mCons (mVar 3) mNil))) (mCons (mCall m__law_off (mCons (mBin dIx (mVar 0) (mVar 2)) (mCons (mVar 4) mNil))) mNil))))
    (mRet (mFz (mComp (mKeys (mVar 5)) (mGn 7) (mTst (mBin dLt (mBin dIxZ (mVar 6) (mVar 7)) (mBin dIxZ (mVar 5) (mVar 7)))) (mVar 7) [7])))))
def m__law_in_half : MF := mFun 2 8 b__law_in_half
def b__law_barred : MS :=
  (mSeq (mSet 3 (mCall m__law_rows_of (mCons (mVar 0) (mCons (mVar 1) mNil))))
    (mSeq (mFor (mIter (mVar 2)) (mGn 4)
    (mSeq (mAsg (mGp 5 6) (mTup (mCons (mCall m__law_in_half (mCons (mVar 0) (mCons (mVar 4) mNil))) (mCons (mIdxN (mVar 1) (mBin dIx (mVar 4) (mC (.int 0)))) mNil))))
    (mIfS (mTst (mBin dEq (mB dLenN (mCons (mVar 1) mNil)) (mC (.int 1))))
    (mOwn 3 (mComp (mIter (mVar 3)) (mGn 7) (mTst (mBin dIn (mVar 7) (mVar 5))) (mVar 7) [7])) (mOwn 3 (mComp (mIter (mVar 3)) (mGn 7) (mTst (mBin dIn (mBin dIx (mVar 7) (mVar 6)) (mVar 5))) (mVar 7) [7])))))
    (mRet (mVar 3))))
def m__law_barred : MF := mFun 3 8 b__law_barred
def b__law_let : MS :=
  (mSeq (mOwnD 3 mNewD)
    (mSeq (mFor (mIter (mVar 2)) (mGn 4)
    (mFor (mIter (mCall m__law_barred (mCons (mVar 0) (mCons (mVar 1) (mCons (mVar 4) mNil))))) (mGn 5)
    (mPutU 3 (mVar 5) (mC (.bool true)))))
    (mRet (mB dTuple (mCons (mFz (mComp (mIter (mCall m__law_rows_of (mCons (mVar 0) (mCons (mVar 1) mNil)))) (mGn 5) (mTst (mInU true (mVar 5) 3)) (mVar 5) [5])) mNil)))))
def m__law_let : MF := mFun 3 6 b__law_let
def b__law_right : MS :=
  (mSeq (mSet 4 (mBin dAddN (mVar 2) (mTup (mCons (mCall m__law_let (mCons (mVar 1) (mCons (mVar 2) (mCons (mVar 3) mNil)))) mNil))))
    (mSeq (mSet 5 (mB dReprN (mCons (mTup (mCons (mVar 1) (mCons (mVar 2) (mCons (mVar 3) mNil)))) mNil)))
    (mSeq (mSet 6 (mCall m_by_clauses (mCons (mVar 1) (mCons (mVar 2) (mCons (mVar 3) mNil)))))
    (mSeq (mIfS (mOr (mNot (mTst (mCall (m__law_same 4) (mCons (mVar 6) (mCons (mVar 4) mNil))))) (mOr (mTst (mBin dNotN (mCall m_unmiddled (mCons (mVar 1) (mCons (mVar 6) mNil))) (mC .none))) (mTst (mBin (dEqS not) (mB dReprN (mCons (mTup (mCons (mVar 1) (mCons (mVar 2) (mCons (mVar 3) mNil)))) mNil)) (mVar 5)))))
    (mRet (mC (.bool false))) mNext)
    (mSeq (mSet 7 (mCall m__law_draw (mCons (mVar 0) (mCons (mBin dAdd (mB dLen (mCons (mVar 3) mNil)) (mC (.int 1))) mNil))))
    (mSeq (mSet 8 (mBin dAdd (mBin dAdd (mUn dRev (mSl (mVar 3) (mPart (mVar 7)) mNoPart)) (mSl (mVar 3) mNoPart (mPart (mVar 7)))) (mSl (mVar 3) (mPart (mVar 7)) (mPart (mBin dAdd (mVar 7) (mC (.int 1)))))))
    (mSeq (mIfS (mNot (mTst (mCall (m__law_same 4) (mCons (mCallK m_by_clauses (pick 0 3 [2, 1, 0]) mNil (mCons (mVar 8) (mCons (mVar 2) (mCons (mVar 1) mNil)))) (mCons (mVar 4) mNil)))))
    (mRet (mC (.bool false))) mNext)
    (mSeq (mSet 9 (mIf (mTst (mBin dEq (mB dLenN (mCons (mVar 2) mNil)) (mC (.int 2)))) (mB dTuple (mCons (mB dSortedP (mCons (mFz (mComp (mIter (mBin dIx (mVar 4) (mUn dNeg (mC (.int 1))))) (mGn 11) mYes (mUn dRev (mVar 11)) [11])) mNil)) mNil)) (mBin dIx (mVar 4) (mUn dNeg (mC (.int 1))))))
    (mSeq (mIfS (mTst (mBin dNe (mBin dIx (mCall m_by_clauses (mCons (mVar 1) (mCons (mUn dRevN (mVar 2)) (mCons (mVar 3) mNil)))) (mUn dNeg (mC (.int 1)))) (mVar 9)))
    (mRet (mC (.bool false))) mNext)
    (mSeq (mSet 10 (mCall m_by_clauses (mCons (mVar 1) (mCons (mVar 2) (mCons (mBin dAdd (mSl (mVar 3) mNoPart (mPart (mVar 7))) (mSl (mVar 3) (mPart (mBin dAdd (mVar 7) (mC (.int 1)))) mNoPart)) mNil)))))
    (mRet (mAndV (mBin (dEqL0 id) (mFz (mComp (mIter (mBin dIx (mVar 4) (mUn dNeg (mC (.int 1))))) (mGn 11) (mTst (mBin dNotIn (mVar 11) (mBin dIx (mVar 10) (mUn dNeg (mC (.int 1)))))) (mVar 11) [11])) (mLst mNil)) (mCall (m__law_same 4) (mCons (mCall m_by_clauses (mCons (mVar 1) (mCons (mVar 2) (mCons (mVar 3) mNil)))) (mCons (mVar 4) mNil)))))))))))))))
def m__law_right : MF := mFun 4 12 b__law_right
def b_law : MS :=
  (mSeq (mSet 2 (mBin dIx (mLst (mCons (mC (.int 5)) (mCons (mC (.int 4)) (mCons (mC (.int 8)) mNil)))) (mCall m__law_draw (mCons (mVar 1) (mCons (mC (.int 3)) mNil)))))
    (mSeq (mSet 3 (mB dTuple (mCons (mFz (mComp (mRange1 (mCons (mBin dAdd (mC (.int 1)) (mCall m__law_draw (mCons (mVar 1) (mCons (mC (.int 3)) mNil)))) mNil)) (mGn 8) mYes (mCall m__law_tree (mCons (mVar 1) (mCons (mVar 2) mNil))) [8])) mNil)))
    (mSeq (mFor (mRange1 (mCons (mC (.int 4)) mNil)) (mGn 4)
    (mSeq (mSet 5 (mCall m__law_things (mCons (mVar 1) (mCons (mVar 3) mNil))))
    (mSeq (mParEL 6 7 (mCall m__law_halves (mCons (mVar 3) (mCons (mVar 5) mNil))) (mDisp mNil))
    (mSeq (mFor (mRange1 (mCons (mBin dMul (mCall m__law_draw (mCons (mVar 1) (mCons (mC (.int 9)) mNil))) (mB dIntC (mCons (mBin (dEqL0 not) (mVar 6) (mLst mNil)) mNil))) mNil)) (mGn 8)
    (mSeq (mAsg (mGpL 9 10) (mFz (mComp (mRange1 (mCons (mC (.int 2)) mNil)) (mGn 11) mYes (mBin dIx (mVar 6) (mCall m__law_draw (mCons (mVar 1) (mCons (mB dLen (mCons (mVar 6) mNil)) mNil)))) [11])))
    (mDrop (mAppend 7 (mTup (mCons (mB (dTwo (fun x y => dataLt y x)) (mCons (mVar 9) (mCons (mVar 10) mNil))) (mCons (mB (dTwo (fun x y => dataLt x y)) (mCons (mVar 9) (mCons (mVar 10) mNil))) mNil)))))))
    (mSeq (mIfS (mNot (mTst (mCall m__law_right (mCons (mVar 1) (mCons (mVar 3) (mCons (mVar 5) (mCons (mB dTuple (mCons (mVar 7) mNil)) mNil)))))))
    (mRet (mC (.bool false))) mNext)
    (mIfS (mNot (mTst (mCall (m__law_same 4) (mCons (mCall m_by_clauses (mCons (mVar 3) (mCons (mVar 5) (mCons (mTup mNil) mNil)))) (mCons (mBin dAddN (mVar 5) (mTup (mCons (mB dTuple (mCons (mCall m__law_rows_of (mCons (mVar 3) (mCons (mVar 5) mNil))) mNil)) mNil))) mNil)))))
    (mRet (mC (.bool false))) mNext))))))
    (mRet (mBin dEq (mCall m_by_clauses (mCons (mTup (mCons (mTup (mCons (mC (.int 0)) (mCons (mC (.int 1)) mNil))) mNil)) (mCons (mTupN (mCons (mC (.int 0)) mNil)) (mCons (mTup (mCons (mTup (mCons (mTup (mCons (mC (.int 0)) (mCons (mC (.int 0)) (mCons (mC (.int 1)) mNil)))) (mCons (mTup (mCons (mC (.int 0)) (mCons (mC (.int 2)) (mCons (mC (.int 1)) mNil)))) mNil))) mNil)) mNil)))) (mTup (mCons (mC (.int 0)) (mCons (mTup (mCons (mC (.int 0)) (mCons (mC (.int 2)) mNil))) mNil))))))))
end G_k10
namespace G_k10
open PySem MM L2 PP
theorem w1 : m_by_clauses = byM := rfl
theorem w2 : m_unmiddled = unM := rfl
theorem w3 : m__law_draw = drawM := rfl
theorem w4 : m__law_tree = treeM := rfl
theorem w5 : m__law_deck = deckM := rfl
theorem w6 : m__law_same 4 = sameM 4 := rfl
theorem w7 : m__law_let = ltM := rfl
theorem w8 : m__law_things = thM := rfl
theorem w9 : m__law_halves = lhM := rfl
theorem w10 : m__law_rows_of = rwoM := rfl
section
variable {ts : List (List Nat)} {P : List Nat}
theorem bar_same {cs ds : List Cl2} (h : ∀ c, c ∈ ds ↔ c ∈ cs) : letR ts P ds = letR ts P cs := by
  refine List.filter_congr fun r _ => ?_
  congr 1
  unfold barA
  rw [Bool.eq_iff_iff, List.any_eq_true, List.any_eq_true]
  exact ⟨fun ⟨c, a, b⟩ => ⟨c, (h c).mp a, b⟩, fun ⟨c, a, b⟩ => ⟨c, (h c).mpr a, b⟩⟩
theorem bar_sub {cs ds : List Cl2} (h : ∀ c, c ∈ ds → c ∈ cs) {r : List Nat} (hr : r ∈ letR ts P cs) : r ∈ letR ts P ds := by
  obtain ⟨h1, h2⟩ := List.mem_filter.mp hr
  refine List.mem_filter.mpr ⟨h1, ?_⟩
  rw [Bool.not_eq_true'] at h2 ⊢
  unfold barA at h2 ⊢
  rw [List.any_eq_false] at h2 ⊢
  exact fun c hc => h2 c (h c hc)
theorem HOk_rev {h : Hf} (H : HOk ts P h) : HOk ts P.reverse h := ⟨by simpa using H.i, H.a, H.b, H.adj⟩
theorem PrOk_rev (hP : PrOk ts P) : PrOk ts P.reverse := ⟨by rw [List.length_reverse]; exact hP.len, by
  have := hP.nd
  unfold List.Nodup at this ⊢
  rw [List.pairwise_reverse]
  exact this.imp fun h e => h e.symm, fun i hi => hP.lt i (by simpa using hi)⟩
variable (hT : TsOk ts) (hP : PrOk ts P)
include hT hP
theorem shw_ok (h3 : ts.length ≤ 3) {cs : List Cl2} (hc : ∀ c ∈ cs, HOk ts P c.1 ∧ HOk ts P c.2) (hl : cs.length ≤ 100) : dReprN [.tuple [TsD ts, ntD (iDs P), .tuple (cs.map clD)]] = some (.str (PyData.tuple [TsD ts, .tuple (iDs P), .tuple (cs.map clD)]).shown) := by
  have e : un1 (.tuple [TsD ts, ntD (iDs P), .tuple (cs.map clD)]) = .tuple [TsD ts, .tuple (iDs P), .tuple (cs.map clD)] := by
    show PyData.tuple [unN (TsD ts), unN (ntD (iDs P)), unN (.tuple (cs.map clD))] = _
    rw [unN_nt, unN_tup]; rfl
  have hh : ∀ h, HOk ts P h → SZ.Cl 100 false false 4 1 (hD h) := fun h H => (Cl_TD (xs := [h.1, h.2.1, h.2.2]) fun x hx => by
    have := hP.lt _ H.i
    have n8 := nn_lt hT this
    have := H.a
    have := H.b
    simp only [List.mem_cons, List.not_mem_nil, or_false] at hx
    omega)
  have hcl : SZ.Cl 100 false false (cs.length * 9 + 1) 3 (.tuple (cs.map clD)) := (Ca_map (f := clD) (n := 9) (m := 2) fun c h => by
    obtain ⟨a, b⟩ := hc c h
    exact ((SZ.Ca.cons (hh _ a) (hh _ b).one).tup).le (by omega) (by omega)).tup
  have hts := Cl_Ts (b := 100) (l := false) (dd := false) (by omega) hT
  have hPs : SZ.Cl 100 false false 3 1 (.tuple (iDs P)) := (Cl_TD (xs := P) fun x hx => by have := hP.lt x hx; omega).le (by have := hP.len; omega) (by omega)
  have h := (SZ.Ca.cons (hts.le (n2 := 40) (m2 := 3) (by omega) (by omega)) (SZ.Ca.cons (hPs.le (n2 := 3) (m2 := 3) (by omega) (by omega)) hcl.one)).tup
  have ok := SZ.shw_of h (by omega) (by omega) (by omega) (.inl rfl)
  show (if shwOk (un1 (.tuple [TsD ts, ntD (iDs P), .tuple (cs.map clD)])) = true then some (PyData.str (un1 (.tuple [TsD ts, ntD (iDs P), .tuple (cs.map clD)])).shown) else none) = _
  rw [e, if_pos ok]
theorem about_ok {cs : List Cl2} (hc : ∀ c ∈ cs, HOk ts P c.1 ∧ HOk ts P c.2) (a0 a1 a3 a5 a6 a7 a8 : Sl) (k : Dk) :
    (mIf (mTst (mBin dEq (mB dLenN (mCons (mVar 2) mNil)) (mC (.int 2)))) (mB dTuple (mCons (mB dSortedP (mCons (mFz (mComp (mIter (mBin dIx (mVar 4) (mUn dNeg (mC (.int 1))))) (mGn 11) mYes (mUn dRev (mVar 11)) [11])) mNil)) mNil)) (mBin dIx (mVar 4) (mUn dNeg (mC (.int 1))))) ⟨[a0, a1, .fz (ntD (iDs P)), a3, .fz (tbD P (letR ts P cs)), a5, a6, a7, a8, .no, .no, .no], k⟩ =
      .ok (.tuple ((letR ts P.reverse cs).map rD)) ⟨[a0, a1, .fz (ntD (iDs P)), a3, .fz (tbD P (letR ts P cs)), a5, a6, a7, a8, .no, .no, .no], k⟩ := by
  have e5 : dIx (tbD P (letR ts P cs)) (.int (-1)) = some (.tuple ((letR ts P cs).map rD)) := ix_last _ _
  have l1 : dLenN [ntD (iDs P)] = some (iD P.length) := dLenN_nt P
  have hlen := rw_len hT hP
  have hfl := List.length_filter_le (fun r => !barA ts P cs r) (RW ts P)
  have hl2 : (letR ts P cs).length ≤ 64 := by show (List.filter _ _).length ≤ _; omega
  rcases pr_cases hP with ⟨i, rfl, -⟩ | ⟨i, j, rfl, -, -, hne⟩
  · have q : dEq (iD 1) (.int 2) = some (.bool false) := rfl
    have r1 : [i].reverse = [i] := rfl
    rw [r1]
    simp [-dLenN_nt, l1, q, e5]
  · have q : dEq (iD 2) (.int 2) = some (.bool true) := rfl
    have r1 : [i, j].reverse = [j, i] := rfl
    have c1 := comp_gen rD (mi := (mIter (mBin dIx (mVar 4) (mUn dNeg (mC (.int 1)))))) (g := (mGn 11)) (tt := mYes) (te := (mUn dRev (mVar 11))) (vs := [11]) (ps := ⟨[a0, a1, .fz (ntD (iDs [i, j])), a3, .fz (tbD [i, j] (letR ts [i, j] cs)), a5, a6, a7, a8, .no, .no, .no], k⟩) (ps0 := ⟨[a0, a1, .fz (ntD (iDs [i, j])), a3, .fz (tbD [i, j] (letR ts [i, j] cs)), a5, a6, a7, a8, .no, .no, .no], k⟩)
      (fun _ => true) (fun r => rD r.reverse) (xs := letR ts [i, j] cs) (by simp [e5]) (by simp) (by omega) (fun r hr => by
        have hl := (rw_mem (List.mem_filter.mp hr).1).1
        have : dRev (rD r) = some (rD r.reverse) := by
          rw [rD_two hl, rD_two (by rw [List.length_reverse]; exact hl), dRev_TD]
        simp [this])
    rw [List.filter_eq_self.mpr (by simp)] at c1
    have es := sort_turn (ts := ts) hne (cs := cs) fun c h => ⟨(hc c h).1.i, (hc c h).2.i⟩
    rw [r1]
    generalize (letR ts [i, j] cs).map (fun r => rD r.reverse) = X at *
    simp [-dLenN_nt, l1, q, c1, es, dTuple_list]
theorem right_ok (h3 : ts.length ≤ 3) {cs : List Cl2} (hc : ∀ c ∈ cs, HOk ts P c.1 ∧ HOk ts P c.2) (hl : cs.length ≤ 100) {k : Dk} {c : Nat} (v : Vd k c) (hcc : c < 2 ^ 58) :
    ∃ k', m__law_right [deckD, TsD ts, ntD (iDs P), .tuple (cs.map clD)] k = .ret (.bool true) k' ∧ Vd k' (c + 1) := by
  have hrep := shw_ok hT hP h3 hc hl
  generalize (PyData.tuple [TsD ts, .tuple (iDs P), .tuple (cs.map clD)]).shown = S at hrep
  obtain ⟨r, k1, d1, hr, v1⟩ := draw_nat (lots := cs.length + 1) v (by omega) (by omega) (by omega)
  have lt := lt_ok hT hP k hc (by omega)
  have b1 := by_ok hT hP k hc (by omega) (cD := .tuple (cs.map clD)) rfl
  have u1 := un_let hT hP k hc
  have hlen := rw_len hT hP
  have hR2 : ∀ X : List Cl2, ∀ r ∈ letR ts P X, r.length = P.length := fun X r hr => (rw_mem (List.mem_filter.mp hr).1).1
  have hRl : ∀ X : List Cl2, (letR ts P X).length ≤ 64 := fun X => by
    have := List.length_filter_le (fun r => !barA ts P X r) (RW ts P)
    show (List.filter _ _).length ≤ _; omega
  have hPl := hP.len
  have sm : ∀ k, sameM 4 [tbD P (letR ts P cs), tbD P (letR ts P cs)] k = .ret (.bool true) k := same_gen 3 _ (Sm_tb (by omega) (by have := hRl cs; omega) (fun r hr => by have := hR2 cs r hr; omega) 0)
  have ha : dAddN (ntD (iDs P)) (.tuple [.tuple ((letR ts P cs).map rD)]) = some (tbD P (letR ts P cs)) := dAddN_nt (by intro z; rw [z] at hPl; simp at hPl) (by simp) (by simp; omega)
  have z1 : 1 ≤ sizeLine := sz_le (by omega)
  have z3 : 3 ≤ sizeLine := sz_le (by omega)
  have hL : dLen [.tuple (cs.map clD)] = some (iD cs.length) := by show some (PyData.int ((cs.map clD).length : Int)) = _; rw [List.length_map]; rfl
  have ci : dInt (iD r) = some (r : Int) := rfl
  have ci1 : dInt (iD (r + 1)) = some ((r : Int) + 1) := rfl
  have s1 := dSl_map clD cs (some (r : Int)) none
  have s2 := dSl_map clD cs none (some (r : Int))
  have s3 := dSl_map clD cs (some (r : Int)) (some ((r : Int) + 1))
  have s4 := dSl_map clD cs (some ((r : Int) + 1)) none
  have l1 := cut_len cs (some (r : Int)) none
  have l2 := cut_len cs none (some (r : Int))
  have l3 := cut_len cs (some (r : Int)) (some ((r : Int) + 1))
  have l4 := cut_len cs (some ((r : Int) + 1)) none
  have f1 := cut_from cs r (by omega)
  have f2 := cut_to cs r
  have m3 : ∀ x ∈ cut cs (some (r : Int)) (some ((r : Int) + 1)), x ∈ cs := fun x hx => mem_cut hx
  have m4 : ∀ x ∈ cut cs (some ((r : Int) + 1)) none, x ∈ cs := fun x hx => mem_cut hx
  have m2 : ∀ x ∈ cut cs none (some (r : Int)), x ∈ cs := fun x hx => mem_cut hx
  have m1 : ∀ x ∈ cut cs (some (r : Int)) none, x ∈ cs := fun x hx => mem_cut hx
  have m0 : ∀ x ∈ cs, x ∈ cut cs (some (r : Int)) none ∨ x ∈ cut cs none (some (r : Int)) := fun x hx => by
    rw [f1, f2]
    rw [← List.take_append_drop r cs] at hx
    rcases List.mem_append.mp hx with h | h
    · exact .inr h
    · exact .inl h
  clear f1 f2
  generalize cut cs (some (r : Int)) none = A at *
  generalize cut cs none (some (r : Int)) = B at *
  generalize cut cs (some (r : Int)) (some ((r : Int) + 1)) = E at *
  generalize cut cs (some ((r : Int) + 1)) none = G at *
  have t1 := dRev_map clD A
  have t2 := dAdd_map clD (xs := A.reverse) (ys := B) (by rw [List.length_reverse]; omega)
  have t3 := dAdd_map clD (xs := A.reverse ++ B) (ys := E) (by rw [List.length_append, List.length_reverse]; omega)
  have t4 := dAdd_map clD (xs := B) (ys := G) (by omega)
  have mt : ∀ x, x ∈ A.reverse ++ B ++ E ↔ x ∈ cs := fun x => by
    simp only [List.mem_append, List.mem_reverse]
    constructor
    · rintro ((h | h) | h)
      · exact m1 x h
      · exact m2 x h
      · exact m3 x h
    · intro h
      exact .inl (m0 x h)
  have b2 := by_ok hT hP k1 (cs := A.reverse ++ B ++ E) (fun x hx => hc x ((mt x).mp hx)) (by simp only [List.length_append, List.length_reverse]; omega) (cD := .tuple ((A.reverse ++ B ++ E).map clD)) rfl
  rw [bar_same mt] at b2
  have ms : ∀ x, x ∈ B ++ G → x ∈ cs := fun x h => by
    rcases List.mem_append.mp h with h | h
    · exact m2 x h
    · exact m4 x h
  have b3 := by_ok hT hP k1 (cs := B ++ G) (fun x hx => hc x (ms x hx)) (by rw [List.length_append]; omega) (cD := .tuple ((B ++ G).map clD)) rfl
  have b4 := by_ok hT (PrOk_rev hP) k1 (cs := cs) (fun x hx => ⟨HOk_rev (hc x hx).1, HOk_rev (hc x hx).2⟩) (by omega) (cD := .tuple (cs.map clD)) rfl
  have b5 := by_ok hT hP k1 hc (by omega) (cD := .tuple (cs.map clD)) rfl
  have hrv : dRevN (ntD (iDs P)) = some (ntD (iDs P.reverse)) := by
    show some (ntD (iDs P).reverse) = _
    unfold iDs
    rw [List.map_reverse]
  have pk : pick 0 3 [2, 1, 0] [] [.tuple ((A.reverse ++ B ++ E).map clD), ntD (iDs P), TsD ts] = [TsD ts, ntD (iDs P), .tuple ((A.reverse ++ B ++ E).map clD)] := rfl
  have i1 : dIx (tbD P.reverse (letR ts P.reverse cs)) (.int (-1)) = some (.tuple ((letR ts P.reverse cs).map rD)) := ix_last _ _
  have n1 := dNe_self (Ly_rows (letR ts P.reverse cs)) (by omega)
  have ab := about_ok hT hP hc (.fz deckD) (.fz (TsD ts)) (.fz (.tuple (cs.map clD))) (.fz (.str S)) (.fz (tbD P (letR ts P cs))) (.fz (iD r)) (.fz (.tuple ((A.reverse ++ B ++ E).map clD))) k1
  have i2 : dIx (tbD P (letR ts P cs)) (.int (-1)) = some (.tuple ((letR ts P cs).map rD)) := ix_last _ _
  have i3 : dIx (tbD P (letR ts P (B ++ G))) (.int (-1)) = some (.tuple ((letR ts P (B ++ G)).map rD)) := ix_last _ _
  have cc := comp_gen rD (mi := (mIter (mBin dIx (mVar 4) (mUn dNeg (mC (.int 1)))))) (g := (mGn 11)) (tt := (mTst (mBin dNotIn (mVar 11) (mBin dIx (mVar 10) (mUn dNeg (mC (.int 1))))))) (te := (mVar 11)) (vs := [11])
    (ps := ⟨[.fz deckD, .fz (TsD ts), .fz (ntD (iDs P)), .fz (.tuple (cs.map clD)), .fz (tbD P (letR ts P cs)), .fz (.str S), .fz (tbD P (letR ts P cs)), .fz (iD r), .fz (.tuple ((A.reverse ++ B ++ E).map clD)), .fz (.tuple ((letR ts P.reverse cs).map rD)), .fz (tbD P (letR ts P (B ++ G))), .no], k1⟩)
    (ps0 := ⟨[.fz deckD, .fz (TsD ts), .fz (ntD (iDs P)), .fz (.tuple (cs.map clD)), .fz (tbD P (letR ts P cs)), .fz (.str S), .fz (tbD P (letR ts P cs)), .fz (iD r), .fz (.tuple ((A.reverse ++ B ++ E).map clD)), .fz (.tuple ((letR ts P.reverse cs).map rD)), .fz (tbD P (letR ts P (B ++ G))), .no], k1⟩)
    (fun _ => false) rD (xs := letR ts P cs) (by simp [i2]) (by simp) (by have := hRl cs; omega) (fun r hr => by
      have hb := bar_sub (ts := ts) (P := P) ms hr
      have : dInB (rD r) (.tuple ((letR ts P (B ++ G)).map rD)) = some true := by
        rw [inB_rows hPl (hR2 cs r hr) (hR2 _), decide_eq_true hb]
      have : dNotIn (rD r) (.tuple ((letR ts P (B ++ G)).map rD)) = some (.bool false) := by unfold dNotIn; rw [this]; rfl
      simp [i3, this])
  have e0 : (List.filter (fun _ => false) (letR ts P cs)).map rD = [] := by simp
  rw [e0] at cc
  have ee : dEqL0 id (.list []) (.list []) = some (.bool true) := rfl
  have eqs : dEqS not (.str S) (.str S) = some (.bool false) := by simp [dEqS]
  have nn1 : dNotN .none .none = some (.bool false) := rfl
  have z0 : 0 ≤ sizeLine := Nat.zero_le _
  have qa : dAdd (iD r) (.int 1) = some (iD (r + 1)) := rfl
  refine ⟨k1, ?_, v1⟩
  unfold m__law_right mFun b__law_right
  generalize A.reverse ++ B ++ E = Q at *
  simp only [w1, w2, w3, w6, w7] at *
  generalize letR ts P cs = L at *
  simp [sl0, List.replicate, lt, ha, hrep, b1, sm, u1, nn1, eqs, hL, d1, ci, ci1, s1, s2, s3, s4, t1, t2, t3, t4, pk, b2, z0, z1, z3, -e_if, -dSl_tuple, -List.map_reverse, -List.map_append, ab, b4, b3, b5, hrv, i1, n1, cc, ee, t4, qa]
end
end G_k10
namespace G_k10
open PySem MM L2 PP
theorem two_hD {f : D → D → Bool} (x y : Hf) : ∃ z, (z = x ∨ z = y) ∧ dTwo f [hD x, hD y] = some (hD z) := by
  have h : alk (hD x) (hD y) = true := rfl
  by_cases c : f (hD x) (hD y) = true
  · refine ⟨y, .inr rfl, ?_⟩
    show (if alk (hD x) (hD y) = true then some (if f (hD x) (hD y) = true then hD y else hD x) else none) = _
    rw [if_pos h, if_pos c]
  · refine ⟨x, .inl rfl, ?_⟩
    show (if alk (hD x) (hD y) = true then some (if f (hD x) (hD y) = true then hD y else hD x) else none) = _
    rw [if_pos h, if_neg c]
def banL : MS := (mSeq (mAsg (mGpL 9 10) (mFz (mComp (mRange1 (mCons (mC (.int 2)) mNil)) (mGn 11) mYes (mBin dIx (mVar 6) (mCall m__law_draw (mCons (mVar 1) (mCons (mB dLen (mCons (mVar 6) mNil)) mNil)))) [11])))
    (mDrop (mAppend 7 (mTup (mCons (mB (dTwo (fun x y => PySem.W.dataLt y x)) (mCons (mVar 9) (mCons (mVar 10) mNil))) (mCons (mB (dTwo (fun x y => PySem.W.dataLt x y)) (mCons (mVar 9) (mCons (mVar 10) mNil))) mNil))))))
def turnL : MS := (mSeq (mSet 5 (mCall m__law_things (mCons (mVar 1) (mCons (mVar 3) mNil))))
    (mSeq (mParEL 6 7 (mCall m__law_halves (mCons (mVar 3) (mCons (mVar 5) mNil))) (mDisp mNil))
    (mSeq (mFor (mRange1 (mCons (mBin dMul (mCall m__law_draw (mCons (mVar 1) (mCons (mC (.int 9)) mNil))) (mB dIntC (mCons (mBin (dEqL0 not) (mVar 6) (mLst mNil)) mNil))) mNil)) (mGn 8) banL)
    (mSeq (mIfS (mNot (mTst (mCall m__law_right (mCons (mVar 1) (mCons (mVar 3) (mCons (mVar 5) (mCons (mB dTuple (mCons (mVar 7) mNil)) mNil)))))))
    (mRet (mC (.bool false))) mNext)
    (mIfS (mNot (mTst (mCall (m__law_same 4) (mCons (mCall m_by_clauses (mCons (mVar 3) (mCons (mVar 5) (mCons (mTup mNil) mNil)))) (mCons (mBin dAddN (mVar 5) (mTup (mCons (mB dTuple (mCons (mCall m__law_rows_of (mCons (mVar 3) (mCons (mVar 5) mNil))) mNil)) mNil))) mNil)))))
    (mRet (mC (.bool false))) mNext)))))
section
variable {ts : List (List Nat)} {P : List Nat} (hT : TsOk ts) (hP : PrOk ts P)
include hT hP
theorem banL_ok (hn : HV ts P ≠ []) {k : Dk} {c : Nat} (v : Vd k c) (hc : c < 2 ^ 58) {cs : List Cl2} (hl : cs.length ≤ 100) (s0 s2 s3 s4 s5 s8 s9 s10 : Sl) :
    ∃ (z1 z2 : Hf) (s9' s10' : Sl) (k' : Dk), HOk ts P z1 ∧ HOk ts P z2 ∧ Vd k' (c + 2) ∧
      banL ⟨[s0, .fz deckD, s2, s3, s4, s5, .fz (.list ((HV ts P).map hD)), .ml (cs.map clD), s8, s9, s10, .no], k⟩ =
        .next ⟨[s0, .fz deckD, s2, s3, s4, s5, .fz (.list ((HV ts P).map hD)), .ml ((cs ++ [(z1, z2)]).map clD), s8, s9', s10', .no], k'⟩ := by
  have hlen := HV_len hT hP
  have hpos : 0 < (HV ts P).length := List.length_pos_iff.mpr hn
  obtain ⟨r1, k1, d1, hr1, v1⟩ := draw_nat (lots := (HV ts P).length) v (by omega) hpos (by omega)
  obtain ⟨r2, k2, d2, hr2, v2⟩ := draw_nat (lots := (HV ts P).length) v1 (by omega) hpos (by omega)
  have hO : dLen [.list ((HV ts P).map hD)] = some (iD (HV ts P).length) := by show some (PyData.int (((HV ts P).map hD).length : Int)) = _; rw [List.length_map]; rfl
  obtain ⟨h1, e1⟩ : ∃ h, (HV ts P)[r1]? = some h := ⟨_, List.getElem?_eq_getElem hr1⟩
  obtain ⟨h2, e2⟩ : ∃ h, (HV ts P)[r2]? = some h := ⟨_, List.getElem?_eq_getElem hr2⟩
  have H1 := (mem_HV hP h1).mp (List.mem_of_getElem? e1)
  have H2 := (mem_HV hP h2).mp (List.mem_of_getElem? e2)
  have i1 : dIx (.list ((HV ts P).map hD)) (iD r1) = some (hD h1) := dIx_list (by rw [List.getElem?_map, e1]; rfl)
  have i2 : dIx (.list ((HV ts P).map hD)) (iD r2) = some (hD h2) := dIx_list (by rw [List.getElem?_map, e2]; rfl)
  have comp : mComp (mRange1 (mCons (mC (.int 2)) mNil)) (mGn 11) mYes (mBin dIx (mVar 6) (mCall m__law_draw (mCons (mVar 1) (mCons (mB dLen (mCons (mVar 6) mNil)) mNil)))) [11] ⟨[s0, .fz deckD, s2, s3, s4, s5, .fz (.list ((HV ts P).map hD)), .ml (cs.map clD), s8, s9, s10, .no], k⟩ =
      .ok [hD h1, hD h2] ⟨[s0, .fz deckD, s2, s3, s4, s5, .fz (.list ((HV ts P).map hD)), .ml (cs.map clD), s8, s9, s10, .no], k2⟩ := by
    have hr : dRange1 [.int 2] = some [.int 0, .int 1] := rfl
    have z0 : 0 < sizeLine := sz_lt (by omega)
    have z1 : 1 < sizeLine := sz_lt (by omega)
    generalize PyData.list ((HV ts P).map hD) = O at *
    generalize cs.map clD = CS at *
    unfold mComp
    simp [w3, hr, mCl, hO, d1, d2, i1, i2, z0, z1]
  obtain ⟨a, ha, ea⟩ := two_hD (f := fun x y => PySem.W.dataLt y x) h1 h2
  obtain ⟨b, hb, eb⟩ := two_hD (f := fun x y => PySem.W.dataLt x y) h1 h2
  refine ⟨a, b, .fz (hD h1), .fz (hD h2), k2, ?_, ?_, v2, ?_⟩
  · rcases ha with rfl | rfl <;> assumption
  · rcases hb with rfl | rfl <;> assumption
  · have z2 : 2 ≤ sizeLine := sz_le (by omega)
    have zl : (cs.map clD).length < sizeLine := sz_lt (by rw [List.length_map]; omega)
    have e9 : (mAsg (mGpL 9 10) (mFz (mComp (mRange1 (mCons (mC (.int 2)) mNil)) (mGn 11) mYes (mBin dIx (mVar 6) (mCall m__law_draw (mCons (mVar 1) (mCons (mB dLen (mCons (mVar 6) mNil)) mNil)))) [11]))) ⟨[s0, .fz deckD, s2, s3, s4, s5, .fz (.list ((HV ts P).map hD)), .ml (cs.map clD), s8, s9, s10, .no], k⟩ =
        .next ⟨[s0, .fz deckD, s2, s3, s4, s5, .fz (.list ((HV ts P).map hD)), .ml (cs.map clD), s8, .fz (hD h1), .fz (hD h2), .no], k2⟩ := by
      rw [e_asg, e_fz, comp]
      rfl
    have ec : PyData.tuple [hD a, hD b] = clD (a, b) := rfl
    rw [List.map_append]
    generalize cs.map clD = CS at *
    unfold banL
    simp [-e_asg, e9, ea, eb, z2, zl, ec]
theorem ban_ok {k : Dk} {c : Nat} (v : Vd k c) (hc : c < 2 ^ 50) (s0 s2 s4 t8 t9 t10 : Sl) {n : Nat} (hn : n ≤ 8) (h0 : HV ts P = [] → n = 0) :
    ∃ (cs : List Cl2) (s8 s9 s10 : Sl) (k' : Dk), (∀ c ∈ cs, HOk ts P c.1 ∧ HOk ts P c.2) ∧ cs.length ≤ 8 ∧ Vd k' (c + 16) ∧
      mLoop (mGn 8) banL (iDs (List.range n)) ⟨[s0, .fz deckD, s2, .fz (TsD ts), s4, .fz (ntD (iDs P)), .fz (.list ((HV ts P).map hD)), .ml [], t8, t9, t10, .no], k⟩ =
        .next ⟨[s0, .fz deckD, s2, .fz (TsD ts), s4, .fz (ntD (iDs P)), .fz (.list ((HV ts P).map hD)), .ml (cs.map clD), s8, s9, s10, .no], k'⟩ := by
  obtain ⟨ps', e, cs, s8, s9, s10, k', hh, hl, rfl, v'⟩ := loop_nat (g := mGn 8) (body := banL) (xs := List.range n) (ps := ⟨[s0, .fz deckD, s2, .fz (TsD ts), s4, .fz (ntD (iDs P)), .fz (.list ((HV ts P).map hD)), .ml [], t8, t9, t10, .no], k⟩)
    (fun done ps => ∃ (cs : List Cl2) (s8 s9 s10 : Sl) (k' : Dk), (∀ c ∈ cs, HOk ts P c.1 ∧ HOk ts P c.2) ∧ cs.length = done.length ∧ ps = ⟨[s0, .fz deckD, s2, .fz (TsD ts), s4, .fz (ntD (iDs P)), .fz (.list ((HV ts P).map hD)), .ml (cs.map clD), s8, s9, s10, .no], k'⟩ ∧ Vd k' (c + 2 * done.length)) ⟨[], _, _, _, k, by simp, rfl, rfl, v⟩ (by
      rintro done x rest ps hx ⟨cs, s8, s9, s10, k', hh, hl, rfl, v'⟩
      obtain ⟨q1, q2, -⟩ := range_at hx
      obtain ⟨z1, z2, s9', s10', k2, H1, H2, v2, e⟩ := banL_ok hT hP (fun z => by have := h0 z; omega) v' (by omega) (cs := cs) (by omega) s0 s2 (.fz (TsD ts)) s4 (.fz (ntD (iDs P))) (.fz (iD x)) s9 s10
      refine ⟨_, _, rfl, .inl e, cs ++ [(z1, z2)], _, _, _, k2, ?_, by simp [hl], rfl, v2.le (by simp; omega)⟩
      intro d hd
      rcases List.mem_append.mp hd with hd | hd
      · exact hh d hd
      · rw [List.mem_singleton.mp hd]; exact ⟨H1, H2⟩)
  rw [List.length_range] at hl
  exact ⟨cs, s8, s9, s10, k', hh, by omega, v'.le (by rw [List.length_range]; omega), e⟩
end
theorem mul0 (r : Nat) : dMul (iD r) (.int 0) = some (iD 0) := by
  have e : dMul (.int (r : Int)) (.int 0) = some (.int ((r : Int) * 0)) := dMul_i (.inr (by decide))
  rw [Int.mul_zero] at e
  exact e
theorem mul1 (r : Nat) : dMul (iD r) (.int 1) = some (iD r) := by
  have e : dMul (.int (r : Int)) (.int 1) = some (.int ((r : Int) * 1)) := dMul_i (.inr (by decide))
  rw [Int.mul_one] at e
  exact e
theorem times_ok (ts : List (List Nat)) (P : List Nat) {r : Nat} (hr : r < 9) : ∃ n : Nat, n ≤ 8 ∧ (HV ts P = [] → n = 0) ∧ ∃ b : Bool, dEqL0 not (.list ((HV ts P).map hD)) (.list []) = some (.bool b) ∧ ∃ i : Int, dIntC [.bool b] = some (.int i) ∧ dMul (iD r) (.int i) = some (iD n) := by
  by_cases hh : HV ts P = []
  · exact ⟨0, by omega, fun _ => rfl, false, by rw [hh]; rfl, 0, rfl, mul0 r⟩
  · refine ⟨r, by omega, fun z => absurd z hh, true, ?_, 1, rfl, mul1 r⟩
    cases e : HV ts P with
    | nil => exact absurd e hh
    | cons => rfl
theorem turn_ok {ts : List (List Nat)} (hT : TsOk ts) (h0 : 0 < ts.length) (h3 : ts.length ≤ 3) {k : Dk} {c : Nat} (v : Vd k c) (hc : c < 2 ^ 40) (s2 s4 s5 s6 s7 s8 s9 s10 : Sl) :
    ∃ s5' s6' s7' s8' s9' s10' k', Vd k' (c + 100) ∧ turnL ⟨[.no, .fz deckD, s2, .fz (TsD ts), s4, s5, s6, s7, s8, s9, s10, .no], k⟩ = .next ⟨[.no, .fz deckD, s2, .fz (TsD ts), s4, s5', s6', s7', s8', s9', s10', .no], k'⟩ := by
  obtain ⟨P, k1, e1, hP, v1⟩ := th_ok h0 (by omega) v (by omega)
  have e2 := lh_ok hT hP k1
  obtain ⟨r, k2, d2, hr, v2⟩ := draw_nat (lots := 9) v1 (by omega) (by omega) (by omega)
  have d2 : drawM [deckD, .int 9] k1 = .ret (iD r) k2 := d2
  obtain ⟨n, hn, hn0, b, m1, i, m2, m3⟩ := times_ok ts P hr
  obtain ⟨cs, s8', s9', s10', k3, hcs, hl, v3, e3⟩ := ban_ok hT hP v2 (by omega) .no s2 s4 s8 s9 s10 hn hn0
  obtain ⟨k4, e4, v4⟩ := right_ok hT hP h3 hcs (by omega) v3 (by omega)
  have e5 := by_ok hT hP k4 (cs := []) (by simp) (by simp) (cD := .tuple []) rfl
  have e6 := rwo_ok hT hP k4
  have e7 : letR ts P [] = RW ts P := List.filter_eq_self.mpr (by simp [barA])
  rw [e7] at e5
  have hlen := rw_len hT hP
  have hPl := hP.len
  have sm := same_gen 3 _ (Sm_tb (P := P) (R := RW ts P) (by omega) (by omega) (fun r hr => by have := (rw_mem hr).1; omega) 0) k4
  have ha : dAddN (ntD (iDs P)) (.tuple [.tuple ((RW ts P).map rD)]) = some (tbD P (RW ts P)) := dAddN_nt (by intro z; rw [z] at hPl; simp at hPl) (by simp) (by simp; omega)
  have z0 : 0 ≤ sizeLine := Nat.zero_le _
  have z1 : 1 ≤ sizeLine := sz_le (by omega)
  have hr := dRange1_iD (n := n) (by omega)
  refine ⟨.fz (ntD (iDs P)), .fz (.list ((HV ts P).map hD)), .fz (.list (cs.map clD)), s8', s9', s10', k4, v4.le (by omega), ?_⟩
  unfold turnL
  generalize PyData.list ((HV ts P).map hD) = O at *
  generalize (RW ts P).map rD = RR at *
  generalize tbD P (RW ts P) = TB at *
  have q1 : (mCall m__law_draw (mCons (mVar 1) (mCons (mC (.int 9)) mNil))) ⟨[.no, .fz deckD, s2, .fz (TsD ts), s4, .fz (ntD (iDs P)), .fz O, .ml [], s8, s9, s10, .no], k1⟩ = .ok (iD r) ⟨[.no, .fz deckD, s2, .fz (TsD ts), s4, .fz (ntD (iDs P)), .fz O, .ml [], s8, s9, s10, .no], k2⟩ := by simp [w3, d2]
  have q2 : (mB dIntC (mCons (mBin (dEqL0 not) (mVar 6) (mLst mNil)) mNil)) ⟨[.no, .fz deckD, s2, .fz (TsD ts), s4, .fz (ntD (iDs P)), .fz O, .ml [], s8, s9, s10, .no], k2⟩ = .ok (.int i) ⟨[.no, .fz deckD, s2, .fz (TsD ts), s4, .fz (ntD (iDs P)), .fz O, .ml [], s8, s9, s10, .no], k2⟩ := by simp [m1, m2, z0]
  have q3 : (mBin dMul (mCall m__law_draw (mCons (mVar 1) (mCons (mC (.int 9)) mNil))) (mB dIntC (mCons (mBin (dEqL0 not) (mVar 6) (mLst mNil)) mNil))) ⟨[.no, .fz deckD, s2, .fz (TsD ts), s4, .fz (ntD (iDs P)), .fz O, .ml [], s8, s9, s10, .no], k1⟩ = .ok (iD n) ⟨[.no, .fz deckD, s2, .fz (TsD ts), s4, .fz (ntD (iDs P)), .fz O, .ml [], s8, s9, s10, .no], k2⟩ := by
    rw [e_bin, q1, Out.bind_ok, q2, Out.bind_ok, m3]; rfl
  have q4 : (mRange1 (mCons (mBin dMul (mCall m__law_draw (mCons (mVar 1) (mCons (mC (.int 9)) mNil))) (mB dIntC (mCons (mBin (dEqL0 not) (mVar 6) (mLst mNil)) mNil))) mNil)) ⟨[.no, .fz deckD, s2, .fz (TsD ts), s4, .fz (ntD (iDs P)), .fz O, .ml [], s8, s9, s10, .no], k1⟩ = .ok (iDs (List.range n)) ⟨[.no, .fz deckD, s2, .fz (TsD ts), s4, .fz (ntD (iDs P)), .fz O, .ml [], s8, s9, s10, .no], k2⟩ := by
    rw [e_range1, e_cons, q3]; simp [hr]
  simp [w8, e1, w9, e2, q4, -e_range1, e3, dTuple_list, e4, w1, e5, w10, e6, w6, ha, sm, z0, z1]
theorem law_runs : LawRuns m__law_deck 12 1 "seed" "at" b_law := by
  intro ns hns
  obtain ⟨k, k', e, v⟩ := deck_ok ns hns
  have e0 : (List.replicate 12 Sl.no).set 1 (.fz deckD) = [.no, .fz deckD, .no, .no, .no, .no, .no, .no, .no, .no, .no, .no] := rfl
  refine ⟨k, k', ?_⟩
  rw [e0]
  obtain ⟨r1, k1, d1, hr1, v1⟩ := draw_nat (lots := 3) v (by omega) (by omega) (by omega)
  have d1 : drawM [deckD, .int 3] k = .ret (iD r1) k1 := d1
  obtain ⟨most, hm, hm0, hm8⟩ : ∃ m : Nat, dIx (.list [.int 5, .int 4, .int 8]) (iD r1) = some (iD m) ∧ 0 < m ∧ m ≤ 8 := by
    match r1, hr1 with
    | 0, _ => exact ⟨5, rfl, by omega, by omega⟩
    | 1, _ => exact ⟨4, rfl, by omega, by omega⟩
    | 2, _ => exact ⟨8, rfl, by omega, by omega⟩
  obtain ⟨r2, k2, d2, hr2, v2⟩ := draw_nat (lots := 3) v1 (by omega) (by omega) (by omega)
  have d2 : drawM [deckD, .int 3] k1 = .ret (iD r2) k2 := d2
  have a2 : dAdd (.int 1) (iD r2) = some (iD (1 + r2)) := dAdd_iD 1 r2
  have hr2' := dRange1_iD (n := 1 + r2) (by omega)
  obtain ⟨ts, k3, e3, hT, hl, v3⟩ := trunks_gen hm0 hm8 (n := 1 + r2) (mi := (mRange1 (mCons (mBin dAdd (mC (.int 1)) (mCall m__law_draw (mCons (mVar 1) (mCons (mC (.int 3)) mNil)))) mNil))) (g := (mGn 8)) (te := (mCall m__law_tree (mCons (mVar 1) (mCons (mVar 2) mNil)))) (vs := [8])
    (ps := ⟨[.no, .fz deckD, .fz (iD most), .no, .no, .no, .no, .no, .no, .no, .no, .no], k1⟩) (sl := [.no, .fz deckD, .fz (iD most), .no, .no, .no, .no, .no, .no, .no, .no, .no]) (k0 := k2) (c := 2) (by omega) (by simp [w3, d2, a2, hr2']) v2 (by omega) (fun x k => ⟨_, rfl, fun t k' ht => ⟨_, by simp [w4, ht]; rfl, rfl⟩⟩)
  obtain ⟨ps', eL, s5, s6, s7, s8, s9, s10, s4, k4, rfl, v4⟩ := loop_nat (g := mGn 4) (body := turnL) (xs := List.range 4) (ps := ⟨[.no, .fz deckD, .fz (iD most), .fz (TsD ts), .no, .no, .no, .no, .no, .no, .no, .no], k3⟩)
    (fun done ps => ∃ s5 s6 s7 s8 s9 s10 s4 k', ps = ⟨[.no, .fz deckD, .fz (iD most), .fz (TsD ts), s4, s5, s6, s7, s8, s9, s10, .no], k'⟩ ∧ Vd k' (50 + 100 * done.length)) ⟨_, _, _, _, _, _, _, _, rfl, v3.le (by omega)⟩ (by
      rintro done x rest ps hx ⟨s5, s6, s7, s8, s9, s10, s4, k', rfl, v'⟩
      obtain ⟨q1, q2, -⟩ := range_at hx
      obtain ⟨s5', s6', s7', s8', s9', s10', k'', v'', e⟩ := turn_ok hT (by omega) (by omega) v' (by omega) (.fz (iD most)) (.fz (iD x)) s5 s6 s7 s8 s9 s10
      exact ⟨_, _, rfl, .inl e, _, _, _, _, _, _, _, _, rfl, v''.le (by simp; omega)⟩)
  have hT1 : TsOk [[0, 1]] := ⟨fun t ht => by
    rw [List.mem_singleton.mp ht]
    refine ⟨fun i v h => ?_, by simp⟩
    match i, h with
    | 0, h => simp at h; omega
    | 1, h => simp at h; omega
    | i + 2, h => simp at h⟩
  have hP1 : PrOk [[0, 1]] [0] := ⟨.inl rfl, by simp, by simp⟩
  have p1 : (tr [[0, 1]] 0).p 1 = 0 := rfl
  have p2 : (tr [[0, 1]] 0).p 2 = 1 := rfl
  have H1 : HOk [[0, 1]] [0] (0, 0, 1) := ⟨by simp, by show 0 ≤ 2; omega, by show 1 ≤ 2; omega, .inr ⟨by show 0 < 1; omega, rfl⟩⟩
  have H2 : HOk [[0, 1]] [0] (0, 2, 1) := ⟨by simp, by show 2 ≤ 2; omega, by show 1 ≤ 2; omega, .inl ⟨by show 0 < 2; omega, rfl⟩⟩
  have b1 := by_ok hT1 hP1 k4 (cs := [((0, 0, 1), (0, 2, 1))]) (fun c hc => by rw [List.mem_singleton.mp hc]; exact ⟨H1, H2⟩) (by simp) (cD := .tuple [clD ((0, 0, 1), (0, 2, 1))]) rfl
  have eR : letR [[0, 1]] [0] [((0, 0, 1), (0, 2, 1))] = [[0], [2]] := by
    have q01 : (tr [[0, 1]] 0).d 0 1 = 1 := by rw [Tr.d_dn (by omega), p1, Tr.d_self]
    have q21 : (tr [[0, 1]] 0).d 2 1 = 1 := by rw [Tr.d_up (by omega), p2, Tr.d_self]
    have q10 : (tr [[0, 1]] 0).d 1 0 = 1 := by rw [Tr.d_up (by omega), p1, Tr.d_self]
    have q12 : (tr [[0, 1]] 0).d 1 2 = 1 := by rw [Tr.d_dn (by omega), p2, Tr.d_self]
    have q (a : Nat) : (tr [[0, 1]] 0).d a a = 0 := Tr.d_self a
    have hR : RW [[0, 1]] [0] = [[0], [1], [2]] := rfl
    unfold letR barA barC inH
    rw [hR]
    simp [List.idxOf_cons, q01, q21, q10, q12, q]
  rw [eR] at b1
  have b1 : byM [.tuple [.tuple [.int 0, .int 1]], ntD [.int 0], .tuple [.tuple [.tuple [.int 0, .int 0, .int 1], .tuple [.int 0, .int 2, .int 1]]]] k4 = .ret (.tuple [.int 0, .tuple [.int 0, .int 2]]) k4 := b1
  have ef : dEq (.tuple [.int 0, .tuple [.int 0, .int 2]]) (.tuple [.int 0, .tuple [.int 0, .int 2]]) = some (.bool true) := rfl
  have z1 : 1 ≤ sizeLine := sz_le (by omega)
  have z2 : 2 ≤ sizeLine := sz_le (by omega)
  have z3 : 3 ≤ sizeLine := sz_le (by omega)
  have hr4 : dRange1 [.int 4] = some (iDs (List.range 4)) := dRange1_iD (n := 4) (by omega)
  unfold turnL banL at eL
  have eT : PyData.tuple (ts.map TD) = TsD ts := rfl
  refine ⟨⟨[.no, .fz deckD, .fz (iD most), .fz (TsD ts), s4, s5, s6, s7, s8, s9, s10, .no], k4⟩, by rw [w5]; exact e, ?_⟩
  have e3' : mComp (mRange1 (mCons (mBin dAdd (mC (.int 1)) (mCall m__law_draw (mCons (mVar 1) (mCons (mC (.int 3)) mNil)))) mNil)) (mGn 8) mYes (mCall m__law_tree (mCons (mVar 1) (mCons (mVar 2) mNil))) [8] ⟨[.no, .fz deckD, .fz (iD most), .no, .no, .no, .no, .no, .no, .no, .no, .no], k1⟩ = .ok (ts.map TD) ⟨[.no, .fz deckD, .fz (iD most), .no, .no, .no, .no, .no, .no, .no, .no, .no], k3⟩ := e3
  generalize ts.map TD = TL at *
  simp only [w1, w3] at eL
  simp only [w3] at e3'
  unfold b_law
  simp [w3, d1, hm, z1, z2, z3, e3', dTuple_list, eT, hr4, eL, w1, b1, ef]
end G_k10
/-! The walk of the law k10, printed by gen.py. -/
namespace G_k10
open PySem PySem.Spec PyProof.Rows L2 MM
def topS (i : Nat) : Stmt := PySem.Challenge.pw_middleyard_k10_what_clauses_let.main.body.getD i (.Pass ⟨0, 0, 0, 0⟩)
abbrev s_places_in : Stmt := topS 1
abbrev N_places_in : List Str := ["tree"]
theorem sc_places_in : FnScope ["tree"] ["tree"] (defScope s_places_in) := ⟨rfl, rfl, rfl, by decide +kernel, rfl, by decide +kernel, by decide +kernel⟩
abbrev s_joined_with : Stmt := topS 2
abbrev N_joined_with : List Str := ["tree", "place", "found", "k", "one"]
theorem sc_joined_with : FnScope ["tree", "place", "found", "k", "one"] ["tree", "place"] (defScope s_joined_with) := ⟨rfl, rfl, rfl, by decide +kernel, rfl, by decide +kernel, by decide +kernel⟩
abbrev s_to_first : Stmt := topS 3
abbrev N_to_first : List Str := ["tree", "place", "found"]
theorem sc_to_first : FnScope ["tree", "place", "found"] ["tree", "place"] (defScope s_to_first) := ⟨rfl, rfl, rfl, by decide +kernel, rfl, by decide +kernel, by decide +kernel⟩
abbrev s_way : Stmt := topS 4
abbrev N_way : List Str := ["tree", "a", "b", "here", "there", "up", "both", "down", "one"]
theorem sc_way : FnScope ["tree", "a", "b", "here", "there", "up", "both", "down", "one"] ["tree", "a", "b"] (defScope s_way) := ⟨rfl, rfl, rfl, by decide +kernel, rfl, by decide +kernel, by decide +kernel⟩
abbrev s_side : Stmt := topS 5
abbrev N_side : List Str := ["tree", "a", "b", "one"]
theorem sc_side : FnScope ["tree", "a", "b", "one"] ["tree", "a", "b"] (defScope s_side) := ⟨rfl, rfl, rfl, by decide +kernel, rfl, by decide +kernel, by decide +kernel⟩
abbrev s_all_rows : Stmt := topS 8
abbrev N_all_rows : List Str := ["trees", "things", "a", "b"]
theorem sc_all_rows : FnScope ["trees", "things", "a", "b"] ["trees", "things"] (defScope s_all_rows) := ⟨rfl, rfl, rfl, by decide +kernel, rfl, by decide +kernel, by decide +kernel⟩
abbrev s_halves_of : Stmt := topS 9
abbrev N_halves_of : List Str := ["trees", "things", "found", "i", "a", "b"]
theorem sc_halves_of : FnScope ["trees", "things", "found", "i", "a", "b"] ["trees", "things"] (defScope s_halves_of) := ⟨rfl, rfl, rfl, by decide +kernel, rfl, by decide +kernel, by decide +kernel⟩
abbrev s_half_bits : Stmt := topS 10
abbrev N_half_bits : List Str := ["trees", "things", "half", "i", "a", "b", "there", "at", "bits", "k", "row", "place"]
theorem sc_half_bits : FnScope ["trees", "things", "half", "i", "a", "b", "there", "at", "bits", "k", "row", "place"] ["trees", "things", "half"] (defScope s_half_bits) := ⟨rfl, rfl, rfl, by decide +kernel, rfl, by decide +kernel, by decide +kernel⟩
abbrev s_row_bits : Stmt := topS 11
abbrev N_row_bits : List Str := ["trees", "things", "rows", "known", "row", "k"]
theorem sc_row_bits : FnScope ["trees", "things", "rows", "known", "row", "k"] ["trees", "things", "rows"] (defScope s_row_bits) := ⟨rfl, rfl, rfl, by decide +kernel, rfl, by decide +kernel, by decide +kernel⟩
abbrev s_by_clauses : Stmt := topS 12
abbrev N_by_clauses : List Str := ["trees", "things", "clauses", "bits_by", "barred", "half", "other", "rows", "clause", "k", "row"]
theorem sc_by_clauses : FnScope ["trees", "things", "clauses", "bits_by", "barred", "half", "other", "rows", "clause", "k", "row"] ["trees", "things", "clauses"] (defScope s_by_clauses) := ⟨rfl, rfl, rfl, by decide +kernel, rfl, by decide +kernel, by decide +kernel⟩
abbrev s_barring : Stmt := topS 13
abbrev N_barring : List Str := ["trees", "table", "things", "rows", "stay", "halves", "bits_of", "found", "k", "half", "j", "bits"]
theorem sc_barring : FnScope ["trees", "table", "things", "rows", "stay", "halves", "bits_of", "found", "k", "half", "j", "bits"] ["trees", "table"] (defScope s_barring) := ⟨rfl, rfl, rfl, by decide +kernel, rfl, by decide +kernel, by decide +kernel⟩
abbrev s_filled : Stmt := topS 15
abbrev N_filled : List Str := ["trees", "table"]
theorem sc_filled : FnScope ["trees", "table"] ["trees", "table"] (defScope s_filled) := ⟨rfl, rfl, rfl, by decide +kernel, rfl, by decide +kernel, by decide +kernel⟩
abbrev s_unmiddled : Stmt := topS 19
abbrev N_unmiddled : List Str := ["trees", "table", "i"]
theorem sc_unmiddled : FnScope ["trees", "table", "i"] ["trees", "table"] (defScope s_unmiddled) := ⟨rfl, rfl, rfl, by decide +kernel, rfl, by decide +kernel, by decide +kernel⟩
abbrev s__law_deck : Stmt := topS 21
abbrev N__law_deck : List Str := ["_law_script", "_law_cells", "_law_seed", "_law_cell"]
theorem sc__law_deck : FnScope ["_law_script", "_law_cells", "_law_seed", "_law_cell"] ["_law_script"] (defScope s__law_deck) := ⟨rfl, rfl, rfl, by decide +kernel, rfl, by decide +kernel, by decide +kernel⟩
abbrev s__law_draw : Stmt := topS 22
abbrev N__law_draw : List Str := ["_law_deck_here", "_law_lots", "_law_at", "_law_cell", "_law_number"]
theorem sc__law_draw : FnScope ["_law_deck_here", "_law_lots", "_law_at", "_law_cell", "_law_number"] ["_law_deck_here", "_law_lots"] (defScope s__law_draw) := ⟨rfl, rfl, rfl, by decide +kernel, rfl, by decide +kernel, by decide +kernel⟩
abbrev s__law_tree : Stmt := topS 23
abbrev N__law_tree : List Str := ["_law_deck_here", "_law_most", "_law_lots", "_law_sort", "_law_found", "_law_k", "_law_some"]
theorem sc__law_tree : FnScope ["_law_deck_here", "_law_most", "_law_lots", "_law_sort", "_law_found", "_law_k", "_law_some"] ["_law_deck_here", "_law_most"] (defScope s__law_tree) := ⟨rfl, rfl, rfl, by decide +kernel, rfl, by decide +kernel, by decide +kernel⟩
abbrev s__law_near : Stmt := topS 24
abbrev N__law_near : List Str := ["_law_tree_here", "_law_one", "_law_found", "_law_k"]
theorem sc__law_near : FnScope ["_law_tree_here", "_law_one", "_law_found", "_law_k"] ["_law_tree_here", "_law_one"] (defScope s__law_near) := ⟨rfl, rfl, rfl, by decide +kernel, rfl, by decide +kernel, by decide +kernel⟩
abbrev s__law_off : Stmt := topS 25
abbrev N__law_off : List Str := ["_law_tree_here", "_law_one", "_law_found", "_law_here", "_law_count", "_law_more", "_law_spot", "_law_other"]
theorem sc__law_off : FnScope ["_law_tree_here", "_law_one", "_law_found", "_law_here", "_law_count", "_law_more", "_law_spot", "_law_other"] ["_law_tree_here", "_law_one"] (defScope s__law_off) := ⟨rfl, rfl, rfl, by decide +kernel, rfl, by decide +kernel, by decide +kernel⟩
abbrev s__law_same : Stmt := topS 27
abbrev N__law_same : List Str := ["_law_found", "_law_due", "_law_one", "_law_other"]
theorem sc__law_same : FnScope ["_law_found", "_law_due", "_law_one", "_law_other"] ["_law_found", "_law_due"] (defScope s__law_same) := ⟨rfl, rfl, rfl, by decide +kernel, rfl, by decide +kernel, by decide +kernel⟩
abbrev s__law_rows_of : Stmt := topS 28
abbrev N__law_rows_of : List Str := ["_law_trunks", "_law_pair", "_law_found", "_law_a", "_law_b"]
theorem sc__law_rows_of : FnScope ["_law_trunks", "_law_pair", "_law_found", "_law_a", "_law_b"] ["_law_trunks", "_law_pair"] (defScope s__law_rows_of) := ⟨rfl, rfl, rfl, by decide +kernel, rfl, by decide +kernel, by decide +kernel⟩
abbrev s__law_things : Stmt := topS 29
abbrev N__law_things : List Str := ["_law_deck_here", "_law_trunks", "_law_one"]
theorem sc__law_things : FnScope ["_law_deck_here", "_law_trunks", "_law_one"] ["_law_deck_here", "_law_trunks"] (defScope s__law_things) := ⟨rfl, rfl, rfl, by decide +kernel, rfl, by decide +kernel, by decide +kernel⟩
abbrev s__law_halves : Stmt := topS 30
abbrev N__law_halves : List Str := ["_law_trunks", "_law_pair", "_law_found", "_law_i", "_law_a", "_law_b"]
theorem sc__law_halves : FnScope ["_law_trunks", "_law_pair", "_law_found", "_law_i", "_law_a", "_law_b"] ["_law_trunks", "_law_pair"] (defScope s__law_halves) := ⟨rfl, rfl, rfl, by decide +kernel, rfl, by decide +kernel, by decide +kernel⟩
abbrev s__law_in_half : Stmt := topS 31
abbrev N__law_in_half : List Str := ["_law_trunks", "_law_half", "_law_i", "_law_a", "_law_b", "_law_here", "_law_there", "_law_one"]
theorem sc__law_in_half : FnScope ["_law_trunks", "_law_half", "_law_i", "_law_a", "_law_b", "_law_here", "_law_there", "_law_one"] ["_law_trunks", "_law_half"] (defScope s__law_in_half) := ⟨rfl, rfl, rfl, by decide +kernel, rfl, by decide +kernel, by decide +kernel⟩
abbrev s__law_barred : Stmt := topS 32
abbrev N__law_barred : List Str := ["_law_trunks", "_law_pair", "_law_clause", "_law_found", "_law_half", "_law_spots", "_law_at", "_law_row"]
theorem sc__law_barred : FnScope ["_law_trunks", "_law_pair", "_law_clause", "_law_found", "_law_half", "_law_spots", "_law_at", "_law_row"] ["_law_trunks", "_law_pair", "_law_clause"] (defScope s__law_barred) := ⟨rfl, rfl, rfl, by decide +kernel, rfl, by decide +kernel, by decide +kernel⟩
abbrev s__law_let : Stmt := topS 33
abbrev N__law_let : List Str := ["_law_trunks", "_law_pair", "_law_bans", "_law_barred_here", "_law_clause", "_law_row"]
theorem sc__law_let : FnScope ["_law_trunks", "_law_pair", "_law_bans", "_law_barred_here", "_law_clause", "_law_row"] ["_law_trunks", "_law_pair", "_law_bans"] (defScope s__law_let) := ⟨rfl, rfl, rfl, by decide +kernel, rfl, by decide +kernel, by decide +kernel⟩
abbrev s__law_right : Stmt := topS 34
abbrev N__law_right : List Str := ["_law_deck_here", "_law_trunks", "_law_pair", "_law_bans", "_law_due", "_law_kept", "_law_found", "_law_at", "_law_turned", "_law_about", "_law_fewer", "_law_row"]
theorem sc__law_right : FnScope ["_law_deck_here", "_law_trunks", "_law_pair", "_law_bans", "_law_due", "_law_kept", "_law_found", "_law_at", "_law_turned", "_law_about", "_law_fewer", "_law_row"] ["_law_deck_here", "_law_trunks", "_law_pair", "_law_bans"] (defScope s__law_right) := ⟨rfl, rfl, rfl, by decide +kernel, rfl, by decide +kernel, by decide +kernel⟩
abbrev s_law : Stmt := topS 35
abbrev N_law : List Str := ["_law_script", "_law_deck_here", "_law_most", "_law_trunks", "_law_turn", "_law_pair", "_law_halves_here", "_law_bans", "_law_k", "_law_one", "_law_other", "_law_side_of"]
theorem sc_law : FnScope ["_law_script", "_law_deck_here", "_law_most", "_law_trunks", "_law_turn", "_law_pair", "_law_halves_here", "_law_bans", "_law_k", "_law_one", "_law_other", "_law_side_of"] ["_law_script"] (defScope s_law) := ⟨rfl, rfl, rfl, by decide +kernel, rfl, by decide +kernel, by decide +kernel⟩
structure Tx (K : PySem.W.Frag) (mg : Str → Option Value) where
  a_places_in : Addr
  d_places_in : FuncData
  F_places_in : Fun K "places_in" "places_in" s_places_in a_places_in d_places_in
  g_places_in : mg "places_in" = some (.ref a_places_in)
  a_joined_with : Addr
  d_joined_with : FuncData
  F_joined_with : Fun K "joined_with" "joined_with" s_joined_with a_joined_with d_joined_with
  g_joined_with : mg "joined_with" = some (.ref a_joined_with)
  a_to_first : Addr
  d_to_first : FuncData
  F_to_first : Fun K "to_first" "to_first" s_to_first a_to_first d_to_first
  g_to_first : mg "to_first" = some (.ref a_to_first)
  a_way : Addr
  d_way : FuncData
  F_way : Fun K "way" "way" s_way a_way d_way
  g_way : mg "way" = some (.ref a_way)
  a_side : Addr
  d_side : FuncData
  F_side : Fun K "side" "side" s_side a_side d_side
  g_side : mg "side" = some (.ref a_side)
  a_all_rows : Addr
  d_all_rows : FuncData
  F_all_rows : Fun K "all_rows" "all_rows" s_all_rows a_all_rows d_all_rows
  g_all_rows : mg "all_rows" = some (.ref a_all_rows)
  a_halves_of : Addr
  d_halves_of : FuncData
  F_halves_of : Fun K "halves_of" "halves_of" s_halves_of a_halves_of d_halves_of
  g_halves_of : mg "halves_of" = some (.ref a_halves_of)
  a_half_bits : Addr
  d_half_bits : FuncData
  F_half_bits : Fun K "half_bits" "half_bits" s_half_bits a_half_bits d_half_bits
  g_half_bits : mg "half_bits" = some (.ref a_half_bits)
  a_row_bits : Addr
  d_row_bits : FuncData
  F_row_bits : Fun K "row_bits" "row_bits" s_row_bits a_row_bits d_row_bits
  g_row_bits : mg "row_bits" = some (.ref a_row_bits)
  a_by_clauses : Addr
  d_by_clauses : FuncData
  F_by_clauses : Fun K "by_clauses" "by_clauses" s_by_clauses a_by_clauses d_by_clauses
  g_by_clauses : mg "by_clauses" = some (.ref a_by_clauses)
  a_barring : Addr
  d_barring : FuncData
  F_barring : Fun K "barring" "barring" s_barring a_barring d_barring
  g_barring : mg "barring" = some (.ref a_barring)
  a_filled : Addr
  d_filled : FuncData
  F_filled : Fun K "filled" "filled" s_filled a_filled d_filled
  g_filled : mg "filled" = some (.ref a_filled)
  a_unmiddled : Addr
  d_unmiddled : FuncData
  F_unmiddled : Fun K "unmiddled" "unmiddled" s_unmiddled a_unmiddled d_unmiddled
  g_unmiddled : mg "unmiddled" = some (.ref a_unmiddled)
  a__law_deck : Addr
  d__law_deck : FuncData
  F__law_deck : Fun K "_law_deck" "_law_deck" s__law_deck a__law_deck d__law_deck
  g__law_deck : mg "_law_deck" = some (.ref a__law_deck)
  a__law_draw : Addr
  d__law_draw : FuncData
  F__law_draw : Fun K "_law_draw" "_law_draw" s__law_draw a__law_draw d__law_draw
  g__law_draw : mg "_law_draw" = some (.ref a__law_draw)
  a__law_tree : Addr
  d__law_tree : FuncData
  F__law_tree : Fun K "_law_tree" "_law_tree" s__law_tree a__law_tree d__law_tree
  g__law_tree : mg "_law_tree" = some (.ref a__law_tree)
  a__law_near : Addr
  d__law_near : FuncData
  F__law_near : Fun K "_law_near" "_law_near" s__law_near a__law_near d__law_near
  g__law_near : mg "_law_near" = some (.ref a__law_near)
  a__law_off : Addr
  d__law_off : FuncData
  F__law_off : Fun K "_law_off" "_law_off" s__law_off a__law_off d__law_off
  g__law_off : mg "_law_off" = some (.ref a__law_off)
  a__law_same : Addr
  d__law_same : FuncData
  F__law_same : Fun K "_law_same" "_law_same" s__law_same a__law_same d__law_same
  g__law_same : mg "_law_same" = some (.ref a__law_same)
  a__law_rows_of : Addr
  d__law_rows_of : FuncData
  F__law_rows_of : Fun K "_law_rows_of" "_law_rows_of" s__law_rows_of a__law_rows_of d__law_rows_of
  g__law_rows_of : mg "_law_rows_of" = some (.ref a__law_rows_of)
  a__law_things : Addr
  d__law_things : FuncData
  F__law_things : Fun K "_law_things" "_law_things" s__law_things a__law_things d__law_things
  g__law_things : mg "_law_things" = some (.ref a__law_things)
  a__law_halves : Addr
  d__law_halves : FuncData
  F__law_halves : Fun K "_law_halves" "_law_halves" s__law_halves a__law_halves d__law_halves
  g__law_halves : mg "_law_halves" = some (.ref a__law_halves)
  a__law_in_half : Addr
  d__law_in_half : FuncData
  F__law_in_half : Fun K "_law_in_half" "_law_in_half" s__law_in_half a__law_in_half d__law_in_half
  g__law_in_half : mg "_law_in_half" = some (.ref a__law_in_half)
  a__law_barred : Addr
  d__law_barred : FuncData
  F__law_barred : Fun K "_law_barred" "_law_barred" s__law_barred a__law_barred d__law_barred
  g__law_barred : mg "_law_barred" = some (.ref a__law_barred)
  a__law_let : Addr
  d__law_let : FuncData
  F__law_let : Fun K "_law_let" "_law_let" s__law_let a__law_let d__law_let
  g__law_let : mg "_law_let" = some (.ref a__law_let)
  a__law_right : Addr
  d__law_right : FuncData
  F__law_right : Fun K "_law_right" "_law_right" s__law_right a__law_right d__law_right
  g__law_right : mg "_law_right" = some (.ref a__law_right)
  a_law : Addr
  d_law : FuncData
  F_law : Fun K "law" "law" s_law a_law d_law
  g_law : mg "law" = some (.ref a_law)
  n_all : mg "all" = none
  n_bool : mg "bool" = none
  n_enumerate : mg "enumerate" = none
  n_int : mg "int" = none
  n_isinstance : mg "isinstance" = none
  n_len : mg "len" = none
  n_list : mg "list" = none
  n_max : mg "max" = none
  n_min : mg "min" = none
  n_range : mg "range" = none
  n_repr : mg "repr" = none
  n_sorted : mg "sorted" = none
  n_sum : mg "sum" = none
  n_tuple : mg "tuple" = none
  n_zip : mg "zip" = none
section
variable {P : Program} {w : World} {K : PySem.W.Frag} {mg : Str → Option Value} {base : Heap} {C : Mc}
theorem B_places_in (T : Tx K mg) : Binds K T.d_places_in ["tree"] [] := T.F_places_in.binds fun _ _ _ _ _ _ us hl => match us, hl with | [_], _ => rfl
theorem B_joined_with (T : Tx K mg) : Binds K T.d_joined_with ["tree", "place"] [] := T.F_joined_with.binds fun _ _ _ _ _ _ us hl => match us, hl with | [_, _], _ => rfl
theorem B_to_first (T : Tx K mg) : Binds K T.d_to_first ["tree", "place"] [] := T.F_to_first.binds fun _ _ _ _ _ _ us hl => match us, hl with | [_, _], _ => rfl
theorem B_way (T : Tx K mg) : Binds K T.d_way ["tree", "a", "b"] [] := T.F_way.binds fun _ _ _ _ _ _ us hl => match us, hl with | [_, _, _], _ => rfl
theorem B_side (T : Tx K mg) : Binds K T.d_side ["tree", "a", "b"] [] := T.F_side.binds fun _ _ _ _ _ _ us hl => match us, hl with | [_, _, _], _ => rfl
theorem B_all_rows (T : Tx K mg) : Binds K T.d_all_rows ["trees", "things"] [] := T.F_all_rows.binds fun _ _ _ _ _ _ us hl => match us, hl with | [_, _], _ => rfl
theorem B_halves_of (T : Tx K mg) : Binds K T.d_halves_of ["trees", "things"] [] := T.F_halves_of.binds fun _ _ _ _ _ _ us hl => match us, hl with | [_, _], _ => rfl
theorem B_half_bits (T : Tx K mg) : Binds K T.d_half_bits ["trees", "things", "half"] [] := T.F_half_bits.binds fun _ _ _ _ _ _ us hl => match us, hl with | [_, _, _], _ => rfl
theorem B_row_bits (T : Tx K mg) : Binds K T.d_row_bits ["trees", "things", "rows"] [] := T.F_row_bits.binds fun _ _ _ _ _ _ us hl => match us, hl with | [_, _, _], _ => rfl
theorem B_by_clauses (T : Tx K mg) : Binds K T.d_by_clauses ["trees", "things", "clauses"] [] := T.F_by_clauses.binds fun _ _ _ _ _ _ us hl => match us, hl with | [_, _, _], _ => rfl
theorem B_barring (T : Tx K mg) : Binds K T.d_barring ["trees", "table"] [] := T.F_barring.binds fun _ _ _ _ _ _ us hl => match us, hl with | [_, _], _ => rfl
theorem B_filled (T : Tx K mg) : Binds K T.d_filled ["trees", "table"] [] := T.F_filled.binds fun _ _ _ _ _ _ us hl => match us, hl with | [_, _], _ => rfl
theorem B_unmiddled (T : Tx K mg) : Binds K T.d_unmiddled ["trees", "table"] [] := T.F_unmiddled.binds fun _ _ _ _ _ _ us hl => match us, hl with | [_, _], _ => rfl
theorem B__law_deck (T : Tx K mg) : Binds K T.d__law_deck ["_law_script"] [] := T.F__law_deck.binds fun _ _ _ _ _ _ us hl => match us, hl with | [_], _ => rfl
theorem B__law_draw (T : Tx K mg) : Binds K T.d__law_draw ["_law_deck_here", "_law_lots"] [] := T.F__law_draw.binds fun _ _ _ _ _ _ us hl => match us, hl with | [_, _], _ => rfl
theorem B__law_tree (T : Tx K mg) : Binds K T.d__law_tree ["_law_deck_here", "_law_most"] [] := T.F__law_tree.binds fun _ _ _ _ _ _ us hl => match us, hl with | [_, _], _ => rfl
theorem B__law_near (T : Tx K mg) : Binds K T.d__law_near ["_law_tree_here", "_law_one"] [] := T.F__law_near.binds fun _ _ _ _ _ _ us hl => match us, hl with | [_, _], _ => rfl
theorem B__law_off (T : Tx K mg) : Binds K T.d__law_off ["_law_tree_here", "_law_one"] [] := T.F__law_off.binds fun _ _ _ _ _ _ us hl => match us, hl with | [_, _], _ => rfl
theorem B__law_same (T : Tx K mg) : Binds K T.d__law_same ["_law_found", "_law_due"] [] := T.F__law_same.binds fun _ _ _ _ _ _ us hl => match us, hl with | [_, _], _ => rfl
theorem B__law_rows_of (T : Tx K mg) : Binds K T.d__law_rows_of ["_law_trunks", "_law_pair"] [] := T.F__law_rows_of.binds fun _ _ _ _ _ _ us hl => match us, hl with | [_, _], _ => rfl
theorem B__law_things (T : Tx K mg) : Binds K T.d__law_things ["_law_deck_here", "_law_trunks"] [] := T.F__law_things.binds fun _ _ _ _ _ _ us hl => match us, hl with | [_, _], _ => rfl
theorem B__law_halves (T : Tx K mg) : Binds K T.d__law_halves ["_law_trunks", "_law_pair"] [] := T.F__law_halves.binds fun _ _ _ _ _ _ us hl => match us, hl with | [_, _], _ => rfl
theorem B__law_in_half (T : Tx K mg) : Binds K T.d__law_in_half ["_law_trunks", "_law_half"] [] := T.F__law_in_half.binds fun _ _ _ _ _ _ us hl => match us, hl with | [_, _], _ => rfl
theorem B__law_barred (T : Tx K mg) : Binds K T.d__law_barred ["_law_trunks", "_law_pair", "_law_clause"] [] := T.F__law_barred.binds fun _ _ _ _ _ _ us hl => match us, hl with | [_, _, _], _ => rfl
theorem B__law_let (T : Tx K mg) : Binds K T.d__law_let ["_law_trunks", "_law_pair", "_law_bans"] [] := T.F__law_let.binds fun _ _ _ _ _ _ us hl => match us, hl with | [_, _, _], _ => rfl
theorem B__law_right (T : Tx K mg) : Binds K T.d__law_right ["_law_deck_here", "_law_trunks", "_law_pair", "_law_bans"] [] := T.F__law_right.binds fun _ _ _ _ _ _ us hl => match us, hl with | [_, _, _, _], _ => rfl
theorem B_law (T : Tx K mg) : Binds K T.d_law ["_law_script"] [] := T.F_law.binds fun _ _ _ _ _ _ us hl => match us, hl with | [_], _ => rfl
theorem kb_by_clauses_0_clauses_things_trees {fd : FuncData} {a : Addr} (F : Fun K "by_clauses" "by_clauses" s_by_clauses a fd) : KBinds K fd ["trees", "things", "clauses"] ["clauses", "things", "trees"] (pick 0 3 [2, 1, 0]) (pick 0 3 [2, 1, 0]) := by
  obtain ⟨oc, od, kV, doc, pm, an, cdv, ct, osl, rfl, lk, hcd⟩ := F.ex
  exact kb_mk (by decide) fun s us ws h1 h2 => match us, ws, h1, h2 with | [], [w0, w1, w2], _, _ => .of_eq rfl
theorem ok_places_in (T : Tx K mg) (hK : C.K = K) (hD : DkIs C false "seed" "at") : FnOk P w K mg base CX0 1 T.a_places_in T.d_places_in ["tree"] (spM C m_places_in) := by
  exact fn_ok (k := 0) T.F_places_in sc_places_in (fun cdv A outer s H E hr => by
    have h0 := hr.units0; have h1 := hu1 hr; have h64 := hr.units; have h65 := hu65 hr
    exact (xs_one (xs_ret (xfz (xlistRg1 rfl rfl T.n_list rfl T.n_range (xop op_addAll (om_add hK) (xcallB call_len (cm_len hK) rfl T.n_len PySem.boot_len (xa_cons (xv (pv 0)) xa_nil)) xint))))))
theorem ok_joined_with (T : Tx K mg) (hK : C.K = K) (hD : DkIs C false "seed" "at") : FnOk P w K mg base CX0 1 T.a_joined_with T.d_joined_with ["tree", "place"] (spM C m_joined_with) := by
  exact fn_ok (k := 0) T.F_joined_with sc_joined_with (fun cdv A outer s H E hr => by
    have h0 := hr.units0; have h1 := hu1 hr; have h64 := hr.units; have h65 := hu65 hr
    exact (xs_cons (xs_ownLc (i := 2) (own := [("k", 3), ("one", 4)]) (by decide) rfl sc_joined_with.nd rfl rfl (sw_true rfl rfl rfl (by decide +kernel)) (xi_enum hK rfl T.n_enumerate (xa_cons (xv (pv 0)) xa_nil)) (blkOk_by (by first | (show blkC N_joined_with (defScope s_joined_with) _ _ = true; decide +kernel) | rfl | (with_unfolding_all rfl))) (fun _ _ _ _ _ => (xg_pair (i := 3) (j := 4) rfl hK sc_joined_with.nd rfl rfl (by first | exact Or.inl rfl | exact Or.inr rfl) (by first | exact Or.inl rfl | exact Or.inr rfl))) (fun _ _ _ _ _ => (xts_one (xt_cmp (op_eqD h64) (om_eq hK) (xv (pv 4)) (xv (pv 1))))) (fun _ _ _ _ _ => (xop op_addAll (om_add hK) (xv (pv 3)) xint)))
      (xs_cons (xs_if (xt_cmp op_gt om_gt (xv (pv 1)) xint) (xs_one (xs_expr (xinsert (pv 2) xint (xix h1 hK (xv (pv 0)) (xop op_sub om_sub (xv (pv 1)) xint) (fun _ _ => rfl))))) xs_nil)
      (xs_one (xs_ret (xv (pv 2)))))))
theorem ok_to_first (T : Tx K mg) (hK : C.K = K) (hD : DkIs C false "seed" "at") : FnOk P w K mg base CX0 1 T.a_to_first T.d_to_first ["tree", "place"] (spM C m_to_first) := by
  exact fn_ok (k := 0) T.F_to_first sc_to_first (fun cdv A outer s H E hr => by
    have h0 := hr.units0; have h1 := hu1 hr; have h64 := hr.units; have h65 := hu65 hr
    exact (xs_cons (xs_own (i := 2) sc_to_first.nd rfl (by first | exact Or.inl rfl | exact Or.inr rfl) (xdisp (xa_cons (xv (pv 1)) xa_nil)))
      (xs_cons (xs_while 64 PassesOwn.never (xt_cmp op_gt om_gt (xixV h1 hK (pv 2) (xun un_neg um_neg xint) (fun _ _ => rfl)) xint) (xs_one (xs_expr (xappend (pv 2) (xix h1 hK (xv (pv 0)) (xop op_sub om_sub (xixV h1 hK (pv 2) (xun un_neg um_neg xint) (fun _ _ => rfl)) xint) (fun _ _ => rfl))))))
      (xs_one (xs_ret (xv (pv 2)))))))
theorem ok_way (T : Tx K mg) (hK : C.K = K) (hD : DkIs C false "seed" "at") : FnOk P w K mg base CX0 2 T.a_way T.d_way ["tree", "a", "b"] (spM C m_way) := by
  have G_to_first := ok_to_first (P := P) (w := w) (base := base) (C := C) T hK hD
  exact fn_ok (k := 1) T.F_way sc_way (fun cdv A outer s H E hr => by
    have h0 := hr.units0; have h1 := hu1 hr; have h64 := hr.units; have h65 := hu65 hr
    exact (xs_cons (xs_asg (xtup (xa_cons (xcall G_to_first (hr.mono (by decide)) rfl T.g_to_first T.F_to_first.kp (B_to_first T) (xa_cons (xv (pv 0)) (xa_cons (xv (pv 1)) xa_nil))) (xa_cons (xcall G_to_first (hr.mono (by decide)) rfl T.g_to_first T.F_to_first.kp (B_to_first T) (xa_cons (xv (pv 0)) (xa_cons (xv (pv 2)) xa_nil))) xa_nil))) (xg_pair (i := 3) (j := 4) rfl hK sc_way.nd rfl rfl (by first | exact Or.inl rfl | exact Or.inr rfl) (by first | exact Or.inl rfl | exact Or.inr rfl)))
      (xs_cons (xs_ownLc (i := 5) (own := [("one", 8)]) (by decide) rfl sc_way.nd rfl rfl (sw_true rfl rfl rfl (by decide +kernel)) (xi_seq hK (xv (pv 3))) (blkOk_by (by first | (show blkC N_way (defScope s_way) _ _ = true; decide +kernel) | rfl | (with_unfolding_all rfl))) (fun _ _ _ _ _ => (xg_name (i := 8) sc_way.nd rfl (by first | exact Or.inl rfl | exact Or.inr rfl))) (fun _ _ _ _ _ => (xts_one (xt_cmp (op_notInAll h65) (om_notIn hK) (xv (pv 8)) (xv (pv 4))))) (fun _ _ _ _ _ => (xv (pv 8))))
      (xs_cons (xs_ownLc (i := 6) (own := [("one", 8)]) (by decide) rfl sc_way.nd rfl rfl (sw_true rfl rfl rfl (by decide +kernel)) (xi_seq hK (xv (pv 3))) (blkOk_by (by first | (show blkC N_way (defScope s_way) _ _ = true; decide +kernel) | rfl | (with_unfolding_all rfl))) (fun _ _ _ _ _ => (xg_name (i := 8) sc_way.nd rfl (by first | exact Or.inl rfl | exact Or.inr rfl))) (fun _ _ _ _ _ => (xts_one (xt_cmp (op_inAll h65) (om_in hK) (xv (pv 8)) (xv (pv 4))))) (fun _ _ _ _ _ => (xv (pv 8))))
      (xs_cons (xs_ownLc (i := 7) (own := [("one", 8)]) (by decide) rfl sc_way.nd rfl rfl (sw_true rfl rfl rfl (by decide +kernel)) (xi_seq hK (xv (pv 4))) (blkOk_by (by first | (show blkC N_way (defScope s_way) _ _ = true; decide +kernel) | rfl | (with_unfolding_all rfl))) (fun _ _ _ _ _ => (xg_name (i := 8) sc_way.nd rfl (by first | exact Or.inl rfl | exact Or.inr rfl))) (fun _ _ _ _ _ => (xts_one (xt_cmp (op_notInAll h65) (om_notIn hK) (xv (pv 8)) (xv (pv 3))))) (fun _ _ _ _ _ => (xv (pv 8))))
      (xs_one (xs_ret (xcallTy call_tuple_of (cm_tuple hK) rfl T.n_tuple (by decide +kernel) (xa_cons (xop op_addAll (om_add hK) (xop op_addAll (om_add hK) (xv (pv 5)) (xslice hK (xv (pv 6)) xo_none (xo_some xint))) (xrev hK (xv (pv 7)))) xa_nil)))))))))
theorem ok_side (T : Tx K mg) (hK : C.K = K) (hD : DkIs C false "seed" "at") : FnOk P w K mg base CX0 3 T.a_side T.d_side ["tree", "a", "b"] (spM C m_side) := by
  have G_places_in := ok_places_in (P := P) (w := w) (base := base) (C := C) T hK hD
  have G_way := ok_way (P := P) (w := w) (base := base) (C := C) T hK hD
  exact fn_ok (k := 2) T.F_side sc_side (fun cdv A outer s H E hr => by
    have h0 := hr.units0; have h1 := hu1 hr; have h64 := hr.units; have h65 := hu65 hr
    exact (xs_one (xs_ret (xcallTy call_tuple_of (cm_tuple hK) rfl T.n_tuple (by decide +kernel) (xa_cons (xfz (xlc (own := [("one", 3)]) (by decide) rfl sc_side.nd (xi_seq hK (xcall G_places_in (hr.mono (by decide)) rfl T.g_places_in T.F_places_in.kp (B_places_in T) (xa_cons (xv (pv 0)) xa_nil))) (blkOk_by (by first | (show blkC N_side (defScope s_side) _ _ = true; decide +kernel) | rfl | (with_unfolding_all rfl))) (fun _ _ _ _ _ => (xg_name (i := 3) sc_side.nd rfl (by first | exact Or.inl rfl | exact Or.inr rfl))) (fun _ _ _ _ _ => (xts_one (xt_cmp (op_inAll h65) (om_in hK) (xv (pv 2)) (xcall G_way (hr.mono (by decide)) rfl T.g_way T.F_way.kp (B_way T) (xa_cons (xv (pv 0)) (xa_cons (xv (pv 3)) (xa_cons (xv (pv 1)) xa_nil))))))) (fun _ _ _ _ _ => (xv (pv 3))))) xa_nil)))))
theorem ok_all_rows (T : Tx K mg) (hK : C.K = K) (hD : DkIs C false "seed" "at") : FnOk P w K mg base CX0 2 T.a_all_rows T.d_all_rows ["trees", "things"] (spM C m_all_rows) := by
  have G_places_in := ok_places_in (P := P) (w := w) (base := base) (C := C) T hK hD
  exact fn_ok (k := 1) T.F_all_rows sc_all_rows (fun cdv A outer s H E hr => by
    have h0 := hr.units0; have h1 := hu1 hr; have h64 := hr.units; have h65 := hu65 hr
    exact (xs_cons (xs_if (xt_cmp (op_eqD h64) (om_eq hK) (xcallB call_len (cm_lenN hK) rfl T.n_len PySem.boot_len (xa_cons (xv (pv 1)) xa_nil)) xint) (xs_one (xs_ret (xcall G_places_in (hr.mono (by decide)) rfl T.g_places_in T.F_places_in.kp (B_places_in T) (xa_cons (xix h1 hK (xv (pv 0)) (xixN h1 hK (xv (pv 1)) xint (fun _ _ => rfl)) (fun _ _ => rfl)) xa_nil)))) xs_nil)
      (xs_one (xs_ret (xfz (xlc2 (own := [("a", 2), ("b", 3)]) (vs1 := [3]) (by decide) (by decide) (by decide) rfl sc_all_rows.nd (xi_seq hK (xcall G_places_in (hr.mono (by decide)) rfl T.g_places_in T.F_places_in.kp (B_places_in T) (xa_cons (xix h1 hK (xv (pv 0)) (xixN h1 hK (xv (pv 1)) xint (fun _ _ => rfl)) (fun _ _ => rfl)) xa_nil))) (blkOk_by (by first | (show blkC N_all_rows (defScope s_all_rows) _ _ = true; decide +kernel) | rfl | (with_unfolding_all rfl))) (fun _ _ _ _ _ => (xg_name (i := 2) sc_all_rows.nd rfl (by first | exact Or.inl rfl | exact Or.inr rfl))) (fun _ _ _ _ _ => xts_nil) (fun _ _ _ _ _ => (xi_seq hK (xcall G_places_in (hr.mono (by decide)) rfl T.g_places_in T.F_places_in.kp (B_places_in T) (xa_cons (xix h1 hK (xv (pv 0)) (xixN h1 hK (xv (pv 1)) xint (fun _ _ => rfl)) (fun _ _ => rfl)) xa_nil)))) (fun _ _ _ _ _ => (xg_name (i := 3) sc_all_rows.nd rfl (by first | exact Or.inl rfl | exact Or.inr rfl))) (fun _ _ _ _ _ => xts_nil) (fun _ _ _ _ _ => (xtup (xa_cons (xv (pv 2)) (xa_cons (xv (pv 3)) xa_nil))))))))))
theorem ok_halves_of (T : Tx K mg) (hK : C.K = K) (hD : DkIs C false "seed" "at") : FnOk P w K mg base CX0 2 T.a_halves_of T.d_halves_of ["trees", "things"] (spM C m_halves_of) := by
  have G_places_in := ok_places_in (P := P) (w := w) (base := base) (C := C) T hK hD
  have G_joined_with := ok_joined_with (P := P) (w := w) (base := base) (C := C) T hK hD
  exact fn_ok (k := 1) T.F_halves_of sc_halves_of (fun cdv A outer s H E hr => by
    have h0 := hr.units0; have h1 := hu1 hr; have h64 := hr.units; have h65 := hu65 hr
    exact (xs_cons (xs_own (i := 2) sc_halves_of.nd rfl (by first | exact Or.inl rfl | exact Or.inr rfl) (xdisp xa_nil))
      (xs_cons (xs_for PassesOwn.never rfl (xi_seq hK (xsortedN hK rfl T.n_sorted (by decide +kernel) (xa_cons (xv (pv 1)) xa_nil))) (xg_name (i := 3) sc_halves_of.nd rfl (by first | exact Or.inl rfl | exact Or.inr rfl)) (xs_one (xs_for PassesOwn.never rfl (xi_seq hK (xcall G_places_in (hr.mono (by decide)) rfl T.g_places_in T.F_places_in.kp (B_places_in T) (xa_cons (xix h1 hK (xv (pv 0)) (xv (pv 3)) (fun _ _ => rfl)) xa_nil))) (xg_name (i := 4) sc_halves_of.nd rfl (by first | exact Or.inl rfl | exact Or.inr rfl)) (xs_one (xs_expr (xextend (pv 2) (xfz (xlc (own := [("b", 5)]) (by decide) rfl sc_halves_of.nd (xi_seq hK (xcall G_joined_with (hr.mono (by decide)) rfl T.g_joined_with T.F_joined_with.kp (B_joined_with T) (xa_cons (xix h1 hK (xv (pv 0)) (xv (pv 3)) (fun _ _ => rfl)) (xa_cons (xv (pv 4)) xa_nil)))) (blkOk_by (by first | (show blkC N_halves_of (defScope s_halves_of) _ _ = true; decide +kernel) | rfl | (with_unfolding_all rfl))) (fun _ _ _ _ _ => (xg_name (i := 5) sc_halves_of.nd rfl (by first | exact Or.inl rfl | exact Or.inr rfl))) (fun _ _ _ _ _ => xts_nil) (fun _ _ _ _ _ => (xtup (xa_cons (xv (pv 3)) (xa_cons (xv (pv 4)) (xa_cons (xv (pv 5)) xa_nil)))))))))))))
      (xs_one (xs_ret (xv (pv 2)))))))
theorem ok_half_bits (T : Tx K mg) (hK : C.K = K) (hD : DkIs C false "seed" "at") : FnOk P w K mg base CX0 4 T.a_half_bits T.d_half_bits ["trees", "things", "half"] (spM C m_half_bits) := by
  have G_side := ok_side (P := P) (w := w) (base := base) (C := C) T hK hD
  have G_all_rows := ok_all_rows (P := P) (w := w) (base := base) (C := C) T hK hD
  exact fn_ok (k := 3) T.F_half_bits sc_half_bits (fun cdv A outer s H E hr => by
    have h0 := hr.units0; have h1 := hu1 hr; have h64 := hr.units; have h65 := hu65 hr
    exact (xs_cons (xs_asg (xv (pv 2)) (xg_trip (i := 3) (j := 4) (l := 5) rfl hK sc_half_bits.nd rfl rfl rfl (by first | exact Or.inl rfl | exact Or.inr rfl) (by first | exact Or.inl rfl | exact Or.inr rfl) (by first | exact Or.inl rfl | exact Or.inr rfl)))
      (xs_cons (xs_par (i := 6) (j := 7) (by rfl) sc_half_bits.nd rfl rfl (by decide) rfl rfl (xa_cons (xcall G_side (hr.mono (by decide)) rfl T.g_side T.F_side.kp (B_side T) (xa_cons (xix h1 hK (xv (pv 0)) (xv (pv 3)) (fun _ _ => rfl)) (xa_cons (xv (pv 4)) (xa_cons (xv (pv 5)) xa_nil)))) (xa_cons (xidxN hK (xv (pv 1)) (xv (pv 3))) xa_nil)) (by rfl))
      (xs_cons (xs_set (i := 8) sc_half_bits.nd rfl (by first | exact Or.inl rfl | exact Or.inr rfl) xint)
      (xs_cons (xs_for PassesOwn.never rfl (xi_enum hK rfl T.n_enumerate (xa_cons (xcall G_all_rows (hr.mono (by decide)) rfl T.g_all_rows T.F_all_rows.kp (B_all_rows T) (xa_cons (xv (pv 0)) (xa_cons (xv (pv 1)) xa_nil))) xa_nil)) (xg_pair (i := 9) (j := 10) rfl hK sc_half_bits.nd rfl rfl (by first | exact Or.inl rfl | exact Or.inr rfl) (by first | exact Or.inl rfl | exact Or.inr rfl)) (xs_cons (xs_set (i := 11) sc_half_bits.nd rfl (by first | exact Or.inl rfl | exact Or.inr rfl) (xif (xt_cmp (op_eqD h64) (om_eq hK) (xcallB call_len (cm_lenN hK) rfl T.n_len PySem.boot_len (xa_cons (xv (pv 1)) xa_nil)) xint) (xv (pv 10)) (xix h1 hK (xv (pv 10)) (xv (pv 7)) (fun _ _ => rfl))))
      (xs_one (xs_if (xt_cmp (op_inAll h65) (om_in hK) (xv (pv 11)) (xv (pv 6))) (xs_one (xs_aug (i := 8) ip_add sc_half_bits.nd rfl (by first | exact Or.inl rfl | exact Or.inr rfl) (xop op_shl om_shl xint (xv (pv 9))))) xs_nil))))
      (xs_one (xs_ret (xv (pv 8)))))))))
theorem ok_row_bits (T : Tx K mg) (hK : C.K = K) (hD : DkIs C false "seed" "at") : FnOk P w K mg base CX0 3 T.a_row_bits T.d_row_bits ["trees", "things", "rows"] (spM C m_row_bits) := by
  have G_all_rows := ok_all_rows (P := P) (w := w) (base := base) (C := C) T hK hD
  exact fn_ok (k := 2) T.F_row_bits sc_row_bits (fun cdv A outer s H E hr => by
    have h0 := hr.units0; have h1 := hu1 hr; have h64 := hr.units; have h65 := hu65 hr
    exact (xs_cons (xs_ownU (i := 3) sc_row_bits.nd rfl (by first | exact Or.inl rfl | exact Or.inr rfl) (xdc1 (own := [("row", 4)]) h65 (by decide) rfl sc_row_bits.nd (xi_seq hK (xv (pv 2))) (blkOk_by (by first | (show blkC N_row_bits (defScope s_row_bits) _ _ = true; decide +kernel) | rfl | (with_unfolding_all rfl))) (fun _ _ _ _ _ => (xg_name (i := 4) sc_row_bits.nd rfl (by first | exact Or.inl rfl | exact Or.inr rfl))) (fun _ _ _ _ _ => xts_nil) (fun _ _ _ _ _ => (xv (pv 4))) (fun _ _ _ _ _ => xbl)))
      (xs_one (xs_ret (xcallB (cr_sum rfl) cm_sum rfl T.n_sum (by decide +kernel) (xa_cons (xfz (xlc (own := [("k", 5), ("row", 4)]) (by decide) rfl sc_row_bits.nd (xi_enum hK rfl T.n_enumerate (xa_cons (xcall G_all_rows (hr.mono (by decide)) rfl T.g_all_rows T.F_all_rows.kp (B_all_rows T) (xa_cons (xv (pv 0)) (xa_cons (xv (pv 1)) xa_nil))) xa_nil)) (blkOk_by (by first | (show blkC N_row_bits (defScope s_row_bits) _ _ = true; decide +kernel) | rfl | (with_unfolding_all rfl))) (fun _ _ _ _ _ => (xg_pair (i := 5) (j := 4) rfl hK sc_row_bits.nd rfl rfl (by first | exact Or.inl rfl | exact Or.inr rfl) (by first | exact Or.inl rfl | exact Or.inr rfl))) (fun _ _ _ _ _ => (xts_one (xt_inU h65 (xv (pv 4)) (pv 3)))) (fun _ _ _ _ _ => (xop op_shl om_shl xint (xv (pv 5)))))) xa_nil))))))
theorem ok_by_clauses (T : Tx K mg) (hK : C.K = K) (hD : DkIs C false "seed" "at") : FnOk P w K mg base CX0 5 T.a_by_clauses T.d_by_clauses ["trees", "things", "clauses"] (spM C m_by_clauses) := by
  have G_half_bits := ok_half_bits (P := P) (w := w) (base := base) (C := C) T hK hD
  have G_all_rows := ok_all_rows (P := P) (w := w) (base := base) (C := C) T hK hD
  exact fn_ok (k := 4) T.F_by_clauses sc_by_clauses (fun cdv A outer s H E hr => by
    have h0 := hr.units0; have h1 := hu1 hr; have h64 := hr.units; have h65 := hu65 hr
    exact (xs_cons (xs_ownDc2 (i := 3) (own := [("clause", 8), ("half", 5)]) (vs1 := [5]) h65 (by decide) (by decide) (by decide) rfl sc_by_clauses.nd rfl rfl (sw_trueD rfl rfl rfl (by decide +kernel)) (xi_seq hK (xv (pv 2))) (blkOk_by (by first | (show blkC N_by_clauses (defScope s_by_clauses) _ _ = true; decide +kernel) | rfl | (with_unfolding_all rfl))) (fun _ _ _ _ _ => (xg_name (i := 8) sc_by_clauses.nd rfl (by first | exact Or.inl rfl | exact Or.inr rfl))) (fun _ _ _ _ _ => xts_nil) (fun _ _ _ _ _ => (xi_seq hK (xv (pv 8)))) (fun _ _ _ _ _ => (xg_name (i := 5) sc_by_clauses.nd rfl (by first | exact Or.inl rfl | exact Or.inr rfl))) (fun _ _ _ _ _ => xts_nil) (fun _ _ _ _ _ => (xv (pv 5))) (fun _ _ _ _ _ => (xcall G_half_bits (hr.mono (by decide)) rfl T.g_half_bits T.F_half_bits.kp (B_half_bits T) (xa_cons (xv (pv 0)) (xa_cons (xv (pv 1)) (xa_cons (xv (pv 5)) xa_nil))))))
      (xs_cons (xs_set (i := 4) sc_by_clauses.nd rfl (by first | exact Or.inl rfl | exact Or.inr rfl) xint)
      (xs_cons (xs_for PassesOwn.never rfl (xi_seq hK (xv (pv 2))) (xg_pair (i := 5) (j := 6) rfl hK sc_by_clauses.nd rfl rfl (by first | exact Or.inl rfl | exact Or.inr rfl) (by first | exact Or.inl rfl | exact Or.inr rfl)) (xs_one (xs_set (i := 4) sc_by_clauses.nd rfl (by first | exact Or.inl rfl | exact Or.inr rfl) (xop op_or om_or (xv (pv 4)) (xop op_and om_and (xixU h1 (pv 3) (xv (pv 5)) (fun _ _ => rfl)) (xixU h1 (pv 3) (xv (pv 6)) (fun _ _ => rfl)))))))
      (xs_cons (xs_ownLc (i := 7) (own := [("k", 9), ("row", 10)]) (by decide) rfl sc_by_clauses.nd rfl rfl (sw_true rfl rfl rfl (by decide +kernel)) (xi_enum hK rfl T.n_enumerate (xa_cons (xcall G_all_rows (hr.mono (by decide)) rfl T.g_all_rows T.F_all_rows.kp (B_all_rows T) (xa_cons (xv (pv 0)) (xa_cons (xv (pv 1)) xa_nil))) xa_nil)) (blkOk_by (by first | (show blkC N_by_clauses (defScope s_by_clauses) _ _ = true; decide +kernel) | rfl | (with_unfolding_all rfl))) (fun _ _ _ _ _ => (xg_pair (i := 9) (j := 10) rfl hK sc_by_clauses.nd rfl rfl (by first | exact Or.inl rfl | exact Or.inr rfl) (by first | exact Or.inl rfl | exact Or.inr rfl))) (fun _ _ _ _ _ => (xts_one (xt_cmp (op_eqD h64) (om_eq hK) (xop op_and om_and (xop op_shr om_shr (xv (pv 4)) (xv (pv 9))) xint) xint))) (fun _ _ _ _ _ => (xv (pv 10))))
      (xs_one (xs_ret (xop op_addAll (om_addN hK) (xv (pv 1)) (xtup (xa_cons (xcallTy call_tuple_of (cm_tuple hK) rfl T.n_tuple (by decide +kernel) (xa_cons (xv (pv 7)) xa_nil)) xa_nil))))))))))
theorem ok_barring (T : Tx K mg) (hK : C.K = K) (hD : DkIs C false "seed" "at") : FnOk P w K mg base CX0 5 T.a_barring T.d_barring ["trees", "table"] (spM C m_barring) := by
  have G_halves_of := ok_halves_of (P := P) (w := w) (base := base) (C := C) T hK hD
  have G_row_bits := ok_row_bits (P := P) (w := w) (base := base) (C := C) T hK hD
  have G_half_bits := ok_half_bits (P := P) (w := w) (base := base) (C := C) T hK hD
  exact fn_ok (k := 4) T.F_barring sc_barring (fun cdv A outer s H E hr => by
    have h0 := hr.units0; have h1 := hu1 hr; have h64 := hr.units; have h65 := hu65 hr
    exact (xs_cons (xs_asg (xtup (xa_cons (xslN hK (xv (pv 1)) xo_none (xo_some (xun un_neg um_neg xint))) (xa_cons (xix h1 hK (xv (pv 1)) (xun un_neg um_neg xint) (fun _ _ => rfl)) xa_nil))) (xg_pair (i := 2) (j := 3) rfl hK sc_barring.nd rfl rfl (by first | exact Or.inl rfl | exact Or.inr rfl) (by first | exact Or.inl rfl | exact Or.inr rfl)))
      (xs_cons (xs_par (i := 4) (j := 5) (by rfl) sc_barring.nd rfl rfl (by decide) rfl rfl (xa_cons (xcall G_row_bits (hr.mono (by decide)) rfl T.g_row_bits T.F_row_bits.kp (B_row_bits T) (xa_cons (xv (pv 0)) (xa_cons (xv (pv 2)) (xa_cons (xv (pv 3)) xa_nil)))) (xa_cons (xcall G_halves_of (hr.mono (by decide)) rfl T.g_halves_of T.F_halves_of.kp (B_halves_of T) (xa_cons (xv (pv 0)) (xa_cons (xv (pv 2)) xa_nil))) xa_nil)) (by rfl))
      (xs_cons (xs_ownLc (i := 6) (own := [("half", 9)]) (by decide) rfl sc_barring.nd rfl rfl (sw_true rfl rfl rfl (by decide +kernel)) (xi_seq hK (xv (pv 5))) (blkOk_by (by first | (show blkC N_barring (defScope s_barring) _ _ = true; decide +kernel) | rfl | (with_unfolding_all rfl))) (fun _ _ _ _ _ => (xg_name (i := 9) sc_barring.nd rfl (by first | exact Or.inl rfl | exact Or.inr rfl))) (fun _ _ _ _ _ => xts_nil) (fun _ _ _ _ _ => (xcall G_half_bits (hr.mono (by decide)) rfl T.g_half_bits T.F_half_bits.kp (B_half_bits T) (xa_cons (xv (pv 0)) (xa_cons (xv (pv 2)) (xa_cons (xv (pv 9)) xa_nil))))))
      (xs_cons (xs_ownD (i := 7) sc_barring.nd rfl (by first | exact Or.inl rfl | exact Or.inr rfl) xdnewF)
      (xs_cons (xs_for PassesOwn.never rfl (xi_enum hK rfl T.n_enumerate (xa_cons (xv (pv 5)) xa_nil)) (xg_pair (i := 8) (j := 9) rfl hK sc_barring.nd rfl rfl (by first | exact Or.inl rfl | exact Or.inr rfl) (by first | exact Or.inl rfl | exact Or.inr rfl)) (xs_one (xs_for PassesOwn.never rfl (xi_range2 rfl T.n_range (xa_cons (xv (pv 8)) (xa_cons (xcallB call_len (cm_len hK) rfl T.n_len PySem.boot_len (xa_cons (xv (pv 5)) xa_nil)) xa_nil))) (xg_name (i := 10) sc_barring.nd rfl (by first | exact Or.inl rfl | exact Or.inr rfl)) (xs_cons (xs_set (i := 11) sc_barring.nd rfl (by first | exact Or.inl rfl | exact Or.inr rfl) (xop op_and om_and (xix h1 hK (xv (pv 6)) (xv (pv 8)) (fun _ _ => rfl)) (xix h1 hK (xv (pv 6)) (xv (pv 10)) (fun _ _ => rfl))))
      (xs_one (xs_if (PW.pt (xw_and (xt_cmp op_gt om_gt (xv (pv 11)) xint) (xw_and (xt_cmp (op_eqD h64) (om_eq hK) (xop op_and om_and (xv (pv 11)) (xv (pv 4))) xint) (xw_and1 (xt_cmpR (op_notInAll h65) (ob_notIn hK) (xv (pv 11)) (pv 7)))))) (xs_one (xs_put h1 (pv 7) (xv (pv 11)) (xtup (xa_cons (xv (pv 9)) (xa_cons (xix h1 hK (xv (pv 5)) (xv (pv 10)) (fun _ _ => rfl)) xa_nil))))) xs_nil))))))
      (xs_one (xs_ret (xv (pv 7))))))))))
theorem ok_filled (T : Tx K mg) (hK : C.K = K) (hD : DkIs C false "seed" "at") : FnOk P w K mg base CX0 6 T.a_filled T.d_filled ["trees", "table"] (spM C m_filled) := by
  have G_by_clauses := ok_by_clauses (P := P) (w := w) (base := base) (C := C) T hK hD
  have G_barring := ok_barring (P := P) (w := w) (base := base) (C := C) T hK hD
  exact fn_ok (k := 5) T.F_filled sc_filled (fun cdv A outer s H E hr => by
    have h0 := hr.units0; have h1 := hu1 hr; have h64 := hr.units; have h65 := hu65 hr
    exact (xs_cons (xs_if (xt_cmp (op_eq0 h0) (om_eq0 hK) (xix h1 hK (xv (pv 1)) (xun un_neg um_neg xint) (fun _ _ => rfl)) (xtup xa_nil)) (xs_one (xs_ret (xv (pv 1)))) xs_nil)
      (xs_one (xs_ret (xcall G_by_clauses (hr.mono (by decide)) rfl T.g_by_clauses T.F_by_clauses.kp (B_by_clauses T) (xa_cons (xv (pv 0)) (xa_cons (xslN hK (xv (pv 1)) xo_none (xo_some (xun un_neg um_neg xint))) (xa_cons (xvalsL rfl (xcall G_barring (hr.mono (by decide)) rfl T.g_barring T.F_barring.kp (B_barring T) (xa_cons (xv (pv 0)) (xa_cons (xv (pv 1)) xa_nil))) rfl T.n_list rfl) xa_nil))))))))
theorem ok_unmiddled (T : Tx K mg) (hK : C.K = K) (hD : DkIs C false "seed" "at") : FnOk P w K mg base CX0 7 T.a_unmiddled T.d_unmiddled ["trees", "table"] (spM C m_unmiddled) := by
  have G_filled := ok_filled (P := P) (w := w) (base := base) (C := C) T hK hD
  exact fn_ok (k := 6) T.F_unmiddled sc_unmiddled (fun cdv A outer s H E hr => by
    have h0 := hr.units0; have h1 := hu1 hr; have h64 := hr.units; have h65 := hu65 hr
    exact (xs_cons (xs_if (xt_cmp (op_eqD h64) (om_eq hK) (xcall G_filled (hr.mono (by decide)) rfl T.g_filled T.F_filled.kp (B_filled T) (xa_cons (xv (pv 0)) (xa_cons (xv (pv 1)) xa_nil))) (xv (pv 1))) (xs_one (xs_ret xnon)) xs_nil)
      (xs_one xs_bads)))
theorem ok__law_deck (T : Tx K mg) (hK : C.K = K) : FnOk P w K mg base CX0 1 T.a__law_deck T.d__law_deck ["_law_script"] (spScr C m__law_deck) := by
  exact fn_scr (k := 0) (i := 1) T.F__law_deck sc__law_deck (fun cdv A outer s H E hr => by
    have h0 := hr.units0; have h1 := hu1 hr; have h64 := hr.units; have h65 := hu65 hr
    exact xss_scr hK (ps_set (i := 1) sc__law_deck.nd rfl (by first | exact Or.inl rfl | exact Or.inr rfl) (pe_callTy call_list_of rfl T.n_list (by decide +kernel) (pa_cons (pe_slice sl_list (pv 0) po_none (po_some pe_int)) pa_nil))) (xs_cons (xs_set (i := 2) sc__law_deck.nd rfl (by first | exact Or.inl rfl | exact Or.inr rfl) (xop op_addAll (om_add hK) xint (xcallB call_len (cm_len hK) rfl T.n_len PySem.boot_len (xa_cons (xv (pv 1)) xa_nil))))
      (xs_cons (xs_for PassesOwn.never rfl (xi_seq hK (xv (pv 1))) (xg_name (i := 3) sc__law_deck.nd rfl (by first | exact Or.inl rfl | exact Or.inr rfl)) (xs_one (xs_set (i := 2) sc__law_deck.nd rfl (by first | exact Or.inl rfl | exact Or.inr rfl) (xop op_mod om_mod (xop op_addAll (om_add hK) (xop op_addAll (om_add hK) (xop op_mulAll om_mul (xv (pv 2)) xint) (xop op_mod om_mod (xv (pv 3)) xint)) xint) xint))))
      (xs_one (xs_ret (xfzd (xdictF (xp_cons xstr (xrev hK (xv (pv 1))) (xp_cons xstr (xv (pv 2)) (xp_cons xstr xint xp_nil))))))))))
theorem ok__law_draw (T : Tx K mg) (hK : C.K = K) (hD : DkIs C false "seed" "at") : FnOk P w K mg base CX0 1 T.a__law_draw T.d__law_draw ["_law_deck_here", "_law_lots"] (spM C m__law_draw) := by
  exact fn_ok (k := 0) T.F__law_draw sc__law_draw (fun cdv A outer s H E hr => by
    have h0 := hr.units0; have h1 := hu1 hr; have h64 := hr.units; have h65 := hu65 hr
    exact (xs_cons (xs_dkput DkF.turn h1 hD (pv 0) pe_str (xop op_addAll (om_add hK) (xdk DkF.turn h1 hD (pv 0) pe_str (fun _ _ => rfl)) xint))
      (xs_cons (xs_par (i := 2) (j := 3) (by rfl) sc__law_draw.nd rfl rfl (by decide) rfl rfl (xa_cons (xdk DkF.turn h1 hD (pv 0) pe_str (fun _ _ => rfl)) (xa_cons (xdk DkF.seed h1 hD (pv 0) pe_str (fun _ _ => rfl)) xa_nil)) (by rfl))
      (xs_cons (xs_if (xt_dk_ne h64 hK hD (pv 0) pe_str (fun _ _ => rfl)) (xs_cons (xs_set (i := 3) sc__law_draw.nd rfl (by first | exact Or.inl rfl | exact Or.inr rfl) (xdk_pop h1 hD (pv 0) pe_str (fun _ _ => rfl)))
      (xs_cons (xs_if (xt_cmp op_ge om_ge (xv (pv 3)) (xop op_pow om_pow xint xint)) (xs_cons (xs_expr (xdk_app h1 hD (pv 0) pe_str (fun _ _ => rfl) (xop op_fdiv om_fdiv (xv (pv 3)) (xv (pv 1)))))
      (xs_one (xs_ret (xop op_mod om_mod (xv (pv 3)) (xv (pv 1)))))) xs_nil)
      (xs_one (xs_set (i := 3) sc__law_draw.nd rfl (by first | exact Or.inl rfl | exact Or.inr rfl) (xop op_addAll (om_add hK) (xv (pv 3)) (xdk DkF.seed h1 hD (pv 0) pe_str (fun _ _ => rfl))))))) xs_nil)
      (xs_cons (xs_set (i := 4) sc__law_draw.nd rfl (by first | exact Or.inl rfl | exact Or.inr rfl) (xop op_mod om_mod (xop op_mulAll om_mul (xop op_addAll (om_add hK) (xop op_addAll (om_add hK) (xop op_mod om_mod (xv (pv 3)) xint) (xop op_mulAll om_mul (xop op_mulAll om_mul xint (xv (pv 2))) (xv (pv 2)))) xint) xint) xint))
      (xs_cons (xs_set (i := 4) sc__law_draw.nd rfl (by first | exact Or.inl rfl | exact Or.inr rfl) (xop op_mod om_mod (xop op_addAll (om_add hK) (xop op_addAll (om_add hK) (xop op_mulAll om_mul (xv (pv 4)) (xv (pv 4))) (xop op_mulAll om_mul xint (xv (pv 2)))) xint) xint))
      (xs_one (xs_ret (xop op_mod om_mod (xop op_fdiv om_fdiv (xop op_mod om_mod (xop op_addAll (om_add hK) (xop op_mulAll om_mul (xv (pv 4)) xint) (xop op_fdiv om_fdiv (xv (pv 4)) xint)) xint) xint) (xv (pv 1)))))))))))
theorem ok__law_tree (T : Tx K mg) (hK : C.K = K) (hD : DkIs C false "seed" "at") : FnOk P w K mg base CX0 2 T.a__law_tree T.d__law_tree ["_law_deck_here", "_law_most"] (spM C m__law_tree) := by
  have G__law_draw := ok__law_draw (P := P) (w := w) (base := base) (C := C) T hK hD
  exact fn_ok (k := 1) T.F__law_tree sc__law_tree (fun cdv A outer s H E hr => by
    have h0 := hr.units0; have h1 := hu1 hr; have h64 := hr.units; have h65 := hu65 hr
    exact (xs_cons (xs_par (i := 2) (j := 3) (by rfl) sc__law_tree.nd rfl rfl (by decide) rfl rfl (xa_cons (xcall G__law_draw (hr.mono (by decide)) rfl T.g__law_draw T.F__law_draw.kp (B__law_draw T) (xa_cons (xv (pv 0)) (xa_cons (xv (pv 1)) xa_nil))) (xa_cons (xcall G__law_draw (hr.mono (by decide)) rfl T.g__law_draw T.F__law_draw.kp (B__law_draw T) (xa_cons (xv (pv 0)) (xa_cons xint xa_nil))) xa_nil)) (by rfl))
      (xs_cons (xs_own (i := 4) sc__law_tree.nd rfl (by first | exact Or.inl rfl | exact Or.inr rfl) (xdisp xa_nil))
      (xs_cons (xs_for PassesOwn.never rfl (xi_range1 rfl T.n_range (xa_cons (xv (pv 2)) xa_nil)) (xg_name (i := 5) sc__law_tree.nd rfl (by first | exact Or.inl rfl | exact Or.inr rfl)) (xs_cons (xs_set (i := 6) sc__law_tree.nd rfl (by first | exact Or.inl rfl | exact Or.inr rfl) (xlst (xa_cons (xcall G__law_draw (hr.mono (by decide)) rfl T.g__law_draw T.F__law_draw.kp (B__law_draw T) (xa_cons (xv (pv 0)) (xa_cons (xop op_addAll (om_add hK) (xv (pv 5)) xint) xa_nil))) (xa_cons (xv (pv 5)) (xa_cons xint (xa_cons (xcallB (call_max2 rfl) cm_max2 rfl T.n_max (by decide +kernel) (xa_cons xint (xa_cons (xop op_sub om_sub (xv (pv 5)) xint) xa_nil))) xa_nil))))))
      (xs_one (xs_expr (xappend (pv 4) (xix h1 hK (xop op_addAll (om_add hK) (xv (pv 6)) (xslice hK (xv (pv 6)) xo_none (xo_some xint))) (xv (pv 3)) (fun _ _ => rfl)))))))
      (xs_one (xs_ret (xcallTy call_tuple_of (cm_tuple hK) rfl T.n_tuple (by decide +kernel) (xa_cons (xv (pv 4)) xa_nil))))))))
theorem ok__law_near (T : Tx K mg) (hK : C.K = K) (hD : DkIs C false "seed" "at") : FnOk P w K mg base CX0 1 T.a__law_near T.d__law_near ["_law_tree_here", "_law_one"] (spM C m__law_near) := by
  exact fn_ok (k := 0) T.F__law_near sc__law_near (fun cdv A outer s H E hr => by
    have h0 := hr.units0; have h1 := hu1 hr; have h64 := hr.units; have h65 := hu65 hr
    exact (xs_cons (xs_ownLc (i := 2) (own := [("_law_k", 3)]) (by decide) rfl sc__law_near.nd rfl rfl (sw_true rfl rfl rfl (by decide +kernel)) (xi_range1 rfl T.n_range (xa_cons (xcallB call_len (cm_len hK) rfl T.n_len PySem.boot_len (xa_cons (xv (pv 0)) xa_nil)) xa_nil)) (blkOk_by (by first | (show blkC N__law_near (defScope s__law_near) _ _ = true; decide +kernel) | rfl | (with_unfolding_all rfl))) (fun _ _ _ _ _ => (xg_name (i := 3) sc__law_near.nd rfl (by first | exact Or.inl rfl | exact Or.inr rfl))) (fun _ _ _ _ _ => (xts_one (xt_cmp (op_eqD h64) (om_eq hK) (xix h1 hK (xv (pv 0)) (xv (pv 3)) (fun _ _ => rfl)) (xv (pv 1))))) (fun _ _ _ _ _ => (xop op_addAll (om_add hK) (xv (pv 3)) xint)))
      (xs_cons (xs_if (xt_cmp op_gt om_gt (xv (pv 1)) xint) (xs_one (xs_set (i := 2) sc__law_near.nd rfl (by first | exact Or.inl rfl | exact Or.inr rfl) (xop op_addAll (om_add hK) (xlst (xa_cons (xix h1 hK (xv (pv 0)) (xop op_sub om_sub (xv (pv 1)) xint) (fun _ _ => rfl)) xa_nil)) (xv (pv 2))))) xs_nil)
      (xs_one (xs_ret (xv (pv 2)))))))
theorem ok__law_off (T : Tx K mg) (hK : C.K = K) (hD : DkIs C false "seed" "at") : FnOk P w K mg base CX0 2 T.a__law_off T.d__law_off ["_law_tree_here", "_law_one"] (spM C m__law_off) := by
  have G__law_near := ok__law_near (P := P) (w := w) (base := base) (C := C) T hK hD
  exact fn_ok (k := 1) T.F__law_off sc__law_off (fun cdv A outer s H E hr => by
    have h0 := hr.units0; have h1 := hu1 hr; have h64 := hr.units; have h65 := hu65 hr
    exact (xs_cons (ps_imp (ps_asg (pe_tup (pa_cons (xdictF (xp_cons (xv (pv 1)) xint xp_nil)) (pa_cons (xlst (xa_cons (xv (pv 1)) xa_nil)) (pa_cons xint pa_nil)))) (pg_tup rfl (pgs_cons (pg_name (i := 2) sc__law_off.nd rfl (by first | exact Or.inl rfl | exact Or.inr rfl)) (pgs_cons (pg_name (i := 3) sc__law_off.nd rfl (by first | exact Or.inl rfl | exact Or.inr rfl)) (pgs_cons (pg_name (i := 4) sc__law_off.nd rfl (by first | exact Or.inl rfl | exact Or.inr rfl)) pgs_nil))))) fun _ _ _ h => asgDEE_ok h)
      (xs_cons (xs_while 64 PassesOwn.never (xt_cmp (op_neD h64) (om_ne hK) (xv (pv 3)) (xlst xa_nil)) (xs_cons (xs_par (i := 5) (j := 4) (by rfl) sc__law_off.nd rfl rfl (by decide) rfl rfl (xa_cons (xlst xa_nil) (xa_cons (xop op_addAll (om_add hK) (xv (pv 4)) xint) xa_nil)) (by rfl))
      (xs_cons (xs_for PassesOwn.never rfl (xi_seq hK (xv (pv 3))) (xg_name (i := 6) sc__law_off.nd rfl (by first | exact Or.inl rfl | exact Or.inr rfl)) (xs_one (xs_set (i := 5) sc__law_off.nd rfl (by first | exact Or.inl rfl | exact Or.inr rfl) (xop op_addAll (om_add hK) (xv (pv 5)) (xfz (xlc (own := [("_law_other", 7)]) (by decide) rfl sc__law_off.nd (xi_seq hK (xcall G__law_near (hr.mono (by decide)) rfl T.g__law_near T.F__law_near.kp (B__law_near T) (xa_cons (xv (pv 0)) (xa_cons (xv (pv 6)) xa_nil)))) (blkOk_by (by first | (show blkC N__law_off (defScope s__law_off) _ _ = true; decide +kernel) | rfl | (with_unfolding_all rfl))) (fun _ _ _ _ _ => (xg_name (i := 7) sc__law_off.nd rfl (by first | exact Or.inl rfl | exact Or.inr rfl))) (fun _ _ _ _ _ => (xts_one (xt_cmpR (op_notInAll h65) (ob_notIn hK) (xv (pv 7)) (pv 2)))) (fun _ _ _ _ _ => (xv (pv 7)))))))))
      (xs_cons (xs_for PassesOwn.never rfl (xi_seq hK (xv (pv 5))) (xg_name (i := 7) sc__law_off.nd rfl (by first | exact Or.inl rfl | exact Or.inr rfl)) (xs_one (xs_put h1 (pv 2) (xv (pv 7)) (xv (pv 4)))))
      (xs_one (xs_set (i := 3) sc__law_off.nd rfl (by first | exact Or.inl rfl | exact Or.inr rfl) (xv (pv 5))))))))
      (xs_one (xs_ret (xvZ (pv 2)))))))
theorem ok__law_same (T : Tx K mg) (hK : C.K = K) (hD : DkIs C false "seed" "at") : ∀ n : Nat, FnOk P w K mg base CX0 (1 + n) T.a__law_same T.d__law_same ["_law_found", "_law_due"] (spM C (m__law_same n))
  | 0 => ⟨fun _ _ _ _ ⟨_, _, _, _, _, _, q⟩ => q.elim, fun _ _ _ _ _ _ _ _ _ _ _ _ _ ⟨_, _, _, _, _, _, q⟩ => q.elim⟩
  | n + 1 => by
    have G_rec := ok__law_same T hK hD n
    exact fn_ok (k := 1 + n) T.F__law_same sc__law_same (fun cdv A outer s H E hr => by
      have h0 := hr.units0; have h1 := hu1 hr; have h64 := hr.units; have h65 := hu65 hr
      exact (xs_cons (xs_if (xt_val (xisi hK k_tuple rfl T.n_isinstance rfl T.n_tuple (by decide +kernel) (xv (pv 1)))) (xs_cons (xs_if (PW.pt (xw_or (xt_not (xt_val (xisi hK k_tuple rfl T.n_isinstance rfl T.n_tuple (by decide +kernel) (xv (pv 0))))) (xw_or1 (xt_cmp (op_neD h64) (om_ne hK) (xcallB call_len (cm_len hK) rfl T.n_len PySem.boot_len (xa_cons (xv (pv 0)) xa_nil)) (xcallB call_len (cm_len hK) rfl T.n_len PySem.boot_len (xa_cons (xv (pv 1)) xa_nil)))))) (xs_one (xs_ret xbl)) xs_nil)
      (xs_one (xs_ret (xcallB (cr_all rfl) cm_all rfl T.n_all (by decide +kernel) (xa_cons (xfz (xlc (own := [("_law_one", 2), ("_law_other", 3)]) (by decide) rfl sc__law_same.nd (xi_zip hK rfl T.n_zip (xa_cons (xv (pv 0)) (xa_cons (xv (pv 1)) xa_nil))) (blkOk_by (by first | (show blkC N__law_same (defScope s__law_same) _ _ = true; decide +kernel) | rfl | (with_unfolding_all rfl))) (fun _ _ _ _ _ => (xg_pair (i := 2) (j := 3) rfl hK sc__law_same.nd rfl rfl (by first | exact Or.inl rfl | exact Or.inr rfl) (by first | exact Or.inl rfl | exact Or.inr rfl))) (fun _ _ _ _ _ => xts_nil) (fun _ _ _ _ _ => (xcall G_rec (hr.mono (by omega)) rfl T.g__law_same T.F__law_same.kp (B__law_same T) (xa_cons (xv (pv 2)) (xa_cons (xv (pv 3)) xa_nil)))))) xa_nil))))) xs_nil)
      (xs_cons (xs_if (xt_cmp op_isN om_isN (xv (pv 1)) xnon) (xs_one (xs_ret (xcmp op_isN om_isN (xv (pv 0)) xnon))) xs_nil)
      (xs_cons (xs_if (PW.pt (xw_or (xt_val (xisi hK k_bool rfl T.n_isinstance rfl T.n_bool (by decide +kernel) (xv (pv 1)))) (xw_or1 (xt_val (xisi hK k_bool rfl T.n_isinstance rfl T.n_bool (by decide +kernel) (xv (pv 0))))))) (xs_one (xs_ret (xband (xisi hK k_bool rfl T.n_isinstance rfl T.n_bool (by decide +kernel) (xv (pv 1))) (xband (xisi hK k_bool rfl T.n_isinstance rfl T.n_bool (by decide +kernel) (xv (pv 0))) (xone (xcmp (op_eqD h64) (om_eq hK) (xv (pv 0)) (xv (pv 1)))))))) xs_nil)
      (xs_one (xs_ret (xband (xisi hK k_int rfl T.n_isinstance rfl T.n_int (by decide +kernel) (xv (pv 0))) (xone (xcmp (op_eqD h64) (om_eq hK) (xv (pv 0)) (xv (pv 1)))))))))))
theorem ok__law_rows_of (T : Tx K mg) (hK : C.K = K) (hD : DkIs C false "seed" "at") : FnOk P w K mg base CX0 1 T.a__law_rows_of T.d__law_rows_of ["_law_trunks", "_law_pair"] (spM C m__law_rows_of) := by
  exact fn_ok (k := 0) T.F__law_rows_of sc__law_rows_of (fun cdv A outer s H E hr => by
    have h0 := hr.units0; have h1 := hu1 hr; have h64 := hr.units; have h65 := hu65 hr
    exact (xs_cons (xs_if (xt_cmp (op_eqD h64) (om_eq hK) (xcallB call_len (cm_lenN hK) rfl T.n_len PySem.boot_len (xa_cons (xv (pv 1)) xa_nil)) xint) (xs_one (xs_ret (xfz (xlistRg1 rfl rfl T.n_list rfl T.n_range (xop op_addAll (om_add hK) (xcallB call_len (cm_len hK) rfl T.n_len PySem.boot_len (xa_cons (xix h1 hK (xv (pv 0)) (xixN h1 hK (xv (pv 1)) xint (fun _ _ => rfl)) (fun _ _ => rfl)) xa_nil)) xint))))) xs_nil)
      (xs_cons (xs_set (i := 2) sc__law_rows_of.nd rfl (by first | exact Or.inl rfl | exact Or.inr rfl) (xlst xa_nil))
      (xs_cons (xs_for PassesOwn.never rfl (xi_range1 rfl T.n_range (xa_cons (xop op_addAll (om_add hK) (xcallB call_len (cm_len hK) rfl T.n_len PySem.boot_len (xa_cons (xix h1 hK (xv (pv 0)) (xixN h1 hK (xv (pv 1)) xint (fun _ _ => rfl)) (fun _ _ => rfl)) xa_nil)) xint) xa_nil)) (xg_name (i := 3) sc__law_rows_of.nd rfl (by first | exact Or.inl rfl | exact Or.inr rfl)) (xs_one (xs_set (i := 2) sc__law_rows_of.nd rfl (by first | exact Or.inl rfl | exact Or.inr rfl) (xop op_addAll (om_add hK) (xv (pv 2)) (xfz (xlc (own := [("_law_b", 4)]) (by decide) rfl sc__law_rows_of.nd (xi_range1 rfl T.n_range (xa_cons (xop op_addAll (om_add hK) (xcallB call_len (cm_len hK) rfl T.n_len PySem.boot_len (xa_cons (xix h1 hK (xv (pv 0)) (xixN h1 hK (xv (pv 1)) xint (fun _ _ => rfl)) (fun _ _ => rfl)) xa_nil)) xint) xa_nil)) (blkOk_by (by first | (show blkC N__law_rows_of (defScope s__law_rows_of) _ _ = true; decide +kernel) | rfl | (with_unfolding_all rfl))) (fun _ _ _ _ _ => (xg_name (i := 4) sc__law_rows_of.nd rfl (by first | exact Or.inl rfl | exact Or.inr rfl))) (fun _ _ _ _ _ => xts_nil) (fun _ _ _ _ _ => (xtup (xa_cons (xv (pv 3)) (xa_cons (xv (pv 4)) xa_nil))))))))))
      (xs_one (xs_ret (xv (pv 2))))))))
theorem ok__law_things (T : Tx K mg) (hK : C.K = K) (hD : DkIs C false "seed" "at") : FnOk P w K mg base CX0 2 T.a__law_things T.d__law_things ["_law_deck_here", "_law_trunks"] (spM C m__law_things) := by
  have G__law_draw := ok__law_draw (P := P) (w := w) (base := base) (C := C) T hK hD
  exact fn_ok (k := 1) T.F__law_things sc__law_things (fun cdv A outer s H E hr => by
    have h0 := hr.units0; have h1 := hu1 hr; have h64 := hr.units; have h65 := hu65 hr
    exact (xs_cons (xs_set (i := 2) sc__law_things.nd rfl (by first | exact Or.inl rfl | exact Or.inr rfl) (xcall G__law_draw (hr.mono (by decide)) rfl T.g__law_draw T.F__law_draw.kp (B__law_draw T) (xa_cons (xv (pv 0)) (xa_cons (xcallB call_len (cm_len hK) rfl T.n_len PySem.boot_len (xa_cons (xv (pv 1)) xa_nil)) xa_nil))))
      (xs_cons (xs_if (PW.pt (xw_or (xt_cmp (op_eqD h64) (om_eq hK) (xcallB call_len (cm_len hK) rfl T.n_len PySem.boot_len (xa_cons (xv (pv 1)) xa_nil)) xint) (xw_or1 (xt_cmp (op_eqD h64) (om_eq hK) (xcall G__law_draw (hr.mono (by decide)) rfl T.g__law_draw T.F__law_draw.kp (B__law_draw T) (xa_cons (xv (pv 0)) (xa_cons xint xa_nil))) xint)))) (xs_one (xs_ret (xtupN (xa_cons (xv (pv 2)) xa_nil)))) xs_nil)
      (xs_one (xs_ret (xtupN (xa_cons (xv (pv 2)) (xa_cons (xop op_mod om_mod (xop op_addAll (om_add hK) (xop op_addAll (om_add hK) (xv (pv 2)) xint) (xcall G__law_draw (hr.mono (by decide)) rfl T.g__law_draw T.F__law_draw.kp (B__law_draw T) (xa_cons (xv (pv 0)) (xa_cons (xop op_sub om_sub (xcallB call_len (cm_len hK) rfl T.n_len PySem.boot_len (xa_cons (xv (pv 1)) xa_nil)) xint) xa_nil)))) (xcallB call_len (cm_len hK) rfl T.n_len PySem.boot_len (xa_cons (xv (pv 1)) xa_nil))) xa_nil))))))))
theorem ok__law_halves (T : Tx K mg) (hK : C.K = K) (hD : DkIs C false "seed" "at") : FnOk P w K mg base CX0 2 T.a__law_halves T.d__law_halves ["_law_trunks", "_law_pair"] (spM C m__law_halves) := by
  have G__law_near := ok__law_near (P := P) (w := w) (base := base) (C := C) T hK hD
  exact fn_ok (k := 1) T.F__law_halves sc__law_halves (fun cdv A outer s H E hr => by
    have h0 := hr.units0; have h1 := hu1 hr; have h64 := hr.units; have h65 := hu65 hr
    exact (xs_cons (xs_set (i := 2) sc__law_halves.nd rfl (by first | exact Or.inl rfl | exact Or.inr rfl) (xlst xa_nil))
      (xs_cons (xs_for PassesOwn.never rfl (xi_seq hK (xsortedN hK rfl T.n_sorted (by decide +kernel) (xa_cons (xv (pv 1)) xa_nil))) (xg_name (i := 3) sc__law_halves.nd rfl (by first | exact Or.inl rfl | exact Or.inr rfl)) (xs_one (xs_for PassesOwn.never rfl (xi_range1 rfl T.n_range (xa_cons (xop op_addAll (om_add hK) (xcallB call_len (cm_len hK) rfl T.n_len PySem.boot_len (xa_cons (xix h1 hK (xv (pv 0)) (xv (pv 3)) (fun _ _ => rfl)) xa_nil)) xint) xa_nil)) (xg_name (i := 4) sc__law_halves.nd rfl (by first | exact Or.inl rfl | exact Or.inr rfl)) (xs_one (xs_set (i := 2) sc__law_halves.nd rfl (by first | exact Or.inl rfl | exact Or.inr rfl) (xop op_addAll (om_add hK) (xv (pv 2)) (xfz (xlc (own := [("_law_b", 5)]) (by decide) rfl sc__law_halves.nd (xi_seq hK (xcall G__law_near (hr.mono (by decide)) rfl T.g__law_near T.F__law_near.kp (B__law_near T) (xa_cons (xix h1 hK (xv (pv 0)) (xv (pv 3)) (fun _ _ => rfl)) (xa_cons (xv (pv 4)) xa_nil)))) (blkOk_by (by first | (show blkC N__law_halves (defScope s__law_halves) _ _ = true; decide +kernel) | rfl | (with_unfolding_all rfl))) (fun _ _ _ _ _ => (xg_name (i := 5) sc__law_halves.nd rfl (by first | exact Or.inl rfl | exact Or.inr rfl))) (fun _ _ _ _ _ => xts_nil) (fun _ _ _ _ _ => (xtup (xa_cons (xv (pv 3)) (xa_cons (xv (pv 4)) (xa_cons (xv (pv 5)) xa_nil)))))))))))))
      (xs_one (xs_ret (xv (pv 2)))))))
theorem ok__law_in_half (T : Tx K mg) (hK : C.K = K) (hD : DkIs C false "seed" "at") : FnOk P w K mg base CX0 3 T.a__law_in_half T.d__law_in_half ["_law_trunks", "_law_half"] (spM C m__law_in_half) := by
  have G__law_off := ok__law_off (P := P) (w := w) (base := base) (C := C) T hK hD
  exact fn_ok (k := 2) T.F__law_in_half sc__law_in_half (fun cdv A outer s H E hr => by
    have h0 := hr.units0; have h1 := hu1 hr; have h64 := hr.units; have h65 := hu65 hr
    exact (xs_cons (xs_asg (xv (pv 1)) (xg_trip (i := 2) (j := 3) (l := 4) rfl hK sc__law_in_half.nd rfl rfl rfl (by first | exact Or.inl rfl | exact Or.inr rfl) (by first | exact Or.inl rfl | exact Or.inr rfl) (by first | exact Or.inl rfl | exact Or.inr rfl)))
      (xs_cons (xs_asg (xtup (xa_cons (xcall G__law_off (hr.mono (by decide)) rfl T.g__law_off T.F__law_off.kp (B__law_off T) (xa_cons (xix h1 hK (xv (pv 0)) (xv (pv 2)) (fun _ _ => rfl)) (xa_cons (xv (pv 3)) xa_nil))) (xa_cons (xcall G__law_off (hr.mono (by decide)) rfl T.g__law_off T.F__law_off.kp (B__law_off T) (xa_cons (xix h1 hK (xv (pv 0)) (xv (pv 2)) (fun _ _ => rfl)) (xa_cons (xv (pv 4)) xa_nil))) xa_nil))) (xg_pair (i := 5) (j := 6) rfl hK sc__law_in_half.nd rfl rfl (by first | exact Or.inl rfl | exact Or.inr rfl) (by first | exact Or.inl rfl | exact Or.inr rfl)))
      (xs_one (xs_ret (xfz (xlc (own := [("_law_one", 7)]) (by decide) rfl sc__law_in_half.nd (xi_keys (xv (pv 5))) (blkOk_by (by first | (show blkC N__law_in_half (defScope s__law_in_half) _ _ = true; decide +kernel) | rfl | (with_unfolding_all rfl))) (fun _ _ _ _ _ => (xg_name (i := 7) sc__law_in_half.nd rfl (by first | exact Or.inl rfl | exact Or.inr rfl))) (fun _ _ _ _ _ => (xts_one (xt_cmp (op_ltAll h0) (om_lt hK) (xixZ h1 (xv (pv 6)) (xv (pv 7)) (fun _ _ => rfl)) (xixZ h1 (xv (pv 5)) (xv (pv 7)) (fun _ _ => rfl))))) (fun _ _ _ _ _ => (xv (pv 7))))))))))
theorem ok__law_barred (T : Tx K mg) (hK : C.K = K) (hD : DkIs C false "seed" "at") : FnOk P w K mg base CX0 4 T.a__law_barred T.d__law_barred ["_law_trunks", "_law_pair", "_law_clause"] (spM C m__law_barred) := by
  have G__law_rows_of := ok__law_rows_of (P := P) (w := w) (base := base) (C := C) T hK hD
  have G__law_in_half := ok__law_in_half (P := P) (w := w) (base := base) (C := C) T hK hD
  exact fn_ok (k := 3) T.F__law_barred sc__law_barred (fun cdv A outer s H E hr => by
    have h0 := hr.units0; have h1 := hu1 hr; have h64 := hr.units; have h65 := hu65 hr
    exact (xs_cons (xs_set (i := 3) sc__law_barred.nd rfl (by first | exact Or.inl rfl | exact Or.inr rfl) (xcall G__law_rows_of (hr.mono (by decide)) rfl T.g__law_rows_of T.F__law_rows_of.kp (B__law_rows_of T) (xa_cons (xv (pv 0)) (xa_cons (xv (pv 1)) xa_nil))))
      (xs_cons (xs_for PassesOwn.never rfl (xi_seq hK (xv (pv 2))) (xg_name (i := 4) sc__law_barred.nd rfl (by first | exact Or.inl rfl | exact Or.inr rfl)) (xs_cons (xs_asg (xtup (xa_cons (xcall G__law_in_half (hr.mono (by decide)) rfl T.g__law_in_half T.F__law_in_half.kp (B__law_in_half T) (xa_cons (xv (pv 0)) (xa_cons (xv (pv 4)) xa_nil))) (xa_cons (xidxN hK (xv (pv 1)) (xix h1 hK (xv (pv 4)) xint (fun _ _ => rfl))) xa_nil))) (xg_pair (i := 5) (j := 6) rfl hK sc__law_barred.nd rfl rfl (by first | exact Or.inl rfl | exact Or.inr rfl) (by first | exact Or.inl rfl | exact Or.inr rfl)))
      (xs_one (xs_if (xt_cmp (op_eqD h64) (om_eq hK) (xcallB call_len (cm_lenN hK) rfl T.n_len PySem.boot_len (xa_cons (xv (pv 1)) xa_nil)) xint) (xs_one (xs_ownLc (i := 3) (own := [("_law_row", 7)]) (by decide) rfl sc__law_barred.nd rfl rfl (sw_true rfl rfl rfl (by decide +kernel)) (xi_seq hK (xv (pv 3))) (blkOk_by (by first | (show blkC N__law_barred (defScope s__law_barred) _ _ = true; decide +kernel) | rfl | (with_unfolding_all rfl))) (fun _ _ _ _ _ => (xg_name (i := 7) sc__law_barred.nd rfl (by first | exact Or.inl rfl | exact Or.inr rfl))) (fun _ _ _ _ _ => (xts_one (xt_cmp (op_inAll h65) (om_in hK) (xv (pv 7)) (xv (pv 5))))) (fun _ _ _ _ _ => (xv (pv 7))))) (xs_one (xs_ownLc (i := 3) (own := [("_law_row", 7)]) (by decide) rfl sc__law_barred.nd rfl rfl (sw_true rfl rfl rfl (by decide +kernel)) (xi_seq hK (xv (pv 3))) (blkOk_by (by first | (show blkC N__law_barred (defScope s__law_barred) _ _ = true; decide +kernel) | rfl | (with_unfolding_all rfl))) (fun _ _ _ _ _ => (xg_name (i := 7) sc__law_barred.nd rfl (by first | exact Or.inl rfl | exact Or.inr rfl))) (fun _ _ _ _ _ => (xts_one (xt_cmp (op_inAll h65) (om_in hK) (xix h1 hK (xv (pv 7)) (xv (pv 6)) (fun _ _ => rfl)) (xv (pv 5))))) (fun _ _ _ _ _ => (xv (pv 7)))))))))
      (xs_one (xs_ret (xv (pv 3)))))))
theorem ok__law_let (T : Tx K mg) (hK : C.K = K) (hD : DkIs C false "seed" "at") : FnOk P w K mg base CX0 5 T.a__law_let T.d__law_let ["_law_trunks", "_law_pair", "_law_bans"] (spM C m__law_let) := by
  have G__law_barred := ok__law_barred (P := P) (w := w) (base := base) (C := C) T hK hD
  have G__law_rows_of := ok__law_rows_of (P := P) (w := w) (base := base) (C := C) T hK hD
  exact fn_ok (k := 4) T.F__law_let sc__law_let (fun cdv A outer s H E hr => by
    have h0 := hr.units0; have h1 := hu1 hr; have h64 := hr.units; have h65 := hu65 hr
    exact (xs_cons (xs_ownD (i := 3) sc__law_let.nd rfl (by first | exact Or.inl rfl | exact Or.inr rfl) xdnewF)
      (xs_cons (xs_for PassesOwn.never rfl (xi_seq hK (xv (pv 2))) (xg_name (i := 4) sc__law_let.nd rfl (by first | exact Or.inl rfl | exact Or.inr rfl)) (xs_one (xs_for PassesOwn.never rfl (xi_seq hK (xcall G__law_barred (hr.mono (by decide)) rfl T.g__law_barred T.F__law_barred.kp (B__law_barred T) (xa_cons (xv (pv 0)) (xa_cons (xv (pv 1)) (xa_cons (xv (pv 4)) xa_nil))))) (xg_name (i := 5) sc__law_let.nd rfl (by first | exact Or.inl rfl | exact Or.inr rfl)) (xs_one (xs_putU h1 (pv 3) (xv (pv 5)) xbl)))))
      (xs_one (xs_ret (xcallTy call_tuple_of (cm_tuple hK) rfl T.n_tuple (by decide +kernel) (xa_cons (xfz (xlc (own := [("_law_row", 5)]) (by decide) rfl sc__law_let.nd (xi_seq hK (xcall G__law_rows_of (hr.mono (by decide)) rfl T.g__law_rows_of T.F__law_rows_of.kp (B__law_rows_of T) (xa_cons (xv (pv 0)) (xa_cons (xv (pv 1)) xa_nil)))) (blkOk_by (by first | (show blkC N__law_let (defScope s__law_let) _ _ = true; decide +kernel) | rfl | (with_unfolding_all rfl))) (fun _ _ _ _ _ => (xg_name (i := 5) sc__law_let.nd rfl (by first | exact Or.inl rfl | exact Or.inr rfl))) (fun _ _ _ _ _ => (xts_one (xt_notInU h65 (xv (pv 5)) (pv 3)))) (fun _ _ _ _ _ => (xv (pv 5))))) xa_nil)))))))
theorem ok__law_right (T : Tx K mg) (hK : C.K = K) (hD : DkIs C false "seed" "at") : FnG P w K mg base 8 T.a__law_right T.d__law_right ["_law_deck_here", "_law_trunks", "_law_pair", "_law_bans"] (spM C m__law_right) := by
  have G__law_let := ok__law_let (P := P) (w := w) (base := base) (C := C) T hK hD
  have G_by_clauses := ok_by_clauses (P := P) (w := w) (base := base) (C := C) T hK hD
  have G_unmiddled := ok_unmiddled (P := P) (w := w) (base := base) (C := C) T hK hD
  have G__law_same := ok__law_same (P := P) (w := w) (base := base) (C := C) T hK hD 4
  have G__law_draw := ok__law_draw (P := P) (w := w) (base := base) (C := C) T hK hD
  exact fn_okG (k := 7) T.F__law_right sc__law_right (fun cdv A outer s H E cA hr => by
    have h0 := hr.units0; have h1 := hu1 hr; have h64 := hr.units; have h65 := hu65 hr
    exact (xs_cons (xs_set (i := 4) sc__law_right.nd rfl (by first | exact Or.inl rfl | exact Or.inr rfl) (xop op_addAll (om_addN hK) (xv (pv 2)) (xtup (xa_cons (xcall G__law_let (hr.mono (by decide)) rfl T.g__law_let T.F__law_let.kp (B__law_let T) (xa_cons (xv (pv 1)) (xa_cons (xv (pv 2)) (xa_cons (xv (pv 3)) xa_nil)))) xa_nil))))
      (xs_cons (xs_set (i := 5) sc__law_right.nd rfl (by first | exact Or.inl rfl | exact Or.inr rfl) (xcallB (cr_reprN cA h65 hK) cm_reprN rfl T.n_repr (by decide +kernel) (xa_cons (xtup (xa_cons (xv (pv 1)) (xa_cons (xv (pv 2)) (xa_cons (xv (pv 3)) xa_nil)))) xa_nil)))
      (xs_cons (xs_set (i := 6) sc__law_right.nd rfl (by first | exact Or.inl rfl | exact Or.inr rfl) (xcall G_by_clauses (hr.mono (by decide)) rfl T.g_by_clauses T.F_by_clauses.kp (B_by_clauses T) (xa_cons (xv (pv 1)) (xa_cons (xv (pv 2)) (xa_cons (xv (pv 3)) xa_nil)))))
      (xs_cons (xs_if (PW.pt (xw_or (xt_not (xt_val (xcall G__law_same (hr.mono (by decide)) rfl T.g__law_same T.F__law_same.kp (B__law_same T) (xa_cons (xv (pv 6)) (xa_cons (xv (pv 4)) xa_nil))))) (xw_or (xt_cmp op_notN om_notN (xcall G_unmiddled (hr.mono (by decide)) rfl T.g_unmiddled T.F_unmiddled.kp (B_unmiddled T) (xa_cons (xv (pv 1)) (xa_cons (xv (pv 6)) xa_nil))) xnon) (xw_or1 (xt_cmp op_ne om_neS (xcallB (cr_reprN cA h65 hK) cm_reprN rfl T.n_repr (by decide +kernel) (xa_cons (xtup (xa_cons (xv (pv 1)) (xa_cons (xv (pv 2)) (xa_cons (xv (pv 3)) xa_nil)))) xa_nil)) (xv (pv 5))))))) (xs_one (xs_ret xbl)) xs_nil)
      (xs_cons (xs_set (i := 7) sc__law_right.nd rfl (by first | exact Or.inl rfl | exact Or.inr rfl) (xcall G__law_draw (hr.mono (by decide)) rfl T.g__law_draw T.F__law_draw.kp (B__law_draw T) (xa_cons (xv (pv 0)) (xa_cons (xop op_addAll (om_add hK) (xcallB call_len (cm_len hK) rfl T.n_len PySem.boot_len (xa_cons (xv (pv 3)) xa_nil)) xint) xa_nil))))
      (xs_cons (xs_set (i := 8) sc__law_right.nd rfl (by first | exact Or.inl rfl | exact Or.inr rfl) (xop op_addAll (om_add hK) (xop op_addAll (om_add hK) (xrev hK (xslice hK (xv (pv 3)) (xo_some (xv (pv 7))) xo_none)) (xslice hK (xv (pv 3)) xo_none (xo_some (xv (pv 7))))) (xslice hK (xv (pv 3)) (xo_some (xv (pv 7))) (xo_some (xop op_addAll (om_add hK) (xv (pv 7)) xint)))))
      (xs_cons (xs_if (xt_not (xt_val (xcall G__law_same (hr.mono (by decide)) rfl T.g__law_same T.F__law_same.kp (B__law_same T) (xa_cons (xcallK0 G_by_clauses (hr.mono (by decide)) rfl T.g_by_clauses T.F_by_clauses.kp (kb_by_clauses_0_clauses_things_trees T.F_by_clauses) (xk_cons (xv (pv 8)) (xk_cons (xv (pv 2)) (xk_cons (xv (pv 1)) xk_nil)))) (xa_cons (xv (pv 4)) xa_nil))))) (xs_one (xs_ret xbl)) xs_nil)
      (xs_cons (xs_set (i := 9) sc__law_right.nd rfl (by first | exact Or.inl rfl | exact Or.inr rfl) (xif (xt_cmp (op_eqD h64) (om_eq hK) (xcallB call_len (cm_lenN hK) rfl T.n_len PySem.boot_len (xa_cons (xv (pv 2)) xa_nil)) xint) (xcallTy call_tuple_of (cm_tuple hK) rfl T.n_tuple (by decide +kernel) (xa_cons (xsortedP rfl T.n_sorted (by decide +kernel) (xa_cons (xfz (xlc (own := [("_law_row", 11)]) (by decide) rfl sc__law_right.nd (xi_seq hK (xix h1 hK (xv (pv 4)) (xun un_neg um_neg xint) (fun _ _ => rfl))) (blkOk_by (by first | (show blkC N__law_right (defScope s__law_right) _ _ = true; decide +kernel) | rfl | (with_unfolding_all rfl))) (fun _ _ _ _ _ => (xg_name (i := 11) sc__law_right.nd rfl (by first | exact Or.inl rfl | exact Or.inr rfl))) (fun _ _ _ _ _ => xts_nil) (fun _ _ _ _ _ => (xrev hK (xv (pv 11)))))) xa_nil)) xa_nil)) (xix h1 hK (xv (pv 4)) (xun un_neg um_neg xint) (fun _ _ => rfl))))
      (xs_cons (xs_if (xt_cmp (op_neD h64) (om_ne hK) (xix h1 hK (xcall G_by_clauses (hr.mono (by decide)) rfl T.g_by_clauses T.F_by_clauses.kp (B_by_clauses T) (xa_cons (xv (pv 1)) (xa_cons (xrevN hK (xv (pv 2))) (xa_cons (xv (pv 3)) xa_nil)))) (xun un_neg um_neg xint) (fun _ _ => rfl)) (xv (pv 9))) (xs_one (xs_ret xbl)) xs_nil)
      (xs_cons (xs_set (i := 10) sc__law_right.nd rfl (by first | exact Or.inl rfl | exact Or.inr rfl) (xcall G_by_clauses (hr.mono (by decide)) rfl T.g_by_clauses T.F_by_clauses.kp (B_by_clauses T) (xa_cons (xv (pv 1)) (xa_cons (xv (pv 2)) (xa_cons (xop op_addAll (om_add hK) (xslice hK (xv (pv 3)) xo_none (xo_some (xv (pv 7)))) (xslice hK (xv (pv 3)) (xo_some (xop op_addAll (om_add hK) (xv (pv 7)) xint)) xo_none)) xa_nil)))))
      (xs_one (xs_ret (xband (xcmp (op_eqL0 h0) om_eqL0 (xfz (xlc (own := [("_law_row", 11)]) (by decide) rfl sc__law_right.nd (xi_seq hK (xix h1 hK (xv (pv 4)) (xun un_neg um_neg xint) (fun _ _ => rfl))) (blkOk_by (by first | (show blkC N__law_right (defScope s__law_right) _ _ = true; decide +kernel) | rfl | (with_unfolding_all rfl))) (fun _ _ _ _ _ => (xg_name (i := 11) sc__law_right.nd rfl (by first | exact Or.inl rfl | exact Or.inr rfl))) (fun _ _ _ _ _ => (xts_one (xt_cmp (op_notInAll h65) (om_notIn hK) (xv (pv 11)) (xix h1 hK (xv (pv 10)) (xun un_neg um_neg xint) (fun _ _ => rfl))))) (fun _ _ _ _ _ => (xv (pv 11))))) (xlst xa_nil)) (xone (xcall G__law_same (hr.mono (by decide)) rfl T.g__law_same T.F__law_same.kp (B__law_same T) (xa_cons (xcall G_by_clauses (hr.mono (by decide)) rfl T.g_by_clauses T.F_by_clauses.kp (B_by_clauses T) (xa_cons (xv (pv 1)) (xa_cons (xv (pv 2)) (xa_cons (xv (pv 3)) xa_nil)))) (xa_cons (xv (pv 4)) xa_nil))))))))))))))))))
theorem ok_law (T : Tx K mg) (hr : LawRuns m__law_deck 12 1 "seed" "at" b_law) : FnG P w K mg base 9 T.a_law T.d_law ["_law_script"] (spLaw K) := by
  have G_deck := ok__law_deck (P := P) (w := w) (base := base) (C := mc0 K) T rfl
  exact law_okG (k := 8) T.F_law sc_law (fun cdv A outer s H E cA hr => by
    exact pss_cons (ps_set (i := 1) sc_law.nd rfl (by first | exact Or.inl rfl | exact Or.inr rfl) (pe_call G_deck (hr.mono (by decide)) rfl T.g__law_deck T.F__law_deck.kp (B__law_deck T) .nil pass0 (pa_cons (pv 0) pa_nil))) (xss_rest fun C hK hD => by
      have G__law_draw := ok__law_draw (P := P) (w := w) (base := base) (C := C) T hK hD
      have G__law_tree := ok__law_tree (P := P) (w := w) (base := base) (C := C) T hK hD
      have G__law_things := ok__law_things (P := P) (w := w) (base := base) (C := C) T hK hD
      have G__law_halves := ok__law_halves (P := P) (w := w) (base := base) (C := C) T hK hD
      have G__law_right := ok__law_right (P := P) (w := w) (base := base) (C := C) T hK hD
      have G__law_same := ok__law_same (P := P) (w := w) (base := base) (C := C) T hK hD 4
      have G__law_rows_of := ok__law_rows_of (P := P) (w := w) (base := base) (C := C) T hK hD
      have G_by_clauses := ok_by_clauses (P := P) (w := w) (base := base) (C := C) T hK hD
      have h0 := hr.units0; have h1 := hu1 hr; have h64 := hr.units; have h65 := hu65 hr
      exact (xs_cons (xs_set (i := 2) sc_law.nd rfl (by first | exact Or.inl rfl | exact Or.inr rfl) (xix h1 hK (xlst (xa_cons xint (xa_cons xint (xa_cons xint xa_nil)))) (xcall G__law_draw (hr.mono (by decide)) rfl T.g__law_draw T.F__law_draw.kp (B__law_draw T) (xa_cons (xv (pv 1)) (xa_cons xint xa_nil))) (fun _ _ => rfl)))
      (xs_cons (xs_set (i := 3) sc_law.nd rfl (by first | exact Or.inl rfl | exact Or.inr rfl) (xcallTy call_tuple_of (cm_tuple hK) rfl T.n_tuple (by decide +kernel) (xa_cons (xfz (xlc (own := [("_law_k", 8)]) (by decide) rfl sc_law.nd (xi_range1 rfl T.n_range (xa_cons (xop op_addAll (om_add hK) xint (xcall G__law_draw (hr.mono (by decide)) rfl T.g__law_draw T.F__law_draw.kp (B__law_draw T) (xa_cons (xv (pv 1)) (xa_cons xint xa_nil)))) xa_nil)) (blkOk_by (by first | (show blkC N_law (defScope s_law) _ _ = true; decide +kernel) | rfl | (with_unfolding_all rfl))) (fun _ _ _ _ _ => (xg_name (i := 8) sc_law.nd rfl (by first | exact Or.inl rfl | exact Or.inr rfl))) (fun _ _ _ _ _ => xts_nil) (fun _ _ _ _ _ => (xcall G__law_tree (hr.mono (by decide)) rfl T.g__law_tree T.F__law_tree.kp (B__law_tree T) (xa_cons (xv (pv 1)) (xa_cons (xv (pv 2)) xa_nil)))))) xa_nil)))
      (xs_cons (xs_for PassesOwn.never rfl (xi_range1 rfl T.n_range (xa_cons xint xa_nil)) (xg_name (i := 4) sc_law.nd rfl (by first | exact Or.inl rfl | exact Or.inr rfl)) (xs_cons (xs_set (i := 5) sc_law.nd rfl (by first | exact Or.inl rfl | exact Or.inr rfl) (xcall G__law_things (hr.mono (by decide)) rfl T.g__law_things T.F__law_things.kp (B__law_things T) (xa_cons (xv (pv 1)) (xa_cons (xv (pv 3)) xa_nil))))
      (xs_cons (ps_imp (ps_asg (pe_tup (pa_cons (xcall G__law_halves (hr.mono (by decide)) rfl T.g__law_halves T.F__law_halves.kp (B__law_halves T) (xa_cons (xv (pv 3)) (xa_cons (xv (pv 5)) xa_nil))) (pa_cons (xdisp xa_nil) pa_nil))) (pg_tup rfl (pgs_cons (pg_name (i := 6) sc_law.nd rfl (by first | exact Or.inl rfl | exact Or.inr rfl)) (pgs_cons (pg_name (i := 7) sc_law.nd rfl (by first | exact Or.inl rfl | exact Or.inr rfl)) pgs_nil)))) fun _ _ _ h => asgEL_ok (by decide) h)
      (xs_cons (xs_for PassesOwn.never rfl (xi_range1 rfl T.n_range (xa_cons (xop op_mulAll om_mul (xcall G__law_draw (hr.mono (by decide)) rfl T.g__law_draw T.F__law_draw.kp (B__law_draw T) (xa_cons (xv (pv 1)) (xa_cons xint xa_nil))) (xcallTy call_int1 cm_int rfl T.n_int (by decide +kernel) (xa_cons (xcmp (op_neL0 h0) om_eqL0 (xv (pv 6)) (xlst xa_nil)) xa_nil))) xa_nil)) (xg_name (i := 8) sc_law.nd rfl (by first | exact Or.inl rfl | exact Or.inr rfl)) (xs_cons (xs_asg (xfz (xlc (own := [("_law_side_of", 11)]) (by decide) rfl sc_law.nd (xi_range1 rfl T.n_range (xa_cons xint xa_nil)) (blkOk_by (by first | (show blkC N_law (defScope s_law) _ _ = true; decide +kernel) | rfl | (with_unfolding_all rfl))) (fun _ _ _ _ _ => (xg_name (i := 11) sc_law.nd rfl (by first | exact Or.inl rfl | exact Or.inr rfl))) (fun _ _ _ _ _ => xts_nil) (fun _ _ _ _ _ => (xix h1 hK (xv (pv 6)) (xcall G__law_draw (hr.mono (by decide)) rfl T.g__law_draw T.F__law_draw.kp (B__law_draw T) (xa_cons (xv (pv 1)) (xa_cons (xcallB call_len (cm_len hK) rfl T.n_len PySem.boot_len (xa_cons (xv (pv 6)) xa_nil)) xa_nil))) (fun _ _ => rfl))))) (xg_pairL (i := 9) (j := 10) rfl sc_law.nd rfl rfl (by first | exact Or.inl rfl | exact Or.inr rfl) (by first | exact Or.inl rfl | exact Or.inr rfl)))
      (xs_one (xs_expr (xappend (pv 7) (xtup (xa_cons (xcallB (cr_min2D rfl h65 hK) cm_two rfl T.n_min (by decide +kernel) (xa_cons (xv (pv 9)) (xa_cons (xv (pv 10)) xa_nil))) (xa_cons (xcallB (cr_max2D rfl h65 hK) cm_two rfl T.n_max (by decide +kernel) (xa_cons (xv (pv 9)) (xa_cons (xv (pv 10)) xa_nil))) xa_nil))))))))
      (xs_cons (xs_if (xt_not (xt_val (gcall G__law_right cA (hr.mono (by decide)) rfl T.g__law_right T.F__law_right.kp (B__law_right T) (xa_cons (xv (pv 1)) (xa_cons (xv (pv 3)) (xa_cons (xv (pv 5)) (xa_cons (xcallTy call_tuple_of (cm_tuple hK) rfl T.n_tuple (by decide +kernel) (xa_cons (xv (pv 7)) xa_nil)) xa_nil))))))) (xs_one (xs_ret xbl)) xs_nil)
      (xs_one (xs_if (xt_not (xt_val (xcall G__law_same (hr.mono (by decide)) rfl T.g__law_same T.F__law_same.kp (B__law_same T) (xa_cons (xcall G_by_clauses (hr.mono (by decide)) rfl T.g_by_clauses T.F_by_clauses.kp (B_by_clauses T) (xa_cons (xv (pv 3)) (xa_cons (xv (pv 5)) (xa_cons (xtup xa_nil) xa_nil)))) (xa_cons (xop op_addAll (om_addN hK) (xv (pv 5)) (xtup (xa_cons (xcallTy call_tuple_of (cm_tuple hK) rfl T.n_tuple (by decide +kernel) (xa_cons (xcall G__law_rows_of (hr.mono (by decide)) rfl T.g__law_rows_of T.F__law_rows_of.kp (B__law_rows_of T) (xa_cons (xv (pv 3)) (xa_cons (xv (pv 5)) xa_nil))) xa_nil)) xa_nil))) xa_nil))))) (xs_one (xs_ret xbl)) xs_nil)))))))
      (xs_one (xs_ret (xcmp (op_eqD h64) (om_eq hK) (xcall G_by_clauses (hr.mono (by decide)) rfl T.g_by_clauses T.F_by_clauses.kp (B_by_clauses T) (xa_cons (xtup (xa_cons (xtup (xa_cons xint (xa_cons xint xa_nil))) xa_nil)) (xa_cons (xtupN (xa_cons xint xa_nil)) (xa_cons (xtup (xa_cons (xtup (xa_cons (xtup (xa_cons xint (xa_cons xint (xa_cons xint xa_nil)))) (xa_cons (xtup (xa_cons xint (xa_cons xint (xa_cons xint xa_nil)))) xa_nil))) xa_nil)) xa_nil)))) (xtup (xa_cons xint (xa_cons (xtup (xa_cons xint (xa_cons xint xa_nil))) xa_nil))))))))))) hr
end
theorem all_mk {l : PySem.W.OpenLaw} {w : World} {K : PySem.W.Frag} {h : Heap} {mg : Str → Option Value} {fa f0 f1 f2 f3 f4 f5 f6 f7 f8 f9 f10 f11 f12 f13 f14 f15 f16 f17 f18 f19 f20 f21 f22 f23 f24 f25 f26 : Addr} (X : K.In h) (G : h.Ns mainGlobals mg) (hfa : mg "law" = some (.ref fa)) (hr : LawRuns m__law_deck 12 1 "seed" "at" b_law)
    {od0 an0 od1 an1 od2 an2 od3 an3 od4 an4 od5 an5 od6 an6 od7 an7 od8 an8 od9 an9 od10 an10 od11 an11 od12 an12 od13 an13 od14 an14 od15 an15 od16 an16 od17 an17 od18 an18 od19 an19 od20 an20 od21 an21 od22 an22 od23 an23 od24 an24 od25 an25 od26 an26 : Option Addr} {sl0 sl1 sl2 sl3 sl4 sl5 sl6 sl7 sl8 sl9 sl10 sl11 sl12 sl13 sl14 sl15 sl16 sl17 sl18 sl19 sl20 sl21 sl22 sl23 sl24 sl25 sl26 : Array (Option Value)} {oc0 kV0 dc0 pm0 cd0 ct0 oc1 kV1 dc1 pm1 cd1 ct1 oc2 kV2 dc2 pm2 cd2 ct2 oc3 kV3 dc3 pm3 cd3 ct3 oc4 kV4 dc4 pm4 cd4 ct4 oc5 kV5 dc5 pm5 cd5 ct5 oc6 kV6 dc6 pm6 cd6 ct6 oc7 kV7 dc7 pm7 cd7 ct7 oc8 kV8 dc8 pm8 cd8 ct8 oc9 kV9 dc9 pm9 cd9 ct9 oc10 kV10 dc10 pm10 cd10 ct10 oc11 kV11 dc11 pm11 cd11 ct11 oc12 kV12 dc12 pm12 cd12 ct12 oc13 kV13 dc13 pm13 cd13 ct13 oc14 kV14 dc14 pm14 cd14 ct14 oc15 kV15 dc15 pm15 cd15 ct15 oc16 kV16 dc16 pm16 cd16 ct16 oc17 kV17 dc17 pm17 cd17 ct17 oc18 kV18 dc18 pm18 cd18 ct18 oc19 kV19 dc19 pm19 cd19 ct19 oc20 kV20 dc20 pm20 cd20 ct20 oc21 kV21 dc21 pm21 cd21 ct21 oc22 kV22 dc22 pm22 cd22 ct22 oc23 kV23 dc23 pm23 cd23 ct23 oc24 kV24 dc24 pm24 cd24 ct24 oc25 kV25 dc25 pm25 cd25 ct25 oc26 kV26 dc26 pm26 cd26 ct26 : Value}
    (a0 : PySem.W.nsIn K mainGlobals "places_in" = some (some (.ref f0))) (l0 : K.lookup f0 = some ⟨oc0, od0, .func (PySem.W.fnOf "places_in" "places_in" (defArgs s_places_in) (defBody s_places_in) (defScope s_places_in) .none kV0 dc0 pm0 an0 cd0 ct0), sl0⟩) (c0 : PySem.W.codeIn K cd0 "places_in" = true) (k0 : PySem.W.keepIn K (.ref f0) = true)
    (a1 : PySem.W.nsIn K mainGlobals "joined_with" = some (some (.ref f1))) (l1 : K.lookup f1 = some ⟨oc1, od1, .func (PySem.W.fnOf "joined_with" "joined_with" (defArgs s_joined_with) (defBody s_joined_with) (defScope s_joined_with) .none kV1 dc1 pm1 an1 cd1 ct1), sl1⟩) (c1 : PySem.W.codeIn K cd1 "joined_with" = true) (k1 : PySem.W.keepIn K (.ref f1) = true)
    (a2 : PySem.W.nsIn K mainGlobals "to_first" = some (some (.ref f2))) (l2 : K.lookup f2 = some ⟨oc2, od2, .func (PySem.W.fnOf "to_first" "to_first" (defArgs s_to_first) (defBody s_to_first) (defScope s_to_first) .none kV2 dc2 pm2 an2 cd2 ct2), sl2⟩) (c2 : PySem.W.codeIn K cd2 "to_first" = true) (k2 : PySem.W.keepIn K (.ref f2) = true)
    (a3 : PySem.W.nsIn K mainGlobals "way" = some (some (.ref f3))) (l3 : K.lookup f3 = some ⟨oc3, od3, .func (PySem.W.fnOf "way" "way" (defArgs s_way) (defBody s_way) (defScope s_way) .none kV3 dc3 pm3 an3 cd3 ct3), sl3⟩) (c3 : PySem.W.codeIn K cd3 "way" = true) (k3 : PySem.W.keepIn K (.ref f3) = true)
    (a4 : PySem.W.nsIn K mainGlobals "side" = some (some (.ref f4))) (l4 : K.lookup f4 = some ⟨oc4, od4, .func (PySem.W.fnOf "side" "side" (defArgs s_side) (defBody s_side) (defScope s_side) .none kV4 dc4 pm4 an4 cd4 ct4), sl4⟩) (c4 : PySem.W.codeIn K cd4 "side" = true) (k4 : PySem.W.keepIn K (.ref f4) = true)
    (a5 : PySem.W.nsIn K mainGlobals "all_rows" = some (some (.ref f5))) (l5 : K.lookup f5 = some ⟨oc5, od5, .func (PySem.W.fnOf "all_rows" "all_rows" (defArgs s_all_rows) (defBody s_all_rows) (defScope s_all_rows) .none kV5 dc5 pm5 an5 cd5 ct5), sl5⟩) (c5 : PySem.W.codeIn K cd5 "all_rows" = true) (k5 : PySem.W.keepIn K (.ref f5) = true)
    (a6 : PySem.W.nsIn K mainGlobals "halves_of" = some (some (.ref f6))) (l6 : K.lookup f6 = some ⟨oc6, od6, .func (PySem.W.fnOf "halves_of" "halves_of" (defArgs s_halves_of) (defBody s_halves_of) (defScope s_halves_of) .none kV6 dc6 pm6 an6 cd6 ct6), sl6⟩) (c6 : PySem.W.codeIn K cd6 "halves_of" = true) (k6 : PySem.W.keepIn K (.ref f6) = true)
    (a7 : PySem.W.nsIn K mainGlobals "half_bits" = some (some (.ref f7))) (l7 : K.lookup f7 = some ⟨oc7, od7, .func (PySem.W.fnOf "half_bits" "half_bits" (defArgs s_half_bits) (defBody s_half_bits) (defScope s_half_bits) .none kV7 dc7 pm7 an7 cd7 ct7), sl7⟩) (c7 : PySem.W.codeIn K cd7 "half_bits" = true) (k7 : PySem.W.keepIn K (.ref f7) = true)
    (a8 : PySem.W.nsIn K mainGlobals "row_bits" = some (some (.ref f8))) (l8 : K.lookup f8 = some ⟨oc8, od8, .func (PySem.W.fnOf "row_bits" "row_bits" (defArgs s_row_bits) (defBody s_row_bits) (defScope s_row_bits) .none kV8 dc8 pm8 an8 cd8 ct8), sl8⟩) (c8 : PySem.W.codeIn K cd8 "row_bits" = true) (k8 : PySem.W.keepIn K (.ref f8) = true)
    (a9 : PySem.W.nsIn K mainGlobals "by_clauses" = some (some (.ref f9))) (l9 : K.lookup f9 = some ⟨oc9, od9, .func (PySem.W.fnOf "by_clauses" "by_clauses" (defArgs s_by_clauses) (defBody s_by_clauses) (defScope s_by_clauses) .none kV9 dc9 pm9 an9 cd9 ct9), sl9⟩) (c9 : PySem.W.codeIn K cd9 "by_clauses" = true) (k9 : PySem.W.keepIn K (.ref f9) = true)
    (a10 : PySem.W.nsIn K mainGlobals "barring" = some (some (.ref f10))) (l10 : K.lookup f10 = some ⟨oc10, od10, .func (PySem.W.fnOf "barring" "barring" (defArgs s_barring) (defBody s_barring) (defScope s_barring) .none kV10 dc10 pm10 an10 cd10 ct10), sl10⟩) (c10 : PySem.W.codeIn K cd10 "barring" = true) (k10 : PySem.W.keepIn K (.ref f10) = true)
    (a11 : PySem.W.nsIn K mainGlobals "filled" = some (some (.ref f11))) (l11 : K.lookup f11 = some ⟨oc11, od11, .func (PySem.W.fnOf "filled" "filled" (defArgs s_filled) (defBody s_filled) (defScope s_filled) .none kV11 dc11 pm11 an11 cd11 ct11), sl11⟩) (c11 : PySem.W.codeIn K cd11 "filled" = true) (k11 : PySem.W.keepIn K (.ref f11) = true)
    (a12 : PySem.W.nsIn K mainGlobals "unmiddled" = some (some (.ref f12))) (l12 : K.lookup f12 = some ⟨oc12, od12, .func (PySem.W.fnOf "unmiddled" "unmiddled" (defArgs s_unmiddled) (defBody s_unmiddled) (defScope s_unmiddled) .none kV12 dc12 pm12 an12 cd12 ct12), sl12⟩) (c12 : PySem.W.codeIn K cd12 "unmiddled" = true) (k12 : PySem.W.keepIn K (.ref f12) = true)
    (a13 : PySem.W.nsIn K mainGlobals "_law_deck" = some (some (.ref f13))) (l13 : K.lookup f13 = some ⟨oc13, od13, .func (PySem.W.fnOf "_law_deck" "_law_deck" (defArgs s__law_deck) (defBody s__law_deck) (defScope s__law_deck) .none kV13 dc13 pm13 an13 cd13 ct13), sl13⟩) (c13 : PySem.W.codeIn K cd13 "_law_deck" = true) (k13 : PySem.W.keepIn K (.ref f13) = true)
    (a14 : PySem.W.nsIn K mainGlobals "_law_draw" = some (some (.ref f14))) (l14 : K.lookup f14 = some ⟨oc14, od14, .func (PySem.W.fnOf "_law_draw" "_law_draw" (defArgs s__law_draw) (defBody s__law_draw) (defScope s__law_draw) .none kV14 dc14 pm14 an14 cd14 ct14), sl14⟩) (c14 : PySem.W.codeIn K cd14 "_law_draw" = true) (k14 : PySem.W.keepIn K (.ref f14) = true)
    (a15 : PySem.W.nsIn K mainGlobals "_law_tree" = some (some (.ref f15))) (l15 : K.lookup f15 = some ⟨oc15, od15, .func (PySem.W.fnOf "_law_tree" "_law_tree" (defArgs s__law_tree) (defBody s__law_tree) (defScope s__law_tree) .none kV15 dc15 pm15 an15 cd15 ct15), sl15⟩) (c15 : PySem.W.codeIn K cd15 "_law_tree" = true) (k15 : PySem.W.keepIn K (.ref f15) = true)
    (a16 : PySem.W.nsIn K mainGlobals "_law_near" = some (some (.ref f16))) (l16 : K.lookup f16 = some ⟨oc16, od16, .func (PySem.W.fnOf "_law_near" "_law_near" (defArgs s__law_near) (defBody s__law_near) (defScope s__law_near) .none kV16 dc16 pm16 an16 cd16 ct16), sl16⟩) (c16 : PySem.W.codeIn K cd16 "_law_near" = true) (k16 : PySem.W.keepIn K (.ref f16) = true)
    (a17 : PySem.W.nsIn K mainGlobals "_law_off" = some (some (.ref f17))) (l17 : K.lookup f17 = some ⟨oc17, od17, .func (PySem.W.fnOf "_law_off" "_law_off" (defArgs s__law_off) (defBody s__law_off) (defScope s__law_off) .none kV17 dc17 pm17 an17 cd17 ct17), sl17⟩) (c17 : PySem.W.codeIn K cd17 "_law_off" = true) (k17 : PySem.W.keepIn K (.ref f17) = true)
    (a18 : PySem.W.nsIn K mainGlobals "_law_same" = some (some (.ref f18))) (l18 : K.lookup f18 = some ⟨oc18, od18, .func (PySem.W.fnOf "_law_same" "_law_same" (defArgs s__law_same) (defBody s__law_same) (defScope s__law_same) .none kV18 dc18 pm18 an18 cd18 ct18), sl18⟩) (c18 : PySem.W.codeIn K cd18 "_law_same" = true) (k18 : PySem.W.keepIn K (.ref f18) = true)
    (a19 : PySem.W.nsIn K mainGlobals "_law_rows_of" = some (some (.ref f19))) (l19 : K.lookup f19 = some ⟨oc19, od19, .func (PySem.W.fnOf "_law_rows_of" "_law_rows_of" (defArgs s__law_rows_of) (defBody s__law_rows_of) (defScope s__law_rows_of) .none kV19 dc19 pm19 an19 cd19 ct19), sl19⟩) (c19 : PySem.W.codeIn K cd19 "_law_rows_of" = true) (k19 : PySem.W.keepIn K (.ref f19) = true)
    (a20 : PySem.W.nsIn K mainGlobals "_law_things" = some (some (.ref f20))) (l20 : K.lookup f20 = some ⟨oc20, od20, .func (PySem.W.fnOf "_law_things" "_law_things" (defArgs s__law_things) (defBody s__law_things) (defScope s__law_things) .none kV20 dc20 pm20 an20 cd20 ct20), sl20⟩) (c20 : PySem.W.codeIn K cd20 "_law_things" = true) (k20 : PySem.W.keepIn K (.ref f20) = true)
    (a21 : PySem.W.nsIn K mainGlobals "_law_halves" = some (some (.ref f21))) (l21 : K.lookup f21 = some ⟨oc21, od21, .func (PySem.W.fnOf "_law_halves" "_law_halves" (defArgs s__law_halves) (defBody s__law_halves) (defScope s__law_halves) .none kV21 dc21 pm21 an21 cd21 ct21), sl21⟩) (c21 : PySem.W.codeIn K cd21 "_law_halves" = true) (k21 : PySem.W.keepIn K (.ref f21) = true)
    (a22 : PySem.W.nsIn K mainGlobals "_law_in_half" = some (some (.ref f22))) (l22 : K.lookup f22 = some ⟨oc22, od22, .func (PySem.W.fnOf "_law_in_half" "_law_in_half" (defArgs s__law_in_half) (defBody s__law_in_half) (defScope s__law_in_half) .none kV22 dc22 pm22 an22 cd22 ct22), sl22⟩) (c22 : PySem.W.codeIn K cd22 "_law_in_half" = true) (k22 : PySem.W.keepIn K (.ref f22) = true)
    (a23 : PySem.W.nsIn K mainGlobals "_law_barred" = some (some (.ref f23))) (l23 : K.lookup f23 = some ⟨oc23, od23, .func (PySem.W.fnOf "_law_barred" "_law_barred" (defArgs s__law_barred) (defBody s__law_barred) (defScope s__law_barred) .none kV23 dc23 pm23 an23 cd23 ct23), sl23⟩) (c23 : PySem.W.codeIn K cd23 "_law_barred" = true) (k23 : PySem.W.keepIn K (.ref f23) = true)
    (a24 : PySem.W.nsIn K mainGlobals "_law_let" = some (some (.ref f24))) (l24 : K.lookup f24 = some ⟨oc24, od24, .func (PySem.W.fnOf "_law_let" "_law_let" (defArgs s__law_let) (defBody s__law_let) (defScope s__law_let) .none kV24 dc24 pm24 an24 cd24 ct24), sl24⟩) (c24 : PySem.W.codeIn K cd24 "_law_let" = true) (k24 : PySem.W.keepIn K (.ref f24) = true)
    (a25 : PySem.W.nsIn K mainGlobals "_law_right" = some (some (.ref f25))) (l25 : K.lookup f25 = some ⟨oc25, od25, .func (PySem.W.fnOf "_law_right" "_law_right" (defArgs s__law_right) (defBody s__law_right) (defScope s__law_right) .none kV25 dc25 pm25 an25 cd25 ct25), sl25⟩) (c25 : PySem.W.codeIn K cd25 "_law_right" = true) (k25 : PySem.W.keepIn K (.ref f25) = true)
    (a26 : PySem.W.nsIn K mainGlobals "law" = some (some (.ref f26))) (l26 : K.lookup f26 = some ⟨oc26, od26, .func (PySem.W.fnOf "law" "law" (defArgs s_law) (defBody s_law) (defScope s_law) .none kV26 dc26 pm26 an26 cd26 ct26), sl26⟩) (c26 : PySem.W.codeIn K cd26 "law" = true) (k26 : PySem.W.keepIn K (.ref f26) = true)
    (z0 : PySem.W.nsIn K mainGlobals "all" = some none)
    (z1 : PySem.W.nsIn K mainGlobals "bool" = some none)
    (z2 : PySem.W.nsIn K mainGlobals "enumerate" = some none)
    (z3 : PySem.W.nsIn K mainGlobals "int" = some none)
    (z4 : PySem.W.nsIn K mainGlobals "isinstance" = some none)
    (z5 : PySem.W.nsIn K mainGlobals "len" = some none)
    (z6 : PySem.W.nsIn K mainGlobals "list" = some none)
    (z7 : PySem.W.nsIn K mainGlobals "max" = some none)
    (z8 : PySem.W.nsIn K mainGlobals "min" = some none)
    (z9 : PySem.W.nsIn K mainGlobals "range" = some none)
    (z10 : PySem.W.nsIn K mainGlobals "repr" = some none)
    (z11 : PySem.W.nsIn K mainGlobals "sorted" = some none)
    (z12 : PySem.W.nsIn K mainGlobals "sum" = some none)
    (z13 : PySem.W.nsIn K mainGlobals "tuple" = some none)
    (z14 : PySem.W.nsIn K mainGlobals "zip" = some none) :
    ∃ fd : FuncData, (∀ (s : Shared) (v : Value), BindsTo s fd ⟨[v], []⟩ [("_law_script", v)]) ∧ ∀ base : Heap, K.In base → base.Ns mainGlobals mg → FnG l.prog w K mg base 9 fa fd ["_law_script"] (spLaw K) := by
  have e := hfa.symm.trans (PySem.W.mg_of X G a26)
  cases e
  let T : Tx K mg := ⟨f0, _, fun_mk (st := s_places_in) l0 c0 k0, PySem.W.mg_of X G a0, f1, _, fun_mk (st := s_joined_with) l1 c1 k1, PySem.W.mg_of X G a1, f2, _, fun_mk (st := s_to_first) l2 c2 k2, PySem.W.mg_of X G a2, f3, _, fun_mk (st := s_way) l3 c3 k3, PySem.W.mg_of X G a3, f4, _, fun_mk (st := s_side) l4 c4 k4, PySem.W.mg_of X G a4, f5, _, fun_mk (st := s_all_rows) l5 c5 k5, PySem.W.mg_of X G a5, f6, _, fun_mk (st := s_halves_of) l6 c6 k6, PySem.W.mg_of X G a6, f7, _, fun_mk (st := s_half_bits) l7 c7 k7, PySem.W.mg_of X G a7, f8, _, fun_mk (st := s_row_bits) l8 c8 k8, PySem.W.mg_of X G a8, f9, _, fun_mk (st := s_by_clauses) l9 c9 k9, PySem.W.mg_of X G a9, f10, _, fun_mk (st := s_barring) l10 c10 k10, PySem.W.mg_of X G a10, f11, _, fun_mk (st := s_filled) l11 c11 k11, PySem.W.mg_of X G a11, f12, _, fun_mk (st := s_unmiddled) l12 c12 k12, PySem.W.mg_of X G a12, f13, _, fun_mk (st := s__law_deck) l13 c13 k13, PySem.W.mg_of X G a13, f14, _, fun_mk (st := s__law_draw) l14 c14 k14, PySem.W.mg_of X G a14, f15, _, fun_mk (st := s__law_tree) l15 c15 k15, PySem.W.mg_of X G a15, f16, _, fun_mk (st := s__law_near) l16 c16 k16, PySem.W.mg_of X G a16, f17, _, fun_mk (st := s__law_off) l17 c17 k17, PySem.W.mg_of X G a17, f18, _, fun_mk (st := s__law_same) l18 c18 k18, PySem.W.mg_of X G a18, f19, _, fun_mk (st := s__law_rows_of) l19 c19 k19, PySem.W.mg_of X G a19, f20, _, fun_mk (st := s__law_things) l20 c20 k20, PySem.W.mg_of X G a20, f21, _, fun_mk (st := s__law_halves) l21 c21 k21, PySem.W.mg_of X G a21, f22, _, fun_mk (st := s__law_in_half) l22 c22 k22, PySem.W.mg_of X G a22, f23, _, fun_mk (st := s__law_barred) l23 c23 k23, PySem.W.mg_of X G a23, f24, _, fun_mk (st := s__law_let) l24 c24 k24, PySem.W.mg_of X G a24, f25, _, fun_mk (st := s__law_right) l25 c25 k25, PySem.W.mg_of X G a25, fa, _, fun_mk (st := s_law) l26 c26 k26, PySem.W.mg_of X G a26, PySem.W.mg_none_of X G z0, PySem.W.mg_none_of X G z1, PySem.W.mg_none_of X G z2, PySem.W.mg_none_of X G z3, PySem.W.mg_none_of X G z4, PySem.W.mg_none_of X G z5, PySem.W.mg_none_of X G z6, PySem.W.mg_none_of X G z7, PySem.W.mg_none_of X G z8, PySem.W.mg_none_of X G z9, PySem.W.mg_none_of X G z10, PySem.W.mg_none_of X G z11, PySem.W.mg_none_of X G z12, PySem.W.mg_none_of X G z13, PySem.W.mg_none_of X G z14⟩
  exact ⟨T.d_law, fun s v => .of_eq rfl, fun base _ _ => ok_law T hr⟩
end G_k10
open PySem PySem.W PyProof.Rows
set_option maxRecDepth 100000 in
set_option maxHeartbeats 0 in
theorem PySem.Challenge.cw_middleyard_k10_what_clauses_let_holds : PySem.Challenge.rw_middleyard_k10_what_clauses_let.Holds := by
  w_on; o_law; k_head; (case hw => w_witness2)
  k_fill
  refine MM.walkG (l := PySem.Challenge.rw_middleyard_k10_what_clauses_let) (k := 9) (x := "_law_script") rfl rfl ⟨rfl, by decide, by decide⟩ (fun w h Y => PySem.W.kIn_of Y) ?F
  case F =>
    intro w mg fa h KX G hmg
    refine' G_k10.all_mk KX G hmg G_k10.law_runs ?a0 ?l0 ?c0 ?k0 ?a1 ?l1 ?c1 ?k1 ?a2 ?l2 ?c2 ?k2 ?a3 ?l3 ?c3 ?k3 ?a4 ?l4 ?c4 ?k4 ?a5 ?l5 ?c5 ?k5 ?a6 ?l6 ?c6 ?k6 ?a7 ?l7 ?c7 ?k7 ?a8 ?l8 ?c8 ?k8 ?a9 ?l9 ?c9 ?k9 ?a10 ?l10 ?c10 ?k10 ?a11 ?l11 ?c11 ?k11 ?a12 ?l12 ?c12 ?k12 ?a13 ?l13 ?c13 ?k13 ?a14 ?l14 ?c14 ?k14 ?a15 ?l15 ?c15 ?k15 ?a16 ?l16 ?c16 ?k16 ?a17 ?l17 ?c17 ?k17 ?a18 ?l18 ?c18 ?k18 ?a19 ?l19 ?c19 ?k19 ?a20 ?l20 ?c20 ?k20 ?a21 ?l21 ?c21 ?k21 ?a22 ?l22 ?c22 ?k22 ?a23 ?l23 ?c23 ?k23 ?a24 ?l24 ?c24 ?k24 ?a25 ?l25 ?c25 ?k25 ?a26 ?l26 ?c26 ?k26 ?z0 ?z1 ?z2 ?z3 ?z4 ?z5 ?z6 ?z7 ?z8 ?z9 ?z10 ?z11 ?z12 ?z13 ?z14
    (case a0 => k_is); (case l0 => k_is); (case c0 => k_is); (case k0 => k_is); (case a1 => k_is); (case l1 => k_is); (case c1 => k_is); (case k1 => k_is); (case a2 => k_is); (case l2 => k_is); (case c2 => k_is); (case k2 => k_is); (case a3 => k_is); (case l3 => k_is); (case c3 => k_is); (case k3 => k_is); (case a4 => k_is); (case l4 => k_is); (case c4 => k_is); (case k4 => k_is); (case a5 => k_is); (case l5 => k_is); (case c5 => k_is); (case k5 => k_is); (case a6 => k_is); (case l6 => k_is); (case c6 => k_is); (case k6 => k_is); (case a7 => k_is); (case l7 => k_is); (case c7 => k_is); (case k7 => k_is); (case a8 => k_is); (case l8 => k_is); (case c8 => k_is); (case k8 => k_is); (case a9 => k_is); (case l9 => k_is); (case c9 => k_is); (case k9 => k_is); (case a10 => k_is); (case l10 => k_is); (case c10 => k_is); (case k10 => k_is); (case a11 => k_is); (case l11 => k_is); (case c11 => k_is); (case k11 => k_is); (case a12 => k_is); (case l12 => k_is); (case c12 => k_is); (case k12 => k_is); (case a13 => k_is); (case l13 => k_is); (case c13 => k_is); (case k13 => k_is); (case a14 => k_is); (case l14 => k_is); (case c14 => k_is); (case k14 => k_is); (case a15 => k_is); (case l15 => k_is); (case c15 => k_is); (case k15 => k_is); (case a16 => k_is); (case l16 => k_is); (case c16 => k_is); (case k16 => k_is); (case a17 => k_is); (case l17 => k_is); (case c17 => k_is); (case k17 => k_is); (case a18 => k_is); (case l18 => k_is); (case c18 => k_is); (case k18 => k_is); (case a19 => k_is); (case l19 => k_is); (case c19 => k_is); (case k19 => k_is); (case a20 => k_is); (case l20 => k_is); (case c20 => k_is); (case k20 => k_is); (case a21 => k_is); (case l21 => k_is); (case c21 => k_is); (case k21 => k_is); (case a22 => k_is); (case l22 => k_is); (case c22 => k_is); (case k22 => k_is); (case a23 => k_is); (case l23 => k_is); (case c23 => k_is); (case k23 => k_is); (case a24 => k_is); (case l24 => k_is); (case c24 => k_is); (case k24 => k_is); (case a25 => k_is); (case l25 => k_is); (case c25 => k_is); (case k25 => k_is); (case a26 => k_is); (case l26 => k_is); (case c26 => k_is); (case k26 => k_is); (case z0 => k_is); (case z1 => k_is); (case z2 => k_is); (case z3 => k_is); (case z4 => k_is); (case z5 => k_is); (case z6 => k_is); (case z7 => k_is); (case z8 => k_is); (case z9 => k_is); (case z10 => k_is); (case z11 => k_is); (case z12 => k_is); (case z13 => k_is); (case z14 => k_is)
#print axioms PySem.Challenge.cw_middleyard_k10_what_clauses_let_holds
