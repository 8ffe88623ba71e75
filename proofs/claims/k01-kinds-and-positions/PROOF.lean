import PyProof.Rows.All
import Wide.All
import OpenK.AllK
import Wide.FinOn
import HandS.ForMost
import HandS.ForExc
import HandS.IsInst
import HandS.Defaults
import HandS.Flow
import HandS.Wide
import HandS.TupLe
import HandS.ExcInit
import HandS.ExcField
import HandS.Lambda
import KE.GoesMore
import KE.KExcSuper
import KE.KExcInit
import HandS.TupAny
import HandS.TupMul
import HandS.Deep
import PyProof.StrBlock2
import HandS.WordsDict
import HandS.TryMany
import HandS.Style
import HandS.Dict
import HandS.MakeKw
import HandS.EndTab
import HandS.Conv
import PySem.Challenge.RW_toldbyplans_k01_kinds_and_positions
set_option Elab.async false
set_option linter.all false
set_option maxRecDepth 100000
set_option maxHeartbeats 4000000
/-! Dz, part A: plain data D over the abstract heap of HandS; a store of objects that may change; what readings mean over them. -/
namespace Dz
open PySem PySem.Spec PyProof.Rows L2
/-- not a table of code objects -/
def nT (o : HO) : Prop := ∀ ps, o ≠ .tbl ps
theorem no_at {H : Hp} {a : Addr} (h : H a = none) : ∀ o, H a = some o → ¬ nT o := fun o e => by rw [h] at e; cases e

/-- plain data; ref: an object by its address; ty: a built-in class; exc: a caught exception, its dict, its fields; scr: the script; clo: a function made by a lambda, what is known of it -/
inductive D where
  | non | bl (b : Bool) | int (i : Int) | str (s : Str) | tup (ds : List D) | lst (ds : List D) | dct (kvs : List (Key × D)) | ref (a : Addr) | ty (n : String) | exc (a dd : Addr) (fs : List (Str × D)) | scr (K : PySem.W.Frag) (a : Addr) (ns : List Int) | clo (f : Addr) (Pd : List Addr → Hp → Prop)

/-- an object that may change: a list, a dict, the law's state of draws (a dict at its address, its two lists; n bounds its spot), a table of code objects of one name -/
inductive MO where
  | lst (ds : List D) | dct (kvs : List (Key × D)) | gen (ac ag : Addr) (n : Nat) | tab (q : Str)
abbrev Sto := List (Addr × MO)
abbrev Rho := List (Option D)
def domO (p : Addr × MO) : List Addr := match p.2 with
  | .gen ac ag _ => [p.1, ac, ag]
  | _ => [p.1]
def dom (m : Sto) : List Addr := m.flatMap domO

/-- a list of the written part -/
def KLs (K : PySem.W.Frag) (a : Addr) (xs : List V) : Prop := ∃ (o : Obj) (its : Array Value) (n : Nat), K.lookup a = some o ∧ o.cls = .type "list" ∧ o.dict = none ∧ o.data = .seq its n ∧ its.size ≤ sizeLine ∧ Vals xs its.toList
/-- what stood stays: outside of M, but for tables -/
abbrev Kp (M : List Addr) (H H' : Hp) : Prop := ∀ a o, H a = some o → nT o → a ∉ M → H' a = some o
abbrev Ntd (M M' : List Addr) (H : Hp) : Prop := ∀ a o, H a = some o → nT o → a ∉ M → a ∉ M'
def Mono (Pd : List Addr → Hp → Prop) : Prop := ∀ M M' H H', Kp M H H' → Ntd M M' H → Pd M H → Pd M' H'
mutual
inductive Rep (M : List Addr) (H : Hp) : V → D → Prop
  | non : Rep M H .non .non
  | bl (b : Bool) : Rep M H (.bl b) (.bl b)
  | int (i : Int) : Rep M H (.int i) (.int i)
  | str (s : Str) : Rep M H (.str s) (.str s)
  | ty (n : String) : Rep M H (.ty n) (.ty n)
  | ref (a : Addr) : Rep M H (.ref a) (.ref a)
  | tup {a : Addr} {xs : List V} {ds : List D} : H a = some (.tup xs) → a ∉ M → Reps M H xs ds → Rep M H (.ref a) (.tup ds)
  | lst {a : Addr} {xs : List V} {ds : List D} : H a = some (.lst xs) → a ∉ M → Reps M H xs ds → Rep M H (.ref a) (.lst ds)
  | dct {a : Addr} {kvs : List (Key × V)} {ds : List (Key × D)} : H a = some (.dK kvs) → a ∉ M → RepKs M H kvs ds → Rep M H (.ref a) (.dct ds)
  | exc {a dd : Addr} {xs : List (Str × V)} {fs : List (Str × D)} : H dd = some (.xd xs) → dd ∉ M → RepXs M H xs fs → Rep M H (.ref a) (.exc a dd fs)
  | scr1 {K : PySem.W.Frag} {a : Addr} {u : HO} {ns : List Int} : H a = some u → (u = .lst (ns.map V.int) ∨ ∃ o, u = .frz o (.lst (ns.map V.int))) → a ∉ M → Rep M H (.ref a) (.scr K a ns)
  | scr2 {K : PySem.W.Frag} {a : Addr} {ns : List Int} : KLs K a (ns.map V.int) → Rep M H (.ref a) (.scr K a ns)
  | clo {f : Addr} {Pd : List Addr → Hp → Prop} : Mono Pd → Pd M H → Rep M H (.ref f) (.clo f Pd)
inductive RepXs (M : List Addr) (H : Hp) : List (Str × V) → List (Str × D) → Prop
  | nil : RepXs M H [] []
  | cons {k : Str} {v : V} {d : D} {vs : List (Str × V)} {ds : List (Str × D)} : Rep M H v d → RepXs M H vs ds → RepXs M H ((k, v) :: vs) ((k, d) :: ds)
inductive Reps (M : List Addr) (H : Hp) : List V → List D → Prop
  | nil : Reps M H [] []
  | cons {v : V} {d : D} {vs : List V} {ds : List D} : Rep M H v d → Reps M H vs ds → Reps M H (v :: vs) (d :: ds)
inductive RepKs (M : List Addr) (H : Hp) : List (Key × V) → List (Key × D) → Prop
  | nil : RepKs M H [] []
  | cons {k : Key} {v : V} {d : D} {vs : List (Key × V)} {ds : List (Key × D)} : Rep M H v d → RepKs M H vs ds → RepKs M H ((k, v) :: vs) ((k, d) :: ds)
end

theorem rd_keep {M : List Addr} {H H' : Hp} {a : Addr} {u : HO} (hk : Kp M H H') (r : Rd H a u) (hu : nT u) (n : a ∉ M) : Rd H' a u := by
  rcases r with r | ⟨o, r⟩
  · exact .inl (hk a _ r hu n)
  · exact .inr ⟨o, hk a _ r (fun _ z => nomatch z) n⟩
theorem rd_some {H : Hp} {a : Addr} {u : HO} (r : Rd H a u) : ∃ o, H a = some o := by
  rcases r with r | ⟨o, r⟩ <;> exact ⟨_, r⟩

mutual
theorem Rep.mono {M M' : List Addr} {H H' : Hp} {v : V} {d : D} (hk : Kp M H H') (hm : Ntd M M' H) : Rep M H v d → Rep M' H' v d
  | .non => .non
  | .bl b => .bl b
  | .int i => .int i
  | .str s => .str s
  | .ty n => .ty n
  | .ref a => .ref a
  | .tup h n r => .tup (hk _ _ h (fun _ z => nomatch z) n) (hm _ _ h (fun _ z => nomatch z) n) (Reps.mono hk hm r)
  | .lst h n r => .lst (hk _ _ h (fun _ z => nomatch z) n) (hm _ _ h (fun _ z => nomatch z) n) (Reps.mono hk hm r)
  | .dct h n r => .dct (hk _ _ h (fun _ z => nomatch z) n) (hm _ _ h (fun _ z => nomatch z) n) (RepKs.mono hk hm r)
  | .exc h n r => .exc (hk _ _ h (fun _ z => nomatch z) n) (hm _ _ h (fun _ z => nomatch z) n) (RepXs.mono hk hm r)
  | .scr1 (u := u) h e n => by
    have t : nT u := fun ps z => by
      subst z
      rcases e with e | ⟨o, e⟩ <;> cases e
    exact .scr1 (hk _ _ h t n) e (hm _ _ h t n)
  | .scr2 h => .scr2 h
  | .clo mo p => .clo mo (mo _ _ _ _ hk hm p)
theorem RepXs.mono {M M' : List Addr} {H H' : Hp} {v : List (Str × V)} {d : List (Str × D)} (hk : Kp M H H') (hm : Ntd M M' H) : RepXs M H v d → RepXs M' H' v d
  | .nil => .nil
  | .cons a b => .cons (Rep.mono hk hm a) (RepXs.mono hk hm b)
theorem Reps.mono {M M' : List Addr} {H H' : Hp} {v : List V} {d : List D} (hk : Kp M H H') (hm : Ntd M M' H) : Reps M H v d → Reps M' H' v d
  | .nil => .nil
  | .cons a b => .cons (Rep.mono hk hm a) (Reps.mono hk hm b)
theorem RepKs.mono {M M' : List Addr} {H H' : Hp} {v : List (Key × V)} {d : List (Key × D)} (hk : Kp M H H') (hm : Ntd M M' H) : RepKs M H v d → RepKs M' H' v d
  | .nil => .nil
  | .cons a b => .cons (Rep.mono hk hm a) (RepKs.mono hk hm b)
end

def MoR (M : List Addr) (H : Hp) (a : Addr) : MO → Prop
  | .lst ds => ∃ xs, H a = some (.lst xs) ∧ Reps M H xs ds
  | .dct ds => ∃ kvs, H a = some (.dK kvs) ∧ RepKs M H kvs ds
  | .gen ac ag n => ∃ (sp : Nat) (cs gs : List Int), H a = some (.dK [(Sum.inr "cells", .ref ac), (Sum.inr "great", .ref ag), (Sum.inr "spot", .int (sp : Int))]) ∧ H ac = some (.lst (cs.map V.int)) ∧ H ag = some (.lst (gs.map V.int)) ∧
      sp ≤ n ∧ cs.length = 64 ∧ (∀ c ∈ cs, 0 ≤ c ∧ c < 2147483647) ∧ gs.length ≤ 63
  | .tab q => ∃ ps : Array Value, H a = some (.tbl ps) ∧ TriplesOk ps.toList ∧ ∀ (pos : Pos) (cv : Value), codeAmong pos ps.toList = some cv → ∃ c, cv = .ref c ∧ H c = some (LamX.CodeO c q) ∧ c ∉ M
structure StoR (m : Sto) (H : Hp) : Prop where
  nd : (dom m).Nodup
  at_ : ∀ p ∈ m, MoR (dom m) H p.1 p.2
/-- what stood stays, but for the objects of the store; what is new in the store was free -/
structure Fr (m m' : Sto) (H H' : Hp) : Prop where
  keep : Kp (dom m) H H'
  grow : ∀ a, a ∈ dom m' → a ∈ dom m ∨ ∀ o, H a = some o → ¬ nT o
theorem Fr.refl (m : Sto) (H : Hp) : Fr m m H H := ⟨fun _ _ h _ _ => h, fun _ h => .inl h⟩
theorem Fr.notin {m m' : Sto} {H H' : Hp} (f : Fr m m' H H') : Ntd (dom m) (dom m') H := fun a o e t n q => by
  rcases f.grow a q with z | z
  · exact n z
  · exact z o e t
theorem Fr.trans {m m1 m2 : Sto} {H H1 H2 : Hp} (a : Fr m m1 H H1) (b : Fr m1 m2 H1 H2) : Fr m m2 H H2 := by
  refine ⟨fun x o h t n => b.keep x o (a.keep x o h t n) t (a.notin x o h t n), fun x h => ?_⟩
  rcases b.grow x h with z | z
  · exact a.grow x z
  · by_cases q : x ∈ dom m
    · exact .inl q
    · exact .inr fun o e t => z o (a.keep x o e t q) t
/-- nothing but new objects -/
theorem Fr.ext {m : Sto} {H H' : Hp} (h : ∀ a o, H a = some o → H' a = some o) : Fr m m H H' := ⟨fun a o e _ _ => h a o e, fun _ e => .inl e⟩
theorem Fr.new {m : Sto} {H : Hp} {p : Addr} {o : HO} (h : H p = none) : Fr m m H (upd H p o) := .ext fun a u e => by rw [upd_ne (ne_of_none e h)]; exact e
section
variable {m m' : Sto} {H H' : Hp}
theorem Fr.rep (f : Fr m m' H H') {v : V} {d : D} (r : Rep (dom m) H v d) : Rep (dom m') H' v d := r.mono f.keep f.notin
theorem Fr.repXs (f : Fr m m' H H') {v : List (Str × V)} {d : List (Str × D)} (r : RepXs (dom m) H v d) : RepXs (dom m') H' v d := r.mono f.keep f.notin
theorem Fr.reps (f : Fr m m' H H') {v : List V} {d : List D} (r : Reps (dom m) H v d) : Reps (dom m') H' v d := r.mono f.keep f.notin
theorem Fr.repKs (f : Fr m m' H H') {v : List (Key × V)} {d : List (Key × D)} (r : RepKs (dom m) H v d) : RepKs (dom m') H' v d := r.mono f.keep f.notin
theorem MoR.ext (h : ∀ a o, H a = some o → H' a = some o) {M : List Addr} {a : Addr} {o : MO} (r : MoR M H a o) : MoR M H' a o := by
  have k : Kp M H H' := fun a o e _ _ => h a o e
  have k2 : Ntd M M H := fun _ _ _ _ n => n
  cases o with
  | lst ds => obtain ⟨xs, e, r⟩ := r; exact ⟨xs, h _ _ e, r.mono k k2⟩
  | dct ds => obtain ⟨xs, e, r⟩ := r; exact ⟨xs, h _ _ e, r.mono k k2⟩
  | gen ac ag n => obtain ⟨sp, cs, gs, e1, e2, e3, r⟩ := r; exact ⟨sp, cs, gs, h _ _ e1, h _ _ e2, h _ _ e3, r⟩
  | tab q =>
    obtain ⟨ps, e, t, r⟩ := r
    exact ⟨ps, h _ _ e, t, fun pos cv q => let ⟨c, e1, e2, n⟩ := r pos cv q; ⟨c, e1, h _ _ e2, n⟩⟩
theorem StoR.ext (h : ∀ a o, H a = some o → H' a = some o) (s : StoR m H) : StoR m H' := ⟨s.nd, fun p hp => (s.at_ p hp).ext h⟩
theorem StoR.new {p : Addr} {o : HO} (s : StoR m H) (h : H p = none) : StoR m (upd H p o) := s.ext fun a u e => by rw [upd_ne (ne_of_none e h)]; exact e
/-- an address of the store is tracked -/
theorem StoR.there (s : StoR m H) {a : Addr} (h : a ∈ dom m) : ∃ o, H a = some o := by
  obtain ⟨p, hp, q⟩ := List.mem_flatMap.mp h
  have r := s.at_ p hp
  obtain ⟨b, o⟩ := p
  cases o with
  | lst ds =>
    obtain ⟨xs, e, _⟩ := r
    have z : a = b := by simpa [domO] using q
    exact ⟨_, by rw [z]; exact e⟩
  | dct ds =>
    obtain ⟨xs, e, _⟩ := r
    have z : a = b := by simpa [domO] using q
    exact ⟨_, by rw [z]; exact e⟩
  | gen ac ag n =>
    obtain ⟨sp, cs, gs, e1, e2, e3, _⟩ := r
    have z : a = b ∨ a = ac ∨ a = ag := by simpa [domO] using q
    rcases z with z | z | z
    · exact ⟨_, by rw [z]; exact e1⟩
    · exact ⟨_, by rw [z]; exact e2⟩
    · exact ⟨_, by rw [z]; exact e3⟩
  | tab q =>
    obtain ⟨ps, e, _⟩ := r
    have z : a = b := by simpa [domO] using q
    exact ⟨_, by rw [z]; exact e⟩
theorem StoR.fresh (s : StoR m H) {a : Addr} (h : H a = none) : a ∉ dom m := fun q => by
  obtain ⟨o, e⟩ := s.there q
  rw [h] at e; cases e
end

/-! ### slots -/
def SlR (M : List Addr) (H : Hp) (s : L2.St) (r : Rho) : Prop := s.length = r.length ∧ ∀ (i : Nat) (d : D), r[i]? = some (some d) → ∃ v, s[i]? = some (some v) ∧ Rep M H v d
structure Rel (m : Sto) (H : Hp) (s : L2.St) (r : Rho) : Prop where
  sl : SlR (dom m) H s r
  st : StoR m H
theorem Fr.rel {m m' : Sto} {H H' : Hp} {s : L2.St} {r : Rho} (f : Fr m m' H H') (R : Rel m H s r) (h : StoR m' H') : Rel m' H' s r :=
  ⟨⟨R.sl.1, fun i d e => let ⟨v, e1, e2⟩ := R.sl.2 i d e; ⟨v, e1, f.rep e2⟩⟩, h⟩
theorem SlR.set {M : List Addr} {H : Hp} {s : L2.St} {r : Rho} {v : V} {d : D} (h : SlR M H s r) (i : Nat) (q : Rep M H v d) : SlR M H (s.set i (some v)) (r.set i (some d)) := by
  refine ⟨by rw [List.length_set, List.length_set]; exact h.1, fun j e hj => ?_⟩
  by_cases z : i = j
  · subst z
    have lt : i < r.length := by
      rcases Nat.lt_or_ge i r.length with c | c
      · exact c
      · rw [List.getElem?_eq_none (by rw [List.length_set]; exact c)] at hj; cases hj
    rw [List.getElem?_set_self lt] at hj
    cases hj
    exact ⟨v, List.getElem?_set_self (by rw [h.1]; exact lt), q⟩
  · rw [List.getElem?_set_ne z] at hj
    obtain ⟨w, e1, e2⟩ := h.2 j e hj
    exact ⟨w, by rw [List.getElem?_set_ne z]; exact e1, e2⟩
/-- forget what a slot holds -/
theorem SlR.drop {M : List Addr} {H : Hp} {s : L2.St} {r : Rho} {o : Option V} (h : SlR M H s r) (i : Nat) : SlR M H (s.set i o) (r.set i none) := by
  refine ⟨by rw [List.length_set, List.length_set]; exact h.1, fun j e hj => ?_⟩
  by_cases z : i = j
  · subst z
    rcases Nat.lt_or_ge i r.length with c | c
    · rw [List.getElem?_set_self c] at hj; cases hj
    · rw [List.getElem?_eq_none (by rw [List.length_set]; exact c)] at hj; cases hj
  · rw [List.getElem?_set_ne z] at hj
    obtain ⟨w, e1, e2⟩ := h.2 j e hj
    exact ⟨w, by rw [List.getElem?_set_ne z]; exact e1, e2⟩

/-! ### what readings mean over plain data -/
abbrev PhiT := D → Sto → Prop
abbrev PsiT := Value → List (Str × D) → Rho → Sto → Prop
abbrev PsiC := Value → List (Str × D) → Sto → Prop
def XdR (M : List Addr) (H : Hp) (d : Option Addr) (fs : List (Str × D)) : Prop := ∃ (dd : Addr) (xs : List (Str × V)), d = some dd ∧ dd ∉ M ∧ H dd = some (.xd xs) ∧ RepXs M H xs fs
def XT (W : WX) (m : Sto) (H : Hp) (Ps : PsiT) : Prop := ∀ (cls : Value) (d : Option Addr) (fs : List (Str × D)) (s' : L2.St) (H' : Hp) (r' : Rho) (m' : Sto), Ps cls fs r' m' → Fr m m' H H' → XdR (dom m') H' d fs → Rel m' H' s' r' → W cls d s' H'
def XC (E : XK) (m : Sto) (H : Hp) (Ps : PsiC) : Prop := ∀ (cls : Value) (d : Option Addr) (fs : List (Str × D)) (H' : Hp) (m' : Sto), Ps cls fs m' → Fr m m' H H' → XdR (dom m') H' d fs → StoR m' H' → E cls d H'
def KT (Ph : PhiT) (m : Sto) (H : Hp) (Q : VK) : Prop := ∀ (v : V) (H' : Hp) (d : D) (m' : Sto), Ph d m' → Fr m m' H H' → Rep (dom m') H' v d → StoR m' H' → Q v H'
def KB (Ph : Bool → Sto → Prop) (m : Sto) (H : Hp) (Q : Bool → Hp → Prop) : Prop := ∀ (b : Bool) (H' : Hp) (m' : Sto), Ph b m' → Fr m m' H H' → StoR m' H' → Q b H'
def KA (Ph : List D → Sto → Prop) (m : Sto) (H : Hp) (Q : List V → Hp → Prop) : Prop := ∀ (v : List V) (H' : Hp) (d : List D) (m' : Sto), Ph d m' → Fr m m' H H' → Reps (dom m') H' v d → StoR m' H' → Q v H'
def KN (Ph : Rho → Sto → Prop) (m : Sto) (H : Hp) (Q : L2.St → Hp → Prop) : Prop := ∀ (s' : L2.St) (H' : Hp) (r' : Rho) (m' : Sto), Ph r' m' → Fr m m' H H' → Rel m' H' s' r' → Q s' H'
structure EndsD where
  nx : Rho → Sto → Prop
  rt : PhiT
  bk : Rho → Sto → Prop := fun _ _ => False
  ct : Rho → Sto → Prop := fun _ _ => False
structure KS (E : EndsD) (m : Sto) (H : Hp) (D : Ends) : Prop where
  nx : KN E.nx m H D.nx
  rt : KT E.rt m H D.rt
  bk : KN E.bk m H D.bk
  ct : KN E.ct m H D.ct
section
variable {W : WX} {m m1 : Sto} {H H1 : Hp} {Ps : PsiT}
theorem XT.go (x : XT W m H Ps) (f : Fr m m1 H H1) : XT W m1 H1 Ps := fun cls d fs s' H' r' m' p g r t => x cls d fs s' H' r' m' p (f.trans g) r t
theorem XT.of {E : XK} {Pc : PsiC} (x : XC E m H Pc) : XT (fun cls d _ H' => E cls d H') m H (fun cls fs _ m' => Pc cls fs m') := fun cls d fs _ H' _ m' p g r t => x cls d fs H' m' p g r t.st
theorem KT.go {Ph : PhiT} {Q : VK} (x : KT Ph m H Q) (f : Fr m m1 H H1) : KT Ph m1 H1 Q := fun v H' d m' p g r t => x v H' d m' p (f.trans g) r t
theorem KB.go {Ph : Bool → Sto → Prop} {Q : Bool → Hp → Prop} (x : KB Ph m H Q) (f : Fr m m1 H H1) : KB Ph m1 H1 Q := fun v H' m' p g t => x v H' m' p (f.trans g) t
theorem KA.go {Ph : List D → Sto → Prop} {Q : List V → Hp → Prop} (x : KA Ph m H Q) (f : Fr m m1 H H1) : KA Ph m1 H1 Q := fun v H' d m' p g r t => x v H' d m' p (f.trans g) r t
theorem KN.go {Ph : Rho → Sto → Prop} {Q : L2.St → Hp → Prop} (x : KN Ph m H Q) (f : Fr m m1 H H1) : KN Ph m1 H1 Q := fun s' H' r' m' p g r => x s' H' r' m' p (f.trans g) r
theorem KS.go {E : EndsD} {D : Ends} (x : KS E m H D) (f : Fr m m1 H H1) : KS E m1 H1 D := ⟨x.nx.go f, x.rt.go f, x.bk.go f, x.ct.go f⟩
theorem XT.none : XT W m H (fun _ _ _ _ => False) := fun _ _ _ _ _ _ _ p => p.elim
end
section
variable (W : WX) (Ps : PsiT)
def WT (t : TE) (r : Rho) (m : Sto) (Ph : PhiT) : Prop := ∀ (s : L2.St) (H : Hp) (Q : VK), Rel m H s r → XT W m H Ps → KT Ph m H Q → t s H Q
def WB (t : TT) (r : Rho) (m : Sto) (Ph : Bool → Sto → Prop) : Prop := ∀ (s : L2.St) (H : Hp) (Q : Bool → Hp → Prop), Rel m H s r → XT W m H Ps → KB Ph m H Q → t s H Q
def WA (t : TA) (r : Rho) (m : Sto) (Ph : List D → Sto → Prop) : Prop := ∀ (s : L2.St) (H : Hp) (Q : List V → Hp → Prop), Rel m H s r → XT W m H Ps → KA Ph m H Q → t s H Q
def WG (t : TG) (d : D) (r : Rho) (m : Sto) (Ph : Rho → Sto → Prop) : Prop := ∀ (v : V) (s : L2.St) (H : Hp) (Q : L2.St → Hp → Prop), Rel m H s r → XT W m H Ps → Rep (dom m) H v d → KN Ph m H Q → t v s H Q
def WGs (t : TGs) (d : List D) (r : Rho) (m : Sto) (Ph : Rho → Sto → Prop) : Prop := ∀ (v : List V) (s : L2.St) (H : Hp) (Q : L2.St → Hp → Prop), Rel m H s r → XT W m H Ps → Reps (dom m) H v d → KN Ph m H Q → t v s H Q
def WS (t : TS) (E : EndsD) (r : Rho) (m : Sto) : Prop := ∀ (s : L2.St) (H : Hp) (D : Ends), Rel m H s r → XT W m H Ps → KS E m H D → t D s H
end

/-! ### a def's promise over plain data -/
abbrev SpD := List D → Sto → PhiT → PsiC → Prop
def lift (sp : SpD) : Sp := fun vs H Q E => ∃ (ds : List D) (m : Sto) (Ph : PhiT) (Ps : PsiC), Reps (dom m) H vs ds ∧ StoR m H ∧ sp ds m Ph Ps ∧ KT Ph m H Q ∧ XC E m H Ps

/-! ### rules: names, constants, operators -/
section
variable {W : WX} {Ps : PsiT} {r : Rho} {m : Sto} {Ph : PhiT} {ta tb tc : TE} {d x y : D}
theorem wt_var {i : Nat} (h : r[i]? = some (some d)) (k : Ph d m) : WT W Ps (tVar i) r m Ph := fun s H Q R _ K => by
  obtain ⟨v, e, q⟩ := R.sl.2 i d h
  exact ⟨v, e, K v H d m k (Fr.refl m H) q R.st⟩
theorem wt_int {i : Int} (k : Ph (.int i) m) : WT W Ps (tC (.int i)) r m Ph := fun s H Q R _ K => K _ H _ m k (Fr.refl m H) (.int i) R.st
theorem wt_str {i : Str} (k : Ph (.str i) m) : WT W Ps (tC (.str i)) r m Ph := fun s H Q R _ K => K _ H _ m k (Fr.refl m H) (.str i) R.st
theorem wt_bl {i : Bool} (k : Ph (.bl i) m) : WT W Ps (tC (.bl i)) r m Ph := fun s H Q R _ K => K _ H _ m k (Fr.refl m H) (.bl i) R.st
theorem wt_non (k : Ph .non m) : WT W Ps (tC .non) r m Ph := fun s H Q R _ K => K _ H _ m k (Fr.refl m H) .non R.st
theorem wt_ty {n : String} (k : Ph (.ty n) m) : WT W Ps (tC (.ty n)) r m Ph := fun s H Q R _ K => K _ H _ m k (Fr.refl m H) (.ty n) R.st
theorem wt_ref {a : Addr} (k : Ph (.ref a) m) : WT W Ps (tC (.ref a)) r m Ph := fun s H Q R _ K => K _ H _ m k (Fr.refl m H) (.ref a) R.st

def OpD (o : R2) (x y : D) (m : Sto) (Ph : PhiT) : Prop := ∀ (vx vy : V) (H : Hp) (Q : VK), Rep (dom m) H vx x → Rep (dom m) H vy y → StoR m H → KT Ph m H Q → o vx vy H Q
def UnD (o : V → Hp → VK → Prop) (x : D) (m : Sto) (Ph : PhiT) : Prop := ∀ (vx : V) (H : Hp) (Q : VK), Rep (dom m) H vx x → StoR m H → KT Ph m H Q → o vx H Q
def CaD (o : List V → Hp → VK → Prop) (xs : List D) (m : Sto) (Ph : PhiT) : Prop := ∀ (vs : List V) (H : Hp) (Q : VK), Reps (dom m) H vs xs → StoR m H → KT Ph m H Q → o vs H Q
theorem wt_op {o : R2} (h : WT W Ps ta r m fun x m1 => WT W Ps tb r m1 fun y m2 => OpD o x y m2 Ph) : WT W Ps (tOp o ta tb) r m Ph := fun s H Q R X K =>
  h s H _ R X fun v H1 x m1 h1 f1 r1 s1 => h1 s H1 _ (f1.rel R s1) (X.go f1) fun w H2 y m2 h2 f2 r2 s2 => h2 v w H2 Q (f2.rep r1) r2 s2 (K.go (f1.trans f2))
theorem wt_un {o : V → Hp → VK → Prop} (h : WT W Ps ta r m fun x m1 => UnD o x m1 Ph) : WT W Ps (tUn o ta) r m Ph := fun s H Q R X K =>
  h s H _ R X fun v H1 x m1 h1 f1 r1 s1 => h1 v H1 Q r1 s1 (K.go f1)
theorem wt_and (h : WT W Ps ta r m fun x m1 => ∃ c, x = .bl c ∧ (c = true → WT W Ps tb r m1 Ph) ∧ (c = false → Ph (.bl false) m1)) : WT W Ps (tAndV ta tb) r m Ph := fun s H Q R X K =>
  h s H _ R X fun v H1 x m1 h1 f1 r1 s1 => by
    obtain ⟨c, e, h2, h3⟩ := h1
    subst e
    cases r1
    refine ⟨c, rfl, ?_⟩
    cases c with
    | true => exact iteT (h2 rfl s H1 Q (f1.rel R s1) (X.go f1) (K.go f1))
    | false => exact iteF (K _ H1 _ m1 (h3 rfl) f1 (.bl false) s1)
theorem wt_or (h : WT W Ps ta r m fun x m1 => ∃ c, x = .bl c ∧ (c = false → WT W Ps tb r m1 Ph) ∧ (c = true → Ph (.bl true) m1)) : WT W Ps (tOrV ta tb) r m Ph := fun s H Q R X K =>
  h s H _ R X fun v H1 x m1 h1 f1 r1 s1 => by
    obtain ⟨c, e, h2, h3⟩ := h1
    subst e
    cases r1
    refine ⟨c, rfl, ?_⟩
    cases c with
    | false => exact iteF (h2 rfl s H1 Q (f1.rel R s1) (X.go f1) (K.go f1))
    | true => exact iteT (K _ H1 _ m1 (h3 rfl) f1 (.bl true) s1)
theorem wt_not (h : WT W Ps ta r m fun x m1 => ∃ c, x = .bl c ∧ Ph (.bl (!c)) m1) : WT W Ps (tNotV ta) r m Ph := fun s H Q R X K =>
  h s H _ R X fun v H1 x m1 h1 f1 r1 s1 => by
    obtain ⟨c, e, h2⟩ := h1
    subst e
    cases r1
    exact ⟨c, rfl, K _ H1 _ m1 h2 f1 (.bl _) s1⟩
theorem wt_if {t : TT} (h : WB W Ps t r m fun c m1 => (c = true → WT W Ps ta r m1 Ph) ∧ (c = false → WT W Ps tb r m1 Ph)) : WT W Ps (tIf t ta tb) r m Ph := fun s H Q R X K =>
  h s H _ R X fun c H1 m1 h1 f1 s1 => by
    cases c with
    | true => exact iteT (h1.1 rfl s H1 Q (f1.rel R s1) (X.go f1) (K.go f1))
    | false => exact iteF (h1.2 rfl s H1 Q (f1.rel R s1) (X.go f1) (K.go f1))
end

/-! ### tests -/
section
variable {W : WX} {Ps : PsiT} {r : Rho} {m : Sto} {Ph : Bool → Sto → Prop} {te : TE} {t u : TT}
theorem wb_test (h : WT W Ps te r m fun x m1 => ∃ c, x = .bl c ∧ Ph c m1) : WB W Ps (tTest te) r m Ph := fun s H Q R X K =>
  h s H _ R X fun v H1 x m1 h1 f1 r1 s1 => by
    obtain ⟨c, e, h2⟩ := h1
    subst e
    cases r1
    exact ⟨c, rfl, K c H1 m1 h2 f1 s1⟩
theorem wb_B (h : WT W Ps te r m fun x m1 => ∃ c, x = .bl c ∧ Ph c m1) : WB W Ps (tB te) r m Ph := fun s H Q R X K =>
  h s H _ R X fun v H1 x m1 h1 f1 r1 s1 => by
    obtain ⟨c, e, h2⟩ := h1
    subst e
    cases r1
    exact ⟨c, rfl, K c H1 m1 h2 f1 s1⟩
theorem wb_and (h : WB W Ps t r m fun c m1 => (c = true → WB W Ps u r m1 Ph) ∧ (c = false → Ph false m1)) : WB W Ps (tAnd t u) r m Ph := fun s H Q R X K =>
  h s H _ R X fun c H1 m1 h1 f1 s1 => by
    cases c with
    | true => exact iteT (h1.1 rfl s H1 Q (f1.rel R s1) (X.go f1) (K.go f1))
    | false => exact iteF (K false H1 m1 (h1.2 rfl) f1 s1)
theorem wb_or (h : WB W Ps t r m fun c m1 => (c = false → WB W Ps u r m1 Ph) ∧ (c = true → Ph true m1)) : WB W Ps (tOr t u) r m Ph := fun s H Q R X K =>
  h s H _ R X fun c H1 m1 h1 f1 s1 => by
    cases c with
    | false => exact iteF (h1.1 rfl s H1 Q (f1.rel R s1) (X.go f1) (K.go f1))
    | true => exact iteT (K true H1 m1 (h1.2 rfl) f1 s1)
theorem wb_not (h : WB W Ps t r m fun c m1 => Ph (!c) m1) : WB W Ps (tNot t) r m Ph := fun s H Q R X K =>
  h s H _ R X fun c H1 m1 h1 f1 s1 => K (!c) H1 m1 h1 f1 s1
end

/-! ### arguments, tuples, lists -/
section
variable {W : WX} {Ps : PsiT} {r : Rho} {m : Sto} {te : TE} {ta : TA}
theorem wa_nil {Ph : List D → Sto → Prop} (k : Ph [] m) : WA W Ps tNil r m Ph := fun s H Q R X K => K [] H [] m k (Fr.refl m H) .nil R.st
theorem wa_cons {Ph : List D → Sto → Prop} (h : WT W Ps te r m fun x m1 => WA W Ps ta r m1 fun xs m2 => Ph (x :: xs) m2) : WA W Ps (tCons te ta) r m Ph := fun s H Q R X K =>
  h s H _ R X fun v H1 x m1 h1 f1 r1 s1 => h1 s H1 _ (f1.rel R s1) (X.go f1) fun vs H2 xs m2 h2 f2 r2 s2 => K (v :: vs) H2 (x :: xs) m2 h2 (f1.trans f2) (.cons (f2.rep r1) r2) s2
theorem wt_cb {o : List V → Hp → VK → Prop} {Ph : PhiT} (h : WA W Ps ta r m fun xs m1 => CaD o xs m1 Ph) : WT W Ps (tCB o ta) r m Ph := fun s H Q R X K =>
  h s H _ R X fun v H1 x m1 h1 f1 r1 s1 => h1 v H1 Q r1 s1 (K.go f1)
theorem Reps.len {M : List Addr} {H : Hp} : ∀ {vs : List V} {ds : List D}, Reps M H vs ds → vs.length = ds.length
  | _, _, .nil => rfl
  | _, _, .cons _ t => congrArg Nat.succ t.len
theorem new_tup {m : Sto} {H : Hp} {Q : VK} {Ph : PhiT} {vs : List V} {ds : List D} (R : Reps (dom m) H vs ds) (st : StoR m H) (K : KT Ph m H Q) (k : Ph (.tup ds) m) : ∀ p, H p = none → Q (.ref p) (upd H p (.tup vs)) := fun p hp =>
  K (.ref p) _ (.tup ds) m k (Fr.new hp) (.tup upd_same (st.fresh hp) ((Fr.new hp).reps R)) (st.new hp)
theorem new_lst {m : Sto} {H : Hp} {Q : VK} {Ph : PhiT} {vs : List V} {ds : List D} (R : Reps (dom m) H vs ds) (st : StoR m H) (K : KT Ph m H Q) (k : Ph (.lst ds) m) : ∀ p, H p = none → Q (.ref p) (upd H p (.lst vs)) := fun p hp =>
  K (.ref p) _ (.lst ds) m k (Fr.new hp) (.lst upd_same (st.fresh hp) ((Fr.new hp).reps R)) (st.new hp)
theorem dom_cons (a : Addr) (ds : List D) (m : Sto) : dom ((a, .lst ds) :: m) = a :: dom m := rfl
/-- a new list that may change -/
theorem new_own {m : Sto} {H : Hp} {Q : VK} {Ph : PhiT} {vs : List V} {ds : List D} (R : Reps (dom m) H vs ds) (st : StoR m H) (K : KT Ph m H Q) (k : ∀ a, a ∉ dom m → Ph (.ref a) ((a, .lst ds) :: m)) : ∀ p, H p = none → Q (.ref p) (upd H p (.lst vs)) := fun p hp => by
  have f : Fr m ((p, .lst ds) :: m) H (upd H p (.lst vs)) := ⟨(Fr.new (m := m) hp).keep, fun a ha => by
    rw [dom_cons] at ha
    rcases List.mem_cons.mp ha with e | e
    · exact .inr (no_at (by rw [e]; exact hp))
    · exact .inl e⟩
  have s2 := st.new (o := .lst vs) hp
  refine K (.ref p) _ (.ref p) _ (k p (st.fresh hp)) f (.ref p) ⟨by rw [dom_cons]; exact List.nodup_cons.mpr ⟨st.fresh hp, st.nd⟩, fun q hq => ?_⟩
  rcases List.mem_cons.mp hq with e | e
  · subst e
    exact ⟨vs, upd_same, f.reps R⟩
  · have z := st.at_ q e
    obtain ⟨b, o⟩ := q
    have up : ∀ a o, H a = some o → upd H p (.lst vs) a = some o := fun a u e => by rw [upd_ne (ne_of_none e hp)]; exact e
    cases o with
    | lst es => obtain ⟨xs, e1, r1⟩ := z; exact ⟨xs, up _ _ e1, f.reps r1⟩
    | dct es => obtain ⟨xs, e1, r1⟩ := z; exact ⟨xs, up _ _ e1, f.repKs r1⟩
    | gen ac ag n => obtain ⟨sp, cs, gs, e1, e2, e3, r1⟩ := z; exact ⟨sp, cs, gs, up _ _ e1, up _ _ e2, up _ _ e3, r1⟩
    | tab q =>
      obtain ⟨ps, e1, t, r1⟩ := z
      exact ⟨ps, up _ _ e1, t, fun pos cv q => let ⟨c, q1, q2, n⟩ := r1 pos cv q; ⟨c, q1, up _ _ q2, f.notin _ _ q2 (LamX.codeO_ne ·) n⟩⟩
theorem wt_tup {Ph : PhiT} (h : WA W Ps ta r m fun xs m1 => xs.length ≤ sizeLine ∧ Ph (.tup xs) m1) : WT W Ps (tTup ta) r m Ph := fun s H Q R X K =>
  h s H _ R X fun v H1 x m1 h1 f1 r1 s1 => ⟨by rw [r1.len]; exact h1.1, new_tup r1 s1 (K.go f1) h1.2⟩
theorem wt_lst {Ph : PhiT} (h : WA W Ps ta r m fun xs m1 => xs.length ≤ sizeLine ∧ Ph (.lst xs) m1) : WT W Ps (tLst ta) r m Ph := fun s H Q R X K =>
  h s H _ R X fun v H1 x m1 h1 f1 r1 s1 => ⟨by rw [r1.len]; exact h1.1, new_lst r1 s1 (K.go f1) h1.2⟩
/-- a display that will be changed -/
theorem wt_own {Ph : PhiT} (h : WA W Ps ta r m fun xs m1 => xs.length ≤ sizeLine ∧ ∀ a, a ∉ dom m1 → Ph (.ref a) ((a, .lst xs) :: m1)) : WT W Ps (tLst ta) r m Ph := fun s H Q R X K =>
  h s H _ R X fun v H1 x m1 h1 f1 r1 s1 => ⟨by rw [r1.len]; exact h1.1, new_own r1 s1 (K.go f1) h1.2⟩
end

/-! ### statements -/
section
variable {W : WX} {Ps : PsiT} {r : Rho} {m : Sto} {te : TE} {t u : TS} {E : EndsD}
theorem ws_next (k : E.nx r m) : WS W Ps tNext E r m := fun s H D R X K => K.nx s H r m k (Fr.refl m H) R
theorem ws_seq (h : WS W Ps t { E with nx := fun r1 m1 => WS W Ps u E r1 m1 } r m) : WS W Ps (tSeq t u) E r m := fun s H D R X K =>
  h s H { D with nx := u D } R X ⟨fun s' H' r' m' h1 f1 R1 => h1 s' H' D R1 (X.go f1) (K.go f1), K.rt, K.bk, K.ct⟩
theorem ws_break (k : E.bk r m) : WS W Ps tBreak E r m := fun s H D R X K => K.bk s H r m k (Fr.refl m H) R
theorem ws_cont (k : E.ct r m) : WS W Ps tCont E r m := fun s H D R X K => K.ct s H r m k (Fr.refl m H) R
theorem ws_drop (h : WT W Ps te r m fun _ m1 => E.nx r m1) : WS W Ps (tDrop te) E r m := fun s H D R X K =>
  h s H _ R X fun v H1 x m1 h1 f1 r1 s1 => K.nx s H1 r m1 h1 f1 (f1.rel R s1)
theorem ws_ret (h : WT W Ps te r m E.rt) : WS W Ps (tRet te) E r m := fun s H D R X K => h s H _ R X K.rt
theorem ws_retN (k : E.rt .non m) : WS W Ps tRetN E r m := fun s H D R X K => K.rt .non H .non m k (Fr.refl m H) .non R.st
theorem ws_if {c : TT} (h : WB W Ps c r m fun b m1 => (b = true → WS W Ps t E r m1) ∧ (b = false → WS W Ps u E r m1)) : WS W Ps (tIfS c t u) E r m := fun s H D R X K =>
  h s H _ R X fun b H1 m1 h1 f1 s1 => by
    cases b with
    | true => exact iteT (h1.1 rfl s H1 D (f1.rel R s1) (X.go f1) (K.go f1))
    | false => exact iteF (h1.2 rfl s H1 D (f1.rel R s1) (X.go f1) (K.go f1))
theorem ws_asg {g : TG} (h : WT W Ps te r m fun x m1 => WG W Ps g x r m1 E.nx) : WS W Ps (tAsg te g) E r m := fun s H D R X K =>
  h s H _ R X fun v H1 x m1 h1 f1 r1 s1 => h1 v s H1 _ (f1.rel R s1) (X.go f1) r1 (K.nx.go f1)
theorem wg_name {i : Nat} {d : D} {Ph : Rho → Sto → Prop} (k : Ph (r.set i (some d)) m) : WG W Ps (gName i) d r m Ph := fun v s H Q R X q K =>
  K _ H _ m k (Fr.refl m H) ⟨R.sl.set i q, R.st⟩
theorem wgs_nil {Ph : Rho → Sto → Prop} (k : Ph r m) : WGs W Ps gNil [] r m Ph := fun v s H Q R X q K => by
  cases q
  exact ⟨rfl, K _ H _ m k (Fr.refl m H) R⟩
theorem wgs_cons {g : TG} {gs : TGs} {d : D} {ds : List D} {Ph : Rho → Sto → Prop} (h : WG W Ps g d r m fun r1 m1 => WGs W Ps gs ds r1 m1 Ph) : WGs W Ps (gCons g gs) (d :: ds) r m Ph := fun v s H Q R X q K => by
  cases q with
  | cons a b => exact ⟨_, _, rfl, h _ s H _ R X a fun s1 H1 r1 m1 h1 f1 R1 => h1 _ s1 H1 _ R1 (X.go f1) (f1.reps b) (K.go f1)⟩
theorem wg_tup {K : PySem.W.Frag} {n : Nat} {gs : TGs} {ds : List D} {Ph : Rho → Sto → Prop} (e : ds.length = n) (h : WGs W Ps gs ds r m Ph) : WG W Ps (gTup K n gs) (.tup ds) r m Ph := fun v s H Q R X q k => by
  cases q with
  | tup h1 h2 h3 => exact ⟨_, _, rfl, .inl (.inl h1), h3.len.trans e, h _ s H Q R X h3 k⟩
end
end Dz
/-! Dz, part B: rules of the judgement PE that the layer lacks: calls with defaults and with keywords that may raise at the slots, chains of three, enumerate of a tuple, operators by all kinds of values. -/
namespace Dz
open PySem PySem.Spec PyProof.Rows L2

/-! ### calls -/
def tCallG (sp : Sp) (dvs : List V) (E : L2.St → XK) (t : TA) : TE := fun s H Q => t s H fun vs H1 => sp (vs ++ dvs) H1 Q (E s)
def tCallGK (sp : Sp) (gV : List V → List V → List V) (E : L2.St → XK) (t tk : TA) : TE := fun s H Q => t s H fun vs H1 => tk s H1 fun zs H2 => sp (gV vs zs) H2 Q (E s)
section
variable {X : Cx} {CX : CXT} {k : Nat} {f C : Addr} {fd : FuncData} {ps ks : List Str} {sp : Sp} {E : L2.St → XK} {x m : Str} {p pos apos : Pos} {e o : Expr} {es : List Expr} {kws : List Keyword} {ta : TE} {t tk : TA} {ds : List Value} {dvs : List V}
variable {g : List Value → List Value → List Value} {gV : List V → List V → List V}
theorem run_fnG {pins : List (Addr × Obj)} {s0 : L2.St} {H : Hp} {s : Shared} {Q : VK} {us : List Value} {vs : List V} (F : FnOk X.prog X.w X.K X.mg X.base CX k f fd ps sp) (hr : Room k X.A) (hb : Binds X.K fd ps ds) (hd : Vals dvs ds) (hx : PassesAt CX X s0 (E s0))
    (I : Inv X pins s0 H s) (r : Vals vs us) (h : sp (vs ++ dvs) H Q (E s0)) : wpAny (model X.prog X.w) X.A (call (.ref f) us) (EP X pins s0 Q) X.xe s := by
  have r2 : Vals (vs ++ dvs) (us ++ ds) := r.append hd
  have hl : (us ++ ds).length = ps.length := by rw [← r2.length]; exact F.len _ _ _ _ h
  refine wpAny_call (codeAny_mono (F.run X.A X.stack s H ⟨us, []⟩ (us ++ ds) (vs ++ dvs) Q (E s0) hr I.env0 (hb s us I.kIn hl) r2 h) fun r s' hq => ?_)
  cases r with
  | error e => exact hx pins H s e s' I hq
  | ok fl =>
    cases fl with
    | ret u => exact I.after hq
    | next => exact False.elim hq
    | brk => exact False.elim hq
    | cont => exact False.elim hq
theorem pe_callG (F : FnOk X.prog X.w X.K X.mg X.base CX k f fd ps sp) (hr : Room k X.A) (hg : Gl X x) (hm : X.mg x = some (.ref f)) (hk : PySem.W.keepIn X.K (.ref f) = true) (hb : Binds X.K fd ps ds) (hd : Vals dvs ds) (hx : ∀ s, PassesAt CX X s (E s))
    (ha : PA X (e :: es) t) (hdb : (x == ("__debug__" : Str)) = false := by decide) (he : starEach (e :: es) X.env = (false, eval e X.env) :: starEach es X.env := by rfl) (hpl : (backTo pos (starEach es X.env)).any (·.1) = false := by rfl) :
    PE X (.Call (.Name x p) (e :: es) [] pos) (tCallG sp dvs E t) := by
  refine ⟨fun pins s s0 H Q I h => ?_⟩
  refine wpAny_Call_Name_kw (ld_glob I hg hm ?_ hdb)
  refine PySem.W.callWith_K (h₀ := X.base) I.ok.mod.kin hk (thn (ha.run pos pins s s0 H _ I h) fun us s1 ⟨vs, H1, I1, r, q⟩ => ⟨I1.kIn, ?_⟩) he hpl
  exact run_fnG F hr hb hd (hx s0) I1 r q
theorem pe_callG0 (F : FnOk X.prog X.w X.K X.mg X.base CX k f fd ps sp) (hr : Room k X.A) (hg : Gl X x) (hm : X.mg x = some (.ref f)) (hk : PySem.W.keepIn X.K (.ref f) = true) (hb : Binds X.K fd ps ds) (hd : Vals dvs ds) (hx : ∀ s, PassesAt CX X s (E s))
    (hdb : (x == ("__debug__" : Str)) = false := by decide) : PE X (.Call (.Name x p) [] [] pos) (tCallG sp dvs E tNil) := by
  refine ⟨fun pins s s0 H Q I h => ?_⟩
  refine wpAny_Call_Name_kw (ld_glob I hg hm ?_ hdb)
  exact PySem.W.callWith_K0 I.kIn hk (run_fnG (us := []) F hr hb hd (hx s0) I .nil h)
theorem run_fnGK {pins : List (Addr × Obj)} {s0 : L2.St} {H : Hp} {s : Shared} {Q : VK} {us ws : List Value} {vs zs : List V} (F : FnOk X.prog X.w X.K X.mg X.base CX k f fd ps sp) (hr : Room k X.A) (hb : KBinds X.K fd ps ks g gV) (hx : PassesAt CX X s0 (E s0))
    (I : Inv X pins s0 H s) (r : Vals vs us) (rz : Vals zs ws) (h : sp (gV vs zs) H Q (E s0)) : wpAny (model X.prog X.w) X.A (call (.ref f) us (ks.zip ws)) (EP X pins s0 Q) X.xe s := by
  have r2 := hb.rel r rz
  have hl : (g us ws).length = ps.length := by rw [← r2.length]; exact F.len _ _ _ _ h
  refine wpAny_call (codeAny_mono (F.run X.A X.stack s H ⟨us, ks.zip ws⟩ (g us ws) (gV vs zs) Q (E s0) hr I.env0 (hb.to s us ws I.kIn hl) r2 h) fun r s' hq => ?_)
  cases r with
  | error e => exact hx pins H s e s' I hq
  | ok fl =>
    cases fl with
    | ret u => exact I.after hq
    | next => exact False.elim hq
    | brk => exact False.elim hq
    | cont => exact False.elim hq
/-- f(k = v, ..) -/
theorem pe_callGK0 (F : FnOk X.prog X.w X.K X.mg X.base CX k f fd ps sp) (hr : Room k X.A) (hg : Gl X x) (hm : X.mg x = some (.ref f)) (hk : PySem.W.keepIn X.K (.ref f) = true) (hb : KBinds X.K fd ps ks g gV) (hx : ∀ s, PassesAt CX X s (E s))
    (hkw : PK X kws tk) (hall : (backToKw pos (keywordEach kws X.env)).all (·.1.isSome) = true := by rfl) (hks : (backToKw pos (keywordEach kws X.env)).filterMap (·.1) = ks := by rfl)
    (hdb : (x == ("__debug__" : Str)) = false := by decide) (hpl : ((backTo pos (starEach [] X.env)).any (·.1) || (backToKw pos (keywordEach kws X.env)).any (·.1.isNone)) = false := by rfl) :
    PE X (.Call (.Name x p) [] kws pos) (tCallGK sp gV E tNil tk) := by
  refine ⟨fun pins s s0 H Q I h => ?_⟩
  refine wpAny_Call_Name_kw (ld_glob I hg hm ?_ hdb)
  refine PySem.W.callWith_KW0 (h₀ := X.base) I.ok.mod.kin hk hall ?_ hpl
  refine thn (hkw.run pos pins s s0 H _ I h) fun ws s2 ⟨zs, H2, I2, rz, q2⟩ => ⟨I2.kIn, ?_⟩
  rw [hks]
  exact run_fnGK (us := []) (vs := []) F hr hb (hx s0) I2 .nil rz q2
/-- f(e, .., k = v, ..) -/
theorem pe_callGK (F : FnOk X.prog X.w X.K X.mg X.base CX k f fd ps sp) (hr : Room k X.A) (hg : Gl X x) (hm : X.mg x = some (.ref f)) (hk : PySem.W.keepIn X.K (.ref f) = true) (hb : KBinds X.K fd ps ks g gV) (hx : ∀ s, PassesAt CX X s (E s))
    (ha : PA X (e :: es) t) (hkw : PK X kws tk) (hall : (backToKw pos (keywordEach kws X.env)).all (·.1.isSome) = true := by rfl) (hks : (backToKw pos (keywordEach kws X.env)).filterMap (·.1) = ks := by rfl)
    (hdb : (x == ("__debug__" : Str)) = false := by decide) (he : starEach (e :: es) X.env = (false, eval e X.env) :: starEach es X.env := by rfl)
    (hpl : ((backTo pos (starEach (e :: es) X.env)).any (·.1) || (backToKw pos (keywordEach kws X.env)).any (·.1.isNone)) = false := by rfl) :
    PE X (.Call (.Name x p) (e :: es) kws pos) (tCallGK sp gV E t tk) := by
  refine ⟨fun pins s s0 H Q I h => ?_⟩
  refine wpAny_Call_Name_kw (ld_glob I hg hm ?_ hdb)
  refine PySem.W.callWith_KW (h₀ := X.base) I.ok.mod.kin hk hall (thn (ha.run pos pins s s0 H _ I h) fun us s1 ⟨vs, H1, I1, r, q⟩ => ?_) hpl he
  refine thn (hkw.run pos pins s1 s0 H1 _ I1 q) fun ws s2 ⟨zs, H2, I2, rz, q2⟩ => ⟨I2.kIn, ?_⟩
  rw [hks]
  exact run_fnGK F hr hb (hx s0) I2 r rz q2
end

/-! ### a op1 b op2 c op3 d -/
def tChain3 (o1 o2 o3 : R2) (ta tb tc td : TE) : TE := fun s H Q => ta s H fun x H1 => tb s H1 fun y H2 => o1 x y H2 fun z H3 => ∃ k, z = .bl k ∧
  (if k = true then tc s H3 fun u H4 => o2 y u H4 fun z H5 => ∃ k, z = .bl k ∧ (if k = true then td s H5 fun v H6 => o3 u v H6 Q else Q (.bl false) H5) else Q (.bl false) H3)
section
variable {X : Cx} {a b c d : Expr} {ta tb tc td : TE} {pos : Pos}
theorem pe_chain3 {p1 p2 p3 : CmpOp} {o1 o2 o3 : R2} (h1 : OpR X (compareOp p1) o1) (h2 : OpR X (compareOp p2) o2) (h3 : OpR X (compareOp p3) o3) (ha : PE X a ta) (hb : PE X b tb) (hc : PE X c tc) (hd : PE X d td)
    (hm : lastMarks [p1, p2, p3] [b, c, d] = false := by with_unfolding_all rfl) : PE X (.Compare a [p1, p2, p3] [b, c, d] pos) (tChain3 o1 o2 o3 ta tb tc td) := by
  refine ⟨fun pins s s0 H Q I h => ?_⟩
  refine Compare_chain (thn (ha.run pins s s0 H _ I h) fun v s1 ⟨x, H1, I1, r1, q1⟩ => chain_link (thn (hb.run pins s1 s0 H1 _ I1 q1) fun u s2 ⟨y, H2, I2, r2, q2⟩ =>
    thn (h1 pins s2 s0 H2 x y v u _ I2 r1 r2 q2) fun d s3 ⟨z, H3, I3, r3, k, e, q3⟩ => ?_)) hm
  subst e
  cases r3
  refine wpAny_truthy_bool ?_
  cases k with
  | false => exact ite_ff ⟨.bl false, H3, I3, rfl, q3⟩
  | true =>
    refine ite_tt (chain_link (thn (hc.run pins s3 s0 H3 _ I3 q3) fun w' s4 ⟨z', H4, I4, r4, q4⟩ => thn (h2 pins s4 s0 H4 y z' u w' _ I4 r2 r4 q4) fun d s5 ⟨z2, H5, I5, r5, k2, e2, q5⟩ => ?_))
    subst e2
    cases r5
    refine wpAny_truthy_bool ?_
    cases k2 with
    | false => exact ite_ff ⟨.bl false, H5, I5, rfl, q5⟩
    | true => exact ite_tt (chain_last (thn (hd.run pins s5 s0 H5 _ I5 q5) fun w2 s6 ⟨z3, H6, I6, r6, q6⟩ => h3 pins s6 s0 H6 z' z3 w' w2 Q I6 r4 r6 q6))
theorem pt_chain3 {p1 p2 p3 : CmpOp} {o1 o2 o3 : R2} (h1 : OpR X (compareOp p1) o1) (h2 : OpR X (compareOp p2) o2) (h3 : OpR X (compareOp p3) o3) (ha : PE X a ta) (hb : PE X b tb) (hc : PE X c tc) (hd : PE X d td)
    (hm : lastMarks [p1, p2, p3] [b, c, d] = false := by with_unfolding_all rfl) : PT X (.Compare a [p1, p2, p3] [b, c, d] pos) (tTest (tChain3 o1 o2 o3 ta tb tc td)) := by
  refine ⟨fun pins s s0 H Q I h => ?_⟩
  refine isTrue_chain (thn (ha.run pins s s0 H _ I h) fun v s1 ⟨x, H1, I1, r1, q1⟩ => test_link (thn (hb.run pins s1 s0 H1 _ I1 q1) fun u s2 ⟨y, H2, I2, r2, q2⟩ =>
    thn (h1 pins s2 s0 H2 x y v u _ I2 r1 r2 q2) fun d s3 ⟨z, H3, I3, r3, k, e, q3⟩ => ?_)) hm
  subst e
  cases r3
  refine wpAny_truthy_bool ?_
  cases k with
  | false =>
    obtain ⟨k', e', q'⟩ := q3
    cases e'
    exact ite_ff ⟨H3, I3, q'⟩
  | true =>
    refine ite_tt (test_link (thn (hc.run pins s3 s0 H3 _ I3 q3) fun w' s4 ⟨z', H4, I4, r4, q4⟩ => thn (h2 pins s4 s0 H4 y z' u w' _ I4 r2 r4 q4) fun d s5 ⟨z2, H5, I5, r5, k2, e2, q5⟩ => ?_))
    subst e2
    cases r5
    refine wpAny_truthy_bool ?_
    cases k2 with
    | false =>
      obtain ⟨k', e', q'⟩ := q5
      cases e'
      exact ite_ff ⟨H5, I5, q'⟩
    | true =>
      refine ite_tt (test_last (thn (hd.run pins s5 s0 H5 _ I5 q5) fun w2 s6 ⟨z3, H6, I6, r6, q6⟩ => thn (h3 pins s6 s0 H6 z' z3 w' w2 _ I6 r4 r6 q6) fun d' s7 ⟨z4, H7, I7, r7, k3, e3, q7⟩ => ?_))
      subst e3
      cases r7
      exact wpAny_truthy_bool ⟨H7, I7, q7⟩
end

/-! ### enumerate(tuple) -/
def IteT (K : PySem.W.Frag) (a : Addr) : It :=
  ⟨fun i H => ∃ (xs : List V) (x : V), SqT K H a xs ∧ xs[i]? = some x, fun i H v H' => ∃ T x, v = .ref T ∧ H T = none ∧ H' = upd H T (.tup [.int (i : Nat), x]) ∧ ∀ xs, SqT K H a xs → xs[i]? = some x, fun i H => ∃ xs : List V, SqT K H a xs ∧ xs.length ≤ i⟩
theorem mem_two {b e it : Addr} (h : b ∈ [e, it]) : b = e ∨ b = it := by
  rcases List.mem_cons.mp h with z | z
  · exact .inl z
  · exact .inr (List.mem_singleton.mp z)
/-- an enumerate at e over a tuple's iterator at it, both before item i -/
def EnumAt (a e it : Addr) (i : Nat) (h : Heap) : Prop := (∃ last, IsEnum h e it ((i : Nat) : Int) last) ∧ h.IsTupleIter it a i ∧ e ≠ it
theorem turn_enumT {P : Program} {w : World} {K : PySem.W.Frag} {elts : List Expr} {kk : Nat} {tpos : Pos} (a e it : Addr) (ai : a ≠ it) (ea : e ≠ a) : Turn P w K (.Tuple elts kk tpos) (IteT K a) [e, it] e (EnumAt a e it) where
  mem := List.mem_cons_self
  obj := fun i h z b hb => by
    rcases z with ⟨⟨_, g⟩, ⟨oi, gi, _, di⟩, _⟩
    rcases mem_two hb with rfl | rfl
    · exact ⟨_, g, fun _ q => nomatch q⟩
    · exact ⟨oi, gi, fun _ q => nomatch di.symm.trans q⟩
  keep := fun i h h' z same => by
    rcases z with ⟨⟨last, g⟩, gi, n⟩
    exact ⟨⟨last, same e List.mem_cons_self _ g⟩, gi.at fun o q => same it (.tail _ (.head _)) o q, n⟩
  self := fun A i s Q E z k => wpAny_pyIter_enum z.1.choose_spec k
  item := by
    rintro X rfl rfl rfl calm i pn t c H E I fp ⟨⟨last, g⟩, gi, n⟩ ⟨xs, x, hq, hx⟩
    obtain ⟨us, rv, isT, _⟩ := I.tuple hq
    obtain ⟨u, hu, ru⟩ := rv.get hx
    have le : e < t.heap.objs.size := Heap.lt_size g
    have li : it < t.heap.objs.size := Heap.lt_size gi.choose_spec.1
    have inside : i < us.toArray.size := by rw [List.size_toArray]; exact (List.getElem?_eq_some_iff.mp hu).1
    refine wpAny_pyNext_enum_itemD (Draws.tuple (A := X.A.in1) (show X.A.in1.handled = none from I.ok.hd calm) it a ai us.toArray) g ⟨gi, isT⟩ inside n (by simp [n, ea]) fun y h1 tk hy own gi1 tup _ same => ?_
    obtain rfl : y = u := Option.some.inj (hy.symm.trans (by rw [List.getElem?_toArray]; exact hu))
    refine ⟨_, rfl, wpAny_letOwnedTupleGo_enum (s := { t with heap := h1, toks := tk + 1 }) own fun h2 g2 but => ?_⟩
    have pair : ObjOk X.prog X.w (upd H t.heap.objs.size (.tup [.int (i : Nat), x])) h2 t.heap.objs.size (.tup [.int (i : Nat), x]) :=
      ⟨by show 2 ≤ sizeLine; decide, [.int i tk, y], .cons ⟨_, rfl⟩ (.cons ru .nil), ⟨_, (but.2 _ (Nat.ne_of_gt le)).trans tup, rfl, _, rfl⟩⟩
    have rest : ∀ b o, b ∉ [e, it] → t.heap.get? b = some o → h2.get? b = some o := fun b o out q => by
      have b1 : b ≠ e := fun z => out (z ▸ .head _)
      rw [but.2 b b1]
      exact same b o b1 (fun z => out (z ▸ .tail _ (.head _))) q
    refine ⟨.ref t.heap.objs.size, _, I.turnedNew (t' := tk + 1) (ch := [e, it]) rest fp (Nat.le_refl _) pair, rfl, ⟨_, x, rfl, I.hok.fresh (Nat.le_refl _), rfl, fun ys hy => ?_⟩, ⟨⟨y, ?_⟩, gi1.1.at fun o q => (but.2 it n.symm).trans q, n⟩, fun b hb => ?_⟩
    · rw [I.tuple_inj hy hq]; exact hx
    · rw [show ((i + 1 : Nat) : Int) = (i : Int) + 1 from Int.natCast_succ i]; exact g2
    · have lb : b < t.heap.objs.size := (mem_two hb).elim (fun z => z ▸ le) fun z => z ▸ li
      rw [upd_ne (Nat.ne_of_lt lb)]; exact (fp b hb).1
  done := by
    rintro X rfl rfl rfl calm i pn t c H E I fp ⟨⟨last, g⟩, gi, n⟩ ⟨xs, hq, past⟩
    obtain ⟨us, rv, isT, _⟩ := I.tuple hq
    have ty : t.TypeIs (.ref e) "enumerate" := ⟨_, g, rfl⟩
    obtain ⟨p0, p1, _, p3, p4, p5⟩ := fp it (.tail _ (.head _))
    have size : us.toArray[i]? = none := Array.getElem?_eq_none (by rw [List.size_toArray, ← rv.length]; exact past)
    unfold pyNext
    refine wpAny_bind (wpAny_attempt (wpAny_callSpecial?_slot (name := Str.ofString "__next__") ty F.slot_enumerate_next (wpAny_call_entry F.slot_enumerate_next ty F.entry_enumerate_next ?_ (F.args_enumerate_next_1 _))))
    show wpAny _ _ (field (.ref e) 2 >>= fun j => _) _ _ _
    refine wpAny_bind (wpAny_field g rfl (x := .ref it) rfl (wpAny_bind (wpAny_nextOf_tuple_end (I.ok.hd calm) gi isT size fun h1 x same stop => ?_)))
    exact wpAny_bind (wpAny_isInstance (T := "StopIteration") (b := true) ⟨_, stop.choose_spec.1, stop.choose_spec.2⟩ isSubtype_stop (wpAny_pure ⟨rfl, I.turned (t' := t.toks) (fun b o hb q => same b o hb q) p0 p1 p3 p4 p5⟩))
/-- the tuple's iterator, the enumerate over it -/
abbrev itObj (l : Addr) : Obj := { cls := .type "tuple_iterator", data := .fields #[.ref l, .int 0 0] }
abbrev enObj (it : Addr) : Obj := { cls := .type "enumerate", data := .fields #[.none, .bool false, .ref it, rawInt 0, .none, .none] }
theorem meets_enumerate_newT (l : Addr) (items : Array Value) (n : Nat) (dct : Option Addr) (sl : Array (Option Value)) :
    Meets (Builtin.«enumerate.__new__» ⟨[.type "enumerate", .ref l], []⟩) (fun _ R s => s.heap.get? l = some { cls := .type "tuple", dict := dct, data := .seq items n, slots := sl } ∧
      R (.ok (.ret (.ref (s.heap.push (itObj l)).objs.size))) { s with heap := (s.heap.push (itObj l)).push (enObj s.heap.objs.size) }) := .of_wp fun prog w A R s z => by
  obtain ⟨h0, gn, dr, tk, os⟩ := s
  obtain ⟨hl, k⟩ := z
  have hsub := sub_enumerate
  have isT : Heap.IsTuple (Shared.heap ⟨h0, gn, dr, tk, os⟩) l items := ⟨_, hl, rfl, n, rfl⟩
  wp_walk using AutoSeq1.wpAny_loadPart' hl
  refine wpAny_stack_any fun acts => wpAny_pure ?_
  split
  · rename_i cl _ _ _ _ _
    cases (cl == Value.type "enumerate") <;> (wp_walk using AutoSeq1.wpAny_loadPart' hl, wpAny_pyIter_tuple isT; exact ⟨_, rfl, k⟩)
  · wp_walk using AutoSeq1.wpAny_loadPart' hl, wpAny_pyIter_tuple isT
    exact ⟨_, rfl, k⟩
theorem call_enumerate_tuple {prog : Program} {w : World} {A : Around} {E : Value → Shared → Prop} {s : Shared} {l : Addr} {items : Array Value} {Q : Value → Shared → Prop} (isT : s.heap.IsTuple l items)
    (k : ∀ h', EnumAt l (s.heap.objs.size + 1) s.heap.objs.size 0 h' → (∀ b o, s.heap.get? b = some o → h'.get? b = some o) → Q (.ref (s.heap.objs.size + 1)) { s with heap := h' }) : wpAny (model prog w) A (call (.type "enumerate") [.ref l]) Q E s := by
  obtain ⟨⟨cl, dct, dt, sl⟩, hl, e1, n, e2⟩ := isT
  obtain rfl : cl = .type "tuple" := e1
  obtain rfl : dt = .seq items n := e2
  have z : (s.heap.push (itObj l)).objs.size = s.heap.objs.size + 1 := Heap.size_push ..
  have g : ((s.heap.push (itObj l)).push (enObj s.heap.objs.size)).get? (s.heap.objs.size + 1) = some (enObj s.heap.objs.size) := z ▸ Heap.get?_push_size (s.heap.push (itObj l)) rfl
  refine callType_new F.called_enumerate (by decide) (F.typeCall_enumerate_1 _) (F.newCall_enumerate_1 _) (fun obj => F.args_object_init_2 obj _) F.entry_enumerate_new (meets_enumerate_newT l items n dct sl) ⟨hl, ?_⟩
  show _ ∧ _
  rw [z]
  exact ⟨⟨_, g, rfl⟩, k _ ⟨⟨.none, g⟩, ⟨_, Heap.get?_push_of_some _ (Heap.get?_push_size _ rfl), rfl, rfl⟩, Nat.succ_ne_self _⟩ fun b o q => Heap.get?_push_of_some _ (Heap.get?_push_of_some _ q)⟩
/-- enumerate of a list or of a tuple -/
def iEnumA (K : PySem.W.Frag) (ta : TA) : TI := fun s H R => ta s H fun vs H1 => ∃ a xs, vs = [.ref a] ∧ ((SqL K H1 a xs ∧ R (Ite K a) H1) ∨ (SqT K H1 a xs ∧ R (IteT K a) H1))
theorem pi_enumA {X : Cx} {e : Expr} {ta : TA} {p pos tpos : Pos} {elts : List Expr} {kk : Nat} (hg : Gl X "enumerate") (hm : X.mg "enumerate" = none) (ha : PA X [e] ta) (hs : starEach [e] X.env = [(false, eval e X.env)] := by rfl) :
    PI X (.Tuple elts kk tpos) (.Call (.Name "enumerate" p) [e] [] pos) (iEnumA X.K ta) := by
  refine ⟨fun pins s s0 H R I h => ?_⟩
  refine Call_ (ld_blt I hg hm boot_enumerate (PyProof.Rows.callWith_type1 (thn (ha.run pos pins s s0 H _ I h) fun us s1 ⟨vs, H1, I1, r1, q1⟩ => ?_) hs rfl))
  obtain ⟨a, xs, ex, q⟩ := q1
  subst ex
  cases r1 with
  | cons r rr =>
    cases rr
    cases r
    have fresh : ∀ b ∈ [s1.heap.objs.size + 1, s1.heap.objs.size], FpOk X pins H1 b := fun b hb => by
      have up : s1.heap.objs.size ≤ b := (mem_two hb).elim (fun z => z ▸ Nat.le_succ _) fun z => z ▸ Nat.le_refl _
      exact I1.fpOk up (I1.hok.fresh up)
    rcases q with ⟨hq, q⟩ | ⟨hq, q⟩
    · obtain ⟨us, _, isL, _⟩ := I1.list hq
      exact call_enumerate_list isL.isList fun h2 en it _ same => wpAny_pyIter_enum en ⟨s1.heap.objs.size + 1, [s1.heap.objs.size + 1, s1.heap.objs.size], _, _, H1, rfl, I1.kept (t' := s1.toks) same, turn_enum a _ _, ⟨⟨.none, en⟩, it, Nat.succ_ne_self _⟩, fresh, q⟩
    · obtain ⟨us, _, isT, _⟩ := I1.tuple hq
      have low : a < s1.heap.objs.size := Heap.lt_size isT.choose_spec.1
      exact call_enumerate_tuple (show s1.heap.IsTuple a us.toArray from isT) fun h2 en same => wpAny_pyIter_enum en.1.choose_spec
        ⟨s1.heap.objs.size + 1, [s1.heap.objs.size + 1, s1.heap.objs.size], _, _, H1, rfl, I1.kept (t' := s1.toks) same, turn_enumT a _ _ (Nat.ne_of_lt low) (Nat.ne_of_gt (Nat.lt_succ_of_lt low)), en, fresh, q⟩
/-- for over a list or a tuple -/
def iSeq (K : PySem.W.Frag) (tl : TE) : TI := fun s H R => tl s H fun x H1 => ∃ a xs, x = .ref a ∧ ((SqL K H1 a xs ∧ R (Itl K a) H1) ∨ (SqT K H1 a xs ∧ R (Itt K a) H1))
theorem pi_seq {X : Cx} {tg l : Expr} {tl : TE} (hl : PE X l tl) : PI X tg l (iSeq X.K tl) := by
  refine ⟨fun pins s s0 H R I h => ?_⟩
  refine thn (hl.run pins s s0 H _ I h) fun u s1 ⟨x, H1, I1, r1, a, xs, ex, q⟩ => ?_
  subst ex
  obtain rfl : u = Value.ref a := r1
  have one : ∀ b ∈ [s1.heap.objs.size], FpOk X pins H1 b := fun b hb => List.mem_singleton.mp hb ▸ I1.fpOk (Nat.le_refl _) (I1.hok.fresh (Nat.le_refl _))
  have more : ∀ o : Obj, ∀ b q, s1.heap.get? b = some q → (s1.heap.push o).get? b = some q := fun o b q e => Heap.get?_push_of_some _ e
  rcases q with ⟨hq, q⟩ | ⟨hq, q⟩
  · obtain ⟨us, _, isL, _⟩ := I1.list hq
    exact wpAny_pyIter_list isL.isList ⟨s1.heap.objs.size, [s1.heap.objs.size], _, _, H1, rfl, I1.kept (t' := s1.toks) (more _), turn_list a _, ⟨_, Heap.get?_push_size _ rfl, rfl, rfl⟩, one, q⟩
  · obtain ⟨us, _, isT, _⟩ := I1.tuple hq
    exact wpAny_pyIter_tuple (show s1.heap.IsTuple a us.toArray from isT) ⟨s1.heap.objs.size, [s1.heap.objs.size], _, _, H1, rfl, I1.kept (t' := s1.toks) (more _), turn_tuple a _, ⟨_, Heap.get?_push_size _ rfl, rfl, rfl⟩, one, q⟩
end Dz
/-! Dz, part X: an exception class of the program whose __init__ says super().__init__('..'); self.f = f: made, raised. -/
namespace PySem
namespace BadX
open PySem.W PySem.Calls PyProof.Rows PySem.HandSPX
open Builtin Builtin.ObjectAttr
/-- a built-in base B: its chain, its makers, its stores -/
structure BaseT (B newId initId : String) (tail : List Value) : Prop where
  base : ExcBaseFacts B newId initId tail
  kxs : KxsFacts B initId
  sets : StoreFacts B tail "object.__setattr__" "object"
  self : excTail tail tail = true
theorem base_VE : BaseT "ValueError" "ValueError.__new__" "ValueError.__init__" [.type "ValueError", .type "Exception", .type "BaseException", .type "object"] := ⟨F.excBase_ValueError, kxs_ValueError, F.store_ValueError, by decide +kernel⟩
theorem base_LE : BaseT "LookupError" "LookupError.__new__" "LookupError.__init__" [.type "LookupError", .type "Exception", .type "BaseException", .type "object"] := ⟨F.excBase_LookupError, kxs_LookupError, F.store_LookupError, by decide +kernel⟩
theorem base_OE : BaseT "OverflowError" "OverflowError.__new__" "OverflowError.__init__" [.type "OverflowError", .type "ArithmeticError", .type "Exception", .type "BaseException", .type "object"] := ⟨F.excBase_OverflowError, kxs_OverflowError, F.store_OverflowError, by decide +kernel⟩
/-- own classes, then a built-in's chain -/
def Refs (tail l : List Value) : Prop := ∃ cs : List Addr, l = cs.map Value.ref ++ tail
theorem Refs.cons {tail l : List Value} (h : Refs tail l) (C : Addr) : Refs tail (.ref C :: l) := by
  obtain ⟨cs, e⟩ := h
  exact ⟨C :: cs, by rw [e]; rfl⟩
theorem Refs.contains {tail : List Value} (X : String) : ∀ {l : List Value}, Refs tail l → l.contains (.type X) = tail.contains (.type X) := by
  rintro l ⟨cs, rfl⟩
  induction cs with
  | nil => rfl
  | cons c r ih => rw [List.map_cons, List.cons_append, List.contains_cons, ih]; rfl
theorem Refs.over {tail l : List Value} {K : W.Frag} {C : Addr} {cd : ClassData} (h : Refs tail l) (t0 : excTail tail tail = true) (c : W.clsIn K C = some cd) (m : cd.mro = .ref C :: l) : excOver K C tail = true := by
  obtain ⟨cs, rfl⟩ := h
  have t : ∀ cs : List Addr, excTail tail (cs.map Value.ref ++ tail) = true := fun cs => by
    induction cs with
    | nil => exact t0
    | cons _ r ih => exact ih
  unfold excOver
  rw [c]
  show (match cd.mro with | .ref C' :: bm => C' == C && excTail tail bm | _ => false) = true
  rw [m]
  show (C == C && excTail tail _) = true
  rw [t cs, beq_self_eq_true, Bool.and_self]
section
variable {prog : Program} {w : World} {A : Around} {E : Value → Shared → Prop} {R : Result → Shared → Prop} {t : Shared}
/-- an exception x of class C once its first store has made the dict dx -/
structure FirstStore (h h' : Heap) (x C dx t0 : Addr) (name : Str) (v : Value) : Prop where
  old : ∀ b o, b ≠ x → h.get? b = some o → h'.get? b = some o
  behind : h.objs.size ≤ dx
  other : dx ≠ x
  obj : h'.get? x = some (excO C t0 |> fun o => { o with dict := some dx })
  only : h'.Ns1 dx (fun y => if y = name then some v else none)
theorem exc_first {K : W.Frag} {name : Str} {tk : Tok} {v : Value} {x C t0 : Addr} {cd : ClassData} {B : String} {tail : List Value} (SF : StoreFacts B tail "object.__setattr__" "object") (ov : excOver K C tail = true)
    (X : K.In t.heap) (there : t.heap.get? x = some (excO C t0)) (hcd : W.clsIn K C = some cd) (hh : cd.hasDict = true) (ha : W.findIn K (.ref C) name = some none)
    (k : ∀ h' tk' dx, FirstStore t.heap h' x C dx t0 name v → R (.ok (.ret .none)) { t with heap := h', toks := tk' }) :
    codeAny (model prog w) A (.call (.builtin "object.__setattr__") ⟨[.ref x, .str name tk, v], []⟩) R t := by
  refine osa_openX (od := none) SF X ⟨there, rfl, rfl, trivial⟩ ov (by unfold W.takerIn; rw [ha]; rfl) fun b => ?_
  refine wpAny_bind (wpAny_pure (wpAny_bind (instanceDict_exc there (W.looks_clsIn X hcd) hh ?_)))
  have lt := Heap.lt_size there
  obtain ⟨hp, g, d, tt, os⟩ := t
  show wpAny _ _ (storeInDict hp.objs.size (.str name tk) name v) _ _ _
  refine PX.store_in_new (dx := hp.objs.size) (tk := tk) ⟨_, #[], _, (Heap.get?_update_ne _ _ _ _ (Nat.ne_of_gt lt)).trans (Heap.get?_push_at rfl rfl), rfl, fun e he => absurd he (by simp), fun _ => rfl⟩ fun h' tk' one same => k h' tk' hp.objs.size ?_
  refine ⟨fun c o n g => ?_, Nat.le_refl _, Nat.ne_of_gt lt, ?_, one⟩
  · rw [same.2 c (Nat.ne_of_lt (Heap.lt_size g)), Heap.get?_update_ne _ _ _ _ n]
    exact Heap.get?_push_of_some _ g
  · rw [same.2 x (Nat.ne_of_lt lt)]
    exact Heap.get?_update_self _ (Heap.get?_push_of_some _ there) rfl
end
/-! ### the text of __init__ -/
def iA (f : Str) (p1 p2 : Pos) : Arguments := { posonlyargs := [], args := [{ arg := "self", annotation := none, pos := p1 }, { arg := f, annotation := none, pos := p2 }], vararg := none, kwonlyargs := [], kw_defaults := [], kwarg := none, defaults := [] }
def iB (f msg : Str) (p0 p1 p2 p3 p4 p5 q1 q2 q3 q4 : Pos) : List Stmt :=
  [.Expr (.Call (.Attribute (.Call (.Name "super" p0) [] [] p1) "__init__" p2) [.Constant (.str msg) 0 p3] [] p4) p5, .Assign [.Attribute (.Name "self" q1) f q2] (.Name f q3) q4]
def iS (f : Str) : Scope := { kind := .function, names := [("self", .local), (f, .local), ("__class__", .free), ("super", .globalImplicit)], isGenerator := false, isCoroutine := false, more := [] }
/-- what the written part says of the class nme at C, and of its __init__, at fI -/
abbrev superE (msg : Str) (r0 r1 r2 r3 r4 : Pos) : Expr := .Call (.Attribute (.Call (.Name "super" r0) [] [] r1) "__init__" r2) [.Constant (.str msg) 0 r3] [] r4
/-- what hangs on the places in the text: how the arguments bind, how the call is made -/
def TextOk (fd : FuncData) (fI : Addr) (f msg : Str) (r0 r1 r2 r3 r4 r5 q1 q2 q3 q4 : Pos) : Prop :=
  (∀ a b : Value, bindArgs fd ⟨[a, b], []⟩ = pure [(("self" : Str), a), (f, b)]) ∧
  ∀ L : Addr, (∃ pl : Sem Bool, eval (superE msg r0 r1 r2 r3 r4) (callEnv fd L fI) = (do
      let ov ← attributeBase (.Call (.Name "super" r0) [] [] r1) "__init__" (callEnv fd L fI) (eval (.Call (.Name "super" r0) [] [] r1) (callEnv fd L fI))
      standAt r2.atName
      let (f, first) ← holding [ov] (getMethod ov "__init__" pl)
      callWith r4 f first (backTo r4 (starEach [.Constant (.str msg) 0 r3] (callEnv fd L fI))) [])) ∧
    swapsWith (superE msg r0 r1 r2 r3 r4) none r5.line (callEnv fd L fI) = pure false ∧ swapsWith (.Name f q3) (some (.Attribute (.Name "self" q1) f q2)) q4.line (callEnv fd L fI) = pure false
structure BadTxt (prog : Program) (K : Frag) (mg : Str → Option Value) (nme f : Str) (C : Addr) : Prop where
  gC : mg nme = some (.ref C)
  cls : ∃ nm q N bs bm sn sub ab col dd k0 k1 k2 k3 k5 B newId initId tail, BaseT B newId initId tail ∧ K.lookup C = some (excClassObj nm q C N bs bm true sn sub ab col dd k0 k1 k2 k3 k5 newId) ∧ Refs tail bm ∧
    alongIn K "__init__" bm = some (some (.builtin initId)) ∧ subIn K (.ref C) (.type B) = some true
  fn : ∃ (fI cc cda : Addr) (oc : Value) (od : Option Addr) (doc pm : Value) (an : Option Addr) (ct : Value) (osl : Array (Option Value)) (qn msg : Str) (p1 p2 r0 r1 r2 r3 r4 r5 q1 q2 q3 q4 : Pos) (ccl cl : Value) (cdd cld : Option Addr) (vs : Array Value) (ccs csl : Array (Option Value)) (file : Str) (tf : Tok),
    K.lookup fI = some ⟨oc, od, .func (ksFn "__init__" qn (iA f p1 p2) (iB f msg r0 r1 r2 r3 r4 r5 q1 q2 q3 q4) (iS f) .none .none doc pm an (.ref cda) ct cc), osl⟩ ∧ codeIn K (.ref cda) qn = true ∧
    findIn K (.ref C) "__init__" = some (some (.ref fI)) ∧ typeIn K (.ref fI) = some (.type "function") ∧
    K.lookup cda = some ⟨ccl, cdd, .fields vs, ccs⟩ ∧ vs[2]? = some (.str file tf) ∧ ((prog.main.file : Str) == file) = true ∧ K.lookup cc = some ⟨cl, cld, .cell (some (.ref C)), csl⟩ ∧
    TextOk (ksFn "__init__" qn (iA f p1 p2) (iB f msg r0 r1 r2 r3 r4 r5 q1 q2 q3 q4) (iS f) .none .none doc pm an (.ref cda) ct cc) fI f msg r0 r1 r2 r3 r4 r5 q1 q2 q3 q4
  htop : (prog.main.scope.names.lookup ("super" : Str)).isSome = false
  msuper : mg "super" = none
  sa : findIn K (.ref C) "__setattr__" = some (some (.builtin "object.__setattr__"))
  ga : findIn K (.ref C) "__getattribute__" = some (some (.builtin "BaseException.__getattribute__"))
  gg : findIn K (.ref C) "__getattr__" = some none
  noN : findIn K (.ref C) f = some none
  kC : keepIn K (.ref C) = true
  exC : subIn K (.ref C) (.type "BaseException") = some true
  tyC : typeIn K (.ref C) = some (.type "type")
  hdC : hasDictIn K C = true
  ops : nsIn K cStatics "thirdparty.any" = some none
  nf : ("self" == f) = false ∧ (("__class__" : Str) == f) = false ∧ (("super" : Str) == f) = false ∧ (f == ("__debug__" : Str)) = false
theorem one_size (v : Value) : [v].length ≤ sizeLine := by
  rw [sizeLine_eq]
  exact (by decide : 1 ≤ 16777216)
/-- what __init__ leaves of a fresh exception at x -/
structure InitEnd (f : Str) (h h' : Heap) (x C dx t1 : Addr) (v : Value) : Prop where
  keep : ∀ b o, b ≠ x → h.get? b = some o → h'.get? b = some o
  obj : h'.get? x = some { cls := .ref C, dict := some dx, data := .fields #[.ref t1, .none, .none, .none, .bool false, .none] }
  dbig : h.objs.size ≤ dx
  dne : dx ≠ x
  ns : h'.Ns1 dx (fun y => if y = f then some v else none)
structure OwnMade (f : Str) (h h' : Heap) (e C d : Addr) (v : Value) : Prop where
  keep : ∀ b o, h.get? b = some o → h'.get? b = some o
  new : h.objs.size ≤ e
  obj : ∃ oe vs, h'.get? e = some oe ∧ oe.cls = .ref C ∧ oe.dict = some d ∧ oe.data = .fields vs ∧ vs[1]? = some .none
  dbig : h.objs.size ≤ d
  dne : d ≠ e
  ns : h'.Ns1 d (fun y => if y = f then some v else none)
section
variable {prog : Program} {w : World} {A : Around} {E : Value → Shared → Prop} {R : Result → Shared → Prop} {s : Shared} {K : Frag} {mg mb : Str → Option Value} {nme f : Str} {C : Addr}
theorem lk_self (hf : ("self" == f) = false) : (iS f).names.lookup ("self" : Str) = some .local := by simp [iS, List.lookup]
theorem lk_f (hf : ("self" == f) = false) : (iS f).names.lookup f = some .local := by
  have h : (f == ("self" : Str)) = false := by
    rw [beq_eq_false_iff_ne] at hf ⊢
    exact fun z => hf z.symm
  simp [iS, List.lookup, h]
theorem lk_cls (hf : (("__class__" : Str) == f) = false) : (iS f).names.lookup ("__class__" : Str) = some .free := by
  have e : (("__class__" : Str) == ("self" : Str)) = false := by decide +kernel
  simp [iS, List.lookup, hf, e]
theorem lk_sup (hf : (("super" : Str) == f) = false) : (iS f).names.lookup ("super" : Str) = some .globalImplicit := by
  have e : (("super" : Str) == ("self" : Str)) = false := by decide +kernel
  have e2 : (("super" : Str) == ("__class__" : Str)) = false := by decide +kernel
  simp [iS, List.lookup, hf, e, e2]
theorem bad_init (T : BadTxt prog K mg nme f C) {fI : Addr} (hfI : findIn K (.ref C) "__init__" = some (some (.ref fI))) {x t0 : Addr} {v : Value} (X : K.In s.heap) (G : s.heap.Ns mainGlobals mg) (GB : s.heap.Ns builtinsNs mb) (hb : mb "super" = some (.type "super")) (hlim : s.heap.NoLimit)
    (hx : s.heap.get? x = some (excO C t0)) (hnx : K.lookup x = none) (hroom : A.depth < recursionLimit) (hgx : x ≠ mainGlobals) (hbx : x ≠ builtinsNs)
    (hq : ∀ h' tk dx t1, InitEnd f s.heap h' x C dx t1 v → R (.ok (.ret .none)) { s with heap := h', toks := tk }) :
    codeAny (model prog w) A (.call (.ref fI) ⟨[.ref x, v], []⟩) R s := by
  obtain ⟨fI', cc, cda, oc, od, doc, pm, an, ct, osl, qn, msg, p1, p2, r0, r1, r2, r3, r4, r5, q1, q2, q3, q4, ccl, cl, cdd, cld, vs, ccs, csl, file, tf, ho, hcd, hfI', tI, hcode, hvs, hfile, hcell, hbind, htxt⟩ := T.fn
  obtain rfl : fI' = fI := by
    rw [hfI] at hfI'
    cases hfI'; rfl
  obtain ⟨nm, q, N, bs, bm, sn, sub, ab, col, dd, k0, k1, k2, k3, k5, B, newId, initId, tail, BT, hC, hbm, hal, hsubB⟩ := T.cls
  obtain ⟨n1, n2, n3, n4⟩ := T.nf
  have hcl : clsIn K C = some { name := nm, bases := bs, mro := .ref C :: bm, ns := N, qualname := q, hasDict := true, slotNames := sn, subclasses := sub, abstract := ab, collection := col, hasDel := false } := by unfold clsIn; rw [hC] <;> rfl
  have n1' : (f == ("self" : Str)) = false := by
    rw [beq_eq_false_iff_ne] at n1 ⊢
    exact fun z => n1 z.symm
  refine ks_codeAny_call_defAt (fd := ksFn "__init__" qn (iA f p1 p2) (iB f msg r0 r1 r2 r3 r4 r5 q1 q2 q3 q4) (iS f) .none .none doc pm an (.ref cda) ct cc) (body := iB f msg r0 r1 r2 r3 r4 r5 q1 q2 q3 q4) (binds := [(("self" : Str), .ref x), (f, v)]) hroom (X _ _ ho) rfl hlim (codeRec_of X hcd) rfl
    (BindsTo.of_eq (hbind _ _)) (by intro y hy; simp [iS] at hy; rcases hy with rfl | rfl | rfl | rfl <;> simp) (by
      intro y hy
      simp at hy
      rcases hy with rfl | rfl
      · exact lk_self n1
      · exact lk_f n1) (fun h₁ hn k => ?_) rfl rfl rfl
  have hxL : s.heap.objs.size ≠ x := Nat.ne_of_gt (Heap.lt_size hx)
  have X₁ : K.In h₁ := X.keeps k
  have hx₁ := k _ _ hx
  have hC₁ := X₁ _ _ hC
  have lself : (fun y => [(("self" : Str), Value.ref x), (f, v)].reverse.lookup y) ("self" : Str) = some (.ref x) := by
    show List.lookup ("self" : Str) [(f, v), (("self" : Str), Value.ref x)] = _
    simp [List.lookup, n1]
  have lf : (fun y => [(("self" : Str), Value.ref x), (f, v)].reverse.lookup y) f = some v := by
    show List.lookup f [(f, v), (("self" : Str), Value.ref x)] = _
    simp [List.lookup]
  -- super().__init__('..')
  obtain ⟨⟨pl, hcall⟩, hs1, hs2⟩ := htxt s.heap.objs.size
  refine ks_wpAt_execs_cons (ks_wpAt_Expr_any (ks_wpAt_MethodCall (pl := pl) ?_ hcall) rfl hs1)
  refine ks_wpAt_super_base (ar := { arg := "self", annotation := none, pos := p1 }) (lk_sup n3) (lk_cls n2) (by decide +kernel) rfl (X₁ _ _ ho) rfl rfl rfl (X₁ _ _ hcode) rfl hvs hfile T.htop ?_
  refine ks_loadName_global rfl (lk_sup n3) (loadGlobal_builtin (G.keeps k) T.msuper (GB.keeps k) hb ⟨rfl, ?_⟩)
  refine wpAny_loadName_free rfl (lk_cls n2) rfl ⟨_, X₁ _ _ hcell, rfl⟩ ?_
  refine wpAny_loadName_local rfl (lk_self n1) hn lself ?_
  refine ks_wpAny_isType_cls hC₁ rfl ⟨rfl, ?_⟩
  refine ks_wpAny_call_super hC₁ rfl hx₁ rfl (fun c e => by cases e) (looks_mroIn X₁ (by unfold mroIn; rw [hcl, Option.bind_some, if_neg (by simp)]; simp)) (fun h₂ e2 k2 => ?_)
  have X₂ := X₁.keeps k2
  have hx₂ := k2 _ _ hx₁
  refine kxs_getMethod BT.kxs e2 (looks_opaque X₂ T.ops) (l₀ := .ref C :: bm) (fun A Q E s kk q => wpAny_bind ((looks_clsIn X₂ hcl) A _ E s kk (wpAny_pure q))) (l := bm) (by simp [List.dropWhile_cons]) X₂ hal
    ((show InstAt h₂ x (excO C t0) C none from ⟨hx₂, rfl, rfl, trivial⟩).type.andThen (looks_subIn X₂ hsubB)) (fun z => by rw [z, X₂ _ _ hC] at hx₂; cases hx₂) (by decide +kernel) ?_
  have k3 : ∀ b o, h₂.get? b = some o → (h₂.push (kxs_mw initId x)).get? b = some o := fun b o e => Heap.get?_push_of_some _ e
  have hw3 : (h₂.push (kxs_mw initId x)).get? h₂.objs.size = some (kxs_mw initId x) := Heap.get?_push_at rfl rfl
  have X₃ := X₂.keeps k3
  have hx₃ := k3 _ _ hx₂
  refine kxs_callWith (i := initId) (x := x) rfl (evalArgs_plain ?_)
  refine spliced_cons (Constant_str (x := msg) (k := 0) (pos := r3) (env := callEnv (ksFn "__init__" qn (iA f p1 p2) (iB f msg r0 r1 r2 r3 r4 r5 q1 q2 q3 q4) (iS f) .none .none doc pm an (.ref cda) ct cc) s.heap.objs.size fI') (spliced_nil ?_))
  refine ⟨hw3, ?_⟩
  refine wpAny_call (codeAny_of_tree ?_)
  show wpAny _ _ (callAny (.ref h₂.objs.size) _) _ _ _
  simp only [callAny]
  refine wpAny_bind (wpAny_load hw3 ?_)
  simp only [kxs_mw, show (Value.type "method-wrapper" == Value.type "method" || Value.type "method-wrapper" == Value.type "builtin_function_or_method" || Value.type "method-wrapper" == Value.type "method-wrapper") = true by decide, if_true]
  refine KFB.if_so (by decide) ?_
  refine wpAny_bind (check_bound_init BT.base.toExcCallFacts (X₃ _ _ hC) hx₃ rfl ?_)
  refine wpAny_bind (wpAny_pure (wpAny_pure ?_))
  refine ⟨plainId_quiet BT.base.init.plain _, codeAny_builtin BT.base.initEntry ?_⟩
  refine exc_init_tree (cls := .ref C) (t0 := t0) (dv := none) (c2 := .none) (c3 := .none) (b4 := .bool false) hx₃ (one_size _) fun h₄ k4 e4 t4 => ?_
  have hn₄ : h₄.Ns s.heap.objs.size (fun y => [(("self" : Str), Value.ref x), (f, v)].reverse.lookup y) := by
    obtain ⟨oL, es, ep, hL, rr⟩ := hn
    exact ⟨oL, es, ep, k4 _ _ hxL (k3 _ _ (k2 _ _ hL)), rr⟩
  have X₄ : K.In h₄ := fun a o e => k4 a o (fun z => by rw [z, hnx] at e; cases e) (X₃ a o e)
  -- self.f = f
  refine wpAt_of_wpAny ?_
  refine wpAny_execs_cons (plainObj_wpAny_Assign_Attribute ?_ hs2)
  refine wpAny_Name (wpAny_loadName_local rfl (lk_f n1) hn₄ lf ?_) n4
  refine wpAny_Name (wpAny_loadName_local rfl (lk_self n1) hn₄ lself ?_) (by decide)
  refine set_plain X₄ (ox := excO C _) (od := none) ⟨e4, rfl, rfl, trivial⟩ T.sa ?_
  refine exc_first BT.sets (hbm.over BT.self hcl rfl) X₄ e4 hcl rfl T.noN fun h₅ tk₅ dx ⟨k₅, dn, dne, hx₅, hn₅⟩ => ?_
  refine wpAny_execs_nil (hq h₅ tk₅ dx _ ⟨fun b o hb e => k₅ b o hb (k4 b o hb (k3 _ _ (k2 _ _ (k b o e)))), hx₅, ?_, dne, hn₅⟩)
  have z1 : s.heap.objs.size < h₁.objs.size := hn.lt
  have z2 : s.heap.objs.size < h₄.objs.size := hn₄.lt
  exact Nat.le_of_lt (Nat.lt_of_lt_of_le z2 dn)
theorem bad_made (T : BadTxt prog K mg nme f C) {v : Value} (X : K.In s.heap) (G : s.heap.Ns mainGlobals mg) (GB : s.heap.Ns builtinsNs mb) (hb : mb "super" = some (.type "super")) (hlim : s.heap.NoLimit) (hroom : A.depth + 1 < recursionLimit)
    (hq : ∀ h' tk e d, OwnMade f s.heap h' e C d v → R (.ok (.ret (.ref e))) { s with heap := h', toks := tk }) :
    codeAny (model prog w) A (.call (.ref C) ⟨[v], []⟩) R s := by
  obtain ⟨nm, q, N, bs, bm, sn, sub, ab, col, dd, k0, k1, k2, k3, k5, B, newId, initId, tail, BT, hC, hbm, hal, hsubB⟩ := T.cls
  obtain ⟨fI, cc, cda, oc, od, doc, pm, an, ct, osl, qn, msg, p1, p2, r0, r1, r2, r3, r4, r5, q1, q2, q3, q4, ccl, cl, cdd, cld, vs, ccs, csl, file, tf, ho, hcd, hfI, tI, hcode, hvs, hfile, hcell, hbind, htxt⟩ := T.fn
  obtain ⟨hp, g, dr, tk, os⟩ := s
  have k : ∀ b o, hp.get? b = some o → ((hp.push (kdv_tup [v])).push (excO C hp.objs.size)).get? b = some o := fun b o e => Heap.get?_push_of_some _ (Heap.get?_push_of_some _ e)
  have hget : ((hp.push (kdv_tup [v])).push (excO C hp.objs.size)).get? (hp.objs.size + 1) = some (excO C hp.objs.size) := by heap_get
  have hnx : K.lookup (hp.objs.size + 1) = none := by
    cases e : K.lookup (hp.objs.size + 1) with
    | none => rfl
    | some o =>
      have z : hp.get? (hp.objs.size + 1) = some o := X _ _ e
      exact absurd (Nat.lt_of_succ_lt (Heap.lt_size z)) (Nat.lt_irrefl _)
  have hg1 : hp.objs.size + 1 ≠ mainGlobals := fun z => by
    obtain ⟨o, es, ep, e, _⟩ := G
    have := Heap.lt_size (show hp.get? mainGlobals = some o from e)
    rw [← z] at this
    exact absurd (Nat.lt_of_succ_lt this) (Nat.lt_irrefl _)
  have hb1 : hp.objs.size + 1 ≠ builtinsNs := fun z => by
    obtain ⟨o, es, ep, e, _⟩ := GB
    have := Heap.lt_size (show hp.get? builtinsNs = some o from e)
    rw [← z] at this
    exact absurd (Nat.lt_of_succ_lt this) (Nat.lt_irrefl _)
  refine call_own BT.base (fun X => hbm.contains X) (X _ _ hC) (looks_findIn X hfI) (fun self => bind_fn X self tI) (one_size v) ?_
  refine bad_init (s := ⟨(hp.push (kdv_tup [v])).push (excO C hp.objs.size), g, dr, tk, os⟩) T hfI (X.keeps k) (G.keeps k) (GB.keeps k) hb (hlim.keeps k) hget hnx ?_ hg1 hb1 fun h' tk' dx t1 ⟨k', hx, dn, dne, hns⟩ => ?_
  · show A.depth + 1 < recursionLimit
    exact hroom
  · have old : ∀ b o, hp.get? b = some o → h'.get? b = some o := fun b o e => k' b o (Nat.ne_of_lt (Nat.lt_succ_of_lt (Heap.lt_size e))) (k b o e)
    have z : hp.objs.size + 1 + 1 ≤ dx := by
      first
        | (simpa only [Heap.size_push] using dn)
        | exact dn
        | (have q := dn; rw [Heap.size_push, Heap.size_push] at q; exact q)
    exact ⟨rfl, hq h' tk' (hp.objs.size + 1) dx ⟨old, Nat.le_succ _, ⟨_, _, hx, rfl, rfl, rfl, rfl⟩, Nat.le_trans (Nat.le_trans (Nat.le_succ _) (Nat.le_succ _)) z, dne, hns⟩⟩
end
end BadX
end PySem

namespace Dz
open PySem PySem.Spec PyProof.Rows L2
theorem relO_one {f : Str} {v : V} {v' : Value} (r : RelV v v') (y : Str) : RelO (List.lookup y [(f, v)]) (if y = f then some v' else none) := by
  by_cases hw : y = f
  · subst hw
    rw [if_pos rfl]
    have q : List.lookup y [(y, v)] = some v := by simp [List.lookup]
    rw [q]
    exact r
  · rw [if_neg hw]
    have qw : (y == f) = false := by simpa using hw
    have q2 : List.lookup y [(f, v)] = none := by simp [List.lookup, qw]
    rw [q2]
    trivial
section
variable {X : Cx} {C : Addr} {nme f : Str}
/-- C(e) -/
def tMkBad (C : Addr) (f : Str) (ta : TA) : L2.St → Hp → XK → Prop := fun s H Q => ta s H fun vs H1 => ∃ v, vs = [v] ∧ ∀ d, H1 d = none → Q (.ref C) (some d) (upd H1 d (.xd [(f, v)]))
theorem pmk_bad {a : Expr} {ta : TA} {p pos : Pos} {k : Nat} (T : PySem.BadX.BadTxt X.prog X.K X.mg nme f C) (hr : Room k X.A) (ha : PA X [a] ta) (hg : Gl X nme := by rfl) (hdb : (nme == ("__debug__" : Str)) = false := by decide)
    (he : starEach (a :: []) X.env = (false, eval a X.env) :: starEach [] X.env := by rfl) (hpl : (backTo pos (starEach [] X.env)).any (·.1) = false := by rfl) :
    PMk X (.Call (.Name nme p) [a] [] pos) (tMkBad C f ta) := by
  intro pins s s0 H Q I h
  refine wpAny_Call_Name_kw (ld_glob I hg T.gC ?_ hdb)
  refine PySem.W.callWith_K (h₀ := X.base) I.ok.mod.kin T.kC (thn (ha.run pos pins s s0 H _ I h) fun us s1 hh => ?_) he hpl
  obtain ⟨vs, H1, I1, r1, v, ev, q1⟩ := hh
  subst ev
  refine ⟨I1.kIn, ?_⟩
  cases r1 with
  | cons rv rn =>
    rename_i v' us'
    cases rn
    show wpAny _ _ (call (.ref C) [v']) _ _ _
    have hlim := I1.nolimit
    obtain ⟨mb, hmb, hboot⟩ := I1.mod.blt
    have GB := hmb.keeps I1.bk
    have G := I1.mod.glob.keeps I1.bk
    have hs : mb "super" = some (.type "super") := (hboot _ (by decide +kernel)).trans (by decide +kernel)
    obtain ⟨hp, g, dr, tk, os⟩ := s1
    refine wpAny_call (PySem.BadX.bad_made T I1.kIn G GB hs hlim (by have := hr.dp; omega) fun h' tk' e d M => ?_)
    show MkP X pins s0 Q (.ref e) ⟨h', g, dr, tk', os⟩
    obtain ⟨oe, fv, hoe, hc, hd, hdat, h1⟩ := M.obj
    have hns := M.ns
    obtain ⟨G', g1, g2⟩ := restrict h' fun b => decide (b ≠ e)
    have gk : ∀ b, b ≠ e → G'.get? b = h'.get? b := fun b hb => g1 b (decide_eq_true hb)
    have ge : G'.get? e = none := g2 e (by simp)
    have old : ∀ b o, hp.get? b = some o → G'.get? b = some o := fun b o q => (gk b (Nat.ne_of_lt (Nat.lt_of_lt_of_le (Heap.lt_size q) M.new))).trans (M.keep b o q)
    have ob : ObjOk X.prog X.w (upd H1 d (.xd [(f, v)])) G' d (.xd [(f, v)]) :=
      ⟨_, hns.at (fun o q => (gk d M.dne).trans q), fun y => relO_one rv y⟩
    have J : Inv X pins s0 (upd H1 d (.xd [(f, v)])) ⟨G', g, dr, tk', os⟩ := I1.laid (t' := tk') old M.dbig ob
    refine ⟨e, oe, fv, ⟨G', g, dr, tk', os⟩, _, .ref C, some d, rfl, J, fun b o q => ?_, ge, hoe, ⟨hc, hd⟩, hdat, h1, ?_, rfl, I1.bare, raises_own T.exC T.tyC, q1 d (I1.hok.fresh M.dbig)⟩
    · by_cases hb : b = e
      · have q' : G'.get? b = some o := q
        rw [hb, ge] at q'; cases q'
      · exact (gk b hb).symm.trans q
    · rw [upd_ne (Ne.symm M.dne)]
      exact I1.hok.fresh M.new
end
end Dz
/-! Dz, part C: operators over plain data, walks, for, while, comprehensions, calls. -/
namespace Dz
open PySem PySem.Spec PyProof.Rows L2

/-! ### data as PyData (for ==) -/
mutual
def D.py : D → Option PyData
  | .non => some .none
  | .bl b => some (.bool b)
  | .int i => some (.int i)
  | .str s => some (.str s)
  | .tup ds => (D.pys ds).map .tuple
  | .lst ds => (D.pys ds).map .list
  | .dct _ => none
  | .ref _ => none
  | .ty _ => none
  | .exc _ _ _ => none
  | .scr _ _ _ => none
  | .clo _ _ => none
def D.pys : List D → Option (List PyData)
  | [] => some []
  | d :: ds => match D.py d, D.pys ds with
    | some p, some ps => some (p :: ps)
    | _, _ => none
end
mutual
theorem rep_dp {K : PySem.W.Frag} {M : List Addr} {H : Hp} {v : V} {d : D} {p : PyData} : Rep M H v d → d.py = some p → Dp K H v p
  | .non, e => by rw [D.py] at e; cases e; exact .non
  | .bl b, e => by rw [D.py] at e; cases e; exact .bl b
  | .int b, e => by rw [D.py] at e; cases e; exact .int b
  | .str b, e => by rw [D.py] at e; cases e; exact .str b
  | .ty b, e => by rw [D.py] at e; cases e
  | .ref b, e => by rw [D.py] at e; cases e
  | .dct _ _ _, e => by rw [D.py] at e; cases e
  | .exc _ _ _, e => by rw [D.py] at e; cases e
  | .scr1 _ _ _, e => by rw [D.py] at e; cases e
  | .scr2 _, e => by rw [D.py] at e; cases e
  | .clo _ _, e => by rw [D.py] at e; cases e
  | .tup (ds := ds) h n r, e => by
    rw [D.py] at e
    cases q : D.pys ds with
    | none => rw [q] at e; cases e
    | some ps => rw [q] at e; cases e; exact .tup (.inl (.inl h)) (reps_dp r q)
  | .lst (ds := ds) h n r, e => by
    rw [D.py] at e
    cases q : D.pys ds with
    | none => rw [q] at e; cases e
    | some ps => rw [q] at e; cases e; exact .lst (.inl (.inl h)) (reps_dp r q)
theorem reps_dp {K : PySem.W.Frag} {M : List Addr} {H : Hp} {v : List V} {d : List D} {p : List PyData} : Reps M H v d → D.pys d = some p → DpAll K H v p
  | .nil, e => by rw [D.pys] at e; cases e; exact .nil
  | .cons (d := d) (ds := ds) a b, e => by
    rw [D.pys] at e
    cases q : D.py d with
    | none => rw [q] at e; cases e
    | some x =>
      cases q2 : D.pys ds with
      | none => rw [q, q2] at e; cases e
      | some xs => rw [q, q2] at e; cases e; exact .cons (rep_dp a q) (reps_dp b q2)
end

/-! ### the operators, for all kinds of values -/
def rAddI : R2 := rI0 fun i j => .int (i + j)
def rAddS : R2 := fun x y H Q => ∃ i j, x = .str i ∧ y = .str j ∧ i.length + j.length ≤ sizeLine ∧ Q (.str (i ++ j)) H
def rAdd (K : PySem.W.Frag) : R2 := fun x y H Q => rAddI x y H Q ∨ (rAddS x y H Q ∨ (rCat x y H Q ∨ rCatA K x y H Q))
def rSub : R2 := rI0 fun i j => .int (i - j)
def rMul : R2 := rI CMul fun i j => .int (i * j)
def rRepS : R2 := fun x y H Q => ∃ z n, x = .str z ∧ y = .int n ∧ PySem.MulOk z n ∧ Q (.str (Txt.mul z n)) H
def rMulA (K : PySem.W.Frag) : R2 := fun x y H Q => rMul x y H Q ∨ (rRepS x y H Q ∨ (rRep x y H Q ∨ rRepT K x y H Q))
def rDiv : R2 := rI CDivN fun i j => .int (i.fdiv j)
def rMod : R2 := rI (fun _ j => j ≠ 0) fun i j => .int (i.fmod j)
def rPow : R2 := rI CPow fun i j => .int (i ^ j.toNat)
def rLt (K : PySem.W.Frag) : R2 := fun x y H Q => rI0 (fun i j => .bl (decide (i < j))) x y H Q ∨ rLtT K x y H Q
def rLe (K : PySem.W.Frag) : R2 := fun x y H Q => rI0 (fun i j => .bl (decide (i ≤ j))) x y H Q ∨ rLeT K x y H Q
def rGt : R2 := rI0 fun i j => .bl (decide (j < i))
def rGe : R2 := rI0 fun i j => .bl (decide (j ≤ i))
def rEqA (K : PySem.W.Frag) : R2 := fun x y H Q => rEq x y H Q ∨ rEqD K x y H Q
def rNeA (K : PySem.W.Frag) : R2 := fun x y H Q => rNe x y H Q ∨ rNeD K x y H Q
def rIsN : R2 := fun x y H Q => y = .non ∧ Q (.bl (decide (x = .non))) H
def rNotN : R2 := fun x y H Q => y = .non ∧ Q (.bl (!decide (x = .non))) H
def rInSign : R2 := fun x y H Q => ∃ (c : Nat) (z : Str), x = .str ⟨#[c]⟩ ∧ y = .str z ∧ Q (.bl (decide (c ∈ z.cps.toList))) H
def rNiSign : R2 := fun x y H Q => ∃ (c : Nat) (z : Str), x = .str ⟨#[c]⟩ ∧ y = .str z ∧ Q (.bl (!decide (c ∈ z.cps.toList))) H
def rInA (K : PySem.W.Frag) : R2 := fun x y H Q => rIn K false x y H Q ∨ (rInSign x y H Q ∨ rInD K x y H Q)
def rNiA (K : PySem.W.Frag) : R2 := fun x y H Q => rIn K true x y H Q ∨ (rNiSign x y H Q ∨ rNotInD K x y H Q)
section
variable {X : Cx}
theorem op_repS : OpR X (binaryOp .Mult) rRepS := by
  intro pins s σ H x y v u Q I rx ry h
  obtain ⟨z, n, rfl, rfl, hk, q⟩ := h
  obtain ⟨t, rfl⟩ := rx
  obtain ⟨t2, rfl⟩ := ry
  exact PySem.SB.mul hk fun t' k => ⟨.str _, H, I.tok k, ⟨t', rfl⟩, q⟩
theorem o_add : OpR X (binaryOp .Add) (rAdd X.K) := (op_add).or ((op_add_str).or ((op_cat).or op_catA))
theorem o_sub : OpR X (binaryOp .Sub) rSub := op_sub
theorem o_mul : OpR X (binaryOp .Mult) (rMulA X.K) := (op_mul).or ((op_repS).or ((op_rep).or op_repT))
theorem o_div : OpR X (binaryOp .FloorDiv) rDiv := op_fdivN
theorem o_mod : OpR X (binaryOp .Mod) rMod := op_modN
theorem o_pow : OpR X (binaryOp .Pow) rPow := op_pow
theorem o_lt (hu : X.A.units < cLine) : OpR X (compareOp .Lt) (rLt X.K) := (op_lt).or (op_ltT hu)
theorem o_le (hu : X.A.units < cLine) : OpR X (compareOp .LtE) (rLe X.K) := (op_le).or (op_leT hu)
theorem o_gt : OpR X (compareOp .Gt) rGt := op_gt
theorem o_ge : OpR X (compareOp .GtE) rGe := op_ge
theorem o_eq (hu : X.A.units + 64 < cLine) : OpR X (compareOp .Eq) (rEqA X.K) := (op_eq).or (op_eqD hu)
theorem o_ne (hu : X.A.units + 64 < cLine) : OpR X (compareOp .NotEq) (rNeA X.K) := (op_ne).or (op_neD hu)
theorem o_is : OpR X (compareOp .Is) rIsN := op_isN
theorem o_isnot : OpR X (compareOp .IsNot) rNotN := op_notN
theorem o_in (hu : X.A.units + 65 < cLine) : OpR X (compareOp .In) (rInA X.K) := (op_in_seq).or ((op_in_sign).or (op_inD hu))
theorem o_notin (hu : X.A.units + 65 < cLine) : OpR X (compareOp .NotIn) (rNiA X.K) := (op_notIn_seq).or ((op_notIn_sign).or (op_notInD hu))
end

section
variable {K : PySem.W.Frag} {m : Sto} {Ph : PhiT}
theorem od_i {g : Int → Int → Int} {i j : Int} (k : Ph (.int (g i j)) m) : OpD (rI0 fun i j => .int (g i j)) (.int i) (.int j) m Ph := fun vx vy H Q rx ry st K => by
  cases rx; cases ry
  exact ⟨i, j, rfl, rfl, K _ H _ m k (Fr.refl m H) (.int _) st⟩
theorem od_b {g : Int → Int → Bool} {i j : Int} (k : Ph (.bl (g i j)) m) : OpD (rI0 fun i j => .bl (g i j)) (.int i) (.int j) m Ph := fun vx vy H Q rx ry st K => by
  cases rx; cases ry
  exact ⟨i, j, rfl, rfl, K _ H _ m k (Fr.refl m H) (.bl _) st⟩
theorem od_c {C : Int → Int → Prop} {g : Int → Int → Int} {i j : Int} (hc : C i j) (k : Ph (.int (g i j)) m) : OpD (rI C fun i j => .int (g i j)) (.int i) (.int j) m Ph := fun vx vy H Q rx ry st K => by
  cases rx; cases ry
  exact ⟨i, j, rfl, rfl, hc, K _ H _ m k (Fr.refl m H) (.int _) st⟩
theorem od_add {i j : Int} (k : Ph (.int (i + j)) m) : OpD (rAdd K) (.int i) (.int j) m Ph := fun vx vy H Q rx ry st K => .inl (od_i (g := fun i j => i + j) k vx vy H Q rx ry st K)
theorem od_adds {i j : Str} (hz : i.length + j.length ≤ sizeLine) (k : Ph (.str (i ++ j)) m) : OpD (rAdd K) (.str i) (.str j) m Ph := fun vx vy H Q rx ry st K => .inr (.inl (by
  cases rx; cases ry
  exact ⟨i, j, rfl, rfl, hz, K _ H _ m k (Fr.refl m H) (.str _) st⟩))
theorem reps_app {M : List Addr} {H : Hp} : ∀ {xs ys : List V} {ds es : List D}, Reps M H xs ds → Reps M H ys es → Reps M H (xs ++ ys) (ds ++ es)
  | _, _, _, _, .nil, s => s
  | _, _, _, _, .cons r t, s => .cons r (reps_app t s)
theorem od_addl {xs ys : List D} (hz : xs.length + ys.length ≤ sizeLine) (k : Ph (.lst (xs ++ ys)) m) : OpD (rAdd K) (.lst xs) (.lst ys) m Ph := fun vx vy H Q rx ry st K => .inr (.inr (.inl (by
  cases rx with
  | lst h1 n1 r1 => cases ry with
    | lst h2 n2 r2 => exact ⟨_, _, _, _, rfl, rfl, h1, h2, by rw [r1.len, r2.len]; exact hz, new_lst (reps_app r1 r2) st K k⟩)))
theorem od_addt {xs ys : List D} (hz : xs.length + ys.length ≤ sizeLine) (k : Ph (.tup (xs ++ ys)) m) : OpD (rAdd K) (.tup xs) (.tup ys) m Ph := fun vx vy H Q rx ry st K => .inr (.inr (.inr (by
  cases rx with
  | @tup a us ds h1 n1 r1 => cases ry with
    | @tup b ws es h2 n2 r2 =>
      refine ⟨_, _, _, _, rfl, rfl, .inl (.inl h1), .inl (.inl h2), by rw [r1.len, r2.len]; exact hz, fun e => ?_, fun _ e => ?_, fun _ _ => new_tup (reps_app r1 r2) st K k⟩
      · subst e
        cases r1
        exact K _ H _ m k (Fr.refl m H) (.tup h2 n2 r2) st
      · subst e
        cases r2
        rw [List.append_nil] at k
        exact K _ H _ m k (Fr.refl m H) (.tup h1 n1 r1) st)))
theorem od_sub {i j : Int} (k : Ph (.int (i - j)) m) : OpD rSub (.int i) (.int j) m Ph := od_i (g := fun i j => i - j) k
theorem od_mul {i j : Int} (hc : CMul i j) (k : Ph (.int (i * j)) m) : OpD (rMulA K) (.int i) (.int j) m Ph := fun vx vy H Q rx ry st K => .inl (od_c (g := fun i j => i * j) hc k vx vy H Q rx ry st K)
theorem od_reps {z : Str} {n : Int} (hk : PySem.MulOk z n) (k : Ph (.str (Txt.mul z n)) m) : OpD (rMulA K) (.str z) (.int n) m Ph := fun vx vy H Q rx ry st K => .inr (.inl (by
  cases rx; cases ry
  exact ⟨z, n, rfl, rfl, hk, K _ H _ m k (Fr.refl m H) (.str _) st⟩))
theorem reps_rep {M : List Addr} {H : Hp} {xs : List V} {ds : List D} (h : Reps M H xs ds) : ∀ k : Nat, Reps M H (List.replicate k xs).flatten (List.replicate k ds).flatten
  | 0 => .nil
  | k + 1 => reps_app h (reps_rep h k)
theorem od_rept {xs : List D} {k : Int} (h0 : xs ≠ []) (h1 : 2 ≤ k) (h2 : k ≤ 1000) (h3 : xs.length ≤ 1000) (q : Ph (.tup (List.replicate k.toNat xs).flatten) m) : OpD (rMulA K) (.tup xs) (.int k) m Ph := fun vx vy H Q rx ry st K => .inr (.inr (.inr (by
  cases ry
  cases rx with
  | tup h n r => exact ⟨_, _, _, rfl, rfl, .inl (.inl h), fun z => by subst z; cases r; exact h0 rfl, h1, h2, by rw [r.len]; exact h3, new_tup (reps_rep r _) st K q⟩)))
theorem od_div {i j : Int} (hc : CDivN i j) (k : Ph (.int (i.fdiv j)) m) : OpD rDiv (.int i) (.int j) m Ph := od_c (g := fun i j => i.fdiv j) hc k
theorem od_mod {i j : Int} (hc : j ≠ 0) (k : Ph (.int (i.fmod j)) m) : OpD rMod (.int i) (.int j) m Ph := od_c (C := fun _ j => j ≠ 0) (g := fun i j => i.fmod j) hc k
theorem od_pow {i j : Int} (hc : CPow i j) (k : Ph (.int (i ^ j.toNat)) m) : OpD rPow (.int i) (.int j) m Ph := od_c (g := fun i j => i ^ j.toNat) hc k
theorem od_lt {i j : Int} (k : Ph (.bl (decide (i < j))) m) : OpD (rLt K) (.int i) (.int j) m Ph := fun vx vy H Q rx ry st K => .inl (od_b (g := fun i j => decide (i < j)) k vx vy H Q rx ry st K)
theorem od_le {i j : Int} (k : Ph (.bl (decide (i ≤ j))) m) : OpD (rLe K) (.int i) (.int j) m Ph := fun vx vy H Q rx ry st K => .inl (od_b (g := fun i j => decide (i ≤ j)) k vx vy H Q rx ry st K)
theorem od_gt {i j : Int} (k : Ph (.bl (decide (j < i))) m) : OpD rGt (.int i) (.int j) m Ph := od_b (g := fun i j => decide (j < i)) k
theorem od_ge {i j : Int} (k : Ph (.bl (decide (j ≤ i))) m) : OpD rGe (.int i) (.int j) m Ph := od_b (g := fun i j => decide (j ≤ i)) k
theorem reps_ints {M : List Addr} {H : Hp} : ∀ {ns : List Int} {us : List V}, Reps M H us (ns.map D.int) → us = ns.map V.int
  | [], _, .nil => rfl
  | n :: ns, _, .cons a b => by
    cases a
    rw [reps_ints b]; rfl
/-- (a, b, ..) <= (c, d, ..), of ints -/
def leI (ns ms : List Int) : Bool := Ob.lexAt (fun j => decide (ns.getD j 0 = ms.getD j 0)) (fun j => decide (ns.getD j 0 ≤ ms.getD j 0)) (decide (ns.length ≤ ms.length)) 0 (min ns.length ms.length)
theorem od_let {ns ms : List Int} (k : Ph (.bl (leI ns ms)) m) : OpD (rLe K) (.tup (ns.map D.int)) (.tup (ms.map D.int)) m Ph := fun vx vy H Q rx ry st K => .inr (by
  cases rx with
  | tup h1 n1 r1 => cases ry with
    | tup h2 n2 r2 =>
      obtain rfl := reps_ints r1
      obtain rfl := reps_ints r2
      exact ⟨_, _, ns, ms, rfl, rfl, .inl (.inl h1), .inl (.inl h2), K _ H _ m k (Fr.refl m H) (.bl _) st⟩)
/-- == by kind: scalars -/
def D.scal : D → Option V
  | .non => some .non
  | .bl b => some (.bl b)
  | .int i => some (.int i)
  | .str s => some (.str s)
  | _ => none
theorem rep_scal {M : List Addr} {H : Hp} {v w : V} {d : D} (r : Rep M H v d) (e : d.scal = some w) : v = w := by
  cases r <;> simp [D.scal] at e <;> subst e <;> rfl
theorem od_eq {x y : D} {p q : PyData} (hx : x.py = some p) (hy : y.py = some q) (sx : SeqAt.shaped p = true) (sy : SeqAt.shaped q = true) (k : Ph (.bl (PyData.eqv p q)) m) : OpD (rEqA K) x y m Ph := fun vx vy H Q rx ry st K =>
  .inr ⟨p, q, rep_dp rx hx, rep_dp ry hy, sx, sy, K _ H _ m k (Fr.refl m H) (.bl _) st⟩
theorem od_ne {x y : D} {p q : PyData} (hx : x.py = some p) (hy : y.py = some q) (sx : SeqAt.shaped p = true) (sy : SeqAt.shaped q = true) (k : Ph (.bl (!PyData.eqv p q)) m) : OpD (rNeA K) x y m Ph := fun vx vy H Q rx ry st K =>
  .inr ⟨p, q, rep_dp rx hx, rep_dp ry hy, sx, sy, K _ H _ m k (Fr.refl m H) (.bl _) st⟩
theorem od_eqv {x y : D} {v w : V} (hx : x.scal = some v) (hy : y.scal = some w) (hs : scal v w = true) (k : Ph (.bl (decide (v = w))) m) : OpD (rEqA K) x y m Ph := fun vx vy H Q rx ry st K => by
  cases rep_scal rx hx
  cases rep_scal ry hy
  exact .inl ⟨hs, K _ H _ m k (Fr.refl m H) (.bl _) st⟩
theorem od_nev {x y : D} {v w : V} (hx : x.scal = some v) (hy : y.scal = some w) (hs : scal v w = true) (k : Ph (.bl (!decide (v = w))) m) : OpD (rNeA K) x y m Ph := fun vx vy H Q rx ry st K => by
  cases rep_scal rx hx
  cases rep_scal ry hy
  exact .inl ⟨hs, K _ H _ m k (Fr.refl m H) (.bl _) st⟩
/-- == of two ints, of two texts -/
theorem od_eqi {i j : Int} (k : Ph (.bl (i == j)) m) : OpD (rEqA K) (.int i) (.int j) m Ph := od_eqv (v := .int i) (w := .int j) rfl rfl rfl (by rw [dec_int]; exact k)
theorem od_nei {i j : Int} (k : Ph (.bl (!(i == j))) m) : OpD (rNeA K) (.int i) (.int j) m Ph := od_nev (v := .int i) (w := .int j) rfl rfl rfl (by rw [dec_int]; exact k)
theorem od_eqs {i j : Str} (k : Ph (.bl (i == j)) m) : OpD (rEqA K) (.str i) (.str j) m Ph := od_eqv (v := .str i) (w := .str j) rfl rfl rfl (by rw [dec_str]; exact k)
theorem od_nes {i j : Str} (k : Ph (.bl (!(i == j))) m) : OpD (rNeA K) (.str i) (.str j) m Ph := od_nev (v := .str i) (w := .str j) rfl rfl rfl (by rw [dec_str]; exact k)
def D.isNon : D → Bool
  | .non => true
  | _ => false
theorem rep_non {M : List Addr} {H : Hp} {v : V} {d : D} (r : Rep M H v d) : decide (v = .non) = d.isNon := by
  cases r <;> simp [D.isNon]
theorem od_is {x : D} (k : Ph (.bl x.isNon) m) : OpD rIsN x .non m Ph := fun vx vy H Q rx ry st K => by
  cases ry
  refine ⟨rfl, ?_⟩
  rw [rep_non rx]
  exact K _ H _ m k (Fr.refl m H) (.bl _) st
theorem od_isnot {x : D} (k : Ph (.bl (!x.isNon)) m) : OpD rNotN x .non m Ph := fun vx vy H Q rx ry st K => by
  cases ry
  refine ⟨rfl, ?_⟩
  rw [rep_non rx]
  exact K _ H _ m k (Fr.refl m H) (.bl _) st
theorem od_insign {c : Nat} {z : Str} (k : Ph (.bl (decide (c ∈ z.cps.toList))) m) : OpD (rInA K) (.str ⟨#[c]⟩) (.str z) m Ph := fun vx vy H Q rx ry st K => .inr (.inl (by
  cases rx; cases ry
  exact ⟨c, z, rfl, rfl, K _ H _ m k (Fr.refl m H) (.bl _) st⟩))
theorem od_nisign {c : Nat} {z : Str} (k : Ph (.bl (!decide (c ∈ z.cps.toList))) m) : OpD (rNiA K) (.str ⟨#[c]⟩) (.str z) m Ph := fun vx vy H Q rx ry st K => .inr (.inl (by
  cases rx; cases ry
  exact ⟨c, z, rfl, rfl, K _ H _ m k (Fr.refl m H) (.bl _) st⟩))
/-- flat data and its value -/
def D.flat : D → Option V
  | .non => some .non
  | .bl b => some (.bl b)
  | .int i => some (.int i)
  | .str s => some (.str s)
  | _ => none
theorem rep_flat {M : List Addr} {H : Hp} {v w : V} {d : D} (r : Rep M H v d) (e : d.flat = some w) : v = w ∧ flatV w = true := by
  cases r <;> simp [D.flat] at e <;> subst e <;> exact ⟨rfl, rfl⟩
def D.flats : List D → Option (List V)
  | [] => some []
  | d :: ds => match D.flat d, D.flats ds with
    | some p, some ps => some (p :: ps)
    | _, _ => none
theorem reps_flat {M : List Addr} {H : Hp} : ∀ {v w : List V} {d : List D}, Reps M H v d → D.flats d = some w → v = w ∧ w.all flatV = true
  | _, _, _, .nil, e => by rw [D.flats] at e; cases e; exact ⟨rfl, rfl⟩
  | _, _, _, .cons (d := d) (ds := ds) a b, e => by
    rw [D.flats] at e
    cases q : D.flat d with
    | none => rw [q] at e; cases e
    | some x =>
      cases q2 : D.flats ds with
      | none => rw [q, q2] at e; cases e
      | some xs =>
        rw [q, q2] at e; cases e
        obtain ⟨h1, h2⟩ := rep_flat a q
        obtain ⟨h3, h4⟩ := reps_flat b q2
        rw [h1, h3]
        exact ⟨rfl, by rw [List.all_cons, h2, h4]; rfl⟩
theorem od_in {x : D} {ys : List D} {v : V} {vs : List V} (hx : x.flat = some v) (hy : D.flats ys = some vs) (k : Ph (.bl (inV v vs)) m) {y : D} (e : y = .tup ys ∨ y = .lst ys) : OpD (rInA K) x y m Ph := fun vx vy H Q rx ry st K => .inl (by
  obtain ⟨e1, f1⟩ := rep_flat rx hx
  subst e1
  rcases e with e | e <;> subst e
  · cases ry with
    | tup h n r =>
      obtain ⟨e2, f2⟩ := reps_flat r hy
      subst e2
      exact ⟨_, _, rfl, .inr (.inl (.inl h)), f1, f2, K _ H _ m k (Fr.refl m H) (.bl _) st⟩
  · cases ry with
    | lst h n r =>
      obtain ⟨e2, f2⟩ := reps_flat r hy
      subst e2
      exact ⟨_, _, rfl, .inl (.inl (.inl h)), f1, f2, K _ H _ m k (Fr.refl m H) (.bl _) st⟩)
theorem od_ni {x : D} {ys : List D} {v : V} {vs : List V} (hx : x.flat = some v) (hy : D.flats ys = some vs) (k : Ph (.bl (!inV v vs)) m) {y : D} (e : y = .tup ys ∨ y = .lst ys) : OpD (rNiA K) x y m Ph := fun vx vy H Q rx ry st K => .inl (by
  obtain ⟨e1, f1⟩ := rep_flat rx hx
  subst e1
  rcases e with e | e <;> subst e
  · cases ry with
    | tup h n r =>
      obtain ⟨e2, f2⟩ := reps_flat r hy
      subst e2
      exact ⟨_, _, rfl, .inr (.inl (.inl h)), f1, f2, K _ H _ m k (Fr.refl m H) (.bl _) st⟩
  · cases ry with
    | lst h n r =>
      obtain ⟨e2, f2⟩ := reps_flat r hy
      subst e2
      exact ⟨_, _, rfl, .inl (.inl (.inl h)), f1, f2, K _ H _ m k (Fr.refl m H) (.bl _) st⟩)
theorem ud_neg {i : Int} (k : Ph (.int (-i)) m) : UnD (rU fun i => .int (-i)) (.int i) m Ph := fun vx H Q rx st K => by
  cases rx
  exact ⟨i, rfl, K _ H _ m k (Fr.refl m H) (.int _) st⟩
end

/-! ### chains -/
section
variable {W : WX} {Ps : PsiT} {r : Rho} {m : Sto} {Ph : PhiT} {ta tb tc td : TE}
theorem wt_chain {o1 o2 : R2} (h : WT W Ps ta r m fun x m1 => WT W Ps tb r m1 fun y m2 => OpD o1 x y m2 fun z m3 => ∃ k, z = .bl k ∧
    (k = true → WT W Ps tc r m3 fun u m4 => OpD o2 y u m4 Ph) ∧ (k = false → Ph (.bl false) m3)) : WT W Ps (tChain o1 o2 ta tb tc) r m Ph := fun s H Q R X K =>
  h s H _ R X fun v H1 x m1 h1 f1 r1 s1 => h1 s H1 _ (f1.rel R s1) (X.go f1) fun w H2 y m2 h2 f2 r2 s2 => h2 v w H2 _ (f2.rep r1) r2 s2 fun z H3 dz m3 h3 f3 r3 s3 => by
    obtain ⟨k, e, h4, h5⟩ := h3
    subst e
    cases r3
    have f := (f1.trans f2).trans f3
    refine ⟨k, rfl, ?_⟩
    cases k with
    | true => exact iteT (h4 rfl s H3 _ (f.rel R s3) (X.go f) fun u H4 du m4 h6 f4 r4 s4 => h6 w u H4 Q ((f3.trans f4).rep r2) r4 s4 (K.go (f.trans f4)))
    | false => exact iteF (K _ H3 _ m3 (h5 rfl) f (.bl _) s3)
theorem wt_chain3 {o1 o2 o3 : R2} (h : WT W Ps ta r m fun x m1 => WT W Ps tb r m1 fun y m2 => OpD o1 x y m2 fun z m3 => ∃ k, z = .bl k ∧
    (k = true → WT W Ps tc r m3 fun u m4 => OpD o2 y u m4 fun z m5 => ∃ k, z = .bl k ∧ (k = true → WT W Ps td r m5 fun q m6 => OpD o3 u q m6 Ph) ∧ (k = false → Ph (.bl false) m5)) ∧ (k = false → Ph (.bl false) m3)) : WT W Ps (tChain3 o1 o2 o3 ta tb tc td) r m Ph := fun s H Q R X K =>
  h s H _ R X fun v H1 x m1 h1 f1 r1 s1 => h1 s H1 _ (f1.rel R s1) (X.go f1) fun w H2 y m2 h2 f2 r2 s2 => h2 v w H2 _ (f2.rep r1) r2 s2 fun z H3 dz m3 h3 f3 r3 s3 => by
    obtain ⟨k, e, h4, h5⟩ := h3
    subst e
    cases r3
    have f := (f1.trans f2).trans f3
    refine ⟨k, rfl, ?_⟩
    cases k with
    | true =>
      refine iteT (h4 rfl s H3 _ (f.rel R s3) (X.go f) fun u H4 du m4 h6 f4 r4 s4 => h6 w u H4 _ ((f3.trans f4).rep r2) r4 s4 fun z2 H5 dz2 m5 h7 f5 r5 s5 => ?_)
      obtain ⟨k, e, h8, h9⟩ := h7
      subst e
      cases r5
      have g := (f.trans f4).trans f5
      refine ⟨k, rfl, ?_⟩
      cases k with
      | true => exact iteT (h8 rfl s H5 _ (g.rel R s5) (X.go g) fun q H6 dq m6 h10 f6 r6 s6 => h10 u q H6 Q ((f5.trans f6).rep r4) r6 s6 (K.go (g.trans f6)))
      | false => exact iteF (K _ H5 _ m5 (h9 rfl) g (.bl _) s5)
    | false => exact iteF (K _ H3 _ m3 (h5 rfl) f (.bl _) s3)
end

/-! ### calls of defs -/
section
variable {W : WX} {Ps : PsiT} {r : Rho} {m : Sto} {Ph : PhiT} {ta tk : TA} {sp : SpD}
theorem reps_of_vals {dvs : List V} {M : List Addr} {H : Hp} {ds : List D} (h : D.flats ds = some dvs) : Reps M H dvs ds := by
  induction ds generalizing dvs with
  | nil => rw [D.flats] at h; cases h; exact .nil
  | cons d ds ih =>
    rw [D.flats] at h
    cases q : D.flat d with
    | none => rw [q] at h; cases h
    | some x =>
      cases q2 : D.flats ds with
      | none => rw [q, q2] at h; cases h
      | some xs =>
        rw [q, q2] at h; cases h
        refine .cons ?_ (ih q2)
        cases d <;> simp [D.flat] at q <;> subst q <;> constructor
def vD : V → D
  | .bl b => .bl b
  | .int i => .int i
  | .str s => .str s
  | _ => .non
/-- a call that raises nothing -/
theorem wt_call0 {dvs : List V} (h : WA W Ps ta r m fun xs m1 => sp (xs ++ dvs.map vD) m1 Ph fun _ _ _ => False) (hd : D.flats (dvs.map vD) = some dvs := by rfl) : WT W Ps (tCallG (lift sp) dvs (fun _ => E0) ta) r m Ph := fun s H Q R X K =>
  h s H _ R X fun vs H1 xs m1 h1 f1 r1 s1 => ⟨xs ++ dvs.map vD, m1, Ph, _, reps_app r1 (reps_of_vals hd), s1, h1, K.go f1, fun _ _ _ _ _ p => p.elim⟩
theorem wt_callk0 {gV : List V → List V → List V} {gD : List D → List D → List D} (hg : ∀ {M : List Addr} {H : Hp} {vs zs : List V} {ds es : List D}, Reps M H vs ds → Reps M H zs es → Reps M H (gV vs zs) (gD ds es))
    (h : WA W Ps ta r m fun xs m1 => WA W Ps tk r m1 fun ys m2 => sp (gD xs ys) m2 Ph fun _ _ _ => False) : WT W Ps (tCallGK (lift sp) gV (fun _ => E0) ta tk) r m Ph := fun s H Q R X K =>
  h s H _ R X fun vs H1 xs m1 h1 f1 r1 s1 => h1 s H1 _ (f1.rel R s1) (X.go f1) fun zs H2 ys m2 h2 f2 r2 s2 =>
    ⟨gD xs ys, m2, Ph, _, hg (f2.reps r1) r2, s2, h2, K.go (f1.trans f2), fun _ _ _ _ _ p => p.elim⟩
/-- a call of a def that keeps sp; dvs: the defaults -/
theorem wt_call {dvs : List V} (h : WA W Ps ta r m fun xs m1 => sp (xs ++ dvs.map vD) m1 Ph fun cls fs m' => Ps cls fs r m') (hd : D.flats (dvs.map vD) = some dvs := by rfl) : WT W Ps (tCallG (lift sp) dvs (WE W) ta) r m Ph := fun s H Q R X K =>
  h s H _ R X fun vs H1 xs m1 h1 f1 r1 s1 => ⟨xs ++ dvs.map vD, m1, Ph, _, reps_app r1 (reps_of_vals hd), s1, h1, K.go f1, fun cls d fs H' m' p f q t => X cls d fs s H' r m' p (f1.trans f) q ((f1.trans f).rel R t)⟩
theorem wt_callk {gV : List V → List V → List V} {gD : List D → List D → List D} (hg : ∀ {M : List Addr} {H : Hp} {vs zs : List V} {ds es : List D}, Reps M H vs ds → Reps M H zs es → Reps M H (gV vs zs) (gD ds es))
    (h : WA W Ps ta r m fun xs m1 => WA W Ps tk r m1 fun ys m2 => sp (gD xs ys) m2 Ph fun cls fs m' => Ps cls fs r m') : WT W Ps (tCallGK (lift sp) gV (WE W) ta tk) r m Ph := fun s H Q R X K =>
  h s H _ R X fun vs H1 xs m1 h1 f1 r1 s1 => h1 s H1 _ (f1.rel R s1) (X.go f1) fun zs H2 ys m2 h2 f2 r2 s2 =>
    ⟨gD xs ys, m2, Ph, _, hg (f2.reps r1) r2, s2, h2, K.go (f1.trans f2), fun cls d fs H' m' p f q t => X cls d fs s H' r m' p ((f1.trans f2).trans f) q (((f1.trans f2).trans f).rel R t)⟩
end

/-! ### walks -/
structure ItD (J : It) (G : Sto → Hp → Prop) (ds : List D) : Prop where
  mono : ∀ m m' H H', Fr m m' H H' → G m H → G m' H'
  go : ∀ (i : Nat) m H, G m H → i < ds.length → J.go i H
  stop : ∀ m H, G m H → J.stop ds.length H
  yld : ∀ (i : Nat) m H x H', G m H → StoR m H → J.yld i H x H' → ∀ d, ds[i]? = some d → (∀ a o, H a = some o → H' a = some o) ∧ Rep (dom m) H' x d ∧ StoR m H'
def WI (W : WX) (Ps : PsiT) (t : TI) (r : Rho) (m : Sto) (Ph : List D → Sto → Prop) : Prop := ∀ (s : L2.St) (H : Hp) (R : It → Hp → Prop), Rel m H s r → XT W m H Ps →
  (∀ (J : It) (H' : Hp) (ds : List D) (m' : Sto) (G : Sto → Hp → Prop), Ph ds m' → Fr m m' H H' → StoR m' H' → ItD J G ds → G m' H' → R J H') → t s H R
theorem Reps.get {M : List Addr} {H : Hp} : ∀ {vs : List V} {ds : List D} {i : Nat} {v : V} {d : D}, Reps M H vs ds → vs[i]? = some v → ds[i]? = some d → Rep M H v d
  | _, _, 0, _, _, .cons a _, h1, h2 => by
    simp at h1 h2
    subst h1; subst h2
    exact a
  | _, _, i + 1, _, _, .cons _ t, h1, h2 => Reps.get (i := i) t (by simpa using h1) (by simpa using h2)
  | _, _, i, _, _, .nil, h1, h2 => by simp at h1
theorem itd_list {K : PySem.W.Frag} {a : Addr} {ds : List D} : ItD (Itl K a) (fun m H => ∃ xs, H a = some (.lst xs) ∧ a ∉ dom m ∧ Reps (dom m) H xs ds) ds where
  mono := fun m m' H H' f ⟨xs, e, n, r⟩ => ⟨xs, f.keep _ _ e (fun _ z => nomatch z) n, f.notin _ _ e (fun _ z => nomatch z) n, f.reps r⟩
  go := fun i m H ⟨xs, e, n, r⟩ h => by
    have h' : i < xs.length := by rw [r.len]; exact h
    exact ⟨xs, xs[i], .inl (.inl e), by simp [h']⟩
  stop := fun m H ⟨xs, e, n, r⟩ => ⟨xs, .inl (.inl e), by rw [r.len]; exact Nat.le_refl _⟩
  yld := fun i m H x H' ⟨xs, e, n, r⟩ st y d hd => by
    obtain ⟨rfl, y⟩ := y
    exact ⟨fun _ _ h => h, r.get (y xs (.inl (.inl e))) hd, st⟩
theorem itd_tup {K : PySem.W.Frag} {a : Addr} {ds : List D} : ItD (Itt K a) (fun m H => ∃ xs, H a = some (.tup xs) ∧ a ∉ dom m ∧ Reps (dom m) H xs ds) ds where
  mono := fun m m' H H' f ⟨xs, e, n, r⟩ => ⟨xs, f.keep _ _ e (fun _ z => nomatch z) n, f.notin _ _ e (fun _ z => nomatch z) n, f.reps r⟩
  go := fun i m H ⟨xs, e, n, r⟩ h => by
    have h' : i < xs.length := by rw [r.len]; exact h
    exact ⟨xs, xs[i], .inl (.inl e), by simp [h']⟩
  stop := fun m H ⟨xs, e, n, r⟩ => ⟨xs, .inl (.inl e), by rw [r.len]; exact Nat.le_refl _⟩
  yld := fun i m H x H' ⟨xs, e, n, r⟩ st y d hd => by
    obtain ⟨rfl, y⟩ := y
    exact ⟨fun _ _ h => h, r.get (y xs (.inl (.inl e))) hd, st⟩
/-- lo, lo + 1, .. -/
def rngD (lo : Int) (n : Nat) : List D := (List.range n).map fun i => D.int (lo + (i : Nat))
theorem rngD_len (lo : Int) (n : Nat) : (rngD lo n).length = n := by simp [rngD]
theorem rngD_get {lo : Int} {n i : Nat} {d : D} (h : (rngD lo n)[i]? = some d) : i < n ∧ d = .int (lo + (i : Nat)) := by
  unfold rngD at h
  rw [List.getElem?_map] at h
  rcases Nat.lt_or_ge i n with c | c
  · rw [List.getElem?_range c] at h
    exact ⟨c, (Option.some.inj h).symm⟩
  · rw [List.getElem?_eq_none (by simpa using c)] at h
    cases h
theorem itd_rng {lo : Int} {n : Nat} : ItD (Itr lo n) (fun _ _ => True) (rngD lo n) where
  mono := fun _ _ _ _ _ _ => trivial
  go := fun i m H _ h => by rw [rngD_len] at h; exact h
  stop := fun m H _ => by rw [rngD_len]; exact Nat.le_refl n
  yld := fun i m H x H' _ st y d hd => by
    obtain ⟨rfl, rfl⟩ := y
    obtain ⟨_, rfl⟩ := rngD_get hd
    exact ⟨fun _ _ h => h, .int _, st⟩
def signsD (x : Str) : List D := x.cps.toList.map fun c => D.str ⟨#[c]⟩
theorem itd_str {x : Str} : ItD (Its x) (fun _ _ => True) (signsD x) where
  mono := fun _ _ _ _ _ _ => trivial
  go := fun i m H _ h => by simp [signsD] at h; exact h
  stop := fun m H _ => by
    show x.cps.size ≤ (signsD x).length
    simp [signsD]
  yld := fun i m H v H' _ st y d hd => by
    obtain ⟨rfl, c, hc, rfl⟩ := y
    unfold signsD at hd
    rw [List.getElem?_map] at hd
    have e : x.cps.toList[i]? = some c := by simpa using hc
    rw [e] at hd
    cases hd
    exact ⟨fun _ _ h => h, .str _, st⟩
/-- (0, x), (1, y), .. -/
def enumD (ds : List D) : List D := (List.range ds.length).map fun i => D.tup [.int (i : Nat), ds.getD i .non]
theorem enumD_len (ds : List D) : (enumD ds).length = ds.length := by simp [enumD]
theorem enumD_get {ds : List D} {i : Nat} {d : D} (h : (enumD ds)[i]? = some d) : ∃ x, ds[i]? = some x ∧ d = .tup [.int (i : Nat), x] := by
  unfold enumD at h
  rw [List.getElem?_map] at h
  rcases Nat.lt_or_ge i ds.length with c | c
  · rw [List.getElem?_range c] at h
    refine ⟨ds[i], by simp [c], ?_⟩
    have e := (Option.some.inj h).symm
    rw [e]
    simp [c]
  · rw [List.getElem?_eq_none (by simpa using c)] at h
    cases h
theorem enum_yld {m : Sto} {H : Hp} {T : Addr} {x : V} {d : D} {i : Nat} (st : StoR m H) (nT : H T = none) (q : Rep (dom m) H x d) :
    (∀ a o, H a = some o → (upd H T (.tup [.int (i : Nat), x])) a = some o) ∧ Rep (dom m) (upd H T (.tup [.int (i : Nat), x])) (.ref T) (.tup [.int (i : Nat), d]) ∧ StoR m (upd H T (.tup [.int (i : Nat), x])) :=
  ⟨fun a o e => by rw [upd_ne (ne_of_none e nT)]; exact e, .tup upd_same (st.fresh nT) (.cons (.int _) (.cons ((Fr.new nT).rep q) .nil)), st.new nT⟩
theorem itd_enumL {K : PySem.W.Frag} {a : Addr} {ds : List D} : ItD (Ite K a) (fun m H => ∃ xs, H a = some (.lst xs) ∧ a ∉ dom m ∧ Reps (dom m) H xs ds) (enumD ds) where
  mono := fun m m' H H' f ⟨xs, e, n, r⟩ => ⟨xs, f.keep _ _ e (fun _ z => nomatch z) n, f.notin _ _ e (fun _ z => nomatch z) n, f.reps r⟩
  go := fun i m H ⟨xs, e, n, r⟩ h => by
    have h' : i < xs.length := by rw [r.len, ← enumD_len]; exact h
    exact ⟨xs, xs[i], .inl (.inl e), by simp [h']⟩
  stop := fun m H ⟨xs, e, n, r⟩ => ⟨xs, .inl (.inl e), by rw [r.len, enumD_len]; exact Nat.le_refl _⟩
  yld := fun i m H x H' ⟨xs, e, n, r⟩ st y d hd => by
    obtain ⟨T, v, rfl, nT, rfl, y⟩ := y
    obtain ⟨z, hz, rfl⟩ := enumD_get hd
    exact enum_yld st nT (r.get (y xs (.inl (.inl e))) hz)
theorem itd_enumT {K : PySem.W.Frag} {a : Addr} {ds : List D} : ItD (IteT K a) (fun m H => ∃ xs, H a = some (.tup xs) ∧ a ∉ dom m ∧ Reps (dom m) H xs ds) (enumD ds) where
  mono := fun m m' H H' f ⟨xs, e, n, r⟩ => ⟨xs, f.keep _ _ e (fun _ z => nomatch z) n, f.notin _ _ e (fun _ z => nomatch z) n, f.reps r⟩
  go := fun i m H ⟨xs, e, n, r⟩ h => by
    have h' : i < xs.length := by rw [r.len, ← enumD_len]; exact h
    exact ⟨xs, xs[i], .inl (.inl e), by simp [h']⟩
  stop := fun m H ⟨xs, e, n, r⟩ => ⟨xs, .inl (.inl e), by rw [r.len, enumD_len]; exact Nat.le_refl _⟩
  yld := fun i m H x H' ⟨xs, e, n, r⟩ st y d hd => by
    obtain ⟨T, v, rfl, nT, rfl, y⟩ := y
    obtain ⟨z, hz, rfl⟩ := enumD_get hd
    exact enum_yld st nT (r.get (y xs (.inl (.inl e))) hz)

theorem scr_sq {K : PySem.W.Frag} {M : List Addr} {H : Hp} {v : V} {a : Addr} {ns : List Int} (r : Rep M H v (.scr K a ns)) : v = .ref a ∧ SqL K H a (ns.map V.int) := by
  cases r with
  | scr1 h e n =>
    rcases e with e | ⟨o, e⟩
    · subst e; exact ⟨rfl, .inl (.inl h)⟩
    · subst e; exact ⟨rfl, .inl (.inr ⟨o, h⟩)⟩
  | scr2 h => exact ⟨rfl, .inr h⟩
theorem itd_scr {K : PySem.W.Frag} {a : Addr} {ns : List Int} : ItD (Itl K a) (fun m H => Rep (dom m) H (.ref a) (.scr K a ns)) (ns.map D.int) where
  mono := fun m m' H H' f r => f.rep r
  go := fun i m H r h => by
    have h' : i < (ns.map V.int).length := by simpa using h
    exact ⟨ns.map V.int, (ns.map V.int)[i], (scr_sq r).2, by simp at h'; simp [h']⟩
  stop := fun m H r => ⟨ns.map V.int, (scr_sq r).2, by simp⟩
  yld := fun i m H x H' r st y d hd => by
    obtain ⟨rfl, y⟩ := y
    have e := y _ (scr_sq r).2
    rw [List.getElem?_map] at e hd
    cases q : ns[i]? with
    | none => rw [q] at hd; cases hd
    | some n =>
      rw [q] at e hd
      cases e; cases hd
      exact ⟨fun _ _ h => h, .int n, st⟩
theorem itd_enumS {K : PySem.W.Frag} {a : Addr} {ns : List Int} : ItD (Ite K a) (fun m H => Rep (dom m) H (.ref a) (.scr K a ns)) (enumD (ns.map D.int)) where
  mono := fun m m' H H' f r => f.rep r
  go := fun i m H r h => by
    have h' : i < (ns.map V.int).length := by simpa [enumD_len] using h
    exact ⟨ns.map V.int, (ns.map V.int)[i], (scr_sq r).2, by simp at h'; simp [h']⟩
  stop := fun m H r => ⟨ns.map V.int, (scr_sq r).2, by simp [enumD_len]⟩
  yld := fun i m H x H' r st y d hd => by
    obtain ⟨T, v, rfl, nT, rfl, y⟩ := y
    obtain ⟨z, hz, rfl⟩ := enumD_get hd
    have e := y _ (scr_sq r).2
    rw [List.getElem?_map] at e hz
    cases q : ns[i]? with
    | none => rw [q] at hz; cases hz
    | some n =>
      rw [q] at e hz
      cases e; cases hz
      exact enum_yld st nT (.int n)

section
variable {W : WX} {Ps : PsiT} {r : Rho} {m : Sto} {te : TE} {ta : TA} {Ph : List D → Sto → Prop} {K : PySem.W.Frag}
theorem wi_seqS {a : Addr} {ns : List Int} (h : WT W Ps te r m fun d m1 => d = .scr K a ns ∧ Ph (ns.map D.int) m1) : WI W Ps (iSeq K te) r m Ph := fun s H R Rl X k =>
  h s H _ Rl X fun v H1 d m1 h1 f1 r1 s1 => by
    obtain ⟨e, h2⟩ := h1
    subst e
    obtain ⟨rfl, q⟩ := scr_sq r1
    exact ⟨_, _, rfl, .inl ⟨q, k _ H1 _ m1 _ h2 f1 s1 itd_scr r1⟩⟩
theorem wi_enumS {a : Addr} {ns : List Int} (h : WA W Ps ta r m fun xs m1 => xs = [.scr K a ns] ∧ Ph (enumD (ns.map D.int)) m1) : WI W Ps (iEnumA K ta) r m Ph := fun s H R Rl X k =>
  h s H _ Rl X fun v H1 xs m1 h1 f1 r1 s1 => by
    obtain ⟨e, h2⟩ := h1
    subst e
    cases r1 with
    | cons q0 b =>
      cases b
      obtain ⟨rfl, q⟩ := scr_sq q0
      exact ⟨_, _, rfl, .inl ⟨q, k _ H1 _ m1 _ h2 f1 s1 itd_enumS q0⟩⟩
theorem wi_seq (h : WT W Ps te r m fun d m1 => ∃ ds, (d = .lst ds ∨ d = .tup ds) ∧ Ph ds m1) : WI W Ps (iSeq K te) r m Ph := fun s H R Rl X k =>
  h s H _ Rl X fun v H1 d m1 h1 f1 r1 s1 => by
    obtain ⟨ds, e, h2⟩ := h1
    rcases e with e | e <;> subst e
    · cases r1 with
      | lst e n q => exact ⟨_, _, rfl, .inl ⟨.inl (.inl e), k _ H1 ds m1 _ h2 f1 s1 itd_list ⟨_, e, n, q⟩⟩⟩
    · cases r1 with
      | tup e n q => exact ⟨_, _, rfl, .inr ⟨.inl (.inl e), k _ H1 ds m1 _ h2 f1 s1 itd_tup ⟨_, e, n, q⟩⟩⟩
theorem wi_str (h : WT W Ps te r m fun d m1 => ∃ x, d = .str x ∧ Ph (signsD x) m1) : WI W Ps (iStr te) r m Ph := fun s H R Rl X k =>
  h s H _ Rl X fun v H1 d m1 h1 f1 r1 s1 => by
    obtain ⟨x, e, h2⟩ := h1
    subst e
    cases r1
    exact ⟨x, rfl, k _ H1 _ m1 _ h2 f1 s1 itd_str trivial⟩
theorem wi_rng1 (h : WA W Ps ta r m fun ds m1 => ∃ j : Int, ds = [.int j] ∧ -(2 ^ 62) ≤ j ∧ j < 2 ^ 62 ∧ Ph (rngD 0 j.toNat) m1) : WI W Ps (iRng1 ta) r m Ph := fun s H R Rl X k =>
  h s H _ Rl X fun v H1 d m1 h1 f1 r1 s1 => by
    obtain ⟨j, e, b1, b2, h2⟩ := h1
    subst e
    cases r1 with
    | cons a b =>
      cases a; cases b
      exact ⟨j, rfl, b1, b2, k _ H1 _ m1 _ h2 f1 s1 itd_rng trivial⟩
theorem wi_rng2 (h : WA W Ps ta r m fun ds m1 => ∃ i j : Int, ds = [.int i, .int j] ∧ (-(2 ^ 62) ≤ i ∧ i < 2 ^ 62 ∧ -(2 ^ 62) ≤ j ∧ j < 2 ^ 62) ∧ Ph (rngD i (j - i).toNat) m1) : WI W Ps (iRng2 ta) r m Ph := fun s H R Rl X k =>
  h s H _ Rl X fun v H1 d m1 h1 f1 r1 s1 => by
    obtain ⟨i, j, e, b1, h2⟩ := h1
    subst e
    cases r1 with
    | cons a b =>
      cases a
      cases b with
      | cons c e =>
        cases c; cases e
        exact ⟨i, j, rfl, b1, k _ H1 _ m1 _ h2 f1 s1 itd_rng trivial⟩
theorem wi_enum (h : WA W Ps ta r m fun xs m1 => ∃ d ds, xs = [d] ∧ (d = .lst ds ∨ d = .tup ds) ∧ Ph (enumD ds) m1) : WI W Ps (iEnumA K ta) r m Ph := fun s H R Rl X k =>
  h s H _ Rl X fun v H1 xs m1 h1 f1 r1 s1 => by
    obtain ⟨d, ds, e0, e, h2⟩ := h1
    subst e0
    cases r1 with
    | cons q0 b =>
      cases b
      rcases e with e | e <;> subst e
      · cases q0 with
        | lst e n q => exact ⟨_, _, rfl, .inl ⟨.inl (.inl e), k _ H1 _ m1 _ h2 f1 s1 itd_enumL ⟨_, e, n, q⟩⟩⟩
      · cases q0 with
        | tup e n q => exact ⟨_, _, rfl, .inr ⟨.inl (.inl e), k _ H1 _ m1 _ h2 f1 s1 itd_enumT ⟨_, e, n, q⟩⟩⟩
end

/-! ### for -/
section
variable {W : WX} {Ps : PsiT} {r : Rho} {m : Sto} {E : EndsD} {wi : TI} {g : TG} {tb : TS}
theorem ws_for (h : WI W Ps wi r m fun ds m1 => ∃ I : Nat → Rho → Sto → Prop, I 0 r m1 ∧
    (∀ (i : Nat) d r' m', ds[i]? = some d → I i r' m' → WG W Ps g d r' m' fun r2 m2 => WS W Ps tb { E with nx := I (i + 1), ct := I (i + 1), bk := E.nx } r2 m2) ∧
    (∀ r' m', I ds.length r' m' → E.nx r' m')) : WS W Ps (tFor wi g tb) E r m := fun s H D R X K =>
  h s H _ R X fun J H1 ds m1 G h1 f1 s1 J1 g1 => by
    obtain ⟨I, i0, turn, fin⟩ := h1
    refine ⟨fun i k s' H' => k = ds.length - i ∧ i ≤ ds.length ∧ ∃ r' m', I i r' m' ∧ Rel m' H' s' r' ∧ Fr m m' H H' ∧ G m' H', ⟨_, rfl, Nat.zero_le _, r, m1, i0, f1.rel R s1, f1, g1⟩, ?_⟩
    rintro i k s' H' ⟨rfl, hi, r', m', p, R', f', g'⟩
    by_cases hlt : i < ds.length
    · refine .inr ⟨J1.go i m' H' g' hlt, fun s2 H2 => ∃ r2 m2, I (i + 1) r2 m2 ∧ Rel m2 H2 s2 r2 ∧ Fr m m2 H H2 ∧ G m2 H2, fun s2 H2 ⟨r2, m2, p2, R2, f2, g2⟩ => ⟨ds.length - (i + 1), by omega, rfl, hlt, r2, m2, p2, R2, f2, g2⟩, fun x H2 y => ?_⟩
      obtain ⟨ex, q, st2⟩ := J1.yld i m' H' x H2 g' R'.st y ds[i] (by simp [hlt])
      have fe : Fr m' m' H' H2 := .ext ex
      have fa := f'.trans fe
      refine turn i ds[i] r' m' (by simp [hlt]) p x s' H2 _ (fe.rel R' st2) (X.go fa) q fun s3 H3 r3 m3 w3 f3 R3 => ?_
      have fb := fa.trans f3
      have gb := J1.mono _ _ _ _ (fe.trans f3) g'
      refine w3 s3 H3 { D with nx := fun s2 H2 => ∃ r2 m2, I (i + 1) r2 m2 ∧ Rel m2 H2 s2 r2 ∧ Fr m m2 H H2 ∧ G m2 H2, ct := fun s2 H2 => ∃ r2 m2, I (i + 1) r2 m2 ∧ Rel m2 H2 s2 r2 ∧ Fr m m2 H H2 ∧ G m2 H2, bk := D.nx } R3 (X.go fb) ⟨?_, K.rt.go fb, K.nx.go fb, ?_⟩
      · exact fun s4 H4 r4 m4 p4 f4 R4 => ⟨r4, m4, p4, R4, fb.trans f4, J1.mono _ _ _ _ f4 gb⟩
      · exact fun s4 H4 r4 m4 p4 f4 R4 => ⟨r4, m4, p4, R4, fb.trans f4, J1.mono _ _ _ _ f4 gb⟩
    · have e : i = ds.length := by omega
      subst e
      exact .inl ⟨J1.stop m' H' g', K.nx s' H' r' m' (fin r' m' p) f' R'⟩
theorem ws_while {c : TT} (I : Rho → Sto → Prop) (mea : Rho → Sto → Nat) (h0 : I r m)
    (h : ∀ r' m', I r' m' → WB W Ps c r' m' fun b m1 => (b = true → WS W Ps tb { E with nx := fun r2 m2 => I r2 m2 ∧ mea r2 m2 < mea r' m', ct := fun r2 m2 => I r2 m2 ∧ mea r2 m2 < mea r' m', bk := E.nx } r' m1) ∧ (b = false → E.nx r' m1)) :
    WS W Ps (tWhile c tb) E r m := fun s H D R X K => by
  refine ⟨fun k s' H' => ∃ r' m', k = mea r' m' ∧ I r' m' ∧ Rel m' H' s' r' ∧ Fr m m' H H', ⟨_, r, m, rfl, h0, R, Fr.refl m H⟩, ?_⟩
  rintro k s' H' ⟨r', m', rfl, p, R', f'⟩
  refine h r' m' p s' H' _ R' (X.go f') fun b H1 m1 h1 f1 s1 => ?_
  have fa := f'.trans f1
  have R1 := f1.rel R' s1
  cases b with
  | true =>
    refine iteT ⟨fun s2 H2 => ∃ r2 m2, (I r2 m2 ∧ mea r2 m2 < mea r' m') ∧ Rel m2 H2 s2 r2 ∧ Fr m m2 H H2, fun s2 H2 ⟨r2, m2, ⟨p2, l2⟩, R2, f2⟩ => ⟨_, l2, r2, m2, rfl, p2, R2, f2⟩, ?_⟩
    refine h1.1 rfl s' H1 { D with nx := fun s2 H2 => ∃ r2 m2, (I r2 m2 ∧ mea r2 m2 < mea r' m') ∧ Rel m2 H2 s2 r2 ∧ Fr m m2 H H2, ct := fun s2 H2 => ∃ r2 m2, (I r2 m2 ∧ mea r2 m2 < mea r' m') ∧ Rel m2 H2 s2 r2 ∧ Fr m m2 H H2, bk := D.nx } R1 (X.go fa) ⟨?_, K.rt.go fa, K.nx.go fa, ?_⟩
    · exact fun s4 H4 r4 m4 p4 f4 R4 => ⟨r4, m4, p4, R4, fa.trans f4⟩
    · exact fun s4 H4 r4 m4 p4 f4 R4 => ⟨r4, m4, p4, R4, fa.trans f4⟩
  | false => exact iteF (K.nx s' H1 r' m1 (h1.2 rfl) fa R1)
end

/-! ### comprehensions -/
def wipeR (r : Rho) : List Nat → Rho
  | [] => r
  | v :: vs => (wipeR r vs).set v none
theorem SlR.wipe {M : List Addr} {H : Hp} {s : L2.St} {r : Rho} (h : SlR M H s r) : ∀ vs : List Nat, SlR M H (wipe s vs) (wipeR r vs)
  | [] => h
  | v :: vs => (SlR.wipe h vs).drop v
/-- a target that stores to these slots alone -/
def GOnly (vs : List Nat) (g : TG) : Prop := ∀ (v : V) (s : L2.St) (H : Hp) (Q : L2.St → Hp → Prop), g v s H Q → g v s H fun s' H' => wipe s' vs = wipe s vs ∧ Q s' H'
def GsOnly (vs : List Nat) (g : TGs) : Prop := ∀ (v : List V) (s : L2.St) (H : Hp) (Q : L2.St → Hp → Prop), g v s H Q → g v s H fun s' H' => wipe s' vs = wipe s vs ∧ Q s' H'
theorem wipe_set {i : Nat} {o : Option V} : ∀ {vs : List Nat} {s : L2.St}, i ∈ vs → wipe (s.set i o) vs = wipe s vs
  | [], _, h => by cases h
  | v :: vs, s, h => by
    unfold wipe
    by_cases hm : i ∈ vs
    · rw [wipe_set hm]
    · have e : i = v := by
        rcases List.mem_cons.mp h with e | e
        · exact e
        · exact absurd e hm
      subst e
      have : ∀ (vs : List Nat), i ∉ vs → ∀ s : L2.St, wipe (s.set i o) vs = (wipe s vs).set i o := by
        intro vs
        induction vs with
        | nil => intro _ s; rfl
        | cons u us ih =>
          intro hn s
          unfold wipe
          rw [ih (fun z => hn (List.mem_cons_of_mem _ z)), List.set_comm _ _ (fun z => hn (by rw [z]; exact List.mem_cons_self))]
      rw [this vs hm, List.set_set]
theorem wipe_twice : ∀ (us vs : List Nat) (s : L2.St), (∀ i ∈ us, i ∈ vs) → wipe (wipe s us) vs = wipe s vs
  | [], _, _, _ => rfl
  | u :: us, vs, s, h => by
    show wipe ((wipe s us).set u none) vs = _
    rw [wipe_set (h u List.mem_cons_self)]
    exact wipe_twice us vs s fun i hi => h i (List.mem_cons_of_mem _ hi)
theorem gonly_name {vs : List Nat} {i : Nat} (h : i ∈ vs) : GOnly vs (gName i) := fun v s H Q q => ⟨wipe_set h, q⟩
theorem gsonly_nil {vs : List Nat} : GsOnly vs gNil := fun v s H Q ⟨e, q⟩ => ⟨e, rfl, q⟩
theorem gonly_tup {vs : List Nat} {K : PySem.W.Frag} {n : Nat} {gs : TGs} (h : GsOnly vs gs) : GOnly vs (gTup K n gs) := fun v s H Q ⟨a, xs, e1, e2, e3, q⟩ => ⟨a, xs, e1, e2, e3, h xs s H Q q⟩
theorem gsonly_one {vs : List Nat} {i : Nat} (h : i ∈ vs) : GsOnly vs (gCons (gName i) gNil) := fun v s H Q ⟨x, r, e, q⟩ => by
  obtain ⟨e2, q⟩ := q
  exact ⟨x, r, e, e2, wipe_set h, q⟩
theorem gsonly_cons {vs : List Nat} {i : Nat} {gs : TGs} (h : i ∈ vs) (hs : GsOnly vs gs) : GsOnly vs (gCons (gName i) gs) := fun v s H Q ⟨x, r, e, q⟩ => by
  refine ⟨x, r, e, ?_⟩
  have z := hs r (s.set i (some x)) H Q q
  rw [wipe_set h] at z
  exact z
section
variable {W : WX} {Ps : PsiT} {r : Rho} {m : Sto} {Ph : PhiT} {wi : TI} {g : TG} {tt : TT} {te : TE} {vs : List Nat}
theorem wb_yes {Ph : Bool → Sto → Prop} (k : Ph true m) : WB W Ps tYes r m Ph := fun s H Q R X K => K true H m k (Fr.refl m H) R.st
theorem StoR.drop {a : Addr} {o : MO} {m : Sto} {H : Hp} (s : StoR ((a, o) :: m) H) : StoR m H := by
  have sub : ∀ b, b ∈ dom m → b ∈ dom ((a, o) :: m) := fun b hb => by
    unfold dom
    rw [List.flatMap_cons]
    exact List.mem_append_right _ hb
  have nd : (dom m).Nodup := by
    have := s.nd
    unfold dom at this
    rw [List.flatMap_cons] at this
    exact (List.nodup_append.mp this).2.1
  refine ⟨nd, fun p hp => ?_⟩
  have z := s.at_ p (List.mem_cons_of_mem _ hp)
  have k1 : Kp (dom ((a, o) :: m)) H H := fun _ _ h _ _ => h
  have k2 : Ntd (dom ((a, o) :: m)) (dom m) H := fun b _ _ _ n q => n (sub b q)
  obtain ⟨b, q⟩ := p
  cases q with
  | lst ds => obtain ⟨xs, e, t⟩ := z; exact ⟨xs, e, t.mono k1 k2⟩
  | dct ds => obtain ⟨xs, e, t⟩ := z; exact ⟨xs, e, t.mono k1 k2⟩
  | gen ac ag n => exact z
  | tab q =>
    obtain ⟨ps, e, t, y⟩ := z
    exact ⟨ps, e, t, fun pos cv q => let ⟨c, q1, q2, n⟩ := y pos cv q; ⟨c, q1, q2, fun x => n (sub c x)⟩⟩
theorem Fr.drop {a : Addr} {o : MO} {m : Sto} {H : Hp} : Fr ((a, o) :: m) m H H := ⟨fun _ _ h _ _ => h, fun b hb => .inl (by
  unfold dom
  rw [List.flatMap_cons]
  exact List.mem_append_right _ hb)⟩
theorem own_head {L : Addr} {acc : List D} {m : Sto} {H : Hp} (s : StoR ((L, .lst acc) :: m) H) : ∃ xs, H L = some (.lst xs) ∧ L ∉ dom m ∧ Reps (dom ((L, .lst acc) :: m)) H xs acc := by
  obtain ⟨xs, e, t⟩ := s.at_ _ List.mem_cons_self
  have nd := s.nd
  rw [dom_cons] at nd
  exact ⟨xs, e, (List.nodup_cons.mp nd).1, t⟩
/-- an own list grows -/
theorem own_push {L : Addr} {acc : List D} {d : D} {v : V} {m : Sto} {H : Hp} {xs : List V} (s : StoR ((L, .lst acc) :: m) H) (e : H L = some (.lst xs)) (t : Reps (dom ((L, .lst acc) :: m)) H xs acc) (q : Rep (dom ((L, .lst acc) :: m)) H v d) :
    StoR ((L, .lst (acc ++ [d])) :: m) (upd H L (.lst (xs ++ [v]))) ∧ Fr ((L, .lst acc) :: m) ((L, .lst (acc ++ [d])) :: m) H (upd H L (.lst (xs ++ [v]))) := by
  have hd : dom ((L, .lst (acc ++ [d])) :: m) = dom ((L, .lst acc) :: m) := rfl
  have f : Fr ((L, .lst acc) :: m) ((L, .lst (acc ++ [d])) :: m) H (upd H L (.lst (xs ++ [v]))) := ⟨fun a o h _ n => by
    rw [upd_ne (fun z => n (by rw [z, dom_cons]; exact List.mem_cons_self))]
    exact h, fun a h => .inl (by rw [← hd]; exact h)⟩
  refine ⟨⟨by rw [hd]; exact s.nd, fun p hp => ?_⟩, f⟩
  have nd := s.nd
  rw [dom_cons] at nd
  have hL := (List.nodup_cons.mp nd).1
  rcases List.mem_cons.mp hp with z | z
  · subst z
    exact ⟨xs ++ [v], upd_same, f.reps (reps_app t (.cons q .nil))⟩
  · have y := s.at_ p (List.mem_cons_of_mem _ z)
    have hne : ∀ b, b ∈ domO p → b ≠ L := fun b hb e2 => hL (by
      rw [← e2]
      exact List.mem_flatMap.mpr ⟨p, z, hb⟩)
    obtain ⟨b, o⟩ := p
    cases o with
    | lst es => obtain ⟨ws, e1, r1⟩ := y; exact ⟨ws, by rw [upd_ne (hne b (by simp [domO]))]; exact e1, f.reps r1⟩
    | dct es => obtain ⟨ws, e1, r1⟩ := y; exact ⟨ws, by rw [upd_ne (hne b (by simp [domO]))]; exact e1, f.repKs r1⟩
    | gen ac ag n =>
      obtain ⟨sp, cs, gs, e1, e2, e3, r1⟩ := y
      exact ⟨sp, cs, gs, by rw [upd_ne (hne b (by simp [domO]))]; exact e1, by rw [upd_ne (hne ac (by simp [domO]))]; exact e2, by rw [upd_ne (hne ag (by simp [domO]))]; exact e3, r1⟩
    | tab q =>
      obtain ⟨ps, e1, t1, r1⟩ := y
      refine ⟨ps, by rw [upd_ne (hne b (by simp [domO]))]; exact e1, t1, fun pos cv q => ?_⟩
      obtain ⟨c, q1, q2, n⟩ := r1 pos cv q
      exact ⟨c, q1, f.keep _ _ q2 (LamX.codeO_ne ·) n, n⟩
theorem own_new {m : Sto} {H : Hp} {p : Addr} (st : StoR m H) (hp : H p = none) : StoR ((p, .lst []) :: m) (upd H p (.lst [])) ∧ Fr m ((p, .lst []) :: m) H (upd H p (.lst [])) := by
  have f : Fr m ((p, .lst []) :: m) H (upd H p (.lst [])) := ⟨(Fr.new (m := m) hp).keep, fun a ha => by
    rw [dom_cons] at ha
    rcases List.mem_cons.mp ha with e | e
    · exact .inr (no_at (by rw [e]; exact hp))
    · exact .inl e⟩
  have s2 := st.new (o := .lst []) hp
  refine ⟨⟨by rw [dom_cons]; exact List.nodup_cons.mpr ⟨st.fresh hp, st.nd⟩, fun q hq => ?_⟩, f⟩
  rcases List.mem_cons.mp hq with e | e
  · subst e
    exact ⟨[], upd_same, .nil⟩
  · have z := st.at_ q e
    obtain ⟨b, o⟩ := q
    have up : ∀ a o, H a = some o → upd H p (.lst []) a = some o := fun a u e => by rw [upd_ne (ne_of_none e hp)]; exact e
    cases o with
    | lst es => obtain ⟨xs, e1, r1⟩ := z; exact ⟨xs, up _ _ e1, f.reps r1⟩
    | dct es => obtain ⟨xs, e1, r1⟩ := z; exact ⟨xs, up _ _ e1, f.repKs r1⟩
    | gen ac ag n => obtain ⟨sp, cs, gs, e1, e2, e3, r1⟩ := z; exact ⟨sp, cs, gs, up _ _ e1, up _ _ e2, up _ _ e3, r1⟩
    | tab q =>
      obtain ⟨ps, e1, t, r1⟩ := z
      exact ⟨ps, up _ _ e1, t, fun pos cv q => let ⟨c, q1, q2, n⟩ := r1 pos cv q; ⟨c, q1, up _ _ q2, f.notin _ _ q2 (LamX.codeO_ne ·) n⟩⟩
/-- one comprehension: its list stands ahead in the store while it grows; at the end it is let go as plain data, or kept -/
theorem wt_lcG (ho : GOnly vs g) (h : WI W Ps wi r m fun ds m1 => ∀ L, L ∉ dom m1 → ∃ I : Nat → List D → Sto → Prop, I 0 [] m1 ∧
    (∀ (i : Nat) d acc m', ds[i]? = some d → I i acc m' → WG W Ps g d (wipeR r vs) ((L, .lst acc) :: m') fun r2 m2 => WB W Ps tt r2 m2 fun b m3 =>
      (b = true → WT W Ps te r2 m3 fun y m4 => ∃ m5, m4 = (L, .lst acc) :: m5 ∧ acc.length < sizeLine ∧ I (i + 1) (acc ++ [y]) m5) ∧ (b = false → ∃ m5, m3 = (L, .lst acc) :: m5 ∧ I (i + 1) acc m5)) ∧
    (∀ acc m', I ds.length acc m' → Ph (.lst acc) m' ∨ Ph (.ref L) ((L, .lst acc) :: m'))) : WT W Ps (tLc wi g tt te vs) r m Ph := fun s H Q R X K =>
  h s H _ R X fun J H1 ds m1 G h1 f1 s1 J1 g1 => fun L hL => by
    obtain ⟨I, i0, turn, fin⟩ := h1 L (s1.fresh hL)
    obtain ⟨sL, fL⟩ := own_new s1 hL
    have ff := f1.trans fL
    refine ⟨fun i k H' => k = ds.length - i ∧ i ≤ ds.length ∧ ∃ acc m', I i acc m' ∧ StoR ((L, .lst acc) :: m') H' ∧ Fr m ((L, .lst acc) :: m') H H' ∧ G ((L, .lst acc) :: m') H', ⟨_, rfl, Nat.zero_le _, [], m1, i0, sL, ff, J1.mono _ _ _ _ fL g1⟩, ?_⟩
    rintro i k H' ⟨rfl, hi, acc, m', p, st', f', g'⟩
    by_cases hlt : i < ds.length
    · refine .inr ⟨J1.go i _ H' g' hlt, fun H2 => ∃ acc2 m2, I (i + 1) acc2 m2 ∧ StoR ((L, .lst acc2) :: m2) H2 ∧ Fr m ((L, .lst acc2) :: m2) H H2 ∧ G ((L, .lst acc2) :: m2) H2, fun H2 ⟨acc2, m2, p2, st2, f2, g2⟩ => ⟨ds.length - (i + 1), by omega, rfl, hlt, acc2, m2, p2, st2, f2, g2⟩, fun x H2 y => ?_⟩
      obtain ⟨ex, q, st2⟩ := J1.yld i _ H' x H2 g' st' y ds[i] (by simp [hlt])
      have fe : Fr ((L, .lst acc) :: m') ((L, .lst acc) :: m') H' H2 := .ext ex
      have fa := f'.trans fe
      have Rw : Rel ((L, .lst acc) :: m') H2 (wipe s vs) (wipeR r vs) := ⟨((fa.rel R st2).sl).wipe vs, st2⟩
      have z := turn i ds[i] acc m' (by simp [hlt]) p x (wipe s vs) H2 (fun s3 H3 => tt s3 H3 fun b H4 => if b = true then te s3 H4 fun y H5 => ∃ acc, H5 L = some (.lst acc) ∧ acc.length < sizeLine ∧ (fun H2 => ∃ acc2 m2, I (i + 1) acc2 m2 ∧ StoR ((L, .lst acc2) :: m2) H2 ∧ Fr m ((L, .lst acc2) :: m2) H H2 ∧ G ((L, .lst acc2) :: m2) H2) (upd H5 L (.lst (acc ++ [y]))) else (fun H2 => ∃ acc2 m2, I (i + 1) acc2 m2 ∧ StoR ((L, .lst acc2) :: m2) H2 ∧ Fr m ((L, .lst acc2) :: m2) H H2 ∧ G ((L, .lst acc2) :: m2) H2) H4) Rw (X.go fa) q fun s3 H3 r3 m3 w3 f3 R3 => ?_
      · have z2 := ho _ _ _ _ z
        rw [show wipe (wipe s vs) vs = wipe s vs from wipe_twice vs vs s fun _ h => h] at z2
        exact z2
      · have fb := fa.trans f3
        refine w3 s3 H3 _ R3 (X.go fb) fun b H4 m4 h4 f4 s4 => ?_
        have fc := fb.trans f4
        have R4 := f4.rel R3 s4
        have gc := J1.mono _ _ _ _ ((fe.trans f3).trans f4) g'
        cases b with
        | true =>
          refine iteT (h4.1 rfl s3 H4 _ R4 (X.go fc) fun y H5 dy m5 h5 f5 r5 s5 => ?_)
          obtain ⟨m6, rfl, hz, p6⟩ := h5
          obtain ⟨xs, e5, n5, t5⟩ := own_head s5
          obtain ⟨s6, f6⟩ := own_push s5 e5 t5 r5
          exact ⟨xs, e5, by rw [t5.len]; exact hz, acc ++ [dy], m6, p6, s6, (fc.trans f5).trans f6, J1.mono _ _ _ _ (f5.trans f6) gc⟩
        | false =>
          obtain ⟨m6, rfl, p6⟩ := h4.2 rfl
          exact iteF ⟨acc, m6, p6, s4, fc, gc⟩
    · have e : i = ds.length := by omega
      subst e
      refine .inl ⟨J1.stop _ H' g', ?_⟩
      obtain ⟨xs, e5, n5, t5⟩ := own_head st'
      rcases fin acc m' p with z | z
      · exact K (.ref L) H' (.lst acc) m' z (f'.trans Fr.drop) (.lst e5 n5 (Fr.drop.reps t5)) st'.drop
      · exact K (.ref L) H' (.ref L) _ z f' (.ref L) st'
end
end Dz
/-! Dz, part D: lists of the store; builtins, subscripts, slices, methods, raise, try. -/
namespace Dz
open PySem PySem.Spec PyProof.Rows L2

/-! ### the store -/
theorem dom_set : ∀ {m : Sto} {k : Nat} {p q : Addr × MO}, m[k]? = some p → domO q = domO p → dom (m.set k q) = dom m
  | [], k, _, _, h, _ => by simp at h
  | x :: m, 0, p, q, h, e => by
    have : x = p := by simpa using h
    subst this
    show domO q ++ dom m = domO x ++ dom m
    rw [e]
  | x :: m, k + 1, p, q, h, e => by
    show domO x ++ dom (m.set k q) = domO x ++ dom m
    rw [dom_set (by simpa using h) e]
theorem dom_sub : ∀ {m : Sto} {k : Nat} {p : Addr × MO}, m[k]? = some p → ∀ x ∈ domO p, x ∈ dom m := fun h x hx => List.mem_flatMap.mpr ⟨_, List.mem_of_getElem? h, hx⟩
theorem dom_disj : ∀ {m : Sto} {j k : Nat} {p q : Addr × MO}, (dom m).Nodup → m[j]? = some p → m[k]? = some q → j ≠ k → ∀ x ∈ domO p, x ∉ domO q
  | [], j, _, _, _, _, h, _, _ => by simp at h
  | y :: m, 0, 0, _, _, _, _, _, n => absurd rfl n
  | y :: m, 0, k + 1, p, q, nd, h1, h2, n => fun x hx hq => by
    have : y = p := by simpa using h1
    subst this
    have nd' : (domO y ++ dom m).Nodup := nd
    exact (List.nodup_append.mp nd').2.2 x hx x (dom_sub (k := k) (by simpa using h2) x hq) rfl
  | y :: m, j + 1, 0, p, q, nd, h1, h2, n => fun x hx hq => by
    have : y = q := by simpa using h2
    subst this
    have nd' : (domO y ++ dom m).Nodup := nd
    exact (List.nodup_append.mp nd').2.2 x hq x (dom_sub (k := j) (by simpa using h1) x hx) rfl
  | y :: m, j + 1, k + 1, p, q, nd, h1, h2, n => by
    have nd' : (domO y ++ dom m).Nodup := nd
    exact dom_disj (m := m) (List.nodup_append.mp nd').2.1 (by simpa using h1) (by simpa using h2) (fun e => n (by rw [e]))
theorem MoR.keep {M M' : List Addr} {H H' : Hp} {p : Addr × MO} (k1 : Kp M H H') (k2 : Ntd M M' H) (kp : ∀ a o, a ∈ domO p → H a = some o → H' a = some o) (r : MoR M H p.1 p.2) : MoR M' H' p.1 p.2 := by
  obtain ⟨b, o⟩ := p
  cases o with
  | lst es => obtain ⟨ws, e1, r1⟩ := r; exact ⟨ws, kp _ _ (by simp [domO]) e1, r1.mono k1 k2⟩
  | dct es => obtain ⟨ws, e1, r1⟩ := r; exact ⟨ws, kp _ _ (by simp [domO]) e1, r1.mono k1 k2⟩
  | gen ac ag n =>
    obtain ⟨sp, cs, gs, e1, e2, e3, r1⟩ := r
    exact ⟨sp, cs, gs, kp _ _ (by simp [domO]) e1, kp _ _ (by simp [domO]) e2, kp _ _ (by simp [domO]) e3, r1⟩
  | tab q =>
    obtain ⟨ps, e, t, y⟩ := r
    refine ⟨ps, kp _ _ (by simp [domO]) e, t, fun pos cv q => ?_⟩
    obtain ⟨c, q1, q2, n⟩ := y pos cv q
    exact ⟨c, q1, k1 _ _ q2 (LamX.codeO_ne ·) n, k2 _ _ q2 (LamX.codeO_ne ·) n⟩
section
variable {m : Sto} {H : Hp} {a : Addr} {k : Nat}
/-- one object of the store changes -/
theorem sto_upd {p : MO} {q : MO} {u : HO} (st : StoR m H) (e : m[k]? = some (a, p)) (hd : domO (a, q) = domO (a, p)) (h1 : a ∈ domO (a, p)) (hu : ∀ H' : Hp, Kp (dom m) H H' → (∀ b, b ≠ a → H' b = H b) → H' a = some u → MoR (dom m) H' a q) :
    StoR (m.set k (a, q)) (upd H a u) ∧ Fr m (m.set k (a, q)) H (upd H a u) := by
  have hd' := dom_set e hd
  have ha : a ∈ dom m := dom_sub e a h1
  have kp : Kp (dom m) H (upd H a u) := fun b o h _ n => by
    rw [upd_ne (fun z => n (by rw [z]; exact ha))]; exact h
  refine ⟨⟨by rw [hd']; exact st.nd, fun x hx => ?_⟩, ⟨kp, fun b hb => .inl (by rw [← hd']; exact hb)⟩⟩
  rw [hd']
  obtain ⟨j, hj⟩ := List.mem_iff_getElem?.mp hx
  by_cases c : k = j
  · subst c
    have lt : k < m.length := (List.getElem?_eq_some_iff.mp e).1
    rw [List.getElem?_set_self lt] at hj
    cases hj
    exact hu _ kp (fun b hb => upd_ne hb) upd_same
  · rw [List.getElem?_set_ne c] at hj
    refine MoR.keep kp (fun _ _ _ _ n => n) (fun b o hb hh => ?_) (st.at_ x (List.mem_of_getElem? hj))
    rw [upd_ne (fun z => dom_disj st.nd hj e (fun z => c z.symm) b hb (by rw [z]; exact h1))]
    exact hh
/-- the items of a list of the store change -/
theorem lst_upd {ds ds' : List D} {xs xs' : List V} (st : StoR m H) (e : m[k]? = some (a, .lst ds)) (r : Reps (dom m) H xs' ds') :
    StoR (m.set k (a, .lst ds')) (upd H a (.lst xs')) ∧ Fr m (m.set k (a, .lst ds')) H (upd H a (.lst xs')) :=
  sto_upd (q := .lst ds') st e rfl (by simp [domO]) fun H' kp _ ea => ⟨xs', ea, r.mono kp fun _ _ _ _ n => n⟩
theorem lst_at {ds : List D} (st : StoR m H) (e : m[k]? = some (a, .lst ds)) : ∃ xs, H a = some (.lst xs) ∧ Reps (dom m) H xs ds := st.at_ _ (List.mem_of_getElem? e)
end

/-! ### views -/
def IsL (m : Sto) (d : D) (ds : List D) : Prop := d = .lst ds ∨ ∃ (k : Nat) (a : Addr), d = .ref a ∧ m[k]? = some (a, MO.lst ds)
def IsS (m : Sto) (d : D) (ds : List D) : Prop := IsL m d ds ∨ d = .tup ds
theorem isL_lst {m : Sto} {ds : List D} : IsL m (.lst ds) ds := .inl rfl
theorem isL_own {m : Sto} {a : Addr} {ds : List D} (k : Nat) (e : m[k]? = some (a, .lst ds)) : IsL m (.ref a) ds := .inr ⟨k, a, rfl, e⟩
theorem isL_rd {m : Sto} {H : Hp} {v : V} {d : D} {ds : List D} (h : IsL m d ds) (r : Rep (dom m) H v d) (st : StoR m H) : ∃ a xs, v = .ref a ∧ H a = some (.lst xs) ∧ Reps (dom m) H xs ds := by
  rcases h with h | ⟨k, a, h, e⟩ <;> subst h <;> cases r
  · exact ⟨_, _, rfl, by assumption, by assumption⟩
  · obtain ⟨xs, e, q⟩ := lst_at st e
    exact ⟨_, _, rfl, e, q⟩
theorem tup_rd {m : Sto} {H : Hp} {v : V} {ds : List D} (r : Rep (dom m) H v (.tup ds)) : ∃ a xs, v = .ref a ∧ H a = some (.tup xs) ∧ Reps (dom m) H xs ds := by
  cases r
  exact ⟨_, _, rfl, by assumption, by assumption⟩
theorem isS_rd {K : PySem.W.Frag} {m : Sto} {H : Hp} {v : V} {d : D} {ds : List D} (h : IsS m d ds) (r : Rep (dom m) H v d) (st : StoR m H) : ∃ a xs, v = .ref a ∧ (SqL K H a xs ∨ SqT K H a xs) ∧ Reps (dom m) H xs ds := by
  rcases h with h | h
  · obtain ⟨a, xs, e, h, q⟩ := isL_rd h r st
    exact ⟨a, xs, e, .inl (.inl (.inl h)), q⟩
  · subst h
    obtain ⟨a, xs, e, h, q⟩ := tup_rd r
    exact ⟨a, xs, e, .inr (.inl (.inl h)), q⟩
theorem Reps.nth {M : List Addr} {H : Hp} : ∀ {vs : List V} {ds : List D} {i : Nat} {d : D}, Reps M H vs ds → ds[i]? = some d → ∃ v, vs[i]? = some v ∧ Rep M H v d
  | _, _, 0, _, .cons a _, h => by
    simp at h
    subst h
    exact ⟨_, rfl, a⟩
  | _, _, i + 1, _, .cons _ t, h => by
    obtain ⟨v, e, r⟩ := Reps.nth (i := i) t (by simpa using h)
    exact ⟨v, by simpa using e, r⟩
  | _, _, i, _, .nil, h => by simp at h
theorem Reps.atI {M : List Addr} {H : Hp} {vs : List V} {ds : List D} {i : Int} {d : D} (r : Reps M H vs ds) (h : atI ds i = some d) : ∃ v, L2.atI vs i = some v ∧ Rep M H v d := by
  unfold L2.atI at h ⊢
  rw [r.len]
  cases e : ixN ds.length i with
  | none => rw [e] at h; cases h
  | some j =>
    rw [e] at h
    exact r.nth h
theorem Reps.drop {M : List Addr} {H : Hp} : ∀ {vs : List V} {ds : List D} (n : Nat), Reps M H vs ds → Reps M H (vs.drop n) (ds.drop n)
  | _, _, 0, r => r
  | _, _, n + 1, .cons _ t => Reps.drop n t
  | _, _, n + 1, .nil => .nil
theorem Reps.take {M : List Addr} {H : Hp} : ∀ {vs : List V} {ds : List D} (n : Nat), Reps M H vs ds → Reps M H (vs.take n) (ds.take n)
  | _, _, 0, _ => .nil
  | _, _, n + 1, .cons a t => .cons a (Reps.take n t)
  | _, _, n + 1, .nil => .nil
theorem Reps.set {M : List Addr} {H : Hp} {v : V} {d : D} (q : Rep M H v d) : ∀ {vs : List V} {ds : List D} (n : Nat), Reps M H vs ds → Reps M H (vs.set n v) (ds.set n d)
  | _, _, 0, .cons _ t => .cons q t
  | _, _, n + 1, .cons a t => .cons a (Reps.set q n t)
  | _, _, _, .nil => .nil
theorem Reps.eraseIdx {M : List Addr} {H : Hp} : ∀ {vs : List V} {ds : List D} (n : Nat), Reps M H vs ds → Reps M H (vs.eraseIdx n) (ds.eraseIdx n)
  | _, _, 0, .cons _ t => t
  | _, _, n + 1, .cons a t => .cons a (Reps.eraseIdx n t)
  | _, _, _, .nil => .nil
theorem Reps.dropLast {M : List Addr} {H : Hp} : ∀ {vs : List V} {ds : List D}, Reps M H vs ds → Reps M H vs.dropLast ds.dropLast
  | _, _, .nil => .nil
  | _, _, .cons _ .nil => .nil
  | _, _, .cons a (.cons b t) => .cons a (Reps.dropLast (.cons b t))

/-! ### subscripts and slices -/
def rIxS : R2 := L2.rIxS
def cutD (xs : List D) (lo hi : Option Int) : List D := (xs.drop (HT.sIx xs.length 0 lo)).take (HT.sIx xs.length xs.length hi - HT.sIx xs.length 0 lo)
theorem Reps.cut {M : List Addr} {H : Hp} {vs : List V} {ds : List D} (r : Reps M H vs ds) (lo hi : Option Int) : Reps M H (cutV vs lo hi) (cutD ds lo hi) := by
  unfold cutV cutD
  rw [r.len]
  exact (r.drop _).take _
def rSl (K : PySem.W.Frag) : V → Option Int → Option Int → Hp → VK → Prop := fun x lo hi H Q => rSlL K x lo hi H Q ∨ (rSlA K x lo hi H Q ∨ rSlS x lo hi H Q)
theorem sl_any {X : Cx} : L2.SlR X (rSl X.K) := L2.SlR.or sl_list (L2.SlR.or sl_tupA sl_str)
def WO (W : WX) (Ps : PsiT) (t : TO) (r : Rho) (m : Sto) (Ph : Option Int → Sto → Prop) : Prop := ∀ (s : L2.St) (H : Hp) (Q : Option Int → Hp → Prop), Rel m H s r → XT W m H Ps → (∀ o H' m', Ph o m' → Fr m m' H H' → StoR m' H' → Q o H') → t s H Q
section
variable {W : WX} {Ps : PsiT} {r : Rho} {m : Sto} {K : PySem.W.Frag} {Ph : PhiT} {te : TE} {tl th : TO}
theorem wo_none {Ph : Option Int → Sto → Prop} (k : Ph none m) : WO W Ps tNoPart r m Ph := fun s H Q R X q => q none H m k (Fr.refl m H) R.st
theorem wo_some {Ph : Option Int → Sto → Prop} (h : WT W Ps te r m fun d m1 => ∃ i, d = .int i ∧ Ph (some i) m1) : WO W Ps (tPart te) r m Ph := fun s H Q R X q =>
  h s H _ R X fun v H1 d m1 h1 f1 r1 s1 => by
    obtain ⟨i, e, h2⟩ := h1
    subst e
    cases r1
    exact ⟨i, rfl, q _ H1 m1 h2 f1 s1⟩
def SlD (o : V → Option Int → Option Int → Hp → VK → Prop) (x : D) (l u : Option Int) (m : Sto) (Ph : PhiT) : Prop := ∀ (vx : V) (H : Hp) (Q : VK), Rep (dom m) H vx x → StoR m H → KT Ph m H Q → o vx l u H Q
theorem wt_sl {o : V → Option Int → Option Int → Hp → VK → Prop} (h : WT W Ps te r m fun x m1 => WO W Ps tl r m1 fun l m2 => WO W Ps th r m2 fun u m3 => SlD o x l u m3 Ph) : WT W Ps (tSl o te tl th) r m Ph := fun s H Q R X K =>
  h s H _ R X fun v H1 x m1 h1 f1 r1 s1 => h1 s H1 _ (f1.rel R s1) (X.go f1) fun l H2 m2 h2 f2 s2 => h2 s H2 _ ((f1.trans f2).rel R s2) (X.go (f1.trans f2)) fun u H3 m3 h3 f3 s3 =>
    h3 v H3 Q ((f2.trans f3).rep r1) s3 (K.go ((f1.trans f2).trans f3))
theorem sd_lst {x : D} {ds : List D} {l u : Option Int} (h : IsL m x ds) (k : Ph (.lst (cutD ds l u)) m) : SlD (rSl K) x l u m Ph := fun vx H Q rx st K => .inl (by
  obtain ⟨a, xs, rfl, e, q⟩ := isL_rd h rx st
  exact ⟨a, xs, rfl, .inl (.inl e), new_lst (q.cut l u) st K k⟩)
theorem sd_tup {ds : List D} {l u : Option Int} (k : Ph (.tup (cutD ds l u)) m) : SlD (rSl K) (.tup ds) l u m Ph := fun vx H Q rx st K => .inr (.inl (by
  obtain ⟨a, xs, rfl, e, q⟩ := tup_rd rx
  refine ⟨a, xs, rfl, .inl (.inl e), fun h => ?_, fun _ => new_tup (q.cut l u) st K k⟩
  have z : cutD ds l u = ds := by
    unfold cutD
    rw [q.len] at h
    rw [h.1, h.2]; simp
  rw [z] at k
  exact K _ H _ m k (Fr.refl m H) rx st))
theorem sd_str {z : Str} {l u : Option Int} (hz : z.length ≤ sizeLine) (k : Ph (.str (cutS z l u)) m) : SlD (rSl K) (.str z) l u m Ph := fun vx H Q rx st K => .inr (.inr (by
  cases rx
  exact ⟨z, rfl, hz, K _ H _ m k (Fr.refl m H) (.str _) st⟩))
theorem od_ixl {x d : D} {ds : List D} {i : Int} (h : IsL m x ds) (e : atI ds i = some d) (k : Ph d m) : OpD (rIx K) x (.int i) m Ph := fun vx vy H Q rx ry st K => .inl (by
  cases ry
  obtain ⟨a, xs, rfl, ea, q⟩ := isL_rd h rx st
  obtain ⟨v, e2, rv⟩ := q.atI e
  exact ⟨a, xs, i, v, rfl, rfl, .inl (.inl ea), e2, K _ H _ m k (Fr.refl m H) rv st⟩)
theorem od_ixt {d : D} {ds : List D} {i : Int} (e : atI ds i = some d) (k : Ph d m) : OpD (rIx K) (.tup ds) (.int i) m Ph := fun vx vy H Q rx ry st K => .inr (.inl (by
  cases ry
  obtain ⟨a, xs, rfl, ea, q⟩ := tup_rd rx
  obtain ⟨v, e2, rv⟩ := q.atI e
  exact ⟨a, xs, i, v, rfl, rfl, .inl (.inl ea), e2, K _ H _ m k (Fr.refl m H) rv st⟩))
theorem od_ixs {z : Str} {c : Nat} {i : Int} (hz : z.length ≤ sizeLine) (e : atI z.cps.toList i = some c) (k : Ph (.str ⟨#[c]⟩) m) : OpD (rIx K) (.str z) (.int i) m Ph := fun vx vy H Q rx ry st K => .inr (.inr (by
  cases ry; cases rx
  exact ⟨z, i, c, rfl, rfl, hz, e, K _ H _ m k (Fr.refl m H) (.str _) st⟩))

/-- x in a list, by == of data -/
theorem od_inD {x y : D} {ds : List D} {p : PyData} {qs : List PyData} (hx : x.py = some p) (h : IsL m y ds) (hy : D.pys ds = some qs) (sx : SeqAt.shaped p = true) (sy : SeqAt.shaped (.list qs) = true) (k : Ph (.bl (qs.any fun z => PyData.eqv z p)) m) : OpD (rInA K) x y m Ph := fun vx vy H Q rx ry st KK => .inr (.inr (by
  obtain ⟨a, xs, rfl, e, q⟩ := isL_rd h ry st
  exact ⟨p, qs, rep_dp rx hx, .lst (.inl (.inl e)) (reps_dp q hy), sx, sy, KK _ H _ m k (Fr.refl m H) (.bl _) st⟩))
theorem od_eqL {x y : D} {ds es : List D} {ps qs : List PyData} (hx : IsL m x ds) (hy : IsL m y es) (ex : D.pys ds = some ps) (ey : D.pys es = some qs) (sx : SeqAt.shaped (.list ps) = true) (sy : SeqAt.shaped (.list qs) = true) (k : Ph (.bl (PyData.eqv (.list ps) (.list qs))) m) : OpD (rEqA K) x y m Ph := fun vx vy H Q rx ry st KK => .inr (by
  obtain ⟨a, xs, rfl, e, q⟩ := isL_rd hx rx st
  obtain ⟨b, ys, rfl, e2, q2⟩ := isL_rd hy ry st
  exact ⟨_, _, .lst (.inl (.inl e)) (reps_dp q ex), .lst (.inl (.inl e2)) (reps_dp q2 ey), sx, sy, KK _ H _ m k (Fr.refl m H) (.bl _) st⟩)
theorem od_neL {x y : D} {ds es : List D} {ps qs : List PyData} (hx : IsL m x ds) (hy : IsL m y es) (ex : D.pys ds = some ps) (ey : D.pys es = some qs) (sx : SeqAt.shaped (.list ps) = true) (sy : SeqAt.shaped (.list qs) = true) (k : Ph (.bl (!PyData.eqv (.list ps) (.list qs))) m) : OpD (rNeA K) x y m Ph := fun vx vy H Q rx ry st KK => .inr (by
  obtain ⟨a, xs, rfl, e, q⟩ := isL_rd hx rx st
  obtain ⟨b, ys, rfl, e2, q2⟩ := isL_rd hy ry st
  exact ⟨_, _, .lst (.inl (.inl e)) (reps_dp q ex), .lst (.inl (.inl e2)) (reps_dp q2 ey), sx, sy, KK _ H _ m k (Fr.refl m H) (.bl _) st⟩)
/-! ### builtins -/
def rLenA (K : PySem.W.Frag) : List V → Hp → VK → Prop := fun xs H Q => (∃ x n, xs = [x] ∧ LenV K x H n ∧ Q (.int n) H) ∨ ∃ a kvs, xs = [V.ref a] ∧ H a = some (.dK kvs) ∧ Q (.int kvs.length) H
theorem c_len {X : Cx} : CallR X (.builtin "len") (rLenA X.K) := call_len.or call_lenD
theorem reps_one {M : List Addr} {H : Hp} {vs : List V} {d : D} (r : Reps M H vs [d]) : ∃ v, vs = [v] ∧ Rep M H v d := by
  cases r with
  | cons a b => cases b; exact ⟨_, rfl, a⟩
theorem reps_two {M : List Addr} {H : Hp} {vs : List V} {d e : D} (r : Reps M H vs [d, e]) : ∃ v w, vs = [v, w] ∧ Rep M H v d ∧ Rep M H w e := by
  cases r with
  | cons a b =>
    obtain ⟨w, e, q⟩ := reps_one b
    subst e
    exact ⟨_, _, rfl, a, q⟩
theorem cd_lens {z : Str} (hz : z.length ≤ sizeLine) (k : Ph (.int (z.length : Nat)) m) : CaD (rLenA K) [.str z] m Ph := fun vs H Q R st K => .inl (by
  obtain ⟨v, rfl, r⟩ := reps_one R
  cases r
  exact ⟨_, _, rfl, ⟨hz, rfl⟩, K _ H _ m k (Fr.refl m H) (.int _) st⟩)
theorem cd_len {x : D} {ds : List D} (h : IsS m x ds) (k : Ph (.int (ds.length : Nat)) m) : CaD (rLenA K) [x] m Ph := fun vs H Q R st KK => .inl (by
  obtain ⟨v, rfl, r⟩ := reps_one R
  obtain ⟨a, xs, rfl, e, q⟩ := isS_rd (K := K) h r st
  refine ⟨.ref a, xs.length, rfl, ?_, by rw [q.len]; exact KK _ H _ m k (Fr.refl m H) (.int _) st⟩
  rcases e with e | e
  · exact .inl ⟨xs, e, rfl⟩
  · exact .inr ⟨xs, e, rfl⟩)
def D.tyS : D → Option String
  | .non => some "NoneType"
  | .bl _ => some "bool"
  | .int _ => some "int"
  | .str _ => some "str"
  | .tup _ => some "tuple"
  | .lst _ => some "list"
  | .dct _ => some "dict"
  | .ref _ => none
  | .ty _ => none
  | .exc _ _ _ => none
  | .scr _ _ _ => none
  | .clo _ _ => none
def TyD (m : Sto) (d : D) (t : String) : Prop := d.tyS = some t ∨ ∃ (k : Nat) (a : Addr), d = .ref a ∧ ((∃ ds, m[k]? = some (a, MO.lst ds) ∧ t = "list") ∨ ∃ ds, m[k]? = some (a, MO.dct ds) ∧ t = "dict")
theorem rep_ty {H : Hp} {v : V} {d : D} {t : String} (h : TyD m d t) (r : Rep (dom m) H v d) (st : StoR m H) : TyX K H v (.type t) := by
  rcases h with h | ⟨k, a, e, h⟩
  · cases r <;> simp [D.tyS] at h <;> subst h
    · exact .base .non
    · exact .base (.bl _)
    · exact .base (.int _)
    · exact .base (.str _)
    · exact .base (.tup (by assumption))
    · exact .base (.lst (by assumption))
    · exact .base (.dK (by assumption))
  · subst e
    cases r
    rcases h with ⟨ds, e, rfl⟩ | ⟨ds, e, rfl⟩
    · obtain ⟨xs, e, _⟩ := lst_at st e
      exact .base (.lst e)
    · obtain ⟨xs, e, _⟩ : MoR (dom m) H a (.dct ds) := st.at_ _ (List.mem_of_getElem? e)
      exact .base (.dK e)
theorem cd_isi {x : D} {t n : String} {b : Bool} (h : TyD m x t) (hk : kitB t n = some b) (k : Ph (.bl b) m) : CaD (rIsi K) [x, .ty n] m Ph := fun vs H Q R st KK => by
  obtain ⟨v, w, rfl, r1, r2⟩ := reps_two R
  cases r2
  exact ⟨v, .ty n, _, _, b, rfl, .ty n, rep_ty h r1 st, kit_ty hk, KK _ H _ m k (Fr.refl m H) (.bl _) st⟩
def rIntA : List V → Hp → VK → Prop := fun xs H Q => ((∃ i, xs = [.int i] ∧ Q (.int i) H) ∨ ∃ k, xs = [.bl k] ∧ Q (.int (if k then 1 else 0)) H) ∨ ∃ a n, xs = [.str a] ∧ PySem.intText? a = some n ∧ a.length ≤ 640 ∧ Q (.int n) H
theorem c_int {X : Cx} : CallR X (.type "int") rIntA := call_int1.or call_int_str
theorem cd_int {i : Int} (k : Ph (.int i) m) : CaD rIntA [.int i] m Ph := fun vs H Q R st KK => by
  obtain ⟨v, rfl, r⟩ := reps_one R
  cases r
  exact .inl (.inl ⟨i, rfl, KK _ H _ m k (Fr.refl m H) (.int _) st⟩)
theorem cd_ints {z : Str} {i : Int} (e : PySem.intText? z = some i) (hz : z.length ≤ 640) (k : Ph (.int i) m) : CaD rIntA [.str z] m Ph := fun vs H Q R st KK => by
  obtain ⟨v, rfl, r⟩ := reps_one R
  cases r
  exact .inr ⟨z, i, rfl, e, hz, KK _ H _ m k (Fr.refl m H) (.int _) st⟩
def rStrI : List V → Hp → VK → Prop := fun xs H Q => ∃ i, xs = [.int i] ∧ i.natAbs.log2 < 1920 ∧ Q (.str (toString i)) H
theorem c_str {X : Cx} : CallR X (.type "str") rStrI := call_str_int
theorem cd_str {i : Int} (hz : i.natAbs.log2 < 1920) (k : Ph (.str (Str.ofString (toString i))) m) : CaD rStrI [.int i] m Ph := fun vs H Q R st KK => by
  obtain ⟨v, rfl, r⟩ := reps_one R
  cases r
  exact ⟨i, rfl, hz, KK _ H _ m k (Fr.refl m H) (.str _) st⟩
def rTupOf (K : PySem.W.Frag) : List V → Hp → VK → Prop := fun xs H Q => ∃ p ys, xs = [.ref p] ∧ ((SqL K H p ys ∧ ∀ l, H l = none → Q (.ref l) (upd H l (.tup ys))) ∨ (SqT K H p ys ∧ Q (.ref p) H))
theorem c_tuple {X : Cx} : CallR X (.type "tuple") (rTupOf X.K) := call_tuple_of
theorem cd_tupl {x : D} {ds : List D} (h : IsL m x ds) (k : Ph (.tup ds) m) : CaD (rTupOf K) [x] m Ph := fun vs H Q R st KK => by
  obtain ⟨v, rfl, r⟩ := reps_one R
  obtain ⟨a, xs, rfl, e, q⟩ := isL_rd h r st
  exact ⟨a, xs, rfl, .inl ⟨.inl (.inl e), new_tup q st KK k⟩⟩
theorem cd_tupt {ds : List D} (k : Ph (.tup ds) m) : CaD (rTupOf K) [.tup ds] m Ph := fun vs H Q R st KK => by
  obtain ⟨v, rfl, r⟩ := reps_one R
  obtain ⟨a, xs, rfl, e, q⟩ := tup_rd r
  exact ⟨a, xs, rfl, .inr ⟨.inl (.inl e), KK _ H _ m k (Fr.refl m H) r st⟩⟩
def rListOf (K : PySem.W.Frag) : List V → Hp → VK → Prop := fun xs H Q => ∃ p ys, xs = [.ref p] ∧ (SqL K H p ys ∨ SqT K H p ys) ∧ ∀ l, H l = none → Q (.ref l) (upd H l (.lst ys))
theorem c_list {X : Cx} : CallR X (.type "list") (rListOf X.K) := call_list_of
theorem cd_list {x : D} {ds : List D} (h : IsS m x ds) (k : Ph (.lst ds) m) : CaD (rListOf K) [x] m Ph := fun vs H Q R st KK => by
  obtain ⟨v, rfl, r⟩ := reps_one R
  obtain ⟨a, xs, rfl, e, q⟩ := isS_rd (K := K) h r st
  exact ⟨a, xs, rfl, e, new_lst q st KK k⟩
/-- list(x) that will be changed -/
theorem cd_listo {x : D} {ds : List D} (h : IsS m x ds) (k : ∀ a, a ∉ dom m → Ph (.ref a) ((a, .lst ds) :: m)) : CaD (rListOf K) [x] m Ph := fun vs H Q R st KK => by
  obtain ⟨v, rfl, r⟩ := reps_one R
  obtain ⟨a, xs, rfl, e, q⟩ := isS_rd (K := K) h r st
  exact ⟨a, xs, rfl, e, new_own q st KK k⟩
theorem reps_bls {M : List Addr} {H : Hp} : ∀ {ns : List Bool} {us : List V}, Reps M H us (ns.map D.bl) → us = ns.map V.bl
  | [], _, .nil => rfl
  | n :: ns, _, .cons a b => by
    cases a
    rw [reps_bls b]; rfl
theorem reps_strs {M : List Addr} {H : Hp} : ∀ {ns : List Str} {us : List V}, Reps M H us (ns.map D.str) → us = ns.map V.str
  | [], _, .nil => rfl
  | n :: ns, _, .cons a b => by
    cases a
    rw [reps_strs b]; rfl
theorem cd_all {x : D} {bs : List Bool} (h : IsL m x (bs.map D.bl)) (k : Ph (.bl (bs.all id)) m) : CaD (rAll K) [x] m Ph := fun vs H Q R st KK => by
  obtain ⟨v, rfl, r⟩ := reps_one R
  obtain ⟨a, xs, rfl, e, q⟩ := isL_rd h r st
  obtain rfl := reps_bls q
  exact ⟨a, bs, rfl, .inl (.inl e), KK _ H _ m k (Fr.refl m H) (.bl _) st⟩
theorem cd_any {x : D} {bs : List Bool} (h : IsL m x (bs.map D.bl)) (k : Ph (.bl (bs.any id)) m) : CaD (rAny K) [x] m Ph := fun vs H Q R st KK => by
  obtain ⟨v, rfl, r⟩ := reps_one R
  obtain ⟨a, xs, rfl, e, q⟩ := isL_rd h r st
  obtain rfl := reps_bls q
  exact ⟨a, bs, rfl, .inl (.inl e), KK _ H _ m k (Fr.refl m H) (.bl _) st⟩
theorem cd_sum {x : D} {bs : List Int} (h : IsL m x (bs.map D.int)) (k : Ph (.int bs.sum) m) : CaD (rSum K) [x] m Ph := fun vs H Q R st KK => by
  obtain ⟨v, rfl, r⟩ := reps_one R
  obtain ⟨a, xs, rfl, e, q⟩ := isL_rd h r st
  obtain rfl := reps_ints q
  exact ⟨a, bs, rfl, .inl (.inl e), KK _ H _ m k (Fr.refl m H) (.int _) st⟩
end

/-! ### methods of texts and lists -/
section
variable {W : WX} {Ps : PsiT} {r : Rho} {m : Sto} {K : PySem.W.Frag} {Ph : PhiT} {to te : TE} {ta : TA}
def MeD (o : V → List V → Hp → VK → Prop) (x : D) (ys : List D) (m : Sto) (Ph : PhiT) : Prop := ∀ (v : V) (vs : List V) (H : Hp) (Q : VK), Rep (dom m) H v x → Reps (dom m) H vs ys → StoR m H → KT Ph m H Q → o v vs H Q
theorem wt_m1 {o : V → List V → Hp → VK → Prop} (h : WT W Ps to r m fun x m1 => (∃ a, x = .str a) ∧ WT W Ps te r m1 fun y m2 => MeD o x [y] m2 Ph) : WT W Ps (tM1 o to te) r m Ph := fun s H Q R X K =>
  h s H _ R X fun v H1 x m1 h1 f1 r1 s1 => by
    obtain ⟨⟨a, e⟩, h2⟩ := h1
    subst e
    cases r1
    exact ⟨⟨a, rfl⟩, h2 s H1 _ (f1.rel R s1) (X.go f1) fun w H2 y m2 h3 f2 r2 s2 => h3 _ _ H2 Q (.str a) (.cons r2 .nil) s2 (K.go (f1.trans f2))⟩
def TyM (m : Sto) (x : D) (T : String) : Prop := (∃ a, x = .str a ∧ T = "str") ∨ (∃ ds, IsL m x ds ∧ T = "list") ∨ (∃ i, x = .int i ∧ T = "int")
theorem tym_ok {H : Hp} {v : V} {x : D} {T : String} (h : TyM m x T) (q : Rep (dom m) H v x) (st : StoR m H) : tyV K T v H := by
  rcases h with ⟨a, e, rfl⟩ | ⟨ds, e, rfl⟩ | ⟨i, e, rfl⟩
  · subst e; cases q; exact rfl
  · obtain ⟨b, xs, rfl, e, _⟩ := isL_rd e q st
    exact .inl ⟨rfl, xs, .inl (.inl e)⟩
  · subst e; cases q; exact rfl
theorem wt_bm {o : V → List V → Hp → VK → Prop} {T : String} (h : WT W Ps to r m fun x m1 => TyM m1 x T ∧ WA W Ps ta r m1 fun ys m2 => MeD o x ys m2 Ph) : WT W Ps (tBM K T o to ta) r m Ph := fun s H Q R X KK =>
  h s H _ R X fun v H1 x m1 h1 f1 r1 s1 => ⟨tym_ok h1.1 r1 s1, h1.2 s H1 _ (f1.rel R s1) (X.go f1) fun ws H2 ys m2 h3 f2 r2 s2 => h3 v ws H2 Q (f2.rep r1) r2 s2 (KK.go (f1.trans f2))⟩
theorem wt_bm0 {o : V → List V → Hp → VK → Prop} {T : String} (h : WT W Ps to r m fun x m1 => TyM m1 x T ∧ MeD o x [] m1 Ph) : WT W Ps (tBM0 K T o to) r m Ph := fun s H Q R X KK =>
  h s H _ R X fun v H1 x m1 h1 f1 r1 s1 => ⟨tym_ok h1.1 r1 s1, h1.2 v [] H1 Q r1 .nil s1 (KK.go f1)⟩
def rSplit : V → List V → Hp → VK → Prop := fun x xs H Q => ∃ a b, x = .str a ∧ xs = [.str b] ∧ (b.length == 0) = false ∧ a.length + 2 ≤ sizeLine ∧ rNewStrs (Txt.split a b) H Q
theorem reps_of_strs {M : List Addr} {H : Hp} : ∀ ys : List Str, Reps M H (ys.map V.str) (ys.map D.str)
  | [] => .nil
  | y :: ys => .cons (.str y) (reps_of_strs ys)
theorem md_split {a b : Str} (h1 : (b.length == 0) = false) (h2 : a.length + 2 ≤ sizeLine) (k : Ph (.lst ((Txt.split a b).map D.str)) m) : MeD rSplit (.str a) [.str b] m Ph := fun v vs H Q r rs st K => by
  obtain ⟨w, rfl, r2⟩ := reps_one rs
  cases r; cases r2
  exact ⟨a, b, rfl, rfl, h1, h2, new_lst (reps_of_strs _) st K k⟩
/-- a split whose list will be changed -/
theorem md_splito {a b : Str} (h1 : (b.length == 0) = false) (h2 : a.length + 2 ≤ sizeLine) (k : ∀ l, l ∉ dom m → Ph (.ref l) ((l, .lst ((Txt.split a b).map D.str)) :: m)) : MeD rSplit (.str a) [.str b] m Ph := fun v vs H Q r rs st K => by
  obtain ⟨w, rfl, r2⟩ := reps_one rs
  cases r; cases r2
  exact ⟨a, b, rfl, rfl, h1, h2, new_own (reps_of_strs _) st K k⟩
def rPart : V → List V → Hp → VK → Prop := fun x xs H Q => ∃ a b, x = .str a ∧ xs = [.str b] ∧ (b.length == 0) = false ∧ a.length ≤ sizeLine ∧
  ∀ p, H p = none → Q (.ref p) (upd H p (.tup [.str (Txt.partition a b).1, .str (Txt.partition a b).2.1, .str (Txt.partition a b).2.2]))
theorem md_part {a b : Str} (h1 : (b.length == 0) = false) (h2 : a.length ≤ sizeLine) (k : Ph (.tup [.str (Txt.partition a b).1, .str (Txt.partition a b).2.1, .str (Txt.partition a b).2.2]) m) : MeD rPart (.str a) [.str b] m Ph := fun v vs H Q r rs st K => by
  obtain ⟨w, rfl, r2⟩ := reps_one rs
  cases r; cases r2
  exact ⟨a, b, rfl, rfl, h1, h2, new_tup (.cons (.str _) (.cons (.str _) (.cons (.str _) .nil))) st K k⟩
def rJoin (K : PySem.W.Frag) : V → List V → Hp → VK → Prop := fun x xs H Q => ∃ a p, ∃ ys : List Str, x = .str a ∧ xs = [.ref p] ∧ (SqL K H p (ys.map V.str) ∨ SqT K H p (ys.map V.str)) ∧
  (ys.map (·.length)).sum + ys.length * a.length ≤ 16777216 ∧ Q (.str (Txt.join a ys)) H
theorem md_join {a : Str} {y : D} {ys : List Str} (h : IsS m y (ys.map D.str)) (hz : (ys.map (·.length)).sum + ys.length * a.length ≤ 16777216) (k : Ph (.str (Txt.join a ys)) m) : MeD (rJoin K) (.str a) [y] m Ph := fun v vs H Q r rs st KK => by
  obtain ⟨w, rfl, r2⟩ := reps_one rs
  cases r
  obtain ⟨p, xs, rfl, e, q⟩ := isS_rd (K := K) h r2 st
  obtain rfl := reps_strs q
  exact ⟨a, p, ys, rfl, rfl, e, hz, KK _ H _ m k (Fr.refl m H) (.str _) st⟩
theorem md_append {a : Addr} {ds : List D} {y : D} (j : Nat) (e : m[j]? = some (a, .lst ds)) (hz : ds.length < sizeLine) (k : Ph .non (m.set j (a, .lst (ds ++ [y])))) : MeD rAppend (.ref a) [y] m Ph := fun v vs H Q r rs st K => by
  obtain ⟨w, rfl, r2⟩ := reps_one rs
  cases r
  obtain ⟨xs, ea, q⟩ := lst_at st e
  obtain ⟨s2, f2⟩ := lst_upd (xs := xs) st e (reps_app q (.cons r2 .nil))
  exact ⟨a, xs, w, rfl, rfl, ea, by rw [q.len]; exact hz, K _ _ _ _ k f2 .non s2⟩
theorem md_extend {a : Addr} {ds zs : List D} {y : D} (j : Nat) (e : m[j]? = some (a, .lst ds)) (h : IsL m y zs) (hz : ds.length + zs.length ≤ sizeLine) (k : Ph .non (m.set j (a, .lst (ds ++ zs)))) : MeD rExtend (.ref a) [y] m Ph := fun v vs H Q r rs st K => by
  obtain ⟨w, rfl, r2⟩ := reps_one rs
  cases r
  obtain ⟨xs, ea, q⟩ := lst_at st e
  obtain ⟨b, ws, rfl, eb, q2⟩ := isL_rd h r2 st
  obtain ⟨s2, f2⟩ := lst_upd (xs := xs) st e (reps_app q q2)
  exact ⟨a, b, xs, ws, rfl, rfl, ea, eb, by rw [q.len, q2.len]; exact hz, K _ _ _ _ k f2 .non s2⟩
theorem md_pop {a : Addr} {ds : List D} {y : D} (j : Nat) (e : m[j]? = some (a, .lst ds)) (hy : ds[ds.length - 1]? = some y) (k : Ph y (m.set j (a, .lst ds.dropLast))) : MeD rPop (.ref a) [] m Ph := fun v vs H Q r rs st K => by
  cases rs
  cases r
  obtain ⟨xs, ea, q⟩ := lst_at st e
  obtain ⟨s2, f2⟩ := lst_upd (xs := xs) st e q.dropLast
  obtain ⟨w, ew, rw'⟩ := q.nth hy
  exact ⟨a, xs, w, rfl, rfl, ea, by rw [q.len]; exact ew, K _ _ _ _ k f2 (f2.rep rw') s2⟩
theorem md_popat {a : Addr} {ds : List D} {y : D} {i : Int} {n : Nat} (j : Nat) (e : m[j]? = some (a, .lst ds)) (h1 : -(2 ^ 63) ≤ i) (h2 : i < 2 ^ 63) (hn : seqIndex? i ds.length = some n) (hy : ds[n]? = some y) (k : Ph y (m.set j (a, .lst (ds.eraseIdx n)))) : MeD rPopAt (.ref a) [.int i] m Ph := fun v vs H Q r rs st K => by
  obtain ⟨w0, rfl, r2⟩ := reps_one rs
  cases r2
  cases r
  obtain ⟨xs, ea, q⟩ := lst_at st e
  obtain ⟨s2, f2⟩ := lst_upd (xs := xs) st e (q.eraseIdx n)
  obtain ⟨w, ew, rw'⟩ := q.nth hy
  exact ⟨a, xs, i, n, w, rfl, rfl, ea, h1, h2, by rw [q.len]; exact hn, ew, K _ _ _ _ k f2 (f2.rep rw') s2⟩
/-- o[i] = .. -/
theorem wg_subl {ti : TE} {d : D} {Ph : Rho → Sto → Prop} (h : WT W Ps to r m fun x m1 => WT W Ps ti r m1 fun y m2 => ∃ (j : Nat) (a : Addr) (ds : List D) (i : Int) (n : Nat), x = .ref a ∧ y = .int i ∧ m2[j]? = some (a, .lst ds) ∧ ixN ds.length i = some n ∧ Ph r (m2.set j (a, .lst (ds.set n d)))) :
    WG W Ps (gSub to ti rSetL) d r m Ph := fun v s H Q R X q K =>
  h s H _ R X fun vx H1 x m1 h1 f1 r1 s1 => h1 s H1 _ (f1.rel R s1) (X.go f1) fun vy H2 y m2 h2 f2 r2 s2 => by
    obtain ⟨j, a, ds, i, n, e1, e2, ej, ei, k⟩ := h2
    subst e1; subst e2
    have r1' := f2.rep r1
    cases r2; cases r1'
    have ff := f1.trans f2
    obtain ⟨xs, ea, qq⟩ := lst_at s2 ej
    obtain ⟨s3, f3⟩ := lst_upd (xs := xs) s2 ej (qq.set (ff.rep q) n)
    exact ⟨a, xs, i, n, rfl, rfl, ea, by rw [qq.len]; exact ei, K _ _ _ _ k (ff.trans f3) ((ff.trans f3).rel R s3)⟩
end

/-! ### own lists become plain data -/
theorem dom_erase : ∀ {m : Sto} {k : Nat} {x : Addr}, x ∈ dom (m.eraseIdx k) → x ∈ dom m
  | [], k, x, h => by simpa using h
  | y :: m, 0, x, h => List.mem_append_right _ h
  | y :: m, k + 1, x, h => by
    rcases List.mem_append.mp (show x ∈ domO y ++ dom (m.eraseIdx k) from h) with z | z
    · exact List.mem_append_left _ z
    · exact List.mem_append_right _ (dom_erase z)
theorem dom_erase_nd : ∀ {m : Sto} {k : Nat}, (dom m).Nodup → (dom (m.eraseIdx k)).Nodup
  | [], k, h => by simpa using h
  | y :: m, 0, h => (List.nodup_append.mp (show (domO y ++ dom m).Nodup from h)).2.1
  | y :: m, k + 1, h => by
    obtain ⟨h1, h2, h3⟩ := List.nodup_append.mp (show (domO y ++ dom m).Nodup from h)
    exact List.nodup_append.mpr ⟨h1, dom_erase_nd h2, fun a ha b hb => h3 a ha b (dom_erase hb)⟩
theorem dom_erase_not : ∀ {m : Sto} {k : Nat} {p : Addr × MO} {x : Addr}, (dom m).Nodup → m[k]? = some p → x ∈ domO p → x ∉ dom (m.eraseIdx k)
  | [], k, _, _, _, h, _ => by simp at h
  | y :: m, 0, p, x, nd, h, hx => by
    have : y = p := by simpa using h
    subst this
    exact fun hb => (List.nodup_append.mp (show (domO y ++ dom m).Nodup from nd)).2.2 x hx x hb rfl
  | y :: m, k + 1, p, x, nd, h, hx => fun hb => by
    obtain ⟨h1, h2, h3⟩ := List.nodup_append.mp (show (domO y ++ dom m).Nodup from nd)
    rcases List.mem_append.mp (show x ∈ domO y ++ dom (m.eraseIdx k) from hb) with z | z
    · exact h3 x z x (dom_sub (k := k) (by simpa using h) x hx) rfl
    · exact dom_erase_not (m := m) h2 (by simpa using h) hx z
section
variable {m : Sto} {H : Hp} {a : Addr} {k : Nat}
theorem sto_erase (st : StoR m H) : StoR (m.eraseIdx k) H :=
  ⟨dom_erase_nd st.nd, fun p hp => MoR.keep (fun _ _ h _ _ => h) (fun _ _ _ _ n h => n (dom_erase h)) (fun _ _ _ h => h) (st.at_ p (List.mem_of_mem_eraseIdx hp))⟩
theorem fr_erase : Fr m (m.eraseIdx k) H H := ⟨fun _ _ h _ _ => h, fun _ h => .inl (dom_erase h)⟩
theorem let_rep {ds : List D} (st : StoR m H) (e : m[k]? = some (a, .lst ds)) : Rep (dom (m.eraseIdx k)) H (.ref a) (.lst ds) := by
  obtain ⟨xs, ea, q⟩ := lst_at st e
  exact .lst ea (dom_erase_not st.nd e (by simp [domO])) ((fr_erase (m := m) (H := H)).reps q)
end
section
variable {W : WX} {Ps : PsiT} {r : Rho} {m : Sto} {Ph : PhiT} {t : TE} {ts : TS} {E : EndsD}
/-- a value: its list becomes plain -/
theorem wt_let (h : WT W Ps t r m fun d m1 => ∃ k a ds, d = .ref a ∧ m1[k]? = some (a, .lst ds) ∧ Ph (.lst ds) (m1.eraseIdx k)) : WT W Ps t r m Ph := fun s H Q R X K =>
  h s H Q R X fun v H1 d m1 h1 f1 r1 s1 => by
    obtain ⟨k, a, ds, e, ek, q⟩ := h1
    subst e
    cases r1
    exact K _ H1 _ _ q (f1.trans fr_erase) (let_rep s1 ek) (sto_erase s1)
/-- a slot: its list becomes plain -/
theorem ws_let {i k : Nat} {a : Addr} {ds : List D} (hi : r[i]? = some (some (.ref a))) (ek : m[k]? = some (a, .lst ds)) (h : WS W Ps ts E (r.set i (some (.lst ds))) (m.eraseIdx k)) : WS W Ps ts E r m := fun s H D R X K => by
  have f : Fr m (m.eraseIdx k) H H := fr_erase
  refine h s H D ⟨?_, sto_erase R.st⟩ (X.go f) (K.go f)
  obtain ⟨v, ev, rv⟩ := R.sl.2 i _ hi
  have z := (f.rel R (sto_erase R.st)).sl.set i (let_rep R.st ek)
  cases rv
  have : s.set i (some (V.ref a)) = s := by
    obtain ⟨lt, e⟩ := List.getElem?_eq_some_iff.mp ev
    rw [← e]; exact List.set_getElem_self lt
  rw [this] at z
  exact z
/-- the store is read more weakly -/
def Wk (m m' : Sto) : Prop := (∀ x, x ∈ dom m' → x ∈ dom m) ∧ ∀ H, StoR m H → StoR m' H
theorem Wk.refl : Wk m m := ⟨fun _ h => h, fun _ h => h⟩
theorem Wk.fr {m m' : Sto} {H : Hp} (w : Wk m m') : Fr m m' H H := ⟨fun _ _ h _ _ => h, fun _ h => .inl (w.1 _ h)⟩
theorem wk_gen {k : Nat} {a ac ag : Addr} {n n' : Nat} (e : m[k]? = some (a, .gen ac ag n)) (h : n ≤ n') : Wk m (m.set k (a, .gen ac ag n')) := by
  have hd : dom (m.set k (a, .gen ac ag n')) = dom m := dom_set e rfl
  refine ⟨fun x h => by rw [← hd]; exact h, fun H st => ⟨by rw [hd]; exact st.nd, fun p hp => ?_⟩⟩
  rw [hd]
  obtain ⟨j, hj⟩ := List.mem_iff_getElem?.mp hp
  by_cases c : k = j
  · subst c
    have lt : k < m.length := (List.getElem?_eq_some_iff.mp e).1
    rw [List.getElem?_set_self lt] at hj
    cases hj
    obtain ⟨sp, cs, gs, e1, e2, e3, e4, r1⟩ : MoR (dom m) H a (.gen ac ag n) := st.at_ _ (List.mem_of_getElem? e)
    exact ⟨sp, cs, gs, e1, e2, e3, Nat.le_trans e4 h, r1⟩
  · rw [List.getElem?_set_ne c] at hj
    exact st.at_ p (List.mem_of_getElem? hj)
theorem wt_wk {m' : Sto} (w : Wk m m') (h : WT W Ps t r m' Ph) : WT W Ps t r m Ph := fun s H Q R X K => h s H Q (w.fr.rel R (w.2 H R.st)) (X.go w.fr) (K.go w.fr)
theorem ws_wk {m' : Sto} (w : Wk m m') (h : WS W Ps ts E r m') : WS W Ps ts E r m := fun s H D R X K => h s H D (w.fr.rel R (w.2 H R.st)) (X.go w.fr) (K.go w.fr)
theorem wt_post (h : WT W Ps t r m fun d m1 => ∃ m2, Wk m1 m2 ∧ Ph d m2) : WT W Ps t r m Ph := fun s H Q R X K =>
  h s H Q R X fun v H1 d m1 ⟨m2, w, q⟩ f1 r1 s1 => K v H1 d m2 q (f1.trans w.fr) (w.fr.rep r1) (w.2 H1 s1)
theorem wt_mono {Ph' : PhiT} (hp : ∀ d m1, Ph' d m1 → Ph d m1) (h : WT W Ps t r m Ph') : WT W Ps t r m Ph := fun s H Q R X K => h s H Q R X fun v H1 d m1 q f1 r1 s1 => K v H1 d m1 (hp d m1 q) f1 r1 s1
end
end Dz
/-! Dz, part E: except clauses with and without a name, assignments of three names; raise and try over plain data. -/
namespace L2
open PySem PySem.Spec PyProof.Rows
/-- the ends behind a clause: a named one unbinds its name -/
def cutE (oi : Option Nat) (D : Ends) : Ends := match oi with
  | none => D
  | some i => { nx := fun s' H' => D.nx (s'.set i none) H', rt := D.rt, bk := fun s' H' => D.bk (s'.set i none) H', ct := fun s' H' => D.ct (s'.set i none) H' }
def bindE (oi : Option Nat) (s : St) (a : Addr) : St := match oi with
  | none => s
  | some i => s.set i (some (.ref a))
abbrev HCl := Value × Option Nat × (Addr → Value → Option Addr → TS)
def wMul (K : PySem.W.Frag) (Wout : WX) (D : Ends) : List HCl → WX
  | [] => Wout
  | h :: l => fun cls d s H => ∃ b, PySem.W.exmOne K cls h.1 = some b ∧ (b = true → ∀ a, H a = none → h.2.2 a cls d (cutE h.2.1 D) (bindE h.2.1 s a) H) ∧ (b = false → wMul K Wout D l cls d s H)
inductive HcOk (X : Cx) : List ExceptHandler → List HCl → Prop
  | nil : HcOk X [] []
  | bare {x : Str} {c : Value} {ts : Addr → Value → Option Addr → TS} {b₀ : Stmt} {suite : List Stmt} {np pos' : Pos} {hds : List ExceptHandler} {l : List HCl} (hc : Names X x c)
      (hsu : ∀ (a : Addr) (oe : Obj) (cls : Value) (d : Option Addr) (pn : List (Addr × Obj)), Zc cls d oe → (∃ vs, oe.data = .fields vs) → PSs (X.suite a ((a, oe) :: pn)) (b₀ :: suite) (ts a cls d)) (r : HcOk X hds l) :
      HcOk X (.ExceptHandler (some (.Name x np)) none (b₀ :: suite) pos' :: hds) ((c, none, ts) :: l)
  | named {x n : Str} {c : Value} {i : Nat} {ts : Addr → Value → Option Addr → TS} {b₀ : Stmt} {suite : List Stmt} {np pos' : Pos} {hds : List ExceptHandler} {l : List HCl} (hi : X.N[i]? = some n) (hln : X.env.kindOf n = some .local) (hc : Names X x c)
      (hsu : ∀ (a : Addr) (oe : Obj) (cls : Value) (d : Option Addr) (pn : List (Addr × Obj)), Zc cls d oe → (∃ vs, oe.data = .fields vs) → PSs (X.suite a ((a, oe) :: pn)) (b₀ :: suite) (ts a cls d)) (r : HcOk X hds l) :
      HcOk X (.ExceptHandler (some (.Name x np)) (some n) (b₀ :: suite) pos' :: hds) ((c, some i, ts) :: l)
/-- try: .. except .. [as ..]: ..: several clauses -/
def tTry (K : PySem.W.Frag) (Wout : WX) (tb : WX → TS) (l : List HCl) : TS := fun D s H => tb (wMul K Wout D l) D s H
/-- an end told under one context is an end under another that holds the same -/
theorem end_on {X Y : Cx} {p q : List (Addr × Obj)} {D : Ends} {f : Flow} {t : Shared} (m : ∀ {c m}, Inv X p c m t → Inv Y q c m t) (z : SP X p D f t) : SP Y q D f t := by
  cases f
  case ret => obtain ⟨v, c, m1, J, r⟩ := z; exact ⟨v, c, m1, m J, r⟩
  all_goals (obtain ⟨c, m1, J, r⟩ := z; exact ⟨c, m1, m J, r⟩)
/-- exception a has come down: t is where its clauses run, t₀ the state without it -/
structure Down (X : Cx) (pn : List (Addr × Obj)) (c : St) (m : Hp) (a : Addr) (B : Heap) (cls : Value) (d : Option Addr) (t₀ t : Shared) : Prop where
  was : Inv X pn c m t₀
  ground : ∀ b o, t₀.heap.get? b = some o → b ∉ frs X.stack → B.get? b = some o
  slots : t₀.heap.UpToSlots t.heap
  flies : HandSPX.FlyingZ B (X.env :: X.outer) a (Zc cls d) t.heap
  free : m a = none
  world : t.os = t₀.os
  bare : AllBare t.gens
section
variable {X : Cx} {pn : List (Addr × Obj)} {c : St} {m : Hp} {a : Addr} {B : Heap} {cls : Value} {d : Option Addr} {t₀ t : Shared} {D : Ends} {Wout : WX}
theorem Down.inv (z : Down X pn c m a B cls d t₀ t) : Inv X pn c m t := z.was.landed z.ground z.flies.1 z.slots z.world z.bare
theorem Down.on (z : Down X pn c m a B cls d t₀ t) {h : Heap} (f : HandSPX.FlyingZ B (X.env :: X.outer) a (Zc cls d) h) (u : t.heap.UpToSlots h) : Down X pn c m a B cls d t₀ { t with heap := h } :=
  ⟨z.was, z.ground, z.slots.trans u, f, z.free, z.world, z.bare⟩
/-- no frame of the stack lies where it lies -/
theorem Down.apart (z : Down X pn c m a B cls d t₀ t) {e : Env} (he : e ∈ X.env :: X.outer) {L : Addr} (hL : e.frame = some L) : a ≠ L := by
  rintro rfl
  obtain ⟨oe, vs, g, _, dt⟩ := z.flies.there
  obtain ⟨_, o, g', n⟩ := z.flies.2.2.1.mem (List.mem_filterMap.mpr ⟨e, he, hL⟩)
  exact n vs (Option.some.inj (g'.symm.trans g) ▸ dt)
/-- the context of a suite of its -/
theorem Down.seat (z : Down X pn c m a B cls d t₀ t) (hf : X.env.frame = some X.env.locals) :
    ∃ oe, Inv (X.suite a ((a, oe) :: (X.pn ++ pn))) [] c m t ∧ Zc cls d oe ∧ ∃ vs, oe.data = .fields vs := by
  obtain ⟨oe, vs, g, zc, dt⟩ := z.flies.there
  refine ⟨oe, z.inv.suite g dt z.free (z.apart List.mem_cons_self hf) (fun q => ?_), zc, vs, dt⟩
  obtain ⟨e, he, hL⟩ := List.mem_filterMap.mp q
  exact z.apart (List.mem_cons_of_mem _ he) hL rfl
/-- a clause's test: is it of the class that the name holds -/
theorem Down.test (z : Down X pn c m a B cls d t₀ t) (hf : X.env.frame = some X.env.locals) {x : Str} {k : Value} {np : Pos} {Q E : Value → Shared → Prop} (hk : Names X x k) (q : Q k t) :
    wpAny (model X.prog X.w) (X.A.mark (some (.ref a))) (eval (.Name x np) X.env) Q E t := by
  obtain ⟨oe, S, _⟩ := z.seat hf
  obtain ⟨g, ndb, r⟩ := hk
  rcases r with l | ⟨l, bv, nn⟩
  · exact ld_glob (X := X.suite a ((a, oe) :: (X.pn ++ pn))) S g l q ndb
  · exact ld_blt (X := X.suite a ((a, oe) :: (X.pn ++ pn))) S g l bv q nn ndb
theorem Down.looks (z : Down X pn c m a B cls d t₀ t) : PySem.W.Looks (model X.prog X.w) t.heap (typeOf (.ref a)) cls := by
  obtain ⟨oe, vs, g, zc, _⟩ := z.flies.there
  exact fun _ _ _ _ k q => wpAny_typeOf_ref (k _ _ g) (zc.1.symm ▸ q)
/-- behind a clause's suite -/
theorem Down.close (z : Down X pn c m a B cls d t₀ t) (hN : X.N.Nodup) {i : Nat} {n : Str} (hi : X.N[i]? = some n) (hl : X.env.kindOf n = some .local) {pos : Pos} {oe : Obj} {t1 : Shared} {f : Flow}
    (r : SP (X.suite a ((a, oe) :: (X.pn ++ pn))) [] (cutE (some i) D) f t1) :
    wpAny (model X.prog X.w) X.A (do bindName X.env n .none; unbindBehindTheSuite X.env n pos) (fun _ t2 => SP X pn D f t2) X.xe t1 := by
  have ok := z.was.ok
  cases f
  case ret =>
    obtain ⟨v, c1, m1, J, rv, k⟩ := r
    exact gone_ok (J.unsuite ok) hN hi hl fun t2 J2 => ⟨v, _, _, J2, rv, k⟩
  all_goals
    obtain ⟨c1, m1, J, k⟩ := r
    exact gone_ok (J.unsuite ok) hN hi hl fun t2 J2 => ⟨_, _, J2, k⟩
/-- no clause took it: it goes on -/
theorem Down.pass (z : Down X pn c m a B cls d t₀ t) (hs : X.stack = X.env :: X.outer) (hf : X.env.frame = some X.env.locals) (tk : Takes X Wout) (k : Wout cls d c m) :
    wpAny (model X.prog X.w) X.A (handleBy (.ref a) X.env []) (SP X pn D) X.xe t := by
  have out : wpAny (model X.prog X.w) X.A (setFlight (.ref a) X.env.frame) (fun _ t1 => wpAny (model X.prog X.w) X.A (throw (.ref a) : Sem Flow) (SP X pn D) X.xe t1) X.xe t := by
    rw [hf]
    exact HandSPX.setFlight_upZ z.flies fun h1 up1 sl1 => wpAny_throw (tk _ _
      ⟨a, B, t₀, pn, c, m, cls, d, rfl, z.was, z.ground, z.slots.trans sl1, .inr (.inr (by rw [hs]; exact up1)), z.free, z.world, z.bare, k⟩)
  obtain ⟨_, _, _, oe, vs, T, oT, ts, g, _, dt, tb, _⟩ := z.flies
  refine wpAny_handleBy_nil ?_
  unfold PySem.passOn
  refine wpAny_bind (wpAny_field g dt tb ?_)
  have live : ¬ ((Value.ref T == Value.none) = true) := by simp
  rw [if_neg live]
  first | exact wpAny_bind out | exact wpAny_bind (wpAny_pure (wpAny_bind out))
theorem Down.clauses {hds : List ExceptHandler} {l : List HCl} (hh : HcOk X hds l) (z : Down X pn c m a B cls d t₀ t) (hs : X.stack = X.env :: X.outer) (hf : X.env.frame = some X.env.locals) (hN : X.N.Nodup) (tk : Takes X Wout) :
    wMul X.K Wout D l cls d c m → wpAny (model X.prog X.w) X.A (handleBy (.ref a) X.env hds) (SP X pn D) X.xe t := by
  have ok := z.was.ok
  induction hh with
  | nil => exact z.pass hs hf tk
  | bare nm su rest more =>
    rintro ⟨b, one, yes, no⟩
    refine wpAny_handleBy_cons (codeAny_handlers_test (z.test hf nm ((PySem.W.exm_one (M := model X.prog X.w) z.inv.kIn z.looks one).here ?_))) (fun q => by cases q)
    cases b
    · exact more (no rfl)
    · refine codeAny_handlers_suite (HandSPX.lands_againZ z.flies fun h1 f1 u1 => ?_)
      obtain ⟨oe, S, zc, dt⟩ := (z.on f1 u1).seat hf
      exact wpAny_mono ((su a oe cls d (X.pn ++ pn) zc dt).run [] _ c m D S (yes rfl a z.free)) (fun f t1 r => end_on (fun J => J.unsuite ok) r) (fun _ _ n => n.elim)
  | @named _ n _ i _ _ _ _ _ _ _ hi hl nm su rest more =>
    rintro ⟨b, one, yes, no⟩
    refine wpAny_handleBy_cons (codeAny_handlers_test (z.test hf nm ((PySem.W.exm_one (M := model X.prog X.w) z.inv.kIn z.looks one).here ?_))) (fun q => by cases q)
    cases b
    · exact more (no rfl)
    · refine codeAny_handlers_suite_as (HandSPX.lands_againZ z.flies fun h1 f1 u1 => ?_)
      obtain ⟨oe, S, zc, dt⟩ := (z.on f1 u1).seat hf
      exact store_ok (X := X.suite a ((a, oe) :: (X.pn ++ pn))) (v := .ref a) S hN hi (.inl hl) rfl (fun t1 S1 =>
        wpAny_mono ((su a oe cls d (X.pn ++ pn) zc dt).run [] t1 _ m _ S1 (yes rfl a z.free)) (fun f t2 r => (z.on f1 u1).close hN hi hl r) (fun _ _ n => n.elim)) (.inr hl)
end
section
variable {X : Cx} {body : List Stmt} {h₀ : ExceptHandler} {hds : List ExceptHandler} {l : List HCl} {pos : Pos} {tb : WX → TS} {Wout : WX}
/-- a try with several clauses, named or not -/
theorem ps_try_mul (hs : X.stack = X.env :: X.outer) (hf : X.env.frame = some X.env.locals) (hN : X.N.Nodup) (tk : Takes X Wout)
    (hb : ∀ (W : WX) (pn : List (Addr × Obj)) (xe : Value → Shared → Prop), Takes (X.tr pn xe) W → PassesOwn (model X.prog X.w) X.A X.env xe → PSs (X.tr pn xe) body (tb W))
    (hh : HcOk X (h₀ :: hds) l) : PS X (.Try body (h₀ :: hds) [] [] pos) (tTry X.K Wout tb l) where
  run pn t c m D I h := by
    have ok := I.ok
    refine wpAny_Try_except (wpAny_mono ((hb (wMul X.K Wout D l) (X.pn ++ pn) (fun u t1 => wpAny (model X.prog X.w) X.A (noteFrame u X.env)
      (fun _ t2 => wpAny (model X.prog X.w) X.A (setFlight u none) (fun _ t3 => wpAny (model X.prog X.w) X.A (handleBy u X.env (h₀ :: hds)) (SP X pn D) X.xe t3) X.xe t2) X.xe t1)
      ?caught PassesOwn.looking).run [] t c m D (I.toTry _) h) ?through (fun _ _ q => q))
    case through =>
      intro f t1 r
      cases f
      case next => exact wpAny_execs_nil (end_on (f := .next) (fun J => J.ofTry ok) r)
      all_goals exact end_on (fun J => J.ofTry ok) r
    case caught =>
      rintro u t1 ⟨a, B, t₀, pn', c', m', cls, d, rfl, J, gr, up, sky, free, wo, ba, k⟩
      rw [show (X.tr (X.pn ++ pn) _).stack = X.env :: X.outer from hs] at sky
      refine Sky.land Zc.steady (by rw [ok.frames, hs]) hf sky fun h1 f1 u1 => ?_
      exact Down.clauses hh ⟨J.ofTry ok, gr, up.trans u1, f1, free, wo, ba⟩ hs hf hN tk k
end
section
variable {X : Cx}
/-- a, b, c = x, y, z with plain local names -/
def tTriple (i j k : Nat) (ta : TA) : TS := fun D s H => ta s H fun vs H1 => ∃ u v w, vs = [u, v, w] ∧ D.nx (((s.set k (some w)).set j (some v)).set i (some u)) H1
theorem ps_triple {i j l : Nat} {x y z : Str} {a b c : Expr} {ta : TA} {px py pz pt pos : Pos} {kt k2 pt2} (hc : X.calm = true) (hN : X.N.Nodup)
    (hi : X.N[i]? = some x) (hj : X.N[j]? = some y) (hl : X.N[l]? = some z) (lx : X.env.scope.names.lookup x = some .local) (ly : X.env.scope.names.lookup y = some .local)
    (lz : X.env.scope.names.lookup z = some .local) (ha : PA X [a, b, c] ta)
    (sw : swappedStores [.Tuple [.Name x px, .Name y py, .Name z pz] kt pt] (.Tuple [a, b, c] k2 pt2) X.env = pure (some [x, y, z])) (so : swapsWithSole [.Tuple [.Name x px, .Name y py, .Name z pz] kt pt] (.Tuple [a, b, c] k2 pt2) pos.line X.env = pure false := by rfl)
    (ij : i ≠ j := by decide) (il : i ≠ l := by decide) (jl : j ≠ l := by decide) : PS X (.Assign [.Tuple [.Name x px, .Name y py, .Name z pz] kt pt] (.Tuple [a, b, c] k2 pt2) pos) (tTriple i j l ta) := by
  have e : tTriple i j l ta = tPar3 i j l ta := by
    funext D s H
    have q : ∀ u v w : V, ((s.set l (some w)).set j (some v)).set i (some u) = ((s.set i (some u)).set j (some v)).set l (some w) := fun u v w => by
      rw [List.set_comm _ _ jl.symm, List.set_comm _ _ il.symm, List.set_comm _ _ ij.symm]
    simp only [tTriple, tPar3, q]
  exact e ▸ ps_par3 hc hN hi hj hl ij il jl lx ly lz ha sw so
end
end L2

namespace Dz
open PySem PySem.Spec PyProof.Rows L2
section
variable {W : WX} {Ps : PsiT} {r : Rho} {m : Sto} {E : EndsD} {ta : TA}
theorem ws_par {i j : Nat} (h : WA W Ps ta r m fun xs m1 => ∃ x y, xs = [x, y] ∧ E.nx ((r.set i (some x)).set j (some y)) m1) : WS W Ps (tPar i j ta) E r m := fun s H D R X K =>
  h s H _ R X fun v H1 x m1 h1 f1 r1 s1 => by
    obtain ⟨x, y, e, k⟩ := h1
    subst e
    obtain ⟨v, w, rfl, q1, q2⟩ := reps_two r1
    exact ⟨v, w, rfl, K.nx _ H1 _ m1 k f1 ⟨((f1.rel R s1).sl.set i q1).set j q2, s1⟩⟩
theorem ws_triple {i j l : Nat} (h : WA W Ps ta r m fun xs m1 => ∃ x y z, xs = [x, y, z] ∧ E.nx (((r.set l (some z)).set j (some y)).set i (some x)) m1) : WS W Ps (tTriple i j l ta) E r m := fun s H D R X K =>
  h s H _ R X fun v H1 x m1 h1 f1 r1 s1 => by
    obtain ⟨x, y, z, e, k⟩ := h1
    subst e
    cases r1 with
    | cons q1 r2 =>
      obtain ⟨v, w, rfl, q2, q3⟩ := reps_two r2
      exact ⟨_, v, w, rfl, K.nx _ H1 _ m1 k f1 ⟨(((f1.rel R s1).sl.set l q3).set j q2).set i q1, s1⟩⟩
/-- raise C(e) -/
theorem ws_raise {C : Addr} {f : Str} (h : WA W Ps ta r m fun xs m1 => ∃ x, xs = [x] ∧ Ps (.ref C) [(f, x)] r m1) : WS W Ps (fun _ s H => tMkBad C f ta s H fun cls d H' => W cls d s H') E r m := fun s H D R X K =>
  h s H _ R X fun vs H1 xs m1 h1 f1 r1 s1 => by
    obtain ⟨x, e, k⟩ := h1
    subst e
    obtain ⟨v, rfl, q⟩ := reps_one r1
    refine ⟨v, rfl, fun d hd => ?_⟩
    have fn : Fr m1 m1 H1 (upd H1 d (.xd [(f, v)])) := Fr.new hd
    exact X _ _ [(f, x)] s _ r m1 k (f1.trans fn) ⟨d, [(f, v)], rfl, s1.fresh hd, upd_same, .cons (fn.rep q) .nil⟩ ((f1.trans fn).rel R (s1.new hd))
def cutR (oi : Option Nat) (E : EndsD) : EndsD := match oi with
  | none => E
  | some i => { nx := fun r m => E.nx (r.set i none) m, rt := E.rt, bk := fun r m => E.bk (r.set i none) m, ct := fun r m => E.ct (r.set i none) m }
def bindR (oi : Option Nat) (r : Rho) (a dd : Addr) (fs : List (Str × D)) : Rho := match oi with
  | none => r
  | some i => r.set i (some (.exc a dd fs))
def W0 : WX := fun _ _ _ _ => False
def P0 : PsiT := fun _ _ _ _ => False
/-- what the clauses wish of an exception -/
def HM (K : PySem.W.Frag) (Ps : PsiT) (E : EndsD) : List HCl → PsiT
  | [] => Ps
  | h :: l => fun cls fs r m => ∃ b, PySem.W.exmOne K cls h.1 = some b ∧ (b = true → ∀ a dd, WS W0 P0 (h.2.2 a cls (some dd)) (cutR h.2.1 E) (bindR h.2.1 r a dd fs) m) ∧ (b = false → HM K Ps E l cls fs r m)
theorem ks_cut {m : Sto} {H : Hp} {D : Ends} (K : KS E m H D) : ∀ oi, KS (cutR oi E) m H (cutE oi D)
  | none => K
  | some i => ⟨fun s' H' r' m' p f R => K.nx _ H' _ m' p f ⟨R.sl.drop i, R.st⟩, K.rt, fun s' H' r' m' p f R => K.bk _ H' _ m' p f ⟨R.sl.drop i, R.st⟩, fun s' H' r' m' p f R => K.ct _ H' _ m' p f ⟨R.sl.drop i, R.st⟩⟩
theorem hm_ok {K : PySem.W.Frag} {D : Ends} : ∀ {l : List HCl} {m : Sto} {H : Hp}, XT W m H Ps → KS E m H D → XT (wMul K W D l) m H (HM K Ps E l)
  | [], m, H, X, _ => X
  | h :: l, m, H, X, KK => fun cls d fs s' H' r' m' p f q R => by
    obtain ⟨b, e, h1, h2⟩ := p
    refine ⟨b, e, fun eb a ha => ?_, fun eb => hm_ok X KK cls d fs s' H' r' m' (h2 eb) f q R⟩
    obtain ⟨dd, xs, ed, hn, hx, px⟩ := q
    subst ed
    refine h1 eb a dd _ H' _ ?_ (fun _ _ _ _ _ _ _ p => p.elim) (ks_cut (KK.go f) _)
    cases h.2.1 with
    | none => exact R
    | some i => exact ⟨R.sl.set i (.exc hx hn px), R.st⟩
theorem ws_try {K : PySem.W.Frag} {tb : WX → TS} {l : List HCl} (h : ∀ W', WS W' (HM K Ps E l) (tb W') E r m) : WS W Ps (tTry K W tb l) E r m := fun s H D R X KK =>
  h _ s H D R (hm_ok X KK) KK
/-- e.f of a caught exception -/
theorem wt_xf {a dd C : Addr} {f : Str} {te : TE} {d : D} {fs : List (Str × D)} {Ph : PhiT} (h : WT W Ps te r m fun x m1 => x = .exc a dd fs ∧ fs.lookup f = some d ∧ Ph d m1) : WT W Ps (tXf a (.ref C) (some dd) C f te) r m Ph := fun s H Q R X K =>
  h s H _ R X fun v H1 x m1 h1 f1 r1 s1 => by
    obtain ⟨e, el, k⟩ := h1
    subst e
    cases r1 with
    | @exc _ _ xs _ hx hn px =>
      have lk : ∀ {xs : List (Str × V)} {fs : List (Str × D)}, RepXs (dom m1) H1 xs fs → fs.lookup f = some d → ∃ v, xs.lookup f = some v ∧ Rep (dom m1) H1 v d := by
        intro xs fs p
        induction fs generalizing xs with
        | nil => intro z; cases z
        | cons y ys ih =>
          cases p with
          | @cons k v d2 vs ds q t =>
            intro z
            rw [List.lookup_cons] at z ⊢
            cases c : f == k with
            | true => rw [c] at z; cases z; exact ⟨v, rfl, q⟩
            | false => rw [c] at z; exact ih t z
      obtain ⟨v, ev, rv⟩ := lk px el
      exact ⟨rfl, rfl, dd, xs, v, rfl, hx, ev, K v H1 d m1 k f1 rv s1⟩
end
end Dz
/-! Dz, part F: dicts of the store, the law's state of draws taken apart, defs. -/
namespace Dz
open PySem PySem.Spec PyProof.Rows L2

/-! ### dicts -/
def kD : Key → D
  | .inl i => .int i
  | .inr x => .str x
def valD (kvs : List (Key × D)) (k : Key) : Option D := (kvs.find? fun kv => decide (kv.1 = k)).map (·.2)
def putD (kvs : List (Key × D)) (k : Key) (v : D) : List (Key × D) :=
  if (kvs.any fun kv => decide (kv.1 = k)) = true then kvs.map (fun kv => if kv.1 = k then (kv.1, v) else kv) else kvs ++ [(k, v)]
def mergeD (kvs more : List (Key × D)) : List (Key × D) := more.foldl (fun acc kv => putD acc kv.1 kv.2) kvs
section
variable {M : List Addr} {H : Hp}
theorem RepKs.len : ∀ {vs : List (Key × V)} {ds : List (Key × D)}, RepKs M H vs ds → vs.length = ds.length
  | _, _, .nil => rfl
  | _, _, .cons _ t => congrArg Nat.succ t.len
theorem RepKs.val {k : Key} : ∀ {vs : List (Key × V)} {ds : List (Key × D)} {d : D}, RepKs M H vs ds → valD ds k = some d → ∃ v, valV vs k = some v ∧ Rep M H v d
  | _, _, d, .nil, h => by cases h
  | (j, v) :: vs, (_, e) :: ds, d, .cons a t, h => by
    by_cases c : j = k
    · subst c
      simp [valD, List.find?_cons] at h
      subst h
      exact ⟨v, by simp [valV, List.find?_cons], a⟩
    · have h' : valD ds k = some d := by simpa [valD, List.find?_cons, c] using h
      obtain ⟨w, e1, e2⟩ := RepKs.val t h'
      exact ⟨w, by simpa [valV, List.find?_cons, c] using e1, e2⟩
theorem RepKs.none {k : Key} : ∀ {vs : List (Key × V)} {ds : List (Key × D)}, RepKs M H vs ds → valD ds k = none → valV vs k = none
  | _, _, .nil, h => rfl
  | (j, v) :: vs, (_, e) :: ds, .cons a t, h => by
    by_cases c : j = k
    · subst c
      simp [valD, List.find?_cons] at h
    · have h' : valD ds k = Option.none := by simpa [valD, List.find?_cons, c] using h
      simpa [valV, List.find?_cons, c] using RepKs.none t h'
theorem RepKs.any {k : Key} : ∀ {vs : List (Key × V)} {ds : List (Key × D)}, RepKs M H vs ds → (vs.any fun kv => decide (kv.1 = k)) = (ds.any fun kv => decide (kv.1 = k))
  | _, _, .nil => rfl
  | (j, v) :: vs, (_, e) :: ds, .cons a t => by
    rw [List.any_cons, List.any_cons, RepKs.any t]
theorem RepKs.map {k : Key} {v : V} {d : D} (q : Rep M H v d) : ∀ {vs : List (Key × V)} {ds : List (Key × D)}, RepKs M H vs ds → RepKs M H (vs.map fun kv => if kv.1 = k then (kv.1, v) else kv) (ds.map fun kv => if kv.1 = k then (kv.1, d) else kv)
  | _, _, .nil => .nil
  | (j, w) :: vs, (_, e) :: ds, .cons a t => by
    rw [List.map_cons, List.map_cons]
    by_cases c : j = k
    · rw [if_pos c, if_pos c]; exact .cons q (RepKs.map q t)
    · rw [if_neg c, if_neg c]; exact .cons a (RepKs.map q t)
theorem RepKs.app : ∀ {vs vs' : List (Key × V)} {ds ds' : List (Key × D)}, RepKs M H vs ds → RepKs M H vs' ds' → RepKs M H (vs ++ vs') (ds ++ ds')
  | _, _, _, _, .nil, s => s
  | _, _, _, _, .cons a t, s => .cons a (RepKs.app t s)
theorem RepKs.put {k : Key} {v : V} {d : D} (q : Rep M H v d) {vs : List (Key × V)} {ds : List (Key × D)} (r : RepKs M H vs ds) : RepKs M H (putK vs k v) (putD ds k d) := by
  unfold putK putD
  rw [r.any]
  split
  · exact r.map q
  · exact r.app (.cons q .nil)
theorem RepKs.merge : ∀ {more : List (Key × V)} {moreD : List (Key × D)} {vs : List (Key × V)} {ds : List (Key × D)}, RepKs M H more moreD → RepKs M H vs ds → RepKs M H (mergeK vs more) (mergeD ds moreD)
  | _, _, _, _, .nil, s => s
  | _, _, _, _, .cons (vs := vs') (ds := ds') a t, s => RepKs.merge (more := vs') (moreD := ds') t (s.put a)
theorem rep_key {k : Key} {v : V} (r : Rep M H v (kD k)) : v = kV k := by
  cases k <;> cases r <;> rfl
end
def IsDc (m : Sto) (d : D) (kvs : List (Key × D)) : Prop := d = .dct kvs ∨ ∃ (k : Nat) (a : Addr), d = .ref a ∧ m[k]? = some (a, MO.dct kvs)
theorem dct_at {m : Sto} {H : Hp} {a : Addr} {k : Nat} {ds : List (Key × D)} (st : StoR m H) (e : m[k]? = some (a, .dct ds)) : ∃ xs, H a = some (.dK xs) ∧ RepKs (dom m) H xs ds := st.at_ _ (List.mem_of_getElem? e)
theorem isD_rd {m : Sto} {H : Hp} {v : V} {d : D} {ds : List (Key × D)} (h : IsDc m d ds) (r : Rep (dom m) H v d) (st : StoR m H) : ∃ a xs, v = .ref a ∧ H a = some (.dK xs) ∧ RepKs (dom m) H xs ds := by
  rcases h with h | ⟨k, a, h, e⟩ <;> subst h <;> cases r
  · exact ⟨_, _, rfl, by assumption, by assumption⟩
  · obtain ⟨xs, e, q⟩ := dct_at st e
    exact ⟨_, _, rfl, e, q⟩
theorem dct_upd {m : Sto} {H : Hp} {a : Addr} {k : Nat} {ds ds' : List (Key × D)} {xs' : List (Key × V)} (st : StoR m H) (e : m[k]? = some (a, .dct ds)) (r : RepKs (dom m) H xs' ds') :
    StoR (m.set k (a, .dct ds')) (upd H a (.dK xs')) ∧ Fr m (m.set k (a, .dct ds')) H (upd H a (.dK xs')) :=
  sto_upd (q := .dct ds') st e rfl (by simp [domO]) fun H' kp _ ea => ⟨xs', ea, r.mono kp fun _ _ _ _ n => n⟩
section
variable {W : WX} {Ps : PsiT} {r : Rho} {m : Sto} {E : EndsD} {Ph : PhiT} {td ty tv : TE}
theorem wt_dget (h : WT W Ps td r m fun x m1 => WT W Ps ty r m1 fun y m2 => ∃ kvs k d, IsDc m2 x kvs ∧ y = kD k ∧ valD kvs k = some d ∧ Ph d m2) : WT W Ps (tDGet td ty) r m Ph := fun s H Q R X K =>
  h s H _ R X fun v H1 x m1 h1 f1 r1 s1 => h1 s H1 _ (f1.rel R s1) (X.go f1) fun w H2 y m2 h2 f2 r2 s2 => by
    obtain ⟨kvs, k, d, hd, ey, ev, q⟩ := h2
    subst ey
    obtain ⟨a, xs, rfl, ea, rk⟩ := isD_rd hd (f2.rep r1) s2
    obtain rfl := rep_key r2
    obtain ⟨v, evv, rv⟩ := rk.val ev
    refine ⟨a, v, rfl, ?_, K v H2 d m2 q (f1.trans f2) rv s2⟩
    rw [← evv]
    exact .k ea
theorem ws_dput (h : WT W Ps tv r m fun v m1 => WT W Ps td r m1 fun x m2 => WT W Ps ty r m2 fun y m3 => ∃ j a kvs k, x = .ref a ∧ y = kD k ∧ m3[j]? = some (a, MO.dct kvs) ∧ kvs.length < sizeLine ∧ E.nx r (m3.set j (a, .dct (putD kvs k v)))) : WS W Ps (sDPut td ty tv) E r m := fun s H D R X K =>
  h s H _ R X fun v H1 dv m1 h1 f1 r1 s1 => h1 s H1 _ (f1.rel R s1) (X.go f1) fun vx H2 x m2 h2 f2 r2 s2 => h2 s H2 _ ((f1.trans f2).rel R s2) (X.go (f1.trans f2)) fun vy H3 y m3 h3 f3 r3 s3 => by
    obtain ⟨j, a, kvs, k, ex, ey, ej, hz, q⟩ := h3
    subst ex; subst ey
    obtain rfl := rep_key r3
    have r2' := f3.rep r2
    cases r2'
    obtain ⟨xs, ea, rk⟩ := dct_at s3 ej
    have r1' := (f2.trans f3).rep r1
    obtain ⟨s4, f4⟩ := dct_upd s3 ej (rk.put (k := k) r1')
    have ff := (f1.trans f2).trans f3
    exact ⟨a, _, rfl, .k ea (by rw [rk.len]; exact hz), K.nx s _ r _ q (ff.trans f4) ((ff.trans f4).rel R s4)⟩
def WPr (W : WX) (Ps : PsiT) (t : List (TE × TE)) (r : Rho) (m : Sto) (Ph : List (D × D) → Sto → Prop) : Prop := ∀ (s : L2.St) (H : Hp) (Q : List (V × V) → Hp → Prop), Rel m H s r → XT W m H Ps →
  (∀ vs H' ds m', Ph ds m' → Fr m m' H H' → Reps (dom m') H' (vs.map (·.1)) (ds.map (·.1)) → Reps (dom m') H' (vs.map (·.2)) (ds.map (·.2)) → StoR m' H' → Q vs H') → tPairs t s H Q
theorem wpr_nil {Ph : List (D × D) → Sto → Prop} (k : Ph [] m) : WPr W Ps [] r m Ph := fun s H Q R X q => q [] H [] m k (Fr.refl m H) .nil .nil R.st
theorem wpr_cons {trs : List (TE × TE)} {Ph : List (D × D) → Sto → Prop} (h : WT W Ps ty r m fun x m1 => WT W Ps tv r m1 fun y m2 => WPr W Ps trs r m2 fun ps m3 => Ph ((x, y) :: ps) m3) : WPr W Ps ((ty, tv) :: trs) r m Ph := fun s H Q R X q =>
  h s H _ R X fun v H1 x m1 h1 f1 r1 s1 => h1 s H1 _ (f1.rel R s1) (X.go f1) fun w H2 y m2 h2 f2 r2 s2 => h2 s H2 _ ((f1.trans f2).rel R s2) (X.go (f1.trans f2)) fun vs H3 ds m3 h3 f3 r3 r4 s3 =>
    q ((v, w) :: vs) H3 ((x, y) :: ds) m3 h3 ((f1.trans f2).trans f3) (.cons ((f2.trans f3).rep r1) r3) (.cons (f3.rep r2) r4) s3
theorem pairs_ks {M : List Addr} {H : Hp} : ∀ {kvs : List (Key × D)} {vs : List (V × V)}, Reps M H (vs.map (·.1)) (kvs.map fun kv => kD kv.1) → Reps M H (vs.map (·.2)) (kvs.map (·.2)) →
    ∃ ws : List (Key × V), vs = ws.map (fun kv => (kV kv.1, kv.2)) ∧ RepKs M H ws kvs
  | [], [], _, _ => ⟨[], rfl, .nil⟩
  | [], _ :: _, h, _ => by cases h
  | _ :: _, [], h, _ => by cases h
  | (k, d) :: kvs, (v, w) :: vs, .cons a t, .cons b u => by
    obtain ⟨ws, e, q⟩ := pairs_ks t u
    have := rep_key a
    exact ⟨(k, w) :: ws, by rw [List.map_cons, ← e]; simp at this; rw [this], .cons b q⟩
theorem dom_consd (a : Addr) (ds : List (Key × D)) (m : Sto) : dom ((a, .dct ds) :: m) = a :: dom m := rfl
theorem wt_disp {trs : List (TE × TE)} (h : ∀ p, p ∉ dom m → WPr W Ps trs r ((p, .dct []) :: m) fun ps m1 => ∃ j kvs, m1[j]? = some (p, MO.dct []) ∧ ps = kvs.map (fun kv => (kD kv.1, kv.2)) ∧ kvs.length ≤ 15 ∧ Ph (.ref p) (m1.set j (p, .dct (mergeD [] kvs)))) : WT W Ps (tDisp trs) r m Ph := fun s H Q R X K => fun p hp => by
  have f : Fr m ((p, .dct []) :: m) H (upd H p (.dK [])) := ⟨(Fr.new (m := m) hp).keep, fun a ha => by
    rw [dom_consd] at ha
    rcases List.mem_cons.mp ha with e | e
    · exact .inr (no_at (by rw [e]; exact hp))
    · exact .inl e⟩
  have up : ∀ a o, H a = some o → upd H p (.dK []) a = some o := fun a u e => by rw [upd_ne (ne_of_none e hp)]; exact e
  have st : StoR ((p, .dct []) :: m) (upd H p (.dK [])) := ⟨by rw [dom_consd]; exact List.nodup_cons.mpr ⟨R.st.fresh hp, R.st.nd⟩, fun q hq => by
    rcases List.mem_cons.mp hq with e | e
    · subst e
      exact ⟨[], upd_same, .nil⟩
    · exact MoR.keep f.keep f.notin (fun a o _ e => up a o e) (R.st.at_ q e)⟩
  refine h p (R.st.fresh hp) s _ _ (f.rel R st) (X.go f) fun vs H1 ds m1 h1 f1 r1 r2 s1 => ?_
  obtain ⟨j, kvs, ej, rfl, hz, q⟩ := h1
  rw [List.map_map] at r1 r2
  obtain ⟨ws, e, rk⟩ := pairs_ks r1 r2
  obtain ⟨xs, ea, rx⟩ := dct_at s1 ej
  cases rx
  obtain ⟨s2, f2⟩ := dct_upd s1 ej (rk.merge .nil)
  exact ⟨ea, ws, e, by rw [rk.len]; exact hz, K _ _ _ _ q ((f.trans f1).trans f2) (.ref p) s2⟩
end

/-! ### the law's state of draws -/
def genK (ac ag : Addr) (sp : Int) : List (Key × D) := [(Sum.inr "cells", .ref ac), (Sum.inr "great", .ref ag), (Sum.inr "spot", .int sp)]
section
variable {W : WX} {Ps : PsiT} {r : Rho} {m : Sto} {E : EndsD} {Ph : PhiT} {ts : TS} {te : TE}
theorem reps_of_ints {M : List Addr} {H : Hp} : ∀ ys : List Int, Reps M H (ys.map V.int) (ys.map D.int)
  | [] => .nil
  | y :: ys => .cons (.int y) (reps_of_ints ys)
/-- the state goes ahead in the store, in its parts -/
theorem ws_open {k : Nat} {a ac ag : Addr} {n : Nat} (e : m[k]? = some (a, .gen ac ag n))
    (h : ∀ (sp : Nat) (cs gs : List Int), sp ≤ n → cs.length = 64 → (∀ c ∈ cs, 0 ≤ c ∧ c < 2147483647) → gs.length ≤ 63 →
      WS W Ps ts E r ((a, .dct (genK ac ag sp)) :: (ac, .lst (cs.map D.int)) :: (ag, .lst (gs.map D.int)) :: m.eraseIdx k)) : WS W Ps ts E r m := fun s H De R X K => by
  obtain ⟨sp, cs, gs, e1, e2, e3, e4, e5, e6, e7⟩ : MoR (dom m) H a (.gen ac ag n) := R.st.at_ _ (List.mem_of_getElem? e)
  have hd : dom ((a, .dct (genK ac ag sp)) :: (ac, .lst (cs.map D.int)) :: (ag, .lst (gs.map D.int)) :: m.eraseIdx k) = [a, ac, ag] ++ dom (m.eraseIdx k) := rfl
  have sub : ∀ x, x ∈ [a, ac, ag] ++ dom (m.eraseIdx k) → x ∈ dom m := fun x hx => by
    rcases List.mem_append.mp hx with z | z
    · exact dom_sub e x z
    · exact dom_erase z
  have nd3 : [a, ac, ag].Nodup := by
    have : ∀ {m : Sto} {k : Nat} {p : Addr × MO}, (dom m).Nodup → m[k]? = some p → (domO p).Nodup := by
      intro m
      induction m with
      | nil => intro k p _ h; simp at h
      | cons y m ih =>
        intro k p nd h
        obtain ⟨n1, n2, n3⟩ := List.nodup_append.mp (show (domO y ++ dom m).Nodup from nd)
        cases k with
        | zero =>
          have : y = p := by simpa using h
          subst this
          exact n1
        | succ k => exact ih n2 (by simpa using h)
    exact this R.st.nd e
  have st : StoR ((a, .dct (genK ac ag sp)) :: (ac, .lst (cs.map D.int)) :: (ag, .lst (gs.map D.int)) :: m.eraseIdx k) H := by
    refine ⟨by rw [hd]; exact List.nodup_append.mpr ⟨nd3, dom_erase_nd R.st.nd, fun x hx y hy z => by subst z; exact dom_erase_not R.st.nd e hx hy⟩, fun p hp => ?_⟩
    rcases List.mem_cons.mp hp with z | hp
    · subst z
      exact ⟨_, e1, .cons (.ref _) (.cons (.ref _) (.cons (.int _) .nil))⟩
    rcases List.mem_cons.mp hp with z | hp
    · subst z
      exact ⟨_, e2, reps_of_ints _⟩
    rcases List.mem_cons.mp hp with z | hp
    · subst z
      exact ⟨_, e3, reps_of_ints _⟩
    · refine MoR.keep (fun _ _ h _ _ => h) (fun b _ _ _ n h => n (sub b (by rw [← hd]; exact h))) (fun _ _ _ h => h) (R.st.at_ p (List.mem_of_mem_eraseIdx hp))
  have f : Fr m ((a, .dct (genK ac ag sp)) :: (ac, .lst (cs.map D.int)) :: (ag, .lst (gs.map D.int)) :: m.eraseIdx k) H H := ⟨fun _ _ h _ _ => h, fun x hx => .inl (sub x (by rw [← hd]; exact hx))⟩
  exact h sp cs gs e4 e5 e6 e7 s H De (f.rel R st) (X.go f) (K.go f)
/-- its parts are the state again -/
theorem wk_close {k : Nat} {a ac ag : Addr} {n n' sp : Nat} {cs gs : List Int} (e : m[k]? = some (a, .gen ac ag n)) (h1 : sp ≤ n') (h2 : cs.length = 64) (h3 : ∀ c ∈ cs, 0 ≤ c ∧ c < 2147483647) (h4 : gs.length ≤ 63) :
    Wk ((a, .dct (genK ac ag sp)) :: (ac, .lst (cs.map D.int)) :: (ag, .lst (gs.map D.int)) :: m.eraseIdx k) (m.set k (a, .gen ac ag n')) := by
  have hd : dom ((a, .dct (genK ac ag sp)) :: (ac, .lst (cs.map D.int)) :: (ag, .lst (gs.map D.int)) :: m.eraseIdx k) = [a, ac, ag] ++ dom (m.eraseIdx k) := rfl
  have perm : ∀ {m : Sto} {k : Nat} {p : Addr × MO}, m[k]? = some p → (dom m).Perm (domO p ++ dom (m.eraseIdx k)) := by
    intro m
    induction m with
    | nil => intro k p h; simp at h
    | cons y m ih =>
      intro k p h
      cases k with
      | zero =>
        have : y = p := by simpa using h
        subst this
        exact List.Perm.refl _
      | succ k =>
        have q := ih (k := k) (p := p) (by simpa using h)
        show (domO y ++ dom m).Perm (domO p ++ (domO y ++ dom (m.eraseIdx k)))
        refine (List.Perm.append_left (domO y) q).trans ?_
        rw [← List.append_assoc, ← List.append_assoc]
        exact List.Perm.append_right _ List.perm_append_comm
  have pm : (dom m).Perm ([a, ac, ag] ++ dom (m.eraseIdx k)) := perm e
  have hs : dom (m.set k (a, .gen ac ag n')) = dom m := dom_set e rfl
  refine ⟨fun x hx => by rw [hd]; rw [hs] at hx; exact pm.mem_iff.mp hx, fun H st => ⟨by rw [hs]; exact pm.nodup_iff.mpr (by rw [← hd]; exact st.nd), fun p hp => ?_⟩⟩
  have k1 : Kp (dom ((a, MO.dct (genK ac ag sp)) :: (ac, .lst (cs.map D.int)) :: (ag, .lst (gs.map D.int)) :: m.eraseIdx k)) H H := fun _ _ h _ _ => h
  obtain ⟨j, hj⟩ := List.mem_iff_getElem?.mp hp
  rw [hs]
  by_cases c : k = j
  · subst c
    have lt : k < m.length := (List.getElem?_eq_some_iff.mp e).1
    rw [List.getElem?_set_self lt] at hj
    cases hj
    obtain ⟨xs, ea, rx⟩ := dct_at (k := 0) st rfl
    obtain ⟨ys, ec, ry⟩ := lst_at (k := 1) st rfl
    obtain ⟨zs, eg, rz⟩ := lst_at (k := 2) st rfl
    obtain rfl := reps_ints ry
    obtain rfl := reps_ints rz
    cases rx with
    | cons a1 t1 => cases t1 with
      | cons a2 t2 => cases t2 with
        | cons a3 t3 =>
          cases t3
          cases a1; cases a2; cases a3
          exact ⟨sp, cs, gs, ea, ec, eg, h1, h2, h3, h4⟩
  · rw [List.getElem?_set_ne c] at hj
    have hm : p ∈ m.eraseIdx k := by
      have : ∀ {m : Sto} {k j : Nat}, m[j]? = some p → k ≠ j → p ∈ m.eraseIdx k := by
        intro m
        induction m with
        | nil => intro k j h; simp at h
        | cons y m ih =>
          intro k j h n
          cases k with
          | zero =>
            cases j with
            | zero => exact absurd rfl n
            | succ j => exact List.mem_of_getElem? (by simpa using h)
          | succ k =>
            cases j with
            | zero =>
              have : y = p := by simpa using h
              subst this
              exact List.mem_cons_self
            | succ j => exact List.mem_cons_of_mem _ (ih (by simpa using h) (fun e => n (by rw [e])))
      exact this hj c
    refine MoR.keep (fun _ _ h _ _ => h) (fun b _ _ _ n h => n ?_) (fun _ _ _ h => h) (st.at_ p (List.mem_cons_of_mem _ (List.mem_cons_of_mem _ (List.mem_cons_of_mem _ hm))))
    rw [hd]
    exact pm.mem_iff.mp h
theorem dom_perm {m m' : Sto} (h : m.Perm m') : (dom m).Perm (dom m') := by
  induction h with
  | nil => exact List.Perm.refl _
  | cons x _ ih => exact List.Perm.append_left (domO x) ih
  | swap x y l =>
    show (domO y ++ (domO x ++ dom l)).Perm (domO x ++ (domO y ++ dom l))
    rw [← List.append_assoc, ← List.append_assoc]
    exact List.Perm.append_right _ List.perm_append_comm
  | trans _ _ i1 i2 => exact i1.trans i2
theorem wk_perm {m m' : Sto} (h : m.Perm m') : Wk m m' := by
  have p := dom_perm h
  exact ⟨fun x hx => p.mem_iff.mpr hx, fun H st => ⟨p.nodup_iff.mp st.nd, fun q hq => MoR.keep (fun _ _ h _ _ => h) (fun _ _ _ _ n hx => n (p.mem_iff.mpr hx)) (fun _ _ _ h => h) (st.at_ q (h.mem_iff.mpr hq))⟩⟩
theorem Wk.trans {m1 m2 m3 : Sto} (a : Wk m1 m2) (b : Wk m2 m3) : Wk m1 m3 := ⟨fun x hx => a.1 x (b.1 x hx), fun H st => b.2 H (a.2 H st)⟩
/-- a new state of draws -/
theorem wk_new {a ac ag : Addr} {cs gs : List Int} (h2 : cs.length = 64) (h3 : ∀ c ∈ cs, 0 ≤ c ∧ c < 2147483647) (h4 : gs.length ≤ 63) : Wk [(ag, .lst (gs.map D.int)), (ac, .lst (cs.map D.int)), (a, .dct (genK ac ag 0))] [(a, .gen ac ag 0)] :=
  (wk_perm (m' := [(a, .dct (genK ac ag ((0 : Nat) : Int))), (ac, .lst (cs.map D.int)), (ag, .lst (gs.map D.int))]) (List.reverse_perm _).symm).trans (wk_close (m := [(a, .gen ac ag 0)]) (k := 0) (n := 0) (n' := 0) (sp := 0) rfl (Nat.le_refl 0) h2 h3 h4)
/-- ends that read the store more weakly -/
def EndsD.wk (E : EndsD) : EndsD := { nx := fun r m => ∃ m2, Wk m m2 ∧ E.nx r m2, rt := fun d m => ∃ m2, Wk m m2 ∧ E.rt d m2, bk := fun r m => ∃ m2, Wk m m2 ∧ E.bk r m2, ct := fun r m => ∃ m2, Wk m m2 ∧ E.ct r m2 }
theorem ws_post (h : WS W Ps ts E.wk r m) : WS W Ps ts E r m := fun s H De R X K => by
  have go : ∀ {P : Rho → Sto → Prop} {Q : L2.St → Hp → Prop}, KN P m H Q → KN (fun r m => ∃ m2, Wk m m2 ∧ P r m2) m H Q := fun k s' H' r' m' ⟨m2, w, p⟩ f R' => k s' H' r' m2 p (f.trans w.fr) (w.fr.rel R' (w.2 H' R'.st))
  exact h s H De R X ⟨go K.nx, fun v H' d m' ⟨m2, w, p⟩ f q st => K.rt v H' d m2 p (f.trans w.fr) (w.fr.rep q) (w.2 H' st), go K.bk, go K.ct⟩
/-- a changes nothing -/
theorem ws_skip {tu : TS} (h : WS W Ps ts { E with nx := fun r1 m1 => r1 = r ∧ m1 = m } r m) (h2 : WS W Ps tu E r m) : WS W Ps (tSeq ts tu) E r m :=
  ws_seq fun s H De R X K => h s H De R X ⟨fun s' H' r' m' ⟨e1, e2⟩ f R' => K.nx s' H' r' m' (by rw [e1, e2]; exact h2) f R', K.rt, K.bk, K.ct⟩
/-- a then b, Q between -/
theorem ws_seqQ {tu : TS} (Q : Rho → Sto → Prop) (h : WS W Ps ts { E with nx := Q } r m) (h2 : ∀ r1 m1, Q r1 m1 → WS W Ps tu E r1 m1) : WS W Ps (tSeq ts tu) E r m :=
  ws_seq fun s H De R X K => h s H De R X ⟨fun s' H' r' m' p f R' => K.nx s' H' r' m' (h2 r' m' p) f R', K.rt, K.bk, K.ct⟩
end

/-! ### defs -/
def startR (N : List Str) (ds : List D) : Rho := ds.map some ++ List.replicate (N.length - ds.length) none
theorem startR_ok {M : List Addr} {H : Hp} {N : List Str} {vs : List V} {ds : List D} (r : Reps M H vs ds) : SlR M H (L2.start N vs) (startR N ds) := by
  have hl := r.len
  unfold L2.start startR
  refine ⟨by simp [hl], fun i d h => ?_⟩
  rcases Nat.lt_or_ge i ds.length with c | c
  · rw [List.getElem?_append_left (by simpa using c), List.getElem?_map] at h
    cases e : ds[i]? with
    | none => rw [e] at h; cases h
    | some x =>
      rw [e] at h; cases h
      obtain ⟨v, ev, rv⟩ := r.nth e
      exact ⟨v, by rw [List.getElem?_append_left (by simpa [hl] using c), List.getElem?_map, ev]; rfl, rv⟩
  · rw [List.getElem?_append_right (by simpa using c), List.getElem?_replicate] at h
    split at h <;> cases h
theorem _root_.L2.Room.units1 {k : Nat} {A : Around} (r : Room k A) : A.units + 1 < cLine := by have := r.un; omega
theorem _root_.L2.Room.units5 {k : Nat} {A : Around} (r : Room k A) : A.units + 65 < cLine := by have := r.un; omega
/-- what a def's body does keeps its promise -/
abbrev Runs (sp : SpD) (N : List Str) (t : XK → TS) : Prop := ∀ (E : XK) (ds : List D) (m : Sto) (Ph : PhiT) (Pc : PsiC), sp ds m Ph Pc →
  WS (fun cls d _ H' => E cls d H') (fun cls fs _ m' => Pc cls fs m') (t E) { nx := fun _ m' => Ph .non m', rt := Ph } (startR N ds) m
section
variable {P : Program} {w : World} {K : PySem.W.Frag} {mg : Str → Option Value} {base : Heap} {x qual : Str} {params : Arguments} {body : List Stmt} {scope : Scope} {dvs : List V} {kws : List (Str × V)} {f : Addr} {fd : FuncData}
theorem okD {N ps : List Str} {k : Nat} {sp : SpD} {t : XK → TS} (F : FunD K x qual params body scope dvs kws f fd) (S : FnScope N ps scope) (len : ∀ ds m Ph Pc, sp ds m Ph Pc → ds.length = ps.length) (run : Runs sp N t)
    (h : ∀ (cdv : Value) (A : Around) (outer : List Env) (s : Shared) (H : Hp) (E : XK), Room k (A.deeper (envOfC qual scope s.heap.objs.size f cdv)) → PSs (cxOf (L2.CX P w) P w K mg base N qual scope f cdv A outer s H E) body (t E)) :
    FnOk P w K mg base (L2.CX P w) (k + 1) f fd ps (lift sp) := by
  refine F.ok S (fun vs H Q E ⟨ds, m, Ph, Pc, r, st, hs, _, _⟩ => by rw [r.len]; exact len ds m Ph Pc hs) fun cdv A outer s H vs Q E hr ⟨ds, m, Ph, Pc, r, st, hs, kt, xc⟩ => ⟨t E, h cdv A outer s H E hr, ?_⟩
  exact run E ds m Ph Pc hs (L2.start N vs) H _ ⟨startR_ok r, st⟩ (XT.of xc) ⟨fun s' H' r' m' p f' R => kt .non H' .non m' p f' .non R.st, kt, fun _ _ _ _ p => p.elim, fun _ _ _ _ p => p.elim⟩
/-- a def that stands behind the top, with its promise -/
structure GF (P : Program) (w : World) (K : PySem.W.Frag) (mg : Str → Option Value) (base : Heap) (x : Str) (ps : List Str) (k : Nat) (sp : SpD) (f : Addr) (fd : FuncData) : Prop where
  ok : FnOk P w K mg base (L2.CX P w) k f fd ps (lift sp)
  gm : mg x = some (.ref f)
  kp : PySem.W.keepIn K (.ref f) = true
end
/-- how a call binds: the defaults dvs fill up -/
structure Bd (K : PySem.W.Frag) (fd : FuncData) (ps : List Str) (dvs : List V) : Prop where
  ex : ∃ ds, Vals dvs ds ∧ Binds K fd ps ds
section
variable {X : Cx} {k : Nat} {f : Addr} {fd : FuncData} {ps : List Str} {sp : SpD} {W : WX} {x : Str} {p pos : Pos} {e : Expr} {es : List Expr} {t : TA} {dvs : List V}
theorem pe_D (F : GF X.prog X.w X.K X.mg X.base x ps k sp f fd) (hr : Room k X.A) (hb : Bd X.K fd ps dvs) (tk : Takes X W) (ha : PA X (e :: es) t) (hg : Gl X x := by rfl)
    (hdb : (x == ("__debug__" : Str)) = false := by decide) (he : starEach (e :: es) X.env = (false, eval e X.env) :: starEach es X.env := by rfl) (hpl : (backTo pos (starEach es X.env)).any (·.1) = false := by rfl) :
    PE X (.Call (.Name x p) (e :: es) [] pos) (tCallG (lift sp) dvs (WE W) t) := by
  obtain ⟨ds, v, b⟩ := hb.ex
  exact pe_callG F.ok hr hg F.gm F.kp b v (fun s => passAt tk s) ha hdb he hpl
theorem pe_D0 (F : GF X.prog X.w X.K X.mg X.base x ps k sp f fd) (hr : Room k X.A) (hb : Bd X.K fd ps dvs) (tk : Takes X W) (hg : Gl X x := by rfl) (hdb : (x == ("__debug__" : Str)) = false := by decide) :
    PE X (.Call (.Name x p) [] [] pos) (tCallG (lift sp) dvs (WE W) tNil) := by
  obtain ⟨ds, v, b⟩ := hb.ex
  exact pe_callG0 F.ok hr hg F.gm F.kp b v (fun s => passAt tk s) hdb
end
abbrev WF (E : XK) : WX := fun cls d _ H' => E cls d H'
/-- a value's truth as a test -/
def tTru (K : PySem.W.Frag) (ta : TE) : TT := fun s H Q => ta s H fun x H' => ∃ k, TruV K x H' k ∧ Q k H'
/-- a call with keywords: they come behind the positional ones, in order -/
abbrev BdK (K : PySem.W.Frag) (fd : FuncData) (ps ks : List Str) : Prop := KBinds K fd ps ks (fun us ws => us ++ ws) (fun vs zs => vs ++ zs)
section
variable {X : Cx} {k : Nat} {f : Addr} {fd : FuncData} {ps ks : List Str} {sp : SpD} {W : WX} {x : Str} {p pos : Pos} {e : Expr} {es : List Expr} {kws : List Keyword} {t tk' : TA}
theorem pe_Dk0 (F : GF X.prog X.w X.K X.mg X.base x ps k sp f fd) (hr : Room k X.A) (hb : BdK X.K fd ps ks) (tk : Takes X W) (hkw : PK X kws tk') (hg : Gl X x := by rfl) (hall : (backToKw pos (keywordEach kws X.env)).all (·.1.isSome) = true := by rfl) (hks : (backToKw pos (keywordEach kws X.env)).filterMap (·.1) = ks := by rfl)
    (hdb : (x == ("__debug__" : Str)) = false := by decide) (hpl : ((backTo pos (starEach [] X.env)).any (·.1) || (backToKw pos (keywordEach kws X.env)).any (·.1.isNone)) = false := by rfl) :
    PE X (.Call (.Name x p) [] kws pos) (tCallGK (lift sp) (fun vs zs => vs ++ zs) (WE W) tNil tk') := pe_callGK0 F.ok hr hg F.gm F.kp hb (fun s => passAt tk s) hkw hall hks hdb hpl
theorem pe_Dk (F : GF X.prog X.w X.K X.mg X.base x ps k sp f fd) (hr : Room k X.A) (hb : BdK X.K fd ps ks) (tk : Takes X W) (ha : PA X (e :: es) t) (hkw : PK X kws tk') (hg : Gl X x := by rfl) (hall : (backToKw pos (keywordEach kws X.env)).all (·.1.isSome) = true := by rfl) (hks : (backToKw pos (keywordEach kws X.env)).filterMap (·.1) = ks := by rfl)
    (hdb : (x == ("__debug__" : Str)) = false := by decide) (he : starEach (e :: es) X.env = (false, eval e X.env) :: starEach es X.env := by rfl)
    (hpl : ((backTo pos (starEach (e :: es) X.env)).any (·.1) || (backToKw pos (keywordEach kws X.env)).any (·.1.isNone)) = false := by rfl) :
    PE X (.Call (.Name x p) (e :: es) kws pos) (tCallGK (lift sp) (fun vs zs => vs ++ zs) (WE W) t tk') := pe_callGK F.ok hr hg F.gm F.kp hb (fun s => passAt tk s) ha hkw hall hks hdb he hpl
theorem wt_ck {W : WX} {Ps : PsiT} {r : Rho} {m : Sto} {Ph : PhiT} {ta tk : TA} (h : WA W Ps ta r m fun xs m1 => WA W Ps tk r m1 fun ys m2 => sp (xs ++ ys) m2 Ph fun cls fs m' => Ps cls fs r m') : WT W Ps (tCallGK (lift sp) (fun vs zs => vs ++ zs) (WE W) ta tk) r m Ph := wt_callk (gD := fun xs ys => xs ++ ys) (fun a b => reps_app a b) h
end
theorem bt_len : bootBuiltins "len" = some (.builtin "len") := by decide +kernel
theorem bt_isinstance : bootBuiltins "isinstance" = some (.builtin "isinstance") := by decide +kernel
theorem bt_all : bootBuiltins "all" = some (.builtin "all") := by decide +kernel
theorem bt_any : bootBuiltins "any" = some (.builtin "any") := by decide +kernel
theorem bt_sum : bootBuiltins "sum" = some (.builtin "sum") := by decide +kernel
theorem bt_int : bootBuiltins "int" = some (.type "int") := by decide +kernel
theorem bt_bool : bootBuiltins "bool" = some (.type "bool") := by decide +kernel
theorem bt_str : bootBuiltins "str" = some (.type "str") := by decide +kernel
theorem bt_tuple : bootBuiltins "tuple" = some (.type "tuple") := by decide +kernel
theorem bt_list : bootBuiltins "list" = some (.type "list") := by decide +kernel
theorem bt_ValueError : bootBuiltins "ValueError" = some (.type "ValueError") := by decide +kernel
theorem bt_dict : bootBuiltins "dict" = some (.type "dict") := by decide +kernel
end Dz
/-! Dz, part G: the common comprehensions. -/
namespace Dz
open PySem PySem.Spec PyProof.Rows L2
section
variable {W : WX} {Ps : PsiT} {r : Rho} {m : Sto} {Ph : PhiT} {wi : TI} {g : TG} {tt : TT} {te : TE} {vs : List Nat}
theorem gs2 {i j : Nat} {vs : List Nat} {K : PySem.W.Frag} (hi : i ∈ vs) (hj : j ∈ vs) : GOnly vs (gTup K 2 (gCons (gName i) (gCons (gName j) gNil))) := gonly_tup (gsonly_cons hi (gsonly_cons hj gsonly_nil))
theorem take_succ' {α : Type} {l : List α} {i : Nat} {y : α} (h : l[i]? = some y) : l.take i ++ [y] = l.take (i + 1) := by
  rw [List.take_add_one, h]; rfl
/-- [e for x in xs]: each turn gives its item of out, the store stays -/
theorem wt_lcm (ho : GOnly vs g) (h : WI W Ps wi r m fun ds m1 => ∃ out : List D, out.length = ds.length ∧ ds.length ≤ sizeLine ∧
    (∀ (i : Nat) d y (L : Addr) acc, ds[i]? = some d → out[i]? = some y → WG W Ps g d (wipeR r vs) ((L, .lst acc) :: m1) fun r2 m2 => WT W Ps te r2 m2 fun z m4 => z = y ∧ m4 = (L, MO.lst acc) :: m1) ∧
    (Ph (.lst out) m1 ∨ ∀ L, L ∉ dom m1 → Ph (.ref L) ((L, .lst out) :: m1))) : WT W Ps (tLc wi g tYes te vs) r m Ph :=
  wt_lcG ho fun s H R Rl X k => h s H R Rl X fun J H' ds m' G h1 f1 s1 J1 g1 => by
    obtain ⟨out, hl, hz, turn, fin⟩ := h1
    refine k J H' ds m' G (fun L hL => ⟨fun i acc m2 => m2 = m' ∧ acc = out.take i, ⟨rfl, rfl⟩, fun i d acc m2 hd ⟨e1, e2⟩ => ?_, fun acc m2 ⟨e1, e2⟩ => ?_⟩) f1 s1 J1 g1
    · subst e1; subst e2
      have hi : i < ds.length := (List.getElem?_eq_some_iff.mp hd).1
      have hy : out[i]? = some out[i] := List.getElem?_eq_getElem (by omega)
      intro v s3 H3 Q3 R3 X3 q3 k3
      refine turn i d _ L _ hd hy v s3 H3 Q3 R3 X3 q3 fun s4 H4 r4 m4 w4 f4 R4 => k3 s4 H4 r4 m4 (wb_yes ⟨fun _ => ?_, fun z => by cases z⟩) f4 R4
      intro s5 H5 Q5 R5 X5 k5
      refine w4 s5 H5 Q5 R5 X5 fun v6 H6 d6 m6 ⟨e6, e7⟩ f6 q6 t6 => k5 v6 H6 d6 m6 ⟨m2, e7, ?_, rfl, ?_⟩ f6 q6 t6
      · rw [List.length_take]; omega
      · rw [e6, take_succ' hy]
    · subst e1; subst e2
      rw [← hl, List.take_length]
      rcases fin with z | z
      · exact .inl z
      · exact .inr (z L hL)
/-- [e for x in xs if t]: F tells each turn's item -/
theorem wt_lcf (ho : GOnly vs g) (h : WI W Ps wi r m fun ds m1 => ∃ F : D → Option D, ds.length ≤ sizeLine ∧
    (∀ d (L : Addr) acc, d ∈ ds → WG W Ps g d (wipeR r vs) ((L, .lst acc) :: m1) fun r2 m2 => WB W Ps tt r2 m2 fun b m3 => m3 = (L, MO.lst acc) :: m1 ∧ b = (F d).isSome ∧ (b = true → WT W Ps te r2 m3 fun z m4 => F d = some z ∧ m4 = (L, MO.lst acc) :: m1)) ∧
    (Ph (.lst (ds.filterMap F)) m1 ∨ ∀ L, L ∉ dom m1 → Ph (.ref L) ((L, .lst (ds.filterMap F)) :: m1))) : WT W Ps (tLc wi g tt te vs) r m Ph :=
  wt_lcG ho fun s H R Rl X k => h s H R Rl X fun J H' ds m' G h1 f1 s1 J1 g1 => by
    obtain ⟨F, hz, turn, fin⟩ := h1
    refine k J H' ds m' G (fun L hL => ⟨fun i acc m2 => m2 = m' ∧ acc = (ds.take i).filterMap F, ⟨rfl, rfl⟩, fun i d acc m2 hd ⟨e1, e2⟩ => ?_, fun acc m2 ⟨e1, e2⟩ => ?_⟩) f1 s1 J1 g1
    · subst e1; subst e2
      have hi : i < ds.length := (List.getElem?_eq_some_iff.mp hd).1
      intro v s3 H3 Q3 R3 X3 q3 k3
      refine turn d L _ (List.mem_of_getElem? hd) v s3 H3 Q3 R3 X3 q3 fun s4 H4 r4 m4 w4 f4 R4 => k3 s4 H4 r4 m4 ?_ f4 R4
      intro s5 H5 Q5 R5 X5 k5
      refine w4 s5 H5 Q5 R5 X5 fun b H6 m6 ⟨e6, e7, e8⟩ f6 t6 => k5 b H6 m6 ⟨fun eb => ?_, fun eb => ⟨m2, e6, rfl, ?_⟩⟩ f6 t6
      · subst eb
        intro s7 H7 Q7 R7 X7 k7
        refine e8 rfl s7 H7 Q7 R7 X7 fun v8 H8 d8 m8 ⟨e9, e10⟩ f8 q8 t8 => k7 v8 H8 d8 m8 ⟨m2, e10, ?_, rfl, ?_⟩ f8 q8 t8
        · have := List.length_filterMap_le F (ds.take i)
          have h2 := List.length_take_le i ds
          rw [List.length_take] at this
          omega
        · rw [← take_succ' hd, List.filterMap_append, List.filterMap_cons, e9]; rfl
      · rw [← take_succ' hd, List.filterMap_append, List.filterMap_cons]
        subst eb
        cases e : F d with
        | none => simp
        | some z => rw [e] at e7; cases e7
    · subst e1; subst e2
      rw [List.take_length]
      rcases fin with z | z
      · exact .inl z
      · exact .inr (z L hL)
end
end Dz
/-! Dz, part H: small facts of data. -/
namespace Dz
open PySem PySem.Spec PyProof.Rows L2
theorem mem_set_imp {α : Type} {l : List α} {n : Nat} {a x : α} (h : x ∈ l.set n a) : x = a ∨ x ∈ l := by
  rcases List.mem_or_eq_of_mem_set h with h | h
  · exact .inr h
  · exact .inl h
theorem ixN_nat {n j : Nat} {i : Int} (h : i = (j : Int)) (hj : j < n) : ixN n i = some j := by
  subst h
  unfold ixN
  rw [if_pos (by omega), if_pos (by omega)]; simp
theorem atI_at {α : Type} {xs : List α} {i : Int} {j : Nat} {v : α} (h : i = (j : Int)) (hv : xs[j]? = some v) : atI xs i = some v := by
  subst h
  exact atI_nat hv
theorem get_map_int {l : List Int} {j : Nat} (h : j < l.length) : (l.map D.int)[j]? = some (.int l[j]) := by
  rw [List.getElem?_map, List.getElem?_eq_getElem h]; rfl
theorem pys_ints : ∀ l : List Int, D.pys (l.map D.int) = some (l.map PyData.int)
  | [] => rfl
  | x :: l => by
    rw [List.map_cons, D.pys, pys_ints l]
    rfl
theorem lay_ints : ∀ l : List Int, PyData.canLayAll0 (l.map PyData.int) = true
  | [] => by simp [PyData.canLayAll0]
  | x :: l => by
    rw [List.map_cons, PyData.canLayAll0, lay_ints l]
    simp [PyData.canLay0]
theorem dep_ints : ∀ l : List Int, PyData.depthAll (l.map PyData.int) = 0
  | [] => by simp [PyData.depthAll]
  | x :: l => by
    rw [List.map_cons, PyData.depthAll, dep_ints l]
    simp [PyData.depth]
theorem shaped_ints (l : List Int) : SeqAt.shaped (.list (l.map PyData.int)) = true := by
  unfold SeqAt.shaped
  rw [PyData.canLay0, lay_ints, PyData.depth, dep_ints]
  rfl
theorem shaped_tints (l : List Int) : SeqAt.shaped (.tuple (l.map PyData.int)) = true := by
  unfold SeqAt.shaped
  rw [PyData.canLay0, lay_ints, PyData.depth, dep_ints]
  rfl
theorem shaped_nil : SeqAt.shaped (.list []) = true := shaped_ints []
theorem eqv_nil {l : List PyData} : PyData.eqv (.list l) (.list []) = l.isEmpty := by
  cases l <;> simp [PyData.eqv, PyData.eqvAll]
theorem eqv_tnil {l : List PyData} : PyData.eqv (.tuple l) (.tuple []) = l.isEmpty := by
  cases l <;> simp [PyData.eqv, PyData.eqvAll]
theorem n_cs : ¬ (Str.ofString "cells") = Str.ofString "spot" := by decide
theorem n_gs : ¬ (Str.ofString "great") = Str.ofString "spot" := by decide
theorem n_cg : ¬ (Str.ofString "cells") = Str.ofString "great" := by decide
theorem n_sg : ¬ (Str.ofString "spot") = Str.ofString "great" := by decide
theorem genK_spot {ac ag : Addr} {s : Int} : valD (genK ac ag s) (Sum.inr "spot") = some (.int s) := by
  simp [valD, genK, List.find?, n_cs, n_gs]
theorem genK_great {ac ag : Addr} {s : Int} : valD (genK ac ag s) (Sum.inr "great") = some (.ref ag) := by
  simp [valD, genK, List.find?, n_cg]
theorem genK_cells {ac ag : Addr} {s : Int} : valD (genK ac ag s) (Sum.inr "cells") = some (.ref ac) := by
  simp [valD, genK, List.find?]
theorem genK_put {ac ag : Addr} {s t : Int} : putD (genK ac ag s) (Sum.inr "spot") (.int t) = genK ac ag t := by
  simp [putD, genK, n_cs, n_gs]
theorem genK_putg {ac ag ah : Addr} {s : Int} : putD (genK ac ag s) (Sum.inr "great") (.ref ah) = genK ac ah s := by
  simp [putD, genK, n_cg, n_sg]
theorem genK_len {ac ag : Addr} {s : Int} : (genK ac ag s).length < sizeLine := by
  show 3 < sizeLine
  decide
theorem fmod_pos {x l : Int} (h : 0 < l) : 0 ≤ x.fmod l ∧ x.fmod l < l := by
  rw [Int.fmod_eq_emod_of_nonneg _ (by omega)]
  exact ⟨Int.emod_nonneg _ (by omega), Int.emod_lt_of_pos _ h⟩
theorem fmod_bd (x : Int) : 0 ≤ x.fmod 2147483647 ∧ x.fmod 2147483647 < 2147483647 := fmod_pos (by decide)
/-- kinds of plain data -/
inductive Tg where
  | non | bl | int | str | tup | lst | dct
def Tg.nm : Tg → String
  | .non => "NoneType"
  | .bl => "bool"
  | .int => "int"
  | .str => "str"
  | .tup => "tuple"
  | .lst => "list"
  | .dct => "dict"
def D.tg : D → Option Tg
  | .non => some .non
  | .bl _ => some .bl
  | .int _ => some .int
  | .str _ => some .str
  | .tup _ => some .tup
  | .lst _ => some .lst
  | .dct _ => some .dct
  | _ => none
def Tg.isInt : Tg → Bool
  | .int => true
  | .bl => true
  | _ => false
def Tg.isBool : Tg → Bool
  | .bl => true
  | _ => false
def Tg.isStr : Tg → Bool
  | .str => true
  | _ => false
def Tg.isTup : Tg → Bool
  | .tup => true
  | _ => false
def Tg.isLst : Tg → Bool
  | .lst => true
  | _ => false
def Tg.isDct : Tg → Bool
  | .dct => true
  | _ => false
theorem tg_ty {x : D} {g : Tg} (h : x.tg = some g) : x.tyS = some g.nm := by
  cases x <;> simp [D.tg] at h <;> subst h <;> rfl
theorem kb_int (g : Tg) : kitB g.nm "int" = some g.isInt := by cases g <;> decide +kernel
theorem kb_bool (g : Tg) : kitB g.nm "bool" = some g.isBool := by cases g <;> decide +kernel
theorem kb_str (g : Tg) : kitB g.nm "str" = some g.isStr := by cases g <;> decide +kernel
theorem kb_tup (g : Tg) : kitB g.nm "tuple" = some g.isTup := by cases g <;> decide +kernel
theorem kb_lst (g : Tg) : kitB g.nm "list" = some g.isLst := by cases g <;> decide +kernel
theorem kb_dct (g : Tg) : kitB g.nm "dict" = some g.isDct := by cases g <;> decide +kernel
section
variable {K : PySem.W.Frag} {m : Sto} {Ph : PhiT} {x : D} {g : Tg}
theorem cd_isint (h : x.tg = some g) (k : Ph (.bl g.isInt) m) : CaD (rIsi K) [x, .ty "int"] m Ph := cd_isi (.inl (tg_ty h)) (kb_int g) k
theorem cd_isbool (h : x.tg = some g) (k : Ph (.bl g.isBool) m) : CaD (rIsi K) [x, .ty "bool"] m Ph := cd_isi (.inl (tg_ty h)) (kb_bool g) k
theorem cd_isstr (h : x.tg = some g) (k : Ph (.bl g.isStr) m) : CaD (rIsi K) [x, .ty "str"] m Ph := cd_isi (.inl (tg_ty h)) (kb_str g) k
theorem cd_istup (h : x.tg = some g) (k : Ph (.bl g.isTup) m) : CaD (rIsi K) [x, .ty "tuple"] m Ph := cd_isi (.inl (tg_ty h)) (kb_tup g) k
theorem cd_islst (h : x.tg = some g) (k : Ph (.bl g.isLst) m) : CaD (rIsi K) [x, .ty "list"] m Ph := cd_isi (.inl (tg_ty h)) (kb_lst g) k
theorem cd_isdct (h : x.tg = some g) (k : Ph (.bl g.isDct) m) : CaD (rIsi K) [x, .ty "dict"] m Ph := cd_isi (.inl (tg_ty h)) (kb_dct g) k
end
end Dz
/-! Dz, part L: a def that is handed a lambda without parameters. -/
namespace L2
open PySem PySem.Spec PyProof.Rows LamX
/-- what a lambda does: leaves to E, gives to Q -/
abbrev LamT := XK → Hp → VK → Prop
/-- a(): the first slot holds the lambda -/
def tAct (W : WX) (f c' : Addr) (q : Str) (tl : LamT) : TE := fun s H Q => s[0]? = some (some (.ref f)) ∧ H c' = some (CodeO c' q) ∧ tl (WE W s) H Q
section
variable {X : Cx} {pins : List (Addr × Obj)} {c : St} {H H2 : Hp} {t t2 : Shared}
/-- the lambda f that X's frame made at t, called at t2 from other frames -/
theorem lam_runs {A : Around} {outer : List Env} {E : XK} {Q : VK} {f c' : Addr} {pm ctv : Value} {params : Arguments} {body : Expr} {scope : Scope} {k : Nat} {tb : TE} (I : Inv X pins c H t) (L : LamS X.env.scope scope)
    (obj : t2.heap.get? f = some (PySem.W.kla_obj "<lambda>" (X.env.qual ++ "<lambda>") params body scope (cloFrom X.env.cells scope.names []) pm c' ctv)) (un : Un (frs X.stack) [] H H2 t.heap t2.heap)
    (bind : bindArgs (PySem.W.kla_fn "<lambda>" (X.env.qual ++ "<lambda>") params body scope (cloFrom X.env.cells scope.names []) pm (.ref c') ctv) ⟨[], []⟩ = pure []) (e0 : Env0 X.prog X.w X.K X.mg X.base A outer t2 H2) (hr : Room (k + 1) A) (lim : t2.heap.NoLimit)
    (co : H2 c' = some (CodeO c' (X.env.qual ++ "<lambda>"))) (hb : Room k (A.deeper (lamEnv X scope t2.heap.objs.size f c')) → PE (lamCx X A outer t2 H2 E scope f c') body tb) (go : tb c H2 Q) :
    codeAny (model X.prog X.w) A (.call (.ref f) ⟨[], []⟩) (CR (L2.CX X.prog X.w) outer X.prog X.w H2 t2 Q E) t2 := by
  obtain ⟨⟨oc, us, tk, g1, g2, g3⟩, _, _⟩ := e0.hok c' _ co
  refine PySem.W.kla_callFunE hr.depth obj rfl L.co L.gen rfl ⟨c', oc, us, tk, rfl, g1, g2, g3⟩ ?_
  rw [bind]
  refine wpAny_pure (wpAny_newFunctionEnv (fun y hy => (L.own y hy).2) (fun y hy => absurd hy (by simp)) (fun h1 names same => ⟨lim.fresh _ same, PySem.W.kla_codeExpr (env := lamEnv X scope t2.heap.objs.size f c') ?_⟩) L.kind)
  have old : ∀ b o, t2.heap.get? b = some o → h1.get? b = some o := fun b o e => same.extBut b o (Nat.ne_of_lt (Heap.lt_size e)) (Heap.get?_push_of_some _ e)
  have J := lam_start2 (E := E) (f := f) (c' := c') (tk := t2.toks + ([] : List (Str × Value)).length) I L e0 hr.hd un names old
  refine wpAny_mono ((hb (hr.deeper _)).run [] _ _ H2 Q J go) (fun v t3 z => ?_) fun _ _ z => z
  obtain ⟨w, H3, J3, rv, q⟩ := z
  exact ⟨w, H3, J3.os, J3.bare, J3.base, J3.hok, rv, q⟩
/-- the context of the def g that is handed it, called at t -/
abbrev takerCx (X : Cx) (E : XK) (Ng : List Str) (x : Str) (sg : Scope) (g : Addr) (cdg : Value) (t : Shared) (H : Hp) : Cx := cxOf (L2.CX X.prog X.w) X.prog X.w X.K X.mg X.base Ng x sg g cdg X.A X.stack t H E
theorem pe_actW {E0 : XK} {Ng : List Str} {qg : Str} {sg : Scope} {g f c' : Addr} {cdg pm ctv : Value} {params : Arguments} {body : Expr} {scope : Scope} {k : Nat} {a : Str} {pn : List (Addr × Obj)} {xe : Value → Shared → Prop} {W : WX} {tb : XK → TE} {p1 p2 : Pos}
    (I : Inv X pins c H t) (L : LamS X.env.scope scope) (obj : t.heap.get? f = some (PySem.W.kla_obj "<lambda>" (X.env.qual ++ "<lambda>") params body scope (cloFrom X.env.cells scope.names []) pm c' ctv)) (fn : H f = none) (fr : f ∉ frs X.stack)
    (bind : bindArgs (PySem.W.kla_fn "<lambda>" (X.env.qual ++ "<lambda>") params body scope (cloFrom X.env.cells scope.names []) pm (.ref c') ctv) ⟨[], []⟩ = pure [])
    (tk : Takes ((takerCx X E0 Ng qg sg g cdg t H).tr pn xe) W) (hr : Room (k + 1) (X.A.deeper (envOfC qg sg t.heap.objs.size g cdg)))
    (hb : ∀ (A : Around) (outer : List Env) (s : Shared) (H : Hp) (E : XK), Room k (A.deeper (lamEnv X scope s.heap.objs.size f c')) → PE (lamCx X A outer s H E scope f c') body (tb E))
    (hN : Ng[0]? = some a) (hv : Vis sg a) (hd : (a == ("__debug__" : Str)) = false := by decide) (hcd : (a == ("__classdict__" : Str)) = false := by decide) :
    PE ((takerCx X E0 Ng qg sg g cdg t H).tr pn xe) (.Call (.Name a p1) [] [] p2) (tAct W f c' (X.env.qual ++ "<lambda>") fun E H' Q' => tb E c H' Q') := by
  refine ⟨fun pz t2 cz HZ Q IZ z => ?_⟩
  obtain ⟨slot, co, go⟩ := z
  refine wpAny_Call_Name_kw (thn ((pe_var (pos := p1) (i := 0) hN hv hd hcd).run pz t2 cz HZ (fun v H1 => v = .ref f ∧ H1 = HZ) IZ ⟨.ref f, slot, rfl, rfl⟩) fun u t3 ⟨v, H1, I1, rv, e1, e2⟩ => ?_)
  subst e1 e2
  obtain rfl : u = Value.ref f := rv
  have un : Un (frs X.stack) [] H H1 t.heap t3.heap := I1.base
  have obj3 := un.keep f _ obj fn fr (fun z => nomatch z)
  refine PySem.W.callWith_F0 ⟨_, _, _, _, obj3⟩ ?_
  have e1 : Env0 X.prog X.w X.K X.mg X.base (X.A.deeper (envOfC qg sg t.heap.objs.size g cdg)) (envOfC qg sg t.heap.objs.size g cdg :: X.stack) t3 H1 := I1.env0
  have rc := lam_runs (X := X) (E := WE W cz) (Q := Q) (tb := tb (WE W cz)) (k := k) I L obj3 un bind e1 hr I1.nolimit co (fun r => hb _ _ _ _ _ r) go
  refine wpAny_call (codeAny_mono rc fun r t4 q => ?_)
  cases r with
  | error e => exact passAt tk cz pz H1 t3 e t4 I1 q
  | ok fl =>
    cases fl with
    | ret u => exact I1.after q
    | next => exact False.elim q
    | brk => exact False.elim q
    | cont => exact False.elim q
/-- the def g at work on what it is handed: TT says what it does -/
def GivesW (k : Nat) (X : Cx) (Ng : List Str) (x : Str) (sg : Scope) (g : Addr) (cdg : Value) (bg : List Stmt) (a q : Str) (TT : LamT → Hp → VK → XK → Prop) : Prop :=
  ∀ (f c' : Addr) (t : Shared) (H : Hp) (Q : VK) (E : XK) (tl : LamT),
    (∀ (W : WX) (pn : List (Addr × Obj)) (xe : Value → Shared → Prop) (p1 p2 : Pos), Takes ((takerCx X E Ng x sg g cdg t H).tr pn xe) W → PE ((takerCx X E Ng x sg g cdg t H).tr pn xe) (.Call (.Name a p1) [] [] p2) (tAct W f c' q tl)) →
    H c' = some (CodeO c' q) → TT tl H Q E → Room k (X.A.deeper (envOfC x sg t.heap.objs.size g cdg)) → ∃ u, PSs (takerCx X E Ng x sg g cdg t H) bg u ∧ u { nx := fun _ H' => Q .non H', rt := Q } (L2.start Ng [.ref f]) H
/-- x(lambda: body) -/
def tLamW (T : List (Addr × Str)) (TT : LamT → Hp → VK → XK → Prop) (W : WX) (tb : XK → TE) : TE := fun s H Q => Tabs T H ∧ ∀ H1, ExtN H H1 → Tabs T H1 → TT (fun E H' Q' => tb E s H' Q') H1 Q (WE W s)
theorem pe_lamW {T : List (Addr × Str)} {TT : LamT → Hp → VK → XK → Prop} {W : WX} {x a : Str} {g cm P : Addr} {k : Nat} {pg : Arguments} {bg : List Stmt} {sg : Scope} {dV kV doc pm cdv ct oc : Value} {an od : Option Addr} {osl : Array (Option Value)} {Ng : List Str}
    {params : Arguments} {body : Expr} {scope : Scope} {tb : XK → TE} {p lpos pos : Pos} (tk : Takes X W) (lk : X.K.lookup g = some ⟨oc, od, .func (PySem.W.fnOf x x pg bg sg dV kV doc pm an cdv ct), osl⟩) (hcg : PySem.W.codeIn X.K cdv x = true) (hk : PySem.W.keepIn X.K (.ref g) = true)
    (hm : X.mg x = some (.ref g)) (bd : L2.Binds X.K (PySem.W.fnOf x x pg bg sg dV kV doc pm an cdv ct) [a] []) (Sg : FnScope Ng [a] sg) (hN : Ng[0]? = some a) (hv : Vis sg a) (G : GivesW (k + 1) X Ng x sg g cdv bg a (X.env.qual ++ "<lambda>") TT) (TB : TabB X.base X.mg cm P) (hcode : X.env.code = .ref cm)
    (mem : (P, X.env.qual ++ "<lambda>") ∈ T) (only : ∀ p ∈ T, p.1 = P → p.2 = X.env.qual ++ "<lambda>") (hr : Room (k + 2) X.A) (L : LamS X.env.scope scope)
    (bind : ∀ (q : Str) (cl : List (Str × Addr)) (pm cv ctv : Value), bindArgs (PySem.W.kla_fn "<lambda>" q params body scope cl pm cv ctv) ⟨[], []⟩ = pure [])
    (hb : ∀ (A : Around) (outer : List Env) (s : Shared) (H : Hp) (E : XK) (f c' : Addr), Room k (A.deeper (lamEnv X scope s.heap.objs.size f c')) → PE (lamCx X A outer s H E scope f c') body (tb E))
    (hg : Gl X x := by rfl) (hdef : defaultsOf params X.env = ([], []) := by rfl) (hdb : (x == ("__debug__" : Str)) = false := by decide) (hd : (a == ("__debug__" : Str)) = false := by decide) (hcd : (a == ("__classdict__" : Str)) = false := by decide) :
    PE X (.Call (.Name x p) [.Lambda params body scope lpos] [] pos) (tLamW T TT W tb) := by
  refine ⟨fun pn t c H Q I z => ?_⟩
  obtain ⟨tabs, z⟩ := z
  refine wpAny_Call_Name_kw (ld_glob I hg hm (PySem.W.callWith_K (h₀ := X.base) I.ok.mod.kin hk ?_ (by rfl) (by rfl)) hdb)
  show wpAny _ _ (spliced ((false, eval (.Lambda params body scope lpos) X.env) :: backTo pos (starEach [] X.env))) _ _ t
  refine Calls.spliced_cons (lam_make2 I TB hcode mem only tabs hdef (L.has I.ok) fun f c' pm' ctv H1 t1 I1 ext tabs1 obj fn fr co => Calls.spliced_nil ⟨I1.kIn, ?_⟩)
  have run : codeAny (model X.prog X.w) X.A (.call (.ref g) ⟨[.ref f], []⟩) (CR (L2.CX X.prog X.w) X.stack X.prog X.w H1 t1 Q (WE W c)) t1 := by
    refine run_ofS (N := Ng) (ps := [a]) (us := [.ref f]) (vs := [.ref f]) lk hcg Sg hr I1.env0 (bd t1 [.ref f] I1.kIn rfl) (.cons rfl .nil) rfl fun room => ?_
    exact G f c' t1 H1 Q (WE W c) _ (fun W' pn' xe p1 p2 tk' => pe_actW I1 L obj fn fr (bind _ _ _ _ _) tk' room (fun A outer s H E => hb A outer s H E f c') hN hv hd hcd) co (z H1 ext tabs1) room
  refine wpAny_call (codeAny_mono run fun r t2 q => ?_)
  cases r with
  | error e => exact passAt tk c pn H1 t1 e t2 I1 q
  | ok fl =>
    cases fl with
    | ret u => exact I1.after q
    | next => exact False.elim q
    | brk => exact False.elim q
    | cont => exact False.elim q
end
end L2

namespace Dz
open PySem PySem.Spec PyProof.Rows L2 LamX
/-- what is known of a lambda: over the store m, as long as Pd holds, it gives Phl or leaves Psl -/
structure Does (tl : LamT) (m : Sto) (Pd : List Addr → Hp → Prop) (Phl : PhiT) (Psl : PsiC) : Prop where
  mono : Mono Pd
  run : ∀ (H : Hp) (E : XK) (Q : VK), Pd (dom m) H → StoR m H → XC E m H Psl → KT Phl m H Q → tl E H Q
/-- a promise of a def that is handed a lambda which gives Phl or leaves Psl -/
abbrev SpL := PhiT → PsiC → Sto → PhiT → PsiC → Prop
def liftL (sp : SpL) : LamT → Hp → VK → XK → Prop := fun tl H Q E => ∃ (m : Sto) (Pd : List Addr → Hp → Prop) (Phl : PhiT) (Psl : PsiC) (Ph : PhiT) (Pc : PsiC), StoR m H ∧ Pd (dom m) H ∧ Does tl m Pd Phl Psl ∧ sp Phl Psl m Ph Pc ∧ KT Ph m H Q ∧ XC E m H Pc
/-- the slot's datum -/
def cloP (c' : Addr) (q : Str) (Pd : List Addr → Hp → Prop) : List Addr → Hp → Prop := fun M H => Pd M H ∧ H c' = some (CodeO c' q) ∧ c' ∉ M
theorem cloP_mono {c' : Addr} {q : Str} {Pd : List Addr → Hp → Prop} (h : Mono Pd) : Mono (cloP c' q Pd) := fun M M' H H' k n ⟨p, e, i⟩ => ⟨h M M' H H' k n p, k _ _ e (codeO_ne ·) i, n _ _ e (codeO_ne ·) i⟩
section
variable {W : WX} {Ps : PsiT} {r : Rho} {m : Sto} {Ph Phl : PhiT} {Psl : PsiC} {Pd : List Addr → Hp → Prop} {tl : LamT} {f c' : Addr} {q : Str}
theorem wt_act (hr : r[0]? = some (some (.clo f (cloP c' q Pd)))) (hd : Does tl m Pd Phl Psl) (k : ∀ d m', Phl d m' → Ph d m') (x : ∀ cls fs m', Psl cls fs m' → Ps cls fs r m') : WT W Ps (tAct W f c' q tl) r m Ph := fun s H Q R X K => by
  obtain ⟨v, e, rv⟩ := R.sl.2 0 _ hr
  cases rv with
  | clo _ p => exact ⟨e, p.2.1, hd.run H (WE W s) Q p.1 R.st (fun cls d fs H' m' z g y st => X cls d fs s H' r m' (x _ _ _ z) g y (g.rel R st)) fun v H' d m' z => K v H' d m' (k _ _ z)⟩
/-- the store's tables are just those of T -/
def TabsIn (T : List (Addr × Str)) (m : Sto) : Prop := ∀ p : Addr × Str, p ∈ T ↔ (p.1, MO.tab p.2) ∈ m
theorem StoR.tabs {T : List (Addr × Str)} {H : Hp} (st : StoR m H) (h : TabsIn T m) : Tabs T H := fun p hp => by
  obtain ⟨ps, e, t, y⟩ := st.at_ _ ((h p).mp hp)
  exact ⟨ps, e, t, fun pos cv z => let ⟨c, e1, e2, _⟩ := y pos cv z; ⟨c, e1, e2⟩⟩
/-- the lambda is made: the tables may have grown, all else stands -/
theorem StoR.grown {T : List (Addr × Str)} {H H1 : Hp} (st : StoR m H) (h : TabsIn T m) (e : ExtN H H1) (t : Tabs T H1) : StoR m H1 ∧ Fr m m H H1 := by
  have f : Fr m m H H1 := ⟨fun b o g n _ => e b o g n, fun _ z => .inl z⟩
  refine ⟨⟨st.nd, fun p hp => ?_⟩, f⟩
  have z := st.at_ p hp
  obtain ⟨b, o⟩ := p
  cases o with
  | lst es => obtain ⟨ws, g, y⟩ := z; exact ⟨ws, e _ _ g (fun _ z => nomatch z), f.reps y⟩
  | dct es => obtain ⟨ws, g, y⟩ := z; exact ⟨ws, e _ _ g (fun _ z => nomatch z), f.repKs y⟩
  | gen ac ag n => obtain ⟨sp, cs, gs, g1, g2, g3, y⟩ := z; exact ⟨sp, cs, gs, e _ _ g1 (fun _ z => nomatch z), e _ _ g2 (fun _ z => nomatch z), e _ _ g3 (fun _ z => nomatch z), y⟩
  | tab q =>
    obtain ⟨ps, g, t1, y⟩ := t _ ((h (b, q)).mpr hp)
    refine ⟨ps, g, t1, fun pos cv z => ?_⟩
    obtain ⟨c, e1, e2⟩ := y pos cv z
    refine ⟨c, e1, e2, fun ic => ?_⟩
    obtain ⟨p, hp, hc⟩ := List.mem_flatMap.mp ic
    have y := st.at_ p hp
    have no : ∀ u : HO, H c = some u → (∀ h : Heap → Prop, u ≠ .ext h) → nT u → False := fun u g n1 n2 => by
      have := (e _ _ g n2).symm.trans e2
      exact n1 _ (Option.some.inj this)
    obtain ⟨b2, o2⟩ := p
    cases o2 with
    | lst es =>
      obtain ⟨ws, g, _⟩ := y
      obtain rfl : c = b2 := by simpa [domO] using hc
      exact no _ g (fun _ z => nomatch z) (fun _ z => nomatch z)
    | dct es =>
      obtain ⟨ws, g, _⟩ := y
      obtain rfl : c = b2 := by simpa [domO] using hc
      exact no _ g (fun _ z => nomatch z) (fun _ z => nomatch z)
    | gen ac ag n =>
      obtain ⟨sp, cs, gs, g1, g2, g3, _⟩ := y
      have z : c = b2 ∨ c = ac ∨ c = ag := by simpa [domO] using hc
      rcases z with rfl | rfl | rfl
      · exact no _ g1 (fun _ z => nomatch z) (fun _ z => nomatch z)
      · exact no _ g2 (fun _ z => nomatch z) (fun _ z => nomatch z)
      · exact no _ g3 (fun _ z => nomatch z) (fun _ z => nomatch z)
    | tab q2 =>
      have z : c = b2 := by simpa [domO] using hc
      obtain ⟨ps2, g2, _⟩ := t _ ((h (b2, q2)).mpr hp)
      have : some (HO.tbl ps2) = some (CodeO c q) := g2.symm.trans (z ▸ e2)
      exact codeO_ne ps2 (Option.some.inj this).symm
/-- x(lambda: body) -/
theorem wt_lam {T : List (Addr × Str)} {sp : SpL} {tb : XK → TE} {Pc : PsiC} (h : TabsIn T m) (p : sp Phl Psl m Ph Pc) (x : ∀ cls fs m', Pc cls fs m' → Ps cls fs r m')
    (b : ∀ E : XK, WT (fun cls d _ H' => E cls d H') (fun cls fs _ m' => Psl cls fs m') (tb E) r m Phl) : WT W Ps (tLamW T (liftL sp) W tb) r m Ph := fun s H Q R X K => by
  refine ⟨R.st.tabs h, fun H1 e t => ?_⟩
  obtain ⟨s1, f⟩ := R.st.grown h e t
  refine ⟨m, fun M H' => SlR M H' s r, Phl, Psl, Ph, Pc, s1, (f.rel R s1).sl, ⟨fun M M' H H' k n z => ⟨z.1, fun i d g => let ⟨v, e1, e2⟩ := z.2 i d g; ⟨v, e1, e2.mono k n⟩⟩, fun H' E Q' z st xc kt => b E s H' Q' ⟨z, st⟩ (XT.of xc) kt⟩, p, K.go f, fun cls d fs H' m' z g y st => X cls d fs s H' r m' (x _ _ _ z) (f.trans g) y ((f.trans g).rel R st)⟩
end
end Dz
/-! Dz, part M: list(range(..)), tuple(range(..)); keywords in another order. -/
namespace Dz
open PySem PySem.Spec PyProof.Rows L2
section
variable {W : WX} {Ps : PsiT} {r : Rho} {m : Sto} {Ph : PhiT} {ta tb : TE}
theorem reps_rg {M : List Addr} {H : Hp} (a b : Int) : Reps M H (rgV a b) (rngD a (b - a).toNat) := by
  unfold rgV rngD
  generalize List.range (b - a).toNat = l
  induction l with
  | nil => exact .nil
  | cons x l ih => exact .cons (.int _) ih
/-- the ends of a range that is laid out -/
def RgD (m : Sto) (Pr : Int → Int → Sto → Prop) (H : Hp) (Q : Int → Int → Hp → Prop) : Prop := ∀ (a b : Int) (H' : Hp) (m' : Sto), Pr a b m' → Fr m m' H H' → StoR m' H' → Q a b H'
def WR (W : WX) (Ps : PsiT) (t : L2.St → Hp → (Int → Int → Hp → Prop) → Prop) (r : Rho) (m : Sto) (Pr : Int → Int → Sto → Prop) : Prop := ∀ (s : L2.St) (H : Hp) (Q : Int → Int → Hp → Prop), Rel m H s r → XT W m H Ps → RgD m Pr H Q → t s H Q
theorem wr_1 {Pr : Int → Int → Sto → Prop} (h : WT W Ps ta r m fun x m1 => ∃ n, x = .int n ∧ Pr 0 n m1) : WR W Ps (tRg1 ta) r m Pr := fun s H Q R X K =>
  h s H _ R X fun v H1 x m1 h1 f1 r1 s1 => by
    obtain ⟨n, rfl, p⟩ := h1
    cases r1
    exact ⟨n, rfl, K 0 n H1 m1 p f1 s1⟩
theorem wr_2 {Pr : Int → Int → Sto → Prop} (h : WT W Ps ta r m fun x m1 => WT W Ps tb r m1 fun y m2 => ∃ i j, x = .int i ∧ y = .int j ∧ Pr i j m2) : WR W Ps (tRg2 ta tb) r m Pr := fun s H Q R X K =>
  h s H _ R X fun v H1 x m1 h1 f1 r1 s1 => h1 s H1 _ (f1.rel R s1) (X.go f1) fun w H2 y m2 h2 f2 r2 s2 => by
    obtain ⟨i, j, rfl, rfl, p⟩ := h2
    cases r1; cases r2
    exact ⟨i, j, rfl, rfl, K i j H2 m2 p (f1.trans f2) s2⟩
variable {tr : L2.St → Hp → (Int → Int → Hp → Prop) → Prop}
theorem wt_lrg (h : WR W Ps tr r m fun a b m1 => RgOk a b ∧ Ph (.lst (rngD a (b - a).toNat)) m1) : WT W Ps (tLstRg tr) r m Ph := fun s H Q R X K =>
  h s H _ R X fun a b H1 m1 p f st => ⟨p.1, new_lst (reps_rg a b) st (K.go f) p.2⟩
/-- .. as a list that will be changed -/
theorem wt_lrgo (h : WR W Ps tr r m fun a b m1 => RgOk a b ∧ ∀ p, p ∉ dom m1 → Ph (.ref p) ((p, .lst (rngD a (b - a).toNat)) :: m1)) : WT W Ps (tLstRg tr) r m Ph := fun s H Q R X K =>
  h s H _ R X fun a b H1 m1 p f st => ⟨p.1, new_own (reps_rg a b) st (K.go f) p.2⟩
theorem wt_trg (h : WR W Ps tr r m fun a b m1 => RgOk a b ∧ Ph (.tup (rngD a (b - a).toNat)) m1) : WT W Ps (tTupRg tr) r m Ph := fun s H Q R X K =>
  h s H _ R X fun a b H1 m1 p f st => ⟨p.1, new_tup (reps_rg a b) st (K.go f) p.2⟩
end
/-! ### keywords in another order -/
/-- the items at the places of is -/
def permL {α : Type} (is : List Nat) (l : List α) : List α := is.filterMap fun i => l[i]?
theorem vals_get {vs : List V} {us : List Value} (r : Vals vs us) : ∀ i : Nat, (∃ v u, vs[i]? = some v ∧ us[i]? = some u ∧ RelV v u) ∨ (vs[i]? = none ∧ us[i]? = none) := by
  induction r with
  | nil => exact fun i => .inr ⟨by simp, by simp⟩
  | cons p _ ih =>
    intro i
    cases i with
    | zero => exact .inl ⟨_, _, rfl, rfl, p⟩
    | succ i => simpa using ih i
theorem vals_perm {vs : List V} {us : List Value} (r : Vals vs us) (is : List Nat) : Vals (permL is vs) (permL is us) := by
  induction is with
  | nil => exact .nil
  | cons i is ih =>
    unfold permL
    rcases vals_get r i with ⟨v, u, e1, e2, q⟩ | ⟨e1, e2⟩
    · rw [List.filterMap_cons, List.filterMap_cons, e1, e2]; exact .cons q ih
    · rw [List.filterMap_cons, List.filterMap_cons, e1, e2]; exact ih
theorem reps_get {M : List Addr} {H : Hp} : ∀ {vs : List V} {ds : List D}, Reps M H vs ds → ∀ i : Nat, (∃ v d, vs[i]? = some v ∧ ds[i]? = some d ∧ Rep M H v d) ∨ (vs[i]? = none ∧ ds[i]? = none)
  | _, _, .nil, _ => .inr ⟨by simp, by simp⟩
  | _, _, .cons p _, 0 => .inl ⟨_, _, rfl, rfl, p⟩
  | _, _, .cons _ t, i + 1 => by simpa using reps_get t i
theorem reps_perm {M : List Addr} {H : Hp} {vs : List V} {ds : List D} (r : Reps M H vs ds) (is : List Nat) : Reps M H (permL is vs) (permL is ds) := by
  induction is with
  | nil => exact .nil
  | cons i is ih =>
    unfold permL
    rcases reps_get r i with ⟨v, u, e1, e2, q⟩ | ⟨e1, e2⟩
    · rw [List.filterMap_cons, List.filterMap_cons, e1, e2]; exact .cons q ih
    · rw [List.filterMap_cons, List.filterMap_cons, e1, e2]; exact ih
abbrev BdP (K : PySem.W.Frag) (fd : FuncData) (ps ks : List Str) (is : List Nat) : Prop := KBinds K fd ps ks (fun us ws => us ++ permL is ws) (fun vs zs => vs ++ permL is zs)
theorem bdP_rel {vs : List V} {us : List Value} {zs : List V} {ws : List Value} (is : List Nat) (a : Vals vs us) (b : Vals zs ws) : Vals (vs ++ permL is zs) (us ++ permL is ws) := a.append (vals_perm b is)
theorem wt_cp {sp : SpD} {W : WX} {Ps : PsiT} {r : Rho} {m : Sto} {Ph : PhiT} {ta tk : TA} {is : List Nat} (h : WA W Ps ta r m fun xs m1 => WA W Ps tk r m1 fun ys m2 => sp (xs ++ permL is ys) m2 Ph fun cls fs m' => Ps cls fs r m') :
    WT W Ps (tCallGK (lift sp) (fun vs zs => vs ++ permL is zs) (WE W) ta tk) r m Ph := wt_callk (gD := fun xs ys => xs ++ permL is ys) (fun a b => reps_app a (reps_perm b is)) h
section
variable {X : Cx} {k : Nat} {f : Addr} {fd : FuncData} {ps ks : List Str} {is : List Nat} {sp : SpD} {W : WX} {x : Str} {p pos : Pos} {e : Expr} {es : List Expr} {kws : List Keyword} {t tk' : TA}
theorem pe_Dp0 (F : GF X.prog X.w X.K X.mg X.base x ps k sp f fd) (hr : Room k X.A) (hb : BdP X.K fd ps ks is) (tk : Takes X W) (kw : PK X kws tk') (hg : Gl X x := by rfl) (all : (backToKw pos (keywordEach kws X.env)).all (·.1.isSome) = true := by rfl)
    (names : (backToKw pos (keywordEach kws X.env)).filterMap (·.1) = ks := by rfl) (ndb : (x == ("__debug__" : Str)) = false := by decide) (pl : ((backTo pos (starEach [] X.env)).any (·.1) || (backToKw pos (keywordEach kws X.env)).any (·.1.isNone)) = false := by rfl) :
    PE X (.Call (.Name x p) [] kws pos) (tCallGK (lift sp) (fun vs zs => vs ++ permL is zs) (WE W) tNil tk') := pe_callGK0 F.ok hr hg F.gm F.kp hb (fun s => passAt tk s) kw all names ndb pl
theorem pe_Dp (F : GF X.prog X.w X.K X.mg X.base x ps k sp f fd) (hr : Room k X.A) (hb : BdP X.K fd ps ks is) (tk : Takes X W) (ha : PA X (e :: es) t) (kw : PK X kws tk') (hg : Gl X x := by rfl) (all : (backToKw pos (keywordEach kws X.env)).all (·.1.isSome) = true := by rfl)
    (names : (backToKw pos (keywordEach kws X.env)).filterMap (·.1) = ks := by rfl) (ndb : (x == ("__debug__" : Str)) = false := by decide) (st : starEach (e :: es) X.env = (false, eval e X.env) :: starEach es X.env := by rfl)
    (pl : ((backTo pos (starEach (e :: es) X.env)).any (·.1) || (backToKw pos (keywordEach kws X.env)).any (·.1.isNone)) = false := by rfl) :
    PE X (.Call (.Name x p) (e :: es) kws pos) (tCallGK (lift sp) (fun vs zs => vs ++ permL is zs) (WE W) t tk') := pe_callGK F.ok hr hg F.gm F.kp hb (fun s => passAt tk s) ha kw all names ndb st pl
end
end Dz
/-! Dz, part N: comprehensions of two fors. -/
namespace Dz
open PySem PySem.Spec PyProof.Rows L2
section
variable {W : WX} {Ps : PsiT} {r : Rho} {m : Sto} {Ph : PhiT} {wi wi1 : TI} {g g1 : TG} {tt tt1 : TT} {te : TE} {vs vs1 : List Nat}
/-- one turn of a comprehension's last for, its list ahead in the store: what it leaves -/
def TurnD (W : WX) (Ps : PsiT) (g : TG) (tt : TT) (te : TE) (vs : List Nat) (r : Rho) (L : Addr) (d : D) (acc : List D) (m' : Sto) (J : List D → Sto → Prop) : Prop :=
  WG W Ps g d (wipeR r vs) ((L, .lst acc) :: m') fun r2 m2 => WB W Ps tt r2 m2 fun b m3 =>
    (b = true → WT W Ps te r2 m3 fun y m4 => ∃ m5, m4 = (L, .lst acc) :: m5 ∧ acc.length < sizeLine ∧ J (acc ++ [y]) m5) ∧ (b = false → ∃ m5, m3 = (L, .lst acc) :: m5 ∧ J acc m5)
theorem wt_lc2G (ho : GOnly vs g) (ho1 : GOnly vs1 g1) (h : WI W Ps wi r m fun ds m1 => ∀ L, L ∉ dom m1 → ∃ I : Nat → List D → Sto → Prop, I 0 [] m1 ∧
    (∀ (i : Nat) d acc m', ds[i]? = some d → I i acc m' → WG W Ps g d (wipeR r vs) ((L, .lst acc) :: m') fun r2 m2 => WB W Ps tt r2 m2 fun b m3 =>
      (b = true → WI W Ps wi1 r2 m3 fun es m4 => ∃ I1 : Nat → List D → Sto → Prop, (∃ a5 m5, m4 = (L, .lst a5) :: m5 ∧ I1 0 a5 m5) ∧
        (∀ (j : Nat) e acc m', es[j]? = some e → I1 j acc m' → TurnD W Ps g1 tt1 te vs1 r2 L e acc m' (I1 (j + 1))) ∧ (∀ acc m', I1 es.length acc m' → I (i + 1) acc m')) ∧
      (b = false → ∃ m5, m3 = (L, .lst acc) :: m5 ∧ I (i + 1) acc m5)) ∧
    (∀ acc m', I ds.length acc m' → Ph (.lst acc) m' ∨ Ph (.ref L) ((L, .lst acc) :: m'))) : WT W Ps (tLc2 wi g tt wi1 g1 tt1 te vs vs1) r m Ph := fun s H Q R X K =>
  h s H _ R X fun J H1 ds m1 G h1 f1 s1 J1 g1' => fun L hL => by
    obtain ⟨I, i0, turn, fin⟩ := h1 L (s1.fresh hL)
    obtain ⟨sL, fL⟩ := own_new s1 hL
    have ff := f1.trans fL
    let Out : Nat → Hp → Prop := fun i H' => ∃ acc m', I i acc m' ∧ StoR ((L, .lst acc) :: m') H' ∧ Fr m ((L, .lst acc) :: m') H H' ∧ G ((L, .lst acc) :: m') H'
    refine ⟨fun i k H' => k = ds.length - i ∧ i ≤ ds.length ∧ Out i H', ⟨_, rfl, Nat.zero_le _, [], m1, i0, sL, ff, J1.mono _ _ _ _ fL g1'⟩, ?_⟩
    rintro i k H' ⟨rfl, hi, acc, m', p, st', f', g'⟩
    by_cases hlt : i < ds.length
    · refine .inr ⟨J1.go i _ H' g' hlt, Out (i + 1), fun H2 o => ⟨ds.length - (i + 1), by omega, rfl, hlt, o⟩, fun x H2 y => ?_⟩
      obtain ⟨ex, q, st2⟩ := J1.yld i _ H' x H2 g' st' y ds[i] (by simp [hlt])
      have fe : Fr ((L, .lst acc) :: m') ((L, .lst acc) :: m') H' H2 := .ext ex
      have fa := f'.trans fe
      have Rw : Rel ((L, .lst acc) :: m') H2 (wipe s vs) (wipeR r vs) := ⟨((fa.rel R st2).sl).wipe vs, st2⟩
      have z := turn i ds[i] acc m' (by simp [hlt]) p x (wipe s vs) H2 (fun s3 H3 => tt s3 H3 fun b H4 => if b = true then wi1 s3 H4 fun J2 H5 => ∃ W1 : Nat → Nat → Hp → Prop, (∃ m, W1 0 m H5) ∧ ∀ j k H, W1 j k H →
        (J2.stop j H ∧ Out (i + 1) H) ∨ (J2.go j H ∧ ∃ Nx1 : Hp → Prop, (∀ H', Nx1 H' → ∃ k', k' < k ∧ W1 (j + 1) k' H') ∧ ∀ x H', J2.yld j H x H' → g1 x (wipe s3 vs1) H' fun s4 H5 => wipe s4 vs1 = wipe s3 vs1 ∧ tt1 s4 H5 fun b H6 =>
          if b = true then te s4 H6 fun y H7 => ∃ acc, H7 L = some (.lst acc) ∧ acc.length < sizeLine ∧ Nx1 (upd H7 L (.lst (acc ++ [y]))) else Nx1 H6) else Out (i + 1) H4) Rw (X.go fa) q fun s3 H3 r3 m3 w3 f3 R3 => ?_
      · have z2 := ho _ _ _ _ z
        rw [show wipe (wipe s vs) vs = wipe s vs from wipe_twice vs vs s fun _ h => h] at z2
        exact z2
      · have fb := fa.trans f3
        refine w3 s3 H3 _ R3 (X.go fb) fun b H4 m4 h4 f4 s4 => ?_
        have fc := fb.trans f4
        have R4 := f4.rel R3 s4
        have gc := J1.mono _ _ _ _ ((fe.trans f3).trans f4) g'
        cases b with
        | false =>
          obtain ⟨m6, rfl, p6⟩ := h4.2 rfl
          exact iteF ⟨acc, m6, p6, s4, fc, gc⟩
        | true =>
          refine iteT (h4.1 rfl s3 H4 _ R4 (X.go fc) fun J2 H5 es m5 G2 h5 f5 s5 J3 g5 => ?_)
          obtain ⟨I1, ⟨a5, m6, rfl, p5⟩, turn1, fin1⟩ := h5
          have fd := fc.trans f5
          have gd := J1.mono _ _ _ _ f5 gc
          refine ⟨fun j k H' => k = es.length - j ∧ j ≤ es.length ∧ ∃ acc m', I1 j acc m' ∧ StoR ((L, .lst acc) :: m') H' ∧ Fr m4 ((L, .lst acc) :: m') H4 H' ∧ G ((L, .lst acc) :: m') H' ∧ G2 ((L, .lst acc) :: m') H', ⟨_, rfl, Nat.zero_le _, a5, m6, p5, s5, f5, gd, g5⟩, ?_⟩
          rintro j k H6 ⟨rfl, hj, acc6, m7, p7, st7, f7, g7, g8⟩
          by_cases hl : j < es.length
          · refine .inr ⟨J3.go j _ H6 g8 hl, fun H' => ∃ acc m', I1 (j + 1) acc m' ∧ StoR ((L, .lst acc) :: m') H' ∧ Fr m4 ((L, .lst acc) :: m') H4 H' ∧ G ((L, .lst acc) :: m') H' ∧ G2 ((L, .lst acc) :: m') H', fun H2 o => ⟨es.length - (j + 1), by omega, rfl, hl, o⟩, fun x2 H7 y2 => ?_⟩
            obtain ⟨ex2, q2, st8⟩ := J3.yld j _ H6 x2 H7 g8 st7 y2 es[j] (by simp [hl])
            have fe2 : Fr ((L, .lst acc6) :: m7) ((L, .lst acc6) :: m7) H6 H7 := .ext ex2
            have fa2 := f7.trans fe2
            have Rw2 : Rel ((L, .lst acc6) :: m7) H7 (wipe s3 vs1) (wipeR r3 vs1) := ⟨((fa2.rel R4 st8).sl).wipe vs1, st8⟩
            have z := turn1 j es[j] acc6 m7 (by simp [hl]) p7 x2 (wipe s3 vs1) H7 (fun s4 H5 => tt1 s4 H5 fun b H6 => if b = true then te s4 H6 fun y H7 => ∃ acc, H7 L = some (.lst acc) ∧ acc.length < sizeLine ∧ (fun H' => ∃ acc m', I1 (j + 1) acc m' ∧ StoR ((L, .lst acc) :: m') H' ∧ Fr m4 ((L, .lst acc) :: m') H4 H' ∧ G ((L, .lst acc) :: m') H' ∧ G2 ((L, .lst acc) :: m') H') (upd H7 L (.lst (acc ++ [y]))) else (fun H' => ∃ acc m', I1 (j + 1) acc m' ∧ StoR ((L, .lst acc) :: m') H' ∧ Fr m4 ((L, .lst acc) :: m') H4 H' ∧ G ((L, .lst acc) :: m') H' ∧ G2 ((L, .lst acc) :: m') H') H6) Rw2 (X.go (fc.trans fa2)) q2 fun s8 H8 r8 m8 w8 f8 R8 => ?_
            · have z2 := ho1 _ _ _ _ z
              rw [show wipe (wipe s3 vs1) vs1 = wipe s3 vs1 from wipe_twice vs1 vs1 s3 fun _ h => h] at z2
              exact z2
            · have fb2 := fa2.trans f8
              refine w8 s8 H8 _ R8 (X.go (fc.trans fb2)) fun b H9 m9 h9 f9 s9 => ?_
              have fc2 := fb2.trans f9
              have R9 := f9.rel R8 s9
              have gc2 := J1.mono _ _ _ _ ((fe2.trans f8).trans f9) g7
              have gc3 := J3.mono _ _ _ _ ((fe2.trans f8).trans f9) g8
              cases b with
              | true =>
                refine iteT (h9.1 rfl s8 H9 _ R9 (X.go (fc.trans fc2)) fun y H10 dy m10 h10 f10 r10 s10 => ?_)
                obtain ⟨m11, rfl, hz, p11⟩ := h10
                obtain ⟨xs, e5, n5, t5⟩ := own_head s10
                obtain ⟨s6, f6⟩ := own_push s10 e5 t5 r10
                exact ⟨xs, e5, by rw [t5.len]; exact hz, acc6 ++ [dy], m11, p11, s6, (fc2.trans f10).trans f6, J1.mono _ _ _ _ (f10.trans f6) gc2, J3.mono _ _ _ _ (f10.trans f6) gc3⟩
              | false =>
                obtain ⟨m11, rfl, p11⟩ := h9.2 rfl
                exact iteF ⟨acc6, m11, p11, s9, fc2, gc2, gc3⟩
          · have e : j = es.length := by omega
            subst e
            exact .inl ⟨J3.stop _ H6 g8, acc6, m7, fin1 _ _ p7, st7, fc.trans f7, g7⟩
    · have e : i = ds.length := by omega
      subst e
      refine .inl ⟨J1.stop _ H' g', ?_⟩
      obtain ⟨xs, e5, n5, t5⟩ := own_head st'
      rcases fin acc m' p with z | z
      · exact K (.ref L) H' (.lst acc) m' z (f'.trans Fr.drop) (.lst e5 n5 (Fr.drop.reps t5)) st'.drop
      · exact K (.ref L) H' (.ref L) _ z f' (.ref L) st'
end
end Dz
/-! Dz, part O: the def that is handed a lambda, by its walk over plain data. -/
namespace Dz
open PySem PySem.Spec PyProof.Rows L2 LamX
/-- no code object stands in the store -/
theorem StoR.code_out {m : Sto} {H : Hp} (st : StoR m H) {c : Addr} {q : Str} (e : H c = some (CodeO c q)) : c ∉ dom m := fun ic => by
  obtain ⟨⟨b, o⟩, hp, hc⟩ := List.mem_flatMap.mp ic
  have y := st.at_ _ hp
  have no : ∀ {u : HO}, H c = some u → (∀ h : Heap → Prop, u ≠ .ext h) → False := fun g n => n _ (Option.some.inj (g.symm.trans e))
  cases o with
  | lst es =>
    obtain ⟨ws, g, _⟩ := y
    obtain rfl : c = b := by simpa [domO] using hc
    exact no g (fun _ z => nomatch z)
  | dct es =>
    obtain ⟨ws, g, _⟩ := y
    obtain rfl : c = b := by simpa [domO] using hc
    exact no g (fun _ z => nomatch z)
  | tab q2 =>
    obtain ⟨ps, g, _⟩ := y
    obtain rfl : c = b := by simpa [domO] using hc
    exact no g (fun _ z => nomatch z)
  | gen ac ag n =>
    obtain ⟨sp, cs, gs, g1, g2, g3, _⟩ := y
    have z : c = b ∨ c = ac ∨ c = ag := by simpa [domO] using hc
    rcases z with rfl | rfl | rfl
    · exact no g1 (fun _ z => nomatch z)
    · exact no g2 (fun _ z => nomatch z)
    · exact no g3 (fun _ z => nomatch z)
/-- what the taker's body does keeps its promise -/
abbrev RunsL (sp : SpL) (N : List Str) (t : XK → Str → Addr → Addr → LamT → TS) : Prop := ∀ (E : XK) (q : Str) (f c' : Addr) (tl : LamT) (m : Sto) (Pd : List Addr → Hp → Prop) (Phl : PhiT) (Psl : PsiC) (Ph : PhiT) (Pc : PsiC),
  sp Phl Psl m Ph Pc → Does tl m Pd Phl Psl → WS (fun cls d _ H' => E cls d H') (fun cls fs _ m' => Pc cls fs m') (t E q f c' tl) { nx := fun _ m' => Ph .non m', rt := Ph } (startR N [.clo f (cloP c' q Pd)]) m
theorem gives_of {k : Nat} {X : Cx} {N : List Str} {x a q : Str} {sg : Scope} {g : Addr} {cdg : Value} {bg : List Stmt} {sp : SpL} {t : XK → Str → Addr → Addr → LamT → TS} (run : RunsL sp N t)
    (pss : ∀ (f c' : Addr) (tl : LamT) (s : Shared) (H : Hp) (E : XK), (∀ (W : WX) (pn : List (Addr × Obj)) (xe : Value → Shared → Prop) (p1 p2 : Pos), Takes ((takerCx X E N x sg g cdg s H).tr pn xe) W → PE ((takerCx X E N x sg g cdg s H).tr pn xe) (.Call (.Name a p1) [] [] p2) (tAct W f c' q tl)) →
      Room k (X.A.deeper (envOfC x sg s.heap.objs.size g cdg)) → PSs (takerCx X E N x sg g cdg s H) bg (t E q f c' tl)) : GivesW k X N x sg g cdg bg a q (liftL sp) := fun f c' s H Q E tl act co z room => by
  obtain ⟨m, Pd, Phl, Psl, Ph, Pc, st, p, dz, hs, kt, xc⟩ := z
  refine ⟨t E q f c' tl, pss f c' tl s H E act room, ?_⟩
  have r : Reps (dom m) H [V.ref f] [.clo f (cloP c' q Pd)] := .cons (.clo (cloP_mono dz.mono) ⟨p, co, st.code_out co⟩) .nil
  exact run E q f c' tl m Pd Phl Psl Ph Pc hs dz (L2.start N [.ref f]) H _ ⟨startR_ok r, st⟩ (XT.of xc) ⟨fun s' H' r' m' p f' R' => kt .non H' .non m' p f' .non R'.st, kt, fun _ _ _ _ p => p.elim, fun _ _ _ _ p => p.elim⟩
end Dz
/-! Mx, part A: mirrors. A def's mirror is a plain function into M; judgements say that a reading does what a mirror says. -/
namespace Dz
open PySem PySem.Spec PyProof.Rows L2

/-- what a mirror gives: a value, a drawn number and what follows, an error with its fields, or nothing that is known -/
inductive M (α : Type) where
  | pure (a : α)
  | draw (l : Int) (k : Int → M α)
  | ex (c : Nat) (fs : List (Str × D))
  | no
namespace M
variable {α β γ : Type}
def bind : M α → (α → M β) → M β
  | .pure a, f => f a
  | .draw l k, f => .draw l fun r => (k r).bind f
  | .ex c fs, _ => .ex c fs
  | .no, _ => .no
def o : Option α → M α
  | some a => .pure a
  | none => .no
/-- errors are not told -/
def noX : M α → M α
  | .pure a => .pure a
  | .draw l k => .draw l fun r => (k r).noX
  | .ex _ _ => .no
  | .no => .no
@[simp] theorem pure_bind (a : α) (f : α → M β) : (M.pure a).bind f = f a := by rw [show (M.pure a).bind f = f a from rfl]
@[simp] theorem ex_bind (c : Nat) (fs : List (Str × D)) (f : α → M β) : (M.ex c fs).bind f = .ex c fs := by rw [show (M.ex c fs).bind f = .ex c fs from rfl]
@[simp] theorem no_bind (f : α → M β) : (M.no).bind f = .no := by rw [show (M.no).bind f = .no from rfl]
@[simp] theorem draw_bind (l : Int) (k : Int → M α) (f : α → M β) : (M.draw l k).bind f = .draw l fun r => (k r).bind f := by rw [show (M.draw l k).bind f = .draw l fun r => (k r).bind f from rfl]
@[simp] theorem o_some (a : α) : M.o (some a) = .pure a := by rw [show M.o (some a) = .pure a from rfl]
@[simp] theorem o_none : M.o (none : Option α) = .no := by rw [show M.o (none : Option α) = .no from rfl]
@[simp] theorem noX_pure (a : α) : (M.pure a).noX = .pure a := by rw [show (M.pure a).noX = .pure a from rfl]
@[simp] theorem noX_no : (M.no : M α).noX = .no := by rw [show (M.no : M α).noX = .no from rfl]
@[simp] theorem noX_ex (c : Nat) (fs : List (Str × D)) : (M.ex c fs : M α).noX = .no := by rw [show (M.ex c fs : M α).noX = .no from rfl]
@[simp] theorem noX_draw (l : Int) (k : Int → M α) : (M.draw l k).noX = .draw l fun r => (k r).noX := by rw [show (M.draw l k).noX = .draw l fun r => (k r).noX from rfl]
/-- no number is drawn -/
def nd : M α → M α
  | .pure a => .pure a
  | .draw _ _ => .no
  | .ex c fs => .ex c fs
  | .no => .no
@[simp] theorem nd_pure (a : α) : (M.pure a).nd = .pure a := by rw [show (M.pure a).nd = .pure a from rfl]
@[simp] theorem nd_ex (c : Nat) (fs : List (Str × D)) : (M.ex c fs : M α).nd = .ex c fs := by rw [show (M.ex c fs : M α).nd = .ex c fs from rfl]
@[simp] theorem nd_no : (M.no : M α).nd = .no := by rw [show (M.no : M α).nd = .no from rfl]
theorem bind_assoc (a : M α) (f : α → M β) (g : β → M γ) : (a.bind f).bind g = a.bind fun x => (f x).bind g := by
  induction a with
  | pure a => rfl
  | draw l k ih => simp only [draw_bind]; congr 1; funext r; exact ih r
  | ex c fs => rfl
  | no => rfl
@[simp] theorem bind_pure' (a : M α) : a.bind M.pure = a := by
  induction a with
  | draw l k ih => simp only [draw_bind]; congr 1; funext r; exact ih r
  | _ => rfl
/-- what follows is not looked at before its time -/
theorem bind_congr {a a' : M α} {f : α → M β} (h : a = a') : a.bind f = a'.bind f := by rw [h]
theorem ite_bind (c : Prop) [Decidable c] (a b : M α) (f : α → M β) : (if c then a else b).bind f = if c then a.bind f else b.bind f := by split <;> rfl
end M

/-- a mirror ends with what is wished for: n numbers are drawn so far -/
def wp {α : Type} : M α → Nat → (α → Nat → Prop) → (Nat → List (Str × D) → Nat → Prop) → Prop
  | .pure a, n, Q, _ => Q a n
  | .draw l k, n, Q, X => 0 < l ∧ l < 1000000 ∧ n < 1000000000 ∧ ∀ r : Int, 0 ≤ r → r < l → wp (k r) (n + 1) Q X
  | .ex c fs, n, _, X => X c fs n
  | .no, _, _, _ => False
section
variable {α β : Type} {n : Nat} {X : Nat → List (Str × D) → Nat → Prop}
@[simp] theorem wp_pure {a : α} {Q : α → Nat → Prop} : wp (.pure a) n Q X = Q a n := rfl
@[simp] theorem wp_ex {c : Nat} {fs : List (Str × D)} {Q : α → Nat → Prop} : wp (.ex c fs) n Q X = X c fs n := rfl
@[simp] theorem wp_no {Q : α → Nat → Prop} : wp .no n Q X = False := rfl
theorem wp_bind {a : M α} {f : α → M β} {Q : β → Nat → Prop} : wp (a.bind f) n Q X ↔ wp a n (fun x n' => wp (f x) n' Q X) X := by
  induction a generalizing n with
  | pure a => exact Iff.rfl
  | draw l k ih => simp only [M.draw_bind, wp, ih]
  | ex c fs => exact Iff.rfl
  | no => exact Iff.rfl
theorem wp_mono {a : M α} {Q Q' : α → Nat → Prop} {X' : Nat → List (Str × D) → Nat → Prop} (h : wp a n Q X) (hq : ∀ x n', n ≤ n' → Q x n' → Q' x n') (hx : ∀ c fs n', n ≤ n' → X c fs n' → X' c fs n') : wp a n Q' X' := by
  induction a generalizing n with
  | pure a => exact hq a n (Nat.le_refl n) h
  | draw l k ih => exact ⟨h.1, h.2.1, h.2.2.1, fun r h0 h1 => ih r (h.2.2.2 r h0 h1) (fun x n' l => hq x n' (by omega)) fun c fs n' l => hx c fs n' (by omega)⟩
  | ex c fs => exact hx c fs n (Nat.le_refl n) h
  | no => exact h
theorem wp_o {o : Option α} {Q : α → Nat → Prop} : wp (M.o o) n Q X ↔ ∃ a, o = some a ∧ Q a n := by
  cases o with
  | none => exact ⟨fun h => h.elim, fun ⟨_, e, _⟩ => by cases e⟩
  | some a => exact ⟨fun h => ⟨a, rfl, h⟩, fun ⟨_, e, q⟩ => by cases e; exact q⟩
theorem wp_noX {a : M α} {Q : α → Nat → Prop} : wp a.noX n Q X → wp a n Q fun _ _ _ => False := by
  induction a generalizing n with
  | pure a => exact id
  | draw l k ih => exact fun h => ⟨h.1, h.2.1, h.2.2.1, fun r h0 h1 => ih r (h.2.2.2 r h0 h1)⟩
  | ex c fs => exact id
  | no => exact id
end

theorem wp_nd {α : Type} {a : M α} {n : Nat} {Q : α → Nat → Prop} {X : Nat → List (Str × D) → Nat → Prop} (n' : Nat) (h : wp a.nd n Q X) : wp a n' (fun x _ => Q x n) fun c fs _ => X c fs n := by
  cases a with
  | pure a => exact h
  | draw l k => exact h.elim
  | ex c fs => exact h
  | no => exact h
/-! ### the world of a law: its classes -/
/-- which error stands under which: 0 ToldError, 1 NoSuch, 2 TooMany, others under ToldError -/
def subE (c d : Nat) : Bool := c == d || (d == 0 && decide (3 ≤ c))
structure Cs where
  K : PySem.W.Frag
  T : List (Addr × Str)
  ad : Nat → Addr
  cl : List Nat
  ex : ∀ c ∈ cl, ∀ d ∈ cl, PySem.W.exmOne K (.ref (ad c)) (.ref (ad d)) = some (subE c d)

/-! ### to know less -/
/-- what holds of (m, r) is also told by (m2, r2) -/
def Weak (m : Sto) (r : Rho) (m2 : Sto) (r2 : Rho) : Prop := (∀ x ∈ dom m2, x ∈ dom m) ∧ ∀ H s, Rel m H s r → Rel m2 H s r2
theorem Weak.refl {m : Sto} {r : Rho} : Weak m r m r := ⟨fun _ h => h, fun _ _ h => h⟩
theorem Weak.trans {m m1 m2 : Sto} {r r1 r2 : Rho} (a : Weak m r m1 r1) (b : Weak m1 r1 m2 r2) : Weak m r m2 r2 := ⟨fun x h => a.1 x (b.1 x h), fun H s h => b.2 H s (a.2 H s h)⟩
theorem Weak.fr {m m2 : Sto} {r r2 : Rho} (a : Weak m r m2 r2) {H : Hp} : Fr m m2 H H := ⟨fun _ _ h _ _ => h, fun x h => .inl (a.1 x h)⟩
theorem weak_wk {m m2 : Sto} {r : Rho} (h : Wk m m2) : Weak m r m2 r := ⟨h.1, fun H s R => h.fr.rel R (h.2 H R.st)⟩
def LeR : Rho → Rho → Prop
  | [], [] => True
  | x :: xs, y :: ys => (x = none ∨ x = y) ∧ LeR xs ys
  | _, _ => False
theorem leR_len : ∀ {r2 r : Rho}, LeR r2 r → r2.length = r.length
  | [], [], _ => rfl
  | _ :: _, _ :: _, h => congrArg Nat.succ (leR_len h.2)
  | [], _ :: _, h => h.elim
  | _ :: _, [], h => h.elim
theorem leR_get : ∀ {r2 r : Rho} {i : Nat} {d : D}, LeR r2 r → r2[i]? = some (some d) → r[i]? = some (some d)
  | x :: xs, y :: ys, 0, d, h, e => by
    rcases h.1 with z | z
    · subst z; simp at e
    · subst z; exact e
  | x :: xs, y :: ys, i + 1, d, h, e => by simpa using leR_get (i := i) h.2 (by simpa using e)
  | [], [], i, d, _, e => by simp at e
  | [], _ :: _, _, _, h, _ => h.elim
  | _ :: _, [], _, _, h, _ => h.elim
theorem weak_le {m : Sto} {r r2 : Rho} (h : LeR r2 r) : Weak m r m r2 := ⟨fun _ h => h, fun H s R => ⟨⟨R.sl.1.trans (leR_len h).symm, fun i d e => R.sl.2 i d (leR_get h e)⟩, R.st⟩⟩
theorem leR_nones : ∀ {r : Rho} {k : Nat}, r.length = k → LeR (List.replicate k none) r := fun {r} {k} e => by
  subst e
  induction r with
  | nil => exact trivial
  | cons x xs ih => exact ⟨.inl rfl, ih⟩
theorem weak_nones {m : Sto} : ∀ {r : Rho} {k : Nat}, r.length = k → Weak m r m (List.replicate k none) := fun {r} {k} e => weak_le (by
  subst e
  induction r with
  | nil => exact trivial
  | cons x xs ih => exact ⟨.inl rfl, ih⟩)
/-- an object of the store is let go -/
theorem perm_erase : ∀ (m : Sto) (k : Nat) (h : k < m.length), m.Perm (m[k] :: m.eraseIdx k) := by
  intro m
  induction m with
  | nil => intro k h; exact absurd h (by simp)
  | cons x m ih =>
    intro k h
    cases k with
    | zero => exact List.Perm.refl _
    | succ k =>
      have h' : k < m.length := by simpa using h
      exact (List.Perm.cons x (ih k h')).trans (List.Perm.swap _ _ _)
theorem weak_drop {m : Sto} {r : Rho} (k : Nat) (h : k < m.length) : Weak m r (m.eraseIdx k) r := by
  have p := perm_erase m k h
  have w : Wk (m[k] :: m.eraseIdx k) (m.eraseIdx k) := ⟨fun x hx => List.mem_append_right _ hx, fun H st => st.drop⟩
  exact weak_wk ((wk_perm p).trans w)
theorem set_eq_self {α : Type} : ∀ {l : List α} {i : Nat} {x : α}, l[i]? = some x → l.set i x = l
  | [], i, x, h => by simp at h
  | y :: l, 0, x, h => by simp at h; simp [h]
  | y :: l, i + 1, x, h => by
    have := set_eq_self (l := l) (i := i) (x := x) (by simpa using h)
    simp [this]
/-- a list that may change is plain data from now on -/
theorem weak_fz {m : Sto} {r : Rho} {a : Addr} {ds : List D} (k i : Nat) (e : m[k]? = some (a, .lst ds)) (hi : r[i]? = some (some (.ref a))) : Weak m r (m.eraseIdx k) (r.set i (some (.lst ds))) := by
  have lt : k < m.length := (List.getElem?_eq_some_iff.mp e).1
  have wd := weak_drop (r := r) k lt
  refine ⟨wd.1, fun H s R => ?_⟩
  obtain ⟨v, ev, rv⟩ := R.sl.2 i _ hi
  have R2 := wd.2 H s R
  obtain ⟨xs, e1, r1⟩ := lst_at R.st e
  have nin : a ∉ dom (m.eraseIdx k) := fun z => dom_erase_not R.st.nd e (by simp [domO]) z
  have f : Fr m (m.eraseIdx k) H H := wd.fr
  cases rv
  have q : Rep (dom (m.eraseIdx k)) H (.ref a) (.lst ds) := .lst e1 nin (f.reps r1)
  have z := R2.sl.set i q
  rw [set_eq_self ev] at z
  exact ⟨z, R2.st⟩
theorem weak_fzd {m : Sto} {r : Rho} {a : Addr} {ds : List (Key × D)} (k i : Nat) (e : m[k]? = some (a, .dct ds)) (hi : r[i]? = some (some (.ref a))) : Weak m r (m.eraseIdx k) (r.set i (some (.dct ds))) := by
  have lt : k < m.length := (List.getElem?_eq_some_iff.mp e).1
  have wd := weak_drop (r := r) k lt
  refine ⟨wd.1, fun H s R => ?_⟩
  obtain ⟨v, ev, rv⟩ := R.sl.2 i _ hi
  have R2 := wd.2 H s R
  obtain ⟨xs, e1, r1⟩ := dct_at R.st e
  have nin : a ∉ dom (m.eraseIdx k) := fun z => dom_erase_not R.st.nd e (by simp [domO]) z
  have f : Fr m (m.eraseIdx k) H H := wd.fr
  cases rv
  have q : Rep (dom (m.eraseIdx k)) H (.ref a) (.dct ds) := .dct e1 nin (f.repKs r1)
  have z := R2.sl.set i q
  rw [set_eq_self ev] at z
  exact ⟨z, R2.st⟩

/-! ### judgements -/
/-- what is known where an error leaves -/
structure Bx where
  r : Rho
  st : Nat → Sto
def XP (cs : Cs) : Option Bx → PsiT → Nat → List (Str × D) → Nat → Prop
  | none, _ => fun _ _ _ => False
  | some X, Ps => fun c fs n => ∀ r' m', Wk m' (X.st n) → LeR X.r r' → Ps (.ref (cs.ad c)) fs r' m'
structure OkX (X : Bx) (st : Nat → Sto) (r : Rho) : Prop where
  wk : ∀ n, Wk (st n) (X.st n)
  le : LeR X.r r
/-- data as a mirror sees them: an object of the store by what it holds -/
def RD (m : Sto) (j d : D) : Prop := j = d ∨ (∃ ds, d = .lst ds ∧ IsL m j ds) ∨ ∃ kvs, d = .dct kvs ∧ IsDc m j kvs
def RDA (st : Nat → Sto) (j d : D) : Prop := ∀ n, RD (st n) j d
theorem RDA.refl {st : Nat → Sto} {d : D} : RDA st d d := fun _ => .inl rfl
inductive RDs (m : Sto) : List D → List D → Prop
  | nil : RDs m [] []
  | cons {j d : D} {js ds : List D} : RD m j d → RDs m js ds → RDs m (j :: js) (d :: ds)
def RDAs (st : Nat → Sto) (j d : List D) : Prop := ∀ n, RDs (st n) j d
section
variable (cs : Cs) (W : WX) (X : Option Bx) (st : Nat → Sto) (r : Rho)
/-- the reading t gives just what a gives -/
def MP (t : TE) (a : M D) : Prop := ∀ n Ps Ph, wp a n (fun d n' => Ph d (st n')) (XP cs X Ps) → WT W Ps t r (st n) Ph
/-- .. as a mirror sees it -/
def MT (t : TE) (a : M D) : Prop := ∀ n Ps Ph, wp a n (fun d n' => ∀ j, RDA st j d → Ph j (st n')) (XP cs X Ps) → WT W Ps t r (st n) Ph
/-- a new list that may change -/
def ML (t : TE) (a : M (List D)) : Prop := ∀ n Ps Ph, wp a n (fun ds n' => ∀ p, p ∉ dom (st n') → Ph (.ref p) ((p, .lst ds) :: st n')) (XP cs X Ps) → WT W Ps t r (st n) Ph
/-- a new dict that may change -/
def MD (t : TE) (a : M (List (Key × D))) : Prop := ∀ n Ps Ph, wp a n (fun ds n' => ∀ p, p ∉ dom (st n') → Ph (.ref p) ((p, .dct ds) :: st n')) (XP cs X Ps) → WT W Ps t r (st n) Ph
def MB (t : TT) (a : M Bool) : Prop := ∀ n Ps Ph, wp a n (fun c n' => Ph c (st n')) (XP cs X Ps) → WB W Ps t r (st n) Ph
def MA (t : TA) (a : M (List D)) : Prop := ∀ n Ps Ph, wp a n (fun d n' => ∀ j, RDAs st j d → Ph j (st n')) (XP cs X Ps) → WA W Ps t r (st n) Ph
def MPA (t : TA) (a : M (List D)) : Prop := ∀ n Ps Ph, wp a n (fun d n' => Ph d (st n')) (XP cs X Ps) → WA W Ps t r (st n) Ph
def MO1 (t : TO) (a : M (Option Int)) : Prop := ∀ n Ps Ph, wp a n (fun d n' => Ph d (st n')) (XP cs X Ps) → WO W Ps t r (st n) Ph
end
/-- targets -/
def SG {β : Type} (r : Rho) (g : TG) (pat : D → Option β) (lay : β → Rho) : Prop := ∀ W Ps m Ph d b, pat d = some b → Ph (lay b) m → WG W Ps g d r m Ph

section
variable {cs : Cs} {W : WX} {X : Option Bx} {st : Nat → Sto} {r : Rho} {t ta tb tc td : TE} {a b c d : M D}
theorem MP.mt (h : MP cs W X st r t a) : MT cs W X st r t a := fun n Ps Ph k => h n Ps Ph (wp_mono k (fun x n' _ q => q x .refl) fun _ _ _ _ q => q)
theorem mp_var {i : Nat} {d : D} (e : r[i]? = some (some d)) : MP cs W X st r (tVar i) (.pure d) := fun n Ps Ph k => wt_var e k
theorem mt_ownl {i : Nat} {p : Addr} {ds : List D} (e : r[i]? = some (some (.ref p))) (k : Nat) (h : ∀ n, (st n)[k]? = some (p, .lst ds)) : MT cs W X st r (tVar i) (.pure (.lst ds)) := fun n Ps Ph q =>
  wt_var e (q _ fun n => .inr (.inl ⟨ds, rfl, isL_own k (h n)⟩))
theorem mt_ownd {i : Nat} {p : Addr} {ds : List (Key × D)} (e : r[i]? = some (some (.ref p))) (k : Nat) (h : ∀ n, (st n)[k]? = some (p, .dct ds)) : MT cs W X st r (tVar i) (.pure (.dct ds)) := fun n Ps Ph q =>
  wt_var e (q _ fun n => .inr (.inr ⟨ds, rfl, .inr ⟨k, p, rfl, h n⟩⟩))
theorem mp_int {i : Int} : MP cs W X st r (tC (.int i)) (.pure (.int i)) := fun n Ps Ph k => wt_int k
theorem mp_str {i : Str} : MP cs W X st r (tC (.str i)) (.pure (.str i)) := fun n Ps Ph k => wt_str k
theorem mp_bl {i : Bool} : MP cs W X st r (tC (.bl i)) (.pure (.bl i)) := fun n Ps Ph k => wt_bl k
theorem mp_non : MP cs W X st r (tC .non) (.pure .non) := fun n Ps Ph k => wt_non k
theorem mp_ty {i : String} : MP cs W X st r (tC (.ty i)) (.pure (.ty i)) := fun n Ps Ph k => wt_ty k
/-- an operator by a function -/
def OpM (o : R2) (g : D → D → Option D) : Prop := ∀ x y z jx jy m Ph, g x y = some z → RD m jx x → RD m jy y → Ph z m → OpD o jx jy m Ph
def UnM (o : V → Hp → VK → Prop) (g : D → Option D) : Prop := ∀ x z jx m Ph, g x = some z → RD m jx x → Ph z m → UnD o jx m Ph
def CaM (o : List V → Hp → VK → Prop) (g : List D → Option D) : Prop := ∀ xs z js m Ph, g xs = some z → RDs m js xs → Ph z m → CaD o js m Ph
theorem mp_op {o : R2} {g : D → D → Option D} (ho : OpM o g) (ha : MT cs W X st r ta a) (hb : MT cs W X st r tb b) : MP cs W X st r (tOp o ta tb) (a.bind fun x => b.bind fun y => M.o (g x y)) := fun n Ps Ph k =>
  wt_op (ha n Ps _ (wp_mono (wp_bind.mp k) (fun x n1 _ k1 jx hx => hb n1 Ps _ (wp_mono (wp_bind.mp k1) (fun y n2 _ k2 jy hy => by
    obtain ⟨z, e, q⟩ := wp_o.mp k2
    exact ho x y z jx jy _ Ph e (hx n2) (hy n2) q) fun _ _ _ _ q => q)) fun _ _ _ _ q => q))
theorem mp_un {o : V → Hp → VK → Prop} {g : D → Option D} (ho : UnM o g) (ha : MT cs W X st r ta a) : MP cs W X st r (tUn o ta) (a.bind fun x => M.o (g x)) := fun n Ps Ph k =>
  wt_un (ha n Ps _ (wp_mono (wp_bind.mp k) (fun x n1 _ k1 jx hx => by
    obtain ⟨z, e, q⟩ := wp_o.mp k1
    exact ho x z jx _ Ph e (hx n1) q) fun _ _ _ _ q => q))
def asB : D → Option Bool
  | .bl b => some b
  | _ => none
@[simp] theorem asB_bl (b : Bool) : asB (.bl b) = some b := rfl
theorem asB_inv {d : D} {c : Bool} (h : asB d = some c) : d = .bl c := by
  cases d <;> simp [asB] at h
  rw [h]
theorem mp_and (ha : MP cs W X st r ta a) (hb : MP cs W X st r tb b) : MP cs W X st r (tAndV ta tb) (a.bind fun x => (M.o (asB x)).bind fun c => if c = true then b else .pure (.bl false)) := fun n Ps Ph k =>
  wt_and (ha n Ps _ (wp_mono (wp_bind.mp k) (fun x n1 _ k1 => by
    obtain ⟨c, e, q⟩ := wp_o.mp (wp_bind.mp k1)
    cases asB_inv e
    refine ⟨c, rfl, fun h => ?_, fun h => ?_⟩ <;> subst h
    · exact hb n1 Ps Ph q
    · exact q) fun _ _ _ _ q => q))
theorem mp_or (ha : MP cs W X st r ta a) (hb : MP cs W X st r tb b) : MP cs W X st r (tOrV ta tb) (a.bind fun x => (M.o (asB x)).bind fun c => if c = true then .pure (.bl true) else b) := fun n Ps Ph k =>
  wt_or (ha n Ps _ (wp_mono (wp_bind.mp k) (fun x n1 _ k1 => by
    obtain ⟨c, e, q⟩ := wp_o.mp (wp_bind.mp k1)
    cases asB_inv e
    refine ⟨c, rfl, fun h => ?_, fun h => ?_⟩ <;> subst h
    · exact hb n1 Ps Ph q
    · exact q) fun _ _ _ _ q => q))
theorem mp_not (ha : MP cs W X st r ta a) : MP cs W X st r (tNotV ta) (a.bind fun x => (M.o (asB x)).bind fun c => .pure (.bl (!c))) := fun n Ps Ph k =>
  wt_not (ha n Ps _ (wp_mono (wp_bind.mp k) (fun x n1 _ k1 => by
    obtain ⟨c, e, q⟩ := wp_o.mp (wp_bind.mp k1)
    cases asB_inv e
    exact ⟨c, rfl, q⟩) fun _ _ _ _ q => q))
theorem mp_if {tt : TT} {c : M Bool} (hc : MB cs W X st r tt c) (ha : MP cs W X st r ta a) (hb : MP cs W X st r tb b) : MP cs W X st r (tIf tt ta tb) (c.bind fun k => if k = true then a else b) := fun n Ps Ph k =>
  wt_if (hc n Ps _ (wp_mono (wp_bind.mp k) (fun x n1 _ k1 => ⟨fun h => by subst h; exact ha n1 Ps Ph k1, fun h => by subst h; exact hb n1 Ps Ph k1⟩) fun _ _ _ _ q => q))
theorem mb_test (ha : MP cs W X st r ta a) : MB cs W X st r (tTest ta) (a.bind fun x => M.o (asB x)) := fun n Ps Ph k =>
  wb_test (ha n Ps _ (wp_mono (wp_bind.mp k) (fun x n1 _ k1 => by
    obtain ⟨c, e, q⟩ := wp_o.mp k1
    cases asB_inv e
    exact ⟨c, rfl, q⟩) fun _ _ _ _ q => q))
theorem mb_B (ha : MP cs W X st r ta a) : MB cs W X st r (tB ta) (a.bind fun x => M.o (asB x)) := fun n Ps Ph k =>
  wb_B (ha n Ps _ (wp_mono (wp_bind.mp k) (fun x n1 _ k1 => by
    obtain ⟨c, e, q⟩ := wp_o.mp k1
    cases asB_inv e
    exact ⟨c, rfl, q⟩) fun _ _ _ _ q => q))
theorem mb_and {t1 t2 : TT} {c1 c2 : M Bool} (h1 : MB cs W X st r t1 c1) (h2 : MB cs W X st r t2 c2) : MB cs W X st r (tAnd t1 t2) (c1.bind fun k => if k = true then c2 else .pure false) := fun n Ps Ph k =>
  wb_and (h1 n Ps _ (wp_mono (wp_bind.mp k) (fun x n1 _ k1 => ⟨fun h => by subst h; exact h2 n1 Ps Ph k1, fun h => by subst h; exact k1⟩) fun _ _ _ _ q => q))
theorem mb_or {t1 t2 : TT} {c1 c2 : M Bool} (h1 : MB cs W X st r t1 c1) (h2 : MB cs W X st r t2 c2) : MB cs W X st r (tOr t1 t2) (c1.bind fun k => if k = true then .pure true else c2) := fun n Ps Ph k =>
  wb_or (h1 n Ps _ (wp_mono (wp_bind.mp k) (fun x n1 _ k1 => ⟨fun h => by subst h; exact h2 n1 Ps Ph k1, fun h => by subst h; exact k1⟩) fun _ _ _ _ q => q))
theorem mb_not {t1 : TT} {c1 : M Bool} (h1 : MB cs W X st r t1 c1) : MB cs W X st r (tNot t1) (c1.bind fun k => .pure (!k)) := fun n Ps Ph k =>
  wb_not (h1 n Ps _ (wp_mono (wp_bind.mp k) (fun x n1 _ k1 => k1) fun _ _ _ _ q => q))
theorem mb_yes : MB cs W X st r tYes (.pure true) := fun n Ps Ph k => wb_yes k

/-! ### arguments -/
theorem ma_nil : MA cs W X st r tNil (.pure []) := fun n Ps Ph k => wa_nil (k [] fun _ => .nil)
theorem ma_cons {tas : TA} {as : M (List D)} (ha : MT cs W X st r ta a) (hs : MA cs W X st r tas as) : MA cs W X st r (tCons ta tas) (a.bind fun x => as.bind fun xs => .pure (x :: xs)) := fun n Ps Ph k =>
  wa_cons (ha n Ps _ (wp_mono (wp_bind.mp k) (fun x n1 _ k1 jx hx => hs n1 Ps _ (wp_mono (wp_bind.mp k1) (fun xs n2 _ k2 js hs => k2 _ fun n => .cons (hx n) (hs n)) fun _ _ _ _ q => q)) fun _ _ _ _ q => q))
theorem mpa_nil : MPA cs W X st r tNil (.pure []) := fun n Ps Ph k => wa_nil k
theorem mpa_cons {tas : TA} {as : M (List D)} (ha : MP cs W X st r ta a) (hs : MPA cs W X st r tas as) : MPA cs W X st r (tCons ta tas) (a.bind fun x => as.bind fun xs => .pure (x :: xs)) := fun n Ps Ph k =>
  wa_cons (ha n Ps _ (wp_mono (wp_bind.mp k) (fun x n1 _ k1 => hs n1 Ps _ (wp_mono (wp_bind.mp k1) (fun xs n2 _ k2 => k2) fun _ _ _ _ q => q)) fun _ _ _ _ q => q))
theorem mp_cb {o : List V → Hp → VK → Prop} {g : List D → Option D} {tas : TA} {as : M (List D)} (ho : CaM o g) (hs : MA cs W X st r tas as) : MP cs W X st r (tCB o tas) (as.bind fun xs => M.o (g xs)) := fun n Ps Ph k =>
  wt_cb (hs n Ps _ (wp_mono (wp_bind.mp k) (fun xs n1 _ k1 js hj => by
    obtain ⟨z, e, q⟩ := wp_o.mp k1
    exact ho xs z js _ Ph e (hj n1) q) fun _ _ _ _ q => q))
def mkTup (xs : List D) : Option D := if xs.length ≤ 1000 then some (.tup xs) else none
def mkLst (xs : List D) : Option D := if xs.length ≤ 1000 then some (.lst xs) else none
def mkOwn (xs : List D) : Option (List D) := if xs.length ≤ 1000 then some xs else none
theorem sz1000 {n : Nat} (h : n ≤ 1000) : n ≤ sizeLine := by rw [sizeLine_eq]; omega
theorem mp_tup {tas : TA} {as : M (List D)} (hs : MPA cs W X st r tas as) : MP cs W X st r (tTup tas) (as.bind fun xs => M.o (mkTup xs)) := fun n Ps Ph k =>
  wt_tup (hs n Ps _ (wp_mono (wp_bind.mp k) (fun xs n1 _ k1 => by
    obtain ⟨z, e, q⟩ := wp_o.mp k1
    unfold mkTup at e
    split at e <;> cases e
    exact ⟨sz1000 ‹_›, q⟩) fun _ _ _ _ q => q))
theorem mp_lst {tas : TA} {as : M (List D)} (hs : MPA cs W X st r tas as) : MP cs W X st r (tLst tas) (as.bind fun xs => M.o (mkLst xs)) := fun n Ps Ph k =>
  wt_lst (hs n Ps _ (wp_mono (wp_bind.mp k) (fun xs n1 _ k1 => by
    obtain ⟨z, e, q⟩ := wp_o.mp k1
    unfold mkLst at e
    split at e <;> cases e
    exact ⟨sz1000 ‹_›, q⟩) fun _ _ _ _ q => q))
theorem ml_lst {tas : TA} {as : M (List D)} (hs : MPA cs W X st r tas as) : ML cs W X st r (tLst tas) (as.bind fun xs => M.o (mkOwn xs)) := fun n Ps Ph k =>
  wt_own (hs n Ps _ (wp_mono (wp_bind.mp k) (fun xs n1 _ k1 => by
    obtain ⟨z, e, q⟩ := wp_o.mp k1
    unfold mkOwn at e
    split at e <;> cases e
    exact ⟨sz1000 ‹_›, q⟩) fun _ _ _ _ q => q))

/-! ### calls of defs -/
/-- a def keeps its mirror -/
def SpP (cs : Cs) (f : List D → M D) : SpD := fun ds m Ph Pc => ∃ n, wp (f ds) n (fun d _ => Ph d m) fun c fs _ => Pc (.ref (cs.ad c)) fs m
/-- .. a def that is handed the state of draws first -/
def SpG (cs : Cs) (f : List D → M D) : SpD := fun ds m Ph Pc => ∃ (a ac ag : Addr) (k n : Nat) (xs : List D), ds = .ref a :: xs ∧ m[k]? = some (a, .gen ac ag n) ∧
  wp (f xs) n (fun d n' => Ph d (m.set k (a, .gen ac ag n'))) fun c fs n' => Pc (.ref (cs.ad c)) fs (m.set k (a, .gen ac ag n'))
def ImpP (cs : Cs) (sp : SpD) (f : List D → M D) : Prop := ∀ ds m Ph Pc, SpP cs f ds m Ph Pc → sp ds m Ph Pc
def ImpG (cs : Cs) (sp : SpD) (f : List D → M D) : Prop := ∀ ds m Ph Pc, SpG cs f ds m Ph Pc → sp ds m Ph Pc
theorem impP {f : List D → M D} : ImpP cs (SpP cs f) f := fun _ _ _ _ h => h
theorem impG {f : List D → M D} : ImpG cs (SpG cs f) f := fun _ _ _ _ h => h
variable {Y : Bx} {sp : SpD} {f : List D → M D} {tas tks : TA} {as ks : M (List D)}
theorem xp_use {Ps : PsiT} {c : Nat} {fs : List (Str × D)} {n : Nat} (ok : OkX Y st r) (q : XP cs (some Y) Ps c fs n) : Ps (.ref (cs.ad c)) fs r (st n) := q _ _ (ok.wk n) ok.le
/-- a call of a def that draws nothing, in a def that draws nothing -/
theorem mp_call {dvs : List V} (i : ImpP cs sp f) (ok : OkX Y st r) (hc : ∀ n n', st n = st n') (hs : MPA cs W (some Y) st r tas as) (hd : D.flats (dvs.map vD) = some dvs := by rfl) :
    MP cs W (some Y) st r (tCallG (lift sp) dvs (WE W) tas) (as.bind fun xs => f (xs ++ dvs.map vD)) := fun n Ps Ph k =>
  wt_call (hs n Ps _ (wp_mono (wp_bind.mp k) (fun xs n1 _ k1 => i _ _ _ _ ⟨n1, wp_mono k1 (fun d n' _ q => by rw [hc n1 n']; exact q) fun c fs n' _ q => by rw [hc n1 n']; exact xp_use ok q⟩) fun _ _ _ _ q => q)) hd
/-- .. in a def that draws -/
theorem mp_calln {dvs : List V} (i : ImpP cs sp f) (ok : OkX Y st r) (hs : MPA cs W (some Y) st r tas as) (hd : D.flats (dvs.map vD) = some dvs := by rfl) :
    MP cs W (some Y) st r (tCallG (lift sp) dvs (WE W) tas) (as.bind fun xs => (f (xs ++ dvs.map vD)).nd) := fun n Ps Ph k =>
  wt_call (hs n Ps _ (wp_mono (wp_bind.mp k) (fun xs n1 _ k1 => i _ _ _ _ ⟨n1, wp_mono (wp_nd n1 k1) (fun d n' _ q => q) fun c fs n' _ q => xp_use ok q⟩) fun _ _ _ _ q => q)) hd
/-- .. in a comprehension -/
theorem mp_call0 {dvs : List V} (i : ImpP cs sp f) (hc : ∀ n n', st n = st n') (hs : MPA cs W none st r tas as) (hd : D.flats (dvs.map vD) = some dvs := by rfl) :
    MP cs W none st r (tCallG (lift sp) dvs (fun _ => E0) tas) (as.bind fun xs => f (xs ++ dvs.map vD)) := fun n Ps Ph k =>
  wt_call0 (hs n Ps _ (wp_mono (wp_bind.mp k) (fun xs n1 _ k1 => i _ _ _ _ ⟨n1, wp_mono k1 (fun d n' _ q => by rw [hc n1 n']; exact q) fun c fs n' _ q => q⟩) fun _ _ _ _ q => q)) hd
theorem mp_calln0 {dvs : List V} (i : ImpP cs sp f) (hs : MPA cs W none st r tas as) (hd : D.flats (dvs.map vD) = some dvs := by rfl) :
    MP cs W none st r (tCallG (lift sp) dvs (fun _ => E0) tas) (as.bind fun xs => (f (xs ++ dvs.map vD)).nd) := fun n Ps Ph k =>
  wt_call0 (hs n Ps _ (wp_mono (wp_bind.mp k) (fun xs n1 _ k1 => i _ _ _ _ ⟨n1, wp_mono (wp_nd n1 k1) (fun d n' _ q => q) fun c fs n' _ q => q⟩) fun _ _ _ _ q => q)) hd
/-- the state of draws stands at place k -/
def GenAt (st : Nat → Sto) (a ac ag : Addr) (k : Nat) : Prop := ∀ n, (st n)[k]? = some (a, .gen ac ag n) ∧ ∀ n', (st n).set k (a, .gen ac ag n') = st n'
theorem mp_callg {dvs : List V} {v : Nat} {a ac ag : Addr} (k : Nat) (i : ImpG cs sp f) (e : r[v]? = some (some (.ref a))) (ga : GenAt st a ac ag k) (ok : OkX Y st r) (hs : MPA cs W (some Y) st r tas as) (hd : D.flats (dvs.map vD) = some dvs := by rfl) :
    MP cs W (some Y) st r (tCallG (lift sp) dvs (WE W) (tCons (tVar v) tas)) (as.bind fun xs => f (xs ++ dvs.map vD)) := fun n Ps Ph h =>
  wt_call (wa_cons (wt_var e (hs n Ps _ (wp_mono (wp_bind.mp h) (fun xs n1 _ k1 => i _ _ _ _ ⟨a, ac, ag, k, n1, _, rfl, (ga n1).1, wp_mono k1 (fun d n' _ q => by rw [(ga n1).2 n']; exact q) fun c fs n' _ q => by rw [(ga n1).2 n']; exact xp_use ok q⟩) fun _ _ _ _ q => q)))) hd
theorem mp_callg0 {dvs : List V} {v : Nat} {a ac ag : Addr} (k : Nat) (i : ImpG cs sp f) (e : r[v]? = some (some (.ref a))) (ga : GenAt st a ac ag k) (hs : MPA cs W none st r tas as) (hd : D.flats (dvs.map vD) = some dvs := by rfl) :
    MP cs W none st r (tCallG (lift sp) dvs (fun _ => E0) (tCons (tVar v) tas)) (as.bind fun xs => f (xs ++ dvs.map vD)) := fun n Ps Ph h =>
  wt_call0 (wa_cons (wt_var e (hs n Ps _ (wp_mono (wp_bind.mp h) (fun xs n1 _ k1 => i _ _ _ _ ⟨a, ac, ag, k, n1, _, rfl, (ga n1).1, wp_mono k1 (fun d n' _ q => by rw [(ga n1).2 n']; exact q) fun c fs n' _ q => q⟩) fun _ _ _ _ q => q)))) hd
/-- a call with keywords -/
theorem mp_callk (i : ImpP cs sp f) (ok : OkX Y st r) (hc : ∀ n n', st n = st n') (hs : MPA cs W (some Y) st r tas as) (hk : MPA cs W (some Y) st r tks ks) :
    MP cs W (some Y) st r (tCallGK (lift sp) (fun vs zs => vs ++ zs) (WE W) tas tks) (as.bind fun xs => ks.bind fun ys => f (xs ++ ys)) := fun n Ps Ph k =>
  wt_ck (hs n Ps _ (wp_mono (wp_bind.mp k) (fun xs n1 _ k1 => hk n1 Ps _ (wp_mono (wp_bind.mp k1) (fun ys n2 _ k2 => i _ _ _ _ ⟨n2, wp_mono k2 (fun d n' _ q => by rw [hc n2 n']; exact q) fun c fs n' _ q => by rw [hc n2 n']; exact xp_use ok q⟩) fun _ _ _ _ q => q)) fun _ _ _ _ q => q))
theorem mp_callkn (i : ImpP cs sp f) (ok : OkX Y st r) (hs : MPA cs W (some Y) st r tas as) (hk : MPA cs W (some Y) st r tks ks) :
    MP cs W (some Y) st r (tCallGK (lift sp) (fun vs zs => vs ++ zs) (WE W) tas tks) (as.bind fun xs => ks.bind fun ys => (f (xs ++ ys)).nd) := fun n Ps Ph k =>
  wt_ck (hs n Ps _ (wp_mono (wp_bind.mp k) (fun xs n1 _ k1 => hk n1 Ps _ (wp_mono (wp_bind.mp k1) (fun ys n2 _ k2 => i _ _ _ _ ⟨n2, wp_mono (wp_nd n2 k2) (fun d n' _ q => q) fun c fs n' _ q => xp_use ok q⟩) fun _ _ _ _ q => q)) fun _ _ _ _ q => q))
theorem mp_callp {is : List Nat} (i : ImpP cs sp f) (ok : OkX Y st r) (hc : ∀ n n', st n = st n') (hs : MPA cs W (some Y) st r tas as) (hk : MPA cs W (some Y) st r tks ks) :
    MP cs W (some Y) st r (tCallGK (lift sp) (fun vs zs => vs ++ permL is zs) (WE W) tas tks) (as.bind fun xs => ks.bind fun ys => f (xs ++ permL is ys)) := fun n Ps Ph k =>
  wt_cp (hs n Ps _ (wp_mono (wp_bind.mp k) (fun xs n1 _ k1 => hk n1 Ps _ (wp_mono (wp_bind.mp k1) (fun ys n2 _ k2 => i _ _ _ _ ⟨n2, wp_mono k2 (fun d n' _ q => by rw [hc n2 n']; exact q) fun c fs n' _ q => by rw [hc n2 n']; exact xp_use ok q⟩) fun _ _ _ _ q => q)) fun _ _ _ _ q => q))
theorem mp_callpn {is : List Nat} (i : ImpP cs sp f) (ok : OkX Y st r) (hs : MPA cs W (some Y) st r tas as) (hk : MPA cs W (some Y) st r tks ks) :
    MP cs W (some Y) st r (tCallGK (lift sp) (fun vs zs => vs ++ permL is zs) (WE W) tas tks) (as.bind fun xs => ks.bind fun ys => (f (xs ++ permL is ys)).nd) := fun n Ps Ph k =>
  wt_cp (hs n Ps _ (wp_mono (wp_bind.mp k) (fun xs n1 _ k1 => hk n1 Ps _ (wp_mono (wp_bind.mp k1) (fun ys n2 _ k2 => i _ _ _ _ ⟨n2, wp_mono (wp_nd n2 k2) (fun d n' _ q => q) fun c fs n' _ q => xp_use ok q⟩) fun _ _ _ _ q => q)) fun _ _ _ _ q => q))

/-! ### what is walked -/
structure ItP (J : It) (G : Sto → Hp → Prop) (P : Sto → Prop) (ds : List D) : Prop where
  mono : ∀ m m' H H', Fr m m' H H' → StoR m' H' → P m' → G m H → G m' H'
  go : ∀ (i : Nat) m H, G m H → i < ds.length → J.go i H
  stop : ∀ m H, G m H → J.stop ds.length H
  yld : ∀ (i : Nat) m H x H', G m H → StoR m H → J.yld i H x H' → ∀ d, ds[i]? = some d → (∀ a o, H a = some o → H' a = some o) ∧ Rep (dom m) H' x d ∧ StoR m H'
def WJ (W : WX) (Ps : PsiT) (P : Sto → Prop) (t : TI) (r : Rho) (m : Sto) (Ph : List D → Sto → Prop) : Prop := ∀ (s : L2.St) (H : Hp) (R : It → Hp → Prop), Rel m H s r → XT W m H Ps →
  (∀ (J : It) (H' : Hp) (ds : List D) (m' : Sto) (G : Sto → Hp → Prop), Ph ds m' → Fr m m' H H' → StoR m' H' → ItP J G P ds → G m' H' → R J H') → t s H R
theorem wj_of {Ps : PsiT} {P : Sto → Prop} {ti : TI} {m : Sto} {Ph : List D → Sto → Prop} (h : WI W Ps ti r m Ph) : WJ W Ps P ti r m Ph := fun s H R Rl XX k =>
  h s H R Rl XX fun J H' ds m' G p f s1 J1 g => k J H' ds m' G p f s1 ⟨fun m m' H H' f _ _ g => J1.mono m m' H H' f g, J1.go, J1.stop, J1.yld⟩ g
/-- the items that are walked, while P holds of the store -/
def MI (cs : Cs) (W : WX) (X : Option Bx) (st : Nat → Sto) (r : Rho) (P : Sto → Prop) (t : TI) (a : M (List D)) : Prop := ∀ n Ps (Ph : List D → Nat → Prop), wp a n Ph (XP cs X Ps) → WJ W Ps P t r (st n) fun ds m' => ∃ n', m' = st n' ∧ Ph ds n'
abbrev PT : Sto → Prop := fun _ => True
def seqO : D → Option (List D)
  | .lst ds => some ds
  | .tup ds => some ds
  | _ => none
@[simp] theorem seqO_lst (ds : List D) : seqO (.lst ds) = some ds := rfl
@[simp] theorem seqO_tup (ds : List D) : seqO (.tup ds) = some ds := rfl
theorem seqO_inv {d : D} {ds : List D} (h : seqO d = some ds) : d = .lst ds ∨ d = .tup ds := by
  cases d <;> simp [seqO] at h
  · exact .inr (by rw [h])
  · exact .inl (by rw [h])
variable {KF : PySem.W.Frag} {items : M (List D)}
theorem mi_seq (ha : MP cs W X st r ta a) : MI cs W X st r PT (iSeq KF ta) (a.bind fun x => M.o (seqO x)) := fun n Ps Ph k =>
  wj_of (wi_seq (ha n Ps _ (wp_mono (wp_bind.mp k) (fun x n1 _ k1 => by
    obtain ⟨ds, e, q⟩ := wp_o.mp k1
    exact ⟨ds, seqO_inv e, n1, rfl, q⟩) fun _ _ _ _ q => q)))
def OwnP (p : Addr) (ds : List D) : Sto → Prop := fun m => ∃ k : Nat, m[k]? = some (p, .lst ds)
theorem itp_own {p : Addr} {ds : List D} : ItP (Itl KF p) (fun m H => StoR m H ∧ OwnP p ds m) (OwnP p ds) ds where
  mono := fun m m' H H' f s p g => ⟨s, p⟩
  go := fun i m H ⟨s, k, e⟩ h => by
    obtain ⟨xs, e1, r1⟩ := lst_at s e
    have h' : i < xs.length := by rw [r1.len]; exact h
    exact ⟨xs, xs[i], .inl (.inl e1), by simp [h']⟩
  stop := fun m H ⟨s, k, e⟩ => by
    obtain ⟨xs, e1, r1⟩ := lst_at s e
    exact ⟨xs, .inl (.inl e1), by rw [r1.len]; exact Nat.le_refl _⟩
  yld := fun i m H x H' ⟨s, k, e⟩ st y d hd => by
    obtain ⟨xs, e1, r1⟩ := lst_at s e
    obtain ⟨rfl, y⟩ := y
    exact ⟨fun _ _ h => h, r1.get (y xs (.inl (.inl e1))) hd, st⟩
theorem mi_own {i : Nat} {p : Addr} {ds : List D} (e : r[i]? = some (some (.ref p))) (k : Nat) (h : ∀ n, (st n)[k]? = some (p, .lst ds)) : MI cs W X st r (OwnP p ds) (iSeq KF (tVar i)) (.pure ds) := fun n Ps Ph q s H R Rl XX kk => by
  obtain ⟨v, e1, e2⟩ := Rl.sl.2 i _ e
  cases e2
  obtain ⟨xs, e3, r3⟩ := lst_at Rl.st (h n)
  exact ⟨.ref p, e1, p, xs, rfl, .inl ⟨.inl (.inl e3), kk _ H ds _ _ ⟨n, rfl, q⟩ (Fr.refl _ H) Rl.st itp_own ⟨Rl.st, k, h n⟩⟩⟩
def rg1 : List D → Option (List D)
  | [.int j] => if -(2 ^ 62) ≤ j ∧ j < 2 ^ 62 then some (rngD 0 j.toNat) else none
  | _ => none
def rg2 : List D → Option (List D)
  | [.int i, .int j] => if -(2 ^ 62) ≤ i ∧ i < 2 ^ 62 ∧ -(2 ^ 62) ≤ j ∧ j < 2 ^ 62 then some (rngD i (j - i).toNat) else none
  | _ => none
theorem rg1_inv {xs ds : List D} (h : rg1 xs = some ds) : ∃ j : Int, xs = [.int j] ∧ -(2 ^ 62) ≤ j ∧ j < 2 ^ 62 ∧ ds = rngD 0 j.toNat := by
  unfold rg1 at h
  split at h
  · split at h
    · cases h; exact ⟨_, rfl, by omega, by omega, rfl⟩
    · cases h
  · cases h
theorem rg2_inv {xs ds : List D} (h : rg2 xs = some ds) : ∃ i j : Int, xs = [.int i, .int j] ∧ (-(2 ^ 62) ≤ i ∧ i < 2 ^ 62 ∧ -(2 ^ 62) ≤ j ∧ j < 2 ^ 62) ∧ ds = rngD i (j - i).toNat := by
  unfold rg2 at h
  split at h
  · split at h
    · cases h; exact ⟨_, _, rfl, by assumption, rfl⟩
    · cases h
  · cases h
theorem mi_rg1 (ha : MPA cs W X st r tas as) : MI cs W X st r PT (iRng1 tas) (as.bind fun xs => M.o (rg1 xs)) := fun n Ps Ph k =>
  wj_of (wi_rng1 (ha n Ps _ (wp_mono (wp_bind.mp k) (fun x n1 _ k1 => by
    obtain ⟨ds, e, q⟩ := wp_o.mp k1
    obtain ⟨j, e1, h1, h2, rfl⟩ := rg1_inv e
    exact ⟨j, e1, h1, h2, n1, rfl, q⟩) fun _ _ _ _ q => q)))
theorem mi_rg2 (ha : MPA cs W X st r tas as) : MI cs W X st r PT (iRng2 tas) (as.bind fun xs => M.o (rg2 xs)) := fun n Ps Ph k =>
  wj_of (wi_rng2 (ha n Ps _ (wp_mono (wp_bind.mp k) (fun x n1 _ k1 => by
    obtain ⟨ds, e, q⟩ := wp_o.mp k1
    obtain ⟨i, j, e1, h1, rfl⟩ := rg2_inv e
    exact ⟨i, j, e1, h1, n1, rfl, q⟩) fun _ _ _ _ q => q)))
def enO : List D → Option (List D)
  | [d] => (seqO d).map enumD
  | _ => none
theorem mi_enum (ha : MPA cs W X st r tas as) : MI cs W X st r PT (iEnumA KF tas) (as.bind fun xs => M.o (enO xs)) := fun n Ps Ph k =>
  wj_of (wi_enum (ha n Ps _ (wp_mono (wp_bind.mp k) (fun x n1 _ k1 => by
    obtain ⟨ds, e, q⟩ := wp_o.mp k1
    unfold enO at e
    split at e
    · rename_i d
      cases h : seqO d with
      | none => rw [h] at e; cases e
      | some l => rw [h] at e; cases e; exact ⟨d, l, rfl, seqO_inv h, n1, rfl, q⟩
    · cases e) fun _ _ _ _ q => q)))
def strO : D → Option (List D)
  | .str x => some (signsD x)
  | _ => none
theorem mi_str (ha : MP cs W X st r ta a) : MI cs W X st r PT (iStr ta) (a.bind fun x => M.o (strO x)) := fun n Ps Ph k =>
  wj_of (wi_str (ha n Ps _ (wp_mono (wp_bind.mp k) (fun x n1 _ k1 => by
    obtain ⟨ds, e, q⟩ := wp_o.mp k1
    unfold strO at e
    split at e <;> cases e
    exact ⟨_, rfl, n1, rfl, q⟩) fun _ _ _ _ q => q)))

/-! ### targets -/
theorem sg_name {i : Nat} : SG r (gName i) some fun d => r.set i (some d) := fun W Ps m Ph d b e k => by
  cases e
  exact wg_name k
def un2 : D → Option (D × D)
  | .tup [x, y] => some (x, y)
  | _ => none
@[simp] theorem un2_tup (x y : D) : un2 (.tup [x, y]) = some (x, y) := rfl
def un3 : D → Option (D × D × D)
  | .tup [x, y, z] => some (x, y, z)
  | _ => none
@[simp] theorem un3_tup (x y z : D) : un3 (.tup [x, y, z]) = some (x, y, z) := rfl
theorem un2_inv {d : D} {p : D × D} (h : un2 d = some p) : d = .tup [p.1, p.2] := by
  unfold un2 at h
  split at h <;> cases h
  rfl
theorem un3_inv {d : D} {p : D × D × D} (h : un3 d = some p) : d = .tup [p.1, p.2.1, p.2.2] := by
  unfold un3 at h
  split at h <;> cases h
  rfl
theorem sg_pair {i j : Nat} : SG r (gTup KF 2 (gCons (gName i) (gCons (gName j) gNil))) un2 fun p => (r.set i (some p.1)).set j (some p.2) := fun W Ps m Ph d b e k => by
  rw [un2_inv e]
  exact wg_tup rfl (wgs_cons (wg_name (wgs_cons (wg_name (wgs_nil k)))))
theorem sg_trip {i j l : Nat} : SG r (gTup KF 3 (gCons (gName i) (gCons (gName j) (gCons (gName l) gNil)))) un3 fun p => ((r.set i (some p.1)).set j (some p.2.1)).set l (some p.2.2) := fun W Ps m Ph d b e k => by
  rw [un3_inv e]
  exact wg_tup rfl (wgs_cons (wg_name (wgs_cons (wg_name (wgs_cons (wg_name (wgs_nil k)))))))
/-- i, (j, l) -/
def un12 (d : D) : Option (D × D × D) := match un2 d with
  | some p => (match un2 p.2 with | some q => some (p.1, q.1, q.2) | none => none)
  | none => none
@[simp] theorem un12_tup (x y z : D) : un12 (.tup [x, .tup [y, z]]) = some (x, y, z) := rfl
theorem sg_12 {i j l : Nat} : SG r (gTup KF 2 (gCons (gName i) (gCons (gTup KF 2 (gCons (gName j) (gCons (gName l) gNil))) gNil))) un12 fun p => ((r.set i (some p.1)).set j (some p.2.1)).set l (some p.2.2) := fun W Ps m Ph d b e k => by
  unfold un12 at e
  cases h1 : un2 d with
  | none => rw [h1] at e; cases e
  | some p =>
    rw [h1] at e
    cases h2 : un2 p.2 with
    | none => simp [h2] at e
    | some q =>
      simp only [h2] at e
      cases e
      rw [un2_inv h1, un2_inv h2]
      exact wg_tup rfl (wgs_cons (wg_name (wgs_cons (wg_tup rfl (wgs_cons (wg_name (wgs_cons (wg_name (wgs_nil (wgs_nil k))))))))))
end
end Dz
/-! Mx, part B: comprehensions, loops, statements. -/
namespace Dz
open PySem PySem.Spec PyProof.Rows L2

/-! ### over walks that ask P of the store -/
section
variable {W : WX} {Ps : PsiT} {r : Rho} {m : Sto} {Ph : PhiT} {wi : TI} {g : TG} {tt : TT} {te : TE} {vs : List Nat} {P : Sto → Prop} {E : EndsD} {tb : TS}
theorem wt_lcP (ho : GOnly vs g) (h : WJ W Ps P wi r m fun ds m1 => ∀ L, L ∉ dom m1 → ∃ I : Nat → List D → Sto → Prop, I 0 [] m1 ∧ (∀ i acc m', I i acc m' → P ((L, .lst acc) :: m')) ∧
    (∀ (i : Nat) d acc m', ds[i]? = some d → I i acc m' → WG W Ps g d (wipeR r vs) ((L, .lst acc) :: m') fun r2 m2 => WB W Ps tt r2 m2 fun b m3 =>
      (b = true → WT W Ps te r2 m3 fun y m4 => ∃ m5, m4 = (L, .lst acc) :: m5 ∧ acc.length < sizeLine ∧ I (i + 1) (acc ++ [y]) m5) ∧ (b = false → ∃ m5, m3 = (L, .lst acc) :: m5 ∧ I (i + 1) acc m5)) ∧
    (∀ acc m', I ds.length acc m' → Ph (.lst acc) m' ∨ Ph (.ref L) ((L, .lst acc) :: m'))) : WT W Ps (tLc wi g tt te vs) r m Ph := fun s H Q R X K =>
  h s H _ R X fun J H1 ds m1 G h1 f1 s1 J1 g1 => fun L hL => by
    obtain ⟨I, i0, hP, turn, fin⟩ := h1 L (s1.fresh hL)
    obtain ⟨sL, fL⟩ := own_new s1 hL
    have ff := f1.trans fL
    refine ⟨fun i k H' => k = ds.length - i ∧ i ≤ ds.length ∧ ∃ acc m', I i acc m' ∧ StoR ((L, .lst acc) :: m') H' ∧ Fr m ((L, .lst acc) :: m') H H' ∧ G ((L, .lst acc) :: m') H', ⟨_, rfl, Nat.zero_le _, [], m1, i0, sL, ff, J1.mono _ _ _ _ fL sL (hP _ _ _ i0) g1⟩, ?_⟩
    rintro i k H' ⟨rfl, hi, acc, m', p, st', f', g'⟩
    by_cases hlt : i < ds.length
    · refine .inr ⟨J1.go i _ H' g' hlt, fun H2 => ∃ acc2 m2, I (i + 1) acc2 m2 ∧ StoR ((L, .lst acc2) :: m2) H2 ∧ Fr m ((L, .lst acc2) :: m2) H H2 ∧ G ((L, .lst acc2) :: m2) H2, fun H2 ⟨acc2, m2, p2, st2, f2, g2⟩ => ⟨ds.length - (i + 1), by omega, rfl, hlt, acc2, m2, p2, st2, f2, g2⟩, fun x H2 y => ?_⟩
      obtain ⟨ex, q, st2⟩ := J1.yld i _ H' x H2 g' st' y ds[i] (by simp [hlt])
      have fe : Fr ((L, .lst acc) :: m') ((L, .lst acc) :: m') H' H2 := .ext ex
      have fa := f'.trans fe
      have Rw : Rel ((L, .lst acc) :: m') H2 (wipe s vs) (wipeR r vs) := ⟨((fa.rel R st2).sl).wipe vs, st2⟩
      have z := turn i ds[i] acc m' (by simp [hlt]) p x (wipe s vs) H2 (fun s3 H3 => tt s3 H3 fun b H4 => if b = true then te s3 H4 fun y H5 => ∃ acc, H5 L = some (.lst acc) ∧ acc.length < sizeLine ∧ (fun H2 => ∃ acc2 m2, I (i + 1) acc2 m2 ∧ StoR ((L, .lst acc2) :: m2) H2 ∧ Fr m ((L, .lst acc2) :: m2) H H2 ∧ G ((L, .lst acc2) :: m2) H2) (upd H5 L (.lst (acc ++ [y]))) else (fun H2 => ∃ acc2 m2, I (i + 1) acc2 m2 ∧ StoR ((L, .lst acc2) :: m2) H2 ∧ Fr m ((L, .lst acc2) :: m2) H H2 ∧ G ((L, .lst acc2) :: m2) H2) H4) Rw (X.go fa) q fun s3 H3 r3 m3 w3 f3 R3 => ?_
      · have z2 := ho _ _ _ _ z
        rw [show wipe (wipe s vs) vs = wipe s vs from wipe_twice vs vs s fun _ h => h] at z2
        exact z2
      · have fb := fa.trans f3
        refine w3 s3 H3 _ R3 (X.go fb) fun b H4 m4 h4 f4 s4 => ?_
        have fc := fb.trans f4
        have R4 := f4.rel R3 s4
        cases b with
        | true =>
          refine iteT (h4.1 rfl s3 H4 _ R4 (X.go fc) fun y H5 dy m5 h5 f5 r5 s5 => ?_)
          obtain ⟨m6, rfl, hz, p6⟩ := h5
          obtain ⟨xs, e5, n5, t5⟩ := own_head s5
          obtain ⟨s6, f6⟩ := own_push s5 e5 t5 r5
          exact ⟨xs, e5, by rw [t5.len]; exact hz, acc ++ [dy], m6, p6, s6, (fc.trans f5).trans f6, J1.mono _ _ _ _ ((((fe.trans f3).trans f4).trans f5).trans f6) s6 (hP _ _ _ p6) g'⟩
        | false =>
          obtain ⟨m6, rfl, p6⟩ := h4.2 rfl
          exact iteF ⟨acc, m6, p6, s4, fc, J1.mono _ _ _ _ ((fe.trans f3).trans f4) s4 (hP _ _ _ p6) g'⟩
    · have e : i = ds.length := by omega
      subst e
      refine .inl ⟨J1.stop _ H' g', ?_⟩
      obtain ⟨xs, e5, n5, t5⟩ := own_head st'
      rcases fin acc m' p with z | z
      · exact K (.ref L) H' (.lst acc) m' z (f'.trans Fr.drop) (.lst e5 n5 (Fr.drop.reps t5)) st'.drop
      · exact K (.ref L) H' (.ref L) _ z f' (.ref L) st'
theorem ws_forP (h : WJ W Ps P wi r m fun ds m1 => ∃ I : Nat → Rho → Sto → Prop, I 0 r m1 ∧ (∀ i r' m', I i r' m' → P m') ∧
    (∀ (i : Nat) d r' m', ds[i]? = some d → I i r' m' → WG W Ps g d r' m' fun r2 m2 => WS W Ps tb { E with nx := I (i + 1), ct := I (i + 1), bk := E.nx } r2 m2) ∧
    (∀ r' m', I ds.length r' m' → E.nx r' m')) : WS W Ps (tFor wi g tb) E r m := fun s H D R X K =>
  h s H _ R X fun J H1 ds m1 G h1 f1 s1 J1 g1 => by
    obtain ⟨I, i0, hP, turn, fin⟩ := h1
    refine ⟨fun i k s' H' => k = ds.length - i ∧ i ≤ ds.length ∧ ∃ r' m', I i r' m' ∧ Rel m' H' s' r' ∧ Fr m m' H H' ∧ G m' H', ⟨_, rfl, Nat.zero_le _, r, m1, i0, f1.rel R s1, f1, g1⟩, ?_⟩
    rintro i k s' H' ⟨rfl, hi, r', m', p, R', f', g'⟩
    by_cases hlt : i < ds.length
    · refine .inr ⟨J1.go i m' H' g' hlt, fun s2 H2 => ∃ r2 m2, I (i + 1) r2 m2 ∧ Rel m2 H2 s2 r2 ∧ Fr m m2 H H2 ∧ G m2 H2, fun s2 H2 ⟨r2, m2, p2, R2, f2, g2⟩ => ⟨ds.length - (i + 1), by omega, rfl, hlt, r2, m2, p2, R2, f2, g2⟩, fun x H2 y => ?_⟩
      obtain ⟨ex, q, st2⟩ := J1.yld i m' H' x H2 g' R'.st y ds[i] (by simp [hlt])
      have fe : Fr m' m' H' H2 := .ext ex
      have fa := f'.trans fe
      refine turn i ds[i] r' m' (by simp [hlt]) p x s' H2 _ (fe.rel R' st2) (X.go fa) q fun s3 H3 r3 m3 w3 f3 R3 => ?_
      have fb := fa.trans f3
      refine w3 s3 H3 { D with nx := fun s2 H2 => ∃ r2 m2, I (i + 1) r2 m2 ∧ Rel m2 H2 s2 r2 ∧ Fr m m2 H H2 ∧ G m2 H2, ct := fun s2 H2 => ∃ r2 m2, I (i + 1) r2 m2 ∧ Rel m2 H2 s2 r2 ∧ Fr m m2 H H2 ∧ G m2 H2, bk := D.nx } R3 (X.go fb) ⟨?_, K.rt.go fb, K.nx.go fb, ?_⟩
      · exact fun s4 H4 r4 m4 p4 f4 R4 => ⟨r4, m4, p4, R4, fb.trans f4, J1.mono _ _ _ _ ((fe.trans f3).trans f4) R4.st (hP _ _ _ p4) g'⟩
      · exact fun s4 H4 r4 m4 p4 f4 R4 => ⟨r4, m4, p4, R4, fb.trans f4, J1.mono _ _ _ _ ((fe.trans f3).trans f4) R4.st (hP _ _ _ p4) g'⟩
    · have e : i = ds.length := by omega
      subst e
      exact .inl ⟨J1.stop m' H' g', K.nx s' H' r' m' (fin r' m' p) f' R'⟩
theorem ws_weak {t : TS} {m2 : Sto} {r2 : Rho} (w : Weak m r m2 r2) (h : WS W Ps t E r2 m2) : WS W Ps t E r m := fun s H D R X K => h s H D (w.2 H s R) (X.go w.fr) (K.go w.fr)
end

/-! ### comprehensions -/
/-- each item's part, left to right -/
def lcM (f : D → M (Option D)) : List D → M (List D)
  | [] => .pure []
  | d :: ds => (f d).bind fun o => (lcM f ds).bind fun ys => .pure (o.toList ++ ys)
def lcS (ds : List D) (f : D → M (Option D)) : M (List D) := if ds.length ≤ 16000000 then (lcM f ds).noX else .no
@[simp] theorem lcM_nil (f : D → M (Option D)) : lcM f [] = .pure [] := rfl
theorem lcM_cons (f : D → M (Option D)) (d : D) (ds : List D) : lcM f (d :: ds) = (f d).bind fun o => (lcM f ds).bind fun ys => .pure (o.toList ++ ys) := rfl
section
variable {cs : Cs} {W : WX} {X : Option Bx} {st : Nat → Sto} {r : Rho} {P : Sto → Prop} {wi : TI} {g : TG} {tt : TT} {te : TE} {vs : List Nat} {items : M (List D)} {β : Type} {pat : D → Option β} {lay : β → Rho} {tb : β → M Bool} {eb : β → M D}
theorem lc_core {n : Nat} {Ps : PsiT} {Ph : PhiT} (own : Bool) (hi : MI cs W X st r P wi items) (ho : GOnly vs g) (sg : SG (wipeR r vs) g pat lay) (hb : ∀ L acc b, MB cs W none (fun n => (L, .lst acc) :: st n) (lay b) tt (tb b))
    (he : ∀ L acc b, MP cs W none (fun n => (L, .lst acc) :: st n) (lay b) te (eb b)) (hP : ∀ L acc n, P ((L, .lst acc) :: st n)) (hdm : own = true → ∀ n n', dom (st n) = dom (st n'))
    (h : wp (items.bind fun ds => lcS ds fun d => (M.o (pat d)).bind fun b => (tb b).bind fun c => if c = true then (eb b).bind fun y => .pure (some y) else .pure none) n
      (fun ys n' => if own = true then ∀ p, p ∉ dom (st n') → Ph (.ref p) ((p, .lst ys) :: st n') else Ph (.lst ys) (st n')) (XP cs X Ps)) : WT W Ps (tLc wi g tt te vs) r (st n) Ph := by
  refine wt_lcP (P := P) ho ?_
  have z := hi n Ps _ (wp_bind.mp h)
  intro s H R Rl XX kk
  refine z s H R Rl XX fun J H' ds m' G p f' s1 J1 g1 => kk J H' ds m' G ?_ f' s1 J1 g1
  obtain ⟨n1, rfl, q⟩ := p
  intro L hL
  unfold lcS at q
  split at q
  case isFalse => exact q.elim
  rename_i hz
  have q := wp_noX q
  let F : D → M (Option D) := fun d => (M.o (pat d)).bind fun b => (tb b).bind fun c => if c = true then (eb b).bind fun y => .pure (some y) else .pure none
  refine ⟨fun i acc m' => ∃ n2, m' = st n2 ∧ acc.length ≤ i ∧ i ≤ ds.length ∧ wp (lcM F (ds.drop i)) n2 (fun ys n' => if own = true then ∀ p, p ∉ dom (st n') → Ph (.ref p) ((p, .lst (acc ++ ys)) :: st n') else Ph (.lst (acc ++ ys)) (st n')) (fun _ _ _ => False) ∧ (own = true → L ∉ dom m'), ?_, ?_, ?_, ?_⟩
  · exact ⟨n1, rfl, Nat.le_refl _, Nat.zero_le _, q, fun _ => hL⟩
  · rintro i acc m' ⟨n2, rfl, _⟩
    exact hP L acc n2
  · rintro i d acc m' hd ⟨n2, rfl, hl, hi2, w, hL2⟩
    have hlt : i < ds.length := (List.getElem?_eq_some_iff.mp hd).1
    have ed : ds.drop i = d :: ds.drop (i + 1) := by
      rw [List.drop_eq_getElem_cons hlt]
      congr 1
      exact (List.getElem?_eq_some_iff.mp hd).2
    rw [ed, lcM_cons] at w
    have w1 := wp_bind.mp w
    obtain ⟨b, eb', w2⟩ := wp_o.mp (wp_bind.mp w1)
    have w3 := wp_bind.mp w2
    refine sg W Ps _ _ d b eb' ?_
    refine hb L acc b n2 Ps _ (wp_mono w3 (fun c n3 _ w4 => ⟨fun hc => ?_, fun hc => ?_⟩) fun _ _ _ _ q => q)
    · subst hc
      have w5 : wp ((eb b).bind fun y => M.pure (some y)) n3 _ _ := w4
      refine he L acc b n3 Ps _ (wp_mono (wp_bind.mp w5) (fun y n4 _ w6 => ?_) fun _ _ _ _ q => q)
      have w7 := wp_bind.mp (show wp ((lcM F (ds.drop (i + 1))).bind fun ys => M.pure ((some y).toList ++ ys)) n4 _ _ from w6)
      refine ⟨st n4, rfl, by rw [sizeLine_eq]; omega, n4, rfl, by simp; omega, hlt, wp_mono w7 (fun ys n5 _ w8 => ?_) (fun _ _ _ _ q => q), fun e => ?_⟩
      · have w8 := wp_pure.mp w8
        simpa [List.append_assoc] using w8
      · have := hL2 e; rw [hdm e n4 n2]; exact this
    · subst hc
      have w5 : wp (M.pure (none : Option D)) n3 _ _ := w4
      have w7 := wp_bind.mp (show wp ((lcM F (ds.drop (i + 1))).bind fun ys => M.pure ((none : Option D).toList ++ ys)) n3 _ _ from w5)
      refine ⟨st n3, rfl, n3, rfl, by omega, hlt, wp_mono w7 (fun ys n5 _ w8 => ?_) (fun _ _ _ _ q => q), fun e => ?_⟩
      · have w8 := wp_pure.mp w8
        simpa using w8
      · have := hL2 e; rw [hdm e n3 n2]; exact this
  · rintro acc m' ⟨n2, rfl, _, _, w, hL2⟩
    rw [List.drop_length] at w
    have w := wp_pure.mp w
    cases own with
    | true => exact .inr (by simpa using w L (hL2 rfl))
    | false => exact .inl (by simpa using w)
/-- the mirror of a comprehension -/
def lcF {β : Type} (pat : D → Option β) (tb : β → M Bool) (eb : β → M D) (ds : List D) : M (List D) := lcS ds fun d => (M.o (pat d)).bind fun b => (tb b).bind fun c => if c = true then (eb b).bind fun y => .pure (some y) else .pure none
theorem mp_lc (hi : MI cs W X st r P wi items) (ho : GOnly vs g) (sg : SG (wipeR r vs) g pat lay) (hP : ∀ L acc n, P ((L, .lst acc) :: st n)) (hb : ∀ L acc b, MB cs W none (fun n => (L, .lst acc) :: st n) (lay b) tt (tb b))
    (he : ∀ L acc b, MP cs W none (fun n => (L, .lst acc) :: st n) (lay b) te (eb b)) : MP cs W X st r (tLc wi g tt te vs) (items.bind fun ds => (lcF pat tb eb ds).bind fun ys => .pure (.lst ys)) := fun n Ps Ph k =>
  lc_core false hi ho sg hb he hP (fun e => nomatch e) (wp_mono (Q := fun ys n' => Ph (.lst ys) (st n')) (by
    have k' : wp ((items.bind fun ds => lcF pat tb eb ds).bind fun ys => M.pure (D.lst ys)) n (fun d n' => Ph d (st n')) (XP cs X Ps) := by rw [M.bind_assoc]; exact k
    exact wp_mono (wp_bind.mp k') (fun _ _ _ q => q) fun _ _ _ _ q => q) (fun _ _ _ q => q) fun _ _ _ _ q => q)
theorem ml_lc (hi : MI cs W X st r P wi items) (ho : GOnly vs g) (sg : SG (wipeR r vs) g pat lay) (hP : ∀ L acc n, P ((L, .lst acc) :: st n)) (hb : ∀ L acc b, MB cs W none (fun n => (L, .lst acc) :: st n) (lay b) tt (tb b))
    (he : ∀ L acc b, MP cs W none (fun n => (L, .lst acc) :: st n) (lay b) te (eb b)) (hdm : ∀ n n', dom (st n) = dom (st n')) : ML cs W X st r (tLc wi g tt te vs) (items.bind fun ds => lcF pat tb eb ds) := fun n Ps Ph k =>
  lc_core true hi ho sg hb he hP (fun _ => hdm) k
end

/-! ### statements -/
inductive Fl (σ τ : Type) where
  | nx (s : σ)
  | ct (s : τ)
  | bk (s : τ)
  | rt (d : D)
def decN {σ : Type} (lay : σ → Rho) (stl : σ → Nat → Sto) : σ → Nat → EndsD → Prop := fun s n E => E.nx (lay s) (stl s n)
def decT (bs : Nat → Sto) : D → Nat → EndsD → Prop := fun d n E => E.rt d (bs n)
def decL {σ τ : Type} (lay : σ → Rho) (stl : σ → Nat → Sto) (layt : τ → Rho) (stt : τ → Nat → Sto) (bs : Nat → Sto) : Fl σ τ → Nat → EndsD → Prop := fun f n E => match f with
  | .nx s => E.nx (lay s) (stl s n)
  | .ct s => E.ct (layt s) (stt s n)
  | .bk s => E.bk (layt s) (stt s n)
  | .rt d => E.rt d (bs n)
/-- the reading t does what a does; dec: where it ends -/
def SS {γ : Type} (cs : Cs) (W : WX) (X : Option Bx) (st : Nat → Sto) (r : Rho) (t : TS) (a : M γ) (dec : γ → Nat → EndsD → Prop) : Prop := ∀ n Ps E, wp a n (fun g n' => dec g n' E) (XP cs X Ps) → WS W Ps t E r (st n)
section
variable {cs : Cs} {W : WX} {X : Option Bx} {Y : Bx} {st st1 : Nat → Sto} {r r1 : Rho} {t u tb : TS} {te : TE} {a b : M D} {γ σ τ : Type} {dec : γ → Nat → EndsD → Prop} {lay : σ → Rho} {stl : σ → Nat → Sto} {layt : τ → Rho} {stt : τ → Nat → Sto} {bs : Nat → Sto}
theorem ss_end {A : M γ} (h : SS cs W X st r (tSeq t tNext) A dec) : SS cs W X st r t A dec := h
theorem ss_weak {A : M γ} (w : ∀ n, Weak (st n) r (st1 n) r1) (h : SS cs W X st1 r1 t A dec) : SS cs W X st r t A dec := fun n Ps E k => ws_weak (w n) (h n Ps E k)
theorem ss_seq {A : M σ} {F : σ → M γ} (h1 : SS cs W X st r t A (decN lay stl)) (h2 : ∀ s, SS cs W X (stl s) (lay s) u (F s) dec) : SS cs W X st r (tSeq t u) (A.bind F) dec := fun n Ps E k =>
  ws_seq (h1 n Ps _ (wp_mono (wp_bind.mp k) (fun s n' _ q => h2 s n' Ps E q) fun _ _ _ _ q => q))
/-- a then u, where a may leave -/
def flT {σ : Type} (F : σ → M D) : Fl σ Empty → M D
  | .nx s => F s
  | .rt d => .pure d
  | .ct e => nomatch e
  | .bk e => nomatch e
theorem ss_seqT {A : M (Fl σ Empty)} {F : σ → M D} {layt : Empty → Rho} {stt : Empty → Nat → Sto} (h1 : SS cs W X st r t A (decL lay stl layt stt bs)) (h2 : ∀ s, SS cs W X (stl s) (lay s) u (F s) (decT bs)) : SS cs W X st r (tSeq t u) (A.bind (flT F)) (decT bs) := fun n Ps E k =>
  ws_seq (h1 n Ps _ (wp_mono (wp_bind.mp k) (fun s n' _ q => by
    cases s with
    | nx s => exact h2 s n' Ps E q
    | rt d => exact q
    | ct e => cases e
    | bk e => cases e) fun _ _ _ _ q => q))
def flL {σ ρ τ : Type} (F : σ → M (Fl ρ τ)) : Fl σ τ → M (Fl ρ τ)
  | .nx s => F s
  | .rt d => .pure (.rt d)
  | .ct e => .pure (.ct e)
  | .bk e => .pure (.bk e)
theorem ss_seqL {ρ : Type} {layr : ρ → Rho} {str : ρ → Nat → Sto} {A : M (Fl σ τ)} {F : σ → M (Fl ρ τ)} (h1 : SS cs W X st r t A (decL lay stl layt stt bs)) (h2 : ∀ s, SS cs W X (stl s) (lay s) u (F s) (decL layr str layt stt bs)) :
    SS cs W X st r (tSeq t u) (A.bind (flL F)) (decL layr str layt stt bs) := fun n Ps E k =>
  ws_seq (h1 n Ps _ (wp_mono (wp_bind.mp k) (fun s n' _ q => by
    cases s with
    | nx s => exact h2 s n' Ps E q
    | rt d => exact q
    | ct e => exact q
    | bk e => exact q) fun _ _ _ _ q => q))
/-! the ends of a block -/
theorem ws_nextW {Ps : PsiT} {E : EndsD} {m m2 : Sto} {r2 : Rho} (w : Weak m r m2 r2) (k : E.nx r2 m2) : WS W Ps tNext E r m := ws_weak w (ws_next k)
theorem ss_next (s : σ) (w : ∀ n, Weak (st n) r (stl s n) (lay s)) : SS cs W X st r tNext (.pure s) (decN lay stl) := fun n Ps E k => ws_nextW (w n) k
theorem ss_nextL (s : σ) (w : ∀ n, Weak (st n) r (stl s n) (lay s)) : SS cs W X st r tNext (.pure (.nx s)) (decL lay stl layt stt bs) := fun n Ps E k => ws_nextW (w n) k
theorem ss_cont (s : τ) (w : ∀ n, Weak (st n) r (stt s n) (layt s)) : SS cs W X st r tCont (.pure (.ct s)) (decL lay stl layt stt bs) := fun n Ps E k => ws_weak (w n) (ws_cont k)
theorem ss_break (s : τ) (w : ∀ n, Weak (st n) r (stt s n) (layt s)) : SS cs W X st r tBreak (.pure (.bk s)) (decL lay stl layt stt bs) := fun n Ps E k => ws_weak (w n) (ws_break k)
theorem ss_ret (w : ∀ n, Wk (st n) (bs n)) (h : MP cs W X st r te a) : SS cs W X st r (tRet te) a (decT bs) := fun n Ps E k =>
  ws_ret (wt_post (h n Ps _ (wp_mono k (fun d n' _ q => ⟨bs n', w n', q⟩) fun _ _ _ _ q => q)))
theorem ss_retL (w : ∀ n, Wk (st n) (bs n)) (h : MP cs W X st r te a) : SS cs W X st r (tRet te) (a.bind fun d => .pure (.rt d)) (decL lay stl layt stt bs) := fun n Ps E k =>
  ws_ret (wt_post (h n Ps _ (wp_mono (wp_bind.mp k) (fun d n' _ q => ⟨bs n', w n', q⟩) fun _ _ _ _ q => q)))
/-! assignments -/
theorem ss_asg {β : Type} {g : TG} {pat : D → Option β} {lay : β → Rho} (h : MP cs W X st r te a) (sg : SG r g pat lay) : SS cs W X st r (tAsg te g) (a.bind fun d => M.o (pat d)) (decN lay fun _ => st) := fun n Ps E k =>
  ws_asg (h n Ps _ (wp_mono (wp_bind.mp k) (fun d n' _ q => by
    obtain ⟨b, e, q⟩ := wp_o.mp q
    exact sg W Ps _ _ d b e q) fun _ _ _ _ q => q))
theorem ss_set {i : Nat} (h : MP cs W X st r te a) : SS cs W X st r (tAsg te (gName i)) a (decN (fun d => r.set i (some d)) fun _ => st) := fun n Ps E k =>
  ws_asg (h n Ps _ (wp_mono k (fun d n' _ q => wg_name q) fun _ _ _ _ q => q))
/-- x = a new list that may change -/
theorem ss_own {i : Nat} {A : M (List D)} {F : List D → M γ} (h : ML cs W X st r te A) (h2 : ∀ p ds, SS cs W X (fun n => (p, .lst ds) :: st n) (r.set i (some (.ref p))) u (F ds) dec) : SS cs W X st r (tSeq (tAsg te (gName i)) u) (A.bind F) dec := fun n Ps E k =>
  ws_seq (ws_asg (h n Ps _ (wp_mono (wp_bind.mp k) (fun ds n' _ q p hp => wg_name (h2 p ds n' Ps E q)) fun _ _ _ _ q => q)))
theorem ss_ownd {i : Nat} {A : M (List (Key × D))} {F : List (Key × D) → M γ} (h : MD cs W X st r te A) (h2 : ∀ p ds, SS cs W X (fun n => (p, .dct ds) :: st n) (r.set i (some (.ref p))) u (F ds) dec) : SS cs W X st r (tSeq (tAsg te (gName i)) u) (A.bind F) dec := fun n Ps E k =>
  ws_seq (ws_asg (h n Ps _ (wp_mono (wp_bind.mp k) (fun ds n' _ q p hp => wg_name (h2 p ds n' Ps E q)) fun _ _ _ _ q => q)))
/-! a, b = x, y: values and new lists -/
theorem ss_par {i j : Nat} {ta tb : TE} (h1 : MP cs W X st r ta a) (h2 : MP cs W X st r tb b) : SS cs W X st r (tPar i j (tCons ta (tCons tb tNil))) (a.bind fun x => b.bind fun y => .pure (x, y)) (decN (fun p => (r.set i (some p.1)).set j (some p.2)) fun _ => st) := fun n Ps E k =>
  ws_par (wa_cons (h1 n Ps _ (wp_mono (wp_bind.mp k) (fun x n1 _ k1 => wa_cons (h2 n1 Ps _ (wp_mono (wp_bind.mp k1) (fun y n2 _ k2 => wa_nil ⟨x, y, rfl, k2⟩) fun _ _ _ _ q => q))) fun _ _ _ _ q => q)))
theorem ss_parL {i j : Nat} {ta tb : TE} {A : M (List D)} {F : List D → D → M γ} (h1 : ML cs W X st r ta A) (h2 : ∀ p ds, MP cs W X (fun n => (p, .lst ds) :: st n) r tb b) (h3 : ∀ p ds y, SS cs W X (fun n => (p, .lst ds) :: st n) ((r.set i (some (.ref p))).set j (some y)) u (F ds y) dec) :
    SS cs W X st r (tSeq (tPar i j (tCons ta (tCons tb tNil))) u) (A.bind fun x => b.bind fun y => F x y) dec := fun n Ps E k =>
  ws_seq (ws_par (wa_cons (h1 n Ps _ (wp_mono (wp_bind.mp k) (fun x n1 _ k1 p hp => wa_cons (h2 p x n1 Ps _ (wp_mono (wp_bind.mp k1) (fun y n2 _ k2 => wa_nil ⟨_, y, rfl, h3 p x y n2 Ps E k2⟩) fun _ _ _ _ q => q))) fun _ _ _ _ q => q))))
theorem ss_parR {i j : Nat} {ta tb : TE} {B : M (List D)} {F : D → List D → M γ} (h1 : MP cs W X st r ta a) (h2 : ML cs W X st r tb B) (h3 : ∀ x p ds, SS cs W X (fun n => (p, .lst ds) :: st n) ((r.set i (some x)).set j (some (.ref p))) u (F x ds) dec) :
    SS cs W X st r (tSeq (tPar i j (tCons ta (tCons tb tNil))) u) (a.bind fun x => B.bind fun y => F x y) dec := fun n Ps E k =>
  ws_seq (ws_par (wa_cons (h1 n Ps _ (wp_mono (wp_bind.mp k) (fun x n1 _ k1 => wa_cons (h2 n1 Ps _ (wp_mono (wp_bind.mp k1) (fun y n2 _ k2 p hp => wa_nil ⟨_, _, rfl, h3 x p y n2 Ps E k2⟩) fun _ _ _ _ q => q))) fun _ _ _ _ q => q))))
theorem ss_parLL {i j : Nat} {ta tb : TE} {A B : M (List D)} {F : List D → List D → M γ} (h1 : ML cs W X st r ta A) (h2 : ∀ p ds, ML cs W X (fun n => (p, .lst ds) :: st n) r tb B)
    (h3 : ∀ p ds q es, SS cs W X (fun n => (q, .lst es) :: (p, .lst ds) :: st n) ((r.set i (some (.ref p))).set j (some (.ref q))) u (F ds es) dec) :
    SS cs W X st r (tSeq (tPar i j (tCons ta (tCons tb tNil))) u) (A.bind fun x => B.bind fun y => F x y) dec := fun n Ps E k =>
  ws_seq (ws_par (wa_cons (h1 n Ps _ (wp_mono (wp_bind.mp k) (fun x n1 _ k1 p hp => wa_cons (h2 p x n1 Ps _ (wp_mono (wp_bind.mp k1) (fun y n2 _ k2 q hq => wa_nil ⟨_, _, rfl, h3 p x q y n2 Ps E k2⟩) fun _ _ _ _ q => q))) fun _ _ _ _ q => q))))
theorem ss_trip {i j l : Nat} {ta tb tc : TE} {c : M D} (h1 : MP cs W X st r ta a) (h2 : MP cs W X st r tb b) (h3 : MP cs W X st r tc c) : SS cs W X st r (tTriple i j l (tCons ta (tCons tb (tCons tc tNil)))) (a.bind fun x => b.bind fun y => c.bind fun z => .pure (x, y, z))
    (decN (fun p => ((r.set l (some p.2.2)).set j (some p.2.1)).set i (some p.1)) fun _ => st) := fun n Ps E k =>
  ws_triple (wa_cons (h1 n Ps _ (wp_mono (wp_bind.mp k) (fun x n1 _ k1 => wa_cons (h2 n1 Ps _ (wp_mono (wp_bind.mp k1) (fun y n2 _ k2 => wa_cons (h3 n2 Ps _ (wp_mono (wp_bind.mp k2) (fun z n3 _ k3 => wa_nil ⟨x, y, z, rfl, k3⟩) fun _ _ _ _ q => q))) fun _ _ _ _ q => q))) fun _ _ _ _ q => q)))
theorem ss_tripR {i j l : Nat} {ta tb tc : TE} {B : M (List D)} {c : M D} {F : D → D → List D → M γ} (h1 : MP cs W X st r ta a) (h2 : MP cs W X st r tb b) (h3 : ML cs W X st r tc B) (h4 : ∀ x y p ds, SS cs W X (fun n => (p, .lst ds) :: st n) (((r.set l (some (.ref p))).set j (some y)).set i (some x)) u (F x y ds) dec) :
    SS cs W X st r (tSeq (tTriple i j l (tCons ta (tCons tb (tCons tc tNil)))) u) (a.bind fun x => b.bind fun y => B.bind fun z => F x y z) dec := fun n Ps E k =>
  ws_seq (ws_triple (wa_cons (h1 n Ps _ (wp_mono (wp_bind.mp k) (fun x n1 _ k1 => wa_cons (h2 n1 Ps _ (wp_mono (wp_bind.mp k1) (fun y n2 _ k2 => wa_cons (h3 n2 Ps _ (wp_mono (wp_bind.mp k2) (fun z n3 _ k3 p hp => wa_nil ⟨x, y, _, rfl, h4 x y p z n3 Ps E k3⟩) fun _ _ _ _ q => q))) fun _ _ _ _ q => q))) fun _ _ _ _ q => q))))
/-! tests -/
theorem ss_if {tt : TT} {c : M Bool} {A B : M γ} (hc : MB cs W X st r tt c) (h1 : SS cs W X st r t A dec) (h2 : SS cs W X st r u B dec) : SS cs W X st r (tIfS tt t u) (c.bind fun k => if k = true then A else B) dec := fun n Ps E k =>
  ws_if (hc n Ps _ (wp_mono (wp_bind.mp k) (fun x n1 _ k1 => ⟨fun h => by subst h; exact h1 n1 Ps E k1, fun h => by subst h; exact h2 n1 Ps E k1⟩) fun _ _ _ _ q => q))
/-- if c: .. return ..; what follows -/
theorem ss_ifT {tt : TT} {c : M Bool} {A B : M D} (hc : MB cs W X st r tt c) (h1 : SS cs W X st r t A (decT bs)) (h2 : SS cs W X st r u B (decT bs)) : SS cs W X st r (tSeq (tIfS tt t tNext) u) (c.bind fun k => if k = true then A else B) (decT bs) := fun n Ps E k =>
  ws_seq (ws_if (hc n Ps _ (wp_mono (wp_bind.mp k) (fun x n1 _ k1 => ⟨fun h => by subst h; exact h1 n1 Ps _ k1, fun h => by subst h; exact ws_next (h2 n1 Ps E k1)⟩) fun _ _ _ _ q => q)))
def Fl.up {σ τ : Type} : Fl Empty τ → Fl σ τ
  | .nx e => nomatch e
  | .ct s => .ct s
  | .bk s => .bk s
  | .rt d => .rt d
theorem ss_ifL {tt : TT} {c : M Bool} {A : M (Fl Empty τ)} {B : M (Fl σ τ)} {lay0 : Empty → Rho} {st0 : Empty → Nat → Sto} (hc : MB cs W X st r tt c) (h1 : SS cs W X st r t A (decL lay0 st0 layt stt bs)) (h2 : SS cs W X st r u B (decL lay stl layt stt bs)) :
    SS cs W X st r (tSeq (tIfS tt t tNext) u) (c.bind fun k => if k = true then A.bind (fun f => .pure f.up) else B) (decL lay stl layt stt bs) := fun n Ps E k =>
  ws_seq (ws_if (hc n Ps _ (wp_mono (wp_bind.mp k) (fun x n1 _ k1 => ⟨fun h => by
    subst h
    refine h1 n1 Ps _ (wp_mono (wp_bind.mp k1) (fun f n2 _ q => ?_) fun _ _ _ _ q => q)
    cases f with
    | nx e => cases e
    | ct s => exact q
    | bk s => exact q
    | rt d => exact q, fun h => by subst h; exact ws_next (h2 n1 Ps E k1)⟩) fun _ _ _ _ q => q)))
/-! loops -/
def forS {σ : Type} (f : σ → D → M σ) : σ → List D → M σ
  | s, [] => .pure s
  | s, d :: ds => (f s d).bind fun s' => forS f s' ds
def forL {σ : Type} (f : σ → D → M (Fl σ σ)) : σ → List D → M (Fl σ Empty)
  | s, [] => .pure (.nx s)
  | s, d :: ds => (f s d).bind fun
    | .nx s' => forL f s' ds
    | .ct s' => forL f s' ds
    | .bk s' => .pure (.nx s')
    | .rt x => .pure (.rt x)
variable {P : Sto → Prop} {wi : TI} {items : M (List D)} {β : Type} {pat : D → Option β} {layg : σ → β → Rho} {g : TG}
theorem ss_for (lay : σ → Rho) (stl : σ → Nat → Sto) (s0 : σ) (hr : ∀ n, Weak (st n) r (stl s0 n) (lay s0)) (hi : MI cs W X (stl s0) (lay s0) P wi items) (hP : ∀ s n, P (stl s n)) (sg : ∀ s, SG (lay s) g pat (layg s)) {f : σ → β → M σ}
    (hb : ∀ s b, SS cs W X (stl s) (layg s b) tb (f s b) (decN lay stl)) : SS cs W X st r (tFor wi g tb) (items.bind fun ds => forS (fun s d => (M.o (pat d)).bind fun b => f s b) s0 ds) (decN lay stl) := fun n Ps E k => by
  refine ws_weak (hr n) (ws_forP (P := P) ?_)
  have z := hi n Ps _ (wp_bind.mp k)
  intro s H R Rl XX kk
  refine z s H R Rl XX fun J H' ds m' G p f' s1 J1 g1 => kk J H' ds m' G ?_ f' s1 J1 g1
  obtain ⟨n1, rfl, q⟩ := p
  refine ⟨fun i r' m' => ∃ s n2, r' = lay s ∧ m' = stl s n2 ∧ wp (forS (fun s d => (M.o (pat d)).bind fun b => f s b) s (ds.drop i)) n2 (fun s n' => decN lay stl s n' E) (XP cs X Ps), ⟨s0, n1, rfl, rfl, q⟩, ?_, ?_, ?_⟩
  · rintro i r' m' ⟨s, n2, rfl, rfl, _⟩
    exact hP s n2
  · rintro i d r' m' hd ⟨s, n2, rfl, rfl, w⟩
    have hlt : i < ds.length := (List.getElem?_eq_some_iff.mp hd).1
    have ed : ds.drop i = d :: ds.drop (i + 1) := by
      rw [List.drop_eq_getElem_cons hlt]
      congr 1
      exact (List.getElem?_eq_some_iff.mp hd).2
    rw [ed] at w
    have w1 := wp_bind.mp (show wp (((M.o (pat d)).bind fun b => f s b).bind fun s' => forS _ s' _) n2 _ _ from w)
    obtain ⟨b, eb', w2⟩ := wp_o.mp (wp_bind.mp w1)
    exact sg s W Ps _ _ d b eb' (hb s b n2 Ps _ (wp_mono w2 (fun s' n3 _ q => ⟨s', n3, rfl, rfl, q⟩) fun _ _ _ _ q => q))
  · rintro r' m' ⟨s, n2, rfl, rfl, w⟩
    rw [List.drop_length] at w
    exact w
theorem ss_forL (lay : σ → Rho) (stl : σ → Nat → Sto) (s0 : σ) (hr : ∀ n, Weak (st n) r (stl s0 n) (lay s0)) (hi : MI cs W X (stl s0) (lay s0) P wi items) (hP : ∀ s n, P (stl s n)) (sg : ∀ s, SG (lay s) g pat (layg s)) {f : σ → β → M (Fl σ σ)} {layt : τ → Rho} {stt : τ → Nat → Sto} {up : Fl σ Empty → Fl σ τ} (hu : ∀ s, up (.nx s) = .nx s) (hu2 : ∀ s, up (.rt s) = .rt s)
    (hb : ∀ s b, SS cs W X (stl s) (layg s b) tb (f s b) (decL lay stl lay stl bs)) : SS cs W X st r (tFor wi g tb) (items.bind fun ds => (forL (fun s d => (M.o (pat d)).bind fun b => f s b) s0 ds).bind fun f => .pure (up f)) (decL lay stl layt stt bs) := fun n Ps E k => by
  refine ws_weak (hr n) (ws_forP (P := P) ?_)
  have z := hi n Ps _ (wp_bind.mp k)
  intro s H R Rl XX kk
  refine z s H R Rl XX fun J H' ds m' G p f' s1 J1 g1 => kk J H' ds m' G ?_ f' s1 J1 g1
  obtain ⟨n1, rfl, q⟩ := p
  refine ⟨fun i r' m' => ∃ s n2, r' = lay s ∧ m' = stl s n2 ∧ wp (forL (fun s d => (M.o (pat d)).bind fun b => f s b) s (ds.drop i)) n2 (fun s n' => decL lay stl layt stt bs (up s) n' E) (XP cs X Ps), ⟨s0, n1, rfl, rfl, wp_bind.mp q⟩, ?_, ?_, ?_⟩
  · rintro i r' m' ⟨s, n2, rfl, rfl, _⟩
    exact hP s n2
  · rintro i d r' m' hd ⟨s, n2, rfl, rfl, w⟩
    have hlt : i < ds.length := (List.getElem?_eq_some_iff.mp hd).1
    have ed : ds.drop i = d :: ds.drop (i + 1) := by
      rw [List.drop_eq_getElem_cons hlt]
      congr 1
      exact (List.getElem?_eq_some_iff.mp hd).2
    rw [ed] at w
    have w1 := wp_bind.mp (show wp (((M.o (pat d)).bind fun b => f s b).bind fun | .nx s' => forL _ s' _ | .ct s' => forL _ s' _ | .bk s' => .pure (.nx s') | .rt x => .pure (.rt x)) n2 _ _ from w)
    obtain ⟨b, eb', w2⟩ := wp_o.mp (wp_bind.mp w1)
    refine sg s W Ps _ _ d b eb' (hb s b n2 Ps _ (wp_mono w2 (fun s' n3 _ q => ?_) fun _ _ _ _ q => q))
    cases s' with
    | nx s' => exact ⟨s', n3, rfl, rfl, q⟩
    | ct s' => exact ⟨s', n3, rfl, rfl, q⟩
    | bk s' => have q := wp_pure.mp q; rw [hu] at q; exact q
    | rt d => have q := wp_pure.mp q; rw [hu2] at q; exact q
  · rintro r' m' ⟨s, n2, rfl, rfl, w⟩
    rw [List.drop_length] at w
    have q := wp_pure.mp w
    rw [hu] at q
    exact q
theorem least_ex {p : Nat → Prop} {j : Nat} (h : p j) : ∃ i, p i ∧ ∀ k, p k → i ≤ k := by
  induction j using Nat.strongRecOn with
  | _ j ih =>
    by_cases c : ∃ i, i < j ∧ p i
    · obtain ⟨i, hi, q⟩ := c
      exact ih i hi q
    · exact ⟨j, h, fun k q => Nat.le_of_not_lt fun l => c ⟨k, l, q⟩⟩
open Classical in
noncomputable def leastN (p : Nat → Prop) : Nat := if h : ∃ i, p i ∧ ∀ k, p k → i ≤ k then Classical.choose h else 0
theorem leastN_ok {p : Nat → Prop} {j : Nat} (h : p j) : p (leastN p) ∧ ∀ k, p k → leastN p ≤ k := by
  have hx := least_ex h
  unfold leastN
  rw [dif_pos hx]
  exact Classical.choose_spec hx
/-- while: at most so many turns -/
def whileS {σ : Type} (c : σ → M Bool) (f : σ → M σ) : Nat → σ → M σ
  | 0, _ => .no
  | k + 1, s => (c s).bind fun b => if b = true then (f s).bind fun s' => whileS c f k s' else .pure s
theorem ss_while {tt : TT} {c : σ → M Bool} {f : σ → M σ} (fuel : Nat) (lay : σ → Rho) (stl : σ → Nat → Sto) (s0 : σ) (hr : ∀ n, Weak (st n) r (stl s0 n) (lay s0)) (hc : ∀ s, MB cs W X (stl s) (lay s) tt (c s)) (hb : ∀ s, SS cs W X (stl s) (lay s) tb (f s) (decN lay stl)) :
    SS cs W X st r (tWhile tt tb) (whileS c f fuel s0) (decN lay stl) := fun n Ps E k => by
  refine ws_weak (hr n) ?_
  let I : Nat → Rho → Sto → Prop := fun j r' m' => ∃ s n2, r' = lay s ∧ m' = stl s n2 ∧ wp (whileS c f j s) n2 (fun s n' => decN lay stl s n' E) (XP cs X Ps)
  classical
  let mea : Rho → Sto → Nat := fun r' m' => leastN fun j => I j r' m'
  have hm : ∀ j r' m', I j r' m' → mea r' m' ≤ j := fun j r' m' h => (leastN_ok h).2 j h
  refine ws_while (fun r' m' => ∃ j, I j r' m') mea ⟨fuel, s0, n, rfl, rfl, k⟩ fun r' m' hI => ?_
  have hf : I (mea r' m') r' m' := by
    obtain ⟨j, hj⟩ := hI
    exact (leastN_ok (p := fun j => I j r' m') hj).1
  obtain ⟨s, n2, e1, e2, w⟩ := hf
  cases hj : mea r' m' with
  | zero => rw [hj] at w; exact w.elim
  | succ j =>
    rw [hj] at w
    subst e1; subst e2
    refine hc s n2 Ps _ (wp_mono (wp_bind.mp w) (fun b n3 _ w1 => ⟨fun h => ?_, fun h => ?_⟩) fun _ _ _ _ q => q)
    · subst h
      refine hb s n3 Ps _ (wp_mono (wp_bind.mp w1) (fun s' n4 _ w2 => ?_) fun _ _ _ _ q => q)
      have q : I j (lay s') (stl s' n4) := ⟨s', n4, rfl, rfl, w2⟩
      have := hm j _ _ q
      exact ⟨⟨j, q⟩, by omega⟩
    · subst h
      exact w1
end
end Dz
/-! Mx, part C: operators and built-ins as functions; own lists changed; raise, try; whole defs. -/
namespace Dz
open PySem PySem.Spec PyProof.Rows L2

theorem sz16 {n : Nat} (h : n ≤ 16000000) : n ≤ sizeLine := by rw [sizeLine_eq]; omega
theorem rd_lst {m : Sto} {j : D} {ds : List D} (h : RD m j (.lst ds)) : IsL m j ds := by
  rcases h with h | ⟨es, e, h⟩ | ⟨kvs, e, _⟩
  · exact .inl h
  · cases e; exact h
  · cases e
theorem rd_dct {m : Sto} {j : D} {ds : List (Key × D)} (h : RD m j (.dct ds)) : IsDc m j ds := by
  rcases h with h | ⟨es, e, h⟩ | ⟨kvs, e, h⟩
  · exact .inl h
  · cases e
  · cases e; exact h
theorem rd_eq {m : Sto} {j d : D} (h : RD m j d) (h1 : ∀ ds, d ≠ .lst ds) (h2 : ∀ ds, d ≠ .dct ds) : j = d := by
  rcases h with h | ⟨es, e, _⟩ | ⟨kvs, e, _⟩
  · exact h
  · exact absurd e (h1 es)
  · exact absurd e (h2 kvs)
theorem rd_int {m : Sto} {j : D} {i : Int} (h : RD m j (.int i)) : j = .int i := rd_eq h (fun _ z => nomatch z) fun _ z => nomatch z
theorem rd_bl {m : Sto} {j : D} {i : Bool} (h : RD m j (.bl i)) : j = .bl i := rd_eq h (fun _ z => nomatch z) fun _ z => nomatch z
theorem rd_str {m : Sto} {j : D} {i : Str} (h : RD m j (.str i)) : j = .str i := rd_eq h (fun _ z => nomatch z) fun _ z => nomatch z
theorem rd_non {m : Sto} {j : D} (h : RD m j .non) : j = .non := rd_eq h (fun _ z => nomatch z) fun _ z => nomatch z
theorem rd_ty {m : Sto} {j : D} {s : String} (h : RD m j (.ty s)) : j = .ty s := rd_eq h (fun _ z => nomatch z) fun _ z => nomatch z
theorem rd_tup {m : Sto} {j : D} {ds : List D} (h : RD m j (.tup ds)) : j = .tup ds := rd_eq h (fun _ z => nomatch z) fun _ z => nomatch z
/-- the heap's list of a list, own or not -/
theorem rd_lstH {m : Sto} {H : Hp} {v : V} {j : D} {ds : List D} (h : RD m j (.lst ds)) (r : Rep (dom m) H v j) (st : StoR m H) : ∃ a xs, v = .ref a ∧ H a = some (.lst xs) ∧ Reps (dom m) H xs ds := isL_rd (rd_lst h) r st
theorem rd_dp {K : PySem.W.Frag} {m : Sto} {H : Hp} {v : V} {j x : D} {p : PyData} (h : RD m j x) (r : Rep (dom m) H v j) (st : StoR m H) (e : x.py = some p) : Dp K H v p := by
  by_cases hl : ∃ ds, x = .lst ds
  · obtain ⟨ds, rfl⟩ := hl
    obtain ⟨a, xs, rfl, ha, rs⟩ := rd_lstH h r st
    rw [D.py] at e
    cases q : D.pys ds with
    | none => rw [q] at e; cases e
    | some ps => rw [q] at e; cases e; exact .lst (.inl (.inl ha)) (reps_dp rs q)
  · by_cases hd : ∃ ds, x = .dct ds
    · obtain ⟨ds, rfl⟩ := hd
      rw [D.py] at e; cases e
    · cases rd_eq h (fun ds z => hl ⟨ds, z⟩) fun ds z => hd ⟨ds, z⟩
      exact rep_dp r e

/-! ### operators -/
namespace D
def add : D → D → Option D
  | .int i, .int j => some (.int (i + j))
  | .str i, .str j => if i.length + j.length ≤ 16000000 then some (.str (i ++ j)) else none
  | .lst xs, .lst ys => if xs.length + ys.length ≤ 16000000 then some (.lst (xs ++ ys)) else none
  | .tup xs, .tup ys => if xs.length + ys.length ≤ 16000000 then some (.tup (xs ++ ys)) else none
  | _, _ => none
def sub : D → D → Option D
  | .int i, .int j => some (.int (i - j))
  | _, _ => none
def okMul (i j : Int) : Bool := (decide (-(2 ^ 64) < i) && decide (i < 2 ^ 64)) || (decide (-(2 ^ 64) < j) && decide (j < 2 ^ 64))
def mul : D → D → Option D
  | .int i, .int j => if okMul i j = true then some (.int (i * j)) else none
  | .tup xs, .int k => if xs ≠ [] ∧ 2 ≤ k ∧ k ≤ 1000 ∧ xs.length ≤ 1000 then some (.tup (List.replicate k.toNat xs).flatten) else none
  | .lst xs, .int k => if -(2 ^ 63) ≤ k ∧ k < 2 ^ 63 ∧ xs.length * k.toNat ≤ 16000000 then some (.lst (List.replicate k.toNat xs).flatten) else none
  | _, _ => none
def div : D → D → Option D
  | .int i, .int j => if j ≠ 0 ∧ j.natAbs < 1073741824 then some (.int (i.fdiv j)) else none
  | _, _ => none
def mod : D → D → Option D
  | .int i, .int j => if j ≠ 0 then some (.int (i.fmod j)) else none
  | _, _ => none
def pow : D → D → Option D
  | .int i, .int j => if 0 ≤ j ∧ j ≤ 1000000 ∧ i.natAbs < 2 ^ 64 then some (.int (i ^ j.toNat)) else none
  | _, _ => none
def neg : D → Option D
  | .int i => some (.int (-i))
  | _ => none
/-- whole numbers all -/
def nums : List D → Option (List Int)
  | [] => some []
  | .int i :: ds => (nums ds).map (i :: ·)
  | _ :: _ => none
def lt : D → D → Option D
  | .int i, .int j => some (.bl (decide (i < j)))
  | .tup xs, .tup ys => match nums xs, nums ys with
    | some ns, some ms => some (.bl (HT.lexLt ns ms))
    | _, _ => none
  | _, _ => none
def le : D → D → Option D
  | .int i, .int j => some (.bl (decide (i ≤ j)))
  | .tup xs, .tup ys => match nums xs, nums ys with
    | some ns, some ms => some (.bl (leI ns ms))
    | _, _ => none
  | _, _ => none
def gt : D → D → Option D
  | .int i, .int j => some (.bl (decide (j < i)))
  | _, _ => none
def ge : D → D → Option D
  | .int i, .int j => some (.bl (decide (j ≤ i)))
  | _, _ => none
/-- are they equal, and not too deep or long to say -/
def eqv : D → D → Option Bool
  | .int i, .int j => some (i == j)
  | .str i, .str j => some (i == j)
  | .bl i, .bl j => some (i == j)
  | .non, .non => some true
  | x, y => match x.py, y.py with
    | some p, some q => if SeqAt.shaped p = true ∧ SeqAt.shaped q = true then some (PyData.eqv p q) else none
    | _, _ => none
def eq (x y : D) : Option D := (eqv x y).map .bl
def ne (x y : D) : Option D := (eqv x y).map fun b => .bl (!b)
def is : D → D → Option D
  | x, .non => some (.bl x.isNon)
  | _, _ => none
def isnot : D → D → Option D
  | x, .non => some (.bl (!x.isNon))
  | _, _ => none
/-- is x among them -/
def inS (x : D) (ds : List D) : Option Bool := match x.flat, D.flats ds with
  | some v, some vs => some (inV v vs)
  | _, _ => none
def inL (x : D) (ds : List D) : Option Bool := match inS x ds with
  | some b => some b
  | none => match x.py, D.pys ds with
    | some p, some qs => if SeqAt.shaped p = true ∧ SeqAt.shaped (.list qs) = true then some (qs.any fun z => PyData.eqv z p) else none
    | _, _ => none
def has : D → D → Option Bool
  | x, .lst ds => inL x ds
  | x, .tup ds => inS x ds
  | .str s, .str z => match s.cps.toList with
    | [c] => some (decide (c ∈ z.cps.toList))
    | _ => none
  | _, _ => none
def isin (x y : D) : Option D := (has x y).map .bl
def notin (x y : D) : Option D := (has x y).map fun b => .bl (!b)
def ix : D → D → Option D
  | .lst ds, .int i => atI ds i
  | .tup ds, .int i => atI ds i
  | .str z, .int i => if z.length ≤ 16000000 then (atI z.cps.toList i).map fun c => .str ⟨#[c]⟩ else none
  | _, _ => none
def sl : D → Option Int → Option Int → Option D
  | .lst ds, l, u => some (.lst (cutD ds l u))
  | .tup ds, l, u => some (.tup (cutD ds l u))
  | .str z, l, u => if z.length ≤ 16000000 then some (.str (cutS z l u)) else none
  | _, _, _ => none
/-! built-ins -/
def len : List D → Option D
  | [.lst ds] => some (.int (ds.length : Nat))
  | [.tup ds] => some (.int (ds.length : Nat))
  | [.dct ds] => some (.int (ds.length : Nat))
  | [.str z] => if z.length ≤ 16000000 then some (.int (z.length : Nat)) else none
  | _ => none
def tyB (t : Tg) (n : String) : Option Bool := kitB t.nm n
def isi : List D → Option D
  | [x, .ty n] => match x.tg with
    | some t => (tyB t n).map .bl
    | none => none
  | _ => none
def bls : List D → Option (List Bool)
  | [] => some []
  | .bl b :: ds => (bls ds).map (b :: ·)
  | _ :: _ => none
def all : List D → Option D
  | [.lst ds] => (bls ds).map fun bs => .bl (bs.all id)
  | _ => none
def any : List D → Option D
  | [.lst ds] => (bls ds).map fun bs => .bl (bs.any id)
  | _ => none
def sum : List D → Option D
  | [.lst ds] => (nums ds).map fun bs => .int bs.sum
  | _ => none
def toInt : List D → Option D
  | [.int i] => some (.int i)
  | [.str z] => if z.length ≤ 640 then (PySem.intText? z).map .int else none
  | _ => none
def toStr : List D → Option D
  | [.int i] => if i.natAbs.log2 < 1920 then some (.str (Str.ofString (toString i))) else none
  | _ => none
def toTup : List D → Option D
  | [.lst ds] => some (.tup ds)
  | [.tup ds] => some (.tup ds)
  | _ => none
def toLst : List D → Option D
  | [.lst ds] => some (.lst ds)
  | [.tup ds] => some (.lst ds)
  | _ => none
end D
theorem ints_inv : ∀ {ds : List D} {ns : List Int}, D.nums ds = some ns → ds = ns.map D.int
  | [], ns, h => by rw [D.nums] at h; cases h; rfl
  | d :: ds, ns, h => by
    cases d <;> simp [D.nums] at h
    obtain ⟨l, h1, rfl⟩ := h
    rw [ints_inv h1]; rfl
@[simp] theorem ints_map (ns : List Int) : D.nums (ns.map D.int) = some ns := by
  induction ns with
  | nil => rfl
  | cons n ns ih => simp [D.nums, ih]
theorem bls_inv : ∀ {ds : List D} {ns : List Bool}, D.bls ds = some ns → ds = ns.map D.bl
  | [], ns, h => by rw [D.bls] at h; cases h; rfl
  | d :: ds, ns, h => by
    cases d <;> simp [D.bls] at h
    obtain ⟨l, h1, rfl⟩ := h
    rw [bls_inv h1]; rfl
@[simp] theorem bls_map (ns : List Bool) : D.bls (ns.map D.bl) = some ns := by
  induction ns with
  | nil => rfl
  | cons n ns ih => simp [D.bls, ih]
section
variable {K : PySem.W.Frag}
theorem m_add : OpM (rAdd K) D.add := by
  intro x y z jx jy m Ph e hx hy k
  unfold D.add at e
  split at e
  · cases e; cases rd_int hx; cases rd_int hy; exact od_add k
  · split at e <;> cases e
    cases rd_str hx; cases rd_str hy; exact od_adds (sz16 ‹_›) k
  · split at e <;> cases e
    rename_i hz
    exact fun vx vy H Q rx ry st KK => .inr (.inr (.inl (by
      obtain ⟨a, xs, rfl, ha, r1⟩ := rd_lstH hx rx st
      obtain ⟨b, ys, rfl, hb, r2⟩ := rd_lstH hy ry st
      exact ⟨a, b, xs, ys, rfl, rfl, ha, hb, by rw [r1.len, r2.len]; exact sz16 hz, new_lst (reps_app r1 r2) st KK k⟩)))
  · split at e <;> cases e
    cases rd_tup hx; cases rd_tup hy; exact od_addt (sz16 ‹_›) k
  · cases e
theorem m_sub : OpM rSub D.sub := by
  intro x y z jx jy m Ph e hx hy k
  unfold D.sub at e
  split at e <;> cases e
  cases rd_int hx; cases rd_int hy; exact od_sub k
theorem okMul_ok {i j : Int} (h : D.okMul i j = true) : CMul i j := by
  unfold D.okMul at h
  simp at h
  exact h
theorem m_mul : OpM (rMulA K) D.mul := by
  intro x y z jx jy m Ph e hx hy k
  unfold D.mul at e
  split at e
  · split at e <;> cases e
    cases rd_int hx; cases rd_int hy; exact od_mul (okMul_ok ‹_›) k
  · split at e <;> cases e
    rename_i h
    cases rd_tup hx; cases rd_int hy; exact od_rept h.1 h.2.1 h.2.2.1 h.2.2.2 k
  · split at e <;> cases e
    rename_i h
    cases rd_int hy
    exact fun vx vy H Q rx ry st KK => .inr (.inr (.inl (by
      obtain ⟨a, xs, rfl, ha, r1⟩ := rd_lstH hx rx st
      cases ry
      exact ⟨a, _, xs, rfl, rfl, ha, h.1, h.2.1, by rw [r1.len]; exact sz16 h.2.2, new_lst (reps_rep r1 _) st KK k⟩)))
  · cases e
theorem m_div : OpM rDiv D.div := by
  intro x y z jx jy m Ph e hx hy k
  unfold D.div at e
  split at e
  · split at e <;> cases e
    cases rd_int hx; cases rd_int hy; exact od_div ‹_› k
  · cases e
theorem m_mod : OpM rMod D.mod := by
  intro x y z jx jy m Ph e hx hy k
  unfold D.mod at e
  split at e
  · split at e <;> cases e
    cases rd_int hx; cases rd_int hy; exact od_mod ‹_› k
  · cases e
theorem m_pow : OpM rPow D.pow := by
  intro x y z jx jy m Ph e hx hy k
  unfold D.pow at e
  split at e
  · split at e <;> cases e
    cases rd_int hx; cases rd_int hy; exact od_pow ‹_› k
  · cases e
theorem m_neg : UnM (rU fun i => .int (-i)) D.neg := by
  intro x z jx m Ph e hx k
  unfold D.neg at e
  split at e <;> cases e
  cases rd_int hx; exact ud_neg k
theorem od_ltt {m : Sto} {Ph : PhiT} {ns ms : List Int} (k : Ph (.bl (HT.lexLt ns ms)) m) : OpD (rLt K) (.tup (ns.map D.int)) (.tup (ms.map D.int)) m Ph := fun vx vy H Q rx ry st K => .inr (by
  cases rx with
  | tup h1 n1 r1 => cases ry with
    | tup h2 n2 r2 =>
      obtain rfl := reps_ints r1
      obtain rfl := reps_ints r2
      exact ⟨_, _, ns, ms, rfl, rfl, .inl (.inl h1), .inl (.inl h2), K _ H _ m k (Fr.refl m H) (.bl _) st⟩)
theorem m_lt : OpM (rLt K) D.lt := by
  intro x y z jx jy m Ph e hx hy k
  unfold D.lt at e
  split at e
  · cases e; cases rd_int hx; cases rd_int hy; exact od_lt k
  · split at e <;> cases e
    rename_i h1 h2
    cases rd_tup hx; cases rd_tup hy
    rw [ints_inv h1, ints_inv h2]; exact od_ltt k
  · cases e
theorem m_le : OpM (rLe K) D.le := by
  intro x y z jx jy m Ph e hx hy k
  unfold D.le at e
  split at e
  · cases e; cases rd_int hx; cases rd_int hy; exact od_le k
  · split at e <;> cases e
    rename_i h1 h2
    cases rd_tup hx; cases rd_tup hy
    rw [ints_inv h1, ints_inv h2]; exact od_let k
  · cases e
theorem m_gt : OpM rGt D.gt := by
  intro x y z jx jy m Ph e hx hy k
  unfold D.gt at e
  split at e <;> cases e
  cases rd_int hx; cases rd_int hy; exact od_gt k
theorem m_ge : OpM rGe D.ge := by
  intro x y z jx jy m Ph e hx hy k
  unfold D.ge at e
  split at e <;> cases e
  cases rd_int hx; cases rd_int hy; exact od_ge k
theorem eqv_cases {x y : D} {b : Bool} (h : D.eqv x y = some b) : (∃ v w, x.scal = some v ∧ y.scal = some w ∧ scal v w = true ∧ b = decide (v = w)) ∨ ∃ p q, x.py = some p ∧ y.py = some q ∧ SeqAt.shaped p = true ∧ SeqAt.shaped q = true ∧ b = PyData.eqv p q := by
  unfold D.eqv at h
  split at h
  · cases h; exact .inl ⟨_, _, rfl, rfl, rfl, dec_int.symm⟩
  · cases h; exact .inl ⟨_, _, rfl, rfl, rfl, dec_str.symm⟩
  · rename_i i j
    cases h; exact .inl ⟨_, _, rfl, rfl, rfl, by cases i <;> cases j <;> rfl⟩
  · cases h; exact .inl ⟨_, _, rfl, rfl, rfl, rfl⟩
  · split at h
    · rename_i p q hp hq
      split at h <;> cases h
      rename_i hs
      exact .inr ⟨p, q, hp, hq, hs.1, hs.2, rfl⟩
    · cases h
theorem rd_scal {m : Sto} {j x : D} {v : V} (h : RD m j x) (e : x.scal = some v) : j = x := by
  refine rd_eq h (fun ds z => ?_) fun ds z => ?_ <;> subst z <;> simp [D.scal] at e
theorem m_eq : OpM (rEqA K) D.eq := by
  intro x y z jx jy m Ph e hx hy k
  unfold D.eq at e
  cases h : D.eqv x y with
  | none => rw [h] at e; cases e
  | some b =>
    rw [h] at e; cases e
    rcases eqv_cases h with ⟨v, w, h1, h2, h3, rfl⟩ | ⟨p, q, h1, h2, s1, s2, rfl⟩
    · cases rd_scal hx h1; cases rd_scal hy h2
      exact od_eqv h1 h2 h3 k
    · exact fun vx vy H Q rx ry st KK => .inr ⟨p, q, rd_dp hx rx st h1, rd_dp hy ry st h2, s1, s2, KK _ H _ m k (Fr.refl m H) (.bl _) st⟩
theorem m_ne : OpM (rNeA K) D.ne := by
  intro x y z jx jy m Ph e hx hy k
  unfold D.ne at e
  cases h : D.eqv x y with
  | none => rw [h] at e; cases e
  | some b =>
    rw [h] at e; cases e
    rcases eqv_cases h with ⟨v, w, h1, h2, h3, rfl⟩ | ⟨p, q, h1, h2, s1, s2, rfl⟩
    · cases rd_scal hx h1; cases rd_scal hy h2
      exact od_nev h1 h2 h3 k
    · exact fun vx vy H Q rx ry st KK => .inr ⟨p, q, rd_dp hx rx st h1, rd_dp hy ry st h2, s1, s2, KK _ H _ m k (Fr.refl m H) (.bl _) st⟩
theorem rd_isnon {m : Sto} {j x : D} (h : RD m j x) : j.isNon = x.isNon := by
  rcases h with h | ⟨ds, e, h | ⟨_, _, h, _⟩⟩ | ⟨ds, e, h | ⟨_, _, h, _⟩⟩
  · rw [h]
  all_goals (subst e; subst h; rfl)
theorem m_is : OpM rIsN D.is := by
  intro x y z jx jy m Ph e hx hy k
  unfold D.is at e
  split at e <;> cases e
  cases rd_non hy
  rw [← rd_isnon hx] at k
  exact od_is k
theorem m_isnot : OpM rNotN D.isnot := by
  intro x y z jx jy m Ph e hx hy k
  unfold D.isnot at e
  split at e <;> cases e
  cases rd_non hy
  rw [← rd_isnon hx] at k
  exact od_isnot k
theorem rd_flat {m : Sto} {j x : D} {v : V} (h : RD m j x) (e : x.flat = some v) : j = x := by
  refine rd_eq h (fun ds z => ?_) fun ds z => ?_ <;> subst z <;> simp [D.flat] at e
theorem inS_od {x : D} {y jy : D} {ds : List D} {b : Bool} {m : Sto} (h : D.inS x ds = some b) (hy : RD m jy y) (e : y = .tup ds ∨ y = .lst ds) {jx : D} (hx : RD m jx x) {vx vy : V} {H : Hp} {Q : VK} (rx : Rep (dom m) H vx jx) (ry : Rep (dom m) H vy jy) (st : StoR m H) (neg : Bool) (q : Q (.bl (if neg = true then !b else b)) H) : rIn K neg vx vy H Q := by
  unfold D.inS at h
  split at h <;> cases h
  rename_i v vs h1 h2
  cases rd_flat hx h1
  obtain ⟨e1, f1⟩ := rep_flat rx h1
  subst e1
  rcases e with e | e <;> subst e
  · cases rd_tup hy
    cases ry with
    | tup hh n r =>
      obtain ⟨e2, f2⟩ := reps_flat r h2
      subst e2
      exact ⟨_, _, rfl, .inr (.inl (.inl hh)), f1, f2, q⟩
  · obtain ⟨a, xs, rfl, ha, r1⟩ := rd_lstH hy ry st
    obtain ⟨e2, f2⟩ := reps_flat r1 h2
    subst e2
    exact ⟨_, _, rfl, .inl (.inl (.inl ha)), f1, f2, q⟩
theorem m_in : OpM (rInA K) D.isin := by
  intro x y z jx jy m Ph e hx hy k
  unfold D.isin at e
  cases h : D.has x y with
  | none => rw [h] at e; cases e
  | some b =>
    rw [h] at e; cases e
    unfold D.has at h
    split at h
    · unfold D.inL at h
      split at h
      · rename_i b' hs
        cases h
        exact fun vx vy H Q rx ry st KK => .inl (inS_od hs hy (.inr rfl) hx rx ry st false (KK _ H _ m k (Fr.refl m H) (.bl _) st))
      · split at h
        · split at h <;> cases h
          rename_i p qs h1 h2 hs
          refine fun vx vy H Q rx ry st KK => .inr (.inr ⟨p, qs, rd_dp hx rx st h1, ?_, hs.1, hs.2, KK _ H _ m k (Fr.refl m H) (.bl _) st⟩)
          exact rd_dp hy ry st (by rw [D.py, h2]; rfl)
        · cases h
    · exact fun vx vy H Q rx ry st KK => .inl (inS_od h hy (.inl rfl) hx rx ry st false (KK _ H _ m k (Fr.refl m H) (.bl _) st))
    · split at h <;> cases h
      rename_i s zz _ c hc
      cases rd_str hx; cases rd_str hy
      have es : s = ⟨#[c]⟩ := by
        cases s with
        | mk cps =>
          congr 1
          apply Array.ext'
          rw [hc]
      rw [es]
      exact od_insign k
    · cases h
theorem m_notin : OpM (rNiA K) D.notin := by
  intro x y z jx jy m Ph e hx hy k
  unfold D.notin at e
  cases h : D.has x y with
  | none => rw [h] at e; cases e
  | some b =>
    rw [h] at e; cases e
    unfold D.has at h
    split at h
    · unfold D.inL at h
      split at h
      · rename_i b' hs
        cases h
        exact fun vx vy H Q rx ry st KK => .inl (inS_od hs hy (.inr rfl) hx rx ry st true (KK _ H _ m k (Fr.refl m H) (.bl _) st))
      · split at h
        · split at h <;> cases h
          rename_i p qs h1 h2 hs
          refine fun vx vy H Q rx ry st KK => .inr (.inr ⟨p, qs, rd_dp hx rx st h1, ?_, hs.1, hs.2, KK _ H _ m k (Fr.refl m H) (.bl _) st⟩)
          exact rd_dp hy ry st (by rw [D.py, h2]; rfl)
        · cases h
    · exact fun vx vy H Q rx ry st KK => .inl (inS_od h hy (.inl rfl) hx rx ry st true (KK _ H _ m k (Fr.refl m H) (.bl _) st))
    · split at h <;> cases h
      rename_i s zz _ c hc
      cases rd_str hx; cases rd_str hy
      have es : s = ⟨#[c]⟩ := by
        cases s with
        | mk cps =>
          congr 1
          apply Array.ext'
          rw [hc]
      rw [es]
      exact od_nisign k
    · cases h
theorem m_ix : OpM (rIx K) D.ix := by
  intro x y z jx jy m Ph e hx hy k
  unfold D.ix at e
  split at e
  · cases rd_int hy; exact od_ixl (rd_lst hx) e k
  · cases rd_int hy; cases rd_tup hx; exact od_ixt e k
  · split at e
    · rename_i zz i hz
      cases h : atI zz.cps.toList i with
      | none => rw [h] at e; cases e
      | some c => rw [h] at e; cases e; cases rd_int hy; cases rd_str hx; exact od_ixs (sz16 hz) h k
    · cases e
  · cases e
def SlM (o : V → Option Int → Option Int → Hp → VK → Prop) (g : D → Option Int → Option Int → Option D) : Prop := ∀ x l u z jx m Ph, g x l u = some z → RD m jx x → Ph z m → SlD o jx l u m Ph
theorem m_sl : SlM (rSl K) D.sl := by
  intro x l u z jx m Ph e hx k
  unfold D.sl at e
  split at e
  · cases e; exact sd_lst (rd_lst hx) k
  · cases e; cases rd_tup hx; exact sd_tup k
  · split at e <;> cases e
    cases rd_str hx; exact sd_str (sz16 ‹_›) k
  · cases e
theorem rds_one {m : Sto} {js : List D} {d : D} (h : RDs m js [d]) : ∃ j, js = [j] ∧ RD m j d := by
  cases h with
  | cons a b => cases b; exact ⟨_, rfl, a⟩
theorem rds_two {m : Sto} {js : List D} {d e : D} (h : RDs m js [d, e]) : ∃ i j, js = [i, j] ∧ RD m i d ∧ RD m j e := by
  cases h with
  | cons a b =>
    obtain ⟨j, rfl, q⟩ := rds_one b
    exact ⟨_, j, rfl, a, q⟩
theorem c_m_len : CaM (rLenA K) D.len := by
  intro xs z js m Ph e hx k
  unfold D.len at e
  split at e
  · cases e; obtain ⟨j, rfl, h⟩ := rds_one hx; exact cd_len (.inl (rd_lst h)) k
  · cases e; obtain ⟨j, rfl, h⟩ := rds_one hx; cases rd_tup h; exact cd_len (.inr rfl) k
  · cases e
    obtain ⟨j, rfl, h⟩ := rds_one hx
    exact fun vs H Q R st KK => .inr (by
      obtain ⟨v, rfl, r⟩ := reps_one R
      obtain ⟨a, kvs, rfl, ha, rk⟩ := isD_rd (rd_dct h) r st
      refine ⟨a, kvs, rfl, ha, ?_⟩
      rw [rk.len]
      exact KK _ H _ m k (Fr.refl m H) (.int _) st)
  · split at e <;> cases e
    obtain ⟨j, rfl, h⟩ := rds_one hx; cases rd_str h; exact cd_lens (sz16 ‹_›) k
  · cases e
theorem rd_ty2 {m : Sto} {j x : D} {t : Tg} (h : RD m j x) (e : x.tg = some t) : TyD m j t.nm := by
  rcases h with h | ⟨ds, e2, h | ⟨k, a, h, h2⟩⟩ | ⟨ds, e2, h | ⟨k, a, h, h2⟩⟩
  · rw [h]; exact .inl (tg_ty e)
  · rw [h, ← e2]; exact .inl (tg_ty e)
  · subst e2; cases e; exact .inr ⟨k, a, h, .inl ⟨ds, h2, rfl⟩⟩
  · rw [h, ← e2]; exact .inl (tg_ty e)
  · subst e2; cases e; exact .inr ⟨k, a, h, .inr ⟨ds, h2, rfl⟩⟩
theorem c_m_isi : CaM (rIsi K) D.isi := by
  intro xs z js m Ph e hx k
  unfold D.isi at e
  split at e
  · split at e
    · rename_i x n _ t ht
      obtain ⟨i, j, rfl, h1, h2⟩ := rds_two hx
      cases rd_ty h2
      cases hb : D.tyB t n with
      | none => rw [hb] at e; cases e
      | some b => rw [hb] at e; cases e; exact cd_isi (rd_ty2 h1 ht) hb k
    · cases e
  · cases e
@[simp] theorem tyB_int (t : Tg) : D.tyB t "int" = some t.isInt := kb_int t
@[simp] theorem tyB_bool (t : Tg) : D.tyB t "bool" = some t.isBool := kb_bool t
@[simp] theorem tyB_str (t : Tg) : D.tyB t "str" = some t.isStr := kb_str t
@[simp] theorem tyB_tup (t : Tg) : D.tyB t "tuple" = some t.isTup := kb_tup t
@[simp] theorem tyB_lst (t : Tg) : D.tyB t "list" = some t.isLst := kb_lst t
@[simp] theorem tyB_dct (t : Tg) : D.tyB t "dict" = some t.isDct := kb_dct t
theorem c_m_all : CaM (rAll K) D.all := by
  intro xs z js m Ph e hx k
  unfold D.all at e
  split at e
  · rename_i ds
    cases h : D.bls ds with
    | none => rw [h] at e; cases e
    | some bs =>
      rw [h] at e; cases e
      obtain ⟨j, rfl, q⟩ := rds_one hx
      exact cd_all (by rw [← bls_inv h]; exact rd_lst q) k
  · cases e
theorem c_m_any : CaM (rAny K) D.any := by
  intro xs z js m Ph e hx k
  unfold D.any at e
  split at e
  · rename_i ds
    cases h : D.bls ds with
    | none => rw [h] at e; cases e
    | some bs =>
      rw [h] at e; cases e
      obtain ⟨j, rfl, q⟩ := rds_one hx
      exact cd_any (by rw [← bls_inv h]; exact rd_lst q) k
  · cases e
theorem c_m_sum : CaM (rSum K) D.sum := by
  intro xs z js m Ph e hx k
  unfold D.sum at e
  split at e
  · rename_i ds
    cases h : D.nums ds with
    | none => rw [h] at e; cases e
    | some bs =>
      rw [h] at e; cases e
      obtain ⟨j, rfl, q⟩ := rds_one hx
      exact cd_sum (by rw [← ints_inv h]; exact rd_lst q) k
  · cases e
theorem c_m_int : CaM rIntA D.toInt := by
  intro xs z js m Ph e hx k
  unfold D.toInt at e
  split at e
  · cases e; obtain ⟨j, rfl, q⟩ := rds_one hx; cases rd_int q; exact cd_int k
  · split at e
    · rename_i zz hz
      cases h : PySem.intText? zz with
      | none => rw [h] at e; cases e
      | some i => rw [h] at e; cases e; obtain ⟨j, rfl, q⟩ := rds_one hx; cases rd_str q; exact cd_ints h hz k
    · cases e
  · cases e
theorem c_m_str : CaM rStrI D.toStr := by
  intro xs z js m Ph e hx k
  unfold D.toStr at e
  split at e
  · split at e <;> cases e
    obtain ⟨j, rfl, q⟩ := rds_one hx; cases rd_int q; exact cd_str ‹_› k
  · cases e
theorem c_m_tup : CaM (rTupOf K) D.toTup := by
  intro xs z js m Ph e hx k
  unfold D.toTup at e
  split at e <;> cases e
  · obtain ⟨j, rfl, q⟩ := rds_one hx; exact cd_tupl (rd_lst q) k
  · obtain ⟨j, rfl, q⟩ := rds_one hx; cases rd_tup q; exact cd_tupt k
theorem c_m_lst : CaM (rListOf K) D.toLst := by
  intro xs z js m Ph e hx k
  unfold D.toLst at e
  split at e <;> cases e
  · obtain ⟨j, rfl, q⟩ := rds_one hx; exact cd_list (.inl (rd_lst q)) k
  · obtain ⟨j, rfl, q⟩ := rds_one hx; cases rd_tup q; exact cd_list (.inr rfl) k
end
end Dz
/-! Mx, part D: slices, ranges, own lists and dicts changed; raise; whole defs. -/
namespace Dz
open PySem PySem.Spec PyProof.Rows L2

theorem wk0 {m : Sto} : Wk m m := ⟨fun _ h => h, fun _ h => h⟩
theorem wkc {m m' : Sto} {o : Addr × MO} (h : Wk m m') : Wk (o :: m) m' := ⟨fun x hx => List.mem_append_right _ (h.1 x hx), fun H st => h.2 H st.drop⟩
theorem okx {Y : Bx} {st : Nat → Sto} {r : Rho} (w : ∀ n, Wk (st n) (Y.st n)) (e : Y.r = List.replicate r.length none) : OkX Y st r := ⟨w, by rw [e]; exact leR_nones rfl⟩
section
variable {cs : Cs} {W : WX} {X : Option Bx} {Y : Bx} {st : Nat → Sto} {r : Rho} {t ta tb tc td te : TE} {a b c d : M D} {K : PySem.W.Frag} {tas : TA} {as : M (List D)}
theorem mo1_none : MO1 cs W X st r tNoPart (.pure none) := fun n Ps Ph k => wo_none k
def asI : D → Option Int
  | .int i => some i
  | _ => none
@[simp] theorem asI_int (i : Int) : asI (.int i) = some i := rfl
theorem asI_inv {d : D} {i : Int} (h : asI d = some i) : d = .int i := by
  cases d <;> simp [asI] at h
  rw [h]
theorem mo1_some (h : MP cs W X st r te a) : MO1 cs W X st r (tPart te) (a.bind fun x => (M.o (asI x)).bind fun i => .pure (some i)) := fun n Ps Ph k =>
  wo_some (h n Ps _ (wp_mono (wp_bind.mp k) (fun x n1 _ k1 => by
    obtain ⟨i, e, q⟩ := wp_o.mp (wp_bind.mp k1)
    exact ⟨i, asI_inv e, q⟩) fun _ _ _ _ q => q))
theorem mp_sl {tl th : TO} {l u : M (Option Int)} (h : MT cs W X st r te a) (hl : MO1 cs W X st r tl l) (hu : MO1 cs W X st r th u) : MP cs W X st r (tSl (rSl K) te tl th) (a.bind fun x => l.bind fun i => u.bind fun j => M.o (D.sl x i j)) := fun n Ps Ph k =>
  wt_sl (h n Ps _ (wp_mono (wp_bind.mp k) (fun x n1 _ k1 jx hx => hl n1 Ps _ (wp_mono (wp_bind.mp k1) (fun i n2 _ k2 => hu n2 Ps _ (wp_mono (wp_bind.mp k2) (fun j n3 _ k3 => by
    obtain ⟨z, e, q⟩ := wp_o.mp k3
    exact m_sl x i j z jx _ Ph e (hx n3) q) fun _ _ _ _ q => q)) fun _ _ _ _ q => q)) fun _ _ _ _ q => q))
/-! chains: a op1 b op2 c -/
theorem mp_chain {o1 o2 : R2} {g1 g2 : D → D → Option D} (h1 : OpM o1 g1) (h2 : OpM o2 g2) (ha : MP cs W X st r ta a) (hb : MP cs W X st r tb b) (hc : MP cs W X st r tc c) :
    MP cs W X st r (tChain o1 o2 ta tb tc) (a.bind fun x => b.bind fun y => (M.o (g1 x y)).bind fun z => (M.o (asB z)).bind fun k => if k = true then c.bind fun u => M.o (g2 y u) else .pure (.bl false)) := fun n Ps Ph k =>
  wt_chain (ha n Ps _ (wp_mono (wp_bind.mp k) (fun x n1 _ k1 => hb n1 Ps _ (wp_mono (wp_bind.mp k1) (fun y n2 _ k2 => by
    obtain ⟨z, e, k3⟩ := wp_o.mp (wp_bind.mp k2)
    obtain ⟨q, e2, k4⟩ := wp_o.mp (wp_bind.mp k3)
    refine h1 x y z x y _ _ e (.inl rfl) (.inl rfl) ⟨q, asB_inv e2, fun h => ?_, fun h => ?_⟩ <;> subst h
    · exact hc n2 Ps _ (wp_mono (wp_bind.mp k4) (fun u n3 _ k5 => by
        obtain ⟨w, e5, q5⟩ := wp_o.mp k5
        exact h2 y u w y u _ Ph e5 (.inl rfl) (.inl rfl) q5) fun _ _ _ _ q => q)
    · exact k4) fun _ _ _ _ q => q)) fun _ _ _ _ q => q))
/-! list(range(..)) -/
def rgs1 : D → Option (Int × Int)
  | .int j => if 0 ≤ j ∧ j ≤ 16000000 then some (0, j) else none
  | _ => none
def rgs2 : D → D → Option (Int × Int)
  | .int i, .int j => if -(2 ^ 40) ≤ i ∧ i ≤ 2 ^ 40 ∧ -(2 ^ 40) ≤ j ∧ j ≤ 2 ^ 40 ∧ j - i ≤ 16000000 then some (i, j) else none
  | _, _ => none
theorem rgs1_ok {d : D} {p : Int × Int} (h : rgs1 d = some p) : ∃ j : Int, d = .int j ∧ p = (0, j) ∧ RgOk 0 j := by
  unfold rgs1 at h
  split at h
  · split at h <;> cases h
    rename_i hj
    exact ⟨_, rfl, rfl, by unfold RgOk; omega⟩
  · cases h
theorem rgs2_ok {d e : D} {p : Int × Int} (h : rgs2 d e = some p) : ∃ i j : Int, d = .int i ∧ e = .int j ∧ p = (i, j) ∧ RgOk i j := by
  unfold rgs2 at h
  split at h
  · split at h <;> cases h
    exact ⟨_, _, rfl, rfl, rfl, by unfold RgOk; omega⟩
  · cases h
/-- the numbers of a range -/
def rgL (p : Int × Int) : List D := rngD p.1 (p.2 - p.1).toNat
theorem mp_lrg1 (h : MP cs W X st r te a) : MP cs W X st r (tLstRg (tRg1 te)) (a.bind fun x => (M.o (rgs1 x)).bind fun p => .pure (.lst (rgL p))) := fun n Ps Ph k =>
  wt_lrg (wr_1 (h n Ps _ (wp_mono (wp_bind.mp k) (fun x n1 _ k1 => by
    obtain ⟨p, e, q⟩ := wp_o.mp (wp_bind.mp k1)
    obtain ⟨j, e1, rfl, ok⟩ := rgs1_ok e
    exact ⟨j, e1, ok, q⟩) fun _ _ _ _ q => q)))
theorem ml_lrg1 (h : MP cs W X st r te a) : ML cs W X st r (tLstRg (tRg1 te)) (a.bind fun x => (M.o (rgs1 x)).bind fun p => .pure (rgL p)) := fun n Ps Ph k =>
  wt_lrgo (wr_1 (h n Ps _ (wp_mono (wp_bind.mp k) (fun x n1 _ k1 => by
    obtain ⟨p, e, q⟩ := wp_o.mp (wp_bind.mp k1)
    obtain ⟨j, e1, rfl, ok⟩ := rgs1_ok e
    exact ⟨j, e1, ok, q⟩) fun _ _ _ _ q => q)))
theorem mp_lrg2 (h : MP cs W X st r ta a) (h2 : MP cs W X st r tb b) : MP cs W X st r (tLstRg (tRg2 ta tb)) (a.bind fun x => b.bind fun y => (M.o (rgs2 x y)).bind fun p => .pure (.lst (rgL p))) := fun n Ps Ph k =>
  wt_lrg (wr_2 (h n Ps _ (wp_mono (wp_bind.mp k) (fun x n1 _ k1 => h2 n1 Ps _ (wp_mono (wp_bind.mp k1) (fun y n2 _ k2 => by
    obtain ⟨p, e, q⟩ := wp_o.mp (wp_bind.mp k2)
    obtain ⟨i, j, e1, e2, rfl, ok⟩ := rgs2_ok e
    exact ⟨i, j, e1, e2, ok, q⟩) fun _ _ _ _ q => q)) fun _ _ _ _ q => q)))
theorem ml_lrg2 (h : MP cs W X st r ta a) (h2 : MP cs W X st r tb b) : ML cs W X st r (tLstRg (tRg2 ta tb)) (a.bind fun x => b.bind fun y => (M.o (rgs2 x y)).bind fun p => .pure (rgL p)) := fun n Ps Ph k =>
  wt_lrgo (wr_2 (h n Ps _ (wp_mono (wp_bind.mp k) (fun x n1 _ k1 => h2 n1 Ps _ (wp_mono (wp_bind.mp k1) (fun y n2 _ k2 => by
    obtain ⟨p, e, q⟩ := wp_o.mp (wp_bind.mp k2)
    obtain ⟨i, j, e1, e2, rfl, ok⟩ := rgs2_ok e
    exact ⟨i, j, e1, e2, ok, q⟩) fun _ _ _ _ q => q)) fun _ _ _ _ q => q)))
theorem mp_trg1 (h : MP cs W X st r te a) : MP cs W X st r (tTupRg (tRg1 te)) (a.bind fun x => (M.o (rgs1 x)).bind fun p => .pure (.tup (rgL p))) := fun n Ps Ph k =>
  wt_trg (wr_1 (h n Ps _ (wp_mono (wp_bind.mp k) (fun x n1 _ k1 => by
    obtain ⟨p, e, q⟩ := wp_o.mp (wp_bind.mp k1)
    obtain ⟨j, e1, rfl, ok⟩ := rgs1_ok e
    exact ⟨j, e1, ok, q⟩) fun _ _ _ _ q => q)))
theorem mp_trg2 (h : MP cs W X st r ta a) (h2 : MP cs W X st r tb b) : MP cs W X st r (tTupRg (tRg2 ta tb)) (a.bind fun x => b.bind fun y => (M.o (rgs2 x y)).bind fun p => .pure (.tup (rgL p))) := fun n Ps Ph k =>
  wt_trg (wr_2 (h n Ps _ (wp_mono (wp_bind.mp k) (fun x n1 _ k1 => h2 n1 Ps _ (wp_mono (wp_bind.mp k1) (fun y n2 _ k2 => by
    obtain ⟨p, e, q⟩ := wp_o.mp (wp_bind.mp k2)
    obtain ⟨i, j, e1, e2, rfl, ok⟩ := rgs2_ok e
    exact ⟨i, j, e1, e2, ok, q⟩) fun _ _ _ _ q => q)) fun _ _ _ _ q => q)))
/-- list(x), to be changed -/
def toOwn : List D → Option (List D)
  | [.lst ds] => some ds
  | [.tup ds] => some ds
  | _ => none
theorem ml_list (hs : MA cs W X st r tas as) : ML cs W X st r (tCB (rListOf K) tas) (as.bind fun xs => M.o (toOwn xs)) := fun n Ps Ph k =>
  wt_cb (hs n Ps _ (wp_mono (wp_bind.mp k) (fun xs n1 _ k1 js hj => by
    obtain ⟨z, e, q⟩ := wp_o.mp k1
    unfold toOwn at e
    split at e <;> cases e
    · obtain ⟨j, rfl, h⟩ := rds_one (hj n1); exact cd_listo (.inl (rd_lst h)) q
    · obtain ⟨j, rfl, h⟩ := rds_one (hj n1); cases rd_tup h; exact cd_listo (.inr rfl) q) fun _ _ _ _ q => q))
/-- d[k] -/
def keyO : D → Option Key
  | .int i => some (Sum.inl i)
  | .str s => some (Sum.inr s)
  | _ => none
theorem keyO_inv {d : D} {k : Key} (h : keyO d = some k) : d = kD k := by
  cases d <;> simp [keyO] at h <;> subst h <;> rfl
def dgetO : D → D → Option D
  | .dct kvs, y => match keyO y with
    | some k => valD kvs k
    | none => none
  | _, _ => none
theorem mp_dget (ha : MT cs W X st r ta a) (hb : MP cs W X st r tb b) : MP cs W X st r (tDGet ta tb) (a.bind fun x => b.bind fun y => M.o (dgetO x y)) := fun n Ps Ph k =>
  wt_dget (ha n Ps _ (wp_mono (wp_bind.mp k) (fun x n1 _ k1 jx hx => hb n1 Ps _ (wp_mono (wp_bind.mp k1) (fun y n2 _ k2 => by
    obtain ⟨z, e, q⟩ := wp_o.mp k2
    unfold dgetO at e
    split at e
    · split at e
      · rename_i kvs y k hk
        exact ⟨kvs, k, z, rd_dct (hx n2), keyO_inv hk, e, q⟩
      · cases e
    · cases e) fun _ _ _ _ q => q)) fun _ _ _ _ q => q))

/-! ### own lists changed -/
variable {p p2 : Addr} {ds es : List D} {kvs : List (Key × D)} {i i2 j k k2 : Nat} {γ : Type}
def apO (ds : List D) (x : D) : Option (List D) := if ds.length ≤ 16000000 then some (ds ++ [x]) else none
def exO (ds : List D) : D → Option (List D)
  | .lst zs => if ds.length + zs.length ≤ 16000000 then some (ds ++ zs) else none
  | _ => none
def popO (ds : List D) : Option (D × List D) := match ds[ds.length - 1]? with
  | some y => some (y, ds.dropLast)
  | none => none
def popAtO (ds : List D) : D → Option (D × List D)
  | .int i => if -(2 ^ 63) ≤ i ∧ i < 2 ^ 63 then (match seqIndex? i ds.length with
      | some n => (match ds[n]? with | some y => some (y, ds.eraseIdx n) | none => none)
      | none => none) else none
  | _ => none
def setO (ds : List D) : D → D → Option (List D)
  | .int i, x => match ixN ds.length i with
    | some n => some (ds.set n x)
    | none => none
  | _, _ => none
theorem lt16 {n : Nat} (h : n ≤ 16000000) : n < sizeLine := by rw [sizeLine_eq]; omega
theorem ss_append (e : r[i]? = some (some (.ref p))) (k : Nat) (h : ∀ n, (st n)[k]? = some (p, .lst ds)) (ha : MP cs W X st r te a) :
    SS cs W X st r (tDrop (tBM K "list" rAppend (tVar i) (tCons te tNil))) (a.bind fun x => M.o (apO ds x)) (decN (fun _ => r) fun ds' n => (st n).set k (p, .lst ds')) := fun n Ps E q =>
  ws_drop (wt_bm (wt_var e ⟨.inr (.inl ⟨ds, isL_own k (h n), rfl⟩), wa_cons (ha n Ps _ (wp_mono (wp_bind.mp q) (fun x n1 _ q1 => wa_nil (by
    obtain ⟨z, e1, q2⟩ := wp_o.mp q1
    unfold apO at e1
    split at e1 <;> cases e1
    exact md_append k (h n1) (lt16 ‹_›) q2)) fun _ _ _ _ q => q))⟩))
theorem ss_extend (e : r[i]? = some (some (.ref p))) (k : Nat) (h : ∀ n, (st n)[k]? = some (p, .lst ds)) (ha : MP cs W X st r te a) :
    SS cs W X st r (tDrop (tBM K "list" rExtend (tVar i) (tCons te tNil))) (a.bind fun x => M.o (exO ds x)) (decN (fun _ => r) fun ds' n => (st n).set k (p, .lst ds')) := fun n Ps E q =>
  ws_drop (wt_bm (wt_var e ⟨.inr (.inl ⟨ds, isL_own k (h n), rfl⟩), wa_cons (ha n Ps _ (wp_mono (wp_bind.mp q) (fun x n1 _ q1 => wa_nil (by
    obtain ⟨z, e1, q2⟩ := wp_o.mp q1
    unfold exO at e1
    split at e1
    · split at e1 <;> cases e1
      exact md_extend k (h n1) (.inl rfl) (sz16 ‹_›) q2
    · cases e1)) fun _ _ _ _ q => q))⟩))
theorem ss_pop (e : r[i]? = some (some (.ref p))) (k : Nat) (h : ∀ n, (st n)[k]? = some (p, .lst ds)) :
    SS cs W X st r (tAsg (tBM0 K "list" rPop (tVar i)) (gName j)) (M.o (popO ds)) (decN (fun q => r.set j (some q.1)) fun q n => (st n).set k (p, .lst q.2)) := fun n Ps E q =>
  ws_asg (wt_bm0 (wt_var e ⟨.inr (.inl ⟨ds, isL_own k (h n), rfl⟩), by
    obtain ⟨z, e1, q2⟩ := wp_o.mp q
    unfold popO at e1
    split at e1 <;> cases e1
    exact md_pop k (h n) ‹_› (wg_name q2)⟩))
theorem ss_popat (e : r[i]? = some (some (.ref p))) (k : Nat) (h : ∀ n, (st n)[k]? = some (p, .lst ds)) (ha : MP cs W X st r te a) :
    SS cs W X st r (tAsg (tBM K "list" rPopAt (tVar i) (tCons te tNil)) (gName j)) (a.bind fun x => M.o (popAtO ds x)) (decN (fun q => r.set j (some q.1)) fun q n => (st n).set k (p, .lst q.2)) := fun n Ps E q =>
  ws_asg (wt_bm (wt_var e ⟨.inr (.inl ⟨ds, isL_own k (h n), rfl⟩), wa_cons (ha n Ps _ (wp_mono (wp_bind.mp q) (fun x n1 _ q1 => wa_nil (by
    obtain ⟨z, e1, q2⟩ := wp_o.mp q1
    unfold popAtO at e1
    split at e1
    · split at e1
      · split at e1
        · split at e1 <;> cases e1
          rename_i hb _ _ hn _ _ hy
          exact md_popat k (h n1) hb.1 hb.2 hn hy (wg_name q2)
        · cases e1
      · cases e1
    · cases e1)) fun _ _ _ _ q => q))⟩))
/-- x.append(y.pop(e)) -/
theorem ss_appop (e : r[i]? = some (some (.ref p))) (k : Nat) (h : ∀ n, (st n)[k]? = some (p, .lst ds)) (e2 : r[i2]? = some (some (.ref p2))) (k2 : Nat) (h2 : ∀ n, (st n)[k2]? = some (p2, .lst es)) (hk : k2 ≠ k) (ha : MP cs W X st r te a) :
    SS cs W X st r (tDrop (tBM K "list" rAppend (tVar i) (tCons (tBM K "list" rPopAt (tVar i2) (tCons te tNil)) tNil))) (a.bind fun x => (M.o (popAtO es x)).bind fun q => (M.o (apO ds q.1)).bind fun ds' => .pure (ds', q.2)) (decN (fun _ => r) fun q n => ((st n).set k2 (p2, .lst q.2)).set k (p, .lst q.1)) := fun n Ps E q =>
  ws_drop (wt_bm (wt_var e ⟨.inr (.inl ⟨ds, isL_own k (h n), rfl⟩), wa_cons (wt_bm (wt_var e2 ⟨.inr (.inl ⟨es, isL_own k2 (h2 n), rfl⟩), wa_cons (ha n Ps _ (wp_mono (wp_bind.mp q) (fun x n1 _ q1 => wa_nil (by
    obtain ⟨z, e1, q2⟩ := wp_o.mp (wp_bind.mp q1)
    obtain ⟨z2, e3, q3⟩ := wp_o.mp (wp_bind.mp q2)
    unfold apO at e3
    split at e3 <;> cases e3
    rename_i hz
    unfold popAtO at e1
    split at e1
    · split at e1
      · split at e1
        · split at e1 <;> cases e1
          rename_i hb _ _ hn _ _ hy
          refine md_popat k2 (h2 n1) hb.1 hb.2 hn hy (wa_nil (md_append k ?_ (lt16 hz) q3))
          rw [List.getElem?_set_ne hk]
          exact h n1
        · cases e1
      · cases e1
    · cases e1)) fun _ _ _ _ q => q))⟩))⟩))
/-- x[i] = e -/
theorem ss_seti {ti : TE} (e : r[i]? = some (some (.ref p))) (k : Nat) (h : ∀ n, (st n)[k]? = some (p, .lst ds)) (ha : MP cs W X st r te a) (hb : MP cs W X st r ti b) :
    SS cs W X st r (tAsg te (gSub (tVar i) ti rSetL)) (a.bind fun x => b.bind fun y => M.o (setO ds y x)) (decN (fun _ => r) fun ds' n => (st n).set k (p, .lst ds')) := fun n Ps E q =>
  ws_asg (ha n Ps _ (wp_mono (wp_bind.mp q) (fun x n1 _ q1 => wg_subl (wt_var e (hb n1 Ps _ (wp_mono (wp_bind.mp q1) (fun y n2 _ q2 => by
    obtain ⟨z, e1, q3⟩ := wp_o.mp q2
    unfold setO at e1
    split at e1
    · split at e1 <;> cases e1
      exact ⟨k, p, ds, _, _, rfl, rfl, h n2, ‹_›, q3⟩
    · cases e1) fun _ _ _ _ q => q)))) fun _ _ _ _ q => q))
/-- d[k] = v -/
def dputO (kvs : List (Key × D)) (y v : D) : Option (List (Key × D)) := match keyO y with
  | some k => if kvs.length ≤ 16000000 then some (putD kvs k v) else none
  | none => none
theorem ss_dput {ti : TE} (e : r[i]? = some (some (.ref p))) (k : Nat) (h : ∀ n, (st n)[k]? = some (p, .dct kvs)) (ha : MP cs W X st r te a) (hb : MP cs W X st r ti b) :
    SS cs W X st r (sDPut (tVar i) ti te) (a.bind fun x => b.bind fun y => M.o (dputO kvs y x)) (decN (fun _ => r) fun ds' n => (st n).set k (p, .dct ds')) := fun n Ps E q =>
  ws_dput (ha n Ps _ (wp_mono (wp_bind.mp q) (fun x n1 _ q1 => wt_var e (hb n1 Ps _ (wp_mono (wp_bind.mp q1) (fun y n2 _ q2 => by
    obtain ⟨z, e1, q3⟩ := wp_o.mp q2
    unfold dputO at e1
    split at e1
    · split at e1 <;> cases e1
      exact ⟨k, p, kvs, _, rfl, keyO_inv ‹_›, h n2, lt16 ‹_›, q3⟩
    · cases e1) fun _ _ _ _ q => q))) fun _ _ _ _ q => q))
/-- an expression whose value is let go -/
theorem ss_drop (ha : MP cs W X st r te a) : SS cs W X st r (tDrop te) a (decN (fun _ => r) fun _ => st) := fun n Ps E q =>
  ws_drop (ha n Ps _ (wp_mono q (fun x n1 _ q1 => q1) fun _ _ _ _ q => q))
/-- raise C(e) -/
def exO1 (c : Nat) (f : Str) (x : D) {γ : Type} : M γ := .ex c [(f, x)]
theorem ss_raise {c : Nat} {f : Str} {dec : γ → Nat → EndsD → Prop} (ok : OkX Y st r) (ha : MP cs W (some Y) st r te a) :
    SS cs W (some Y) st r (fun _ s H => tMkBad (cs.ad c) f (tCons te tNil) s H fun cls d H' => W cls d s H') (a.bind fun x => .ex c [(f, x)]) dec := fun n Ps E q =>
  ws_raise (wa_cons (ha n Ps _ (wp_mono (wp_bind.mp q) (fun x n1 _ q1 => wa_nil ⟨x, rfl, xp_use ok q1⟩) fun _ _ _ _ q => q)))
end

/-! ### whole defs -/
def a0 (f : M D) : List D → M D
  | [] => f
  | _ => .no
def a1 (f : D → M D) : List D → M D
  | [x] => f x
  | _ => .no
def a2 (f : D → D → M D) : List D → M D
  | [x, y] => f x y
  | _ => .no
def a3 (f : D → D → D → M D) : List D → M D
  | [x, y, z] => f x y z
  | _ => .no
def a4 (f : D → D → D → D → M D) : List D → M D
  | [x, y, z, u] => f x y z u
  | _ => .no
def a5 (f : D → D → D → D → D → M D) : List D → M D
  | [x, y, z, u, v] => f x y z u v
  | _ => .no
@[simp] theorem a0_eq {f : M D} : a0 f [] = f := by rw [show a0 f [] = f from rfl]
@[simp] theorem a1_eq {f : D → M D} {x : D} : a1 f [x] = f x := by rw [show a1 f [x] = f x from rfl]
@[simp] theorem a2_eq {f : D → D → M D} {x y : D} : a2 f [x, y] = f x y := by rw [show a2 f [x, y] = f x y from rfl]
@[simp] theorem a3_eq {f : D → D → D → M D} {x y z : D} : a3 f [x, y, z] = f x y z := by rw [show a3 f [x, y, z] = f x y z from rfl]
@[simp] theorem a4_eq {f : D → D → D → D → M D} {x y z u : D} : a4 f [x, y, z, u] = f x y z u := by rw [show a4 f [x, y, z, u] = f x y z u from rfl]
@[simp] theorem a5_eq {f : D → D → D → D → D → M D} {x y z u v : D} : a5 f [x, y, z, u, v] = f x y z u v := by rw [show a5 f [x, y, z, u, v] = f x y z u v from rfl]
section
variable {cs : Cs} {N : List Str} {t : XK → TS}
theorem xt_weak {W : WX} {m : Sto} {H : Hp} {Pc : PsiC} (x : XT W m H fun cls fs _ m' => Pc cls fs m') : XT W m H fun cls fs r' m' => ∃ m2, Wk m' m2 ∧ Pc cls fs m2 := fun cls d fs s' H' r' m' ⟨m2, w, p⟩ f q R => by
  obtain ⟨dd, xs, e1, e2, e3, e4⟩ := q
  exact x cls d fs s' H' r' m2 p (f.trans w.fr) ⟨dd, xs, e1, fun z => e2 (w.1 _ z), e3, w.fr.repXs e4⟩ (w.fr.rel R (w.2 _ R.st))
/-- what is known of an error that leaves a def -/
abbrev Xf (N : List Str) (bs : Nat → Sto) : Bx := ⟨List.replicate N.length none, bs⟩
theorem runP {f : List D → M D} (h : ∀ E m ds, SS cs (WF E) (some (Xf N fun _ => m)) (fun _ => m) (startR N ds) (t E) (f ds) (decT fun _ => m)) : Runs (SpP cs f) N t := by
  rintro E ds m Ph Pc ⟨n, w⟩ s H De R XX K
  refine h E m ds n (fun cls fs r' m' => ∃ m2, Wk m' m2 ∧ Pc cls fs m2) _ (wp_mono w (fun d n' _ q => ?_) fun c fs n' _ q => ?_) s H De R (xt_weak XX) K
  · exact q
  · exact fun r' m' wk _ => ⟨_, wk, q⟩
theorem sto_perm {m : Sto} {k : Nat} {p q : Addr × MO} (e : m[k]? = some p) : (q :: m.eraseIdx k).Perm (m.set k q) := by
  induction m generalizing k with
  | nil => simp at e
  | cons x m ih =>
    cases k with
    | zero => exact List.Perm.refl _
    | succ k =>
      have := ih (k := k) (by simpa using e)
      show (q :: x :: m.eraseIdx k).Perm (x :: m.set k q)
      exact (List.Perm.swap _ _ _).trans (List.Perm.cons x this)
theorem runG {f : List D → M D} (h : ∀ E a ac ag m xs, SS cs (WF E) (some (Xf N fun n => (a, .gen ac ag n) :: m)) (fun n => (a, .gen ac ag n) :: m) (startR N (.ref a :: xs)) (t E) (f xs) (decT fun n => (a, .gen ac ag n) :: m)) : Runs (SpG cs f) N t := by
  rintro E ds m Ph Pc ⟨a, ac, ag, k, n, xs, rfl, e, w⟩
  have pm : ∀ n', ((a, MO.gen ac ag n') :: m.eraseIdx k).Perm (m.set k (a, .gen ac ag n')) := fun n' => sto_perm e
  have p0 : m.Perm ((a, MO.gen ac ag n) :: m.eraseIdx k) := by
    have := pm n
    rw [set_eq_self e] at this
    exact this.symm
  refine ws_post (ws_weak (weak_wk (wk_perm p0)) ?_)
  intro s H De R XX K
  refine h E a ac ag (m.eraseIdx k) xs n (fun cls fs r' m' => ∃ m2, Wk m' m2 ∧ Pc cls fs m2) _ (wp_mono w (fun d n' _ q => ?_) fun c fs n' _ q => ?_) s H De R (xt_weak XX) K
  · exact ⟨_, wk_perm (pm n'), q⟩
  · exact fun r' m' wk _ => ⟨_, wk.trans (wk_perm (pm n')), q⟩
/-- promises' arities -/
theorem len1 {f : D → M D} : ∀ ds m Ph Pc, SpP cs (a1 f) ds m Ph Pc → ds.length = 1 := fun ds m Ph Pc ⟨n, w⟩ => match ds, w with
  | [_], _ => rfl
  | [], w => w.elim
  | _ :: _ :: _, w => w.elim
theorem len0 {f : M D} : ∀ ds m Ph Pc, SpP cs (a0 f) ds m Ph Pc → ds.length = 0 := fun ds m Ph Pc ⟨n, w⟩ => match ds, w with
  | [], _ => rfl
  | _ :: _, w => w.elim
theorem len2 {f : D → D → M D} : ∀ ds m Ph Pc, SpP cs (a2 f) ds m Ph Pc → ds.length = 2 := fun ds m Ph Pc ⟨n, w⟩ => match ds, w with
  | [_, _], _ => rfl
  | [], w => w.elim
  | [_], w => w.elim
  | _ :: _ :: _ :: _, w => w.elim
theorem len3 {f : D → D → D → M D} : ∀ ds m Ph Pc, SpP cs (a3 f) ds m Ph Pc → ds.length = 3 := fun ds m Ph Pc ⟨n, w⟩ => match ds, w with
  | [_, _, _], _ => rfl
  | [], w => w.elim
  | [_], w => w.elim
  | [_, _], w => w.elim
  | _ :: _ :: _ :: _ :: _, w => w.elim
theorem len4 {f : D → D → D → D → M D} : ∀ ds m Ph Pc, SpP cs (a4 f) ds m Ph Pc → ds.length = 4 := fun ds m Ph Pc ⟨n, w⟩ => match ds, w with
  | [_, _, _, _], _ => rfl
  | [], w => w.elim
  | [_], w => w.elim
  | [_, _], w => w.elim
  | [_, _, _], w => w.elim
  | _ :: _ :: _ :: _ :: _ :: _, w => w.elim
theorem len5 {f : D → D → D → D → D → M D} : ∀ ds m Ph Pc, SpP cs (a5 f) ds m Ph Pc → ds.length = 5 := fun ds m Ph Pc ⟨n, w⟩ => match ds, w with
  | [_, _, _, _, _], _ => rfl
  | [], w => w.elim
  | [_], w => w.elim
  | [_, _], w => w.elim
  | [_, _, _], w => w.elim
  | [_, _, _, _], w => w.elim
  | _ :: _ :: _ :: _ :: _ :: _ :: _, w => w.elim
theorem lenG0 {f : M D} : ∀ ds m Ph Pc, SpG cs (a0 f) ds m Ph Pc → ds.length = 1 := fun ds m Ph Pc ⟨a, ac, ag, k, n, xs, e, _, w⟩ => by
  subst e
  match xs, w with
  | [], _ => rfl
  | _ :: _, w => exact w.elim
theorem lenG1 {f : D → M D} : ∀ ds m Ph Pc, SpG cs (a1 f) ds m Ph Pc → ds.length = 2 := fun ds m Ph Pc ⟨a, ac, ag, k, n, xs, e, _, w⟩ => by
  subst e
  have := len1 (cs := cs) xs m (fun _ _ => True) (fun _ _ _ => True) ⟨n, wp_mono w (fun _ _ _ _ => trivial) fun _ _ _ _ _ => trivial⟩
  simp [this]
theorem lenG2 {f : D → D → M D} : ∀ ds m Ph Pc, SpG cs (a2 f) ds m Ph Pc → ds.length = 3 := fun ds m Ph Pc ⟨a, ac, ag, k, n, xs, e, _, w⟩ => by
  subst e
  have := len2 (cs := cs) xs m (fun _ _ => True) (fun _ _ _ => True) ⟨n, wp_mono w (fun _ _ _ _ => trivial) fun _ _ _ _ _ => trivial⟩
  simp [this]
theorem lenG3 {f : D → D → D → M D} : ∀ ds m Ph Pc, SpG cs (a3 f) ds m Ph Pc → ds.length = 4 := fun ds m Ph Pc ⟨a, ac, ag, k, n, xs, e, _, w⟩ => by
  subst e
  have := len3 (cs := cs) xs m (fun _ _ => True) (fun _ _ _ => True) ⟨n, wp_mono w (fun _ _ _ _ => trivial) fun _ _ _ _ _ => trivial⟩
  simp [this]
theorem lenG4 {f : D → D → D → D → M D} : ∀ ds m Ph Pc, SpG cs (a4 f) ds m Ph Pc → ds.length = 5 := fun ds m Ph Pc ⟨a, ac, ag, k, n, xs, e, _, w⟩ => by
  subst e
  have := len4 (cs := cs) xs m (fun _ _ => True) (fun _ _ _ => True) ⟨n, wp_mono w (fun _ _ _ _ => trivial) fun _ _ _ _ _ => trivial⟩
  simp [this]
end
end Dz
/-! Mx, part E: short words for the printed proofs; the state of draws. -/
namespace Dz
open PySem PySem.Spec PyProof.Rows L2
theorem leN : LeR [] [] := trivial
theorem leK {x : Option D} {xs ys : Rho} (h : LeR xs ys) : LeR (x :: xs) (x :: ys) := ⟨.inr rfl, h⟩
theorem leF {y : Option D} {xs ys : Rho} (h : LeR xs ys) : LeR (none :: xs) (y :: ys) := ⟨.inl rfl, h⟩
theorem weak_drop1 {m : Sto} {r : Rho} {p : Addr × MO} (k : Nat) (e : m[k]? = some p) : Weak m r (m.eraseIdx k) r := weak_drop k (List.getElem?_eq_some_iff.mp e).1
theorem gs3 {i j l : Nat} {vs : List Nat} {K : PySem.W.Frag} (hi : i ∈ vs) (hj : j ∈ vs) (hl : l ∈ vs) : GOnly vs (gTup K 3 (gCons (gName i) (gCons (gName j) (gCons (gName l) gNil)))) := gonly_tup (gsonly_cons hi (gsonly_cons hj (gsonly_cons hl gsonly_nil)))
def upL {σ τ : Type} : Fl σ Empty → Fl σ τ
  | .nx s => .nx s
  | .rt d => .rt d
  | .ct e => nomatch e
  | .bk e => nomatch e
section
variable {cs : Cs} {N : List Str} {t : XK → TS}
theorem ss_no {γ : Type} {W : WX} {X : Option Bx} {st : Nat → Sto} {r : Rho} {tt : TS} {dec : γ → Nat → EndsD → Prop} : SS cs W X st r tt (.no : M γ) dec := fun n Ps E h => h.elim
theorem runP0 {f : M D} (h : ∀ E m, SS cs (WF E) (some (Xf N fun _ => m)) (fun _ => m) (startR N []) (t E) f (decT fun _ => m)) : Runs (SpP cs (a0 f)) N t := runP fun E m ds => match ds with
  | [] => h E m
  | _ :: _ => ss_no
theorem runP1 {f : D → M D} (h : ∀ E m x, SS cs (WF E) (some (Xf N fun _ => m)) (fun _ => m) (startR N [x]) (t E) (f x) (decT fun _ => m)) : Runs (SpP cs (a1 f)) N t := runP fun E m ds => match ds with
  | [x] => h E m x
  | [] => ss_no
  | _ :: _ :: _ => ss_no
theorem runP2 {f : D → D → M D} (h : ∀ E m x y, SS cs (WF E) (some (Xf N fun _ => m)) (fun _ => m) (startR N [x, y]) (t E) (f x y) (decT fun _ => m)) : Runs (SpP cs (a2 f)) N t := runP fun E m ds => match ds with
  | [x, y] => h E m x y
  | [] => ss_no
  | [_] => ss_no
  | _ :: _ :: _ :: _ => ss_no
theorem runP3 {f : D → D → D → M D} (h : ∀ E m x y z, SS cs (WF E) (some (Xf N fun _ => m)) (fun _ => m) (startR N [x, y, z]) (t E) (f x y z) (decT fun _ => m)) : Runs (SpP cs (a3 f)) N t := runP fun E m ds => match ds with
  | [x, y, z] => h E m x y z
  | [] => ss_no
  | [_] => ss_no
  | [_, _] => ss_no
  | _ :: _ :: _ :: _ :: _ => ss_no
theorem runP4 {f : D → D → D → D → M D} (h : ∀ E m x y z u, SS cs (WF E) (some (Xf N fun _ => m)) (fun _ => m) (startR N [x, y, z, u]) (t E) (f x y z u) (decT fun _ => m)) : Runs (SpP cs (a4 f)) N t := runP fun E m ds => match ds with
  | [x, y, z, u] => h E m x y z u
  | [] => ss_no
  | [_] => ss_no
  | [_, _] => ss_no
  | [_, _, _] => ss_no
  | _ :: _ :: _ :: _ :: _ :: _ => ss_no
theorem runP5 {f : D → D → D → D → D → M D} (h : ∀ E m x y z u v, SS cs (WF E) (some (Xf N fun _ => m)) (fun _ => m) (startR N [x, y, z, u, v]) (t E) (f x y z u v) (decT fun _ => m)) : Runs (SpP cs (a5 f)) N t := runP fun E m ds => match ds with
  | [x, y, z, u, v] => h E m x y z u v
  | [] => ss_no
  | [_] => ss_no
  | [_, _] => ss_no
  | [_, _, _] => ss_no
  | [_, _, _, _] => ss_no
  | _ :: _ :: _ :: _ :: _ :: _ :: _ => ss_no
theorem runG0 {f : M D} (h : ∀ E a ac ag m, SS cs (WF E) (some (Xf N fun n => (a, .gen ac ag n) :: m)) (fun n => (a, .gen ac ag n) :: m) (startR N [.ref a]) (t E) f (decT fun n => (a, .gen ac ag n) :: m)) : Runs (SpG cs (a0 f)) N t := runG fun E a ac ag m ds => match ds with
  | [] => h E a ac ag m
  | _ :: _ => ss_no
theorem runG1 {f : D → M D} (h : ∀ E a ac ag m x, SS cs (WF E) (some (Xf N fun n => (a, .gen ac ag n) :: m)) (fun n => (a, .gen ac ag n) :: m) (startR N [.ref a, x]) (t E) (f x) (decT fun n => (a, .gen ac ag n) :: m)) : Runs (SpG cs (a1 f)) N t := runG fun E a ac ag m ds => match ds with
  | [x] => h E a ac ag m x
  | [] => ss_no
  | _ :: _ :: _ => ss_no
theorem runG2 {f : D → D → M D} (h : ∀ E a ac ag m x y, SS cs (WF E) (some (Xf N fun n => (a, .gen ac ag n) :: m)) (fun n => (a, .gen ac ag n) :: m) (startR N [.ref a, x, y]) (t E) (f x y) (decT fun n => (a, .gen ac ag n) :: m)) : Runs (SpG cs (a2 f)) N t := runG fun E a ac ag m ds => match ds with
  | [x, y] => h E a ac ag m x y
  | [] => ss_no
  | [_] => ss_no
  | _ :: _ :: _ :: _ => ss_no
theorem runG3 {f : D → D → D → M D} (h : ∀ E a ac ag m x y z, SS cs (WF E) (some (Xf N fun n => (a, .gen ac ag n) :: m)) (fun n => (a, .gen ac ag n) :: m) (startR N [.ref a, x, y, z]) (t E) (f x y z) (decT fun n => (a, .gen ac ag n) :: m)) : Runs (SpG cs (a3 f)) N t := runG fun E a ac ag m ds => match ds with
  | [x, y, z] => h E a ac ag m x y z
  | [] => ss_no
  | [_] => ss_no
  | [_, _] => ss_no
  | _ :: _ :: _ :: _ :: _ => ss_no
end
theorem wk_new' {a ac ag : Addr} {cs gs : List Int} {m : Sto} (h2 : cs.length = 64) (h3 : ∀ c ∈ cs, 0 ≤ c ∧ c < 2147483647) (h4 : gs.length ≤ 63) : Wk ((ag, .lst (gs.map D.int)) :: (ac, .lst (cs.map D.int)) :: (a, .dct (genK ac ag 0)) :: m) ((a, .gen ac ag 0) :: m) :=
  (wk_perm (m' := (a, .dct (genK ac ag ((0 : Nat) : Int))) :: (ac, .lst (cs.map D.int)) :: (ag, .lst (gs.map D.int)) :: m) (by
    have := (List.reverse_perm [(a, MO.dct (genK ac ag ((0 : Nat) : Int))), (ac, .lst (cs.map D.int)), (ag, .lst (gs.map D.int))]).append_right m
    exact this)).trans (wk_close (m := (a, .gen ac ag 0) :: m) (k := 0) (n := 0) (n' := 0) (sp := 0) rfl (Nat.le_refl 0) h2 h3 h4)
/-- the truth of a value -/
def truO : D → Option Bool
  | .bl b => some b
  | _ => none
/-- the next drawn number -/
def f__law_draw : D → M D
  | .int l => .draw l fun r => .pure (.int r)
  | _ => .no
/-! ### the prelude's promises -/
def sp__law_mixed (cs : Cs) : SpD := fun ds m Ph _ => ∃ c n : Int, ds = [.int c, .int n] ∧ (0 ≤ c ∧ c < 1099511627776 ∧ 0 ≤ n ∧ n < 1099511627776) ∧ ∀ r : Int, 0 ≤ r → r < 2147483648 → Ph (.int r) m
def sp__law_folded (cs : Cs) : SpD := fun ds m Ph _ => ∃ (a : Addr) (ns : List Int), ds = [.scr cs.K a ns] ∧ ns.length ≤ 63 ∧ ∀ (l : Addr) (cl : List Int), l ∉ dom m → cl.length = 64 → (∀ c ∈ cl, 0 ≤ c ∧ c < 2147483647) → Ph (.ref l) ((l, .lst (cl.map D.int)) :: m)
/-- a number below limit; the state's spot goes on by one -/
def sp__law_draw (cs : Cs) : SpD := fun ds m Ph _ => ∃ (a ac ag : Addr) (k n : Nat) (limit : Int), ds = [.ref a, .int limit] ∧ m[k]? = some (a, .gen ac ag n) ∧ 0 < limit ∧ limit < 1000000 ∧ n < 1000000000 ∧ ∀ r : Int, 0 ≤ r → r < limit → Ph (.int r) (m.set k (a, .gen ac ag (n + 1)))
def sp__law_begun (cs : Cs) : SpD := fun ds m Ph _ => ∃ (a : Addr) (ns : List Int), ds = [.scr cs.K a ns] ∧ ns.length ≤ 63 ∧ ∀ (g ac ag : Addr), Ph (.ref g) ((g, .gen ac ag 0) :: m)
theorem imp__law_draw {cs : Cs} : ImpG cs (sp__law_draw cs) (a1 f__law_draw) := by
  rintro ds m Ph Pc ⟨a, ac, ag, k, n, xs, rfl, e, w⟩
  match xs, w with
  | [.int l], w =>
    obtain ⟨h1, h2, h3, h4⟩ := w
    exact ⟨a, ac, ag, k, n, l, rfl, e, h1, h2, h3, fun r hr0 hr1 => h4 r hr0 hr1⟩
  | [], w => exact w.elim
  | .non :: [], w => exact w.elim
  | .bl _ :: [], w => exact w.elim
  | .str _ :: [], w => exact w.elim
  | .tup _ :: [], w => exact w.elim
  | .lst _ :: [], w => exact w.elim
  | .dct _ :: [], w => exact w.elim
  | .ref _ :: [], w => exact w.elim
  | .ty _ :: [], w => exact w.elim
  | .exc _ _ _ :: [], w => exact w.elim
  | .scr _ _ _ :: [], w => exact w.elim
  | .clo _ _ :: [], w => exact w.elim
  | _ :: _ :: _, w => exact w.elim
end Dz
/-! Mx, part F: comprehensions of two fors, {} as a value, try, lambdas. -/
namespace Dz
open PySem PySem.Spec PyProof.Rows L2 LamX
section
variable {W : WX} {Ps : PsiT} {r : Rho} {m : Sto} {Ph : PhiT} {wi wi1 : TI} {g g1 : TG} {tt tt1 : TT} {te : TE} {vs vs1 : List Nat}
theorem wt_lc2P (ho : GOnly vs g) (ho1 : GOnly vs1 g1) (h : WJ W Ps PT wi r m fun ds m1 => ∀ L, L ∉ dom m1 → ∃ I : Nat → List D → Sto → Prop, I 0 [] m1 ∧
    (∀ (i : Nat) d acc m', ds[i]? = some d → I i acc m' → WG W Ps g d (wipeR r vs) ((L, .lst acc) :: m') fun r2 m2 => WB W Ps tt r2 m2 fun b m3 =>
      (b = true → WJ W Ps PT wi1 r2 m3 fun es m4 => ∃ I1 : Nat → List D → Sto → Prop, (∃ a5 m5, m4 = (L, .lst a5) :: m5 ∧ I1 0 a5 m5) ∧
        (∀ (j : Nat) e acc m', es[j]? = some e → I1 j acc m' → TurnD W Ps g1 tt1 te vs1 r2 L e acc m' (I1 (j + 1))) ∧ (∀ acc m', I1 es.length acc m' → I (i + 1) acc m')) ∧
      (b = false → ∃ m5, m3 = (L, .lst acc) :: m5 ∧ I (i + 1) acc m5)) ∧
    (∀ acc m', I ds.length acc m' → Ph (.lst acc) m' ∨ Ph (.ref L) ((L, .lst acc) :: m'))) : WT W Ps (tLc2 wi g tt wi1 g1 tt1 te vs vs1) r m Ph := fun s H Q R X K =>
  h s H _ R X fun J H1 ds m1 G h1 f1 s1 J1 g1' => fun L hL => by
    obtain ⟨I, i0, turn, fin⟩ := h1 L (s1.fresh hL)
    obtain ⟨sL, fL⟩ := own_new s1 hL
    have ff := f1.trans fL
    let Out : Nat → Hp → Prop := fun i H' => ∃ acc m', I i acc m' ∧ StoR ((L, .lst acc) :: m') H' ∧ Fr m ((L, .lst acc) :: m') H H' ∧ G ((L, .lst acc) :: m') H'
    refine ⟨fun i k H' => k = ds.length - i ∧ i ≤ ds.length ∧ Out i H', ⟨_, rfl, Nat.zero_le _, [], m1, i0, sL, ff, J1.mono _ _ _ _ fL sL trivial g1'⟩, ?_⟩
    rintro i k H' ⟨rfl, hi, acc, m', p, st', f', g'⟩
    by_cases hlt : i < ds.length
    · refine .inr ⟨J1.go i _ H' g' hlt, Out (i + 1), fun H2 o => ⟨ds.length - (i + 1), by omega, rfl, hlt, o⟩, fun x H2 y => ?_⟩
      obtain ⟨ex, q, st2⟩ := J1.yld i _ H' x H2 g' st' y ds[i] (by simp [hlt])
      have fe : Fr ((L, .lst acc) :: m') ((L, .lst acc) :: m') H' H2 := .ext ex
      have fa := f'.trans fe
      have Rw : Rel ((L, .lst acc) :: m') H2 (wipe s vs) (wipeR r vs) := ⟨((fa.rel R st2).sl).wipe vs, st2⟩
      have z := turn i ds[i] acc m' (by simp [hlt]) p x (wipe s vs) H2 (fun s3 H3 => tt s3 H3 fun b H4 => if b = true then wi1 s3 H4 fun J2 H5 => ∃ W1 : Nat → Nat → Hp → Prop, (∃ m, W1 0 m H5) ∧ ∀ j k H, W1 j k H →
        (J2.stop j H ∧ Out (i + 1) H) ∨ (J2.go j H ∧ ∃ Nx1 : Hp → Prop, (∀ H', Nx1 H' → ∃ k', k' < k ∧ W1 (j + 1) k' H') ∧ ∀ x H', J2.yld j H x H' → g1 x (wipe s3 vs1) H' fun s4 H5 => wipe s4 vs1 = wipe s3 vs1 ∧ tt1 s4 H5 fun b H6 =>
          if b = true then te s4 H6 fun y H7 => ∃ acc, H7 L = some (.lst acc) ∧ acc.length < sizeLine ∧ Nx1 (upd H7 L (.lst (acc ++ [y]))) else Nx1 H6) else Out (i + 1) H4) Rw (X.go fa) q fun s3 H3 r3 m3 w3 f3 R3 => ?_
      · have z2 := ho _ _ _ _ z
        rw [show wipe (wipe s vs) vs = wipe s vs from wipe_twice vs vs s fun _ h => h] at z2
        exact z2
      · have fb := fa.trans f3
        refine w3 s3 H3 _ R3 (X.go fb) fun b H4 m4 h4 f4 s4 => ?_
        have fc := fb.trans f4
        have R4 := f4.rel R3 s4
        have gc := J1.mono _ _ _ _ ((fe.trans f3).trans f4) s4 trivial g'
        cases b with
        | false =>
          obtain ⟨m6, rfl, p6⟩ := h4.2 rfl
          exact iteF ⟨acc, m6, p6, s4, fc, gc⟩
        | true =>
          refine iteT (h4.1 rfl s3 H4 _ R4 (X.go fc) fun J2 H5 es m5 G2 h5 f5 s5 J3 g5 => ?_)
          obtain ⟨I1, ⟨a5, m6, rfl, p5⟩, turn1, fin1⟩ := h5
          have fd := fc.trans f5
          have gd := J1.mono _ _ _ _ f5 s5 trivial gc
          refine ⟨fun j k H' => k = es.length - j ∧ j ≤ es.length ∧ ∃ acc m', I1 j acc m' ∧ StoR ((L, .lst acc) :: m') H' ∧ Fr m4 ((L, .lst acc) :: m') H4 H' ∧ G ((L, .lst acc) :: m') H' ∧ G2 ((L, .lst acc) :: m') H', ⟨_, rfl, Nat.zero_le _, a5, m6, p5, s5, f5, gd, g5⟩, ?_⟩
          rintro j k H6 ⟨rfl, hj, acc6, m7, p7, st7, f7, g7, g8⟩
          by_cases hl : j < es.length
          · refine .inr ⟨J3.go j _ H6 g8 hl, fun H' => ∃ acc m', I1 (j + 1) acc m' ∧ StoR ((L, .lst acc) :: m') H' ∧ Fr m4 ((L, .lst acc) :: m') H4 H' ∧ G ((L, .lst acc) :: m') H' ∧ G2 ((L, .lst acc) :: m') H', fun H2 o => ⟨es.length - (j + 1), by omega, rfl, hl, o⟩, fun x2 H7 y2 => ?_⟩
            obtain ⟨ex2, q2, st8⟩ := J3.yld j _ H6 x2 H7 g8 st7 y2 es[j] (by simp [hl])
            have fe2 : Fr ((L, .lst acc6) :: m7) ((L, .lst acc6) :: m7) H6 H7 := .ext ex2
            have fa2 := f7.trans fe2
            have Rw2 : Rel ((L, .lst acc6) :: m7) H7 (wipe s3 vs1) (wipeR r3 vs1) := ⟨((fa2.rel R4 st8).sl).wipe vs1, st8⟩
            have z := turn1 j es[j] acc6 m7 (by simp [hl]) p7 x2 (wipe s3 vs1) H7 (fun s4 H5 => tt1 s4 H5 fun b H6 => if b = true then te s4 H6 fun y H7 => ∃ acc, H7 L = some (.lst acc) ∧ acc.length < sizeLine ∧ (fun H' => ∃ acc m', I1 (j + 1) acc m' ∧ StoR ((L, .lst acc) :: m') H' ∧ Fr m4 ((L, .lst acc) :: m') H4 H' ∧ G ((L, .lst acc) :: m') H' ∧ G2 ((L, .lst acc) :: m') H') (upd H7 L (.lst (acc ++ [y]))) else (fun H' => ∃ acc m', I1 (j + 1) acc m' ∧ StoR ((L, .lst acc) :: m') H' ∧ Fr m4 ((L, .lst acc) :: m') H4 H' ∧ G ((L, .lst acc) :: m') H' ∧ G2 ((L, .lst acc) :: m') H') H6) Rw2 (X.go (fc.trans fa2)) q2 fun s8 H8 r8 m8 w8 f8 R8 => ?_
            · have z2 := ho1 _ _ _ _ z
              rw [show wipe (wipe s3 vs1) vs1 = wipe s3 vs1 from wipe_twice vs1 vs1 s3 fun _ h => h] at z2
              exact z2
            · have fb2 := fa2.trans f8
              refine w8 s8 H8 _ R8 (X.go (fc.trans fb2)) fun b H9 m9 h9 f9 s9 => ?_
              have fc2 := fb2.trans f9
              have R9 := f9.rel R8 s9
              have gc2 := J1.mono _ _ _ _ ((fe2.trans f8).trans f9) s9 trivial g7
              have gc3 := J3.mono _ _ _ _ ((fe2.trans f8).trans f9) s9 trivial g8
              cases b with
              | true =>
                refine iteT (h9.1 rfl s8 H9 _ R9 (X.go (fc.trans fc2)) fun y H10 dy m10 h10 f10 r10 s10 => ?_)
                obtain ⟨m11, rfl, hz, p11⟩ := h10
                obtain ⟨xs, e5, n5, t5⟩ := own_head s10
                obtain ⟨s6, f6⟩ := own_push s10 e5 t5 r10
                exact ⟨xs, e5, by rw [t5.len]; exact hz, acc6 ++ [dy], m11, p11, s6, (fc2.trans f10).trans f6, J1.mono _ _ _ _ (f10.trans f6) s6 trivial gc2, J3.mono _ _ _ _ (f10.trans f6) s6 trivial gc3⟩
              | false =>
                obtain ⟨m11, rfl, p11⟩ := h9.2 rfl
                exact iteF ⟨acc6, m11, p11, s9, fc2, gc2, gc3⟩
          · have e : j = es.length := by omega
            subst e
            exact .inl ⟨J3.stop _ H6 g8, acc6, m7, fin1 _ _ p7, st7, fc.trans f7, g7⟩
    · have e : i = ds.length := by omega
      subst e
      refine .inl ⟨J1.stop _ H' g', ?_⟩
      obtain ⟨xs, e5, n5, t5⟩ := own_head st'
      rcases fin acc m' p with z | z
      · exact K (.ref L) H' (.lst acc) m' z (f'.trans Fr.drop) (.lst e5 n5 (Fr.drop.reps t5)) st'.drop
      · exact K (.ref L) H' (.ref L) _ z f' (.ref L) st'
end
/-- [.. for .. for ..], each at most 4000 turns -/
def lc2I {β γ : Type} (pat1 : D → Option γ) (tb1 : γ → M Bool) (eb : γ → M D) (es : List D) : M (List D) := if es.length ≤ 4000 then lcM (fun d => (M.o (pat1 d)).bind fun b => (tb1 b).bind fun c => if c = true then (eb b).bind fun y => .pure (some y) else .pure none) es else .no
def lc2M {β : Type} (pat : D → Option β) (tb : β → M Bool) (inner : β → M (List D)) : List D → M (List D)
  | [] => .pure []
  | d :: ds => (M.o (pat d)).bind fun b => (tb b).bind fun c => (if c = true then inner b else .pure []).bind fun ys => (lc2M pat tb inner ds).bind fun zs => .pure (ys ++ zs)
def lc2F {β γ : Type} (pat : D → Option β) (tb : β → M Bool) (it1 : β → M (List D)) (pat1 : D → Option γ) (tb1 : β → γ → M Bool) (eb : β → γ → M D) (ds : List D) : M (List D) :=
  if ds.length ≤ 4000 then (lc2M pat tb (fun b => (it1 b).bind fun es => lc2I (β := β) pat1 (tb1 b) (eb b) es) ds).noX else .no
section
variable {cs : Cs} {W : WX} {X : Option Bx} {st : Nat → Sto} {r : Rho} {wi wi1 : TI} {g g1 : TG} {tt tt1 : TT} {te : TE} {vs vs1 : List Nat} {items : M (List D)} {β γ : Type} {pat : D → Option β} {lay : β → Rho} {tb : β → M Bool}
  {pat1 : D → Option γ} {lay1 : β → γ → Rho} {it1 : β → M (List D)} {tb1 : β → γ → M Bool} {eb : β → γ → M D}
theorem drop_at {α : Type} {ds : List α} {i : Nat} {d : α} (h : ds[i]? = some d) : i < ds.length ∧ ds.drop i = d :: ds.drop (i + 1) := by
  have hlt : i < ds.length := (List.getElem?_eq_some_iff.mp h).1
  refine ⟨hlt, ?_⟩
  rw [List.drop_eq_getElem_cons hlt]
  congr 1
  exact (List.getElem?_eq_some_iff.mp h).2
theorem mp_lc2 (hi : MI cs W X st r PT wi items) (ho : GOnly vs g) (sg : SG (wipeR r vs) g pat lay) (hb : ∀ L acc b, MB cs W none (fun n => (L, .lst acc) :: st n) (lay b) tt (tb b))
    (hi1 : ∀ L acc b, MI cs W none (fun n => (L, .lst acc) :: st n) (lay b) PT wi1 (it1 b)) (ho1 : GOnly vs1 g1) (sg1 : ∀ b, SG (wipeR (lay b) vs1) g1 pat1 (lay1 b))
    (hb1 : ∀ L acc b c, MB cs W none (fun n => (L, .lst acc) :: st n) (lay1 b c) tt1 (tb1 b c)) (he : ∀ L acc b c, MP cs W none (fun n => (L, .lst acc) :: st n) (lay1 b c) te (eb b c)) :
    MP cs W X st r (tLc2 wi g tt wi1 g1 tt1 te vs vs1) (items.bind fun ds => (lc2F pat tb it1 pat1 tb1 eb ds).bind fun ys => .pure (.lst ys)) := fun n Ps Ph h => by
  refine wt_lc2P ho ho1 ?_
  have z := hi n Ps _ (wp_bind.mp h)
  intro s H R Rl XX kk
  refine z s H R Rl XX fun J H' ds m' G p f' s1 J1 g1 => kk J H' ds m' G ?_ f' s1 J1 g1
  obtain ⟨n1, rfl, q⟩ := p
  intro L hL
  have q := wp_bind.mp q
  unfold lc2F at q
  split at q
  case isFalse => exact q.elim
  rename_i hz
  have q := wp_noX q
  let IN : β → M (List D) := fun b => (it1 b).bind fun es => lc2I (β := β) pat1 (tb1 b) (eb b) es
  refine ⟨fun i acc m' => ∃ n2, m' = st n2 ∧ acc.length ≤ i * 4000 ∧ i ≤ ds.length ∧ wp (lc2M pat tb IN (ds.drop i)) n2 (fun ys n' => Ph (.lst (acc ++ ys)) (st n')) (fun _ _ _ => False), ?_, ?_, ?_⟩
  · exact ⟨n1, rfl, Nat.zero_le _, Nat.zero_le _, wp_mono q (fun ys n' _ q => q) fun _ _ _ _ q => q⟩
  · rintro i d acc m' hd ⟨n2, rfl, hl, hi2, w⟩
    obtain ⟨hlt, ed⟩ := drop_at hd
    rw [ed] at w
    obtain ⟨b, eb', w2⟩ := wp_o.mp (wp_bind.mp w)
    refine sg W Ps _ _ d b eb' ?_
    refine hb L acc b n2 Ps _ (wp_mono (wp_bind.mp w2) (fun c n3 _ w4 => ⟨fun hc => ?_, fun hc => ?_⟩) fun _ _ _ _ q => q)
    · subst hc
      have w5 := wp_bind.mp (wp_bind.mp (show wp ((IN b).bind fun ys => (lc2M pat tb IN (ds.drop (i + 1))).bind fun zs => .pure (ys ++ zs)) n3 _ _ from w4))
      have z1 := hi1 L acc b n3 Ps _ w5
      intro s H R Rl XX kk
      refine z1 s H R Rl XX fun J H' es m' G p f' s1 J1 g1 => kk J H' es m' G ?_ f' s1 J1 g1
      obtain ⟨n4, rfl, w6⟩ := p
      unfold lc2I at w6
      split at w6
      case isFalse => exact w6.elim
      rename_i hz1
      let F : D → M (Option D) := fun d => (M.o (pat1 d)).bind fun x => (tb1 b x).bind fun c => if c = true then (eb b x).bind fun y => .pure (some y) else .pure none
      refine ⟨fun j a2 m' => ∃ n5, m' = st n5 ∧ a2.length ≤ i * 4000 + j ∧ j ≤ es.length ∧ wp (lcM F (es.drop j)) n5 (fun ys n' => wp (lc2M pat tb IN (ds.drop (i + 1))) n' (fun zs n'' => Ph (.lst (a2 ++ ys ++ zs)) (st n'')) (fun _ _ _ => False)) (fun _ _ _ => False), ?_, ?_, ?_⟩
      · refine ⟨acc, st n4, rfl, n4, rfl, by omega, Nat.zero_le _, wp_mono w6 (fun ys n' _ w7 => ?_) fun _ _ _ _ q => q⟩
        exact wp_mono (wp_bind.mp w7) (fun zs n'' _ w8 => by have w8 := wp_pure.mp w8; simpa [List.append_assoc] using w8) fun _ _ _ _ q => q
      · rintro j e a2 m' he' ⟨n5, rfl, hl2, hj, w7⟩
        obtain ⟨hlt1, ed1⟩ := drop_at he'
        rw [ed1, lcM_cons] at w7
        have w8 := wp_bind.mp w7
        obtain ⟨c, ec, w9⟩ := wp_o.mp (wp_bind.mp w8)
        have w10 := wp_bind.mp w9
        refine sg1 b W Ps _ _ e c ec ?_
        refine hb1 L a2 b c n5 Ps _ (wp_mono w10 (fun k n6 _ w11 => ⟨fun hc => ?_, fun hc => ?_⟩) fun _ _ _ _ q => q)
        · subst hc
          have w12 : wp ((eb b c).bind fun y => M.pure (some y)) n6 _ _ := w11
          refine he L a2 b c n6 Ps _ (wp_mono (wp_bind.mp w12) (fun y n7 _ w13 => ?_) fun _ _ _ _ q => q)
          have w14 := wp_bind.mp (show wp ((lcM F (es.drop (j + 1))).bind fun ys => M.pure ((some y).toList ++ ys)) n7 _ _ from w13)
          refine ⟨st n7, rfl, by rw [sizeLine_eq]; omega, n7, rfl, by simp; omega, hlt1, wp_mono w14 (fun ys n8 _ w15 => ?_) (fun _ _ _ _ q => q)⟩
          have w15 := wp_pure.mp w15
          simpa [List.append_assoc] using w15
        · subst hc
          have w12 : wp (M.pure (none : Option D)) n6 _ _ := w11
          have w14 := wp_bind.mp (show wp ((lcM F (es.drop (j + 1))).bind fun ys => M.pure ((none : Option D).toList ++ ys)) n6 _ _ from w12)
          refine ⟨st n6, rfl, n6, rfl, by omega, hlt1, wp_mono w14 (fun ys n8 _ w15 => ?_) (fun _ _ _ _ q => q)⟩
          have w15 := wp_pure.mp w15
          simpa using w15
      · rintro a2 m' ⟨n5, rfl, hl2, _, w7⟩
        rw [List.drop_length] at w7
        have w7 := wp_pure.mp w7
        exact ⟨n5, rfl, by omega, hlt, wp_mono w7 (fun zs n'' _ w8 => by simpa using w8) fun _ _ _ _ q => q⟩
    · subst hc
      have w5 := wp_bind.mp (show wp ((lc2M pat tb IN (ds.drop (i + 1))).bind fun zs => .pure ([] ++ zs)) n3 _ _ from w4)
      exact ⟨st n3, rfl, n3, rfl, by omega, hlt, wp_mono w5 (fun zs n'' _ w8 => by have w8 := wp_pure.mp w8; simpa using w8) fun _ _ _ _ q => q⟩
  · rintro acc m' ⟨n2, rfl, _, _, w⟩
    rw [List.drop_length] at w
    have w := wp_pure.mp w
    exact .inl (by simpa using w)
/-- {} as a value -/
theorem mp_dnew : MP cs W X st r tDNewK (.pure (.dct [])) := fun n Ps Ph k s H Q R XX K => fun p hp =>
  K (.ref p) _ (.dct []) _ k (Fr.new hp) (.dct upd_same (R.st.fresh hp) .nil) (R.st.new hp)
theorem md_dnew : MD cs W X st r tDNewK (.pure []) := fun n Ps Ph k s H Q R XX K => fun p hp => by
  have st' := R.st
  have f : Fr (st n) ((p, .dct []) :: st n) H (upd H p (.dK [])) := ⟨(Fr.new (m := st n) hp).keep, fun a ha => by
    rw [dom_consd] at ha
    rcases List.mem_cons.mp ha with e | e
    · exact .inr (no_at (by rw [e]; exact hp))
    · exact .inl e⟩
  have s2 := st'.new (o := .dK []) hp
  refine K (.ref p) _ (.ref p) _ (k p (st'.fresh hp)) f (.ref p) ⟨by rw [dom_consd]; exact List.nodup_cons.mpr ⟨st'.fresh hp, st'.nd⟩, fun q hq => ?_⟩
  rcases List.mem_cons.mp hq with e | e
  · subst e
    exact ⟨[], upd_same, .nil⟩
  · exact MoR.keep f.keep f.notin (fun a o _ h => by rw [upd_ne (ne_of_none h hp)]; exact h) (st'.at_ q e)
end

/-! ### calls with keywords -/
/-- the arguments by place: us, then those of n keywords in the order is -/
def gk {α : Type} (n : Nat) (is : List Nat) (us ws : List α) : List α := if ws.length = n then us ++ permL is ws else []
theorem gk_vals {n : Nat} {is : List Nat} {vs zs : List V} {us ws : List Value} (a : Vals vs us) (b : Vals zs ws) : Vals (gk n is vs zs) (gk n is us ws) := by
  unfold gk
  rw [b.length]
  split
  · exact a.append (vals_perm b is)
  · exact .nil
theorem gk_reps {n : Nat} {is : List Nat} {M : List Addr} {H : Hp} {vs zs : List V} {ds es : List D} (a : Reps M H vs ds) (b : Reps M H zs es) : Reps M H (gk n is vs zs) (gk n is ds es) := by
  unfold gk
  rw [b.len]
  split
  · exact reps_app a (reps_perm b is)
  · exact .nil
theorem gk_inv {α : Type} {n tot : Nat} {is : List Nat} {us ws : List α} (hp : ∀ ws : List α, ws.length = n → (permL is ws).length = n) (h0 : tot ≠ 0) (h : (gk n is us ws).length = tot) : ws.length = n ∧ us.length + n = tot := by
  unfold gk at h
  split at h
  · rename_i e
    rw [List.length_append, hp ws e] at h
    exact ⟨e, h⟩
  · exact absurd h.symm h0
abbrev BdG (K : PySem.W.Frag) (fd : FuncData) (ps ks : List Str) (n : Nat) (is : List Nat) : Prop := KBinds K fd ps ks (gk n is) (gk n is)
section
variable {X : Cx} {k n : Nat} {f : Addr} {fd : FuncData} {ps ks : List Str} {is : List Nat} {sp : SpD} {W : WX} {x : Str} {p pos : Pos} {e : Expr} {es : List Expr} {kws : List Keyword} {t tk' : TA}
theorem pe_Dg0 (F : GF X.prog X.w X.K X.mg X.base x ps k sp f fd) (hr : Room k X.A) (hb : BdG X.K fd ps ks n is) (tk : Takes X W) (kw : PK X kws tk') (hg : Gl X x := by rfl) (all : (backToKw pos (keywordEach kws X.env)).all (·.1.isSome) = true := by rfl) (hks : (backToKw pos (keywordEach kws X.env)).filterMap (·.1) = ks := by rfl)
    (hdb : (x == ("__debug__" : Str)) = false := by decide) (hpl : ((backTo pos (starEach [] X.env)).any (·.1) || (backToKw pos (keywordEach kws X.env)).any (·.1.isNone)) = false := by rfl) :
    PE X (.Call (.Name x p) [] kws pos) (tCallGK (lift sp) (gk n is) (WE W) tNil tk') := pe_callGK0 F.ok hr hg F.gm F.kp hb (fun s => passAt tk s) kw all hks hdb hpl
theorem pe_Dg (F : GF X.prog X.w X.K X.mg X.base x ps k sp f fd) (hr : Room k X.A) (hb : BdG X.K fd ps ks n is) (tk : Takes X W) (ha : PA X (e :: es) t) (kw : PK X kws tk') (hg : Gl X x := by rfl) (all : (backToKw pos (keywordEach kws X.env)).all (·.1.isSome) = true := by rfl) (hks : (backToKw pos (keywordEach kws X.env)).filterMap (·.1) = ks := by rfl)
    (hdb : (x == ("__debug__" : Str)) = false := by decide) (he : starEach (e :: es) X.env = (false, eval e X.env) :: starEach es X.env := by rfl)
    (hpl : ((backTo pos (starEach (e :: es) X.env)).any (·.1) || (backToKw pos (keywordEach kws X.env)).any (·.1.isNone)) = false := by rfl) :
    PE X (.Call (.Name x p) (e :: es) kws pos) (tCallGK (lift sp) (gk n is) (WE W) t tk') := pe_callGK F.ok hr hg F.gm F.kp hb (fun s => passAt tk s) ha kw all hks hdb he hpl
end
section
variable {cs : Cs} {W : WX} {Y : Bx} {st : Nat → Sto} {r : Rho} {sp : SpD} {f : List D → M D} {tas tks : TA} {as ks : M (List D)} {q : Nat} {is : List Nat}
theorem mp_callq (i : ImpP cs sp f) (ok : OkX Y st r) (hc : ∀ n n', st n = st n') (hs : MPA cs W (some Y) st r tas as) (hk : MPA cs W (some Y) st r tks ks) :
    MP cs W (some Y) st r (tCallGK (lift sp) (gk q is) (WE W) tas tks) (as.bind fun xs => ks.bind fun ys => f (gk q is xs ys)) := fun n Ps Ph k =>
  wt_callk (gD := gk q is) (fun a b => gk_reps a b) (hs n Ps _ (wp_mono (wp_bind.mp k) (fun xs n1 _ k1 => hk n1 Ps _ (wp_mono (wp_bind.mp k1) (fun ys n2 _ k2 => i _ _ _ _ ⟨n2, wp_mono k2 (fun d n' _ q => by rw [hc n2 n']; exact q) fun c fs n' _ q => by rw [hc n2 n']; exact xp_use ok q⟩) fun _ _ _ _ q => q)) fun _ _ _ _ q => q))
theorem mp_callqn (i : ImpP cs sp f) (ok : OkX Y st r) (hs : MPA cs W (some Y) st r tas as) (hk : MPA cs W (some Y) st r tks ks) :
    MP cs W (some Y) st r (tCallGK (lift sp) (gk q is) (WE W) tas tks) (as.bind fun xs => ks.bind fun ys => (f (gk q is xs ys)).nd) := fun n Ps Ph k =>
  wt_callk (gD := gk q is) (fun a b => gk_reps a b) (hs n Ps _ (wp_mono (wp_bind.mp k) (fun xs n1 _ k1 => hk n1 Ps _ (wp_mono (wp_bind.mp k1) (fun ys n2 _ k2 => i _ _ _ _ ⟨n2, wp_mono (wp_nd n2 k2) (fun d n' _ q => q) fun c fs n' _ q => xp_use ok q⟩) fun _ _ _ _ q => q)) fun _ _ _ _ q => q))
end

/-! ### try -/
/-- the clause that an error meets -/
def pickM {σ : Type} (c : Nat) (fs : List (Str × D)) : List (Nat × (List (Str × D) → M σ)) → M σ
  | [] => .ex c fs
  | h :: l => if subE c h.1 = true then (h.2 fs).noX else pickM c fs l
def M.tr {σ : Type} (cl : List Nat) (hs : List (Nat × (List (Str × D) → M σ))) : M σ → M σ
  | .pure a => .pure a
  | .draw l k => .draw l fun r => (k r).tr cl hs
  | .ex c fs => if c ∈ cl then pickM c fs hs else .no
  | .no => .no
section
variable {cs : Cs} {W : WX} {X : Option Bx} {Y : Bx} {st : Nat → Sto} {r : Rho} {σ : Type}
theorem wp_tr {cl : List Nat} {hs : List (Nat × (List (Str × D) → M σ))} {a : M σ} {n : Nat} {Q : σ → Nat → Prop} {XX : Nat → List (Str × D) → Nat → Prop} (h : wp (a.tr cl hs) n Q XX) : wp a n Q fun c fs n' => c ∈ cl ∧ wp (pickM c fs hs) n' Q XX := by
  induction a generalizing n with
  | pure a => exact h
  | draw l k ih => exact ⟨h.1, h.2.1, h.2.2.1, fun r h0 h1 => ih r (h.2.2.2 r h0 h1)⟩
  | ex c fs =>
    unfold M.tr at h
    split at h
    · exact ⟨by assumption, h⟩
    · exact h.elim
  | no => exact h
/-- the clauses: each one's suite does what its part says -/
inductive Hds (cs : Cs) (st : Nat → Sto) (rx : Rho) (lay : σ → Rho) (stl : σ → Nat → Sto) : List HCl → List (Nat × (List (Str × D) → M σ)) → Prop
  | nil : Hds cs st rx lay stl [] []
  | named {C i : Nat} {ts : Addr → Value → Option Addr → TS} {h : List (Str × D) → M σ} {l : List HCl} {hs : List (Nat × (List (Str × D) → M σ))} (hC : C ∈ cs.cl)
      (su : ∀ c, c ∈ cs.cl → subE c C = true → ∀ a dd fs, SS cs W0 none st (rx.set i (some (.exc a dd fs))) (ts a (.ref (cs.ad c)) (some dd)) (h fs) (decN (fun s => (lay s).set i none) stl)) (hl : ∀ s, (lay s).set i none = lay s) (t : Hds cs st rx lay stl l hs) :
      Hds cs st rx lay stl ((.ref (cs.ad C), some i, ts) :: l) ((C, h) :: hs)
  | bare {C : Nat} {ts : Addr → Value → Option Addr → TS} {h : List (Str × D) → M σ} {l : List HCl} {hs : List (Nat × (List (Str × D) → M σ))} (hC : C ∈ cs.cl)
      (su : ∀ c, c ∈ cs.cl → subE c C = true → ∀ a dd fs, SS cs W0 none st rx (ts a (.ref (cs.ad c)) (some dd)) (h fs) (decN lay stl)) (t : Hds cs st rx lay stl l hs) :
      Hds cs st rx lay stl ((.ref (cs.ad C), none, ts) :: l) ((C, h) :: hs)
theorem leR_set : ∀ {r2 r : Rho} {i : Nat} {e : Option D}, LeR r2 r → LeR (r2.set i e) (r.set i e)
  | [], [], _, _, _ => trivial
  | x :: xs, y :: ys, 0, e, h => ⟨.inr rfl, h.2⟩
  | x :: xs, y :: ys, i + 1, e, h => ⟨h.1, leR_set h.2⟩
  | [], _ :: _, _, _, h => h.elim
  | _ :: _, [], _, _, h => h.elim
theorem ss_try {cl : List Nat} (hcl : cs.cl = cl) {tb : WX → TS} {A : M σ} {lay : σ → Rho} {stl : σ → Nat → Sto} {l : List HCl} {hs : List (Nat × (List (Str × D) → M σ))} (rx : Rho) (ok : OkX Y st rx) (hh : Hds cs st rx lay stl l hs)
    (hb : ∀ W', SS cs W' (some ⟨rx, st⟩) st r (tb W') A (decN lay stl)) : SS cs W (some Y) st r (tTry cs.K W tb l) (A.tr cl hs) (decN lay stl) := fun n Ps E k => by
  subst hcl
  refine ws_try fun W' => hb W' n _ _ (wp_mono (wp_tr k) (fun _ _ _ q => q) fun c fs n' _ q => ?_)
  obtain ⟨hc, q⟩ := q
  intro r' m' wk le
  clear k hb
  induction hh with
  | nil => exact q _ _ (wk.trans (ok.wk n')) (by
      have := ok.le
      have tr : ∀ {a b c : Rho}, LeR a b → LeR b c → LeR a c := by
        intro a
        induction a with
        | nil => intro b c h1 h2; cases b with
          | nil => exact h2
          | cons _ _ => exact h1.elim
        | cons x xs ih => intro b c h1 h2; cases b with
          | nil => exact h1.elim
          | cons y ys => cases c with
            | nil => exact h2.elim
            | cons z zs =>
              refine ⟨?_, ih h1.2 h2.2⟩
              rcases h1.1 with e | e
              · exact .inl e
              · rcases h2.1 with e2 | e2
                · exact .inl (e.trans e2)
                · exact .inr (e.trans e2)
      exact tr this le)
  | @named C i ts h l hs hC su hl t ih =>
    refine ⟨subE c C, cs.ex c hc C hC, fun hb a dd => ?_, fun hb => ?_⟩
    · unfold pickM at q
      rw [if_pos hb] at q
      refine ws_weak ((weak_wk wk).trans (weak_le (leR_set le))) (su c hc hb a dd fs n' P0 _ ?_)
      refine wp_mono (wp_noX q) (fun s n2 _ q2 => ?_) fun _ _ _ _ q => q
      show E.nx (((lay s).set i none).set i none) (stl s n2)
      rw [hl, hl]
      exact q2
    · unfold pickM at q
      rw [if_neg (by rw [hb]; decide)] at q
      exact ih q
  | @bare C ts h l hs hC su t ih =>
    refine ⟨subE c C, cs.ex c hc C hC, fun hb a dd => ?_, fun hb => ?_⟩
    · unfold pickM at q
      rw [if_pos hb] at q
      exact ws_weak ((weak_wk wk).trans (weak_le le)) (su c hc hb a dd fs n' P0 _ (wp_noX q))
    · unfold pickM at q
      rw [if_neg (by rw [hb]; decide)] at q
      exact ih q
end
end Dz
/-! Mx, part G: defs that are handed a lambda, defs that hand one. -/
namespace Dz
open PySem PySem.Spec PyProof.Rows L2 LamX
/-- the tables of code objects of the defs that make lambdas -/
abbrev Tabs0 := List (Addr × Str)
section
variable {cs : Cs} {W : WX} {X : Option Bx} {Y : Bx} {st : Nat → Sto} {r : Rho} {m : Sto}
theorem subE_eq {c C : Nat} (h0 : C ≠ 0) (h : subE c C = true) : c = C := by
  unfold subE at h
  simp at h
  rcases h with h | ⟨h, _⟩
  · exact h
  · exact absurd h h0
/-- e.f of a caught error -/
theorem mp_xf {a dd : Addr} {fs : List (Str × D)} {c C : Nat} {f : Str} {i : Nat} (hC : subE c C = true) (h : r[i]? = some (some (.exc a dd fs))) (h0 : C ≠ 0 := by decide) : MP cs W X st r (tXf a (.ref (cs.ad c)) (some dd) (cs.ad C) f (tVar i)) (M.o (fs.lookup f)) := fun n Ps Ph k => by
  obtain rfl := subE_eq h0 hC
  obtain ⟨z, e, q⟩ := wp_o.mp k
  exact wt_xf (wt_var h ⟨rfl, e, q⟩)
/-- what a lambda gives, by its mirror -/
def PhA (a : M D) (m : Sto) : PhiT := fun d m' => m' = m ∧ a = .pure d
def PsA (cs : Cs) (a : M D) (m : Sto) : PsiC := fun cls fs m' => ∃ m2, Wk m' m2 ∧ m2 = m ∧ ∃ c, cls = .ref (cs.ad c) ∧ a = .ex c fs
/-- a mirror that ends without a draw -/
def M.gd {α β : Type} (a : M α) (x : M β) : M β := match a with
  | .pure _ => x
  | .ex _ _ => x
  | _ => .no
@[simp] theorem gd_pure {α β : Type} (a : α) (x : M β) : (M.pure a).gd x = x := by rw [show (M.pure a).gd x = x from rfl]
@[simp] theorem gd_ex {α β : Type} (c : Nat) (fs : List (Str × D)) (x : M β) : (M.ex c fs : M α).gd x = x := by rw [show (M.ex c fs : M α).gd x = x from rfl]
@[simp] theorem gd_no {α β : Type} (x : M β) : (M.no : M α).gd x = .no := by rw [show (M.no : M α).gd x = .no from rfl]
def SpT (cs : Cs) (F : M D → M D) : SpL := fun Phl Psl m Ph Pc => ∃ a n, Phl = PhA a m ∧ Psl = PsA cs a m ∧ wp (a.gd (F a)) n (fun d _ => Ph d m) fun c fs _ => Pc (.ref (cs.ad c)) fs m
theorem wt_actP {W : WX} {Ps : PsiT} {r : Rho} {m : Sto} {Ph : PhiT} {a : M D} {Pd : List Addr → Hp → Prop} {tl : LamT} {f c' : Addr} {q : Str} {n : Nat} (hr : r[0]? = some (some (.clo f (cloP c' q Pd)))) (hd : Does tl m Pd (PhA a m) (PsA cs a m)) (ok : OkX Y (fun _ => m) r)
    (k : wp a n (fun d _ => Ph d m) (XP cs (some Y) Ps)) : WT W Ps (tAct W f c' q tl) r m Ph := by
  refine fun s H Q R XX K => ?_
  obtain ⟨v, e, rv⟩ := R.sl.2 0 _ hr
  cases rv with
  | clo _ p =>
    refine ⟨e, p.2.1, hd.run H (WE W s) Q p.1 R.st ?_ ?_⟩
    · intro cls d fs H' m' z g y st'
      obtain ⟨m2, wk, rfl, c, rfl, rfl⟩ := z
      have q : Ps (.ref (cs.ad c)) fs r m2 := xp_use ok k
      obtain ⟨dd, xs, e1, e2, e3, e4⟩ := y
      exact XX _ d fs s H' r m2 q (g.trans wk.fr) ⟨dd, xs, e1, fun z => e2 (wk.1 _ z), e3, wk.fr.repXs e4⟩ (wk.fr.rel (g.rel R st') (wk.2 _ st'))
    · intro v H' d m' z
      obtain ⟨rfl, rfl⟩ := z
      exact K v H' d m' k
theorem mp_act {a : M D} {Pd : List Addr → Hp → Prop} {tl : LamT} {f c' : Addr} {q : Str} (hr : r[0]? = some (some (.clo f (cloP c' q Pd)))) (hd : Does tl m Pd (PhA a m) (PsA cs a m)) (ok : OkX Y (fun _ => m) r) : MP cs W (some Y) (fun _ => m) r (tAct W f c' q tl) a := fun n Ps Ph k => wt_actP hr hd ok k
theorem runT {N : List Str} {t : XK → Str → Addr → Addr → LamT → TS} {F : M D → M D} (h : ∀ E q f c' tl m Pd a, Does tl m Pd (PhA a m) (PsA cs a m) → SS cs (WF E) (some (Xf N fun _ => m)) (fun _ => m) (startR N [.clo f (cloP c' q Pd)]) (t E q f c' tl) (F a) (decT fun _ => m)) : RunsL (SpT cs F) N t := by
  rintro E q f c' tl m Pd Phl Psl Ph Pc ⟨a, n, rfl, rfl, w⟩ hd s H De R XX K
  have w' : wp (F a) n (fun d _ => Ph d m) fun c fs _ => Pc (.ref (cs.ad c)) fs m := by
    cases a with
    | pure a => exact w
    | ex c fs => exact w
    | draw l k => exact w.elim
    | no => exact w.elim
  refine h E q f c' tl m Pd a hd n (fun cls fs r' m' => ∃ m2, Wk m' m2 ∧ Pc cls fs m2) { nx := fun _ m' => Ph .non m', rt := Ph } (wp_mono w' (fun d n' _ q => q) fun c fs n' _ q => fun r' m' wk _ => ⟨_, wk, q⟩) s H De R (xt_weak XX) K
/-- x(lambda: body) -/
theorem wp_gd {α β : Type} {a : M α} {x : M β} {n : Nat} {Q : β → Nat → Prop} {XX : Nat → List (Str × D) → Nat → Prop} (h : wp (a.gd x) n Q XX) : wp x n Q XX ∧ ((∃ d, a = .pure d) ∨ ∃ c fs, a = .ex c fs) := by
  cases a with
  | pure a => exact ⟨h, .inl ⟨_, rfl⟩⟩
  | ex c fs => exact ⟨h, .inr ⟨_, _, rfl⟩⟩
  | draw l k => exact h.elim
  | no => exact h.elim
theorem mp_lam_core {T : Tabs0} {F : M D → M D} {tb : XK → TE} {a : M D} {n : Nat} {Ps : PsiT} {Ph : PhiT} {k : Nat} (hT : TabsIn T (st n)) (ok : OkX Y st r) (hl : r.length = k)
    (hb : ∀ E, MP cs (WF E) (some ⟨List.replicate k none, fun _ => st n⟩) (fun _ => st n) r (tb E) a)
    (w : wp (a.gd (F a)) n (fun d _ => Ph d (st n)) fun c fs _ => Ps (.ref (cs.ad c)) fs r (st n)) : WT W Ps (tLamW T (liftL (SpT cs F)) W tb) r (st n) Ph := by
  refine wt_lam (Phl := PhA a (st n)) (Psl := PsA cs a (st n)) (Pc := fun cls fs m' => Ps cls fs r (st n) ∧ m' = st n) hT ⟨a, n, rfl, rfl, wp_mono w (fun d _ _ q => q) fun c fs _ _ q => ⟨q, rfl⟩⟩ (fun cls fs m' ⟨q, e⟩ => by rw [e]; exact q) fun E => ?_
  obtain ⟨_, ha⟩ := wp_gd w
  refine fun s H Q R XX K => hb E n (fun cls fs r' m' => ∃ m2, Wk m' m2 ∧ PsA cs a (st n) cls fs m2) _ ?_ s H Q R (xt_weak (Pc := PsA cs a (st n)) XX) K
  rcases ha with ⟨d, rfl⟩ | ⟨c, fs, rfl⟩
  · exact ⟨rfl, rfl⟩
  · exact fun r' m' wk _ => ⟨_, wk, _, wk0, rfl, c, rfl, rfl⟩
theorem mp_lam {T : Tabs0} {F : M D → M D} {tb : XK → TE} {a : M D} (hT : ∀ n, TabsIn T (st n)) (ok : OkX Y st r) (hc : ∀ n n', st n = st n')
    (hb : ∀ n E, MP cs (WF E) (some ⟨List.replicate r.length none, fun _ => st n⟩) (fun _ => st n) r (tb E) a) : MP cs W (some Y) st r (tLamW T (liftL (SpT cs F)) W tb) (a.gd (F a)) := fun n Ps Ph k =>
  mp_lam_core (hT n) ok rfl (hb n) (wp_mono k (fun d n' _ q => by rw [hc n n']; exact q) fun c fs n' _ q => by rw [hc n n']; exact xp_use ok q)
theorem mp_lamn {T : Tabs0} {F : M D → M D} {tb : XK → TE} {a : M D} (hT : ∀ n, TabsIn T (st n)) (ok : OkX Y st r)
    (hb : ∀ n E, MP cs (WF E) (some ⟨List.replicate r.length none, fun _ => st n⟩) (fun _ => st n) r (tb E) a) : MP cs W (some Y) st r (tLamW T (liftL (SpT cs F)) W tb) (a.gd (F a)).nd := fun n Ps Ph k =>
  mp_lam_core (hT n) ok rfl (hb n) (wp_mono (wp_nd n k) (fun d n' _ q => q) fun c fs n' _ q => xp_use ok q)
/-! promises that ask for the tables -/
def SpPT (cs : Cs) (T : Tabs0) (f : List D → M D) : SpD := fun ds m Ph Pc => TabsIn T m ∧ SpP cs f ds m Ph Pc
def SpGT (cs : Cs) (T : Tabs0) (f : List D → M D) : SpD := fun ds m Ph Pc => TabsIn T m ∧ SpG cs f ds m Ph Pc
theorem tabs_own {T : Tabs0} {m : Sto} {p : Addr} {o : MO} (h : TabsIn T m) (ho : ∀ q, o ≠ .tab q) : TabsIn T ((p, o) :: m) := fun x => by
  rw [List.mem_cons, h x]
  refine ⟨.inr, fun z => ?_⟩
  rcases z with z | z
  · have := congrArg Prod.snd z
    exact absurd this.symm (ho _)
  · exact z
theorem tabsL {T : Tabs0} {m : Sto} {p : Addr} {ds : List D} (h : TabsIn T m) : TabsIn T ((p, .lst ds) :: m) := tabs_own h fun _ z => nomatch z
theorem tabsD {T : Tabs0} {m : Sto} {p : Addr} {ds : List (Key × D)} (h : TabsIn T m) : TabsIn T ((p, .dct ds) :: m) := tabs_own h fun _ z => nomatch z
theorem tabsG {T : Tabs0} {m : Sto} {p ac ag : Addr} {n : Nat} (h : TabsIn T m) : TabsIn T ((p, .gen ac ag n) :: m) := tabs_own h fun _ z => nomatch z
theorem tabs_erase {T : Tabs0} {m : Sto} {k : Nat} {p : Addr} {o : MO} (h : TabsIn T m) (e : m[k]? = some (p, o)) (ho : ∀ q, o ≠ .tab q) : TabsIn T (m.eraseIdx k) := fun x => by
  have lt : k < m.length := (List.getElem?_eq_some_iff.mp e).1
  have pm := (perm_erase m k lt).mem_iff (a := (x.1, MO.tab x.2))
  have e2 : m[k] = (p, o) := (List.getElem?_eq_some_iff.mp e).2
  rw [e2, List.mem_cons] at pm
  rw [h x]
  refine ⟨fun z => ?_, fun z => pm.mpr (.inr z)⟩
  rcases pm.mp z with z | z
  · have := congrArg Prod.snd z
    exact absurd this.symm (ho _)
  · exact z
def ImpPT (cs : Cs) (T : Tabs0) (sp : SpD) (f : List D → M D) : Prop := ∀ ds m Ph Pc, SpPT cs T f ds m Ph Pc → sp ds m Ph Pc
def ImpGT (cs : Cs) (T : Tabs0) (sp : SpD) (f : List D → M D) : Prop := ∀ ds m Ph Pc, SpGT cs T f ds m Ph Pc → sp ds m Ph Pc
variable {sp : SpD} {f : List D → M D} {tas : TA} {as : M (List D)} {T : Tabs0}
theorem mp_callT {dvs : List V} (i : ImpPT cs T sp f) (hT : ∀ n, TabsIn T (st n)) (ok : OkX Y st r) (hc : ∀ n n', st n = st n') (hs : MPA cs W (some Y) st r tas as) (hd : D.flats (dvs.map vD) = some dvs := by rfl) :
    MP cs W (some Y) st r (tCallG (lift sp) dvs (WE W) tas) (as.bind fun xs => f (xs ++ dvs.map vD)) := fun n Ps Ph k =>
  wt_call (hs n Ps _ (wp_mono (wp_bind.mp k) (fun xs n1 _ k1 => i _ _ _ _ ⟨hT n1, n1, wp_mono k1 (fun d n' _ q => by rw [hc n1 n']; exact q) fun c fs n' _ q => by rw [hc n1 n']; exact xp_use ok q⟩) fun _ _ _ _ q => q)) hd
theorem mp_callnT {dvs : List V} (i : ImpPT cs T sp f) (hT : ∀ n, TabsIn T (st n)) (ok : OkX Y st r) (hs : MPA cs W (some Y) st r tas as) (hd : D.flats (dvs.map vD) = some dvs := by rfl) :
    MP cs W (some Y) st r (tCallG (lift sp) dvs (WE W) tas) (as.bind fun xs => (f (xs ++ dvs.map vD)).nd) := fun n Ps Ph k =>
  wt_call (hs n Ps _ (wp_mono (wp_bind.mp k) (fun xs n1 _ k1 => i _ _ _ _ ⟨hT n1, n1, wp_mono (wp_nd n1 k1) (fun d n' _ q => q) fun c fs n' _ q => xp_use ok q⟩) fun _ _ _ _ q => q)) hd
theorem mp_callgT {dvs : List V} {v : Nat} {a ac ag : Addr} (k : Nat) (i : ImpGT cs T sp f) (hT : ∀ n, TabsIn T (st n)) (e : r[v]? = some (some (.ref a))) (ga : GenAt st a ac ag k) (ok : OkX Y st r) (hs : MPA cs W (some Y) st r tas as) (hd : D.flats (dvs.map vD) = some dvs := by rfl) :
    MP cs W (some Y) st r (tCallG (lift sp) dvs (WE W) (tCons (tVar v) tas)) (as.bind fun xs => f (xs ++ dvs.map vD)) := fun n Ps Ph h =>
  wt_call (wa_cons (wt_var e (hs n Ps _ (wp_mono (wp_bind.mp h) (fun xs n1 _ k1 => i _ _ _ _ ⟨hT n1, a, ac, ag, k, n1, _, rfl, (ga n1).1, wp_mono k1 (fun d n' _ q => by rw [(ga n1).2 n']; exact q) fun c fs n' _ q => by rw [(ga n1).2 n']; exact xp_use ok q⟩) fun _ _ _ _ q => q)))) hd
variable {N : List Str} {t : XK → TS}
theorem runPT {f : List D → M D} (h : ∀ E m ds, TabsIn T m → SS cs (WF E) (some (Xf N fun _ => m)) (fun _ => m) (startR N ds) (t E) (f ds) (decT fun _ => m)) : Runs (SpPT cs T f) N t := by
  rintro E ds m Ph Pc ⟨hT, n, w⟩ s H De R XX K
  refine h E m ds hT n (fun cls fs r' m' => ∃ m2, Wk m' m2 ∧ Pc cls fs m2) _ (wp_mono w (fun d n' _ q => ?_) fun c fs n' _ q => ?_) s H De R (xt_weak XX) K
  · exact q
  · exact fun r' m' wk _ => ⟨_, wk, q⟩
theorem runGT {f : List D → M D} (h : ∀ E a ac ag m xs, TabsIn T m → SS cs (WF E) (some (Xf N fun n => (a, .gen ac ag n) :: m)) (fun n => (a, .gen ac ag n) :: m) (startR N (.ref a :: xs)) (t E) (f xs) (decT fun n => (a, .gen ac ag n) :: m)) : Runs (SpGT cs T f) N t := by
  rintro E ds m Ph Pc ⟨hT, a, ac, ag, k, n, xs, rfl, e, w⟩
  have pm : ∀ n', ((a, MO.gen ac ag n') :: m.eraseIdx k).Perm (m.set k (a, .gen ac ag n')) := fun n' => sto_perm e
  have p0 : m.Perm ((a, MO.gen ac ag n) :: m.eraseIdx k) := by
    have := pm n
    rw [set_eq_self e] at this
    exact this.symm
  refine ws_post (ws_weak (weak_wk (wk_perm p0)) ?_)
  intro s H De R XX K
  refine h E a ac ag (m.eraseIdx k) xs (tabs_erase hT e fun _ z => nomatch z) n (fun cls fs r' m' => ∃ m2, Wk m' m2 ∧ Pc cls fs m2) _ (wp_mono w (fun d n' _ q => ?_) fun c fs n' _ q => ?_) s H De R (xt_weak XX) K
  · exact ⟨_, wk_perm (pm n'), q⟩
  · exact fun r' m' wk _ => ⟨_, wk.trans (wk_perm (pm n')), q⟩
theorem runPT0 {f : M D} (h : ∀ E m, TabsIn T m → SS cs (WF E) (some (Xf N fun _ => m)) (fun _ => m) (startR N []) (t E) f (decT fun _ => m)) : Runs (SpPT cs T (a0 f)) N t := runPT fun E m ds hT => match ds with
  | [] => h E m hT
  | _ :: _ => ss_no
theorem runPT1 {f : D → M D} (h : ∀ E m x, TabsIn T m → SS cs (WF E) (some (Xf N fun _ => m)) (fun _ => m) (startR N [x]) (t E) (f x) (decT fun _ => m)) : Runs (SpPT cs T (a1 f)) N t := runPT fun E m ds hT => match ds with
  | [x] => h E m x hT
  | [] => ss_no
  | _ :: _ :: _ => ss_no
theorem runPT2 {f : D → D → M D} (h : ∀ E m x y, TabsIn T m → SS cs (WF E) (some (Xf N fun _ => m)) (fun _ => m) (startR N [x, y]) (t E) (f x y) (decT fun _ => m)) : Runs (SpPT cs T (a2 f)) N t := runPT fun E m ds hT => match ds with
  | [x, y] => h E m x y hT
  | [] => ss_no
  | [_] => ss_no
  | _ :: _ :: _ :: _ => ss_no
theorem runPT3 {f : D → D → D → M D} (h : ∀ E m x y z, TabsIn T m → SS cs (WF E) (some (Xf N fun _ => m)) (fun _ => m) (startR N [x, y, z]) (t E) (f x y z) (decT fun _ => m)) : Runs (SpPT cs T (a3 f)) N t := runPT fun E m ds hT => match ds with
  | [x, y, z] => h E m x y z hT
  | [] => ss_no
  | [_] => ss_no
  | [_, _] => ss_no
  | _ :: _ :: _ :: _ :: _ => ss_no
theorem runGT0 {f : M D} (h : ∀ E a ac ag m, TabsIn T m → SS cs (WF E) (some (Xf N fun n => (a, .gen ac ag n) :: m)) (fun n => (a, .gen ac ag n) :: m) (startR N [.ref a]) (t E) f (decT fun n => (a, .gen ac ag n) :: m)) : Runs (SpGT cs T (a0 f)) N t := runGT fun E a ac ag m ds hT => match ds with
  | [] => h E a ac ag m hT
  | _ :: _ => ss_no
theorem runGT1 {f : D → M D} (h : ∀ E a ac ag m x, TabsIn T m → SS cs (WF E) (some (Xf N fun n => (a, .gen ac ag n) :: m)) (fun n => (a, .gen ac ag n) :: m) (startR N [.ref a, x]) (t E) (f x) (decT fun n => (a, .gen ac ag n) :: m)) : Runs (SpGT cs T (a1 f)) N t := runGT fun E a ac ag m ds hT => match ds with
  | [x] => h E a ac ag m x hT
  | [] => ss_no
  | _ :: _ :: _ => ss_no
theorem runGT2 {f : D → D → M D} (h : ∀ E a ac ag m x y, TabsIn T m → SS cs (WF E) (some (Xf N fun n => (a, .gen ac ag n) :: m)) (fun n => (a, .gen ac ag n) :: m) (startR N [.ref a, x, y]) (t E) (f x y) (decT fun n => (a, .gen ac ag n) :: m)) : Runs (SpGT cs T (a2 f)) N t := runGT fun E a ac ag m ds hT => match ds with
  | [x, y] => h E a ac ag m x y hT
  | [] => ss_no
  | [_] => ss_no
  | _ :: _ :: _ :: _ => ss_no
theorem runGT3 {f : D → D → D → M D} (h : ∀ E a ac ag m x y z, TabsIn T m → SS cs (WF E) (some (Xf N fun n => (a, .gen ac ag n) :: m)) (fun n => (a, .gen ac ag n) :: m) (startR N [.ref a, x, y, z]) (t E) (f x y z) (decT fun n => (a, .gen ac ag n) :: m)) : Runs (SpGT cs T (a3 f)) N t := runGT fun E a ac ag m ds hT => match ds with
  | [x, y, z] => h E a ac ag m x y z hT
  | [] => ss_no
  | [_] => ss_no
  | [_, _] => ss_no
  | _ :: _ :: _ :: _ :: _ => ss_no
end
/-! ### the reading's side: a lambda handed to a def -/
/-- the taker stands behind the top -/
structure TkF (K : PySem.W.Frag) (mg : Str → Option Value) (x a : Str) (pg : Arguments) (bg : List Stmt) (sg : Scope) (g : Addr) (cdv : Value) : Prop where
  ex : ∃ (oc : Value) (od : Option Addr) (dV kV doc pm : Value) (an : Option Addr) (ct : Value) (osl : Array (Option Value)), K.lookup g = some ⟨oc, od, .func (PySem.W.fnOf x x pg bg sg dV kV doc pm an cdv ct), osl⟩ ∧ L2.Binds K (PySem.W.fnOf x x pg bg sg dV kV doc pm an cdv ct) [a] []
  hc : PySem.W.codeIn K cdv x = true
  kp : PySem.W.keepIn K (.ref g) = true
  gm : mg x = some (.ref g)
section
variable {X : Cx} {W : WX} {x a : Str} {g cm P : Addr} {k : Nat} {pg : Arguments} {bg : List Stmt} {sg : Scope} {cdv : Value} {Ng : List Str} {params : Arguments} {body : Expr} {scope : Scope} {tb : XK → TE} {p lpos pos : Pos} {T : Tabs0} {sp : SpL} {t : XK → Str → Addr → Addr → LamT → TS}
theorem pe_lamD (tk : Takes X W) (F : TkF X.K X.mg x a pg bg sg g cdv) (Sg : FnScope Ng [a] sg) (hN : Ng[0]? = some a) (hv : Vis sg a) (run : RunsL sp Ng t)
    (pss : ∀ (f c' : Addr) (tl : LamT) (s : Shared) (H : Hp) (E : XK), (∀ (W : WX) (pn : List (Addr × Obj)) (xe : Value → Shared → Prop) (p1 p2 : Pos), Takes ((takerCx X E Ng x sg g cdv s H).tr pn xe) W → PE ((takerCx X E Ng x sg g cdv s H).tr pn xe) (.Call (.Name a p1) [] [] p2) (tAct W f c' (X.env.qual ++ "<lambda>") tl)) →
      Room (k + 1) (X.A.deeper (envOfC x sg s.heap.objs.size g cdv)) → PSs (takerCx X E Ng x sg g cdv s H) bg (t E (X.env.qual ++ "<lambda>") f c' tl)) (TB : TabB X.base X.mg cm P) (hcode : X.env.code = .ref cm)
    (mem : (P, X.env.qual ++ "<lambda>") ∈ T) (only : ∀ p ∈ T, p.1 = P → p.2 = X.env.qual ++ "<lambda>") (hr : Room (k + 2) X.A) (L : LamS X.env.scope scope)
    (bind : ∀ (q : Str) (cl : List (Str × Addr)) (pm cv ctv : Value), bindArgs (PySem.W.kla_fn "<lambda>" q params body scope cl pm cv ctv) ⟨[], []⟩ = pure [])
    (hb : ∀ (A : Around) (outer : List Env) (s : Shared) (H : Hp) (E : XK) (f c' : Addr), Room k (A.deeper (lamEnv X scope s.heap.objs.size f c')) → PE (lamCx X A outer s H E scope f c') body (tb E))
    (hg : Gl X x := by rfl) (hdef : defaultsOf params X.env = ([], []) := by rfl) (hdb : (x == ("__debug__" : Str)) = false := by decide) (hd : (a == ("__debug__" : Str)) = false := by decide) (hcd : (a == ("__classdict__" : Str)) = false := by decide) :
    PE X (.Call (.Name x p) [.Lambda params body scope lpos] [] pos) (tLamW T (liftL sp) W tb) := by
  obtain ⟨oc, od, dV, kV, doc, pm, an, ct, osl, lk, bd⟩ := F.ex
  exact pe_lamW tk lk F.hc F.kp F.gm bd Sg hN hv (gives_of run pss) TB hcode mem only hr L bind hb hg hdef hdb hd hcd
end
/-- a def whose code object is told -/
structure FunC (K : PySem.W.Frag) (x qual : Str) (params : Arguments) (body : List Stmt) (scope : Scope) (dvs : List V) (f : Addr) (fd : FuncData) (cdv : Value) : Prop where
  ex : ∃ (oc : Value) (od : Option Addr) (dV kV doc pm : Value) (an : Option Addr) (ct : Value) (osl : Array (Option Value)),
    fd = PySem.W.fnOf x qual params body scope dV kV doc pm an cdv ct ∧ K.lookup f = some ⟨oc, od, .func fd, osl⟩ ∧ PySem.W.codeIn K cdv qual = true ∧ DflV K dV dvs
  kp : PySem.W.keepIn K (.ref f) = true
theorem okDC {P : Program} {w : World} {K : PySem.W.Frag} {mg : Str → Option Value} {base : Heap} {x qual : Str} {params : Arguments} {body : List Stmt} {scope : Scope} {dvs : List V} {f : Addr} {fd : FuncData} {cdv : Value} {N ps : List Str} {k : Nat} {sp : SpD} {t : XK → TS}
    (F : FunC K x qual params body scope dvs f fd cdv) (S : FnScope N ps scope) (len : ∀ ds m Ph Pc, sp ds m Ph Pc → ds.length = ps.length) (run : Runs sp N t)
    (h : ∀ (A : Around) (outer : List Env) (s : Shared) (H : Hp) (E : XK), Room k (A.deeper (envOfC qual scope s.heap.objs.size f cdv)) → PSs (cxOf (L2.CX P w) P w K mg base N qual scope f cdv A outer s H E) body (t E)) :
    FnOk P w K mg base (L2.CX P w) (k + 1) f fd ps (lift sp) := by
  obtain ⟨oc, od, dV, kV, doc, pm, an, ct, osl, rfl, lk, hcd, _⟩ := F.ex
  refine fn_of lk hcd S (fun vs H Q E ⟨ds, m, Ph, Pc, r, st, hs, _, _⟩ => by rw [r.len]; exact len ds m Ph Pc hs) fun A outer s H vs Q E hr ⟨ds, m, Ph, Pc, r, st, hs, kt, xc⟩ => ⟨t E, h A outer s H E hr, ?_⟩
  exact run E ds m Ph Pc hs (L2.start N vs) H _ ⟨startR_ok r, st⟩ (XT.of xc) ⟨fun s' H' r' m' p f' R' => kt .non H' .non m' p f' .non R'.st, kt, fun _ _ _ _ p => p.elim, fun _ _ _ _ p => p.elim⟩
/-! ### the law -/
def sp_lawM (cs : Cs) (f : M D) : SpD := fun ds m Ph Pc => ∃ (a : Addr) (ns : List Int), ds = [.scr cs.K a ns] ∧ ns.length ≤ 63 ∧ TabsIn cs.T m ∧ wp f 0 (fun d _ => ∀ m', Ph d m') fun _ _ _ => False
theorem runLaw {cs : Cs} {N : List Str} {u : XK → TS} {f : M D} {i : Nat} (h : ∀ E ga gc gg m a ns, TabsIn cs.T m → SS cs (WF E) (some (Xf N fun n => (ga, .gen gc gg n) :: m)) (fun n => (ga, .gen gc gg n) :: m) ((startR N [.scr cs.K a ns]).set i (some (.ref ga))) (u E) f (decT fun n => (ga, .gen gc gg n) :: m)) :
    Runs (sp_lawM cs f) N fun E => tSeq (tAsg (tCallG (lift (sp__law_begun cs)) [] (WE (WF E)) (tCons (tVar 0) tNil)) (gName i)) (u E) := by
  rintro E ds m Ph Pc ⟨a, ns, rfl, hn, hT, w⟩
  refine ws_seq (ws_asg (wt_call (wa_cons (wt_var (d := .scr cs.K a ns) rfl (wa_nil ⟨a, ns, rfl, hn, fun g ac ag => wg_name ?_⟩))) rfl))
  intro s H De R XX K
  exact h E g ac ag m a ns hT 0 (fun cls fs r' m' => ∃ m2, Wk m' m2 ∧ Pc cls fs m2) { nx := fun _ m' => Ph .non m', rt := Ph } (wp_mono w (fun d n' _ q => q _) fun c fs n' _ q => q.elim) s H De R (xt_weak XX) K
end Dz
/-! Mx, part H: the end: classes of errors, the tables of the head, the law's start. -/
namespace Dz
open PySem PySem.Spec PyProof.Rows L2 LamX
theorem exm_gen {K : PySem.W.Frag} {S D : Addr} {b : Bool} (h1 : PySem.W.subIn K (.ref S) (.type "BaseException") = some true) (h2 : PySem.W.isClsIn K D = true) (h3 : PySem.W.typeIn K (.ref D) = some (.type "type")) (h5 : PySem.W.subIn K (.ref D) (.type "BaseException") = some true) (h4 : PySem.W.subIn K (.ref S) (.ref D) = some b) : PySem.W.exmOne K (.ref S) (.ref D) = some b := by
  have e1 : (PySem.W.subIn K (.ref D) (.type "BaseException") == some true) = true := by rw [h5] <;> rfl
  have e2 : ((PySem.W.clsIn K D).isSome && PySem.W.typeIn K (.ref D) == some (.type "type")) = true := by
    have h2' : (PySem.W.clsIn K D).isSome = true := h2
    rw [h2', h3] <;> rfl
  show (if (PySem.W.subIn K (.ref D) (.type "BaseException") == some true) = true then (if ((PySem.W.clsIn K D).isSome && PySem.W.typeIn K (.ref D) == some (.type "type")) = true then PySem.W.subIn K (.ref S) (.ref D) else none) else none) = some b
  rw [if_pos e1, if_pos e2]
  exact h4
/-- the tables of the defs of the head are empty -/
def HeadTabs (q : Program) (K : PySem.W.Frag) (mg : Str → Option Value) (h : Heap) : Prop := ∀ (x : Str) (f c P : Addr) (o : Obj) (fd : FuncData) (e : Value) (dd : Option Addr) (vs : Array Value) (sl : Array (Option Value)), ((recsOf q).any fun e => e.name == x) = true → mg x = some (.ref f) →
  K.lookup f = some o → o.data = .func fd → fd.code = .ref c → K.lookup c = some ⟨e, dd, .fields vs, sl⟩ → vs[11]? = some (.ref P) → PySem.W.CodeHd h c P ∧ h.get? P = some { cls := .none, data := .fields #[] }
theorem walk_ofTT {l : PySem.W.OpenLaw} {n k : Nat} {q : Program} {loose : List Str} {XP : (Str → Option Value) → Heap → Prop} {YP : World → Heap → Prop} {d : PySem.DefRec} {K : Params → PySem.W.Frag} {CX : World → CXT} {x : Str}
    (hn : l.most = some n) (hn2 : n ≤ sizeLine) (hdf : d.params.defaults = []) (hr : Room k callerA) (hY : ∀ (w : World) (h : Heap), YP w h → (K w.params).In h)
    (F : ∀ (w : World) (mg : Str → Option Value) (fa : Addr) (h : Heap), YP w h → (K w.params).In h → h.Ns mainGlobals mg → mg d.name = some (.ref fa) → HeadTabs q (K w.params) mg h → LawAtS l w (K w.params) (CX w) k n x mg fa h)
    (hCX : ∀ (w : World) (H : Hp) (s : Shared) (e : Value) (s' : Shared), CX w [] H s (fun _ _ _ => False) e s' → False) :
    PySem.W.WalkO q loose XP YP l.row.toRowW d [] (fun f vs => PySem.call f vs) := by
  refine Att.attach_callB hn hdf fun w s₀ s₁ mg mb fa o pm cd doc a vs ns G Y ho hd hcd hmg hobj hints hlen hbits hg => ?_
  have KX := hY w _ Y
  have own : HeadTabs q (K w.params) mg s₁.heap := fun x f c P o1 fd1 e dd vs1 sl hrec hx k1 k2 k3 k4 k5 => by
    obtain ⟨dL, hm, hn1⟩ := List.any_eq_true.mp hrec
    have hn2 : dL.name = x := beq_iff_eq.mp hn1
    obtain ⟨a', o', fd', c', P', h1, h2, h3, h4, h5, h6⟩ := G.T.tab dL hm
    rw [hn2, hx] at h1
    cases h1
    have g1 := KX _ _ k1
    rw [g1] at h2
    cases h2
    rw [k2] at h3
    cases h3
    rw [k3] at h4
    cases h4
    have cd := PySem.W.CodeHd.of h5 h6
    obtain ⟨⟨oc, vc, e1, _, e3, e4⟩, hP⟩ := h6
    have g2 := KX _ _ k4
    rw [g2] at e1
    cases e1
    cases e3
    rw [k5] at e4
    cases e4
    exact ⟨cd, hP⟩
  obtain ⟨fd, cs, sp, hT, nT, C, hb, hsp, hF⟩ := F w mg fa _ Y KX G.T.g hmg own
  exact law_callTs KX G.T.g G.T.b G.T.builtins G.T.nolimit hg hT nT C G.T.bmain hobj hints (Nat.le_trans hlen hn2) hr hF hb (fun H hH hS => hsp H a ns hlen hbits hH hS) fun H e s' => hCX w H s₁ e s'
/-- the store of the tables -/
def tabSto (T : Tabs0) : Sto := T.map fun p => (p.1, .tab p.2)
theorem tabs_in (T : Tabs0) : TabsIn T (tabSto T) := fun p => by
  unfold tabSto
  rw [List.mem_map]
  refine ⟨fun h => ⟨p, h, rfl⟩, fun ⟨q, h, e⟩ => ?_⟩
  have e1 := congrArg Prod.fst e
  have e2 := congrArg Prod.snd e
  have : q = p := by
    cases q; cases p
    cases e1; cases e2
    rfl
  rw [← this]; exact h
theorem dom_tab : ∀ T : Tabs0, dom (tabSto T) = T.map (·.1)
  | [] => rfl
  | p :: T => congrArg (p.1 :: ·) (dom_tab T)
theorem law_spT {cs : Cs} {f : M D} {H : Hp} {a : Addr} {ns : List Int} (hf : wp f 0 (fun d _ => d = .bl true) fun _ _ _ => False) (nd : (cs.T.map (·.1)).Nodup) (hH : ∀ p ∈ cs.T, H p.1 = some (.tbl #[])) (hl : ns.length ≤ 63) (hS : SqL cs.K H a (ns.map V.int)) :
    lift (sp_lawM cs f) [.ref a] H (fun v _ => v = .bl true) fun _ _ _ => False := by
  have aT : ∀ u, H a = some u → (u = .lst (ns.map V.int) ∨ ∃ o, u = .frz o (.lst (ns.map V.int))) → a ∉ dom (tabSto cs.T) := fun u e hu z => by
    rw [dom_tab] at z
    obtain ⟨p, hp, ep⟩ := List.mem_map.mp z
    have := hH p hp
    rw [ep, e] at this
    cases this
    rcases hu with h | ⟨o, h⟩ <;> cases h
  refine ⟨[.scr cs.K a ns], tabSto cs.T, fun d _ => d = .bl true, fun _ _ _ => False, .cons ?_ .nil, ⟨by rw [dom_tab]; exact nd, fun p hp => ?_⟩, ⟨a, ns, rfl, hl, tabs_in _, wp_mono hf (fun d n _ q m' => q) fun _ _ _ _ q => q⟩, fun v H' d m' e f r st => ?_, fun _ _ _ _ _ p => p.elim⟩
  · rcases hS with (h | ⟨o, h⟩) | h
    · exact .scr1 h (.inl rfl) (aT _ h (.inl rfl))
    · exact .scr1 h (.inr ⟨o, rfl⟩) (aT _ h (.inr ⟨o, rfl⟩))
    · exact .scr2 h
  · obtain ⟨q, hq, rfl⟩ := List.mem_map.mp hp
    refine ⟨#[], hH q hq, ?_, fun pos cv z => ?_⟩
    · show TriplesOk []
      first | exact .nil | exact trivial | simp [TriplesOk]
    · cases z
  · subst e
    cases r
    rfl
end Dz
namespace Dz
open PySem PySem.Spec PyProof.Rows L2 LamX
theorem spno {cs : Cs} {f : List D → M D} (hf : ∀ ds, f ds = .no) {ds : List D} {m : Sto} {Ph : PhiT} {Pc : PsiC} (h : SpP cs f ds m Ph Pc) : False := by
  obtain ⟨n, w⟩ := h
  rw [hf] at w
  exact w
theorem a1_no {f : D → M D} (h : ∀ x, f x = .no) : ∀ ds, a1 f ds = .no
  | [x] => h x
  | [] => rfl
  | _ :: _ :: _ => rfl
theorem a2_no {f : D → D → M D} (h : ∀ x y, f x y = .no) : ∀ ds, a2 f ds = .no
  | [x, y] => h x y
  | [] => rfl
  | [_] => rfl
  | _ :: _ :: _ :: _ => rfl
theorem a3_no {f : D → D → D → M D} (h : ∀ x y z, f x y z = .no) : ∀ ds, a3 f ds = .no
  | [x, y, z] => h x y z
  | [] => rfl
  | [_] => rfl
  | [_, _] => rfl
  | _ :: _ :: _ :: _ :: _ => rfl
theorem a4_no {f : D → D → D → D → M D} (h : ∀ x y z u, f x y z u = .no) : ∀ ds, a4 f ds = .no
  | [x, y, z, u] => h x y z u
  | [] => rfl
  | [_] => rfl
  | [_, _] => rfl
  | [_, _, _] => rfl
  | _ :: _ :: _ :: _ :: _ :: _ => rfl
theorem a5_no {f : D → D → D → D → D → M D} (h : ∀ x y z u v, f x y z u v = .no) : ∀ ds, a5 f ds = .no
  | [x, y, z, u, v] => h x y z u v
  | [] => rfl
  | [_] => rfl
  | [_, _] => rfl
  | [_, _, _] => rfl
  | [_, _, _, _] => rfl
  | _ :: _ :: _ :: _ :: _ :: _ :: _ => rfl
theorem only_of {T : Tabs0} (nd : (T.map (·.1)).Nodup) {P : Addr} {q : Str} (h : (P, q) ∈ T) : ∀ p ∈ T, p.1 = P → p.2 = q := by
  induction T with
  | nil => cases h
  | cons x T ih =>
    intro p hp e
    have nd' := List.nodup_cons.mp nd
    rcases List.mem_cons.mp h with h1 | h1 <;> rcases List.mem_cons.mp hp with h2 | h2
    · rw [h2, ← h1]
    · exact absurd (List.mem_map.mpr ⟨p, h2, by rw [e, ← h1]⟩) nd'.1
    · exact absurd (List.mem_map.mpr ⟨(P, q), h1, by rw [← e, h2]⟩) nd'.1
    · exact ih nd'.2 h1 p h2 e
end Dz
/-! Mx, part L: plain reasoning about mirrors. -/
namespace Dz
open PySem PySem.Spec PyProof.Rows L2 LamX
/-! operators on known kinds -/
section
variable {i j : Int} {xs ys : List D} {b c : Bool} {s t : Str}
@[simp] theorem D.add_int : D.add (.int i) (.int j) = some (.int (i + j)) := rfl
@[simp] theorem D.sub_int : D.sub (.int i) (.int j) = some (.int (i - j)) := rfl
@[simp] theorem D.neg_int : D.neg (.int i) = some (.int (-i)) := rfl
@[simp] theorem D.lt_int : D.lt (.int i) (.int j) = some (.bl (decide (i < j))) := rfl
@[simp] theorem D.le_int : D.le (.int i) (.int j) = some (.bl (decide (i ≤ j))) := rfl
@[simp] theorem D.gt_int : D.gt (.int i) (.int j) = some (.bl (decide (j < i))) := rfl
@[simp] theorem D.ge_int : D.ge (.int i) (.int j) = some (.bl (decide (j ≤ i))) := rfl
@[simp] theorem D.eqv_int : D.eqv (.int i) (.int j) = some (i == j) := rfl
@[simp] theorem D.eqv_str : D.eqv (.str s) (.str t) = some (s == t) := rfl
@[simp] theorem D.eqv_bl : D.eqv (.bl b) (.bl c) = some (b == c) := rfl
@[simp] theorem D.eqv_non : D.eqv .non .non = some true := rfl
@[simp] theorem D.eq_int : D.eq (.int i) (.int j) = some (.bl (i == j)) := rfl
@[simp] theorem D.eq_str : D.eq (.str s) (.str t) = some (.bl (s == t)) := rfl
@[simp] theorem D.eq_bl : D.eq (.bl b) (.bl c) = some (.bl (b == c)) := rfl
@[simp] theorem D.ne_int : D.ne (.int i) (.int j) = some (.bl (!(i == j))) := rfl
@[simp] theorem D.ne_str : D.ne (.str s) (.str t) = some (.bl (!(s == t))) := rfl
@[simp] theorem D.is_non (x : D) : D.is x .non = some (.bl x.isNon) := by cases x <;> rfl
@[simp] theorem D.isnot_non (x : D) : D.isnot x .non = some (.bl (!x.isNon)) := by cases x <;> rfl
@[simp] theorem D.isNon_non : D.isNon .non = true := rfl
@[simp] theorem D.isNon_int : D.isNon (.int i) = false := rfl
@[simp] theorem D.isNon_bl : D.isNon (.bl b) = false := rfl
@[simp] theorem D.isNon_str : D.isNon (.str s) = false := rfl
@[simp] theorem D.isNon_tup : D.isNon (.tup xs) = false := rfl
@[simp] theorem D.isNon_lst : D.isNon (.lst xs) = false := rfl
@[simp] theorem D.isNon_dct {kvs : List (Key × D)} : D.isNon (.dct kvs) = false := rfl
@[simp] theorem D.len_lst : D.len [.lst xs] = some (.int (xs.length : Nat)) := rfl
@[simp] theorem D.len_tup : D.len [.tup xs] = some (.int (xs.length : Nat)) := rfl
@[simp] theorem D.len_dct {kvs : List (Key × D)} : D.len [.dct kvs] = some (.int (kvs.length : Nat)) := rfl
@[simp] theorem D.ix_lst : D.ix (.lst xs) (.int i) = atI xs i := rfl
@[simp] theorem D.ix_tup : D.ix (.tup xs) (.int i) = atI xs i := rfl
@[simp] theorem D.isi_int (x : D) : D.isi [x, .ty "int"] = x.tg.map fun t => .bl t.isInt := by cases h : x.tg <;> simp [D.isi, h]
@[simp] theorem D.isi_bool (x : D) : D.isi [x, .ty "bool"] = x.tg.map fun t => .bl t.isBool := by cases h : x.tg <;> simp [D.isi, h]
@[simp] theorem D.isi_str (x : D) : D.isi [x, .ty "str"] = x.tg.map fun t => .bl t.isStr := by cases h : x.tg <;> simp [D.isi, h]
@[simp] theorem D.isi_tup (x : D) : D.isi [x, .ty "tuple"] = x.tg.map fun t => .bl t.isTup := by cases h : x.tg <;> simp [D.isi, h]
@[simp] theorem D.isi_lst (x : D) : D.isi [x, .ty "list"] = x.tg.map fun t => .bl t.isLst := by cases h : x.tg <;> simp [D.isi, h]
@[simp] theorem D.tg_non : D.tg .non = some .non := rfl
@[simp] theorem D.tg_int : D.tg (.int i) = some .int := rfl
@[simp] theorem D.tg_bl : D.tg (.bl b) = some .bl := rfl
@[simp] theorem D.tg_str : D.tg (.str s) = some .str := rfl
@[simp] theorem D.tg_tup : D.tg (.tup xs) = some .tup := rfl
@[simp] theorem D.tg_lst : D.tg (.lst xs) = some .lst := rfl
@[simp] theorem D.tg_dct {kvs : List (Key × D)} : D.tg (.dct kvs) = some .dct := rfl
@[simp] theorem D.toTup_lst : D.toTup [.lst xs] = some (.tup xs) := rfl
@[simp] theorem D.toTup_tup : D.toTup [.tup xs] = some (.tup xs) := rfl
@[simp] theorem D.toLst_lst : D.toLst [.lst xs] = some (.lst xs) := rfl
@[simp] theorem D.toLst_tup : D.toLst [.tup xs] = some (.lst xs) := rfl
@[simp] theorem D.toInt_int : D.toInt [.int i] = some (.int i) := rfl
@[simp] theorem vD_int : vD (.int i) = .int i := rfl
@[simp] theorem vD_str : vD (.str s) = .str s := rfl
@[simp] theorem vD_bl : vD (.bl b) = .bl b := rfl
@[simp] theorem vD_non : vD .non = .non := rfl
theorem mkTup_eq (h : xs.length ≤ 1000) : mkTup xs = some (.tup xs) := by unfold mkTup; rw [if_pos h]
theorem mkOwn_eq (h : xs.length ≤ 1000) : mkOwn xs = some xs := by unfold mkOwn; rw [if_pos h]
theorem apO_eq {x : D} (h : xs.length ≤ 16000000) : apO xs x = some (xs ++ [x]) := by unfold apO; rw [if_pos h]
theorem mkLst_eq (h : xs.length ≤ 1000) : mkLst xs = some (.lst xs) := by unfold mkLst; rw [if_pos h]
end
@[simp] theorem Tg.a1 : Tg.isInt .int = true := rfl
@[simp] theorem Tg.a2 : Tg.isInt .bl = true := rfl
@[simp] theorem Tg.a3 : Tg.isInt .non = false := rfl
@[simp] theorem Tg.a4 : Tg.isInt .str = false := rfl
@[simp] theorem Tg.a5 : Tg.isInt .tup = false := rfl
@[simp] theorem Tg.a6 : Tg.isInt .lst = false := rfl
@[simp] theorem Tg.a7 : Tg.isInt .dct = false := rfl
@[simp] theorem Tg.b1 : Tg.isBool .int = false := rfl
@[simp] theorem Tg.b2 : Tg.isBool .bl = true := rfl
@[simp] theorem Tg.b3 : Tg.isBool .non = false := rfl
@[simp] theorem Tg.b4 : Tg.isBool .str = false := rfl
@[simp] theorem Tg.b5 : Tg.isBool .tup = false := rfl
@[simp] theorem Tg.b6 : Tg.isBool .lst = false := rfl
@[simp] theorem Tg.b7 : Tg.isBool .dct = false := rfl
@[simp] theorem Tg.c1 : Tg.isStr .int = false := rfl
@[simp] theorem Tg.c2 : Tg.isStr .bl = false := rfl
@[simp] theorem Tg.c3 : Tg.isStr .non = false := rfl
@[simp] theorem Tg.c4 : Tg.isStr .str = true := rfl
@[simp] theorem Tg.c5 : Tg.isStr .tup = false := rfl
@[simp] theorem Tg.c6 : Tg.isStr .lst = false := rfl
@[simp] theorem Tg.c7 : Tg.isStr .dct = false := rfl
@[simp] theorem Tg.d1 : Tg.isTup .int = false := rfl
@[simp] theorem Tg.d2 : Tg.isTup .bl = false := rfl
@[simp] theorem Tg.d3 : Tg.isTup .non = false := rfl
@[simp] theorem Tg.d4 : Tg.isTup .str = false := rfl
@[simp] theorem Tg.d5 : Tg.isTup .tup = true := rfl
@[simp] theorem Tg.d6 : Tg.isTup .lst = false := rfl
@[simp] theorem Tg.d7 : Tg.isTup .dct = false := rfl
@[simp] theorem Tg.e1 : Tg.isLst .int = false := rfl
@[simp] theorem Tg.e2 : Tg.isLst .bl = false := rfl
@[simp] theorem Tg.e3 : Tg.isLst .non = false := rfl
@[simp] theorem Tg.e4 : Tg.isLst .str = false := rfl
@[simp] theorem Tg.e5 : Tg.isLst .tup = false := rfl
@[simp] theorem Tg.e6 : Tg.isLst .lst = true := rfl
@[simp] theorem Tg.e7 : Tg.isLst .dct = false := rfl
/-! tests -/
@[simp] theorem M.ifT {α : Type} (a b : M α) : (if True then a else b) = a := if_pos trivial
@[simp] theorem atI_zero {α : Type} (x : α) (xs : List α) : atI (x :: xs) 0 = some x := by simp [atI, ixN]
@[simp] theorem atI_one {α : Type} (x y : α) (xs : List α) : atI (x :: y :: xs) 1 = some y := by
  have h : (1 : Int) < ((xs.length + 1 + 1 : Nat) : Int) := by omega
  simp only [atI, ixN, List.length_cons]
  rw [if_pos (by decide), if_pos h]
  rfl
theorem atI_get {α : Type} {xs : List α} {i : Nat} {x : α} (h : xs[i]? = some x) : atI xs (i : Int) = some x := atI_nat h
/-! draws -/
@[simp] theorem law_draw_int (l : Int) : f__law_draw (.int l) = .draw l fun r => .pure (.int r) := by rw [show f__law_draw (.int l) = .draw l fun r => .pure (.int r) from rfl]
theorem wp_draw {α : Type} {l : Int} {k : Int → M α} {n : Nat} {Q : α → Nat → Prop} {X : Nat → List (Str × D) → Nat → Prop} : wp (.draw l k) n Q X ↔ 0 < l ∧ l < 1000000 ∧ n < 1000000000 ∧ ∀ r : Int, 0 ≤ r → r < l → wp (k r) (n + 1) Q X := Iff.rfl
/-- t draws at most b numbers, leaves no error, and ends with Q -/
def Dr {α : Type} (b : Nat) (t : M α) (Q : α → Prop) : Prop := ∀ n, n + b ≤ 1000000000 → wp t n (fun a n' => n' ≤ n + b ∧ Q a) fun _ _ _ => False
section
variable {α β : Type} {b b1 b2 : Nat} {t : M α} {f : α → M β} {Q Q1 : α → Prop} {R : β → Prop}
theorem dr_pure {a : α} (h : Q a) : Dr b (.pure a) Q := fun n _ => ⟨Nat.le_add_right _ _, h⟩
theorem dr_draw {l : Int} {k : Int → M α} (h0 : 0 < l) (h1 : l < 1000000) (h : ∀ r, 0 ≤ r → r < l → Dr b (k r) Q) : Dr (b + 1) (.draw l k) Q := fun n hn =>
  ⟨h0, h1, by omega, fun r hr0 hr1 => wp_mono (h r hr0 hr1 (n + 1) (by omega)) (fun a n' _ q => ⟨by omega, q.2⟩) fun _ _ _ _ q => q⟩
theorem dr_bind (h1 : Dr b1 t Q) (h2 : ∀ a, Q a → Dr b2 (f a) R) : Dr (b1 + b2) (t.bind f) R := fun n hn =>
  wp_bind.mpr (wp_mono (h1 n (by omega)) (fun a n' _ q => wp_mono (h2 a q.2 n' (by have := q.1; omega)) (fun c n'' _ q2 => ⟨by have := q.1; have := q2.1; omega, q2.2⟩) fun _ _ _ _ q => q) fun _ _ _ _ q => q)
theorem dr_le (h : b1 ≤ b2) (d : Dr b1 t Q) : Dr b2 t Q := fun n hn => wp_mono (d n (by omega)) (fun a n' _ q => ⟨by have := q.1; omega, q.2⟩) fun _ _ _ _ q => q
theorem dr_mono (h : ∀ a, Q a → Q1 a) (d : Dr b t Q) : Dr b t Q1 := fun n hn => wp_mono (d n hn) (fun a n' _ q => ⟨q.1, h a q.2⟩) fun _ _ _ _ q => q
theorem dr_noX (d : Dr b t Q) : Dr b t.noX Q := fun n hn => by
  have h := d n hn
  clear d
  revert h
  generalize (fun (a : α) (n' : Nat) => n' ≤ n + b ∧ Q a) = QQ
  clear hn
  induction t generalizing n with
  | pure a => exact id
  | draw l k ih => exact fun h => ⟨h.1, h.2.1, h.2.2.1, fun r h0 h1 => ih r (n := n + 1) (h.2.2.2 r h0 h1)⟩
  | ex c fs => exact id
  | no => exact id
theorem wp_of_dr (d : Dr b t Q) (hb : b ≤ 1000000000) : wp t 0 (fun a _ => Q a) fun _ _ _ => False := wp_mono (d 0 (by omega)) (fun a n' _ q => q.2) fun _ _ _ _ q => q
/-! loops -/
theorem forS_dr {σ : Type} {f : σ → D → M σ} (I : Nat → σ → Prop) (c : Nat) : ∀ {ds : List D} {s : σ} {k : Nat}, I k s → (∀ i s d, ds[i]? = some d → I (k + i) s → Dr c (f s d) (I (k + i + 1))) → Dr (c * ds.length) (forS f s ds) (I (k + ds.length))
  | [], s, k, h0, _ => dr_pure h0
  | d :: ds, s, k, h0, h => by
    have e : c * (d :: ds).length = c + c * ds.length := by rw [List.length_cons, Nat.mul_succ, Nat.add_comm]
    rw [e]
    refine dr_bind (h 0 s d rfl h0) fun s' hs => ?_
    have := forS_dr I c (ds := ds) (s := s') (k := k + 1) hs fun i s2 d2 e2 h2 => by
      have q := h (i + 1) s2 d2 (by simpa using e2) (by rw [show k + (i + 1) = k + 1 + i from by omega]; exact h2)
      rw [show k + (i + 1) + 1 = k + 1 + i + 1 from by omega] at q
      exact q
    rw [show k + (d :: ds).length = k + 1 + ds.length from by simp; omega]
    exact this
/-- a loop that may end early -/
theorem forL_dr {σ : Type} {f : σ → D → M (Fl σ σ)} (I : Nat → σ → Prop) (B : σ → Prop) (Rt : D → Prop) (c : Nat) : ∀ {ds : List D} {s : σ} {k : Nat}, I k s →
    (∀ i s d, ds[i]? = some d → I (k + i) s → Dr c (f s d) fun r => match r with | .nx s => I (k + i + 1) s | .ct s => I (k + i + 1) s | .bk s => B s | .rt d => Rt d) → (∀ s, I (k + ds.length) s → B s) →
    Dr (c * ds.length) (forL f s ds) fun r => match r with | .nx s => B s | .rt d => Rt d | .ct e => nomatch e | .bk e => nomatch e
  | [], s, k, h0, _, hB => dr_pure (hB s h0)
  | d :: ds, s, k, h0, h, hB => by
    have e : c * (d :: ds).length = c + c * ds.length := by rw [List.length_cons, Nat.mul_succ, Nat.add_comm]
    rw [e]
    have go := fun s' hs => forL_dr I B Rt c (ds := ds) (s := s') (k := k + 1) hs (fun i s2 d2 e2 h2 => by
      have q := h (i + 1) s2 d2 (by simpa using e2) (by rw [show k + (i + 1) = k + 1 + i from by omega]; exact h2)
      rw [show k + (i + 1) + 1 = k + 1 + i + 1 from by omega] at q
      exact q) fun s h => hB s (by rw [show k + (d :: ds).length = k + 1 + ds.length from by simp; omega]; exact h)
    refine dr_bind (h 0 s d rfl h0) fun r hr => ?_
    cases r with
    | nx s' => exact go s' hr
    | ct s' => exact go s' hr
    | bk s' => exact dr_pure hr
    | rt d' => exact dr_pure hr
/-- a loop whose turns do nothing or leave -/
theorem forL_all {f : Unit → D → M (Fl Unit Unit)} {c : Nat} {ds : List D} (h : ∀ d ∈ ds, Dr c (f () d) fun r => r = .nx () ∨ r = .ct ()) : Dr (c * ds.length) (forL f () ds) fun r => r = .nx () := by
  refine dr_mono (fun r hr => ?_) (forL_dr (k := 0) (fun _ _ => True) (fun _ => True) (fun _ => False) c trivial (fun i s d e _ => dr_mono (fun r hr => ?_) (h d (List.mem_of_getElem? e))) fun _ _ => trivial)
  · cases r with
    | nx s => cases s; rfl
    | rt d => exact hr.elim
    | ct e => cases e
    | bk e => cases e
  · rcases hr with e | e <;> subst e <;> trivial
end
/-! loops that draw nothing -/
theorem forS_pure {σ : Type} {f : σ → D → M σ} {g : σ → D → σ} : ∀ {ds : List D} {s : σ}, (∀ s d, d ∈ ds → f s d = .pure (g s d)) → forS f s ds = .pure (ds.foldl g s)
  | [], s, _ => rfl
  | d :: ds, s, h => by
    show (f s d).bind _ = _
    rw [h s d List.mem_cons_self, M.pure_bind, forS_pure fun s d hd => h s d (List.mem_cons_of_mem _ hd)]
    rfl
theorem lcM_pure {f : D → M (Option D)} {h : D → Option D} : ∀ {ds : List D}, (∀ d ∈ ds, f d = .pure (h d)) → lcM f ds = .pure (ds.filterMap h)
  | [], _ => rfl
  | d :: ds, H => by
    rw [lcM_cons, H d List.mem_cons_self, M.pure_bind, lcM_pure fun d hd => H d (List.mem_cons_of_mem _ hd), M.pure_bind]
    cases e : h d with
    | none => simp [List.filterMap_cons, e]
    | some y => simp [List.filterMap_cons, e]
theorem lcF_of {β : Type} {pat : D → Option β} {tb : β → M Bool} {eb : β → M D} {ds : List D} {h : D → Option D} (hz : ds.length ≤ 16000000)
    (H : ∀ d ∈ ds, ((M.o (pat d)).bind fun b => (tb b).bind fun c => if c = true then (eb b).bind fun y => .pure (some y) else .pure none) = .pure (h d)) : lcF pat tb eb ds = .pure (ds.filterMap h) := by
  unfold lcF lcS
  rw [if_pos hz, lcM_pure H]
  rfl
theorem lcF_map {eb : D → M D} {ds : List D} {g : D → D} (hz : ds.length ≤ 16000000) (H : ∀ d ∈ ds, eb d = .pure (g d)) : lcF some (fun _ => .pure true) eb ds = .pure (ds.map g) := by
  rw [lcF_of (h := fun d => some (g d)) hz fun d hd => by simp [H d hd]]
  simp
theorem lcM_dr {f : D → M (Option D)} {c : Nat} (R : List D → Nat → Prop) : ∀ {ds : List D} {k : Nat} {acc : List D}, R acc k → (∀ i d acc, ds[i]? = some d → R acc (k + i) → Dr c (f d) fun o => R (acc ++ o.toList) (k + i + 1)) → Dr (c * ds.length) (lcM f ds) fun ys => R (acc ++ ys) (k + ds.length)
  | [], k, acc, h0, _ => dr_pure (by simpa using h0)
  | d :: ds, k, acc, h0, h => by
    have e : c * (d :: ds).length = c + (c * ds.length + 0) := by rw [List.length_cons, Nat.mul_succ, Nat.add_zero, Nat.add_comm]
    rw [e, lcM_cons]
    refine dr_bind (h 0 d acc rfl h0) fun o ho => dr_bind (lcM_dr R (ds := ds) (k := k + 1) (acc := acc ++ o.toList) ho fun i d2 a2 e2 h2 => ?_) fun ys hy => dr_pure ?_
    · have q := h (i + 1) d2 a2 (by simpa using e2) (by rw [show k + (i + 1) = k + 1 + i from by omega]; exact h2)
      rw [show k + (i + 1) + 1 = k + 1 + i + 1 from by omega] at q
      exact q
    · rw [show k + (d :: ds).length = k + 1 + ds.length from by simp; omega]
      rw [← List.append_assoc]
      exact hy
theorem lcF_dr {β : Type} {pat : D → Option β} {tb : β → M Bool} {eb : β → M D} {ds : List D} {c : Nat} (R : List D → Nat → Prop) (hz : ds.length ≤ 16000000) (h0 : R [] 0)
    (h : ∀ i d acc, ds[i]? = some d → R acc i → Dr c ((M.o (pat d)).bind fun b => (tb b).bind fun c => if c = true then (eb b).bind fun y => .pure (some y) else .pure none) fun o => R (acc ++ o.toList) (i + 1)) : Dr (c * ds.length) (lcF pat tb eb ds) fun ys => R ys ds.length := by
  unfold lcF lcS
  rw [if_pos hz]
  refine dr_noX ?_
  have := lcM_dr (c := c) R (ds := ds) (k := 0) (acc := []) h0 fun i d acc e r => by
    rw [Nat.zero_add] at r ⊢
    exact h i d acc e r
  simpa using this
theorem rngD_eq (n : Nat) : rngD 0 n = (List.range n).map fun i => D.int (i : Nat) := by
  unfold rngD
  congr 1
  funext i
  congr 1
  omega
theorem rg2_int {i j : Int} (h : -(2 ^ 62) ≤ i ∧ i < 2 ^ 62 ∧ -(2 ^ 62) ≤ j ∧ j < 2 ^ 62) : rg2 [.int i, .int j] = some (rngD i (j - i).toNat) := by
  show (if _ then _ else _) = _
  exact if_pos h
theorem rg1_int {j : Int} (h : -(2 ^ 62) ≤ j ∧ j < 2 ^ 62) : rg1 [.int j] = some (rngD 0 j.toNat) := by
  show (if _ then _ else _) = _
  exact if_pos h
@[simp] theorem rg1_nat (n : Nat) (h : n < 4611686018427387904 := by omega) : rg1 [.int (n : Nat)] = some (rngD 0 n) := by
  unfold rg1
  simp
  omega
/-! == of lists and tuples -/
@[simp] theorem ne_tnil0 : D.ne (.tup []) (.tup []) = some (.bl false) := by
  have h := shaped_tints []
  simp at h
  simp [D.ne, D.eqv, D.py, D.pys, h, eqv_tnil]
@[simp] theorem eq_tnil0 : D.eq (.tup []) (.tup []) = some (.bl true) := by
  have h := shaped_tints []
  simp at h
  simp [D.eq, D.eqv, D.py, D.pys, h, eqv_tnil]
end Dz
namespace Dz
open PySem PySem.Spec PyProof.Rows L2 LamX
def top (i : Nat) : Stmt := PySem.Challenge.pw_toldbyplans_k01_kinds_and_positions.main.body.getD i (.Pass ⟨0, 0, 0, 0⟩)
abbrev CL : List Nat := [3, 6, 7]
def u_is_number (v_value v_least v_most : D) : M D := (((((((M.pure v_value).bind fun x6 => ((M.pure (.ty "int")).bind fun x8 => (M.pure []).bind fun xs9 => M.pure (x8 :: xs9)).bind fun xs7 => M.pure (x6 :: xs7)).bind fun xs5 => (M.o (D.isi xs5))).bind fun x4 => (M.o (asB x4))).bind fun k3 => (M.pure (!k3))).bind fun k2 => (if k2 = true then (M.pure true) else ((((M.pure v_value).bind fun x12 => ((M.pure (.ty "bool")).bind fun x14 => (M.pure []).bind fun xs15 => M.pure (x14 :: xs15)).bind fun xs13 => M.pure (x12 :: xs13)).bind fun xs11 => (M.o (D.isi xs11))).bind fun x10 => (M.o (asB x10))))).bind fun k1 => (if k1 = true then (M.pure (.bl false)) else (((M.pure v_value).bind fun x17 => ((M.pure v_least).bind fun x18 => (M.o (D.ge x17 x18)))).bind fun x16 => ((M.o (asB x16)).bind fun k19 => (if k19 = true then (((M.pure v_most).bind fun x21 => ((M.pure .non).bind fun x22 => (M.o (D.is x21 x22)))).bind fun x20 => ((M.o (asB x20)).bind fun k23 => (if k23 = true then (M.pure (.bl true)) else ((M.pure v_value).bind fun x24 => ((M.pure v_most).bind fun x25 => (M.o (D.le x24 x25))))))) else (M.pure (.bl false)))))))
def f_is_number (v_value v_least v_most : D) : M D := (((((M.o (D.isi [v_value, .ty "int"])).bind fun x29 => (M.o (asB x29))).bind fun k28 => (M.pure (!k28))).bind fun k27 => (if k27 = true then (M.pure true) else ((M.o (D.isi [v_value, .ty "bool"])).bind fun x30 => (M.o (asB x30))))).bind fun k26 => (if k26 = true then (M.pure (.bl false)) else ((M.o (D.ge v_value v_least)).bind fun x31 => ((M.o (asB x31)).bind fun k32 => (if k32 = true then ((M.o (D.is v_most .non)).bind fun x33 => ((M.o (asB x33)).bind fun k34 => (if k34 = true then (M.pure (.bl true)) else (M.o (D.le v_value v_most))))) else (M.pure (.bl false)))))))
def sp_is_number (cs : Cs) : SpD := SpP cs (a3 f_is_number)
theorem imp_is_number {cs : Cs} : ImpP cs (sp_is_number cs) (a3 f_is_number) := fun _ _ _ _ h => h
def u_is_row (v_value v_length : D) : M D := ((((M.pure v_value).bind fun x37 => ((M.pure (.ty "tuple")).bind fun x39 => (M.pure []).bind fun xs40 => M.pure (x39 :: xs40)).bind fun xs38 => M.pure (x37 :: xs38)).bind fun xs36 => (M.o (D.isi xs36))).bind fun x35 => ((M.o (asB x35)).bind fun k41 => (if k41 = true then (((M.pure v_length).bind fun x43 => ((M.pure .non).bind fun x44 => (M.o (D.is x43 x44)))).bind fun x42 => ((M.o (asB x42)).bind fun k45 => (if k45 = true then (M.pure (.bl true)) else ((((M.pure v_value).bind fun x48 => (M.pure []).bind fun xs49 => M.pure (x48 :: xs49)).bind fun xs47 => (M.o (D.len xs47))).bind fun x46 => ((M.pure v_length).bind fun x50 => (M.o (D.eq x46 x50))))))) else (M.pure (.bl false)))))
def f_is_row (v_value v_length : D) : M D := ((M.o (D.isi [v_value, .ty "tuple"])).bind fun x51 => ((M.o (asB x51)).bind fun k52 => (if k52 = true then ((M.o (D.is v_length .non)).bind fun x53 => ((M.o (asB x53)).bind fun k54 => (if k54 = true then (M.pure (.bl true)) else ((M.o (D.len [v_value])).bind fun x55 => (M.o (D.eq x55 v_length)))))) else (M.pure (.bl false)))))
def sp_is_row (cs : Cs) : SpD := SpP cs (a2 f_is_row)
theorem imp_is_row {cs : Cs} : ImpP cs (sp_is_row cs) (a2 f_is_row) := fun _ _ _ _ h => h
def u_are_numbers (v_value v_most v_least : D) : M D := ((((M.pure v_value).bind fun x58 => (M.pure []).bind fun xs59 => M.pure (x58 :: xs59)).bind fun xs57 => ((a2 f_is_row) (xs57 ++ ([.non] : List V).map vD))).bind fun x56 => ((M.o (asB x56)).bind fun k60 => (if k60 = true then (((((M.pure v_value).bind fun x65 => (M.o (seqO x65))).bind fun ds64 => ((lcF some (fun b1 => (M.pure true)) (fun b1 => (((M.pure b1).bind fun x68 => ((M.pure v_least).bind fun x70 => ((M.pure v_most).bind fun x72 => (M.pure []).bind fun xs73 => M.pure (x72 :: xs73)).bind fun xs71 => M.pure (x70 :: xs71)).bind fun xs69 => M.pure (x68 :: xs69)).bind fun xs67 => ((a3 f_is_number) (xs67 ++ ([] : List V).map vD)))) ds64).bind fun ys66 => (M.pure (.lst ys66)))).bind fun x62 => (M.pure []).bind fun xs63 => M.pure (x62 :: xs63)).bind fun xs61 => (M.o (D.all xs61))) else (M.pure (.bl false)))))
def f_are_numbers (v_value v_most v_least : D) : M D := (((f_is_row v_value (.non))).bind fun x74 => ((M.o (asB x74)).bind fun k75 => (if k75 = true then ((((M.o (seqO v_value)).bind fun ds78 => ((lcF some (fun b1 => (M.pure true)) (fun b1 => ((f_is_number b1 v_least v_most))) ds78).bind fun ys79 => (M.pure (.lst ys79)))).bind fun x77 => (M.pure [x77])).bind fun xs76 => (M.o (D.all xs76))) else (M.pure (.bl false)))))
def sp_are_numbers (cs : Cs) : SpD := SpP cs (a3 f_are_numbers)
theorem imp_are_numbers {cs : Cs} : ImpP cs (sp_are_numbers cs) (a3 f_are_numbers) := fun _ _ _ _ h => h
def u_is_bound (v_value v_most : D) : M D := (((((M.pure v_value).bind fun x83 => ((M.pure (.ty "str")).bind fun x85 => (M.pure []).bind fun xs86 => M.pure (x85 :: xs86)).bind fun xs84 => M.pure (x83 :: xs84)).bind fun xs82 => (M.o (D.isi xs82))).bind fun x81 => (M.o (asB x81))).bind fun k80 => (if k80 = true then ((M.pure v_value).bind fun x87 => ((M.pure (.str "all")).bind fun x88 => (M.o (D.eq x87 x88)))) else (((M.pure v_value).bind fun x90 => ((M.pure (.int 1)).bind fun x92 => ((M.pure v_most).bind fun x94 => (M.pure []).bind fun xs95 => M.pure (x94 :: xs95)).bind fun xs93 => M.pure (x92 :: xs93)).bind fun xs91 => M.pure (x90 :: xs91)).bind fun xs89 => ((a3 f_is_number) (xs89 ++ ([] : List V).map vD)))))
def f_is_bound (v_value v_most : D) : M D := (((M.o (D.isi [v_value, .ty "str"])).bind fun x97 => (M.o (asB x97))).bind fun k96 => (if k96 = true then (M.o (D.eq v_value (.str "all"))) else ((f_is_number v_value (.int 1) v_most))))
def sp_is_bound (cs : Cs) : SpD := SpP cs (a2 f_is_bound)
theorem imp_is_bound {cs : Cs} : ImpP cs (sp_is_bound cs) (a2 f_is_bound) := fun _ _ _ _ h => h
def u_need_kind (v_kind : D) : M D := (((((((M.pure v_kind).bind fun x103 => ((M.pure (.int 2)).bind fun x105 => (M.pure []).bind fun xs106 => M.pure (x105 :: xs106)).bind fun xs104 => M.pure (x103 :: xs104)).bind fun xs102 => ((a2 f_is_row) (xs102 ++ ([] : List V).map vD))).bind fun x101 => (M.o (asB x101))).bind fun k100 => (M.pure (!k100))).bind fun k99 => (if k99 = true then (M.pure true) else (((((((M.pure v_kind).bind fun x113 => ((M.pure (.int 0)).bind fun x114 => (M.o (D.ix x113 x114)))).bind fun x111 => ((M.pure (.int 12)).bind fun x115 => (M.pure []).bind fun xs116 => M.pure (x115 :: xs116)).bind fun xs112 => M.pure (x111 :: xs112)).bind fun xs110 => ((a2 f_is_bound) (xs110 ++ ([] : List V).map vD))).bind fun x109 => (M.o (asB x109))).bind fun k108 => (M.pure (!k108))).bind fun k107 => (if k107 = true then (M.pure true) else ((((((M.pure v_kind).bind fun x122 => ((M.pure (.int 1)).bind fun x123 => (M.o (D.ix x122 x123)))).bind fun x120 => ((M.pure (.int 12)).bind fun x124 => (M.pure []).bind fun xs125 => M.pure (x124 :: xs125)).bind fun xs121 => M.pure (x120 :: xs121)).bind fun xs119 => ((a2 f_is_bound) (xs119 ++ ([] : List V).map vD))).bind fun x118 => (M.o (asB x118))).bind fun k117 => (M.pure (!k117))))))).bind fun k98 => (if k98 = true then ((M.pure v_kind).bind fun x126 => (M.ex 6 [("value", x126)])) else (M.pure v_kind)))
def f_need_kind (v_kind : D) : M D := ((((((f_is_row v_kind (.int 2))).bind fun x130 => (M.o (asB x130))).bind fun k129 => (M.pure (!k129))).bind fun k128 => (if k128 = true then (M.pure true) else ((((((M.o (D.ix v_kind (.int 0))).bind fun x135 => (M.pure [x135, .int 12])).bind fun xs134 => (((a2 f_is_bound) (xs134 ++ ([] : List V).map vD)))).bind fun x133 => (M.o (asB x133))).bind fun k132 => (M.pure (!k132))).bind fun k131 => (if k131 = true then (M.pure true) else (((((M.o (D.ix v_kind (.int 1))).bind fun x139 => (M.pure [x139, .int 12])).bind fun xs138 => (((a2 f_is_bound) (xs138 ++ ([] : List V).map vD)))).bind fun x137 => (M.o (asB x137))).bind fun k136 => (M.pure (!k136))))))).bind fun k127 => (if k127 = true then (M.ex 6 [("value", v_kind)]) else (M.pure v_kind)))
def sp_need_kind (cs : Cs) : SpD := SpP cs (a1 f_need_kind)
theorem imp_need_kind {cs : Cs} : ImpP cs (sp_need_kind cs) (a1 f_need_kind) := fun _ _ _ _ h => h
def u_is_most (v_one v_other : D) : M D := (((M.pure v_one).bind fun x141 => ((M.pure (.str "all")).bind fun x142 => (M.o (D.eq x141 x142)))).bind fun x140 => ((M.o (asB x140)).bind fun k143 => (if k143 = true then (M.pure (.bl true)) else (((M.pure v_other).bind fun x145 => ((M.pure (.str "all")).bind fun x146 => (M.o (D.ne x145 x146)))).bind fun x144 => ((M.o (asB x144)).bind fun k147 => (if k147 = true then ((M.pure v_one).bind fun x148 => ((M.pure v_other).bind fun x149 => (M.o (D.ge x148 x149)))) else (M.pure (.bl false))))))))
def f_is_most (v_one v_other : D) : M D := ((M.o (D.eq v_one (.str "all"))).bind fun x150 => ((M.o (asB x150)).bind fun k151 => (if k151 = true then (M.pure (.bl true)) else ((M.o (D.ne v_other (.str "all"))).bind fun x152 => ((M.o (asB x152)).bind fun k153 => (if k153 = true then (M.o (D.ge v_one v_other)) else (M.pure (.bl false))))))))
def sp_is_most (cs : Cs) : SpD := SpP cs (a2 f_is_most)
theorem imp_is_most {cs : Cs} : ImpP cs (sp_is_most cs) (a2 f_is_most) := fun _ _ _ _ h => h
def u_is_finer (v_kind v_other : D) : M D := ((((M.pure v_kind).bind fun x155 => (M.pure []).bind fun xs156 => M.pure (x155 :: xs156)).bind fun xs154 => ((a1 f_need_kind) (xs154 ++ ([] : List V).map vD))).bind fun z2 => ((((M.pure v_other).bind fun x158 => (M.pure []).bind fun xs159 => M.pure (x158 :: xs159)).bind fun xs157 => ((a1 f_need_kind) (xs157 ++ ([] : List V).map vD))).bind fun z1 => (((((M.pure v_kind).bind fun x164 => ((M.pure (.int 0)).bind fun x165 => (M.o (D.ix x164 x165)))).bind fun x162 => (((M.pure v_other).bind fun x168 => ((M.pure (.int 0)).bind fun x169 => (M.o (D.ix x168 x169)))).bind fun x166 => (M.pure []).bind fun xs167 => M.pure (x166 :: xs167)).bind fun xs163 => M.pure (x162 :: xs163)).bind fun xs161 => ((a2 f_is_most) (xs161 ++ ([] : List V).map vD))).bind fun x160 => ((M.o (asB x160)).bind fun k170 => (if k170 = true then ((((M.pure v_kind).bind fun x174 => ((M.pure (.int 1)).bind fun x175 => (M.o (D.ix x174 x175)))).bind fun x172 => (((M.pure v_other).bind fun x178 => ((M.pure (.int 1)).bind fun x179 => (M.o (D.ix x178 x179)))).bind fun x176 => (M.pure []).bind fun xs177 => M.pure (x176 :: xs177)).bind fun xs173 => M.pure (x172 :: xs173)).bind fun xs171 => ((a2 f_is_most) (xs171 ++ ([] : List V).map vD))) else (M.pure (.bl false)))))))
def f_is_finer (v_kind v_other : D) : M D := (((f_need_kind v_kind)).bind fun z2 => (((f_need_kind v_other)).bind fun z1 => ((((M.o (D.ix v_kind (.int 0))).bind fun x182 => (((M.o (D.ix v_other (.int 0))).bind fun x184 => (M.pure [x184])).bind fun xs183 => (M.pure (x182 :: xs183)))).bind fun xs181 => (((a2 f_is_most) (xs181 ++ ([] : List V).map vD)))).bind fun x180 => ((M.o (asB x180)).bind fun k185 => (if k185 = true then (((M.o (D.ix v_kind (.int 1))).bind fun x187 => (((M.o (D.ix v_other (.int 1))).bind fun x189 => (M.pure [x189])).bind fun xs188 => (M.pure (x187 :: xs188)))).bind fun xs186 => (((a2 f_is_most) (xs186 ++ ([] : List V).map vD)))) else (M.pure (.bl false)))))))
def sp_is_finer (cs : Cs) : SpD := SpP cs (a2 f_is_finer)
theorem imp_is_finer {cs : Cs} : ImpP cs (sp_is_finer cs) (a2 f_is_finer) := fun _ _ _ _ h => h
def u_all_kinds : M D := ((((M.pure (.int 1)).bind fun x191 => (((M.pure (.int 12)).bind fun x193 => ((M.pure (.int 1)).bind fun x194 => (M.o (D.add x193 x194)))).bind fun x192 => ((M.o (rgs2 x191 x192)).bind fun p195 => (M.pure (.lst (rgL p195)))))).bind fun x190 => ((((M.pure (.str "all")).bind fun x198 => (M.pure []).bind fun xs199 => M.pure (x198 :: xs199)).bind fun xs197 => (M.o (mkLst xs197))).bind fun x196 => (M.o (D.add x190 x196)))).bind fun v_pebbles1 => ((((M.pure (.int 1)).bind fun x201 => (((M.pure (.int 12)).bind fun x203 => ((M.pure (.int 1)).bind fun x204 => (M.o (D.add x203 x204)))).bind fun x202 => ((M.o (rgs2 x201 x202)).bind fun p205 => (M.pure (.lst (rgL p205)))))).bind fun x200 => ((((M.pure (.str "all")).bind fun x208 => (M.pure []).bind fun xs209 => M.pure (x208 :: xs209)).bind fun xs207 => (M.o (mkLst xs207))).bind fun x206 => (M.o (D.add x200 x206)))).bind fun v_rounds2 => (((((M.pure v_pebbles1).bind fun x214 => (M.o (seqO x214))).bind fun ds213 => ((lc2F some (fun b3 => (M.pure true)) (fun b3 => ((M.pure v_rounds2).bind fun x216 => (M.o (seqO x216)))) some (fun b3 b6 => (M.pure true)) (fun b3 b6 => (((M.pure b3).bind fun x218 => ((M.pure b6).bind fun x220 => (M.pure []).bind fun xs221 => M.pure (x220 :: xs221)).bind fun xs219 => M.pure (x218 :: xs219)).bind fun xs217 => (M.o (mkTup xs217)))) ds213).bind fun ys215 => (M.pure (.lst ys215)))).bind fun x211 => (M.pure []).bind fun xs212 => M.pure (x211 :: xs212)).bind fun xs210 => (M.o (D.toTup xs210)))))
def f_all_kinds : M D := ((((M.o (D.add (.int 12) (.int 1))).bind fun x223 => ((M.o (rgs2 (.int 1) x223)).bind fun p224 => (M.pure (.lst (rgL p224))))).bind fun x222 => ((M.o (mkLst [.str "all"])).bind fun x225 => (M.o (D.add x222 x225)))).bind fun v_pebbles1 => ((((M.o (D.add (.int 12) (.int 1))).bind fun x227 => ((M.o (rgs2 (.int 1) x227)).bind fun p228 => (M.pure (.lst (rgL p228))))).bind fun x226 => ((M.o (mkLst [.str "all"])).bind fun x229 => (M.o (D.add x226 x229)))).bind fun v_rounds2 => ((((M.o (seqO v_pebbles1)).bind fun ds232 => ((lc2F some (fun b3 => (M.pure true)) (fun b3 => (M.o (seqO v_rounds2))) some (fun b3 b6 => (M.pure true)) (fun b3 b6 => (M.o (mkTup [b3, b6]))) ds232).bind fun ys233 => (M.pure (.lst ys233)))).bind fun x231 => (M.pure [x231])).bind fun xs230 => (M.o (D.toTup xs230)))))
def sp_all_kinds (cs : Cs) : SpD := SpP cs (a0 f_all_kinds)
theorem imp_all_kinds {cs : Cs} : ImpP cs (sp_all_kinds cs) (a0 f_all_kinds) := fun _ _ _ _ h => h
def u_is_door (v_rooms v_value : D) : M D := (((((((M.pure v_value).bind fun x239 => ((M.pure (.int 2)).bind fun x241 => (M.pure []).bind fun xs242 => M.pure (x241 :: xs242)).bind fun xs240 => M.pure (x239 :: xs240)).bind fun xs238 => ((a2 f_is_row) (xs238 ++ ([] : List V).map vD))).bind fun x237 => (M.o (asB x237))).bind fun k236 => (M.pure (!k236))).bind fun k235 => (if k235 = true then (M.pure true) else ((((((M.pure v_value).bind fun x248 => ((M.pure (.int 0)).bind fun x249 => (M.o (D.ix x248 x249)))).bind fun x246 => ((M.pure (.int 0)).bind fun x250 => (M.pure []).bind fun xs251 => M.pure (x250 :: xs251)).bind fun xs247 => M.pure (x246 :: xs247)).bind fun xs245 => ((a3 f_is_number) (xs245 ++ ([.non] : List V).map vD))).bind fun x244 => (M.o (asB x244))).bind fun k243 => (M.pure (!k243))))).bind fun k234 => (if k234 = true then (M.pure (.bl false)) else ((((M.pure v_value).bind fun x255 => ((M.pure (.int 1)).bind fun x256 => (M.o (D.ix x255 x256)))).bind fun x253 => ((((M.pure v_value).bind fun x260 => ((M.pure (.int 0)).bind fun x261 => (M.o (D.ix x260 x261)))).bind fun x259 => ((M.pure (.int 1)).bind fun x262 => (M.o (D.add x259 x262)))).bind fun x257 => (((M.pure v_rooms).bind fun x265 => ((M.pure (.int 1)).bind fun x266 => (M.o (D.sub x265 x266)))).bind fun x263 => (M.pure []).bind fun xs264 => M.pure (x263 :: xs264)).bind fun xs258 => M.pure (x257 :: xs258)).bind fun xs254 => M.pure (x253 :: xs254)).bind fun xs252 => ((a3 f_is_number) (xs252 ++ ([] : List V).map vD)))))
def f_is_door (v_rooms v_value : D) : M D := ((((((f_is_row v_value (.int 2))).bind fun x270 => (M.o (asB x270))).bind fun k269 => (M.pure (!k269))).bind fun k268 => (if k268 = true then (M.pure true) else (((((M.o (D.ix v_value (.int 0))).bind fun x274 => (M.pure [x274, .int 0])).bind fun xs273 => (((a3 f_is_number) (xs273 ++ ([.non] : List V).map vD)))).bind fun x272 => (M.o (asB x272))).bind fun k271 => (M.pure (!k271))))).bind fun k267 => (if k267 = true then (M.pure (.bl false)) else (((M.o (D.ix v_value (.int 1))).bind fun x276 => ((((M.o (D.ix v_value (.int 0))).bind fun x279 => (M.o (D.add x279 (.int 1)))).bind fun x278 => (((M.o (D.sub v_rooms (.int 1))).bind fun x281 => (M.pure [x281])).bind fun xs280 => (M.pure (x278 :: xs280)))).bind fun xs277 => (M.pure (x276 :: xs277)))).bind fun xs275 => (((a3 f_is_number) (xs275 ++ ([] : List V).map vD))))))
def sp_is_door (cs : Cs) : SpD := SpP cs (a2 f_is_door)
theorem imp_is_door {cs : Cs} : ImpP cs (sp_is_door cs) (a2 f_is_door) := fun _ _ _ _ h => h
def u_house_fault (v_value v_most : D) : M D := (((((((M.pure v_value).bind fun x287 => ((M.pure (.int 2)).bind fun x289 => (M.pure []).bind fun xs290 => M.pure (x289 :: xs290)).bind fun xs288 => M.pure (x287 :: xs288)).bind fun xs286 => ((a2 f_is_row) (xs286 ++ ([] : List V).map vD))).bind fun x285 => (M.o (asB x285))).bind fun k284 => (M.pure (!k284))).bind fun k283 => (if k283 = true then (M.pure true) else (((((((M.pure v_value).bind fun x297 => ((M.pure (.int 0)).bind fun x298 => (M.o (D.ix x297 x298)))).bind fun x295 => (M.pure []).bind fun xs296 => M.pure (x295 :: xs296)).bind fun xs294 => ((a2 f_is_row) (xs294 ++ ([.non] : List V).map vD))).bind fun x293 => (M.o (asB x293))).bind fun k292 => (M.pure (!k292))).bind fun k291 => (if k291 = true then (M.pure true) else ((((((M.pure v_value).bind fun x304 => ((M.pure (.int 1)).bind fun x305 => (M.o (D.ix x304 x305)))).bind fun x302 => (M.pure []).bind fun xs303 => M.pure (x302 :: xs303)).bind fun xs301 => ((a2 f_is_row) (xs301 ++ ([.non] : List V).map vD))).bind fun x300 => (M.o (asB x300))).bind fun k299 => (M.pure (!k299))))))).bind fun k282 => (if k282 = true then (((M.pure (.str "form")).bind fun x307 => (M.pure []).bind fun xs308 => M.pure (x307 :: xs308)).bind fun xs306 => (M.o (mkTup xs306))) else (((((((M.pure v_value).bind fun x315 => ((M.pure (.int 0)).bind fun x316 => (M.o (D.ix x315 x316)))).bind fun x313 => (M.pure []).bind fun xs314 => M.pure (x313 :: xs314)).bind fun xs312 => (M.o (D.len xs312))).bind fun x311 => ((M.pure v_most).bind fun x317 => (M.o (D.gt x311 x317)))).bind fun x310 => (M.o (asB x310))).bind fun k309 => (if k309 = true then (((M.pure (.str "many")).bind fun x319 => (M.pure []).bind fun xs320 => M.pure (x319 :: xs320)).bind fun xs318 => (M.o (mkTup xs318))) else (((((((M.pure v_value).bind fun x327 => ((M.pure (.int 0)).bind fun x328 => (M.o (D.ix x327 x328)))).bind fun x325 => ((M.pure (.int 9)).bind fun x329 => (M.pure []).bind fun xs330 => M.pure (x329 :: xs330)).bind fun xs326 => M.pure (x325 :: xs326)).bind fun xs324 => ((a3 f_are_numbers) (xs324 ++ ([.int 0] : List V).map vD))).bind fun x323 => (M.o (asB x323))).bind fun k322 => (M.pure (!k322))).bind fun k321 => (if k321 = true then (((M.pure (.str "colours")).bind fun x332 => (M.pure []).bind fun xs333 => M.pure (x332 :: xs333)).bind fun xs331 => (M.o (mkTup xs331))) else ((((((M.pure v_value).bind fun x338 => ((M.pure (.int 1)).bind fun x339 => (M.o (D.ix x338 x339)))).bind fun x336 => (M.pure []).bind fun xs337 => M.pure (x336 :: xs337)).bind fun xs335 => (M.o (enO xs335))).bind fun ds334 => ((forL (σ := Unit) (fun s1 d => (M.o (un2 d)).bind fun b2 => ((((((((((M.pure v_value).bind fun x350 => ((M.pure (.int 0)).bind fun x351 => (M.o (D.ix x350 x351)))).bind fun x348 => (M.pure []).bind fun xs349 => M.pure (x348 :: xs349)).bind fun xs347 => (M.o (D.len xs347))).bind fun x345 => ((M.pure b2.2).bind fun x352 => (M.pure []).bind fun xs353 => M.pure (x352 :: xs353)).bind fun xs346 => M.pure (x345 :: xs346)).bind fun xs344 => ((a2 f_is_door) (xs344 ++ ([] : List V).map vD))).bind fun x343 => (M.o (asB x343))).bind fun k342 => (M.pure (!k342))).bind fun k341 => (if k341 = true then (M.pure true) else ((((M.pure b2.1).bind fun x356 => ((M.pure (.int 0)).bind fun x357 => (M.o (D.gt x356 x357)))).bind fun x355 => (M.o (asB x355))).bind fun k354 => (if k354 = true then (((M.pure b2.2).bind fun x359 => ((((M.pure v_value).bind fun x362 => ((M.pure (.int 1)).bind fun x363 => (M.o (D.ix x362 x363)))).bind fun x361 => (((M.pure b2.1).bind fun x365 => ((M.pure (.int 1)).bind fun x366 => (M.o (D.sub x365 x366)))).bind fun x364 => (M.o (D.ix x361 x364)))).bind fun x360 => (M.o (D.le x359 x360)))).bind fun x358 => (M.o (asB x358))) else (M.pure false))))).bind fun k340 => (if k340 = true then ((((M.pure b2.1).bind fun x369 => (M.pure []).bind fun xs370 => M.pure (x369 :: xs370)).bind fun xs368 => (M.o (mkTup xs368))).bind fun d367 => (M.pure (.rt d367))) else (M.pure (.nx (())))))) () ds334).bind fun f => M.pure f)).bind (flT fun s3 => ((M.pure []).bind fun xs371 => (M.o (mkTup xs371)))))))))))
def f_house_fault (v_value v_most : D) : M D := ((((((f_is_row v_value (.int 2))).bind fun x375 => (M.o (asB x375))).bind fun k374 => (M.pure (!k374))).bind fun k373 => (if k373 = true then (M.pure true) else ((((((M.o (D.ix v_value (.int 0))).bind fun x380 => (M.pure [x380])).bind fun xs379 => (((a2 f_is_row) (xs379 ++ ([.non] : List V).map vD)))).bind fun x378 => (M.o (asB x378))).bind fun k377 => (M.pure (!k377))).bind fun k376 => (if k376 = true then (M.pure true) else (((((M.o (D.ix v_value (.int 1))).bind fun x384 => (M.pure [x384])).bind fun xs383 => (((a2 f_is_row) (xs383 ++ ([.non] : List V).map vD)))).bind fun x382 => (M.o (asB x382))).bind fun k381 => (M.pure (!k381))))))).bind fun k372 => (if k372 = true then (M.o (mkTup [.str "form"])) else ((((((M.o (D.ix v_value (.int 0))).bind fun x389 => (M.pure [x389])).bind fun xs388 => (M.o (D.len xs388))).bind fun x387 => (M.o (D.gt x387 v_most))).bind fun x386 => (M.o (asB x386))).bind fun k385 => (if k385 = true then (M.o (mkTup [.str "many"])) else ((((((M.o (D.ix v_value (.int 0))).bind fun x394 => (M.pure [x394, .int 9])).bind fun xs393 => (((a3 f_are_numbers) (xs393 ++ ([.int 0] : List V).map vD)))).bind fun x392 => (M.o (asB x392))).bind fun k391 => (M.pure (!k391))).bind fun k390 => (if k390 = true then (M.o (mkTup [.str "colours"])) else (((((M.o (D.ix v_value (.int 1))).bind fun x397 => (M.pure [x397])).bind fun xs396 => (M.o (enO xs396))).bind fun ds395 => ((forL (σ := Unit) (fun s1 d => (M.o (un2 d)).bind fun b2 => (((((((((M.o (D.ix v_value (.int 0))).bind fun x405 => (M.pure [x405])).bind fun xs404 => (M.o (D.len xs404))).bind fun x403 => (M.pure [x403, b2.2])).bind fun xs402 => (((a2 f_is_door) (xs402 ++ ([] : List V).map vD)))).bind fun x401 => (M.o (asB x401))).bind fun k400 => (M.pure (!k400))).bind fun k399 => (if k399 = true then (M.pure true) else (((M.o (D.gt b2.1 (.int 0))).bind fun x407 => (M.o (asB x407))).bind fun k406 => (if k406 = true then ((((M.o (D.ix v_value (.int 1))).bind fun x410 => ((M.o (D.sub b2.1 (.int 1))).bind fun x411 => (M.o (D.ix x410 x411)))).bind fun x409 => (M.o (D.le b2.2 x409))).bind fun x408 => (M.o (asB x408))) else (M.pure false))))).bind fun k398 => (if k398 = true then ((M.o (mkTup [b2.1])).bind fun d412 => (M.pure (.rt d412))) else (M.pure (.nx (())))))) () ds395).bind fun f => M.pure f)).bind (flT fun s3 => (M.o (mkTup []))))))))))
def sp_house_fault (cs : Cs) : SpD := SpP cs (a2 f_house_fault)
theorem imp_house_fault {cs : Cs} : ImpP cs (sp_house_fault cs) (a2 f_house_fault) := fun _ _ _ _ h => h
def u_need_house (v_house : D) : M D := ((((M.pure v_house).bind fun x414 => ((M.pure (.int 60)).bind fun x416 => (M.pure []).bind fun xs417 => M.pure (x416 :: xs417)).bind fun xs415 => M.pure (x414 :: xs415)).bind fun xs413 => ((a2 f_house_fault) (xs413 ++ ([] : List V).map vD))).bind fun v_fault1 => ((((M.pure v_fault1).bind fun x420 => (((M.pure []).bind fun xs422 => (M.o (mkTup xs422))).bind fun x421 => (M.o (D.ne x420 x421)))).bind fun x419 => (M.o (asB x419))).bind fun k418 => (if k418 = true then (((M.pure v_fault1).bind fun x424 => ((M.pure (.int 0)).bind fun x425 => (M.o (D.ix x424 x425)))).bind fun x423 => (M.ex 3 [("place", x423)])) else (M.pure v_house))))
def f_need_house (v_house : D) : M D := (((f_house_fault v_house (.int 60))).bind fun v_fault1 => ((((M.o (mkTup [])).bind fun x428 => (M.o (D.ne v_fault1 x428))).bind fun x427 => (M.o (asB x427))).bind fun k426 => (if k426 = true then ((M.o (D.ix v_fault1 (.int 0))).bind fun x429 => (M.ex 3 [("place", x429)])) else (M.pure v_house))))
def sp_need_house (cs : Cs) : SpD := SpP cs (a1 f_need_house)
theorem imp_need_house {cs : Cs} : ImpP cs (sp_need_house cs) (a1 f_need_house) := fun _ _ _ _ h => h
def u_need_position (v_house v_position : D) : M D := ((((M.pure v_house).bind fun x431 => (M.pure []).bind fun xs432 => M.pure (x431 :: xs432)).bind fun xs430 => ((a1 f_need_house) (xs430 ++ ([] : List V).map vD))).bind fun z4 => (((((((M.pure v_position).bind fun x438 => (M.pure []).bind fun xs439 => M.pure (x438 :: xs439)).bind fun xs437 => ((a2 f_is_row) (xs437 ++ ([.non] : List V).map vD))).bind fun x436 => (M.o (asB x436))).bind fun k435 => (M.pure (!k435))).bind fun k434 => (if k434 = true then (M.pure true) else (((((M.pure v_position).bind fun x443 => (M.pure []).bind fun xs444 => M.pure (x443 :: xs444)).bind fun xs442 => (M.o (D.len xs442))).bind fun x441 => ((M.pure (.int 12)).bind fun x445 => (M.o (D.gt x441 x445)))).bind fun x440 => (M.o (asB x440))))).bind fun k433 => (if k433 = true then ((M.pure v_position).bind fun x446 => (M.ex 7 [("value", x446)])) else ((((M.pure v_position).bind fun x448 => (M.o (seqO x448))).bind fun ds447 => (forS (σ := Unit) (fun s1 d => (M.o (some d)).bind fun b2 => (((((M.pure b2).bind fun x452 => ((M.pure .non).bind fun x453 => (M.o (D.isnot x452 x453)))).bind fun x451 => (M.o (asB x451))).bind fun k450 => (if k450 = true then (((((M.pure b2).bind fun x457 => ((M.pure (.int 0)).bind fun x459 => ((((((M.pure v_house).bind fun x467 => ((M.pure (.int 0)).bind fun x468 => (M.o (D.ix x467 x468)))).bind fun x465 => (M.pure []).bind fun xs466 => M.pure (x465 :: xs466)).bind fun xs464 => (M.o (D.len xs464))).bind fun x463 => ((M.pure (.int 1)).bind fun x469 => (M.o (D.sub x463 x469)))).bind fun x461 => (M.pure []).bind fun xs462 => M.pure (x461 :: xs462)).bind fun xs460 => M.pure (x459 :: xs460)).bind fun xs458 => M.pure (x457 :: xs458)).bind fun xs456 => ((a3 f_is_number) (xs456 ++ ([] : List V).map vD))).bind fun x455 => (M.o (asB x455))).bind fun k454 => (M.pure (!k454))) else (M.pure false))).bind fun k449 => (if k449 = true then ((M.pure v_position).bind fun x470 => (M.ex 7 [("value", x470)])) else (M.pure ())))) () ds447)).bind fun s3 => (M.pure v_position)))))
def f_need_position (v_house v_position : D) : M D := (((f_need_house v_house)).bind fun z4 => ((((((f_is_row v_position (.non))).bind fun x474 => (M.o (asB x474))).bind fun k473 => (M.pure (!k473))).bind fun k472 => (if k472 = true then (M.pure true) else (((M.o (D.len [v_position])).bind fun x476 => (M.o (D.gt x476 (.int 12)))).bind fun x475 => (M.o (asB x475))))).bind fun k471 => (if k471 = true then (M.ex 7 [("value", v_position)]) else (((M.o (seqO v_position)).bind fun ds477 => (forS (σ := Unit) (fun s1 d => (M.o (some d)).bind fun b2 => ((((M.o (D.isnot b2 .non)).bind fun x480 => (M.o (asB x480))).bind fun k479 => (if k479 = true then ((((((((((M.o (D.ix v_house (.int 0))).bind fun x489 => (M.pure [x489])).bind fun xs488 => (M.o (D.len xs488))).bind fun x487 => (M.o (D.sub x487 (.int 1)))).bind fun x486 => (M.pure [x486])).bind fun xs485 => (M.pure ((.int 0) :: xs485))).bind fun xs484 => (M.pure (b2 :: xs484))).bind fun xs483 => (((a3 f_is_number) (xs483 ++ ([] : List V).map vD)))).bind fun x482 => (M.o (asB x482))).bind fun k481 => (M.pure (!k481))) else (M.pure false))).bind fun k478 => (if k478 = true then (M.ex 7 [("value", v_position)]) else (M.pure ())))) () ds477)).bind fun s3 => (M.pure v_position)))))
def sp_need_position (cs : Cs) : SpD := SpP cs (a2 f_need_position)
theorem imp_need_position {cs : Cs} : ImpP cs (sp_need_position cs) (a2 f_need_position) := fun _ _ _ _ h => h
-- HAND _law_mixed
-- HAND _law_folded
-- HAND _law_draw
-- HAND _law_begun
def u__law_of (v_some : D) : M D := ((M.pure v_some).bind fun x490 => ((((((M.pure v_some).bind fun x496 => (M.pure []).bind fun xs497 => M.pure (x496 :: xs497)).bind fun xs495 => (M.o (D.len xs495))).bind fun x493 => (M.pure []).bind fun xs494 => M.pure (x493 :: xs494)).bind fun xs492 => ((a1 f__law_draw) (xs492 ++ ([] : List V).map vD))).bind fun x491 => (M.o (D.ix x490 x491))))
def f__law_of (v_some : D) : M D := ((((M.o (D.len [v_some])).bind fun x500 => (M.pure [x500])).bind fun xs499 => (((a1 f__law_draw) (xs499 ++ ([] : List V).map vD)))).bind fun x498 => (M.o (D.ix v_some x498)))
def sp__law_of (cs : Cs) : SpD := SpG cs (a1 f__law_of)
theorem imp__law_of {cs : Cs} : ImpG cs (sp__law_of cs) (a1 f__law_of) := fun _ _ _ _ h => h
def v__law_like (self : D → D → M D) (v_got v_due : D) : M D := ((((M.pure v_due).bind fun x503 => ((M.pure .non).bind fun x504 => (M.o (D.is x503 x504)))).bind fun x502 => (M.o (asB x502))).bind fun k501 => (if k501 = true then ((M.pure v_got).bind fun x505 => ((M.pure .non).bind fun x506 => (M.o (D.is x505 x506)))) else (((((M.pure v_due).bind fun x510 => ((M.pure (.ty "bool")).bind fun x512 => (M.pure []).bind fun xs513 => M.pure (x512 :: xs513)).bind fun xs511 => M.pure (x510 :: xs511)).bind fun xs509 => (M.o (D.isi xs509))).bind fun x508 => (M.o (asB x508))).bind fun k507 => (if k507 = true then ((((M.pure v_got).bind fun x516 => ((M.pure (.ty "bool")).bind fun x518 => (M.pure []).bind fun xs519 => M.pure (x518 :: xs519)).bind fun xs517 => M.pure (x516 :: xs517)).bind fun xs515 => (M.o (D.isi xs515))).bind fun x514 => ((M.o (asB x514)).bind fun k520 => (if k520 = true then ((M.pure v_got).bind fun x521 => ((M.pure v_due).bind fun x522 => (M.o (D.eq x521 x522)))) else (M.pure (.bl false))))) else (((((M.pure v_due).bind fun x526 => ((M.pure (.ty "int")).bind fun x528 => (M.pure []).bind fun xs529 => M.pure (x528 :: xs529)).bind fun xs527 => M.pure (x526 :: xs527)).bind fun xs525 => (M.o (D.isi xs525))).bind fun x524 => (M.o (asB x524))).bind fun k523 => (if k523 = true then ((((M.pure v_got).bind fun x532 => ((M.pure (.ty "int")).bind fun x534 => (M.pure []).bind fun xs535 => M.pure (x534 :: xs535)).bind fun xs533 => M.pure (x532 :: xs533)).bind fun xs531 => (M.o (D.isi xs531))).bind fun x530 => ((M.o (asB x530)).bind fun k536 => (if k536 = true then (((((M.pure v_got).bind fun x540 => ((M.pure (.ty "bool")).bind fun x542 => (M.pure []).bind fun xs543 => M.pure (x542 :: xs543)).bind fun xs541 => M.pure (x540 :: xs541)).bind fun xs539 => (M.o (D.isi xs539))).bind fun x538 => ((M.o (asB x538)).bind fun k544 => (M.pure (.bl (!k544))))).bind fun x537 => ((M.o (asB x537)).bind fun k545 => (if k545 = true then ((M.pure v_got).bind fun x546 => ((M.pure v_due).bind fun x547 => (M.o (D.eq x546 x547)))) else (M.pure (.bl false))))) else (M.pure (.bl false))))) else (((((M.pure v_due).bind fun x551 => ((M.pure (.ty "str")).bind fun x553 => (M.pure []).bind fun xs554 => M.pure (x553 :: xs554)).bind fun xs552 => M.pure (x551 :: xs552)).bind fun xs550 => (M.o (D.isi xs550))).bind fun x549 => (M.o (asB x549))).bind fun k548 => (if k548 = true then ((((M.pure v_got).bind fun x557 => ((M.pure (.ty "str")).bind fun x559 => (M.pure []).bind fun xs560 => M.pure (x559 :: xs560)).bind fun xs558 => M.pure (x557 :: xs558)).bind fun xs556 => (M.o (D.isi xs556))).bind fun x555 => ((M.o (asB x555)).bind fun k561 => (if k561 = true then ((M.pure v_got).bind fun x562 => ((M.pure v_due).bind fun x563 => (M.o (D.eq x562 x563)))) else (M.pure (.bl false))))) else (((((((M.pure v_due).bind fun x569 => ((M.pure (.ty "tuple")).bind fun x571 => (M.pure []).bind fun xs572 => M.pure (x571 :: xs572)).bind fun xs570 => M.pure (x569 :: xs570)).bind fun xs568 => (M.o (D.isi xs568))).bind fun x567 => (M.o (asB x567))).bind fun k566 => (if k566 = true then (((((M.pure v_got).bind fun x576 => ((M.pure (.ty "tuple")).bind fun x578 => (M.pure []).bind fun xs579 => M.pure (x578 :: xs579)).bind fun xs577 => M.pure (x576 :: xs577)).bind fun xs575 => (M.o (D.isi xs575))).bind fun x574 => (M.o (asB x574))).bind fun k573 => (M.pure (!k573))) else (M.pure false))).bind fun k565 => (if k565 = true then (M.pure true) else (((((M.pure v_due).bind fun x583 => ((M.pure (.ty "list")).bind fun x585 => (M.pure []).bind fun xs586 => M.pure (x585 :: xs586)).bind fun xs584 => M.pure (x583 :: xs584)).bind fun xs582 => (M.o (D.isi xs582))).bind fun x581 => (M.o (asB x581))).bind fun k580 => (if k580 = true then (((((M.pure v_got).bind fun x590 => ((M.pure (.ty "list")).bind fun x592 => (M.pure []).bind fun xs593 => M.pure (x592 :: xs593)).bind fun xs591 => M.pure (x590 :: xs591)).bind fun xs589 => (M.o (D.isi xs589))).bind fun x588 => (M.o (asB x588))).bind fun k587 => (M.pure (!k587))) else (M.pure false))))).bind fun k564 => (if k564 = true then (M.pure (.bl false)) else ((((((M.pure v_got).bind fun x598 => (M.pure []).bind fun xs599 => M.pure (x598 :: xs599)).bind fun xs597 => (M.o (D.len xs597))).bind fun x596 => ((((M.pure v_due).bind fun x602 => (M.pure []).bind fun xs603 => M.pure (x602 :: xs603)).bind fun xs601 => (M.o (D.len xs601))).bind fun x600 => (M.o (D.ne x596 x600)))).bind fun x595 => (M.o (asB x595))).bind fun k594 => (if k594 = true then (M.pure (.bl false)) else (((((((M.pure v_due).bind fun x609 => (M.pure []).bind fun xs610 => M.pure (x609 :: xs610)).bind fun xs608 => (M.o (D.len xs608))).bind fun x606 => (M.pure []).bind fun xs607 => M.pure (x606 :: xs607)).bind fun xs605 => (M.o (rg1 xs605))).bind fun ds604 => ((forL (σ := Unit) (fun s1 d => (M.o (some d)).bind fun b2 => (((((((M.pure v_got).bind fun x617 => ((M.pure b2).bind fun x618 => (M.o (D.ix x617 x618)))).bind fun x615 => (((M.pure v_due).bind fun x621 => ((M.pure b2).bind fun x622 => (M.o (D.ix x621 x622)))).bind fun x619 => (M.pure []).bind fun xs620 => M.pure (x619 :: xs620)).bind fun xs616 => M.pure (x615 :: xs616)).bind fun xs614 => ((a2 self) (xs614 ++ ([] : List V).map vD))).bind fun x613 => (M.o (asB x613))).bind fun k612 => (M.pure (!k612))).bind fun k611 => (if k611 = true then ((M.pure (.bl false)).bind fun d623 => (M.pure (.rt d623))) else (M.pure (.nx (())))))) () ds604).bind fun f => M.pure f)).bind (flT fun s3 => (M.pure (.bl true))))))))))))))))
def g__law_like (self : D → D → M D) (v_got v_due : D) : M D := (((M.o (D.is v_due .non)).bind fun x625 => (M.o (asB x625))).bind fun k624 => (if k624 = true then (M.o (D.is v_got .non)) else (((M.o (D.isi [v_due, .ty "bool"])).bind fun x627 => (M.o (asB x627))).bind fun k626 => (if k626 = true then ((M.o (D.isi [v_got, .ty "bool"])).bind fun x628 => ((M.o (asB x628)).bind fun k629 => (if k629 = true then (M.o (D.eq v_got v_due)) else (M.pure (.bl false))))) else (((M.o (D.isi [v_due, .ty "int"])).bind fun x631 => (M.o (asB x631))).bind fun k630 => (if k630 = true then ((M.o (D.isi [v_got, .ty "int"])).bind fun x632 => ((M.o (asB x632)).bind fun k633 => (if k633 = true then (((M.o (D.isi [v_got, .ty "bool"])).bind fun x635 => ((M.o (asB x635)).bind fun k636 => (M.pure (.bl (!k636))))).bind fun x634 => ((M.o (asB x634)).bind fun k637 => (if k637 = true then (M.o (D.eq v_got v_due)) else (M.pure (.bl false))))) else (M.pure (.bl false))))) else (((M.o (D.isi [v_due, .ty "str"])).bind fun x639 => (M.o (asB x639))).bind fun k638 => (if k638 = true then ((M.o (D.isi [v_got, .ty "str"])).bind fun x640 => ((M.o (asB x640)).bind fun k641 => (if k641 = true then (M.o (D.eq v_got v_due)) else (M.pure (.bl false))))) else (((((M.o (D.isi [v_due, .ty "tuple"])).bind fun x645 => (M.o (asB x645))).bind fun k644 => (if k644 = true then (((M.o (D.isi [v_got, .ty "tuple"])).bind fun x647 => (M.o (asB x647))).bind fun k646 => (M.pure (!k646))) else (M.pure false))).bind fun k643 => (if k643 = true then (M.pure true) else (((M.o (D.isi [v_due, .ty "list"])).bind fun x649 => (M.o (asB x649))).bind fun k648 => (if k648 = true then (((M.o (D.isi [v_got, .ty "list"])).bind fun x651 => (M.o (asB x651))).bind fun k650 => (M.pure (!k650))) else (M.pure false))))).bind fun k642 => (if k642 = true then (M.pure (.bl false)) else ((((M.o (D.len [v_got])).bind fun x654 => ((M.o (D.len [v_due])).bind fun x655 => (M.o (D.ne x654 x655)))).bind fun x653 => (M.o (asB x653))).bind fun k652 => (if k652 = true then (M.pure (.bl false)) else (((((M.o (D.len [v_due])).bind fun x658 => (M.pure [x658])).bind fun xs657 => (M.o (rg1 xs657))).bind fun ds656 => ((forL (σ := Unit) (fun s1 d => (M.o (some d)).bind fun b2 => ((((((M.o (D.ix v_got b2)).bind fun x663 => (((M.o (D.ix v_due b2)).bind fun x665 => (M.pure [x665])).bind fun xs664 => (M.pure (x663 :: xs664)))).bind fun xs662 => (((a2 self) (xs662 ++ ([] : List V).map vD)))).bind fun x661 => (M.o (asB x661))).bind fun k660 => (M.pure (!k660))).bind fun k659 => (if k659 = true then (M.pure (.rt (.bl false))) else (M.pure (.nx (())))))) () ds656).bind fun f => M.pure f)).bind (flT fun s3 => (M.pure (.bl true))))))))))))))))
def f__law_like : Nat → D → D → M D
  | 0 => fun _ _ => .no
  | k0 + 1 => g__law_like (f__law_like k0)
theorem f__law_like_succ (k0 : Nat) : f__law_like (k0 + 1) = g__law_like (f__law_like k0) := rfl
def sp__law_like (cs : Cs) (k0 : Nat) : SpD := SpP cs (a2 (f__law_like k0))
theorem imp__law_like {cs : Cs} {k0 : Nat} : ImpP cs (sp__law_like cs k0) (a2 (f__law_like k0)) := fun _ _ _ _ h => h
def u__law_house (v_rooms v_colours : D) : M D := ((((((M.pure []).bind fun xs670 => (M.o (mkLst xs670))).bind fun x668 => ((((M.pure (.int 5)).bind fun x674 => (M.pure []).bind fun xs675 => M.pure (x674 :: xs675)).bind fun xs673 => ((a1 f__law_draw) (xs673 ++ ([] : List V).map vD))).bind fun x671 => (M.pure []).bind fun xs672 => M.pure (x671 :: xs672)).bind fun xs669 => M.pure (x668 :: xs669)).bind fun xs667 => (M.o (mkTup xs667))).bind fun x666 => (M.o (un2 x666))).bind fun b1 => (((((M.pure v_rooms).bind fun x678 => (M.pure []).bind fun xs679 => M.pure (x678 :: xs679)).bind fun xs677 => (M.o (rg1 xs677))).bind fun ds676 => (forS (σ := D) (fun s2 d => (M.o (some d)).bind fun b3 => (((M.pure s2).bind fun x680 => ((((((M.pure b3).bind fun x686 => ((M.pure (.int 1)).bind fun x687 => (M.o (D.add x686 x687)))).bind fun x684 => ((M.pure v_rooms).bind fun x688 => (M.pure []).bind fun xs689 => M.pure (x688 :: xs689)).bind fun xs685 => M.pure (x684 :: xs685)).bind fun xs683 => (M.o (rg2 xs683))).bind fun ds682 => ((lcF some (fun b5 => (((((M.pure (.int 4)).bind fun x694 => (M.pure []).bind fun xs695 => M.pure (x694 :: xs695)).bind fun xs693 => ((a1 f__law_draw) (xs693 ++ ([] : List V).map vD))).bind fun x692 => ((M.pure b1.2).bind fun x696 => (M.o (D.lt x692 x696)))).bind fun x691 => (M.o (asB x691)))) (fun b5 => (((M.pure b3).bind fun x698 => ((M.pure b5).bind fun x700 => (M.pure []).bind fun xs701 => M.pure (x700 :: xs701)).bind fun xs699 => M.pure (x698 :: xs699)).bind fun xs697 => (M.o (mkTup xs697)))) ds682).bind fun ys690 => (M.pure (.lst ys690)))).bind fun x681 => (M.o (D.add x680 x681)))).bind fun v_found8 => (M.pure v_found8))) b1.1 ds676)).bind fun s4 => ((((((((M.pure v_rooms).bind fun x710 => (M.pure []).bind fun xs711 => M.pure (x710 :: xs711)).bind fun xs709 => (M.o (rg1 xs709))).bind fun ds708 => ((lcF some (fun b9 => (M.pure true)) (fun b9 => (((M.pure v_colours).bind fun x714 => (M.pure []).bind fun xs715 => M.pure (x714 :: xs715)).bind fun xs713 => ((a1 f__law_draw) (xs713 ++ ([] : List V).map vD)))) ds708).bind fun ys712 => (M.pure (.lst ys712)))).bind fun x706 => (M.pure []).bind fun xs707 => M.pure (x706 :: xs707)).bind fun xs705 => (M.o (D.toTup xs705))).bind fun x703 => ((((M.pure s4).bind fun x719 => (M.pure []).bind fun xs720 => M.pure (x719 :: xs720)).bind fun xs718 => (M.o (D.toTup xs718))).bind fun x716 => (M.pure []).bind fun xs717 => M.pure (x716 :: xs717)).bind fun xs704 => M.pure (x703 :: xs704)).bind fun xs702 => (M.o (mkTup xs702)))))
def f__law_house (v_rooms v_colours : D) : M D := (((((M.o (mkLst [])).bind fun x723 => ((((f__law_draw (.int 5))).bind fun x725 => (M.pure [x725])).bind fun xs724 => (M.pure (x723 :: xs724)))).bind fun xs722 => (M.o (mkTup xs722))).bind fun x721 => (M.o (un2 x721))).bind fun b1 => (((M.o (rg1 [v_rooms])).bind fun ds726 => (forS (σ := D) (fun s2 d => (M.o (some d)).bind fun b3 => ((((((M.o (D.add b3 (.int 1))).bind fun x730 => (M.pure [x730, v_rooms])).bind fun xs729 => (M.o (rg2 xs729))).bind fun ds728 => ((lcF some (fun b5 => ((((f__law_draw (.int 4))).bind fun x733 => (M.o (D.lt x733 b1.2))).bind fun x732 => (M.o (asB x732)))) (fun b5 => (M.o (mkTup [b3, b5]))) ds728).bind fun ys731 => (M.pure (.lst ys731)))).bind fun x727 => (M.o (D.add s2 x727))).bind fun v_found8 => (M.pure v_found8))) b1.1 ds726)).bind fun s4 => ((((((M.o (rg1 [v_rooms])).bind fun ds738 => ((lcF some (fun b9 => (M.pure true)) (fun b9 => ((f__law_draw v_colours))) ds738).bind fun ys739 => (M.pure (.lst ys739)))).bind fun x737 => (M.pure [x737])).bind fun xs736 => (M.o (D.toTup xs736))).bind fun x735 => (((M.o (D.toTup [s4])).bind fun x741 => (M.pure [x741])).bind fun xs740 => (M.pure (x735 :: xs740)))).bind fun xs734 => (M.o (mkTup xs734)))))
def sp__law_house (cs : Cs) : SpD := SpG cs (a2 f__law_house)
theorem imp__law_house {cs : Cs} : ImpG cs (sp__law_house cs) (a2 f__law_house) := fun _ _ _ _ h => h
def u__law_kind (v_pebbles v_rounds : D) : M D := ((((M.pure (.int 1)).bind fun x743 => (((((M.pure v_pebbles).bind fun x748 => ((M.pure (.int 1)).bind fun x749 => (M.o (D.add x748 x749)))).bind fun x746 => (M.pure []).bind fun xs747 => M.pure (x746 :: xs747)).bind fun xs745 => ((a1 f__law_draw) (xs745 ++ ([] : List V).map vD))).bind fun x744 => (M.o (D.add x743 x744)))).bind fun x742 => (((M.pure (.int 1)).bind fun x751 => (((((M.pure v_rounds).bind fun x756 => ((M.pure (.int 1)).bind fun x757 => (M.o (D.add x756 x757)))).bind fun x754 => (M.pure []).bind fun xs755 => M.pure (x754 :: xs755)).bind fun xs753 => ((a1 f__law_draw) (xs753 ++ ([] : List V).map vD))).bind fun x752 => (M.o (D.add x751 x752)))).bind fun x750 => (M.pure (x742, x750)))).bind fun p3 => ((((((M.pure p3.1).bind fun x763 => ((M.pure v_pebbles).bind fun x764 => (M.o (D.gt x763 x764)))).bind fun x762 => (M.o (asB x762))).bind fun k761 => (if k761 = true then (M.pure (.str "all")) else (M.pure p3.1))).bind fun x759 => (((((M.pure p3.2).bind fun x769 => ((M.pure v_rounds).bind fun x770 => (M.o (D.gt x769 x770)))).bind fun x768 => (M.o (asB x768))).bind fun k767 => (if k767 = true then (M.pure (.str "all")) else (M.pure p3.2))).bind fun x765 => (M.pure []).bind fun xs766 => M.pure (x765 :: xs766)).bind fun xs760 => M.pure (x759 :: xs760)).bind fun xs758 => (M.o (mkTup xs758))))
def f__law_kind (v_pebbles v_rounds : D) : M D := ((((((M.o (D.add v_pebbles (.int 1))).bind fun x774 => (M.pure [x774])).bind fun xs773 => (((a1 f__law_draw) (xs773 ++ ([] : List V).map vD)))).bind fun x772 => (M.o (D.add (.int 1) x772))).bind fun x771 => (((((M.o (D.add v_rounds (.int 1))).bind fun x778 => (M.pure [x778])).bind fun xs777 => (((a1 f__law_draw) (xs777 ++ ([] : List V).map vD)))).bind fun x776 => (M.o (D.add (.int 1) x776))).bind fun x775 => (M.pure (x771, x775)))).bind fun p3 => (((((M.o (D.gt p3.1 v_pebbles)).bind fun x782 => (M.o (asB x782))).bind fun k781 => (if k781 = true then (M.pure (.str "all")) else (M.pure p3.1))).bind fun x780 => (((((M.o (D.gt p3.2 v_rounds)).bind fun x786 => (M.o (asB x786))).bind fun k785 => (if k785 = true then (M.pure (.str "all")) else (M.pure p3.2))).bind fun x784 => (M.pure [x784])).bind fun xs783 => (M.pure (x780 :: xs783)))).bind fun xs779 => (M.o (mkTup xs779))))
def sp__law_kind (cs : Cs) : SpD := SpG cs (a2 f__law_kind)
theorem imp__law_kind {cs : Cs} : ImpG cs (sp__law_kind cs) (a2 f__law_kind) := fun _ _ _ _ h => h
def u__law_rank (v_bound : D) : M D := (((((M.pure v_bound).bind fun x790 => ((M.pure (.ty "str")).bind fun x792 => (M.pure []).bind fun xs793 => M.pure (x792 :: xs793)).bind fun xs791 => M.pure (x790 :: xs791)).bind fun xs789 => (M.o (D.isi xs789))).bind fun x788 => (M.o (asB x788))).bind fun k787 => (if k787 = true then (M.pure (.int 99)) else (M.pure v_bound)))
def f__law_rank (v_bound : D) : M D := (((M.o (D.isi [v_bound, .ty "str"])).bind fun x795 => (M.o (asB x795))).bind fun k794 => (if k794 = true then (M.pure (.int 99)) else (M.pure v_bound)))
def sp__law_rank (cs : Cs) : SpD := SpP cs (a1 f__law_rank)
theorem imp__law_rank {cs : Cs} : ImpP cs (sp__law_rank cs) (a1 f__law_rank) := fun _ _ _ _ h => h
def u__law_is_bound (v_value : D) : M D := (((((M.pure v_value).bind fun x799 => ((M.pure (.ty "str")).bind fun x801 => (M.pure []).bind fun xs802 => M.pure (x801 :: xs802)).bind fun xs800 => M.pure (x799 :: xs800)).bind fun xs798 => (M.o (D.isi xs798))).bind fun x797 => (M.o (asB x797))).bind fun k796 => (if k796 = true then ((M.pure v_value).bind fun x803 => ((M.pure (.str "all")).bind fun x804 => (M.o (D.eq x803 x804)))) else ((((M.pure v_value).bind fun x807 => ((M.pure (.ty "int")).bind fun x809 => (M.pure []).bind fun xs810 => M.pure (x809 :: xs810)).bind fun xs808 => M.pure (x807 :: xs808)).bind fun xs806 => (M.o (D.isi xs806))).bind fun x805 => ((M.o (asB x805)).bind fun k811 => (if k811 = true then (((((M.pure v_value).bind fun x815 => ((M.pure (.ty "bool")).bind fun x817 => (M.pure []).bind fun xs818 => M.pure (x817 :: xs818)).bind fun xs816 => M.pure (x815 :: xs816)).bind fun xs814 => (M.o (D.isi xs814))).bind fun x813 => ((M.o (asB x813)).bind fun k819 => (M.pure (.bl (!k819))))).bind fun x812 => ((M.o (asB x812)).bind fun k820 => (if k820 = true then ((M.pure (.int 1)).bind fun x821 => ((M.pure v_value).bind fun x822 => ((M.o (D.le x821 x822)).bind fun x823 => ((M.o (asB x823)).bind fun k824 => (if k824 = true then ((M.pure (.int 12)).bind fun x825 => (M.o (D.le x822 x825))) else (M.pure (.bl false))))))) else (M.pure (.bl false))))) else (M.pure (.bl false)))))))
def f__law_is_bound (v_value : D) : M D := (((M.o (D.isi [v_value, .ty "str"])).bind fun x827 => (M.o (asB x827))).bind fun k826 => (if k826 = true then (M.o (D.eq v_value (.str "all"))) else ((M.o (D.isi [v_value, .ty "int"])).bind fun x828 => ((M.o (asB x828)).bind fun k829 => (if k829 = true then (((M.o (D.isi [v_value, .ty "bool"])).bind fun x831 => ((M.o (asB x831)).bind fun k832 => (M.pure (.bl (!k832))))).bind fun x830 => ((M.o (asB x830)).bind fun k833 => (if k833 = true then ((M.o (D.le (.int 1) v_value)).bind fun x834 => ((M.o (asB x834)).bind fun k835 => (if k835 = true then (M.o (D.le v_value (.int 12))) else (M.pure (.bl false))))) else (M.pure (.bl false))))) else (M.pure (.bl false)))))))
def sp__law_is_bound (cs : Cs) : SpD := SpP cs (a1 f__law_is_bound)
theorem imp__law_is_bound {cs : Cs} : ImpP cs (sp__law_is_bound cs) (a1 f__law_is_bound) := fun _ _ _ _ h => h
def u__law_is_kind (v_value : D) : M D := ((((M.pure v_value).bind fun x838 => ((M.pure (.ty "tuple")).bind fun x840 => (M.pure []).bind fun xs841 => M.pure (x840 :: xs841)).bind fun xs839 => M.pure (x838 :: xs839)).bind fun xs837 => (M.o (D.isi xs837))).bind fun x836 => ((M.o (asB x836)).bind fun k842 => (if k842 = true then (((((M.pure v_value).bind fun x846 => (M.pure []).bind fun xs847 => M.pure (x846 :: xs847)).bind fun xs845 => (M.o (D.len xs845))).bind fun x844 => ((M.pure (.int 2)).bind fun x848 => (M.o (D.eq x844 x848)))).bind fun x843 => ((M.o (asB x843)).bind fun k849 => (if k849 = true then (((((M.pure v_value).bind fun x854 => ((M.pure (.int 0)).bind fun x855 => (M.o (D.ix x854 x855)))).bind fun x852 => (M.pure []).bind fun xs853 => M.pure (x852 :: xs853)).bind fun xs851 => ((a1 f__law_is_bound) (xs851 ++ ([] : List V).map vD))).bind fun x850 => ((M.o (asB x850)).bind fun k856 => (if k856 = true then ((((M.pure v_value).bind fun x860 => ((M.pure (.int 1)).bind fun x861 => (M.o (D.ix x860 x861)))).bind fun x858 => (M.pure []).bind fun xs859 => M.pure (x858 :: xs859)).bind fun xs857 => ((a1 f__law_is_bound) (xs857 ++ ([] : List V).map vD))) else (M.pure (.bl false))))) else (M.pure (.bl false))))) else (M.pure (.bl false)))))
def f__law_is_kind (v_value : D) : M D := ((M.o (D.isi [v_value, .ty "tuple"])).bind fun x862 => ((M.o (asB x862)).bind fun k863 => (if k863 = true then (((M.o (D.len [v_value])).bind fun x865 => (M.o (D.eq x865 (.int 2)))).bind fun x864 => ((M.o (asB x864)).bind fun k866 => (if k866 = true then ((((M.o (D.ix v_value (.int 0))).bind fun x869 => (M.pure [x869])).bind fun xs868 => (((a1 f__law_is_bound) (xs868 ++ ([] : List V).map vD)))).bind fun x867 => ((M.o (asB x867)).bind fun k870 => (if k870 = true then (((M.o (D.ix v_value (.int 1))).bind fun x872 => (M.pure [x872])).bind fun xs871 => (((a1 f__law_is_bound) (xs871 ++ ([] : List V).map vD)))) else (M.pure (.bl false))))) else (M.pure (.bl false))))) else (M.pure (.bl false)))))
def sp__law_is_kind (cs : Cs) : SpD := SpP cs (a1 f__law_is_kind)
theorem imp__law_is_kind {cs : Cs} : ImpP cs (sp__law_is_kind cs) (a1 f__law_is_kind) := fun _ _ _ _ h => h
def u__law_is_position (v_rooms v_value : D) : M D := (((((((M.pure v_value).bind fun x878 => ((M.pure (.ty "tuple")).bind fun x880 => (M.pure []).bind fun xs881 => M.pure (x880 :: xs881)).bind fun xs879 => M.pure (x878 :: xs879)).bind fun xs877 => (M.o (D.isi xs877))).bind fun x876 => (M.o (asB x876))).bind fun k875 => (M.pure (!k875))).bind fun k874 => (if k874 = true then (M.pure true) else (((((M.pure v_value).bind fun x885 => (M.pure []).bind fun xs886 => M.pure (x885 :: xs886)).bind fun xs884 => (M.o (D.len xs884))).bind fun x883 => ((M.pure (.int 12)).bind fun x887 => (M.o (D.gt x883 x887)))).bind fun x882 => (M.o (asB x882))))).bind fun k873 => (if k873 = true then (M.pure (.bl false)) else ((((M.pure v_value).bind fun x889 => (M.o (seqO x889))).bind fun ds888 => ((forL (σ := Unit) (fun s1 d => (M.o (some d)).bind fun b2 => (((((M.pure b2).bind fun x893 => ((M.pure .non).bind fun x894 => (M.o (D.isnot x893 x894)))).bind fun x892 => (M.o (asB x892))).bind fun k891 => (if k891 = true then ((((((M.pure b2).bind fun x899 => ((M.pure (.ty "int")).bind fun x901 => (M.pure []).bind fun xs902 => M.pure (x901 :: xs902)).bind fun xs900 => M.pure (x899 :: xs900)).bind fun xs898 => (M.o (D.isi xs898))).bind fun x897 => (M.o (asB x897))).bind fun k896 => (M.pure (!k896))).bind fun k895 => (if k895 = true then (M.pure true) else (((((M.pure b2).bind fun x906 => ((M.pure (.ty "bool")).bind fun x908 => (M.pure []).bind fun xs909 => M.pure (x908 :: xs909)).bind fun xs907 => M.pure (x906 :: xs907)).bind fun xs905 => (M.o (D.isi xs905))).bind fun x904 => (M.o (asB x904))).bind fun k903 => (if k903 = true then (M.pure true) else ((((M.pure (.int 0)).bind fun x912 => ((M.pure b2).bind fun x913 => ((M.o (D.le x912 x913)).bind fun x914 => ((M.o (asB x914)).bind fun k915 => (if k915 = true then ((M.pure v_rooms).bind fun x916 => (M.o (D.lt x913 x916))) else (M.pure (.bl false))))))).bind fun x911 => (M.o (asB x911))).bind fun k910 => (M.pure (!k910))))))) else (M.pure false))).bind fun k890 => (if k890 = true then ((M.pure (.bl false)).bind fun d917 => (M.pure (.rt d917))) else (M.pure (.nx (())))))) () ds888).bind fun f => M.pure f)).bind (flT fun s3 => (M.pure (.bl true))))))
def f__law_is_position (v_rooms v_value : D) : M D := (((((M.o (D.isi [v_value, .ty "tuple"])).bind fun x921 => (M.o (asB x921))).bind fun k920 => (M.pure (!k920))).bind fun k919 => (if k919 = true then (M.pure true) else (((M.o (D.len [v_value])).bind fun x923 => (M.o (D.gt x923 (.int 12)))).bind fun x922 => (M.o (asB x922))))).bind fun k918 => (if k918 = true then (M.pure (.bl false)) else (((M.o (seqO v_value)).bind fun ds924 => ((forL (σ := Unit) (fun s1 d => (M.o (some d)).bind fun b2 => ((((M.o (D.isnot b2 .non)).bind fun x927 => (M.o (asB x927))).bind fun k926 => (if k926 = true then ((((M.o (D.isi [b2, .ty "int"])).bind fun x930 => (M.o (asB x930))).bind fun k929 => (M.pure (!k929))).bind fun k928 => (if k928 = true then (M.pure true) else (((M.o (D.isi [b2, .ty "bool"])).bind fun x932 => (M.o (asB x932))).bind fun k931 => (if k931 = true then (M.pure true) else ((((M.o (D.le (.int 0) b2)).bind fun x935 => ((M.o (asB x935)).bind fun k936 => (if k936 = true then (M.o (D.lt b2 v_rooms)) else (M.pure (.bl false))))).bind fun x934 => (M.o (asB x934))).bind fun k933 => (M.pure (!k933))))))) else (M.pure false))).bind fun k925 => (if k925 = true then (M.pure (.rt (.bl false))) else (M.pure (.nx (())))))) () ds924).bind fun f => M.pure f)).bind (flT fun s3 => (M.pure (.bl true))))))
def sp__law_is_position (cs : Cs) : SpD := SpP cs (a2 f__law_is_position)
theorem imp__law_is_position {cs : Cs} : ImpP cs (sp__law_is_position cs) (a2 f__law_is_position) := fun _ _ _ _ h => h
def u__law_heard (va : M D) : M D := ((((M.pure (.str "none")).bind fun x938 => ((M.pure .non).bind fun x940 => (M.pure []).bind fun xs941 => M.pure (x940 :: xs941)).bind fun xs939 => M.pure (x938 :: xs939)).bind fun xs937 => (M.o (mkLst xs937))).bind fun v_told1 => ((M.tr (σ := D) CL [(6, fun fs => ((((M.pure (.str "kind")).bind fun x948 => ((M.o (fs.lookup ("value" : Str))).bind fun x950 => (M.pure []).bind fun xs951 => M.pure (x950 :: xs951)).bind fun xs949 => M.pure (x948 :: xs949)).bind fun xs947 => (M.o (mkLst xs947))).bind fun v_told6 => (M.pure v_told6))), (7, fun fs => ((((M.pure (.str "position")).bind fun x953 => ((M.o (fs.lookup ("value" : Str))).bind fun x955 => (M.pure []).bind fun xs956 => M.pure (x955 :: xs956)).bind fun xs954 => M.pure (x953 :: xs954)).bind fun xs952 => (M.o (mkLst xs952))).bind fun v_told5 => (M.pure v_told5))), (3, fun fs => ((((M.pure (.str "house")).bind fun x958 => ((M.o (fs.lookup ("place" : Str))).bind fun x960 => (M.pure []).bind fun xs961 => M.pure (x960 :: xs961)).bind fun xs959 => M.pure (x958 :: xs959)).bind fun xs957 => (M.o (mkLst xs957))).bind fun v_told4 => (M.pure v_told4)))] ((((M.pure (.str "told")).bind fun x943 => ((va).bind fun x945 => (M.pure []).bind fun xs946 => M.pure (x945 :: xs946)).bind fun xs944 => M.pure (x943 :: xs944)).bind fun xs942 => (M.o (mkLst xs942))).bind fun v_told3 => (M.pure v_told3))).bind fun s2 => (M.pure s2)))
def f__law_heard (va : M D) : M D := ((M.o (mkLst [.str "none", .non])).bind fun v_told1 => ((M.tr (σ := D) CL [(6, fun fs => (((((M.o (fs.lookup ("value" : Str))).bind fun x967 => (M.pure [x967])).bind fun xs966 => (M.pure ((.str "kind") :: xs966))).bind fun xs965 => (M.o (mkLst xs965))).bind fun v_told6 => (M.pure v_told6))), (7, fun fs => (((((M.o (fs.lookup ("value" : Str))).bind fun x970 => (M.pure [x970])).bind fun xs969 => (M.pure ((.str "position") :: xs969))).bind fun xs968 => (M.o (mkLst xs968))).bind fun v_told5 => (M.pure v_told5))), (3, fun fs => (((((M.o (fs.lookup ("place" : Str))).bind fun x973 => (M.pure [x973])).bind fun xs972 => (M.pure ((.str "house") :: xs972))).bind fun xs971 => (M.o (mkLst xs971))).bind fun v_told4 => (M.pure v_told4)))] (((((va).bind fun x964 => (M.pure [x964])).bind fun xs963 => (M.pure ((.str "told") :: xs963))).bind fun xs962 => (M.o (mkLst xs962))).bind fun v_told3 => (M.pure v_told3))).bind fun s2 => (M.pure s2)))
def sp__law_heard (cs : Cs) : SpL := SpT cs f__law_heard
def u__law_kinds_right : M D := (((((((M.pure (.int 12)).bind fun x979 => ((M.pure (.int 12)).bind fun x981 => (M.pure []).bind fun xs982 => M.pure (x981 :: xs982)).bind fun xs980 => M.pure (x979 :: xs980)).bind fun xs978 => ((a2 f__law_kind) (xs978 ++ ([] : List V).map vD))).bind fun x976 => ((((M.pure (.int 12)).bind fun x986 => ((M.pure (.int 12)).bind fun x988 => (M.pure []).bind fun xs989 => M.pure (x988 :: xs989)).bind fun xs987 => M.pure (x986 :: xs987)).bind fun xs985 => ((a2 f__law_kind) (xs985 ++ ([] : List V).map vD))).bind fun x983 => (M.pure []).bind fun xs984 => M.pure (x983 :: xs984)).bind fun xs977 => M.pure (x976 :: xs977)).bind fun xs975 => (M.o (mkTup xs975))).bind fun x974 => (M.o (un2 x974))).bind fun b1 => (((((((M.pure b1.1).bind fun x995 => ((M.pure (.int 0)).bind fun x996 => (M.o (D.ix x995 x996)))).bind fun x993 => (M.pure []).bind fun xs994 => M.pure (x993 :: xs994)).bind fun xs992 => (M.nd ((a1 f__law_rank) (xs992 ++ ([] : List V).map vD)))).bind fun x991 => (((((M.pure b1.2).bind fun x1001 => ((M.pure (.int 0)).bind fun x1002 => (M.o (D.ix x1001 x1002)))).bind fun x999 => (M.pure []).bind fun xs1000 => M.pure (x999 :: xs1000)).bind fun xs998 => (M.nd ((a1 f__law_rank) (xs998 ++ ([] : List V).map vD)))).bind fun x997 => (M.o (D.ge x991 x997)))).bind fun x990 => ((M.o (asB x990)).bind fun k1003 => (if k1003 = true then (((((M.pure b1.1).bind fun x1008 => ((M.pure (.int 1)).bind fun x1009 => (M.o (D.ix x1008 x1009)))).bind fun x1006 => (M.pure []).bind fun xs1007 => M.pure (x1006 :: xs1007)).bind fun xs1005 => (M.nd ((a1 f__law_rank) (xs1005 ++ ([] : List V).map vD)))).bind fun x1004 => (((((M.pure b1.2).bind fun x1014 => ((M.pure (.int 1)).bind fun x1015 => (M.o (D.ix x1014 x1015)))).bind fun x1012 => (M.pure []).bind fun xs1013 => M.pure (x1012 :: xs1013)).bind fun xs1011 => (M.nd ((a1 f__law_rank) (xs1011 ++ ([] : List V).map vD)))).bind fun x1010 => (M.o (D.ge x1004 x1010)))) else (M.pure (.bl false))))).bind fun v_due2 => ((((((((((M.pure b1.1).bind fun x1026 => ((M.pure b1.2).bind fun x1028 => (M.pure []).bind fun xs1029 => M.pure (x1028 :: xs1029)).bind fun xs1027 => M.pure (x1026 :: xs1027)).bind fun xs1025 => (M.nd ((a2 f_is_finer) (xs1025 ++ ([] : List V).map vD)))).bind fun x1023 => (((M.pure []).bind fun xs1032 => (((M.pure b1.1).bind fun x1034 => ((M.pure b1.1).bind fun x1036 => (M.pure []).bind fun xs1037 => M.pure (x1036 :: xs1037)).bind fun xs1035 => M.pure (x1034 :: xs1035)).bind fun ys1033 => ((M.nd ((a2 f_is_finer) (gk 2 [1, 0] xs1032 ys1033)))))).bind fun x1030 => (((M.pure []).bind fun xs1040 => (((M.pure b1.1).bind fun x1042 => (M.pure []).bind fun xs1043 => M.pure (x1042 :: xs1043)).bind fun ys1041 => ((M.nd ((a1 f_need_kind) (gk 1 [0] xs1040 ys1041)))))).bind fun x1038 => (M.pure []).bind fun xs1039 => M.pure (x1038 :: xs1039)).bind fun xs1031 => M.pure (x1030 :: xs1031)).bind fun xs1024 => M.pure (x1023 :: xs1024)).bind fun xs1022 => (M.o (mkLst xs1022))).bind fun x1020 => ((((M.pure v_due2).bind fun x1047 => ((M.pure (.bl true)).bind fun x1049 => ((M.pure b1.1).bind fun x1051 => (M.pure []).bind fun xs1052 => M.pure (x1051 :: xs1052)).bind fun xs1050 => M.pure (x1049 :: xs1050)).bind fun xs1048 => M.pure (x1047 :: xs1048)).bind fun xs1046 => (M.o (mkLst xs1046))).bind fun x1044 => (M.pure []).bind fun xs1045 => M.pure (x1044 :: xs1045)).bind fun xs1021 => M.pure (x1020 :: xs1021)).bind fun xs1019 => (M.nd ((a2 (f__law_like 6)) (xs1019 ++ ([] : List V).map vD)))).bind fun x1018 => (M.o (asB x1018))).bind fun k1017 => (M.pure (!k1017))).bind fun k1016 => (if k1016 = true then (M.pure (.bl false)) else ((((((M.pure (.int 0)).bind fun x1057 => ((M.pure (.int 13)).bind fun x1059 => (((M.pure (.int 1)).bind fun x1063 => (M.o (D.neg x1063))).bind fun x1061 => ((M.pure (.bl true)).bind fun x1064 => ((M.pure .non).bind fun x1066 => ((M.pure (.str "ALL")).bind fun x1068 => ((M.pure (.str "")).bind fun x1070 => ((M.pure (.str "1")).bind fun x1072 => ((((M.pure (.int 1)).bind fun x1077 => (M.pure []).bind fun xs1078 => M.pure (x1077 :: xs1078)).bind fun xs1076 => (M.o (mkTup xs1076))).bind fun x1074 => (((M.pure []).bind fun xs1081 => (M.o (mkLst xs1081))).bind fun x1079 => ((M.pure (.dct [])).bind fun x1082 => (((M.pure (.int 10)).bind fun x1086 => ((M.pure (.int 30)).bind fun x1087 => (M.o (D.pow x1086 x1087)))).bind fun x1084 => ((((M.pure (.str "all")).bind fun x1091 => (M.pure []).bind fun xs1092 => M.pure (x1091 :: xs1092)).bind fun xs1090 => (M.o (mkTup xs1090))).bind fun x1088 => (M.pure []).bind fun xs1089 => M.pure (x1088 :: xs1089)).bind fun xs1085 => M.pure (x1084 :: xs1085)).bind fun xs1083 => M.pure (x1082 :: xs1083)).bind fun xs1080 => M.pure (x1079 :: xs1080)).bind fun xs1075 => M.pure (x1074 :: xs1075)).bind fun xs1073 => M.pure (x1072 :: xs1073)).bind fun xs1071 => M.pure (x1070 :: xs1071)).bind fun xs1069 => M.pure (x1068 :: xs1069)).bind fun xs1067 => M.pure (x1066 :: xs1067)).bind fun xs1065 => M.pure (x1064 :: xs1065)).bind fun xs1062 => M.pure (x1061 :: xs1062)).bind fun xs1060 => M.pure (x1059 :: xs1060)).bind fun xs1058 => M.pure (x1057 :: xs1058)).bind fun xs1056 => (M.o (mkLst xs1056))).bind fun x1054 => (M.pure []).bind fun xs1055 => M.pure (x1054 :: xs1055)).bind fun xs1053 => ((a1 f__law_of) (xs1053 ++ ([] : List V).map vD))).bind fun v_odd3 => (((((((((M.pure b1.1).bind fun x1101 => ((M.pure (.int 0)).bind fun x1102 => (M.o (D.ix x1101 x1102)))).bind fun x1099 => ((M.pure v_odd3).bind fun x1103 => (M.pure []).bind fun xs1104 => M.pure (x1103 :: xs1104)).bind fun xs1100 => M.pure (x1099 :: xs1100)).bind fun xs1098 => (M.o (mkTup xs1098))).bind fun x1096 => ((((M.pure v_odd3).bind fun x1108 => (((M.pure b1.1).bind fun x1112 => ((M.pure (.int 1)).bind fun x1113 => (M.o (D.ix x1112 x1113)))).bind fun x1110 => (M.pure []).bind fun xs1111 => M.pure (x1110 :: xs1111)).bind fun xs1109 => M.pure (x1108 :: xs1109)).bind fun xs1107 => (M.o (mkTup xs1107))).bind fun x1105 => ((((M.pure b1.1).bind fun x1117 => (M.pure []).bind fun xs1118 => M.pure (x1117 :: xs1118)).bind fun xs1116 => (M.o (D.toLst xs1116))).bind fun x1114 => (((M.pure b1.1).bind fun x1121 => ((((M.pure (.int 1)).bind fun x1124 => (M.pure []).bind fun xs1125 => M.pure (x1124 :: xs1125)).bind fun xs1123 => (M.o (mkTup xs1123))).bind fun x1122 => (M.o (D.add x1121 x1122)))).bind fun x1119 => (((M.pure b1.1).bind fun x1128 => ((M.pure none).bind fun x1129 => (((M.pure (.int 1)).bind fun x1131 => ((M.o (asI x1131)).bind fun i1132 => (M.pure (some i1132)))).bind fun x1130 => (M.o (D.sl x1128 x1129 x1130))))).bind fun x1126 => ((M.pure v_odd3).bind fun x1133 => ((M.pure .non).bind fun x1135 => ((((M.pure v_odd3).bind fun x1140 => ((M.pure v_odd3).bind fun x1142 => (M.pure []).bind fun xs1143 => M.pure (x1142 :: xs1143)).bind fun xs1141 => M.pure (x1140 :: xs1141)).bind fun xs1139 => (M.o (mkTup xs1139))).bind fun x1137 => (M.pure []).bind fun xs1138 => M.pure (x1137 :: xs1138)).bind fun xs1136 => M.pure (x1135 :: xs1136)).bind fun xs1134 => M.pure (x1133 :: xs1134)).bind fun xs1127 => M.pure (x1126 :: xs1127)).bind fun xs1120 => M.pure (x1119 :: xs1120)).bind fun xs1115 => M.pure (x1114 :: xs1115)).bind fun xs1106 => M.pure (x1105 :: xs1106)).bind fun xs1097 => M.pure (x1096 :: xs1097)).bind fun xs1095 => (M.o (mkLst xs1095))).bind fun x1094 => (M.o (seqO x1094))).bind fun ds1093 => ((forL (σ := Unit) (fun s4 d => (M.o (some d)).bind fun b5 => ((((((M.pure b5).bind fun x1147 => (M.pure []).bind fun xs1148 => M.pure (x1147 :: xs1148)).bind fun xs1146 => (M.nd ((a1 f__law_is_kind) (xs1146 ++ ([] : List V).map vD)))).bind fun x1145 => (M.o (asB x1145))).bind fun k1144 => (if k1144 = true then (((M.pure (.str "told")).bind fun x1150 => ((M.pure b5).bind fun x1152 => (M.pure []).bind fun xs1153 => M.pure (x1152 :: xs1153)).bind fun xs1151 => M.pure (x1150 :: xs1151)).bind fun xs1149 => (M.o (mkLst xs1149))) else (((M.pure (.str "kind")).bind fun x1155 => ((M.pure b5).bind fun x1157 => (M.pure []).bind fun xs1158 => M.pure (x1157 :: xs1158)).bind fun xs1156 => M.pure (x1155 :: xs1156)).bind fun xs1154 => (M.o (mkLst xs1154))))).bind fun v_wanted7 => (((((((M.nd (M.gd (((M.pure b5).bind fun x1167 => (M.pure []).bind fun xs1168 => M.pure (x1167 :: xs1168)).bind fun xs1166 => ((a1 f_need_kind) (xs1166 ++ ([] : List V).map vD))) (f__law_heard (((M.pure b5).bind fun x1167 => (M.pure []).bind fun xs1168 => M.pure (x1167 :: xs1168)).bind fun xs1166 => ((a1 f_need_kind) (xs1166 ++ ([] : List V).map vD)))))).bind fun x1165 => ((M.pure none).bind fun x1169 => (((M.pure (.int 1)).bind fun x1171 => ((M.o (asI x1171)).bind fun i1172 => (M.pure (some i1172)))).bind fun x1170 => (M.o (D.sl x1165 x1169 x1170))))).bind fun x1163 => (((M.pure v_wanted7).bind fun x1175 => ((M.pure none).bind fun x1176 => (((M.pure (.int 1)).bind fun x1178 => ((M.o (asI x1178)).bind fun i1179 => (M.pure (some i1179)))).bind fun x1177 => (M.o (D.sl x1175 x1176 x1177))))).bind fun x1173 => (M.pure []).bind fun xs1174 => M.pure (x1173 :: xs1174)).bind fun xs1164 => M.pure (x1163 :: xs1164)).bind fun xs1162 => (M.nd ((a2 (f__law_like 6)) (xs1162 ++ ([] : List V).map vD)))).bind fun x1161 => (M.o (asB x1161))).bind fun k1160 => (M.pure (!k1160))).bind fun k1159 => (if k1159 = true then ((((M.pure (.bl false)).bind fun d1180 => (M.pure (.rt d1180))) : M (Fl Empty (Unit))).bind (fun f => M.pure f.up)) else (((((M.pure v_wanted7).bind fun x1184 => ((M.pure (.int 0)).bind fun x1185 => (M.o (D.ix x1184 x1185)))).bind fun x1183 => ((M.pure (.str "kind")).bind fun x1186 => (M.o (D.eq x1183 x1186)))).bind fun x1182 => (M.o (asB x1182))).bind fun k1181 => (if k1181 = true then (((((M.nd (M.gd (((M.pure b5).bind fun x1192 => ((M.pure .non).bind fun x1194 => (M.pure []).bind fun xs1195 => M.pure (x1194 :: xs1195)).bind fun xs1193 => M.pure (x1192 :: xs1193)).bind fun xs1191 => ((a2 f_is_finer) (xs1191 ++ ([] : List V).map vD))) (f__law_heard (((M.pure b5).bind fun x1192 => ((M.pure .non).bind fun x1194 => (M.pure []).bind fun xs1195 => M.pure (x1194 :: xs1195)).bind fun xs1193 => M.pure (x1192 :: xs1193)).bind fun xs1191 => ((a2 f_is_finer) (xs1191 ++ ([] : List V).map vD)))))).bind fun x1190 => ((M.pure (.int 0)).bind fun x1196 => (M.o (D.ix x1190 x1196)))).bind fun x1188 => (M.pure []).bind fun xs1189 => M.pure (x1188 :: xs1189)).bind fun xs1187 => (M.o (mkOwn xs1187))).bind fun w_told9 => ((((M.nd (M.gd (((M.pure b1.1).bind fun x1200 => ((M.pure b5).bind fun x1202 => (M.pure []).bind fun xs1203 => M.pure (x1202 :: xs1203)).bind fun xs1201 => M.pure (x1200 :: xs1201)).bind fun xs1199 => ((a2 f_is_finer) (xs1199 ++ ([] : List V).map vD))) (f__law_heard (((M.pure b1.1).bind fun x1200 => ((M.pure b5).bind fun x1202 => (M.pure []).bind fun xs1203 => M.pure (x1202 :: xs1203)).bind fun xs1201 => M.pure (x1200 :: xs1201)).bind fun xs1199 => ((a2 f_is_finer) (xs1199 ++ ([] : List V).map vD)))))).bind fun x1198 => ((M.pure (.int 0)).bind fun x1204 => (M.o (D.ix x1198 x1204)))).bind fun x1197 => (M.o (apO w_told9 x1197))).bind fun w_told10 => ((((M.pure (.lst w_told10)).bind fun x1207 => ((((M.pure (.str "kind")).bind fun x1210 => ((M.pure (.str "kind")).bind fun x1212 => (M.pure []).bind fun xs1213 => M.pure (x1212 :: xs1213)).bind fun xs1211 => M.pure (x1210 :: xs1211)).bind fun xs1209 => (M.o (mkLst xs1209))).bind fun x1208 => (M.o (D.ne x1207 x1208)))).bind fun x1206 => (M.o (asB x1206))).bind fun k1205 => (if k1205 = true then ((M.pure (.bl false)).bind fun d1214 => (M.pure (.rt d1214))) else (M.pure (.nx (()))))))) else (M.pure (.nx (()))))))))) () ds1093).bind fun f => M.pure f)).bind (flT fun s6 => (M.pure (.bl true)))))))))
def f__law_kinds_right : M D := ((((((f__law_kind (.int 12) (.int 12))).bind fun x1217 => ((((f__law_kind (.int 12) (.int 12))).bind fun x1219 => (M.pure [x1219])).bind fun xs1218 => (M.pure (x1217 :: xs1218)))).bind fun xs1216 => (M.o (mkTup xs1216))).bind fun x1215 => (M.o (un2 x1215))).bind fun b1 => ((((((M.o (D.ix b1.1 (.int 0))).bind fun x1223 => (M.pure [x1223])).bind fun xs1222 => ((M.nd ((a1 f__law_rank) (xs1222 ++ ([] : List V).map vD))))).bind fun x1221 => ((((M.o (D.ix b1.2 (.int 0))).bind fun x1226 => (M.pure [x1226])).bind fun xs1225 => ((M.nd ((a1 f__law_rank) (xs1225 ++ ([] : List V).map vD))))).bind fun x1224 => (M.o (D.ge x1221 x1224)))).bind fun x1220 => ((M.o (asB x1220)).bind fun k1227 => (if k1227 = true then ((((M.o (D.ix b1.1 (.int 1))).bind fun x1230 => (M.pure [x1230])).bind fun xs1229 => ((M.nd ((a1 f__law_rank) (xs1229 ++ ([] : List V).map vD))))).bind fun x1228 => ((((M.o (D.ix b1.2 (.int 1))).bind fun x1233 => (M.pure [x1233])).bind fun xs1232 => ((M.nd ((a1 f__law_rank) (xs1232 ++ ([] : List V).map vD))))).bind fun x1231 => (M.o (D.ge x1228 x1231)))) else (M.pure (.bl false))))).bind fun v_due2 => (((((((((M.nd (f_is_finer b1.1 b1.2))).bind fun x1240 => ((((M.nd (f_is_finer b1.1 b1.1))).bind fun x1242 => ((((M.nd (f_need_kind b1.1))).bind fun x1244 => (M.pure [x1244])).bind fun xs1243 => (M.pure (x1242 :: xs1243)))).bind fun xs1241 => (M.pure (x1240 :: xs1241)))).bind fun xs1239 => (M.o (mkLst xs1239))).bind fun x1238 => (((M.o (mkLst [v_due2, .bl true, b1.1])).bind fun x1246 => (M.pure [x1246])).bind fun xs1245 => (M.pure (x1238 :: xs1245)))).bind fun xs1237 => ((M.nd ((a2 (f__law_like 6)) (xs1237 ++ ([] : List V).map vD))))).bind fun x1236 => (M.o (asB x1236))).bind fun k1235 => (M.pure (!k1235))).bind fun k1234 => (if k1234 = true then (M.pure (.bl false)) else ((((((((M.o (D.neg (.int 1))).bind fun x1252 => ((((((((M.o (mkTup [.int 1])).bind fun x1259 => (((M.o (mkLst [])).bind fun x1261 => ((((M.o (D.pow (.int 10) (.int 30))).bind fun x1264 => (((M.o (mkTup [.str "all"])).bind fun x1266 => (M.pure [x1266])).bind fun xs1265 => (M.pure (x1264 :: xs1265)))).bind fun xs1263 => (M.pure ((.dct []) :: xs1263))).bind fun xs1262 => (M.pure (x1261 :: xs1262)))).bind fun xs1260 => (M.pure (x1259 :: xs1260)))).bind fun xs1258 => (M.pure ((.str "1") :: xs1258))).bind fun xs1257 => (M.pure ((.str "") :: xs1257))).bind fun xs1256 => (M.pure ((.str "ALL") :: xs1256))).bind fun xs1255 => (M.pure (.non :: xs1255))).bind fun xs1254 => (M.pure ((.bl true) :: xs1254))).bind fun xs1253 => (M.pure (x1252 :: xs1253)))).bind fun xs1251 => (M.pure ((.int 13) :: xs1251))).bind fun xs1250 => (M.pure ((.int 0) :: xs1250))).bind fun xs1249 => (M.o (mkLst xs1249))).bind fun x1248 => (M.pure [x1248])).bind fun xs1247 => (((a1 f__law_of) (xs1247 ++ ([] : List V).map vD)))).bind fun v_odd3 => ((((((((M.o (D.ix b1.1 (.int 0))).bind fun x1272 => (M.pure [x1272, v_odd3])).bind fun xs1271 => (M.o (mkTup xs1271))).bind fun x1270 => ((((((M.o (D.ix b1.1 (.int 1))).bind fun x1277 => (M.pure [x1277])).bind fun xs1276 => (M.pure (v_odd3 :: xs1276))).bind fun xs1275 => (M.o (mkTup xs1275))).bind fun x1274 => (((M.o (D.toLst [b1.1])).bind fun x1279 => ((((M.o (mkTup [.int 1])).bind fun x1282 => (M.o (D.add b1.1 x1282))).bind fun x1281 => (((((M.o (asI (.int 1))).bind fun i1286 => (M.pure (some i1286))).bind fun x1285 => (M.o (D.sl b1.1 none x1285))).bind fun x1284 => (((((M.o (mkTup [v_odd3, v_odd3])).bind fun x1290 => (M.pure [x1290])).bind fun xs1289 => (M.pure (.non :: xs1289))).bind fun xs1288 => (M.pure (v_odd3 :: xs1288))).bind fun xs1287 => (M.pure (x1284 :: xs1287)))).bind fun xs1283 => (M.pure (x1281 :: xs1283)))).bind fun xs1280 => (M.pure (x1279 :: xs1280)))).bind fun xs1278 => (M.pure (x1274 :: xs1278)))).bind fun xs1273 => (M.pure (x1270 :: xs1273)))).bind fun xs1269 => (M.o (mkLst xs1269))).bind fun x1268 => (M.o (seqO x1268))).bind fun ds1267 => ((forL (σ := Unit) (fun s4 d => (M.o (some d)).bind fun b5 => (((((M.nd (f__law_is_kind b5))).bind fun x1292 => (M.o (asB x1292))).bind fun k1291 => (if k1291 = true then (M.o (mkLst [.str "told", b5])) else (M.o (mkLst [.str "kind", b5])))).bind fun v_wanted7 => (((((((M.nd (M.gd ((f_need_kind b5)) (f__law_heard ((f_need_kind b5))))).bind fun x1298 => (((M.o (asI (.int 1))).bind fun i1300 => (M.pure (some i1300))).bind fun x1299 => (M.o (D.sl x1298 none x1299)))).bind fun x1297 => (((((M.o (asI (.int 1))).bind fun i1304 => (M.pure (some i1304))).bind fun x1303 => (M.o (D.sl v_wanted7 none x1303))).bind fun x1302 => (M.pure [x1302])).bind fun xs1301 => (M.pure (x1297 :: xs1301)))).bind fun xs1296 => ((M.nd ((a2 (f__law_like 6)) (xs1296 ++ ([] : List V).map vD))))).bind fun x1295 => (M.o (asB x1295))).bind fun k1294 => (M.pure (!k1294))).bind fun k1293 => (if k1293 = true then (((M.pure (.rt (.bl false))) : M (Fl Empty (Unit))).bind (fun f => M.pure f.up)) else ((((M.o (D.ix v_wanted7 (.int 0))).bind fun x1307 => (M.o (D.eq x1307 (.str "kind")))).bind fun x1306 => (M.o (asB x1306))).bind fun k1305 => (if k1305 = true then (((((M.nd (M.gd ((f_is_finer b5 .non)) (f__law_heard ((f_is_finer b5 .non))))).bind fun x1310 => (M.o (D.ix x1310 (.int 0)))).bind fun x1309 => (M.pure [x1309])).bind fun xs1308 => (M.o (mkOwn xs1308))).bind fun w_told9 => ((((M.nd (M.gd ((f_is_finer b1.1 b5)) (f__law_heard ((f_is_finer b1.1 b5))))).bind fun x1312 => (M.o (D.ix x1312 (.int 0)))).bind fun x1311 => (M.o (apO w_told9 x1311))).bind fun w_told10 => ((((M.o (mkLst [.str "kind", .str "kind"])).bind fun x1315 => (M.o (D.ne (.lst w_told10) x1315))).bind fun x1314 => (M.o (asB x1314))).bind fun k1313 => (if k1313 = true then (M.pure (.rt (.bl false))) else (M.pure (.nx (()))))))) else (M.pure (.nx (()))))))))) () ds1267).bind fun f => M.pure f)).bind (flT fun s6 => (M.pure (.bl true)))))))))
def sp__law_kinds_right (cs : Cs) : SpD := SpGT cs cs.T (a0 f__law_kinds_right)
theorem imp__law_kinds_right {cs : Cs} : ImpGT cs cs.T (sp__law_kinds_right cs) (a0 f__law_kinds_right) := fun _ _ _ _ h => h
def u__law_positions_right : M D := ((((((M.pure (.int 9)).bind fun x1320 => (M.pure []).bind fun xs1321 => M.pure (x1320 :: xs1321)).bind fun xs1319 => ((a1 f__law_draw) (xs1319 ++ ([] : List V).map vD))).bind fun x1317 => ((M.pure (.int 3)).bind fun x1322 => (M.pure []).bind fun xs1323 => M.pure (x1322 :: xs1323)).bind fun xs1318 => M.pure (x1317 :: xs1318)).bind fun xs1316 => ((a2 f__law_house) (xs1316 ++ ([] : List V).map vD))).bind fun v_house1 => (((((M.pure v_house1).bind fun x1327 => ((M.pure (.int 0)).bind fun x1328 => (M.o (D.ix x1327 x1328)))).bind fun x1325 => (M.pure []).bind fun xs1326 => M.pure (x1325 :: xs1326)).bind fun xs1324 => (M.o (D.len xs1324))).bind fun v_rooms2 => (((((M.pure .non).bind fun x1331 => (M.pure []).bind fun xs1332 => M.pure (x1331 :: xs1332)).bind fun xs1330 => (M.o (mkLst xs1330))).bind fun x1329 => (((M.pure v_rooms2).bind fun x1334 => ((M.o (rgs1 x1334)).bind fun p1335 => (M.pure (.lst (rgL p1335))))).bind fun x1333 => (M.o (D.add x1329 x1333)))).bind fun v_spots3 => (((((((((M.pure (.int 13)).bind fun x1344 => (M.pure []).bind fun xs1345 => M.pure (x1344 :: xs1345)).bind fun xs1343 => ((a1 f__law_draw) (xs1343 ++ ([] : List V).map vD))).bind fun x1341 => (M.pure []).bind fun xs1342 => M.pure (x1341 :: xs1342)).bind fun xs1340 => (M.o (rg1 xs1340))).bind fun ds1339 => ((lcF some (fun b4 => (M.pure true)) (fun b4 => (((M.pure v_spots3).bind fun x1348 => (M.pure []).bind fun xs1349 => M.pure (x1348 :: xs1349)).bind fun xs1347 => ((a1 f__law_of) (xs1347 ++ ([] : List V).map vD)))) ds1339).bind fun ys1346 => (M.pure (.lst ys1346)))).bind fun x1337 => (M.pure []).bind fun xs1338 => M.pure (x1337 :: xs1338)).bind fun xs1336 => (M.o (D.toTup xs1336))).bind fun v_position7 => (((((((M.pure []).bind fun xs1356 => (((M.pure v_position7).bind fun x1358 => ((M.pure v_house1).bind fun x1360 => (M.pure []).bind fun xs1361 => M.pure (x1360 :: xs1361)).bind fun xs1359 => M.pure (x1358 :: xs1359)).bind fun ys1357 => ((M.nd ((a2 f_need_position) (gk 2 [1, 0] xs1356 ys1357)))))).bind fun x1354 => ((M.pure v_position7).bind fun x1362 => (M.pure []).bind fun xs1363 => M.pure (x1362 :: xs1363)).bind fun xs1355 => M.pure (x1354 :: xs1355)).bind fun xs1353 => (M.nd ((a2 (f__law_like 6)) (xs1353 ++ ([] : List V).map vD)))).bind fun x1352 => (M.o (asB x1352))).bind fun k1351 => (M.pure (!k1351))).bind fun k1350 => (if k1350 = true then (M.pure (.bl false)) else ((((((M.pure v_rooms2).bind fun x1368 => (((M.pure (.int 1)).bind fun x1372 => (M.o (D.neg x1372))).bind fun x1370 => ((M.pure (.bl true)).bind fun x1373 => ((M.pure (.str "0")).bind fun x1375 => (((M.pure []).bind fun xs1379 => (M.o (mkTup xs1379))).bind fun x1377 => (((M.pure []).bind fun xs1382 => (M.o (mkLst xs1382))).bind fun x1380 => ((M.pure (.dct [])).bind fun x1383 => ((M.pure (.int 0)).bind fun x1385 => ((M.pure .non).bind fun x1387 => (M.pure []).bind fun xs1388 => M.pure (x1387 :: xs1388)).bind fun xs1386 => M.pure (x1385 :: xs1386)).bind fun xs1384 => M.pure (x1383 :: xs1384)).bind fun xs1381 => M.pure (x1380 :: xs1381)).bind fun xs1378 => M.pure (x1377 :: xs1378)).bind fun xs1376 => M.pure (x1375 :: xs1376)).bind fun xs1374 => M.pure (x1373 :: xs1374)).bind fun xs1371 => M.pure (x1370 :: xs1371)).bind fun xs1369 => M.pure (x1368 :: xs1369)).bind fun xs1367 => (M.o (mkLst xs1367))).bind fun x1365 => (M.pure []).bind fun xs1366 => M.pure (x1365 :: xs1366)).bind fun xs1364 => ((a1 f__law_of) (xs1364 ++ ([] : List V).map vD))).bind fun v_odd8 => (((((((M.pure v_position7).bind fun x1394 => ((((M.pure v_odd8).bind fun x1397 => (M.pure []).bind fun xs1398 => M.pure (x1397 :: xs1398)).bind fun xs1396 => (M.o (mkTup xs1396))).bind fun x1395 => (M.o (D.add x1394 x1395)))).bind fun x1392 => ((((M.pure v_position7).bind fun x1402 => (M.pure []).bind fun xs1403 => M.pure (x1402 :: xs1403)).bind fun xs1401 => (M.o (D.toLst xs1401))).bind fun x1399 => (((((M.pure v_odd8).bind fun x1408 => (M.pure []).bind fun xs1409 => M.pure (x1408 :: xs1409)).bind fun xs1407 => (M.o (mkTup xs1407))).bind fun x1406 => ((M.pure (.int 12)).bind fun x1410 => (M.o (D.mul x1406 x1410)))).bind fun x1404 => (((((M.pure v_odd8).bind fun x1415 => (M.pure []).bind fun xs1416 => M.pure (x1415 :: xs1416)).bind fun xs1414 => (M.o (mkTup xs1414))).bind fun x1413 => ((M.pure (.int 13)).bind fun x1417 => (M.o (D.mul x1413 x1417)))).bind fun x1411 => ((M.pure v_odd8).bind fun x1418 => (((((M.pure .non).bind fun x1424 => (M.pure []).bind fun xs1425 => M.pure (x1424 :: xs1425)).bind fun xs1423 => (M.o (mkTup xs1423))).bind fun x1422 => ((M.pure (.int 13)).bind fun x1426 => (M.o (D.mul x1422 x1426)))).bind fun x1420 => (((((M.pure .non).bind fun x1431 => (M.pure []).bind fun xs1432 => M.pure (x1431 :: xs1432)).bind fun xs1430 => (M.o (mkTup xs1430))).bind fun x1429 => ((M.pure (.int 12)).bind fun x1433 => (M.o (D.mul x1429 x1433)))).bind fun x1427 => (M.pure []).bind fun xs1428 => M.pure (x1427 :: xs1428)).bind fun xs1421 => M.pure (x1420 :: xs1421)).bind fun xs1419 => M.pure (x1418 :: xs1419)).bind fun xs1412 => M.pure (x1411 :: xs1412)).bind fun xs1405 => M.pure (x1404 :: xs1405)).bind fun xs1400 => M.pure (x1399 :: xs1400)).bind fun xs1393 => M.pure (x1392 :: xs1393)).bind fun xs1391 => (M.o (mkLst xs1391))).bind fun x1390 => (M.o (seqO x1390))).bind fun ds1389 => ((forL (σ := Unit) (fun s9 d => (M.o (some d)).bind fun b10 => ((((((M.pure v_rooms2).bind fun x1437 => ((M.pure b10).bind fun x1439 => (M.pure []).bind fun xs1440 => M.pure (x1439 :: xs1440)).bind fun xs1438 => M.pure (x1437 :: xs1438)).bind fun xs1436 => (M.nd ((a2 f__law_is_position) (xs1436 ++ ([] : List V).map vD)))).bind fun x1435 => (M.o (asB x1435))).bind fun k1434 => (if k1434 = true then (((M.pure (.str "told")).bind fun x1442 => ((M.pure b10).bind fun x1444 => (M.pure []).bind fun xs1445 => M.pure (x1444 :: xs1445)).bind fun xs1443 => M.pure (x1442 :: xs1443)).bind fun xs1441 => (M.o (mkLst xs1441))) else (((M.pure (.str "position")).bind fun x1447 => ((M.pure b10).bind fun x1449 => (M.pure []).bind fun xs1450 => M.pure (x1449 :: xs1450)).bind fun xs1448 => M.pure (x1447 :: xs1448)).bind fun xs1446 => (M.o (mkLst xs1446))))).bind fun v_wanted12 => (((((M.nd (M.gd (((M.pure v_house1).bind fun x1456 => ((M.pure b10).bind fun x1458 => (M.pure []).bind fun xs1459 => M.pure (x1458 :: xs1459)).bind fun xs1457 => M.pure (x1456 :: xs1457)).bind fun xs1455 => ((a2 f_need_position) (xs1455 ++ ([] : List V).map vD))) (f__law_heard (((M.pure v_house1).bind fun x1456 => ((M.pure b10).bind fun x1458 => (M.pure []).bind fun xs1459 => M.pure (x1458 :: xs1459)).bind fun xs1457 => M.pure (x1456 :: xs1457)).bind fun xs1455 => ((a2 f_need_position) (xs1455 ++ ([] : List V).map vD)))))).bind fun x1454 => ((M.pure (.int 0)).bind fun x1460 => (M.o (D.ix x1454 x1460)))).bind fun x1453 => (((M.pure v_wanted12).bind fun x1462 => ((M.pure (.int 0)).bind fun x1463 => (M.o (D.ix x1462 x1463)))).bind fun x1461 => (M.o (D.ne x1453 x1461)))).bind fun x1452 => (M.o (asB x1452))).bind fun k1451 => (if k1451 = true then ((M.pure (.bl false)).bind fun d1464 => (M.pure (.rt d1464))) else (M.pure (.nx (()))))))) () ds1389).bind fun f => M.pure f)).bind (flT fun s11 => (((M.nd (M.gd (((M.pure .non).bind fun x1469 => ((M.pure (.int 5)).bind fun x1471 => (M.pure []).bind fun xs1472 => M.pure (x1471 :: xs1472)).bind fun xs1470 => M.pure (x1469 :: xs1470)).bind fun xs1468 => ((a2 f_need_position) (xs1468 ++ ([] : List V).map vD))) (f__law_heard (((M.pure .non).bind fun x1469 => ((M.pure (.int 5)).bind fun x1471 => (M.pure []).bind fun xs1472 => M.pure (x1471 :: xs1472)).bind fun xs1470 => M.pure (x1469 :: xs1470)).bind fun xs1468 => ((a2 f_need_position) (xs1468 ++ ([] : List V).map vD)))))).bind fun x1466 => ((((M.pure (.str "house")).bind fun x1476 => ((M.pure (.str "form")).bind fun x1478 => (M.pure []).bind fun xs1479 => M.pure (x1478 :: xs1479)).bind fun xs1477 => M.pure (x1476 :: xs1477)).bind fun xs1475 => (M.o (mkLst xs1475))).bind fun x1473 => (M.pure []).bind fun xs1474 => M.pure (x1473 :: xs1474)).bind fun xs1467 => M.pure (x1466 :: xs1467)).bind fun xs1465 => (M.nd ((a2 (f__law_like 6)) (xs1465 ++ ([] : List V).map vD)))))))))))))
def f__law_positions_right : M D := (((((f__law_draw (.int 9))).bind fun x1481 => (M.pure [x1481, .int 3])).bind fun xs1480 => (((a2 f__law_house) (xs1480 ++ ([] : List V).map vD)))).bind fun v_house1 => ((((M.o (D.ix v_house1 (.int 0))).bind fun x1483 => (M.pure [x1483])).bind fun xs1482 => (M.o (D.len xs1482))).bind fun v_rooms2 => (((M.o (mkLst [.non])).bind fun x1484 => (((M.o (rgs1 v_rooms2)).bind fun p1486 => (M.pure (.lst (rgL p1486)))).bind fun x1485 => (M.o (D.add x1484 x1485)))).bind fun v_spots3 => ((((((((f__law_draw (.int 13))).bind fun x1491 => (M.pure [x1491])).bind fun xs1490 => (M.o (rg1 xs1490))).bind fun ds1489 => ((lcF some (fun b4 => (M.pure true)) (fun b4 => ((f__law_of v_spots3))) ds1489).bind fun ys1492 => (M.pure (.lst ys1492)))).bind fun x1488 => (M.pure [x1488])).bind fun xs1487 => (M.o (D.toTup xs1487))).bind fun v_position7 => (((((((M.nd (f_need_position v_house1 v_position7))).bind fun x1497 => (M.pure [x1497, v_position7])).bind fun xs1496 => ((M.nd ((a2 (f__law_like 6)) (xs1496 ++ ([] : List V).map vD))))).bind fun x1495 => (M.o (asB x1495))).bind fun k1494 => (M.pure (!k1494))).bind fun k1493 => (if k1493 = true then (M.pure (.bl false)) else (((((((M.o (D.neg (.int 1))).bind fun x1502 => (((((M.o (mkTup [])).bind fun x1506 => (((M.o (mkLst [])).bind fun x1508 => (M.pure [x1508, .dct [], .int 0, .non])).bind fun xs1507 => (M.pure (x1506 :: xs1507)))).bind fun xs1505 => (M.pure ((.str "0") :: xs1505))).bind fun xs1504 => (M.pure ((.bl true) :: xs1504))).bind fun xs1503 => (M.pure (x1502 :: xs1503)))).bind fun xs1501 => (M.pure (v_rooms2 :: xs1501))).bind fun xs1500 => (M.o (mkLst xs1500))).bind fun x1499 => (M.pure [x1499])).bind fun xs1498 => (((a1 f__law_of) (xs1498 ++ ([] : List V).map vD)))).bind fun v_odd8 => (((((((M.o (mkTup [v_odd8])).bind fun x1513 => (M.o (D.add v_position7 x1513))).bind fun x1512 => (((M.o (D.toLst [v_position7])).bind fun x1515 => ((((M.o (mkTup [v_odd8])).bind fun x1518 => (M.o (D.mul x1518 (.int 12)))).bind fun x1517 => ((((M.o (mkTup [v_odd8])).bind fun x1521 => (M.o (D.mul x1521 (.int 13)))).bind fun x1520 => (((((M.o (mkTup [.non])).bind fun x1525 => (M.o (D.mul x1525 (.int 13)))).bind fun x1524 => ((((M.o (mkTup [.non])).bind fun x1528 => (M.o (D.mul x1528 (.int 12)))).bind fun x1527 => (M.pure [x1527])).bind fun xs1526 => (M.pure (x1524 :: xs1526)))).bind fun xs1523 => (M.pure (v_odd8 :: xs1523))).bind fun xs1522 => (M.pure (x1520 :: xs1522)))).bind fun xs1519 => (M.pure (x1517 :: xs1519)))).bind fun xs1516 => (M.pure (x1515 :: xs1516)))).bind fun xs1514 => (M.pure (x1512 :: xs1514)))).bind fun xs1511 => (M.o (mkLst xs1511))).bind fun x1510 => (M.o (seqO x1510))).bind fun ds1509 => ((forL (σ := Unit) (fun s9 d => (M.o (some d)).bind fun b10 => (((((M.nd (f__law_is_position v_rooms2 b10))).bind fun x1530 => (M.o (asB x1530))).bind fun k1529 => (if k1529 = true then (M.o (mkLst [.str "told", b10])) else (M.o (mkLst [.str "position", b10])))).bind fun v_wanted12 => (((((M.nd (M.gd ((f_need_position v_house1 b10)) (f__law_heard ((f_need_position v_house1 b10))))).bind fun x1534 => (M.o (D.ix x1534 (.int 0)))).bind fun x1533 => ((M.o (D.ix v_wanted12 (.int 0))).bind fun x1535 => (M.o (D.ne x1533 x1535)))).bind fun x1532 => (M.o (asB x1532))).bind fun k1531 => (if k1531 = true then (M.pure (.rt (.bl false))) else (M.pure (.nx (()))))))) () ds1509).bind fun f => M.pure f)).bind (flT fun s11 => (((M.nd (M.gd ((f_need_position .non (.int 5))) (f__law_heard ((f_need_position .non (.int 5)))))).bind fun x1537 => (((M.o (mkLst [.str "house", .str "form"])).bind fun x1539 => (M.pure [x1539])).bind fun xs1538 => (M.pure (x1537 :: xs1538)))).bind fun xs1536 => ((M.nd ((a2 (f__law_like 6)) (xs1536 ++ ([] : List V).map vD))))))))))))))
def sp__law_positions_right (cs : Cs) : SpD := SpGT cs cs.T (a0 f__law_positions_right)
theorem imp__law_positions_right {cs : Cs} : ImpGT cs cs.T (sp__law_positions_right cs) (a0 f__law_positions_right) := fun _ _ _ _ h => h
def u_law : M D := (((((M.pure (.int 5)).bind fun x1542 => (M.pure []).bind fun xs1543 => M.pure (x1542 :: xs1543)).bind fun xs1541 => (M.o (rg1 xs1541))).bind fun ds1540 => ((forL (σ := Unit) (fun s1 d => (M.o (some d)).bind fun b2 => ((((((M.pure []).bind fun xs1548 => ((a0 f__law_kinds_right) (xs1548 ++ ([] : List V).map vD))).bind fun x1547 => (M.o (asB x1547))).bind fun k1546 => (M.pure (!k1546))).bind fun k1545 => (if k1545 = true then (M.pure true) else ((((M.pure []).bind fun xs1551 => ((a0 f__law_positions_right) (xs1551 ++ ([] : List V).map vD))).bind fun x1550 => (M.o (asB x1550))).bind fun k1549 => (M.pure (!k1549))))).bind fun k1544 => (if k1544 = true then ((M.pure (.bl false)).bind fun d1552 => (M.pure (.rt d1552))) else (M.pure (.nx (())))))) () ds1540).bind fun f => M.pure f)).bind (flT fun s3 => (((((M.pure (.int 1)).bind fun x1555 => ((M.pure (.int 13)).bind fun x1556 => ((M.o (rgs2 x1555 x1556)).bind fun p1557 => (M.pure (.lst (rgL p1557)))))).bind fun x1554 => ((((M.pure (.str "all")).bind fun x1560 => (M.pure []).bind fun xs1561 => M.pure (x1560 :: xs1561)).bind fun xs1559 => (M.o (mkLst xs1559))).bind fun x1558 => (M.o (D.add x1554 x1558)))).bind fun x1553 => (((M.pure []).bind fun xs1563 => (M.o (mkLst xs1563))).bind fun x1562 => (M.pure (x1553, x1562)))).bind fun p6 => ((((M.pure p6.1).bind fun x1565 => (M.o (seqO x1565))).bind fun ds1564 => (forS (σ := D) (fun s7 d => (M.o (some d)).bind fun b8 => (((M.pure s7).bind fun x1566 => ((((M.pure p6.1).bind fun x1569 => (M.o (seqO x1569))).bind fun ds1568 => ((lcF some (fun b10 => (M.pure true)) (fun b10 => (((M.pure b8).bind fun x1572 => ((M.pure b10).bind fun x1574 => (M.pure []).bind fun xs1575 => M.pure (x1574 :: xs1575)).bind fun xs1573 => M.pure (x1572 :: xs1573)).bind fun xs1571 => (M.o (mkTup xs1571)))) ds1568).bind fun ys1570 => (M.pure (.lst ys1570)))).bind fun x1567 => (M.o (D.add x1566 x1567)))).bind fun v_due13 => (M.pure v_due13))) p6.2 ds1564)).bind fun s9 => ((((M.pure []).bind fun xs1579 => (M.nd ((a0 f_all_kinds) (xs1579 ++ ([] : List V).map vD)))).bind fun x1577 => ((((M.pure s9).bind fun x1583 => (M.pure []).bind fun xs1584 => M.pure (x1583 :: xs1584)).bind fun xs1582 => (M.o (D.toTup xs1582))).bind fun x1580 => (M.pure []).bind fun xs1581 => M.pure (x1580 :: xs1581)).bind fun xs1578 => M.pure (x1577 :: xs1578)).bind fun xs1576 => (M.nd ((a2 (f__law_like 6)) (xs1576 ++ ([] : List V).map vD))))))))
def f_law : M D := (((M.o (rg1 [.int 5])).bind fun ds1585 => ((forL (σ := Unit) (fun s1 d => (M.o (some d)).bind fun b2 => ((((((f__law_kinds_right)).bind fun x1589 => (M.o (asB x1589))).bind fun k1588 => (M.pure (!k1588))).bind fun k1587 => (if k1587 = true then (M.pure true) else ((((f__law_positions_right)).bind fun x1591 => (M.o (asB x1591))).bind fun k1590 => (M.pure (!k1590))))).bind fun k1586 => (if k1586 = true then (M.pure (.rt (.bl false))) else (M.pure (.nx (())))))) () ds1585).bind fun f => M.pure f)).bind (flT fun s3 => (((((M.o (rgs2 (.int 1) (.int 13))).bind fun p1594 => (M.pure (.lst (rgL p1594)))).bind fun x1593 => ((M.o (mkLst [.str "all"])).bind fun x1595 => (M.o (D.add x1593 x1595)))).bind fun x1592 => ((M.o (mkLst [])).bind fun x1596 => (M.pure (x1592, x1596)))).bind fun p6 => (((M.o (seqO p6.1)).bind fun ds1597 => (forS (σ := D) (fun s7 d => (M.o (some d)).bind fun b8 => ((((M.o (seqO p6.1)).bind fun ds1599 => ((lcF some (fun b10 => (M.pure true)) (fun b10 => (M.o (mkTup [b8, b10]))) ds1599).bind fun ys1600 => (M.pure (.lst ys1600)))).bind fun x1598 => (M.o (D.add s7 x1598))).bind fun v_due13 => (M.pure v_due13))) p6.2 ds1597)).bind fun s9 => ((((M.nd (f_all_kinds))).bind fun x1602 => (((M.o (D.toTup [s9])).bind fun x1604 => (M.pure [x1604])).bind fun xs1603 => (M.pure (x1602 :: xs1603)))).bind fun xs1601 => ((M.nd ((a2 (f__law_like 6)) (xs1601 ++ ([] : List V).map vD)))))))))
def sp_law (cs : Cs) : SpD := sp_lawM cs f_law
end Dz
namespace Dz
open PySem PySem.Spec PyProof.Rows L2 LamX
abbrev st_is_number : Stmt := top 6
abbrev N_is_number : List Str := ["value", "least", "most"]
abbrev ps_is_number : List Str := ["value", "least", "most"]
def t_is_number (K : PySem.W.Frag) (cs : Cs) (E : XK) : TS :=
    (tSeq (tIfS (tOr (tNot (tB (tCB (rIsi K) (tCons (tVar 0) (tCons (tC (.ty "int")) tNil))))) (tB (tCB (rIsi K) (tCons (tVar 0) (tCons (tC (.ty "bool")) tNil))))) (tRet (tC (.bl false))) tNext)
    (tRet (tAndV (tOp rGe (tVar 0) (tVar 1)) (tOrV (tOp rIsN (tVar 2) (tC .non)) (tOp (rLe K) (tVar 0) (tVar 2))))))
abbrev st_is_row : Stmt := top 7
abbrev N_is_row : List Str := ["value", "length"]
abbrev ps_is_row : List Str := ["value", "length"]
def t_is_row (K : PySem.W.Frag) (cs : Cs) (E : XK) : TS :=
    (tRet (tAndV (tCB (rIsi K) (tCons (tVar 0) (tCons (tC (.ty "tuple")) tNil))) (tOrV (tOp rIsN (tVar 1) (tC .non)) (tOp (rEqA K) (tCB (rLenA K) (tCons (tVar 0) tNil)) (tVar 1)))))
abbrev st_are_numbers : Stmt := top 8
abbrev N_are_numbers : List Str := ["value", "most", "least", "one"]
abbrev ps_are_numbers : List Str := ["value", "most", "least"]
def t_are_numbers (K : PySem.W.Frag) (cs : Cs) (E : XK) : TS :=
    (tRet (tAndV (tCallG (lift (sp_is_row cs)) [.non] (WE (WF E)) (tCons (tVar 0) tNil)) (tCB (rAll K) (tCons (tLc (iSeq K (tVar 0)) (gName 3) tYes (tCallG (lift (sp_is_number cs)) [] (fun _ => E0) (tCons (tVar 3) (tCons (tVar 2) (tCons (tVar 1) tNil)))) [3]) tNil))))
abbrev st_is_bound : Stmt := top 12
abbrev N_is_bound : List Str := ["value", "most"]
abbrev ps_is_bound : List Str := ["value", "most"]
def t_is_bound (K : PySem.W.Frag) (cs : Cs) (E : XK) : TS :=
    (tRet (tIf (tB (tCB (rIsi K) (tCons (tVar 0) (tCons (tC (.ty "str")) tNil)))) (tOp (rEqA K) (tVar 0) (tC (.str "all"))) (tCallG (lift (sp_is_number cs)) [] (WE (WF E)) (tCons (tVar 0) (tCons (tC (.int 1)) (tCons (tVar 1) tNil))))))
abbrev st_need_kind : Stmt := top 13
abbrev N_need_kind : List Str := ["kind"]
abbrev ps_need_kind : List Str := ["kind"]
def t_need_kind (K : PySem.W.Frag) (cs : Cs) (E : XK) : TS :=
    (tSeq (tIfS (tOr (tNot (tB (tCallG (lift (sp_is_row cs)) [] (WE (WF E)) (tCons (tVar 0) (tCons (tC (.int 2)) tNil))))) (tOr (tNot (tB (tCallG (lift (sp_is_bound cs)) [] (WE (WF E)) (tCons (tOp (rIx K) (tVar 0) (tC (.int 0))) (tCons (tC (.int 12)) tNil))))) (tNot (tB (tCallG (lift (sp_is_bound cs)) [] (WE (WF E)) (tCons (tOp (rIx K) (tVar 0) (tC (.int 1))) (tCons (tC (.int 12)) tNil))))))) (fun _ s H => tMkBad (cs.ad 6) "value" (tCons (tVar 0) tNil) s H fun cls d H' => (WF E) cls d s H') tNext)
    (tRet (tVar 0)))
abbrev st_is_most : Stmt := top 14
abbrev N_is_most : List Str := ["one", "other"]
abbrev ps_is_most : List Str := ["one", "other"]
def t_is_most (K : PySem.W.Frag) (cs : Cs) (E : XK) : TS :=
    (tRet (tOrV (tOp (rEqA K) (tVar 0) (tC (.str "all"))) (tAndV (tOp (rNeA K) (tVar 1) (tC (.str "all"))) (tOp rGe (tVar 0) (tVar 1)))))
abbrev st_is_finer : Stmt := top 15
abbrev N_is_finer : List Str := ["kind", "other"]
abbrev ps_is_finer : List Str := ["kind", "other"]
def t_is_finer (K : PySem.W.Frag) (cs : Cs) (E : XK) : TS :=
    (tSeq (tDrop (tCallG (lift (sp_need_kind cs)) [] (WE (WF E)) (tCons (tVar 0) tNil)))
    (tSeq (tDrop (tCallG (lift (sp_need_kind cs)) [] (WE (WF E)) (tCons (tVar 1) tNil)))
    (tRet (tAndV (tCallG (lift (sp_is_most cs)) [] (WE (WF E)) (tCons (tOp (rIx K) (tVar 0) (tC (.int 0))) (tCons (tOp (rIx K) (tVar 1) (tC (.int 0))) tNil))) (tCallG (lift (sp_is_most cs)) [] (WE (WF E)) (tCons (tOp (rIx K) (tVar 0) (tC (.int 1))) (tCons (tOp (rIx K) (tVar 1) (tC (.int 1))) tNil)))))))
abbrev st_all_kinds : Stmt := top 16
abbrev N_all_kinds : List Str := ["pebbles", "rounds", "some", "many"]
abbrev ps_all_kinds : List Str := []
def t_all_kinds (K : PySem.W.Frag) (cs : Cs) (E : XK) : TS :=
    (tSeq (tAsg (tOp (rAdd K) (tLstRg (tRg2 (tC (.int 1)) (tOp (rAdd K) (tC (.int 12)) (tC (.int 1))))) (tLst (tCons (tC (.str "all")) tNil))) (gName 0))
    (tSeq (tAsg (tOp (rAdd K) (tLstRg (tRg2 (tC (.int 1)) (tOp (rAdd K) (tC (.int 12)) (tC (.int 1))))) (tLst (tCons (tC (.str "all")) tNil))) (gName 1))
    (tRet (tCB (rTupOf K) (tCons (tLc2 (iSeq K (tVar 0)) (gName 2) tYes (iSeq K (tVar 1)) (gName 3) tYes (tTup (tCons (tVar 2) (tCons (tVar 3) tNil))) [2, 3] [3]) tNil)))))
abbrev st_is_door : Stmt := top 20
abbrev N_is_door : List Str := ["rooms", "value"]
abbrev ps_is_door : List Str := ["rooms", "value"]
def t_is_door (K : PySem.W.Frag) (cs : Cs) (E : XK) : TS :=
    (tSeq (tIfS (tOr (tNot (tB (tCallG (lift (sp_is_row cs)) [] (WE (WF E)) (tCons (tVar 1) (tCons (tC (.int 2)) tNil))))) (tNot (tB (tCallG (lift (sp_is_number cs)) [.non] (WE (WF E)) (tCons (tOp (rIx K) (tVar 1) (tC (.int 0))) (tCons (tC (.int 0)) tNil)))))) (tRet (tC (.bl false))) tNext)
    (tRet (tCallG (lift (sp_is_number cs)) [] (WE (WF E)) (tCons (tOp (rIx K) (tVar 1) (tC (.int 1))) (tCons (tOp (rAdd K) (tOp (rIx K) (tVar 1) (tC (.int 0))) (tC (.int 1))) (tCons (tOp rSub (tVar 0) (tC (.int 1))) tNil))))))
abbrev st_house_fault : Stmt := top 21
abbrev N_house_fault : List Str := ["value", "most", "place", "door"]
abbrev ps_house_fault : List Str := ["value", "most"]
def t_house_fault (K : PySem.W.Frag) (cs : Cs) (E : XK) : TS :=
    (tSeq (tIfS (tOr (tNot (tB (tCallG (lift (sp_is_row cs)) [] (WE (WF E)) (tCons (tVar 0) (tCons (tC (.int 2)) tNil))))) (tOr (tNot (tB (tCallG (lift (sp_is_row cs)) [.non] (WE (WF E)) (tCons (tOp (rIx K) (tVar 0) (tC (.int 0))) tNil)))) (tNot (tB (tCallG (lift (sp_is_row cs)) [.non] (WE (WF E)) (tCons (tOp (rIx K) (tVar 0) (tC (.int 1))) tNil)))))) (tRet (tTup (tCons (tC (.str "form")) tNil))) tNext)
    (tSeq (tIfS (tTest (tOp rGt (tCB (rLenA K) (tCons (tOp (rIx K) (tVar 0) (tC (.int 0))) tNil)) (tVar 1))) (tRet (tTup (tCons (tC (.str "many")) tNil))) tNext)
    (tSeq (tIfS (tNot (tB (tCallG (lift (sp_are_numbers cs)) [.int 0] (WE (WF E)) (tCons (tOp (rIx K) (tVar 0) (tC (.int 0))) (tCons (tC (.int 9)) tNil))))) (tRet (tTup (tCons (tC (.str "colours")) tNil))) tNext)
    (tSeq (tFor (iEnumA K (tCons (tOp (rIx K) (tVar 0) (tC (.int 1))) tNil)) (gTup K 2 (gCons (gName 2) (gCons (gName 3) gNil)))
    (tIfS (tOr (tNot (tB (tCallG (lift (sp_is_door cs)) [] (WE (WF E)) (tCons (tCB (rLenA K) (tCons (tOp (rIx K) (tVar 0) (tC (.int 0))) tNil)) (tCons (tVar 3) tNil))))) (tAnd (tTest (tOp rGt (tVar 2) (tC (.int 0)))) (tTest (tOp (rLe K) (tVar 3) (tOp (rIx K) (tOp (rIx K) (tVar 0) (tC (.int 1))) (tOp rSub (tVar 2) (tC (.int 1)))))))) (tRet (tTup (tCons (tVar 2) tNil))) tNext))
    (tRet (tTup tNil))))))
abbrev st_need_house : Stmt := top 22
abbrev N_need_house : List Str := ["house", "fault"]
abbrev ps_need_house : List Str := ["house"]
def t_need_house (K : PySem.W.Frag) (cs : Cs) (E : XK) : TS :=
    (tSeq (tAsg (tCallG (lift (sp_house_fault cs)) [] (WE (WF E)) (tCons (tVar 0) (tCons (tC (.int 60)) tNil))) (gName 1))
    (tSeq (tIfS (tTest (tOp (rNeA K) (tVar 1) (tTup tNil))) (fun _ s H => tMkBad (cs.ad 3) "place" (tCons (tOp (rIx K) (tVar 1) (tC (.int 0))) tNil) s H fun cls d H' => (WF E) cls d s H') tNext)
    (tRet (tVar 0))))
abbrev st_need_position : Stmt := top 24
abbrev N_need_position : List Str := ["house", "position", "room"]
abbrev ps_need_position : List Str := ["house", "position"]
def t_need_position (K : PySem.W.Frag) (cs : Cs) (E : XK) : TS :=
    (tSeq (tDrop (tCallG (lift (sp_need_house cs)) [] (WE (WF E)) (tCons (tVar 0) tNil)))
    (tSeq (tIfS (tOr (tNot (tB (tCallG (lift (sp_is_row cs)) [.non] (WE (WF E)) (tCons (tVar 1) tNil)))) (tTest (tOp rGt (tCB (rLenA K) (tCons (tVar 1) tNil)) (tC (.int 12))))) (fun _ s H => tMkBad (cs.ad 7) "value" (tCons (tVar 1) tNil) s H fun cls d H' => (WF E) cls d s H') tNext)
    (tSeq (tFor (iSeq K (tVar 1)) (gName 2)
    (tIfS (tAnd (tTest (tOp rNotN (tVar 2) (tC .non))) (tNot (tB (tCallG (lift (sp_is_number cs)) [] (WE (WF E)) (tCons (tVar 2) (tCons (tC (.int 0)) (tCons (tOp rSub (tCB (rLenA K) (tCons (tOp (rIx K) (tVar 0) (tC (.int 0))) tNil)) (tC (.int 1))) tNil))))))) (fun _ s H => tMkBad (cs.ad 7) "value" (tCons (tVar 1) tNil) s H fun cls d H' => (WF E) cls d s H') tNext))
    (tRet (tVar 1)))))
abbrev st__law_mixed : Stmt := top 26
abbrev N__law_mixed : List Str := ["cell", "n", "blend"]
abbrev ps__law_mixed : List Str := ["cell", "n"]
def t__law_mixed (K : PySem.W.Frag) (cs : Cs) (E : XK) : TS :=
    (tSeq (tAsg (tOp (rAdd K) (tOp (rAdd K) (tOp rMod (tCB rIntA (tCons (tOp (rMulA K) (tOp (rMulA K) (tVar 0) (tOp (rAdd K) (tC (.int 1)) (tOp (rMulA K) (tC (.int 2)) (tVar 1)))) (tC (.int 48271))) tNil)) (tC (.int 2147483647))) (tOp (rMulA K) (tOp (rMulA K) (tC (.int 7919)) (tVar 1)) (tVar 1))) (tOp (rMulA K) (tC (.int 104729)) (tVar 1))) (gName 2))
    (tRet (tOp rDiv (tOp rMod (tCB rIntA (tCons (tOp (rMulA K) (tVar 2) (tC (.int 69621))) tNil)) (tC (.int 2147483629))) (tC (.int 7)))))
abbrev st__law_folded : Stmt := top 27
abbrev N__law_folded : List Str := ["script", "found", "n", "cell"]
abbrev ps__law_folded : List Str := ["script"]
def t__law_folded (K : PySem.W.Frag) (cs : Cs) (E : XK) : TS :=
    (tSeq (tAsg (tLc (iRng1 (tCons (tC (.int 64)) tNil)) (gName 2) tYes (tOp (rAdd K) (tC (.int 17)) (tVar 2)) [2]) (gName 1))
    (tSeq (tFor (iEnumA K (tCons (tVar 0) tNil)) (gTup K 2 (gCons (gName 2) (gCons (gName 3) gNil)))
    (tAsg (tOp rMod (tCB rIntA (tCons (tOp (rAdd K) (tOp (rMulA K) (tOp (rIx K) (tVar 1) (tOp rMod (tCB rIntA (tCons (tVar 2) tNil)) (tC (.int 64)))) (tC (.int 48271))) (tVar 3)) tNil)) (tC (.int 2147483647))) (gSub (tVar 1) (tOp rMod (tCB rIntA (tCons (tVar 2) tNil)) (tC (.int 64))) rSetL)))
    (tSeq (tFor (iRng2 (tCons (tC (.int 1)) (tCons (tC (.int 64)) tNil))) (gName 2)
    (tAsg (tOp rMod (tCB rIntA (tCons (tOp (rAdd K) (tOp (rIx K) (tVar 1) (tVar 2)) (tOp (rMulA K) (tOp (rIx K) (tVar 1) (tOp rSub (tVar 2) (tC (.int 1)))) (tC (.int 16807)))) tNil)) (tC (.int 2147483647))) (gSub (tVar 1) (tVar 2) rSetL)))
    (tRet (tVar 1)))))
abbrev st__law_draw : Stmt := top 28
abbrev N__law_draw : List Str := ["m", "limit", "n", "lot", "here", "cell"]
abbrev ps__law_draw : List Str := ["m", "limit"]
def t__law_draw (K : PySem.W.Frag) (cs : Cs) (E : XK) : TS :=
    (tSeq (tAsg (tDGet (tVar 0) (tC (.str "spot"))) (gName 2))
    (tSeq (sDPut (tVar 0) (tC (.str "spot")) (tOp (rAdd K) (tVar 2) (tC (.int 1))))
    (tSeq (tIfS (tTest (tOp (rNeA K) (tDGet (tVar 0) (tC (.str "great"))) (tLst tNil))) (tSeq (tAsg (tDGet (tVar 0) (tC (.str "great"))) (gName 3))
    (tSeq (tAsg (tOp rMod (tCB rIntA (tCons (tVar 2) tNil)) (tCB (rLenA K) (tCons (tVar 3) tNil))) (gName 4))
    (tSeq (tAsg (tOp (rIx K) (tVar 3) (tVar 4)) (gName 5))
    (tIfS (tTest (tOp rGt (tVar 5) (tC (.int 0)))) (tSeq (tAsg (tOp rDiv (tVar 5) (tVar 1)) (gSub (tVar 3) (tVar 4) rSetL))
    (tRet (tOp rMod (tCB rIntA (tCons (tVar 5) tNil)) (tVar 1)))) tNext)))) tNext)
    (tSeq (tAsg (tDGet (tVar 0) (tC (.str "cells"))) (gName 3))
    (tRet (tOp rMod (tCB rIntA (tCons (tCallG (lift (sp__law_mixed cs)) [] (WE (WF E)) (tCons (tCallG (lift (sp__law_mixed cs)) [] (WE (WF E)) (tCons (tOp (rAdd K) (tOp (rIx K) (tVar 3) (tOp rMod (tCB rIntA (tCons (tVar 2) tNil)) (tC (.int 64)))) (tOp (rMulA K) (tC (.int 31)) (tOp rDiv (tVar 2) (tC (.int 64))))) (tCons (tVar 2) tNil))) (tCons (tOp (rAdd K) (tVar 2) (tC (.int 7))) tNil))) tNil)) (tVar 1)))))))
abbrev st__law_begun : Stmt := top 29
abbrev N__law_begun : List Str := ["script", "m", "cell"]
abbrev ps__law_begun : List Str := ["script"]
def t__law_begun (K : PySem.W.Frag) (cs : Cs) (E : XK) : TS :=
    (tSeq (tAsg (tDisp (((tC (.str "cells")), (tCallG (lift (sp__law_folded cs)) [] (WE (WF E)) (tCons (tVar 0) tNil))) :: (((tC (.str "great")), (tLst tNil)) :: (((tC (.str "spot")), (tC (.int 0))) :: [])))) (gName 1))
    (tSeq (sDPut (tVar 1) (tC (.str "great")) (tLc (iSeq K (tVar 0)) (gName 2) tYes (tIf (tTest (tOp rGe (tVar 2) (tOp rPow (tC (.int 10)) (tC (.int 18))))) (tVar 2) (tC (.int 0))) [2]))
    (tRet (tVar 1))))
abbrev st__law_of : Stmt := top 30
abbrev N__law_of : List Str := ["m", "some"]
abbrev ps__law_of : List Str := ["m", "some"]
def t__law_of (K : PySem.W.Frag) (cs : Cs) (E : XK) : TS :=
    (tRet (tOp (rIx K) (tVar 1) (tCallG (lift (sp__law_draw cs)) [] (WE (WF E)) (tCons (tVar 0) (tCons (tCB (rLenA K) (tCons (tVar 1) tNil)) tNil)))))
abbrev st__law_like : Stmt := top 31
abbrev N__law_like : List Str := ["got", "due", "n"]
abbrev ps__law_like : List Str := ["got", "due"]
def t__law_like (K : PySem.W.Frag) (cs : Cs) (sp_self : SpD) (E : XK) : TS :=
    (tSeq (tIfS (tTest (tOp rIsN (tVar 1) (tC .non))) (tRet (tOp rIsN (tVar 0) (tC .non))) tNext)
    (tSeq (tIfS (tB (tCB (rIsi K) (tCons (tVar 1) (tCons (tC (.ty "bool")) tNil)))) (tRet (tAndV (tCB (rIsi K) (tCons (tVar 0) (tCons (tC (.ty "bool")) tNil))) (tOp (rEqA K) (tVar 0) (tVar 1)))) tNext)
    (tSeq (tIfS (tB (tCB (rIsi K) (tCons (tVar 1) (tCons (tC (.ty "int")) tNil)))) (tRet (tAndV (tCB (rIsi K) (tCons (tVar 0) (tCons (tC (.ty "int")) tNil))) (tAndV (tNotV (tCB (rIsi K) (tCons (tVar 0) (tCons (tC (.ty "bool")) tNil)))) (tOp (rEqA K) (tVar 0) (tVar 1))))) tNext)
    (tSeq (tIfS (tB (tCB (rIsi K) (tCons (tVar 1) (tCons (tC (.ty "str")) tNil)))) (tRet (tAndV (tCB (rIsi K) (tCons (tVar 0) (tCons (tC (.ty "str")) tNil))) (tOp (rEqA K) (tVar 0) (tVar 1)))) tNext)
    (tSeq (tIfS (tOr (tAnd (tB (tCB (rIsi K) (tCons (tVar 1) (tCons (tC (.ty "tuple")) tNil)))) (tNot (tB (tCB (rIsi K) (tCons (tVar 0) (tCons (tC (.ty "tuple")) tNil)))))) (tAnd (tB (tCB (rIsi K) (tCons (tVar 1) (tCons (tC (.ty "list")) tNil)))) (tNot (tB (tCB (rIsi K) (tCons (tVar 0) (tCons (tC (.ty "list")) tNil))))))) (tRet (tC (.bl false))) tNext)
    (tSeq (tIfS (tTest (tOp (rNeA K) (tCB (rLenA K) (tCons (tVar 0) tNil)) (tCB (rLenA K) (tCons (tVar 1) tNil)))) (tRet (tC (.bl false))) tNext)
    (tSeq (tFor (iRng1 (tCons (tCB (rLenA K) (tCons (tVar 1) tNil)) tNil)) (gName 2)
    (tIfS (tNot (tB (tCallG (lift sp_self) [] (WE (WF E)) (tCons (tOp (rIx K) (tVar 0) (tVar 2)) (tCons (tOp (rIx K) (tVar 1) (tVar 2)) tNil))))) (tRet (tC (.bl false))) tNext))
    (tRet (tC (.bl true))))))))))
abbrev st__law_house : Stmt := top 32
abbrev N__law_house : List Str := ["m", "rooms", "colours", "found", "dense", "low", "high", "room"]
abbrev ps__law_house : List Str := ["m", "rooms", "colours"]
def t__law_house (K : PySem.W.Frag) (cs : Cs) (E : XK) : TS :=
    (tSeq (tAsg (tTup (tCons (tLst tNil) (tCons (tCallG (lift (sp__law_draw cs)) [] (WE (WF E)) (tCons (tVar 0) (tCons (tC (.int 5)) tNil))) tNil))) (gTup K 2 (gCons (gName 3) (gCons (gName 4) gNil))))
    (tSeq (tFor (iRng1 (tCons (tVar 1) tNil)) (gName 5)
    (tAsg (tOp (rAdd K) (tVar 3) (tLc (iRng2 (tCons (tOp (rAdd K) (tVar 5) (tC (.int 1))) (tCons (tVar 1) tNil))) (gName 6) (tTest (tOp (rLt K) (tCallG (lift (sp__law_draw cs)) [] (fun _ => E0) (tCons (tVar 0) (tCons (tC (.int 4)) tNil))) (tVar 4))) (tTup (tCons (tVar 5) (tCons (tVar 6) tNil))) [6])) (gName 3)))
    (tRet (tTup (tCons (tCB (rTupOf K) (tCons (tLc (iRng1 (tCons (tVar 1) tNil)) (gName 7) tYes (tCallG (lift (sp__law_draw cs)) [] (fun _ => E0) (tCons (tVar 0) (tCons (tVar 2) tNil))) [7]) tNil)) (tCons (tCB (rTupOf K) (tCons (tVar 3) tNil)) tNil))))))
abbrev st__law_kind : Stmt := top 33
abbrev N__law_kind : List Str := ["m", "pebbles", "rounds", "some", "many"]
abbrev ps__law_kind : List Str := ["m", "pebbles", "rounds"]
def t__law_kind (K : PySem.W.Frag) (cs : Cs) (E : XK) : TS :=
    (tSeq (tPar 3 4 (tCons (tOp (rAdd K) (tC (.int 1)) (tCallG (lift (sp__law_draw cs)) [] (WE (WF E)) (tCons (tVar 0) (tCons (tOp (rAdd K) (tVar 1) (tC (.int 1))) tNil)))) (tCons (tOp (rAdd K) (tC (.int 1)) (tCallG (lift (sp__law_draw cs)) [] (WE (WF E)) (tCons (tVar 0) (tCons (tOp (rAdd K) (tVar 2) (tC (.int 1))) tNil)))) tNil)))
    (tRet (tTup (tCons (tIf (tTest (tOp rGt (tVar 3) (tVar 1))) (tC (.str "all")) (tVar 3)) (tCons (tIf (tTest (tOp rGt (tVar 4) (tVar 2))) (tC (.str "all")) (tVar 4)) tNil)))))
abbrev st__law_rank : Stmt := top 34
abbrev N__law_rank : List Str := ["bound"]
abbrev ps__law_rank : List Str := ["bound"]
def t__law_rank (K : PySem.W.Frag) (cs : Cs) (E : XK) : TS :=
    (tRet (tIf (tB (tCB (rIsi K) (tCons (tVar 0) (tCons (tC (.ty "str")) tNil)))) (tC (.int 99)) (tVar 0)))
abbrev st__law_is_bound : Stmt := top 35
abbrev N__law_is_bound : List Str := ["value"]
abbrev ps__law_is_bound : List Str := ["value"]
def t__law_is_bound (K : PySem.W.Frag) (cs : Cs) (E : XK) : TS :=
    (tSeq (tIfS (tB (tCB (rIsi K) (tCons (tVar 0) (tCons (tC (.ty "str")) tNil)))) (tRet (tOp (rEqA K) (tVar 0) (tC (.str "all")))) tNext)
    (tRet (tAndV (tCB (rIsi K) (tCons (tVar 0) (tCons (tC (.ty "int")) tNil))) (tAndV (tNotV (tCB (rIsi K) (tCons (tVar 0) (tCons (tC (.ty "bool")) tNil)))) (tChain (rLe K) (rLe K) (tC (.int 1)) (tVar 0) (tC (.int 12)))))))
abbrev st__law_is_kind : Stmt := top 36
abbrev N__law_is_kind : List Str := ["value"]
abbrev ps__law_is_kind : List Str := ["value"]
def t__law_is_kind (K : PySem.W.Frag) (cs : Cs) (E : XK) : TS :=
    (tRet (tAndV (tCB (rIsi K) (tCons (tVar 0) (tCons (tC (.ty "tuple")) tNil))) (tAndV (tOp (rEqA K) (tCB (rLenA K) (tCons (tVar 0) tNil)) (tC (.int 2))) (tAndV (tCallG (lift (sp__law_is_bound cs)) [] (WE (WF E)) (tCons (tOp (rIx K) (tVar 0) (tC (.int 0))) tNil)) (tCallG (lift (sp__law_is_bound cs)) [] (WE (WF E)) (tCons (tOp (rIx K) (tVar 0) (tC (.int 1))) tNil))))))
abbrev st__law_is_position : Stmt := top 37
abbrev N__law_is_position : List Str := ["rooms", "value", "room"]
abbrev ps__law_is_position : List Str := ["rooms", "value"]
def t__law_is_position (K : PySem.W.Frag) (cs : Cs) (E : XK) : TS :=
    (tSeq (tIfS (tOr (tNot (tB (tCB (rIsi K) (tCons (tVar 1) (tCons (tC (.ty "tuple")) tNil))))) (tTest (tOp rGt (tCB (rLenA K) (tCons (tVar 1) tNil)) (tC (.int 12))))) (tRet (tC (.bl false))) tNext)
    (tSeq (tFor (iSeq K (tVar 1)) (gName 2)
    (tIfS (tAnd (tTest (tOp rNotN (tVar 2) (tC .non))) (tOr (tNot (tB (tCB (rIsi K) (tCons (tVar 2) (tCons (tC (.ty "int")) tNil))))) (tOr (tB (tCB (rIsi K) (tCons (tVar 2) (tCons (tC (.ty "bool")) tNil)))) (tNot (tTest (tChain (rLe K) (rLt K) (tC (.int 0)) (tVar 2) (tVar 0))))))) (tRet (tC (.bl false))) tNext))
    (tRet (tC (.bl true)))))
abbrev st__law_heard : Stmt := top 38
abbrev N__law_heard : List Str := ["call", "told", "e"]
abbrev ps__law_heard : List Str := ["call"]
def t__law_heard (K : PySem.W.Frag) (cs : Cs) (E : XK) (lq : Str) (lf lc : Addr) (tl : LamT) : TS :=
    (tSeq (tAsg (tLst (tCons (tC (.str "none")) (tCons (tC .non) tNil))) (gName 1))
    (tSeq (tTry K (WF E) (fun W' => (tAsg (tLst (tCons (tC (.str "told")) (tCons (tAct W' lf lc lq tl) tNil))) (gName 1))) ((.ref (cs.ad 6), some 2, fun a cls d => (tAsg (tLst (tCons (tC (.str "kind")) (tCons (tXf a cls d (cs.ad 6) "value" (tVar 2)) tNil))) (gName 1))) :: ((.ref (cs.ad 7), some 2, fun a cls d => (tAsg (tLst (tCons (tC (.str "position")) (tCons (tXf a cls d (cs.ad 7) "value" (tVar 2)) tNil))) (gName 1))) :: ((.ref (cs.ad 3), some 2, fun a cls d => (tAsg (tLst (tCons (tC (.str "house")) (tCons (tXf a cls d (cs.ad 3) "place" (tVar 2)) tNil))) (gName 1))) :: []))))
    (tRet (tVar 1))))
abbrev st__law_kinds_right : Stmt := top 39
abbrev N__law_kinds_right : List Str := ["m", "kind", "other", "due", "odd", "value", "wanted", "told"]
abbrev ps__law_kinds_right : List Str := ["m"]
def t__law_kinds_right (K : PySem.W.Frag) (cs : Cs) (E : XK) : TS :=
    (tSeq (tAsg (tTup (tCons (tCallG (lift (sp__law_kind cs)) [] (WE (WF E)) (tCons (tVar 0) (tCons (tC (.int 12)) (tCons (tC (.int 12)) tNil)))) (tCons (tCallG (lift (sp__law_kind cs)) [] (WE (WF E)) (tCons (tVar 0) (tCons (tC (.int 12)) (tCons (tC (.int 12)) tNil)))) tNil))) (gTup K 2 (gCons (gName 1) (gCons (gName 2) gNil))))
    (tSeq (tAsg (tAndV (tOp rGe (tCallG (lift (sp__law_rank cs)) [] (WE (WF E)) (tCons (tOp (rIx K) (tVar 1) (tC (.int 0))) tNil)) (tCallG (lift (sp__law_rank cs)) [] (WE (WF E)) (tCons (tOp (rIx K) (tVar 2) (tC (.int 0))) tNil))) (tOp rGe (tCallG (lift (sp__law_rank cs)) [] (WE (WF E)) (tCons (tOp (rIx K) (tVar 1) (tC (.int 1))) tNil)) (tCallG (lift (sp__law_rank cs)) [] (WE (WF E)) (tCons (tOp (rIx K) (tVar 2) (tC (.int 1))) tNil)))) (gName 3))
    (tSeq (tIfS (tNot (tB (tCallG (lift (sp__law_like cs 6)) [] (WE (WF E)) (tCons (tLst (tCons (tCallG (lift (sp_is_finer cs)) [] (WE (WF E)) (tCons (tVar 1) (tCons (tVar 2) tNil))) (tCons (tCallGK (lift (sp_is_finer cs)) (gk 2 [1, 0]) (WE (WF E)) tNil (tCons (tVar 1) (tCons (tVar 1) tNil))) (tCons (tCallGK (lift (sp_need_kind cs)) (gk 1 [0]) (WE (WF E)) tNil (tCons (tVar 1) tNil)) tNil)))) (tCons (tLst (tCons (tVar 3) (tCons (tC (.bl true)) (tCons (tVar 1) tNil)))) tNil))))) (tRet (tC (.bl false))) tNext)
    (tSeq (tAsg (tCallG (lift (sp__law_of cs)) [] (WE (WF E)) (tCons (tVar 0) (tCons (tLst (tCons (tC (.int 0)) (tCons (tC (.int 13)) (tCons (tUn (rU fun i => .int (-i)) (tC (.int 1))) (tCons (tC (.bl true)) (tCons (tC .non) (tCons (tC (.str "ALL")) (tCons (tC (.str "")) (tCons (tC (.str "1")) (tCons (tTup (tCons (tC (.int 1)) tNil)) (tCons (tLst tNil) (tCons tDNewK (tCons (tOp rPow (tC (.int 10)) (tC (.int 30))) (tCons (tTup (tCons (tC (.str "all")) tNil)) tNil)))))))))))))) tNil))) (gName 4))
    (tSeq (tFor (iSeq K (tLst (tCons (tTup (tCons (tOp (rIx K) (tVar 1) (tC (.int 0))) (tCons (tVar 4) tNil))) (tCons (tTup (tCons (tVar 4) (tCons (tOp (rIx K) (tVar 1) (tC (.int 1))) tNil))) (tCons (tCB (rListOf K) (tCons (tVar 1) tNil)) (tCons (tOp (rAdd K) (tVar 1) (tTup (tCons (tC (.int 1)) tNil))) (tCons (tSl (rSl K) (tVar 1) tNoPart (tPart (tC (.int 1)))) (tCons (tVar 4) (tCons (tC .non) (tCons (tTup (tCons (tVar 4) (tCons (tVar 4) tNil))) tNil)))))))))) (gName 5)
    (tSeq (tAsg (tIf (tB (tCallG (lift (sp__law_is_kind cs)) [] (WE (WF E)) (tCons (tVar 5) tNil))) (tLst (tCons (tC (.str "told")) (tCons (tVar 5) tNil))) (tLst (tCons (tC (.str "kind")) (tCons (tVar 5) tNil)))) (gName 6))
    (tSeq (tIfS (tNot (tB (tCallG (lift (sp__law_like cs 6)) [] (WE (WF E)) (tCons (tSl (rSl K) (tLamW cs.T (liftL (sp__law_heard cs)) (WF E) (fun E2 => (tCallG (lift (sp_need_kind cs)) [] (WE (WF E2)) (tCons (tVar 5) tNil)))) tNoPart (tPart (tC (.int 1)))) (tCons (tSl (rSl K) (tVar 6) tNoPart (tPart (tC (.int 1)))) tNil))))) (tRet (tC (.bl false))) tNext)
    (tIfS (tTest (tOp (rEqA K) (tOp (rIx K) (tVar 6) (tC (.int 0))) (tC (.str "kind")))) (tSeq (tAsg (tLst (tCons (tOp (rIx K) (tLamW cs.T (liftL (sp__law_heard cs)) (WF E) (fun E2 => (tCallG (lift (sp_is_finer cs)) [] (WE (WF E2)) (tCons (tVar 5) (tCons (tC .non) tNil))))) (tC (.int 0))) tNil)) (gName 7))
    (tSeq (tDrop (tBM K "list" rAppend (tVar 7) (tCons (tOp (rIx K) (tLamW cs.T (liftL (sp__law_heard cs)) (WF E) (fun E2 => (tCallG (lift (sp_is_finer cs)) [] (WE (WF E2)) (tCons (tVar 1) (tCons (tVar 5) tNil))))) (tC (.int 0))) tNil)))
    (tIfS (tTest (tOp (rNeA K) (tVar 7) (tLst (tCons (tC (.str "kind")) (tCons (tC (.str "kind")) tNil))))) (tRet (tC (.bl false))) tNext))) tNext))))
    (tRet (tC (.bl true))))))))
abbrev st__law_positions_right : Stmt := top 40
abbrev N__law_positions_right : List Str := ["m", "house", "rooms", "spots", "position", "n", "odd", "value", "wanted"]
abbrev ps__law_positions_right : List Str := ["m"]
def t__law_positions_right (K : PySem.W.Frag) (cs : Cs) (E : XK) : TS :=
    (tSeq (tAsg (tCallG (lift (sp__law_house cs)) [] (WE (WF E)) (tCons (tVar 0) (tCons (tCallG (lift (sp__law_draw cs)) [] (WE (WF E)) (tCons (tVar 0) (tCons (tC (.int 9)) tNil))) (tCons (tC (.int 3)) tNil)))) (gName 1))
    (tSeq (tAsg (tCB (rLenA K) (tCons (tOp (rIx K) (tVar 1) (tC (.int 0))) tNil)) (gName 2))
    (tSeq (tAsg (tOp (rAdd K) (tLst (tCons (tC .non) tNil)) (tLstRg (tRg1 (tVar 2)))) (gName 3))
    (tSeq (tAsg (tCB (rTupOf K) (tCons (tLc (iRng1 (tCons (tCallG (lift (sp__law_draw cs)) [] (WE (WF E)) (tCons (tVar 0) (tCons (tC (.int 13)) tNil))) tNil)) (gName 5) tYes (tCallG (lift (sp__law_of cs)) [] (fun _ => E0) (tCons (tVar 0) (tCons (tVar 3) tNil))) [5]) tNil)) (gName 4))
    (tSeq (tIfS (tNot (tB (tCallG (lift (sp__law_like cs 6)) [] (WE (WF E)) (tCons (tCallGK (lift (sp_need_position cs)) (gk 2 [1, 0]) (WE (WF E)) tNil (tCons (tVar 4) (tCons (tVar 1) tNil))) (tCons (tVar 4) tNil))))) (tRet (tC (.bl false))) tNext)
    (tSeq (tAsg (tCallG (lift (sp__law_of cs)) [] (WE (WF E)) (tCons (tVar 0) (tCons (tLst (tCons (tVar 2) (tCons (tUn (rU fun i => .int (-i)) (tC (.int 1))) (tCons (tC (.bl true)) (tCons (tC (.str "0")) (tCons (tTup tNil) (tCons (tLst tNil) (tCons tDNewK (tCons (tC (.int 0)) (tCons (tC .non) tNil)))))))))) tNil))) (gName 6))
    (tSeq (tFor (iSeq K (tLst (tCons (tOp (rAdd K) (tVar 4) (tTup (tCons (tVar 6) tNil))) (tCons (tCB (rListOf K) (tCons (tVar 4) tNil)) (tCons (tOp (rMulA K) (tTup (tCons (tVar 6) tNil)) (tC (.int 12))) (tCons (tOp (rMulA K) (tTup (tCons (tVar 6) tNil)) (tC (.int 13))) (tCons (tVar 6) (tCons (tOp (rMulA K) (tTup (tCons (tC .non) tNil)) (tC (.int 13))) (tCons (tOp (rMulA K) (tTup (tCons (tC .non) tNil)) (tC (.int 12))) tNil))))))))) (gName 7)
    (tSeq (tAsg (tIf (tB (tCallG (lift (sp__law_is_position cs)) [] (WE (WF E)) (tCons (tVar 2) (tCons (tVar 7) tNil)))) (tLst (tCons (tC (.str "told")) (tCons (tVar 7) tNil))) (tLst (tCons (tC (.str "position")) (tCons (tVar 7) tNil)))) (gName 8))
    (tIfS (tTest (tOp (rNeA K) (tOp (rIx K) (tLamW cs.T (liftL (sp__law_heard cs)) (WF E) (fun E2 => (tCallG (lift (sp_need_position cs)) [] (WE (WF E2)) (tCons (tVar 1) (tCons (tVar 7) tNil))))) (tC (.int 0))) (tOp (rIx K) (tVar 8) (tC (.int 0))))) (tRet (tC (.bl false))) tNext)))
    (tRet (tCallG (lift (sp__law_like cs 6)) [] (WE (WF E)) (tCons (tLamW cs.T (liftL (sp__law_heard cs)) (WF E) (fun E2 => (tCallG (lift (sp_need_position cs)) [] (WE (WF E2)) (tCons (tC .non) (tCons (tC (.int 5)) tNil))))) (tCons (tLst (tCons (tC (.str "house")) (tCons (tC (.str "form")) tNil))) tNil)))))))))))
abbrev st_law : Stmt := top 41
abbrev N_law : List Str := ["script", "m", "turn", "bounds", "due", "some", "many"]
abbrev ps_law : List Str := ["script"]
def t_law (K : PySem.W.Frag) (cs : Cs) (E : XK) : TS :=
    (tSeq (tAsg (tCallG (lift (sp__law_begun cs)) [] (WE (WF E)) (tCons (tVar 0) tNil)) (gName 1))
    (tSeq (tFor (iRng1 (tCons (tC (.int 5)) tNil)) (gName 2)
    (tIfS (tOr (tNot (tB (tCallG (lift (sp__law_kinds_right cs)) [] (WE (WF E)) (tCons (tVar 1) tNil)))) (tNot (tB (tCallG (lift (sp__law_positions_right cs)) [] (WE (WF E)) (tCons (tVar 1) tNil))))) (tRet (tC (.bl false))) tNext))
    (tSeq (tPar 3 4 (tCons (tOp (rAdd K) (tLstRg (tRg2 (tC (.int 1)) (tC (.int 13)))) (tLst (tCons (tC (.str "all")) tNil))) (tCons (tLst tNil) tNil)))
    (tSeq (tFor (iSeq K (tVar 3)) (gName 5)
    (tAsg (tOp (rAdd K) (tVar 4) (tLc (iSeq K (tVar 3)) (gName 6) tYes (tTup (tCons (tVar 5) (tCons (tVar 6) tNil))) [6])) (gName 4)))
    (tRet (tCallG (lift (sp__law_like cs 6)) [] (WE (WF E)) (tCons (tCallG (lift (sp_all_kinds cs)) [] (WE (WF E)) tNil) (tCons (tCB (rTupOf K) (tCons (tVar 4) tNil)) tNil))))))))
end Dz
namespace Dz
open PySem PySem.Spec PyProof.Rows L2 LamX
theorem run_is_number {cs : Cs} : Runs (sp_is_number cs) N_is_number (t_is_number cs.K cs) :=
  runP3 (f := u_is_number) fun E m v_value v_least v_most => (ss_ifT (mb_or (mb_not (mb_B (mp_cb c_m_isi (ma_cons (MP.mt (mp_var (i := 0) rfl)) (ma_cons (MP.mt mp_ty) ma_nil))))) (mb_B (mp_cb c_m_isi (ma_cons (MP.mt (mp_var (i := 0) rfl)) (ma_cons (MP.mt mp_ty) ma_nil))))) (ss_ret (fun _ => wk0) mp_bl) (ss_ret (fun _ => wk0) (mp_and (mp_op m_ge (MP.mt (mp_var (i := 0) rfl)) (MP.mt (mp_var (i := 1) rfl))) (mp_or (mp_op m_is (MP.mt (mp_var (i := 2) rfl)) (MP.mt mp_non)) (mp_op m_le (MP.mt (mp_var (i := 0) rfl)) (MP.mt (mp_var (i := 2) rfl)))))))
theorem run_is_row {cs : Cs} : Runs (sp_is_row cs) N_is_row (t_is_row cs.K cs) :=
  runP2 (f := u_is_row) fun E m v_value v_length => (ss_ret (fun _ => wk0) (mp_and (mp_cb c_m_isi (ma_cons (MP.mt (mp_var (i := 0) rfl)) (ma_cons (MP.mt mp_ty) ma_nil))) (mp_or (mp_op m_is (MP.mt (mp_var (i := 1) rfl)) (MP.mt mp_non)) (mp_op m_eq (MP.mt (mp_cb c_m_len (ma_cons (MP.mt (mp_var (i := 0) rfl)) ma_nil))) (MP.mt (mp_var (i := 1) rfl))))))
theorem run_are_numbers {cs : Cs} : Runs (sp_are_numbers cs) N_are_numbers (t_are_numbers cs.K cs) :=
  runP3 (f := u_are_numbers) fun E m v_value v_most v_least => (ss_ret (fun _ => wk0) (mp_and (mp_call (imp_is_row) (okx (fun _ => wk0) rfl) (fun _ _ => rfl) (mpa_cons (mp_var (i := 0) rfl) mpa_nil)) (mp_cb c_m_all (ma_cons (MP.mt (mp_lc (mi_seq (mp_var (i := 0) rfl)) (gonly_name (by simp)) sg_name (fun _ _ _ => trivial) (fun l2 q3 b1 => mb_yes) (fun l2 q3 b1 => (mp_call0 (imp_is_number) (fun _ _ => rfl) (mpa_cons (mp_var (i := 3) rfl) (mpa_cons (mp_var (i := 2) rfl) (mpa_cons (mp_var (i := 1) rfl) mpa_nil))))))) ma_nil))))
theorem run_is_bound {cs : Cs} : Runs (sp_is_bound cs) N_is_bound (t_is_bound cs.K cs) :=
  runP2 (f := u_is_bound) fun E m v_value v_most => (ss_ret (fun _ => wk0) (mp_if (mb_B (mp_cb c_m_isi (ma_cons (MP.mt (mp_var (i := 0) rfl)) (ma_cons (MP.mt mp_ty) ma_nil)))) (mp_op m_eq (MP.mt (mp_var (i := 0) rfl)) (MP.mt mp_str)) (mp_call (imp_is_number) (okx (fun _ => wk0) rfl) (fun _ _ => rfl) (mpa_cons (mp_var (i := 0) rfl) (mpa_cons mp_int (mpa_cons (mp_var (i := 1) rfl) mpa_nil))))))
theorem run_need_kind {cs : Cs} : Runs (sp_need_kind cs) N_need_kind (t_need_kind cs.K cs) :=
  runP1 (f := u_need_kind) fun E m v_kind => (ss_ifT (mb_or (mb_not (mb_B (mp_call (imp_is_row) (okx (fun _ => wk0) rfl) (fun _ _ => rfl) (mpa_cons (mp_var (i := 0) rfl) (mpa_cons mp_int mpa_nil))))) (mb_or (mb_not (mb_B (mp_call (imp_is_bound) (okx (fun _ => wk0) rfl) (fun _ _ => rfl) (mpa_cons (mp_op m_ix (MP.mt (mp_var (i := 0) rfl)) (MP.mt mp_int)) (mpa_cons mp_int mpa_nil))))) (mb_not (mb_B (mp_call (imp_is_bound) (okx (fun _ => wk0) rfl) (fun _ _ => rfl) (mpa_cons (mp_op m_ix (MP.mt (mp_var (i := 0) rfl)) (MP.mt mp_int)) (mpa_cons mp_int mpa_nil))))))) (ss_raise (okx (fun _ => wk0) rfl) (mp_var (i := 0) rfl)) (ss_ret (fun _ => wk0) (mp_var (i := 0) rfl)))
theorem run_is_most {cs : Cs} : Runs (sp_is_most cs) N_is_most (t_is_most cs.K cs) :=
  runP2 (f := u_is_most) fun E m v_one v_other => (ss_ret (fun _ => wk0) (mp_or (mp_op m_eq (MP.mt (mp_var (i := 0) rfl)) (MP.mt mp_str)) (mp_and (mp_op m_ne (MP.mt (mp_var (i := 1) rfl)) (MP.mt mp_str)) (mp_op m_ge (MP.mt (mp_var (i := 0) rfl)) (MP.mt (mp_var (i := 1) rfl))))))
theorem run_is_finer {cs : Cs} : Runs (sp_is_finer cs) N_is_finer (t_is_finer cs.K cs) :=
  runP2 (f := u_is_finer) fun E m v_kind v_other => (ss_seq (ss_drop (mp_call (imp_need_kind) (okx (fun _ => wk0) rfl) (fun _ _ => rfl) (mpa_cons (mp_var (i := 0) rfl) mpa_nil))) (fun _ => (ss_seq (ss_drop (mp_call (imp_need_kind) (okx (fun _ => wk0) rfl) (fun _ _ => rfl) (mpa_cons (mp_var (i := 1) rfl) mpa_nil))) (fun _ => (ss_ret (fun _ => wk0) (mp_and (mp_call (imp_is_most) (okx (fun _ => wk0) rfl) (fun _ _ => rfl) (mpa_cons (mp_op m_ix (MP.mt (mp_var (i := 0) rfl)) (MP.mt mp_int)) (mpa_cons (mp_op m_ix (MP.mt (mp_var (i := 1) rfl)) (MP.mt mp_int)) mpa_nil))) (mp_call (imp_is_most) (okx (fun _ => wk0) rfl) (fun _ _ => rfl) (mpa_cons (mp_op m_ix (MP.mt (mp_var (i := 0) rfl)) (MP.mt mp_int)) (mpa_cons (mp_op m_ix (MP.mt (mp_var (i := 1) rfl)) (MP.mt mp_int)) mpa_nil)))))))))
theorem run_all_kinds {cs : Cs} : Runs (sp_all_kinds cs) N_all_kinds (t_all_kinds cs.K cs) :=
  runP0 (f := u_all_kinds) fun E m  => (ss_seq (ss_set (mp_op m_add (MP.mt (mp_lrg2 mp_int (mp_op m_add (MP.mt mp_int) (MP.mt mp_int)))) (MP.mt (mp_lst (mpa_cons mp_str mpa_nil))))) (fun v_pebbles1 => (ss_seq (ss_set (mp_op m_add (MP.mt (mp_lrg2 mp_int (mp_op m_add (MP.mt mp_int) (MP.mt mp_int)))) (MP.mt (mp_lst (mpa_cons mp_str mpa_nil))))) (fun v_rounds2 => (ss_ret (fun _ => wk0) (mp_cb c_m_tup (ma_cons (MP.mt (mp_lc2 (mi_seq (mp_var (i := 0) rfl)) (gonly_name (by simp)) sg_name (fun l4 q5 b3 => mb_yes) (fun l4 q5 b3 => (mi_seq (mp_var (i := 1) rfl))) (gonly_name (by simp)) (fun b3 => sg_name) (fun l4 q5 b3 b6 => mb_yes) (fun l4 q5 b3 b6 => (mp_tup (mpa_cons (mp_var (i := 2) rfl) (mpa_cons (mp_var (i := 3) rfl) mpa_nil)))))) ma_nil)))))))
theorem run_is_door {cs : Cs} : Runs (sp_is_door cs) N_is_door (t_is_door cs.K cs) :=
  runP2 (f := u_is_door) fun E m v_rooms v_value => (ss_ifT (mb_or (mb_not (mb_B (mp_call (imp_is_row) (okx (fun _ => wk0) rfl) (fun _ _ => rfl) (mpa_cons (mp_var (i := 1) rfl) (mpa_cons mp_int mpa_nil))))) (mb_not (mb_B (mp_call (imp_is_number) (okx (fun _ => wk0) rfl) (fun _ _ => rfl) (mpa_cons (mp_op m_ix (MP.mt (mp_var (i := 1) rfl)) (MP.mt mp_int)) (mpa_cons mp_int mpa_nil)))))) (ss_ret (fun _ => wk0) mp_bl) (ss_ret (fun _ => wk0) (mp_call (imp_is_number) (okx (fun _ => wk0) rfl) (fun _ _ => rfl) (mpa_cons (mp_op m_ix (MP.mt (mp_var (i := 1) rfl)) (MP.mt mp_int)) (mpa_cons (mp_op m_add (MP.mt (mp_op m_ix (MP.mt (mp_var (i := 1) rfl)) (MP.mt mp_int))) (MP.mt mp_int)) (mpa_cons (mp_op m_sub (MP.mt (mp_var (i := 0) rfl)) (MP.mt mp_int)) mpa_nil))))))
theorem run_house_fault {cs : Cs} : Runs (sp_house_fault cs) N_house_fault (t_house_fault cs.K cs) :=
  runP2 (f := u_house_fault) fun E m v_value v_most => (ss_ifT (mb_or (mb_not (mb_B (mp_call (imp_is_row) (okx (fun _ => wk0) rfl) (fun _ _ => rfl) (mpa_cons (mp_var (i := 0) rfl) (mpa_cons mp_int mpa_nil))))) (mb_or (mb_not (mb_B (mp_call (imp_is_row) (okx (fun _ => wk0) rfl) (fun _ _ => rfl) (mpa_cons (mp_op m_ix (MP.mt (mp_var (i := 0) rfl)) (MP.mt mp_int)) mpa_nil)))) (mb_not (mb_B (mp_call (imp_is_row) (okx (fun _ => wk0) rfl) (fun _ _ => rfl) (mpa_cons (mp_op m_ix (MP.mt (mp_var (i := 0) rfl)) (MP.mt mp_int)) mpa_nil)))))) (ss_ret (fun _ => wk0) (mp_tup (mpa_cons mp_str mpa_nil))) (ss_ifT (mb_test (mp_op m_gt (MP.mt (mp_cb c_m_len (ma_cons (MP.mt (mp_op m_ix (MP.mt (mp_var (i := 0) rfl)) (MP.mt mp_int))) ma_nil))) (MP.mt (mp_var (i := 1) rfl)))) (ss_ret (fun _ => wk0) (mp_tup (mpa_cons mp_str mpa_nil))) (ss_ifT (mb_not (mb_B (mp_call (imp_are_numbers) (okx (fun _ => wk0) rfl) (fun _ _ => rfl) (mpa_cons (mp_op m_ix (MP.mt (mp_var (i := 0) rfl)) (MP.mt mp_int)) (mpa_cons mp_int mpa_nil))))) (ss_ret (fun _ => wk0) (mp_tup (mpa_cons mp_str mpa_nil))) (ss_seqT (layt := fun e => nomatch e) (stt := fun e => nomatch e) (ss_forL (σ := Unit) (τ := Empty) (up := fun f => f) (fun s1 => [some v_value, some v_most, none, none]) (fun s1 n => m) (()) (fun _ => Weak.refl) (mi_enum (mpa_cons (mp_op m_ix (MP.mt (mp_var (i := 0) rfl)) (MP.mt mp_int)) mpa_nil)) (fun _ _ => trivial) (fun _ => sg_pair) (fun _ => rfl) (fun _ => rfl) (fun s1 b2 => (ss_if (mb_or (mb_not (mb_B (mp_call (imp_is_door) (okx (fun _ => wk0) rfl) (fun _ _ => rfl) (mpa_cons (mp_cb c_m_len (ma_cons (MP.mt (mp_op m_ix (MP.mt (mp_var (i := 0) rfl)) (MP.mt mp_int))) ma_nil)) (mpa_cons (mp_var (i := 3) rfl) mpa_nil))))) (mb_and (mb_test (mp_op m_gt (MP.mt (mp_var (i := 2) rfl)) (MP.mt mp_int))) (mb_test (mp_op m_le (MP.mt (mp_var (i := 3) rfl)) (MP.mt (mp_op m_ix (MP.mt (mp_op m_ix (MP.mt (mp_var (i := 0) rfl)) (MP.mt mp_int))) (MP.mt (mp_op m_sub (MP.mt (mp_var (i := 2) rfl)) (MP.mt mp_int))))))))) (ss_retL (fun _ => wk0) (mp_tup (mpa_cons (mp_var (i := 2) rfl) mpa_nil))) (ss_nextL (()) (fun _ => (weak_le (leK (leK (leF (leF leN)))))))))) (fun s3 => (ss_ret (fun _ => wk0) (mp_tup mpa_nil)))))))
theorem run_need_house {cs : Cs} : Runs (sp_need_house cs) N_need_house (t_need_house cs.K cs) :=
  runP1 (f := u_need_house) fun E m v_house => (ss_seq (ss_set (mp_call (imp_house_fault) (okx (fun _ => wk0) rfl) (fun _ _ => rfl) (mpa_cons (mp_var (i := 0) rfl) (mpa_cons mp_int mpa_nil)))) (fun v_fault1 => (ss_ifT (mb_test (mp_op m_ne (MP.mt (mp_var (i := 1) rfl)) (MP.mt (mp_tup mpa_nil)))) (ss_raise (okx (fun _ => wk0) rfl) (mp_op m_ix (MP.mt (mp_var (i := 1) rfl)) (MP.mt mp_int))) (ss_ret (fun _ => wk0) (mp_var (i := 0) rfl)))))
theorem run_need_position {cs : Cs} : Runs (sp_need_position cs) N_need_position (t_need_position cs.K cs) :=
  runP2 (f := u_need_position) fun E m v_house v_position => (ss_seq (ss_drop (mp_call (imp_need_house) (okx (fun _ => wk0) rfl) (fun _ _ => rfl) (mpa_cons (mp_var (i := 0) rfl) mpa_nil))) (fun _ => (ss_ifT (mb_or (mb_not (mb_B (mp_call (imp_is_row) (okx (fun _ => wk0) rfl) (fun _ _ => rfl) (mpa_cons (mp_var (i := 1) rfl) mpa_nil)))) (mb_test (mp_op m_gt (MP.mt (mp_cb c_m_len (ma_cons (MP.mt (mp_var (i := 1) rfl)) ma_nil))) (MP.mt mp_int)))) (ss_raise (okx (fun _ => wk0) rfl) (mp_var (i := 1) rfl)) (ss_seq (ss_for (σ := Unit) (fun s1 => [some v_house, some v_position, none]) (fun s1 n => m) (()) (fun _ => Weak.refl) (mi_seq (mp_var (i := 1) rfl)) (fun _ _ => trivial) (fun _ => sg_name) (fun s1 b2 => (ss_if (mb_and (mb_test (mp_op m_isnot (MP.mt (mp_var (i := 2) rfl)) (MP.mt mp_non))) (mb_not (mb_B (mp_call (imp_is_number) (okx (fun _ => wk0) rfl) (fun _ _ => rfl) (mpa_cons (mp_var (i := 2) rfl) (mpa_cons mp_int (mpa_cons (mp_op m_sub (MP.mt (mp_cb c_m_len (ma_cons (MP.mt (mp_op m_ix (MP.mt (mp_var (i := 0) rfl)) (MP.mt mp_int))) ma_nil))) (MP.mt mp_int)) mpa_nil))))))) (ss_raise (okx (fun _ => wk0) rfl) (mp_var (i := 1) rfl)) (ss_next (()) (fun _ => (weak_le (leK (leK (leF leN))))))))) (fun s3 => (ss_ret (fun _ => wk0) (mp_var (i := 1) rfl)))))))
theorem run__law_of {cs : Cs} : Runs (sp__law_of cs) N__law_of (t__law_of cs.K cs) :=
  runG1 (f := u__law_of) fun E ga gc gg m v_some => (ss_ret (fun _ => wk0) (mp_op m_ix (MP.mt (mp_var (i := 1) rfl)) (MP.mt (mp_callg 0 (imp__law_draw) (v := 0) rfl (fun _ => ⟨rfl, fun _ => rfl⟩) (okx (fun _ => wk0) rfl) (mpa_cons (mp_cb c_m_len (ma_cons (MP.mt (mp_var (i := 1) rfl)) ma_nil)) mpa_nil)))))
theorem run__law_like {cs : Cs} (k0 : Nat) : Runs (sp__law_like cs (k0 + 1)) N__law_like (t__law_like cs.K cs (sp__law_like cs k0)) :=
  have imp_self : ImpP cs (sp__law_like cs k0) (a2 (f__law_like k0)) := fun _ _ _ _ h => h
  runP2 (f := v__law_like (f__law_like k0)) fun E m v_got v_due => (ss_ifT (mb_test (mp_op m_is (MP.mt (mp_var (i := 1) rfl)) (MP.mt mp_non))) (ss_ret (fun _ => wk0) (mp_op m_is (MP.mt (mp_var (i := 0) rfl)) (MP.mt mp_non))) (ss_ifT (mb_B (mp_cb c_m_isi (ma_cons (MP.mt (mp_var (i := 1) rfl)) (ma_cons (MP.mt mp_ty) ma_nil)))) (ss_ret (fun _ => wk0) (mp_and (mp_cb c_m_isi (ma_cons (MP.mt (mp_var (i := 0) rfl)) (ma_cons (MP.mt mp_ty) ma_nil))) (mp_op m_eq (MP.mt (mp_var (i := 0) rfl)) (MP.mt (mp_var (i := 1) rfl))))) (ss_ifT (mb_B (mp_cb c_m_isi (ma_cons (MP.mt (mp_var (i := 1) rfl)) (ma_cons (MP.mt mp_ty) ma_nil)))) (ss_ret (fun _ => wk0) (mp_and (mp_cb c_m_isi (ma_cons (MP.mt (mp_var (i := 0) rfl)) (ma_cons (MP.mt mp_ty) ma_nil))) (mp_and (mp_not (mp_cb c_m_isi (ma_cons (MP.mt (mp_var (i := 0) rfl)) (ma_cons (MP.mt mp_ty) ma_nil)))) (mp_op m_eq (MP.mt (mp_var (i := 0) rfl)) (MP.mt (mp_var (i := 1) rfl)))))) (ss_ifT (mb_B (mp_cb c_m_isi (ma_cons (MP.mt (mp_var (i := 1) rfl)) (ma_cons (MP.mt mp_ty) ma_nil)))) (ss_ret (fun _ => wk0) (mp_and (mp_cb c_m_isi (ma_cons (MP.mt (mp_var (i := 0) rfl)) (ma_cons (MP.mt mp_ty) ma_nil))) (mp_op m_eq (MP.mt (mp_var (i := 0) rfl)) (MP.mt (mp_var (i := 1) rfl))))) (ss_ifT (mb_or (mb_and (mb_B (mp_cb c_m_isi (ma_cons (MP.mt (mp_var (i := 1) rfl)) (ma_cons (MP.mt mp_ty) ma_nil)))) (mb_not (mb_B (mp_cb c_m_isi (ma_cons (MP.mt (mp_var (i := 0) rfl)) (ma_cons (MP.mt mp_ty) ma_nil)))))) (mb_and (mb_B (mp_cb c_m_isi (ma_cons (MP.mt (mp_var (i := 1) rfl)) (ma_cons (MP.mt mp_ty) ma_nil)))) (mb_not (mb_B (mp_cb c_m_isi (ma_cons (MP.mt (mp_var (i := 0) rfl)) (ma_cons (MP.mt mp_ty) ma_nil))))))) (ss_ret (fun _ => wk0) mp_bl) (ss_ifT (mb_test (mp_op m_ne (MP.mt (mp_cb c_m_len (ma_cons (MP.mt (mp_var (i := 0) rfl)) ma_nil))) (MP.mt (mp_cb c_m_len (ma_cons (MP.mt (mp_var (i := 1) rfl)) ma_nil))))) (ss_ret (fun _ => wk0) mp_bl) (ss_seqT (layt := fun e => nomatch e) (stt := fun e => nomatch e) (ss_forL (σ := Unit) (τ := Empty) (up := fun f => f) (fun s1 => [some v_got, some v_due, none]) (fun s1 n => m) (()) (fun _ => Weak.refl) (mi_rg1 (mpa_cons (mp_cb c_m_len (ma_cons (MP.mt (mp_var (i := 1) rfl)) ma_nil)) mpa_nil)) (fun _ _ => trivial) (fun _ => sg_name) (fun _ => rfl) (fun _ => rfl) (fun s1 b2 => (ss_if (mb_not (mb_B (mp_call imp_self (okx (fun _ => wk0) rfl) (fun _ _ => rfl) (mpa_cons (mp_op m_ix (MP.mt (mp_var (i := 0) rfl)) (MP.mt (mp_var (i := 2) rfl))) (mpa_cons (mp_op m_ix (MP.mt (mp_var (i := 1) rfl)) (MP.mt (mp_var (i := 2) rfl))) mpa_nil))))) (ss_retL (fun _ => wk0) mp_bl) (ss_nextL (()) (fun _ => (weak_le (leK (leK (leF leN))))))))) (fun s3 => (ss_ret (fun _ => wk0) mp_bl)))))))))
theorem run__law_house {cs : Cs} : Runs (sp__law_house cs) N__law_house (t__law_house cs.K cs) :=
  runG2 (f := u__law_house) fun E ga gc gg m v_rooms v_colours => (ss_seq (ss_asg (mp_tup (mpa_cons (mp_lst mpa_nil) (mpa_cons (mp_callg 0 (imp__law_draw) (v := 0) rfl (fun _ => ⟨rfl, fun _ => rfl⟩) (okx (fun _ => wk0) rfl) (mpa_cons mp_int mpa_nil)) mpa_nil))) sg_pair) (fun b1 => (ss_seq (ss_for (σ := D) (fun s2 => [some (.ref ga), some v_rooms, some v_colours, some s2, some b1.2, none, none, none]) (fun s2 n => (ga, .gen gc gg n) :: m) b1.1 (fun _ => Weak.refl) (mi_rg1 (mpa_cons (mp_var (i := 1) rfl) mpa_nil)) (fun _ _ => trivial) (fun _ => sg_name) (fun s2 b3 => (ss_end (ss_seq (ss_set (mp_op m_add (MP.mt (mp_var (i := 3) rfl)) (MP.mt (mp_lc (mi_rg2 (mpa_cons (mp_op m_add (MP.mt (mp_var (i := 5) rfl)) (MP.mt mp_int)) (mpa_cons (mp_var (i := 1) rfl) mpa_nil))) (gonly_name (by simp)) sg_name (fun _ _ _ => trivial) (fun l6 q7 b5 => (mb_test (mp_op m_lt (MP.mt (mp_callg0 1 (imp__law_draw) (v := 0) rfl (fun _ => ⟨rfl, fun _ => rfl⟩) (mpa_cons mp_int mpa_nil))) (MP.mt (mp_var (i := 4) rfl))))) (fun l6 q7 b5 => (mp_tup (mpa_cons (mp_var (i := 5) rfl) (mpa_cons (mp_var (i := 6) rfl) mpa_nil)))))))) (fun v_found8 => (ss_next v_found8 (fun _ => (weak_le (leK (leK (leK (leK (leK (leF (leF (leF leN)))))))))))))))) (fun s4 => (ss_ret (fun _ => wk0) (mp_tup (mpa_cons (mp_cb c_m_tup (ma_cons (MP.mt (mp_lc (mi_rg1 (mpa_cons (mp_var (i := 1) rfl) mpa_nil)) (gonly_name (by simp)) sg_name (fun _ _ _ => trivial) (fun l10 q11 b9 => mb_yes) (fun l10 q11 b9 => (mp_callg0 1 (imp__law_draw) (v := 0) rfl (fun _ => ⟨rfl, fun _ => rfl⟩) (mpa_cons (mp_var (i := 2) rfl) mpa_nil))))) ma_nil)) (mpa_cons (mp_cb c_m_tup (ma_cons (MP.mt (mp_var (i := 3) rfl)) ma_nil)) mpa_nil))))))))
theorem run__law_kind {cs : Cs} : Runs (sp__law_kind cs) N__law_kind (t__law_kind cs.K cs) :=
  runG2 (f := u__law_kind) fun E ga gc gg m v_pebbles v_rounds => (ss_seq (ss_par (mp_op m_add (MP.mt mp_int) (MP.mt (mp_callg 0 (imp__law_draw) (v := 0) rfl (fun _ => ⟨rfl, fun _ => rfl⟩) (okx (fun _ => wk0) rfl) (mpa_cons (mp_op m_add (MP.mt (mp_var (i := 1) rfl)) (MP.mt mp_int)) mpa_nil)))) (mp_op m_add (MP.mt mp_int) (MP.mt (mp_callg 0 (imp__law_draw) (v := 0) rfl (fun _ => ⟨rfl, fun _ => rfl⟩) (okx (fun _ => wk0) rfl) (mpa_cons (mp_op m_add (MP.mt (mp_var (i := 2) rfl)) (MP.mt mp_int)) mpa_nil))))) (fun p3 => (ss_ret (fun _ => wk0) (mp_tup (mpa_cons (mp_if (mb_test (mp_op m_gt (MP.mt (mp_var (i := 3) rfl)) (MP.mt (mp_var (i := 1) rfl)))) mp_str (mp_var (i := 3) rfl)) (mpa_cons (mp_if (mb_test (mp_op m_gt (MP.mt (mp_var (i := 4) rfl)) (MP.mt (mp_var (i := 2) rfl)))) mp_str (mp_var (i := 4) rfl)) mpa_nil))))))
theorem run__law_rank {cs : Cs} : Runs (sp__law_rank cs) N__law_rank (t__law_rank cs.K cs) :=
  runP1 (f := u__law_rank) fun E m v_bound => (ss_ret (fun _ => wk0) (mp_if (mb_B (mp_cb c_m_isi (ma_cons (MP.mt (mp_var (i := 0) rfl)) (ma_cons (MP.mt mp_ty) ma_nil)))) mp_int (mp_var (i := 0) rfl)))
theorem run__law_is_bound {cs : Cs} : Runs (sp__law_is_bound cs) N__law_is_bound (t__law_is_bound cs.K cs) :=
  runP1 (f := u__law_is_bound) fun E m v_value => (ss_ifT (mb_B (mp_cb c_m_isi (ma_cons (MP.mt (mp_var (i := 0) rfl)) (ma_cons (MP.mt mp_ty) ma_nil)))) (ss_ret (fun _ => wk0) (mp_op m_eq (MP.mt (mp_var (i := 0) rfl)) (MP.mt mp_str))) (ss_ret (fun _ => wk0) (mp_and (mp_cb c_m_isi (ma_cons (MP.mt (mp_var (i := 0) rfl)) (ma_cons (MP.mt mp_ty) ma_nil))) (mp_and (mp_not (mp_cb c_m_isi (ma_cons (MP.mt (mp_var (i := 0) rfl)) (ma_cons (MP.mt mp_ty) ma_nil)))) (mp_chain m_le m_le mp_int (mp_var (i := 0) rfl) mp_int)))))
theorem run__law_is_kind {cs : Cs} : Runs (sp__law_is_kind cs) N__law_is_kind (t__law_is_kind cs.K cs) :=
  runP1 (f := u__law_is_kind) fun E m v_value => (ss_ret (fun _ => wk0) (mp_and (mp_cb c_m_isi (ma_cons (MP.mt (mp_var (i := 0) rfl)) (ma_cons (MP.mt mp_ty) ma_nil))) (mp_and (mp_op m_eq (MP.mt (mp_cb c_m_len (ma_cons (MP.mt (mp_var (i := 0) rfl)) ma_nil))) (MP.mt mp_int)) (mp_and (mp_call (imp__law_is_bound) (okx (fun _ => wk0) rfl) (fun _ _ => rfl) (mpa_cons (mp_op m_ix (MP.mt (mp_var (i := 0) rfl)) (MP.mt mp_int)) mpa_nil)) (mp_call (imp__law_is_bound) (okx (fun _ => wk0) rfl) (fun _ _ => rfl) (mpa_cons (mp_op m_ix (MP.mt (mp_var (i := 0) rfl)) (MP.mt mp_int)) mpa_nil))))))
theorem run__law_is_position {cs : Cs} : Runs (sp__law_is_position cs) N__law_is_position (t__law_is_position cs.K cs) :=
  runP2 (f := u__law_is_position) fun E m v_rooms v_value => (ss_ifT (mb_or (mb_not (mb_B (mp_cb c_m_isi (ma_cons (MP.mt (mp_var (i := 1) rfl)) (ma_cons (MP.mt mp_ty) ma_nil))))) (mb_test (mp_op m_gt (MP.mt (mp_cb c_m_len (ma_cons (MP.mt (mp_var (i := 1) rfl)) ma_nil))) (MP.mt mp_int)))) (ss_ret (fun _ => wk0) mp_bl) (ss_seqT (layt := fun e => nomatch e) (stt := fun e => nomatch e) (ss_forL (σ := Unit) (τ := Empty) (up := fun f => f) (fun s1 => [some v_rooms, some v_value, none]) (fun s1 n => m) (()) (fun _ => Weak.refl) (mi_seq (mp_var (i := 1) rfl)) (fun _ _ => trivial) (fun _ => sg_name) (fun _ => rfl) (fun _ => rfl) (fun s1 b2 => (ss_if (mb_and (mb_test (mp_op m_isnot (MP.mt (mp_var (i := 2) rfl)) (MP.mt mp_non))) (mb_or (mb_not (mb_B (mp_cb c_m_isi (ma_cons (MP.mt (mp_var (i := 2) rfl)) (ma_cons (MP.mt mp_ty) ma_nil))))) (mb_or (mb_B (mp_cb c_m_isi (ma_cons (MP.mt (mp_var (i := 2) rfl)) (ma_cons (MP.mt mp_ty) ma_nil)))) (mb_not (mb_test (mp_chain m_le m_lt mp_int (mp_var (i := 2) rfl) (mp_var (i := 0) rfl))))))) (ss_retL (fun _ => wk0) mp_bl) (ss_nextL (()) (fun _ => (weak_le (leK (leK (leF leN))))))))) (fun s3 => (ss_ret (fun _ => wk0) mp_bl))))
theorem run__law_heard {cs : Cs} (hcl : cs.cl = CL) : RunsL (sp__law_heard cs) N__law_heard (fun E q f2 c2 tl => t__law_heard cs.K cs E q f2 c2 tl) :=
  runT (F := u__law_heard) fun E q f2 c2 tl m Pd va hd => (ss_seq (ss_set (mp_lst (mpa_cons mp_str (mpa_cons mp_non mpa_nil)))) (fun v_told1 => (ss_seq (σ := D) (lay := fun s2 => [some (.clo f2 (cloP c2 q Pd)), some s2, none]) (stl := fun s2 n => m) (ss_try hcl [some (.clo f2 (cloP c2 q Pd)), none, none] (okx (fun _ => wk0) rfl) (.named (by rw [hcl]; decide) (fun c hc hs ea ed fs => (ss_end (ss_seq (ss_set (mp_lst (mpa_cons mp_str (mpa_cons (mp_xf (i := 2) hs rfl) mpa_nil)))) (fun v_told6 => (ss_next v_told6 (fun _ => (weak_le (leK (leK (leF leN)))))))))) (fun _ => rfl) (.named (by rw [hcl]; decide) (fun c hc hs ea ed fs => (ss_end (ss_seq (ss_set (mp_lst (mpa_cons mp_str (mpa_cons (mp_xf (i := 2) hs rfl) mpa_nil)))) (fun v_told5 => (ss_next v_told5 (fun _ => (weak_le (leK (leK (leF leN)))))))))) (fun _ => rfl) (.named (by rw [hcl]; decide) (fun c hc hs ea ed fs => (ss_end (ss_seq (ss_set (mp_lst (mpa_cons mp_str (mpa_cons (mp_xf (i := 2) hs rfl) mpa_nil)))) (fun v_told4 => (ss_next v_told4 (fun _ => (weak_le (leK (leK (leF leN)))))))))) (fun _ => rfl) .nil))) (fun W2 => (ss_end (ss_seq (ss_set (mp_lst (mpa_cons mp_str (mpa_cons (mp_act rfl hd ⟨(fun _ => wk0), (leK (leF (leF leN)))⟩) mpa_nil)))) (fun v_told3 => (ss_next v_told3 (fun _ => Weak.refl))))))) (fun s2 => (ss_ret (fun _ => wk0) (mp_var (i := 1) rfl))))))
theorem run__law_kinds_right {cs : Cs} : Runs (sp__law_kinds_right cs) N__law_kinds_right (t__law_kinds_right cs.K cs) :=
  runGT0 (f := u__law_kinds_right) fun E ga gc gg m  hT => (ss_seq (ss_asg (mp_tup (mpa_cons (mp_callg 0 (imp__law_kind) (v := 0) rfl (fun _ => ⟨rfl, fun _ => rfl⟩) (okx (fun _ => wk0) rfl) (mpa_cons mp_int (mpa_cons mp_int mpa_nil))) (mpa_cons (mp_callg 0 (imp__law_kind) (v := 0) rfl (fun _ => ⟨rfl, fun _ => rfl⟩) (okx (fun _ => wk0) rfl) (mpa_cons mp_int (mpa_cons mp_int mpa_nil))) mpa_nil))) sg_pair) (fun b1 => (ss_seq (ss_set (mp_and (mp_op m_ge (MP.mt (mp_calln (imp__law_rank) (okx (fun _ => wk0) rfl) (mpa_cons (mp_op m_ix (MP.mt (mp_var (i := 1) rfl)) (MP.mt mp_int)) mpa_nil))) (MP.mt (mp_calln (imp__law_rank) (okx (fun _ => wk0) rfl) (mpa_cons (mp_op m_ix (MP.mt (mp_var (i := 2) rfl)) (MP.mt mp_int)) mpa_nil)))) (mp_op m_ge (MP.mt (mp_calln (imp__law_rank) (okx (fun _ => wk0) rfl) (mpa_cons (mp_op m_ix (MP.mt (mp_var (i := 1) rfl)) (MP.mt mp_int)) mpa_nil))) (MP.mt (mp_calln (imp__law_rank) (okx (fun _ => wk0) rfl) (mpa_cons (mp_op m_ix (MP.mt (mp_var (i := 2) rfl)) (MP.mt mp_int)) mpa_nil)))))) (fun v_due2 => (ss_ifT (mb_not (mb_B (mp_calln (imp__law_like (k0 := 6)) (okx (fun _ => wk0) rfl) (mpa_cons (mp_lst (mpa_cons (mp_calln (imp_is_finer) (okx (fun _ => wk0) rfl) (mpa_cons (mp_var (i := 1) rfl) (mpa_cons (mp_var (i := 2) rfl) mpa_nil))) (mpa_cons (mp_callqn (imp_is_finer) (okx (fun _ => wk0) rfl) mpa_nil (mpa_cons (mp_var (i := 1) rfl) (mpa_cons (mp_var (i := 1) rfl) mpa_nil))) (mpa_cons (mp_callqn (imp_need_kind) (okx (fun _ => wk0) rfl) mpa_nil (mpa_cons (mp_var (i := 1) rfl) mpa_nil)) mpa_nil)))) (mpa_cons (mp_lst (mpa_cons (mp_var (i := 3) rfl) (mpa_cons mp_bl (mpa_cons (mp_var (i := 1) rfl) mpa_nil)))) mpa_nil))))) (ss_ret (fun _ => wk0) mp_bl) (ss_seq (ss_set (mp_callg 0 (imp__law_of) (v := 0) rfl (fun _ => ⟨rfl, fun _ => rfl⟩) (okx (fun _ => wk0) rfl) (mpa_cons (mp_lst (mpa_cons mp_int (mpa_cons mp_int (mpa_cons (mp_un m_neg (MP.mt mp_int)) (mpa_cons mp_bl (mpa_cons mp_non (mpa_cons mp_str (mpa_cons mp_str (mpa_cons mp_str (mpa_cons (mp_tup (mpa_cons mp_int mpa_nil)) (mpa_cons (mp_lst mpa_nil) (mpa_cons mp_dnew (mpa_cons (mp_op m_pow (MP.mt mp_int) (MP.mt mp_int)) (mpa_cons (mp_tup (mpa_cons mp_str mpa_nil)) mpa_nil)))))))))))))) mpa_nil))) (fun v_odd3 => (ss_seqT (layt := fun e => nomatch e) (stt := fun e => nomatch e) (ss_forL (σ := Unit) (τ := Empty) (up := fun f => f) (fun s4 => [some (.ref ga), some b1.1, some b1.2, some v_due2, some v_odd3, none, none, none]) (fun s4 n => (ga, .gen gc gg n) :: m) (()) (fun _ => Weak.refl) (mi_seq (mp_lst (mpa_cons (mp_tup (mpa_cons (mp_op m_ix (MP.mt (mp_var (i := 1) rfl)) (MP.mt mp_int)) (mpa_cons (mp_var (i := 4) rfl) mpa_nil))) (mpa_cons (mp_tup (mpa_cons (mp_var (i := 4) rfl) (mpa_cons (mp_op m_ix (MP.mt (mp_var (i := 1) rfl)) (MP.mt mp_int)) mpa_nil))) (mpa_cons (mp_cb c_m_lst (ma_cons (MP.mt (mp_var (i := 1) rfl)) ma_nil)) (mpa_cons (mp_op m_add (MP.mt (mp_var (i := 1) rfl)) (MP.mt (mp_tup (mpa_cons mp_int mpa_nil)))) (mpa_cons (mp_sl (MP.mt (mp_var (i := 1) rfl)) mo1_none (mo1_some mp_int)) (mpa_cons (mp_var (i := 4) rfl) (mpa_cons mp_non (mpa_cons (mp_tup (mpa_cons (mp_var (i := 4) rfl) (mpa_cons (mp_var (i := 4) rfl) mpa_nil))) mpa_nil)))))))))) (fun _ _ => trivial) (fun _ => sg_name) (fun _ => rfl) (fun _ => rfl) (fun s4 b5 => (ss_seq (ss_set (mp_if (mb_B (mp_calln (imp__law_is_kind) (okx (fun _ => wk0) rfl) (mpa_cons (mp_var (i := 5) rfl) mpa_nil))) (mp_lst (mpa_cons mp_str (mpa_cons (mp_var (i := 5) rfl) mpa_nil))) (mp_lst (mpa_cons mp_str (mpa_cons (mp_var (i := 5) rfl) mpa_nil))))) (fun v_wanted7 => (ss_ifL (lay0 := fun e => nomatch e) (st0 := fun e => nomatch e) (mb_not (mb_B (mp_calln (imp__law_like (k0 := 6)) (okx (fun _ => wk0) rfl) (mpa_cons (mp_sl (MP.mt (mp_lamn (fun _ => (tabsG hT)) (okx (fun _ => wk0) rfl) (fun n E2 => (mp_call (imp_need_kind) (okx (fun _ => wk0) rfl) (fun _ _ => rfl) (mpa_cons (mp_var (i := 5) rfl) mpa_nil))))) mo1_none (mo1_some mp_int)) (mpa_cons (mp_sl (MP.mt (mp_var (i := 6) rfl)) mo1_none (mo1_some mp_int)) mpa_nil))))) (ss_retL (fun _ => wk0) mp_bl) (ss_if (mb_test (mp_op m_eq (MP.mt (mp_op m_ix (MP.mt (mp_var (i := 6) rfl)) (MP.mt mp_int))) (MP.mt mp_str))) (ss_own (ml_lst (mpa_cons (mp_op m_ix (MP.mt (mp_lamn (fun _ => (tabsG hT)) (okx (fun _ => wk0) rfl) (fun n E2 => (mp_call (imp_is_finer) (okx (fun _ => wk0) rfl) (fun _ _ => rfl) (mpa_cons (mp_var (i := 5) rfl) (mpa_cons mp_non mpa_nil)))))) (MP.mt mp_int)) mpa_nil)) (fun o_told8 w_told9 => (ss_seq (ss_append (i := 7) rfl 0 (fun _ => rfl) (mp_op m_ix (MP.mt (mp_lamn (fun _ => (tabsL (tabsG hT))) (okx (fun _ => (wkc wk0)) rfl) (fun n E2 => (mp_call (imp_is_finer) (okx (fun _ => wk0) rfl) (fun _ _ => rfl) (mpa_cons (mp_var (i := 1) rfl) (mpa_cons (mp_var (i := 5) rfl) mpa_nil)))))) (MP.mt mp_int))) (fun w_told10 => (ss_if (mb_test (mp_op m_ne (mt_ownl (i := 7) rfl 0 (fun _ => rfl)) (MP.mt (mp_lst (mpa_cons mp_str (mpa_cons mp_str mpa_nil)))))) (ss_retL (fun _ => (wkc wk0)) mp_bl) (ss_nextL (()) (fun _ => ((weak_drop1 0 rfl).trans (weak_le (leK (leK (leK (leK (leK (leF (leF (leF leN))))))))))))))))) (ss_nextL (()) (fun _ => (weak_le (leK (leK (leK (leK (leK (leF (leF (leF leN))))))))))))))))) (fun s6 => (ss_ret (fun _ => wk0) mp_bl))))))))))
theorem run__law_positions_right {cs : Cs} : Runs (sp__law_positions_right cs) N__law_positions_right (t__law_positions_right cs.K cs) :=
  runGT0 (f := u__law_positions_right) fun E ga gc gg m  hT => (ss_seq (ss_set (mp_callg 0 (imp__law_house) (v := 0) rfl (fun _ => ⟨rfl, fun _ => rfl⟩) (okx (fun _ => wk0) rfl) (mpa_cons (mp_callg 0 (imp__law_draw) (v := 0) rfl (fun _ => ⟨rfl, fun _ => rfl⟩) (okx (fun _ => wk0) rfl) (mpa_cons mp_int mpa_nil)) (mpa_cons mp_int mpa_nil)))) (fun v_house1 => (ss_seq (ss_set (mp_cb c_m_len (ma_cons (MP.mt (mp_op m_ix (MP.mt (mp_var (i := 1) rfl)) (MP.mt mp_int))) ma_nil))) (fun v_rooms2 => (ss_seq (ss_set (mp_op m_add (MP.mt (mp_lst (mpa_cons mp_non mpa_nil))) (MP.mt (mp_lrg1 (mp_var (i := 2) rfl))))) (fun v_spots3 => (ss_seq (ss_set (mp_cb c_m_tup (ma_cons (MP.mt (mp_lc (mi_rg1 (mpa_cons (mp_callg 0 (imp__law_draw) (v := 0) rfl (fun _ => ⟨rfl, fun _ => rfl⟩) (okx (fun _ => wk0) rfl) (mpa_cons mp_int mpa_nil)) mpa_nil)) (gonly_name (by simp)) sg_name (fun _ _ _ => trivial) (fun l5 q6 b4 => mb_yes) (fun l5 q6 b4 => (mp_callg0 1 (imp__law_of) (v := 0) rfl (fun _ => ⟨rfl, fun _ => rfl⟩) (mpa_cons (mp_var (i := 3) rfl) mpa_nil))))) ma_nil))) (fun v_position7 => (ss_ifT (mb_not (mb_B (mp_calln (imp__law_like (k0 := 6)) (okx (fun _ => wk0) rfl) (mpa_cons (mp_callqn (imp_need_position) (okx (fun _ => wk0) rfl) mpa_nil (mpa_cons (mp_var (i := 4) rfl) (mpa_cons (mp_var (i := 1) rfl) mpa_nil))) (mpa_cons (mp_var (i := 4) rfl) mpa_nil))))) (ss_ret (fun _ => wk0) mp_bl) (ss_seq (ss_set (mp_callg 0 (imp__law_of) (v := 0) rfl (fun _ => ⟨rfl, fun _ => rfl⟩) (okx (fun _ => wk0) rfl) (mpa_cons (mp_lst (mpa_cons (mp_var (i := 2) rfl) (mpa_cons (mp_un m_neg (MP.mt mp_int)) (mpa_cons mp_bl (mpa_cons mp_str (mpa_cons (mp_tup mpa_nil) (mpa_cons (mp_lst mpa_nil) (mpa_cons mp_dnew (mpa_cons mp_int (mpa_cons mp_non mpa_nil)))))))))) mpa_nil))) (fun v_odd8 => (ss_seqT (layt := fun e => nomatch e) (stt := fun e => nomatch e) (ss_forL (σ := Unit) (τ := Empty) (up := fun f => f) (fun s9 => [some (.ref ga), some v_house1, some v_rooms2, some v_spots3, some v_position7, none, some v_odd8, none, none]) (fun s9 n => (ga, .gen gc gg n) :: m) (()) (fun _ => Weak.refl) (mi_seq (mp_lst (mpa_cons (mp_op m_add (MP.mt (mp_var (i := 4) rfl)) (MP.mt (mp_tup (mpa_cons (mp_var (i := 6) rfl) mpa_nil)))) (mpa_cons (mp_cb c_m_lst (ma_cons (MP.mt (mp_var (i := 4) rfl)) ma_nil)) (mpa_cons (mp_op m_mul (MP.mt (mp_tup (mpa_cons (mp_var (i := 6) rfl) mpa_nil))) (MP.mt mp_int)) (mpa_cons (mp_op m_mul (MP.mt (mp_tup (mpa_cons (mp_var (i := 6) rfl) mpa_nil))) (MP.mt mp_int)) (mpa_cons (mp_var (i := 6) rfl) (mpa_cons (mp_op m_mul (MP.mt (mp_tup (mpa_cons mp_non mpa_nil))) (MP.mt mp_int)) (mpa_cons (mp_op m_mul (MP.mt (mp_tup (mpa_cons mp_non mpa_nil))) (MP.mt mp_int)) mpa_nil))))))))) (fun _ _ => trivial) (fun _ => sg_name) (fun _ => rfl) (fun _ => rfl) (fun s9 b10 => (ss_seq (ss_set (mp_if (mb_B (mp_calln (imp__law_is_position) (okx (fun _ => wk0) rfl) (mpa_cons (mp_var (i := 2) rfl) (mpa_cons (mp_var (i := 7) rfl) mpa_nil)))) (mp_lst (mpa_cons mp_str (mpa_cons (mp_var (i := 7) rfl) mpa_nil))) (mp_lst (mpa_cons mp_str (mpa_cons (mp_var (i := 7) rfl) mpa_nil))))) (fun v_wanted12 => (ss_if (mb_test (mp_op m_ne (MP.mt (mp_op m_ix (MP.mt (mp_lamn (fun _ => (tabsG hT)) (okx (fun _ => wk0) rfl) (fun n E2 => (mp_call (imp_need_position) (okx (fun _ => wk0) rfl) (fun _ _ => rfl) (mpa_cons (mp_var (i := 1) rfl) (mpa_cons (mp_var (i := 7) rfl) mpa_nil)))))) (MP.mt mp_int))) (MP.mt (mp_op m_ix (MP.mt (mp_var (i := 8) rfl)) (MP.mt mp_int))))) (ss_retL (fun _ => wk0) mp_bl) (ss_nextL (()) (fun _ => (weak_le (leK (leK (leK (leK (leK (leF (leK (leF (leF leN))))))))))))))))) (fun s11 => (ss_ret (fun _ => wk0) (mp_calln (imp__law_like (k0 := 6)) (okx (fun _ => wk0) rfl) (mpa_cons (mp_lamn (fun _ => (tabsG hT)) (okx (fun _ => wk0) rfl) (fun n E2 => (mp_call (imp_need_position) (okx (fun _ => wk0) rfl) (fun _ _ => rfl) (mpa_cons mp_non (mpa_cons mp_int mpa_nil))))) (mpa_cons (mp_lst (mpa_cons mp_str (mpa_cons mp_str mpa_nil))) mpa_nil)))))))))))))))))
theorem run_law {cs : Cs} : Runs (sp_law cs) N_law (t_law cs.K cs) :=
  runLaw (f := u_law) fun E ga gc gg m sa sn hT => (ss_seqT (layt := fun e => nomatch e) (stt := fun e => nomatch e) (ss_forL (σ := Unit) (τ := Empty) (up := fun f => f) (fun s1 => [some (.scr cs.K sa sn), some (.ref ga), none, none, none, none, none]) (fun s1 n => (ga, .gen gc gg n) :: m) (()) (fun _ => Weak.refl) (mi_rg1 (mpa_cons mp_int mpa_nil)) (fun _ _ => trivial) (fun _ => sg_name) (fun _ => rfl) (fun _ => rfl) (fun s1 b2 => (ss_if (mb_or (mb_not (mb_B (mp_callgT 0 (imp__law_kinds_right) (fun _ => (tabsG hT)) (v := 1) rfl (fun _ => ⟨rfl, fun _ => rfl⟩) (okx (fun _ => wk0) rfl) mpa_nil))) (mb_not (mb_B (mp_callgT 0 (imp__law_positions_right) (fun _ => (tabsG hT)) (v := 1) rfl (fun _ => ⟨rfl, fun _ => rfl⟩) (okx (fun _ => wk0) rfl) mpa_nil)))) (ss_retL (fun _ => wk0) mp_bl) (ss_nextL (()) (fun _ => (weak_le (leK (leK (leF (leF (leF (leF (leF leN))))))))))))) (fun s3 => (ss_seq (ss_par (mp_op m_add (MP.mt (mp_lrg2 mp_int mp_int)) (MP.mt (mp_lst (mpa_cons mp_str mpa_nil)))) (mp_lst mpa_nil)) (fun p6 => (ss_seq (ss_for (σ := D) (fun s7 => [some (.scr cs.K sa sn), some (.ref ga), none, some p6.1, some s7, none, none]) (fun s7 n => (ga, .gen gc gg n) :: m) p6.2 (fun _ => Weak.refl) (mi_seq (mp_var (i := 3) rfl)) (fun _ _ => trivial) (fun _ => sg_name) (fun s7 b8 => (ss_end (ss_seq (ss_set (mp_op m_add (MP.mt (mp_var (i := 4) rfl)) (MP.mt (mp_lc (mi_seq (mp_var (i := 3) rfl)) (gonly_name (by simp)) sg_name (fun _ _ _ => trivial) (fun l11 q12 b10 => mb_yes) (fun l11 q12 b10 => (mp_tup (mpa_cons (mp_var (i := 5) rfl) (mpa_cons (mp_var (i := 6) rfl) mpa_nil)))))))) (fun v_due13 => (ss_next v_due13 (fun _ => (weak_le (leK (leK (leF (leK (leK (leF (leF leN))))))))))))))) (fun s9 => (ss_ret (fun _ => wk0) (mp_calln (imp__law_like (k0 := 6)) (okx (fun _ => wk0) rfl) (mpa_cons (mp_calln (imp_all_kinds) (okx (fun _ => wk0) rfl) mpa_nil) (mpa_cons (mp_cb c_m_tup (ma_cons (MP.mt (mp_var (i := 4) rfl)) ma_nil)) mpa_nil))))))))))
end Dz
namespace Dz
open PySem PySem.Spec PyProof.Rows L2 LamX
section
variable {P : Program} {w : World} {mg : Str → Option Value} {base : Heap} {cs : Cs} {k0 : Nat}
theorem sc_is_number : FnScope N_is_number ps_is_number (defScope st_is_number) := ⟨rfl, rfl, rfl, by decide +kernel, rfl, by decide +kernel, by decide +kernel⟩
theorem pss_is_number {f : Addr} {fd : FuncData} (n_bool : mg "bool" = none) (n_int : mg "int" = none) (n_isinstance : mg "isinstance" = none) {cdv : Value} {A : Around} {outer : List Env} {s : Shared} {H : Hp} {E : XK} (hr : Room 2 (A.deeper (envOfC "is_number" (defScope st_is_number) s.heap.objs.size f cdv))) : PSs (cxOf (L2.CX P w) P w cs.K mg base N_is_number "is_number" (defScope st_is_number) f cdv A outer s H E) (defBody st_is_number) (t_is_number cs.K cs E) := by
  have tk : Takes (cxOf (L2.CX P w) P w cs.K mg base N_is_number "is_number" (defScope st_is_number) f cdv A outer s H E) (WF E) := takes_of rfl rfl rfl rfl
  have po : PassesOwn (model P w) (A.deeper (envOfC "is_number" (defScope st_is_number) s.heap.objs.size f cdv)) (envOfC "is_number" (defScope st_is_number) s.heap.objs.size f cdv) (cxOf (L2.CX P w) P w cs.K mg base N_is_number "is_number" (defScope st_is_number) f cdv A outer s H E).xe := passes_of rfl
  exact (pss_cons (ps_if (PW.pt (pw_or (pt_not (pt_val (pe_callB call_isi (by rfl) n_isinstance bt_isinstance (pa_cons (pv 0) (pa_cons (pe_bltn (by rfl) n_int bt_int rfl) pa_nil))))) (pw_or1 (pt_val (pe_callB call_isi (by rfl) n_isinstance bt_isinstance (pa_cons (pv 0) (pa_cons (pe_bltn (by rfl) n_bool bt_bool rfl) pa_nil))))))) (pss_one (ps_ret pe_bl)) pss_nil)
    (pss_one (ps_ret (pe_and (pe_cmpR o_ge (pv 0) (pv 1) (nomark _)) (pe_one (pe_or (pe_cmpR o_is (pv 2) pe_non (nomark _)) (pe_one (pe_cmpR (o_le hr.units0) (pv 0) (pv 2) (nomark _)))))))))
theorem sc_is_row : FnScope N_is_row ps_is_row (defScope st_is_row) := ⟨rfl, rfl, rfl, by decide +kernel, rfl, by decide +kernel, by decide +kernel⟩
theorem pss_is_row {f : Addr} {fd : FuncData} (n_isinstance : mg "isinstance" = none) (n_len : mg "len" = none) (n_tuple : mg "tuple" = none) {cdv : Value} {A : Around} {outer : List Env} {s : Shared} {H : Hp} {E : XK} (hr : Room 2 (A.deeper (envOfC "is_row" (defScope st_is_row) s.heap.objs.size f cdv))) : PSs (cxOf (L2.CX P w) P w cs.K mg base N_is_row "is_row" (defScope st_is_row) f cdv A outer s H E) (defBody st_is_row) (t_is_row cs.K cs E) := by
  have tk : Takes (cxOf (L2.CX P w) P w cs.K mg base N_is_row "is_row" (defScope st_is_row) f cdv A outer s H E) (WF E) := takes_of rfl rfl rfl rfl
  have po : PassesOwn (model P w) (A.deeper (envOfC "is_row" (defScope st_is_row) s.heap.objs.size f cdv)) (envOfC "is_row" (defScope st_is_row) s.heap.objs.size f cdv) (cxOf (L2.CX P w) P w cs.K mg base N_is_row "is_row" (defScope st_is_row) f cdv A outer s H E).xe := passes_of rfl
  exact (pss_one (ps_ret (pe_and (pe_callB call_isi (by rfl) n_isinstance bt_isinstance (pa_cons (pv 0) (pa_cons (pe_bltn (by rfl) n_tuple bt_tuple rfl) pa_nil))) (pe_one (pe_or (pe_cmpR o_is (pv 1) pe_non (nomark _)) (pe_one (pe_cmpR (o_eq hr.units) (pe_callB c_len (by rfl) n_len bt_len (pa_cons (pv 0) pa_nil)) (pv 1) (nomark _))))))))
theorem sc_are_numbers : FnScope N_are_numbers ps_are_numbers (defScope st_are_numbers) := ⟨rfl, rfl, rfl, by decide +kernel, rfl, by decide +kernel, by decide +kernel⟩
theorem pss_are_numbers {f : Addr} {fd : FuncData} {f_is_number : Addr} {fd_is_number : FuncData} (g_is_number : GF P w cs.K mg base "is_number" ps_is_number 3 (sp_is_number cs) f_is_number fd_is_number) {f_is_row : Addr} {fd_is_row : FuncData} (g_is_row : GF P w cs.K mg base "is_row" ps_is_row 3 (sp_is_row cs) f_is_row fd_is_row) (n_all : mg "all" = none) (b_is_number_3 : Bd cs.K fd_is_number ps_is_number []) (b_is_row_1 : Bd cs.K fd_is_row ps_is_row [.non]) {cdv : Value} {A : Around} {outer : List Env} {s : Shared} {H : Hp} {E : XK} (hr : Room 3 (A.deeper (envOfC "are_numbers" (defScope st_are_numbers) s.heap.objs.size f cdv))) : PSs (cxOf (L2.CX P w) P w cs.K mg base N_are_numbers "are_numbers" (defScope st_are_numbers) f cdv A outer s H E) (defBody st_are_numbers) (t_are_numbers cs.K cs E) := by
  have tk : Takes (cxOf (L2.CX P w) P w cs.K mg base N_are_numbers "are_numbers" (defScope st_are_numbers) f cdv A outer s H E) (WF E) := takes_of rfl rfl rfl rfl
  have po : PassesOwn (model P w) (A.deeper (envOfC "are_numbers" (defScope st_are_numbers) s.heap.objs.size f cdv)) (envOfC "are_numbers" (defScope st_are_numbers) s.heap.objs.size f cdv) (cxOf (L2.CX P w) P w cs.K mg base N_are_numbers "are_numbers" (defScope st_are_numbers) f cdv A outer s H E).xe := passes_of rfl
  exact (pss_one (ps_ret (pe_and (pe_D g_is_row (hr.mono (by decide)) b_is_row_1 tk (pa_cons (pv 0) pa_nil)) (pe_one (pe_callB (cr_all rfl) (by rfl) n_all bt_all (pa_cons (pe_lc (own := [("one", 3)]) rfl sc_are_numbers.nd (pi_seq (pv 0)) (blkOk_by (own := [("one", 3)]) (N := N_are_numbers) (sc := defScope st_are_numbers) (by decide +kernel)) (fun _ _ _ _ _ => (pg_name (i := 3) sc_are_numbers.nd rfl (Or.inl rfl))) (fun _ _ _ _ _ => pts_nil) (fun _ _ _ _ _ => (pe_D g_is_number (hr.mono (by decide)) b_is_number_3 L2.takes0 (pa_cons (pv 3) (pa_cons (pv 2) (pa_cons (pv 1) pa_nil)))))) pa_nil))))))
theorem sc_is_bound : FnScope N_is_bound ps_is_bound (defScope st_is_bound) := ⟨rfl, rfl, rfl, by decide +kernel, rfl, by decide +kernel, by decide +kernel⟩
theorem pss_is_bound {f : Addr} {fd : FuncData} {f_is_number : Addr} {fd_is_number : FuncData} (g_is_number : GF P w cs.K mg base "is_number" ps_is_number 3 (sp_is_number cs) f_is_number fd_is_number) (n_isinstance : mg "isinstance" = none) (n_str : mg "str" = none) (b_is_number_3 : Bd cs.K fd_is_number ps_is_number []) {cdv : Value} {A : Around} {outer : List Env} {s : Shared} {H : Hp} {E : XK} (hr : Room 3 (A.deeper (envOfC "is_bound" (defScope st_is_bound) s.heap.objs.size f cdv))) : PSs (cxOf (L2.CX P w) P w cs.K mg base N_is_bound "is_bound" (defScope st_is_bound) f cdv A outer s H E) (defBody st_is_bound) (t_is_bound cs.K cs E) := by
  have tk : Takes (cxOf (L2.CX P w) P w cs.K mg base N_is_bound "is_bound" (defScope st_is_bound) f cdv A outer s H E) (WF E) := takes_of rfl rfl rfl rfl
  have po : PassesOwn (model P w) (A.deeper (envOfC "is_bound" (defScope st_is_bound) s.heap.objs.size f cdv)) (envOfC "is_bound" (defScope st_is_bound) s.heap.objs.size f cdv) (cxOf (L2.CX P w) P w cs.K mg base N_is_bound "is_bound" (defScope st_is_bound) f cdv A outer s H E).xe := passes_of rfl
  exact (pss_one (ps_ret (pe_ifExp (pt_val (pe_callB call_isi (by rfl) n_isinstance bt_isinstance (pa_cons (pv 0) (pa_cons (pe_bltn (by rfl) n_str bt_str rfl) pa_nil)))) (pe_cmpR (o_eq hr.units) (pv 0) pe_str (nomark _)) (pe_D g_is_number (hr.mono (by decide)) b_is_number_3 tk (pa_cons (pv 0) (pa_cons pe_int (pa_cons (pv 1) pa_nil)))))))
theorem sc_need_kind : FnScope N_need_kind ps_need_kind (defScope st_need_kind) := ⟨rfl, rfl, rfl, by decide +kernel, rfl, by decide +kernel, by decide +kernel⟩
theorem pss_need_kind {f : Addr} {fd : FuncData} {tk_MOST_PEBBLES : Tok} (k_MOST_PEBBLES : mg "MOST_PEBBLES" = some (.int 12 tk_MOST_PEBBLES)) {tk_MOST_ROUNDS : Tok} (k_MOST_ROUNDS : mg "MOST_ROUNDS" = some (.int 12 tk_MOST_ROUNDS)) {f_is_bound : Addr} {fd_is_bound : FuncData} (g_is_bound : GF P w cs.K mg base "is_bound" ps_is_bound 4 (sp_is_bound cs) f_is_bound fd_is_bound) {f_is_row : Addr} {fd_is_row : FuncData} (g_is_row : GF P w cs.K mg base "is_row" ps_is_row 3 (sp_is_row cs) f_is_row fd_is_row) (T_BadKind : PySem.BadX.BadTxt P cs.K mg "BadKind" "value" (cs.ad 6)) (b_is_bound_2 : Bd cs.K fd_is_bound ps_is_bound []) (b_is_row_2 : Bd cs.K fd_is_row ps_is_row []) {cdv : Value} {A : Around} {outer : List Env} {s : Shared} {H : Hp} {E : XK} (hr : Room 4 (A.deeper (envOfC "need_kind" (defScope st_need_kind) s.heap.objs.size f cdv))) : PSs (cxOf (L2.CX P w) P w cs.K mg base N_need_kind "need_kind" (defScope st_need_kind) f cdv A outer s H E) (defBody st_need_kind) (t_need_kind cs.K cs E) := by
  have tk : Takes (cxOf (L2.CX P w) P w cs.K mg base N_need_kind "need_kind" (defScope st_need_kind) f cdv A outer s H E) (WF E) := takes_of rfl rfl rfl rfl
  have po : PassesOwn (model P w) (A.deeper (envOfC "need_kind" (defScope st_need_kind) s.heap.objs.size f cdv)) (envOfC "need_kind" (defScope st_need_kind) s.heap.objs.size f cdv) (cxOf (L2.CX P w) P w cs.K mg base N_need_kind "need_kind" (defScope st_need_kind) f cdv A outer s H E).xe := passes_of rfl
  exact (pss_cons (ps_if (PW.pt (pw_or (pt_not (pt_val (pe_D g_is_row (hr.mono (by decide)) b_is_row_2 tk (pa_cons (pv 0) (pa_cons pe_int pa_nil))))) (pw_or (pt_not (pt_val (pe_D g_is_bound (hr.mono (by decide)) b_is_bound_2 tk (pa_cons (pe_ix ix_seq (pv 0) pe_int (fun _ _ => rfl)) (pa_cons (pe_glob (by rfl) k_MOST_PEBBLES ⟨_, rfl⟩) pa_nil))))) (pw_or1 (pt_not (pt_val (pe_D g_is_bound (hr.mono (by decide)) b_is_bound_2 tk (pa_cons (pe_ix ix_seq (pv 0) pe_int (fun _ _ => rfl)) (pa_cons (pe_glob (by rfl) k_MOST_ROUNDS ⟨_, rfl⟩) pa_nil))))))))) (pss_one (ps_raise rfl tk (pmk_bad T_BadKind hr (pa_cons (pv 0) pa_nil)))) pss_nil)
    (pss_one (ps_ret (pv 0))))
theorem sc_is_most : FnScope N_is_most ps_is_most (defScope st_is_most) := ⟨rfl, rfl, rfl, by decide +kernel, rfl, by decide +kernel, by decide +kernel⟩
theorem pss_is_most {f : Addr} {fd : FuncData}  {cdv : Value} {A : Around} {outer : List Env} {s : Shared} {H : Hp} {E : XK} (hr : Room 2 (A.deeper (envOfC "is_most" (defScope st_is_most) s.heap.objs.size f cdv))) : PSs (cxOf (L2.CX P w) P w cs.K mg base N_is_most "is_most" (defScope st_is_most) f cdv A outer s H E) (defBody st_is_most) (t_is_most cs.K cs E) := by
  have tk : Takes (cxOf (L2.CX P w) P w cs.K mg base N_is_most "is_most" (defScope st_is_most) f cdv A outer s H E) (WF E) := takes_of rfl rfl rfl rfl
  have po : PassesOwn (model P w) (A.deeper (envOfC "is_most" (defScope st_is_most) s.heap.objs.size f cdv)) (envOfC "is_most" (defScope st_is_most) s.heap.objs.size f cdv) (cxOf (L2.CX P w) P w cs.K mg base N_is_most "is_most" (defScope st_is_most) f cdv A outer s H E).xe := passes_of rfl
  exact (pss_one (ps_ret (pe_or (pe_cmpR (o_eq hr.units) (pv 0) pe_str (nomark _)) (pe_one (pe_and (pe_cmpR (o_ne hr.units) (pv 1) pe_str (nomark _)) (pe_one (pe_cmpR o_ge (pv 0) (pv 1) (nomark _))))))))
theorem sc_is_finer : FnScope N_is_finer ps_is_finer (defScope st_is_finer) := ⟨rfl, rfl, rfl, by decide +kernel, rfl, by decide +kernel, by decide +kernel⟩
theorem pss_is_finer {f : Addr} {fd : FuncData} {f_is_most : Addr} {fd_is_most : FuncData} (g_is_most : GF P w cs.K mg base "is_most" ps_is_most 3 (sp_is_most cs) f_is_most fd_is_most) {f_need_kind : Addr} {fd_need_kind : FuncData} (g_need_kind : GF P w cs.K mg base "need_kind" ps_need_kind 5 (sp_need_kind cs) f_need_kind fd_need_kind) (b_is_most_2 : Bd cs.K fd_is_most ps_is_most []) (b_need_kind_1 : Bd cs.K fd_need_kind ps_need_kind []) {cdv : Value} {A : Around} {outer : List Env} {s : Shared} {H : Hp} {E : XK} (hr : Room 5 (A.deeper (envOfC "is_finer" (defScope st_is_finer) s.heap.objs.size f cdv))) : PSs (cxOf (L2.CX P w) P w cs.K mg base N_is_finer "is_finer" (defScope st_is_finer) f cdv A outer s H E) (defBody st_is_finer) (t_is_finer cs.K cs E) := by
  have tk : Takes (cxOf (L2.CX P w) P w cs.K mg base N_is_finer "is_finer" (defScope st_is_finer) f cdv A outer s H E) (WF E) := takes_of rfl rfl rfl rfl
  have po : PassesOwn (model P w) (A.deeper (envOfC "is_finer" (defScope st_is_finer) s.heap.objs.size f cdv)) (envOfC "is_finer" (defScope st_is_finer) s.heap.objs.size f cdv) (cxOf (L2.CX P w) P w cs.K mg base N_is_finer "is_finer" (defScope st_is_finer) f cdv A outer s H E).xe := passes_of rfl
  exact (pss_cons (ps_expr (pe_D g_need_kind (hr.mono (by decide)) b_need_kind_1 tk (pa_cons (pv 0) pa_nil)))
    (pss_cons (ps_expr (pe_D g_need_kind (hr.mono (by decide)) b_need_kind_1 tk (pa_cons (pv 1) pa_nil)))
    (pss_one (ps_ret (pe_and (pe_D g_is_most (hr.mono (by decide)) b_is_most_2 tk (pa_cons (pe_ix ix_seq (pv 0) pe_int (fun _ _ => rfl)) (pa_cons (pe_ix ix_seq (pv 1) pe_int (fun _ _ => rfl)) pa_nil))) (pe_one (pe_D g_is_most (hr.mono (by decide)) b_is_most_2 tk (pa_cons (pe_ix ix_seq (pv 0) pe_int (fun _ _ => rfl)) (pa_cons (pe_ix ix_seq (pv 1) pe_int (fun _ _ => rfl)) pa_nil)))))))))
theorem sc_all_kinds : FnScope N_all_kinds ps_all_kinds (defScope st_all_kinds) := ⟨rfl, rfl, rfl, by decide +kernel, rfl, by decide +kernel, by decide +kernel⟩
theorem pss_all_kinds {f : Addr} {fd : FuncData} {tk_MOST_PEBBLES : Tok} (k_MOST_PEBBLES : mg "MOST_PEBBLES" = some (.int 12 tk_MOST_PEBBLES)) {tk_MOST_ROUNDS : Tok} (k_MOST_ROUNDS : mg "MOST_ROUNDS" = some (.int 12 tk_MOST_ROUNDS)) (n_list : mg "list" = none) (n_range : mg "range" = none) (n_tuple : mg "tuple" = none) {cdv : Value} {A : Around} {outer : List Env} {s : Shared} {H : Hp} {E : XK} (hr : Room 2 (A.deeper (envOfC "all_kinds" (defScope st_all_kinds) s.heap.objs.size f cdv))) : PSs (cxOf (L2.CX P w) P w cs.K mg base N_all_kinds "all_kinds" (defScope st_all_kinds) f cdv A outer s H E) (defBody st_all_kinds) (t_all_kinds cs.K cs E) := by
  have tk : Takes (cxOf (L2.CX P w) P w cs.K mg base N_all_kinds "all_kinds" (defScope st_all_kinds) f cdv A outer s H E) (WF E) := takes_of rfl rfl rfl rfl
  have po : PassesOwn (model P w) (A.deeper (envOfC "all_kinds" (defScope st_all_kinds) s.heap.objs.size f cdv)) (envOfC "all_kinds" (defScope st_all_kinds) s.heap.objs.size f cdv) (cxOf (L2.CX P w) P w cs.K mg base N_all_kinds "all_kinds" (defScope st_all_kinds) f cdv A outer s H E).xe := passes_of rfl
  exact (pss_cons (ps_set (i := 0) sc_all_kinds.nd rfl (Or.inl rfl) (pe_op o_add (pe_listRg rfl (by rfl) n_list (prg_2 (by rfl) n_range pe_int (pe_op o_add (pe_glob (by rfl) k_MOST_PEBBLES ⟨_, rfl⟩) pe_int))) (pe_lst (pa_cons pe_str pa_nil))))
    (pss_cons (ps_set (i := 1) sc_all_kinds.nd rfl (Or.inr rfl) (pe_op o_add (pe_listRg rfl (by rfl) n_list (prg_2 (by rfl) n_range pe_int (pe_op o_add (pe_glob (by rfl) k_MOST_ROUNDS ⟨_, rfl⟩) pe_int))) (pe_lst (pa_cons pe_str pa_nil))))
    (pss_one (ps_ret (pe_callTy c_tuple (by rfl) n_tuple bt_tuple (pa_cons (pe_lc2 (own := [("some", 2), ("many", 3)]) (vs1 := [3]) rfl sc_all_kinds.nd (pi_seq (pv 0)) (blkOk_by (own := [("some", 2), ("many", 3)]) (N := N_all_kinds) (sc := defScope st_all_kinds) (by decide +kernel)) (by decide) (fun _ _ _ _ _ => (pg_name (i := 2) sc_all_kinds.nd rfl (Or.inl rfl))) (fun _ _ _ _ _ => pts_nil) (fun _ _ _ _ _ => (pi_seq (pv 1))) (fun _ _ _ _ _ => (pg_name (i := 3) sc_all_kinds.nd rfl (Or.inl rfl))) (fun _ _ _ _ _ => pts_nil) (fun _ _ _ _ _ => (pe_tup (pa_cons (pv 2) (pa_cons (pv 3) pa_nil))))) pa_nil))))))
theorem sc_is_door : FnScope N_is_door ps_is_door (defScope st_is_door) := ⟨rfl, rfl, rfl, by decide +kernel, rfl, by decide +kernel, by decide +kernel⟩
theorem pss_is_door {f : Addr} {fd : FuncData} {f_is_number : Addr} {fd_is_number : FuncData} (g_is_number : GF P w cs.K mg base "is_number" ps_is_number 3 (sp_is_number cs) f_is_number fd_is_number) {f_is_row : Addr} {fd_is_row : FuncData} (g_is_row : GF P w cs.K mg base "is_row" ps_is_row 3 (sp_is_row cs) f_is_row fd_is_row) (b_is_number_2 : Bd cs.K fd_is_number ps_is_number [.non]) (b_is_number_3 : Bd cs.K fd_is_number ps_is_number []) (b_is_row_2 : Bd cs.K fd_is_row ps_is_row []) {cdv : Value} {A : Around} {outer : List Env} {s : Shared} {H : Hp} {E : XK} (hr : Room 3 (A.deeper (envOfC "is_door" (defScope st_is_door) s.heap.objs.size f cdv))) : PSs (cxOf (L2.CX P w) P w cs.K mg base N_is_door "is_door" (defScope st_is_door) f cdv A outer s H E) (defBody st_is_door) (t_is_door cs.K cs E) := by
  have tk : Takes (cxOf (L2.CX P w) P w cs.K mg base N_is_door "is_door" (defScope st_is_door) f cdv A outer s H E) (WF E) := takes_of rfl rfl rfl rfl
  have po : PassesOwn (model P w) (A.deeper (envOfC "is_door" (defScope st_is_door) s.heap.objs.size f cdv)) (envOfC "is_door" (defScope st_is_door) s.heap.objs.size f cdv) (cxOf (L2.CX P w) P w cs.K mg base N_is_door "is_door" (defScope st_is_door) f cdv A outer s H E).xe := passes_of rfl
  exact (pss_cons (ps_if (PW.pt (pw_or (pt_not (pt_val (pe_D g_is_row (hr.mono (by decide)) b_is_row_2 tk (pa_cons (pv 1) (pa_cons pe_int pa_nil))))) (pw_or1 (pt_not (pt_val (pe_D g_is_number (hr.mono (by decide)) b_is_number_2 tk (pa_cons (pe_ix ix_seq (pv 1) pe_int (fun _ _ => rfl)) (pa_cons pe_int pa_nil)))))))) (pss_one (ps_ret pe_bl)) pss_nil)
    (pss_one (ps_ret (pe_D g_is_number (hr.mono (by decide)) b_is_number_3 tk (pa_cons (pe_ix ix_seq (pv 1) pe_int (fun _ _ => rfl)) (pa_cons (pe_op o_add (pe_ix ix_seq (pv 1) pe_int (fun _ _ => rfl)) pe_int) (pa_cons (pe_op o_sub (pv 0) pe_int) pa_nil)))))))
theorem sc_house_fault : FnScope N_house_fault ps_house_fault (defScope st_house_fault) := ⟨rfl, rfl, rfl, by decide +kernel, rfl, by decide +kernel, by decide +kernel⟩
theorem pss_house_fault {f : Addr} {fd : FuncData} {tk_MOST_COLOUR : Tok} (k_MOST_COLOUR : mg "MOST_COLOUR" = some (.int 9 tk_MOST_COLOUR)) {f_are_numbers : Addr} {fd_are_numbers : FuncData} (g_are_numbers : GF P w cs.K mg base "are_numbers" ps_are_numbers 4 (sp_are_numbers cs) f_are_numbers fd_are_numbers) {f_is_door : Addr} {fd_is_door : FuncData} (g_is_door : GF P w cs.K mg base "is_door" ps_is_door 4 (sp_is_door cs) f_is_door fd_is_door) {f_is_row : Addr} {fd_is_row : FuncData} (g_is_row : GF P w cs.K mg base "is_row" ps_is_row 3 (sp_is_row cs) f_is_row fd_is_row) (n_enumerate : mg "enumerate" = none) (n_len : mg "len" = none) (b_are_numbers_2 : Bd cs.K fd_are_numbers ps_are_numbers [.int 0]) (b_is_door_2 : Bd cs.K fd_is_door ps_is_door []) (b_is_row_1 : Bd cs.K fd_is_row ps_is_row [.non]) (b_is_row_2 : Bd cs.K fd_is_row ps_is_row []) {cdv : Value} {A : Around} {outer : List Env} {s : Shared} {H : Hp} {E : XK} (hr : Room 4 (A.deeper (envOfC "house_fault" (defScope st_house_fault) s.heap.objs.size f cdv))) : PSs (cxOf (L2.CX P w) P w cs.K mg base N_house_fault "house_fault" (defScope st_house_fault) f cdv A outer s H E) (defBody st_house_fault) (t_house_fault cs.K cs E) := by
  have tk : Takes (cxOf (L2.CX P w) P w cs.K mg base N_house_fault "house_fault" (defScope st_house_fault) f cdv A outer s H E) (WF E) := takes_of rfl rfl rfl rfl
  have po : PassesOwn (model P w) (A.deeper (envOfC "house_fault" (defScope st_house_fault) s.heap.objs.size f cdv)) (envOfC "house_fault" (defScope st_house_fault) s.heap.objs.size f cdv) (cxOf (L2.CX P w) P w cs.K mg base N_house_fault "house_fault" (defScope st_house_fault) f cdv A outer s H E).xe := passes_of rfl
  exact (pss_cons (ps_if (PW.pt (pw_or (pt_not (pt_val (pe_D g_is_row (hr.mono (by decide)) b_is_row_2 tk (pa_cons (pv 0) (pa_cons pe_int pa_nil))))) (pw_or (pt_not (pt_val (pe_D g_is_row (hr.mono (by decide)) b_is_row_1 tk (pa_cons (pe_ix ix_seq (pv 0) pe_int (fun _ _ => rfl)) pa_nil)))) (pw_or1 (pt_not (pt_val (pe_D g_is_row (hr.mono (by decide)) b_is_row_1 tk (pa_cons (pe_ix ix_seq (pv 0) pe_int (fun _ _ => rfl)) pa_nil)))))))) (pss_one (ps_ret (pe_tup (pa_cons pe_str pa_nil)))) pss_nil)
    (pss_cons (ps_if (pt_cmpR o_gt (pe_callB c_len (by rfl) n_len bt_len (pa_cons (pe_ix ix_seq (pv 0) pe_int (fun _ _ => rfl)) pa_nil)) (pv 1) (nomark _)) (pss_one (ps_ret (pe_tup (pa_cons pe_str pa_nil)))) pss_nil)
    (pss_cons (ps_if (pt_not (pt_val (pe_D g_are_numbers (hr.mono (by decide)) b_are_numbers_2 tk (pa_cons (pe_ix ix_seq (pv 0) pe_int (fun _ _ => rfl)) (pa_cons (pe_glob (by rfl) k_MOST_COLOUR ⟨_, rfl⟩) pa_nil))))) (pss_one (ps_ret (pe_tup (pa_cons pe_str pa_nil)))) pss_nil)
    (pss_cons (ps_for po rfl (pi_enumA (by rfl) n_enumerate (pa_cons (pe_ix ix_seq (pv 0) pe_int (fun _ _ => rfl)) pa_nil)) (pg_tup rfl (pgs_cons (pg_name (i := 2) sc_house_fault.nd rfl (Or.inl rfl)) (pgs_cons (pg_name (i := 3) sc_house_fault.nd rfl (Or.inl rfl)) pgs_nil))) (pss_one (ps_if (PW.pt (pw_or (pt_not (pt_val (pe_D g_is_door (hr.mono (by decide)) b_is_door_2 tk (pa_cons (pe_callB c_len (by rfl) n_len bt_len (pa_cons (pe_ix ix_seq (pv 0) pe_int (fun _ _ => rfl)) pa_nil)) (pa_cons (pv 3) pa_nil))))) (pw_or1 (PW.pt (pw_and (pt_cmpR o_gt (pv 2) pe_int (nomark _)) (pw_and1 (pt_cmpR (o_le hr.units0) (pv 3) (pe_ix ix_seq (pe_ix ix_seq (pv 0) pe_int (fun _ _ => rfl)) (pe_op o_sub (pv 2) pe_int) (fun _ _ => rfl)) (nomark _)))))))) (pss_one (ps_ret (pe_tup (pa_cons (pv 2) pa_nil)))) pss_nil)))
    (pss_one (ps_ret (pe_tup pa_nil)))))))
theorem sc_need_house : FnScope N_need_house ps_need_house (defScope st_need_house) := ⟨rfl, rfl, rfl, by decide +kernel, rfl, by decide +kernel, by decide +kernel⟩
theorem pss_need_house {f : Addr} {fd : FuncData} {tk_MOST_ROOMS : Tok} (k_MOST_ROOMS : mg "MOST_ROOMS" = some (.int 60 tk_MOST_ROOMS)) {f_house_fault : Addr} {fd_house_fault : FuncData} (g_house_fault : GF P w cs.K mg base "house_fault" ps_house_fault 5 (sp_house_fault cs) f_house_fault fd_house_fault) (T_BadHouse : PySem.BadX.BadTxt P cs.K mg "BadHouse" "place" (cs.ad 3)) (b_house_fault_2 : Bd cs.K fd_house_fault ps_house_fault []) {cdv : Value} {A : Around} {outer : List Env} {s : Shared} {H : Hp} {E : XK} (hr : Room 5 (A.deeper (envOfC "need_house" (defScope st_need_house) s.heap.objs.size f cdv))) : PSs (cxOf (L2.CX P w) P w cs.K mg base N_need_house "need_house" (defScope st_need_house) f cdv A outer s H E) (defBody st_need_house) (t_need_house cs.K cs E) := by
  have tk : Takes (cxOf (L2.CX P w) P w cs.K mg base N_need_house "need_house" (defScope st_need_house) f cdv A outer s H E) (WF E) := takes_of rfl rfl rfl rfl
  have po : PassesOwn (model P w) (A.deeper (envOfC "need_house" (defScope st_need_house) s.heap.objs.size f cdv)) (envOfC "need_house" (defScope st_need_house) s.heap.objs.size f cdv) (cxOf (L2.CX P w) P w cs.K mg base N_need_house "need_house" (defScope st_need_house) f cdv A outer s H E).xe := passes_of rfl
  exact (pss_cons (ps_set (i := 1) sc_need_house.nd rfl (Or.inl rfl) (pe_D g_house_fault (hr.mono (by decide)) b_house_fault_2 tk (pa_cons (pv 0) (pa_cons (pe_glob (by rfl) k_MOST_ROOMS ⟨_, rfl⟩) pa_nil))))
    (pss_cons (ps_if (pt_cmpR (o_ne hr.units) (pv 1) (pe_tup pa_nil) (nomark _)) (pss_one (ps_raise rfl tk (pmk_bad T_BadHouse hr (pa_cons (pe_ix ix_seq (pv 1) pe_int (fun _ _ => rfl)) pa_nil)))) pss_nil)
    (pss_one (ps_ret (pv 0)))))
theorem sc_need_position : FnScope N_need_position ps_need_position (defScope st_need_position) := ⟨rfl, rfl, rfl, by decide +kernel, rfl, by decide +kernel, by decide +kernel⟩
theorem pss_need_position {f : Addr} {fd : FuncData} {f_is_number : Addr} {fd_is_number : FuncData} (g_is_number : GF P w cs.K mg base "is_number" ps_is_number 3 (sp_is_number cs) f_is_number fd_is_number) {f_is_row : Addr} {fd_is_row : FuncData} (g_is_row : GF P w cs.K mg base "is_row" ps_is_row 3 (sp_is_row cs) f_is_row fd_is_row) {f_need_house : Addr} {fd_need_house : FuncData} (g_need_house : GF P w cs.K mg base "need_house" ps_need_house 6 (sp_need_house cs) f_need_house fd_need_house) (n_len : mg "len" = none) (T_BadPosition : PySem.BadX.BadTxt P cs.K mg "BadPosition" "value" (cs.ad 7)) (b_is_number_3 : Bd cs.K fd_is_number ps_is_number []) (b_is_row_1 : Bd cs.K fd_is_row ps_is_row [.non]) (b_need_house_1 : Bd cs.K fd_need_house ps_need_house []) {cdv : Value} {A : Around} {outer : List Env} {s : Shared} {H : Hp} {E : XK} (hr : Room 6 (A.deeper (envOfC "need_position" (defScope st_need_position) s.heap.objs.size f cdv))) : PSs (cxOf (L2.CX P w) P w cs.K mg base N_need_position "need_position" (defScope st_need_position) f cdv A outer s H E) (defBody st_need_position) (t_need_position cs.K cs E) := by
  have tk : Takes (cxOf (L2.CX P w) P w cs.K mg base N_need_position "need_position" (defScope st_need_position) f cdv A outer s H E) (WF E) := takes_of rfl rfl rfl rfl
  have po : PassesOwn (model P w) (A.deeper (envOfC "need_position" (defScope st_need_position) s.heap.objs.size f cdv)) (envOfC "need_position" (defScope st_need_position) s.heap.objs.size f cdv) (cxOf (L2.CX P w) P w cs.K mg base N_need_position "need_position" (defScope st_need_position) f cdv A outer s H E).xe := passes_of rfl
  exact (pss_cons (ps_expr (pe_D g_need_house (hr.mono (by decide)) b_need_house_1 tk (pa_cons (pv 0) pa_nil)))
    (pss_cons (ps_if (PW.pt (pw_or (pt_not (pt_val (pe_D g_is_row (hr.mono (by decide)) b_is_row_1 tk (pa_cons (pv 1) pa_nil)))) (pw_or1 (pt_cmpR o_gt (pe_callB c_len (by rfl) n_len bt_len (pa_cons (pv 1) pa_nil)) pe_int (nomark _))))) (pss_one (ps_raise rfl tk (pmk_bad T_BadPosition hr (pa_cons (pv 1) pa_nil)))) pss_nil)
    (pss_cons (ps_for po rfl (pi_seq (pv 1)) (pg_name (i := 2) sc_need_position.nd rfl (Or.inl rfl)) (pss_one (ps_if (PW.pt (pw_and (pt_cmpR o_isnot (pv 2) pe_non (nomark _)) (pw_and1 (pt_not (pt_val (pe_D g_is_number (hr.mono (by decide)) b_is_number_3 tk (pa_cons (pv 2) (pa_cons pe_int (pa_cons (pe_op o_sub (pe_callB c_len (by rfl) n_len bt_len (pa_cons (pe_ix ix_seq (pv 0) pe_int (fun _ _ => rfl)) pa_nil)) pe_int) pa_nil))))))))) (pss_one (ps_raise rfl tk (pmk_bad T_BadPosition hr (pa_cons (pv 1) pa_nil)))) pss_nil)))
    (pss_one (ps_ret (pv 1))))))
theorem sc__law_mixed : FnScope N__law_mixed ps__law_mixed (defScope st__law_mixed) := ⟨rfl, rfl, rfl, by decide +kernel, rfl, by decide +kernel, by decide +kernel⟩
theorem pss__law_mixed {f : Addr} {fd : FuncData} (n_int : mg "int" = none) {cdv : Value} {A : Around} {outer : List Env} {s : Shared} {H : Hp} {E : XK} (hr : Room 2 (A.deeper (envOfC "_law_mixed" (defScope st__law_mixed) s.heap.objs.size f cdv))) : PSs (cxOf (L2.CX P w) P w cs.K mg base N__law_mixed "_law_mixed" (defScope st__law_mixed) f cdv A outer s H E) (defBody st__law_mixed) (t__law_mixed cs.K cs E) := by
  have tk : Takes (cxOf (L2.CX P w) P w cs.K mg base N__law_mixed "_law_mixed" (defScope st__law_mixed) f cdv A outer s H E) (WF E) := takes_of rfl rfl rfl rfl
  have po : PassesOwn (model P w) (A.deeper (envOfC "_law_mixed" (defScope st__law_mixed) s.heap.objs.size f cdv)) (envOfC "_law_mixed" (defScope st__law_mixed) s.heap.objs.size f cdv) (cxOf (L2.CX P w) P w cs.K mg base N__law_mixed "_law_mixed" (defScope st__law_mixed) f cdv A outer s H E).xe := passes_of rfl
  exact (pss_cons (ps_set (i := 2) sc__law_mixed.nd rfl (Or.inl rfl) (pe_op o_add (pe_op o_add (pe_op o_mod (pe_callTy c_int (by rfl) n_int bt_int (pa_cons (pe_op o_mul (pe_op o_mul (pv 0) (pe_op o_add pe_int (pe_op o_mul pe_int (pv 1)))) pe_int) pa_nil)) pe_int) (pe_op o_mul (pe_op o_mul pe_int (pv 1)) (pv 1))) (pe_op o_mul pe_int (pv 1))))
    (pss_one (ps_ret (pe_op o_div (pe_op o_mod (pe_callTy c_int (by rfl) n_int bt_int (pa_cons (pe_op o_mul (pv 2) pe_int) pa_nil)) pe_int) pe_int))))
theorem sc__law_folded : FnScope N__law_folded ps__law_folded (defScope st__law_folded) := ⟨rfl, rfl, rfl, by decide +kernel, rfl, by decide +kernel, by decide +kernel⟩
theorem pss__law_folded {f : Addr} {fd : FuncData} (n_enumerate : mg "enumerate" = none) (n_int : mg "int" = none) (n_range : mg "range" = none) {cdv : Value} {A : Around} {outer : List Env} {s : Shared} {H : Hp} {E : XK} (hr : Room 2 (A.deeper (envOfC "_law_folded" (defScope st__law_folded) s.heap.objs.size f cdv))) : PSs (cxOf (L2.CX P w) P w cs.K mg base N__law_folded "_law_folded" (defScope st__law_folded) f cdv A outer s H E) (defBody st__law_folded) (t__law_folded cs.K cs E) := by
  have tk : Takes (cxOf (L2.CX P w) P w cs.K mg base N__law_folded "_law_folded" (defScope st__law_folded) f cdv A outer s H E) (WF E) := takes_of rfl rfl rfl rfl
  have po : PassesOwn (model P w) (A.deeper (envOfC "_law_folded" (defScope st__law_folded) s.heap.objs.size f cdv)) (envOfC "_law_folded" (defScope st__law_folded) s.heap.objs.size f cdv) (cxOf (L2.CX P w) P w cs.K mg base N__law_folded "_law_folded" (defScope st__law_folded) f cdv A outer s H E).xe := passes_of rfl
  exact (pss_cons (ps_setLc (i := 1) (own := [("n", 2)]) rfl sc__law_folded.nd rfl rfl (sw_true rfl rfl rfl (by decide +kernel)) (pi_range1 (by rfl) n_range (pa_cons pe_int pa_nil)) (blkOk_by (own := [("n", 2)]) (N := N__law_folded) (sc := defScope st__law_folded) (by decide +kernel)) (fun _ _ _ _ _ => (pg_name (i := 2) sc__law_folded.nd rfl (Or.inl rfl))) (fun _ _ _ _ _ => pts_nil) (fun _ _ _ _ _ => (pe_op o_add pe_int (pv 2))))
    (pss_cons (ps_for po rfl (pi_enumA (by rfl) n_enumerate (pa_cons (pv 0) pa_nil)) (pg_tup rfl (pgs_cons (pg_name (i := 2) sc__law_folded.nd rfl (Or.inl rfl)) (pgs_cons (pg_name (i := 3) sc__law_folded.nd rfl (Or.inl rfl)) pgs_nil))) (pss_one (ps_asg (pe_op o_mod (pe_callTy c_int (by rfl) n_int bt_int (pa_cons (pe_op o_add (pe_op o_mul (pe_ix ix_seq (pv 1) (pe_op o_mod (pe_callTy c_int (by rfl) n_int bt_int (pa_cons (pv 2) pa_nil)) pe_int) (fun _ _ => rfl)) pe_int) (pv 3)) pa_nil)) pe_int) (pg_sub (pv 1) (pe_op o_mod (pe_callTy c_int (by rfl) n_int bt_int (pa_cons (pv 2) pa_nil)) pe_int) set_list))))
    (pss_cons (ps_for po rfl (pi_range2 (by rfl) n_range (pa_cons pe_int (pa_cons pe_int pa_nil))) (pg_name (i := 2) sc__law_folded.nd rfl (Or.inl rfl)) (pss_one (ps_asg (pe_op o_mod (pe_callTy c_int (by rfl) n_int bt_int (pa_cons (pe_op o_add (pe_ix ix_seq (pv 1) (pv 2) (fun _ _ => rfl)) (pe_op o_mul (pe_ix ix_seq (pv 1) (pe_op o_sub (pv 2) pe_int) (fun _ _ => rfl)) pe_int)) pa_nil)) pe_int) (pg_sub (pv 1) (pv 2) set_list))))
    (pss_one (ps_ret (pv 1))))))
theorem sc__law_draw : FnScope N__law_draw ps__law_draw (defScope st__law_draw) := ⟨rfl, rfl, rfl, by decide +kernel, rfl, by decide +kernel, by decide +kernel⟩
theorem pss__law_draw {f : Addr} {fd : FuncData} {f__law_mixed : Addr} {fd__law_mixed : FuncData} (g__law_mixed : GF P w cs.K mg base "_law_mixed" ps__law_mixed 3 (sp__law_mixed cs) f__law_mixed fd__law_mixed) (n_int : mg "int" = none) (n_len : mg "len" = none) (b__law_mixed_2 : Bd cs.K fd__law_mixed ps__law_mixed []) {cdv : Value} {A : Around} {outer : List Env} {s : Shared} {H : Hp} {E : XK} (hr : Room 3 (A.deeper (envOfC "_law_draw" (defScope st__law_draw) s.heap.objs.size f cdv))) : PSs (cxOf (L2.CX P w) P w cs.K mg base N__law_draw "_law_draw" (defScope st__law_draw) f cdv A outer s H E) (defBody st__law_draw) (t__law_draw cs.K cs E) := by
  have tk : Takes (cxOf (L2.CX P w) P w cs.K mg base N__law_draw "_law_draw" (defScope st__law_draw) f cdv A outer s H E) (WF E) := takes_of rfl rfl rfl rfl
  have po : PassesOwn (model P w) (A.deeper (envOfC "_law_draw" (defScope st__law_draw) s.heap.objs.size f cdv)) (envOfC "_law_draw" (defScope st__law_draw) s.heap.objs.size f cdv) (cxOf (L2.CX P w) P w cs.K mg base N__law_draw "_law_draw" (defScope st__law_draw) f cdv A outer s H E).xe := passes_of rfl
  exact (pss_cons (ps_set (i := 2) sc__law_draw.nd rfl (Or.inl rfl) (pe_dget hr.units1 (pv 0) pe_str (fun _ _ => rfl)))
    (pss_cons (ps_dput hr.units1 (pv 0) pe_str (pe_op o_add (pv 2) pe_int) rfl)
    (pss_cons (ps_if (pt_cmpR (o_ne hr.units) (pe_dget hr.units1 (pv 0) pe_str (fun _ _ => rfl)) (pe_lst pa_nil) (nomark _)) (pss_cons (ps_set (i := 3) sc__law_draw.nd rfl (Or.inl rfl) (pe_dget hr.units1 (pv 0) pe_str (fun _ _ => rfl)))
    (pss_cons (ps_set (i := 4) sc__law_draw.nd rfl (Or.inl rfl) (pe_op o_mod (pe_callTy c_int (by rfl) n_int bt_int (pa_cons (pv 2) pa_nil)) (pe_callB c_len (by rfl) n_len bt_len (pa_cons (pv 3) pa_nil))))
    (pss_cons (ps_set (i := 5) sc__law_draw.nd rfl (Or.inl rfl) (pe_ix ix_seq (pv 3) (pv 4) (fun _ _ => rfl)))
    (pss_one (ps_if (pt_cmpR o_gt (pv 5) pe_int (nomark _)) (pss_cons (ps_asg (pe_op o_div (pv 5) (pv 1)) (pg_sub (pv 3) (pv 4) set_list))
    (pss_one (ps_ret (pe_op o_mod (pe_callTy c_int (by rfl) n_int bt_int (pa_cons (pv 5) pa_nil)) (pv 1))))) pss_nil))))) pss_nil)
    (pss_cons (ps_set (i := 3) sc__law_draw.nd rfl (Or.inl rfl) (pe_dget hr.units1 (pv 0) pe_str (fun _ _ => rfl)))
    (pss_one (ps_ret (pe_op o_mod (pe_callTy c_int (by rfl) n_int bt_int (pa_cons (pe_D g__law_mixed (hr.mono (by decide)) b__law_mixed_2 tk (pa_cons (pe_D g__law_mixed (hr.mono (by decide)) b__law_mixed_2 tk (pa_cons (pe_op o_add (pe_ix ix_seq (pv 3) (pe_op o_mod (pe_callTy c_int (by rfl) n_int bt_int (pa_cons (pv 2) pa_nil)) pe_int) (fun _ _ => rfl)) (pe_op o_mul pe_int (pe_op o_div (pv 2) pe_int))) (pa_cons (pv 2) pa_nil))) (pa_cons (pe_op o_add (pv 2) pe_int) pa_nil))) pa_nil)) (pv 1))))))))
theorem sc__law_begun : FnScope N__law_begun ps__law_begun (defScope st__law_begun) := ⟨rfl, rfl, rfl, by decide +kernel, rfl, by decide +kernel, by decide +kernel⟩
theorem pss__law_begun {f : Addr} {fd : FuncData} {f__law_folded : Addr} {fd__law_folded : FuncData} (g__law_folded : GF P w cs.K mg base "_law_folded" ps__law_folded 3 (sp__law_folded cs) f__law_folded fd__law_folded) (b__law_folded_1 : Bd cs.K fd__law_folded ps__law_folded []) {cdv : Value} {A : Around} {outer : List Env} {s : Shared} {H : Hp} {E : XK} (hr : Room 3 (A.deeper (envOfC "_law_begun" (defScope st__law_begun) s.heap.objs.size f cdv))) : PSs (cxOf (L2.CX P w) P w cs.K mg base N__law_begun "_law_begun" (defScope st__law_begun) f cdv A outer s H E) (defBody st__law_begun) (t__law_begun cs.K cs E) := by
  have tk : Takes (cxOf (L2.CX P w) P w cs.K mg base N__law_begun "_law_begun" (defScope st__law_begun) f cdv A outer s H E) (WF E) := takes_of rfl rfl rfl rfl
  have po : PassesOwn (model P w) (A.deeper (envOfC "_law_begun" (defScope st__law_begun) s.heap.objs.size f cdv)) (envOfC "_law_begun" (defScope st__law_begun) s.heap.objs.size f cdv) (cxOf (L2.CX P w) P w cs.K mg base N__law_begun "_law_begun" (defScope st__law_begun) f cdv A outer s H E).xe := passes_of rfl
  exact (pss_cons (ps_set (i := 1) sc__law_begun.nd rfl (Or.inl rfl) (pe_disp (pps_cons pe_str (pe_D g__law_folded (hr.mono (by decide)) b__law_folded_1 tk (pa_cons (pv 0) pa_nil)) (pps_cons pe_str (pe_lst pa_nil) (pps_cons pe_str pe_int pps_nil))) rfl rfl (by simp) (by decide)))
    (pss_cons (ps_dput hr.units1 (pv 1) pe_str (pe_lc (own := [("cell", 2)]) rfl sc__law_begun.nd (pi_seq (pv 0)) (blkOk_by (own := [("cell", 2)]) (N := N__law_begun) (sc := defScope st__law_begun) (by decide +kernel)) (fun _ _ _ _ _ => (pg_name (i := 2) sc__law_begun.nd rfl (Or.inl rfl))) (fun _ _ _ _ _ => pts_nil) (fun _ _ _ _ _ => (pe_ifExp (pt_cmpR o_ge (pv 2) (pe_op o_pow pe_int pe_int) (nomark _)) (pv 2) pe_int))) rfl)
    (pss_one (ps_ret (pv 1)))))
theorem sc__law_of : FnScope N__law_of ps__law_of (defScope st__law_of) := ⟨rfl, rfl, rfl, by decide +kernel, rfl, by decide +kernel, by decide +kernel⟩
theorem pss__law_of {f : Addr} {fd : FuncData} {f__law_draw : Addr} {fd__law_draw : FuncData} (g__law_draw : GF P w cs.K mg base "_law_draw" ps__law_draw 4 (sp__law_draw cs) f__law_draw fd__law_draw) (n_len : mg "len" = none) (b__law_draw_2 : Bd cs.K fd__law_draw ps__law_draw []) {cdv : Value} {A : Around} {outer : List Env} {s : Shared} {H : Hp} {E : XK} (hr : Room 4 (A.deeper (envOfC "_law_of" (defScope st__law_of) s.heap.objs.size f cdv))) : PSs (cxOf (L2.CX P w) P w cs.K mg base N__law_of "_law_of" (defScope st__law_of) f cdv A outer s H E) (defBody st__law_of) (t__law_of cs.K cs E) := by
  have tk : Takes (cxOf (L2.CX P w) P w cs.K mg base N__law_of "_law_of" (defScope st__law_of) f cdv A outer s H E) (WF E) := takes_of rfl rfl rfl rfl
  have po : PassesOwn (model P w) (A.deeper (envOfC "_law_of" (defScope st__law_of) s.heap.objs.size f cdv)) (envOfC "_law_of" (defScope st__law_of) s.heap.objs.size f cdv) (cxOf (L2.CX P w) P w cs.K mg base N__law_of "_law_of" (defScope st__law_of) f cdv A outer s H E).xe := passes_of rfl
  exact (pss_one (ps_ret (pe_ix ix_seq (pv 1) (pe_D g__law_draw (hr.mono (by decide)) b__law_draw_2 tk (pa_cons (pv 0) (pa_cons (pe_callB c_len (by rfl) n_len bt_len (pa_cons (pv 1) pa_nil)) pa_nil))) (fun _ _ => rfl))))
theorem sc__law_like : FnScope N__law_like ps__law_like (defScope st__law_like) := ⟨rfl, rfl, rfl, by decide +kernel, rfl, by decide +kernel, by decide +kernel⟩
theorem pss__law_like {f : Addr} {fd : FuncData} (n_bool : mg "bool" = none) (n_int : mg "int" = none) (n_isinstance : mg "isinstance" = none) (n_len : mg "len" = none) (n_list : mg "list" = none) (n_range : mg "range" = none) (n_str : mg "str" = none) (n_tuple : mg "tuple" = none) (b__law_like_2 : Bd cs.K fd ps__law_like []) {sp_self : SpD} {kself : Nat} (hself : kself ≤ k0) (g__law_like : GF P w cs.K mg base "_law_like" ps__law_like kself sp_self f fd) {cdv : Value} {A : Around} {outer : List Env} {s : Shared} {H : Hp} {E : XK} (hr : Room k0 (A.deeper (envOfC "_law_like" (defScope st__law_like) s.heap.objs.size f cdv))) : PSs (cxOf (L2.CX P w) P w cs.K mg base N__law_like "_law_like" (defScope st__law_like) f cdv A outer s H E) (defBody st__law_like) (t__law_like cs.K cs sp_self E) := by
  have tk : Takes (cxOf (L2.CX P w) P w cs.K mg base N__law_like "_law_like" (defScope st__law_like) f cdv A outer s H E) (WF E) := takes_of rfl rfl rfl rfl
  have po : PassesOwn (model P w) (A.deeper (envOfC "_law_like" (defScope st__law_like) s.heap.objs.size f cdv)) (envOfC "_law_like" (defScope st__law_like) s.heap.objs.size f cdv) (cxOf (L2.CX P w) P w cs.K mg base N__law_like "_law_like" (defScope st__law_like) f cdv A outer s H E).xe := passes_of rfl
  exact (pss_cons (ps_if (pt_cmpR o_is (pv 1) pe_non (nomark _)) (pss_one (ps_ret (pe_cmpR o_is (pv 0) pe_non (nomark _)))) pss_nil)
    (pss_cons (ps_if (pt_val (pe_callB call_isi (by rfl) n_isinstance bt_isinstance (pa_cons (pv 1) (pa_cons (pe_bltn (by rfl) n_bool bt_bool rfl) pa_nil)))) (pss_one (ps_ret (pe_and (pe_callB call_isi (by rfl) n_isinstance bt_isinstance (pa_cons (pv 0) (pa_cons (pe_bltn (by rfl) n_bool bt_bool rfl) pa_nil))) (pe_one (pe_cmpR (o_eq hr.units) (pv 0) (pv 1) (nomark _)))))) pss_nil)
    (pss_cons (ps_if (pt_val (pe_callB call_isi (by rfl) n_isinstance bt_isinstance (pa_cons (pv 1) (pa_cons (pe_bltn (by rfl) n_int bt_int rfl) pa_nil)))) (pss_one (ps_ret (pe_and (pe_callB call_isi (by rfl) n_isinstance bt_isinstance (pa_cons (pv 0) (pa_cons (pe_bltn (by rfl) n_int bt_int rfl) pa_nil))) (pe_and (pe_not (pe_callB call_isi (by rfl) n_isinstance bt_isinstance (pa_cons (pv 0) (pa_cons (pe_bltn (by rfl) n_bool bt_bool rfl) pa_nil)))) (pe_one (pe_cmpR (o_eq hr.units) (pv 0) (pv 1) (nomark _))))))) pss_nil)
    (pss_cons (ps_if (pt_val (pe_callB call_isi (by rfl) n_isinstance bt_isinstance (pa_cons (pv 1) (pa_cons (pe_bltn (by rfl) n_str bt_str rfl) pa_nil)))) (pss_one (ps_ret (pe_and (pe_callB call_isi (by rfl) n_isinstance bt_isinstance (pa_cons (pv 0) (pa_cons (pe_bltn (by rfl) n_str bt_str rfl) pa_nil))) (pe_one (pe_cmpR (o_eq hr.units) (pv 0) (pv 1) (nomark _)))))) pss_nil)
    (pss_cons (ps_if (PW.pt (pw_or (PW.pt (pw_and (pt_val (pe_callB call_isi (by rfl) n_isinstance bt_isinstance (pa_cons (pv 1) (pa_cons (pe_bltn (by rfl) n_tuple bt_tuple rfl) pa_nil)))) (pw_and1 (pt_not (pt_val (pe_callB call_isi (by rfl) n_isinstance bt_isinstance (pa_cons (pv 0) (pa_cons (pe_bltn (by rfl) n_tuple bt_tuple rfl) pa_nil)))))))) (pw_or1 (PW.pt (pw_and (pt_val (pe_callB call_isi (by rfl) n_isinstance bt_isinstance (pa_cons (pv 1) (pa_cons (pe_bltn (by rfl) n_list bt_list rfl) pa_nil)))) (pw_and1 (pt_not (pt_val (pe_callB call_isi (by rfl) n_isinstance bt_isinstance (pa_cons (pv 0) (pa_cons (pe_bltn (by rfl) n_list bt_list rfl) pa_nil))))))))))) (pss_one (ps_ret pe_bl)) pss_nil)
    (pss_cons (ps_if (pt_cmpR (o_ne hr.units) (pe_callB c_len (by rfl) n_len bt_len (pa_cons (pv 0) pa_nil)) (pe_callB c_len (by rfl) n_len bt_len (pa_cons (pv 1) pa_nil)) (nomark _)) (pss_one (ps_ret pe_bl)) pss_nil)
    (pss_cons (ps_for po rfl (pi_range1 (by rfl) n_range (pa_cons (pe_callB c_len (by rfl) n_len bt_len (pa_cons (pv 1) pa_nil)) pa_nil)) (pg_name (i := 2) sc__law_like.nd rfl (Or.inl rfl)) (pss_one (ps_if (pt_not (pt_val (pe_D g__law_like (hr.mono hself) b__law_like_2 tk (pa_cons (pe_ix ix_seq (pv 0) (pv 2) (fun _ _ => rfl)) (pa_cons (pe_ix ix_seq (pv 1) (pv 2) (fun _ _ => rfl)) pa_nil))))) (pss_one (ps_ret pe_bl)) pss_nil)))
    (pss_one (ps_ret pe_bl)))))))))
theorem sc__law_house : FnScope N__law_house ps__law_house (defScope st__law_house) := ⟨rfl, rfl, rfl, by decide +kernel, rfl, by decide +kernel, by decide +kernel⟩
theorem pss__law_house {f : Addr} {fd : FuncData} {f__law_draw : Addr} {fd__law_draw : FuncData} (g__law_draw : GF P w cs.K mg base "_law_draw" ps__law_draw 4 (sp__law_draw cs) f__law_draw fd__law_draw) (n_range : mg "range" = none) (n_tuple : mg "tuple" = none) (b__law_draw_2 : Bd cs.K fd__law_draw ps__law_draw []) {cdv : Value} {A : Around} {outer : List Env} {s : Shared} {H : Hp} {E : XK} (hr : Room 4 (A.deeper (envOfC "_law_house" (defScope st__law_house) s.heap.objs.size f cdv))) : PSs (cxOf (L2.CX P w) P w cs.K mg base N__law_house "_law_house" (defScope st__law_house) f cdv A outer s H E) (defBody st__law_house) (t__law_house cs.K cs E) := by
  have tk : Takes (cxOf (L2.CX P w) P w cs.K mg base N__law_house "_law_house" (defScope st__law_house) f cdv A outer s H E) (WF E) := takes_of rfl rfl rfl rfl
  have po : PassesOwn (model P w) (A.deeper (envOfC "_law_house" (defScope st__law_house) s.heap.objs.size f cdv)) (envOfC "_law_house" (defScope st__law_house) s.heap.objs.size f cdv) (cxOf (L2.CX P w) P w cs.K mg base N__law_house "_law_house" (defScope st__law_house) f cdv A outer s H E).xe := passes_of rfl
  exact (pss_cons (ps_asg (pe_tup (pa_cons (pe_lst pa_nil) (pa_cons (pe_D g__law_draw (hr.mono (by decide)) b__law_draw_2 tk (pa_cons (pv 0) (pa_cons pe_int pa_nil))) pa_nil))) (pg_tup rfl (pgs_cons (pg_name (i := 3) sc__law_house.nd rfl (Or.inl rfl)) (pgs_cons (pg_name (i := 4) sc__law_house.nd rfl (Or.inr rfl)) pgs_nil))))
    (pss_cons (ps_for po rfl (pi_range1 (by rfl) n_range (pa_cons (pv 1) pa_nil)) (pg_name (i := 5) sc__law_house.nd rfl (Or.inr rfl)) (pss_one (ps_set (i := 3) sc__law_house.nd rfl (Or.inl rfl) (pe_op o_add (pv 3) (pe_lc (own := [("high", 6)]) rfl sc__law_house.nd (pi_range2 (by rfl) n_range (pa_cons (pe_op o_add (pv 5) pe_int) (pa_cons (pv 1) pa_nil))) (blkOk_by (own := [("high", 6)]) (N := N__law_house) (sc := defScope st__law_house) (by decide +kernel)) (fun _ _ _ _ _ => (pg_name (i := 6) sc__law_house.nd rfl (Or.inl rfl))) (fun _ _ _ _ _ => (pts_one (pt_cmpR (o_lt hr.units0) (pe_D g__law_draw (hr.mono (by decide)) b__law_draw_2 L2.takes0 (pa_cons (pv 0) (pa_cons pe_int pa_nil))) (pv 4) (nomark _)))) (fun _ _ _ _ _ => (pe_tup (pa_cons (pv 5) (pa_cons (pv 6) pa_nil)))))))))
    (pss_one (ps_ret (pe_tup (pa_cons (pe_callTy c_tuple (by rfl) n_tuple bt_tuple (pa_cons (pe_lc (own := [("room", 7)]) rfl sc__law_house.nd (pi_range1 (by rfl) n_range (pa_cons (pv 1) pa_nil)) (blkOk_by (own := [("room", 7)]) (N := N__law_house) (sc := defScope st__law_house) (by decide +kernel)) (fun _ _ _ _ _ => (pg_name (i := 7) sc__law_house.nd rfl (Or.inl rfl))) (fun _ _ _ _ _ => pts_nil) (fun _ _ _ _ _ => (pe_D g__law_draw (hr.mono (by decide)) b__law_draw_2 L2.takes0 (pa_cons (pv 0) (pa_cons (pv 2) pa_nil))))) pa_nil)) (pa_cons (pe_callTy c_tuple (by rfl) n_tuple bt_tuple (pa_cons (pv 3) pa_nil)) pa_nil)))))))
theorem sc__law_kind : FnScope N__law_kind ps__law_kind (defScope st__law_kind) := ⟨rfl, rfl, rfl, by decide +kernel, rfl, by decide +kernel, by decide +kernel⟩
theorem pss__law_kind {f : Addr} {fd : FuncData} {f__law_draw : Addr} {fd__law_draw : FuncData} (g__law_draw : GF P w cs.K mg base "_law_draw" ps__law_draw 4 (sp__law_draw cs) f__law_draw fd__law_draw) (b__law_draw_2 : Bd cs.K fd__law_draw ps__law_draw []) {cdv : Value} {A : Around} {outer : List Env} {s : Shared} {H : Hp} {E : XK} (hr : Room 4 (A.deeper (envOfC "_law_kind" (defScope st__law_kind) s.heap.objs.size f cdv))) : PSs (cxOf (L2.CX P w) P w cs.K mg base N__law_kind "_law_kind" (defScope st__law_kind) f cdv A outer s H E) (defBody st__law_kind) (t__law_kind cs.K cs E) := by
  have tk : Takes (cxOf (L2.CX P w) P w cs.K mg base N__law_kind "_law_kind" (defScope st__law_kind) f cdv A outer s H E) (WF E) := takes_of rfl rfl rfl rfl
  have po : PassesOwn (model P w) (A.deeper (envOfC "_law_kind" (defScope st__law_kind) s.heap.objs.size f cdv)) (envOfC "_law_kind" (defScope st__law_kind) s.heap.objs.size f cdv) (cxOf (L2.CX P w) P w cs.K mg base N__law_kind "_law_kind" (defScope st__law_kind) f cdv A outer s H E).xe := passes_of rfl
  exact (pss_cons (ps_par (i := 3) (j := 4) rfl sc__law_kind.nd rfl rfl (by decide) rfl rfl (pa_cons (pe_op o_add pe_int (pe_D g__law_draw (hr.mono (by decide)) b__law_draw_2 tk (pa_cons (pv 0) (pa_cons (pe_op o_add (pv 1) pe_int) pa_nil)))) (pa_cons (pe_op o_add pe_int (pe_D g__law_draw (hr.mono (by decide)) b__law_draw_2 tk (pa_cons (pv 0) (pa_cons (pe_op o_add (pv 2) pe_int) pa_nil)))) pa_nil)) rfl)
    (pss_one (ps_ret (pe_tup (pa_cons (pe_ifExp (pt_cmpR o_gt (pv 3) (pv 1) (nomark _)) pe_str (pv 3)) (pa_cons (pe_ifExp (pt_cmpR o_gt (pv 4) (pv 2) (nomark _)) pe_str (pv 4)) pa_nil))))))
theorem sc__law_rank : FnScope N__law_rank ps__law_rank (defScope st__law_rank) := ⟨rfl, rfl, rfl, by decide +kernel, rfl, by decide +kernel, by decide +kernel⟩
theorem pss__law_rank {f : Addr} {fd : FuncData} (n_isinstance : mg "isinstance" = none) (n_str : mg "str" = none) {cdv : Value} {A : Around} {outer : List Env} {s : Shared} {H : Hp} {E : XK} (hr : Room 2 (A.deeper (envOfC "_law_rank" (defScope st__law_rank) s.heap.objs.size f cdv))) : PSs (cxOf (L2.CX P w) P w cs.K mg base N__law_rank "_law_rank" (defScope st__law_rank) f cdv A outer s H E) (defBody st__law_rank) (t__law_rank cs.K cs E) := by
  have tk : Takes (cxOf (L2.CX P w) P w cs.K mg base N__law_rank "_law_rank" (defScope st__law_rank) f cdv A outer s H E) (WF E) := takes_of rfl rfl rfl rfl
  have po : PassesOwn (model P w) (A.deeper (envOfC "_law_rank" (defScope st__law_rank) s.heap.objs.size f cdv)) (envOfC "_law_rank" (defScope st__law_rank) s.heap.objs.size f cdv) (cxOf (L2.CX P w) P w cs.K mg base N__law_rank "_law_rank" (defScope st__law_rank) f cdv A outer s H E).xe := passes_of rfl
  exact (pss_one (ps_ret (pe_ifExp (pt_val (pe_callB call_isi (by rfl) n_isinstance bt_isinstance (pa_cons (pv 0) (pa_cons (pe_bltn (by rfl) n_str bt_str rfl) pa_nil)))) pe_int (pv 0))))
theorem sc__law_is_bound : FnScope N__law_is_bound ps__law_is_bound (defScope st__law_is_bound) := ⟨rfl, rfl, rfl, by decide +kernel, rfl, by decide +kernel, by decide +kernel⟩
theorem pss__law_is_bound {f : Addr} {fd : FuncData} (n_bool : mg "bool" = none) (n_int : mg "int" = none) (n_isinstance : mg "isinstance" = none) (n_str : mg "str" = none) {cdv : Value} {A : Around} {outer : List Env} {s : Shared} {H : Hp} {E : XK} (hr : Room 2 (A.deeper (envOfC "_law_is_bound" (defScope st__law_is_bound) s.heap.objs.size f cdv))) : PSs (cxOf (L2.CX P w) P w cs.K mg base N__law_is_bound "_law_is_bound" (defScope st__law_is_bound) f cdv A outer s H E) (defBody st__law_is_bound) (t__law_is_bound cs.K cs E) := by
  have tk : Takes (cxOf (L2.CX P w) P w cs.K mg base N__law_is_bound "_law_is_bound" (defScope st__law_is_bound) f cdv A outer s H E) (WF E) := takes_of rfl rfl rfl rfl
  have po : PassesOwn (model P w) (A.deeper (envOfC "_law_is_bound" (defScope st__law_is_bound) s.heap.objs.size f cdv)) (envOfC "_law_is_bound" (defScope st__law_is_bound) s.heap.objs.size f cdv) (cxOf (L2.CX P w) P w cs.K mg base N__law_is_bound "_law_is_bound" (defScope st__law_is_bound) f cdv A outer s H E).xe := passes_of rfl
  exact (pss_cons (ps_if (pt_val (pe_callB call_isi (by rfl) n_isinstance bt_isinstance (pa_cons (pv 0) (pa_cons (pe_bltn (by rfl) n_str bt_str rfl) pa_nil)))) (pss_one (ps_ret (pe_cmpR (o_eq hr.units) (pv 0) pe_str (nomark _)))) pss_nil)
    (pss_one (ps_ret (pe_and (pe_callB call_isi (by rfl) n_isinstance bt_isinstance (pa_cons (pv 0) (pa_cons (pe_bltn (by rfl) n_int bt_int rfl) pa_nil))) (pe_and (pe_not (pe_callB call_isi (by rfl) n_isinstance bt_isinstance (pa_cons (pv 0) (pa_cons (pe_bltn (by rfl) n_bool bt_bool rfl) pa_nil)))) (pe_one (pe_chain (o_le hr.units0) (o_le hr.units0) pe_int (pv 0) pe_int)))))))
theorem sc__law_is_kind : FnScope N__law_is_kind ps__law_is_kind (defScope st__law_is_kind) := ⟨rfl, rfl, rfl, by decide +kernel, rfl, by decide +kernel, by decide +kernel⟩
theorem pss__law_is_kind {f : Addr} {fd : FuncData} {f__law_is_bound : Addr} {fd__law_is_bound : FuncData} (g__law_is_bound : GF P w cs.K mg base "_law_is_bound" ps__law_is_bound 3 (sp__law_is_bound cs) f__law_is_bound fd__law_is_bound) (n_isinstance : mg "isinstance" = none) (n_len : mg "len" = none) (n_tuple : mg "tuple" = none) (b__law_is_bound_1 : Bd cs.K fd__law_is_bound ps__law_is_bound []) {cdv : Value} {A : Around} {outer : List Env} {s : Shared} {H : Hp} {E : XK} (hr : Room 3 (A.deeper (envOfC "_law_is_kind" (defScope st__law_is_kind) s.heap.objs.size f cdv))) : PSs (cxOf (L2.CX P w) P w cs.K mg base N__law_is_kind "_law_is_kind" (defScope st__law_is_kind) f cdv A outer s H E) (defBody st__law_is_kind) (t__law_is_kind cs.K cs E) := by
  have tk : Takes (cxOf (L2.CX P w) P w cs.K mg base N__law_is_kind "_law_is_kind" (defScope st__law_is_kind) f cdv A outer s H E) (WF E) := takes_of rfl rfl rfl rfl
  have po : PassesOwn (model P w) (A.deeper (envOfC "_law_is_kind" (defScope st__law_is_kind) s.heap.objs.size f cdv)) (envOfC "_law_is_kind" (defScope st__law_is_kind) s.heap.objs.size f cdv) (cxOf (L2.CX P w) P w cs.K mg base N__law_is_kind "_law_is_kind" (defScope st__law_is_kind) f cdv A outer s H E).xe := passes_of rfl
  exact (pss_one (ps_ret (pe_and (pe_callB call_isi (by rfl) n_isinstance bt_isinstance (pa_cons (pv 0) (pa_cons (pe_bltn (by rfl) n_tuple bt_tuple rfl) pa_nil))) (pe_and (pe_cmpR (o_eq hr.units) (pe_callB c_len (by rfl) n_len bt_len (pa_cons (pv 0) pa_nil)) pe_int (nomark _)) (pe_and (pe_D g__law_is_bound (hr.mono (by decide)) b__law_is_bound_1 tk (pa_cons (pe_ix ix_seq (pv 0) pe_int (fun _ _ => rfl)) pa_nil)) (pe_one (pe_D g__law_is_bound (hr.mono (by decide)) b__law_is_bound_1 tk (pa_cons (pe_ix ix_seq (pv 0) pe_int (fun _ _ => rfl)) pa_nil))))))))
theorem sc__law_is_position : FnScope N__law_is_position ps__law_is_position (defScope st__law_is_position) := ⟨rfl, rfl, rfl, by decide +kernel, rfl, by decide +kernel, by decide +kernel⟩
theorem pss__law_is_position {f : Addr} {fd : FuncData} (n_bool : mg "bool" = none) (n_int : mg "int" = none) (n_isinstance : mg "isinstance" = none) (n_len : mg "len" = none) (n_tuple : mg "tuple" = none) {cdv : Value} {A : Around} {outer : List Env} {s : Shared} {H : Hp} {E : XK} (hr : Room 2 (A.deeper (envOfC "_law_is_position" (defScope st__law_is_position) s.heap.objs.size f cdv))) : PSs (cxOf (L2.CX P w) P w cs.K mg base N__law_is_position "_law_is_position" (defScope st__law_is_position) f cdv A outer s H E) (defBody st__law_is_position) (t__law_is_position cs.K cs E) := by
  have tk : Takes (cxOf (L2.CX P w) P w cs.K mg base N__law_is_position "_law_is_position" (defScope st__law_is_position) f cdv A outer s H E) (WF E) := takes_of rfl rfl rfl rfl
  have po : PassesOwn (model P w) (A.deeper (envOfC "_law_is_position" (defScope st__law_is_position) s.heap.objs.size f cdv)) (envOfC "_law_is_position" (defScope st__law_is_position) s.heap.objs.size f cdv) (cxOf (L2.CX P w) P w cs.K mg base N__law_is_position "_law_is_position" (defScope st__law_is_position) f cdv A outer s H E).xe := passes_of rfl
  exact (pss_cons (ps_if (PW.pt (pw_or (pt_not (pt_val (pe_callB call_isi (by rfl) n_isinstance bt_isinstance (pa_cons (pv 1) (pa_cons (pe_bltn (by rfl) n_tuple bt_tuple rfl) pa_nil))))) (pw_or1 (pt_cmpR o_gt (pe_callB c_len (by rfl) n_len bt_len (pa_cons (pv 1) pa_nil)) pe_int (nomark _))))) (pss_one (ps_ret pe_bl)) pss_nil)
    (pss_cons (ps_for po rfl (pi_seq (pv 1)) (pg_name (i := 2) sc__law_is_position.nd rfl (Or.inl rfl)) (pss_one (ps_if (PW.pt (pw_and (pt_cmpR o_isnot (pv 2) pe_non (nomark _)) (pw_and1 (PW.pt (pw_or (pt_not (pt_val (pe_callB call_isi (by rfl) n_isinstance bt_isinstance (pa_cons (pv 2) (pa_cons (pe_bltn (by rfl) n_int bt_int rfl) pa_nil))))) (pw_or (pt_val (pe_callB call_isi (by rfl) n_isinstance bt_isinstance (pa_cons (pv 2) (pa_cons (pe_bltn (by rfl) n_bool bt_bool rfl) pa_nil)))) (pw_or1 (pt_not (pt_chain (o_le hr.units0) (o_lt hr.units0) pe_int (pv 2) (pv 0)))))))))) (pss_one (ps_ret pe_bl)) pss_nil)))
    (pss_one (ps_ret pe_bl))))
theorem sc__law_heard : FnScope N__law_heard ps__law_heard (defScope st__law_heard) := ⟨rfl, rfl, rfl, by decide +kernel, rfl, by decide +kernel, by decide +kernel⟩
theorem pss__law_heard {f : Addr} {fd : FuncData} (gC_BadHouse : mg "BadHouse" = some (.ref (cs.ad 3))) (gC_BadKind : mg "BadKind" = some (.ref (cs.ad 6))) (gC_BadPosition : mg "BadPosition" = some (.ref (cs.ad 7))) (xn_BadHouse_place : PySem.W.findIn cs.K (.ref (cs.ad 3)) "place" = some none) (xn_BadKind_value : PySem.W.findIn cs.K (.ref (cs.ad 6)) "value" = some none) (xn_BadPosition_value : PySem.W.findIn cs.K (.ref (cs.ad 7)) "value" = some none) (xc_BadHouse : XfC cs.K (cs.ad 3)) (xc_BadKind : XfC cs.K (cs.ad 6)) (xc_BadPosition : XfC cs.K (cs.ad 7)) (hcl : cs.cl = CL) {lq : Str} {lf lc : Addr} {tl : LamT} {cdv : Value} {A : Around} {outer : List Env} {s : Shared} {H : Hp} {E : XK} (act : ∀ (W : WX) (pn : List (Addr × Obj)) (xe : Value → Shared → Prop) (p1 p2 : Pos), Takes ((cxOf (L2.CX P w) P w cs.K mg base N__law_heard "_law_heard" (defScope st__law_heard) f cdv A outer s H E).tr pn xe) W → PE ((cxOf (L2.CX P w) P w cs.K mg base N__law_heard "_law_heard" (defScope st__law_heard) f cdv A outer s H E).tr pn xe) (.Call (.Name "call" p1) [] [] p2) (tAct W lf lc lq tl)) (hr : Room 2 (A.deeper (envOfC "_law_heard" (defScope st__law_heard) s.heap.objs.size f cdv))) : PSs (cxOf (L2.CX P w) P w cs.K mg base N__law_heard "_law_heard" (defScope st__law_heard) f cdv A outer s H E) (defBody st__law_heard) (t__law_heard cs.K cs E lq lf lc tl) := by
  have tk : Takes (cxOf (L2.CX P w) P w cs.K mg base N__law_heard "_law_heard" (defScope st__law_heard) f cdv A outer s H E) (WF E) := takes_of rfl rfl rfl rfl
  have po : PassesOwn (model P w) (A.deeper (envOfC "_law_heard" (defScope st__law_heard) s.heap.objs.size f cdv)) (envOfC "_law_heard" (defScope st__law_heard) s.heap.objs.size f cdv) (cxOf (L2.CX P w) P w cs.K mg base N__law_heard "_law_heard" (defScope st__law_heard) f cdv A outer s H E).xe := passes_of rfl
  exact (pss_cons (ps_set (i := 1) sc__law_heard.nd rfl (Or.inl rfl) (pe_lst (pa_cons pe_str (pa_cons pe_non pa_nil))))
    (pss_cons (ps_try_mul (tb := fun W' => (tAsg (tLst (tCons (tC (.str "told")) (tCons (tAct W' lf lc lq tl) tNil))) (gName 1))) rfl rfl sc__law_heard.nd tk (fun W' pn xe tk2 po2 => (pss_one (ps_set (i := 1) sc__law_heard.nd rfl (Or.inl rfl) (pe_lst (pa_cons pe_str (pa_cons (act W' pn xe _ _ tk2) pa_nil)))))) (.named (i := 2) rfl rfl ⟨rfl, by decide, Or.inl gC_BadKind⟩ (fun a oe cls d pn hz hf => (pss_one (ps_set (i := 1) sc__law_heard.nd rfl (Or.inl rfl) (pe_lst (pa_cons pe_str (pa_cons (pe_xf xc_BadKind xn_BadKind_value hz hf (pv 2)) pa_nil)))))) (.named (i := 2) rfl rfl ⟨rfl, by decide, Or.inl gC_BadPosition⟩ (fun a oe cls d pn hz hf => (pss_one (ps_set (i := 1) sc__law_heard.nd rfl (Or.inl rfl) (pe_lst (pa_cons pe_str (pa_cons (pe_xf xc_BadPosition xn_BadPosition_value hz hf (pv 2)) pa_nil)))))) (.named (i := 2) rfl rfl ⟨rfl, by decide, Or.inl gC_BadHouse⟩ (fun a oe cls d pn hz hf => (pss_one (ps_set (i := 1) sc__law_heard.nd rfl (Or.inl rfl) (pe_lst (pa_cons pe_str (pa_cons (pe_xf xc_BadHouse xn_BadHouse_place hz hf (pv 2)) pa_nil)))))) .nil))))
    (pss_one (ps_ret (pv 1)))))
theorem sc__law_kinds_right : FnScope N__law_kinds_right ps__law_kinds_right (defScope st__law_kinds_right) := ⟨rfl, rfl, rfl, by decide +kernel, rfl, by decide +kernel, by decide +kernel⟩
theorem pss__law_kinds_right {f : Addr} {fd : FuncData} {f__law_is_kind : Addr} {fd__law_is_kind : FuncData} (g__law_is_kind : GF P w cs.K mg base "_law_is_kind" ps__law_is_kind 4 (sp__law_is_kind cs) f__law_is_kind fd__law_is_kind) {f__law_kind : Addr} {fd__law_kind : FuncData} (g__law_kind : GF P w cs.K mg base "_law_kind" ps__law_kind 5 (sp__law_kind cs) f__law_kind fd__law_kind) {f__law_like : Addr} {fd__law_like : FuncData} (g__law_like : GF P w cs.K mg base "_law_like" ps__law_like 9 (sp__law_like cs 6) f__law_like fd__law_like) {f__law_of : Addr} {fd__law_of : FuncData} (g__law_of : GF P w cs.K mg base "_law_of" ps__law_of 5 (sp__law_of cs) f__law_of fd__law_of) {f__law_rank : Addr} {fd__law_rank : FuncData} (g__law_rank : GF P w cs.K mg base "_law_rank" ps__law_rank 3 (sp__law_rank cs) f__law_rank fd__law_rank) {f_is_finer : Addr} {fd_is_finer : FuncData} (g_is_finer : GF P w cs.K mg base "is_finer" ps_is_finer 6 (sp_is_finer cs) f_is_finer fd_is_finer) {f_need_kind : Addr} {fd_need_kind : FuncData} (g_need_kind : GF P w cs.K mg base "need_kind" ps_need_kind 5 (sp_need_kind cs) f_need_kind fd_need_kind) (n_list : mg "list" = none) (b__law_is_kind_1 : Bd cs.K fd__law_is_kind ps__law_is_kind []) (b__law_kind_3 : Bd cs.K fd__law_kind ps__law_kind []) (b__law_like_2 : Bd cs.K fd__law_like ps__law_like []) (b__law_of_2 : Bd cs.K fd__law_of ps__law_of []) (b__law_rank_1 : Bd cs.K fd__law_rank ps__law_rank []) (b_is_finer_2 : Bd cs.K fd_is_finer ps_is_finer []) (b_need_kind_1 : Bd cs.K fd_need_kind ps_need_kind []) (b_is_finer_0_other_kind : BdG cs.K fd_is_finer ps_is_finer ["other", "kind"] 2 [1, 0]) (b_need_kind_0_kind : BdG cs.K fd_need_kind ps_need_kind ["kind"] 1 [0]) (gC_BadHouse : mg "BadHouse" = some (.ref (cs.ad 3))) (gC_BadKind : mg "BadKind" = some (.ref (cs.ad 6))) (gC_BadPosition : mg "BadPosition" = some (.ref (cs.ad 7))) {f__law_heard : Addr} {cd__law_heard : Value} (K__law_heard : TkF cs.K mg "_law_heard" "call" (defArgs st__law_heard) (defBody st__law_heard) (defScope st__law_heard) f__law_heard cd__law_heard) (xn_BadHouse_place : PySem.W.findIn cs.K (.ref (cs.ad 3)) "place" = some none) (xn_BadKind_value : PySem.W.findIn cs.K (.ref (cs.ad 6)) "value" = some none) (xn_BadPosition_value : PySem.W.findIn cs.K (.ref (cs.ad 7)) "value" = some none) (xc_BadHouse : XfC cs.K (cs.ad 3)) (xc_BadKind : XfC cs.K (cs.ad 6)) (xc_BadPosition : XfC cs.K (cs.ad 7)) {cm__law_kinds_right P__law_kinds_right : Addr} (TB__law_kinds_right : TabB base mg cm__law_kinds_right P__law_kinds_right) (mem__law_kinds_right : (P__law_kinds_right, (envOfC "_law_kinds_right" (defScope st__law_kinds_right) 0 0 .none).qual ++ Str.ofString "<lambda>") ∈ cs.T) (only__law_kinds_right : ∀ p ∈ cs.T, p.1 = P__law_kinds_right → p.2 = (envOfC "_law_kinds_right" (defScope st__law_kinds_right) 0 0 .none).qual ++ Str.ofString "<lambda>") (hcl : cs.cl = CL) {cdv : Value} {A : Around} {outer : List Env} {s : Shared} {H : Hp} {E : XK} (hr : Room 11 (A.deeper (envOfC "_law_kinds_right" (defScope st__law_kinds_right) s.heap.objs.size f (.ref cm__law_kinds_right)))) : PSs (cxOf (L2.CX P w) P w cs.K mg base N__law_kinds_right "_law_kinds_right" (defScope st__law_kinds_right) f (.ref cm__law_kinds_right) A outer s H E) (defBody st__law_kinds_right) (t__law_kinds_right cs.K cs E) := by
  have tk : Takes (cxOf (L2.CX P w) P w cs.K mg base N__law_kinds_right "_law_kinds_right" (defScope st__law_kinds_right) f (.ref cm__law_kinds_right) A outer s H E) (WF E) := takes_of rfl rfl rfl rfl
  have po : PassesOwn (model P w) (A.deeper (envOfC "_law_kinds_right" (defScope st__law_kinds_right) s.heap.objs.size f (.ref cm__law_kinds_right))) (envOfC "_law_kinds_right" (defScope st__law_kinds_right) s.heap.objs.size f (.ref cm__law_kinds_right)) (cxOf (L2.CX P w) P w cs.K mg base N__law_kinds_right "_law_kinds_right" (defScope st__law_kinds_right) f (.ref cm__law_kinds_right) A outer s H E).xe := passes_of rfl
  exact (pss_cons (ps_asg (pe_tup (pa_cons (pe_D g__law_kind (hr.mono (by decide)) b__law_kind_3 tk (pa_cons (pv 0) (pa_cons pe_int (pa_cons pe_int pa_nil)))) (pa_cons (pe_D g__law_kind (hr.mono (by decide)) b__law_kind_3 tk (pa_cons (pv 0) (pa_cons pe_int (pa_cons pe_int pa_nil)))) pa_nil))) (pg_tup rfl (pgs_cons (pg_name (i := 1) sc__law_kinds_right.nd rfl (Or.inr rfl)) (pgs_cons (pg_name (i := 2) sc__law_kinds_right.nd rfl (Or.inl rfl)) pgs_nil))))
    (pss_cons (ps_set (i := 3) sc__law_kinds_right.nd rfl (Or.inl rfl) (pe_and (pe_cmpR o_ge (pe_D g__law_rank (hr.mono (by decide)) b__law_rank_1 tk (pa_cons (pe_ix ix_seq (pv 1) pe_int (fun _ _ => rfl)) pa_nil)) (pe_D g__law_rank (hr.mono (by decide)) b__law_rank_1 tk (pa_cons (pe_ix ix_seq (pv 2) pe_int (fun _ _ => rfl)) pa_nil)) (nomark _)) (pe_one (pe_cmpR o_ge (pe_D g__law_rank (hr.mono (by decide)) b__law_rank_1 tk (pa_cons (pe_ix ix_seq (pv 1) pe_int (fun _ _ => rfl)) pa_nil)) (pe_D g__law_rank (hr.mono (by decide)) b__law_rank_1 tk (pa_cons (pe_ix ix_seq (pv 2) pe_int (fun _ _ => rfl)) pa_nil)) (nomark _)))))
    (pss_cons (ps_if (pt_not (pt_val (pe_D g__law_like (hr.mono (by decide)) b__law_like_2 tk (pa_cons (pe_lst (pa_cons (pe_D g_is_finer (hr.mono (by decide)) b_is_finer_2 tk (pa_cons (pv 1) (pa_cons (pv 2) pa_nil))) (pa_cons (pe_Dg0 g_is_finer (hr.mono (by decide)) b_is_finer_0_other_kind tk (pk_cons (pv 1) (pk_cons (pv 1) pk_nil))) (pa_cons (pe_Dg0 g_need_kind (hr.mono (by decide)) b_need_kind_0_kind tk (pk_cons (pv 1) pk_nil)) pa_nil)))) (pa_cons (pe_lst (pa_cons (pv 3) (pa_cons pe_bl (pa_cons (pv 1) pa_nil)))) pa_nil))))) (pss_one (ps_ret pe_bl)) pss_nil)
    (pss_cons (ps_set (i := 4) sc__law_kinds_right.nd rfl (Or.inl rfl) (pe_D g__law_of (hr.mono (by decide)) b__law_of_2 tk (pa_cons (pv 0) (pa_cons (pe_lst (pa_cons pe_int (pa_cons pe_int (pa_cons (pe_un un_neg pe_int) (pa_cons pe_bl (pa_cons pe_non (pa_cons pe_str (pa_cons pe_str (pa_cons pe_str (pa_cons (pe_tup (pa_cons pe_int pa_nil)) (pa_cons (pe_lst pa_nil) (pa_cons pe_dnewK (pa_cons (pe_op o_pow pe_int pe_int) (pa_cons (pe_tup (pa_cons pe_str pa_nil)) pa_nil)))))))))))))) pa_nil))))
    (pss_cons (ps_for po rfl (pi_seq (pe_lst (pa_cons (pe_tup (pa_cons (pe_ix ix_seq (pv 1) pe_int (fun _ _ => rfl)) (pa_cons (pv 4) pa_nil))) (pa_cons (pe_tup (pa_cons (pv 4) (pa_cons (pe_ix ix_seq (pv 1) pe_int (fun _ _ => rfl)) pa_nil))) (pa_cons (pe_callTy c_list (by rfl) n_list bt_list (pa_cons (pv 1) pa_nil)) (pa_cons (pe_op o_add (pv 1) (pe_tup (pa_cons pe_int pa_nil))) (pa_cons (pe_slice sl_any (pv 1) po_none (po_some pe_int)) (pa_cons (pv 4) (pa_cons pe_non (pa_cons (pe_tup (pa_cons (pv 4) (pa_cons (pv 4) pa_nil))) pa_nil)))))))))) (pg_name (i := 5) sc__law_kinds_right.nd rfl (Or.inr rfl)) (pss_cons (ps_set (i := 6) sc__law_kinds_right.nd rfl (Or.inl rfl) (pe_ifExp (pt_val (pe_D g__law_is_kind (hr.mono (by decide)) b__law_is_kind_1 tk (pa_cons (pv 5) pa_nil))) (pe_lst (pa_cons pe_str (pa_cons (pv 5) pa_nil))) (pe_lst (pa_cons pe_str (pa_cons (pv 5) pa_nil)))))
    (pss_cons (ps_if (pt_not (pt_val (pe_D g__law_like (hr.mono (by decide)) b__law_like_2 tk (pa_cons (pe_slice sl_any (pe_lamD (k := 9) tk K__law_heard sc__law_heard rfl (.inl rfl) (run__law_heard hcl) (fun f2 c2 tl2 s2 H2 E3 act hr2 => pss__law_heard (f := f__law_heard) (fd := fd) (cdv := cd__law_heard) (lq := _) (lf := f2) (lc := c2) (tl := tl2) (gC_BadHouse := gC_BadHouse) (gC_BadKind := gC_BadKind) (gC_BadPosition := gC_BadPosition) (xn_BadHouse_place := xn_BadHouse_place) (xn_BadKind_value := xn_BadKind_value) (xn_BadPosition_value := xn_BadPosition_value) (xc_BadHouse := xc_BadHouse) (xc_BadKind := xc_BadKind) (xc_BadPosition := xc_BadPosition) (hcl := hcl) act (hr2.mono (by decide))) TB__law_kinds_right rfl mem__law_kinds_right only__law_kinds_right (hr.mono (by decide)) (lamS_by (sc := defScope st__law_kinds_right) (by decide +kernel)) (fun _ _ _ _ _ => rfl) (fun A2 outer2 s2 H2 E2 f2 c2 hr3 => (pe_D g_need_kind (hr3.mono (by decide)) b_need_kind_1 (takes_of rfl rfl rfl rfl) (pa_cons (pv 5) pa_nil)))) po_none (po_some pe_int)) (pa_cons (pe_slice sl_any (pv 6) po_none (po_some pe_int)) pa_nil))))) (pss_one (ps_ret pe_bl)) pss_nil)
    (pss_one (ps_if (pt_cmpR (o_eq hr.units) (pe_ix ix_seq (pv 6) pe_int (fun _ _ => rfl)) pe_str (nomark _)) (pss_cons (ps_set (i := 7) sc__law_kinds_right.nd rfl (Or.inl rfl) (pe_lst (pa_cons (pe_ix ix_seq (pe_lamD (k := 9) tk K__law_heard sc__law_heard rfl (.inl rfl) (run__law_heard hcl) (fun f2 c2 tl2 s2 H2 E3 act hr2 => pss__law_heard (f := f__law_heard) (fd := fd) (cdv := cd__law_heard) (lq := _) (lf := f2) (lc := c2) (tl := tl2) (gC_BadHouse := gC_BadHouse) (gC_BadKind := gC_BadKind) (gC_BadPosition := gC_BadPosition) (xn_BadHouse_place := xn_BadHouse_place) (xn_BadKind_value := xn_BadKind_value) (xn_BadPosition_value := xn_BadPosition_value) (xc_BadHouse := xc_BadHouse) (xc_BadKind := xc_BadKind) (xc_BadPosition := xc_BadPosition) (hcl := hcl) act (hr2.mono (by decide))) TB__law_kinds_right rfl mem__law_kinds_right only__law_kinds_right (hr.mono (by decide)) (lamS_by (sc := defScope st__law_kinds_right) (by decide +kernel)) (fun _ _ _ _ _ => rfl) (fun A2 outer2 s2 H2 E2 f2 c2 hr3 => (pe_D g_is_finer (hr3.mono (by decide)) b_is_finer_2 (takes_of rfl rfl rfl rfl) (pa_cons (pv 5) (pa_cons pe_non pa_nil))))) pe_int (fun _ _ => rfl)) pa_nil)))
    (pss_cons (ps_expr (pe_bm PySem.F.plainAttrs_list PySem.F.slot_list_append PySem.F.type_list_append mt_append (pv 7) (pa_cons (pe_ix ix_seq (pe_lamD (k := 9) tk K__law_heard sc__law_heard rfl (.inl rfl) (run__law_heard hcl) (fun f2 c2 tl2 s2 H2 E3 act hr2 => pss__law_heard (f := f__law_heard) (fd := fd) (cdv := cd__law_heard) (lq := _) (lf := f2) (lc := c2) (tl := tl2) (gC_BadHouse := gC_BadHouse) (gC_BadKind := gC_BadKind) (gC_BadPosition := gC_BadPosition) (xn_BadHouse_place := xn_BadHouse_place) (xn_BadKind_value := xn_BadKind_value) (xn_BadPosition_value := xn_BadPosition_value) (xc_BadHouse := xc_BadHouse) (xc_BadKind := xc_BadKind) (xc_BadPosition := xc_BadPosition) (hcl := hcl) act (hr2.mono (by decide))) TB__law_kinds_right rfl mem__law_kinds_right only__law_kinds_right (hr.mono (by decide)) (lamS_by (sc := defScope st__law_kinds_right) (by decide +kernel)) (fun _ _ _ _ _ => rfl) (fun A2 outer2 s2 H2 E2 f2 c2 hr3 => (pe_D g_is_finer (hr3.mono (by decide)) b_is_finer_2 (takes_of rfl rfl rfl rfl) (pa_cons (pv 1) (pa_cons (pv 5) pa_nil))))) pe_int (fun _ _ => rfl)) pa_nil)))
    (pss_one (ps_if (pt_cmpR (o_ne hr.units) (pv 7) (pe_lst (pa_cons pe_str (pa_cons pe_str pa_nil))) (nomark _)) (pss_one (ps_ret pe_bl)) pss_nil)))) pss_nil)))))
    (pss_one (ps_ret pe_bl)))))))
theorem sc__law_positions_right : FnScope N__law_positions_right ps__law_positions_right (defScope st__law_positions_right) := ⟨rfl, rfl, rfl, by decide +kernel, rfl, by decide +kernel, by decide +kernel⟩
theorem pss__law_positions_right {f : Addr} {fd : FuncData} {f__law_draw : Addr} {fd__law_draw : FuncData} (g__law_draw : GF P w cs.K mg base "_law_draw" ps__law_draw 4 (sp__law_draw cs) f__law_draw fd__law_draw) {f__law_house : Addr} {fd__law_house : FuncData} (g__law_house : GF P w cs.K mg base "_law_house" ps__law_house 5 (sp__law_house cs) f__law_house fd__law_house) {f__law_is_position : Addr} {fd__law_is_position : FuncData} (g__law_is_position : GF P w cs.K mg base "_law_is_position" ps__law_is_position 3 (sp__law_is_position cs) f__law_is_position fd__law_is_position) {f__law_like : Addr} {fd__law_like : FuncData} (g__law_like : GF P w cs.K mg base "_law_like" ps__law_like 9 (sp__law_like cs 6) f__law_like fd__law_like) {f__law_of : Addr} {fd__law_of : FuncData} (g__law_of : GF P w cs.K mg base "_law_of" ps__law_of 5 (sp__law_of cs) f__law_of fd__law_of) {f_need_position : Addr} {fd_need_position : FuncData} (g_need_position : GF P w cs.K mg base "need_position" ps_need_position 7 (sp_need_position cs) f_need_position fd_need_position) (n_len : mg "len" = none) (n_list : mg "list" = none) (n_range : mg "range" = none) (n_tuple : mg "tuple" = none) (b__law_draw_2 : Bd cs.K fd__law_draw ps__law_draw []) (b__law_house_3 : Bd cs.K fd__law_house ps__law_house []) (b__law_is_position_2 : Bd cs.K fd__law_is_position ps__law_is_position []) (b__law_like_2 : Bd cs.K fd__law_like ps__law_like []) (b__law_of_2 : Bd cs.K fd__law_of ps__law_of []) (b_need_position_2 : Bd cs.K fd_need_position ps_need_position []) (b_need_position_0_position_house : BdG cs.K fd_need_position ps_need_position ["position", "house"] 2 [1, 0]) (gC_BadHouse : mg "BadHouse" = some (.ref (cs.ad 3))) (gC_BadKind : mg "BadKind" = some (.ref (cs.ad 6))) (gC_BadPosition : mg "BadPosition" = some (.ref (cs.ad 7))) {f__law_heard : Addr} {cd__law_heard : Value} (K__law_heard : TkF cs.K mg "_law_heard" "call" (defArgs st__law_heard) (defBody st__law_heard) (defScope st__law_heard) f__law_heard cd__law_heard) (xn_BadHouse_place : PySem.W.findIn cs.K (.ref (cs.ad 3)) "place" = some none) (xn_BadKind_value : PySem.W.findIn cs.K (.ref (cs.ad 6)) "value" = some none) (xn_BadPosition_value : PySem.W.findIn cs.K (.ref (cs.ad 7)) "value" = some none) (xc_BadHouse : XfC cs.K (cs.ad 3)) (xc_BadKind : XfC cs.K (cs.ad 6)) (xc_BadPosition : XfC cs.K (cs.ad 7)) {cm__law_positions_right P__law_positions_right : Addr} (TB__law_positions_right : TabB base mg cm__law_positions_right P__law_positions_right) (mem__law_positions_right : (P__law_positions_right, (envOfC "_law_positions_right" (defScope st__law_positions_right) 0 0 .none).qual ++ Str.ofString "<lambda>") ∈ cs.T) (only__law_positions_right : ∀ p ∈ cs.T, p.1 = P__law_positions_right → p.2 = (envOfC "_law_positions_right" (defScope st__law_positions_right) 0 0 .none).qual ++ Str.ofString "<lambda>") (hcl : cs.cl = CL) {cdv : Value} {A : Around} {outer : List Env} {s : Shared} {H : Hp} {E : XK} (hr : Room 11 (A.deeper (envOfC "_law_positions_right" (defScope st__law_positions_right) s.heap.objs.size f (.ref cm__law_positions_right)))) : PSs (cxOf (L2.CX P w) P w cs.K mg base N__law_positions_right "_law_positions_right" (defScope st__law_positions_right) f (.ref cm__law_positions_right) A outer s H E) (defBody st__law_positions_right) (t__law_positions_right cs.K cs E) := by
  have tk : Takes (cxOf (L2.CX P w) P w cs.K mg base N__law_positions_right "_law_positions_right" (defScope st__law_positions_right) f (.ref cm__law_positions_right) A outer s H E) (WF E) := takes_of rfl rfl rfl rfl
  have po : PassesOwn (model P w) (A.deeper (envOfC "_law_positions_right" (defScope st__law_positions_right) s.heap.objs.size f (.ref cm__law_positions_right))) (envOfC "_law_positions_right" (defScope st__law_positions_right) s.heap.objs.size f (.ref cm__law_positions_right)) (cxOf (L2.CX P w) P w cs.K mg base N__law_positions_right "_law_positions_right" (defScope st__law_positions_right) f (.ref cm__law_positions_right) A outer s H E).xe := passes_of rfl
  exact (pss_cons (ps_set (i := 1) sc__law_positions_right.nd rfl (Or.inr rfl) (pe_D g__law_house (hr.mono (by decide)) b__law_house_3 tk (pa_cons (pv 0) (pa_cons (pe_D g__law_draw (hr.mono (by decide)) b__law_draw_2 tk (pa_cons (pv 0) (pa_cons pe_int pa_nil))) (pa_cons pe_int pa_nil)))))
    (pss_cons (ps_set (i := 2) sc__law_positions_right.nd rfl (Or.inl rfl) (pe_callB c_len (by rfl) n_len bt_len (pa_cons (pe_ix ix_seq (pv 1) pe_int (fun _ _ => rfl)) pa_nil)))
    (pss_cons (ps_set (i := 3) sc__law_positions_right.nd rfl (Or.inr rfl) (pe_op o_add (pe_lst (pa_cons pe_non pa_nil)) (pe_listRg rfl (by rfl) n_list (prg_1 (by rfl) n_range (pv 2)))))
    (pss_cons (ps_set (i := 4) sc__law_positions_right.nd rfl (Or.inl rfl) (pe_callTy c_tuple (by rfl) n_tuple bt_tuple (pa_cons (pe_lc (own := [("n", 5)]) rfl sc__law_positions_right.nd (pi_range1 (by rfl) n_range (pa_cons (pe_D g__law_draw (hr.mono (by decide)) b__law_draw_2 tk (pa_cons (pv 0) (pa_cons pe_int pa_nil))) pa_nil)) (blkOk_by (own := [("n", 5)]) (N := N__law_positions_right) (sc := defScope st__law_positions_right) (by decide +kernel)) (fun _ _ _ _ _ => (pg_name (i := 5) sc__law_positions_right.nd rfl (Or.inl rfl))) (fun _ _ _ _ _ => pts_nil) (fun _ _ _ _ _ => (pe_D g__law_of (hr.mono (by decide)) b__law_of_2 L2.takes0 (pa_cons (pv 0) (pa_cons (pv 3) pa_nil))))) pa_nil)))
    (pss_cons (ps_if (pt_not (pt_val (pe_D g__law_like (hr.mono (by decide)) b__law_like_2 tk (pa_cons (pe_Dg0 g_need_position (hr.mono (by decide)) b_need_position_0_position_house tk (pk_cons (pv 4) (pk_cons (pv 1) pk_nil))) (pa_cons (pv 4) pa_nil))))) (pss_one (ps_ret pe_bl)) pss_nil)
    (pss_cons (ps_set (i := 6) sc__law_positions_right.nd rfl (Or.inl rfl) (pe_D g__law_of (hr.mono (by decide)) b__law_of_2 tk (pa_cons (pv 0) (pa_cons (pe_lst (pa_cons (pv 2) (pa_cons (pe_un un_neg pe_int) (pa_cons pe_bl (pa_cons pe_str (pa_cons (pe_tup pa_nil) (pa_cons (pe_lst pa_nil) (pa_cons pe_dnewK (pa_cons pe_int (pa_cons pe_non pa_nil)))))))))) pa_nil))))
    (pss_cons (ps_for po rfl (pi_seq (pe_lst (pa_cons (pe_op o_add (pv 4) (pe_tup (pa_cons (pv 6) pa_nil))) (pa_cons (pe_callTy c_list (by rfl) n_list bt_list (pa_cons (pv 4) pa_nil)) (pa_cons (pe_op o_mul (pe_tup (pa_cons (pv 6) pa_nil)) pe_int) (pa_cons (pe_op o_mul (pe_tup (pa_cons (pv 6) pa_nil)) pe_int) (pa_cons (pv 6) (pa_cons (pe_op o_mul (pe_tup (pa_cons pe_non pa_nil)) pe_int) (pa_cons (pe_op o_mul (pe_tup (pa_cons pe_non pa_nil)) pe_int) pa_nil))))))))) (pg_name (i := 7) sc__law_positions_right.nd rfl (Or.inr rfl)) (pss_cons (ps_set (i := 8) sc__law_positions_right.nd rfl (Or.inl rfl) (pe_ifExp (pt_val (pe_D g__law_is_position (hr.mono (by decide)) b__law_is_position_2 tk (pa_cons (pv 2) (pa_cons (pv 7) pa_nil)))) (pe_lst (pa_cons pe_str (pa_cons (pv 7) pa_nil))) (pe_lst (pa_cons pe_str (pa_cons (pv 7) pa_nil)))))
    (pss_one (ps_if (pt_cmpR (o_ne hr.units) (pe_ix ix_seq (pe_lamD (k := 9) tk K__law_heard sc__law_heard rfl (.inl rfl) (run__law_heard hcl) (fun f2 c2 tl2 s2 H2 E3 act hr2 => pss__law_heard (f := f__law_heard) (fd := fd) (cdv := cd__law_heard) (lq := _) (lf := f2) (lc := c2) (tl := tl2) (gC_BadHouse := gC_BadHouse) (gC_BadKind := gC_BadKind) (gC_BadPosition := gC_BadPosition) (xn_BadHouse_place := xn_BadHouse_place) (xn_BadKind_value := xn_BadKind_value) (xn_BadPosition_value := xn_BadPosition_value) (xc_BadHouse := xc_BadHouse) (xc_BadKind := xc_BadKind) (xc_BadPosition := xc_BadPosition) (hcl := hcl) act (hr2.mono (by decide))) TB__law_positions_right rfl mem__law_positions_right only__law_positions_right (hr.mono (by decide)) (lamS_by (sc := defScope st__law_positions_right) (by decide +kernel)) (fun _ _ _ _ _ => rfl) (fun A2 outer2 s2 H2 E2 f2 c2 hr3 => (pe_D g_need_position (hr3.mono (by decide)) b_need_position_2 (takes_of rfl rfl rfl rfl) (pa_cons (pv 1) (pa_cons (pv 7) pa_nil))))) pe_int (fun _ _ => rfl)) (pe_ix ix_seq (pv 8) pe_int (fun _ _ => rfl)) (nomark _)) (pss_one (ps_ret pe_bl)) pss_nil))))
    (pss_one (ps_ret (pe_D g__law_like (hr.mono (by decide)) b__law_like_2 tk (pa_cons (pe_lamD (k := 9) tk K__law_heard sc__law_heard rfl (.inl rfl) (run__law_heard hcl) (fun f2 c2 tl2 s2 H2 E3 act hr2 => pss__law_heard (f := f__law_heard) (fd := fd) (cdv := cd__law_heard) (lq := _) (lf := f2) (lc := c2) (tl := tl2) (gC_BadHouse := gC_BadHouse) (gC_BadKind := gC_BadKind) (gC_BadPosition := gC_BadPosition) (xn_BadHouse_place := xn_BadHouse_place) (xn_BadKind_value := xn_BadKind_value) (xn_BadPosition_value := xn_BadPosition_value) (xc_BadHouse := xc_BadHouse) (xc_BadKind := xc_BadKind) (xc_BadPosition := xc_BadPosition) (hcl := hcl) act (hr2.mono (by decide))) TB__law_positions_right rfl mem__law_positions_right only__law_positions_right (hr.mono (by decide)) (lamS_by (sc := defScope st__law_positions_right) (by decide +kernel)) (fun _ _ _ _ _ => rfl) (fun A2 outer2 s2 H2 E2 f2 c2 hr3 => (pe_D g_need_position (hr3.mono (by decide)) b_need_position_2 (takes_of rfl rfl rfl rfl) (pa_cons pe_non (pa_cons pe_int pa_nil))))) (pa_cons (pe_lst (pa_cons pe_str (pa_cons pe_str pa_nil))) pa_nil))))))))))))
theorem sc_law : FnScope N_law ps_law (defScope st_law) := ⟨rfl, rfl, rfl, by decide +kernel, rfl, by decide +kernel, by decide +kernel⟩
theorem pss_law {f : Addr} {fd : FuncData} {f__law_begun : Addr} {fd__law_begun : FuncData} (g__law_begun : GF P w cs.K mg base "_law_begun" ps__law_begun 4 (sp__law_begun cs) f__law_begun fd__law_begun) {f__law_kinds_right : Addr} {fd__law_kinds_right : FuncData} (g__law_kinds_right : GF P w cs.K mg base "_law_kinds_right" ps__law_kinds_right 12 (sp__law_kinds_right cs) f__law_kinds_right fd__law_kinds_right) {f__law_like : Addr} {fd__law_like : FuncData} (g__law_like : GF P w cs.K mg base "_law_like" ps__law_like 9 (sp__law_like cs 6) f__law_like fd__law_like) {f__law_positions_right : Addr} {fd__law_positions_right : FuncData} (g__law_positions_right : GF P w cs.K mg base "_law_positions_right" ps__law_positions_right 12 (sp__law_positions_right cs) f__law_positions_right fd__law_positions_right) {f_all_kinds : Addr} {fd_all_kinds : FuncData} (g_all_kinds : GF P w cs.K mg base "all_kinds" ps_all_kinds 3 (sp_all_kinds cs) f_all_kinds fd_all_kinds) (n_list : mg "list" = none) (n_range : mg "range" = none) (n_tuple : mg "tuple" = none) (b__law_begun_1 : Bd cs.K fd__law_begun ps__law_begun []) (b__law_kinds_right_1 : Bd cs.K fd__law_kinds_right ps__law_kinds_right []) (b__law_like_2 : Bd cs.K fd__law_like ps__law_like []) (b__law_positions_right_1 : Bd cs.K fd__law_positions_right ps__law_positions_right []) (b_all_kinds_0 : Bd cs.K fd_all_kinds ps_all_kinds []) {cdv : Value} {A : Around} {outer : List Env} {s : Shared} {H : Hp} {E : XK} (hr : Room 12 (A.deeper (envOfC "law" (defScope st_law) s.heap.objs.size f cdv))) : PSs (cxOf (L2.CX P w) P w cs.K mg base N_law "law" (defScope st_law) f cdv A outer s H E) (defBody st_law) (t_law cs.K cs E) := by
  have tk : Takes (cxOf (L2.CX P w) P w cs.K mg base N_law "law" (defScope st_law) f cdv A outer s H E) (WF E) := takes_of rfl rfl rfl rfl
  have po : PassesOwn (model P w) (A.deeper (envOfC "law" (defScope st_law) s.heap.objs.size f cdv)) (envOfC "law" (defScope st_law) s.heap.objs.size f cdv) (cxOf (L2.CX P w) P w cs.K mg base N_law "law" (defScope st_law) f cdv A outer s H E).xe := passes_of rfl
  exact (pss_cons (ps_set (i := 1) sc_law.nd rfl (Or.inl rfl) (pe_D g__law_begun (hr.mono (by decide)) b__law_begun_1 tk (pa_cons (pv 0) pa_nil)))
    (pss_cons (ps_for po rfl (pi_range1 (by rfl) n_range (pa_cons pe_int pa_nil)) (pg_name (i := 2) sc_law.nd rfl (Or.inl rfl)) (pss_one (ps_if (PW.pt (pw_or (pt_not (pt_val (pe_D g__law_kinds_right (hr.mono (by decide)) b__law_kinds_right_1 tk (pa_cons (pv 1) pa_nil)))) (pw_or1 (pt_not (pt_val (pe_D g__law_positions_right (hr.mono (by decide)) b__law_positions_right_1 tk (pa_cons (pv 1) pa_nil))))))) (pss_one (ps_ret pe_bl)) pss_nil)))
    (pss_cons (ps_par (i := 3) (j := 4) rfl sc_law.nd rfl rfl (by decide) rfl rfl (pa_cons (pe_op o_add (pe_listRg rfl (by rfl) n_list (prg_2 (by rfl) n_range pe_int pe_int)) (pe_lst (pa_cons pe_str pa_nil))) (pa_cons (pe_lst pa_nil) pa_nil)) rfl)
    (pss_cons (ps_for po rfl (pi_seq (pv 3)) (pg_name (i := 5) sc_law.nd rfl (Or.inr rfl)) (pss_one (ps_set (i := 4) sc_law.nd rfl (Or.inl rfl) (pe_op o_add (pv 4) (pe_lc (own := [("many", 6)]) rfl sc_law.nd (pi_seq (pv 3)) (blkOk_by (own := [("many", 6)]) (N := N_law) (sc := defScope st_law) (by decide +kernel)) (fun _ _ _ _ _ => (pg_name (i := 6) sc_law.nd rfl (Or.inl rfl))) (fun _ _ _ _ _ => pts_nil) (fun _ _ _ _ _ => (pe_tup (pa_cons (pv 5) (pa_cons (pv 6) pa_nil)))))))))
    (pss_one (ps_ret (pe_D g__law_like (hr.mono (by decide)) b__law_like_2 tk (pa_cons (pe_D0 g_all_kinds (hr.mono (by decide)) b_all_kinds_0 tk) (pa_cons (pe_callTy c_tuple (by rfl) n_tuple bt_tuple (pa_cons (pv 4) pa_nil)) pa_nil)))))))))
end
end Dz
namespace Dz
open PySem PySem.Spec PyProof.Rows L2 LamX
local macro_rules | `(tactic| trivial) => `(tactic| first
  | with_reducible refine ws_seq ?_ | with_reducible refine ws_if ?_ | with_reducible refine ws_ret ?_ | with_reducible refine ws_asg ?_ | with_reducible refine ws_next ?_ | with_reducible refine ws_drop ?_ | with_reducible refine ws_retN ?_ | with_reducible refine ws_par ?_ | with_reducible refine ws_triple ?_ | with_reducible refine ws_dput ?_ | with_reducible refine ws_raise ?_ | with_reducible refine ws_break ?_ | with_reducible refine ws_cont ?_
  | with_reducible refine wb_and ?_ | with_reducible refine wb_or ?_ | with_reducible refine wb_not ?_ | with_reducible refine wb_test ?_ | with_reducible refine wb_B ?_ | with_reducible refine wb_yes ?_
  | with_reducible refine wa_nil ?_ | with_reducible refine wa_cons ?_
  | with_reducible refine wg_name ?_ | with_reducible refine wgs_nil ?_ | with_reducible refine wgs_cons ?_ | ((with_reducible refine wg_tup ?_ ?_); focus exact rfl)
  | with_reducible refine wt_int ?_ | with_reducible refine wt_str ?_ | with_reducible refine wt_bl ?_ | with_reducible refine wt_non ?_ | with_reducible refine wt_ty ?_ | ((with_reducible apply wt_var); focus exact rfl)
  | with_reducible refine wt_op ?_ | with_reducible refine wt_un ?_ | with_reducible refine wt_and ?_ | with_reducible refine wt_or ?_ | with_reducible refine wt_not ?_ | with_reducible refine wt_if ?_ | with_reducible refine wt_chain ?_ | with_reducible refine wt_chain3 ?_ | with_reducible refine wt_cb ?_ | with_reducible refine wt_tup ?_ | with_reducible refine wt_dget ?_ | with_reducible refine wt_m1 ?_ | with_reducible refine wt_bm ?_ | with_reducible refine wt_bm0 ?_ | with_reducible refine wt_sl ?_ | with_reducible refine wo_none ?_ | with_reducible refine wo_some ?_
  | ((with_reducible refine wt_call ?_ ?_); rotate_left; focus exact rfl) | ((with_reducible refine wt_call0 ?_ ?_); rotate_left; focus exact rfl) | with_reducible refine wt_ck ?_
  | with_reducible refine od_add ?_ | with_reducible refine od_sub ?_ | with_reducible refine od_mod ?_ ?_ | with_reducible refine od_div ?_ ?_ | with_reducible refine od_mul ?_ ?_ | with_reducible refine od_lt ?_ | with_reducible refine od_le ?_ | with_reducible refine od_gt ?_ | with_reducible refine od_ge ?_ | with_reducible refine od_eqi ?_ | with_reducible refine od_nei ?_ | with_reducible refine od_eqs ?_ | with_reducible refine od_nes ?_ | with_reducible refine od_is ?_ | with_reducible refine od_isnot ?_ | with_reducible refine od_adds ?_ ?_ | with_reducible refine od_addl ?_ ?_ | with_reducible refine od_addt ?_ ?_ | with_reducible refine ud_neg ?_
  | with_reducible refine cd_int ?_ | with_reducible refine cd_lens ?_ ?_ | with_reducible refine cd_str ?_ ?_
  | ((with_reducible apply cd_isint); focus exact rfl) | ((with_reducible apply cd_isbool); focus exact rfl) | ((with_reducible apply cd_isstr); focus exact rfl) | ((with_reducible apply cd_istup); focus exact rfl) | ((with_reducible apply cd_islst); focus exact rfl)
  | exact isL_lst | exact isL_own 0 rfl | exact isL_own 1 rfl | exact isL_own 2 rfl
  | (refine ⟨Nat.le_of_ble_eq_true rfl, ?_⟩) | (with_reducible refine ⟨⟨_, rfl⟩, ?_⟩) | (with_reducible refine ⟨_, rfl, ?_⟩) | (with_reducible refine ⟨fun _ => ?_, fun hb => absurd hb (by decide)⟩) | (with_reducible refine ⟨fun hb => absurd hb (by decide), fun _ => ?_⟩) | (with_reducible refine ⟨fun hb => ?_, fun hb => ?_⟩) | fail "no step")
local macro_rules | `(tactic| decreasing_with $_) => `(tactic| first | decide | omega | exact .inr ⟨by decide, by decide⟩ | exact .inl ⟨by decide, by decide⟩ | exact ⟨by decide, by decide⟩ | exact .inl ⟨by omega, by omega⟩ | exact .inr ⟨by omega, by omega⟩ | exact ⟨by omega, by omega⟩)

section
variable {K : PySem.W.Frag} {cs : Cs}
theorem run__law_mixed : Runs (sp__law_mixed cs) N__law_mixed (t__law_mixed K cs) := by
  rintro E ds m Ph Pc ⟨c, n, rfl, ⟨h1, h2, h3, h4⟩, k⟩
  unfold t__law_mixed
  show WS _ _ _ _ [some (.int c), some (.int n), none] m
  repeat' trivial
  all_goals try decreasing_with fail
  refine k _ ?_ ?_
  · rw [Int.fmod_eq_emod_of_nonneg _ (by decide), Int.fdiv_eq_ediv_of_nonneg _ (by decide)]
    omega
  · rw [Int.fmod_eq_emod_of_nonneg _ (by decide), Int.fdiv_eq_ediv_of_nonneg _ (by decide)]
    omega
end
section
variable {cs : Cs}
theorem run__law_folded : Runs (sp__law_folded cs) N__law_folded (t__law_folded cs.K cs) := by
  rintro E ds m Ph Pc ⟨a, ns, rfl, hl, k⟩
  unfold t__law_folded
  show WS _ _ _ _ [some (.scr cs.K a ns), none, none, none] m
  refine ws_seq (ws_asg (wt_lcm (gonly_name (by simp)) (wi_rng1 (wa_cons (wt_int (wa_nil ⟨64, rfl, by decide, by decide, ?_⟩))))))
  refine ⟨((List.range 64).map fun j : Nat => 17 + (j : Int)).map D.int, by simp [rngD], by simp [rngD, sizeLine_eq], fun i d y L acc h1 h2 => ?_, .inr fun L hL => ?_⟩
  · obtain ⟨h3, rfl⟩ := rngD_get h1
    repeat' trivial
    refine ⟨?_, rfl⟩
    have h3' : i < 64 := h3
    rw [List.getElem?_map, List.getElem?_map, List.getElem?_range h3'] at h2
    have h4 := Option.some.inj h2
    rw [← h4]
    simp
  repeat' trivial
  have inv0 : (((List.range 64).map fun j : Nat => 17 + (j : Int))).length = 64 ∧ ∀ c ∈ ((List.range 64).map fun j : Nat => 17 + (j : Int)), 0 ≤ c ∧ c < 2147483647 := by
    refine ⟨by simp, fun c hc => ?_⟩
    obtain ⟨j, hj, rfl⟩ := List.mem_map.mp hc
    have := List.mem_range.mp hj
    omega
  generalize ((List.range 64).map fun j : Nat => 17 + (j : Int)) = c0 at inv0
  -- one store into the list
  refine ws_for (wi_enumS (a := a) (ns := ns) (wa_cons (wt_var rfl (wa_nil ⟨rfl, ?_⟩))))
  refine ⟨fun i r' m' => ∃ (u v : Option D) (cl : List Int), r' = [some (.scr cs.K a ns), some (.ref L), u, v] ∧ m' = (L, MO.lst (cl.map D.int)) :: m ∧ cl.length = 64 ∧ ∀ c ∈ cl, 0 ≤ c ∧ c < 2147483647, ⟨none, none, c0, rfl, rfl, inv0⟩, ?_, ?_⟩
  · rintro i d r' m' hd ⟨u, v, cl, rfl, rfl, hc, hb⟩
    obtain ⟨x, hx, rfl⟩ := enumD_get hd
    rw [List.getElem?_map] at hx
    cases e : ns[i]? with
    | none => rw [e] at hx; cases hx
    | some z =>
      rw [e] at hx
      cases hx
      have hj : i % 64 < cl.length := by omega
      have hf : (i : Int).fmod 64 = ((i % 64 : Nat) : Int) := by
        rw [Int.fmod_eq_emod_of_nonneg _ (by decide)]; omega
      repeat' trivial
      all_goals try decreasing_with fail
      refine od_ixl (isL_own 0 rfl) (atI_at hf (get_map_int hj)) ?_
      repeat' trivial
      · decreasing_with fail
      refine wg_subl ?_
      repeat' trivial
      refine ⟨0, L, _, _, i % 64, rfl, rfl, rfl, ixN_nat hf (by simpa using hj), ?_⟩
      refine ⟨_, _, cl.set (i % 64) ((cl[i % 64] * 48271 + z).fmod 2147483647), rfl, ?_, ?_, ?_⟩
      · rw [List.map_set]; rfl
      · simp [hc]
      · intro c h
        rcases mem_set_imp h with h | h
        · subst h; exact fmod_bd _
        · exact hb c h
  · rintro r' m' ⟨u, v, cl, rfl, rfl, hc, hb⟩
    refine ws_seq (ws_for (wi_rng2 (wa_cons (wt_int (wa_cons (wt_int (wa_nil ⟨1, 64, rfl, by decide, ?_⟩)))))))
    refine ⟨fun i r' m' => ∃ (u v : Option D) (cl : List Int), r' = [some (.scr cs.K a ns), some (.ref L), u, v] ∧ m' = (L, MO.lst (cl.map D.int)) :: m ∧ cl.length = 64 ∧ ∀ c ∈ cl, 0 ≤ c ∧ c < 2147483647, ⟨u, v, cl, rfl, rfl, hc, hb⟩, ?_, ?_⟩
    · rintro i d r' m' hd ⟨u, v, cl, rfl, rfl, hc, hb⟩
      obtain ⟨h3, rfl⟩ := rngD_get hd
      have h3' : i < 63 := h3
      have e1 : (1 : Int) + (i : Nat) = ((i + 1 : Nat) : Int) := by omega
      have e2 : (1 : Int) + (i : Nat) - 1 = ((i : Nat) : Int) := by omega
      repeat' trivial
      refine od_ixl (isL_own 0 rfl) (atI_at e1 (get_map_int (by omega))) ?_
      repeat' trivial
      refine od_ixl (isL_own 0 rfl) (atI_at e2 (get_map_int (by omega))) ?_
      repeat' trivial
      · decreasing_with fail
      refine wg_subl ?_
      repeat' trivial
      refine ⟨0, L, _, _, i + 1, rfl, rfl, rfl, ixN_nat e1 (by simp; omega), ?_⟩
      refine ⟨_, _, cl.set (i + 1) ((cl[i + 1] + cl[i] * 16807).fmod 2147483647), rfl, ?_, ?_, ?_⟩
      · rw [List.map_set]; rfl
      · simp [hc]
      · intro c h
        rcases mem_set_imp h with h | h
        · subst h; exact fmod_bd _
        · exact hb c h
    · rintro r' m' ⟨u, v, cl, rfl, rfl, hc, hb⟩
      repeat' trivial
      exact k L cl hL hc hb
end
section
variable {cs : Cs}
theorem run__law_draw : Runs (sp__law_draw cs) N__law_draw (t__law_draw cs.K cs) := by
  rintro E ds m Ph Pc ⟨a, ac, ag, k, n, limit, rfl, e, h1, h2, h3, kk⟩
  unfold t__law_draw
  show WS _ _ _ _ [some (.ref a), some (.int limit), none, none, none, none] m
  refine ws_open e fun sp cl gs hs hc hcb hg => ws_post ?_
  have fin : ∀ (gs : List Int), gs.length ≤ 63 → ∀ r : Int, 0 ≤ r → r < limit → ∃ m2, Wk ((a, MO.dct (genK ac ag ((sp + 1 : Nat) : Int))) :: (ac, .lst (cl.map D.int)) :: (ag, .lst (gs.map D.int)) :: m.eraseIdx k) m2 ∧ Ph (.int r) m2 :=
    fun gs hg r h4 h5 => ⟨_, wk_close e (by omega) hc hcb hg, kk r h4 h5⟩
  repeat' trivial
  refine ⟨_, Sum.inr "spot", _, .inr ⟨0, a, rfl, rfl⟩, rfl, genK_spot, ?_⟩
  repeat' trivial
  refine ⟨0, a, _, Sum.inr "spot", rfl, rfl, rfl, genK_len, ?_⟩
  rw [genK_put]
  show WS _ _ _ _ _ ((a, MO.dct (genK ac ag ((sp + 1 : Nat) : Int))) :: (ac, .lst (cl.map D.int)) :: (ag, .lst (gs.map D.int)) :: m.eraseIdx k)
  refine ws_seqQ (fun r' m' => ∃ x y z, r' = [some (D.ref a), some (.int limit), some (.int sp), x, y, z] ∧ m' = (a, MO.dct (genK ac ag ((sp + 1 : Nat) : Int))) :: (ac, .lst (cl.map D.int)) :: (ag, .lst (gs.map D.int)) :: m.eraseIdx k) ?_ ?_
  rotate_left
  · rintro r' m' ⟨x, y, z, rfl, rfl⟩
    repeat' trivial
    refine ⟨_, Sum.inr "cells", _, .inr ⟨0, a, rfl, rfl⟩, rfl, genK_cells, ?_⟩
    repeat' trivial
    have hf : (sp : Int).fmod 64 = ((sp % 64 : Nat) : Int) := by
      rw [Int.fmod_eq_emod_of_nonneg _ (by decide)]; omega
    have hj : sp % 64 < cl.length := by omega
    have hb := hcb _ (List.getElem_mem hj)
    refine od_ixl ?_ (atI_at hf (get_map_int hj)) ?_
    repeat' trivial
    all_goals try decreasing_with fail
    have hd : (sp : Int).fdiv 64 = ((sp / 64 : Nat) : Int) := by
      rw [Int.fdiv_eq_ediv_of_nonneg _ (by decide)]; omega
    refine ⟨_, _, rfl, ?_, fun r1 h4 h5 => ?_⟩
    · rw [hd]; omega
    repeat' trivial
    refine ⟨_, _, rfl, by omega, fun r2 h6 h7 => ?_⟩
    repeat' trivial
    · omega
    · exact fin gs hg _ (fmod_pos h1).1 (fmod_pos h1).2
  repeat' trivial
  refine ⟨_, Sum.inr "great", _, .inr ⟨0, a, rfl, rfl⟩, rfl, genK_great, ?_⟩
  refine wt_lst (wa_nil ⟨by decide, ?_⟩)
  refine od_neL (isL_own 2 rfl) isL_lst (pys_ints gs) rfl (shaped_ints gs) shaped_nil ?_
  repeat' trivial
  · rename_i hb
    rw [eqv_nil] at hb
    have hne : gs ≠ [] := fun z => by subst z; simp at hb
    have hlen : 0 < gs.length := List.length_pos_iff.mpr hne
    refine ⟨_, Sum.inr "great", _, .inr ⟨0, a, rfl, rfl⟩, rfl, genK_great, ?_⟩
    repeat' trivial
    refine cd_len (.inl (isL_own 2 rfl)) ?_
    repeat' trivial
    · simp; omega
    have hf : (sp : Int).fmod ((gs.map D.int).length : Nat) = ((sp % gs.length : Nat) : Int) := by
      rw [Int.fmod_eq_emod_of_nonneg _ (by simp), List.length_map]; omega
    have hj : sp % gs.length < gs.length := Nat.mod_lt _ hlen
    rw [hf]
    refine od_ixl ?_ (atI_at rfl (get_map_int hj)) ?_
    repeat' trivial
    · exact ⟨by omega, by omega⟩
    · refine wg_subl ?_
      repeat' trivial
      refine ⟨2, ag, _, _, sp % gs.length, rfl, rfl, rfl, ixN_nat rfl (by simpa using hj), ?_⟩
      repeat' trivial
      · omega
      have e2 : (gs.map D.int).set (sp % gs.length) (.int (gs[sp % gs.length].fdiv limit)) = (gs.set (sp % gs.length) (gs[sp % gs.length].fdiv limit)).map D.int := by rw [List.map_set]
      rw [e2]
      exact fin _ (by simpa using hg) _ (fmod_pos h1).1 (fmod_pos h1).2
    · exact ⟨_, _, _, rfl, rfl⟩
  · exact ⟨_, _, _, rfl, rfl⟩
end
section
variable {cs : Cs}
theorem run__law_begun : Runs (sp__law_begun cs) N__law_begun (t__law_begun cs.K cs) := by
  rintro E ds m Ph Pc ⟨a, ns, rfl, hl, k⟩
  unfold t__law_begun
  show WS _ _ _ _ [some (.scr cs.K a ns), none, none] m
  refine ws_post (ws_seq (ws_asg (wt_disp fun p hp => wpr_cons ?_)))
  repeat' trivial
  refine ⟨a, ns, rfl, hl, fun l cl hL hc hb => ?_⟩
  refine wpr_cons ?_
  repeat' trivial
  refine wt_lst (wa_nil ⟨by decide, ?_⟩)
  refine wpr_cons ?_
  repeat' trivial
  refine wpr_nil ⟨1, [(Sum.inr "cells", .ref l), (Sum.inr "great", .lst []), (Sum.inr "spot", .int 0)], rfl, rfl, by simp, ?_⟩
  repeat' trivial
  refine wt_lcm (gonly_name (by simp)) (wi_seqS (a := a) (ns := ns) (wt_var rfl ⟨rfl, ?_⟩))
  refine ⟨(ns.map fun c => if (10 : Int) ^ (18 : Int).toNat ≤ c then c else 0).map D.int, by simp, by simp [sizeLine_eq]; omega, fun i d y L acc h1 h2 => ?_, .inr fun L hL => ?_⟩
  · rw [List.getElem?_map] at h1
    rw [List.getElem?_map, List.getElem?_map] at h2
    cases e : ns[i]? with
    | none => rw [e] at h1; cases h1
    | some z =>
      rw [e] at h1 h2
      cases h1
      have h2' := Option.some.inj h2
      repeat' trivial
      · refine od_pow ⟨by decide, by decide, by decide⟩ ?_
        repeat' trivial
        · rename_i hb
          refine ⟨?_, rfl⟩
          rw [← h2']; exact congrArg D.int (if_pos (of_decide_eq_true hb)).symm
        · rename_i hb
          refine ⟨?_, rfl⟩
          rw [← h2']; exact congrArg D.int (if_neg (of_decide_eq_false hb)).symm
  · repeat' trivial
    refine ⟨2, p, _, Sum.inr "great", rfl, rfl, rfl, ?_, ?_⟩
    · show (mergeD [] [(Sum.inr "cells", .ref l), (Sum.inr "great", .lst []), (Sum.inr "spot", .int 0)]).length < sizeLine
      simp [mergeD, putD, n_cg, n_cs, n_gs, sizeLine_eq]
    · repeat' trivial
      have e : putD (mergeD [] [(Sum.inr (Str.ofString "cells"), .ref l), (Sum.inr (Str.ofString "great"), .lst []), (Sum.inr (Str.ofString "spot"), .int 0)]) (Sum.inr (Str.ofString "great")) (.ref L) = genK l L 0 := by
        simp [mergeD, putD, n_cg, n_cs, n_gs, n_sg, genK]
      show ∃ m2, Wk ((L, MO.lst _) :: (l, MO.lst (cl.map D.int)) :: (p, MO.dct (putD _ _ _)) :: m) m2 ∧ Ph (.ref p) m2
      rw [e]
      exact ⟨_, wk_new' hc hb (by simpa using hl), k p l L⟩
end
end Dz
namespace Dz
open PySem PySem.Spec PyProof.Rows L2 LamX
def hiO : D → Option Int
  | .int h => some h
  | _ => none
def isNumD (v : D) (lo : Int) (hi : Option Int) : Bool := match v with
  | .int i => decide (lo ≤ i) && (match hi with | none => true | some h => decide (i ≤ h))
  | _ => false
theorem is_number_eq (v : D) (lo : Int) (hi : D) (hv : v.tg.isSome = true) (hh : hi = .non ∨ ∃ h, hi = .int h) : f_is_number v (.int lo) hi = .pure (.bl (isNumD v lo (hiO hi))) := by
  cases v <;> simp [D.tg] at hv <;> rcases hh with rfl | ⟨h, rfl⟩ <;> simp [f_is_number, isNumD, hiO]
  all_goals (split <;> simp_all <;> omega)
def isRowD (v : D) (l : Option Int) : Bool := match v with
  | .tup ds => (match l with | none => true | some n => ((ds.length : Nat) : Int) == n)
  | _ => false
theorem is_row_eq (v l : D) (hv : v.tg.isSome = true) (hl : l = .non ∨ ∃ n, l = .int n) : f_is_row v l = .pure (.bl (isRowD v (hiO l))) := by
  cases v <;> simp [D.tg] at hv <;> rcases hl with rfl | ⟨h, rfl⟩ <;> simp [f_is_row, isRowD, hiO]
/-- plain data: kinds are known, also of what is held -/
def D.kn (d : D) : Prop := d.tg.isSome = true
theorem all_bl (bs : List Bool) : D.all [.lst (bs.map D.bl)] = some (.bl (bs.all id)) := by simp [D.all]
def areNumsD (v : D) (hi lo : Int) : Bool := match v with
  | .tup xs => xs.all fun x => isNumD x lo (some hi)
  | _ => false
theorem are_numbers_eq (v : D) (hi lo : Int) (hv : v.tg.isSome = true) (hx : ∀ xs, v = .tup xs → xs.length ≤ 16000000 ∧ ∀ x ∈ xs, x.tg.isSome = true) : f_are_numbers v (.int hi) (.int lo) = .pure (.bl (areNumsD v hi lo)) := by
  unfold f_are_numbers
  simp only [M.pure_bind, a2_eq, List.append_nil, List.map_nil, List.map_cons, vD_non, List.nil_append, List.cons_append, is_row_eq v .non hv (.inl rfl)]
  cases v <;> simp [isRowD, hiO, areNumsD]
  rename_i xs
  obtain ⟨h1, h2⟩ := hx xs rfl
  rw [lcF_map (g := fun x => .bl (isNumD x lo (some hi))) h1 fun d hd => is_number_eq d lo (.int hi) (h2 d hd) (.inr ⟨hi, rfl⟩)]
  simp only [M.pure_bind]
  have : (xs.map fun x => D.bl (isNumD x lo (some hi))) = (xs.map fun x => isNumD x lo (some hi)).map D.bl := by simp
  rw [this, all_bl]
  simp
@[simp] theorem is_row_tup (xs : List D) (n : Int) : f_is_row (.tup xs) (.int n) = .pure (.bl (((xs.length : Nat) : Int) == n)) := is_row_eq _ _ rfl (.inr ⟨n, rfl⟩)
@[simp] theorem is_row_tupN (xs : List D) : f_is_row (.tup xs) .non = .pure (.bl true) := is_row_eq _ _ rfl (.inl rfl)
@[simp] theorem is_number_i1 (i lo : Int) : f_is_number (.int i) (.int lo) .non = .pure (.bl (decide (lo ≤ i))) := by rw [is_number_eq _ _ _ rfl (.inl rfl)]; simp [isNumD, hiO]
@[simp] theorem is_number_i2 (i lo hi : Int) : f_is_number (.int i) (.int lo) (.int hi) = .pure (.bl (decide (lo ≤ i) && decide (i ≤ hi))) := is_number_eq _ _ _ rfl (.inr ⟨hi, rfl⟩)
@[simp] theorem is_number_non (lo hi : D) : f_is_number .non lo hi = .pure (.bl false) := by simp [f_is_number]
@[simp] theorem is_row_non (l : D) : f_is_row .non l = .pure (.bl false) := by simp [f_is_row]
@[simp] theorem is_number_bl (b : Bool) (lo hi : D) : f_is_number (.bl b) lo hi = .pure (.bl false) := by simp [f_is_number]
@[simp] theorem is_row_bl (b : Bool) (l : D) : f_is_row (.bl b) l = .pure (.bl false) := by simp [f_is_row]
@[simp] theorem is_number_str (s : Str) (lo hi : D) : f_is_number (.str s) lo hi = .pure (.bl false) := by simp [f_is_number]
@[simp] theorem is_row_str (s : Str) (l : D) : f_is_row (.str s) l = .pure (.bl false) := by simp [f_is_row]
@[simp] theorem is_number_tup (ds : List D) (lo hi : D) : f_is_number (.tup ds) lo hi = .pure (.bl false) := by simp [f_is_number]
@[simp] theorem is_number_lst (ds : List D) (lo hi : D) : f_is_number (.lst ds) lo hi = .pure (.bl false) := by simp [f_is_number]
@[simp] theorem is_row_lst (ds : List D) (l : D) : f_is_row (.lst ds) l = .pure (.bl false) := by simp [f_is_row]
@[simp] theorem is_number_dct (ds : List (Key × D)) (lo hi : D) : f_is_number (.dct ds) lo hi = .pure (.bl false) := by simp [f_is_number]
@[simp] theorem is_row_dct (ds : List (Key × D)) (l : D) : f_is_row (.dct ds) l = .pure (.bl false) := by simp [f_is_row]
@[simp] theorem is_row_int (i : Int) (l : D) : f_is_row (.int i) l = .pure (.bl false) := by simp [f_is_row]
mutual
/-- plain data nested less deep than n -/
def D.pk : D → Nat → Bool
  | .non, _ => true
  | .bl _, _ => true
  | .int _, _ => true
  | .str _, _ => true
  | .tup ds, n + 1 => decide (ds.length ≤ 2000000) && D.pks ds n
  | .lst ds, n + 1 => decide (ds.length ≤ 2000000) && D.pks ds n
  | _, _ => false
def D.pks : List D → Nat → Bool
  | [], _ => true
  | d :: ds, n => D.pk d n && D.pks ds n
end
theorem pks_mem {n : Nat} : ∀ {ds : List D} {d : D}, D.pks ds n = true → d ∈ ds → d.pk n = true
  | [], _, _, h => by cases h
  | x :: xs, d, hp, h => by
    rw [D.pks, Bool.and_eq_true] at hp
    rcases List.mem_cons.mp h with e | e
    · subst e; exact hp.1
    · exact pks_mem hp.2 e
theorem pks_of {n : Nat} : ∀ {ds : List D}, (∀ d ∈ ds, d.pk n = true) → D.pks ds n = true
  | [], _ => by rw [D.pks]
  | x :: xs, h => by
    rw [D.pks, h x List.mem_cons_self, pks_of fun d hd => h d (List.mem_cons_of_mem _ hd)]
    rfl
theorem pk_tup {n : Nat} {ds : List D} (h1 : ds.length ≤ 2000000) (h : ∀ d ∈ ds, d.pk n = true) : (D.tup ds).pk (n + 1) = true := by
  rw [D.pk, pks_of h, decide_eq_true h1]; rfl
theorem pk_lst {n : Nat} {ds : List D} (h1 : ds.length ≤ 2000000) (h : ∀ d ∈ ds, d.pk n = true) : (D.lst ds).pk (n + 1) = true := by
  rw [D.pk, pks_of h, decide_eq_true h1]; rfl
@[simp] theorem pk_int (i : Int) (n : Nat) : (D.int i).pk n = true := by cases n <;> rw [D.pk]
@[simp] theorem pk_bl (i : Bool) (n : Nat) : (D.bl i).pk n = true := by cases n <;> rw [D.pk]
@[simp] theorem pk_str (i : Str) (n : Nat) : (D.str i).pk n = true := by cases n <;> rw [D.pk]
@[simp] theorem pk_non (n : Nat) : (D.non).pk n = true := by cases n <;> rw [D.pk]
theorem like_loop {F : Unit → D → M (Fl Unit Unit)} {n : Nat} (hF : ∀ i : Nat, i < n → F () (.int (i : Nat)) = .pure (.nx ())) : forL F () (rngD 0 n) = .pure (.nx ()) := by
  rw [rngD_eq]
  have : ∀ l : List Nat, (∀ i ∈ l, i < n) → forL F () (l.map fun i => D.int (i : Nat)) = .pure (.nx ()) := by
    intro l
    induction l with
    | nil => intro _; rfl
    | cons i l ih =>
      intro h
      show (F () (.int (i : Nat))).bind _ = _
      rw [hF i (h i List.mem_cons_self), M.pure_bind]
      exact ih fun j hj => h j (List.mem_cons_of_mem _ hj)
  exact this _ fun i hi => List.mem_range.mp hi
theorem like_tup {k : Nat} {xs : List D} (hl : xs.length < 4611686018427387904) (hx : ∀ x ∈ xs, f__law_like k x x = .pure (.bl true)) : f__law_like (k + 1) (.tup xs) (.tup xs) = .pure (.bl true) := by
  have hrg := rg1_nat xs.length hl
  rw [f__law_like_succ]; unfold g__law_like
  simp only [M.pure_bind, M.o_some, asB_bl, D.is_non, D.isNon_tup, D.isi_int, D.isi_bool, D.isi_str, D.isi_tup, D.isi_lst, D.tg_tup, Option.map_some, Tg.d5, Tg.a5, Tg.b5, Tg.c5, Tg.e5, Bool.false_eq_true, if_false, if_true, Bool.not_true, Bool.not_false, D.len_tup, D.ne_int, hrg, beq_self_eq_true]
  rw [like_loop]
  · rfl
  · intro i hi
    have e := List.getElem?_eq_getElem hi
    simp only [M.pure_bind, M.o_some, D.ix_tup, atI_nat e, a2_eq, List.map_nil, List.append_nil, hx _ (List.getElem_mem hi), asB_bl, Bool.not_true, Bool.false_eq_true, if_false]
theorem like_lst {k : Nat} {xs : List D} (hl : xs.length < 4611686018427387904) (hx : ∀ x ∈ xs, f__law_like k x x = .pure (.bl true)) : f__law_like (k + 1) (.lst xs) (.lst xs) = .pure (.bl true) := by
  have hrg := rg1_nat xs.length hl
  rw [f__law_like_succ]; unfold g__law_like
  simp only [M.pure_bind, M.o_some, asB_bl, D.is_non, D.isNon_lst, D.isi_int, D.isi_bool, D.isi_str, D.isi_tup, D.isi_lst, D.tg_lst, Option.map_some, Tg.d6, Tg.a6, Tg.b6, Tg.c6, Tg.e6, Bool.false_eq_true, if_false, if_true, Bool.not_true, Bool.not_false, D.len_lst, D.ne_int, hrg, beq_self_eq_true]
  rw [like_loop]
  · rfl
  · intro i hi
    have e := List.getElem?_eq_getElem hi
    simp only [M.pure_bind, M.o_some, D.ix_lst, atI_nat e, a2_eq, List.map_nil, List.append_nil, hx _ (List.getElem_mem hi), asB_bl, Bool.not_true, Bool.false_eq_true, if_false]
theorem like_non {k : Nat} : f__law_like (k + 1) .non .non = .pure (.bl true) := by rw [f__law_like_succ]; unfold g__law_like; simp
theorem like_bl {k : Nat} {b : Bool} : f__law_like (k + 1) (.bl b) (.bl b) = .pure (.bl true) := by rw [f__law_like_succ]; unfold g__law_like; simp
theorem like_int {k : Nat} {b : Int} : f__law_like (k + 1) (.int b) (.int b) = .pure (.bl true) := by rw [f__law_like_succ]; unfold g__law_like; simp
theorem like_str {k : Nat} {b : Str} : f__law_like (k + 1) (.str b) (.str b) = .pure (.bl true) := by rw [f__law_like_succ]; unfold g__law_like; simp
/-- the same data are found alike -/
theorem like_refl : ∀ (k : Nat) (d : D), d.pk k = true → f__law_like (k + 1) d d = .pure (.bl true)
  | k, .non, _ => like_non
  | k, .bl _, _ => like_bl
  | k, .int _, _ => like_int
  | k, .str _, _ => like_str
  | 0, .tup xs, h => by simp [D.pk] at h
  | 0, .lst xs, h => by simp [D.pk] at h
  | k + 1, .tup xs, h => by
    rw [D.pk, Bool.and_eq_true, decide_eq_true_eq] at h
    exact like_tup (Nat.lt_of_le_of_lt h.1 (by decide)) fun x hx => like_refl k x (pks_mem h.2 hx)
  | k + 1, .lst xs, h => by
    rw [D.pk, Bool.and_eq_true, decide_eq_true_eq] at h
    exact like_lst (Nat.lt_of_le_of_lt h.1 (by decide)) fun x hx => like_refl k x (pks_mem h.2 hx)
  | k, .dct _, h => by cases k <;> simp [D.pk] at h
  | k, .ref _, h => by cases k <;> simp [D.pk] at h
  | k, .ty _, h => by cases k <;> simp [D.pk] at h
  | k, .exc _ _ _, h => by cases k <;> simp [D.pk] at h
  | k, .scr _ _ _, h => by cases k <;> simp [D.pk] at h
  | k, .clo _ _, h => by cases k <;> simp [D.pk] at h
/-! ### drawn houses -/
/-- in order -/
def lx (p q : Nat × Nat) : Prop := p.1 < q.1 ∨ (p.1 = q.1 ∧ p.2 < q.2)
def doorD (p : Nat × Nat) : D := .tup [.int (p.1 : Int), .int (p.2 : Int)]
def colD (c : Nat) : D := .int (c : Int)
def hD (cl : List Nat) (dl : List (Nat × Nat)) : D := .tup [.tup (cl.map colD), .tup (dl.map doorD)]
structure OkH (n : Nat) (cl : List Nat) (dl : List (Nat × Nat)) : Prop where
  len : cl.length ≤ n
  col : ∀ c ∈ cl, c ≤ 9
  door : ∀ p ∈ dl, p.1 < p.2 ∧ p.2 < cl.length
  ord : dl.Pairwise lx
theorem fmod_lt {x l : Int} (h : 0 < l) : 0 ≤ x.fmod l ∧ x.fmod l < l := fmod_pos h
/-- a list of so many drawn numbers -/
theorem draws_dr {c n : Nat} {f : D → M D} (hn : n ≤ 16000000) (hf : ∀ d, Dr 1 (f d) fun y => ∃ k : Nat, y = colD k ∧ k < c) :
    Dr (1 * n) (lcF some (fun _ => .pure true) f (rngD 0 n)) fun ys => ∃ cl : List Nat, ys = cl.map colD ∧ cl.length = n ∧ ∀ k ∈ cl, k < c := by
  have h := lcF_dr (c := 1) (pat := some) (tb := fun _ => .pure true) (eb := f) (ds := rngD 0 n) (fun ys i => ∃ cl : List Nat, ys = cl.map colD ∧ cl.length = i ∧ ∀ k ∈ cl, k < c) (by rw [rngD_len]; exact hn) ⟨[], rfl, rfl, by simp⟩ fun i d acc _ ⟨cl, h1, h2, h3⟩ => by
    subst h1
    simp only [M.o_some, M.pure_bind, if_true]
    refine dr_bind (b2 := 0) (hf d) fun y ⟨k, hk, hc⟩ => dr_pure ?_
    subst hk
    refine ⟨cl ++ [k], by simp, by simp [h2], fun z hz => ?_⟩
    rcases List.mem_append.mp hz with z1 | z1
    · exact h3 z z1
    · rw [List.mem_singleton.mp z1]; exact hc
  rw [rngD_len] at h
  exact h
theorem pairs_dr {low n : Nat} {f : D → M Bool} {g : D → M D} (hn : n ≤ 16000000) (hf : ∀ i : Nat, low < i → i < n → Dr 1 (f (.int (i : Nat))) fun _ => True) (hg : ∀ i : Nat, g (.int (i : Nat)) = .pure (doorD (low, i))) :
    Dr (1 * (n - (low + 1))) (lcF some f g (rngD ((low : Int) + 1) (n - (low + 1)))) fun ys => ∃ l : List Nat, ys = l.map (fun h => doorD (low, h)) ∧ (∀ h ∈ l, low < h ∧ h < n) ∧ l.Pairwise (· < ·) := by
  have h := lcF_dr (c := 1) (pat := some) (tb := f) (eb := g) (ds := rngD ((low : Int) + 1) (n - (low + 1))) (fun ys i => ∃ l : List Nat, ys = l.map (fun h => doorD (low, h)) ∧ (∀ h ∈ l, low < h ∧ h < low + 1 + i) ∧ l.Pairwise (· < ·)) (by rw [rngD_len]; omega) ⟨[], rfl, by simp, List.Pairwise.nil⟩ fun i d acc hd ⟨l, h1, h2, h3⟩ => by
    subst h1
    obtain ⟨hi, rfl⟩ := rngD_get hd
    have e : ((low : Int) + 1 + (i : Nat)) = ((low + 1 + i : Nat) : Int) := by omega
    rw [e]
    simp only [M.o_some, M.pure_bind]
    refine dr_bind (b2 := 0) (hf (low + 1 + i) (by omega) (by omega)) fun b _ => ?_
    cases b with
    | true =>
      simp only [if_true, hg, M.pure_bind]
      refine dr_pure ⟨l ++ [low + 1 + i], by simp, fun z hz => ?_, ?_⟩
      · rcases List.mem_append.mp hz with z1 | z1
        · have := h2 z z1; omega
        · rw [List.mem_singleton.mp z1]; omega
      · refine List.pairwise_append.mpr ⟨h3, by simp, fun x hx y hy => ?_⟩
        rw [List.mem_singleton.mp hy]
        have := h2 x hx; omega
    | false =>
      simp only [Bool.false_eq_true, if_false]
      exact dr_pure ⟨l, by simp, fun z hz => by have := h2 z hz; omega, h3⟩
  rw [rngD_len] at h
  exact dr_mono (fun ys ⟨l, h1, h2, h3⟩ => ⟨l, h1, fun z hz => by have := h2 z hz; omega, h3⟩) h
theorem draw_col {c : Nat} (h0 : 0 < c) (h1 : c < 1000000) : Dr 1 (f__law_draw (.int (c : Int))) fun y => ∃ k : Nat, y = colD k ∧ k < c := by
  rw [law_draw_int]
  refine dr_draw (b := 0) (by omega) (by omega) fun r hr0 hr1 => dr_pure ⟨r.toNat, ?_, by omega⟩
  unfold colD
  congr 1
  omega
def doorSum (n : Nat) : Nat := n * n
theorem law_house_dr {n c : Nat} (hn : n ≤ 100) (h0 : 0 < c) (hc : c ≤ 10) : Dr (1 + n * n + n) (f__law_house (.int (n : Int)) (.int (c : Int))) fun d => ∃ cl dl, d = hD cl dl ∧ cl.length = n ∧ (∀ k ∈ cl, k < c) ∧ (∀ p ∈ dl, p.1 < p.2 ∧ p.2 < n) ∧ dl.Pairwise lx := by
  unfold f__law_house
  simp only [mkLst_eq (xs := []) (by simp), mkTup_eq (xs := [_, _]) (by simp), M.bind_assoc, M.o_some, M.pure_bind, law_draw_int, M.draw_bind, un2_tup]
  refine dr_le (b1 := n * (rngD 0 n).length + (1 * n + 0) + 1) (by rw [rngD_len]; omega) (dr_draw (by decide) (by decide) fun r _ _ => ?_)
  rw [rg1_nat n (by omega)]
  simp only [M.o_some, M.pure_bind]
  refine dr_bind (forS_dr (k := 0) (fun i s => ∃ dl : List (Nat × Nat), s = .lst (dl.map doorD) ∧ (∀ p ∈ dl, p.1 < p.2 ∧ p.2 < n) ∧ dl.Pairwise lx ∧ (∀ p ∈ dl, p.1 < i) ∧ dl.length ≤ i * 100) n ⟨[], rfl, by simp, List.Pairwise.nil, by simp, by simp⟩ fun i s d hd ⟨dl, hs, h1, h2, h3, h4⟩ => ?_) fun s ⟨dl, hs, h1, h2, _, _⟩ => ?_
  · subst hs
    rw [Nat.zero_add] at *
    obtain ⟨hi, rfl⟩ := rngD_get hd
    have e : (0 : Int) + (i : Nat) = (i : Nat) := by omega
    have e2 : ((i : Nat) : Int) + 1 ≤ n := by omega
    have hrg : rg2 [.int (((i : Nat) : Int) + 1), .int (n : Int)] = some (rngD (((i : Nat) : Int) + 1) (n - (i + 1))) := by
      rw [rg2_int (by omega)]
      congr 2
      omega
    simp only [e, M.o_some, M.pure_bind, D.add_int, hrg]
    refine dr_le (b1 := 1 * (n - (i + 1)) + 0) (by omega) (dr_bind (pairs_dr (by omega) (fun j _ _ => dr_draw (b := 0) (by decide) (by decide) fun r _ _ => ?_) fun j => ?_) fun ys ⟨l, hy, h5, h6⟩ => ?_)
    · exact dr_pure trivial
    · first | rfl | (simp only [mkTup_eq (xs := [_, _]) (by simp), M.o_some]; rfl)
    · subst hy
      have hl : l.length ≤ 100 := by
        have : ∀ (l : List Nat) (a : Nat), l.Pairwise (· < ·) → (∀ h ∈ l, a ≤ h ∧ h < n) → l.length + a ≤ max n a := by
          intro l
          induction l with
          | nil => intro a _ _; simp; omega
          | cons x l ih =>
            intro a hp hb
            have hx := hb x List.mem_cons_self
            have := ih (x + 1) (List.pairwise_cons.mp hp).2 fun h hh => ⟨(List.pairwise_cons.mp hp).1 h hh, (hb h (List.mem_cons_of_mem _ hh)).2⟩
            simp only [List.length_cons]
            omega
        have := this l 0 h6 fun h hh => ⟨Nat.zero_le _, (h5 h hh).2⟩
        omega
      have hz : (dl.map doorD).length + (l.map fun h => doorD (i, h)).length ≤ 16000000 := by
        rw [List.length_map, List.length_map]
        have : i * 100 ≤ 100 * 100 := Nat.mul_le_mul_right _ (by omega)
        omega
      simp only [M.pure_bind, D.add, if_pos hz, M.o_some]
      refine dr_pure ⟨dl ++ l.map fun h => (i, h), by simp [Function.comp_def], fun p hp => ?_, ?_, fun p hp => ?_, by simp; omega⟩
      · rcases List.mem_append.mp hp with z | z
        · exact h1 p z
        · obtain ⟨h, hh, rfl⟩ := List.mem_map.mp z
          exact h5 h hh
      · refine List.pairwise_append.mpr ⟨h2, List.pairwise_map.mpr (h6.imp fun z => .inr ⟨rfl, z⟩), fun x hx y hy => ?_⟩
        obtain ⟨h, _, rfl⟩ := List.mem_map.mp hy
        exact .inl (h3 x hx)
      · rcases List.mem_append.mp hp with z | z
        · have := h3 p z; omega
        · obtain ⟨h, _, rfl⟩ := List.mem_map.mp z
          exact Nat.lt_succ_self i
  · subst hs
    refine dr_bind (draws_dr (by omega) fun d => draw_col h0 (by omega)) fun ys ⟨cl, hy, h3, h4⟩ => ?_
    subst hy
    simp only [M.pure_bind, D.toTup_lst, M.o_some, mkTup_eq (xs := [_, _]) (by simp)]
    exact dr_pure ⟨cl, dl, rfl, h3, h4, h1, h2⟩
/-! ### whether a value is a house -/
theorem leI_two (a b c d : Int) : leI [a, b] [c, d] = (decide (a < c) || (decide (a = c) && decide (b ≤ d))) := by
  simp [leI, Ob.lexAt]
  by_cases h : a = c
  · subst h
    by_cases h2 : b = d
    · subst h2; simp
    · simp [h2]
  · have : decide (a ≤ c) = decide (a < c) := by
      rw [decide_eq_decide]; omega
    simp [h, this]
theorem is_door_eq (n : Int) (p : Nat × Nat) : f_is_door (.int n) (doorD p) = .pure (.bl (decide (p.1 < p.2) && decide ((p.2 : Int) < n))) := by
  unfold f_is_door doorD
  by_cases h : (0 : Int) ≤ p.1
  · simp [h]
    rw [Bool.eq_iff_iff]
    simp
    omega
  · omega
theorem forL_nx {f : Unit → D → M (Fl Unit Unit)} : ∀ {ds : List D}, (∀ (i : Nat) (d : D), ds[i]? = some d → f () d = .pure (.nx ())) → forL f () ds = .pure (.nx ())
  | [], _ => rfl
  | d :: ds, h => by
    show (f () d).bind _ = _
    rw [h 0 d rfl, M.pure_bind]
    exact forL_nx fun i d hd => h (i + 1) d (by simpa using hd)
theorem colours_ok {cl : List Nat} (h1 : cl.length ≤ 100000) (h : ∀ c ∈ cl, c ≤ 9) : f_are_numbers (.tup (cl.map colD)) (.int 9) (.int 0) = .pure (.bl true) := by
  rw [are_numbers_eq _ _ _ rfl fun xs e => by cases e; exact ⟨by simp; omega, fun x hx => by obtain ⟨c, _, rfl⟩ := List.mem_map.mp hx; rfl⟩]
  congr 2
  simp [areNumsD, isNumD, colD]
  exact fun c hc => by have := h c hc; omega
theorem house_fault_ok {n : Nat} {cl : List Nat} {dl : List (Nat × Nat)} (h : OkH n cl dl) (hn : n ≤ 1000) : f_house_fault (hD cl dl) (.int (n : Nat)) = .pure (.tup []) := by
  have hl : ¬ ((n : Int) < (cl.length : Nat)) := by have := h.len; omega
  have hcol := colours_ok (cl := cl) (by have := h.len; omega) h.col
  unfold f_house_fault hD
  simp [hl, hcol, mkTup_eq, enO]
  rw [forL_nx]
  · simp [flT]
  · intro i d hd
    obtain ⟨x, hx, rfl⟩ := enumD_get hd
    rw [List.getElem?_map] at hx
    cases hp : dl[i]? with
    | none => rw [hp] at hx; cases hx
    | some p =>
      rw [hp] at hx
      cases hx
      have hdoor := h.door p (List.mem_of_getElem? hp)
      have hd2 : ((p.2 : Nat) : Int) < (cl.length : Nat) := by omega
      simp [is_door_eq, hdoor.1, hd2]
      by_cases hi : 0 < i
      · have hi' : (0 : Int) < (i : Nat) := by omega
        have hlt := (List.getElem?_eq_some_iff.mp hp).1
        have e1 : ((i : Nat) : Int) - 1 = ((i - 1 : Nat) : Int) := by omega
        have hq : dl[i - 1]? = some dl[i - 1] := List.getElem?_eq_getElem (by omega)
        have hix : atI (dl.map doorD) (((i : Nat) : Int) - 1) = some (doorD dl[i - 1]) := by
          rw [e1]
          exact atI_nat (by rw [List.getElem?_map, hq]; rfl)
        have ho : lx dl[i - 1] p := by
          have hpe : dl[i] = p := (List.getElem?_eq_some_iff.mp hp).2
          rw [← hpe]
          exact List.pairwise_iff_getElem.mp h.ord (i - 1) i (by omega) hlt (by omega)
        have hle : leI [(p.1 : Int), (p.2 : Int)] [(dl[i - 1].1 : Int), (dl[i - 1].2 : Int)] = false := by
          rw [leI_two]
          unfold lx at ho
          simp
          omega
        simp [hi, hix, doorD, D.le, D.nums, hle]
      · simp [hi]
theorem need_house_ok {cl : List Nat} {dl : List (Nat × Nat)} (h : OkH 60 cl dl) : f_need_house (hD cl dl) = .pure (hD cl dl) := by
  have e := house_fault_ok h (by decide)
  unfold f_need_house
  have : ((60 : Nat) : Int) = 60 := rfl
  rw [this] at e
  simp [e, mkTup_eq]
/-! ### kinds -/
@[simp] theorem eq_int_all (i : Int) : D.eq (.int i) (.str "all") = some (.bl false) := by
  simp [D.eq, D.eqv, D.py, SeqAt.shaped, PyData.canLay0, PyData.depth, PyData.eqv]
  decide +kernel
@[simp] theorem ne_int_all (i : Int) : D.ne (.int i) (.str "all") = some (.bl true) := by
  simp [D.ne, D.eqv, D.py, SeqAt.shaped, PyData.canLay0, PyData.depth, PyData.eqv]
  decide +kernel
def isB : D → Bool
  | .str s => s == "all"
  | .int i => decide (1 ≤ i) && decide (i ≤ 12)
  | _ => false
def isK : D → Bool
  | .tup [a, b] => isB a && isB b
  | _ => false
structure Kn (v : D) : Prop where
  k : v.tg.isSome = true
  ab : ∀ a b, v = .tup [a, b] → a.tg.isSome = true ∧ b.tg.isSome = true
theorem is_bound_eq (v : D) (hv : v.tg.isSome = true) : f_is_bound v (.int 12) = .pure (.bl (isB v)) := by
  unfold f_is_bound
  cases v <;> simp [D.tg] at hv <;> simp [isB]
theorem law_is_bound_eq (v : D) (hv : v.tg.isSome = true) : f__law_is_bound v = .pure (.bl (isB v)) := by
  unfold f__law_is_bound
  cases v <;> simp [D.tg] at hv <;> simp [isB]
  rename_i i
  by_cases h : 1 ≤ i <;> simp [h]
theorem need_kind_eq (v : D) (hv : Kn v) : f_need_kind v = if isK v = true then .pure v else .ex 6 [("value", v)] := by
  unfold f_need_kind
  obtain ⟨h1, h2⟩ := hv
  cases v <;> simp [D.tg] at h1
  case tup xs =>
    match xs, h2 with
    | [], _ => simp [isK]
    | [a], _ => simp [isK]
    | [a, b], h2 =>
      obtain ⟨ha, hb⟩ := h2 a b rfl
      simp [isK, is_bound_eq a ha, is_bound_eq b hb]
      cases isB a <;> cases isB b <;> simp
    | _ :: _ :: _ :: l, _ =>
      have : ¬ ((l.length : Int) + 1 + 1 + 1 = 2) := by omega
      simp [isK, this]
  all_goals simp [isK]
theorem law_is_kind_eq (v : D) (hv : Kn v) : f__law_is_kind v = .pure (.bl (isK v)) := by
  unfold f__law_is_kind
  obtain ⟨h1, h2⟩ := hv
  cases v <;> simp [D.tg] at h1
  case tup xs =>
    match xs, h2 with
    | [], _ => simp [isK]
    | [a], _ => simp [isK]
    | [a, b], h2 =>
      obtain ⟨ha, hb⟩ := h2 a b rfl
      simp [isK, law_is_bound_eq a ha, law_is_bound_eq b hb]
      cases isB a <;> simp
    | _ :: _ :: _ :: l, _ =>
      have : ¬ ((l.length : Int) + 1 + 1 + 1 = 2) := by omega
      simp [isK, this]
  all_goals simp [isK]
/-- a bound: all, or a number from 1 to 12 -/
theorem isB_cases {a : D} (h : isB a = true) : a = .str "all" ∨ ∃ i : Int, a = .int i ∧ 1 ≤ i ∧ i ≤ 12 := by
  cases a <;> simp [isB] at h
  · exact .inr ⟨_, rfl, h.1, h.2⟩
  · exact .inl (by rw [h])
theorem isB_tg {a : D} (h : isB a = true) : a.tg.isSome = true := by
  rcases isB_cases h with h | ⟨i, h, _⟩ <;> rw [h] <;> rfl
theorem kn_kind {a b : D} (ha : isB a = true) (hb : isB b = true) : Kn (.tup [a, b]) := ⟨rfl, fun x y e => by cases e; exact ⟨isB_tg ha, isB_tg hb⟩⟩
def rnk : D → Int
  | .int i => i
  | _ => 99
theorem rank_eq {a : D} (h : isB a = true) : f__law_rank a = .pure (.int (rnk a)) := by
  unfold f__law_rank
  rcases isB_cases h with h | ⟨i, h, _⟩ <;> subst h <;> simp [rnk]
theorem is_most_eq {a b : D} (ha : isB a = true) (hb : isB b = true) : f_is_most a b = .pure (.bl (decide (rnk b ≤ rnk a))) := by
  unfold f_is_most
  rcases isB_cases ha with h | ⟨i, h, hi⟩ <;> rcases isB_cases hb with h' | ⟨j, h', hj⟩ <;> subst h <;> subst h'
  · simp [rnk]
  · have : j ≤ 99 := by omega
    simp [rnk, this]
  · have : ¬ (99 ≤ i) := by omega
    simp [rnk, this]
  · simp [rnk]
    exact decide_eq_decide.mpr Iff.rfl
theorem is_finer_eq {a b c d : D} (ha : isB a = true) (hb : isB b = true) (hc : isB c = true) (hd : isB d = true) : f_is_finer (.tup [a, b]) (.tup [c, d]) = .pure (.bl (decide (rnk c ≤ rnk a) && decide (rnk d ≤ rnk b))) := by
  unfold f_is_finer
  rw [need_kind_eq _ (kn_kind ha hb), need_kind_eq _ (kn_kind hc hd)]
  simp [isK, ha, hb, hc, hd, is_most_eq ha hc, is_most_eq hb hd]
  by_cases h : rnk c ≤ rnk a <;> simp [h]
theorem is_finer_bad1 {v w : D} (hv : Kn v) (h : isK v = false) : f_is_finer v w = .ex 6 [("value", v)] := by
  unfold f_is_finer
  rw [need_kind_eq _ hv]
  simp [h]
theorem is_finer_bad2 {a b w : D} (ha : isB a = true) (hb : isB b = true) (hw : Kn w) (h : isK w = false) : f_is_finer (.tup [a, b]) w = .ex 6 [("value", w)] := by
  unfold f_is_finer
  have e : isK (.tup [a, b]) = true := by simp [isK, ha, hb]
  rw [need_kind_eq _ (kn_kind ha hb), need_kind_eq _ hw]
  simp [e, h]
theorem heard_told (v : D) : f__law_heard (.pure v) = .pure (.lst [.str "told", v]) := by simp [f__law_heard, mkLst_eq, M.tr]
theorem heard_kind (v : D) : f__law_heard (.ex 6 [("value", v)]) = .pure (.lst [.str "kind", v]) := by simp [f__law_heard, mkLst_eq, M.tr, CL, pickM, subE]
theorem heard_position (v : D) : f__law_heard (.ex 7 [("value", v)]) = .pure (.lst [.str "position", v]) := by simp [f__law_heard, mkLst_eq, M.tr, CL, pickM, subE]
theorem heard_house (v : D) : f__law_heard (.ex 3 [("place", v)]) = .pure (.lst [.str "house", v]) := by simp [f__law_heard, mkLst_eq, M.tr, CL, pickM, subE]
theorem draw_bound : Dr 1 (f__law_draw (.int 13)) fun d => ∃ r : Int, d = .int r ∧ 0 ≤ r ∧ r < 13 := by
  rw [law_draw_int]
  exact dr_draw (b := 0) (by decide) (by decide) fun r h0 h1 => dr_pure ⟨r, rfl, h0, h1⟩
theorem law_kind_dr : Dr 2 (f__law_kind (.int 12) (.int 12)) fun d => ∃ a b, d = .tup [a, b] ∧ isB a = true ∧ isB b = true := by
  unfold f__law_kind
  simp only [D.add_int, M.o_some, M.pure_bind, a1_eq, List.map_nil, List.append_nil, M.bind_assoc, law_draw_int, M.draw_bind]
  refine dr_draw (b := 1) (by decide) (by decide) fun r h0 h1 => dr_draw (b := 0) (by decide) (by decide) fun s h2 h3 => ?_
  have hb : ∀ r : Int, 0 ≤ r → r < 12 + 1 → ∃ a, (if decide (12 < 1 + r) = true then M.pure (D.str "all") else M.pure (.int (1 + r))) = .pure a ∧ isB a = true := fun r h0 h1 => by
    by_cases h : 12 < 1 + r
    · exact ⟨_, by rw [if_pos (decide_eq_true h)], by decide +kernel⟩
    · exact ⟨_, by rw [if_neg (by simpa using h)], by simp [isB]; omega⟩
  obtain ⟨a, ea, ha⟩ := hb r h0 h1
  obtain ⟨b, eb, hb'⟩ := hb s h2 h3
  simp only [D.gt_int, M.o_some, M.pure_bind, asB_bl, ea, eb, mkTup_eq (xs := [_, _]) (by simp)]
  exact dr_pure ⟨a, b, rfl, ha, hb'⟩
theorem law_of_dr {xs : List D} (h0 : xs ≠ []) (h1 : xs.length < 1000000) : Dr 1 (f__law_of (.lst xs)) fun d => d ∈ xs := by
  unfold f__law_of
  simp only [D.len_lst, M.o_some, M.pure_bind, a1_eq, List.map_nil, List.append_nil, law_draw_int, M.draw_bind]
  have hp : 0 < xs.length := List.length_pos_iff.mpr h0
  refine dr_draw (b := 0) (by omega) (by omega) fun r hr0 hr1 => ?_
  have e : r = ((r.toNat : Nat) : Int) := by omega
  have hlt : r.toNat < xs.length := by omega
  rw [e]
  simp only [D.ix_lst, atI_nat (List.getElem?_eq_getElem hlt), M.o_some]
  exact dr_pure (List.getElem_mem hlt)
@[simp] theorem sl_l1 (x : D) (xs : List D) : D.sl (.lst (x :: xs)) none (some 1) = some (.lst [x]) := by
  simp [D.sl, cutD, HT.sIx]
@[simp] theorem sl_t1 (x : D) (xs : List D) : D.sl (.tup (x :: xs)) none (some 1) = some (.tup [x]) := by
  simp [D.sl, cutD, HT.sIx]
theorem ne_kinds : D.ne (.lst [.str "kind", .str "kind"]) (.lst [.str "kind", .str "kind"]) = some (.bl false) := by
  have h : PyData.strOk "kind" = true := by decide +kernel
  simp [D.ne, D.eqv, D.py, D.pys, SeqAt.shaped, PyData.canLay0, PyData.canLayAll0, PyData.depth, PyData.depthAll, PyData.eqv, PyData.eqvAll, h]
theorem like_s (s : Str) : f__law_like 6 (.lst [.str s]) (.lst [.str s]) = .pure (.bl true) := like_refl 5 _ (by simp [D.pk, D.pks])
theorem kn_non : Kn .non := ⟨rfl, fun _ _ e => by cases e⟩
theorem isB_pk {a : D} (h : isB a = true) (n : Nat) : a.pk n = true := by
  rcases isB_cases h with h | ⟨i, h, _⟩ <;> rw [h] <;> simp
theorem kinds_right_dr : Dr 5 f__law_kinds_right fun d => d = .bl true := by
  unfold f__law_kinds_right
  simp only [M.bind_assoc]
  refine dr_le (b1 := 2 + (2 + (1 + 0))) (by decide) (dr_bind law_kind_dr fun k1 ⟨a, b, e1, ha, hb⟩ => ?_)
  subst e1
  refine dr_bind law_kind_dr fun k2 ⟨c, d, e2, hc, hd⟩ => ?_
  subst e2
  have hK : isK (.tup [a, b]) = true := by simp [isK, ha, hb]
  have hneed := need_kind_eq _ (kn_kind ha hb)
  rw [if_pos hK] at hneed
  simp [mkTup_eq, mkLst_eq, rank_eq ha, rank_eq hb, rank_eq hc, rank_eq hd, is_finer_eq ha hb hc hd, is_finer_eq ha hb ha hb, hneed]
  have hp : D.pow (.int 10) (.int 30) = some (.int 1000000000000000000000000000000) := by rfl
  have hl : f__law_like 6 (.lst [.bl (decide (rnk c ≤ rnk a) && decide (rnk d ≤ rnk b)), .bl true, .tup [a, b]]) (.lst [.bl (decide (rnk c ≤ rnk a) && decide (rnk d ≤ rnk b)), .bl true, .tup [a, b]]) = .pure (.bl true) := like_refl 5 _ (by
    have := isB_pk ha 3
    have := isB_pk hb 3
    simp [D.pk, D.pks, *])
  have hsel : (if rnk c ≤ rnk a then M.pure (D.bl (decide (rnk d ≤ rnk b))) else M.pure (D.bl false)) = .pure (.bl (decide (rnk c ≤ rnk a) && decide (rnk d ≤ rnk b))) := by
    by_cases h : rnk c ≤ rnk a <;> simp [h]
  simp [hsel, hl, hp, D.add]
  refine dr_bind (b2 := 0) (law_of_dr (by simp) (by simp)) fun odd ho => ?_
  have hodd : odd.tg.isSome = true ∧ ∀ x y, odd ≠ .tup [x, y] := by
    simp at ho
    rcases ho with rfl | rfl | rfl | rfl | rfl | rfl | rfl | rfl | rfl | rfl | rfl | rfl | rfl <;> simp [D.tg]
  have hKo : Kn odd := ⟨hodd.1, fun x y e => absurd e (hodd.2 x y)⟩
  have ta := isB_tg ha
  have tb := isB_tg hb
  rw [forL_nx fun i v hv => ?_]
  · exact dr_pure rfl
  · have hk : Kn v := by
      have hm := List.mem_of_getElem? hv
      simp at hm
      rcases hm with rfl | rfl | rfl | rfl | rfl | rfl | rfl | rfl
      · exact ⟨rfl, fun x y e => by cases e; exact ⟨ta, hodd.1⟩⟩
      · exact ⟨rfl, fun x y e => by cases e; exact ⟨hodd.1, tb⟩⟩
      · exact ⟨rfl, fun x y e => by cases e⟩
      · exact ⟨rfl, fun x y e => by cases e⟩
      · exact ⟨rfl, fun x y e => by cases e⟩
      · exact hKo
      · exact kn_non
      · exact ⟨rfl, fun x y e => by cases e; exact ⟨hodd.1, hodd.1⟩⟩
    have e1 := need_kind_eq v hk
    have e2 := law_is_kind_eq v hk
    cases hi : isK v with
    | true =>
      rw [hi] at e1 e2
      simp at e1
      simp [e1, e2, heard_told, mkLst_eq, like_s, M.gd]
      exact fun h => absurd h (by decide +kernel)
    | false =>
      rw [hi] at e1 e2
      simp at e1
      have e3 := is_finer_bad1 (w := .non) hk hi
      have e4 := is_finer_bad2 ha hb hk hi
      simp [e1, e2, e3, e4, heard_kind, mkLst_eq, like_s, M.gd, mkOwn_eq, apO_eq, ne_kinds]
/-! ### positions -/
/-- a loop that only looks: it stops at the first that is no good -/
theorem forL_chk {f : Unit → D → M (Fl Unit Unit)} {p : D → Bool} {e : D} : ∀ {ds : List D}, (∀ d ∈ ds, f () d = if p d = true then .pure (.nx ()) else .pure (.rt e)) → forL f () ds = .pure (if ds.all p = true then .nx () else .rt e)
  | [], _ => rfl
  | d :: ds, h => by
    show (f () d).bind _ = _
    rw [h d List.mem_cons_self]
    cases hp : p d
    · simp only [Bool.false_eq_true, if_false, M.pure_bind, List.all_cons, hp, Bool.false_and]
    · simp only [if_true, M.pure_bind, List.all_cons, hp, Bool.true_and]
      exact forL_chk fun d hd => h d (List.mem_cons_of_mem _ hd)
theorem forS_chk {f : Unit → D → M Unit} {p : D → Bool} {c : Nat} {fs : List (Str × D)} : ∀ {ds : List D}, (∀ d ∈ ds, f () d = if p d = true then .pure () else .ex c fs) → forS f () ds = if ds.all p = true then .pure () else .ex c fs
  | [], _ => rfl
  | d :: ds, h => by
    show (f () d).bind _ = _
    rw [h d List.mem_cons_self]
    cases hp : p d
    · simp only [Bool.false_eq_true, if_false, List.all_cons, hp, Bool.false_and]; rfl
    · simp only [if_true, M.pure_bind, List.all_cons, hp, Bool.true_and]
      exact forS_chk fun d hd => h d (List.mem_cons_of_mem _ hd)
def isR (n : Nat) : D → Bool
  | .non => true
  | .int i => decide (0 ≤ i) && decide (i < n)
  | _ => false
def isP (n : Nat) : D → Bool
  | .tup ds => decide (ds.length ≤ 12) && ds.all (isR n)
  | _ => false
structure KnP (v : D) : Prop where
  k : v.tg.isSome = true
  xs : ∀ ds, v = .tup ds → ∀ d ∈ ds, d.tg.isSome = true
theorem need_position_eq {cl : List Nat} {dl : List (Nat × Nat)} (h : OkH 60 cl dl) (v : D) (hv : KnP v) : f_need_position (hD cl dl) v = if isP cl.length v = true then .pure v else .ex 7 [("value", v)] := by
  unfold f_need_position
  rw [need_house_ok h]
  obtain ⟨h1, h2⟩ := hv
  cases v <;> simp [D.tg] at h1
  case tup ds =>
    simp [hD]
    by_cases hl : ds.length ≤ 12
    · have : ¬ ((12 : Int) < (ds.length : Nat)) := by omega
      simp [this]
      rw [forS_chk (p := isR cl.length) (c := 7) (fs := [("value", .tup ds)]) fun d hd => ?_]
      · have e : isP cl.length (.tup ds) = ds.all (isR cl.length) := by simp [isP, hl]
        rw [e]
        cases ds.all (isR cl.length) <;> rfl
      · have hk := h2 ds rfl d hd
        cases d <;> simp [D.tg] at hk <;> simp [isR]
        rename_i i
        by_cases h0 : 0 ≤ i
        · by_cases h3 : i < cl.length
          · have : i ≤ (cl.length : Int) - 1 := by omega
            simp [h0, h3, this]
          · have : ¬ (i ≤ (cl.length : Int) - 1) := by omega
            simp [h0, h3, this]
        · simp [h0]
    · have : (12 : Int) < (ds.length : Nat) := by omega
      simp [this, isP, hl]
  all_goals simp [isP]
theorem law_is_position_eq (n : Nat) (v : D) (hv : KnP v) : f__law_is_position (.int n) v = .pure (.bl (isP n v)) := by
  unfold f__law_is_position
  obtain ⟨h1, h2⟩ := hv
  cases v <;> simp [D.tg] at h1
  case tup ds =>
    by_cases hl : ds.length ≤ 12
    · have : ¬ ((12 : Int) < (ds.length : Nat)) := by omega
      simp [this]
      rw [forL_chk (p := isR n) (e := .bl false) fun d hd => ?_]
      · have e : isP n (.tup ds) = ds.all (isR n) := by simp [isP, hl]
        rw [e]
        cases ds.all (isR n) <;> simp [flT]
      · have hk := h2 ds rfl d hd
        cases d <;> simp [D.tg] at hk <;> simp [isR]
        rename_i i
        by_cases h0 : 0 ≤ i
        · by_cases h3 : i < n
          · simp [h0, h3]
          · simp [h0, h3]
        · simp [h0]
    · have : (12 : Int) < (ds.length : Nat) := by omega
      simp [this, isP, hl]
  all_goals simp [isP]
theorem need_position_bad : f_need_position .non (.int 5) = .ex 3 [("place", .str "form")] := by
  have h : PyData.strOk "form" = true := by decide +kernel
  have hs : D.ne (.tup [.str "form"]) (.tup []) = some (.bl true) := by
    simp [D.ne, D.eqv, D.py, D.pys, SeqAt.shaped, PyData.canLay0, PyData.canLayAll0, PyData.depth, PyData.depthAll, PyData.eqv, PyData.eqvAll, h]
  unfold f_need_position f_need_house f_house_fault
  simp [mkTup_eq, hs]
theorem rgs1_nat (n : Nat) (h : n < 1000000) : rgs1 (.int (n : Nat)) = some (0, (n : Int)) := by
  show (if _ then _ else _) = _
  exact if_pos (by omega)
theorem isR_cases {n : Nat} {x : D} (h : isR n x = true) : x = .non ∨ ∃ i, x = .int i := by
  cases x <;> simp [isR] at h <;> simp
theorem spots_dr {n m : Nat} (hn : n ≤ 1000) (hm : m ≤ 1000) : Dr (1 * m) (lcF some (fun _ => .pure true) (fun _ => f__law_of (.lst (.non :: rngD 0 n))) (rngD 0 m)) fun ys => ys.length = m ∧ ∀ x ∈ ys, isR n x = true := by
  have h := lcF_dr (c := 1) (pat := some) (tb := fun _ => .pure true) (eb := fun _ : D => f__law_of (.lst (.non :: rngD 0 n))) (ds := rngD 0 m) (fun ys i => ys.length = i ∧ ∀ x ∈ ys, isR n x = true) (by rw [rngD_len]; omega) ⟨rfl, by simp⟩ fun i d acc _ ⟨h1, h2⟩ => by
    simp only [M.o_some, M.pure_bind, if_true]
    refine dr_bind (b2 := 0) (law_of_dr (by simp) (by simp [rngD_len]; omega)) fun y hy => dr_pure ⟨by simp [h1], fun z hz => ?_⟩
    rcases List.mem_append.mp hz with z1 | z1
    · exact h2 z z1
    · rw [List.mem_singleton.mp z1]
      rcases List.mem_cons.mp hy with e | e
      · rw [e]; rfl
      · obtain ⟨i, hi⟩ := List.getElem?_of_mem e
        obtain ⟨hlt, rfl⟩ := rngD_get hi
        simp [isR]
        omega
  rw [rngD_len] at h
  exact h
theorem like_pos {n : Nat} {ds : List D} (h : ∀ x ∈ ds, isR n x = true) (hl : ds.length ≤ 1000) : f__law_like 6 (.tup ds) (.tup ds) = .pure (.bl true) := like_refl 5 _ (pk_tup (n := 4) (by omega) fun x hx => by
  rcases isR_cases (h x hx) with e | ⟨i, e⟩ <;> rw [e] <;> simp)
theorem like_hf : f__law_like 6 (.lst [.str "house", .str "form"]) (.lst [.str "house", .str "form"]) = .pure (.bl true) := like_refl 5 _ (by simp [D.pk, D.pks])
theorem mul12 (x : D) : D.mul (.tup [x]) (.int 12) = some (.tup (List.replicate 12 x)) := by
  unfold D.mul
  simp
theorem mul13 (x : D) : D.mul (.tup [x]) (.int 13) = some (.tup (List.replicate 13 x)) := by
  unfold D.mul
  simp
theorem ne_words {s t : Str} : D.ne (.str s) (.str t) = some (.bl (!(s == t))) := rfl
theorem positions_right_dr : Dr 200 f__law_positions_right fun d => d = .bl true := by
  unfold f__law_positions_right
  simp only [M.bind_assoc, law_draw_int, M.draw_bind]
  refine dr_le (b1 := (1 + 8 * 8 + 8) + ((12 + (1 + 0)) + 1) + 1) (by decide) (dr_draw (by decide) (by decide) fun r hr0 hr1 => ?_)
  have er : r = ((r.toNat : Nat) : Int) := by omega
  have hr : r.toNat ≤ 8 := by omega
  generalize r.toNat = n at er hr
  subst er
  have hh := law_house_dr (n := n) (c := 3) (by omega) (by decide) (by decide)
  simp only [M.pure_bind, M.bind_assoc, a2_eq, List.map_nil, List.append_nil, List.cons_append, List.nil_append]
  refine dr_bind (dr_le (by have : n * n ≤ 8 * 8 := Nat.mul_le_mul hr hr; omega) hh) fun house ⟨cl, dl, eh, hl, hc, hd, ho⟩ => ?_
  subst eh
  have hok : OkH 60 cl dl := ⟨by omega, fun c h => by have := hc c h; omega, fun p hp => by have := hd p hp; omega, ho⟩
  have hix : D.ix (hD cl dl) (.int 0) = some (.tup (cl.map colD)) := by simp [hD]
  have hrg := rgs1_nat cl.length (by omega)
  simp only [hix, M.o_some, M.pure_bind, D.len_tup, List.length_map, mkLst_eq (xs := [_]) (by simp), hrg, rgL, Int.sub_zero, Int.toNat_natCast]
  have hadd : D.add (.lst [.non]) (.lst (rngD 0 cl.length)) = some (.lst (.non :: rngD 0 cl.length)) := by
    simp [D.add, rngD_len]
    omega
  simp only [hadd, M.o_some, M.pure_bind, M.draw_bind]
  refine dr_draw (by decide) (by decide) fun q hq0 hq1 => ?_
  have eq' : q = ((q.toNat : Nat) : Int) := by omega
  have hq : q.toNat ≤ 12 := by omega
  generalize q.toNat = m at eq' hq
  subst eq'
  simp only [rg1_nat m (by omega), M.o_some, M.pure_bind]
  refine dr_bind (dr_le (by omega) (spots_dr (n := cl.length) (m := m) (by omega) (by omega))) fun ys ⟨hy1, hy2⟩ => ?_
  have hkn : ∀ x ∈ ys, x.tg.isSome = true := fun x hx => by rcases isR_cases (hy2 x hx) with e | ⟨i, e⟩ <;> rw [e] <;> rfl
  have hpos := need_position_eq hok (.tup ys) ⟨rfl, fun ds e => by cases e; exact hkn⟩
  rw [if_pos (show isP cl.length (.tup ys) = true by simp [isP]; exact ⟨by omega, hy2⟩)] at hpos
  simp [hpos, like_pos hy2 (by omega), mkTup_eq, mkLst_eq, mul12, mul13]
  refine dr_bind (b2 := 0) (law_of_dr (by simp) (by simp)) fun odd ho => ?_
  have hodd : odd.tg.isSome = true ∧ ∀ ds, odd = .tup ds → ds = [] := by
    simp at ho
    rcases ho with rfl | rfl | rfl | rfl | rfl | rfl | rfl | rfl | rfl <;> simp [D.tg]
  have hz : ys.length + 1 ≤ 16000000 := by omega
  simp [D.add, hz]
  rw [forL_nx fun i v hv => ?_]
  · simp [flT, need_position_bad, heard_house, like_hf, M.gd]
    exact dr_pure rfl
  · have hk : KnP v := by
      have hm := List.mem_of_getElem? hv
      simp at hm
      have hrep : ∀ (x : D) (ds es : List D), x.tg.isSome = true → (∀ z ∈ es, z = x) → D.tup es = D.tup ds → ∀ d ∈ ds, d.tg.isSome = true := fun x ds es hx hz e d hd => by
        cases e
        rw [hz d hd]; exact hx
      rcases hm with rfl | rfl | rfl | rfl | rfl | rfl | rfl
      · refine ⟨rfl, fun ds e x hx => ?_⟩
        cases e
        rcases List.mem_append.mp hx with z | z
        · exact hkn x z
        · rw [List.mem_singleton.mp z]; exact hodd.1
      · exact ⟨rfl, fun ds e => by cases e⟩
      · exact ⟨rfl, fun ds e => hrep odd ds _ hodd.1 (by simp) e⟩
      · exact ⟨rfl, fun ds e => hrep odd ds _ hodd.1 (by simp) e⟩
      · exact ⟨hodd.1, fun ds e => by rw [hodd.2 ds e]; simp⟩
      · exact ⟨rfl, fun ds e => hrep .non ds _ rfl (by simp) e⟩
      · exact ⟨rfl, fun ds e => hrep .non ds _ rfl (by simp) e⟩
    have e1 := need_position_eq hok v hk
    have e2 := law_is_position_eq cl.length v hk
    cases hi : isP cl.length v with
    | true =>
      rw [hi] at e1 e2
      simp at e1
      simp [e1, e2, heard_told, mkLst_eq, M.gd]
    | false =>
      rw [hi] at e1 e2
      simp at e1
      simp [e1, e2, heard_position, mkLst_eq, M.gd]

/-! ### the law -/
theorem rgs2_ok' {i j : Int} (h : -(2 ^ 40) ≤ i ∧ i ≤ 2 ^ 40 ∧ -(2 ^ 40) ≤ j ∧ j ≤ 2 ^ 40 ∧ j - i ≤ 16000000) : rgs2 (.int i) (.int j) = some (i, j) := by
  show (if _ then _ else _) = _
  exact if_pos h
theorem lc2I_map {es : List D} {g : D → D} {eb : D → M D} (hz : es.length ≤ 4000) (h : ∀ e ∈ es, eb e = .pure (g e)) : lc2I (β := D) some (fun _ => .pure true) eb es = .pure (es.map g) := by
  unfold lc2I
  rw [if_pos hz, lcM_pure (h := fun d => some (g d)) fun d hd => by simp [h d hd]]
  simp
theorem lc2F_map {ds es : List D} {g : D → D → D} {it1 : D → M (List D)} {eb : D → D → M D} (hz : ds.length ≤ 4000) (hz2 : es.length ≤ 4000) (h1 : ∀ d ∈ ds, it1 d = .pure es) (h : ∀ d ∈ ds, ∀ e ∈ es, eb d e = .pure (g d e)) : lc2F some (fun _ => .pure true) it1 some (fun _ _ => .pure true) eb ds = .pure (ds.flatMap fun d => es.map (g d)) := by
  unfold lc2F
  rw [if_pos hz]
  have : ∀ ds : List D, (∀ d ∈ ds, it1 d = .pure es) → (∀ d ∈ ds, ∀ e ∈ es, eb d e = .pure (g d e)) → lc2M some (fun _ => .pure true) (fun b => (it1 b).bind fun es => lc2I (β := D) some (fun _ => .pure true) (eb b) es) ds = .pure (ds.flatMap fun d => es.map (g d)) := by
    intro ds
    induction ds with
    | nil => intro _ _; rfl
    | cons d ds ih =>
      intro h1 h2
      rw [lc2M, ih (fun x hx => h1 x (List.mem_cons_of_mem _ hx)) fun x hx => h2 x (List.mem_cons_of_mem _ hx)]
      simp only [M.o_some, M.pure_bind, if_true, h1 d List.mem_cons_self, lc2I_map hz2 fun e he => h2 d List.mem_cons_self e he, List.flatMap_cons]
  rw [this ds h1 h]
  rfl
def bnds : List D := rngD 1 12 ++ [.str "all"]
def knds : List D := bnds.flatMap fun a => bnds.map fun b => .tup [a, b]
theorem all_kinds_eq : f_all_kinds = .pure (.tup knds) := by
  unfold f_all_kinds
  have h1 : rgs2 (.int 1) (.int (12 + 1)) = some (1, 13) := rgs2_ok' (by omega)
  have h2 : D.add (.lst (rngD 1 12)) (.lst [.str "all"]) = some (.lst bnds) := by
    simp [D.add, rngD_len, bnds]
  have h3 : rgL (1, 13) = rngD 1 12 := rfl
  have hb : bnds.length = 13 := by simp [bnds, rngD_len]
  simp only [D.add_int, M.o_some, M.pure_bind, h1, h3, mkLst_eq (xs := [_]) (by simp), h2, seqO_lst]
  rw [lc2F_map (es := bnds) (g := fun a b => .tup [a, b]) (by omega) (by omega)]
  · rfl
  · intro d _; rfl
  · intro d _ e _
    simp [mkTup_eq]
theorem law_true' : Dr 1030 f_law fun d => d = .bl true := by
  unfold f_law
  have hrg : rg1 [.int 5] = some (rngD 0 5) := rg1_int (by omega)
  simp only [hrg, M.bind_assoc, M.o_some, M.pure_bind]
  refine dr_le (b1 := 205 * (rngD 0 5).length + 0) (by rw [rngD_len]; decide) (dr_bind (forL_all fun d _ => ?_) fun r hr => ?_)
  · refine dr_le (b1 := 5 + (200 + 0)) (by decide) (dr_bind kinds_right_dr fun a ha => ?_)
    subst ha
    simp [M.bind_assoc]
    refine dr_bind (b2 := 0) positions_right_dr fun a ha => ?_
    subst ha
    simp
    exact dr_pure (.inl rfl)
  · subst hr
    have h1 : rgs2 (.int 1) (.int 13) = some (1, 13) := rgs2_ok' (by omega)
    have h2 : D.add (.lst (rngD 1 12)) (.lst [.str "all"]) = some (.lst bnds) := by
      simp [D.add, rngD_len, bnds]
    have h3 : rgL (1, 13) = rngD 1 12 := rfl
    have hb : bnds.length = 13 := by simp [bnds, rngD_len]
    simp only [flT, all_kinds_eq, h1, h2, h3, M.o_some, M.pure_bind, mkLst_eq (xs := [_]) (by simp), mkLst_eq (xs := []) (by simp), seqO_lst]
    have hF : ∀ (f : D → D → M D), f = (fun s7 d => (lcF some (fun b10 => M.pure true) (fun b10 => M.o (mkTup [d, b10])) bnds).bind fun x => (M.o (s7.add (D.lst x))).bind fun v_due13 => M.pure v_due13) → ∀ (ds acc : List D), ds.length ≤ 1000 → acc.length + 13 * ds.length ≤ 100000 → forS f (.lst acc) ds = .pure (.lst (acc ++ ds.flatMap fun a => bnds.map fun b => .tup [a, b])) := by
      intro f hf ds
      induction ds with
      | nil => intro acc _ _; simp [forS]
      | cons d ds ih =>
        intro acc hd ha
        simp only [List.length_cons] at hd ha
        have hm : lcF some (fun b10 => M.pure true) (fun b10 => M.o (mkTup [d, b10])) bnds = .pure (bnds.map fun b => .tup [d, b]) := lcF_map (by omega) fun x _ => by simp [mkTup_eq]
        have hz : acc.length + (bnds.map fun b => D.tup [d, b]).length ≤ 16000000 := by rw [List.length_map]; omega
        have e : f (.lst acc) d = .pure (.lst (acc ++ bnds.map fun b => .tup [d, b])) := by
          rw [hf]
          simp only [hm, M.pure_bind, D.add, if_pos hz, M.o_some]
        show (f _ d).bind _ = _
        rw [e, M.pure_bind, ih _ (by omega) (by rw [List.length_append, List.length_map]; omega)]
        simp
    have hkl : knds.length = 169 := by
      decide +kernel
    have hlike : f__law_like 6 (.tup knds) (.tup knds) = .pure (.bl true) := like_refl 5 _ (pk_tup (n := 4) (by omega) fun x hx => by
      obtain ⟨a, ha, hx⟩ := List.mem_flatMap.mp hx
      obtain ⟨b, hb, rfl⟩ := List.mem_map.mp hx
      have hp : ∀ a ∈ bnds, ∀ n, a.pk n = true := fun a ha n => by
        rcases List.mem_append.mp ha with z | z
        · obtain ⟨i, hi⟩ := List.getElem?_of_mem z
          obtain ⟨_, rfl⟩ := rngD_get hi
          simp
        · rw [List.mem_singleton.mp z]; simp
      simp [D.pk, D.pks, hp a ha, hp b hb])
    rw [hF _ (by simp only [seqO_lst, M.o_some, M.pure_bind]) _ _ (by omega) (by simp; omega)]
    simp only [M.pure_bind, List.nil_append]
    have ek : (bnds.flatMap fun a => bnds.map fun b => D.tup [a, b]) = knds := rfl
    rw [ek]
    simp [hlike]
    exact dr_pure rfl
theorem law_true : wp f_law 0 (fun d _ => d = .bl true) fun _ _ _ => False := wp_of_dr law_true' (by decide)
end Dz
namespace Dz
open PySem PySem.Spec PyProof.Rows L2 LamX
section
variable {P : Program} {w : World} {mg : Str → Option Value} {base : Heap} {cs : Cs}
theorem okd_is_number {f : Addr} {fd : FuncData} (n_bool : mg "bool" = none) (n_int : mg "int" = none) (n_isinstance : mg "isinstance" = none) (F : FunD cs.K "is_number" "is_number" (defArgs st_is_number) (defBody st_is_number) (defScope st_is_number) [.non] [] f fd) (gm : mg "is_number" = some (.ref f)) : GF P w cs.K mg base "is_number" ps_is_number 3 (sp_is_number cs) f fd :=
  ⟨okD (k := 2) F sc_is_number len3 run_is_number (fun cdv A outer s H E hr => pss_is_number (fd := fd) (n_bool := n_bool) (n_int := n_int) (n_isinstance := n_isinstance) hr), gm, F.kp⟩
theorem okd_is_row {f : Addr} {fd : FuncData} (n_isinstance : mg "isinstance" = none) (n_len : mg "len" = none) (n_tuple : mg "tuple" = none) (F : FunD cs.K "is_row" "is_row" (defArgs st_is_row) (defBody st_is_row) (defScope st_is_row) [.non] [] f fd) (gm : mg "is_row" = some (.ref f)) : GF P w cs.K mg base "is_row" ps_is_row 3 (sp_is_row cs) f fd :=
  ⟨okD (k := 2) F sc_is_row len2 run_is_row (fun cdv A outer s H E hr => pss_is_row (fd := fd) (n_isinstance := n_isinstance) (n_len := n_len) (n_tuple := n_tuple) hr), gm, F.kp⟩
theorem okd_are_numbers {f : Addr} {fd : FuncData} {f_is_number : Addr} {fd_is_number : FuncData} (g_is_number : GF P w cs.K mg base "is_number" ps_is_number 3 (sp_is_number cs) f_is_number fd_is_number) {f_is_row : Addr} {fd_is_row : FuncData} (g_is_row : GF P w cs.K mg base "is_row" ps_is_row 3 (sp_is_row cs) f_is_row fd_is_row) (n_all : mg "all" = none) (b_is_number_3 : Bd cs.K fd_is_number ps_is_number []) (b_is_row_1 : Bd cs.K fd_is_row ps_is_row [.non]) (F : FunD cs.K "are_numbers" "are_numbers" (defArgs st_are_numbers) (defBody st_are_numbers) (defScope st_are_numbers) [.int 0] [] f fd) (gm : mg "are_numbers" = some (.ref f)) : GF P w cs.K mg base "are_numbers" ps_are_numbers 4 (sp_are_numbers cs) f fd :=
  ⟨okD (k := 3) F sc_are_numbers len3 run_are_numbers (fun cdv A outer s H E hr => pss_are_numbers (fd := fd) (g_is_number := g_is_number) (g_is_row := g_is_row) (n_all := n_all) (b_is_number_3 := b_is_number_3) (b_is_row_1 := b_is_row_1) hr), gm, F.kp⟩
theorem okd_is_bound {f : Addr} {fd : FuncData} {f_is_number : Addr} {fd_is_number : FuncData} (g_is_number : GF P w cs.K mg base "is_number" ps_is_number 3 (sp_is_number cs) f_is_number fd_is_number) (n_isinstance : mg "isinstance" = none) (n_str : mg "str" = none) (b_is_number_3 : Bd cs.K fd_is_number ps_is_number []) (F : FunD cs.K "is_bound" "is_bound" (defArgs st_is_bound) (defBody st_is_bound) (defScope st_is_bound) [] [] f fd) (gm : mg "is_bound" = some (.ref f)) : GF P w cs.K mg base "is_bound" ps_is_bound 4 (sp_is_bound cs) f fd :=
  ⟨okD (k := 3) F sc_is_bound len2 run_is_bound (fun cdv A outer s H E hr => pss_is_bound (fd := fd) (g_is_number := g_is_number) (n_isinstance := n_isinstance) (n_str := n_str) (b_is_number_3 := b_is_number_3) hr), gm, F.kp⟩
theorem okd_need_kind {f : Addr} {fd : FuncData} {tk_MOST_PEBBLES : Tok} (k_MOST_PEBBLES : mg "MOST_PEBBLES" = some (.int 12 tk_MOST_PEBBLES)) {tk_MOST_ROUNDS : Tok} (k_MOST_ROUNDS : mg "MOST_ROUNDS" = some (.int 12 tk_MOST_ROUNDS)) {f_is_bound : Addr} {fd_is_bound : FuncData} (g_is_bound : GF P w cs.K mg base "is_bound" ps_is_bound 4 (sp_is_bound cs) f_is_bound fd_is_bound) {f_is_row : Addr} {fd_is_row : FuncData} (g_is_row : GF P w cs.K mg base "is_row" ps_is_row 3 (sp_is_row cs) f_is_row fd_is_row) (T_BadKind : PySem.BadX.BadTxt P cs.K mg "BadKind" "value" (cs.ad 6)) (b_is_bound_2 : Bd cs.K fd_is_bound ps_is_bound []) (b_is_row_2 : Bd cs.K fd_is_row ps_is_row []) (F : FunD cs.K "need_kind" "need_kind" (defArgs st_need_kind) (defBody st_need_kind) (defScope st_need_kind) [] [] f fd) (gm : mg "need_kind" = some (.ref f)) : GF P w cs.K mg base "need_kind" ps_need_kind 5 (sp_need_kind cs) f fd :=
  ⟨okD (k := 4) F sc_need_kind len1 run_need_kind (fun cdv A outer s H E hr => pss_need_kind (fd := fd) (k_MOST_PEBBLES := k_MOST_PEBBLES) (k_MOST_ROUNDS := k_MOST_ROUNDS) (g_is_bound := g_is_bound) (g_is_row := g_is_row) (T_BadKind := T_BadKind) (b_is_bound_2 := b_is_bound_2) (b_is_row_2 := b_is_row_2) hr), gm, F.kp⟩
theorem okd_is_most {f : Addr} {fd : FuncData}  (F : FunD cs.K "is_most" "is_most" (defArgs st_is_most) (defBody st_is_most) (defScope st_is_most) [] [] f fd) (gm : mg "is_most" = some (.ref f)) : GF P w cs.K mg base "is_most" ps_is_most 3 (sp_is_most cs) f fd :=
  ⟨okD (k := 2) F sc_is_most len2 run_is_most (fun cdv A outer s H E hr => pss_is_most (fd := fd)  hr), gm, F.kp⟩
theorem okd_is_finer {f : Addr} {fd : FuncData} {f_is_most : Addr} {fd_is_most : FuncData} (g_is_most : GF P w cs.K mg base "is_most" ps_is_most 3 (sp_is_most cs) f_is_most fd_is_most) {f_need_kind : Addr} {fd_need_kind : FuncData} (g_need_kind : GF P w cs.K mg base "need_kind" ps_need_kind 5 (sp_need_kind cs) f_need_kind fd_need_kind) (b_is_most_2 : Bd cs.K fd_is_most ps_is_most []) (b_need_kind_1 : Bd cs.K fd_need_kind ps_need_kind []) (F : FunD cs.K "is_finer" "is_finer" (defArgs st_is_finer) (defBody st_is_finer) (defScope st_is_finer) [] [] f fd) (gm : mg "is_finer" = some (.ref f)) : GF P w cs.K mg base "is_finer" ps_is_finer 6 (sp_is_finer cs) f fd :=
  ⟨okD (k := 5) F sc_is_finer len2 run_is_finer (fun cdv A outer s H E hr => pss_is_finer (fd := fd) (g_is_most := g_is_most) (g_need_kind := g_need_kind) (b_is_most_2 := b_is_most_2) (b_need_kind_1 := b_need_kind_1) hr), gm, F.kp⟩
theorem okd_all_kinds {f : Addr} {fd : FuncData} {tk_MOST_PEBBLES : Tok} (k_MOST_PEBBLES : mg "MOST_PEBBLES" = some (.int 12 tk_MOST_PEBBLES)) {tk_MOST_ROUNDS : Tok} (k_MOST_ROUNDS : mg "MOST_ROUNDS" = some (.int 12 tk_MOST_ROUNDS)) (n_list : mg "list" = none) (n_range : mg "range" = none) (n_tuple : mg "tuple" = none) (F : FunD cs.K "all_kinds" "all_kinds" (defArgs st_all_kinds) (defBody st_all_kinds) (defScope st_all_kinds) [] [] f fd) (gm : mg "all_kinds" = some (.ref f)) : GF P w cs.K mg base "all_kinds" ps_all_kinds 3 (sp_all_kinds cs) f fd :=
  ⟨okD (k := 2) F sc_all_kinds len0 run_all_kinds (fun cdv A outer s H E hr => pss_all_kinds (fd := fd) (k_MOST_PEBBLES := k_MOST_PEBBLES) (k_MOST_ROUNDS := k_MOST_ROUNDS) (n_list := n_list) (n_range := n_range) (n_tuple := n_tuple) hr), gm, F.kp⟩
theorem okd_is_door {f : Addr} {fd : FuncData} {f_is_number : Addr} {fd_is_number : FuncData} (g_is_number : GF P w cs.K mg base "is_number" ps_is_number 3 (sp_is_number cs) f_is_number fd_is_number) {f_is_row : Addr} {fd_is_row : FuncData} (g_is_row : GF P w cs.K mg base "is_row" ps_is_row 3 (sp_is_row cs) f_is_row fd_is_row) (b_is_number_2 : Bd cs.K fd_is_number ps_is_number [.non]) (b_is_number_3 : Bd cs.K fd_is_number ps_is_number []) (b_is_row_2 : Bd cs.K fd_is_row ps_is_row []) (F : FunD cs.K "is_door" "is_door" (defArgs st_is_door) (defBody st_is_door) (defScope st_is_door) [] [] f fd) (gm : mg "is_door" = some (.ref f)) : GF P w cs.K mg base "is_door" ps_is_door 4 (sp_is_door cs) f fd :=
  ⟨okD (k := 3) F sc_is_door len2 run_is_door (fun cdv A outer s H E hr => pss_is_door (fd := fd) (g_is_number := g_is_number) (g_is_row := g_is_row) (b_is_number_2 := b_is_number_2) (b_is_number_3 := b_is_number_3) (b_is_row_2 := b_is_row_2) hr), gm, F.kp⟩
theorem okd_house_fault {f : Addr} {fd : FuncData} {tk_MOST_COLOUR : Tok} (k_MOST_COLOUR : mg "MOST_COLOUR" = some (.int 9 tk_MOST_COLOUR)) {f_are_numbers : Addr} {fd_are_numbers : FuncData} (g_are_numbers : GF P w cs.K mg base "are_numbers" ps_are_numbers 4 (sp_are_numbers cs) f_are_numbers fd_are_numbers) {f_is_door : Addr} {fd_is_door : FuncData} (g_is_door : GF P w cs.K mg base "is_door" ps_is_door 4 (sp_is_door cs) f_is_door fd_is_door) {f_is_row : Addr} {fd_is_row : FuncData} (g_is_row : GF P w cs.K mg base "is_row" ps_is_row 3 (sp_is_row cs) f_is_row fd_is_row) (n_enumerate : mg "enumerate" = none) (n_len : mg "len" = none) (b_are_numbers_2 : Bd cs.K fd_are_numbers ps_are_numbers [.int 0]) (b_is_door_2 : Bd cs.K fd_is_door ps_is_door []) (b_is_row_1 : Bd cs.K fd_is_row ps_is_row [.non]) (b_is_row_2 : Bd cs.K fd_is_row ps_is_row []) (F : FunD cs.K "house_fault" "house_fault" (defArgs st_house_fault) (defBody st_house_fault) (defScope st_house_fault) [] [] f fd) (gm : mg "house_fault" = some (.ref f)) : GF P w cs.K mg base "house_fault" ps_house_fault 5 (sp_house_fault cs) f fd :=
  ⟨okD (k := 4) F sc_house_fault len2 run_house_fault (fun cdv A outer s H E hr => pss_house_fault (fd := fd) (k_MOST_COLOUR := k_MOST_COLOUR) (g_are_numbers := g_are_numbers) (g_is_door := g_is_door) (g_is_row := g_is_row) (n_enumerate := n_enumerate) (n_len := n_len) (b_are_numbers_2 := b_are_numbers_2) (b_is_door_2 := b_is_door_2) (b_is_row_1 := b_is_row_1) (b_is_row_2 := b_is_row_2) hr), gm, F.kp⟩
theorem okd_need_house {f : Addr} {fd : FuncData} {tk_MOST_ROOMS : Tok} (k_MOST_ROOMS : mg "MOST_ROOMS" = some (.int 60 tk_MOST_ROOMS)) {f_house_fault : Addr} {fd_house_fault : FuncData} (g_house_fault : GF P w cs.K mg base "house_fault" ps_house_fault 5 (sp_house_fault cs) f_house_fault fd_house_fault) (T_BadHouse : PySem.BadX.BadTxt P cs.K mg "BadHouse" "place" (cs.ad 3)) (b_house_fault_2 : Bd cs.K fd_house_fault ps_house_fault []) (F : FunD cs.K "need_house" "need_house" (defArgs st_need_house) (defBody st_need_house) (defScope st_need_house) [] [] f fd) (gm : mg "need_house" = some (.ref f)) : GF P w cs.K mg base "need_house" ps_need_house 6 (sp_need_house cs) f fd :=
  ⟨okD (k := 5) F sc_need_house len1 run_need_house (fun cdv A outer s H E hr => pss_need_house (fd := fd) (k_MOST_ROOMS := k_MOST_ROOMS) (g_house_fault := g_house_fault) (T_BadHouse := T_BadHouse) (b_house_fault_2 := b_house_fault_2) hr), gm, F.kp⟩
theorem okd_need_position {f : Addr} {fd : FuncData} {f_is_number : Addr} {fd_is_number : FuncData} (g_is_number : GF P w cs.K mg base "is_number" ps_is_number 3 (sp_is_number cs) f_is_number fd_is_number) {f_is_row : Addr} {fd_is_row : FuncData} (g_is_row : GF P w cs.K mg base "is_row" ps_is_row 3 (sp_is_row cs) f_is_row fd_is_row) {f_need_house : Addr} {fd_need_house : FuncData} (g_need_house : GF P w cs.K mg base "need_house" ps_need_house 6 (sp_need_house cs) f_need_house fd_need_house) (n_len : mg "len" = none) (T_BadPosition : PySem.BadX.BadTxt P cs.K mg "BadPosition" "value" (cs.ad 7)) (b_is_number_3 : Bd cs.K fd_is_number ps_is_number []) (b_is_row_1 : Bd cs.K fd_is_row ps_is_row [.non]) (b_need_house_1 : Bd cs.K fd_need_house ps_need_house []) (F : FunD cs.K "need_position" "need_position" (defArgs st_need_position) (defBody st_need_position) (defScope st_need_position) [] [] f fd) (gm : mg "need_position" = some (.ref f)) : GF P w cs.K mg base "need_position" ps_need_position 7 (sp_need_position cs) f fd :=
  ⟨okD (k := 6) F sc_need_position len2 run_need_position (fun cdv A outer s H E hr => pss_need_position (fd := fd) (g_is_number := g_is_number) (g_is_row := g_is_row) (g_need_house := g_need_house) (n_len := n_len) (T_BadPosition := T_BadPosition) (b_is_number_3 := b_is_number_3) (b_is_row_1 := b_is_row_1) (b_need_house_1 := b_need_house_1) hr), gm, F.kp⟩
theorem okd__law_mixed {f : Addr} {fd : FuncData} (n_int : mg "int" = none) (F : FunD cs.K "_law_mixed" "_law_mixed" (defArgs st__law_mixed) (defBody st__law_mixed) (defScope st__law_mixed) [] [] f fd) (gm : mg "_law_mixed" = some (.ref f)) : GF P w cs.K mg base "_law_mixed" ps__law_mixed 3 (sp__law_mixed cs) f fd :=
  ⟨okD (k := 2) F sc__law_mixed (fun ds m Ph Pc h => by (repeat (first | (obtain ⟨h1, _⟩ := h; subst h1; rfl) | (obtain ⟨_, h⟩ := h)))) run__law_mixed (fun cdv A outer s H E hr => pss__law_mixed (fd := fd) (n_int := n_int) hr), gm, F.kp⟩
theorem okd__law_folded {f : Addr} {fd : FuncData} (n_enumerate : mg "enumerate" = none) (n_int : mg "int" = none) (n_range : mg "range" = none) (F : FunD cs.K "_law_folded" "_law_folded" (defArgs st__law_folded) (defBody st__law_folded) (defScope st__law_folded) [] [] f fd) (gm : mg "_law_folded" = some (.ref f)) : GF P w cs.K mg base "_law_folded" ps__law_folded 3 (sp__law_folded cs) f fd :=
  ⟨okD (k := 2) F sc__law_folded (fun ds m Ph Pc h => by (repeat (first | (obtain ⟨h1, _⟩ := h; subst h1; rfl) | (obtain ⟨_, h⟩ := h)))) run__law_folded (fun cdv A outer s H E hr => pss__law_folded (fd := fd) (n_enumerate := n_enumerate) (n_int := n_int) (n_range := n_range) hr), gm, F.kp⟩
theorem okd__law_draw {f : Addr} {fd : FuncData} {f__law_mixed : Addr} {fd__law_mixed : FuncData} (g__law_mixed : GF P w cs.K mg base "_law_mixed" ps__law_mixed 3 (sp__law_mixed cs) f__law_mixed fd__law_mixed) (n_int : mg "int" = none) (n_len : mg "len" = none) (b__law_mixed_2 : Bd cs.K fd__law_mixed ps__law_mixed []) (F : FunD cs.K "_law_draw" "_law_draw" (defArgs st__law_draw) (defBody st__law_draw) (defScope st__law_draw) [] [] f fd) (gm : mg "_law_draw" = some (.ref f)) : GF P w cs.K mg base "_law_draw" ps__law_draw 4 (sp__law_draw cs) f fd :=
  ⟨okD (k := 3) F sc__law_draw (fun ds m Ph Pc h => by (repeat (first | (obtain ⟨h1, _⟩ := h; subst h1; rfl) | (obtain ⟨_, h⟩ := h)))) run__law_draw (fun cdv A outer s H E hr => pss__law_draw (fd := fd) (g__law_mixed := g__law_mixed) (n_int := n_int) (n_len := n_len) (b__law_mixed_2 := b__law_mixed_2) hr), gm, F.kp⟩
theorem okd__law_begun {f : Addr} {fd : FuncData} {f__law_folded : Addr} {fd__law_folded : FuncData} (g__law_folded : GF P w cs.K mg base "_law_folded" ps__law_folded 3 (sp__law_folded cs) f__law_folded fd__law_folded) (b__law_folded_1 : Bd cs.K fd__law_folded ps__law_folded []) (F : FunD cs.K "_law_begun" "_law_begun" (defArgs st__law_begun) (defBody st__law_begun) (defScope st__law_begun) [] [] f fd) (gm : mg "_law_begun" = some (.ref f)) : GF P w cs.K mg base "_law_begun" ps__law_begun 4 (sp__law_begun cs) f fd :=
  ⟨okD (k := 3) F sc__law_begun (fun ds m Ph Pc h => by (repeat (first | (obtain ⟨h1, _⟩ := h; subst h1; rfl) | (obtain ⟨_, h⟩ := h)))) run__law_begun (fun cdv A outer s H E hr => pss__law_begun (fd := fd) (g__law_folded := g__law_folded) (b__law_folded_1 := b__law_folded_1) hr), gm, F.kp⟩
theorem okd__law_of {f : Addr} {fd : FuncData} {f__law_draw : Addr} {fd__law_draw : FuncData} (g__law_draw : GF P w cs.K mg base "_law_draw" ps__law_draw 4 (sp__law_draw cs) f__law_draw fd__law_draw) (n_len : mg "len" = none) (b__law_draw_2 : Bd cs.K fd__law_draw ps__law_draw []) (F : FunD cs.K "_law_of" "_law_of" (defArgs st__law_of) (defBody st__law_of) (defScope st__law_of) [] [] f fd) (gm : mg "_law_of" = some (.ref f)) : GF P w cs.K mg base "_law_of" ps__law_of 5 (sp__law_of cs) f fd :=
  ⟨okD (k := 4) F sc__law_of lenG1 run__law_of (fun cdv A outer s H E hr => pss__law_of (fd := fd) (g__law_draw := g__law_draw) (n_len := n_len) (b__law_draw_2 := b__law_draw_2) hr), gm, F.kp⟩
theorem okr__law_like {f : Addr} {fd : FuncData} (n_bool : mg "bool" = none) (n_int : mg "int" = none) (n_isinstance : mg "isinstance" = none) (n_len : mg "len" = none) (n_list : mg "list" = none) (n_range : mg "range" = none) (n_str : mg "str" = none) (n_tuple : mg "tuple" = none) (b__law_like_2 : Bd cs.K fd ps__law_like []) (F : FunD cs.K "_law_like" "_law_like" (defArgs st__law_like) (defBody st__law_like) (defScope st__law_like) [] [] f fd) (gm : mg "_law_like" = some (.ref f)) : ∀ n : Nat, GF P w cs.K mg base "_law_like" ps__law_like (3 + n) (sp__law_like cs n) f fd
  | 0 => ⟨⟨fun vs H Q E ⟨ds, m, Ph, Ps, _, _, h, _⟩ => (spno (a2_no fun _ _ => rfl) h).elim, fun A outer s H args us vs Q E hr he hb hv ⟨ds, m, Ph, Ps, _, _, h, _⟩ => (spno (a2_no fun _ _ => rfl) h).elim⟩, gm, F.kp⟩
  | n + 1 => ⟨okD (k := 3 + n) F sc__law_like len2 (run__law_like n) (fun cdv A outer s H E hr => pss__law_like (fd := fd) (k0 := 3 + n) (kself := 3 + n) (n_bool := n_bool) (n_int := n_int) (n_isinstance := n_isinstance) (n_len := n_len) (n_list := n_list) (n_range := n_range) (n_str := n_str) (n_tuple := n_tuple) (b__law_like_2 := b__law_like_2) (Nat.le_refl _) (okr__law_like (n_bool := n_bool) (n_int := n_int) (n_isinstance := n_isinstance) (n_len := n_len) (n_list := n_list) (n_range := n_range) (n_str := n_str) (n_tuple := n_tuple) (b__law_like_2 := b__law_like_2) F gm n) hr), gm, F.kp⟩
theorem okd__law_like {f : Addr} {fd : FuncData} (n_bool : mg "bool" = none) (n_int : mg "int" = none) (n_isinstance : mg "isinstance" = none) (n_len : mg "len" = none) (n_list : mg "list" = none) (n_range : mg "range" = none) (n_str : mg "str" = none) (n_tuple : mg "tuple" = none) (b__law_like_2 : Bd cs.K fd ps__law_like []) (F : FunD cs.K "_law_like" "_law_like" (defArgs st__law_like) (defBody st__law_like) (defScope st__law_like) [] [] f fd) (gm : mg "_law_like" = some (.ref f)) : GF P w cs.K mg base "_law_like" ps__law_like 9 (sp__law_like cs 6) f fd := okr__law_like (n_bool := n_bool) (n_int := n_int) (n_isinstance := n_isinstance) (n_len := n_len) (n_list := n_list) (n_range := n_range) (n_str := n_str) (n_tuple := n_tuple) (b__law_like_2 := b__law_like_2) F gm 6
theorem okd__law_house {f : Addr} {fd : FuncData} {f__law_draw : Addr} {fd__law_draw : FuncData} (g__law_draw : GF P w cs.K mg base "_law_draw" ps__law_draw 4 (sp__law_draw cs) f__law_draw fd__law_draw) (n_range : mg "range" = none) (n_tuple : mg "tuple" = none) (b__law_draw_2 : Bd cs.K fd__law_draw ps__law_draw []) (F : FunD cs.K "_law_house" "_law_house" (defArgs st__law_house) (defBody st__law_house) (defScope st__law_house) [] [] f fd) (gm : mg "_law_house" = some (.ref f)) : GF P w cs.K mg base "_law_house" ps__law_house 5 (sp__law_house cs) f fd :=
  ⟨okD (k := 4) F sc__law_house lenG2 run__law_house (fun cdv A outer s H E hr => pss__law_house (fd := fd) (g__law_draw := g__law_draw) (n_range := n_range) (n_tuple := n_tuple) (b__law_draw_2 := b__law_draw_2) hr), gm, F.kp⟩
theorem okd__law_kind {f : Addr} {fd : FuncData} {f__law_draw : Addr} {fd__law_draw : FuncData} (g__law_draw : GF P w cs.K mg base "_law_draw" ps__law_draw 4 (sp__law_draw cs) f__law_draw fd__law_draw) (b__law_draw_2 : Bd cs.K fd__law_draw ps__law_draw []) (F : FunD cs.K "_law_kind" "_law_kind" (defArgs st__law_kind) (defBody st__law_kind) (defScope st__law_kind) [] [] f fd) (gm : mg "_law_kind" = some (.ref f)) : GF P w cs.K mg base "_law_kind" ps__law_kind 5 (sp__law_kind cs) f fd :=
  ⟨okD (k := 4) F sc__law_kind lenG2 run__law_kind (fun cdv A outer s H E hr => pss__law_kind (fd := fd) (g__law_draw := g__law_draw) (b__law_draw_2 := b__law_draw_2) hr), gm, F.kp⟩
theorem okd__law_rank {f : Addr} {fd : FuncData} (n_isinstance : mg "isinstance" = none) (n_str : mg "str" = none) (F : FunD cs.K "_law_rank" "_law_rank" (defArgs st__law_rank) (defBody st__law_rank) (defScope st__law_rank) [] [] f fd) (gm : mg "_law_rank" = some (.ref f)) : GF P w cs.K mg base "_law_rank" ps__law_rank 3 (sp__law_rank cs) f fd :=
  ⟨okD (k := 2) F sc__law_rank len1 run__law_rank (fun cdv A outer s H E hr => pss__law_rank (fd := fd) (n_isinstance := n_isinstance) (n_str := n_str) hr), gm, F.kp⟩
theorem okd__law_is_bound {f : Addr} {fd : FuncData} (n_bool : mg "bool" = none) (n_int : mg "int" = none) (n_isinstance : mg "isinstance" = none) (n_str : mg "str" = none) (F : FunD cs.K "_law_is_bound" "_law_is_bound" (defArgs st__law_is_bound) (defBody st__law_is_bound) (defScope st__law_is_bound) [] [] f fd) (gm : mg "_law_is_bound" = some (.ref f)) : GF P w cs.K mg base "_law_is_bound" ps__law_is_bound 3 (sp__law_is_bound cs) f fd :=
  ⟨okD (k := 2) F sc__law_is_bound len1 run__law_is_bound (fun cdv A outer s H E hr => pss__law_is_bound (fd := fd) (n_bool := n_bool) (n_int := n_int) (n_isinstance := n_isinstance) (n_str := n_str) hr), gm, F.kp⟩
theorem okd__law_is_kind {f : Addr} {fd : FuncData} {f__law_is_bound : Addr} {fd__law_is_bound : FuncData} (g__law_is_bound : GF P w cs.K mg base "_law_is_bound" ps__law_is_bound 3 (sp__law_is_bound cs) f__law_is_bound fd__law_is_bound) (n_isinstance : mg "isinstance" = none) (n_len : mg "len" = none) (n_tuple : mg "tuple" = none) (b__law_is_bound_1 : Bd cs.K fd__law_is_bound ps__law_is_bound []) (F : FunD cs.K "_law_is_kind" "_law_is_kind" (defArgs st__law_is_kind) (defBody st__law_is_kind) (defScope st__law_is_kind) [] [] f fd) (gm : mg "_law_is_kind" = some (.ref f)) : GF P w cs.K mg base "_law_is_kind" ps__law_is_kind 4 (sp__law_is_kind cs) f fd :=
  ⟨okD (k := 3) F sc__law_is_kind len1 run__law_is_kind (fun cdv A outer s H E hr => pss__law_is_kind (fd := fd) (g__law_is_bound := g__law_is_bound) (n_isinstance := n_isinstance) (n_len := n_len) (n_tuple := n_tuple) (b__law_is_bound_1 := b__law_is_bound_1) hr), gm, F.kp⟩
theorem okd__law_is_position {f : Addr} {fd : FuncData} (n_bool : mg "bool" = none) (n_int : mg "int" = none) (n_isinstance : mg "isinstance" = none) (n_len : mg "len" = none) (n_tuple : mg "tuple" = none) (F : FunD cs.K "_law_is_position" "_law_is_position" (defArgs st__law_is_position) (defBody st__law_is_position) (defScope st__law_is_position) [] [] f fd) (gm : mg "_law_is_position" = some (.ref f)) : GF P w cs.K mg base "_law_is_position" ps__law_is_position 3 (sp__law_is_position cs) f fd :=
  ⟨okD (k := 2) F sc__law_is_position len2 run__law_is_position (fun cdv A outer s H E hr => pss__law_is_position (fd := fd) (n_bool := n_bool) (n_int := n_int) (n_isinstance := n_isinstance) (n_len := n_len) (n_tuple := n_tuple) hr), gm, F.kp⟩
theorem okd__law_kinds_right {f : Addr} {fd : FuncData} {f__law_is_kind : Addr} {fd__law_is_kind : FuncData} (g__law_is_kind : GF P w cs.K mg base "_law_is_kind" ps__law_is_kind 4 (sp__law_is_kind cs) f__law_is_kind fd__law_is_kind) {f__law_kind : Addr} {fd__law_kind : FuncData} (g__law_kind : GF P w cs.K mg base "_law_kind" ps__law_kind 5 (sp__law_kind cs) f__law_kind fd__law_kind) {f__law_like : Addr} {fd__law_like : FuncData} (g__law_like : GF P w cs.K mg base "_law_like" ps__law_like 9 (sp__law_like cs 6) f__law_like fd__law_like) {f__law_of : Addr} {fd__law_of : FuncData} (g__law_of : GF P w cs.K mg base "_law_of" ps__law_of 5 (sp__law_of cs) f__law_of fd__law_of) {f__law_rank : Addr} {fd__law_rank : FuncData} (g__law_rank : GF P w cs.K mg base "_law_rank" ps__law_rank 3 (sp__law_rank cs) f__law_rank fd__law_rank) {f_is_finer : Addr} {fd_is_finer : FuncData} (g_is_finer : GF P w cs.K mg base "is_finer" ps_is_finer 6 (sp_is_finer cs) f_is_finer fd_is_finer) {f_need_kind : Addr} {fd_need_kind : FuncData} (g_need_kind : GF P w cs.K mg base "need_kind" ps_need_kind 5 (sp_need_kind cs) f_need_kind fd_need_kind) (n_list : mg "list" = none) (b__law_is_kind_1 : Bd cs.K fd__law_is_kind ps__law_is_kind []) (b__law_kind_3 : Bd cs.K fd__law_kind ps__law_kind []) (b__law_like_2 : Bd cs.K fd__law_like ps__law_like []) (b__law_of_2 : Bd cs.K fd__law_of ps__law_of []) (b__law_rank_1 : Bd cs.K fd__law_rank ps__law_rank []) (b_is_finer_2 : Bd cs.K fd_is_finer ps_is_finer []) (b_need_kind_1 : Bd cs.K fd_need_kind ps_need_kind []) (b_is_finer_0_other_kind : BdG cs.K fd_is_finer ps_is_finer ["other", "kind"] 2 [1, 0]) (b_need_kind_0_kind : BdG cs.K fd_need_kind ps_need_kind ["kind"] 1 [0]) (gC_BadHouse : mg "BadHouse" = some (.ref (cs.ad 3))) (gC_BadKind : mg "BadKind" = some (.ref (cs.ad 6))) (gC_BadPosition : mg "BadPosition" = some (.ref (cs.ad 7))) {f__law_heard : Addr} {cd__law_heard : Value} (K__law_heard : TkF cs.K mg "_law_heard" "call" (defArgs st__law_heard) (defBody st__law_heard) (defScope st__law_heard) f__law_heard cd__law_heard) (xn_BadHouse_place : PySem.W.findIn cs.K (.ref (cs.ad 3)) "place" = some none) (xn_BadKind_value : PySem.W.findIn cs.K (.ref (cs.ad 6)) "value" = some none) (xn_BadPosition_value : PySem.W.findIn cs.K (.ref (cs.ad 7)) "value" = some none) (xc_BadHouse : XfC cs.K (cs.ad 3)) (xc_BadKind : XfC cs.K (cs.ad 6)) (xc_BadPosition : XfC cs.K (cs.ad 7)) {cm__law_kinds_right P__law_kinds_right : Addr} (TB__law_kinds_right : TabB base mg cm__law_kinds_right P__law_kinds_right) (mem__law_kinds_right : (P__law_kinds_right, (envOfC "_law_kinds_right" (defScope st__law_kinds_right) 0 0 .none).qual ++ Str.ofString "<lambda>") ∈ cs.T) (only__law_kinds_right : ∀ p ∈ cs.T, p.1 = P__law_kinds_right → p.2 = (envOfC "_law_kinds_right" (defScope st__law_kinds_right) 0 0 .none).qual ++ Str.ofString "<lambda>") (hcl : cs.cl = CL) (F : FunC cs.K "_law_kinds_right" "_law_kinds_right" (defArgs st__law_kinds_right) (defBody st__law_kinds_right) (defScope st__law_kinds_right) [] f fd (.ref cm__law_kinds_right)) (gm : mg "_law_kinds_right" = some (.ref f)) : GF P w cs.K mg base "_law_kinds_right" ps__law_kinds_right 12 (sp__law_kinds_right cs) f fd :=
  ⟨okDC (k := 11) F sc__law_kinds_right (fun ds m Ph Pc h => lenG0 ds m Ph Pc h.2) run__law_kinds_right (fun A outer s H E hr => pss__law_kinds_right (fd := fd) (cdv := .none) (g__law_is_kind := g__law_is_kind) (g__law_kind := g__law_kind) (g__law_like := g__law_like) (g__law_of := g__law_of) (g__law_rank := g__law_rank) (g_is_finer := g_is_finer) (g_need_kind := g_need_kind) (n_list := n_list) (b__law_is_kind_1 := b__law_is_kind_1) (b__law_kind_3 := b__law_kind_3) (b__law_like_2 := b__law_like_2) (b__law_of_2 := b__law_of_2) (b__law_rank_1 := b__law_rank_1) (b_is_finer_2 := b_is_finer_2) (b_need_kind_1 := b_need_kind_1) (b_is_finer_0_other_kind := b_is_finer_0_other_kind) (b_need_kind_0_kind := b_need_kind_0_kind) (gC_BadHouse := gC_BadHouse) (gC_BadKind := gC_BadKind) (gC_BadPosition := gC_BadPosition) (K__law_heard := K__law_heard) (xn_BadHouse_place := xn_BadHouse_place) (xn_BadKind_value := xn_BadKind_value) (xn_BadPosition_value := xn_BadPosition_value) (xc_BadHouse := xc_BadHouse) (xc_BadKind := xc_BadKind) (xc_BadPosition := xc_BadPosition) (TB__law_kinds_right := TB__law_kinds_right) (mem__law_kinds_right := mem__law_kinds_right) (only__law_kinds_right := only__law_kinds_right) (hcl := hcl) hr), gm, F.kp⟩
theorem okd__law_positions_right {f : Addr} {fd : FuncData} {f__law_draw : Addr} {fd__law_draw : FuncData} (g__law_draw : GF P w cs.K mg base "_law_draw" ps__law_draw 4 (sp__law_draw cs) f__law_draw fd__law_draw) {f__law_house : Addr} {fd__law_house : FuncData} (g__law_house : GF P w cs.K mg base "_law_house" ps__law_house 5 (sp__law_house cs) f__law_house fd__law_house) {f__law_is_position : Addr} {fd__law_is_position : FuncData} (g__law_is_position : GF P w cs.K mg base "_law_is_position" ps__law_is_position 3 (sp__law_is_position cs) f__law_is_position fd__law_is_position) {f__law_like : Addr} {fd__law_like : FuncData} (g__law_like : GF P w cs.K mg base "_law_like" ps__law_like 9 (sp__law_like cs 6) f__law_like fd__law_like) {f__law_of : Addr} {fd__law_of : FuncData} (g__law_of : GF P w cs.K mg base "_law_of" ps__law_of 5 (sp__law_of cs) f__law_of fd__law_of) {f_need_position : Addr} {fd_need_position : FuncData} (g_need_position : GF P w cs.K mg base "need_position" ps_need_position 7 (sp_need_position cs) f_need_position fd_need_position) (n_len : mg "len" = none) (n_list : mg "list" = none) (n_range : mg "range" = none) (n_tuple : mg "tuple" = none) (b__law_draw_2 : Bd cs.K fd__law_draw ps__law_draw []) (b__law_house_3 : Bd cs.K fd__law_house ps__law_house []) (b__law_is_position_2 : Bd cs.K fd__law_is_position ps__law_is_position []) (b__law_like_2 : Bd cs.K fd__law_like ps__law_like []) (b__law_of_2 : Bd cs.K fd__law_of ps__law_of []) (b_need_position_2 : Bd cs.K fd_need_position ps_need_position []) (b_need_position_0_position_house : BdG cs.K fd_need_position ps_need_position ["position", "house"] 2 [1, 0]) (gC_BadHouse : mg "BadHouse" = some (.ref (cs.ad 3))) (gC_BadKind : mg "BadKind" = some (.ref (cs.ad 6))) (gC_BadPosition : mg "BadPosition" = some (.ref (cs.ad 7))) {f__law_heard : Addr} {cd__law_heard : Value} (K__law_heard : TkF cs.K mg "_law_heard" "call" (defArgs st__law_heard) (defBody st__law_heard) (defScope st__law_heard) f__law_heard cd__law_heard) (xn_BadHouse_place : PySem.W.findIn cs.K (.ref (cs.ad 3)) "place" = some none) (xn_BadKind_value : PySem.W.findIn cs.K (.ref (cs.ad 6)) "value" = some none) (xn_BadPosition_value : PySem.W.findIn cs.K (.ref (cs.ad 7)) "value" = some none) (xc_BadHouse : XfC cs.K (cs.ad 3)) (xc_BadKind : XfC cs.K (cs.ad 6)) (xc_BadPosition : XfC cs.K (cs.ad 7)) {cm__law_positions_right P__law_positions_right : Addr} (TB__law_positions_right : TabB base mg cm__law_positions_right P__law_positions_right) (mem__law_positions_right : (P__law_positions_right, (envOfC "_law_positions_right" (defScope st__law_positions_right) 0 0 .none).qual ++ Str.ofString "<lambda>") ∈ cs.T) (only__law_positions_right : ∀ p ∈ cs.T, p.1 = P__law_positions_right → p.2 = (envOfC "_law_positions_right" (defScope st__law_positions_right) 0 0 .none).qual ++ Str.ofString "<lambda>") (hcl : cs.cl = CL) (F : FunC cs.K "_law_positions_right" "_law_positions_right" (defArgs st__law_positions_right) (defBody st__law_positions_right) (defScope st__law_positions_right) [] f fd (.ref cm__law_positions_right)) (gm : mg "_law_positions_right" = some (.ref f)) : GF P w cs.K mg base "_law_positions_right" ps__law_positions_right 12 (sp__law_positions_right cs) f fd :=
  ⟨okDC (k := 11) F sc__law_positions_right (fun ds m Ph Pc h => lenG0 ds m Ph Pc h.2) run__law_positions_right (fun A outer s H E hr => pss__law_positions_right (fd := fd) (cdv := .none) (g__law_draw := g__law_draw) (g__law_house := g__law_house) (g__law_is_position := g__law_is_position) (g__law_like := g__law_like) (g__law_of := g__law_of) (g_need_position := g_need_position) (n_len := n_len) (n_list := n_list) (n_range := n_range) (n_tuple := n_tuple) (b__law_draw_2 := b__law_draw_2) (b__law_house_3 := b__law_house_3) (b__law_is_position_2 := b__law_is_position_2) (b__law_like_2 := b__law_like_2) (b__law_of_2 := b__law_of_2) (b_need_position_2 := b_need_position_2) (b_need_position_0_position_house := b_need_position_0_position_house) (gC_BadHouse := gC_BadHouse) (gC_BadKind := gC_BadKind) (gC_BadPosition := gC_BadPosition) (K__law_heard := K__law_heard) (xn_BadHouse_place := xn_BadHouse_place) (xn_BadKind_value := xn_BadKind_value) (xn_BadPosition_value := xn_BadPosition_value) (xc_BadHouse := xc_BadHouse) (xc_BadKind := xc_BadKind) (xc_BadPosition := xc_BadPosition) (TB__law_positions_right := TB__law_positions_right) (mem__law_positions_right := mem__law_positions_right) (only__law_positions_right := only__law_positions_right) (hcl := hcl) hr), gm, F.kp⟩
theorem okd_law {f : Addr} {fd : FuncData} {f__law_begun : Addr} {fd__law_begun : FuncData} (g__law_begun : GF P w cs.K mg base "_law_begun" ps__law_begun 4 (sp__law_begun cs) f__law_begun fd__law_begun) {f__law_kinds_right : Addr} {fd__law_kinds_right : FuncData} (g__law_kinds_right : GF P w cs.K mg base "_law_kinds_right" ps__law_kinds_right 12 (sp__law_kinds_right cs) f__law_kinds_right fd__law_kinds_right) {f__law_like : Addr} {fd__law_like : FuncData} (g__law_like : GF P w cs.K mg base "_law_like" ps__law_like 9 (sp__law_like cs 6) f__law_like fd__law_like) {f__law_positions_right : Addr} {fd__law_positions_right : FuncData} (g__law_positions_right : GF P w cs.K mg base "_law_positions_right" ps__law_positions_right 12 (sp__law_positions_right cs) f__law_positions_right fd__law_positions_right) {f_all_kinds : Addr} {fd_all_kinds : FuncData} (g_all_kinds : GF P w cs.K mg base "all_kinds" ps_all_kinds 3 (sp_all_kinds cs) f_all_kinds fd_all_kinds) (n_list : mg "list" = none) (n_range : mg "range" = none) (n_tuple : mg "tuple" = none) (b__law_begun_1 : Bd cs.K fd__law_begun ps__law_begun []) (b__law_kinds_right_1 : Bd cs.K fd__law_kinds_right ps__law_kinds_right []) (b__law_like_2 : Bd cs.K fd__law_like ps__law_like []) (b__law_positions_right_1 : Bd cs.K fd__law_positions_right ps__law_positions_right []) (b_all_kinds_0 : Bd cs.K fd_all_kinds ps_all_kinds []) (F : FunD cs.K "law" "law" (defArgs st_law) (defBody st_law) (defScope st_law) [] [] f fd) (gm : mg "law" = some (.ref f)) : GF P w cs.K mg base "law" ps_law 13 (sp_law cs) f fd :=
  ⟨okD (k := 12) F sc_law (fun ds m Ph Pc h => by (repeat (first | (obtain ⟨h1, _⟩ := h; subst h1; rfl) | (obtain ⟨_, h⟩ := h)))) run_law (fun cdv A outer s H E hr => pss_law (fd := fd) (g__law_begun := g__law_begun) (g__law_kinds_right := g__law_kinds_right) (g__law_like := g__law_like) (g__law_positions_right := g__law_positions_right) (g_all_kinds := g_all_kinds) (n_list := n_list) (n_range := n_range) (n_tuple := n_tuple) (b__law_begun_1 := b__law_begun_1) (b__law_kinds_right_1 := b__law_kinds_right_1) (b__law_like_2 := b__law_like_2) (b__law_positions_right_1 := b__law_positions_right_1) (b_all_kinds_0 := b_all_kinds_0) hr), gm, F.kp⟩
end
theorem all_mk {P q : Program} {w : World} {K : PySem.W.Frag} {h : Heap} {mg : Str → Option Value} {fa : Addr}
    {tk_MOST_COLOUR : Tok}
    {tk_MOST_PEBBLES : Tok}
    {tk_MOST_ROOMS : Tok}
    {tk_MOST_ROUNDS : Tok}
    {C_BadKind : Addr}
    {A_BadKind_0 : Addr} {N_BadKind fI_BadKind cc_BadKind cda_BadKind : Addr} {nm_BadKind qn_BadKind : Str} {bs_BadKind sub_BadKind : List Value} {sn_BadKind : List Str} {ab_BadKind : Bool} {col_BadKind : Option Bool} {dd_BadKind od_BadKind an_BadKind cdd_BadKind cld_BadKind : Option Addr} {m0_BadKind m1_BadKind m2_BadKind m3_BadKind m5_BadKind : Option Value} {oc_BadKind dc_BadKind pm_BadKind ct_BadKind ccl_BadKind cl_BadKind : Value} {sl_BadKind ccs_BadKind csl_BadKind : Array (Option Value)} {vs_BadKind : Array Value} {file_BadKind : Str} {tf_BadKind : Tok}
    {C_BadHouse : Addr}
    {A_BadHouse_0 : Addr} {N_BadHouse fI_BadHouse cc_BadHouse cda_BadHouse : Addr} {nm_BadHouse qn_BadHouse : Str} {bs_BadHouse sub_BadHouse : List Value} {sn_BadHouse : List Str} {ab_BadHouse : Bool} {col_BadHouse : Option Bool} {dd_BadHouse od_BadHouse an_BadHouse cdd_BadHouse cld_BadHouse : Option Addr} {m0_BadHouse m1_BadHouse m2_BadHouse m3_BadHouse m5_BadHouse : Option Value} {oc_BadHouse dc_BadHouse pm_BadHouse ct_BadHouse ccl_BadHouse cl_BadHouse : Value} {sl_BadHouse ccs_BadHouse csl_BadHouse : Array (Option Value)} {vs_BadHouse : Array Value} {file_BadHouse : Str} {tf_BadHouse : Tok}
    {C_BadPosition : Addr}
    {A_BadPosition_0 : Addr} {N_BadPosition fI_BadPosition cc_BadPosition cda_BadPosition : Addr} {nm_BadPosition qn_BadPosition : Str} {bs_BadPosition sub_BadPosition : List Value} {sn_BadPosition : List Str} {ab_BadPosition : Bool} {col_BadPosition : Option Bool} {dd_BadPosition od_BadPosition an_BadPosition cdd_BadPosition cld_BadPosition : Option Addr} {m0_BadPosition m1_BadPosition m2_BadPosition m3_BadPosition m5_BadPosition : Option Value} {oc_BadPosition dc_BadPosition pm_BadPosition ct_BadPosition ccl_BadPosition cl_BadPosition : Value} {sl_BadPosition ccs_BadPosition csl_BadPosition : Array (Option Value)} {vs_BadPosition : Array Value} {file_BadPosition : Str} {tf_BadPosition : Tok}
    {f_is_number : Addr} {oc_is_number kV_is_number dc_is_number pm_is_number cd_is_number ct_is_number : Value} {od_is_number an_is_number : Option Addr} {sl_is_number : Array (Option Value)}
    {T_is_number : Addr} {ocd_is_number : Value} {odd_is_number : Option Addr} {nd_is_number : Nat} {sld_is_number : Array (Option Value)}
    {f_is_row : Addr} {oc_is_row kV_is_row dc_is_row pm_is_row cd_is_row ct_is_row : Value} {od_is_row an_is_row : Option Addr} {sl_is_row : Array (Option Value)}
    {T_is_row : Addr} {ocd_is_row : Value} {odd_is_row : Option Addr} {nd_is_row : Nat} {sld_is_row : Array (Option Value)}
    {f_are_numbers : Addr} {oc_are_numbers kV_are_numbers dc_are_numbers pm_are_numbers cd_are_numbers ct_are_numbers : Value} {od_are_numbers an_are_numbers : Option Addr} {sl_are_numbers : Array (Option Value)}
    {T_are_numbers : Addr} {ocd_are_numbers : Value} {odd_are_numbers : Option Addr} {nd_are_numbers : Nat} {sld_are_numbers : Array (Option Value)}
    {td_are_numbers_0 : Tok}
    {f_is_bound : Addr} {oc_is_bound kV_is_bound dc_is_bound pm_is_bound cd_is_bound ct_is_bound : Value} {od_is_bound an_is_bound : Option Addr} {sl_is_bound : Array (Option Value)}
    {f_need_kind : Addr} {oc_need_kind kV_need_kind dc_need_kind pm_need_kind cd_need_kind ct_need_kind : Value} {od_need_kind an_need_kind : Option Addr} {sl_need_kind : Array (Option Value)}
    {f_is_most : Addr} {oc_is_most kV_is_most dc_is_most pm_is_most cd_is_most ct_is_most : Value} {od_is_most an_is_most : Option Addr} {sl_is_most : Array (Option Value)}
    {f_is_finer : Addr} {oc_is_finer kV_is_finer dc_is_finer pm_is_finer cd_is_finer ct_is_finer : Value} {od_is_finer an_is_finer : Option Addr} {sl_is_finer : Array (Option Value)}
    {f_all_kinds : Addr} {oc_all_kinds kV_all_kinds dc_all_kinds pm_all_kinds cd_all_kinds ct_all_kinds : Value} {od_all_kinds an_all_kinds : Option Addr} {sl_all_kinds : Array (Option Value)}
    {f_is_door : Addr} {oc_is_door kV_is_door dc_is_door pm_is_door cd_is_door ct_is_door : Value} {od_is_door an_is_door : Option Addr} {sl_is_door : Array (Option Value)}
    {f_house_fault : Addr} {oc_house_fault kV_house_fault dc_house_fault pm_house_fault cd_house_fault ct_house_fault : Value} {od_house_fault an_house_fault : Option Addr} {sl_house_fault : Array (Option Value)}
    {f_need_house : Addr} {oc_need_house kV_need_house dc_need_house pm_need_house cd_need_house ct_need_house : Value} {od_need_house an_need_house : Option Addr} {sl_need_house : Array (Option Value)}
    {f_need_position : Addr} {oc_need_position kV_need_position dc_need_position pm_need_position cd_need_position ct_need_position : Value} {od_need_position an_need_position : Option Addr} {sl_need_position : Array (Option Value)}
    {f__law_mixed : Addr} {oc__law_mixed kV__law_mixed dc__law_mixed pm__law_mixed cd__law_mixed ct__law_mixed : Value} {od__law_mixed an__law_mixed : Option Addr} {sl__law_mixed : Array (Option Value)}
    {f__law_folded : Addr} {oc__law_folded kV__law_folded dc__law_folded pm__law_folded cd__law_folded ct__law_folded : Value} {od__law_folded an__law_folded : Option Addr} {sl__law_folded : Array (Option Value)}
    {f__law_draw : Addr} {oc__law_draw kV__law_draw dc__law_draw pm__law_draw cd__law_draw ct__law_draw : Value} {od__law_draw an__law_draw : Option Addr} {sl__law_draw : Array (Option Value)}
    {f__law_begun : Addr} {oc__law_begun kV__law_begun dc__law_begun pm__law_begun cd__law_begun ct__law_begun : Value} {od__law_begun an__law_begun : Option Addr} {sl__law_begun : Array (Option Value)}
    {f__law_of : Addr} {oc__law_of kV__law_of dc__law_of pm__law_of cd__law_of ct__law_of : Value} {od__law_of an__law_of : Option Addr} {sl__law_of : Array (Option Value)}
    {f__law_like : Addr} {oc__law_like kV__law_like dc__law_like pm__law_like cd__law_like ct__law_like : Value} {od__law_like an__law_like : Option Addr} {sl__law_like : Array (Option Value)}
    {f__law_house : Addr} {oc__law_house kV__law_house dc__law_house pm__law_house cd__law_house ct__law_house : Value} {od__law_house an__law_house : Option Addr} {sl__law_house : Array (Option Value)}
    {f__law_kind : Addr} {oc__law_kind kV__law_kind dc__law_kind pm__law_kind cd__law_kind ct__law_kind : Value} {od__law_kind an__law_kind : Option Addr} {sl__law_kind : Array (Option Value)}
    {f__law_rank : Addr} {oc__law_rank kV__law_rank dc__law_rank pm__law_rank cd__law_rank ct__law_rank : Value} {od__law_rank an__law_rank : Option Addr} {sl__law_rank : Array (Option Value)}
    {f__law_is_bound : Addr} {oc__law_is_bound kV__law_is_bound dc__law_is_bound pm__law_is_bound cd__law_is_bound ct__law_is_bound : Value} {od__law_is_bound an__law_is_bound : Option Addr} {sl__law_is_bound : Array (Option Value)}
    {f__law_is_kind : Addr} {oc__law_is_kind kV__law_is_kind dc__law_is_kind pm__law_is_kind cd__law_is_kind ct__law_is_kind : Value} {od__law_is_kind an__law_is_kind : Option Addr} {sl__law_is_kind : Array (Option Value)}
    {f__law_is_position : Addr} {oc__law_is_position kV__law_is_position dc__law_is_position pm__law_is_position cd__law_is_position ct__law_is_position : Value} {od__law_is_position an__law_is_position : Option Addr} {sl__law_is_position : Array (Option Value)}
    {f__law_heard : Addr} {oc__law_heard kV__law_heard dc__law_heard pm__law_heard cd__law_heard ct__law_heard : Value} {od__law_heard an__law_heard : Option Addr} {sl__law_heard : Array (Option Value)}
    {f__law_kinds_right : Addr} {oc__law_kinds_right kV__law_kinds_right dc__law_kinds_right pm__law_kinds_right  ct__law_kinds_right : Value} {od__law_kinds_right an__law_kinds_right : Option Addr} {sl__law_kinds_right : Array (Option Value)}
    {cm__law_kinds_right P__law_kinds_right : Addr} {mcl__law_kinds_right : Value} {mcd__law_kinds_right : Option Addr} {mvs__law_kinds_right : Array Value} {msl__law_kinds_right : Array (Option Value)}
    {f__law_positions_right : Addr} {oc__law_positions_right kV__law_positions_right dc__law_positions_right pm__law_positions_right  ct__law_positions_right : Value} {od__law_positions_right an__law_positions_right : Option Addr} {sl__law_positions_right : Array (Option Value)}
    {cm__law_positions_right P__law_positions_right : Addr} {mcl__law_positions_right : Value} {mcd__law_positions_right : Option Addr} {mvs__law_positions_right : Array Value} {msl__law_positions_right : Array (Option Value)}
    {f_law : Addr} {oc_law kV_law dc_law pm_law cd_law ct_law : Value} {od_law an_law : Option Addr} {sl_law : Array (Option Value)} (X : K.In h) (G : h.Ns mainGlobals mg) (hfa : mg "law" = some (.ref fa)) (HT : HeadTabs q K mg h)
    (z_all : PySem.W.nsIn K mainGlobals "all" = some none)
    (z_bool : PySem.W.nsIn K mainGlobals "bool" = some none)
    (z_enumerate : PySem.W.nsIn K mainGlobals "enumerate" = some none)
    (z_int : PySem.W.nsIn K mainGlobals "int" = some none)
    (z_isinstance : PySem.W.nsIn K mainGlobals "isinstance" = some none)
    (z_len : PySem.W.nsIn K mainGlobals "len" = some none)
    (z_list : PySem.W.nsIn K mainGlobals "list" = some none)
    (z_range : PySem.W.nsIn K mainGlobals "range" = some none)
    (z_str : PySem.W.nsIn K mainGlobals "str" = some none)
    (z_tuple : PySem.W.nsIn K mainGlobals "tuple" = some none)
    (q_MOST_COLOUR : PySem.W.nsIn K mainGlobals "MOST_COLOUR" = some (some (.int 9 tk_MOST_COLOUR)))
    (q_MOST_PEBBLES : PySem.W.nsIn K mainGlobals "MOST_PEBBLES" = some (some (.int 12 tk_MOST_PEBBLES)))
    (q_MOST_ROOMS : PySem.W.nsIn K mainGlobals "MOST_ROOMS" = some (some (.int 60 tk_MOST_ROOMS)))
    (q_MOST_ROUNDS : PySem.W.nsIn K mainGlobals "MOST_ROUNDS" = some (some (.int 12 tk_MOST_ROUNDS)))
    (z_super : PySem.W.nsIn K mainGlobals "super" = some none)
    (ops : PySem.W.nsIn K PySem.cStatics "thirdparty.any" = some none)
    (aC_BadKind : PySem.W.nsIn K mainGlobals "BadKind" = some (some (.ref C_BadKind)))
    (eC_BadKind : PySem.W.subIn K (.ref C_BadKind) (.type "BaseException") = some true)
    (tC_BadKind : PySem.W.typeIn K (.ref C_BadKind) = some (.type "type"))
    (iC_BadKind : PySem.W.isClsIn K C_BadKind = true)
    (xL_BadKind : K.lookup C_BadKind = some (excClassObj nm_BadKind qn_BadKind C_BadKind N_BadKind bs_BadKind [.ref A_BadKind_0, .type "ValueError", .type "Exception", .type "BaseException", .type "object"] true sn_BadKind sub_BadKind ab_BadKind col_BadKind dd_BadKind m0_BadKind m1_BadKind m2_BadKind m3_BadKind m5_BadKind "ValueError.__new__"))
    (al_BadKind : PySem.W.alongIn K "__init__" [.ref A_BadKind_0, .type "ValueError", .type "Exception", .type "BaseException", .type "object"] = some (some (.builtin "ValueError.__init__")))
    (sB_BadKind : PySem.W.subIn K (.ref C_BadKind) (.type "ValueError") = some true)
    (a1_BadKind : PySem.W.findIn K (.ref C_BadKind) "__init__" = some (some (.ref fI_BadKind)))
    (t1_BadKind : PySem.W.typeIn K (.ref fI_BadKind) = some (.type "function"))
    (l1_BadKind : K.lookup fI_BadKind = some ⟨oc_BadKind, od_BadKind, .func (PySem.W.ksFn "__init__" "BadKind.__init__" (PySem.BadX.iA "value" ⟨11, 17, 11, 21⟩ ⟨11, 23, 11, 28⟩) (PySem.BadX.iB "value" "not such a kind" ⟨12, 8, 12, 13⟩ ⟨12, 8, 12, 15⟩ ⟨12, 8, 12, 24⟩ ⟨12, 25, 12, 42⟩ ⟨12, 8, 12, 43⟩ ⟨12, 8, 12, 43⟩ ⟨13, 8, 13, 12⟩ ⟨13, 8, 13, 18⟩ ⟨13, 21, 13, 26⟩ ⟨13, 8, 13, 26⟩) (PySem.BadX.iS "value") .none .none dc_BadKind pm_BadKind an_BadKind (.ref cda_BadKind) ct_BadKind cc_BadKind), sl_BadKind⟩)
    (c1_BadKind : PySem.W.codeIn K (.ref cda_BadKind) "BadKind.__init__" = true)
    (lc_BadKind : K.lookup cda_BadKind = some ⟨ccl_BadKind, cdd_BadKind, .fields vs_BadKind, ccs_BadKind⟩)
    (v2_BadKind : vs_BadKind[2]? = some (.str file_BadKind tf_BadKind))
    (fl_BadKind : ((P.main.file : Str) == file_BadKind) = true)
    (lq_BadKind : K.lookup cc_BadKind = some ⟨cl_BadKind, cld_BadKind, .cell (some (.ref C_BadKind)), csl_BadKind⟩)
    (sa_BadKind : PySem.W.findIn K (.ref C_BadKind) "__setattr__" = some (some (.builtin "object.__setattr__")))
    (ga_BadKind : PySem.W.findIn K (.ref C_BadKind) "__getattribute__" = some (some (.builtin "BaseException.__getattribute__")))
    (gg_BadKind : PySem.W.findIn K (.ref C_BadKind) "__getattr__" = some none)
    (nb_BadKind : PySem.W.findIn K (.ref C_BadKind) "value" = some none)
    (kC_BadKind : PySem.W.keepIn K (.ref C_BadKind) = true)
    (hC_BadKind : PySem.W.hasDictIn K C_BadKind = true)
    (aC_BadHouse : PySem.W.nsIn K mainGlobals "BadHouse" = some (some (.ref C_BadHouse)))
    (eC_BadHouse : PySem.W.subIn K (.ref C_BadHouse) (.type "BaseException") = some true)
    (tC_BadHouse : PySem.W.typeIn K (.ref C_BadHouse) = some (.type "type"))
    (iC_BadHouse : PySem.W.isClsIn K C_BadHouse = true)
    (xL_BadHouse : K.lookup C_BadHouse = some (excClassObj nm_BadHouse qn_BadHouse C_BadHouse N_BadHouse bs_BadHouse [.ref A_BadHouse_0, .type "ValueError", .type "Exception", .type "BaseException", .type "object"] true sn_BadHouse sub_BadHouse ab_BadHouse col_BadHouse dd_BadHouse m0_BadHouse m1_BadHouse m2_BadHouse m3_BadHouse m5_BadHouse "ValueError.__new__"))
    (al_BadHouse : PySem.W.alongIn K "__init__" [.ref A_BadHouse_0, .type "ValueError", .type "Exception", .type "BaseException", .type "object"] = some (some (.builtin "ValueError.__init__")))
    (sB_BadHouse : PySem.W.subIn K (.ref C_BadHouse) (.type "ValueError") = some true)
    (a1_BadHouse : PySem.W.findIn K (.ref C_BadHouse) "__init__" = some (some (.ref fI_BadHouse)))
    (t1_BadHouse : PySem.W.typeIn K (.ref fI_BadHouse) = some (.type "function"))
    (l1_BadHouse : K.lookup fI_BadHouse = some ⟨oc_BadHouse, od_BadHouse, .func (PySem.W.ksFn "__init__" "BadHouse.__init__" (PySem.BadX.iA "place" ⟨6, 17, 6, 21⟩ ⟨6, 23, 6, 28⟩) (PySem.BadX.iB "place" "not a house" ⟨7, 8, 7, 13⟩ ⟨7, 8, 7, 15⟩ ⟨7, 8, 7, 24⟩ ⟨7, 25, 7, 38⟩ ⟨7, 8, 7, 39⟩ ⟨7, 8, 7, 39⟩ ⟨8, 8, 8, 12⟩ ⟨8, 8, 8, 18⟩ ⟨8, 21, 8, 26⟩ ⟨8, 8, 8, 26⟩) (PySem.BadX.iS "place") .none .none dc_BadHouse pm_BadHouse an_BadHouse (.ref cda_BadHouse) ct_BadHouse cc_BadHouse), sl_BadHouse⟩)
    (c1_BadHouse : PySem.W.codeIn K (.ref cda_BadHouse) "BadHouse.__init__" = true)
    (lc_BadHouse : K.lookup cda_BadHouse = some ⟨ccl_BadHouse, cdd_BadHouse, .fields vs_BadHouse, ccs_BadHouse⟩)
    (v2_BadHouse : vs_BadHouse[2]? = some (.str file_BadHouse tf_BadHouse))
    (fl_BadHouse : ((P.main.file : Str) == file_BadHouse) = true)
    (lq_BadHouse : K.lookup cc_BadHouse = some ⟨cl_BadHouse, cld_BadHouse, .cell (some (.ref C_BadHouse)), csl_BadHouse⟩)
    (sa_BadHouse : PySem.W.findIn K (.ref C_BadHouse) "__setattr__" = some (some (.builtin "object.__setattr__")))
    (ga_BadHouse : PySem.W.findIn K (.ref C_BadHouse) "__getattribute__" = some (some (.builtin "BaseException.__getattribute__")))
    (gg_BadHouse : PySem.W.findIn K (.ref C_BadHouse) "__getattr__" = some none)
    (nb_BadHouse : PySem.W.findIn K (.ref C_BadHouse) "place" = some none)
    (kC_BadHouse : PySem.W.keepIn K (.ref C_BadHouse) = true)
    (hC_BadHouse : PySem.W.hasDictIn K C_BadHouse = true)
    (aC_BadPosition : PySem.W.nsIn K mainGlobals "BadPosition" = some (some (.ref C_BadPosition)))
    (eC_BadPosition : PySem.W.subIn K (.ref C_BadPosition) (.type "BaseException") = some true)
    (tC_BadPosition : PySem.W.typeIn K (.ref C_BadPosition) = some (.type "type"))
    (iC_BadPosition : PySem.W.isClsIn K C_BadPosition = true)
    (xL_BadPosition : K.lookup C_BadPosition = some (excClassObj nm_BadPosition qn_BadPosition C_BadPosition N_BadPosition bs_BadPosition [.ref A_BadPosition_0, .type "ValueError", .type "Exception", .type "BaseException", .type "object"] true sn_BadPosition sub_BadPosition ab_BadPosition col_BadPosition dd_BadPosition m0_BadPosition m1_BadPosition m2_BadPosition m3_BadPosition m5_BadPosition "ValueError.__new__"))
    (al_BadPosition : PySem.W.alongIn K "__init__" [.ref A_BadPosition_0, .type "ValueError", .type "Exception", .type "BaseException", .type "object"] = some (some (.builtin "ValueError.__init__")))
    (sB_BadPosition : PySem.W.subIn K (.ref C_BadPosition) (.type "ValueError") = some true)
    (a1_BadPosition : PySem.W.findIn K (.ref C_BadPosition) "__init__" = some (some (.ref fI_BadPosition)))
    (t1_BadPosition : PySem.W.typeIn K (.ref fI_BadPosition) = some (.type "function"))
    (l1_BadPosition : K.lookup fI_BadPosition = some ⟨oc_BadPosition, od_BadPosition, .func (PySem.W.ksFn "__init__" "BadPosition.__init__" (PySem.BadX.iA "value" ⟨16, 17, 16, 21⟩ ⟨16, 23, 16, 28⟩) (PySem.BadX.iB "value" "not such a position" ⟨17, 8, 17, 13⟩ ⟨17, 8, 17, 15⟩ ⟨17, 8, 17, 24⟩ ⟨17, 25, 17, 46⟩ ⟨17, 8, 17, 47⟩ ⟨17, 8, 17, 47⟩ ⟨18, 8, 18, 12⟩ ⟨18, 8, 18, 18⟩ ⟨18, 21, 18, 26⟩ ⟨18, 8, 18, 26⟩) (PySem.BadX.iS "value") .none .none dc_BadPosition pm_BadPosition an_BadPosition (.ref cda_BadPosition) ct_BadPosition cc_BadPosition), sl_BadPosition⟩)
    (c1_BadPosition : PySem.W.codeIn K (.ref cda_BadPosition) "BadPosition.__init__" = true)
    (lc_BadPosition : K.lookup cda_BadPosition = some ⟨ccl_BadPosition, cdd_BadPosition, .fields vs_BadPosition, ccs_BadPosition⟩)
    (v2_BadPosition : vs_BadPosition[2]? = some (.str file_BadPosition tf_BadPosition))
    (fl_BadPosition : ((P.main.file : Str) == file_BadPosition) = true)
    (lq_BadPosition : K.lookup cc_BadPosition = some ⟨cl_BadPosition, cld_BadPosition, .cell (some (.ref C_BadPosition)), csl_BadPosition⟩)
    (sa_BadPosition : PySem.W.findIn K (.ref C_BadPosition) "__setattr__" = some (some (.builtin "object.__setattr__")))
    (ga_BadPosition : PySem.W.findIn K (.ref C_BadPosition) "__getattribute__" = some (some (.builtin "BaseException.__getattribute__")))
    (gg_BadPosition : PySem.W.findIn K (.ref C_BadPosition) "__getattr__" = some none)
    (nb_BadPosition : PySem.W.findIn K (.ref C_BadPosition) "value" = some none)
    (kC_BadPosition : PySem.W.keepIn K (.ref C_BadPosition) = true)
    (hC_BadPosition : PySem.W.hasDictIn K C_BadPosition = true)
    (s_3_3 : PySem.W.subIn K (.ref C_BadHouse) (.ref C_BadHouse) = some true)
    (s_3_6 : PySem.W.subIn K (.ref C_BadHouse) (.ref C_BadKind) = some false)
    (s_3_7 : PySem.W.subIn K (.ref C_BadHouse) (.ref C_BadPosition) = some false)
    (s_6_3 : PySem.W.subIn K (.ref C_BadKind) (.ref C_BadHouse) = some false)
    (s_6_6 : PySem.W.subIn K (.ref C_BadKind) (.ref C_BadKind) = some true)
    (s_6_7 : PySem.W.subIn K (.ref C_BadKind) (.ref C_BadPosition) = some false)
    (s_7_3 : PySem.W.subIn K (.ref C_BadPosition) (.ref C_BadHouse) = some false)
    (s_7_6 : PySem.W.subIn K (.ref C_BadPosition) (.ref C_BadKind) = some false)
    (s_7_7 : PySem.W.subIn K (.ref C_BadPosition) (.ref C_BadPosition) = some true)
    (a_is_number : PySem.W.nsIn K mainGlobals "is_number" = some (some (.ref f_is_number)))
    (l_is_number : K.lookup f_is_number = some ⟨oc_is_number, od_is_number, .func (PySem.W.fnOf "is_number" "is_number" (defArgs st_is_number) (defBody st_is_number) (defScope st_is_number) (.ref T_is_number) kV_is_number dc_is_number pm_is_number an_is_number cd_is_number ct_is_number), sl_is_number⟩)
    (c_is_number : PySem.W.codeIn K cd_is_number "is_number" = true)
    (kp_is_number : PySem.W.keepIn K (.ref f_is_number) = true)
    (dl_is_number : K.lookup T_is_number = some ⟨ocd_is_number, odd_is_number, .seq ([.none] : List Value).toArray nd_is_number, sld_is_number⟩)
    (a_is_row : PySem.W.nsIn K mainGlobals "is_row" = some (some (.ref f_is_row)))
    (l_is_row : K.lookup f_is_row = some ⟨oc_is_row, od_is_row, .func (PySem.W.fnOf "is_row" "is_row" (defArgs st_is_row) (defBody st_is_row) (defScope st_is_row) (.ref T_is_row) kV_is_row dc_is_row pm_is_row an_is_row cd_is_row ct_is_row), sl_is_row⟩)
    (c_is_row : PySem.W.codeIn K cd_is_row "is_row" = true)
    (kp_is_row : PySem.W.keepIn K (.ref f_is_row) = true)
    (dl_is_row : K.lookup T_is_row = some ⟨ocd_is_row, odd_is_row, .seq ([.none] : List Value).toArray nd_is_row, sld_is_row⟩)
    (a_are_numbers : PySem.W.nsIn K mainGlobals "are_numbers" = some (some (.ref f_are_numbers)))
    (l_are_numbers : K.lookup f_are_numbers = some ⟨oc_are_numbers, od_are_numbers, .func (PySem.W.fnOf "are_numbers" "are_numbers" (defArgs st_are_numbers) (defBody st_are_numbers) (defScope st_are_numbers) (.ref T_are_numbers) kV_are_numbers dc_are_numbers pm_are_numbers an_are_numbers cd_are_numbers ct_are_numbers), sl_are_numbers⟩)
    (c_are_numbers : PySem.W.codeIn K cd_are_numbers "are_numbers" = true)
    (kp_are_numbers : PySem.W.keepIn K (.ref f_are_numbers) = true)
    (dl_are_numbers : K.lookup T_are_numbers = some ⟨ocd_are_numbers, odd_are_numbers, .seq ([.int 0 td_are_numbers_0] : List Value).toArray nd_are_numbers, sld_are_numbers⟩)
    (a_is_bound : PySem.W.nsIn K mainGlobals "is_bound" = some (some (.ref f_is_bound)))
    (l_is_bound : K.lookup f_is_bound = some ⟨oc_is_bound, od_is_bound, .func (PySem.W.fnOf "is_bound" "is_bound" (defArgs st_is_bound) (defBody st_is_bound) (defScope st_is_bound) .none kV_is_bound dc_is_bound pm_is_bound an_is_bound cd_is_bound ct_is_bound), sl_is_bound⟩)
    (c_is_bound : PySem.W.codeIn K cd_is_bound "is_bound" = true)
    (kp_is_bound : PySem.W.keepIn K (.ref f_is_bound) = true)
    (a_need_kind : PySem.W.nsIn K mainGlobals "need_kind" = some (some (.ref f_need_kind)))
    (l_need_kind : K.lookup f_need_kind = some ⟨oc_need_kind, od_need_kind, .func (PySem.W.fnOf "need_kind" "need_kind" (defArgs st_need_kind) (defBody st_need_kind) (defScope st_need_kind) .none kV_need_kind dc_need_kind pm_need_kind an_need_kind cd_need_kind ct_need_kind), sl_need_kind⟩)
    (c_need_kind : PySem.W.codeIn K cd_need_kind "need_kind" = true)
    (kp_need_kind : PySem.W.keepIn K (.ref f_need_kind) = true)
    (a_is_most : PySem.W.nsIn K mainGlobals "is_most" = some (some (.ref f_is_most)))
    (l_is_most : K.lookup f_is_most = some ⟨oc_is_most, od_is_most, .func (PySem.W.fnOf "is_most" "is_most" (defArgs st_is_most) (defBody st_is_most) (defScope st_is_most) .none kV_is_most dc_is_most pm_is_most an_is_most cd_is_most ct_is_most), sl_is_most⟩)
    (c_is_most : PySem.W.codeIn K cd_is_most "is_most" = true)
    (kp_is_most : PySem.W.keepIn K (.ref f_is_most) = true)
    (a_is_finer : PySem.W.nsIn K mainGlobals "is_finer" = some (some (.ref f_is_finer)))
    (l_is_finer : K.lookup f_is_finer = some ⟨oc_is_finer, od_is_finer, .func (PySem.W.fnOf "is_finer" "is_finer" (defArgs st_is_finer) (defBody st_is_finer) (defScope st_is_finer) .none kV_is_finer dc_is_finer pm_is_finer an_is_finer cd_is_finer ct_is_finer), sl_is_finer⟩)
    (c_is_finer : PySem.W.codeIn K cd_is_finer "is_finer" = true)
    (kp_is_finer : PySem.W.keepIn K (.ref f_is_finer) = true)
    (a_all_kinds : PySem.W.nsIn K mainGlobals "all_kinds" = some (some (.ref f_all_kinds)))
    (l_all_kinds : K.lookup f_all_kinds = some ⟨oc_all_kinds, od_all_kinds, .func (PySem.W.fnOf "all_kinds" "all_kinds" (defArgs st_all_kinds) (defBody st_all_kinds) (defScope st_all_kinds) .none kV_all_kinds dc_all_kinds pm_all_kinds an_all_kinds cd_all_kinds ct_all_kinds), sl_all_kinds⟩)
    (c_all_kinds : PySem.W.codeIn K cd_all_kinds "all_kinds" = true)
    (kp_all_kinds : PySem.W.keepIn K (.ref f_all_kinds) = true)
    (a_is_door : PySem.W.nsIn K mainGlobals "is_door" = some (some (.ref f_is_door)))
    (l_is_door : K.lookup f_is_door = some ⟨oc_is_door, od_is_door, .func (PySem.W.fnOf "is_door" "is_door" (defArgs st_is_door) (defBody st_is_door) (defScope st_is_door) .none kV_is_door dc_is_door pm_is_door an_is_door cd_is_door ct_is_door), sl_is_door⟩)
    (c_is_door : PySem.W.codeIn K cd_is_door "is_door" = true)
    (kp_is_door : PySem.W.keepIn K (.ref f_is_door) = true)
    (a_house_fault : PySem.W.nsIn K mainGlobals "house_fault" = some (some (.ref f_house_fault)))
    (l_house_fault : K.lookup f_house_fault = some ⟨oc_house_fault, od_house_fault, .func (PySem.W.fnOf "house_fault" "house_fault" (defArgs st_house_fault) (defBody st_house_fault) (defScope st_house_fault) .none kV_house_fault dc_house_fault pm_house_fault an_house_fault cd_house_fault ct_house_fault), sl_house_fault⟩)
    (c_house_fault : PySem.W.codeIn K cd_house_fault "house_fault" = true)
    (kp_house_fault : PySem.W.keepIn K (.ref f_house_fault) = true)
    (a_need_house : PySem.W.nsIn K mainGlobals "need_house" = some (some (.ref f_need_house)))
    (l_need_house : K.lookup f_need_house = some ⟨oc_need_house, od_need_house, .func (PySem.W.fnOf "need_house" "need_house" (defArgs st_need_house) (defBody st_need_house) (defScope st_need_house) .none kV_need_house dc_need_house pm_need_house an_need_house cd_need_house ct_need_house), sl_need_house⟩)
    (c_need_house : PySem.W.codeIn K cd_need_house "need_house" = true)
    (kp_need_house : PySem.W.keepIn K (.ref f_need_house) = true)
    (a_need_position : PySem.W.nsIn K mainGlobals "need_position" = some (some (.ref f_need_position)))
    (l_need_position : K.lookup f_need_position = some ⟨oc_need_position, od_need_position, .func (PySem.W.fnOf "need_position" "need_position" (defArgs st_need_position) (defBody st_need_position) (defScope st_need_position) .none kV_need_position dc_need_position pm_need_position an_need_position cd_need_position ct_need_position), sl_need_position⟩)
    (c_need_position : PySem.W.codeIn K cd_need_position "need_position" = true)
    (kp_need_position : PySem.W.keepIn K (.ref f_need_position) = true)
    (a__law_mixed : PySem.W.nsIn K mainGlobals "_law_mixed" = some (some (.ref f__law_mixed)))
    (l__law_mixed : K.lookup f__law_mixed = some ⟨oc__law_mixed, od__law_mixed, .func (PySem.W.fnOf "_law_mixed" "_law_mixed" (defArgs st__law_mixed) (defBody st__law_mixed) (defScope st__law_mixed) .none kV__law_mixed dc__law_mixed pm__law_mixed an__law_mixed cd__law_mixed ct__law_mixed), sl__law_mixed⟩)
    (c__law_mixed : PySem.W.codeIn K cd__law_mixed "_law_mixed" = true)
    (kp__law_mixed : PySem.W.keepIn K (.ref f__law_mixed) = true)
    (a__law_folded : PySem.W.nsIn K mainGlobals "_law_folded" = some (some (.ref f__law_folded)))
    (l__law_folded : K.lookup f__law_folded = some ⟨oc__law_folded, od__law_folded, .func (PySem.W.fnOf "_law_folded" "_law_folded" (defArgs st__law_folded) (defBody st__law_folded) (defScope st__law_folded) .none kV__law_folded dc__law_folded pm__law_folded an__law_folded cd__law_folded ct__law_folded), sl__law_folded⟩)
    (c__law_folded : PySem.W.codeIn K cd__law_folded "_law_folded" = true)
    (kp__law_folded : PySem.W.keepIn K (.ref f__law_folded) = true)
    (a__law_draw : PySem.W.nsIn K mainGlobals "_law_draw" = some (some (.ref f__law_draw)))
    (l__law_draw : K.lookup f__law_draw = some ⟨oc__law_draw, od__law_draw, .func (PySem.W.fnOf "_law_draw" "_law_draw" (defArgs st__law_draw) (defBody st__law_draw) (defScope st__law_draw) .none kV__law_draw dc__law_draw pm__law_draw an__law_draw cd__law_draw ct__law_draw), sl__law_draw⟩)
    (c__law_draw : PySem.W.codeIn K cd__law_draw "_law_draw" = true)
    (kp__law_draw : PySem.W.keepIn K (.ref f__law_draw) = true)
    (a__law_begun : PySem.W.nsIn K mainGlobals "_law_begun" = some (some (.ref f__law_begun)))
    (l__law_begun : K.lookup f__law_begun = some ⟨oc__law_begun, od__law_begun, .func (PySem.W.fnOf "_law_begun" "_law_begun" (defArgs st__law_begun) (defBody st__law_begun) (defScope st__law_begun) .none kV__law_begun dc__law_begun pm__law_begun an__law_begun cd__law_begun ct__law_begun), sl__law_begun⟩)
    (c__law_begun : PySem.W.codeIn K cd__law_begun "_law_begun" = true)
    (kp__law_begun : PySem.W.keepIn K (.ref f__law_begun) = true)
    (a__law_of : PySem.W.nsIn K mainGlobals "_law_of" = some (some (.ref f__law_of)))
    (l__law_of : K.lookup f__law_of = some ⟨oc__law_of, od__law_of, .func (PySem.W.fnOf "_law_of" "_law_of" (defArgs st__law_of) (defBody st__law_of) (defScope st__law_of) .none kV__law_of dc__law_of pm__law_of an__law_of cd__law_of ct__law_of), sl__law_of⟩)
    (c__law_of : PySem.W.codeIn K cd__law_of "_law_of" = true)
    (kp__law_of : PySem.W.keepIn K (.ref f__law_of) = true)
    (a__law_like : PySem.W.nsIn K mainGlobals "_law_like" = some (some (.ref f__law_like)))
    (l__law_like : K.lookup f__law_like = some ⟨oc__law_like, od__law_like, .func (PySem.W.fnOf "_law_like" "_law_like" (defArgs st__law_like) (defBody st__law_like) (defScope st__law_like) .none kV__law_like dc__law_like pm__law_like an__law_like cd__law_like ct__law_like), sl__law_like⟩)
    (c__law_like : PySem.W.codeIn K cd__law_like "_law_like" = true)
    (kp__law_like : PySem.W.keepIn K (.ref f__law_like) = true)
    (a__law_house : PySem.W.nsIn K mainGlobals "_law_house" = some (some (.ref f__law_house)))
    (l__law_house : K.lookup f__law_house = some ⟨oc__law_house, od__law_house, .func (PySem.W.fnOf "_law_house" "_law_house" (defArgs st__law_house) (defBody st__law_house) (defScope st__law_house) .none kV__law_house dc__law_house pm__law_house an__law_house cd__law_house ct__law_house), sl__law_house⟩)
    (c__law_house : PySem.W.codeIn K cd__law_house "_law_house" = true)
    (kp__law_house : PySem.W.keepIn K (.ref f__law_house) = true)
    (a__law_kind : PySem.W.nsIn K mainGlobals "_law_kind" = some (some (.ref f__law_kind)))
    (l__law_kind : K.lookup f__law_kind = some ⟨oc__law_kind, od__law_kind, .func (PySem.W.fnOf "_law_kind" "_law_kind" (defArgs st__law_kind) (defBody st__law_kind) (defScope st__law_kind) .none kV__law_kind dc__law_kind pm__law_kind an__law_kind cd__law_kind ct__law_kind), sl__law_kind⟩)
    (c__law_kind : PySem.W.codeIn K cd__law_kind "_law_kind" = true)
    (kp__law_kind : PySem.W.keepIn K (.ref f__law_kind) = true)
    (a__law_rank : PySem.W.nsIn K mainGlobals "_law_rank" = some (some (.ref f__law_rank)))
    (l__law_rank : K.lookup f__law_rank = some ⟨oc__law_rank, od__law_rank, .func (PySem.W.fnOf "_law_rank" "_law_rank" (defArgs st__law_rank) (defBody st__law_rank) (defScope st__law_rank) .none kV__law_rank dc__law_rank pm__law_rank an__law_rank cd__law_rank ct__law_rank), sl__law_rank⟩)
    (c__law_rank : PySem.W.codeIn K cd__law_rank "_law_rank" = true)
    (kp__law_rank : PySem.W.keepIn K (.ref f__law_rank) = true)
    (a__law_is_bound : PySem.W.nsIn K mainGlobals "_law_is_bound" = some (some (.ref f__law_is_bound)))
    (l__law_is_bound : K.lookup f__law_is_bound = some ⟨oc__law_is_bound, od__law_is_bound, .func (PySem.W.fnOf "_law_is_bound" "_law_is_bound" (defArgs st__law_is_bound) (defBody st__law_is_bound) (defScope st__law_is_bound) .none kV__law_is_bound dc__law_is_bound pm__law_is_bound an__law_is_bound cd__law_is_bound ct__law_is_bound), sl__law_is_bound⟩)
    (c__law_is_bound : PySem.W.codeIn K cd__law_is_bound "_law_is_bound" = true)
    (kp__law_is_bound : PySem.W.keepIn K (.ref f__law_is_bound) = true)
    (a__law_is_kind : PySem.W.nsIn K mainGlobals "_law_is_kind" = some (some (.ref f__law_is_kind)))
    (l__law_is_kind : K.lookup f__law_is_kind = some ⟨oc__law_is_kind, od__law_is_kind, .func (PySem.W.fnOf "_law_is_kind" "_law_is_kind" (defArgs st__law_is_kind) (defBody st__law_is_kind) (defScope st__law_is_kind) .none kV__law_is_kind dc__law_is_kind pm__law_is_kind an__law_is_kind cd__law_is_kind ct__law_is_kind), sl__law_is_kind⟩)
    (c__law_is_kind : PySem.W.codeIn K cd__law_is_kind "_law_is_kind" = true)
    (kp__law_is_kind : PySem.W.keepIn K (.ref f__law_is_kind) = true)
    (a__law_is_position : PySem.W.nsIn K mainGlobals "_law_is_position" = some (some (.ref f__law_is_position)))
    (l__law_is_position : K.lookup f__law_is_position = some ⟨oc__law_is_position, od__law_is_position, .func (PySem.W.fnOf "_law_is_position" "_law_is_position" (defArgs st__law_is_position) (defBody st__law_is_position) (defScope st__law_is_position) .none kV__law_is_position dc__law_is_position pm__law_is_position an__law_is_position cd__law_is_position ct__law_is_position), sl__law_is_position⟩)
    (c__law_is_position : PySem.W.codeIn K cd__law_is_position "_law_is_position" = true)
    (kp__law_is_position : PySem.W.keepIn K (.ref f__law_is_position) = true)
    (a__law_heard : PySem.W.nsIn K mainGlobals "_law_heard" = some (some (.ref f__law_heard)))
    (l__law_heard : K.lookup f__law_heard = some ⟨oc__law_heard, od__law_heard, .func (PySem.W.fnOf "_law_heard" "_law_heard" (defArgs st__law_heard) (defBody st__law_heard) (defScope st__law_heard) .none kV__law_heard dc__law_heard pm__law_heard an__law_heard cd__law_heard ct__law_heard), sl__law_heard⟩)
    (c__law_heard : PySem.W.codeIn K cd__law_heard "_law_heard" = true)
    (kp__law_heard : PySem.W.keepIn K (.ref f__law_heard) = true)
    (a__law_kinds_right : PySem.W.nsIn K mainGlobals "_law_kinds_right" = some (some (.ref f__law_kinds_right)))
    (l__law_kinds_right : K.lookup f__law_kinds_right = some ⟨oc__law_kinds_right, od__law_kinds_right, .func (PySem.W.fnOf "_law_kinds_right" "_law_kinds_right" (defArgs st__law_kinds_right) (defBody st__law_kinds_right) (defScope st__law_kinds_right) .none kV__law_kinds_right dc__law_kinds_right pm__law_kinds_right an__law_kinds_right (.ref cm__law_kinds_right) ct__law_kinds_right), sl__law_kinds_right⟩)
    (c__law_kinds_right : PySem.W.codeIn K (.ref cm__law_kinds_right) "_law_kinds_right" = true)
    (kp__law_kinds_right : PySem.W.keepIn K (.ref f__law_kinds_right) = true)
    (lcm__law_kinds_right : K.lookup cm__law_kinds_right = some ⟨mcl__law_kinds_right, mcd__law_kinds_right, .fields mvs__law_kinds_right, msl__law_kinds_right⟩)
    (v11__law_kinds_right : mvs__law_kinds_right[11]? = some (.ref P__law_kinds_right))
    (nT__law_kinds_right : K.lookup P__law_kinds_right = none)
    (hr__law_kinds_right : ((recsOf q).any fun e => e.name == ("_law_kinds_right" : Str)) = true)
    (a__law_positions_right : PySem.W.nsIn K mainGlobals "_law_positions_right" = some (some (.ref f__law_positions_right)))
    (l__law_positions_right : K.lookup f__law_positions_right = some ⟨oc__law_positions_right, od__law_positions_right, .func (PySem.W.fnOf "_law_positions_right" "_law_positions_right" (defArgs st__law_positions_right) (defBody st__law_positions_right) (defScope st__law_positions_right) .none kV__law_positions_right dc__law_positions_right pm__law_positions_right an__law_positions_right (.ref cm__law_positions_right) ct__law_positions_right), sl__law_positions_right⟩)
    (c__law_positions_right : PySem.W.codeIn K (.ref cm__law_positions_right) "_law_positions_right" = true)
    (kp__law_positions_right : PySem.W.keepIn K (.ref f__law_positions_right) = true)
    (lcm__law_positions_right : K.lookup cm__law_positions_right = some ⟨mcl__law_positions_right, mcd__law_positions_right, .fields mvs__law_positions_right, msl__law_positions_right⟩)
    (v11__law_positions_right : mvs__law_positions_right[11]? = some (.ref P__law_positions_right))
    (nT__law_positions_right : K.lookup P__law_positions_right = none)
    (hr__law_positions_right : ((recsOf q).any fun e => e.name == ("_law_positions_right" : Str)) = true)
    (a_law : PySem.W.nsIn K mainGlobals "law" = some (some (.ref f_law)))
    (l_law : K.lookup f_law = some ⟨oc_law, od_law, .func (PySem.W.fnOf "law" "law" (defArgs st_law) (defBody st_law) (defScope st_law) .none kV_law dc_law pm_law an_law cd_law ct_law), sl_law⟩)
    (c_law : PySem.W.codeIn K cd_law "law" = true)
    (kp_law : PySem.W.keepIn K (.ref f_law) = true)
    (ndT : (([P__law_kinds_right, P__law_positions_right] : List Addr)).Nodup)
    (htop : (P.main.scope.names.lookup ("super" : Str)).isSome = false) :
    ∃ (fd : FuncData) (cs : List (Addr × Addr)) (sp : Sp), (∀ p ∈ cs, h.get? p.2 = some { cls := .none, data := .fields #[] }) ∧ (∀ p ∈ cs, K.lookup p.2 = none) ∧ (∀ p ∈ cs, PySem.W.CodeHd h p.1 p.2) ∧ (∀ (s : Shared) (u : Value), BindsTo s fd ⟨[u], []⟩ [("script", u)]) ∧ (∀ (H : Hp) (a : Addr) (ns : List Int), ns.length ≤ 63 → (∀ z ∈ ns, Builtin.Int.intBits z ≤ 1048576) → (∀ p ∈ cs, H p.2 = some (.tbl #[])) → SqL K H a (ns.map V.int) → sp [.ref a] H (fun v _ => v = .bl true) fun _ _ _ => False) ∧
      ∀ base : Heap, K.In base → base.Ns mainGlobals mg → (∀ p ∈ cs, TabB base mg p.1 p.2) → FnOk P w K mg base (L2.CX P w) 13 fa fd ["script"] sp := by
  have e : f_law = fa := Value.ref.inj (Option.some.inj ((PySem.W.mg_of X G a_law).symm.trans hfa))
  subst e
  have T_BadKind : PySem.BadX.BadTxt P K mg "BadKind" "value" C_BadKind :=
    { gC := PySem.W.mg_of X G aC_BadKind, cls := ⟨_, _, _, _, _, _, _, _, _, _, _, _, _, _, _, _, _, _, _, PySem.BadX.base_VE, xL_BadKind, ⟨[A_BadKind_0], rfl⟩, al_BadKind, sB_BadKind⟩,
      fn := ⟨fI_BadKind, cc_BadKind, cda_BadKind, oc_BadKind, od_BadKind, dc_BadKind, pm_BadKind, an_BadKind, ct_BadKind, sl_BadKind, _, _, _, _, _, _, _, _, _, _, _, _, _, _, ccl_BadKind, cl_BadKind, cdd_BadKind, cld_BadKind, vs_BadKind, ccs_BadKind, csl_BadKind, file_BadKind, tf_BadKind, l1_BadKind, c1_BadKind, a1_BadKind, t1_BadKind, lc_BadKind, v2_BadKind, fl_BadKind, lq_BadKind, ⟨fun a b => rfl, fun L => ⟨⟨_, rfl⟩, rfl, rfl⟩⟩⟩,
      htop := htop, msuper := PySem.W.mg_none_of X G z_super, sa := sa_BadKind, ga := ga_BadKind, gg := gg_BadKind, noN := nb_BadKind, kC := kC_BadKind, exC := eC_BadKind, tyC := tC_BadKind, hdC := hC_BadKind, ops := ops, nf := by decide +kernel }
  have xc_BadKind : XfC K C_BadKind := ⟨ga_BadKind, gg_BadKind, eC_BadKind, hC_BadKind⟩
  have T_BadHouse : PySem.BadX.BadTxt P K mg "BadHouse" "place" C_BadHouse :=
    { gC := PySem.W.mg_of X G aC_BadHouse, cls := ⟨_, _, _, _, _, _, _, _, _, _, _, _, _, _, _, _, _, _, _, PySem.BadX.base_VE, xL_BadHouse, ⟨[A_BadHouse_0], rfl⟩, al_BadHouse, sB_BadHouse⟩,
      fn := ⟨fI_BadHouse, cc_BadHouse, cda_BadHouse, oc_BadHouse, od_BadHouse, dc_BadHouse, pm_BadHouse, an_BadHouse, ct_BadHouse, sl_BadHouse, _, _, _, _, _, _, _, _, _, _, _, _, _, _, ccl_BadHouse, cl_BadHouse, cdd_BadHouse, cld_BadHouse, vs_BadHouse, ccs_BadHouse, csl_BadHouse, file_BadHouse, tf_BadHouse, l1_BadHouse, c1_BadHouse, a1_BadHouse, t1_BadHouse, lc_BadHouse, v2_BadHouse, fl_BadHouse, lq_BadHouse, ⟨fun a b => rfl, fun L => ⟨⟨_, rfl⟩, rfl, rfl⟩⟩⟩,
      htop := htop, msuper := PySem.W.mg_none_of X G z_super, sa := sa_BadHouse, ga := ga_BadHouse, gg := gg_BadHouse, noN := nb_BadHouse, kC := kC_BadHouse, exC := eC_BadHouse, tyC := tC_BadHouse, hdC := hC_BadHouse, ops := ops, nf := by decide +kernel }
  have xc_BadHouse : XfC K C_BadHouse := ⟨ga_BadHouse, gg_BadHouse, eC_BadHouse, hC_BadHouse⟩
  have T_BadPosition : PySem.BadX.BadTxt P K mg "BadPosition" "value" C_BadPosition :=
    { gC := PySem.W.mg_of X G aC_BadPosition, cls := ⟨_, _, _, _, _, _, _, _, _, _, _, _, _, _, _, _, _, _, _, PySem.BadX.base_VE, xL_BadPosition, ⟨[A_BadPosition_0], rfl⟩, al_BadPosition, sB_BadPosition⟩,
      fn := ⟨fI_BadPosition, cc_BadPosition, cda_BadPosition, oc_BadPosition, od_BadPosition, dc_BadPosition, pm_BadPosition, an_BadPosition, ct_BadPosition, sl_BadPosition, _, _, _, _, _, _, _, _, _, _, _, _, _, _, ccl_BadPosition, cl_BadPosition, cdd_BadPosition, cld_BadPosition, vs_BadPosition, ccs_BadPosition, csl_BadPosition, file_BadPosition, tf_BadPosition, l1_BadPosition, c1_BadPosition, a1_BadPosition, t1_BadPosition, lc_BadPosition, v2_BadPosition, fl_BadPosition, lq_BadPosition, ⟨fun a b => rfl, fun L => ⟨⟨_, rfl⟩, rfl, rfl⟩⟩⟩,
      htop := htop, msuper := PySem.W.mg_none_of X G z_super, sa := sa_BadPosition, ga := ga_BadPosition, gg := gg_BadPosition, noN := nb_BadPosition, kC := kC_BadPosition, exC := eC_BadPosition, tyC := tC_BadPosition, hdC := hC_BadPosition, ops := ops, nf := by decide +kernel }
  have xc_BadPosition : XfC K C_BadPosition := ⟨ga_BadPosition, gg_BadPosition, eC_BadPosition, hC_BadPosition⟩
  have n_super := PySem.W.mg_none_of X G z_super
  have n_all := PySem.W.mg_none_of X G z_all
  have n_bool := PySem.W.mg_none_of X G z_bool
  have n_enumerate := PySem.W.mg_none_of X G z_enumerate
  have n_int := PySem.W.mg_none_of X G z_int
  have n_isinstance := PySem.W.mg_none_of X G z_isinstance
  have n_len := PySem.W.mg_none_of X G z_len
  have n_list := PySem.W.mg_none_of X G z_list
  have n_range := PySem.W.mg_none_of X G z_range
  have n_str := PySem.W.mg_none_of X G z_str
  have n_tuple := PySem.W.mg_none_of X G z_tuple
  have k_MOST_COLOUR := PySem.W.mg_of X G q_MOST_COLOUR
  have k_MOST_PEBBLES := PySem.W.mg_of X G q_MOST_PEBBLES
  have k_MOST_ROOMS := PySem.W.mg_of X G q_MOST_ROOMS
  have k_MOST_ROUNDS := PySem.W.mg_of X G q_MOST_ROUNDS
  have F_is_number : FunD K "is_number" "is_number" (defArgs st_is_number) (defBody st_is_number) (defScope st_is_number) [.non] [] f_is_number (PySem.W.fnOf "is_number" "is_number" (defArgs st_is_number) (defBody st_is_number) (defScope st_is_number) (.ref T_is_number) kV_is_number dc_is_number pm_is_number an_is_number cd_is_number ct_is_number) := ⟨⟨oc_is_number, od_is_number, _, kV_is_number, dc_is_number, pm_is_number, an_is_number, cd_is_number, ct_is_number, sl_is_number, rfl, l_is_number, c_is_number, .inr ⟨by simp, T_is_number, _, _, _, rfl, dl_is_number, rfl, (.cons rfl .nil)⟩, .inl rfl⟩, kp_is_number⟩
  have b_is_number_2 : Bd K (PySem.W.fnOf "is_number" "is_number" (defArgs st_is_number) (defBody st_is_number) (defScope st_is_number) (.ref T_is_number) kV_is_number dc_is_number pm_is_number an_is_number cd_is_number ct_is_number) ps_is_number [.non] := ⟨F_is_number.binds1 2 0 (by simp) (by decide) fun _ _ _ _ _ _ _ us its h1 h2 => match us, h1, its, h2 with | [_, _], _, [_], _ => ⟨_, rfl, rfl⟩⟩
  have b_is_number_3 : Bd K (PySem.W.fnOf "is_number" "is_number" (defArgs st_is_number) (defBody st_is_number) (defScope st_is_number) (.ref T_is_number) kV_is_number dc_is_number pm_is_number an_is_number cd_is_number ct_is_number) ps_is_number [] := ⟨F_is_number.binds1 3 1 (by simp) (by decide) fun _ _ _ _ _ _ _ us its h1 h2 => match us, h1, its, h2 with | [_, _, _], _, [_], _ => ⟨_, rfl, rfl⟩⟩
  have F_is_row : FunD K "is_row" "is_row" (defArgs st_is_row) (defBody st_is_row) (defScope st_is_row) [.non] [] f_is_row (PySem.W.fnOf "is_row" "is_row" (defArgs st_is_row) (defBody st_is_row) (defScope st_is_row) (.ref T_is_row) kV_is_row dc_is_row pm_is_row an_is_row cd_is_row ct_is_row) := ⟨⟨oc_is_row, od_is_row, _, kV_is_row, dc_is_row, pm_is_row, an_is_row, cd_is_row, ct_is_row, sl_is_row, rfl, l_is_row, c_is_row, .inr ⟨by simp, T_is_row, _, _, _, rfl, dl_is_row, rfl, (.cons rfl .nil)⟩, .inl rfl⟩, kp_is_row⟩
  have b_is_row_1 : Bd K (PySem.W.fnOf "is_row" "is_row" (defArgs st_is_row) (defBody st_is_row) (defScope st_is_row) (.ref T_is_row) kV_is_row dc_is_row pm_is_row an_is_row cd_is_row ct_is_row) ps_is_row [.non] := ⟨F_is_row.binds1 1 0 (by simp) (by decide) fun _ _ _ _ _ _ _ us its h1 h2 => match us, h1, its, h2 with | [_], _, [_], _ => ⟨_, rfl, rfl⟩⟩
  have b_is_row_2 : Bd K (PySem.W.fnOf "is_row" "is_row" (defArgs st_is_row) (defBody st_is_row) (defScope st_is_row) (.ref T_is_row) kV_is_row dc_is_row pm_is_row an_is_row cd_is_row ct_is_row) ps_is_row [] := ⟨F_is_row.binds1 2 1 (by simp) (by decide) fun _ _ _ _ _ _ _ us its h1 h2 => match us, h1, its, h2 with | [_, _], _, [_], _ => ⟨_, rfl, rfl⟩⟩
  have F_are_numbers : FunD K "are_numbers" "are_numbers" (defArgs st_are_numbers) (defBody st_are_numbers) (defScope st_are_numbers) [.int 0] [] f_are_numbers (PySem.W.fnOf "are_numbers" "are_numbers" (defArgs st_are_numbers) (defBody st_are_numbers) (defScope st_are_numbers) (.ref T_are_numbers) kV_are_numbers dc_are_numbers pm_are_numbers an_are_numbers cd_are_numbers ct_are_numbers) := ⟨⟨oc_are_numbers, od_are_numbers, _, kV_are_numbers, dc_are_numbers, pm_are_numbers, an_are_numbers, cd_are_numbers, ct_are_numbers, sl_are_numbers, rfl, l_are_numbers, c_are_numbers, .inr ⟨by simp, T_are_numbers, _, _, _, rfl, dl_are_numbers, rfl, (.cons ⟨_, rfl⟩ .nil)⟩, .inl rfl⟩, kp_are_numbers⟩
  have b_are_numbers_2 : Bd K (PySem.W.fnOf "are_numbers" "are_numbers" (defArgs st_are_numbers) (defBody st_are_numbers) (defScope st_are_numbers) (.ref T_are_numbers) kV_are_numbers dc_are_numbers pm_are_numbers an_are_numbers cd_are_numbers ct_are_numbers) ps_are_numbers [.int 0] := ⟨F_are_numbers.binds1 2 0 (by simp) (by decide) fun _ _ _ _ _ _ _ us its h1 h2 => match us, h1, its, h2 with | [_, _], _, [_], _ => ⟨_, rfl, rfl⟩⟩
  have F_is_bound : FunD K "is_bound" "is_bound" (defArgs st_is_bound) (defBody st_is_bound) (defScope st_is_bound) [] [] f_is_bound (PySem.W.fnOf "is_bound" "is_bound" (defArgs st_is_bound) (defBody st_is_bound) (defScope st_is_bound) .none kV_is_bound dc_is_bound pm_is_bound an_is_bound cd_is_bound ct_is_bound) := ⟨⟨oc_is_bound, od_is_bound, _, kV_is_bound, dc_is_bound, pm_is_bound, an_is_bound, cd_is_bound, ct_is_bound, sl_is_bound, rfl, l_is_bound, c_is_bound, .inl ⟨rfl, rfl⟩, .inl rfl⟩, kp_is_bound⟩
  have b_is_bound_2 : Bd K (PySem.W.fnOf "is_bound" "is_bound" (defArgs st_is_bound) (defBody st_is_bound) (defScope st_is_bound) .none kV_is_bound dc_is_bound pm_is_bound an_is_bound cd_is_bound ct_is_bound) ps_is_bound [] := ⟨[], .nil, F_is_bound.bindsN fun _ _ _ _ _ _ us hl => match us, hl with | [_, _], _ => rfl⟩
  have F_need_kind : FunD K "need_kind" "need_kind" (defArgs st_need_kind) (defBody st_need_kind) (defScope st_need_kind) [] [] f_need_kind (PySem.W.fnOf "need_kind" "need_kind" (defArgs st_need_kind) (defBody st_need_kind) (defScope st_need_kind) .none kV_need_kind dc_need_kind pm_need_kind an_need_kind cd_need_kind ct_need_kind) := ⟨⟨oc_need_kind, od_need_kind, _, kV_need_kind, dc_need_kind, pm_need_kind, an_need_kind, cd_need_kind, ct_need_kind, sl_need_kind, rfl, l_need_kind, c_need_kind, .inl ⟨rfl, rfl⟩, .inl rfl⟩, kp_need_kind⟩
  have b_need_kind_1 : Bd K (PySem.W.fnOf "need_kind" "need_kind" (defArgs st_need_kind) (defBody st_need_kind) (defScope st_need_kind) .none kV_need_kind dc_need_kind pm_need_kind an_need_kind cd_need_kind ct_need_kind) ps_need_kind [] := ⟨[], .nil, F_need_kind.bindsN fun _ _ _ _ _ _ us hl => match us, hl with | [_], _ => rfl⟩
  have b_need_kind_0_kind : BdG K (PySem.W.fnOf "need_kind" "need_kind" (defArgs st_need_kind) (defBody st_need_kind) (defScope st_need_kind) .none kV_need_kind dc_need_kind pm_need_kind an_need_kind cd_need_kind ct_need_kind) ps_need_kind ["kind"] 1 [0] := ⟨fun s us ws hw hh => let ⟨h1, h2⟩ := gk_inv (tot := 1) (fun ws h => match ws, h with | [_], _ => rfl) (by decide) hh; match us, ws, h1, h2 with | [], [_], _, _ => .of_eq rfl, fun a b => gk_vals a b⟩
  have F_is_most : FunD K "is_most" "is_most" (defArgs st_is_most) (defBody st_is_most) (defScope st_is_most) [] [] f_is_most (PySem.W.fnOf "is_most" "is_most" (defArgs st_is_most) (defBody st_is_most) (defScope st_is_most) .none kV_is_most dc_is_most pm_is_most an_is_most cd_is_most ct_is_most) := ⟨⟨oc_is_most, od_is_most, _, kV_is_most, dc_is_most, pm_is_most, an_is_most, cd_is_most, ct_is_most, sl_is_most, rfl, l_is_most, c_is_most, .inl ⟨rfl, rfl⟩, .inl rfl⟩, kp_is_most⟩
  have b_is_most_2 : Bd K (PySem.W.fnOf "is_most" "is_most" (defArgs st_is_most) (defBody st_is_most) (defScope st_is_most) .none kV_is_most dc_is_most pm_is_most an_is_most cd_is_most ct_is_most) ps_is_most [] := ⟨[], .nil, F_is_most.bindsN fun _ _ _ _ _ _ us hl => match us, hl with | [_, _], _ => rfl⟩
  have F_is_finer : FunD K "is_finer" "is_finer" (defArgs st_is_finer) (defBody st_is_finer) (defScope st_is_finer) [] [] f_is_finer (PySem.W.fnOf "is_finer" "is_finer" (defArgs st_is_finer) (defBody st_is_finer) (defScope st_is_finer) .none kV_is_finer dc_is_finer pm_is_finer an_is_finer cd_is_finer ct_is_finer) := ⟨⟨oc_is_finer, od_is_finer, _, kV_is_finer, dc_is_finer, pm_is_finer, an_is_finer, cd_is_finer, ct_is_finer, sl_is_finer, rfl, l_is_finer, c_is_finer, .inl ⟨rfl, rfl⟩, .inl rfl⟩, kp_is_finer⟩
  have b_is_finer_2 : Bd K (PySem.W.fnOf "is_finer" "is_finer" (defArgs st_is_finer) (defBody st_is_finer) (defScope st_is_finer) .none kV_is_finer dc_is_finer pm_is_finer an_is_finer cd_is_finer ct_is_finer) ps_is_finer [] := ⟨[], .nil, F_is_finer.bindsN fun _ _ _ _ _ _ us hl => match us, hl with | [_, _], _ => rfl⟩
  have b_is_finer_0_other_kind : BdG K (PySem.W.fnOf "is_finer" "is_finer" (defArgs st_is_finer) (defBody st_is_finer) (defScope st_is_finer) .none kV_is_finer dc_is_finer pm_is_finer an_is_finer cd_is_finer ct_is_finer) ps_is_finer ["other", "kind"] 2 [1, 0] := ⟨fun s us ws hw hh => let ⟨h1, h2⟩ := gk_inv (tot := 2) (fun ws h => match ws, h with | [_, _], _ => rfl) (by decide) hh; match us, ws, h1, h2 with | [], [_, _], _, _ => .of_eq rfl, fun a b => gk_vals a b⟩
  have F_all_kinds : FunD K "all_kinds" "all_kinds" (defArgs st_all_kinds) (defBody st_all_kinds) (defScope st_all_kinds) [] [] f_all_kinds (PySem.W.fnOf "all_kinds" "all_kinds" (defArgs st_all_kinds) (defBody st_all_kinds) (defScope st_all_kinds) .none kV_all_kinds dc_all_kinds pm_all_kinds an_all_kinds cd_all_kinds ct_all_kinds) := ⟨⟨oc_all_kinds, od_all_kinds, _, kV_all_kinds, dc_all_kinds, pm_all_kinds, an_all_kinds, cd_all_kinds, ct_all_kinds, sl_all_kinds, rfl, l_all_kinds, c_all_kinds, .inl ⟨rfl, rfl⟩, .inl rfl⟩, kp_all_kinds⟩
  have b_all_kinds_0 : Bd K (PySem.W.fnOf "all_kinds" "all_kinds" (defArgs st_all_kinds) (defBody st_all_kinds) (defScope st_all_kinds) .none kV_all_kinds dc_all_kinds pm_all_kinds an_all_kinds cd_all_kinds ct_all_kinds) ps_all_kinds [] := ⟨[], .nil, F_all_kinds.bindsN fun _ _ _ _ _ _ us hl => match us, hl with | [], _ => rfl⟩
  have F_is_door : FunD K "is_door" "is_door" (defArgs st_is_door) (defBody st_is_door) (defScope st_is_door) [] [] f_is_door (PySem.W.fnOf "is_door" "is_door" (defArgs st_is_door) (defBody st_is_door) (defScope st_is_door) .none kV_is_door dc_is_door pm_is_door an_is_door cd_is_door ct_is_door) := ⟨⟨oc_is_door, od_is_door, _, kV_is_door, dc_is_door, pm_is_door, an_is_door, cd_is_door, ct_is_door, sl_is_door, rfl, l_is_door, c_is_door, .inl ⟨rfl, rfl⟩, .inl rfl⟩, kp_is_door⟩
  have b_is_door_2 : Bd K (PySem.W.fnOf "is_door" "is_door" (defArgs st_is_door) (defBody st_is_door) (defScope st_is_door) .none kV_is_door dc_is_door pm_is_door an_is_door cd_is_door ct_is_door) ps_is_door [] := ⟨[], .nil, F_is_door.bindsN fun _ _ _ _ _ _ us hl => match us, hl with | [_, _], _ => rfl⟩
  have F_house_fault : FunD K "house_fault" "house_fault" (defArgs st_house_fault) (defBody st_house_fault) (defScope st_house_fault) [] [] f_house_fault (PySem.W.fnOf "house_fault" "house_fault" (defArgs st_house_fault) (defBody st_house_fault) (defScope st_house_fault) .none kV_house_fault dc_house_fault pm_house_fault an_house_fault cd_house_fault ct_house_fault) := ⟨⟨oc_house_fault, od_house_fault, _, kV_house_fault, dc_house_fault, pm_house_fault, an_house_fault, cd_house_fault, ct_house_fault, sl_house_fault, rfl, l_house_fault, c_house_fault, .inl ⟨rfl, rfl⟩, .inl rfl⟩, kp_house_fault⟩
  have b_house_fault_2 : Bd K (PySem.W.fnOf "house_fault" "house_fault" (defArgs st_house_fault) (defBody st_house_fault) (defScope st_house_fault) .none kV_house_fault dc_house_fault pm_house_fault an_house_fault cd_house_fault ct_house_fault) ps_house_fault [] := ⟨[], .nil, F_house_fault.bindsN fun _ _ _ _ _ _ us hl => match us, hl with | [_, _], _ => rfl⟩
  have F_need_house : FunD K "need_house" "need_house" (defArgs st_need_house) (defBody st_need_house) (defScope st_need_house) [] [] f_need_house (PySem.W.fnOf "need_house" "need_house" (defArgs st_need_house) (defBody st_need_house) (defScope st_need_house) .none kV_need_house dc_need_house pm_need_house an_need_house cd_need_house ct_need_house) := ⟨⟨oc_need_house, od_need_house, _, kV_need_house, dc_need_house, pm_need_house, an_need_house, cd_need_house, ct_need_house, sl_need_house, rfl, l_need_house, c_need_house, .inl ⟨rfl, rfl⟩, .inl rfl⟩, kp_need_house⟩
  have b_need_house_1 : Bd K (PySem.W.fnOf "need_house" "need_house" (defArgs st_need_house) (defBody st_need_house) (defScope st_need_house) .none kV_need_house dc_need_house pm_need_house an_need_house cd_need_house ct_need_house) ps_need_house [] := ⟨[], .nil, F_need_house.bindsN fun _ _ _ _ _ _ us hl => match us, hl with | [_], _ => rfl⟩
  have F_need_position : FunD K "need_position" "need_position" (defArgs st_need_position) (defBody st_need_position) (defScope st_need_position) [] [] f_need_position (PySem.W.fnOf "need_position" "need_position" (defArgs st_need_position) (defBody st_need_position) (defScope st_need_position) .none kV_need_position dc_need_position pm_need_position an_need_position cd_need_position ct_need_position) := ⟨⟨oc_need_position, od_need_position, _, kV_need_position, dc_need_position, pm_need_position, an_need_position, cd_need_position, ct_need_position, sl_need_position, rfl, l_need_position, c_need_position, .inl ⟨rfl, rfl⟩, .inl rfl⟩, kp_need_position⟩
  have b_need_position_2 : Bd K (PySem.W.fnOf "need_position" "need_position" (defArgs st_need_position) (defBody st_need_position) (defScope st_need_position) .none kV_need_position dc_need_position pm_need_position an_need_position cd_need_position ct_need_position) ps_need_position [] := ⟨[], .nil, F_need_position.bindsN fun _ _ _ _ _ _ us hl => match us, hl with | [_, _], _ => rfl⟩
  have b_need_position_0_position_house : BdG K (PySem.W.fnOf "need_position" "need_position" (defArgs st_need_position) (defBody st_need_position) (defScope st_need_position) .none kV_need_position dc_need_position pm_need_position an_need_position cd_need_position ct_need_position) ps_need_position ["position", "house"] 2 [1, 0] := ⟨fun s us ws hw hh => let ⟨h1, h2⟩ := gk_inv (tot := 2) (fun ws h => match ws, h with | [_, _], _ => rfl) (by decide) hh; match us, ws, h1, h2 with | [], [_, _], _, _ => .of_eq rfl, fun a b => gk_vals a b⟩
  have F__law_mixed : FunD K "_law_mixed" "_law_mixed" (defArgs st__law_mixed) (defBody st__law_mixed) (defScope st__law_mixed) [] [] f__law_mixed (PySem.W.fnOf "_law_mixed" "_law_mixed" (defArgs st__law_mixed) (defBody st__law_mixed) (defScope st__law_mixed) .none kV__law_mixed dc__law_mixed pm__law_mixed an__law_mixed cd__law_mixed ct__law_mixed) := ⟨⟨oc__law_mixed, od__law_mixed, _, kV__law_mixed, dc__law_mixed, pm__law_mixed, an__law_mixed, cd__law_mixed, ct__law_mixed, sl__law_mixed, rfl, l__law_mixed, c__law_mixed, .inl ⟨rfl, rfl⟩, .inl rfl⟩, kp__law_mixed⟩
  have b__law_mixed_2 : Bd K (PySem.W.fnOf "_law_mixed" "_law_mixed" (defArgs st__law_mixed) (defBody st__law_mixed) (defScope st__law_mixed) .none kV__law_mixed dc__law_mixed pm__law_mixed an__law_mixed cd__law_mixed ct__law_mixed) ps__law_mixed [] := ⟨[], .nil, F__law_mixed.bindsN fun _ _ _ _ _ _ us hl => match us, hl with | [_, _], _ => rfl⟩
  have F__law_folded : FunD K "_law_folded" "_law_folded" (defArgs st__law_folded) (defBody st__law_folded) (defScope st__law_folded) [] [] f__law_folded (PySem.W.fnOf "_law_folded" "_law_folded" (defArgs st__law_folded) (defBody st__law_folded) (defScope st__law_folded) .none kV__law_folded dc__law_folded pm__law_folded an__law_folded cd__law_folded ct__law_folded) := ⟨⟨oc__law_folded, od__law_folded, _, kV__law_folded, dc__law_folded, pm__law_folded, an__law_folded, cd__law_folded, ct__law_folded, sl__law_folded, rfl, l__law_folded, c__law_folded, .inl ⟨rfl, rfl⟩, .inl rfl⟩, kp__law_folded⟩
  have b__law_folded_1 : Bd K (PySem.W.fnOf "_law_folded" "_law_folded" (defArgs st__law_folded) (defBody st__law_folded) (defScope st__law_folded) .none kV__law_folded dc__law_folded pm__law_folded an__law_folded cd__law_folded ct__law_folded) ps__law_folded [] := ⟨[], .nil, F__law_folded.bindsN fun _ _ _ _ _ _ us hl => match us, hl with | [_], _ => rfl⟩
  have F__law_draw : FunD K "_law_draw" "_law_draw" (defArgs st__law_draw) (defBody st__law_draw) (defScope st__law_draw) [] [] f__law_draw (PySem.W.fnOf "_law_draw" "_law_draw" (defArgs st__law_draw) (defBody st__law_draw) (defScope st__law_draw) .none kV__law_draw dc__law_draw pm__law_draw an__law_draw cd__law_draw ct__law_draw) := ⟨⟨oc__law_draw, od__law_draw, _, kV__law_draw, dc__law_draw, pm__law_draw, an__law_draw, cd__law_draw, ct__law_draw, sl__law_draw, rfl, l__law_draw, c__law_draw, .inl ⟨rfl, rfl⟩, .inl rfl⟩, kp__law_draw⟩
  have b__law_draw_2 : Bd K (PySem.W.fnOf "_law_draw" "_law_draw" (defArgs st__law_draw) (defBody st__law_draw) (defScope st__law_draw) .none kV__law_draw dc__law_draw pm__law_draw an__law_draw cd__law_draw ct__law_draw) ps__law_draw [] := ⟨[], .nil, F__law_draw.bindsN fun _ _ _ _ _ _ us hl => match us, hl with | [_, _], _ => rfl⟩
  have F__law_begun : FunD K "_law_begun" "_law_begun" (defArgs st__law_begun) (defBody st__law_begun) (defScope st__law_begun) [] [] f__law_begun (PySem.W.fnOf "_law_begun" "_law_begun" (defArgs st__law_begun) (defBody st__law_begun) (defScope st__law_begun) .none kV__law_begun dc__law_begun pm__law_begun an__law_begun cd__law_begun ct__law_begun) := ⟨⟨oc__law_begun, od__law_begun, _, kV__law_begun, dc__law_begun, pm__law_begun, an__law_begun, cd__law_begun, ct__law_begun, sl__law_begun, rfl, l__law_begun, c__law_begun, .inl ⟨rfl, rfl⟩, .inl rfl⟩, kp__law_begun⟩
  have b__law_begun_1 : Bd K (PySem.W.fnOf "_law_begun" "_law_begun" (defArgs st__law_begun) (defBody st__law_begun) (defScope st__law_begun) .none kV__law_begun dc__law_begun pm__law_begun an__law_begun cd__law_begun ct__law_begun) ps__law_begun [] := ⟨[], .nil, F__law_begun.bindsN fun _ _ _ _ _ _ us hl => match us, hl with | [_], _ => rfl⟩
  have F__law_of : FunD K "_law_of" "_law_of" (defArgs st__law_of) (defBody st__law_of) (defScope st__law_of) [] [] f__law_of (PySem.W.fnOf "_law_of" "_law_of" (defArgs st__law_of) (defBody st__law_of) (defScope st__law_of) .none kV__law_of dc__law_of pm__law_of an__law_of cd__law_of ct__law_of) := ⟨⟨oc__law_of, od__law_of, _, kV__law_of, dc__law_of, pm__law_of, an__law_of, cd__law_of, ct__law_of, sl__law_of, rfl, l__law_of, c__law_of, .inl ⟨rfl, rfl⟩, .inl rfl⟩, kp__law_of⟩
  have b__law_of_2 : Bd K (PySem.W.fnOf "_law_of" "_law_of" (defArgs st__law_of) (defBody st__law_of) (defScope st__law_of) .none kV__law_of dc__law_of pm__law_of an__law_of cd__law_of ct__law_of) ps__law_of [] := ⟨[], .nil, F__law_of.bindsN fun _ _ _ _ _ _ us hl => match us, hl with | [_, _], _ => rfl⟩
  have F__law_like : FunD K "_law_like" "_law_like" (defArgs st__law_like) (defBody st__law_like) (defScope st__law_like) [] [] f__law_like (PySem.W.fnOf "_law_like" "_law_like" (defArgs st__law_like) (defBody st__law_like) (defScope st__law_like) .none kV__law_like dc__law_like pm__law_like an__law_like cd__law_like ct__law_like) := ⟨⟨oc__law_like, od__law_like, _, kV__law_like, dc__law_like, pm__law_like, an__law_like, cd__law_like, ct__law_like, sl__law_like, rfl, l__law_like, c__law_like, .inl ⟨rfl, rfl⟩, .inl rfl⟩, kp__law_like⟩
  have b__law_like_2 : Bd K (PySem.W.fnOf "_law_like" "_law_like" (defArgs st__law_like) (defBody st__law_like) (defScope st__law_like) .none kV__law_like dc__law_like pm__law_like an__law_like cd__law_like ct__law_like) ps__law_like [] := ⟨[], .nil, F__law_like.bindsN fun _ _ _ _ _ _ us hl => match us, hl with | [_, _], _ => rfl⟩
  have F__law_house : FunD K "_law_house" "_law_house" (defArgs st__law_house) (defBody st__law_house) (defScope st__law_house) [] [] f__law_house (PySem.W.fnOf "_law_house" "_law_house" (defArgs st__law_house) (defBody st__law_house) (defScope st__law_house) .none kV__law_house dc__law_house pm__law_house an__law_house cd__law_house ct__law_house) := ⟨⟨oc__law_house, od__law_house, _, kV__law_house, dc__law_house, pm__law_house, an__law_house, cd__law_house, ct__law_house, sl__law_house, rfl, l__law_house, c__law_house, .inl ⟨rfl, rfl⟩, .inl rfl⟩, kp__law_house⟩
  have b__law_house_3 : Bd K (PySem.W.fnOf "_law_house" "_law_house" (defArgs st__law_house) (defBody st__law_house) (defScope st__law_house) .none kV__law_house dc__law_house pm__law_house an__law_house cd__law_house ct__law_house) ps__law_house [] := ⟨[], .nil, F__law_house.bindsN fun _ _ _ _ _ _ us hl => match us, hl with | [_, _, _], _ => rfl⟩
  have F__law_kind : FunD K "_law_kind" "_law_kind" (defArgs st__law_kind) (defBody st__law_kind) (defScope st__law_kind) [] [] f__law_kind (PySem.W.fnOf "_law_kind" "_law_kind" (defArgs st__law_kind) (defBody st__law_kind) (defScope st__law_kind) .none kV__law_kind dc__law_kind pm__law_kind an__law_kind cd__law_kind ct__law_kind) := ⟨⟨oc__law_kind, od__law_kind, _, kV__law_kind, dc__law_kind, pm__law_kind, an__law_kind, cd__law_kind, ct__law_kind, sl__law_kind, rfl, l__law_kind, c__law_kind, .inl ⟨rfl, rfl⟩, .inl rfl⟩, kp__law_kind⟩
  have b__law_kind_3 : Bd K (PySem.W.fnOf "_law_kind" "_law_kind" (defArgs st__law_kind) (defBody st__law_kind) (defScope st__law_kind) .none kV__law_kind dc__law_kind pm__law_kind an__law_kind cd__law_kind ct__law_kind) ps__law_kind [] := ⟨[], .nil, F__law_kind.bindsN fun _ _ _ _ _ _ us hl => match us, hl with | [_, _, _], _ => rfl⟩
  have F__law_rank : FunD K "_law_rank" "_law_rank" (defArgs st__law_rank) (defBody st__law_rank) (defScope st__law_rank) [] [] f__law_rank (PySem.W.fnOf "_law_rank" "_law_rank" (defArgs st__law_rank) (defBody st__law_rank) (defScope st__law_rank) .none kV__law_rank dc__law_rank pm__law_rank an__law_rank cd__law_rank ct__law_rank) := ⟨⟨oc__law_rank, od__law_rank, _, kV__law_rank, dc__law_rank, pm__law_rank, an__law_rank, cd__law_rank, ct__law_rank, sl__law_rank, rfl, l__law_rank, c__law_rank, .inl ⟨rfl, rfl⟩, .inl rfl⟩, kp__law_rank⟩
  have b__law_rank_1 : Bd K (PySem.W.fnOf "_law_rank" "_law_rank" (defArgs st__law_rank) (defBody st__law_rank) (defScope st__law_rank) .none kV__law_rank dc__law_rank pm__law_rank an__law_rank cd__law_rank ct__law_rank) ps__law_rank [] := ⟨[], .nil, F__law_rank.bindsN fun _ _ _ _ _ _ us hl => match us, hl with | [_], _ => rfl⟩
  have F__law_is_bound : FunD K "_law_is_bound" "_law_is_bound" (defArgs st__law_is_bound) (defBody st__law_is_bound) (defScope st__law_is_bound) [] [] f__law_is_bound (PySem.W.fnOf "_law_is_bound" "_law_is_bound" (defArgs st__law_is_bound) (defBody st__law_is_bound) (defScope st__law_is_bound) .none kV__law_is_bound dc__law_is_bound pm__law_is_bound an__law_is_bound cd__law_is_bound ct__law_is_bound) := ⟨⟨oc__law_is_bound, od__law_is_bound, _, kV__law_is_bound, dc__law_is_bound, pm__law_is_bound, an__law_is_bound, cd__law_is_bound, ct__law_is_bound, sl__law_is_bound, rfl, l__law_is_bound, c__law_is_bound, .inl ⟨rfl, rfl⟩, .inl rfl⟩, kp__law_is_bound⟩
  have b__law_is_bound_1 : Bd K (PySem.W.fnOf "_law_is_bound" "_law_is_bound" (defArgs st__law_is_bound) (defBody st__law_is_bound) (defScope st__law_is_bound) .none kV__law_is_bound dc__law_is_bound pm__law_is_bound an__law_is_bound cd__law_is_bound ct__law_is_bound) ps__law_is_bound [] := ⟨[], .nil, F__law_is_bound.bindsN fun _ _ _ _ _ _ us hl => match us, hl with | [_], _ => rfl⟩
  have F__law_is_kind : FunD K "_law_is_kind" "_law_is_kind" (defArgs st__law_is_kind) (defBody st__law_is_kind) (defScope st__law_is_kind) [] [] f__law_is_kind (PySem.W.fnOf "_law_is_kind" "_law_is_kind" (defArgs st__law_is_kind) (defBody st__law_is_kind) (defScope st__law_is_kind) .none kV__law_is_kind dc__law_is_kind pm__law_is_kind an__law_is_kind cd__law_is_kind ct__law_is_kind) := ⟨⟨oc__law_is_kind, od__law_is_kind, _, kV__law_is_kind, dc__law_is_kind, pm__law_is_kind, an__law_is_kind, cd__law_is_kind, ct__law_is_kind, sl__law_is_kind, rfl, l__law_is_kind, c__law_is_kind, .inl ⟨rfl, rfl⟩, .inl rfl⟩, kp__law_is_kind⟩
  have b__law_is_kind_1 : Bd K (PySem.W.fnOf "_law_is_kind" "_law_is_kind" (defArgs st__law_is_kind) (defBody st__law_is_kind) (defScope st__law_is_kind) .none kV__law_is_kind dc__law_is_kind pm__law_is_kind an__law_is_kind cd__law_is_kind ct__law_is_kind) ps__law_is_kind [] := ⟨[], .nil, F__law_is_kind.bindsN fun _ _ _ _ _ _ us hl => match us, hl with | [_], _ => rfl⟩
  have F__law_is_position : FunD K "_law_is_position" "_law_is_position" (defArgs st__law_is_position) (defBody st__law_is_position) (defScope st__law_is_position) [] [] f__law_is_position (PySem.W.fnOf "_law_is_position" "_law_is_position" (defArgs st__law_is_position) (defBody st__law_is_position) (defScope st__law_is_position) .none kV__law_is_position dc__law_is_position pm__law_is_position an__law_is_position cd__law_is_position ct__law_is_position) := ⟨⟨oc__law_is_position, od__law_is_position, _, kV__law_is_position, dc__law_is_position, pm__law_is_position, an__law_is_position, cd__law_is_position, ct__law_is_position, sl__law_is_position, rfl, l__law_is_position, c__law_is_position, .inl ⟨rfl, rfl⟩, .inl rfl⟩, kp__law_is_position⟩
  have b__law_is_position_2 : Bd K (PySem.W.fnOf "_law_is_position" "_law_is_position" (defArgs st__law_is_position) (defBody st__law_is_position) (defScope st__law_is_position) .none kV__law_is_position dc__law_is_position pm__law_is_position an__law_is_position cd__law_is_position ct__law_is_position) ps__law_is_position [] := ⟨[], .nil, F__law_is_position.bindsN fun _ _ _ _ _ _ us hl => match us, hl with | [_, _], _ => rfl⟩
  have F__law_heard : FunD K "_law_heard" "_law_heard" (defArgs st__law_heard) (defBody st__law_heard) (defScope st__law_heard) [] [] f__law_heard (PySem.W.fnOf "_law_heard" "_law_heard" (defArgs st__law_heard) (defBody st__law_heard) (defScope st__law_heard) .none kV__law_heard dc__law_heard pm__law_heard an__law_heard cd__law_heard ct__law_heard) := ⟨⟨oc__law_heard, od__law_heard, _, kV__law_heard, dc__law_heard, pm__law_heard, an__law_heard, cd__law_heard, ct__law_heard, sl__law_heard, rfl, l__law_heard, c__law_heard, .inl ⟨rfl, rfl⟩, .inl rfl⟩, kp__law_heard⟩
  have K__law_heard : TkF K mg "_law_heard" "call" (defArgs st__law_heard) (defBody st__law_heard) (defScope st__law_heard) f__law_heard cd__law_heard := ⟨⟨oc__law_heard, od__law_heard, _, kV__law_heard, dc__law_heard, pm__law_heard, an__law_heard, ct__law_heard, sl__law_heard, l__law_heard, F__law_heard.bindsN fun _ _ _ _ _ _ us hl => match us, hl with | [_], _ => rfl⟩, c__law_heard, kp__law_heard, PySem.W.mg_of X G a__law_heard⟩
  have F__law_kinds_right : FunC K "_law_kinds_right" "_law_kinds_right" (defArgs st__law_kinds_right) (defBody st__law_kinds_right) (defScope st__law_kinds_right) [] f__law_kinds_right (PySem.W.fnOf "_law_kinds_right" "_law_kinds_right" (defArgs st__law_kinds_right) (defBody st__law_kinds_right) (defScope st__law_kinds_right) .none kV__law_kinds_right dc__law_kinds_right pm__law_kinds_right an__law_kinds_right (.ref cm__law_kinds_right) ct__law_kinds_right) (.ref cm__law_kinds_right) := ⟨⟨oc__law_kinds_right, od__law_kinds_right, _, kV__law_kinds_right, dc__law_kinds_right, pm__law_kinds_right, an__law_kinds_right, ct__law_kinds_right, sl__law_kinds_right, rfl, l__law_kinds_right, c__law_kinds_right, .inl ⟨rfl, rfl⟩⟩, kp__law_kinds_right⟩
  have FD__law_kinds_right : FunD K "_law_kinds_right" "_law_kinds_right" (defArgs st__law_kinds_right) (defBody st__law_kinds_right) (defScope st__law_kinds_right) [] [] f__law_kinds_right (PySem.W.fnOf "_law_kinds_right" "_law_kinds_right" (defArgs st__law_kinds_right) (defBody st__law_kinds_right) (defScope st__law_kinds_right) .none kV__law_kinds_right dc__law_kinds_right pm__law_kinds_right an__law_kinds_right (.ref cm__law_kinds_right) ct__law_kinds_right) := ⟨⟨oc__law_kinds_right, od__law_kinds_right, _, kV__law_kinds_right, dc__law_kinds_right, pm__law_kinds_right, an__law_kinds_right, (.ref cm__law_kinds_right), ct__law_kinds_right, sl__law_kinds_right, rfl, l__law_kinds_right, c__law_kinds_right, .inl ⟨rfl, rfl⟩, .inl rfl⟩, kp__law_kinds_right⟩
  have b__law_kinds_right_1 : Bd K (PySem.W.fnOf "_law_kinds_right" "_law_kinds_right" (defArgs st__law_kinds_right) (defBody st__law_kinds_right) (defScope st__law_kinds_right) .none kV__law_kinds_right dc__law_kinds_right pm__law_kinds_right an__law_kinds_right (.ref cm__law_kinds_right) ct__law_kinds_right) ps__law_kinds_right [] := ⟨[], .nil, FD__law_kinds_right.bindsN fun _ _ _ _ _ _ us hl => match us, hl with | [_], _ => rfl⟩
  have F__law_positions_right : FunC K "_law_positions_right" "_law_positions_right" (defArgs st__law_positions_right) (defBody st__law_positions_right) (defScope st__law_positions_right) [] f__law_positions_right (PySem.W.fnOf "_law_positions_right" "_law_positions_right" (defArgs st__law_positions_right) (defBody st__law_positions_right) (defScope st__law_positions_right) .none kV__law_positions_right dc__law_positions_right pm__law_positions_right an__law_positions_right (.ref cm__law_positions_right) ct__law_positions_right) (.ref cm__law_positions_right) := ⟨⟨oc__law_positions_right, od__law_positions_right, _, kV__law_positions_right, dc__law_positions_right, pm__law_positions_right, an__law_positions_right, ct__law_positions_right, sl__law_positions_right, rfl, l__law_positions_right, c__law_positions_right, .inl ⟨rfl, rfl⟩⟩, kp__law_positions_right⟩
  have FD__law_positions_right : FunD K "_law_positions_right" "_law_positions_right" (defArgs st__law_positions_right) (defBody st__law_positions_right) (defScope st__law_positions_right) [] [] f__law_positions_right (PySem.W.fnOf "_law_positions_right" "_law_positions_right" (defArgs st__law_positions_right) (defBody st__law_positions_right) (defScope st__law_positions_right) .none kV__law_positions_right dc__law_positions_right pm__law_positions_right an__law_positions_right (.ref cm__law_positions_right) ct__law_positions_right) := ⟨⟨oc__law_positions_right, od__law_positions_right, _, kV__law_positions_right, dc__law_positions_right, pm__law_positions_right, an__law_positions_right, (.ref cm__law_positions_right), ct__law_positions_right, sl__law_positions_right, rfl, l__law_positions_right, c__law_positions_right, .inl ⟨rfl, rfl⟩, .inl rfl⟩, kp__law_positions_right⟩
  have b__law_positions_right_1 : Bd K (PySem.W.fnOf "_law_positions_right" "_law_positions_right" (defArgs st__law_positions_right) (defBody st__law_positions_right) (defScope st__law_positions_right) .none kV__law_positions_right dc__law_positions_right pm__law_positions_right an__law_positions_right (.ref cm__law_positions_right) ct__law_positions_right) ps__law_positions_right [] := ⟨[], .nil, FD__law_positions_right.bindsN fun _ _ _ _ _ _ us hl => match us, hl with | [_], _ => rfl⟩
  have F_law : FunD K "law" "law" (defArgs st_law) (defBody st_law) (defScope st_law) [] [] f_law (PySem.W.fnOf "law" "law" (defArgs st_law) (defBody st_law) (defScope st_law) .none kV_law dc_law pm_law an_law cd_law ct_law) := ⟨⟨oc_law, od_law, _, kV_law, dc_law, pm_law, an_law, cd_law, ct_law, sl_law, rfl, l_law, c_law, .inl ⟨rfl, rfl⟩, .inl rfl⟩, kp_law⟩
  have t__law_kinds_right := HT "_law_kinds_right" f__law_kinds_right cm__law_kinds_right P__law_kinds_right _ _ _ _ _ _ hr__law_kinds_right (PySem.W.mg_of X G a__law_kinds_right) l__law_kinds_right rfl rfl lcm__law_kinds_right v11__law_kinds_right
  have t__law_positions_right := HT "_law_positions_right" f__law_positions_right cm__law_positions_right P__law_positions_right _ _ _ _ _ _ hr__law_positions_right (PySem.W.mg_of X G a__law_positions_right) l__law_positions_right rfl rfl lcm__law_positions_right v11__law_positions_right
  let cs : Cs := ⟨K, [(P__law_kinds_right, (envOfC "_law_kinds_right" (defScope st__law_kinds_right) 0 0 .none).qual ++ Str.ofString "<lambda>"), (P__law_positions_right, (envOfC "_law_positions_right" (defScope st__law_positions_right) 0 0 .none).qual ++ Str.ofString "<lambda>")], fun n => if n = 3 then C_BadHouse else if n = 6 then C_BadKind else if n = 7 then C_BadPosition else 0, CL, (fun c hc d hd => by
    simp only [CL, List.mem_cons, List.not_mem_nil, or_false] at hc hd
    rcases hc with rfl | rfl | rfl <;> rcases hd with rfl | rfl | rfl
    · exact exm_gen eC_BadHouse iC_BadHouse tC_BadHouse eC_BadHouse s_3_3
    · exact exm_gen eC_BadHouse iC_BadKind tC_BadKind eC_BadKind s_3_6
    · exact exm_gen eC_BadHouse iC_BadPosition tC_BadPosition eC_BadPosition s_3_7
    · exact exm_gen eC_BadKind iC_BadHouse tC_BadHouse eC_BadHouse s_6_3
    · exact exm_gen eC_BadKind iC_BadKind tC_BadKind eC_BadKind s_6_6
    · exact exm_gen eC_BadKind iC_BadPosition tC_BadPosition eC_BadPosition s_6_7
    · exact exm_gen eC_BadPosition iC_BadHouse tC_BadHouse eC_BadHouse s_7_3
    · exact exm_gen eC_BadPosition iC_BadKind tC_BadKind eC_BadKind s_7_6
    · exact exm_gen eC_BadPosition iC_BadPosition tC_BadPosition eC_BadPosition s_7_7)⟩
  have hcl : cs.cl = CL := rfl
  refine ⟨(PySem.W.fnOf "law" "law" (defArgs st_law) (defBody st_law) (defScope st_law) .none kV_law dc_law pm_law an_law cd_law ct_law), [(cm__law_kinds_right, P__law_kinds_right), (cm__law_positions_right, P__law_positions_right)], lift (sp_law cs), (List.forall_mem_cons.mpr ⟨t__law_kinds_right.2, (List.forall_mem_cons.mpr ⟨t__law_positions_right.2, (fun _ hp => nomatch hp)⟩)⟩), (List.forall_mem_cons.mpr ⟨nT__law_kinds_right, (List.forall_mem_cons.mpr ⟨nT__law_positions_right, (fun _ hp => nomatch hp)⟩)⟩), (List.forall_mem_cons.mpr ⟨t__law_kinds_right.1, (List.forall_mem_cons.mpr ⟨t__law_positions_right.1, (fun _ hp => nomatch hp)⟩)⟩), fun s u => .of_eq rfl, fun H a ns hl _ hH hS => law_spT law_true ndT (List.forall_mem_cons.mpr ⟨(hH (cm__law_kinds_right, P__law_kinds_right) (by simp)), (List.forall_mem_cons.mpr ⟨(hH (cm__law_positions_right, P__law_positions_right) (by simp)), (fun _ hp => nomatch hp)⟩)⟩) hl hS, fun base _ _ hTB => ?_⟩
  have TB__law_kinds_right : TabB base mg cm__law_kinds_right P__law_kinds_right := hTB (cm__law_kinds_right, P__law_kinds_right) (by simp)
  have mem__law_kinds_right : (P__law_kinds_right, (envOfC "_law_kinds_right" (defScope st__law_kinds_right) 0 0 .none).qual ++ Str.ofString "<lambda>") ∈ cs.T := by simp [cs]
  have only__law_kinds_right := only_of (T := cs.T) ndT mem__law_kinds_right
  have TB__law_positions_right : TabB base mg cm__law_positions_right P__law_positions_right := hTB (cm__law_positions_right, P__law_positions_right) (by simp)
  have mem__law_positions_right : (P__law_positions_right, (envOfC "_law_positions_right" (defScope st__law_positions_right) 0 0 .none).qual ++ Str.ofString "<lambda>") ∈ cs.T := by simp [cs]
  have only__law_positions_right := only_of (T := cs.T) ndT mem__law_positions_right
  have g_is_number : GF P w K mg base "is_number" ps_is_number 3 (sp_is_number cs) f_is_number _ := okd_is_number (cs := cs) (n_bool := n_bool) (n_int := n_int) (n_isinstance := n_isinstance) F_is_number (PySem.W.mg_of X G a_is_number)
  have g_is_row : GF P w K mg base "is_row" ps_is_row 3 (sp_is_row cs) f_is_row _ := okd_is_row (cs := cs) (n_isinstance := n_isinstance) (n_len := n_len) (n_tuple := n_tuple) F_is_row (PySem.W.mg_of X G a_is_row)
  have g_are_numbers : GF P w K mg base "are_numbers" ps_are_numbers 4 (sp_are_numbers cs) f_are_numbers _ := okd_are_numbers (cs := cs) (g_is_number := g_is_number) (g_is_row := g_is_row) (n_all := n_all) (b_is_number_3 := b_is_number_3) (b_is_row_1 := b_is_row_1) F_are_numbers (PySem.W.mg_of X G a_are_numbers)
  have g_is_bound : GF P w K mg base "is_bound" ps_is_bound 4 (sp_is_bound cs) f_is_bound _ := okd_is_bound (cs := cs) (g_is_number := g_is_number) (n_isinstance := n_isinstance) (n_str := n_str) (b_is_number_3 := b_is_number_3) F_is_bound (PySem.W.mg_of X G a_is_bound)
  have g_need_kind : GF P w K mg base "need_kind" ps_need_kind 5 (sp_need_kind cs) f_need_kind _ := okd_need_kind (cs := cs) (k_MOST_PEBBLES := k_MOST_PEBBLES) (k_MOST_ROUNDS := k_MOST_ROUNDS) (g_is_bound := g_is_bound) (g_is_row := g_is_row) (T_BadKind := T_BadKind) (b_is_bound_2 := b_is_bound_2) (b_is_row_2 := b_is_row_2) F_need_kind (PySem.W.mg_of X G a_need_kind)
  have g_is_most : GF P w K mg base "is_most" ps_is_most 3 (sp_is_most cs) f_is_most _ := okd_is_most (cs := cs)  F_is_most (PySem.W.mg_of X G a_is_most)
  have g_is_finer : GF P w K mg base "is_finer" ps_is_finer 6 (sp_is_finer cs) f_is_finer _ := okd_is_finer (cs := cs) (g_is_most := g_is_most) (g_need_kind := g_need_kind) (b_is_most_2 := b_is_most_2) (b_need_kind_1 := b_need_kind_1) F_is_finer (PySem.W.mg_of X G a_is_finer)
  have g_all_kinds : GF P w K mg base "all_kinds" ps_all_kinds 3 (sp_all_kinds cs) f_all_kinds _ := okd_all_kinds (cs := cs) (k_MOST_PEBBLES := k_MOST_PEBBLES) (k_MOST_ROUNDS := k_MOST_ROUNDS) (n_list := n_list) (n_range := n_range) (n_tuple := n_tuple) F_all_kinds (PySem.W.mg_of X G a_all_kinds)
  have g_is_door : GF P w K mg base "is_door" ps_is_door 4 (sp_is_door cs) f_is_door _ := okd_is_door (cs := cs) (g_is_number := g_is_number) (g_is_row := g_is_row) (b_is_number_2 := b_is_number_2) (b_is_number_3 := b_is_number_3) (b_is_row_2 := b_is_row_2) F_is_door (PySem.W.mg_of X G a_is_door)
  have g_house_fault : GF P w K mg base "house_fault" ps_house_fault 5 (sp_house_fault cs) f_house_fault _ := okd_house_fault (cs := cs) (k_MOST_COLOUR := k_MOST_COLOUR) (g_are_numbers := g_are_numbers) (g_is_door := g_is_door) (g_is_row := g_is_row) (n_enumerate := n_enumerate) (n_len := n_len) (b_are_numbers_2 := b_are_numbers_2) (b_is_door_2 := b_is_door_2) (b_is_row_1 := b_is_row_1) (b_is_row_2 := b_is_row_2) F_house_fault (PySem.W.mg_of X G a_house_fault)
  have g_need_house : GF P w K mg base "need_house" ps_need_house 6 (sp_need_house cs) f_need_house _ := okd_need_house (cs := cs) (k_MOST_ROOMS := k_MOST_ROOMS) (g_house_fault := g_house_fault) (T_BadHouse := T_BadHouse) (b_house_fault_2 := b_house_fault_2) F_need_house (PySem.W.mg_of X G a_need_house)
  have g_need_position : GF P w K mg base "need_position" ps_need_position 7 (sp_need_position cs) f_need_position _ := okd_need_position (cs := cs) (g_is_number := g_is_number) (g_is_row := g_is_row) (g_need_house := g_need_house) (n_len := n_len) (T_BadPosition := T_BadPosition) (b_is_number_3 := b_is_number_3) (b_is_row_1 := b_is_row_1) (b_need_house_1 := b_need_house_1) F_need_position (PySem.W.mg_of X G a_need_position)
  have g__law_mixed : GF P w K mg base "_law_mixed" ps__law_mixed 3 (sp__law_mixed cs) f__law_mixed _ := okd__law_mixed (cs := cs) (n_int := n_int) F__law_mixed (PySem.W.mg_of X G a__law_mixed)
  have g__law_folded : GF P w K mg base "_law_folded" ps__law_folded 3 (sp__law_folded cs) f__law_folded _ := okd__law_folded (cs := cs) (n_enumerate := n_enumerate) (n_int := n_int) (n_range := n_range) F__law_folded (PySem.W.mg_of X G a__law_folded)
  have g__law_draw : GF P w K mg base "_law_draw" ps__law_draw 4 (sp__law_draw cs) f__law_draw _ := okd__law_draw (cs := cs) (g__law_mixed := g__law_mixed) (n_int := n_int) (n_len := n_len) (b__law_mixed_2 := b__law_mixed_2) F__law_draw (PySem.W.mg_of X G a__law_draw)
  have g__law_begun : GF P w K mg base "_law_begun" ps__law_begun 4 (sp__law_begun cs) f__law_begun _ := okd__law_begun (cs := cs) (g__law_folded := g__law_folded) (b__law_folded_1 := b__law_folded_1) F__law_begun (PySem.W.mg_of X G a__law_begun)
  have g__law_of : GF P w K mg base "_law_of" ps__law_of 5 (sp__law_of cs) f__law_of _ := okd__law_of (cs := cs) (g__law_draw := g__law_draw) (n_len := n_len) (b__law_draw_2 := b__law_draw_2) F__law_of (PySem.W.mg_of X G a__law_of)
  have g__law_like : GF P w K mg base "_law_like" ps__law_like 9 (sp__law_like cs 6) f__law_like _ := okd__law_like (cs := cs) (n_bool := n_bool) (n_int := n_int) (n_isinstance := n_isinstance) (n_len := n_len) (n_list := n_list) (n_range := n_range) (n_str := n_str) (n_tuple := n_tuple) (b__law_like_2 := b__law_like_2) F__law_like (PySem.W.mg_of X G a__law_like)
  have g__law_house : GF P w K mg base "_law_house" ps__law_house 5 (sp__law_house cs) f__law_house _ := okd__law_house (cs := cs) (g__law_draw := g__law_draw) (n_range := n_range) (n_tuple := n_tuple) (b__law_draw_2 := b__law_draw_2) F__law_house (PySem.W.mg_of X G a__law_house)
  have g__law_kind : GF P w K mg base "_law_kind" ps__law_kind 5 (sp__law_kind cs) f__law_kind _ := okd__law_kind (cs := cs) (g__law_draw := g__law_draw) (b__law_draw_2 := b__law_draw_2) F__law_kind (PySem.W.mg_of X G a__law_kind)
  have g__law_rank : GF P w K mg base "_law_rank" ps__law_rank 3 (sp__law_rank cs) f__law_rank _ := okd__law_rank (cs := cs) (n_isinstance := n_isinstance) (n_str := n_str) F__law_rank (PySem.W.mg_of X G a__law_rank)
  have g__law_is_bound : GF P w K mg base "_law_is_bound" ps__law_is_bound 3 (sp__law_is_bound cs) f__law_is_bound _ := okd__law_is_bound (cs := cs) (n_bool := n_bool) (n_int := n_int) (n_isinstance := n_isinstance) (n_str := n_str) F__law_is_bound (PySem.W.mg_of X G a__law_is_bound)
  have g__law_is_kind : GF P w K mg base "_law_is_kind" ps__law_is_kind 4 (sp__law_is_kind cs) f__law_is_kind _ := okd__law_is_kind (cs := cs) (g__law_is_bound := g__law_is_bound) (n_isinstance := n_isinstance) (n_len := n_len) (n_tuple := n_tuple) (b__law_is_bound_1 := b__law_is_bound_1) F__law_is_kind (PySem.W.mg_of X G a__law_is_kind)
  have g__law_is_position : GF P w K mg base "_law_is_position" ps__law_is_position 3 (sp__law_is_position cs) f__law_is_position _ := okd__law_is_position (cs := cs) (n_bool := n_bool) (n_int := n_int) (n_isinstance := n_isinstance) (n_len := n_len) (n_tuple := n_tuple) F__law_is_position (PySem.W.mg_of X G a__law_is_position)
  have g__law_kinds_right : GF P w K mg base "_law_kinds_right" ps__law_kinds_right 12 (sp__law_kinds_right cs) f__law_kinds_right _ := okd__law_kinds_right (cs := cs) (g__law_is_kind := g__law_is_kind) (g__law_kind := g__law_kind) (g__law_like := g__law_like) (g__law_of := g__law_of) (g__law_rank := g__law_rank) (g_is_finer := g_is_finer) (g_need_kind := g_need_kind) (n_list := n_list) (b__law_is_kind_1 := b__law_is_kind_1) (b__law_kind_3 := b__law_kind_3) (b__law_like_2 := b__law_like_2) (b__law_of_2 := b__law_of_2) (b__law_rank_1 := b__law_rank_1) (b_is_finer_2 := b_is_finer_2) (b_need_kind_1 := b_need_kind_1) (b_is_finer_0_other_kind := b_is_finer_0_other_kind) (b_need_kind_0_kind := b_need_kind_0_kind) (gC_BadHouse := (PySem.W.mg_of X G aC_BadHouse)) (gC_BadKind := (PySem.W.mg_of X G aC_BadKind)) (gC_BadPosition := (PySem.W.mg_of X G aC_BadPosition)) (K__law_heard := K__law_heard) (xn_BadHouse_place := nb_BadHouse) (xn_BadKind_value := nb_BadKind) (xn_BadPosition_value := nb_BadPosition) (xc_BadHouse := xc_BadHouse) (xc_BadKind := xc_BadKind) (xc_BadPosition := xc_BadPosition) (TB__law_kinds_right := TB__law_kinds_right) (mem__law_kinds_right := mem__law_kinds_right) (only__law_kinds_right := only__law_kinds_right) (hcl := hcl) F__law_kinds_right (PySem.W.mg_of X G a__law_kinds_right)
  have g__law_positions_right : GF P w K mg base "_law_positions_right" ps__law_positions_right 12 (sp__law_positions_right cs) f__law_positions_right _ := okd__law_positions_right (cs := cs) (g__law_draw := g__law_draw) (g__law_house := g__law_house) (g__law_is_position := g__law_is_position) (g__law_like := g__law_like) (g__law_of := g__law_of) (g_need_position := g_need_position) (n_len := n_len) (n_list := n_list) (n_range := n_range) (n_tuple := n_tuple) (b__law_draw_2 := b__law_draw_2) (b__law_house_3 := b__law_house_3) (b__law_is_position_2 := b__law_is_position_2) (b__law_like_2 := b__law_like_2) (b__law_of_2 := b__law_of_2) (b_need_position_2 := b_need_position_2) (b_need_position_0_position_house := b_need_position_0_position_house) (gC_BadHouse := (PySem.W.mg_of X G aC_BadHouse)) (gC_BadKind := (PySem.W.mg_of X G aC_BadKind)) (gC_BadPosition := (PySem.W.mg_of X G aC_BadPosition)) (K__law_heard := K__law_heard) (xn_BadHouse_place := nb_BadHouse) (xn_BadKind_value := nb_BadKind) (xn_BadPosition_value := nb_BadPosition) (xc_BadHouse := xc_BadHouse) (xc_BadKind := xc_BadKind) (xc_BadPosition := xc_BadPosition) (TB__law_positions_right := TB__law_positions_right) (mem__law_positions_right := mem__law_positions_right) (only__law_positions_right := only__law_positions_right) (hcl := hcl) F__law_positions_right (PySem.W.mg_of X G a__law_positions_right)
  have g_law : GF P w K mg base "law" ps_law 13 (sp_law cs) f_law _ := okd_law (cs := cs) (g__law_begun := g__law_begun) (g__law_kinds_right := g__law_kinds_right) (g__law_like := g__law_like) (g__law_positions_right := g__law_positions_right) (g_all_kinds := g_all_kinds) (n_list := n_list) (n_range := n_range) (n_tuple := n_tuple) (b__law_begun_1 := b__law_begun_1) (b__law_kinds_right_1 := b__law_kinds_right_1) (b__law_like_2 := b__law_like_2) (b__law_positions_right_1 := b__law_positions_right_1) (b_all_kinds_0 := b_all_kinds_0) F_law (PySem.W.mg_of X G a_law)
  exact g_law.ok
end Dz
open PySem PySem.W PyProof.Rows
set_option maxRecDepth 100000 in
set_option maxHeartbeats 0 in
theorem PySem.Challenge.cw_toldbyplans_k01_kinds_and_positions_holds : PySem.Challenge.rw_toldbyplans_k01_kinds_and_positions.Holds := by
  w_on; o_law; k_head; (case hw => w_witness2)
  k_fill
  refine Dz.walk_ofTT (l := PySem.Challenge.rw_toldbyplans_k01_kinds_and_positions) (n := 63) (k := 13) (x := "script") (CX := fun w => L2.CX (PySem.Challenge.rw_toldbyplans_k01_kinds_and_positions).prog w) rfl (by decide) rfl ⟨rfl, by decide, by decide⟩ (fun w h Y => by first | exact PySem.W.kIn_of Y | exact PySem.W.km_in_of Y) ?F (fun _ _ _ _ _ h => by obtain ⟨_, _, _, _, _, _, _, _, _, _, _, _, z⟩ := h; exact z)
  case F =>
    intro w mg fa h _ KX G hmg HT
    refine' Dz.all_mk KX G hmg HT ?z_all ?z_bool ?z_enumerate ?z_int ?z_isinstance ?z_len ?z_list ?z_range ?z_str ?z_tuple ?q_MOST_COLOUR ?q_MOST_PEBBLES ?q_MOST_ROOMS ?q_MOST_ROUNDS ?z_super ?ops ?aC_BadKind ?eC_BadKind ?tC_BadKind ?iC_BadKind ?xL_BadKind ?al_BadKind ?sB_BadKind ?a1_BadKind ?t1_BadKind ?l1_BadKind ?c1_BadKind ?lc_BadKind ?v2_BadKind ?fl_BadKind ?lq_BadKind ?sa_BadKind ?ga_BadKind ?gg_BadKind ?nb_BadKind ?kC_BadKind ?hC_BadKind ?aC_BadHouse ?eC_BadHouse ?tC_BadHouse ?iC_BadHouse ?xL_BadHouse ?al_BadHouse ?sB_BadHouse ?a1_BadHouse ?t1_BadHouse ?l1_BadHouse ?c1_BadHouse ?lc_BadHouse ?v2_BadHouse ?fl_BadHouse ?lq_BadHouse ?sa_BadHouse ?ga_BadHouse ?gg_BadHouse ?nb_BadHouse ?kC_BadHouse ?hC_BadHouse ?aC_BadPosition ?eC_BadPosition ?tC_BadPosition ?iC_BadPosition ?xL_BadPosition ?al_BadPosition ?sB_BadPosition ?a1_BadPosition ?t1_BadPosition ?l1_BadPosition ?c1_BadPosition ?lc_BadPosition ?v2_BadPosition ?fl_BadPosition ?lq_BadPosition ?sa_BadPosition ?ga_BadPosition ?gg_BadPosition ?nb_BadPosition ?kC_BadPosition ?hC_BadPosition ?s_3_3 ?s_3_6 ?s_3_7 ?s_6_3 ?s_6_6 ?s_6_7 ?s_7_3 ?s_7_6 ?s_7_7 ?a_is_number ?l_is_number ?c_is_number ?kp_is_number ?dl_is_number ?a_is_row ?l_is_row ?c_is_row ?kp_is_row ?dl_is_row ?a_are_numbers ?l_are_numbers ?c_are_numbers ?kp_are_numbers ?dl_are_numbers ?a_is_bound ?l_is_bound ?c_is_bound ?kp_is_bound ?a_need_kind ?l_need_kind ?c_need_kind ?kp_need_kind ?a_is_most ?l_is_most ?c_is_most ?kp_is_most ?a_is_finer ?l_is_finer ?c_is_finer ?kp_is_finer ?a_all_kinds ?l_all_kinds ?c_all_kinds ?kp_all_kinds ?a_is_door ?l_is_door ?c_is_door ?kp_is_door ?a_house_fault ?l_house_fault ?c_house_fault ?kp_house_fault ?a_need_house ?l_need_house ?c_need_house ?kp_need_house ?a_need_position ?l_need_position ?c_need_position ?kp_need_position ?a__law_mixed ?l__law_mixed ?c__law_mixed ?kp__law_mixed ?a__law_folded ?l__law_folded ?c__law_folded ?kp__law_folded ?a__law_draw ?l__law_draw ?c__law_draw ?kp__law_draw ?a__law_begun ?l__law_begun ?c__law_begun ?kp__law_begun ?a__law_of ?l__law_of ?c__law_of ?kp__law_of ?a__law_like ?l__law_like ?c__law_like ?kp__law_like ?a__law_house ?l__law_house ?c__law_house ?kp__law_house ?a__law_kind ?l__law_kind ?c__law_kind ?kp__law_kind ?a__law_rank ?l__law_rank ?c__law_rank ?kp__law_rank ?a__law_is_bound ?l__law_is_bound ?c__law_is_bound ?kp__law_is_bound ?a__law_is_kind ?l__law_is_kind ?c__law_is_kind ?kp__law_is_kind ?a__law_is_position ?l__law_is_position ?c__law_is_position ?kp__law_is_position ?a__law_heard ?l__law_heard ?c__law_heard ?kp__law_heard ?a__law_kinds_right ?l__law_kinds_right ?c__law_kinds_right ?kp__law_kinds_right ?lcm__law_kinds_right ?v11__law_kinds_right ?nT__law_kinds_right ?hr__law_kinds_right ?a__law_positions_right ?l__law_positions_right ?c__law_positions_right ?kp__law_positions_right ?lcm__law_positions_right ?v11__law_positions_right ?nT__law_positions_right ?hr__law_positions_right ?a_law ?l_law ?c_law ?kp_law ?ndT ?htop
    (case z_all => k_is)
    (case z_bool => k_is)
    (case z_enumerate => k_is)
    (case z_int => k_is)
    (case z_isinstance => k_is)
    (case z_len => k_is)
    (case z_list => k_is)
    (case z_range => k_is)
    (case z_str => k_is)
    (case z_tuple => k_is)
    (case q_MOST_COLOUR => k_is)
    (case q_MOST_PEBBLES => k_is)
    (case q_MOST_ROOMS => k_is)
    (case q_MOST_ROUNDS => k_is)
    (case z_super => k_is)
    (case ops => k_is)
    (case aC_BadKind => k_is)
    (case eC_BadKind => k_is)
    (case tC_BadKind => k_is)
    (case iC_BadKind => k_is)
    (case xL_BadKind => k_is)
    (case al_BadKind => first | k_is | rfl | decide +kernel)
    (case sB_BadKind => k_is)
    (case a1_BadKind => k_is)
    (case t1_BadKind => k_is)
    (case l1_BadKind => k_is)
    (case c1_BadKind => k_is)
    (case lc_BadKind => k_is)
    (case v2_BadKind => rfl)
    (case fl_BadKind => first | rfl | decide +kernel)
    (case lq_BadKind => k_is)
    (case sa_BadKind => k_is)
    (case ga_BadKind => k_is)
    (case gg_BadKind => k_is)
    (case nb_BadKind => k_is)
    (case kC_BadKind => k_is)
    (case hC_BadKind => k_is)
    (case aC_BadHouse => k_is)
    (case eC_BadHouse => k_is)
    (case tC_BadHouse => k_is)
    (case iC_BadHouse => k_is)
    (case xL_BadHouse => k_is)
    (case al_BadHouse => first | k_is | rfl | decide +kernel)
    (case sB_BadHouse => k_is)
    (case a1_BadHouse => k_is)
    (case t1_BadHouse => k_is)
    (case l1_BadHouse => k_is)
    (case c1_BadHouse => k_is)
    (case lc_BadHouse => k_is)
    (case v2_BadHouse => rfl)
    (case fl_BadHouse => first | rfl | decide +kernel)
    (case lq_BadHouse => k_is)
    (case sa_BadHouse => k_is)
    (case ga_BadHouse => k_is)
    (case gg_BadHouse => k_is)
    (case nb_BadHouse => k_is)
    (case kC_BadHouse => k_is)
    (case hC_BadHouse => k_is)
    (case aC_BadPosition => k_is)
    (case eC_BadPosition => k_is)
    (case tC_BadPosition => k_is)
    (case iC_BadPosition => k_is)
    (case xL_BadPosition => k_is)
    (case al_BadPosition => first | k_is | rfl | decide +kernel)
    (case sB_BadPosition => k_is)
    (case a1_BadPosition => k_is)
    (case t1_BadPosition => k_is)
    (case l1_BadPosition => k_is)
    (case c1_BadPosition => k_is)
    (case lc_BadPosition => k_is)
    (case v2_BadPosition => rfl)
    (case fl_BadPosition => first | rfl | decide +kernel)
    (case lq_BadPosition => k_is)
    (case sa_BadPosition => k_is)
    (case ga_BadPosition => k_is)
    (case gg_BadPosition => k_is)
    (case nb_BadPosition => k_is)
    (case kC_BadPosition => k_is)
    (case hC_BadPosition => k_is)
    (case s_3_3 => first | rfl | k_is)
    (case s_3_6 => first | rfl | k_is)
    (case s_3_7 => first | rfl | k_is)
    (case s_6_3 => first | rfl | k_is)
    (case s_6_6 => first | rfl | k_is)
    (case s_6_7 => first | rfl | k_is)
    (case s_7_3 => first | rfl | k_is)
    (case s_7_6 => first | rfl | k_is)
    (case s_7_7 => first | rfl | k_is)
    (case a_is_number => k_is)
    (case l_is_number => k_is)
    (case c_is_number => k_is)
    (case kp_is_number => k_is)
    (case dl_is_number => k_is)
    (case a_is_row => k_is)
    (case l_is_row => k_is)
    (case c_is_row => k_is)
    (case kp_is_row => k_is)
    (case dl_is_row => k_is)
    (case a_are_numbers => k_is)
    (case l_are_numbers => k_is)
    (case c_are_numbers => k_is)
    (case kp_are_numbers => k_is)
    (case dl_are_numbers => k_is)
    (case a_is_bound => k_is)
    (case l_is_bound => k_is)
    (case c_is_bound => k_is)
    (case kp_is_bound => k_is)
    (case a_need_kind => k_is)
    (case l_need_kind => k_is)
    (case c_need_kind => k_is)
    (case kp_need_kind => k_is)
    (case a_is_most => k_is)
    (case l_is_most => k_is)
    (case c_is_most => k_is)
    (case kp_is_most => k_is)
    (case a_is_finer => k_is)
    (case l_is_finer => k_is)
    (case c_is_finer => k_is)
    (case kp_is_finer => k_is)
    (case a_all_kinds => k_is)
    (case l_all_kinds => k_is)
    (case c_all_kinds => k_is)
    (case kp_all_kinds => k_is)
    (case a_is_door => k_is)
    (case l_is_door => k_is)
    (case c_is_door => k_is)
    (case kp_is_door => k_is)
    (case a_house_fault => k_is)
    (case l_house_fault => k_is)
    (case c_house_fault => k_is)
    (case kp_house_fault => k_is)
    (case a_need_house => k_is)
    (case l_need_house => k_is)
    (case c_need_house => k_is)
    (case kp_need_house => k_is)
    (case a_need_position => k_is)
    (case l_need_position => k_is)
    (case c_need_position => k_is)
    (case kp_need_position => k_is)
    (case a__law_mixed => k_is)
    (case l__law_mixed => k_is)
    (case c__law_mixed => k_is)
    (case kp__law_mixed => k_is)
    (case a__law_folded => k_is)
    (case l__law_folded => k_is)
    (case c__law_folded => k_is)
    (case kp__law_folded => k_is)
    (case a__law_draw => k_is)
    (case l__law_draw => k_is)
    (case c__law_draw => k_is)
    (case kp__law_draw => k_is)
    (case a__law_begun => k_is)
    (case l__law_begun => k_is)
    (case c__law_begun => k_is)
    (case kp__law_begun => k_is)
    (case a__law_of => k_is)
    (case l__law_of => k_is)
    (case c__law_of => k_is)
    (case kp__law_of => k_is)
    (case a__law_like => k_is)
    (case l__law_like => k_is)
    (case c__law_like => k_is)
    (case kp__law_like => k_is)
    (case a__law_house => k_is)
    (case l__law_house => k_is)
    (case c__law_house => k_is)
    (case kp__law_house => k_is)
    (case a__law_kind => k_is)
    (case l__law_kind => k_is)
    (case c__law_kind => k_is)
    (case kp__law_kind => k_is)
    (case a__law_rank => k_is)
    (case l__law_rank => k_is)
    (case c__law_rank => k_is)
    (case kp__law_rank => k_is)
    (case a__law_is_bound => k_is)
    (case l__law_is_bound => k_is)
    (case c__law_is_bound => k_is)
    (case kp__law_is_bound => k_is)
    (case a__law_is_kind => k_is)
    (case l__law_is_kind => k_is)
    (case c__law_is_kind => k_is)
    (case kp__law_is_kind => k_is)
    (case a__law_is_position => k_is)
    (case l__law_is_position => k_is)
    (case c__law_is_position => k_is)
    (case kp__law_is_position => k_is)
    (case a__law_heard => k_is)
    (case l__law_heard => k_is)
    (case c__law_heard => k_is)
    (case kp__law_heard => k_is)
    (case a__law_kinds_right => k_is)
    (case l__law_kinds_right => k_is)
    (case c__law_kinds_right => k_is)
    (case kp__law_kinds_right => k_is)
    (case lcm__law_kinds_right => k_is)
    (case v11__law_kinds_right => rfl)
    (case nT__law_kinds_right => first | rfl | k_is | decide +kernel)
    (case hr__law_kinds_right => first | rfl | decide +kernel)
    (case a__law_positions_right => k_is)
    (case l__law_positions_right => k_is)
    (case c__law_positions_right => k_is)
    (case kp__law_positions_right => k_is)
    (case lcm__law_positions_right => k_is)
    (case v11__law_positions_right => rfl)
    (case nT__law_positions_right => first | rfl | k_is | decide +kernel)
    (case hr__law_positions_right => first | rfl | decide +kernel)
    (case a_law => k_is)
    (case l_law => k_is)
    (case c_law => k_is)
    (case kp_law => k_is)
    (case ndT => decide)
    (case htop => first | rfl | decide +kernel)
