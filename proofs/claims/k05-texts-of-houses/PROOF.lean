import PyProof.Rows.All
import Wide.All
import OpenK.AllK
import Wide.FinOn
import HandS.ForMost
import HandS.ForExc
import HandS.IsInst
import HandS.Defaults
import HandS.Flow
import HandS.Wide
import HandS.TupLe
import HandS.ExcInit
import HandS.ExcField
import KE.GoesMore
import KE.KExcSuper
import KE.KExcInit
import HandS.TupAny
import HandS.TupMul
import HandS.Deep
import PyProof.StrBlock2
import HandS.WordsDict
import HandS.TryMany
import HandS.Style
import HandS.Dict
import HandS.MakeKw
import PySem.Challenge.RW_toldbyplans_k05_texts_of_houses
set_option Elab.async false
set_option linter.all false
set_option maxRecDepth 100000
set_option maxHeartbeats 4000000
/-! Dz, part A: plain data D over the abstract heap of HandS; a store of objects that may change; what readings mean over them. -/
namespace Dz
open PySem PySem.Spec PyProof.Rows L2

/-- plain data; ref: an object by its address; ty: a built-in class; exc: a caught exception, its dict, its fields; scr: the script -/
inductive D where
  | non | bl (b : Bool) | int (i : Int) | str (s : Str) | tup (ds : List D) | lst (ds : List D) | dct (kvs : List (Key × D)) | ref (a : Addr) | ty (n : String) | exc (a dd : Addr) (fs : List (Str × D)) | scr (K : PySem.W.Frag) (a : Addr) (ns : List Int)

/-- an object that may change: a list, a dict, the law's state of draws (a dict at its address, its two lists; n bounds its spot) -/
inductive MO where
  | lst (ds : List D) | dct (kvs : List (Key × D)) | gen (ac ag : Addr) (n : Nat)
abbrev Sto := List (Addr × MO)
abbrev Rho := List (Option D)
def domO (p : Addr × MO) : List Addr := match p.2 with
  | .gen ac ag _ => [p.1, ac, ag]
  | _ => [p.1]
def dom (m : Sto) : List Addr := m.flatMap domO

/-- a list of the written part -/
def KLs (K : PySem.W.Frag) (a : Addr) (xs : List V) : Prop := ∃ (o : Obj) (its : Array Value) (n : Nat), K.lookup a = some o ∧ o.cls = .type "list" ∧ o.dict = none ∧ o.data = .seq its n ∧ its.size ≤ sizeLine ∧ Vals xs its.toList
mutual
inductive Rep (M : List Addr) (H : Hp) : V → D → Prop
  | non : Rep M H .non .non
  | bl (b : Bool) : Rep M H (.bl b) (.bl b)
  | int (i : Int) : Rep M H (.int i) (.int i)
  | str (s : Str) : Rep M H (.str s) (.str s)
  | ty (n : String) : Rep M H (.ty n) (.ty n)
  | ref (a : Addr) : Rep M H (.ref a) (.ref a)
  | tup {a : Addr} {xs : List V} {ds : List D} : H a = some (.tup xs) → a ∉ M → Reps M H xs ds → Rep M H (.ref a) (.tup ds)
  | lst {a : Addr} {xs : List V} {ds : List D} : H a = some (.lst xs) → a ∉ M → Reps M H xs ds → Rep M H (.ref a) (.lst ds)
  | dct {a : Addr} {kvs : List (Key × V)} {ds : List (Key × D)} : H a = some (.dK kvs) → a ∉ M → RepKs M H kvs ds → Rep M H (.ref a) (.dct ds)
  | exc {a dd : Addr} {xs : List (Str × V)} {fs : List (Str × D)} : H dd = some (.xd xs) → dd ∉ M → RepXs M H xs fs → Rep M H (.ref a) (.exc a dd fs)
  | scr1 {K : PySem.W.Frag} {a : Addr} {u : HO} {ns : List Int} : H a = some u → (u = .lst (ns.map V.int) ∨ ∃ o, u = .frz o (.lst (ns.map V.int))) → a ∉ M → Rep M H (.ref a) (.scr K a ns)
  | scr2 {K : PySem.W.Frag} {a : Addr} {ns : List Int} : KLs K a (ns.map V.int) → Rep M H (.ref a) (.scr K a ns)
inductive RepXs (M : List Addr) (H : Hp) : List (Str × V) → List (Str × D) → Prop
  | nil : RepXs M H [] []
  | cons {k : Str} {v : V} {d : D} {vs : List (Str × V)} {ds : List (Str × D)} : Rep M H v d → RepXs M H vs ds → RepXs M H ((k, v) :: vs) ((k, d) :: ds)
inductive Reps (M : List Addr) (H : Hp) : List V → List D → Prop
  | nil : Reps M H [] []
  | cons {v : V} {d : D} {vs : List V} {ds : List D} : Rep M H v d → Reps M H vs ds → Reps M H (v :: vs) (d :: ds)
inductive RepKs (M : List Addr) (H : Hp) : List (Key × V) → List (Key × D) → Prop
  | nil : RepKs M H [] []
  | cons {k : Key} {v : V} {d : D} {vs : List (Key × V)} {ds : List (Key × D)} : Rep M H v d → RepKs M H vs ds → RepKs M H ((k, v) :: vs) ((k, d) :: ds)
end

theorem rd_keep {M : List Addr} {H H' : Hp} {a : Addr} {u : HO} (hk : ∀ a o, H a = some o → a ∉ M → H' a = some o) (r : Rd H a u) (n : a ∉ M) : Rd H' a u := by
  rcases r with r | ⟨o, r⟩
  · exact .inl (hk a _ r n)
  · exact .inr ⟨o, hk a _ r n⟩
theorem rd_some {H : Hp} {a : Addr} {u : HO} (r : Rd H a u) : ∃ o, H a = some o := by
  rcases r with r | ⟨o, r⟩ <;> exact ⟨_, r⟩

mutual
theorem Rep.mono {M M' : List Addr} {H H' : Hp} {v : V} {d : D} (hk : ∀ a o, H a = some o → a ∉ M → H' a = some o) (hm : ∀ a o, H a = some o → a ∉ M → a ∉ M') : Rep M H v d → Rep M' H' v d
  | .non => .non
  | .bl b => .bl b
  | .int i => .int i
  | .str s => .str s
  | .ty n => .ty n
  | .ref a => .ref a
  | .tup h n r => .tup (hk _ _ h n) (hm _ _ h n) (Reps.mono hk hm r)
  | .lst h n r => .lst (hk _ _ h n) (hm _ _ h n) (Reps.mono hk hm r)
  | .dct h n r => .dct (hk _ _ h n) (hm _ _ h n) (RepKs.mono hk hm r)
  | .exc h n r => .exc (hk _ _ h n) (hm _ _ h n) (RepXs.mono hk hm r)
  | .scr1 h e n => .scr1 (hk _ _ h n) e (hm _ _ h n)
  | .scr2 h => .scr2 h
theorem RepXs.mono {M M' : List Addr} {H H' : Hp} {v : List (Str × V)} {d : List (Str × D)} (hk : ∀ a o, H a = some o → a ∉ M → H' a = some o) (hm : ∀ a o, H a = some o → a ∉ M → a ∉ M') : RepXs M H v d → RepXs M' H' v d
  | .nil => .nil
  | .cons a b => .cons (Rep.mono hk hm a) (RepXs.mono hk hm b)
theorem Reps.mono {M M' : List Addr} {H H' : Hp} {v : List V} {d : List D} (hk : ∀ a o, H a = some o → a ∉ M → H' a = some o) (hm : ∀ a o, H a = some o → a ∉ M → a ∉ M') : Reps M H v d → Reps M' H' v d
  | .nil => .nil
  | .cons a b => .cons (Rep.mono hk hm a) (Reps.mono hk hm b)
theorem RepKs.mono {M M' : List Addr} {H H' : Hp} {v : List (Key × V)} {d : List (Key × D)} (hk : ∀ a o, H a = some o → a ∉ M → H' a = some o) (hm : ∀ a o, H a = some o → a ∉ M → a ∉ M') : RepKs M H v d → RepKs M' H' v d
  | .nil => .nil
  | .cons a b => .cons (Rep.mono hk hm a) (RepKs.mono hk hm b)
end

def MoR (M : List Addr) (H : Hp) (a : Addr) : MO → Prop
  | .lst ds => ∃ xs, H a = some (.lst xs) ∧ Reps M H xs ds
  | .dct ds => ∃ kvs, H a = some (.dK kvs) ∧ RepKs M H kvs ds
  | .gen ac ag n => ∃ (sp : Nat) (cs gs : List Int), H a = some (.dK [(Sum.inr "cells", .ref ac), (Sum.inr "great", .ref ag), (Sum.inr "spot", .int (sp : Int))]) ∧ H ac = some (.lst (cs.map V.int)) ∧ H ag = some (.lst (gs.map V.int)) ∧
      sp ≤ n ∧ cs.length = 64 ∧ (∀ c ∈ cs, 0 ≤ c ∧ c < 2147483647) ∧ gs.length ≤ 63
structure StoR (m : Sto) (H : Hp) : Prop where
  nd : (dom m).Nodup
  at_ : ∀ p ∈ m, MoR (dom m) H p.1 p.2
/-- what stood stays, but for the objects of the store; what is new in the store was free -/
structure Fr (m m' : Sto) (H H' : Hp) : Prop where
  keep : ∀ a o, H a = some o → a ∉ dom m → H' a = some o
  grow : ∀ a, a ∈ dom m' → a ∈ dom m ∨ H a = none
theorem Fr.refl (m : Sto) (H : Hp) : Fr m m H H := ⟨fun _ _ h _ => h, fun _ h => .inl h⟩
theorem Fr.trans {m m1 m2 : Sto} {H H1 H2 : Hp} (a : Fr m m1 H H1) (b : Fr m1 m2 H1 H2) : Fr m m2 H H2 := by
  refine ⟨fun x o h n => b.keep x o (a.keep x o h n) fun q => ?_, fun x h => ?_⟩
  · rcases a.grow x q with z | z
    · exact n z
    · rw [h] at z; cases z
  · rcases b.grow x h with z | z
    · exact a.grow x z
    · cases e : H x with
      | none => exact .inr rfl
      | some o =>
        by_cases q : x ∈ dom m
        · exact .inl q
        · rw [a.keep x o e q] at z; cases z
/-- nothing but new objects -/
theorem Fr.ext {m : Sto} {H H' : Hp} (h : ∀ a o, H a = some o → H' a = some o) : Fr m m H H' := ⟨fun a o e _ => h a o e, fun _ e => .inl e⟩
theorem Fr.new {m : Sto} {H : Hp} {p : Addr} {o : HO} (h : H p = none) : Fr m m H (upd H p o) := .ext fun a u e => by rw [upd_ne (ne_of_none e h)]; exact e
section
variable {m m' : Sto} {H H' : Hp}
theorem Fr.notin (f : Fr m m' H H') : ∀ a o, H a = some o → a ∉ dom m → a ∉ dom m' := fun a o e n q => by
  rcases f.grow a q with z | z
  · exact n z
  · rw [e] at z; cases z
theorem Fr.rep (f : Fr m m' H H') {v : V} {d : D} (r : Rep (dom m) H v d) : Rep (dom m') H' v d := r.mono f.keep f.notin
theorem Fr.repXs (f : Fr m m' H H') {v : List (Str × V)} {d : List (Str × D)} (r : RepXs (dom m) H v d) : RepXs (dom m') H' v d := r.mono f.keep f.notin
theorem Fr.reps (f : Fr m m' H H') {v : List V} {d : List D} (r : Reps (dom m) H v d) : Reps (dom m') H' v d := r.mono f.keep f.notin
theorem Fr.repKs (f : Fr m m' H H') {v : List (Key × V)} {d : List (Key × D)} (r : RepKs (dom m) H v d) : RepKs (dom m') H' v d := r.mono f.keep f.notin
theorem MoR.ext (h : ∀ a o, H a = some o → H' a = some o) {M : List Addr} {a : Addr} {o : MO} (r : MoR M H a o) : MoR M H' a o := by
  have k : ∀ a o, H a = some o → a ∉ M → H' a = some o := fun a o e _ => h a o e
  have k2 : ∀ a o, H a = some o → a ∉ M → a ∉ M := fun _ _ _ n => n
  cases o with
  | lst ds => obtain ⟨xs, e, r⟩ := r; exact ⟨xs, h _ _ e, r.mono k k2⟩
  | dct ds => obtain ⟨xs, e, r⟩ := r; exact ⟨xs, h _ _ e, r.mono k k2⟩
  | gen ac ag n => obtain ⟨sp, cs, gs, e1, e2, e3, r⟩ := r; exact ⟨sp, cs, gs, h _ _ e1, h _ _ e2, h _ _ e3, r⟩
theorem StoR.ext (h : ∀ a o, H a = some o → H' a = some o) (s : StoR m H) : StoR m H' := ⟨s.nd, fun p hp => (s.at_ p hp).ext h⟩
theorem StoR.new {p : Addr} {o : HO} (s : StoR m H) (h : H p = none) : StoR m (upd H p o) := s.ext fun a u e => by rw [upd_ne (ne_of_none e h)]; exact e
/-- an address of the store is tracked -/
theorem StoR.there (s : StoR m H) {a : Addr} (h : a ∈ dom m) : ∃ o, H a = some o := by
  obtain ⟨p, hp, q⟩ := List.mem_flatMap.mp h
  have r := s.at_ p hp
  obtain ⟨b, o⟩ := p
  cases o with
  | lst ds =>
    obtain ⟨xs, e, _⟩ := r
    have z : a = b := by simpa [domO] using q
    exact ⟨_, by rw [z]; exact e⟩
  | dct ds =>
    obtain ⟨xs, e, _⟩ := r
    have z : a = b := by simpa [domO] using q
    exact ⟨_, by rw [z]; exact e⟩
  | gen ac ag n =>
    obtain ⟨sp, cs, gs, e1, e2, e3, _⟩ := r
    have z : a = b ∨ a = ac ∨ a = ag := by simpa [domO] using q
    rcases z with z | z | z
    · exact ⟨_, by rw [z]; exact e1⟩
    · exact ⟨_, by rw [z]; exact e2⟩
    · exact ⟨_, by rw [z]; exact e3⟩
theorem StoR.fresh (s : StoR m H) {a : Addr} (h : H a = none) : a ∉ dom m := fun q => by
  obtain ⟨o, e⟩ := s.there q
  rw [h] at e; cases e
end

/-! ### slots -/
def SlR (M : List Addr) (H : Hp) (s : L2.St) (r : Rho) : Prop := s.length = r.length ∧ ∀ (i : Nat) (d : D), r[i]? = some (some d) → ∃ v, s[i]? = some (some v) ∧ Rep M H v d
structure Rel (m : Sto) (H : Hp) (s : L2.St) (r : Rho) : Prop where
  sl : SlR (dom m) H s r
  st : StoR m H
theorem Fr.rel {m m' : Sto} {H H' : Hp} {s : L2.St} {r : Rho} (f : Fr m m' H H') (R : Rel m H s r) (h : StoR m' H') : Rel m' H' s r :=
  ⟨⟨R.sl.1, fun i d e => let ⟨v, e1, e2⟩ := R.sl.2 i d e; ⟨v, e1, f.rep e2⟩⟩, h⟩
theorem SlR.set {M : List Addr} {H : Hp} {s : L2.St} {r : Rho} {v : V} {d : D} (h : SlR M H s r) (i : Nat) (q : Rep M H v d) : SlR M H (s.set i (some v)) (r.set i (some d)) := by
  refine ⟨by rw [List.length_set, List.length_set]; exact h.1, fun j e hj => ?_⟩
  by_cases z : i = j
  · subst z
    have lt : i < r.length := by
      rcases Nat.lt_or_ge i r.length with c | c
      · exact c
      · rw [List.getElem?_eq_none (by rw [List.length_set]; exact c)] at hj; cases hj
    rw [List.getElem?_set_self lt] at hj
    cases hj
    exact ⟨v, List.getElem?_set_self (by rw [h.1]; exact lt), q⟩
  · rw [List.getElem?_set_ne z] at hj
    obtain ⟨w, e1, e2⟩ := h.2 j e hj
    exact ⟨w, by rw [List.getElem?_set_ne z]; exact e1, e2⟩
/-- forget what a slot holds -/
theorem SlR.drop {M : List Addr} {H : Hp} {s : L2.St} {r : Rho} {o : Option V} (h : SlR M H s r) (i : Nat) : SlR M H (s.set i o) (r.set i none) := by
  refine ⟨by rw [List.length_set, List.length_set]; exact h.1, fun j e hj => ?_⟩
  by_cases z : i = j
  · subst z
    rcases Nat.lt_or_ge i r.length with c | c
    · rw [List.getElem?_set_self c] at hj; cases hj
    · rw [List.getElem?_eq_none (by rw [List.length_set]; exact c)] at hj; cases hj
  · rw [List.getElem?_set_ne z] at hj
    obtain ⟨w, e1, e2⟩ := h.2 j e hj
    exact ⟨w, by rw [List.getElem?_set_ne z]; exact e1, e2⟩

/-! ### what readings mean over plain data -/
abbrev PhiT := D → Sto → Prop
abbrev PsiT := Value → List (Str × D) → Rho → Sto → Prop
abbrev PsiC := Value → List (Str × D) → Sto → Prop
def XdR (M : List Addr) (H : Hp) (d : Option Addr) (fs : List (Str × D)) : Prop := ∃ (dd : Addr) (xs : List (Str × V)), d = some dd ∧ dd ∉ M ∧ H dd = some (.xd xs) ∧ RepXs M H xs fs
def XT (W : WX) (m : Sto) (H : Hp) (Ps : PsiT) : Prop := ∀ (cls : Value) (d : Option Addr) (fs : List (Str × D)) (s' : L2.St) (H' : Hp) (r' : Rho) (m' : Sto), Ps cls fs r' m' → Fr m m' H H' → XdR (dom m') H' d fs → Rel m' H' s' r' → W cls d s' H'
def XC (E : XK) (m : Sto) (H : Hp) (Ps : PsiC) : Prop := ∀ (cls : Value) (d : Option Addr) (fs : List (Str × D)) (H' : Hp) (m' : Sto), Ps cls fs m' → Fr m m' H H' → XdR (dom m') H' d fs → StoR m' H' → E cls d H'
def KT (Ph : PhiT) (m : Sto) (H : Hp) (Q : VK) : Prop := ∀ (v : V) (H' : Hp) (d : D) (m' : Sto), Ph d m' → Fr m m' H H' → Rep (dom m') H' v d → StoR m' H' → Q v H'
def KB (Ph : Bool → Sto → Prop) (m : Sto) (H : Hp) (Q : Bool → Hp → Prop) : Prop := ∀ (b : Bool) (H' : Hp) (m' : Sto), Ph b m' → Fr m m' H H' → StoR m' H' → Q b H'
def KA (Ph : List D → Sto → Prop) (m : Sto) (H : Hp) (Q : List V → Hp → Prop) : Prop := ∀ (v : List V) (H' : Hp) (d : List D) (m' : Sto), Ph d m' → Fr m m' H H' → Reps (dom m') H' v d → StoR m' H' → Q v H'
def KN (Ph : Rho → Sto → Prop) (m : Sto) (H : Hp) (Q : L2.St → Hp → Prop) : Prop := ∀ (s' : L2.St) (H' : Hp) (r' : Rho) (m' : Sto), Ph r' m' → Fr m m' H H' → Rel m' H' s' r' → Q s' H'
structure EndsD where
  nx : Rho → Sto → Prop
  rt : PhiT
  bk : Rho → Sto → Prop := fun _ _ => False
  ct : Rho → Sto → Prop := fun _ _ => False
structure KS (E : EndsD) (m : Sto) (H : Hp) (D : Ends) : Prop where
  nx : KN E.nx m H D.nx
  rt : KT E.rt m H D.rt
  bk : KN E.bk m H D.bk
  ct : KN E.ct m H D.ct
section
variable {W : WX} {m m1 : Sto} {H H1 : Hp} {Ps : PsiT}
theorem XT.go (x : XT W m H Ps) (f : Fr m m1 H H1) : XT W m1 H1 Ps := fun cls d fs s' H' r' m' p g r t => x cls d fs s' H' r' m' p (f.trans g) r t
theorem XT.of {E : XK} {Pc : PsiC} (x : XC E m H Pc) : XT (fun cls d _ H' => E cls d H') m H (fun cls fs _ m' => Pc cls fs m') := fun cls d fs _ H' _ m' p g r t => x cls d fs H' m' p g r t.st
theorem KT.go {Ph : PhiT} {Q : VK} (x : KT Ph m H Q) (f : Fr m m1 H H1) : KT Ph m1 H1 Q := fun v H' d m' p g r t => x v H' d m' p (f.trans g) r t
theorem KB.go {Ph : Bool → Sto → Prop} {Q : Bool → Hp → Prop} (x : KB Ph m H Q) (f : Fr m m1 H H1) : KB Ph m1 H1 Q := fun v H' m' p g t => x v H' m' p (f.trans g) t
theorem KA.go {Ph : List D → Sto → Prop} {Q : List V → Hp → Prop} (x : KA Ph m H Q) (f : Fr m m1 H H1) : KA Ph m1 H1 Q := fun v H' d m' p g r t => x v H' d m' p (f.trans g) r t
theorem KN.go {Ph : Rho → Sto → Prop} {Q : L2.St → Hp → Prop} (x : KN Ph m H Q) (f : Fr m m1 H H1) : KN Ph m1 H1 Q := fun s' H' r' m' p g r => x s' H' r' m' p (f.trans g) r
theorem KS.go {E : EndsD} {D : Ends} (x : KS E m H D) (f : Fr m m1 H H1) : KS E m1 H1 D := ⟨x.nx.go f, x.rt.go f, x.bk.go f, x.ct.go f⟩
theorem XT.none : XT W m H (fun _ _ _ _ => False) := fun _ _ _ _ _ _ _ p => p.elim
end
section
variable (W : WX) (Ps : PsiT)
def WT (t : TE) (r : Rho) (m : Sto) (Ph : PhiT) : Prop := ∀ (s : L2.St) (H : Hp) (Q : VK), Rel m H s r → XT W m H Ps → KT Ph m H Q → t s H Q
def WB (t : TT) (r : Rho) (m : Sto) (Ph : Bool → Sto → Prop) : Prop := ∀ (s : L2.St) (H : Hp) (Q : Bool → Hp → Prop), Rel m H s r → XT W m H Ps → KB Ph m H Q → t s H Q
def WA (t : TA) (r : Rho) (m : Sto) (Ph : List D → Sto → Prop) : Prop := ∀ (s : L2.St) (H : Hp) (Q : List V → Hp → Prop), Rel m H s r → XT W m H Ps → KA Ph m H Q → t s H Q
def WG (t : TG) (d : D) (r : Rho) (m : Sto) (Ph : Rho → Sto → Prop) : Prop := ∀ (v : V) (s : L2.St) (H : Hp) (Q : L2.St → Hp → Prop), Rel m H s r → XT W m H Ps → Rep (dom m) H v d → KN Ph m H Q → t v s H Q
def WGs (t : TGs) (d : List D) (r : Rho) (m : Sto) (Ph : Rho → Sto → Prop) : Prop := ∀ (v : List V) (s : L2.St) (H : Hp) (Q : L2.St → Hp → Prop), Rel m H s r → XT W m H Ps → Reps (dom m) H v d → KN Ph m H Q → t v s H Q
def WS (t : TS) (E : EndsD) (r : Rho) (m : Sto) : Prop := ∀ (s : L2.St) (H : Hp) (D : Ends), Rel m H s r → XT W m H Ps → KS E m H D → t D s H
end

/-! ### a def's promise over plain data -/
abbrev SpD := List D → Sto → PhiT → PsiC → Prop
def lift (sp : SpD) : Sp := fun vs H Q E => ∃ (ds : List D) (m : Sto) (Ph : PhiT) (Ps : PsiC), Reps (dom m) H vs ds ∧ StoR m H ∧ sp ds m Ph Ps ∧ KT Ph m H Q ∧ XC E m H Ps

/-! ### rules: names, constants, operators -/
section
variable {W : WX} {Ps : PsiT} {r : Rho} {m : Sto} {Ph : PhiT} {ta tb tc : TE} {d x y : D}
theorem wt_var {i : Nat} (h : r[i]? = some (some d)) (k : Ph d m) : WT W Ps (tVar i) r m Ph := fun s H Q R _ K => by
  obtain ⟨v, e, q⟩ := R.sl.2 i d h
  exact ⟨v, e, K v H d m k (Fr.refl m H) q R.st⟩
theorem wt_int {i : Int} (k : Ph (.int i) m) : WT W Ps (tC (.int i)) r m Ph := fun s H Q R _ K => K _ H _ m k (Fr.refl m H) (.int i) R.st
theorem wt_str {i : Str} (k : Ph (.str i) m) : WT W Ps (tC (.str i)) r m Ph := fun s H Q R _ K => K _ H _ m k (Fr.refl m H) (.str i) R.st
theorem wt_bl {i : Bool} (k : Ph (.bl i) m) : WT W Ps (tC (.bl i)) r m Ph := fun s H Q R _ K => K _ H _ m k (Fr.refl m H) (.bl i) R.st
theorem wt_non (k : Ph .non m) : WT W Ps (tC .non) r m Ph := fun s H Q R _ K => K _ H _ m k (Fr.refl m H) .non R.st
theorem wt_ty {n : String} (k : Ph (.ty n) m) : WT W Ps (tC (.ty n)) r m Ph := fun s H Q R _ K => K _ H _ m k (Fr.refl m H) (.ty n) R.st
theorem wt_ref {a : Addr} (k : Ph (.ref a) m) : WT W Ps (tC (.ref a)) r m Ph := fun s H Q R _ K => K _ H _ m k (Fr.refl m H) (.ref a) R.st

def OpD (o : R2) (x y : D) (m : Sto) (Ph : PhiT) : Prop := ∀ (vx vy : V) (H : Hp) (Q : VK), Rep (dom m) H vx x → Rep (dom m) H vy y → StoR m H → KT Ph m H Q → o vx vy H Q
def UnD (o : V → Hp → VK → Prop) (x : D) (m : Sto) (Ph : PhiT) : Prop := ∀ (vx : V) (H : Hp) (Q : VK), Rep (dom m) H vx x → StoR m H → KT Ph m H Q → o vx H Q
def CaD (o : List V → Hp → VK → Prop) (xs : List D) (m : Sto) (Ph : PhiT) : Prop := ∀ (vs : List V) (H : Hp) (Q : VK), Reps (dom m) H vs xs → StoR m H → KT Ph m H Q → o vs H Q
theorem wt_op {o : R2} (h : WT W Ps ta r m fun x m1 => WT W Ps tb r m1 fun y m2 => OpD o x y m2 Ph) : WT W Ps (tOp o ta tb) r m Ph := fun s H Q R X K =>
  h s H _ R X fun v H1 x m1 h1 f1 r1 s1 => h1 s H1 _ (f1.rel R s1) (X.go f1) fun w H2 y m2 h2 f2 r2 s2 => h2 v w H2 Q (f2.rep r1) r2 s2 (K.go (f1.trans f2))
theorem wt_un {o : V → Hp → VK → Prop} (h : WT W Ps ta r m fun x m1 => UnD o x m1 Ph) : WT W Ps (tUn o ta) r m Ph := fun s H Q R X K =>
  h s H _ R X fun v H1 x m1 h1 f1 r1 s1 => h1 v H1 Q r1 s1 (K.go f1)
theorem wt_and (h : WT W Ps ta r m fun x m1 => ∃ c, x = .bl c ∧ (c = true → WT W Ps tb r m1 Ph) ∧ (c = false → Ph (.bl false) m1)) : WT W Ps (tAndV ta tb) r m Ph := fun s H Q R X K =>
  h s H _ R X fun v H1 x m1 h1 f1 r1 s1 => by
    obtain ⟨c, e, h2, h3⟩ := h1
    subst e
    cases r1
    refine ⟨c, rfl, ?_⟩
    cases c with
    | true => exact iteT (h2 rfl s H1 Q (f1.rel R s1) (X.go f1) (K.go f1))
    | false => exact iteF (K _ H1 _ m1 (h3 rfl) f1 (.bl false) s1)
theorem wt_or (h : WT W Ps ta r m fun x m1 => ∃ c, x = .bl c ∧ (c = false → WT W Ps tb r m1 Ph) ∧ (c = true → Ph (.bl true) m1)) : WT W Ps (tOrV ta tb) r m Ph := fun s H Q R X K =>
  h s H _ R X fun v H1 x m1 h1 f1 r1 s1 => by
    obtain ⟨c, e, h2, h3⟩ := h1
    subst e
    cases r1
    refine ⟨c, rfl, ?_⟩
    cases c with
    | false => exact iteF (h2 rfl s H1 Q (f1.rel R s1) (X.go f1) (K.go f1))
    | true => exact iteT (K _ H1 _ m1 (h3 rfl) f1 (.bl true) s1)
theorem wt_not (h : WT W Ps ta r m fun x m1 => ∃ c, x = .bl c ∧ Ph (.bl (!c)) m1) : WT W Ps (tNotV ta) r m Ph := fun s H Q R X K =>
  h s H _ R X fun v H1 x m1 h1 f1 r1 s1 => by
    obtain ⟨c, e, h2⟩ := h1
    subst e
    cases r1
    exact ⟨c, rfl, K _ H1 _ m1 h2 f1 (.bl _) s1⟩
theorem wt_if {t : TT} (h : WB W Ps t r m fun c m1 => (c = true → WT W Ps ta r m1 Ph) ∧ (c = false → WT W Ps tb r m1 Ph)) : WT W Ps (tIf t ta tb) r m Ph := fun s H Q R X K =>
  h s H _ R X fun c H1 m1 h1 f1 s1 => by
    cases c with
    | true => exact iteT (h1.1 rfl s H1 Q (f1.rel R s1) (X.go f1) (K.go f1))
    | false => exact iteF (h1.2 rfl s H1 Q (f1.rel R s1) (X.go f1) (K.go f1))
end

/-! ### tests -/
section
variable {W : WX} {Ps : PsiT} {r : Rho} {m : Sto} {Ph : Bool → Sto → Prop} {te : TE} {t u : TT}
theorem wb_test (h : WT W Ps te r m fun x m1 => ∃ c, x = .bl c ∧ Ph c m1) : WB W Ps (tTest te) r m Ph := fun s H Q R X K =>
  h s H _ R X fun v H1 x m1 h1 f1 r1 s1 => by
    obtain ⟨c, e, h2⟩ := h1
    subst e
    cases r1
    exact ⟨c, rfl, K c H1 m1 h2 f1 s1⟩
theorem wb_B (h : WT W Ps te r m fun x m1 => ∃ c, x = .bl c ∧ Ph c m1) : WB W Ps (tB te) r m Ph := fun s H Q R X K =>
  h s H _ R X fun v H1 x m1 h1 f1 r1 s1 => by
    obtain ⟨c, e, h2⟩ := h1
    subst e
    cases r1
    exact ⟨c, rfl, K c H1 m1 h2 f1 s1⟩
theorem wb_and (h : WB W Ps t r m fun c m1 => (c = true → WB W Ps u r m1 Ph) ∧ (c = false → Ph false m1)) : WB W Ps (tAnd t u) r m Ph := fun s H Q R X K =>
  h s H _ R X fun c H1 m1 h1 f1 s1 => by
    cases c with
    | true => exact iteT (h1.1 rfl s H1 Q (f1.rel R s1) (X.go f1) (K.go f1))
    | false => exact iteF (K false H1 m1 (h1.2 rfl) f1 s1)
theorem wb_or (h : WB W Ps t r m fun c m1 => (c = false → WB W Ps u r m1 Ph) ∧ (c = true → Ph true m1)) : WB W Ps (tOr t u) r m Ph := fun s H Q R X K =>
  h s H _ R X fun c H1 m1 h1 f1 s1 => by
    cases c with
    | false => exact iteF (h1.1 rfl s H1 Q (f1.rel R s1) (X.go f1) (K.go f1))
    | true => exact iteT (K true H1 m1 (h1.2 rfl) f1 s1)
theorem wb_not (h : WB W Ps t r m fun c m1 => Ph (!c) m1) : WB W Ps (tNot t) r m Ph := fun s H Q R X K =>
  h s H _ R X fun c H1 m1 h1 f1 s1 => K (!c) H1 m1 h1 f1 s1
end

/-! ### arguments, tuples, lists -/
section
variable {W : WX} {Ps : PsiT} {r : Rho} {m : Sto} {te : TE} {ta : TA}
theorem wa_nil {Ph : List D → Sto → Prop} (k : Ph [] m) : WA W Ps tNil r m Ph := fun s H Q R X K => K [] H [] m k (Fr.refl m H) .nil R.st
theorem wa_cons {Ph : List D → Sto → Prop} (h : WT W Ps te r m fun x m1 => WA W Ps ta r m1 fun xs m2 => Ph (x :: xs) m2) : WA W Ps (tCons te ta) r m Ph := fun s H Q R X K =>
  h s H _ R X fun v H1 x m1 h1 f1 r1 s1 => h1 s H1 _ (f1.rel R s1) (X.go f1) fun vs H2 xs m2 h2 f2 r2 s2 => K (v :: vs) H2 (x :: xs) m2 h2 (f1.trans f2) (.cons (f2.rep r1) r2) s2
theorem wt_cb {o : List V → Hp → VK → Prop} {Ph : PhiT} (h : WA W Ps ta r m fun xs m1 => CaD o xs m1 Ph) : WT W Ps (tCB o ta) r m Ph := fun s H Q R X K =>
  h s H _ R X fun v H1 x m1 h1 f1 r1 s1 => h1 v H1 Q r1 s1 (K.go f1)
theorem Reps.len {M : List Addr} {H : Hp} : ∀ {vs : List V} {ds : List D}, Reps M H vs ds → vs.length = ds.length
  | _, _, .nil => rfl
  | _, _, .cons _ t => congrArg Nat.succ t.len
theorem new_tup {m : Sto} {H : Hp} {Q : VK} {Ph : PhiT} {vs : List V} {ds : List D} (R : Reps (dom m) H vs ds) (st : StoR m H) (K : KT Ph m H Q) (k : Ph (.tup ds) m) : ∀ p, H p = none → Q (.ref p) (upd H p (.tup vs)) := fun p hp =>
  K (.ref p) _ (.tup ds) m k (Fr.new hp) (.tup upd_same (st.fresh hp) ((Fr.new hp).reps R)) (st.new hp)
theorem new_lst {m : Sto} {H : Hp} {Q : VK} {Ph : PhiT} {vs : List V} {ds : List D} (R : Reps (dom m) H vs ds) (st : StoR m H) (K : KT Ph m H Q) (k : Ph (.lst ds) m) : ∀ p, H p = none → Q (.ref p) (upd H p (.lst vs)) := fun p hp =>
  K (.ref p) _ (.lst ds) m k (Fr.new hp) (.lst upd_same (st.fresh hp) ((Fr.new hp).reps R)) (st.new hp)
theorem dom_cons (a : Addr) (ds : List D) (m : Sto) : dom ((a, .lst ds) :: m) = a :: dom m := rfl
/-- a new list that may change -/
theorem new_own {m : Sto} {H : Hp} {Q : VK} {Ph : PhiT} {vs : List V} {ds : List D} (R : Reps (dom m) H vs ds) (st : StoR m H) (K : KT Ph m H Q) (k : ∀ a, a ∉ dom m → Ph (.ref a) ((a, .lst ds) :: m)) : ∀ p, H p = none → Q (.ref p) (upd H p (.lst vs)) := fun p hp => by
  have f : Fr m ((p, .lst ds) :: m) H (upd H p (.lst vs)) := ⟨(Fr.new (m := m) hp).keep, fun a ha => by
    rw [dom_cons] at ha
    rcases List.mem_cons.mp ha with e | e
    · exact .inr (by rw [e]; exact hp)
    · exact .inl e⟩
  have s2 := st.new (o := .lst vs) hp
  refine K (.ref p) _ (.ref p) _ (k p (st.fresh hp)) f (.ref p) ⟨by rw [dom_cons]; exact List.nodup_cons.mpr ⟨st.fresh hp, st.nd⟩, fun q hq => ?_⟩
  rcases List.mem_cons.mp hq with e | e
  · subst e
    exact ⟨vs, upd_same, f.reps R⟩
  · have z := st.at_ q e
    obtain ⟨b, o⟩ := q
    have up : ∀ a o, H a = some o → upd H p (.lst vs) a = some o := fun a u e => by rw [upd_ne (ne_of_none e hp)]; exact e
    cases o with
    | lst es => obtain ⟨xs, e1, r1⟩ := z; exact ⟨xs, up _ _ e1, f.reps r1⟩
    | dct es => obtain ⟨xs, e1, r1⟩ := z; exact ⟨xs, up _ _ e1, f.repKs r1⟩
    | gen ac ag n => obtain ⟨sp, cs, gs, e1, e2, e3, r1⟩ := z; exact ⟨sp, cs, gs, up _ _ e1, up _ _ e2, up _ _ e3, r1⟩
theorem wt_tup {Ph : PhiT} (h : WA W Ps ta r m fun xs m1 => xs.length ≤ sizeLine ∧ Ph (.tup xs) m1) : WT W Ps (tTup ta) r m Ph := fun s H Q R X K =>
  h s H _ R X fun v H1 x m1 h1 f1 r1 s1 => ⟨by rw [r1.len]; exact h1.1, new_tup r1 s1 (K.go f1) h1.2⟩
theorem wt_lst {Ph : PhiT} (h : WA W Ps ta r m fun xs m1 => xs.length ≤ sizeLine ∧ Ph (.lst xs) m1) : WT W Ps (tLst ta) r m Ph := fun s H Q R X K =>
  h s H _ R X fun v H1 x m1 h1 f1 r1 s1 => ⟨by rw [r1.len]; exact h1.1, new_lst r1 s1 (K.go f1) h1.2⟩
/-- a display that will be changed -/
theorem wt_own {Ph : PhiT} (h : WA W Ps ta r m fun xs m1 => xs.length ≤ sizeLine ∧ ∀ a, a ∉ dom m1 → Ph (.ref a) ((a, .lst xs) :: m1)) : WT W Ps (tLst ta) r m Ph := fun s H Q R X K =>
  h s H _ R X fun v H1 x m1 h1 f1 r1 s1 => ⟨by rw [r1.len]; exact h1.1, new_own r1 s1 (K.go f1) h1.2⟩
end

/-! ### statements -/
section
variable {W : WX} {Ps : PsiT} {r : Rho} {m : Sto} {te : TE} {t u : TS} {E : EndsD}
theorem ws_next (k : E.nx r m) : WS W Ps tNext E r m := fun s H D R X K => K.nx s H r m k (Fr.refl m H) R
theorem ws_seq (h : WS W Ps t { E with nx := fun r1 m1 => WS W Ps u E r1 m1 } r m) : WS W Ps (tSeq t u) E r m := fun s H D R X K =>
  h s H { D with nx := u D } R X ⟨fun s' H' r' m' h1 f1 R1 => h1 s' H' D R1 (X.go f1) (K.go f1), K.rt, K.bk, K.ct⟩
theorem ws_break (k : E.bk r m) : WS W Ps tBreak E r m := fun s H D R X K => K.bk s H r m k (Fr.refl m H) R
theorem ws_cont (k : E.ct r m) : WS W Ps tCont E r m := fun s H D R X K => K.ct s H r m k (Fr.refl m H) R
theorem ws_drop (h : WT W Ps te r m fun _ m1 => E.nx r m1) : WS W Ps (tDrop te) E r m := fun s H D R X K =>
  h s H _ R X fun v H1 x m1 h1 f1 r1 s1 => K.nx s H1 r m1 h1 f1 (f1.rel R s1)
theorem ws_ret (h : WT W Ps te r m E.rt) : WS W Ps (tRet te) E r m := fun s H D R X K => h s H _ R X K.rt
theorem ws_retN (k : E.rt .non m) : WS W Ps tRetN E r m := fun s H D R X K => K.rt .non H .non m k (Fr.refl m H) .non R.st
theorem ws_if {c : TT} (h : WB W Ps c r m fun b m1 => (b = true → WS W Ps t E r m1) ∧ (b = false → WS W Ps u E r m1)) : WS W Ps (tIfS c t u) E r m := fun s H D R X K =>
  h s H _ R X fun b H1 m1 h1 f1 s1 => by
    cases b with
    | true => exact iteT (h1.1 rfl s H1 D (f1.rel R s1) (X.go f1) (K.go f1))
    | false => exact iteF (h1.2 rfl s H1 D (f1.rel R s1) (X.go f1) (K.go f1))
theorem ws_asg {g : TG} (h : WT W Ps te r m fun x m1 => WG W Ps g x r m1 E.nx) : WS W Ps (tAsg te g) E r m := fun s H D R X K =>
  h s H _ R X fun v H1 x m1 h1 f1 r1 s1 => h1 v s H1 _ (f1.rel R s1) (X.go f1) r1 (K.nx.go f1)
theorem wg_name {i : Nat} {d : D} {Ph : Rho → Sto → Prop} (k : Ph (r.set i (some d)) m) : WG W Ps (gName i) d r m Ph := fun v s H Q R X q K =>
  K _ H _ m k (Fr.refl m H) ⟨R.sl.set i q, R.st⟩
theorem wgs_nil {Ph : Rho → Sto → Prop} (k : Ph r m) : WGs W Ps gNil [] r m Ph := fun v s H Q R X q K => by
  cases q
  exact ⟨rfl, K _ H _ m k (Fr.refl m H) R⟩
theorem wgs_cons {g : TG} {gs : TGs} {d : D} {ds : List D} {Ph : Rho → Sto → Prop} (h : WG W Ps g d r m fun r1 m1 => WGs W Ps gs ds r1 m1 Ph) : WGs W Ps (gCons g gs) (d :: ds) r m Ph := fun v s H Q R X q K => by
  cases q with
  | cons a b => exact ⟨_, _, rfl, h _ s H _ R X a fun s1 H1 r1 m1 h1 f1 R1 => h1 _ s1 H1 _ R1 (X.go f1) (f1.reps b) (K.go f1)⟩
theorem wg_tup {K : PySem.W.Frag} {n : Nat} {gs : TGs} {ds : List D} {Ph : Rho → Sto → Prop} (e : ds.length = n) (h : WGs W Ps gs ds r m Ph) : WG W Ps (gTup K n gs) (.tup ds) r m Ph := fun v s H Q R X q k => by
  cases q with
  | tup h1 h2 h3 => exact ⟨_, _, rfl, .inl (.inl h1), h3.len.trans e, h _ s H Q R X h3 k⟩
end
end Dz
/-! Dz, part B: rules of the judgement PE that the layer lacks: calls with defaults and with keywords that may raise at the slots, chains of three, enumerate of a tuple, operators by all kinds of values. -/
namespace Dz
open PySem PySem.Spec PyProof.Rows L2

/-! ### calls -/
def tCallG (sp : Sp) (dvs : List V) (E : L2.St → XK) (t : TA) : TE := fun s H Q => t s H fun vs H1 => sp (vs ++ dvs) H1 Q (E s)
def tCallGK (sp : Sp) (gV : List V → List V → List V) (E : L2.St → XK) (t tk : TA) : TE := fun s H Q => t s H fun vs H1 => tk s H1 fun zs H2 => sp (gV vs zs) H2 Q (E s)
section
variable {X : Cx} {CX : CXT} {k : Nat} {f C : Addr} {fd : FuncData} {ps ks : List Str} {sp : Sp} {E : L2.St → XK} {x m : Str} {p pos apos : Pos} {e o : Expr} {es : List Expr} {kws : List Keyword} {ta : TE} {t tk : TA} {ds : List Value} {dvs : List V}
variable {g : List Value → List Value → List Value} {gV : List V → List V → List V}
theorem run_fnG {pins : List (Addr × Obj)} {s0 : L2.St} {H : Hp} {s : Shared} {Q : VK} {us : List Value} {vs : List V} (F : FnOk X.prog X.w X.K X.mg X.base CX k f fd ps sp) (hr : Room k X.A) (hb : Binds X.K fd ps ds) (hd : Vals dvs ds) (hx : PassesAt CX X s0 (E s0))
    (I : Inv X pins s0 H s) (r : Vals vs us) (h : sp (vs ++ dvs) H Q (E s0)) : wpAny (model X.prog X.w) X.A (call (.ref f) us) (EP X pins s0 Q) X.xe s := by
  have r2 : Vals (vs ++ dvs) (us ++ ds) := r.append hd
  have hl : (us ++ ds).length = ps.length := by rw [← r2.length]; exact F.len _ _ _ _ h
  refine wpAny_call (codeAny_mono (F.run X.A X.stack s H ⟨us, []⟩ (us ++ ds) (vs ++ dvs) Q (E s0) hr I.env0 (hb s us I.kIn hl) r2 h) fun r s' hq => ?_)
  cases r with
  | error e => exact hx pins H s e s' I hq
  | ok fl =>
    cases fl with
    | ret u => exact I.after hq
    | next => exact False.elim hq
    | brk => exact False.elim hq
    | cont => exact False.elim hq
theorem pe_callG (F : FnOk X.prog X.w X.K X.mg X.base CX k f fd ps sp) (hr : Room k X.A) (hg : Gl X x) (hm : X.mg x = some (.ref f)) (hk : PySem.W.keepIn X.K (.ref f) = true) (hb : Binds X.K fd ps ds) (hd : Vals dvs ds) (hx : ∀ s, PassesAt CX X s (E s))
    (ha : PA X (e :: es) t) (hdb : (x == ("__debug__" : Str)) = false := by decide) (he : starEach (e :: es) X.env = (false, eval e X.env) :: starEach es X.env := by rfl) (hpl : (backTo pos (starEach es X.env)).any (·.1) = false := by rfl) :
    PE X (.Call (.Name x p) (e :: es) [] pos) (tCallG sp dvs E t) := by
  refine ⟨fun pins s s0 H Q I h => ?_⟩
  refine wpAny_Call_Name_kw (ld_glob I hg hm ?_ hdb)
  refine PySem.W.callWith_K (h₀ := X.base) I.ok.mod.kin hk (thn (ha.run pos pins s s0 H _ I h) fun us s1 ⟨vs, H1, I1, r, q⟩ => ⟨I1.kIn, ?_⟩) he hpl
  exact run_fnG F hr hb hd (hx s0) I1 r q
theorem pe_callG0 (F : FnOk X.prog X.w X.K X.mg X.base CX k f fd ps sp) (hr : Room k X.A) (hg : Gl X x) (hm : X.mg x = some (.ref f)) (hk : PySem.W.keepIn X.K (.ref f) = true) (hb : Binds X.K fd ps ds) (hd : Vals dvs ds) (hx : ∀ s, PassesAt CX X s (E s))
    (hdb : (x == ("__debug__" : Str)) = false := by decide) : PE X (.Call (.Name x p) [] [] pos) (tCallG sp dvs E tNil) := by
  refine ⟨fun pins s s0 H Q I h => ?_⟩
  refine wpAny_Call_Name_kw (ld_glob I hg hm ?_ hdb)
  exact PySem.W.callWith_K0 I.kIn hk (run_fnG (us := []) F hr hb hd (hx s0) I .nil h)
theorem run_fnGK {pins : List (Addr × Obj)} {s0 : L2.St} {H : Hp} {s : Shared} {Q : VK} {us ws : List Value} {vs zs : List V} (F : FnOk X.prog X.w X.K X.mg X.base CX k f fd ps sp) (hr : Room k X.A) (hb : KBinds X.K fd ps ks g gV) (hx : PassesAt CX X s0 (E s0))
    (I : Inv X pins s0 H s) (r : Vals vs us) (rz : Vals zs ws) (h : sp (gV vs zs) H Q (E s0)) : wpAny (model X.prog X.w) X.A (call (.ref f) us (ks.zip ws)) (EP X pins s0 Q) X.xe s := by
  have r2 := hb.rel r rz
  have hl : (g us ws).length = ps.length := by rw [← r2.length]; exact F.len _ _ _ _ h
  refine wpAny_call (codeAny_mono (F.run X.A X.stack s H ⟨us, ks.zip ws⟩ (g us ws) (gV vs zs) Q (E s0) hr I.env0 (hb.to s us ws I.kIn hl) r2 h) fun r s' hq => ?_)
  cases r with
  | error e => exact hx pins H s e s' I hq
  | ok fl =>
    cases fl with
    | ret u => exact I.after hq
    | next => exact False.elim hq
    | brk => exact False.elim hq
    | cont => exact False.elim hq
/-- f(k = v, ..) -/
theorem pe_callGK0 (F : FnOk X.prog X.w X.K X.mg X.base CX k f fd ps sp) (hr : Room k X.A) (hg : Gl X x) (hm : X.mg x = some (.ref f)) (hk : PySem.W.keepIn X.K (.ref f) = true) (hb : KBinds X.K fd ps ks g gV) (hx : ∀ s, PassesAt CX X s (E s))
    (hkw : PK X kws tk) (hall : (backToKw pos (keywordEach kws X.env)).all (·.1.isSome) = true := by rfl) (hks : (backToKw pos (keywordEach kws X.env)).filterMap (·.1) = ks := by rfl)
    (hdb : (x == ("__debug__" : Str)) = false := by decide) (hpl : ((backTo pos (starEach [] X.env)).any (·.1) || (backToKw pos (keywordEach kws X.env)).any (·.1.isNone)) = false := by rfl) :
    PE X (.Call (.Name x p) [] kws pos) (tCallGK sp gV E tNil tk) := by
  refine ⟨fun pins s s0 H Q I h => ?_⟩
  refine wpAny_Call_Name_kw (ld_glob I hg hm ?_ hdb)
  refine PySem.W.callWith_KW0 (h₀ := X.base) I.ok.mod.kin hk hall ?_ hpl
  refine thn (hkw.run pos pins s s0 H _ I h) fun ws s2 ⟨zs, H2, I2, rz, q2⟩ => ⟨I2.kIn, ?_⟩
  rw [hks]
  exact run_fnGK (us := []) (vs := []) F hr hb (hx s0) I2 .nil rz q2
/-- f(e, .., k = v, ..) -/
theorem pe_callGK (F : FnOk X.prog X.w X.K X.mg X.base CX k f fd ps sp) (hr : Room k X.A) (hg : Gl X x) (hm : X.mg x = some (.ref f)) (hk : PySem.W.keepIn X.K (.ref f) = true) (hb : KBinds X.K fd ps ks g gV) (hx : ∀ s, PassesAt CX X s (E s))
    (ha : PA X (e :: es) t) (hkw : PK X kws tk) (hall : (backToKw pos (keywordEach kws X.env)).all (·.1.isSome) = true := by rfl) (hks : (backToKw pos (keywordEach kws X.env)).filterMap (·.1) = ks := by rfl)
    (hdb : (x == ("__debug__" : Str)) = false := by decide) (he : starEach (e :: es) X.env = (false, eval e X.env) :: starEach es X.env := by rfl)
    (hpl : ((backTo pos (starEach (e :: es) X.env)).any (·.1) || (backToKw pos (keywordEach kws X.env)).any (·.1.isNone)) = false := by rfl) :
    PE X (.Call (.Name x p) (e :: es) kws pos) (tCallGK sp gV E t tk) := by
  refine ⟨fun pins s s0 H Q I h => ?_⟩
  refine wpAny_Call_Name_kw (ld_glob I hg hm ?_ hdb)
  refine PySem.W.callWith_KW (h₀ := X.base) I.ok.mod.kin hk hall (thn (ha.run pos pins s s0 H _ I h) fun us s1 ⟨vs, H1, I1, r, q⟩ => ?_) hpl he
  refine thn (hkw.run pos pins s1 s0 H1 _ I1 q) fun ws s2 ⟨zs, H2, I2, rz, q2⟩ => ⟨I2.kIn, ?_⟩
  rw [hks]
  exact run_fnGK F hr hb (hx s0) I2 r rz q2
end

/-! ### a op1 b op2 c op3 d -/
def tChain3 (o1 o2 o3 : R2) (ta tb tc td : TE) : TE := fun s H Q => ta s H fun x H1 => tb s H1 fun y H2 => o1 x y H2 fun z H3 => ∃ k, z = .bl k ∧
  (if k = true then tc s H3 fun u H4 => o2 y u H4 fun z H5 => ∃ k, z = .bl k ∧ (if k = true then td s H5 fun v H6 => o3 u v H6 Q else Q (.bl false) H5) else Q (.bl false) H3)
section
variable {X : Cx} {a b c d : Expr} {ta tb tc td : TE} {pos : Pos}
theorem pe_chain3 {p1 p2 p3 : CmpOp} {o1 o2 o3 : R2} (h1 : OpR X (compareOp p1) o1) (h2 : OpR X (compareOp p2) o2) (h3 : OpR X (compareOp p3) o3) (ha : PE X a ta) (hb : PE X b tb) (hc : PE X c tc) (hd : PE X d td)
    (hm : lastMarks [p1, p2, p3] [b, c, d] = false := by with_unfolding_all rfl) : PE X (.Compare a [p1, p2, p3] [b, c, d] pos) (tChain3 o1 o2 o3 ta tb tc td) := by
  refine ⟨fun pins s s0 H Q I h => ?_⟩
  refine Compare_chain (thn (ha.run pins s s0 H _ I h) fun v s1 ⟨x, H1, I1, r1, q1⟩ => chain_link (thn (hb.run pins s1 s0 H1 _ I1 q1) fun u s2 ⟨y, H2, I2, r2, q2⟩ =>
    thn (h1 pins s2 s0 H2 x y v u _ I2 r1 r2 q2) fun d s3 ⟨z, H3, I3, r3, k, e, q3⟩ => ?_)) hm
  subst e
  cases r3
  refine wpAny_truthy_bool ?_
  cases k with
  | false => exact ite_ff ⟨.bl false, H3, I3, rfl, q3⟩
  | true =>
    refine ite_tt (chain_link (thn (hc.run pins s3 s0 H3 _ I3 q3) fun w' s4 ⟨z', H4, I4, r4, q4⟩ => thn (h2 pins s4 s0 H4 y z' u w' _ I4 r2 r4 q4) fun d s5 ⟨z2, H5, I5, r5, k2, e2, q5⟩ => ?_))
    subst e2
    cases r5
    refine wpAny_truthy_bool ?_
    cases k2 with
    | false => exact ite_ff ⟨.bl false, H5, I5, rfl, q5⟩
    | true => exact ite_tt (chain_last (thn (hd.run pins s5 s0 H5 _ I5 q5) fun w2 s6 ⟨z3, H6, I6, r6, q6⟩ => h3 pins s6 s0 H6 z' z3 w' w2 Q I6 r4 r6 q6))
theorem pt_chain3 {p1 p2 p3 : CmpOp} {o1 o2 o3 : R2} (h1 : OpR X (compareOp p1) o1) (h2 : OpR X (compareOp p2) o2) (h3 : OpR X (compareOp p3) o3) (ha : PE X a ta) (hb : PE X b tb) (hc : PE X c tc) (hd : PE X d td)
    (hm : lastMarks [p1, p2, p3] [b, c, d] = false := by with_unfolding_all rfl) : PT X (.Compare a [p1, p2, p3] [b, c, d] pos) (tTest (tChain3 o1 o2 o3 ta tb tc td)) := by
  refine ⟨fun pins s s0 H Q I h => ?_⟩
  refine isTrue_chain (thn (ha.run pins s s0 H _ I h) fun v s1 ⟨x, H1, I1, r1, q1⟩ => test_link (thn (hb.run pins s1 s0 H1 _ I1 q1) fun u s2 ⟨y, H2, I2, r2, q2⟩ =>
    thn (h1 pins s2 s0 H2 x y v u _ I2 r1 r2 q2) fun d s3 ⟨z, H3, I3, r3, k, e, q3⟩ => ?_)) hm
  subst e
  cases r3
  refine wpAny_truthy_bool ?_
  cases k with
  | false =>
    obtain ⟨k', e', q'⟩ := q3
    cases e'
    exact ite_ff ⟨H3, I3, q'⟩
  | true =>
    refine ite_tt (test_link (thn (hc.run pins s3 s0 H3 _ I3 q3) fun w' s4 ⟨z', H4, I4, r4, q4⟩ => thn (h2 pins s4 s0 H4 y z' u w' _ I4 r2 r4 q4) fun d s5 ⟨z2, H5, I5, r5, k2, e2, q5⟩ => ?_))
    subst e2
    cases r5
    refine wpAny_truthy_bool ?_
    cases k2 with
    | false =>
      obtain ⟨k', e', q'⟩ := q5
      cases e'
      exact ite_ff ⟨H5, I5, q'⟩
    | true =>
      refine ite_tt (test_last (thn (hd.run pins s5 s0 H5 _ I5 q5) fun w2 s6 ⟨z3, H6, I6, r6, q6⟩ => thn (h3 pins s6 s0 H6 z' z3 w' w2 _ I6 r4 r6 q6) fun d' s7 ⟨z4, H7, I7, r7, k3, e3, q7⟩ => ?_))
      subst e3
      cases r7
      exact wpAny_truthy_bool ⟨H7, I7, q7⟩
end

/-! ### enumerate(tuple) -/
def IteT (K : PySem.W.Frag) (a : Addr) : It :=
  ⟨fun i H => ∃ (xs : List V) (x : V), SqT K H a xs ∧ xs[i]? = some x, fun i H v H' => ∃ T x, v = .ref T ∧ H T = none ∧ H' = upd H T (.tup [.int (i : Nat), x]) ∧ ∀ xs, SqT K H a xs → xs[i]? = some x, fun i H => ∃ xs : List V, SqT K H a xs ∧ xs.length ≤ i⟩
theorem mem_two {b e it : Addr} (h : b ∈ [e, it]) : b = e ∨ b = it := by
  rcases List.mem_cons.mp h with z | z
  · exact .inl z
  · exact .inr (List.mem_singleton.mp z)
/-- an enumerate at e over a tuple's iterator at it, both before item i -/
def EnumAt (a e it : Addr) (i : Nat) (h : Heap) : Prop := (∃ last, IsEnum h e it ((i : Nat) : Int) last) ∧ h.IsTupleIter it a i ∧ e ≠ it
theorem turn_enumT {P : Program} {w : World} {K : PySem.W.Frag} {elts : List Expr} {kk : Nat} {tpos : Pos} (a e it : Addr) (ai : a ≠ it) (ea : e ≠ a) : Turn P w K (.Tuple elts kk tpos) (IteT K a) [e, it] e (EnumAt a e it) where
  mem := List.mem_cons_self
  obj := fun i h z b hb => by
    rcases z with ⟨⟨_, g⟩, ⟨oi, gi, _, di⟩, _⟩
    rcases mem_two hb with rfl | rfl
    · exact ⟨_, g, fun _ q => nomatch q⟩
    · exact ⟨oi, gi, fun _ q => nomatch di.symm.trans q⟩
  keep := fun i h h' z same => by
    rcases z with ⟨⟨last, g⟩, gi, n⟩
    exact ⟨⟨last, same e List.mem_cons_self _ g⟩, gi.at fun o q => same it (.tail _ (.head _)) o q, n⟩
  self := fun A i s Q E z k => wpAny_pyIter_enum z.1.choose_spec k
  item := by
    rintro X rfl rfl rfl calm i pn t c H E I fp ⟨⟨last, g⟩, gi, n⟩ ⟨xs, x, hq, hx⟩
    obtain ⟨us, rv, isT, _⟩ := I.tuple hq
    obtain ⟨u, hu, ru⟩ := rv.get hx
    have le : e < t.heap.objs.size := Heap.lt_size g
    have li : it < t.heap.objs.size := Heap.lt_size gi.choose_spec.1
    have inside : i < us.toArray.size := by rw [List.size_toArray]; exact (List.getElem?_eq_some_iff.mp hu).1
    refine wpAny_pyNext_enum_itemD (Draws.tuple (A := X.A.in1) (show X.A.in1.handled = none from I.ok.hd calm) it a ai us.toArray) g ⟨gi, isT⟩ inside n (by simp [n, ea]) fun y h1 tk hy own gi1 tup _ same => ?_
    obtain rfl : y = u := Option.some.inj (hy.symm.trans (by rw [List.getElem?_toArray]; exact hu))
    refine ⟨_, rfl, wpAny_letOwnedTupleGo_enum (s := { t with heap := h1, toks := tk + 1 }) own fun h2 g2 but => ?_⟩
    have pair : ObjOk X.prog X.w (upd H t.heap.objs.size (.tup [.int (i : Nat), x])) h2 t.heap.objs.size (.tup [.int (i : Nat), x]) :=
      ⟨by show 2 ≤ sizeLine; decide, [.int i tk, y], .cons ⟨_, rfl⟩ (.cons ru .nil), ⟨_, (but.2 _ (Nat.ne_of_gt le)).trans tup, rfl, _, rfl⟩⟩
    have rest : ∀ b o, b ∉ [e, it] → t.heap.get? b = some o → h2.get? b = some o := fun b o out q => by
      have b1 : b ≠ e := fun z => out (z ▸ .head _)
      rw [but.2 b b1]
      exact same b o b1 (fun z => out (z ▸ .tail _ (.head _))) q
    refine ⟨.ref t.heap.objs.size, _, I.turnedNew (t' := tk + 1) (ch := [e, it]) rest fp (Nat.le_refl _) pair, rfl, ⟨_, x, rfl, I.hok.fresh (Nat.le_refl _), rfl, fun ys hy => ?_⟩, ⟨⟨y, ?_⟩, gi1.1.at fun o q => (but.2 it n.symm).trans q, n⟩, fun b hb => ?_⟩
    · rw [I.tuple_inj hy hq]; exact hx
    · rw [show ((i + 1 : Nat) : Int) = (i : Int) + 1 from Int.natCast_succ i]; exact g2
    · have lb : b < t.heap.objs.size := (mem_two hb).elim (fun z => z ▸ le) fun z => z ▸ li
      rw [upd_ne (Nat.ne_of_lt lb)]; exact (fp b hb).1
  done := by
    rintro X rfl rfl rfl calm i pn t c H E I fp ⟨⟨last, g⟩, gi, n⟩ ⟨xs, hq, past⟩
    obtain ⟨us, rv, isT, _⟩ := I.tuple hq
    have ty : t.TypeIs (.ref e) "enumerate" := ⟨_, g, rfl⟩
    obtain ⟨p0, p1, _, p3, p4, p5⟩ := fp it (.tail _ (.head _))
    have size : us.toArray[i]? = none := Array.getElem?_eq_none (by rw [List.size_toArray, ← rv.length]; exact past)
    unfold pyNext
    refine wpAny_bind (wpAny_attempt (wpAny_callSpecial?_slot (name := Str.ofString "__next__") ty F.slot_enumerate_next (wpAny_call_entry F.slot_enumerate_next ty F.entry_enumerate_next ?_ (F.args_enumerate_next_1 _))))
    show wpAny _ _ (field (.ref e) 2 >>= fun j => _) _ _ _
    refine wpAny_bind (wpAny_field g rfl (x := .ref it) rfl (wpAny_bind (wpAny_nextOf_tuple_end (I.ok.hd calm) gi isT size fun h1 x same stop => ?_)))
    exact wpAny_bind (wpAny_isInstance (T := "StopIteration") (b := true) ⟨_, stop.choose_spec.1, stop.choose_spec.2⟩ isSubtype_stop (wpAny_pure ⟨rfl, I.turned (t' := t.toks) (fun b o hb q => same b o hb q) p0 p1 p3 p4 p5⟩))
/-- the tuple's iterator, the enumerate over it -/
abbrev itObj (l : Addr) : Obj := { cls := .type "tuple_iterator", data := .fields #[.ref l, .int 0 0] }
abbrev enObj (it : Addr) : Obj := { cls := .type "enumerate", data := .fields #[.none, .bool false, .ref it, rawInt 0, .none, .none] }
theorem meets_enumerate_newT (l : Addr) (items : Array Value) (n : Nat) (dct : Option Addr) (sl : Array (Option Value)) :
    Meets (Builtin.«enumerate.__new__» ⟨[.type "enumerate", .ref l], []⟩) (fun _ R s => s.heap.get? l = some { cls := .type "tuple", dict := dct, data := .seq items n, slots := sl } ∧
      R (.ok (.ret (.ref (s.heap.push (itObj l)).objs.size))) { s with heap := (s.heap.push (itObj l)).push (enObj s.heap.objs.size) }) := .of_wp fun prog w A R s z => by
  obtain ⟨h0, gn, dr, tk, os⟩ := s
  obtain ⟨hl, k⟩ := z
  have hsub := sub_enumerate
  have isT : Heap.IsTuple (Shared.heap ⟨h0, gn, dr, tk, os⟩) l items := ⟨_, hl, rfl, n, rfl⟩
  wp_walk using AutoSeq1.wpAny_loadPart' hl
  refine wpAny_stack_any fun acts => wpAny_pure ?_
  split
  · rename_i cl _ _ _ _ _
    cases (cl == Value.type "enumerate") <;> (wp_walk using AutoSeq1.wpAny_loadPart' hl, wpAny_pyIter_tuple isT; exact ⟨_, rfl, k⟩)
  · wp_walk using AutoSeq1.wpAny_loadPart' hl, wpAny_pyIter_tuple isT
    exact ⟨_, rfl, k⟩
theorem call_enumerate_tuple {prog : Program} {w : World} {A : Around} {E : Value → Shared → Prop} {s : Shared} {l : Addr} {items : Array Value} {Q : Value → Shared → Prop} (isT : s.heap.IsTuple l items)
    (k : ∀ h', EnumAt l (s.heap.objs.size + 1) s.heap.objs.size 0 h' → (∀ b o, s.heap.get? b = some o → h'.get? b = some o) → Q (.ref (s.heap.objs.size + 1)) { s with heap := h' }) : wpAny (model prog w) A (call (.type "enumerate") [.ref l]) Q E s := by
  obtain ⟨⟨cl, dct, dt, sl⟩, hl, e1, n, e2⟩ := isT
  obtain rfl : cl = .type "tuple" := e1
  obtain rfl : dt = .seq items n := e2
  have z : (s.heap.push (itObj l)).objs.size = s.heap.objs.size + 1 := Heap.size_push ..
  have g : ((s.heap.push (itObj l)).push (enObj s.heap.objs.size)).get? (s.heap.objs.size + 1) = some (enObj s.heap.objs.size) := z ▸ Heap.get?_push_size (s.heap.push (itObj l)) rfl
  refine callType_new F.called_enumerate (by decide) (F.typeCall_enumerate_1 _) (F.newCall_enumerate_1 _) (fun obj => F.args_object_init_2 obj _) F.entry_enumerate_new (meets_enumerate_newT l items n dct sl) ⟨hl, ?_⟩
  show _ ∧ _
  rw [z]
  exact ⟨⟨_, g, rfl⟩, k _ ⟨⟨.none, g⟩, ⟨_, Heap.get?_push_of_some _ (Heap.get?_push_size _ rfl), rfl, rfl⟩, Nat.succ_ne_self _⟩ fun b o q => Heap.get?_push_of_some _ (Heap.get?_push_of_some _ q)⟩
/-- enumerate of a list or of a tuple -/
def iEnumA (K : PySem.W.Frag) (ta : TA) : TI := fun s H R => ta s H fun vs H1 => ∃ a xs, vs = [.ref a] ∧ ((SqL K H1 a xs ∧ R (Ite K a) H1) ∨ (SqT K H1 a xs ∧ R (IteT K a) H1))
theorem pi_enumA {X : Cx} {e : Expr} {ta : TA} {p pos tpos : Pos} {elts : List Expr} {kk : Nat} (hg : Gl X "enumerate") (hm : X.mg "enumerate" = none) (ha : PA X [e] ta) (hs : starEach [e] X.env = [(false, eval e X.env)] := by rfl) :
    PI X (.Tuple elts kk tpos) (.Call (.Name "enumerate" p) [e] [] pos) (iEnumA X.K ta) := by
  refine ⟨fun pins s s0 H R I h => ?_⟩
  refine Call_ (ld_blt I hg hm boot_enumerate (PyProof.Rows.callWith_type1 (thn (ha.run pos pins s s0 H _ I h) fun us s1 ⟨vs, H1, I1, r1, q1⟩ => ?_) hs rfl))
  obtain ⟨a, xs, ex, q⟩ := q1
  subst ex
  cases r1 with
  | cons r rr =>
    cases rr
    cases r
    have fresh : ∀ b ∈ [s1.heap.objs.size + 1, s1.heap.objs.size], FpOk X pins H1 b := fun b hb => by
      have up : s1.heap.objs.size ≤ b := (mem_two hb).elim (fun z => z ▸ Nat.le_succ _) fun z => z ▸ Nat.le_refl _
      exact I1.fpOk up (I1.hok.fresh up)
    rcases q with ⟨hq, q⟩ | ⟨hq, q⟩
    · obtain ⟨us, _, isL, _⟩ := I1.list hq
      exact call_enumerate_list isL.isList fun h2 en it _ same => wpAny_pyIter_enum en ⟨s1.heap.objs.size + 1, [s1.heap.objs.size + 1, s1.heap.objs.size], _, _, H1, rfl, I1.kept (t' := s1.toks) same, turn_enum a _ _, ⟨⟨.none, en⟩, it, Nat.succ_ne_self _⟩, fresh, q⟩
    · obtain ⟨us, _, isT, _⟩ := I1.tuple hq
      have low : a < s1.heap.objs.size := Heap.lt_size isT.choose_spec.1
      exact call_enumerate_tuple (show s1.heap.IsTuple a us.toArray from isT) fun h2 en same => wpAny_pyIter_enum en.1.choose_spec
        ⟨s1.heap.objs.size + 1, [s1.heap.objs.size + 1, s1.heap.objs.size], _, _, H1, rfl, I1.kept (t' := s1.toks) same, turn_enumT a _ _ (Nat.ne_of_lt low) (Nat.ne_of_gt (Nat.lt_succ_of_lt low)), en, fresh, q⟩
/-- for over a list or a tuple -/
def iSeq (K : PySem.W.Frag) (tl : TE) : TI := fun s H R => tl s H fun x H1 => ∃ a xs, x = .ref a ∧ ((SqL K H1 a xs ∧ R (Itl K a) H1) ∨ (SqT K H1 a xs ∧ R (Itt K a) H1))
theorem pi_seq {X : Cx} {tg l : Expr} {tl : TE} (hl : PE X l tl) : PI X tg l (iSeq X.K tl) := by
  refine ⟨fun pins s s0 H R I h => ?_⟩
  refine thn (hl.run pins s s0 H _ I h) fun u s1 ⟨x, H1, I1, r1, a, xs, ex, q⟩ => ?_
  subst ex
  obtain rfl : u = Value.ref a := r1
  have one : ∀ b ∈ [s1.heap.objs.size], FpOk X pins H1 b := fun b hb => List.mem_singleton.mp hb ▸ I1.fpOk (Nat.le_refl _) (I1.hok.fresh (Nat.le_refl _))
  have more : ∀ o : Obj, ∀ b q, s1.heap.get? b = some q → (s1.heap.push o).get? b = some q := fun o b q e => Heap.get?_push_of_some _ e
  rcases q with ⟨hq, q⟩ | ⟨hq, q⟩
  · obtain ⟨us, _, isL, _⟩ := I1.list hq
    exact wpAny_pyIter_list isL.isList ⟨s1.heap.objs.size, [s1.heap.objs.size], _, _, H1, rfl, I1.kept (t' := s1.toks) (more _), turn_list a _, ⟨_, Heap.get?_push_size _ rfl, rfl, rfl⟩, one, q⟩
  · obtain ⟨us, _, isT, _⟩ := I1.tuple hq
    exact wpAny_pyIter_tuple (show s1.heap.IsTuple a us.toArray from isT) ⟨s1.heap.objs.size, [s1.heap.objs.size], _, _, H1, rfl, I1.kept (t' := s1.toks) (more _), turn_tuple a _, ⟨_, Heap.get?_push_size _ rfl, rfl, rfl⟩, one, q⟩
end Dz
/-! Dz, part X: an exception class of the program whose __init__ says super().__init__('..'); self.f = f: made, raised. -/
namespace PySem
namespace BadX
open PySem.W PySem.Calls PyProof.Rows PySem.HandSPX
open Builtin Builtin.ObjectAttr
/-- a built-in base B: its chain, its makers, its stores -/
structure BaseT (B newId initId : String) (tail : List Value) : Prop where
  base : ExcBaseFacts B newId initId tail
  kxs : KxsFacts B initId
  sets : StoreFacts B tail "object.__setattr__" "object"
  self : excTail tail tail = true
theorem base_VE : BaseT "ValueError" "ValueError.__new__" "ValueError.__init__" [.type "ValueError", .type "Exception", .type "BaseException", .type "object"] := ⟨F.excBase_ValueError, kxs_ValueError, F.store_ValueError, by decide +kernel⟩
theorem base_LE : BaseT "LookupError" "LookupError.__new__" "LookupError.__init__" [.type "LookupError", .type "Exception", .type "BaseException", .type "object"] := ⟨F.excBase_LookupError, kxs_LookupError, F.store_LookupError, by decide +kernel⟩
theorem base_OE : BaseT "OverflowError" "OverflowError.__new__" "OverflowError.__init__" [.type "OverflowError", .type "ArithmeticError", .type "Exception", .type "BaseException", .type "object"] := ⟨F.excBase_OverflowError, kxs_OverflowError, F.store_OverflowError, by decide +kernel⟩
/-- own classes, then a built-in's chain -/
def Refs (tail l : List Value) : Prop := ∃ cs : List Addr, l = cs.map Value.ref ++ tail
theorem Refs.cons {tail l : List Value} (h : Refs tail l) (C : Addr) : Refs tail (.ref C :: l) := by
  obtain ⟨cs, e⟩ := h
  exact ⟨C :: cs, by rw [e]; rfl⟩
theorem Refs.contains {tail : List Value} (X : String) : ∀ {l : List Value}, Refs tail l → l.contains (.type X) = tail.contains (.type X) := by
  rintro l ⟨cs, rfl⟩
  induction cs with
  | nil => rfl
  | cons c r ih => rw [List.map_cons, List.cons_append, List.contains_cons, ih]; rfl
theorem Refs.over {tail l : List Value} {K : W.Frag} {C : Addr} {cd : ClassData} (h : Refs tail l) (t0 : excTail tail tail = true) (c : W.clsIn K C = some cd) (m : cd.mro = .ref C :: l) : excOver K C tail = true := by
  obtain ⟨cs, rfl⟩ := h
  have t : ∀ cs : List Addr, excTail tail (cs.map Value.ref ++ tail) = true := fun cs => by
    induction cs with
    | nil => exact t0
    | cons _ r ih => exact ih
  unfold excOver
  rw [c]
  show (match cd.mro with | .ref C' :: bm => C' == C && excTail tail bm | _ => false) = true
  rw [m]
  show (C == C && excTail tail _) = true
  rw [t cs, beq_self_eq_true, Bool.and_self]
section
variable {prog : Program} {w : World} {A : Around} {E : Value → Shared → Prop} {R : Result → Shared → Prop} {t : Shared}
/-- an exception x of class C once its first store has made the dict dx -/
structure FirstStore (h h' : Heap) (x C dx t0 : Addr) (name : Str) (v : Value) : Prop where
  old : ∀ b o, b ≠ x → h.get? b = some o → h'.get? b = some o
  behind : h.objs.size ≤ dx
  other : dx ≠ x
  obj : h'.get? x = some (excO C t0 |> fun o => { o with dict := some dx })
  only : h'.Ns1 dx (fun y => if y = name then some v else none)
theorem exc_first {K : W.Frag} {name : Str} {tk : Tok} {v : Value} {x C t0 : Addr} {cd : ClassData} {B : String} {tail : List Value} (SF : StoreFacts B tail "object.__setattr__" "object") (ov : excOver K C tail = true)
    (X : K.In t.heap) (there : t.heap.get? x = some (excO C t0)) (hcd : W.clsIn K C = some cd) (hh : cd.hasDict = true) (ha : W.findIn K (.ref C) name = some none)
    (k : ∀ h' tk' dx, FirstStore t.heap h' x C dx t0 name v → R (.ok (.ret .none)) { t with heap := h', toks := tk' }) :
    codeAny (model prog w) A (.call (.builtin "object.__setattr__") ⟨[.ref x, .str name tk, v], []⟩) R t := by
  refine osa_openX (od := none) SF X ⟨there, rfl, rfl, trivial⟩ ov (by unfold W.takerIn; rw [ha]; rfl) fun b => ?_
  refine wpAny_bind (wpAny_pure (wpAny_bind (instanceDict_exc there (W.looks_clsIn X hcd) hh ?_)))
  have lt := Heap.lt_size there
  obtain ⟨hp, g, d, tt, os⟩ := t
  show wpAny _ _ (storeInDict hp.objs.size (.str name tk) name v) _ _ _
  refine PX.store_in_new (dx := hp.objs.size) (tk := tk) ⟨_, #[], _, (Heap.get?_update_ne _ _ _ _ (Nat.ne_of_gt lt)).trans (Heap.get?_push_at rfl rfl), rfl, fun e he => absurd he (by simp), fun _ => rfl⟩ fun h' tk' one same => k h' tk' hp.objs.size ?_
  refine ⟨fun c o n g => ?_, Nat.le_refl _, Nat.ne_of_gt lt, ?_, one⟩
  · rw [same.2 c (Nat.ne_of_lt (Heap.lt_size g)), Heap.get?_update_ne _ _ _ _ n]
    exact Heap.get?_push_of_some _ g
  · rw [same.2 x (Nat.ne_of_lt lt)]
    exact Heap.get?_update_self _ (Heap.get?_push_of_some _ there) rfl
end
/-! ### the text of __init__ -/
def iA (f : Str) (p1 p2 : Pos) : Arguments := { posonlyargs := [], args := [{ arg := "self", annotation := none, pos := p1 }, { arg := f, annotation := none, pos := p2 }], vararg := none, kwonlyargs := [], kw_defaults := [], kwarg := none, defaults := [] }
def iB (f msg : Str) (p0 p1 p2 p3 p4 p5 q1 q2 q3 q4 : Pos) : List Stmt :=
  [.Expr (.Call (.Attribute (.Call (.Name "super" p0) [] [] p1) "__init__" p2) [.Constant (.str msg) 0 p3] [] p4) p5, .Assign [.Attribute (.Name "self" q1) f q2] (.Name f q3) q4]
def iS (f : Str) : Scope := { kind := .function, names := [("self", .local), (f, .local), ("__class__", .free), ("super", .globalImplicit)], isGenerator := false, isCoroutine := false, more := [] }
/-- what the written part says of the class nme at C, and of its __init__, at fI -/
abbrev superE (msg : Str) (r0 r1 r2 r3 r4 : Pos) : Expr := .Call (.Attribute (.Call (.Name "super" r0) [] [] r1) "__init__" r2) [.Constant (.str msg) 0 r3] [] r4
/-- what hangs on the places in the text: how the arguments bind, how the call is made -/
def TextOk (fd : FuncData) (fI : Addr) (f msg : Str) (r0 r1 r2 r3 r4 r5 q1 q2 q3 q4 : Pos) : Prop :=
  (∀ a b : Value, bindArgs fd ⟨[a, b], []⟩ = pure [(("self" : Str), a), (f, b)]) ∧
  ∀ L : Addr, (∃ pl : Sem Bool, eval (superE msg r0 r1 r2 r3 r4) (callEnv fd L fI) = (do
      let ov ← attributeBase (.Call (.Name "super" r0) [] [] r1) "__init__" (callEnv fd L fI) (eval (.Call (.Name "super" r0) [] [] r1) (callEnv fd L fI))
      standAt r2.atName
      let (f, first) ← holding [ov] (getMethod ov "__init__" pl)
      callWith r4 f first (backTo r4 (starEach [.Constant (.str msg) 0 r3] (callEnv fd L fI))) [])) ∧
    swapsWith (superE msg r0 r1 r2 r3 r4) none r5.line (callEnv fd L fI) = pure false ∧ swapsWith (.Name f q3) (some (.Attribute (.Name "self" q1) f q2)) q4.line (callEnv fd L fI) = pure false
structure BadTxt (prog : Program) (K : Frag) (mg : Str → Option Value) (nme f : Str) (C : Addr) : Prop where
  gC : mg nme = some (.ref C)
  cls : ∃ nm q N bs bm sn sub ab col dd k0 k1 k2 k3 k5 B newId initId tail, BaseT B newId initId tail ∧ K.lookup C = some (excClassObj nm q C N bs bm true sn sub ab col dd k0 k1 k2 k3 k5 newId) ∧ Refs tail bm ∧
    alongIn K "__init__" bm = some (some (.builtin initId)) ∧ subIn K (.ref C) (.type B) = some true
  fn : ∃ (fI cc cda : Addr) (oc : Value) (od : Option Addr) (doc pm : Value) (an : Option Addr) (ct : Value) (osl : Array (Option Value)) (qn msg : Str) (p1 p2 r0 r1 r2 r3 r4 r5 q1 q2 q3 q4 : Pos) (ccl cl : Value) (cdd cld : Option Addr) (vs : Array Value) (ccs csl : Array (Option Value)) (file : Str) (tf : Tok),
    K.lookup fI = some ⟨oc, od, .func (ksFn "__init__" qn (iA f p1 p2) (iB f msg r0 r1 r2 r3 r4 r5 q1 q2 q3 q4) (iS f) .none .none doc pm an (.ref cda) ct cc), osl⟩ ∧ codeIn K (.ref cda) qn = true ∧
    findIn K (.ref C) "__init__" = some (some (.ref fI)) ∧ typeIn K (.ref fI) = some (.type "function") ∧
    K.lookup cda = some ⟨ccl, cdd, .fields vs, ccs⟩ ∧ vs[2]? = some (.str file tf) ∧ ((prog.main.file : Str) == file) = true ∧ K.lookup cc = some ⟨cl, cld, .cell (some (.ref C)), csl⟩ ∧
    TextOk (ksFn "__init__" qn (iA f p1 p2) (iB f msg r0 r1 r2 r3 r4 r5 q1 q2 q3 q4) (iS f) .none .none doc pm an (.ref cda) ct cc) fI f msg r0 r1 r2 r3 r4 r5 q1 q2 q3 q4
  htop : (prog.main.scope.names.lookup ("super" : Str)).isSome = false
  msuper : mg "super" = none
  sa : findIn K (.ref C) "__setattr__" = some (some (.builtin "object.__setattr__"))
  ga : findIn K (.ref C) "__getattribute__" = some (some (.builtin "BaseException.__getattribute__"))
  gg : findIn K (.ref C) "__getattr__" = some none
  noN : findIn K (.ref C) f = some none
  kC : keepIn K (.ref C) = true
  exC : subIn K (.ref C) (.type "BaseException") = some true
  tyC : typeIn K (.ref C) = some (.type "type")
  hdC : hasDictIn K C = true
  ops : nsIn K cStatics "thirdparty.any" = some none
  nf : ("self" == f) = false ∧ (("__class__" : Str) == f) = false ∧ (("super" : Str) == f) = false ∧ (f == ("__debug__" : Str)) = false
theorem one_size (v : Value) : [v].length ≤ sizeLine := by
  rw [sizeLine_eq]
  exact (by decide : 1 ≤ 16777216)
/-- what __init__ leaves of a fresh exception at x -/
structure InitEnd (f : Str) (h h' : Heap) (x C dx t1 : Addr) (v : Value) : Prop where
  keep : ∀ b o, b ≠ x → h.get? b = some o → h'.get? b = some o
  obj : h'.get? x = some { cls := .ref C, dict := some dx, data := .fields #[.ref t1, .none, .none, .none, .bool false, .none] }
  dbig : h.objs.size ≤ dx
  dne : dx ≠ x
  ns : h'.Ns1 dx (fun y => if y = f then some v else none)
structure OwnMade (f : Str) (h h' : Heap) (e C d : Addr) (v : Value) : Prop where
  keep : ∀ b o, h.get? b = some o → h'.get? b = some o
  new : h.objs.size ≤ e
  obj : ∃ oe vs, h'.get? e = some oe ∧ oe.cls = .ref C ∧ oe.dict = some d ∧ oe.data = .fields vs ∧ vs[1]? = some .none
  dbig : h.objs.size ≤ d
  dne : d ≠ e
  ns : h'.Ns1 d (fun y => if y = f then some v else none)
section
variable {prog : Program} {w : World} {A : Around} {E : Value → Shared → Prop} {R : Result → Shared → Prop} {s : Shared} {K : Frag} {mg mb : Str → Option Value} {nme f : Str} {C : Addr}
theorem lk_self (hf : ("self" == f) = false) : (iS f).names.lookup ("self" : Str) = some .local := by simp [iS, List.lookup]
theorem lk_f (hf : ("self" == f) = false) : (iS f).names.lookup f = some .local := by
  have h : (f == ("self" : Str)) = false := by
    rw [beq_eq_false_iff_ne] at hf ⊢
    exact fun z => hf z.symm
  simp [iS, List.lookup, h]
theorem lk_cls (hf : (("__class__" : Str) == f) = false) : (iS f).names.lookup ("__class__" : Str) = some .free := by
  have e : (("__class__" : Str) == ("self" : Str)) = false := by decide +kernel
  simp [iS, List.lookup, hf, e]
theorem lk_sup (hf : (("super" : Str) == f) = false) : (iS f).names.lookup ("super" : Str) = some .globalImplicit := by
  have e : (("super" : Str) == ("self" : Str)) = false := by decide +kernel
  have e2 : (("super" : Str) == ("__class__" : Str)) = false := by decide +kernel
  simp [iS, List.lookup, hf, e, e2]
theorem bad_init (T : BadTxt prog K mg nme f C) {fI : Addr} (hfI : findIn K (.ref C) "__init__" = some (some (.ref fI))) {x t0 : Addr} {v : Value} (X : K.In s.heap) (G : s.heap.Ns mainGlobals mg) (GB : s.heap.Ns builtinsNs mb) (hb : mb "super" = some (.type "super")) (hlim : s.heap.NoLimit)
    (hx : s.heap.get? x = some (excO C t0)) (hnx : K.lookup x = none) (hroom : A.depth < recursionLimit) (hgx : x ≠ mainGlobals) (hbx : x ≠ builtinsNs)
    (hq : ∀ h' tk dx t1, InitEnd f s.heap h' x C dx t1 v → R (.ok (.ret .none)) { s with heap := h', toks := tk }) :
    codeAny (model prog w) A (.call (.ref fI) ⟨[.ref x, v], []⟩) R s := by
  obtain ⟨fI', cc, cda, oc, od, doc, pm, an, ct, osl, qn, msg, p1, p2, r0, r1, r2, r3, r4, r5, q1, q2, q3, q4, ccl, cl, cdd, cld, vs, ccs, csl, file, tf, ho, hcd, hfI', tI, hcode, hvs, hfile, hcell, hbind, htxt⟩ := T.fn
  obtain rfl : fI' = fI := by
    rw [hfI] at hfI'
    cases hfI'; rfl
  obtain ⟨nm, q, N, bs, bm, sn, sub, ab, col, dd, k0, k1, k2, k3, k5, B, newId, initId, tail, BT, hC, hbm, hal, hsubB⟩ := T.cls
  obtain ⟨n1, n2, n3, n4⟩ := T.nf
  have hcl : clsIn K C = some { name := nm, bases := bs, mro := .ref C :: bm, ns := N, qualname := q, hasDict := true, slotNames := sn, subclasses := sub, abstract := ab, collection := col, hasDel := false } := by unfold clsIn; rw [hC] <;> rfl
  have n1' : (f == ("self" : Str)) = false := by
    rw [beq_eq_false_iff_ne] at n1 ⊢
    exact fun z => n1 z.symm
  refine ks_codeAny_call_defAt (fd := ksFn "__init__" qn (iA f p1 p2) (iB f msg r0 r1 r2 r3 r4 r5 q1 q2 q3 q4) (iS f) .none .none doc pm an (.ref cda) ct cc) (body := iB f msg r0 r1 r2 r3 r4 r5 q1 q2 q3 q4) (binds := [(("self" : Str), .ref x), (f, v)]) hroom (X _ _ ho) rfl hlim (codeRec_of X hcd) rfl
    (BindsTo.of_eq (hbind _ _)) (by intro y hy; simp [iS] at hy; rcases hy with rfl | rfl | rfl | rfl <;> simp) (by
      intro y hy
      simp at hy
      rcases hy with rfl | rfl
      · exact lk_self n1
      · exact lk_f n1) (fun h₁ hn k => ?_) rfl rfl rfl
  have hxL : s.heap.objs.size ≠ x := Nat.ne_of_gt (Heap.lt_size hx)
  have X₁ : K.In h₁ := X.keeps k
  have hx₁ := k _ _ hx
  have hC₁ := X₁ _ _ hC
  have lself : (fun y => [(("self" : Str), Value.ref x), (f, v)].reverse.lookup y) ("self" : Str) = some (.ref x) := by
    show List.lookup ("self" : Str) [(f, v), (("self" : Str), Value.ref x)] = _
    simp [List.lookup, n1]
  have lf : (fun y => [(("self" : Str), Value.ref x), (f, v)].reverse.lookup y) f = some v := by
    show List.lookup f [(f, v), (("self" : Str), Value.ref x)] = _
    simp [List.lookup]
  -- super().__init__('..')
  obtain ⟨⟨pl, hcall⟩, hs1, hs2⟩ := htxt s.heap.objs.size
  refine ks_wpAt_execs_cons (ks_wpAt_Expr_any (ks_wpAt_MethodCall (pl := pl) ?_ hcall) rfl hs1)
  refine ks_wpAt_super_base (ar := { arg := "self", annotation := none, pos := p1 }) (lk_sup n3) (lk_cls n2) (by decide +kernel) rfl (X₁ _ _ ho) rfl rfl rfl (X₁ _ _ hcode) rfl hvs hfile T.htop ?_
  refine ks_loadName_global rfl (lk_sup n3) (loadGlobal_builtin (G.keeps k) T.msuper (GB.keeps k) hb ⟨rfl, ?_⟩)
  refine wpAny_loadName_free rfl (lk_cls n2) rfl ⟨_, X₁ _ _ hcell, rfl⟩ ?_
  refine wpAny_loadName_local rfl (lk_self n1) hn lself ?_
  refine ks_wpAny_isType_cls hC₁ rfl ⟨rfl, ?_⟩
  refine ks_wpAny_call_super hC₁ rfl hx₁ rfl (fun c e => by cases e) (looks_mroIn X₁ (by unfold mroIn; rw [hcl, Option.bind_some, if_neg (by simp)]; simp)) (fun h₂ e2 k2 => ?_)
  have X₂ := X₁.keeps k2
  have hx₂ := k2 _ _ hx₁
  refine kxs_getMethod BT.kxs e2 (looks_opaque X₂ T.ops) (l₀ := .ref C :: bm) (fun A Q E s kk q => wpAny_bind ((looks_clsIn X₂ hcl) A _ E s kk (wpAny_pure q))) (l := bm) (by simp [List.dropWhile_cons]) X₂ hal
    ((show InstAt h₂ x (excO C t0) C none from ⟨hx₂, rfl, rfl, trivial⟩).type.andThen (looks_subIn X₂ hsubB)) (fun z => by rw [z, X₂ _ _ hC] at hx₂; cases hx₂) (by decide +kernel) ?_
  have k3 : ∀ b o, h₂.get? b = some o → (h₂.push (kxs_mw initId x)).get? b = some o := fun b o e => Heap.get?_push_of_some _ e
  have hw3 : (h₂.push (kxs_mw initId x)).get? h₂.objs.size = some (kxs_mw initId x) := Heap.get?_push_at rfl rfl
  have X₃ := X₂.keeps k3
  have hx₃ := k3 _ _ hx₂
  refine kxs_callWith (i := initId) (x := x) rfl (evalArgs_plain ?_)
  refine spliced_cons (Constant_str (x := msg) (k := 0) (pos := r3) (env := callEnv (ksFn "__init__" qn (iA f p1 p2) (iB f msg r0 r1 r2 r3 r4 r5 q1 q2 q3 q4) (iS f) .none .none doc pm an (.ref cda) ct cc) s.heap.objs.size fI') (spliced_nil ?_))
  refine ⟨hw3, ?_⟩
  refine wpAny_call (codeAny_of_tree ?_)
  show wpAny _ _ (callAny (.ref h₂.objs.size) _) _ _ _
  simp only [callAny]
  refine wpAny_bind (wpAny_load hw3 ?_)
  simp only [kxs_mw, show (Value.type "method-wrapper" == Value.type "method" || Value.type "method-wrapper" == Value.type "builtin_function_or_method" || Value.type "method-wrapper" == Value.type "method-wrapper") = true by decide, if_true]
  refine KFB.if_so (by decide) ?_
  refine wpAny_bind (check_bound_init BT.base.toExcCallFacts (X₃ _ _ hC) hx₃ rfl ?_)
  refine wpAny_bind (wpAny_pure (wpAny_pure ?_))
  refine ⟨plainId_quiet BT.base.init.plain _, codeAny_builtin BT.base.initEntry ?_⟩
  refine exc_init_tree (cls := .ref C) (t0 := t0) (dv := none) (c2 := .none) (c3 := .none) (b4 := .bool false) hx₃ (one_size _) fun h₄ k4 e4 t4 => ?_
  have hn₄ : h₄.Ns s.heap.objs.size (fun y => [(("self" : Str), Value.ref x), (f, v)].reverse.lookup y) := by
    obtain ⟨oL, es, ep, hL, rr⟩ := hn
    exact ⟨oL, es, ep, k4 _ _ hxL (k3 _ _ (k2 _ _ hL)), rr⟩
  have X₄ : K.In h₄ := fun a o e => k4 a o (fun z => by rw [z, hnx] at e; cases e) (X₃ a o e)
  -- self.f = f
  refine wpAt_of_wpAny ?_
  refine wpAny_execs_cons (plainObj_wpAny_Assign_Attribute ?_ hs2)
  refine wpAny_Name (wpAny_loadName_local rfl (lk_f n1) hn₄ lf ?_) n4
  refine wpAny_Name (wpAny_loadName_local rfl (lk_self n1) hn₄ lself ?_) (by decide)
  refine set_plain X₄ (ox := excO C _) (od := none) ⟨e4, rfl, rfl, trivial⟩ T.sa ?_
  refine exc_first BT.sets (hbm.over BT.self hcl rfl) X₄ e4 hcl rfl T.noN fun h₅ tk₅ dx ⟨k₅, dn, dne, hx₅, hn₅⟩ => ?_
  refine wpAny_execs_nil (hq h₅ tk₅ dx _ ⟨fun b o hb e => k₅ b o hb (k4 b o hb (k3 _ _ (k2 _ _ (k b o e)))), hx₅, ?_, dne, hn₅⟩)
  have z1 : s.heap.objs.size < h₁.objs.size := hn.lt
  have z2 : s.heap.objs.size < h₄.objs.size := hn₄.lt
  exact Nat.le_of_lt (Nat.lt_of_lt_of_le z2 dn)
theorem bad_made (T : BadTxt prog K mg nme f C) {v : Value} (X : K.In s.heap) (G : s.heap.Ns mainGlobals mg) (GB : s.heap.Ns builtinsNs mb) (hb : mb "super" = some (.type "super")) (hlim : s.heap.NoLimit) (hroom : A.depth + 1 < recursionLimit)
    (hq : ∀ h' tk e d, OwnMade f s.heap h' e C d v → R (.ok (.ret (.ref e))) { s with heap := h', toks := tk }) :
    codeAny (model prog w) A (.call (.ref C) ⟨[v], []⟩) R s := by
  obtain ⟨nm, q, N, bs, bm, sn, sub, ab, col, dd, k0, k1, k2, k3, k5, B, newId, initId, tail, BT, hC, hbm, hal, hsubB⟩ := T.cls
  obtain ⟨fI, cc, cda, oc, od, doc, pm, an, ct, osl, qn, msg, p1, p2, r0, r1, r2, r3, r4, r5, q1, q2, q3, q4, ccl, cl, cdd, cld, vs, ccs, csl, file, tf, ho, hcd, hfI, tI, hcode, hvs, hfile, hcell, hbind, htxt⟩ := T.fn
  obtain ⟨hp, g, dr, tk, os⟩ := s
  have k : ∀ b o, hp.get? b = some o → ((hp.push (kdv_tup [v])).push (excO C hp.objs.size)).get? b = some o := fun b o e => Heap.get?_push_of_some _ (Heap.get?_push_of_some _ e)
  have hget : ((hp.push (kdv_tup [v])).push (excO C hp.objs.size)).get? (hp.objs.size + 1) = some (excO C hp.objs.size) := by heap_get
  have hnx : K.lookup (hp.objs.size + 1) = none := by
    cases e : K.lookup (hp.objs.size + 1) with
    | none => rfl
    | some o =>
      have z : hp.get? (hp.objs.size + 1) = some o := X _ _ e
      exact absurd (Nat.lt_of_succ_lt (Heap.lt_size z)) (Nat.lt_irrefl _)
  have hg1 : hp.objs.size + 1 ≠ mainGlobals := fun z => by
    obtain ⟨o, es, ep, e, _⟩ := G
    have := Heap.lt_size (show hp.get? mainGlobals = some o from e)
    rw [← z] at this
    exact absurd (Nat.lt_of_succ_lt this) (Nat.lt_irrefl _)
  have hb1 : hp.objs.size + 1 ≠ builtinsNs := fun z => by
    obtain ⟨o, es, ep, e, _⟩ := GB
    have := Heap.lt_size (show hp.get? builtinsNs = some o from e)
    rw [← z] at this
    exact absurd (Nat.lt_of_succ_lt this) (Nat.lt_irrefl _)
  refine call_own BT.base (fun X => hbm.contains X) (X _ _ hC) (looks_findIn X hfI) (fun self => bind_fn X self tI) (one_size v) ?_
  refine bad_init (s := ⟨(hp.push (kdv_tup [v])).push (excO C hp.objs.size), g, dr, tk, os⟩) T hfI (X.keeps k) (G.keeps k) (GB.keeps k) hb (hlim.keeps k) hget hnx ?_ hg1 hb1 fun h' tk' dx t1 ⟨k', hx, dn, dne, hns⟩ => ?_
  · show A.depth + 1 < recursionLimit
    exact hroom
  · have old : ∀ b o, hp.get? b = some o → h'.get? b = some o := fun b o e => k' b o (Nat.ne_of_lt (Nat.lt_succ_of_lt (Heap.lt_size e))) (k b o e)
    have z : hp.objs.size + 1 + 1 ≤ dx := by
      first
        | (simpa only [Heap.size_push] using dn)
        | exact dn
        | (have q := dn; rw [Heap.size_push, Heap.size_push] at q; exact q)
    exact ⟨rfl, hq h' tk' (hp.objs.size + 1) dx ⟨old, Nat.le_succ _, ⟨_, _, hx, rfl, rfl, rfl, rfl⟩, Nat.le_trans (Nat.le_trans (Nat.le_succ _) (Nat.le_succ _)) z, dne, hns⟩⟩
end
end BadX
end PySem

namespace Dz
open PySem PySem.Spec PyProof.Rows L2
theorem relO_one {f : Str} {v : V} {v' : Value} (r : RelV v v') (y : Str) : RelO (List.lookup y [(f, v)]) (if y = f then some v' else none) := by
  by_cases hw : y = f
  · subst hw
    rw [if_pos rfl]
    have q : List.lookup y [(y, v)] = some v := by simp [List.lookup]
    rw [q]
    exact r
  · rw [if_neg hw]
    have qw : (y == f) = false := by simpa using hw
    have q2 : List.lookup y [(f, v)] = none := by simp [List.lookup, qw]
    rw [q2]
    trivial
section
variable {X : Cx} {C : Addr} {nme f : Str}
/-- C(e) -/
def tMkBad (C : Addr) (f : Str) (ta : TA) : L2.St → Hp → XK → Prop := fun s H Q => ta s H fun vs H1 => ∃ v, vs = [v] ∧ ∀ d, H1 d = none → Q (.ref C) (some d) (upd H1 d (.xd [(f, v)]))
theorem pmk_bad {a : Expr} {ta : TA} {p pos : Pos} {k : Nat} (T : PySem.BadX.BadTxt X.prog X.K X.mg nme f C) (hr : Room k X.A) (ha : PA X [a] ta) (hg : Gl X nme := by rfl) (hdb : (nme == ("__debug__" : Str)) = false := by decide)
    (he : starEach (a :: []) X.env = (false, eval a X.env) :: starEach [] X.env := by rfl) (hpl : (backTo pos (starEach [] X.env)).any (·.1) = false := by rfl) :
    PMk X (.Call (.Name nme p) [a] [] pos) (tMkBad C f ta) := by
  intro pins s s0 H Q I h
  refine wpAny_Call_Name_kw (ld_glob I hg T.gC ?_ hdb)
  refine PySem.W.callWith_K (h₀ := X.base) I.ok.mod.kin T.kC (thn (ha.run pos pins s s0 H _ I h) fun us s1 hh => ?_) he hpl
  obtain ⟨vs, H1, I1, r1, v, ev, q1⟩ := hh
  subst ev
  refine ⟨I1.kIn, ?_⟩
  cases r1 with
  | cons rv rn =>
    rename_i v' us'
    cases rn
    show wpAny _ _ (call (.ref C) [v']) _ _ _
    have hlim := I1.nolimit
    obtain ⟨mb, hmb, hboot⟩ := I1.mod.blt
    have GB := hmb.keeps I1.bk
    have G := I1.mod.glob.keeps I1.bk
    have hs : mb "super" = some (.type "super") := (hboot _ (by decide +kernel)).trans (by decide +kernel)
    obtain ⟨hp, g, dr, tk, os⟩ := s1
    refine wpAny_call (PySem.BadX.bad_made T I1.kIn G GB hs hlim (by have := hr.dp; omega) fun h' tk' e d M => ?_)
    show MkP X pins s0 Q (.ref e) ⟨h', g, dr, tk', os⟩
    obtain ⟨oe, fv, hoe, hc, hd, hdat, h1⟩ := M.obj
    have hns := M.ns
    obtain ⟨G', g1, g2⟩ := restrict h' fun b => decide (b ≠ e)
    have gk : ∀ b, b ≠ e → G'.get? b = h'.get? b := fun b hb => g1 b (decide_eq_true hb)
    have ge : G'.get? e = none := g2 e (by simp)
    have old : ∀ b o, hp.get? b = some o → G'.get? b = some o := fun b o q => (gk b (Nat.ne_of_lt (Nat.lt_of_lt_of_le (Heap.lt_size q) M.new))).trans (M.keep b o q)
    have ob : ObjOk X.prog X.w (upd H1 d (.xd [(f, v)])) G' d (.xd [(f, v)]) :=
      ⟨_, hns.at (fun o q => (gk d M.dne).trans q), fun y => relO_one rv y⟩
    have J : Inv X pins s0 (upd H1 d (.xd [(f, v)])) ⟨G', g, dr, tk', os⟩ := I1.laid (t' := tk') old M.dbig ob
    refine ⟨e, oe, fv, ⟨G', g, dr, tk', os⟩, _, .ref C, some d, rfl, J, fun b o q => ?_, ge, hoe, ⟨hc, hd⟩, hdat, h1, ?_, rfl, I1.bare, raises_own T.exC T.tyC, q1 d (I1.hok.fresh M.dbig)⟩
    · by_cases hb : b = e
      · have q' : G'.get? b = some o := q
        rw [hb, ge] at q'; cases q'
      · exact (gk b hb).symm.trans q
    · rw [upd_ne (Ne.symm M.dne)]
      exact I1.hok.fresh M.new
end
end Dz
/-! Dz, part C: operators over plain data, walks, for, while, comprehensions, calls. -/
namespace Dz
open PySem PySem.Spec PyProof.Rows L2

/-! ### data as PyData (for ==) -/
mutual
def D.py : D → Option PyData
  | .non => some .none
  | .bl b => some (.bool b)
  | .int i => some (.int i)
  | .str s => some (.str s)
  | .tup ds => (D.pys ds).map .tuple
  | .lst ds => (D.pys ds).map .list
  | .dct _ => none
  | .ref _ => none
  | .ty _ => none
  | .exc _ _ _ => none
  | .scr _ _ _ => none
def D.pys : List D → Option (List PyData)
  | [] => some []
  | d :: ds => match D.py d, D.pys ds with
    | some p, some ps => some (p :: ps)
    | _, _ => none
end
mutual
theorem rep_dp {K : PySem.W.Frag} {M : List Addr} {H : Hp} {v : V} {d : D} {p : PyData} : Rep M H v d → d.py = some p → Dp K H v p
  | .non, e => by rw [D.py] at e; cases e; exact .non
  | .bl b, e => by rw [D.py] at e; cases e; exact .bl b
  | .int b, e => by rw [D.py] at e; cases e; exact .int b
  | .str b, e => by rw [D.py] at e; cases e; exact .str b
  | .ty b, e => by rw [D.py] at e; cases e
  | .ref b, e => by rw [D.py] at e; cases e
  | .dct _ _ _, e => by rw [D.py] at e; cases e
  | .exc _ _ _, e => by rw [D.py] at e; cases e
  | .scr1 _ _ _, e => by rw [D.py] at e; cases e
  | .scr2 _, e => by rw [D.py] at e; cases e
  | .tup (ds := ds) h n r, e => by
    rw [D.py] at e
    cases q : D.pys ds with
    | none => rw [q] at e; cases e
    | some ps => rw [q] at e; cases e; exact .tup (.inl (.inl h)) (reps_dp r q)
  | .lst (ds := ds) h n r, e => by
    rw [D.py] at e
    cases q : D.pys ds with
    | none => rw [q] at e; cases e
    | some ps => rw [q] at e; cases e; exact .lst (.inl (.inl h)) (reps_dp r q)
theorem reps_dp {K : PySem.W.Frag} {M : List Addr} {H : Hp} {v : List V} {d : List D} {p : List PyData} : Reps M H v d → D.pys d = some p → DpAll K H v p
  | .nil, e => by rw [D.pys] at e; cases e; exact .nil
  | .cons (d := d) (ds := ds) a b, e => by
    rw [D.pys] at e
    cases q : D.py d with
    | none => rw [q] at e; cases e
    | some x =>
      cases q2 : D.pys ds with
      | none => rw [q, q2] at e; cases e
      | some xs => rw [q, q2] at e; cases e; exact .cons (rep_dp a q) (reps_dp b q2)
end

/-! ### the operators, for all kinds of values -/
def rAddI : R2 := rI0 fun i j => .int (i + j)
def rAddS : R2 := fun x y H Q => ∃ i j, x = .str i ∧ y = .str j ∧ i.length + j.length ≤ sizeLine ∧ Q (.str (i ++ j)) H
def rAdd (K : PySem.W.Frag) : R2 := fun x y H Q => rAddI x y H Q ∨ (rAddS x y H Q ∨ (rCat x y H Q ∨ rCatA K x y H Q))
def rSub : R2 := rI0 fun i j => .int (i - j)
def rMul : R2 := rI CMul fun i j => .int (i * j)
def rRepS : R2 := fun x y H Q => ∃ z n, x = .str z ∧ y = .int n ∧ PySem.MulOk z n ∧ Q (.str (Txt.mul z n)) H
def rMulA (K : PySem.W.Frag) : R2 := fun x y H Q => rMul x y H Q ∨ (rRepS x y H Q ∨ (rRep x y H Q ∨ rRepT K x y H Q))
def rDiv : R2 := rI CDivN fun i j => .int (i.fdiv j)
def rMod : R2 := rI (fun _ j => j ≠ 0) fun i j => .int (i.fmod j)
def rPow : R2 := rI CPow fun i j => .int (i ^ j.toNat)
def rLt (K : PySem.W.Frag) : R2 := fun x y H Q => rI0 (fun i j => .bl (decide (i < j))) x y H Q ∨ rLtT K x y H Q
def rLe (K : PySem.W.Frag) : R2 := fun x y H Q => rI0 (fun i j => .bl (decide (i ≤ j))) x y H Q ∨ rLeT K x y H Q
def rGt : R2 := rI0 fun i j => .bl (decide (j < i))
def rGe : R2 := rI0 fun i j => .bl (decide (j ≤ i))
def rEqA (K : PySem.W.Frag) : R2 := fun x y H Q => rEq x y H Q ∨ rEqD K x y H Q
def rNeA (K : PySem.W.Frag) : R2 := fun x y H Q => rNe x y H Q ∨ rNeD K x y H Q
def rIsN : R2 := fun x y H Q => y = .non ∧ Q (.bl (decide (x = .non))) H
def rNotN : R2 := fun x y H Q => y = .non ∧ Q (.bl (!decide (x = .non))) H
def rInSign : R2 := fun x y H Q => ∃ (c : Nat) (z : Str), x = .str ⟨#[c]⟩ ∧ y = .str z ∧ Q (.bl (decide (c ∈ z.cps.toList))) H
def rNiSign : R2 := fun x y H Q => ∃ (c : Nat) (z : Str), x = .str ⟨#[c]⟩ ∧ y = .str z ∧ Q (.bl (!decide (c ∈ z.cps.toList))) H
def rInA (K : PySem.W.Frag) : R2 := fun x y H Q => rIn K false x y H Q ∨ (rInSign x y H Q ∨ rInD K x y H Q)
def rNiA (K : PySem.W.Frag) : R2 := fun x y H Q => rIn K true x y H Q ∨ (rNiSign x y H Q ∨ rNotInD K x y H Q)
section
variable {X : Cx}
theorem op_repS : OpR X (binaryOp .Mult) rRepS := by
  intro pins s σ H x y v u Q I rx ry h
  obtain ⟨z, n, rfl, rfl, hk, q⟩ := h
  obtain ⟨t, rfl⟩ := rx
  obtain ⟨t2, rfl⟩ := ry
  exact PySem.SB.mul hk fun t' k => ⟨.str _, H, I.tok k, ⟨t', rfl⟩, q⟩
theorem o_add : OpR X (binaryOp .Add) (rAdd X.K) := (op_add).or ((op_add_str).or ((op_cat).or op_catA))
theorem o_sub : OpR X (binaryOp .Sub) rSub := op_sub
theorem o_mul : OpR X (binaryOp .Mult) (rMulA X.K) := (op_mul).or ((op_repS).or ((op_rep).or op_repT))
theorem o_div : OpR X (binaryOp .FloorDiv) rDiv := op_fdivN
theorem o_mod : OpR X (binaryOp .Mod) rMod := op_modN
theorem o_pow : OpR X (binaryOp .Pow) rPow := op_pow
theorem o_lt (hu : X.A.units < cLine) : OpR X (compareOp .Lt) (rLt X.K) := (op_lt).or (op_ltT hu)
theorem o_le (hu : X.A.units < cLine) : OpR X (compareOp .LtE) (rLe X.K) := (op_le).or (op_leT hu)
theorem o_gt : OpR X (compareOp .Gt) rGt := op_gt
theorem o_ge : OpR X (compareOp .GtE) rGe := op_ge
theorem o_eq (hu : X.A.units + 64 < cLine) : OpR X (compareOp .Eq) (rEqA X.K) := (op_eq).or (op_eqD hu)
theorem o_ne (hu : X.A.units + 64 < cLine) : OpR X (compareOp .NotEq) (rNeA X.K) := (op_ne).or (op_neD hu)
theorem o_is : OpR X (compareOp .Is) rIsN := op_isN
theorem o_isnot : OpR X (compareOp .IsNot) rNotN := op_notN
theorem o_in (hu : X.A.units + 65 < cLine) : OpR X (compareOp .In) (rInA X.K) := (op_in_seq).or ((op_in_sign).or (op_inD hu))
theorem o_notin (hu : X.A.units + 65 < cLine) : OpR X (compareOp .NotIn) (rNiA X.K) := (op_notIn_seq).or ((op_notIn_sign).or (op_notInD hu))
end

section
variable {K : PySem.W.Frag} {m : Sto} {Ph : PhiT}
theorem od_i {g : Int → Int → Int} {i j : Int} (k : Ph (.int (g i j)) m) : OpD (rI0 fun i j => .int (g i j)) (.int i) (.int j) m Ph := fun vx vy H Q rx ry st K => by
  cases rx; cases ry
  exact ⟨i, j, rfl, rfl, K _ H _ m k (Fr.refl m H) (.int _) st⟩
theorem od_b {g : Int → Int → Bool} {i j : Int} (k : Ph (.bl (g i j)) m) : OpD (rI0 fun i j => .bl (g i j)) (.int i) (.int j) m Ph := fun vx vy H Q rx ry st K => by
  cases rx; cases ry
  exact ⟨i, j, rfl, rfl, K _ H _ m k (Fr.refl m H) (.bl _) st⟩
theorem od_c {C : Int → Int → Prop} {g : Int → Int → Int} {i j : Int} (hc : C i j) (k : Ph (.int (g i j)) m) : OpD (rI C fun i j => .int (g i j)) (.int i) (.int j) m Ph := fun vx vy H Q rx ry st K => by
  cases rx; cases ry
  exact ⟨i, j, rfl, rfl, hc, K _ H _ m k (Fr.refl m H) (.int _) st⟩
theorem od_add {i j : Int} (k : Ph (.int (i + j)) m) : OpD (rAdd K) (.int i) (.int j) m Ph := fun vx vy H Q rx ry st K => .inl (od_i (g := fun i j => i + j) k vx vy H Q rx ry st K)
theorem od_adds {i j : Str} (hz : i.length + j.length ≤ sizeLine) (k : Ph (.str (i ++ j)) m) : OpD (rAdd K) (.str i) (.str j) m Ph := fun vx vy H Q rx ry st K => .inr (.inl (by
  cases rx; cases ry
  exact ⟨i, j, rfl, rfl, hz, K _ H _ m k (Fr.refl m H) (.str _) st⟩))
theorem reps_app {M : List Addr} {H : Hp} : ∀ {xs ys : List V} {ds es : List D}, Reps M H xs ds → Reps M H ys es → Reps M H (xs ++ ys) (ds ++ es)
  | _, _, _, _, .nil, s => s
  | _, _, _, _, .cons r t, s => .cons r (reps_app t s)
theorem od_addl {xs ys : List D} (hz : xs.length + ys.length ≤ sizeLine) (k : Ph (.lst (xs ++ ys)) m) : OpD (rAdd K) (.lst xs) (.lst ys) m Ph := fun vx vy H Q rx ry st K => .inr (.inr (.inl (by
  cases rx with
  | lst h1 n1 r1 => cases ry with
    | lst h2 n2 r2 => exact ⟨_, _, _, _, rfl, rfl, h1, h2, by rw [r1.len, r2.len]; exact hz, new_lst (reps_app r1 r2) st K k⟩)))
theorem od_addt {xs ys : List D} (hz : xs.length + ys.length ≤ sizeLine) (k : Ph (.tup (xs ++ ys)) m) : OpD (rAdd K) (.tup xs) (.tup ys) m Ph := fun vx vy H Q rx ry st K => .inr (.inr (.inr (by
  cases rx with
  | @tup a us ds h1 n1 r1 => cases ry with
    | @tup b ws es h2 n2 r2 =>
      refine ⟨_, _, _, _, rfl, rfl, .inl (.inl h1), .inl (.inl h2), by rw [r1.len, r2.len]; exact hz, fun e => ?_, fun _ e => ?_, fun _ _ => new_tup (reps_app r1 r2) st K k⟩
      · subst e
        cases r1
        exact K _ H _ m k (Fr.refl m H) (.tup h2 n2 r2) st
      · subst e
        cases r2
        rw [List.append_nil] at k
        exact K _ H _ m k (Fr.refl m H) (.tup h1 n1 r1) st)))
theorem od_sub {i j : Int} (k : Ph (.int (i - j)) m) : OpD rSub (.int i) (.int j) m Ph := od_i (g := fun i j => i - j) k
theorem od_mul {i j : Int} (hc : CMul i j) (k : Ph (.int (i * j)) m) : OpD (rMulA K) (.int i) (.int j) m Ph := fun vx vy H Q rx ry st K => .inl (od_c (g := fun i j => i * j) hc k vx vy H Q rx ry st K)
theorem od_reps {z : Str} {n : Int} (hk : PySem.MulOk z n) (k : Ph (.str (Txt.mul z n)) m) : OpD (rMulA K) (.str z) (.int n) m Ph := fun vx vy H Q rx ry st K => .inr (.inl (by
  cases rx; cases ry
  exact ⟨z, n, rfl, rfl, hk, K _ H _ m k (Fr.refl m H) (.str _) st⟩))
theorem reps_rep {M : List Addr} {H : Hp} {xs : List V} {ds : List D} (h : Reps M H xs ds) : ∀ k : Nat, Reps M H (List.replicate k xs).flatten (List.replicate k ds).flatten
  | 0 => .nil
  | k + 1 => reps_app h (reps_rep h k)
theorem od_rept {xs : List D} {k : Int} (h0 : xs ≠ []) (h1 : 2 ≤ k) (h2 : k ≤ 1000) (h3 : xs.length ≤ 1000) (q : Ph (.tup (List.replicate k.toNat xs).flatten) m) : OpD (rMulA K) (.tup xs) (.int k) m Ph := fun vx vy H Q rx ry st K => .inr (.inr (.inr (by
  cases ry
  cases rx with
  | tup h n r => exact ⟨_, _, _, rfl, rfl, .inl (.inl h), fun z => by subst z; cases r; exact h0 rfl, h1, h2, by rw [r.len]; exact h3, new_tup (reps_rep r _) st K q⟩)))
theorem od_div {i j : Int} (hc : CDivN i j) (k : Ph (.int (i.fdiv j)) m) : OpD rDiv (.int i) (.int j) m Ph := od_c (g := fun i j => i.fdiv j) hc k
theorem od_mod {i j : Int} (hc : j ≠ 0) (k : Ph (.int (i.fmod j)) m) : OpD rMod (.int i) (.int j) m Ph := od_c (C := fun _ j => j ≠ 0) (g := fun i j => i.fmod j) hc k
theorem od_pow {i j : Int} (hc : CPow i j) (k : Ph (.int (i ^ j.toNat)) m) : OpD rPow (.int i) (.int j) m Ph := od_c (g := fun i j => i ^ j.toNat) hc k
theorem od_lt {i j : Int} (k : Ph (.bl (decide (i < j))) m) : OpD (rLt K) (.int i) (.int j) m Ph := fun vx vy H Q rx ry st K => .inl (od_b (g := fun i j => decide (i < j)) k vx vy H Q rx ry st K)
theorem od_le {i j : Int} (k : Ph (.bl (decide (i ≤ j))) m) : OpD (rLe K) (.int i) (.int j) m Ph := fun vx vy H Q rx ry st K => .inl (od_b (g := fun i j => decide (i ≤ j)) k vx vy H Q rx ry st K)
theorem od_gt {i j : Int} (k : Ph (.bl (decide (j < i))) m) : OpD rGt (.int i) (.int j) m Ph := od_b (g := fun i j => decide (j < i)) k
theorem od_ge {i j : Int} (k : Ph (.bl (decide (j ≤ i))) m) : OpD rGe (.int i) (.int j) m Ph := od_b (g := fun i j => decide (j ≤ i)) k
theorem reps_ints {M : List Addr} {H : Hp} : ∀ {ns : List Int} {us : List V}, Reps M H us (ns.map D.int) → us = ns.map V.int
  | [], _, .nil => rfl
  | n :: ns, _, .cons a b => by
    cases a
    rw [reps_ints b]; rfl
/-- (a, b, ..) <= (c, d, ..), of ints -/
def leI (ns ms : List Int) : Bool := Ob.lexAt (fun j => decide (ns.getD j 0 = ms.getD j 0)) (fun j => decide (ns.getD j 0 ≤ ms.getD j 0)) (decide (ns.length ≤ ms.length)) 0 (min ns.length ms.length)
theorem od_let {ns ms : List Int} (k : Ph (.bl (leI ns ms)) m) : OpD (rLe K) (.tup (ns.map D.int)) (.tup (ms.map D.int)) m Ph := fun vx vy H Q rx ry st K => .inr (by
  cases rx with
  | tup h1 n1 r1 => cases ry with
    | tup h2 n2 r2 =>
      obtain rfl := reps_ints r1
      obtain rfl := reps_ints r2
      exact ⟨_, _, ns, ms, rfl, rfl, .inl (.inl h1), .inl (.inl h2), K _ H _ m k (Fr.refl m H) (.bl _) st⟩)
/-- == by kind: scalars -/
def D.scal : D → Option V
  | .non => some .non
  | .bl b => some (.bl b)
  | .int i => some (.int i)
  | .str s => some (.str s)
  | _ => none
theorem rep_scal {M : List Addr} {H : Hp} {v w : V} {d : D} (r : Rep M H v d) (e : d.scal = some w) : v = w := by
  cases r <;> simp [D.scal] at e <;> subst e <;> rfl
theorem od_eq {x y : D} {p q : PyData} (hx : x.py = some p) (hy : y.py = some q) (sx : SeqAt.shaped p = true) (sy : SeqAt.shaped q = true) (k : Ph (.bl (PyData.eqv p q)) m) : OpD (rEqA K) x y m Ph := fun vx vy H Q rx ry st K =>
  .inr ⟨p, q, rep_dp rx hx, rep_dp ry hy, sx, sy, K _ H _ m k (Fr.refl m H) (.bl _) st⟩
theorem od_ne {x y : D} {p q : PyData} (hx : x.py = some p) (hy : y.py = some q) (sx : SeqAt.shaped p = true) (sy : SeqAt.shaped q = true) (k : Ph (.bl (!PyData.eqv p q)) m) : OpD (rNeA K) x y m Ph := fun vx vy H Q rx ry st K =>
  .inr ⟨p, q, rep_dp rx hx, rep_dp ry hy, sx, sy, K _ H _ m k (Fr.refl m H) (.bl _) st⟩
theorem od_eqv {x y : D} {v w : V} (hx : x.scal = some v) (hy : y.scal = some w) (hs : scal v w = true) (k : Ph (.bl (decide (v = w))) m) : OpD (rEqA K) x y m Ph := fun vx vy H Q rx ry st K => by
  cases rep_scal rx hx
  cases rep_scal ry hy
  exact .inl ⟨hs, K _ H _ m k (Fr.refl m H) (.bl _) st⟩
theorem od_nev {x y : D} {v w : V} (hx : x.scal = some v) (hy : y.scal = some w) (hs : scal v w = true) (k : Ph (.bl (!decide (v = w))) m) : OpD (rNeA K) x y m Ph := fun vx vy H Q rx ry st K => by
  cases rep_scal rx hx
  cases rep_scal ry hy
  exact .inl ⟨hs, K _ H _ m k (Fr.refl m H) (.bl _) st⟩
/-- == of two ints, of two texts -/
theorem od_eqi {i j : Int} (k : Ph (.bl (i == j)) m) : OpD (rEqA K) (.int i) (.int j) m Ph := od_eqv (v := .int i) (w := .int j) rfl rfl rfl (by rw [dec_int]; exact k)
theorem od_nei {i j : Int} (k : Ph (.bl (!(i == j))) m) : OpD (rNeA K) (.int i) (.int j) m Ph := od_nev (v := .int i) (w := .int j) rfl rfl rfl (by rw [dec_int]; exact k)
theorem od_eqs {i j : Str} (k : Ph (.bl (i == j)) m) : OpD (rEqA K) (.str i) (.str j) m Ph := od_eqv (v := .str i) (w := .str j) rfl rfl rfl (by rw [dec_str]; exact k)
theorem od_nes {i j : Str} (k : Ph (.bl (!(i == j))) m) : OpD (rNeA K) (.str i) (.str j) m Ph := od_nev (v := .str i) (w := .str j) rfl rfl rfl (by rw [dec_str]; exact k)
def D.isNon : D → Bool
  | .non => true
  | _ => false
theorem rep_non {M : List Addr} {H : Hp} {v : V} {d : D} (r : Rep M H v d) : decide (v = .non) = d.isNon := by
  cases r <;> simp [D.isNon]
theorem od_is {x : D} (k : Ph (.bl x.isNon) m) : OpD rIsN x .non m Ph := fun vx vy H Q rx ry st K => by
  cases ry
  refine ⟨rfl, ?_⟩
  rw [rep_non rx]
  exact K _ H _ m k (Fr.refl m H) (.bl _) st
theorem od_isnot {x : D} (k : Ph (.bl (!x.isNon)) m) : OpD rNotN x .non m Ph := fun vx vy H Q rx ry st K => by
  cases ry
  refine ⟨rfl, ?_⟩
  rw [rep_non rx]
  exact K _ H _ m k (Fr.refl m H) (.bl _) st
theorem od_insign {c : Nat} {z : Str} (k : Ph (.bl (decide (c ∈ z.cps.toList))) m) : OpD (rInA K) (.str ⟨#[c]⟩) (.str z) m Ph := fun vx vy H Q rx ry st K => .inr (.inl (by
  cases rx; cases ry
  exact ⟨c, z, rfl, rfl, K _ H _ m k (Fr.refl m H) (.bl _) st⟩))
theorem od_nisign {c : Nat} {z : Str} (k : Ph (.bl (!decide (c ∈ z.cps.toList))) m) : OpD (rNiA K) (.str ⟨#[c]⟩) (.str z) m Ph := fun vx vy H Q rx ry st K => .inr (.inl (by
  cases rx; cases ry
  exact ⟨c, z, rfl, rfl, K _ H _ m k (Fr.refl m H) (.bl _) st⟩))
/-- flat data and its value -/
def D.flat : D → Option V
  | .non => some .non
  | .bl b => some (.bl b)
  | .int i => some (.int i)
  | .str s => some (.str s)
  | _ => none
theorem rep_flat {M : List Addr} {H : Hp} {v w : V} {d : D} (r : Rep M H v d) (e : d.flat = some w) : v = w ∧ flatV w = true := by
  cases r <;> simp [D.flat] at e <;> subst e <;> exact ⟨rfl, rfl⟩
def D.flats : List D → Option (List V)
  | [] => some []
  | d :: ds => match D.flat d, D.flats ds with
    | some p, some ps => some (p :: ps)
    | _, _ => none
theorem reps_flat {M : List Addr} {H : Hp} : ∀ {v w : List V} {d : List D}, Reps M H v d → D.flats d = some w → v = w ∧ w.all flatV = true
  | _, _, _, .nil, e => by rw [D.flats] at e; cases e; exact ⟨rfl, rfl⟩
  | _, _, _, .cons (d := d) (ds := ds) a b, e => by
    rw [D.flats] at e
    cases q : D.flat d with
    | none => rw [q] at e; cases e
    | some x =>
      cases q2 : D.flats ds with
      | none => rw [q, q2] at e; cases e
      | some xs =>
        rw [q, q2] at e; cases e
        obtain ⟨h1, h2⟩ := rep_flat a q
        obtain ⟨h3, h4⟩ := reps_flat b q2
        rw [h1, h3]
        exact ⟨rfl, by rw [List.all_cons, h2, h4]; rfl⟩
theorem od_in {x : D} {ys : List D} {v : V} {vs : List V} (hx : x.flat = some v) (hy : D.flats ys = some vs) (k : Ph (.bl (inV v vs)) m) {y : D} (e : y = .tup ys ∨ y = .lst ys) : OpD (rInA K) x y m Ph := fun vx vy H Q rx ry st K => .inl (by
  obtain ⟨e1, f1⟩ := rep_flat rx hx
  subst e1
  rcases e with e | e <;> subst e
  · cases ry with
    | tup h n r =>
      obtain ⟨e2, f2⟩ := reps_flat r hy
      subst e2
      exact ⟨_, _, rfl, .inr (.inl (.inl h)), f1, f2, K _ H _ m k (Fr.refl m H) (.bl _) st⟩
  · cases ry with
    | lst h n r =>
      obtain ⟨e2, f2⟩ := reps_flat r hy
      subst e2
      exact ⟨_, _, rfl, .inl (.inl (.inl h)), f1, f2, K _ H _ m k (Fr.refl m H) (.bl _) st⟩)
theorem od_ni {x : D} {ys : List D} {v : V} {vs : List V} (hx : x.flat = some v) (hy : D.flats ys = some vs) (k : Ph (.bl (!inV v vs)) m) {y : D} (e : y = .tup ys ∨ y = .lst ys) : OpD (rNiA K) x y m Ph := fun vx vy H Q rx ry st K => .inl (by
  obtain ⟨e1, f1⟩ := rep_flat rx hx
  subst e1
  rcases e with e | e <;> subst e
  · cases ry with
    | tup h n r =>
      obtain ⟨e2, f2⟩ := reps_flat r hy
      subst e2
      exact ⟨_, _, rfl, .inr (.inl (.inl h)), f1, f2, K _ H _ m k (Fr.refl m H) (.bl _) st⟩
  · cases ry with
    | lst h n r =>
      obtain ⟨e2, f2⟩ := reps_flat r hy
      subst e2
      exact ⟨_, _, rfl, .inl (.inl (.inl h)), f1, f2, K _ H _ m k (Fr.refl m H) (.bl _) st⟩)
theorem ud_neg {i : Int} (k : Ph (.int (-i)) m) : UnD (rU fun i => .int (-i)) (.int i) m Ph := fun vx H Q rx st K => by
  cases rx
  exact ⟨i, rfl, K _ H _ m k (Fr.refl m H) (.int _) st⟩
end

/-! ### chains -/
section
variable {W : WX} {Ps : PsiT} {r : Rho} {m : Sto} {Ph : PhiT} {ta tb tc td : TE}
theorem wt_chain {o1 o2 : R2} (h : WT W Ps ta r m fun x m1 => WT W Ps tb r m1 fun y m2 => OpD o1 x y m2 fun z m3 => ∃ k, z = .bl k ∧
    (k = true → WT W Ps tc r m3 fun u m4 => OpD o2 y u m4 Ph) ∧ (k = false → Ph (.bl false) m3)) : WT W Ps (tChain o1 o2 ta tb tc) r m Ph := fun s H Q R X K =>
  h s H _ R X fun v H1 x m1 h1 f1 r1 s1 => h1 s H1 _ (f1.rel R s1) (X.go f1) fun w H2 y m2 h2 f2 r2 s2 => h2 v w H2 _ (f2.rep r1) r2 s2 fun z H3 dz m3 h3 f3 r3 s3 => by
    obtain ⟨k, e, h4, h5⟩ := h3
    subst e
    cases r3
    have f := (f1.trans f2).trans f3
    refine ⟨k, rfl, ?_⟩
    cases k with
    | true => exact iteT (h4 rfl s H3 _ (f.rel R s3) (X.go f) fun u H4 du m4 h6 f4 r4 s4 => h6 w u H4 Q ((f3.trans f4).rep r2) r4 s4 (K.go (f.trans f4)))
    | false => exact iteF (K _ H3 _ m3 (h5 rfl) f (.bl _) s3)
theorem wt_chain3 {o1 o2 o3 : R2} (h : WT W Ps ta r m fun x m1 => WT W Ps tb r m1 fun y m2 => OpD o1 x y m2 fun z m3 => ∃ k, z = .bl k ∧
    (k = true → WT W Ps tc r m3 fun u m4 => OpD o2 y u m4 fun z m5 => ∃ k, z = .bl k ∧ (k = true → WT W Ps td r m5 fun q m6 => OpD o3 u q m6 Ph) ∧ (k = false → Ph (.bl false) m5)) ∧ (k = false → Ph (.bl false) m3)) : WT W Ps (tChain3 o1 o2 o3 ta tb tc td) r m Ph := fun s H Q R X K =>
  h s H _ R X fun v H1 x m1 h1 f1 r1 s1 => h1 s H1 _ (f1.rel R s1) (X.go f1) fun w H2 y m2 h2 f2 r2 s2 => h2 v w H2 _ (f2.rep r1) r2 s2 fun z H3 dz m3 h3 f3 r3 s3 => by
    obtain ⟨k, e, h4, h5⟩ := h3
    subst e
    cases r3
    have f := (f1.trans f2).trans f3
    refine ⟨k, rfl, ?_⟩
    cases k with
    | true =>
      refine iteT (h4 rfl s H3 _ (f.rel R s3) (X.go f) fun u H4 du m4 h6 f4 r4 s4 => h6 w u H4 _ ((f3.trans f4).rep r2) r4 s4 fun z2 H5 dz2 m5 h7 f5 r5 s5 => ?_)
      obtain ⟨k, e, h8, h9⟩ := h7
      subst e
      cases r5
      have g := (f.trans f4).trans f5
      refine ⟨k, rfl, ?_⟩
      cases k with
      | true => exact iteT (h8 rfl s H5 _ (g.rel R s5) (X.go g) fun q H6 dq m6 h10 f6 r6 s6 => h10 u q H6 Q ((f5.trans f6).rep r4) r6 s6 (K.go (g.trans f6)))
      | false => exact iteF (K _ H5 _ m5 (h9 rfl) g (.bl _) s5)
    | false => exact iteF (K _ H3 _ m3 (h5 rfl) f (.bl _) s3)
end

/-! ### calls of defs -/
section
variable {W : WX} {Ps : PsiT} {r : Rho} {m : Sto} {Ph : PhiT} {ta tk : TA} {sp : SpD}
theorem reps_of_vals {dvs : List V} {M : List Addr} {H : Hp} {ds : List D} (h : D.flats ds = some dvs) : Reps M H dvs ds := by
  induction ds generalizing dvs with
  | nil => rw [D.flats] at h; cases h; exact .nil
  | cons d ds ih =>
    rw [D.flats] at h
    cases q : D.flat d with
    | none => rw [q] at h; cases h
    | some x =>
      cases q2 : D.flats ds with
      | none => rw [q, q2] at h; cases h
      | some xs =>
        rw [q, q2] at h; cases h
        refine .cons ?_ (ih q2)
        cases d <;> simp [D.flat] at q <;> subst q <;> constructor
def vD : V → D
  | .bl b => .bl b
  | .int i => .int i
  | .str s => .str s
  | _ => .non
/-- a call that raises nothing -/
theorem wt_call0 {dvs : List V} (h : WA W Ps ta r m fun xs m1 => sp (xs ++ dvs.map vD) m1 Ph fun _ _ _ => False) (hd : D.flats (dvs.map vD) = some dvs := by rfl) : WT W Ps (tCallG (lift sp) dvs (fun _ => E0) ta) r m Ph := fun s H Q R X K =>
  h s H _ R X fun vs H1 xs m1 h1 f1 r1 s1 => ⟨xs ++ dvs.map vD, m1, Ph, _, reps_app r1 (reps_of_vals hd), s1, h1, K.go f1, fun _ _ _ _ _ p => p.elim⟩
theorem wt_callk0 {gV : List V → List V → List V} {gD : List D → List D → List D} (hg : ∀ {M : List Addr} {H : Hp} {vs zs : List V} {ds es : List D}, Reps M H vs ds → Reps M H zs es → Reps M H (gV vs zs) (gD ds es))
    (h : WA W Ps ta r m fun xs m1 => WA W Ps tk r m1 fun ys m2 => sp (gD xs ys) m2 Ph fun _ _ _ => False) : WT W Ps (tCallGK (lift sp) gV (fun _ => E0) ta tk) r m Ph := fun s H Q R X K =>
  h s H _ R X fun vs H1 xs m1 h1 f1 r1 s1 => h1 s H1 _ (f1.rel R s1) (X.go f1) fun zs H2 ys m2 h2 f2 r2 s2 =>
    ⟨gD xs ys, m2, Ph, _, hg (f2.reps r1) r2, s2, h2, K.go (f1.trans f2), fun _ _ _ _ _ p => p.elim⟩
/-- a call of a def that keeps sp; dvs: the defaults -/
theorem wt_call {dvs : List V} (h : WA W Ps ta r m fun xs m1 => sp (xs ++ dvs.map vD) m1 Ph fun cls fs m' => Ps cls fs r m') (hd : D.flats (dvs.map vD) = some dvs := by rfl) : WT W Ps (tCallG (lift sp) dvs (WE W) ta) r m Ph := fun s H Q R X K =>
  h s H _ R X fun vs H1 xs m1 h1 f1 r1 s1 => ⟨xs ++ dvs.map vD, m1, Ph, _, reps_app r1 (reps_of_vals hd), s1, h1, K.go f1, fun cls d fs H' m' p f q t => X cls d fs s H' r m' p (f1.trans f) q ((f1.trans f).rel R t)⟩
theorem wt_callk {gV : List V → List V → List V} {gD : List D → List D → List D} (hg : ∀ {M : List Addr} {H : Hp} {vs zs : List V} {ds es : List D}, Reps M H vs ds → Reps M H zs es → Reps M H (gV vs zs) (gD ds es))
    (h : WA W Ps ta r m fun xs m1 => WA W Ps tk r m1 fun ys m2 => sp (gD xs ys) m2 Ph fun cls fs m' => Ps cls fs r m') : WT W Ps (tCallGK (lift sp) gV (WE W) ta tk) r m Ph := fun s H Q R X K =>
  h s H _ R X fun vs H1 xs m1 h1 f1 r1 s1 => h1 s H1 _ (f1.rel R s1) (X.go f1) fun zs H2 ys m2 h2 f2 r2 s2 =>
    ⟨gD xs ys, m2, Ph, _, hg (f2.reps r1) r2, s2, h2, K.go (f1.trans f2), fun cls d fs H' m' p f q t => X cls d fs s H' r m' p ((f1.trans f2).trans f) q (((f1.trans f2).trans f).rel R t)⟩
end

/-! ### walks -/
structure ItD (J : It) (G : Sto → Hp → Prop) (ds : List D) : Prop where
  mono : ∀ m m' H H', Fr m m' H H' → G m H → G m' H'
  go : ∀ (i : Nat) m H, G m H → i < ds.length → J.go i H
  stop : ∀ m H, G m H → J.stop ds.length H
  yld : ∀ (i : Nat) m H x H', G m H → StoR m H → J.yld i H x H' → ∀ d, ds[i]? = some d → (∀ a o, H a = some o → H' a = some o) ∧ Rep (dom m) H' x d ∧ StoR m H'
def WI (W : WX) (Ps : PsiT) (t : TI) (r : Rho) (m : Sto) (Ph : List D → Sto → Prop) : Prop := ∀ (s : L2.St) (H : Hp) (R : It → Hp → Prop), Rel m H s r → XT W m H Ps →
  (∀ (J : It) (H' : Hp) (ds : List D) (m' : Sto) (G : Sto → Hp → Prop), Ph ds m' → Fr m m' H H' → StoR m' H' → ItD J G ds → G m' H' → R J H') → t s H R
theorem Reps.get {M : List Addr} {H : Hp} : ∀ {vs : List V} {ds : List D} {i : Nat} {v : V} {d : D}, Reps M H vs ds → vs[i]? = some v → ds[i]? = some d → Rep M H v d
  | _, _, 0, _, _, .cons a _, h1, h2 => by
    simp at h1 h2
    subst h1; subst h2
    exact a
  | _, _, i + 1, _, _, .cons _ t, h1, h2 => Reps.get (i := i) t (by simpa using h1) (by simpa using h2)
  | _, _, i, _, _, .nil, h1, h2 => by simp at h1
theorem itd_list {K : PySem.W.Frag} {a : Addr} {ds : List D} : ItD (Itl K a) (fun m H => ∃ xs, H a = some (.lst xs) ∧ a ∉ dom m ∧ Reps (dom m) H xs ds) ds where
  mono := fun m m' H H' f ⟨xs, e, n, r⟩ => ⟨xs, f.keep _ _ e n, f.notin _ _ e n, f.reps r⟩
  go := fun i m H ⟨xs, e, n, r⟩ h => by
    have h' : i < xs.length := by rw [r.len]; exact h
    exact ⟨xs, xs[i], .inl (.inl e), by simp [h']⟩
  stop := fun m H ⟨xs, e, n, r⟩ => ⟨xs, .inl (.inl e), by rw [r.len]; exact Nat.le_refl _⟩
  yld := fun i m H x H' ⟨xs, e, n, r⟩ st y d hd => by
    obtain ⟨rfl, y⟩ := y
    exact ⟨fun _ _ h => h, r.get (y xs (.inl (.inl e))) hd, st⟩
theorem itd_tup {K : PySem.W.Frag} {a : Addr} {ds : List D} : ItD (Itt K a) (fun m H => ∃ xs, H a = some (.tup xs) ∧ a ∉ dom m ∧ Reps (dom m) H xs ds) ds where
  mono := fun m m' H H' f ⟨xs, e, n, r⟩ => ⟨xs, f.keep _ _ e n, f.notin _ _ e n, f.reps r⟩
  go := fun i m H ⟨xs, e, n, r⟩ h => by
    have h' : i < xs.length := by rw [r.len]; exact h
    exact ⟨xs, xs[i], .inl (.inl e), by simp [h']⟩
  stop := fun m H ⟨xs, e, n, r⟩ => ⟨xs, .inl (.inl e), by rw [r.len]; exact Nat.le_refl _⟩
  yld := fun i m H x H' ⟨xs, e, n, r⟩ st y d hd => by
    obtain ⟨rfl, y⟩ := y
    exact ⟨fun _ _ h => h, r.get (y xs (.inl (.inl e))) hd, st⟩
/-- lo, lo + 1, .. -/
def rngD (lo : Int) (n : Nat) : List D := (List.range n).map fun i => D.int (lo + (i : Nat))
theorem rngD_len (lo : Int) (n : Nat) : (rngD lo n).length = n := by simp [rngD]
theorem rngD_get {lo : Int} {n i : Nat} {d : D} (h : (rngD lo n)[i]? = some d) : i < n ∧ d = .int (lo + (i : Nat)) := by
  unfold rngD at h
  rw [List.getElem?_map] at h
  rcases Nat.lt_or_ge i n with c | c
  · rw [List.getElem?_range c] at h
    exact ⟨c, (Option.some.inj h).symm⟩
  · rw [List.getElem?_eq_none (by simpa using c)] at h
    cases h
theorem itd_rng {lo : Int} {n : Nat} : ItD (Itr lo n) (fun _ _ => True) (rngD lo n) where
  mono := fun _ _ _ _ _ _ => trivial
  go := fun i m H _ h => by rw [rngD_len] at h; exact h
  stop := fun m H _ => by rw [rngD_len]; exact Nat.le_refl n
  yld := fun i m H x H' _ st y d hd => by
    obtain ⟨rfl, rfl⟩ := y
    obtain ⟨_, rfl⟩ := rngD_get hd
    exact ⟨fun _ _ h => h, .int _, st⟩
def signsD (x : Str) : List D := x.cps.toList.map fun c => D.str ⟨#[c]⟩
theorem itd_str {x : Str} : ItD (Its x) (fun _ _ => True) (signsD x) where
  mono := fun _ _ _ _ _ _ => trivial
  go := fun i m H _ h => by simp [signsD] at h; exact h
  stop := fun m H _ => by
    show x.cps.size ≤ (signsD x).length
    simp [signsD]
  yld := fun i m H v H' _ st y d hd => by
    obtain ⟨rfl, c, hc, rfl⟩ := y
    unfold signsD at hd
    rw [List.getElem?_map] at hd
    have e : x.cps.toList[i]? = some c := by simpa using hc
    rw [e] at hd
    cases hd
    exact ⟨fun _ _ h => h, .str _, st⟩
/-- (0, x), (1, y), .. -/
def enumD (ds : List D) : List D := (List.range ds.length).map fun i => D.tup [.int (i : Nat), ds.getD i .non]
theorem enumD_len (ds : List D) : (enumD ds).length = ds.length := by simp [enumD]
theorem enumD_get {ds : List D} {i : Nat} {d : D} (h : (enumD ds)[i]? = some d) : ∃ x, ds[i]? = some x ∧ d = .tup [.int (i : Nat), x] := by
  unfold enumD at h
  rw [List.getElem?_map] at h
  rcases Nat.lt_or_ge i ds.length with c | c
  · rw [List.getElem?_range c] at h
    refine ⟨ds[i], by simp [c], ?_⟩
    have e := (Option.some.inj h).symm
    rw [e]
    simp [c]
  · rw [List.getElem?_eq_none (by simpa using c)] at h
    cases h
theorem enum_yld {m : Sto} {H : Hp} {T : Addr} {x : V} {d : D} {i : Nat} (st : StoR m H) (nT : H T = none) (q : Rep (dom m) H x d) :
    (∀ a o, H a = some o → (upd H T (.tup [.int (i : Nat), x])) a = some o) ∧ Rep (dom m) (upd H T (.tup [.int (i : Nat), x])) (.ref T) (.tup [.int (i : Nat), d]) ∧ StoR m (upd H T (.tup [.int (i : Nat), x])) :=
  ⟨fun a o e => by rw [upd_ne (ne_of_none e nT)]; exact e, .tup upd_same (st.fresh nT) (.cons (.int _) (.cons ((Fr.new nT).rep q) .nil)), st.new nT⟩
theorem itd_enumL {K : PySem.W.Frag} {a : Addr} {ds : List D} : ItD (Ite K a) (fun m H => ∃ xs, H a = some (.lst xs) ∧ a ∉ dom m ∧ Reps (dom m) H xs ds) (enumD ds) where
  mono := fun m m' H H' f ⟨xs, e, n, r⟩ => ⟨xs, f.keep _ _ e n, f.notin _ _ e n, f.reps r⟩
  go := fun i m H ⟨xs, e, n, r⟩ h => by
    have h' : i < xs.length := by rw [r.len, ← enumD_len]; exact h
    exact ⟨xs, xs[i], .inl (.inl e), by simp [h']⟩
  stop := fun m H ⟨xs, e, n, r⟩ => ⟨xs, .inl (.inl e), by rw [r.len, enumD_len]; exact Nat.le_refl _⟩
  yld := fun i m H x H' ⟨xs, e, n, r⟩ st y d hd => by
    obtain ⟨T, v, rfl, nT, rfl, y⟩ := y
    obtain ⟨z, hz, rfl⟩ := enumD_get hd
    exact enum_yld st nT (r.get (y xs (.inl (.inl e))) hz)
theorem itd_enumT {K : PySem.W.Frag} {a : Addr} {ds : List D} : ItD (IteT K a) (fun m H => ∃ xs, H a = some (.tup xs) ∧ a ∉ dom m ∧ Reps (dom m) H xs ds) (enumD ds) where
  mono := fun m m' H H' f ⟨xs, e, n, r⟩ => ⟨xs, f.keep _ _ e n, f.notin _ _ e n, f.reps r⟩
  go := fun i m H ⟨xs, e, n, r⟩ h => by
    have h' : i < xs.length := by rw [r.len, ← enumD_len]; exact h
    exact ⟨xs, xs[i], .inl (.inl e), by simp [h']⟩
  stop := fun m H ⟨xs, e, n, r⟩ => ⟨xs, .inl (.inl e), by rw [r.len, enumD_len]; exact Nat.le_refl _⟩
  yld := fun i m H x H' ⟨xs, e, n, r⟩ st y d hd => by
    obtain ⟨T, v, rfl, nT, rfl, y⟩ := y
    obtain ⟨z, hz, rfl⟩ := enumD_get hd
    exact enum_yld st nT (r.get (y xs (.inl (.inl e))) hz)

theorem scr_sq {K : PySem.W.Frag} {M : List Addr} {H : Hp} {v : V} {a : Addr} {ns : List Int} (r : Rep M H v (.scr K a ns)) : v = .ref a ∧ SqL K H a (ns.map V.int) := by
  cases r with
  | scr1 h e n =>
    rcases e with e | ⟨o, e⟩
    · subst e; exact ⟨rfl, .inl (.inl h)⟩
    · subst e; exact ⟨rfl, .inl (.inr ⟨o, h⟩)⟩
  | scr2 h => exact ⟨rfl, .inr h⟩
theorem itd_scr {K : PySem.W.Frag} {a : Addr} {ns : List Int} : ItD (Itl K a) (fun m H => Rep (dom m) H (.ref a) (.scr K a ns)) (ns.map D.int) where
  mono := fun m m' H H' f r => f.rep r
  go := fun i m H r h => by
    have h' : i < (ns.map V.int).length := by simpa using h
    exact ⟨ns.map V.int, (ns.map V.int)[i], (scr_sq r).2, by simp at h'; simp [h']⟩
  stop := fun m H r => ⟨ns.map V.int, (scr_sq r).2, by simp⟩
  yld := fun i m H x H' r st y d hd => by
    obtain ⟨rfl, y⟩ := y
    have e := y _ (scr_sq r).2
    rw [List.getElem?_map] at e hd
    cases q : ns[i]? with
    | none => rw [q] at hd; cases hd
    | some n =>
      rw [q] at e hd
      cases e; cases hd
      exact ⟨fun _ _ h => h, .int n, st⟩
theorem itd_enumS {K : PySem.W.Frag} {a : Addr} {ns : List Int} : ItD (Ite K a) (fun m H => Rep (dom m) H (.ref a) (.scr K a ns)) (enumD (ns.map D.int)) where
  mono := fun m m' H H' f r => f.rep r
  go := fun i m H r h => by
    have h' : i < (ns.map V.int).length := by simpa [enumD_len] using h
    exact ⟨ns.map V.int, (ns.map V.int)[i], (scr_sq r).2, by simp at h'; simp [h']⟩
  stop := fun m H r => ⟨ns.map V.int, (scr_sq r).2, by simp [enumD_len]⟩
  yld := fun i m H x H' r st y d hd => by
    obtain ⟨T, v, rfl, nT, rfl, y⟩ := y
    obtain ⟨z, hz, rfl⟩ := enumD_get hd
    have e := y _ (scr_sq r).2
    rw [List.getElem?_map] at e hz
    cases q : ns[i]? with
    | none => rw [q] at hz; cases hz
    | some n =>
      rw [q] at e hz
      cases e; cases hz
      exact enum_yld st nT (.int n)

section
variable {W : WX} {Ps : PsiT} {r : Rho} {m : Sto} {te : TE} {ta : TA} {Ph : List D → Sto → Prop} {K : PySem.W.Frag}
theorem wi_seqS {a : Addr} {ns : List Int} (h : WT W Ps te r m fun d m1 => d = .scr K a ns ∧ Ph (ns.map D.int) m1) : WI W Ps (iSeq K te) r m Ph := fun s H R Rl X k =>
  h s H _ Rl X fun v H1 d m1 h1 f1 r1 s1 => by
    obtain ⟨e, h2⟩ := h1
    subst e
    obtain ⟨rfl, q⟩ := scr_sq r1
    exact ⟨_, _, rfl, .inl ⟨q, k _ H1 _ m1 _ h2 f1 s1 itd_scr r1⟩⟩
theorem wi_enumS {a : Addr} {ns : List Int} (h : WA W Ps ta r m fun xs m1 => xs = [.scr K a ns] ∧ Ph (enumD (ns.map D.int)) m1) : WI W Ps (iEnumA K ta) r m Ph := fun s H R Rl X k =>
  h s H _ Rl X fun v H1 xs m1 h1 f1 r1 s1 => by
    obtain ⟨e, h2⟩ := h1
    subst e
    cases r1 with
    | cons q0 b =>
      cases b
      obtain ⟨rfl, q⟩ := scr_sq q0
      exact ⟨_, _, rfl, .inl ⟨q, k _ H1 _ m1 _ h2 f1 s1 itd_enumS q0⟩⟩
theorem wi_seq (h : WT W Ps te r m fun d m1 => ∃ ds, (d = .lst ds ∨ d = .tup ds) ∧ Ph ds m1) : WI W Ps (iSeq K te) r m Ph := fun s H R Rl X k =>
  h s H _ Rl X fun v H1 d m1 h1 f1 r1 s1 => by
    obtain ⟨ds, e, h2⟩ := h1
    rcases e with e | e <;> subst e
    · cases r1 with
      | lst e n q => exact ⟨_, _, rfl, .inl ⟨.inl (.inl e), k _ H1 ds m1 _ h2 f1 s1 itd_list ⟨_, e, n, q⟩⟩⟩
    · cases r1 with
      | tup e n q => exact ⟨_, _, rfl, .inr ⟨.inl (.inl e), k _ H1 ds m1 _ h2 f1 s1 itd_tup ⟨_, e, n, q⟩⟩⟩
theorem wi_str (h : WT W Ps te r m fun d m1 => ∃ x, d = .str x ∧ Ph (signsD x) m1) : WI W Ps (iStr te) r m Ph := fun s H R Rl X k =>
  h s H _ Rl X fun v H1 d m1 h1 f1 r1 s1 => by
    obtain ⟨x, e, h2⟩ := h1
    subst e
    cases r1
    exact ⟨x, rfl, k _ H1 _ m1 _ h2 f1 s1 itd_str trivial⟩
theorem wi_rng1 (h : WA W Ps ta r m fun ds m1 => ∃ j : Int, ds = [.int j] ∧ -(2 ^ 62) ≤ j ∧ j < 2 ^ 62 ∧ Ph (rngD 0 j.toNat) m1) : WI W Ps (iRng1 ta) r m Ph := fun s H R Rl X k =>
  h s H _ Rl X fun v H1 d m1 h1 f1 r1 s1 => by
    obtain ⟨j, e, b1, b2, h2⟩ := h1
    subst e
    cases r1 with
    | cons a b =>
      cases a; cases b
      exact ⟨j, rfl, b1, b2, k _ H1 _ m1 _ h2 f1 s1 itd_rng trivial⟩
theorem wi_rng2 (h : WA W Ps ta r m fun ds m1 => ∃ i j : Int, ds = [.int i, .int j] ∧ (-(2 ^ 62) ≤ i ∧ i < 2 ^ 62 ∧ -(2 ^ 62) ≤ j ∧ j < 2 ^ 62) ∧ Ph (rngD i (j - i).toNat) m1) : WI W Ps (iRng2 ta) r m Ph := fun s H R Rl X k =>
  h s H _ Rl X fun v H1 d m1 h1 f1 r1 s1 => by
    obtain ⟨i, j, e, b1, h2⟩ := h1
    subst e
    cases r1 with
    | cons a b =>
      cases a
      cases b with
      | cons c e =>
        cases c; cases e
        exact ⟨i, j, rfl, b1, k _ H1 _ m1 _ h2 f1 s1 itd_rng trivial⟩
theorem wi_enum (h : WA W Ps ta r m fun xs m1 => ∃ d ds, xs = [d] ∧ (d = .lst ds ∨ d = .tup ds) ∧ Ph (enumD ds) m1) : WI W Ps (iEnumA K ta) r m Ph := fun s H R Rl X k =>
  h s H _ Rl X fun v H1 xs m1 h1 f1 r1 s1 => by
    obtain ⟨d, ds, e0, e, h2⟩ := h1
    subst e0
    cases r1 with
    | cons q0 b =>
      cases b
      rcases e with e | e <;> subst e
      · cases q0 with
        | lst e n q => exact ⟨_, _, rfl, .inl ⟨.inl (.inl e), k _ H1 _ m1 _ h2 f1 s1 itd_enumL ⟨_, e, n, q⟩⟩⟩
      · cases q0 with
        | tup e n q => exact ⟨_, _, rfl, .inr ⟨.inl (.inl e), k _ H1 _ m1 _ h2 f1 s1 itd_enumT ⟨_, e, n, q⟩⟩⟩
end

/-! ### for -/
section
variable {W : WX} {Ps : PsiT} {r : Rho} {m : Sto} {E : EndsD} {wi : TI} {g : TG} {tb : TS}
theorem ws_for (h : WI W Ps wi r m fun ds m1 => ∃ I : Nat → Rho → Sto → Prop, I 0 r m1 ∧
    (∀ (i : Nat) d r' m', ds[i]? = some d → I i r' m' → WG W Ps g d r' m' fun r2 m2 => WS W Ps tb { E with nx := I (i + 1), ct := I (i + 1), bk := E.nx } r2 m2) ∧
    (∀ r' m', I ds.length r' m' → E.nx r' m')) : WS W Ps (tFor wi g tb) E r m := fun s H D R X K =>
  h s H _ R X fun J H1 ds m1 G h1 f1 s1 J1 g1 => by
    obtain ⟨I, i0, turn, fin⟩ := h1
    refine ⟨fun i k s' H' => k = ds.length - i ∧ i ≤ ds.length ∧ ∃ r' m', I i r' m' ∧ Rel m' H' s' r' ∧ Fr m m' H H' ∧ G m' H', ⟨_, rfl, Nat.zero_le _, r, m1, i0, f1.rel R s1, f1, g1⟩, ?_⟩
    rintro i k s' H' ⟨rfl, hi, r', m', p, R', f', g'⟩
    by_cases hlt : i < ds.length
    · refine .inr ⟨J1.go i m' H' g' hlt, fun s2 H2 => ∃ r2 m2, I (i + 1) r2 m2 ∧ Rel m2 H2 s2 r2 ∧ Fr m m2 H H2 ∧ G m2 H2, fun s2 H2 ⟨r2, m2, p2, R2, f2, g2⟩ => ⟨ds.length - (i + 1), by omega, rfl, hlt, r2, m2, p2, R2, f2, g2⟩, fun x H2 y => ?_⟩
      obtain ⟨ex, q, st2⟩ := J1.yld i m' H' x H2 g' R'.st y ds[i] (by simp [hlt])
      have fe : Fr m' m' H' H2 := .ext ex
      have fa := f'.trans fe
      refine turn i ds[i] r' m' (by simp [hlt]) p x s' H2 _ (fe.rel R' st2) (X.go fa) q fun s3 H3 r3 m3 w3 f3 R3 => ?_
      have fb := fa.trans f3
      have gb := J1.mono _ _ _ _ (fe.trans f3) g'
      refine w3 s3 H3 { D with nx := fun s2 H2 => ∃ r2 m2, I (i + 1) r2 m2 ∧ Rel m2 H2 s2 r2 ∧ Fr m m2 H H2 ∧ G m2 H2, ct := fun s2 H2 => ∃ r2 m2, I (i + 1) r2 m2 ∧ Rel m2 H2 s2 r2 ∧ Fr m m2 H H2 ∧ G m2 H2, bk := D.nx } R3 (X.go fb) ⟨?_, K.rt.go fb, K.nx.go fb, ?_⟩
      · exact fun s4 H4 r4 m4 p4 f4 R4 => ⟨r4, m4, p4, R4, fb.trans f4, J1.mono _ _ _ _ f4 gb⟩
      · exact fun s4 H4 r4 m4 p4 f4 R4 => ⟨r4, m4, p4, R4, fb.trans f4, J1.mono _ _ _ _ f4 gb⟩
    · have e : i = ds.length := by omega
      subst e
      exact .inl ⟨J1.stop m' H' g', K.nx s' H' r' m' (fin r' m' p) f' R'⟩
theorem ws_while {c : TT} (I : Rho → Sto → Prop) (mea : Rho → Sto → Nat) (h0 : I r m)
    (h : ∀ r' m', I r' m' → WB W Ps c r' m' fun b m1 => (b = true → WS W Ps tb { E with nx := fun r2 m2 => I r2 m2 ∧ mea r2 m2 < mea r' m', ct := fun r2 m2 => I r2 m2 ∧ mea r2 m2 < mea r' m', bk := E.nx } r' m1) ∧ (b = false → E.nx r' m1)) :
    WS W Ps (tWhile c tb) E r m := fun s H D R X K => by
  refine ⟨fun k s' H' => ∃ r' m', k = mea r' m' ∧ I r' m' ∧ Rel m' H' s' r' ∧ Fr m m' H H', ⟨_, r, m, rfl, h0, R, Fr.refl m H⟩, ?_⟩
  rintro k s' H' ⟨r', m', rfl, p, R', f'⟩
  refine h r' m' p s' H' _ R' (X.go f') fun b H1 m1 h1 f1 s1 => ?_
  have fa := f'.trans f1
  have R1 := f1.rel R' s1
  cases b with
  | true =>
    refine iteT ⟨fun s2 H2 => ∃ r2 m2, (I r2 m2 ∧ mea r2 m2 < mea r' m') ∧ Rel m2 H2 s2 r2 ∧ Fr m m2 H H2, fun s2 H2 ⟨r2, m2, ⟨p2, l2⟩, R2, f2⟩ => ⟨_, l2, r2, m2, rfl, p2, R2, f2⟩, ?_⟩
    refine h1.1 rfl s' H1 { D with nx := fun s2 H2 => ∃ r2 m2, (I r2 m2 ∧ mea r2 m2 < mea r' m') ∧ Rel m2 H2 s2 r2 ∧ Fr m m2 H H2, ct := fun s2 H2 => ∃ r2 m2, (I r2 m2 ∧ mea r2 m2 < mea r' m') ∧ Rel m2 H2 s2 r2 ∧ Fr m m2 H H2, bk := D.nx } R1 (X.go fa) ⟨?_, K.rt.go fa, K.nx.go fa, ?_⟩
    · exact fun s4 H4 r4 m4 p4 f4 R4 => ⟨r4, m4, p4, R4, fa.trans f4⟩
    · exact fun s4 H4 r4 m4 p4 f4 R4 => ⟨r4, m4, p4, R4, fa.trans f4⟩
  | false => exact iteF (K.nx s' H1 r' m1 (h1.2 rfl) fa R1)
end

/-! ### comprehensions -/
def wipeR (r : Rho) : List Nat → Rho
  | [] => r
  | v :: vs => (wipeR r vs).set v none
theorem SlR.wipe {M : List Addr} {H : Hp} {s : L2.St} {r : Rho} (h : SlR M H s r) : ∀ vs : List Nat, SlR M H (wipe s vs) (wipeR r vs)
  | [] => h
  | v :: vs => (SlR.wipe h vs).drop v
/-- a target that stores to these slots alone -/
def GOnly (vs : List Nat) (g : TG) : Prop := ∀ (v : V) (s : L2.St) (H : Hp) (Q : L2.St → Hp → Prop), g v s H Q → g v s H fun s' H' => wipe s' vs = wipe s vs ∧ Q s' H'
def GsOnly (vs : List Nat) (g : TGs) : Prop := ∀ (v : List V) (s : L2.St) (H : Hp) (Q : L2.St → Hp → Prop), g v s H Q → g v s H fun s' H' => wipe s' vs = wipe s vs ∧ Q s' H'
theorem wipe_set {i : Nat} {o : Option V} : ∀ {vs : List Nat} {s : L2.St}, i ∈ vs → wipe (s.set i o) vs = wipe s vs
  | [], _, h => by cases h
  | v :: vs, s, h => by
    unfold wipe
    by_cases hm : i ∈ vs
    · rw [wipe_set hm]
    · have e : i = v := by
        rcases List.mem_cons.mp h with e | e
        · exact e
        · exact absurd e hm
      subst e
      have : ∀ (vs : List Nat), i ∉ vs → ∀ s : L2.St, wipe (s.set i o) vs = (wipe s vs).set i o := by
        intro vs
        induction vs with
        | nil => intro _ s; rfl
        | cons u us ih =>
          intro hn s
          unfold wipe
          rw [ih (fun z => hn (List.mem_cons_of_mem _ z)), List.set_comm _ _ (fun z => hn (by rw [z]; exact List.mem_cons_self))]
      rw [this vs hm, List.set_set]
theorem wipe_twice : ∀ (us vs : List Nat) (s : L2.St), (∀ i ∈ us, i ∈ vs) → wipe (wipe s us) vs = wipe s vs
  | [], _, _, _ => rfl
  | u :: us, vs, s, h => by
    show wipe ((wipe s us).set u none) vs = _
    rw [wipe_set (h u List.mem_cons_self)]
    exact wipe_twice us vs s fun i hi => h i (List.mem_cons_of_mem _ hi)
theorem gonly_name {vs : List Nat} {i : Nat} (h : i ∈ vs) : GOnly vs (gName i) := fun v s H Q q => ⟨wipe_set h, q⟩
theorem gsonly_nil {vs : List Nat} : GsOnly vs gNil := fun v s H Q ⟨e, q⟩ => ⟨e, rfl, q⟩
theorem gonly_tup {vs : List Nat} {K : PySem.W.Frag} {n : Nat} {gs : TGs} (h : GsOnly vs gs) : GOnly vs (gTup K n gs) := fun v s H Q ⟨a, xs, e1, e2, e3, q⟩ => ⟨a, xs, e1, e2, e3, h xs s H Q q⟩
theorem gsonly_one {vs : List Nat} {i : Nat} (h : i ∈ vs) : GsOnly vs (gCons (gName i) gNil) := fun v s H Q ⟨x, r, e, q⟩ => by
  obtain ⟨e2, q⟩ := q
  exact ⟨x, r, e, e2, wipe_set h, q⟩
theorem gsonly_cons {vs : List Nat} {i : Nat} {gs : TGs} (h : i ∈ vs) (hs : GsOnly vs gs) : GsOnly vs (gCons (gName i) gs) := fun v s H Q ⟨x, r, e, q⟩ => by
  refine ⟨x, r, e, ?_⟩
  have z := hs r (s.set i (some x)) H Q q
  rw [wipe_set h] at z
  exact z
section
variable {W : WX} {Ps : PsiT} {r : Rho} {m : Sto} {Ph : PhiT} {wi : TI} {g : TG} {tt : TT} {te : TE} {vs : List Nat}
theorem wb_yes {Ph : Bool → Sto → Prop} (k : Ph true m) : WB W Ps tYes r m Ph := fun s H Q R X K => K true H m k (Fr.refl m H) R.st
theorem StoR.drop {a : Addr} {o : MO} {m : Sto} {H : Hp} (s : StoR ((a, o) :: m) H) : StoR m H := by
  have sub : ∀ b, b ∈ dom m → b ∈ dom ((a, o) :: m) := fun b hb => by
    unfold dom
    rw [List.flatMap_cons]
    exact List.mem_append_right _ hb
  have nd : (dom m).Nodup := by
    have := s.nd
    unfold dom at this
    rw [List.flatMap_cons] at this
    exact (List.nodup_append.mp this).2.1
  refine ⟨nd, fun p hp => ?_⟩
  have z := s.at_ p (List.mem_cons_of_mem _ hp)
  have k1 : ∀ a_1 o_1, H a_1 = some o_1 → a_1 ∉ dom ((a, o) :: m) → H a_1 = some o_1 := fun _ _ h _ => h
  have k2 : ∀ a_1 (o_1 : HO), H a_1 = some o_1 → a_1 ∉ dom ((a, o) :: m) → a_1 ∉ dom m := fun b _ _ n q => n (sub b q)
  obtain ⟨b, q⟩ := p
  cases q with
  | lst ds => obtain ⟨xs, e, t⟩ := z; exact ⟨xs, e, t.mono k1 k2⟩
  | dct ds => obtain ⟨xs, e, t⟩ := z; exact ⟨xs, e, t.mono k1 k2⟩
  | gen ac ag n => exact z
theorem Fr.drop {a : Addr} {o : MO} {m : Sto} {H : Hp} : Fr ((a, o) :: m) m H H := ⟨fun _ _ h _ => h, fun b hb => .inl (by
  unfold dom
  rw [List.flatMap_cons]
  exact List.mem_append_right _ hb)⟩
theorem own_head {L : Addr} {acc : List D} {m : Sto} {H : Hp} (s : StoR ((L, .lst acc) :: m) H) : ∃ xs, H L = some (.lst xs) ∧ L ∉ dom m ∧ Reps (dom ((L, .lst acc) :: m)) H xs acc := by
  obtain ⟨xs, e, t⟩ := s.at_ _ List.mem_cons_self
  have nd := s.nd
  rw [dom_cons] at nd
  exact ⟨xs, e, (List.nodup_cons.mp nd).1, t⟩
/-- an own list grows -/
theorem own_push {L : Addr} {acc : List D} {d : D} {v : V} {m : Sto} {H : Hp} {xs : List V} (s : StoR ((L, .lst acc) :: m) H) (e : H L = some (.lst xs)) (t : Reps (dom ((L, .lst acc) :: m)) H xs acc) (q : Rep (dom ((L, .lst acc) :: m)) H v d) :
    StoR ((L, .lst (acc ++ [d])) :: m) (upd H L (.lst (xs ++ [v]))) ∧ Fr ((L, .lst acc) :: m) ((L, .lst (acc ++ [d])) :: m) H (upd H L (.lst (xs ++ [v]))) := by
  have hd : dom ((L, .lst (acc ++ [d])) :: m) = dom ((L, .lst acc) :: m) := rfl
  have f : Fr ((L, .lst acc) :: m) ((L, .lst (acc ++ [d])) :: m) H (upd H L (.lst (xs ++ [v]))) := ⟨fun a o h n => by
    rw [upd_ne (fun z => n (by rw [z, dom_cons]; exact List.mem_cons_self))]
    exact h, fun a h => .inl (by rw [← hd]; exact h)⟩
  refine ⟨⟨by rw [hd]; exact s.nd, fun p hp => ?_⟩, f⟩
  have nd := s.nd
  rw [dom_cons] at nd
  have hL := (List.nodup_cons.mp nd).1
  rcases List.mem_cons.mp hp with z | z
  · subst z
    exact ⟨xs ++ [v], upd_same, f.reps (reps_app t (.cons q .nil))⟩
  · have y := s.at_ p (List.mem_cons_of_mem _ z)
    have hne : ∀ b, b ∈ domO p → b ≠ L := fun b hb e2 => hL (by
      rw [← e2]
      exact List.mem_flatMap.mpr ⟨p, z, hb⟩)
    obtain ⟨b, o⟩ := p
    cases o with
    | lst es => obtain ⟨ws, e1, r1⟩ := y; exact ⟨ws, by rw [upd_ne (hne b (by simp [domO]))]; exact e1, f.reps r1⟩
    | dct es => obtain ⟨ws, e1, r1⟩ := y; exact ⟨ws, by rw [upd_ne (hne b (by simp [domO]))]; exact e1, f.repKs r1⟩
    | gen ac ag n =>
      obtain ⟨sp, cs, gs, e1, e2, e3, r1⟩ := y
      exact ⟨sp, cs, gs, by rw [upd_ne (hne b (by simp [domO]))]; exact e1, by rw [upd_ne (hne ac (by simp [domO]))]; exact e2, by rw [upd_ne (hne ag (by simp [domO]))]; exact e3, r1⟩
theorem own_new {m : Sto} {H : Hp} {p : Addr} (st : StoR m H) (hp : H p = none) : StoR ((p, .lst []) :: m) (upd H p (.lst [])) ∧ Fr m ((p, .lst []) :: m) H (upd H p (.lst [])) := by
  have f : Fr m ((p, .lst []) :: m) H (upd H p (.lst [])) := ⟨(Fr.new (m := m) hp).keep, fun a ha => by
    rw [dom_cons] at ha
    rcases List.mem_cons.mp ha with e | e
    · exact .inr (by rw [e]; exact hp)
    · exact .inl e⟩
  have s2 := st.new (o := .lst []) hp
  refine ⟨⟨by rw [dom_cons]; exact List.nodup_cons.mpr ⟨st.fresh hp, st.nd⟩, fun q hq => ?_⟩, f⟩
  rcases List.mem_cons.mp hq with e | e
  · subst e
    exact ⟨[], upd_same, .nil⟩
  · have z := st.at_ q e
    obtain ⟨b, o⟩ := q
    have up : ∀ a o, H a = some o → upd H p (.lst []) a = some o := fun a u e => by rw [upd_ne (ne_of_none e hp)]; exact e
    cases o with
    | lst es => obtain ⟨xs, e1, r1⟩ := z; exact ⟨xs, up _ _ e1, f.reps r1⟩
    | dct es => obtain ⟨xs, e1, r1⟩ := z; exact ⟨xs, up _ _ e1, f.repKs r1⟩
    | gen ac ag n => obtain ⟨sp, cs, gs, e1, e2, e3, r1⟩ := z; exact ⟨sp, cs, gs, up _ _ e1, up _ _ e2, up _ _ e3, r1⟩
/-- one comprehension: its list stands ahead in the store while it grows; at the end it is let go as plain data, or kept -/
theorem wt_lcG (ho : GOnly vs g) (h : WI W Ps wi r m fun ds m1 => ∀ L, L ∉ dom m1 → ∃ I : Nat → List D → Sto → Prop, I 0 [] m1 ∧
    (∀ (i : Nat) d acc m', ds[i]? = some d → I i acc m' → WG W Ps g d (wipeR r vs) ((L, .lst acc) :: m') fun r2 m2 => WB W Ps tt r2 m2 fun b m3 =>
      (b = true → WT W Ps te r2 m3 fun y m4 => ∃ m5, m4 = (L, .lst acc) :: m5 ∧ acc.length < sizeLine ∧ I (i + 1) (acc ++ [y]) m5) ∧ (b = false → ∃ m5, m3 = (L, .lst acc) :: m5 ∧ I (i + 1) acc m5)) ∧
    (∀ acc m', I ds.length acc m' → Ph (.lst acc) m' ∨ Ph (.ref L) ((L, .lst acc) :: m'))) : WT W Ps (tLc wi g tt te vs) r m Ph := fun s H Q R X K =>
  h s H _ R X fun J H1 ds m1 G h1 f1 s1 J1 g1 => fun L hL => by
    obtain ⟨I, i0, turn, fin⟩ := h1 L (s1.fresh hL)
    obtain ⟨sL, fL⟩ := own_new s1 hL
    have ff := f1.trans fL
    refine ⟨fun i k H' => k = ds.length - i ∧ i ≤ ds.length ∧ ∃ acc m', I i acc m' ∧ StoR ((L, .lst acc) :: m') H' ∧ Fr m ((L, .lst acc) :: m') H H' ∧ G ((L, .lst acc) :: m') H', ⟨_, rfl, Nat.zero_le _, [], m1, i0, sL, ff, J1.mono _ _ _ _ fL g1⟩, ?_⟩
    rintro i k H' ⟨rfl, hi, acc, m', p, st', f', g'⟩
    by_cases hlt : i < ds.length
    · refine .inr ⟨J1.go i _ H' g' hlt, fun H2 => ∃ acc2 m2, I (i + 1) acc2 m2 ∧ StoR ((L, .lst acc2) :: m2) H2 ∧ Fr m ((L, .lst acc2) :: m2) H H2 ∧ G ((L, .lst acc2) :: m2) H2, fun H2 ⟨acc2, m2, p2, st2, f2, g2⟩ => ⟨ds.length - (i + 1), by omega, rfl, hlt, acc2, m2, p2, st2, f2, g2⟩, fun x H2 y => ?_⟩
      obtain ⟨ex, q, st2⟩ := J1.yld i _ H' x H2 g' st' y ds[i] (by simp [hlt])
      have fe : Fr ((L, .lst acc) :: m') ((L, .lst acc) :: m') H' H2 := .ext ex
      have fa := f'.trans fe
      have Rw : Rel ((L, .lst acc) :: m') H2 (wipe s vs) (wipeR r vs) := ⟨((fa.rel R st2).sl).wipe vs, st2⟩
      have z := turn i ds[i] acc m' (by simp [hlt]) p x (wipe s vs) H2 (fun s3 H3 => tt s3 H3 fun b H4 => if b = true then te s3 H4 fun y H5 => ∃ acc, H5 L = some (.lst acc) ∧ acc.length < sizeLine ∧ (fun H2 => ∃ acc2 m2, I (i + 1) acc2 m2 ∧ StoR ((L, .lst acc2) :: m2) H2 ∧ Fr m ((L, .lst acc2) :: m2) H H2 ∧ G ((L, .lst acc2) :: m2) H2) (upd H5 L (.lst (acc ++ [y]))) else (fun H2 => ∃ acc2 m2, I (i + 1) acc2 m2 ∧ StoR ((L, .lst acc2) :: m2) H2 ∧ Fr m ((L, .lst acc2) :: m2) H H2 ∧ G ((L, .lst acc2) :: m2) H2) H4) Rw (X.go fa) q fun s3 H3 r3 m3 w3 f3 R3 => ?_
      · have z2 := ho _ _ _ _ z
        rw [show wipe (wipe s vs) vs = wipe s vs from wipe_twice vs vs s fun _ h => h] at z2
        exact z2
      · have fb := fa.trans f3
        refine w3 s3 H3 _ R3 (X.go fb) fun b H4 m4 h4 f4 s4 => ?_
        have fc := fb.trans f4
        have R4 := f4.rel R3 s4
        have gc := J1.mono _ _ _ _ ((fe.trans f3).trans f4) g'
        cases b with
        | true =>
          refine iteT (h4.1 rfl s3 H4 _ R4 (X.go fc) fun y H5 dy m5 h5 f5 r5 s5 => ?_)
          obtain ⟨m6, rfl, hz, p6⟩ := h5
          obtain ⟨xs, e5, n5, t5⟩ := own_head s5
          obtain ⟨s6, f6⟩ := own_push s5 e5 t5 r5
          exact ⟨xs, e5, by rw [t5.len]; exact hz, acc ++ [dy], m6, p6, s6, (fc.trans f5).trans f6, J1.mono _ _ _ _ (f5.trans f6) gc⟩
        | false =>
          obtain ⟨m6, rfl, p6⟩ := h4.2 rfl
          exact iteF ⟨acc, m6, p6, s4, fc, gc⟩
    · have e : i = ds.length := by omega
      subst e
      refine .inl ⟨J1.stop _ H' g', ?_⟩
      obtain ⟨xs, e5, n5, t5⟩ := own_head st'
      rcases fin acc m' p with z | z
      · exact K (.ref L) H' (.lst acc) m' z (f'.trans Fr.drop) (.lst e5 n5 (Fr.drop.reps t5)) st'.drop
      · exact K (.ref L) H' (.ref L) _ z f' (.ref L) st'
end
end Dz
/-! Dz, part D: lists of the store; builtins, subscripts, slices, methods, raise, try. -/
namespace Dz
open PySem PySem.Spec PyProof.Rows L2

/-! ### the store -/
theorem dom_set : ∀ {m : Sto} {k : Nat} {p q : Addr × MO}, m[k]? = some p → domO q = domO p → dom (m.set k q) = dom m
  | [], k, _, _, h, _ => by simp at h
  | x :: m, 0, p, q, h, e => by
    have : x = p := by simpa using h
    subst this
    show domO q ++ dom m = domO x ++ dom m
    rw [e]
  | x :: m, k + 1, p, q, h, e => by
    show domO x ++ dom (m.set k q) = domO x ++ dom m
    rw [dom_set (by simpa using h) e]
theorem dom_sub : ∀ {m : Sto} {k : Nat} {p : Addr × MO}, m[k]? = some p → ∀ x ∈ domO p, x ∈ dom m := fun h x hx => List.mem_flatMap.mpr ⟨_, List.mem_of_getElem? h, hx⟩
theorem dom_disj : ∀ {m : Sto} {j k : Nat} {p q : Addr × MO}, (dom m).Nodup → m[j]? = some p → m[k]? = some q → j ≠ k → ∀ x ∈ domO p, x ∉ domO q
  | [], j, _, _, _, _, h, _, _ => by simp at h
  | y :: m, 0, 0, _, _, _, _, _, n => absurd rfl n
  | y :: m, 0, k + 1, p, q, nd, h1, h2, n => fun x hx hq => by
    have : y = p := by simpa using h1
    subst this
    have nd' : (domO y ++ dom m).Nodup := nd
    exact (List.nodup_append.mp nd').2.2 x hx x (dom_sub (k := k) (by simpa using h2) x hq) rfl
  | y :: m, j + 1, 0, p, q, nd, h1, h2, n => fun x hx hq => by
    have : y = q := by simpa using h2
    subst this
    have nd' : (domO y ++ dom m).Nodup := nd
    exact (List.nodup_append.mp nd').2.2 x hq x (dom_sub (k := j) (by simpa using h1) x hx) rfl
  | y :: m, j + 1, k + 1, p, q, nd, h1, h2, n => by
    have nd' : (domO y ++ dom m).Nodup := nd
    exact dom_disj (m := m) (List.nodup_append.mp nd').2.1 (by simpa using h1) (by simpa using h2) (fun e => n (by rw [e]))
theorem MoR.keep {M M' : List Addr} {H H' : Hp} {p : Addr × MO} (k1 : ∀ a o, H a = some o → a ∉ M → H' a = some o) (k2 : ∀ a o, H a = some o → a ∉ M → a ∉ M') (kp : ∀ a o, a ∈ domO p → H a = some o → H' a = some o) (r : MoR M H p.1 p.2) : MoR M' H' p.1 p.2 := by
  obtain ⟨b, o⟩ := p
  cases o with
  | lst es => obtain ⟨ws, e1, r1⟩ := r; exact ⟨ws, kp _ _ (by simp [domO]) e1, r1.mono k1 k2⟩
  | dct es => obtain ⟨ws, e1, r1⟩ := r; exact ⟨ws, kp _ _ (by simp [domO]) e1, r1.mono k1 k2⟩
  | gen ac ag n =>
    obtain ⟨sp, cs, gs, e1, e2, e3, r1⟩ := r
    exact ⟨sp, cs, gs, kp _ _ (by simp [domO]) e1, kp _ _ (by simp [domO]) e2, kp _ _ (by simp [domO]) e3, r1⟩
section
variable {m : Sto} {H : Hp} {a : Addr} {k : Nat}
/-- one object of the store changes -/
theorem sto_upd {p : MO} {q : MO} {u : HO} (st : StoR m H) (e : m[k]? = some (a, p)) (hd : domO (a, q) = domO (a, p)) (h1 : a ∈ domO (a, p)) (hu : ∀ H' : Hp, (∀ b o, H b = some o → b ∉ dom m → H' b = some o) → (∀ b, b ≠ a → H' b = H b) → H' a = some u → MoR (dom m) H' a q) :
    StoR (m.set k (a, q)) (upd H a u) ∧ Fr m (m.set k (a, q)) H (upd H a u) := by
  have hd' := dom_set e hd
  have ha : a ∈ dom m := dom_sub e a h1
  have kp : ∀ b o, H b = some o → b ∉ dom m → upd H a u b = some o := fun b o h n => by
    rw [upd_ne (fun z => n (by rw [z]; exact ha))]; exact h
  refine ⟨⟨by rw [hd']; exact st.nd, fun x hx => ?_⟩, ⟨kp, fun b hb => .inl (by rw [← hd']; exact hb)⟩⟩
  rw [hd']
  obtain ⟨j, hj⟩ := List.mem_iff_getElem?.mp hx
  by_cases c : k = j
  · subst c
    have lt : k < m.length := (List.getElem?_eq_some_iff.mp e).1
    rw [List.getElem?_set_self lt] at hj
    cases hj
    exact hu _ kp (fun b hb => upd_ne hb) upd_same
  · rw [List.getElem?_set_ne c] at hj
    refine MoR.keep kp (fun _ _ _ n => n) (fun b o hb hh => ?_) (st.at_ x (List.mem_of_getElem? hj))
    rw [upd_ne (fun z => dom_disj st.nd hj e (fun z => c z.symm) b hb (by rw [z]; exact h1))]
    exact hh
/-- the items of a list of the store change -/
theorem lst_upd {ds ds' : List D} {xs xs' : List V} (st : StoR m H) (e : m[k]? = some (a, .lst ds)) (r : Reps (dom m) H xs' ds') :
    StoR (m.set k (a, .lst ds')) (upd H a (.lst xs')) ∧ Fr m (m.set k (a, .lst ds')) H (upd H a (.lst xs')) :=
  sto_upd (q := .lst ds') st e rfl (by simp [domO]) fun H' kp _ ea => ⟨xs', ea, r.mono kp fun _ _ _ n => n⟩
theorem lst_at {ds : List D} (st : StoR m H) (e : m[k]? = some (a, .lst ds)) : ∃ xs, H a = some (.lst xs) ∧ Reps (dom m) H xs ds := st.at_ _ (List.mem_of_getElem? e)
end

/-! ### views -/
def IsL (m : Sto) (d : D) (ds : List D) : Prop := d = .lst ds ∨ ∃ (k : Nat) (a : Addr), d = .ref a ∧ m[k]? = some (a, MO.lst ds)
def IsS (m : Sto) (d : D) (ds : List D) : Prop := IsL m d ds ∨ d = .tup ds
theorem isL_lst {m : Sto} {ds : List D} : IsL m (.lst ds) ds := .inl rfl
theorem isL_own {m : Sto} {a : Addr} {ds : List D} (k : Nat) (e : m[k]? = some (a, .lst ds)) : IsL m (.ref a) ds := .inr ⟨k, a, rfl, e⟩
theorem isL_rd {m : Sto} {H : Hp} {v : V} {d : D} {ds : List D} (h : IsL m d ds) (r : Rep (dom m) H v d) (st : StoR m H) : ∃ a xs, v = .ref a ∧ H a = some (.lst xs) ∧ Reps (dom m) H xs ds := by
  rcases h with h | ⟨k, a, h, e⟩ <;> subst h <;> cases r
  · exact ⟨_, _, rfl, by assumption, by assumption⟩
  · obtain ⟨xs, e, q⟩ := lst_at st e
    exact ⟨_, _, rfl, e, q⟩
theorem tup_rd {m : Sto} {H : Hp} {v : V} {ds : List D} (r : Rep (dom m) H v (.tup ds)) : ∃ a xs, v = .ref a ∧ H a = some (.tup xs) ∧ Reps (dom m) H xs ds := by
  cases r
  exact ⟨_, _, rfl, by assumption, by assumption⟩
theorem isS_rd {K : PySem.W.Frag} {m : Sto} {H : Hp} {v : V} {d : D} {ds : List D} (h : IsS m d ds) (r : Rep (dom m) H v d) (st : StoR m H) : ∃ a xs, v = .ref a ∧ (SqL K H a xs ∨ SqT K H a xs) ∧ Reps (dom m) H xs ds := by
  rcases h with h | h
  · obtain ⟨a, xs, e, h, q⟩ := isL_rd h r st
    exact ⟨a, xs, e, .inl (.inl (.inl h)), q⟩
  · subst h
    obtain ⟨a, xs, e, h, q⟩ := tup_rd r
    exact ⟨a, xs, e, .inr (.inl (.inl h)), q⟩
theorem Reps.nth {M : List Addr} {H : Hp} : ∀ {vs : List V} {ds : List D} {i : Nat} {d : D}, Reps M H vs ds → ds[i]? = some d → ∃ v, vs[i]? = some v ∧ Rep M H v d
  | _, _, 0, _, .cons a _, h => by
    simp at h
    subst h
    exact ⟨_, rfl, a⟩
  | _, _, i + 1, _, .cons _ t, h => by
    obtain ⟨v, e, r⟩ := Reps.nth (i := i) t (by simpa using h)
    exact ⟨v, by simpa using e, r⟩
  | _, _, i, _, .nil, h => by simp at h
theorem Reps.atI {M : List Addr} {H : Hp} {vs : List V} {ds : List D} {i : Int} {d : D} (r : Reps M H vs ds) (h : atI ds i = some d) : ∃ v, L2.atI vs i = some v ∧ Rep M H v d := by
  unfold L2.atI at h ⊢
  rw [r.len]
  cases e : ixN ds.length i with
  | none => rw [e] at h; cases h
  | some j =>
    rw [e] at h
    exact r.nth h
theorem Reps.drop {M : List Addr} {H : Hp} : ∀ {vs : List V} {ds : List D} (n : Nat), Reps M H vs ds → Reps M H (vs.drop n) (ds.drop n)
  | _, _, 0, r => r
  | _, _, n + 1, .cons _ t => Reps.drop n t
  | _, _, n + 1, .nil => .nil
theorem Reps.take {M : List Addr} {H : Hp} : ∀ {vs : List V} {ds : List D} (n : Nat), Reps M H vs ds → Reps M H (vs.take n) (ds.take n)
  | _, _, 0, _ => .nil
  | _, _, n + 1, .cons a t => .cons a (Reps.take n t)
  | _, _, n + 1, .nil => .nil
theorem Reps.set {M : List Addr} {H : Hp} {v : V} {d : D} (q : Rep M H v d) : ∀ {vs : List V} {ds : List D} (n : Nat), Reps M H vs ds → Reps M H (vs.set n v) (ds.set n d)
  | _, _, 0, .cons _ t => .cons q t
  | _, _, n + 1, .cons a t => .cons a (Reps.set q n t)
  | _, _, _, .nil => .nil
theorem Reps.eraseIdx {M : List Addr} {H : Hp} : ∀ {vs : List V} {ds : List D} (n : Nat), Reps M H vs ds → Reps M H (vs.eraseIdx n) (ds.eraseIdx n)
  | _, _, 0, .cons _ t => t
  | _, _, n + 1, .cons a t => .cons a (Reps.eraseIdx n t)
  | _, _, _, .nil => .nil
theorem Reps.dropLast {M : List Addr} {H : Hp} : ∀ {vs : List V} {ds : List D}, Reps M H vs ds → Reps M H vs.dropLast ds.dropLast
  | _, _, .nil => .nil
  | _, _, .cons _ .nil => .nil
  | _, _, .cons a (.cons b t) => .cons a (Reps.dropLast (.cons b t))

/-! ### subscripts and slices -/
def rIxS : R2 := L2.rIxS
def cutD (xs : List D) (lo hi : Option Int) : List D := (xs.drop (HT.sIx xs.length 0 lo)).take (HT.sIx xs.length xs.length hi - HT.sIx xs.length 0 lo)
theorem Reps.cut {M : List Addr} {H : Hp} {vs : List V} {ds : List D} (r : Reps M H vs ds) (lo hi : Option Int) : Reps M H (cutV vs lo hi) (cutD ds lo hi) := by
  unfold cutV cutD
  rw [r.len]
  exact (r.drop _).take _
def rSl (K : PySem.W.Frag) : V → Option Int → Option Int → Hp → VK → Prop := fun x lo hi H Q => rSlL K x lo hi H Q ∨ (rSlA K x lo hi H Q ∨ rSlS x lo hi H Q)
theorem sl_any {X : Cx} : L2.SlR X (rSl X.K) := L2.SlR.or sl_list (L2.SlR.or sl_tupA sl_str)
def WO (W : WX) (Ps : PsiT) (t : TO) (r : Rho) (m : Sto) (Ph : Option Int → Sto → Prop) : Prop := ∀ (s : L2.St) (H : Hp) (Q : Option Int → Hp → Prop), Rel m H s r → XT W m H Ps → (∀ o H' m', Ph o m' → Fr m m' H H' → StoR m' H' → Q o H') → t s H Q
section
variable {W : WX} {Ps : PsiT} {r : Rho} {m : Sto} {K : PySem.W.Frag} {Ph : PhiT} {te : TE} {tl th : TO}
theorem wo_none {Ph : Option Int → Sto → Prop} (k : Ph none m) : WO W Ps tNoPart r m Ph := fun s H Q R X q => q none H m k (Fr.refl m H) R.st
theorem wo_some {Ph : Option Int → Sto → Prop} (h : WT W Ps te r m fun d m1 => ∃ i, d = .int i ∧ Ph (some i) m1) : WO W Ps (tPart te) r m Ph := fun s H Q R X q =>
  h s H _ R X fun v H1 d m1 h1 f1 r1 s1 => by
    obtain ⟨i, e, h2⟩ := h1
    subst e
    cases r1
    exact ⟨i, rfl, q _ H1 m1 h2 f1 s1⟩
def SlD (o : V → Option Int → Option Int → Hp → VK → Prop) (x : D) (l u : Option Int) (m : Sto) (Ph : PhiT) : Prop := ∀ (vx : V) (H : Hp) (Q : VK), Rep (dom m) H vx x → StoR m H → KT Ph m H Q → o vx l u H Q
theorem wt_sl {o : V → Option Int → Option Int → Hp → VK → Prop} (h : WT W Ps te r m fun x m1 => WO W Ps tl r m1 fun l m2 => WO W Ps th r m2 fun u m3 => SlD o x l u m3 Ph) : WT W Ps (tSl o te tl th) r m Ph := fun s H Q R X K =>
  h s H _ R X fun v H1 x m1 h1 f1 r1 s1 => h1 s H1 _ (f1.rel R s1) (X.go f1) fun l H2 m2 h2 f2 s2 => h2 s H2 _ ((f1.trans f2).rel R s2) (X.go (f1.trans f2)) fun u H3 m3 h3 f3 s3 =>
    h3 v H3 Q ((f2.trans f3).rep r1) s3 (K.go ((f1.trans f2).trans f3))
theorem sd_lst {x : D} {ds : List D} {l u : Option Int} (h : IsL m x ds) (k : Ph (.lst (cutD ds l u)) m) : SlD (rSl K) x l u m Ph := fun vx H Q rx st K => .inl (by
  obtain ⟨a, xs, rfl, e, q⟩ := isL_rd h rx st
  exact ⟨a, xs, rfl, .inl (.inl e), new_lst (q.cut l u) st K k⟩)
theorem sd_tup {ds : List D} {l u : Option Int} (k : Ph (.tup (cutD ds l u)) m) : SlD (rSl K) (.tup ds) l u m Ph := fun vx H Q rx st K => .inr (.inl (by
  obtain ⟨a, xs, rfl, e, q⟩ := tup_rd rx
  refine ⟨a, xs, rfl, .inl (.inl e), fun h => ?_, fun _ => new_tup (q.cut l u) st K k⟩
  have z : cutD ds l u = ds := by
    unfold cutD
    rw [q.len] at h
    rw [h.1, h.2]; simp
  rw [z] at k
  exact K _ H _ m k (Fr.refl m H) rx st))
theorem sd_str {z : Str} {l u : Option Int} (hz : z.length ≤ sizeLine) (k : Ph (.str (cutS z l u)) m) : SlD (rSl K) (.str z) l u m Ph := fun vx H Q rx st K => .inr (.inr (by
  cases rx
  exact ⟨z, rfl, hz, K _ H _ m k (Fr.refl m H) (.str _) st⟩))
theorem od_ixl {x d : D} {ds : List D} {i : Int} (h : IsL m x ds) (e : atI ds i = some d) (k : Ph d m) : OpD (rIx K) x (.int i) m Ph := fun vx vy H Q rx ry st K => .inl (by
  cases ry
  obtain ⟨a, xs, rfl, ea, q⟩ := isL_rd h rx st
  obtain ⟨v, e2, rv⟩ := q.atI e
  exact ⟨a, xs, i, v, rfl, rfl, .inl (.inl ea), e2, K _ H _ m k (Fr.refl m H) rv st⟩)
theorem od_ixt {d : D} {ds : List D} {i : Int} (e : atI ds i = some d) (k : Ph d m) : OpD (rIx K) (.tup ds) (.int i) m Ph := fun vx vy H Q rx ry st K => .inr (.inl (by
  cases ry
  obtain ⟨a, xs, rfl, ea, q⟩ := tup_rd rx
  obtain ⟨v, e2, rv⟩ := q.atI e
  exact ⟨a, xs, i, v, rfl, rfl, .inl (.inl ea), e2, K _ H _ m k (Fr.refl m H) rv st⟩))
theorem od_ixs {z : Str} {c : Nat} {i : Int} (hz : z.length ≤ sizeLine) (e : atI z.cps.toList i = some c) (k : Ph (.str ⟨#[c]⟩) m) : OpD (rIx K) (.str z) (.int i) m Ph := fun vx vy H Q rx ry st K => .inr (.inr (by
  cases ry; cases rx
  exact ⟨z, i, c, rfl, rfl, hz, e, K _ H _ m k (Fr.refl m H) (.str _) st⟩))

/-- x in a list, by == of data -/
theorem od_inD {x y : D} {ds : List D} {p : PyData} {qs : List PyData} (hx : x.py = some p) (h : IsL m y ds) (hy : D.pys ds = some qs) (sx : SeqAt.shaped p = true) (sy : SeqAt.shaped (.list qs) = true) (k : Ph (.bl (qs.any fun z => PyData.eqv z p)) m) : OpD (rInA K) x y m Ph := fun vx vy H Q rx ry st KK => .inr (.inr (by
  obtain ⟨a, xs, rfl, e, q⟩ := isL_rd h ry st
  exact ⟨p, qs, rep_dp rx hx, .lst (.inl (.inl e)) (reps_dp q hy), sx, sy, KK _ H _ m k (Fr.refl m H) (.bl _) st⟩))
theorem od_eqL {x y : D} {ds es : List D} {ps qs : List PyData} (hx : IsL m x ds) (hy : IsL m y es) (ex : D.pys ds = some ps) (ey : D.pys es = some qs) (sx : SeqAt.shaped (.list ps) = true) (sy : SeqAt.shaped (.list qs) = true) (k : Ph (.bl (PyData.eqv (.list ps) (.list qs))) m) : OpD (rEqA K) x y m Ph := fun vx vy H Q rx ry st KK => .inr (by
  obtain ⟨a, xs, rfl, e, q⟩ := isL_rd hx rx st
  obtain ⟨b, ys, rfl, e2, q2⟩ := isL_rd hy ry st
  exact ⟨_, _, .lst (.inl (.inl e)) (reps_dp q ex), .lst (.inl (.inl e2)) (reps_dp q2 ey), sx, sy, KK _ H _ m k (Fr.refl m H) (.bl _) st⟩)
theorem od_neL {x y : D} {ds es : List D} {ps qs : List PyData} (hx : IsL m x ds) (hy : IsL m y es) (ex : D.pys ds = some ps) (ey : D.pys es = some qs) (sx : SeqAt.shaped (.list ps) = true) (sy : SeqAt.shaped (.list qs) = true) (k : Ph (.bl (!PyData.eqv (.list ps) (.list qs))) m) : OpD (rNeA K) x y m Ph := fun vx vy H Q rx ry st KK => .inr (by
  obtain ⟨a, xs, rfl, e, q⟩ := isL_rd hx rx st
  obtain ⟨b, ys, rfl, e2, q2⟩ := isL_rd hy ry st
  exact ⟨_, _, .lst (.inl (.inl e)) (reps_dp q ex), .lst (.inl (.inl e2)) (reps_dp q2 ey), sx, sy, KK _ H _ m k (Fr.refl m H) (.bl _) st⟩)
/-! ### builtins -/
def rLenA (K : PySem.W.Frag) : List V → Hp → VK → Prop := fun xs H Q => (∃ x n, xs = [x] ∧ LenV K x H n ∧ Q (.int n) H) ∨ ∃ a kvs, xs = [V.ref a] ∧ H a = some (.dK kvs) ∧ Q (.int kvs.length) H
theorem c_len {X : Cx} : CallR X (.builtin "len") (rLenA X.K) := call_len.or call_lenD
theorem reps_one {M : List Addr} {H : Hp} {vs : List V} {d : D} (r : Reps M H vs [d]) : ∃ v, vs = [v] ∧ Rep M H v d := by
  cases r with
  | cons a b => cases b; exact ⟨_, rfl, a⟩
theorem reps_two {M : List Addr} {H : Hp} {vs : List V} {d e : D} (r : Reps M H vs [d, e]) : ∃ v w, vs = [v, w] ∧ Rep M H v d ∧ Rep M H w e := by
  cases r with
  | cons a b =>
    obtain ⟨w, e, q⟩ := reps_one b
    subst e
    exact ⟨_, _, rfl, a, q⟩
theorem cd_lens {z : Str} (hz : z.length ≤ sizeLine) (k : Ph (.int (z.length : Nat)) m) : CaD (rLenA K) [.str z] m Ph := fun vs H Q R st K => .inl (by
  obtain ⟨v, rfl, r⟩ := reps_one R
  cases r
  exact ⟨_, _, rfl, ⟨hz, rfl⟩, K _ H _ m k (Fr.refl m H) (.int _) st⟩)
theorem cd_len {x : D} {ds : List D} (h : IsS m x ds) (k : Ph (.int (ds.length : Nat)) m) : CaD (rLenA K) [x] m Ph := fun vs H Q R st KK => .inl (by
  obtain ⟨v, rfl, r⟩ := reps_one R
  obtain ⟨a, xs, rfl, e, q⟩ := isS_rd (K := K) h r st
  refine ⟨.ref a, xs.length, rfl, ?_, by rw [q.len]; exact KK _ H _ m k (Fr.refl m H) (.int _) st⟩
  rcases e with e | e
  · exact .inl ⟨xs, e, rfl⟩
  · exact .inr ⟨xs, e, rfl⟩)
def D.tyS : D → Option String
  | .non => some "NoneType"
  | .bl _ => some "bool"
  | .int _ => some "int"
  | .str _ => some "str"
  | .tup _ => some "tuple"
  | .lst _ => some "list"
  | .dct _ => some "dict"
  | .ref _ => none
  | .ty _ => none
  | .exc _ _ _ => none
  | .scr _ _ _ => none
def TyD (m : Sto) (d : D) (t : String) : Prop := d.tyS = some t ∨ ∃ (k : Nat) (a : Addr), d = .ref a ∧ ((∃ ds, m[k]? = some (a, MO.lst ds) ∧ t = "list") ∨ ∃ ds, m[k]? = some (a, MO.dct ds) ∧ t = "dict")
theorem rep_ty {H : Hp} {v : V} {d : D} {t : String} (h : TyD m d t) (r : Rep (dom m) H v d) (st : StoR m H) : TyX K H v (.type t) := by
  rcases h with h | ⟨k, a, e, h⟩
  · cases r <;> simp [D.tyS] at h <;> subst h
    · exact .base .non
    · exact .base (.bl _)
    · exact .base (.int _)
    · exact .base (.str _)
    · exact .base (.tup (by assumption))
    · exact .base (.lst (by assumption))
    · exact .base (.dK (by assumption))
  · subst e
    cases r
    rcases h with ⟨ds, e, rfl⟩ | ⟨ds, e, rfl⟩
    · obtain ⟨xs, e, _⟩ := lst_at st e
      exact .base (.lst e)
    · obtain ⟨xs, e, _⟩ : MoR (dom m) H a (.dct ds) := st.at_ _ (List.mem_of_getElem? e)
      exact .base (.dK e)
theorem cd_isi {x : D} {t n : String} {b : Bool} (h : TyD m x t) (hk : kitB t n = some b) (k : Ph (.bl b) m) : CaD (rIsi K) [x, .ty n] m Ph := fun vs H Q R st KK => by
  obtain ⟨v, w, rfl, r1, r2⟩ := reps_two R
  cases r2
  exact ⟨v, .ty n, _, _, b, rfl, .ty n, rep_ty h r1 st, kit_ty hk, KK _ H _ m k (Fr.refl m H) (.bl _) st⟩
def rIntA : List V → Hp → VK → Prop := fun xs H Q => ((∃ i, xs = [.int i] ∧ Q (.int i) H) ∨ ∃ k, xs = [.bl k] ∧ Q (.int (if k then 1 else 0)) H) ∨ ∃ a n, xs = [.str a] ∧ PySem.intText? a = some n ∧ a.length ≤ 640 ∧ Q (.int n) H
theorem c_int {X : Cx} : CallR X (.type "int") rIntA := call_int1.or call_int_str
theorem cd_int {i : Int} (k : Ph (.int i) m) : CaD rIntA [.int i] m Ph := fun vs H Q R st KK => by
  obtain ⟨v, rfl, r⟩ := reps_one R
  cases r
  exact .inl (.inl ⟨i, rfl, KK _ H _ m k (Fr.refl m H) (.int _) st⟩)
theorem cd_ints {z : Str} {i : Int} (e : PySem.intText? z = some i) (hz : z.length ≤ 640) (k : Ph (.int i) m) : CaD rIntA [.str z] m Ph := fun vs H Q R st KK => by
  obtain ⟨v, rfl, r⟩ := reps_one R
  cases r
  exact .inr ⟨z, i, rfl, e, hz, KK _ H _ m k (Fr.refl m H) (.int _) st⟩
def rStrI : List V → Hp → VK → Prop := fun xs H Q => ∃ i, xs = [.int i] ∧ i.natAbs.log2 < 1920 ∧ Q (.str (toString i)) H
theorem c_str {X : Cx} : CallR X (.type "str") rStrI := call_str_int
theorem cd_str {i : Int} (hz : i.natAbs.log2 < 1920) (k : Ph (.str (Str.ofString (toString i))) m) : CaD rStrI [.int i] m Ph := fun vs H Q R st KK => by
  obtain ⟨v, rfl, r⟩ := reps_one R
  cases r
  exact ⟨i, rfl, hz, KK _ H _ m k (Fr.refl m H) (.str _) st⟩
def rTupOf (K : PySem.W.Frag) : List V → Hp → VK → Prop := fun xs H Q => ∃ p ys, xs = [.ref p] ∧ ((SqL K H p ys ∧ ∀ l, H l = none → Q (.ref l) (upd H l (.tup ys))) ∨ (SqT K H p ys ∧ Q (.ref p) H))
theorem c_tuple {X : Cx} : CallR X (.type "tuple") (rTupOf X.K) := call_tuple_of
theorem cd_tupl {x : D} {ds : List D} (h : IsL m x ds) (k : Ph (.tup ds) m) : CaD (rTupOf K) [x] m Ph := fun vs H Q R st KK => by
  obtain ⟨v, rfl, r⟩ := reps_one R
  obtain ⟨a, xs, rfl, e, q⟩ := isL_rd h r st
  exact ⟨a, xs, rfl, .inl ⟨.inl (.inl e), new_tup q st KK k⟩⟩
theorem cd_tupt {ds : List D} (k : Ph (.tup ds) m) : CaD (rTupOf K) [.tup ds] m Ph := fun vs H Q R st KK => by
  obtain ⟨v, rfl, r⟩ := reps_one R
  obtain ⟨a, xs, rfl, e, q⟩ := tup_rd r
  exact ⟨a, xs, rfl, .inr ⟨.inl (.inl e), KK _ H _ m k (Fr.refl m H) r st⟩⟩
def rListOf (K : PySem.W.Frag) : List V → Hp → VK → Prop := fun xs H Q => ∃ p ys, xs = [.ref p] ∧ (SqL K H p ys ∨ SqT K H p ys) ∧ ∀ l, H l = none → Q (.ref l) (upd H l (.lst ys))
theorem c_list {X : Cx} : CallR X (.type "list") (rListOf X.K) := call_list_of
theorem cd_list {x : D} {ds : List D} (h : IsS m x ds) (k : Ph (.lst ds) m) : CaD (rListOf K) [x] m Ph := fun vs H Q R st KK => by
  obtain ⟨v, rfl, r⟩ := reps_one R
  obtain ⟨a, xs, rfl, e, q⟩ := isS_rd (K := K) h r st
  exact ⟨a, xs, rfl, e, new_lst q st KK k⟩
/-- list(x) that will be changed -/
theorem cd_listo {x : D} {ds : List D} (h : IsS m x ds) (k : ∀ a, a ∉ dom m → Ph (.ref a) ((a, .lst ds) :: m)) : CaD (rListOf K) [x] m Ph := fun vs H Q R st KK => by
  obtain ⟨v, rfl, r⟩ := reps_one R
  obtain ⟨a, xs, rfl, e, q⟩ := isS_rd (K := K) h r st
  exact ⟨a, xs, rfl, e, new_own q st KK k⟩
theorem reps_bls {M : List Addr} {H : Hp} : ∀ {ns : List Bool} {us : List V}, Reps M H us (ns.map D.bl) → us = ns.map V.bl
  | [], _, .nil => rfl
  | n :: ns, _, .cons a b => by
    cases a
    rw [reps_bls b]; rfl
theorem reps_strs {M : List Addr} {H : Hp} : ∀ {ns : List Str} {us : List V}, Reps M H us (ns.map D.str) → us = ns.map V.str
  | [], _, .nil => rfl
  | n :: ns, _, .cons a b => by
    cases a
    rw [reps_strs b]; rfl
theorem cd_all {x : D} {bs : List Bool} (h : IsL m x (bs.map D.bl)) (k : Ph (.bl (bs.all id)) m) : CaD (rAll K) [x] m Ph := fun vs H Q R st KK => by
  obtain ⟨v, rfl, r⟩ := reps_one R
  obtain ⟨a, xs, rfl, e, q⟩ := isL_rd h r st
  obtain rfl := reps_bls q
  exact ⟨a, bs, rfl, .inl (.inl e), KK _ H _ m k (Fr.refl m H) (.bl _) st⟩
theorem cd_any {x : D} {bs : List Bool} (h : IsL m x (bs.map D.bl)) (k : Ph (.bl (bs.any id)) m) : CaD (rAny K) [x] m Ph := fun vs H Q R st KK => by
  obtain ⟨v, rfl, r⟩ := reps_one R
  obtain ⟨a, xs, rfl, e, q⟩ := isL_rd h r st
  obtain rfl := reps_bls q
  exact ⟨a, bs, rfl, .inl (.inl e), KK _ H _ m k (Fr.refl m H) (.bl _) st⟩
theorem cd_sum {x : D} {bs : List Int} (h : IsL m x (bs.map D.int)) (k : Ph (.int bs.sum) m) : CaD (rSum K) [x] m Ph := fun vs H Q R st KK => by
  obtain ⟨v, rfl, r⟩ := reps_one R
  obtain ⟨a, xs, rfl, e, q⟩ := isL_rd h r st
  obtain rfl := reps_ints q
  exact ⟨a, bs, rfl, .inl (.inl e), KK _ H _ m k (Fr.refl m H) (.int _) st⟩
end

/-! ### methods of texts and lists -/
section
variable {W : WX} {Ps : PsiT} {r : Rho} {m : Sto} {K : PySem.W.Frag} {Ph : PhiT} {to te : TE} {ta : TA}
def MeD (o : V → List V → Hp → VK → Prop) (x : D) (ys : List D) (m : Sto) (Ph : PhiT) : Prop := ∀ (v : V) (vs : List V) (H : Hp) (Q : VK), Rep (dom m) H v x → Reps (dom m) H vs ys → StoR m H → KT Ph m H Q → o v vs H Q
theorem wt_m1 {o : V → List V → Hp → VK → Prop} (h : WT W Ps to r m fun x m1 => (∃ a, x = .str a) ∧ WT W Ps te r m1 fun y m2 => MeD o x [y] m2 Ph) : WT W Ps (tM1 o to te) r m Ph := fun s H Q R X K =>
  h s H _ R X fun v H1 x m1 h1 f1 r1 s1 => by
    obtain ⟨⟨a, e⟩, h2⟩ := h1
    subst e
    cases r1
    exact ⟨⟨a, rfl⟩, h2 s H1 _ (f1.rel R s1) (X.go f1) fun w H2 y m2 h3 f2 r2 s2 => h3 _ _ H2 Q (.str a) (.cons r2 .nil) s2 (K.go (f1.trans f2))⟩
def TyM (m : Sto) (x : D) (T : String) : Prop := (∃ a, x = .str a ∧ T = "str") ∨ (∃ ds, IsL m x ds ∧ T = "list") ∨ (∃ i, x = .int i ∧ T = "int")
theorem tym_ok {H : Hp} {v : V} {x : D} {T : String} (h : TyM m x T) (q : Rep (dom m) H v x) (st : StoR m H) : tyV K T v H := by
  rcases h with ⟨a, e, rfl⟩ | ⟨ds, e, rfl⟩ | ⟨i, e, rfl⟩
  · subst e; cases q; exact rfl
  · obtain ⟨b, xs, rfl, e, _⟩ := isL_rd e q st
    exact .inl ⟨rfl, xs, .inl (.inl e)⟩
  · subst e; cases q; exact rfl
theorem wt_bm {o : V → List V → Hp → VK → Prop} {T : String} (h : WT W Ps to r m fun x m1 => TyM m1 x T ∧ WA W Ps ta r m1 fun ys m2 => MeD o x ys m2 Ph) : WT W Ps (tBM K T o to ta) r m Ph := fun s H Q R X KK =>
  h s H _ R X fun v H1 x m1 h1 f1 r1 s1 => ⟨tym_ok h1.1 r1 s1, h1.2 s H1 _ (f1.rel R s1) (X.go f1) fun ws H2 ys m2 h3 f2 r2 s2 => h3 v ws H2 Q (f2.rep r1) r2 s2 (KK.go (f1.trans f2))⟩
theorem wt_bm0 {o : V → List V → Hp → VK → Prop} {T : String} (h : WT W Ps to r m fun x m1 => TyM m1 x T ∧ MeD o x [] m1 Ph) : WT W Ps (tBM0 K T o to) r m Ph := fun s H Q R X KK =>
  h s H _ R X fun v H1 x m1 h1 f1 r1 s1 => ⟨tym_ok h1.1 r1 s1, h1.2 v [] H1 Q r1 .nil s1 (KK.go f1)⟩
def rSplit : V → List V → Hp → VK → Prop := fun x xs H Q => ∃ a b, x = .str a ∧ xs = [.str b] ∧ (b.length == 0) = false ∧ a.length + 2 ≤ sizeLine ∧ rNewStrs (Txt.split a b) H Q
theorem reps_of_strs {M : List Addr} {H : Hp} : ∀ ys : List Str, Reps M H (ys.map V.str) (ys.map D.str)
  | [] => .nil
  | y :: ys => .cons (.str y) (reps_of_strs ys)
theorem md_split {a b : Str} (h1 : (b.length == 0) = false) (h2 : a.length + 2 ≤ sizeLine) (k : Ph (.lst ((Txt.split a b).map D.str)) m) : MeD rSplit (.str a) [.str b] m Ph := fun v vs H Q r rs st K => by
  obtain ⟨w, rfl, r2⟩ := reps_one rs
  cases r; cases r2
  exact ⟨a, b, rfl, rfl, h1, h2, new_lst (reps_of_strs _) st K k⟩
/-- a split whose list will be changed -/
theorem md_splito {a b : Str} (h1 : (b.length == 0) = false) (h2 : a.length + 2 ≤ sizeLine) (k : ∀ l, l ∉ dom m → Ph (.ref l) ((l, .lst ((Txt.split a b).map D.str)) :: m)) : MeD rSplit (.str a) [.str b] m Ph := fun v vs H Q r rs st K => by
  obtain ⟨w, rfl, r2⟩ := reps_one rs
  cases r; cases r2
  exact ⟨a, b, rfl, rfl, h1, h2, new_own (reps_of_strs _) st K k⟩
def rPart : V → List V → Hp → VK → Prop := fun x xs H Q => ∃ a b, x = .str a ∧ xs = [.str b] ∧ (b.length == 0) = false ∧ a.length ≤ sizeLine ∧
  ∀ p, H p = none → Q (.ref p) (upd H p (.tup [.str (Txt.partition a b).1, .str (Txt.partition a b).2.1, .str (Txt.partition a b).2.2]))
theorem md_part {a b : Str} (h1 : (b.length == 0) = false) (h2 : a.length ≤ sizeLine) (k : Ph (.tup [.str (Txt.partition a b).1, .str (Txt.partition a b).2.1, .str (Txt.partition a b).2.2]) m) : MeD rPart (.str a) [.str b] m Ph := fun v vs H Q r rs st K => by
  obtain ⟨w, rfl, r2⟩ := reps_one rs
  cases r; cases r2
  exact ⟨a, b, rfl, rfl, h1, h2, new_tup (.cons (.str _) (.cons (.str _) (.cons (.str _) .nil))) st K k⟩
def rJoin (K : PySem.W.Frag) : V → List V → Hp → VK → Prop := fun x xs H Q => ∃ a p, ∃ ys : List Str, x = .str a ∧ xs = [.ref p] ∧ (SqL K H p (ys.map V.str) ∨ SqT K H p (ys.map V.str)) ∧
  (ys.map (·.length)).sum + ys.length * a.length ≤ 16777216 ∧ Q (.str (Txt.join a ys)) H
theorem md_join {a : Str} {y : D} {ys : List Str} (h : IsS m y (ys.map D.str)) (hz : (ys.map (·.length)).sum + ys.length * a.length ≤ 16777216) (k : Ph (.str (Txt.join a ys)) m) : MeD (rJoin K) (.str a) [y] m Ph := fun v vs H Q r rs st KK => by
  obtain ⟨w, rfl, r2⟩ := reps_one rs
  cases r
  obtain ⟨p, xs, rfl, e, q⟩ := isS_rd (K := K) h r2 st
  obtain rfl := reps_strs q
  exact ⟨a, p, ys, rfl, rfl, e, hz, KK _ H _ m k (Fr.refl m H) (.str _) st⟩
theorem md_append {a : Addr} {ds : List D} {y : D} (j : Nat) (e : m[j]? = some (a, .lst ds)) (hz : ds.length < sizeLine) (k : Ph .non (m.set j (a, .lst (ds ++ [y])))) : MeD rAppend (.ref a) [y] m Ph := fun v vs H Q r rs st K => by
  obtain ⟨w, rfl, r2⟩ := reps_one rs
  cases r
  obtain ⟨xs, ea, q⟩ := lst_at st e
  obtain ⟨s2, f2⟩ := lst_upd (xs := xs) st e (reps_app q (.cons r2 .nil))
  exact ⟨a, xs, w, rfl, rfl, ea, by rw [q.len]; exact hz, K _ _ _ _ k f2 .non s2⟩
theorem md_extend {a : Addr} {ds zs : List D} {y : D} (j : Nat) (e : m[j]? = some (a, .lst ds)) (h : IsL m y zs) (hz : ds.length + zs.length ≤ sizeLine) (k : Ph .non (m.set j (a, .lst (ds ++ zs)))) : MeD rExtend (.ref a) [y] m Ph := fun v vs H Q r rs st K => by
  obtain ⟨w, rfl, r2⟩ := reps_one rs
  cases r
  obtain ⟨xs, ea, q⟩ := lst_at st e
  obtain ⟨b, ws, rfl, eb, q2⟩ := isL_rd h r2 st
  obtain ⟨s2, f2⟩ := lst_upd (xs := xs) st e (reps_app q q2)
  exact ⟨a, b, xs, ws, rfl, rfl, ea, eb, by rw [q.len, q2.len]; exact hz, K _ _ _ _ k f2 .non s2⟩
theorem md_pop {a : Addr} {ds : List D} {y : D} (j : Nat) (e : m[j]? = some (a, .lst ds)) (hy : ds[ds.length - 1]? = some y) (k : Ph y (m.set j (a, .lst ds.dropLast))) : MeD rPop (.ref a) [] m Ph := fun v vs H Q r rs st K => by
  cases rs
  cases r
  obtain ⟨xs, ea, q⟩ := lst_at st e
  obtain ⟨s2, f2⟩ := lst_upd (xs := xs) st e q.dropLast
  obtain ⟨w, ew, rw'⟩ := q.nth hy
  exact ⟨a, xs, w, rfl, rfl, ea, by rw [q.len]; exact ew, K _ _ _ _ k f2 (f2.rep rw') s2⟩
theorem md_popat {a : Addr} {ds : List D} {y : D} {i : Int} {n : Nat} (j : Nat) (e : m[j]? = some (a, .lst ds)) (h1 : -(2 ^ 63) ≤ i) (h2 : i < 2 ^ 63) (hn : seqIndex? i ds.length = some n) (hy : ds[n]? = some y) (k : Ph y (m.set j (a, .lst (ds.eraseIdx n)))) : MeD rPopAt (.ref a) [.int i] m Ph := fun v vs H Q r rs st K => by
  obtain ⟨w0, rfl, r2⟩ := reps_one rs
  cases r2
  cases r
  obtain ⟨xs, ea, q⟩ := lst_at st e
  obtain ⟨s2, f2⟩ := lst_upd (xs := xs) st e (q.eraseIdx n)
  obtain ⟨w, ew, rw'⟩ := q.nth hy
  exact ⟨a, xs, i, n, w, rfl, rfl, ea, h1, h2, by rw [q.len]; exact hn, ew, K _ _ _ _ k f2 (f2.rep rw') s2⟩
/-- o[i] = .. -/
theorem wg_subl {ti : TE} {d : D} {Ph : Rho → Sto → Prop} (h : WT W Ps to r m fun x m1 => WT W Ps ti r m1 fun y m2 => ∃ (j : Nat) (a : Addr) (ds : List D) (i : Int) (n : Nat), x = .ref a ∧ y = .int i ∧ m2[j]? = some (a, .lst ds) ∧ ixN ds.length i = some n ∧ Ph r (m2.set j (a, .lst (ds.set n d)))) :
    WG W Ps (gSub to ti rSetL) d r m Ph := fun v s H Q R X q K =>
  h s H _ R X fun vx H1 x m1 h1 f1 r1 s1 => h1 s H1 _ (f1.rel R s1) (X.go f1) fun vy H2 y m2 h2 f2 r2 s2 => by
    obtain ⟨j, a, ds, i, n, e1, e2, ej, ei, k⟩ := h2
    subst e1; subst e2
    have r1' := f2.rep r1
    cases r2; cases r1'
    have ff := f1.trans f2
    obtain ⟨xs, ea, qq⟩ := lst_at s2 ej
    obtain ⟨s3, f3⟩ := lst_upd (xs := xs) s2 ej (qq.set (ff.rep q) n)
    exact ⟨a, xs, i, n, rfl, rfl, ea, by rw [qq.len]; exact ei, K _ _ _ _ k (ff.trans f3) ((ff.trans f3).rel R s3)⟩
end

/-! ### own lists become plain data -/
theorem dom_erase : ∀ {m : Sto} {k : Nat} {x : Addr}, x ∈ dom (m.eraseIdx k) → x ∈ dom m
  | [], k, x, h => by simpa using h
  | y :: m, 0, x, h => List.mem_append_right _ h
  | y :: m, k + 1, x, h => by
    rcases List.mem_append.mp (show x ∈ domO y ++ dom (m.eraseIdx k) from h) with z | z
    · exact List.mem_append_left _ z
    · exact List.mem_append_right _ (dom_erase z)
theorem dom_erase_nd : ∀ {m : Sto} {k : Nat}, (dom m).Nodup → (dom (m.eraseIdx k)).Nodup
  | [], k, h => by simpa using h
  | y :: m, 0, h => (List.nodup_append.mp (show (domO y ++ dom m).Nodup from h)).2.1
  | y :: m, k + 1, h => by
    obtain ⟨h1, h2, h3⟩ := List.nodup_append.mp (show (domO y ++ dom m).Nodup from h)
    exact List.nodup_append.mpr ⟨h1, dom_erase_nd h2, fun a ha b hb => h3 a ha b (dom_erase hb)⟩
theorem dom_erase_not : ∀ {m : Sto} {k : Nat} {p : Addr × MO} {x : Addr}, (dom m).Nodup → m[k]? = some p → x ∈ domO p → x ∉ dom (m.eraseIdx k)
  | [], k, _, _, _, h, _ => by simp at h
  | y :: m, 0, p, x, nd, h, hx => by
    have : y = p := by simpa using h
    subst this
    exact fun hb => (List.nodup_append.mp (show (domO y ++ dom m).Nodup from nd)).2.2 x hx x hb rfl
  | y :: m, k + 1, p, x, nd, h, hx => fun hb => by
    obtain ⟨h1, h2, h3⟩ := List.nodup_append.mp (show (domO y ++ dom m).Nodup from nd)
    rcases List.mem_append.mp (show x ∈ domO y ++ dom (m.eraseIdx k) from hb) with z | z
    · exact h3 x z x (dom_sub (k := k) (by simpa using h) x hx) rfl
    · exact dom_erase_not (m := m) h2 (by simpa using h) hx z
section
variable {m : Sto} {H : Hp} {a : Addr} {k : Nat}
theorem sto_erase (st : StoR m H) : StoR (m.eraseIdx k) H :=
  ⟨dom_erase_nd st.nd, fun p hp => MoR.keep (fun _ _ h _ => h) (fun _ _ _ n h => n (dom_erase h)) (fun _ _ _ h => h) (st.at_ p (List.mem_of_mem_eraseIdx hp))⟩
theorem fr_erase : Fr m (m.eraseIdx k) H H := ⟨fun _ _ h _ => h, fun _ h => .inl (dom_erase h)⟩
theorem let_rep {ds : List D} (st : StoR m H) (e : m[k]? = some (a, .lst ds)) : Rep (dom (m.eraseIdx k)) H (.ref a) (.lst ds) := by
  obtain ⟨xs, ea, q⟩ := lst_at st e
  exact .lst ea (dom_erase_not st.nd e (by simp [domO])) ((fr_erase (m := m) (H := H)).reps q)
end
section
variable {W : WX} {Ps : PsiT} {r : Rho} {m : Sto} {Ph : PhiT} {t : TE} {ts : TS} {E : EndsD}
/-- a value: its list becomes plain -/
theorem wt_let (h : WT W Ps t r m fun d m1 => ∃ k a ds, d = .ref a ∧ m1[k]? = some (a, .lst ds) ∧ Ph (.lst ds) (m1.eraseIdx k)) : WT W Ps t r m Ph := fun s H Q R X K =>
  h s H Q R X fun v H1 d m1 h1 f1 r1 s1 => by
    obtain ⟨k, a, ds, e, ek, q⟩ := h1
    subst e
    cases r1
    exact K _ H1 _ _ q (f1.trans fr_erase) (let_rep s1 ek) (sto_erase s1)
/-- a slot: its list becomes plain -/
theorem ws_let {i k : Nat} {a : Addr} {ds : List D} (hi : r[i]? = some (some (.ref a))) (ek : m[k]? = some (a, .lst ds)) (h : WS W Ps ts E (r.set i (some (.lst ds))) (m.eraseIdx k)) : WS W Ps ts E r m := fun s H D R X K => by
  have f : Fr m (m.eraseIdx k) H H := fr_erase
  refine h s H D ⟨?_, sto_erase R.st⟩ (X.go f) (K.go f)
  obtain ⟨v, ev, rv⟩ := R.sl.2 i _ hi
  have z := (f.rel R (sto_erase R.st)).sl.set i (let_rep R.st ek)
  cases rv
  have : s.set i (some (V.ref a)) = s := by
    obtain ⟨lt, e⟩ := List.getElem?_eq_some_iff.mp ev
    rw [← e]; exact List.set_getElem_self lt
  rw [this] at z
  exact z
/-- the store is read more weakly -/
def Wk (m m' : Sto) : Prop := (∀ x, x ∈ dom m' → x ∈ dom m) ∧ ∀ H, StoR m H → StoR m' H
theorem Wk.refl : Wk m m := ⟨fun _ h => h, fun _ h => h⟩
theorem Wk.fr {m m' : Sto} {H : Hp} (w : Wk m m') : Fr m m' H H := ⟨fun _ _ h _ => h, fun _ h => .inl (w.1 _ h)⟩
theorem wk_gen {k : Nat} {a ac ag : Addr} {n n' : Nat} (e : m[k]? = some (a, .gen ac ag n)) (h : n ≤ n') : Wk m (m.set k (a, .gen ac ag n')) := by
  have hd : dom (m.set k (a, .gen ac ag n')) = dom m := dom_set e rfl
  refine ⟨fun x h => by rw [← hd]; exact h, fun H st => ⟨by rw [hd]; exact st.nd, fun p hp => ?_⟩⟩
  rw [hd]
  obtain ⟨j, hj⟩ := List.mem_iff_getElem?.mp hp
  by_cases c : k = j
  · subst c
    have lt : k < m.length := (List.getElem?_eq_some_iff.mp e).1
    rw [List.getElem?_set_self lt] at hj
    cases hj
    obtain ⟨sp, cs, gs, e1, e2, e3, e4, r1⟩ : MoR (dom m) H a (.gen ac ag n) := st.at_ _ (List.mem_of_getElem? e)
    exact ⟨sp, cs, gs, e1, e2, e3, Nat.le_trans e4 h, r1⟩
  · rw [List.getElem?_set_ne c] at hj
    exact st.at_ p (List.mem_of_getElem? hj)
theorem wt_wk {m' : Sto} (w : Wk m m') (h : WT W Ps t r m' Ph) : WT W Ps t r m Ph := fun s H Q R X K => h s H Q (w.fr.rel R (w.2 H R.st)) (X.go w.fr) (K.go w.fr)
theorem ws_wk {m' : Sto} (w : Wk m m') (h : WS W Ps ts E r m') : WS W Ps ts E r m := fun s H D R X K => h s H D (w.fr.rel R (w.2 H R.st)) (X.go w.fr) (K.go w.fr)
theorem wt_post (h : WT W Ps t r m fun d m1 => ∃ m2, Wk m1 m2 ∧ Ph d m2) : WT W Ps t r m Ph := fun s H Q R X K =>
  h s H Q R X fun v H1 d m1 ⟨m2, w, q⟩ f1 r1 s1 => K v H1 d m2 q (f1.trans w.fr) (w.fr.rep r1) (w.2 H1 s1)
theorem wt_mono {Ph' : PhiT} (hp : ∀ d m1, Ph' d m1 → Ph d m1) (h : WT W Ps t r m Ph') : WT W Ps t r m Ph := fun s H Q R X K => h s H Q R X fun v H1 d m1 q f1 r1 s1 => K v H1 d m1 (hp d m1 q) f1 r1 s1
end
end Dz
/-! Dz, part E: except clauses with and without a name, assignments of three names; raise and try over plain data. -/
namespace L2
open PySem PySem.Spec PyProof.Rows
/-- the ends behind a clause: a named one unbinds its name -/
def cutE (oi : Option Nat) (D : Ends) : Ends := match oi with
  | none => D
  | some i => { nx := fun s' H' => D.nx (s'.set i none) H', rt := D.rt, bk := fun s' H' => D.bk (s'.set i none) H', ct := fun s' H' => D.ct (s'.set i none) H' }
def bindE (oi : Option Nat) (s : St) (a : Addr) : St := match oi with
  | none => s
  | some i => s.set i (some (.ref a))
abbrev HCl := Value × Option Nat × (Addr → Value → Option Addr → TS)
def wMul (K : PySem.W.Frag) (Wout : WX) (D : Ends) : List HCl → WX
  | [] => Wout
  | h :: l => fun cls d s H => ∃ b, PySem.W.exmOne K cls h.1 = some b ∧ (b = true → ∀ a, H a = none → h.2.2 a cls d (cutE h.2.1 D) (bindE h.2.1 s a) H) ∧ (b = false → wMul K Wout D l cls d s H)
inductive HcOk (X : Cx) : List ExceptHandler → List HCl → Prop
  | nil : HcOk X [] []
  | bare {x : Str} {c : Value} {ts : Addr → Value → Option Addr → TS} {b₀ : Stmt} {suite : List Stmt} {np pos' : Pos} {hds : List ExceptHandler} {l : List HCl} (hc : Names X x c)
      (hsu : ∀ (a : Addr) (oe : Obj) (cls : Value) (d : Option Addr) (pn : List (Addr × Obj)), Zc cls d oe → (∃ vs, oe.data = .fields vs) → PSs (X.suite a ((a, oe) :: pn)) (b₀ :: suite) (ts a cls d)) (r : HcOk X hds l) :
      HcOk X (.ExceptHandler (some (.Name x np)) none (b₀ :: suite) pos' :: hds) ((c, none, ts) :: l)
  | named {x n : Str} {c : Value} {i : Nat} {ts : Addr → Value → Option Addr → TS} {b₀ : Stmt} {suite : List Stmt} {np pos' : Pos} {hds : List ExceptHandler} {l : List HCl} (hi : X.N[i]? = some n) (hln : X.env.kindOf n = some .local) (hc : Names X x c)
      (hsu : ∀ (a : Addr) (oe : Obj) (cls : Value) (d : Option Addr) (pn : List (Addr × Obj)), Zc cls d oe → (∃ vs, oe.data = .fields vs) → PSs (X.suite a ((a, oe) :: pn)) (b₀ :: suite) (ts a cls d)) (r : HcOk X hds l) :
      HcOk X (.ExceptHandler (some (.Name x np)) (some n) (b₀ :: suite) pos' :: hds) ((c, some i, ts) :: l)
/-- try: .. except .. [as ..]: ..: several clauses -/
def tTry (K : PySem.W.Frag) (Wout : WX) (tb : WX → TS) (l : List HCl) : TS := fun D s H => tb (wMul K Wout D l) D s H
/-- an end told under one context is an end under another that holds the same -/
theorem end_on {X Y : Cx} {p q : List (Addr × Obj)} {D : Ends} {f : Flow} {t : Shared} (m : ∀ {c m}, Inv X p c m t → Inv Y q c m t) (z : SP X p D f t) : SP Y q D f t := by
  cases f
  case ret => obtain ⟨v, c, m1, J, r⟩ := z; exact ⟨v, c, m1, m J, r⟩
  all_goals (obtain ⟨c, m1, J, r⟩ := z; exact ⟨c, m1, m J, r⟩)
/-- exception a has come down: t is where its clauses run, t₀ the state without it -/
structure Down (X : Cx) (pn : List (Addr × Obj)) (c : St) (m : Hp) (a : Addr) (B : Heap) (cls : Value) (d : Option Addr) (t₀ t : Shared) : Prop where
  was : Inv X pn c m t₀
  ground : ∀ b o, t₀.heap.get? b = some o → b ∉ frs X.stack → B.get? b = some o
  slots : t₀.heap.UpToSlots t.heap
  flies : HandSPX.FlyingZ B (X.env :: X.outer) a (Zc cls d) t.heap
  free : m a = none
  world : t.os = t₀.os
  bare : AllBare t.gens
section
variable {X : Cx} {pn : List (Addr × Obj)} {c : St} {m : Hp} {a : Addr} {B : Heap} {cls : Value} {d : Option Addr} {t₀ t : Shared} {D : Ends} {Wout : WX}
theorem Down.inv (z : Down X pn c m a B cls d t₀ t) : Inv X pn c m t := z.was.landed z.ground z.flies.1 z.slots z.world z.bare
theorem Down.on (z : Down X pn c m a B cls d t₀ t) {h : Heap} (f : HandSPX.FlyingZ B (X.env :: X.outer) a (Zc cls d) h) (u : t.heap.UpToSlots h) : Down X pn c m a B cls d t₀ { t with heap := h } :=
  ⟨z.was, z.ground, z.slots.trans u, f, z.free, z.world, z.bare⟩
/-- no frame of the stack lies where it lies -/
theorem Down.apart (z : Down X pn c m a B cls d t₀ t) {e : Env} (he : e ∈ X.env :: X.outer) {L : Addr} (hL : e.frame = some L) : a ≠ L := by
  rintro rfl
  obtain ⟨oe, vs, g, _, dt⟩ := z.flies.there
  obtain ⟨_, o, g', n⟩ := z.flies.2.2.1.mem (List.mem_filterMap.mpr ⟨e, he, hL⟩)
  exact n vs (Option.some.inj (g'.symm.trans g) ▸ dt)
/-- the context of a suite of its -/
theorem Down.seat (z : Down X pn c m a B cls d t₀ t) (hf : X.env.frame = some X.env.locals) :
    ∃ oe, Inv (X.suite a ((a, oe) :: (X.pn ++ pn))) [] c m t ∧ Zc cls d oe ∧ ∃ vs, oe.data = .fields vs := by
  obtain ⟨oe, vs, g, zc, dt⟩ := z.flies.there
  refine ⟨oe, z.inv.suite g dt z.free (z.apart List.mem_cons_self hf) (fun q => ?_), zc, vs, dt⟩
  obtain ⟨e, he, hL⟩ := List.mem_filterMap.mp q
  exact z.apart (List.mem_cons_of_mem _ he) hL rfl
/-- a clause's test: is it of the class that the name holds -/
theorem Down.test (z : Down X pn c m a B cls d t₀ t) (hf : X.env.frame = some X.env.locals) {x : Str} {k : Value} {np : Pos} {Q E : Value → Shared → Prop} (hk : Names X x k) (q : Q k t) :
    wpAny (model X.prog X.w) (X.A.mark (some (.ref a))) (eval (.Name x np) X.env) Q E t := by
  obtain ⟨oe, S, _⟩ := z.seat hf
  obtain ⟨g, ndb, r⟩ := hk
  rcases r with l | ⟨l, bv, nn⟩
  · exact ld_glob (X := X.suite a ((a, oe) :: (X.pn ++ pn))) S g l q ndb
  · exact ld_blt (X := X.suite a ((a, oe) :: (X.pn ++ pn))) S g l bv q nn ndb
theorem Down.looks (z : Down X pn c m a B cls d t₀ t) : PySem.W.Looks (model X.prog X.w) t.heap (typeOf (.ref a)) cls := by
  obtain ⟨oe, vs, g, zc, _⟩ := z.flies.there
  exact fun _ _ _ _ k q => wpAny_typeOf_ref (k _ _ g) (zc.1.symm ▸ q)
/-- behind a clause's suite -/
theorem Down.close (z : Down X pn c m a B cls d t₀ t) (hN : X.N.Nodup) {i : Nat} {n : Str} (hi : X.N[i]? = some n) (hl : X.env.kindOf n = some .local) {pos : Pos} {oe : Obj} {t1 : Shared} {f : Flow}
    (r : SP (X.suite a ((a, oe) :: (X.pn ++ pn))) [] (cutE (some i) D) f t1) :
    wpAny (model X.prog X.w) X.A (do bindName X.env n .none; unbindBehindTheSuite X.env n pos) (fun _ t2 => SP X pn D f t2) X.xe t1 := by
  have ok := z.was.ok
  cases f
  case ret =>
    obtain ⟨v, c1, m1, J, rv, k⟩ := r
    exact gone_ok (J.unsuite ok) hN hi hl fun t2 J2 => ⟨v, _, _, J2, rv, k⟩
  all_goals
    obtain ⟨c1, m1, J, k⟩ := r
    exact gone_ok (J.unsuite ok) hN hi hl fun t2 J2 => ⟨_, _, J2, k⟩
/-- no clause took it: it goes on -/
theorem Down.pass (z : Down X pn c m a B cls d t₀ t) (hs : X.stack = X.env :: X.outer) (hf : X.env.frame = some X.env.locals) (tk : Takes X Wout) (k : Wout cls d c m) :
    wpAny (model X.prog X.w) X.A (handleBy (.ref a) X.env []) (SP X pn D) X.xe t := by
  have out : wpAny (model X.prog X.w) X.A (setFlight (.ref a) X.env.frame) (fun _ t1 => wpAny (model X.prog X.w) X.A (throw (.ref a) : Sem Flow) (SP X pn D) X.xe t1) X.xe t := by
    rw [hf]
    exact HandSPX.setFlight_upZ z.flies fun h1 up1 sl1 => wpAny_throw (tk _ _
      ⟨a, B, t₀, pn, c, m, cls, d, rfl, z.was, z.ground, z.slots.trans sl1, .inr (.inr (by rw [hs]; exact up1)), z.free, z.world, z.bare, k⟩)
  obtain ⟨_, _, _, oe, vs, T, oT, ts, g, _, dt, tb, _⟩ := z.flies
  refine wpAny_handleBy_nil ?_
  unfold PySem.passOn
  refine wpAny_bind (wpAny_field g dt tb ?_)
  have live : ¬ ((Value.ref T == Value.none) = true) := by simp
  rw [if_neg live]
  first | exact wpAny_bind out | exact wpAny_bind (wpAny_pure (wpAny_bind out))
theorem Down.clauses {hds : List ExceptHandler} {l : List HCl} (hh : HcOk X hds l) (z : Down X pn c m a B cls d t₀ t) (hs : X.stack = X.env :: X.outer) (hf : X.env.frame = some X.env.locals) (hN : X.N.Nodup) (tk : Takes X Wout) :
    wMul X.K Wout D l cls d c m → wpAny (model X.prog X.w) X.A (handleBy (.ref a) X.env hds) (SP X pn D) X.xe t := by
  have ok := z.was.ok
  induction hh with
  | nil => exact z.pass hs hf tk
  | bare nm su rest more =>
    rintro ⟨b, one, yes, no⟩
    refine wpAny_handleBy_cons (codeAny_handlers_test (z.test hf nm ((PySem.W.exm_one (M := model X.prog X.w) z.inv.kIn z.looks one).here ?_))) (fun q => by cases q)
    cases b
    · exact more (no rfl)
    · refine codeAny_handlers_suite (HandSPX.lands_againZ z.flies fun h1 f1 u1 => ?_)
      obtain ⟨oe, S, zc, dt⟩ := (z.on f1 u1).seat hf
      exact wpAny_mono ((su a oe cls d (X.pn ++ pn) zc dt).run [] _ c m D S (yes rfl a z.free)) (fun f t1 r => end_on (fun J => J.unsuite ok) r) (fun _ _ n => n.elim)
  | @named _ n _ i _ _ _ _ _ _ _ hi hl nm su rest more =>
    rintro ⟨b, one, yes, no⟩
    refine wpAny_handleBy_cons (codeAny_handlers_test (z.test hf nm ((PySem.W.exm_one (M := model X.prog X.w) z.inv.kIn z.looks one).here ?_))) (fun q => by cases q)
    cases b
    · exact more (no rfl)
    · refine codeAny_handlers_suite_as (HandSPX.lands_againZ z.flies fun h1 f1 u1 => ?_)
      obtain ⟨oe, S, zc, dt⟩ := (z.on f1 u1).seat hf
      exact store_ok (X := X.suite a ((a, oe) :: (X.pn ++ pn))) (v := .ref a) S hN hi (.inl hl) rfl (fun t1 S1 =>
        wpAny_mono ((su a oe cls d (X.pn ++ pn) zc dt).run [] t1 _ m _ S1 (yes rfl a z.free)) (fun f t2 r => (z.on f1 u1).close hN hi hl r) (fun _ _ n => n.elim)) (.inr hl)
end
section
variable {X : Cx} {body : List Stmt} {h₀ : ExceptHandler} {hds : List ExceptHandler} {l : List HCl} {pos : Pos} {tb : WX → TS} {Wout : WX}
/-- a try with several clauses, named or not -/
theorem ps_try_mul (hs : X.stack = X.env :: X.outer) (hf : X.env.frame = some X.env.locals) (hN : X.N.Nodup) (tk : Takes X Wout)
    (hb : ∀ (W : WX) (pn : List (Addr × Obj)) (xe : Value → Shared → Prop), Takes (X.tr pn xe) W → PassesOwn (model X.prog X.w) X.A X.env xe → PSs (X.tr pn xe) body (tb W))
    (hh : HcOk X (h₀ :: hds) l) : PS X (.Try body (h₀ :: hds) [] [] pos) (tTry X.K Wout tb l) where
  run pn t c m D I h := by
    have ok := I.ok
    refine wpAny_Try_except (wpAny_mono ((hb (wMul X.K Wout D l) (X.pn ++ pn) (fun u t1 => wpAny (model X.prog X.w) X.A (noteFrame u X.env)
      (fun _ t2 => wpAny (model X.prog X.w) X.A (setFlight u none) (fun _ t3 => wpAny (model X.prog X.w) X.A (handleBy u X.env (h₀ :: hds)) (SP X pn D) X.xe t3) X.xe t2) X.xe t1)
      ?caught PassesOwn.looking).run [] t c m D (I.toTry _) h) ?through (fun _ _ q => q))
    case through =>
      intro f t1 r
      cases f
      case next => exact wpAny_execs_nil (end_on (f := .next) (fun J => J.ofTry ok) r)
      all_goals exact end_on (fun J => J.ofTry ok) r
    case caught =>
      rintro u t1 ⟨a, B, t₀, pn', c', m', cls, d, rfl, J, gr, up, sky, free, wo, ba, k⟩
      rw [show (X.tr (X.pn ++ pn) _).stack = X.env :: X.outer from hs] at sky
      refine Sky.land Zc.steady (by rw [ok.frames, hs]) hf sky fun h1 f1 u1 => ?_
      exact Down.clauses hh ⟨J.ofTry ok, gr, up.trans u1, f1, free, wo, ba⟩ hs hf hN tk k
end
section
variable {X : Cx}
/-- a, b, c = x, y, z with plain local names -/
def tTriple (i j k : Nat) (ta : TA) : TS := fun D s H => ta s H fun vs H1 => ∃ u v w, vs = [u, v, w] ∧ D.nx (((s.set k (some w)).set j (some v)).set i (some u)) H1
theorem ps_triple {i j l : Nat} {x y z : Str} {a b c : Expr} {ta : TA} {px py pz pt pos : Pos} {kt k2 pt2} (hc : X.calm = true) (hN : X.N.Nodup)
    (hi : X.N[i]? = some x) (hj : X.N[j]? = some y) (hl : X.N[l]? = some z) (lx : X.env.scope.names.lookup x = some .local) (ly : X.env.scope.names.lookup y = some .local)
    (lz : X.env.scope.names.lookup z = some .local) (ha : PA X [a, b, c] ta)
    (sw : swappedStores [.Tuple [.Name x px, .Name y py, .Name z pz] kt pt] (.Tuple [a, b, c] k2 pt2) X.env = pure (some [x, y, z])) (so : swapsWithSole [.Tuple [.Name x px, .Name y py, .Name z pz] kt pt] (.Tuple [a, b, c] k2 pt2) pos.line X.env = pure false := by rfl)
    (ij : i ≠ j := by decide) (il : i ≠ l := by decide) (jl : j ≠ l := by decide) : PS X (.Assign [.Tuple [.Name x px, .Name y py, .Name z pz] kt pt] (.Tuple [a, b, c] k2 pt2) pos) (tTriple i j l ta) := by
  have e : tTriple i j l ta = tPar3 i j l ta := by
    funext D s H
    have q : ∀ u v w : V, ((s.set l (some w)).set j (some v)).set i (some u) = ((s.set i (some u)).set j (some v)).set l (some w) := fun u v w => by
      rw [List.set_comm _ _ jl.symm, List.set_comm _ _ il.symm, List.set_comm _ _ ij.symm]
    simp only [tTriple, tPar3, q]
  exact e ▸ ps_par3 hc hN hi hj hl ij il jl lx ly lz ha sw so
end
end L2

namespace Dz
open PySem PySem.Spec PyProof.Rows L2
section
variable {W : WX} {Ps : PsiT} {r : Rho} {m : Sto} {E : EndsD} {ta : TA}
theorem ws_par {i j : Nat} (h : WA W Ps ta r m fun xs m1 => ∃ x y, xs = [x, y] ∧ E.nx ((r.set i (some x)).set j (some y)) m1) : WS W Ps (tPar i j ta) E r m := fun s H D R X K =>
  h s H _ R X fun v H1 x m1 h1 f1 r1 s1 => by
    obtain ⟨x, y, e, k⟩ := h1
    subst e
    obtain ⟨v, w, rfl, q1, q2⟩ := reps_two r1
    exact ⟨v, w, rfl, K.nx _ H1 _ m1 k f1 ⟨((f1.rel R s1).sl.set i q1).set j q2, s1⟩⟩
theorem ws_triple {i j l : Nat} (h : WA W Ps ta r m fun xs m1 => ∃ x y z, xs = [x, y, z] ∧ E.nx (((r.set l (some z)).set j (some y)).set i (some x)) m1) : WS W Ps (tTriple i j l ta) E r m := fun s H D R X K =>
  h s H _ R X fun v H1 x m1 h1 f1 r1 s1 => by
    obtain ⟨x, y, z, e, k⟩ := h1
    subst e
    cases r1 with
    | cons q1 r2 =>
      obtain ⟨v, w, rfl, q2, q3⟩ := reps_two r2
      exact ⟨_, v, w, rfl, K.nx _ H1 _ m1 k f1 ⟨(((f1.rel R s1).sl.set l q3).set j q2).set i q1, s1⟩⟩
/-- raise C(e) -/
theorem ws_raise {C : Addr} {f : Str} (h : WA W Ps ta r m fun xs m1 => ∃ x, xs = [x] ∧ Ps (.ref C) [(f, x)] r m1) : WS W Ps (fun _ s H => tMkBad C f ta s H fun cls d H' => W cls d s H') E r m := fun s H D R X K =>
  h s H _ R X fun vs H1 xs m1 h1 f1 r1 s1 => by
    obtain ⟨x, e, k⟩ := h1
    subst e
    obtain ⟨v, rfl, q⟩ := reps_one r1
    refine ⟨v, rfl, fun d hd => ?_⟩
    have fn : Fr m1 m1 H1 (upd H1 d (.xd [(f, v)])) := Fr.new hd
    exact X _ _ [(f, x)] s _ r m1 k (f1.trans fn) ⟨d, [(f, v)], rfl, s1.fresh hd, upd_same, .cons (fn.rep q) .nil⟩ ((f1.trans fn).rel R (s1.new hd))
def cutR (oi : Option Nat) (E : EndsD) : EndsD := match oi with
  | none => E
  | some i => { nx := fun r m => E.nx (r.set i none) m, rt := E.rt, bk := fun r m => E.bk (r.set i none) m, ct := fun r m => E.ct (r.set i none) m }
def bindR (oi : Option Nat) (r : Rho) (a dd : Addr) (fs : List (Str × D)) : Rho := match oi with
  | none => r
  | some i => r.set i (some (.exc a dd fs))
def W0 : WX := fun _ _ _ _ => False
def P0 : PsiT := fun _ _ _ _ => False
/-- what the clauses wish of an exception -/
def HM (K : PySem.W.Frag) (Ps : PsiT) (E : EndsD) : List HCl → PsiT
  | [] => Ps
  | h :: l => fun cls fs r m => ∃ b, PySem.W.exmOne K cls h.1 = some b ∧ (b = true → ∀ a dd, WS W0 P0 (h.2.2 a cls (some dd)) (cutR h.2.1 E) (bindR h.2.1 r a dd fs) m) ∧ (b = false → HM K Ps E l cls fs r m)
theorem ks_cut {m : Sto} {H : Hp} {D : Ends} (K : KS E m H D) : ∀ oi, KS (cutR oi E) m H (cutE oi D)
  | none => K
  | some i => ⟨fun s' H' r' m' p f R => K.nx _ H' _ m' p f ⟨R.sl.drop i, R.st⟩, K.rt, fun s' H' r' m' p f R => K.bk _ H' _ m' p f ⟨R.sl.drop i, R.st⟩, fun s' H' r' m' p f R => K.ct _ H' _ m' p f ⟨R.sl.drop i, R.st⟩⟩
theorem hm_ok {K : PySem.W.Frag} {D : Ends} : ∀ {l : List HCl} {m : Sto} {H : Hp}, XT W m H Ps → KS E m H D → XT (wMul K W D l) m H (HM K Ps E l)
  | [], m, H, X, _ => X
  | h :: l, m, H, X, KK => fun cls d fs s' H' r' m' p f q R => by
    obtain ⟨b, e, h1, h2⟩ := p
    refine ⟨b, e, fun eb a ha => ?_, fun eb => hm_ok X KK cls d fs s' H' r' m' (h2 eb) f q R⟩
    obtain ⟨dd, xs, ed, hn, hx, px⟩ := q
    subst ed
    refine h1 eb a dd _ H' _ ?_ (fun _ _ _ _ _ _ _ p => p.elim) (ks_cut (KK.go f) _)
    cases h.2.1 with
    | none => exact R
    | some i => exact ⟨R.sl.set i (.exc hx hn px), R.st⟩
theorem ws_try {K : PySem.W.Frag} {tb : WX → TS} {l : List HCl} (h : ∀ W', WS W' (HM K Ps E l) (tb W') E r m) : WS W Ps (tTry K W tb l) E r m := fun s H D R X KK =>
  h _ s H D R (hm_ok X KK) KK
/-- e.f of a caught exception -/
theorem wt_xf {a dd C : Addr} {f : Str} {te : TE} {d : D} {fs : List (Str × D)} {Ph : PhiT} (h : WT W Ps te r m fun x m1 => x = .exc a dd fs ∧ fs.lookup f = some d ∧ Ph d m1) : WT W Ps (tXf a (.ref C) (some dd) C f te) r m Ph := fun s H Q R X K =>
  h s H _ R X fun v H1 x m1 h1 f1 r1 s1 => by
    obtain ⟨e, el, k⟩ := h1
    subst e
    cases r1 with
    | @exc _ _ xs _ hx hn px =>
      have lk : ∀ {xs : List (Str × V)} {fs : List (Str × D)}, RepXs (dom m1) H1 xs fs → fs.lookup f = some d → ∃ v, xs.lookup f = some v ∧ Rep (dom m1) H1 v d := by
        intro xs fs p
        induction fs generalizing xs with
        | nil => intro z; cases z
        | cons y ys ih =>
          cases p with
          | @cons k v d2 vs ds q t =>
            intro z
            rw [List.lookup_cons] at z ⊢
            cases c : f == k with
            | true => rw [c] at z; cases z; exact ⟨v, rfl, q⟩
            | false => rw [c] at z; exact ih t z
      obtain ⟨v, ev, rv⟩ := lk px el
      exact ⟨rfl, rfl, dd, xs, v, rfl, hx, ev, K v H1 d m1 k f1 rv s1⟩
end
end Dz
/-! Dz, part F: dicts of the store, the law's state of draws taken apart, defs. -/
namespace Dz
open PySem PySem.Spec PyProof.Rows L2

/-! ### dicts -/
def kD : Key → D
  | .inl i => .int i
  | .inr x => .str x
def valD (kvs : List (Key × D)) (k : Key) : Option D := (kvs.find? fun kv => decide (kv.1 = k)).map (·.2)
def putD (kvs : List (Key × D)) (k : Key) (v : D) : List (Key × D) :=
  if (kvs.any fun kv => decide (kv.1 = k)) = true then kvs.map (fun kv => if kv.1 = k then (kv.1, v) else kv) else kvs ++ [(k, v)]
def mergeD (kvs more : List (Key × D)) : List (Key × D) := more.foldl (fun acc kv => putD acc kv.1 kv.2) kvs
section
variable {M : List Addr} {H : Hp}
theorem RepKs.len : ∀ {vs : List (Key × V)} {ds : List (Key × D)}, RepKs M H vs ds → vs.length = ds.length
  | _, _, .nil => rfl
  | _, _, .cons _ t => congrArg Nat.succ t.len
theorem RepKs.val {k : Key} : ∀ {vs : List (Key × V)} {ds : List (Key × D)} {d : D}, RepKs M H vs ds → valD ds k = some d → ∃ v, valV vs k = some v ∧ Rep M H v d
  | _, _, d, .nil, h => by cases h
  | (j, v) :: vs, (_, e) :: ds, d, .cons a t, h => by
    by_cases c : j = k
    · subst c
      simp [valD, List.find?_cons] at h
      subst h
      exact ⟨v, by simp [valV, List.find?_cons], a⟩
    · have h' : valD ds k = some d := by simpa [valD, List.find?_cons, c] using h
      obtain ⟨w, e1, e2⟩ := RepKs.val t h'
      exact ⟨w, by simpa [valV, List.find?_cons, c] using e1, e2⟩
theorem RepKs.none {k : Key} : ∀ {vs : List (Key × V)} {ds : List (Key × D)}, RepKs M H vs ds → valD ds k = none → valV vs k = none
  | _, _, .nil, h => rfl
  | (j, v) :: vs, (_, e) :: ds, .cons a t, h => by
    by_cases c : j = k
    · subst c
      simp [valD, List.find?_cons] at h
    · have h' : valD ds k = Option.none := by simpa [valD, List.find?_cons, c] using h
      simpa [valV, List.find?_cons, c] using RepKs.none t h'
theorem RepKs.any {k : Key} : ∀ {vs : List (Key × V)} {ds : List (Key × D)}, RepKs M H vs ds → (vs.any fun kv => decide (kv.1 = k)) = (ds.any fun kv => decide (kv.1 = k))
  | _, _, .nil => rfl
  | (j, v) :: vs, (_, e) :: ds, .cons a t => by
    rw [List.any_cons, List.any_cons, RepKs.any t]
theorem RepKs.map {k : Key} {v : V} {d : D} (q : Rep M H v d) : ∀ {vs : List (Key × V)} {ds : List (Key × D)}, RepKs M H vs ds → RepKs M H (vs.map fun kv => if kv.1 = k then (kv.1, v) else kv) (ds.map fun kv => if kv.1 = k then (kv.1, d) else kv)
  | _, _, .nil => .nil
  | (j, w) :: vs, (_, e) :: ds, .cons a t => by
    rw [List.map_cons, List.map_cons]
    by_cases c : j = k
    · rw [if_pos c, if_pos c]; exact .cons q (RepKs.map q t)
    · rw [if_neg c, if_neg c]; exact .cons a (RepKs.map q t)
theorem RepKs.app : ∀ {vs vs' : List (Key × V)} {ds ds' : List (Key × D)}, RepKs M H vs ds → RepKs M H vs' ds' → RepKs M H (vs ++ vs') (ds ++ ds')
  | _, _, _, _, .nil, s => s
  | _, _, _, _, .cons a t, s => .cons a (RepKs.app t s)
theorem RepKs.put {k : Key} {v : V} {d : D} (q : Rep M H v d) {vs : List (Key × V)} {ds : List (Key × D)} (r : RepKs M H vs ds) : RepKs M H (putK vs k v) (putD ds k d) := by
  unfold putK putD
  rw [r.any]
  split
  · exact r.map q
  · exact r.app (.cons q .nil)
theorem RepKs.merge : ∀ {more : List (Key × V)} {moreD : List (Key × D)} {vs : List (Key × V)} {ds : List (Key × D)}, RepKs M H more moreD → RepKs M H vs ds → RepKs M H (mergeK vs more) (mergeD ds moreD)
  | _, _, _, _, .nil, s => s
  | _, _, _, _, .cons (vs := vs') (ds := ds') a t, s => RepKs.merge (more := vs') (moreD := ds') t (s.put a)
theorem rep_key {k : Key} {v : V} (r : Rep M H v (kD k)) : v = kV k := by
  cases k <;> cases r <;> rfl
end
def IsDc (m : Sto) (d : D) (kvs : List (Key × D)) : Prop := d = .dct kvs ∨ ∃ (k : Nat) (a : Addr), d = .ref a ∧ m[k]? = some (a, MO.dct kvs)
theorem dct_at {m : Sto} {H : Hp} {a : Addr} {k : Nat} {ds : List (Key × D)} (st : StoR m H) (e : m[k]? = some (a, .dct ds)) : ∃ xs, H a = some (.dK xs) ∧ RepKs (dom m) H xs ds := st.at_ _ (List.mem_of_getElem? e)
theorem isD_rd {m : Sto} {H : Hp} {v : V} {d : D} {ds : List (Key × D)} (h : IsDc m d ds) (r : Rep (dom m) H v d) (st : StoR m H) : ∃ a xs, v = .ref a ∧ H a = some (.dK xs) ∧ RepKs (dom m) H xs ds := by
  rcases h with h | ⟨k, a, h, e⟩ <;> subst h <;> cases r
  · exact ⟨_, _, rfl, by assumption, by assumption⟩
  · obtain ⟨xs, e, q⟩ := dct_at st e
    exact ⟨_, _, rfl, e, q⟩
theorem dct_upd {m : Sto} {H : Hp} {a : Addr} {k : Nat} {ds ds' : List (Key × D)} {xs' : List (Key × V)} (st : StoR m H) (e : m[k]? = some (a, .dct ds)) (r : RepKs (dom m) H xs' ds') :
    StoR (m.set k (a, .dct ds')) (upd H a (.dK xs')) ∧ Fr m (m.set k (a, .dct ds')) H (upd H a (.dK xs')) :=
  sto_upd (q := .dct ds') st e rfl (by simp [domO]) fun H' kp _ ea => ⟨xs', ea, r.mono kp fun _ _ _ n => n⟩
section
variable {W : WX} {Ps : PsiT} {r : Rho} {m : Sto} {E : EndsD} {Ph : PhiT} {td ty tv : TE}
theorem wt_dget (h : WT W Ps td r m fun x m1 => WT W Ps ty r m1 fun y m2 => ∃ kvs k d, IsDc m2 x kvs ∧ y = kD k ∧ valD kvs k = some d ∧ Ph d m2) : WT W Ps (tDGet td ty) r m Ph := fun s H Q R X K =>
  h s H _ R X fun v H1 x m1 h1 f1 r1 s1 => h1 s H1 _ (f1.rel R s1) (X.go f1) fun w H2 y m2 h2 f2 r2 s2 => by
    obtain ⟨kvs, k, d, hd, ey, ev, q⟩ := h2
    subst ey
    obtain ⟨a, xs, rfl, ea, rk⟩ := isD_rd hd (f2.rep r1) s2
    obtain rfl := rep_key r2
    obtain ⟨v, evv, rv⟩ := rk.val ev
    refine ⟨a, v, rfl, ?_, K v H2 d m2 q (f1.trans f2) rv s2⟩
    rw [← evv]
    exact .k ea
theorem ws_dput (h : WT W Ps tv r m fun v m1 => WT W Ps td r m1 fun x m2 => WT W Ps ty r m2 fun y m3 => ∃ j a kvs k, x = .ref a ∧ y = kD k ∧ m3[j]? = some (a, MO.dct kvs) ∧ kvs.length < sizeLine ∧ E.nx r (m3.set j (a, .dct (putD kvs k v)))) : WS W Ps (sDPut td ty tv) E r m := fun s H D R X K =>
  h s H _ R X fun v H1 dv m1 h1 f1 r1 s1 => h1 s H1 _ (f1.rel R s1) (X.go f1) fun vx H2 x m2 h2 f2 r2 s2 => h2 s H2 _ ((f1.trans f2).rel R s2) (X.go (f1.trans f2)) fun vy H3 y m3 h3 f3 r3 s3 => by
    obtain ⟨j, a, kvs, k, ex, ey, ej, hz, q⟩ := h3
    subst ex; subst ey
    obtain rfl := rep_key r3
    have r2' := f3.rep r2
    cases r2'
    obtain ⟨xs, ea, rk⟩ := dct_at s3 ej
    have r1' := (f2.trans f3).rep r1
    obtain ⟨s4, f4⟩ := dct_upd s3 ej (rk.put (k := k) r1')
    have ff := (f1.trans f2).trans f3
    exact ⟨a, _, rfl, .k ea (by rw [rk.len]; exact hz), K.nx s _ r _ q (ff.trans f4) ((ff.trans f4).rel R s4)⟩
def WPr (W : WX) (Ps : PsiT) (t : List (TE × TE)) (r : Rho) (m : Sto) (Ph : List (D × D) → Sto → Prop) : Prop := ∀ (s : L2.St) (H : Hp) (Q : List (V × V) → Hp → Prop), Rel m H s r → XT W m H Ps →
  (∀ vs H' ds m', Ph ds m' → Fr m m' H H' → Reps (dom m') H' (vs.map (·.1)) (ds.map (·.1)) → Reps (dom m') H' (vs.map (·.2)) (ds.map (·.2)) → StoR m' H' → Q vs H') → tPairs t s H Q
theorem wpr_nil {Ph : List (D × D) → Sto → Prop} (k : Ph [] m) : WPr W Ps [] r m Ph := fun s H Q R X q => q [] H [] m k (Fr.refl m H) .nil .nil R.st
theorem wpr_cons {trs : List (TE × TE)} {Ph : List (D × D) → Sto → Prop} (h : WT W Ps ty r m fun x m1 => WT W Ps tv r m1 fun y m2 => WPr W Ps trs r m2 fun ps m3 => Ph ((x, y) :: ps) m3) : WPr W Ps ((ty, tv) :: trs) r m Ph := fun s H Q R X q =>
  h s H _ R X fun v H1 x m1 h1 f1 r1 s1 => h1 s H1 _ (f1.rel R s1) (X.go f1) fun w H2 y m2 h2 f2 r2 s2 => h2 s H2 _ ((f1.trans f2).rel R s2) (X.go (f1.trans f2)) fun vs H3 ds m3 h3 f3 r3 r4 s3 =>
    q ((v, w) :: vs) H3 ((x, y) :: ds) m3 h3 ((f1.trans f2).trans f3) (.cons ((f2.trans f3).rep r1) r3) (.cons (f3.rep r2) r4) s3
theorem pairs_ks {M : List Addr} {H : Hp} : ∀ {kvs : List (Key × D)} {vs : List (V × V)}, Reps M H (vs.map (·.1)) (kvs.map fun kv => kD kv.1) → Reps M H (vs.map (·.2)) (kvs.map (·.2)) →
    ∃ ws : List (Key × V), vs = ws.map (fun kv => (kV kv.1, kv.2)) ∧ RepKs M H ws kvs
  | [], [], _, _ => ⟨[], rfl, .nil⟩
  | [], _ :: _, h, _ => by cases h
  | _ :: _, [], h, _ => by cases h
  | (k, d) :: kvs, (v, w) :: vs, .cons a t, .cons b u => by
    obtain ⟨ws, e, q⟩ := pairs_ks t u
    have := rep_key a
    exact ⟨(k, w) :: ws, by rw [List.map_cons, ← e]; simp at this; rw [this], .cons b q⟩
theorem dom_consd (a : Addr) (ds : List (Key × D)) (m : Sto) : dom ((a, .dct ds) :: m) = a :: dom m := rfl
theorem wt_disp {trs : List (TE × TE)} (h : ∀ p, p ∉ dom m → WPr W Ps trs r ((p, .dct []) :: m) fun ps m1 => ∃ j kvs, m1[j]? = some (p, MO.dct []) ∧ ps = kvs.map (fun kv => (kD kv.1, kv.2)) ∧ kvs.length ≤ 15 ∧ Ph (.ref p) (m1.set j (p, .dct (mergeD [] kvs)))) : WT W Ps (tDisp trs) r m Ph := fun s H Q R X K => fun p hp => by
  have f : Fr m ((p, .dct []) :: m) H (upd H p (.dK [])) := ⟨(Fr.new (m := m) hp).keep, fun a ha => by
    rw [dom_consd] at ha
    rcases List.mem_cons.mp ha with e | e
    · exact .inr (by rw [e]; exact hp)
    · exact .inl e⟩
  have up : ∀ a o, H a = some o → upd H p (.dK []) a = some o := fun a u e => by rw [upd_ne (ne_of_none e hp)]; exact e
  have st : StoR ((p, .dct []) :: m) (upd H p (.dK [])) := ⟨by rw [dom_consd]; exact List.nodup_cons.mpr ⟨R.st.fresh hp, R.st.nd⟩, fun q hq => by
    rcases List.mem_cons.mp hq with e | e
    · subst e
      exact ⟨[], upd_same, .nil⟩
    · exact MoR.keep f.keep f.notin (fun a o _ e => up a o e) (R.st.at_ q e)⟩
  refine h p (R.st.fresh hp) s _ _ (f.rel R st) (X.go f) fun vs H1 ds m1 h1 f1 r1 r2 s1 => ?_
  obtain ⟨j, kvs, ej, rfl, hz, q⟩ := h1
  rw [List.map_map] at r1 r2
  obtain ⟨ws, e, rk⟩ := pairs_ks r1 r2
  obtain ⟨xs, ea, rx⟩ := dct_at s1 ej
  cases rx
  obtain ⟨s2, f2⟩ := dct_upd s1 ej (rk.merge .nil)
  exact ⟨ea, ws, e, by rw [rk.len]; exact hz, K _ _ _ _ q ((f.trans f1).trans f2) (.ref p) s2⟩
end

/-! ### the law's state of draws -/
def genK (ac ag : Addr) (sp : Int) : List (Key × D) := [(Sum.inr "cells", .ref ac), (Sum.inr "great", .ref ag), (Sum.inr "spot", .int sp)]
section
variable {W : WX} {Ps : PsiT} {r : Rho} {m : Sto} {E : EndsD} {Ph : PhiT} {ts : TS} {te : TE}
theorem reps_of_ints {M : List Addr} {H : Hp} : ∀ ys : List Int, Reps M H (ys.map V.int) (ys.map D.int)
  | [] => .nil
  | y :: ys => .cons (.int y) (reps_of_ints ys)
/-- the state goes ahead in the store, in its parts -/
theorem ws_open {k : Nat} {a ac ag : Addr} {n : Nat} (e : m[k]? = some (a, .gen ac ag n))
    (h : ∀ (sp : Nat) (cs gs : List Int), sp ≤ n → cs.length = 64 → (∀ c ∈ cs, 0 ≤ c ∧ c < 2147483647) → gs.length ≤ 63 →
      WS W Ps ts E r ((a, .dct (genK ac ag sp)) :: (ac, .lst (cs.map D.int)) :: (ag, .lst (gs.map D.int)) :: m.eraseIdx k)) : WS W Ps ts E r m := fun s H De R X K => by
  obtain ⟨sp, cs, gs, e1, e2, e3, e4, e5, e6, e7⟩ : MoR (dom m) H a (.gen ac ag n) := R.st.at_ _ (List.mem_of_getElem? e)
  have hd : dom ((a, .dct (genK ac ag sp)) :: (ac, .lst (cs.map D.int)) :: (ag, .lst (gs.map D.int)) :: m.eraseIdx k) = [a, ac, ag] ++ dom (m.eraseIdx k) := rfl
  have sub : ∀ x, x ∈ [a, ac, ag] ++ dom (m.eraseIdx k) → x ∈ dom m := fun x hx => by
    rcases List.mem_append.mp hx with z | z
    · exact dom_sub e x z
    · exact dom_erase z
  have nd3 : [a, ac, ag].Nodup := by
    have : ∀ {m : Sto} {k : Nat} {p : Addr × MO}, (dom m).Nodup → m[k]? = some p → (domO p).Nodup := by
      intro m
      induction m with
      | nil => intro k p _ h; simp at h
      | cons y m ih =>
        intro k p nd h
        obtain ⟨n1, n2, n3⟩ := List.nodup_append.mp (show (domO y ++ dom m).Nodup from nd)
        cases k with
        | zero =>
          have : y = p := by simpa using h
          subst this
          exact n1
        | succ k => exact ih n2 (by simpa using h)
    exact this R.st.nd e
  have st : StoR ((a, .dct (genK ac ag sp)) :: (ac, .lst (cs.map D.int)) :: (ag, .lst (gs.map D.int)) :: m.eraseIdx k) H := by
    refine ⟨by rw [hd]; exact List.nodup_append.mpr ⟨nd3, dom_erase_nd R.st.nd, fun x hx y hy z => by subst z; exact dom_erase_not R.st.nd e hx hy⟩, fun p hp => ?_⟩
    rcases List.mem_cons.mp hp with z | hp
    · subst z
      exact ⟨_, e1, .cons (.ref _) (.cons (.ref _) (.cons (.int _) .nil))⟩
    rcases List.mem_cons.mp hp with z | hp
    · subst z
      exact ⟨_, e2, reps_of_ints _⟩
    rcases List.mem_cons.mp hp with z | hp
    · subst z
      exact ⟨_, e3, reps_of_ints _⟩
    · refine MoR.keep (fun _ _ h _ => h) (fun b _ _ n h => n (sub b (by rw [← hd]; exact h))) (fun _ _ _ h => h) (R.st.at_ p (List.mem_of_mem_eraseIdx hp))
  have f : Fr m ((a, .dct (genK ac ag sp)) :: (ac, .lst (cs.map D.int)) :: (ag, .lst (gs.map D.int)) :: m.eraseIdx k) H H := ⟨fun _ _ h _ => h, fun x hx => .inl (sub x (by rw [← hd]; exact hx))⟩
  exact h sp cs gs e4 e5 e6 e7 s H De (f.rel R st) (X.go f) (K.go f)
/-- its parts are the state again -/
theorem wk_close {k : Nat} {a ac ag : Addr} {n n' sp : Nat} {cs gs : List Int} (e : m[k]? = some (a, .gen ac ag n)) (h1 : sp ≤ n') (h2 : cs.length = 64) (h3 : ∀ c ∈ cs, 0 ≤ c ∧ c < 2147483647) (h4 : gs.length ≤ 63) :
    Wk ((a, .dct (genK ac ag sp)) :: (ac, .lst (cs.map D.int)) :: (ag, .lst (gs.map D.int)) :: m.eraseIdx k) (m.set k (a, .gen ac ag n')) := by
  have hd : dom ((a, .dct (genK ac ag sp)) :: (ac, .lst (cs.map D.int)) :: (ag, .lst (gs.map D.int)) :: m.eraseIdx k) = [a, ac, ag] ++ dom (m.eraseIdx k) := rfl
  have perm : ∀ {m : Sto} {k : Nat} {p : Addr × MO}, m[k]? = some p → (dom m).Perm (domO p ++ dom (m.eraseIdx k)) := by
    intro m
    induction m with
    | nil => intro k p h; simp at h
    | cons y m ih =>
      intro k p h
      cases k with
      | zero =>
        have : y = p := by simpa using h
        subst this
        exact List.Perm.refl _
      | succ k =>
        have q := ih (k := k) (p := p) (by simpa using h)
        show (domO y ++ dom m).Perm (domO p ++ (domO y ++ dom (m.eraseIdx k)))
        refine (List.Perm.append_left (domO y) q).trans ?_
        rw [← List.append_assoc, ← List.append_assoc]
        exact List.Perm.append_right _ List.perm_append_comm
  have pm : (dom m).Perm ([a, ac, ag] ++ dom (m.eraseIdx k)) := perm e
  have hs : dom (m.set k (a, .gen ac ag n')) = dom m := dom_set e rfl
  refine ⟨fun x hx => by rw [hd]; rw [hs] at hx; exact pm.mem_iff.mp hx, fun H st => ⟨by rw [hs]; exact pm.nodup_iff.mpr (by rw [← hd]; exact st.nd), fun p hp => ?_⟩⟩
  have k1 : ∀ (b : Addr) (o : HO), H b = some o → b ∉ dom ((a, MO.dct (genK ac ag sp)) :: (ac, .lst (cs.map D.int)) :: (ag, .lst (gs.map D.int)) :: m.eraseIdx k) → H b = some o := fun _ _ h _ => h
  obtain ⟨j, hj⟩ := List.mem_iff_getElem?.mp hp
  rw [hs]
  by_cases c : k = j
  · subst c
    have lt : k < m.length := (List.getElem?_eq_some_iff.mp e).1
    rw [List.getElem?_set_self lt] at hj
    cases hj
    obtain ⟨xs, ea, rx⟩ := dct_at (k := 0) st rfl
    obtain ⟨ys, ec, ry⟩ := lst_at (k := 1) st rfl
    obtain ⟨zs, eg, rz⟩ := lst_at (k := 2) st rfl
    obtain rfl := reps_ints ry
    obtain rfl := reps_ints rz
    cases rx with
    | cons a1 t1 => cases t1 with
      | cons a2 t2 => cases t2 with
        | cons a3 t3 =>
          cases t3
          cases a1; cases a2; cases a3
          exact ⟨sp, cs, gs, ea, ec, eg, h1, h2, h3, h4⟩
  · rw [List.getElem?_set_ne c] at hj
    have hm : p ∈ m.eraseIdx k := by
      have : ∀ {m : Sto} {k j : Nat}, m[j]? = some p → k ≠ j → p ∈ m.eraseIdx k := by
        intro m
        induction m with
        | nil => intro k j h; simp at h
        | cons y m ih =>
          intro k j h n
          cases k with
          | zero =>
            cases j with
            | zero => exact absurd rfl n
            | succ j => exact List.mem_of_getElem? (by simpa using h)
          | succ k =>
            cases j with
            | zero =>
              have : y = p := by simpa using h
              subst this
              exact List.mem_cons_self
            | succ j => exact List.mem_cons_of_mem _ (ih (by simpa using h) (fun e => n (by rw [e])))
      exact this hj c
    refine MoR.keep (fun _ _ h _ => h) (fun b _ _ n h => n ?_) (fun _ _ _ h => h) (st.at_ p (List.mem_cons_of_mem _ (List.mem_cons_of_mem _ (List.mem_cons_of_mem _ hm))))
    rw [hd]
    exact pm.mem_iff.mp h
theorem dom_perm {m m' : Sto} (h : m.Perm m') : (dom m).Perm (dom m') := by
  induction h with
  | nil => exact List.Perm.refl _
  | cons x _ ih => exact List.Perm.append_left (domO x) ih
  | swap x y l =>
    show (domO y ++ (domO x ++ dom l)).Perm (domO x ++ (domO y ++ dom l))
    rw [← List.append_assoc, ← List.append_assoc]
    exact List.Perm.append_right _ List.perm_append_comm
  | trans _ _ i1 i2 => exact i1.trans i2
theorem wk_perm {m m' : Sto} (h : m.Perm m') : Wk m m' := by
  have p := dom_perm h
  exact ⟨fun x hx => p.mem_iff.mpr hx, fun H st => ⟨p.nodup_iff.mp st.nd, fun q hq => MoR.keep (fun _ _ h _ => h) (fun _ _ _ n hx => n (p.mem_iff.mpr hx)) (fun _ _ _ h => h) (st.at_ q (h.mem_iff.mpr hq))⟩⟩
theorem Wk.trans {m1 m2 m3 : Sto} (a : Wk m1 m2) (b : Wk m2 m3) : Wk m1 m3 := ⟨fun x hx => a.1 x (b.1 x hx), fun H st => b.2 H (a.2 H st)⟩
/-- a new state of draws -/
theorem wk_new {a ac ag : Addr} {cs gs : List Int} (h2 : cs.length = 64) (h3 : ∀ c ∈ cs, 0 ≤ c ∧ c < 2147483647) (h4 : gs.length ≤ 63) : Wk [(ag, .lst (gs.map D.int)), (ac, .lst (cs.map D.int)), (a, .dct (genK ac ag 0))] [(a, .gen ac ag 0)] :=
  (wk_perm (m' := [(a, .dct (genK ac ag ((0 : Nat) : Int))), (ac, .lst (cs.map D.int)), (ag, .lst (gs.map D.int))]) (List.reverse_perm _).symm).trans (wk_close (m := [(a, .gen ac ag 0)]) (k := 0) (n := 0) (n' := 0) (sp := 0) rfl (Nat.le_refl 0) h2 h3 h4)
/-- ends that read the store more weakly -/
def EndsD.wk (E : EndsD) : EndsD := { nx := fun r m => ∃ m2, Wk m m2 ∧ E.nx r m2, rt := fun d m => ∃ m2, Wk m m2 ∧ E.rt d m2, bk := fun r m => ∃ m2, Wk m m2 ∧ E.bk r m2, ct := fun r m => ∃ m2, Wk m m2 ∧ E.ct r m2 }
theorem ws_post (h : WS W Ps ts E.wk r m) : WS W Ps ts E r m := fun s H De R X K => by
  have go : ∀ {P : Rho → Sto → Prop} {Q : L2.St → Hp → Prop}, KN P m H Q → KN (fun r m => ∃ m2, Wk m m2 ∧ P r m2) m H Q := fun k s' H' r' m' ⟨m2, w, p⟩ f R' => k s' H' r' m2 p (f.trans w.fr) (w.fr.rel R' (w.2 H' R'.st))
  exact h s H De R X ⟨go K.nx, fun v H' d m' ⟨m2, w, p⟩ f q st => K.rt v H' d m2 p (f.trans w.fr) (w.fr.rep q) (w.2 H' st), go K.bk, go K.ct⟩
/-- a changes nothing -/
theorem ws_skip {tu : TS} (h : WS W Ps ts { E with nx := fun r1 m1 => r1 = r ∧ m1 = m } r m) (h2 : WS W Ps tu E r m) : WS W Ps (tSeq ts tu) E r m :=
  ws_seq fun s H De R X K => h s H De R X ⟨fun s' H' r' m' ⟨e1, e2⟩ f R' => K.nx s' H' r' m' (by rw [e1, e2]; exact h2) f R', K.rt, K.bk, K.ct⟩
/-- a then b, Q between -/
theorem ws_seqQ {tu : TS} (Q : Rho → Sto → Prop) (h : WS W Ps ts { E with nx := Q } r m) (h2 : ∀ r1 m1, Q r1 m1 → WS W Ps tu E r1 m1) : WS W Ps (tSeq ts tu) E r m :=
  ws_seq fun s H De R X K => h s H De R X ⟨fun s' H' r' m' p f R' => K.nx s' H' r' m' (h2 r' m' p) f R', K.rt, K.bk, K.ct⟩
end

/-! ### defs -/
def startR (N : List Str) (ds : List D) : Rho := ds.map some ++ List.replicate (N.length - ds.length) none
theorem startR_ok {M : List Addr} {H : Hp} {N : List Str} {vs : List V} {ds : List D} (r : Reps M H vs ds) : SlR M H (L2.start N vs) (startR N ds) := by
  have hl := r.len
  unfold L2.start startR
  refine ⟨by simp [hl], fun i d h => ?_⟩
  rcases Nat.lt_or_ge i ds.length with c | c
  · rw [List.getElem?_append_left (by simpa using c), List.getElem?_map] at h
    cases e : ds[i]? with
    | none => rw [e] at h; cases h
    | some x =>
      rw [e] at h; cases h
      obtain ⟨v, ev, rv⟩ := r.nth e
      exact ⟨v, by rw [List.getElem?_append_left (by simpa [hl] using c), List.getElem?_map, ev]; rfl, rv⟩
  · rw [List.getElem?_append_right (by simpa using c), List.getElem?_replicate] at h
    split at h <;> cases h
theorem _root_.L2.Room.units1 {k : Nat} {A : Around} (r : Room k A) : A.units + 1 < cLine := by have := r.un; omega
theorem _root_.L2.Room.units5 {k : Nat} {A : Around} (r : Room k A) : A.units + 65 < cLine := by have := r.un; omega
/-- what a def's body does keeps its promise -/
abbrev Runs (sp : SpD) (N : List Str) (t : XK → TS) : Prop := ∀ (E : XK) (ds : List D) (m : Sto) (Ph : PhiT) (Pc : PsiC), sp ds m Ph Pc →
  WS (fun cls d _ H' => E cls d H') (fun cls fs _ m' => Pc cls fs m') (t E) { nx := fun _ m' => Ph .non m', rt := Ph } (startR N ds) m
section
variable {P : Program} {w : World} {K : PySem.W.Frag} {mg : Str → Option Value} {base : Heap} {x qual : Str} {params : Arguments} {body : List Stmt} {scope : Scope} {dvs : List V} {kws : List (Str × V)} {f : Addr} {fd : FuncData}
theorem okD {N ps : List Str} {k : Nat} {sp : SpD} {t : XK → TS} (F : FunD K x qual params body scope dvs kws f fd) (S : FnScope N ps scope) (len : ∀ ds m Ph Pc, sp ds m Ph Pc → ds.length = ps.length) (run : Runs sp N t)
    (h : ∀ (cdv : Value) (A : Around) (outer : List Env) (s : Shared) (H : Hp) (E : XK), Room k (A.deeper (envOfC qual scope s.heap.objs.size f cdv)) → PSs (cxOf (L2.CX P w) P w K mg base N qual scope f cdv A outer s H E) body (t E)) :
    FnOk P w K mg base (L2.CX P w) (k + 1) f fd ps (lift sp) := by
  refine F.ok S (fun vs H Q E ⟨ds, m, Ph, Pc, r, st, hs, _, _⟩ => by rw [r.len]; exact len ds m Ph Pc hs) fun cdv A outer s H vs Q E hr ⟨ds, m, Ph, Pc, r, st, hs, kt, xc⟩ => ⟨t E, h cdv A outer s H E hr, ?_⟩
  exact run E ds m Ph Pc hs (L2.start N vs) H _ ⟨startR_ok r, st⟩ (XT.of xc) ⟨fun s' H' r' m' p f' R => kt .non H' .non m' p f' .non R.st, kt, fun _ _ _ _ p => p.elim, fun _ _ _ _ p => p.elim⟩
/-- a def that stands behind the top, with its promise -/
structure GF (P : Program) (w : World) (K : PySem.W.Frag) (mg : Str → Option Value) (base : Heap) (x : Str) (ps : List Str) (k : Nat) (sp : SpD) (f : Addr) (fd : FuncData) : Prop where
  ok : FnOk P w K mg base (L2.CX P w) k f fd ps (lift sp)
  gm : mg x = some (.ref f)
  kp : PySem.W.keepIn K (.ref f) = true
end
/-- how a call binds: the defaults dvs fill up -/
structure Bd (K : PySem.W.Frag) (fd : FuncData) (ps : List Str) (dvs : List V) : Prop where
  ex : ∃ ds, Vals dvs ds ∧ Binds K fd ps ds
section
variable {X : Cx} {k : Nat} {f : Addr} {fd : FuncData} {ps : List Str} {sp : SpD} {W : WX} {x : Str} {p pos : Pos} {e : Expr} {es : List Expr} {t : TA} {dvs : List V}
theorem pe_D (F : GF X.prog X.w X.K X.mg X.base x ps k sp f fd) (hr : Room k X.A) (hb : Bd X.K fd ps dvs) (tk : Takes X W) (ha : PA X (e :: es) t) (hg : Gl X x := by rfl)
    (hdb : (x == ("__debug__" : Str)) = false := by decide) (he : starEach (e :: es) X.env = (false, eval e X.env) :: starEach es X.env := by rfl) (hpl : (backTo pos (starEach es X.env)).any (·.1) = false := by rfl) :
    PE X (.Call (.Name x p) (e :: es) [] pos) (tCallG (lift sp) dvs (WE W) t) := by
  obtain ⟨ds, v, b⟩ := hb.ex
  exact pe_callG F.ok hr hg F.gm F.kp b v (fun s => passAt tk s) ha hdb he hpl
theorem pe_D0 (F : GF X.prog X.w X.K X.mg X.base x ps k sp f fd) (hr : Room k X.A) (hb : Bd X.K fd ps dvs) (tk : Takes X W) (hg : Gl X x := by rfl) (hdb : (x == ("__debug__" : Str)) = false := by decide) :
    PE X (.Call (.Name x p) [] [] pos) (tCallG (lift sp) dvs (WE W) tNil) := by
  obtain ⟨ds, v, b⟩ := hb.ex
  exact pe_callG0 F.ok hr hg F.gm F.kp b v (fun s => passAt tk s) hdb
end
abbrev WF (E : XK) : WX := fun cls d _ H' => E cls d H'
/-- a value's truth as a test -/
def tTru (K : PySem.W.Frag) (ta : TE) : TT := fun s H Q => ta s H fun x H' => ∃ k, TruV K x H' k ∧ Q k H'
/-- a call with keywords: they come behind the positional ones, in order -/
abbrev BdK (K : PySem.W.Frag) (fd : FuncData) (ps ks : List Str) : Prop := KBinds K fd ps ks (fun us ws => us ++ ws) (fun vs zs => vs ++ zs)
section
variable {X : Cx} {k : Nat} {f : Addr} {fd : FuncData} {ps ks : List Str} {sp : SpD} {W : WX} {x : Str} {p pos : Pos} {e : Expr} {es : List Expr} {kws : List Keyword} {t tk' : TA}
theorem pe_Dk0 (F : GF X.prog X.w X.K X.mg X.base x ps k sp f fd) (hr : Room k X.A) (hb : BdK X.K fd ps ks) (tk : Takes X W) (hkw : PK X kws tk') (hg : Gl X x := by rfl) (hall : (backToKw pos (keywordEach kws X.env)).all (·.1.isSome) = true := by rfl) (hks : (backToKw pos (keywordEach kws X.env)).filterMap (·.1) = ks := by rfl)
    (hdb : (x == ("__debug__" : Str)) = false := by decide) (hpl : ((backTo pos (starEach [] X.env)).any (·.1) || (backToKw pos (keywordEach kws X.env)).any (·.1.isNone)) = false := by rfl) :
    PE X (.Call (.Name x p) [] kws pos) (tCallGK (lift sp) (fun vs zs => vs ++ zs) (WE W) tNil tk') := pe_callGK0 F.ok hr hg F.gm F.kp hb (fun s => passAt tk s) hkw hall hks hdb hpl
theorem pe_Dk (F : GF X.prog X.w X.K X.mg X.base x ps k sp f fd) (hr : Room k X.A) (hb : BdK X.K fd ps ks) (tk : Takes X W) (ha : PA X (e :: es) t) (hkw : PK X kws tk') (hg : Gl X x := by rfl) (hall : (backToKw pos (keywordEach kws X.env)).all (·.1.isSome) = true := by rfl) (hks : (backToKw pos (keywordEach kws X.env)).filterMap (·.1) = ks := by rfl)
    (hdb : (x == ("__debug__" : Str)) = false := by decide) (he : starEach (e :: es) X.env = (false, eval e X.env) :: starEach es X.env := by rfl)
    (hpl : ((backTo pos (starEach (e :: es) X.env)).any (·.1) || (backToKw pos (keywordEach kws X.env)).any (·.1.isNone)) = false := by rfl) :
    PE X (.Call (.Name x p) (e :: es) kws pos) (tCallGK (lift sp) (fun vs zs => vs ++ zs) (WE W) t tk') := pe_callGK F.ok hr hg F.gm F.kp hb (fun s => passAt tk s) ha hkw hall hks hdb he hpl
theorem wt_ck {W : WX} {Ps : PsiT} {r : Rho} {m : Sto} {Ph : PhiT} {ta tk : TA} (h : WA W Ps ta r m fun xs m1 => WA W Ps tk r m1 fun ys m2 => sp (xs ++ ys) m2 Ph fun cls fs m' => Ps cls fs r m') : WT W Ps (tCallGK (lift sp) (fun vs zs => vs ++ zs) (WE W) ta tk) r m Ph := wt_callk (gD := fun xs ys => xs ++ ys) (fun a b => reps_app a b) h
end
theorem bt_len : bootBuiltins "len" = some (.builtin "len") := by decide +kernel
theorem bt_isinstance : bootBuiltins "isinstance" = some (.builtin "isinstance") := by decide +kernel
theorem bt_all : bootBuiltins "all" = some (.builtin "all") := by decide +kernel
theorem bt_any : bootBuiltins "any" = some (.builtin "any") := by decide +kernel
theorem bt_sum : bootBuiltins "sum" = some (.builtin "sum") := by decide +kernel
theorem bt_int : bootBuiltins "int" = some (.type "int") := by decide +kernel
theorem bt_bool : bootBuiltins "bool" = some (.type "bool") := by decide +kernel
theorem bt_str : bootBuiltins "str" = some (.type "str") := by decide +kernel
theorem bt_tuple : bootBuiltins "tuple" = some (.type "tuple") := by decide +kernel
theorem bt_list : bootBuiltins "list" = some (.type "list") := by decide +kernel
theorem bt_ValueError : bootBuiltins "ValueError" = some (.type "ValueError") := by decide +kernel
theorem bt_dict : bootBuiltins "dict" = some (.type "dict") := by decide +kernel
end Dz
/-! Dz, part G: the common comprehensions. -/
namespace Dz
open PySem PySem.Spec PyProof.Rows L2
section
variable {W : WX} {Ps : PsiT} {r : Rho} {m : Sto} {Ph : PhiT} {wi : TI} {g : TG} {tt : TT} {te : TE} {vs : List Nat}
theorem gs2 {i j : Nat} {vs : List Nat} {K : PySem.W.Frag} (hi : i ∈ vs) (hj : j ∈ vs) : GOnly vs (gTup K 2 (gCons (gName i) (gCons (gName j) gNil))) := gonly_tup (gsonly_cons hi (gsonly_cons hj gsonly_nil))
theorem take_succ' {α : Type} {l : List α} {i : Nat} {y : α} (h : l[i]? = some y) : l.take i ++ [y] = l.take (i + 1) := by
  rw [List.take_add_one, h]; rfl
/-- [e for x in xs]: each turn gives its item of out, the store stays -/
theorem wt_lcm (ho : GOnly vs g) (h : WI W Ps wi r m fun ds m1 => ∃ out : List D, out.length = ds.length ∧ ds.length ≤ sizeLine ∧
    (∀ (i : Nat) d y (L : Addr) acc, ds[i]? = some d → out[i]? = some y → WG W Ps g d (wipeR r vs) ((L, .lst acc) :: m1) fun r2 m2 => WT W Ps te r2 m2 fun z m4 => z = y ∧ m4 = (L, MO.lst acc) :: m1) ∧
    (Ph (.lst out) m1 ∨ ∀ L, L ∉ dom m1 → Ph (.ref L) ((L, .lst out) :: m1))) : WT W Ps (tLc wi g tYes te vs) r m Ph :=
  wt_lcG ho fun s H R Rl X k => h s H R Rl X fun J H' ds m' G h1 f1 s1 J1 g1 => by
    obtain ⟨out, hl, hz, turn, fin⟩ := h1
    refine k J H' ds m' G (fun L hL => ⟨fun i acc m2 => m2 = m' ∧ acc = out.take i, ⟨rfl, rfl⟩, fun i d acc m2 hd ⟨e1, e2⟩ => ?_, fun acc m2 ⟨e1, e2⟩ => ?_⟩) f1 s1 J1 g1
    · subst e1; subst e2
      have hi : i < ds.length := (List.getElem?_eq_some_iff.mp hd).1
      have hy : out[i]? = some out[i] := List.getElem?_eq_getElem (by omega)
      intro v s3 H3 Q3 R3 X3 q3 k3
      refine turn i d _ L _ hd hy v s3 H3 Q3 R3 X3 q3 fun s4 H4 r4 m4 w4 f4 R4 => k3 s4 H4 r4 m4 (wb_yes ⟨fun _ => ?_, fun z => by cases z⟩) f4 R4
      intro s5 H5 Q5 R5 X5 k5
      refine w4 s5 H5 Q5 R5 X5 fun v6 H6 d6 m6 ⟨e6, e7⟩ f6 q6 t6 => k5 v6 H6 d6 m6 ⟨m2, e7, ?_, rfl, ?_⟩ f6 q6 t6
      · rw [List.length_take]; omega
      · rw [e6, take_succ' hy]
    · subst e1; subst e2
      rw [← hl, List.take_length]
      rcases fin with z | z
      · exact .inl z
      · exact .inr (z L hL)
/-- [e for x in xs if t]: F tells each turn's item -/
theorem wt_lcf (ho : GOnly vs g) (h : WI W Ps wi r m fun ds m1 => ∃ F : D → Option D, ds.length ≤ sizeLine ∧
    (∀ d (L : Addr) acc, d ∈ ds → WG W Ps g d (wipeR r vs) ((L, .lst acc) :: m1) fun r2 m2 => WB W Ps tt r2 m2 fun b m3 => m3 = (L, MO.lst acc) :: m1 ∧ b = (F d).isSome ∧ (b = true → WT W Ps te r2 m3 fun z m4 => F d = some z ∧ m4 = (L, MO.lst acc) :: m1)) ∧
    (Ph (.lst (ds.filterMap F)) m1 ∨ ∀ L, L ∉ dom m1 → Ph (.ref L) ((L, .lst (ds.filterMap F)) :: m1))) : WT W Ps (tLc wi g tt te vs) r m Ph :=
  wt_lcG ho fun s H R Rl X k => h s H R Rl X fun J H' ds m' G h1 f1 s1 J1 g1 => by
    obtain ⟨F, hz, turn, fin⟩ := h1
    refine k J H' ds m' G (fun L hL => ⟨fun i acc m2 => m2 = m' ∧ acc = (ds.take i).filterMap F, ⟨rfl, rfl⟩, fun i d acc m2 hd ⟨e1, e2⟩ => ?_, fun acc m2 ⟨e1, e2⟩ => ?_⟩) f1 s1 J1 g1
    · subst e1; subst e2
      have hi : i < ds.length := (List.getElem?_eq_some_iff.mp hd).1
      intro v s3 H3 Q3 R3 X3 q3 k3
      refine turn d L _ (List.mem_of_getElem? hd) v s3 H3 Q3 R3 X3 q3 fun s4 H4 r4 m4 w4 f4 R4 => k3 s4 H4 r4 m4 ?_ f4 R4
      intro s5 H5 Q5 R5 X5 k5
      refine w4 s5 H5 Q5 R5 X5 fun b H6 m6 ⟨e6, e7, e8⟩ f6 t6 => k5 b H6 m6 ⟨fun eb => ?_, fun eb => ⟨m2, e6, rfl, ?_⟩⟩ f6 t6
      · subst eb
        intro s7 H7 Q7 R7 X7 k7
        refine e8 rfl s7 H7 Q7 R7 X7 fun v8 H8 d8 m8 ⟨e9, e10⟩ f8 q8 t8 => k7 v8 H8 d8 m8 ⟨m2, e10, ?_, rfl, ?_⟩ f8 q8 t8
        · have := List.length_filterMap_le F (ds.take i)
          have h2 := List.length_take_le i ds
          rw [List.length_take] at this
          omega
        · rw [← take_succ' hd, List.filterMap_append, List.filterMap_cons, e9]; rfl
      · rw [← take_succ' hd, List.filterMap_append, List.filterMap_cons]
        subst eb
        cases e : F d with
        | none => simp
        | some z => rw [e] at e7; cases e7
    · subst e1; subst e2
      rw [List.take_length]
      rcases fin with z | z
      · exact .inl z
      · exact .inr (z L hL)
end
end Dz
/-! Dz, part H: small facts of data. -/
namespace Dz
open PySem PySem.Spec PyProof.Rows L2
theorem mem_set_imp {α : Type} {l : List α} {n : Nat} {a x : α} (h : x ∈ l.set n a) : x = a ∨ x ∈ l := by
  rcases List.mem_or_eq_of_mem_set h with h | h
  · exact .inr h
  · exact .inl h
theorem ixN_nat {n j : Nat} {i : Int} (h : i = (j : Int)) (hj : j < n) : ixN n i = some j := by
  subst h
  unfold ixN
  rw [if_pos (by omega), if_pos (by omega)]; simp
theorem atI_at {α : Type} {xs : List α} {i : Int} {j : Nat} {v : α} (h : i = (j : Int)) (hv : xs[j]? = some v) : atI xs i = some v := by
  subst h
  exact atI_nat hv
theorem get_map_int {l : List Int} {j : Nat} (h : j < l.length) : (l.map D.int)[j]? = some (.int l[j]) := by
  rw [List.getElem?_map, List.getElem?_eq_getElem h]; rfl
theorem pys_ints : ∀ l : List Int, D.pys (l.map D.int) = some (l.map PyData.int)
  | [] => rfl
  | x :: l => by
    rw [List.map_cons, D.pys, pys_ints l]
    rfl
theorem lay_ints : ∀ l : List Int, PyData.canLayAll0 (l.map PyData.int) = true
  | [] => by simp [PyData.canLayAll0]
  | x :: l => by
    rw [List.map_cons, PyData.canLayAll0, lay_ints l]
    simp [PyData.canLay0]
theorem dep_ints : ∀ l : List Int, PyData.depthAll (l.map PyData.int) = 0
  | [] => by simp [PyData.depthAll]
  | x :: l => by
    rw [List.map_cons, PyData.depthAll, dep_ints l]
    simp [PyData.depth]
theorem shaped_ints (l : List Int) : SeqAt.shaped (.list (l.map PyData.int)) = true := by
  unfold SeqAt.shaped
  rw [PyData.canLay0, lay_ints, PyData.depth, dep_ints]
  rfl
theorem shaped_tints (l : List Int) : SeqAt.shaped (.tuple (l.map PyData.int)) = true := by
  unfold SeqAt.shaped
  rw [PyData.canLay0, lay_ints, PyData.depth, dep_ints]
  rfl
theorem shaped_nil : SeqAt.shaped (.list []) = true := shaped_ints []
theorem eqv_nil {l : List PyData} : PyData.eqv (.list l) (.list []) = l.isEmpty := by
  cases l <;> simp [PyData.eqv, PyData.eqvAll]
theorem eqv_tnil {l : List PyData} : PyData.eqv (.tuple l) (.tuple []) = l.isEmpty := by
  cases l <;> simp [PyData.eqv, PyData.eqvAll]
theorem n_cs : ¬ (Str.ofString "cells") = Str.ofString "spot" := by decide
theorem n_gs : ¬ (Str.ofString "great") = Str.ofString "spot" := by decide
theorem n_cg : ¬ (Str.ofString "cells") = Str.ofString "great" := by decide
theorem n_sg : ¬ (Str.ofString "spot") = Str.ofString "great" := by decide
theorem genK_spot {ac ag : Addr} {s : Int} : valD (genK ac ag s) (Sum.inr "spot") = some (.int s) := by
  simp [valD, genK, List.find?, n_cs, n_gs]
theorem genK_great {ac ag : Addr} {s : Int} : valD (genK ac ag s) (Sum.inr "great") = some (.ref ag) := by
  simp [valD, genK, List.find?, n_cg]
theorem genK_cells {ac ag : Addr} {s : Int} : valD (genK ac ag s) (Sum.inr "cells") = some (.ref ac) := by
  simp [valD, genK, List.find?]
theorem genK_put {ac ag : Addr} {s t : Int} : putD (genK ac ag s) (Sum.inr "spot") (.int t) = genK ac ag t := by
  simp [putD, genK, n_cs, n_gs]
theorem genK_putg {ac ag ah : Addr} {s : Int} : putD (genK ac ag s) (Sum.inr "great") (.ref ah) = genK ac ah s := by
  simp [putD, genK, n_cg, n_sg]
theorem genK_len {ac ag : Addr} {s : Int} : (genK ac ag s).length < sizeLine := by
  show 3 < sizeLine
  decide
theorem fmod_pos {x l : Int} (h : 0 < l) : 0 ≤ x.fmod l ∧ x.fmod l < l := by
  rw [Int.fmod_eq_emod_of_nonneg _ (by omega)]
  exact ⟨Int.emod_nonneg _ (by omega), Int.emod_lt_of_pos _ h⟩
theorem fmod_bd (x : Int) : 0 ≤ x.fmod 2147483647 ∧ x.fmod 2147483647 < 2147483647 := fmod_pos (by decide)
/-- kinds of plain data -/
inductive Tg where
  | non | bl | int | str | tup | lst | dct
def Tg.nm : Tg → String
  | .non => "NoneType"
  | .bl => "bool"
  | .int => "int"
  | .str => "str"
  | .tup => "tuple"
  | .lst => "list"
  | .dct => "dict"
def D.tg : D → Option Tg
  | .non => some .non
  | .bl _ => some .bl
  | .int _ => some .int
  | .str _ => some .str
  | .tup _ => some .tup
  | .lst _ => some .lst
  | .dct _ => some .dct
  | _ => none
def Tg.isInt : Tg → Bool
  | .int => true
  | .bl => true
  | _ => false
def Tg.isBool : Tg → Bool
  | .bl => true
  | _ => false
def Tg.isStr : Tg → Bool
  | .str => true
  | _ => false
def Tg.isTup : Tg → Bool
  | .tup => true
  | _ => false
def Tg.isLst : Tg → Bool
  | .lst => true
  | _ => false
def Tg.isDct : Tg → Bool
  | .dct => true
  | _ => false
theorem tg_ty {x : D} {g : Tg} (h : x.tg = some g) : x.tyS = some g.nm := by
  cases x <;> simp [D.tg] at h <;> subst h <;> rfl
theorem kb_int (g : Tg) : kitB g.nm "int" = some g.isInt := by cases g <;> decide +kernel
theorem kb_bool (g : Tg) : kitB g.nm "bool" = some g.isBool := by cases g <;> decide +kernel
theorem kb_str (g : Tg) : kitB g.nm "str" = some g.isStr := by cases g <;> decide +kernel
theorem kb_tup (g : Tg) : kitB g.nm "tuple" = some g.isTup := by cases g <;> decide +kernel
theorem kb_lst (g : Tg) : kitB g.nm "list" = some g.isLst := by cases g <;> decide +kernel
theorem kb_dct (g : Tg) : kitB g.nm "dict" = some g.isDct := by cases g <;> decide +kernel
section
variable {K : PySem.W.Frag} {m : Sto} {Ph : PhiT} {x : D} {g : Tg}
theorem cd_isint (h : x.tg = some g) (k : Ph (.bl g.isInt) m) : CaD (rIsi K) [x, .ty "int"] m Ph := cd_isi (.inl (tg_ty h)) (kb_int g) k
theorem cd_isbool (h : x.tg = some g) (k : Ph (.bl g.isBool) m) : CaD (rIsi K) [x, .ty "bool"] m Ph := cd_isi (.inl (tg_ty h)) (kb_bool g) k
theorem cd_isstr (h : x.tg = some g) (k : Ph (.bl g.isStr) m) : CaD (rIsi K) [x, .ty "str"] m Ph := cd_isi (.inl (tg_ty h)) (kb_str g) k
theorem cd_istup (h : x.tg = some g) (k : Ph (.bl g.isTup) m) : CaD (rIsi K) [x, .ty "tuple"] m Ph := cd_isi (.inl (tg_ty h)) (kb_tup g) k
theorem cd_islst (h : x.tg = some g) (k : Ph (.bl g.isLst) m) : CaD (rIsi K) [x, .ty "list"] m Ph := cd_isi (.inl (tg_ty h)) (kb_lst g) k
theorem cd_isdct (h : x.tg = some g) (k : Ph (.bl g.isDct) m) : CaD (rIsi K) [x, .ty "dict"] m Ph := cd_isi (.inl (tg_ty h)) (kb_dct g) k
end
end Dz
namespace Dz
open PySem PySem.Spec PyProof.Rows L2
def top (i : Nat) : Stmt := PySem.Challenge.pw_toldbyplans_k05_texts_of_houses.main.body.getD i (.Pass ⟨0, 0, 0, 0⟩)
structure Cs where
  (K : PySem.W.Frag) (BadHouse BadText : Addr)
  (xBadHouse : PySem.W.exmOne K (.ref BadHouse) (.ref BadHouse) = some true) (xBadText : PySem.W.exmOne K (.ref BadText) (.ref BadText) = some true)
/-! ### the prelude's promises -/
def sp__law_mixed (cs : Cs) : SpD := fun ds m Ph _ => ∃ c n : Int, ds = [.int c, .int n] ∧ (0 ≤ c ∧ c < 1099511627776 ∧ 0 ≤ n ∧ n < 1099511627776) ∧ ∀ r : Int, 0 ≤ r → r < 2147483648 → Ph (.int r) m
def sp__law_folded (cs : Cs) : SpD := fun ds m Ph _ => ∃ (a : Addr) (ns : List Int), ds = [.scr cs.K a ns] ∧ ns.length ≤ 63 ∧ ∀ (l : Addr) (cl : List Int), l ∉ dom m → cl.length = 64 → (∀ c ∈ cl, 0 ≤ c ∧ c < 2147483647) → Ph (.ref l) ((l, .lst (cl.map D.int)) :: m)
/-- a number below limit; the state's spot goes on by one -/
def sp__law_draw (cs : Cs) : SpD := fun ds m Ph _ => ∃ (a ac ag : Addr) (k n : Nat) (limit : Int), ds = [.ref a, .int limit] ∧ m[k]? = some (a, .gen ac ag n) ∧ 0 < limit ∧ limit < 1000000 ∧ n < 1000000000 ∧ ∀ r : Int, 0 ≤ r → r < limit → Ph (.int r) (m.set k (a, .gen ac ag (n + 1)))
def sp__law_begun (cs : Cs) : SpD := fun ds m Ph _ => ∃ (a : Addr) (ns : List Int), ds = [.scr cs.K a ns] ∧ ns.length ≤ 63 ∧ m = [] ∧ ∀ (g ac ag : Addr), Ph (.ref g) [(g, .gen ac ag 0)]
def sp__law_of (cs : Cs) : SpD := fun ds m Ph _ => ∃ (a ac ag : Addr) (k n : Nat) (xs : List D) (y : D), ds = [.ref a, y] ∧ (y = .lst xs ∨ y = .tup xs) ∧ m[k]? = some (a, .gen ac ag n) ∧ xs ≠ [] ∧ xs.length < 1000000 ∧ n < 1000000000 ∧ ∀ d ∈ xs, Ph d (m.set k (a, .gen ac ag (n + 1)))
mutual
/-- plain data: None, bools, ints, texts, short lists and tuples -/
def D.pl : D → Bool
  | .non => true
  | .bl _ => true
  | .int _ => true
  | .str s => decide (s.length ≤ 1000000)
  | .tup ds => decide (ds.length ≤ 2000000) && D.pls ds
  | .lst ds => decide (ds.length ≤ 2000000) && D.pls ds
  | _ => false
def D.pls : List D → Bool
  | [] => true
  | d :: ds => D.pl d && D.pls ds
end
mutual
/-- nested less deep than n -/
def D.shal : D → Nat → Bool
  | .tup _, 0 => false
  | .lst _, 0 => false
  | .tup ds, n + 1 => D.shals ds n
  | .lst ds, n + 1 => D.shals ds n
  | _, _ => true
def D.shals : List D → Nat → Bool
  | [], _ => true
  | d :: ds, n => D.shal d n && D.shals ds n
end
/-- the same data are found alike -/
def sp__law_like (cs : Cs) : Nat → SpD
  | 0 => fun _ _ _ _ => False
  | n + 1 => fun ds m Ph _ => ∃ d : D, ds = [d, d] ∧ d.pl = true ∧ d.shal n = true ∧ Ph (.bl true) m
/-! ### the package's promises -/
def hiO : D → Option Int
  | .int h => some h
  | _ => none
def isNumD (v : D) (lo : Int) (hi : Option Int) : Bool := match v with
  | .int i => decide (lo ≤ i) && (match hi with | none => true | some h => decide (i ≤ h))
  | _ => false
def sp_is_number (cs : Cs) : SpD := fun ds m Ph _ => ∃ (v : D) (lo : Int) (hi : D), ds = [v, .int lo, hi] ∧ v.pl = true ∧ (hi = .non ∨ ∃ h, hi = .int h) ∧ Ph (.bl (isNumD v lo (hiO hi))) m
def isRowD (v : D) (l : Option Int) : Bool := match v with
  | .tup ds => (match l with | none => true | some n => ((ds.length : Nat) : Int) == n)
  | _ => false
def sp_is_row (cs : Cs) : SpD := fun ds m Ph _ => ∃ (v l : D), ds = [v, l] ∧ v.pl = true ∧ (l = .non ∨ ∃ n, l = .int n) ∧ Ph (.bl (isRowD v (hiO l))) m
def areNumsD (v : D) (hi lo : Int) : Bool := match v with
  | .tup xs => xs.all fun x => isNumD x lo (some hi)
  | _ => false
def sp_are_numbers (cs : Cs) : SpD := fun ds m Ph _ => ∃ (v : D) (hi lo : Int), ds = [v, .int hi, .int lo] ∧ v.pl = true ∧ Ph (.bl (areNumsD v hi lo)) m
def isDoorD (n : Int) : D → Bool
  | .tup [.int a, b] => decide (0 ≤ a) && isNumD b (a + 1) (some (n - 1))
  | _ => false
def sp_is_door (cs : Cs) : SpD := fun ds m Ph _ => ∃ (n : Int) (v : D), ds = [.int n, v] ∧ v.pl = true ∧ Ph (.bl (isDoorD n v)) m
def intsD : D → List Int
  | .tup [.int a, .int b] => [a, b]
  | _ => []
/-- the place of the first wrong door -/
def badDoor (n : Int) : Option D → List D → Nat → Option Nat
  | _, [], _ => none
  | prev, d :: ds, i => if (!isDoorD n d || (match prev with | none => false | some p => leI (intsD d) (intsD p))) = true then some i else badDoor n (some d) ds (i + 1)
def faultD (v : D) (most : Int) : D := match v with
  | .tup [.tup cl, .tup dl] => if most < ((cl.length : Nat) : Int) then .tup [.str "many"] else if (cl.all fun x => isNumD x 0 (some 9)) = false then .tup [.str "colours"] else
      (match badDoor ((cl.length : Nat) : Int) none dl 0 with | some i => .tup [.int (i : Nat)] | none => .tup [])
  | _ => .tup [.str "form"]
def sp_house_fault (cs : Cs) : SpD := fun ds m Ph _ => ∃ (v : D) (most : Int), ds = [v, .int most] ∧ v.pl = true ∧ Ph (faultD v most) m
def sp_need_house (cs : Cs) : SpD := fun ds m Ph Pc => ∃ v : D, ds = [v] ∧ v.pl = true ∧ (faultD v 60 = .tup [] → Ph v m) ∧ ∀ x, faultD v 60 = .tup [x] → Pc (.ref cs.BadHouse) [("place", x)] m
def numS (n : Nat) : Str := Str.ofString (toString (n : Int))
def hD (cl : List Nat) (dl : List (Nat × Nat)) : D := .tup [.tup (cl.map fun (c : Nat) => D.int (c : Int)), .tup (dl.map fun (p : Nat × Nat) => D.tup [.int (p.1 : Int), .int (p.2 : Int)])]
def textS (cl : List Nat) (dl : List (Nat × Nat)) : Str := Txt.join " " ((Txt.join "" (cl.map numS) ++ ":") :: dl.map fun p => numS p.1 ++ "-" ++ numS p.2)
/-- few colours below ten, few doors below sixty -/
def SmallH (cl : List Nat) (dl : List (Nat × Nat)) : Prop := cl.length ≤ 60 ∧ (∀ c ∈ cl, c ≤ 9) ∧ dl.length ≤ 2000 ∧ ∀ p ∈ dl, p.1 < 100 ∧ p.2 < 100
def sp_house_text (cs : Cs) : SpD := fun ds m Ph Pc => ∃ v : D, ds = [v] ∧ v.pl = true ∧ (faultD v 60 = .tup [] → ∃ cl dl, v = hD cl dl ∧ SmallH cl dl ∧ Ph (.str (textS cl dl)) m) ∧ ∀ x, faultD v 60 = .tup [x] → Pc (.ref cs.BadHouse) [("place", x)] m
def dig (c : Nat) : Bool := decide (48 ≤ c) && decide (c ≤ 57)
/-- a number of one or two digits, without a zero ahead -/
def numC : List Nat → Option Nat
  | [a] => if dig a = true then some (a - 48) else none
  | [a, b] => if (dig a && dig b && !(a == 48)) = true then some ((a - 48) * 10 + (b - 48)) else none
  | _ => none
def numD (w : Str) : D := match numC w.cps.toList with
  | some n => .int (n : Nat)
  | none => .non
def sp_number_of (cs : Cs) : SpD := fun ds m Ph _ => ∃ w : Str, ds = [.str w] ∧ w.length ≤ 1000000 ∧ Ph (numD w) m
def doorW (w : Str) : Option (Nat × Nat) := if (Txt.partition w "-").2.1 = Str.empty then none else match numC (Txt.partition w "-").1.cps.toList, numC (Txt.partition w "-").2.2.cps.toList with
  | some a, some b => some (a, b)
  | _, _ => none
def pairD : Option (Nat × Nat) → D
  | some p => .tup [.int (p.1 : Nat), .int (p.2 : Nat)]
  | none => .non
def sp_read_door (cs : Cs) : SpD := fun ds m Ph _ => ∃ w : Str, ds = [.str w] ∧ w.length ≤ 1000000 ∧ Ph (pairD (doorW w)) m
def doorsOk (n : Nat) : Option (Nat × Nat) → List (Nat × Nat) → Bool
  | _, [] => true
  | prev, p :: r => decide (p.1 < p.2) && decide (p.2 < n) && (match prev with | none => true | some q => decide (q.1 < p.1) || (decide (q.1 = p.1) && decide (q.2 < p.2))) && doorsOk n (some p) r
def validH (cl : List Nat) (dl : List (Nat × Nat)) : Bool := decide (cl.length ≤ 60) && cl.all (fun c => decide (c ≤ 9)) && doorsOk cl.length none dl
def allSome {α : Type} : List (Option α) → Option (List α)
  | [] => some []
  | none :: _ => none
  | some x :: r => match allSome r with | some l => some (x :: l) | none => none
/-- the house of a text -/
def readS (t : Str) : Option (List Nat × List (Nat × Nat)) := match (Txt.split t " ") with
  | [] => none
  | w :: ws => match w.cps.toList.getLast? with
    | none => none
    | some c => if c = 58 ∧ (w.cps.toList.dropLast.all dig) = true then (match allSome (ws.map doorW) with
        | some dl => if validH (w.cps.toList.dropLast.map fun c => c - 48) dl = true then some (w.cps.toList.dropLast.map (fun c => c - 48), dl) else none
        | none => none) else none
def sp_read_house (cs : Cs) : SpD := fun ds m Ph Pc => ∃ x : D, ds = [x] ∧ x.pl = true ∧ (∀ t, x = .str t → (∀ h, readS t = some h → Ph (hD h.1 h.2) m) ∧ (readS t = none → Pc (.ref cs.BadText) [("line", .int 0)] m)) ∧ ((∀ t, x ≠ .str t) → Pc (.ref cs.BadText) [("line", .non)] m)
/-! ### the law's promises -/
def sp__law_house (cs : Cs) : SpD := fun ds m Ph _ => ∃ (a ac ag : Addr) (k n rooms colours : Nat), ds = [.ref a, .int rooms, .int colours] ∧ m[k]? = some (a, .gen ac ag n) ∧ rooms ≤ 15 ∧ 0 < colours ∧ colours ≤ 10 ∧ n < 900000000 ∧
  ∀ cl dl, cl.length = rooms → (∀ c ∈ cl, c < colours) → doorsOk rooms none dl = true → dl.length ≤ 105 → Ph (hD cl dl) (m.set k (a, .gen ac ag (n + 300)))
def sp__law_text (cs : Cs) : SpD := fun ds m Ph _ => ∃ cl dl, ds = [hD cl dl] ∧ SmallH cl dl ∧ Ph (.str (textS cl dl)) m
def lnumD (w : Str) : D := match numC w.cps.toList with
  | some n => .int (n : Nat)
  | none => .int (-1)
def sp__law_number (cs : Cs) : SpD := fun ds m Ph _ => ∃ w : Str, ds = [.str w] ∧ w.length ≤ 1000000 ∧ Ph (lnumD w) m
def houD : Option (List Nat × List (Nat × Nat)) → D
  | some h => hD h.1 h.2
  | none => .non
def sp__law_due (cs : Cs) : SpD := fun ds m Ph _ => ∃ t : Str, ds = [.str t] ∧ t.length ≤ 1000000 ∧ Ph (houD (readS t)) m
def sp__law_bent (cs : Cs) : SpD := fun ds m Ph _ => ∃ (a ac ag : Addr) (k n : Nat) (t : Str), ds = [.ref a, .str t] ∧ m[k]? = some (a, .gen ac ag n) ∧ t.length ≤ 700 ∧ n < 900000000 ∧ ∀ z : Str, z.length ≤ 1000000 → Ph (.str z) (m.set k (a, .gen ac ag (n + 5)))
def toldD (x : D) : D := match x with
  | .str t => (match readS t with | some h => hD h.1 h.2 | none => .lst [.int 0])
  | _ => .lst [.non]
def sp__law_read (cs : Cs) : SpD := fun ds m Ph _ => ∃ x : D, ds = [x] ∧ x.pl = true ∧ Ph (toldD x) m
def sp__law_refused (cs : Cs) : SpD := fun ds m Ph _ => ∃ v x : D, ds = [v] ∧ v.pl = true ∧ faultD v 60 = .tup [x] ∧ Ph (.lst [.str "house", x]) m
def spL (K : PySem.W.Frag) : SpD := fun ds m Ph _ => ∃ (a : Addr) (ns : List Int), ds = [.scr K a ns] ∧ ns.length ≤ 63 ∧ m = [] ∧ ∀ m', Ph (.bl true) m'
def sp_law (cs : Cs) : SpD := spL cs.K
end Dz
namespace Dz
open PySem PySem.Spec PyProof.Rows L2
abbrev st_is_number : Stmt := top 5
abbrev N_is_number : List Str := ["value", "least", "most"]
abbrev ps_is_number : List Str := ["value", "least", "most"]
def t_is_number (K : PySem.W.Frag) (cs : Cs) (E : XK) : TS :=
    (tSeq (tIfS (tOr (tNot (tB (tCB (rIsi K) (tCons (tVar 0) (tCons (tC (.ty "int")) tNil))))) (tB (tCB (rIsi K) (tCons (tVar 0) (tCons (tC (.ty "bool")) tNil))))) (tRet (tC (.bl false))) tNext)
    (tRet (tAndV (tOp rGe (tVar 0) (tVar 1)) (tOrV (tOp rIsN (tVar 2) (tC .non)) (tOp (rLe K) (tVar 0) (tVar 2))))))
abbrev st_is_row : Stmt := top 6
abbrev N_is_row : List Str := ["value", "length"]
abbrev ps_is_row : List Str := ["value", "length"]
def t_is_row (K : PySem.W.Frag) (cs : Cs) (E : XK) : TS :=
    (tRet (tAndV (tCB (rIsi K) (tCons (tVar 0) (tCons (tC (.ty "tuple")) tNil))) (tOrV (tOp rIsN (tVar 1) (tC .non)) (tOp (rEqA K) (tCB (rLenA K) (tCons (tVar 0) tNil)) (tVar 1)))))
abbrev st_are_numbers : Stmt := top 7
abbrev N_are_numbers : List Str := ["value", "most", "least", "one"]
abbrev ps_are_numbers : List Str := ["value", "most", "least"]
def t_are_numbers (K : PySem.W.Frag) (cs : Cs) (E : XK) : TS :=
    (tRet (tAndV (tCallG (lift (sp_is_row cs)) [.non] (WE (WF E)) (tCons (tVar 0) tNil)) (tCB (rAll K) (tCons (tLc (iSeq K (tVar 0)) (gName 3) tYes (tCallG (lift (sp_is_number cs)) [] (fun _ => E0) (tCons (tVar 3) (tCons (tVar 2) (tCons (tVar 1) tNil)))) [3]) tNil))))
abbrev st_is_door : Stmt := top 11
abbrev N_is_door : List Str := ["rooms", "value"]
abbrev ps_is_door : List Str := ["rooms", "value"]
def t_is_door (K : PySem.W.Frag) (cs : Cs) (E : XK) : TS :=
    (tSeq (tIfS (tOr (tNot (tB (tCallG (lift (sp_is_row cs)) [] (WE (WF E)) (tCons (tVar 1) (tCons (tC (.int 2)) tNil))))) (tNot (tB (tCallG (lift (sp_is_number cs)) [.non] (WE (WF E)) (tCons (tOp (rIx K) (tVar 1) (tC (.int 0))) (tCons (tC (.int 0)) tNil)))))) (tRet (tC (.bl false))) tNext)
    (tRet (tCallG (lift (sp_is_number cs)) [] (WE (WF E)) (tCons (tOp (rIx K) (tVar 1) (tC (.int 1))) (tCons (tOp (rAdd K) (tOp (rIx K) (tVar 1) (tC (.int 0))) (tC (.int 1))) (tCons (tOp rSub (tVar 0) (tC (.int 1))) tNil))))))
abbrev st_house_fault : Stmt := top 12
abbrev N_house_fault : List Str := ["value", "most", "place", "door"]
abbrev ps_house_fault : List Str := ["value", "most"]
def t_house_fault (K : PySem.W.Frag) (cs : Cs) (E : XK) : TS :=
    (tSeq (tIfS (tOr (tNot (tB (tCallG (lift (sp_is_row cs)) [] (WE (WF E)) (tCons (tVar 0) (tCons (tC (.int 2)) tNil))))) (tOr (tNot (tB (tCallG (lift (sp_is_row cs)) [.non] (WE (WF E)) (tCons (tOp (rIx K) (tVar 0) (tC (.int 0))) tNil)))) (tNot (tB (tCallG (lift (sp_is_row cs)) [.non] (WE (WF E)) (tCons (tOp (rIx K) (tVar 0) (tC (.int 1))) tNil)))))) (tRet (tTup (tCons (tC (.str "form")) tNil))) tNext)
    (tSeq (tIfS (tTest (tOp rGt (tCB (rLenA K) (tCons (tOp (rIx K) (tVar 0) (tC (.int 0))) tNil)) (tVar 1))) (tRet (tTup (tCons (tC (.str "many")) tNil))) tNext)
    (tSeq (tIfS (tNot (tB (tCallG (lift (sp_are_numbers cs)) [.int 0] (WE (WF E)) (tCons (tOp (rIx K) (tVar 0) (tC (.int 0))) (tCons (tC (.int 9)) tNil))))) (tRet (tTup (tCons (tC (.str "colours")) tNil))) tNext)
    (tSeq (tFor (iEnumA K (tCons (tOp (rIx K) (tVar 0) (tC (.int 1))) tNil)) (gTup K 2 (gCons (gName 2) (gCons (gName 3) gNil)))
    (tIfS (tOr (tNot (tB (tCallG (lift (sp_is_door cs)) [] (WE (WF E)) (tCons (tCB (rLenA K) (tCons (tOp (rIx K) (tVar 0) (tC (.int 0))) tNil)) (tCons (tVar 3) tNil))))) (tAnd (tTest (tOp rGt (tVar 2) (tC (.int 0)))) (tTest (tOp (rLe K) (tVar 3) (tOp (rIx K) (tOp (rIx K) (tVar 0) (tC (.int 1))) (tOp rSub (tVar 2) (tC (.int 1)))))))) (tRet (tTup (tCons (tVar 2) tNil))) tNext))
    (tRet (tTup tNil))))))
abbrev st_need_house : Stmt := top 13
abbrev N_need_house : List Str := ["house", "fault"]
abbrev ps_need_house : List Str := ["house"]
def t_need_house (K : PySem.W.Frag) (cs : Cs) (E : XK) : TS :=
    (tSeq (tAsg (tCallG (lift (sp_house_fault cs)) [] (WE (WF E)) (tCons (tVar 0) (tCons (tC (.int 60)) tNil))) (gName 1))
    (tSeq (tIfS (tTest (tOp (rNeA K) (tVar 1) (tTup tNil))) (fun _ s H => tMkBad cs.BadHouse "place" (tCons (tOp (rIx K) (tVar 1) (tC (.int 0))) tNil) s H fun cls d H' => (WF E) cls d s H') tNext)
    (tRet (tVar 0))))
abbrev st_house_text : Stmt := top 16
abbrev N_house_text : List Str := ["house", "doors", "low", "high", "colour"]
abbrev ps_house_text : List Str := ["house"]
def t_house_text (K : PySem.W.Frag) (cs : Cs) (E : XK) : TS :=
    (tSeq (tDrop (tCallG (lift (sp_need_house cs)) [] (WE (WF E)) (tCons (tVar 0) tNil)))
    (tSeq (tAsg (tLc (iSeq K (tOp (rIx K) (tVar 0) (tC (.int 1)))) (gTup K 2 (gCons (gName 2) (gCons (gName 3) gNil))) tYes (tOp (rAdd K) (tOp (rAdd K) (tCB rStrI (tCons (tVar 2) tNil)) (tC (.str "-"))) (tCB rStrI (tCons (tVar 3) tNil))) [2, 3]) (gName 1))
    (tRet (tM1 (rJoin K) (tC (.str " ")) (tOp (rAdd K) (tLst (tCons (tOp (rAdd K) (tM1 (rJoin K) (tC (.str "")) (tLc (iSeq K (tOp (rIx K) (tVar 0) (tC (.int 0)))) (gName 4) tYes (tCB rStrI (tCons (tVar 4) tNil)) [4])) (tC (.str ":"))) tNil)) (tVar 1))))))
abbrev st_number_of : Stmt := top 17
abbrev N_number_of : List Str := ["word", "sign"]
abbrev ps_number_of : List Str := ["word"]
def t_number_of (K : PySem.W.Frag) (cs : Cs) (E : XK) : TS :=
    (tSeq (tIfS (tOr (tTest (tOp (rNiA K) (tCB (rLenA K) (tCons (tVar 0) tNil)) (tTup (tCons (tC (.int 1)) (tCons (tC (.int 2)) tNil))))) (tOr (tNot (tB (tCB (rAll K) (tCons (tLc (iStr (tVar 0)) (gName 1) tYes (tOp (rInA K) (tVar 1) (tC (.str "0123456789"))) [1]) tNil)))) (tAnd (tTest (tOp (rEqA K) (tCB (rLenA K) (tCons (tVar 0) tNil)) (tC (.int 2)))) (tTest (tOp (rEqA K) (tOp (rIx K) (tVar 0) (tC (.int 0))) (tC (.str "0"))))))) (tRet (tC .non)) tNext)
    (tRet (tCB rIntA (tCons (tVar 0) tNil))))
abbrev st_read_door : Stmt := top 18
abbrev N_read_door : List Str := ["word", "first", "middle", "second", "door"]
abbrev ps_read_door : List Str := ["word"]
def t_read_door (K : PySem.W.Frag) (cs : Cs) (E : XK) : TS :=
    (tSeq (tAsg (tM1 rPart (tVar 0) (tC (.str "-"))) (gTup K 3 (gCons (gName 1) (gCons (gName 2) (gCons (gName 3) gNil)))))
    (tSeq (tAsg (tTup (tCons (tCallG (lift (sp_number_of cs)) [] (WE (WF E)) (tCons (tVar 1) tNil)) (tCons (tCallG (lift (sp_number_of cs)) [] (WE (WF E)) (tCons (tVar 3) tNil)) tNil))) (gName 4))
    (tRet (tIf (tOr (tTest (tOp (rEqA K) (tVar 2) (tC (.str "")))) (tTest (tOp (rInA K) (tC .non) (tVar 4)))) (tC .non) (tVar 4)))))
abbrev st_read_house : Stmt := top 19
abbrev N_read_house : List Str := ["text", "words", "doors", "word", "sign", "house"]
abbrev ps_read_house : List Str := ["text"]
def t_read_house (K : PySem.W.Frag) (cs : Cs) (E : XK) : TS :=
    (tSeq (tIfS (tNot (tB (tCB (rIsi K) (tCons (tVar 0) (tCons (tC (.ty "str")) tNil))))) (fun _ s H => tMkBad cs.BadText "line" (tCons (tC .non) tNil) s H fun cls d H' => (WF E) cls d s H') tNext)
    (tSeq (tAsg (tM1 rSplit (tVar 0) (tC (.str " "))) (gName 1))
    (tSeq (tAsg (tLc (iSeq K (tSl (rSl K) (tVar 1) (tPart (tC (.int 1))) tNoPart)) (gName 3) tYes (tCallG (lift (sp_read_door cs)) [] (fun _ => E0) (tCons (tVar 3) tNil)) [3]) (gName 2))
    (tSeq (tIfS (tOr (tTest (tOp (rNeA K) (tSl (rSl K) (tOp (rIx K) (tVar 1) (tC (.int 0))) (tPart (tUn (rU fun i => .int (-i)) (tC (.int 1)))) tNoPart) (tC (.str ":")))) (tOr (tNot (tB (tCB (rAll K) (tCons (tLc (iStr (tSl (rSl K) (tOp (rIx K) (tVar 1) (tC (.int 0))) tNoPart (tPart (tUn (rU fun i => .int (-i)) (tC (.int 1)))))) (gName 4) tYes (tOp (rInA K) (tVar 4) (tC (.str "0123456789"))) [4]) tNil)))) (tTest (tOp (rInA K) (tC .non) (tVar 2))))) (fun _ s H => tMkBad cs.BadText "line" (tCons (tC (.int 0)) tNil) s H fun cls d H' => (WF E) cls d s H') tNext)
    (tSeq (tAsg (tTup (tCons (tCB (rTupOf K) (tCons (tLc (iStr (tSl (rSl K) (tOp (rIx K) (tVar 1) (tC (.int 0))) tNoPart (tPart (tUn (rU fun i => .int (-i)) (tC (.int 1)))))) (gName 4) tYes (tCB rIntA (tCons (tVar 4) tNil)) [4]) tNil)) (tCons (tCB (rTupOf K) (tCons (tVar 2) tNil)) tNil))) (gName 5))
    (tSeq (tIfS (tTest (tOp (rNeA K) (tCallG (lift (sp_house_fault cs)) [] (WE (WF E)) (tCons (tVar 5) (tCons (tC (.int 60)) tNil))) (tTup tNil))) (fun _ s H => tMkBad cs.BadText "line" (tCons (tC (.int 0)) tNil) s H fun cls d H' => (WF E) cls d s H') tNext)
    (tRet (tVar 5))))))))
abbrev st__law_mixed : Stmt := top 21
abbrev N__law_mixed : List Str := ["cell", "n", "blend"]
abbrev ps__law_mixed : List Str := ["cell", "n"]
def t__law_mixed (K : PySem.W.Frag) (cs : Cs) (E : XK) : TS :=
    (tSeq (tAsg (tOp (rAdd K) (tOp (rAdd K) (tOp rMod (tCB rIntA (tCons (tOp (rMulA K) (tOp (rMulA K) (tVar 0) (tOp (rAdd K) (tC (.int 1)) (tOp (rMulA K) (tC (.int 2)) (tVar 1)))) (tC (.int 48271))) tNil)) (tC (.int 2147483647))) (tOp (rMulA K) (tOp (rMulA K) (tC (.int 7919)) (tVar 1)) (tVar 1))) (tOp (rMulA K) (tC (.int 104729)) (tVar 1))) (gName 2))
    (tRet (tOp rDiv (tOp rMod (tCB rIntA (tCons (tOp (rMulA K) (tVar 2) (tC (.int 69621))) tNil)) (tC (.int 2147483629))) (tC (.int 7)))))
abbrev st__law_folded : Stmt := top 22
abbrev N__law_folded : List Str := ["script", "found", "n", "cell"]
abbrev ps__law_folded : List Str := ["script"]
def t__law_folded (K : PySem.W.Frag) (cs : Cs) (E : XK) : TS :=
    (tSeq (tAsg (tLc (iRng1 (tCons (tC (.int 64)) tNil)) (gName 2) tYes (tOp (rAdd K) (tC (.int 17)) (tVar 2)) [2]) (gName 1))
    (tSeq (tFor (iEnumA K (tCons (tVar 0) tNil)) (gTup K 2 (gCons (gName 2) (gCons (gName 3) gNil)))
    (tAsg (tOp rMod (tCB rIntA (tCons (tOp (rAdd K) (tOp (rMulA K) (tOp (rIx K) (tVar 1) (tOp rMod (tCB rIntA (tCons (tVar 2) tNil)) (tC (.int 64)))) (tC (.int 48271))) (tVar 3)) tNil)) (tC (.int 2147483647))) (gSub (tVar 1) (tOp rMod (tCB rIntA (tCons (tVar 2) tNil)) (tC (.int 64))) rSetL)))
    (tSeq (tFor (iRng2 (tCons (tC (.int 1)) (tCons (tC (.int 64)) tNil))) (gName 2)
    (tAsg (tOp rMod (tCB rIntA (tCons (tOp (rAdd K) (tOp (rIx K) (tVar 1) (tVar 2)) (tOp (rMulA K) (tOp (rIx K) (tVar 1) (tOp rSub (tVar 2) (tC (.int 1)))) (tC (.int 16807)))) tNil)) (tC (.int 2147483647))) (gSub (tVar 1) (tVar 2) rSetL)))
    (tRet (tVar 1)))))
abbrev st__law_draw : Stmt := top 23
abbrev N__law_draw : List Str := ["m", "limit", "n", "lot", "here", "cell"]
abbrev ps__law_draw : List Str := ["m", "limit"]
def t__law_draw (K : PySem.W.Frag) (cs : Cs) (E : XK) : TS :=
    (tSeq (tAsg (tDGet (tVar 0) (tC (.str "spot"))) (gName 2))
    (tSeq (sDPut (tVar 0) (tC (.str "spot")) (tOp (rAdd K) (tVar 2) (tC (.int 1))))
    (tSeq (tIfS (tTest (tOp (rNeA K) (tDGet (tVar 0) (tC (.str "great"))) (tLst tNil))) (tSeq (tAsg (tDGet (tVar 0) (tC (.str "great"))) (gName 3))
    (tSeq (tAsg (tOp rMod (tCB rIntA (tCons (tVar 2) tNil)) (tCB (rLenA K) (tCons (tVar 3) tNil))) (gName 4))
    (tSeq (tAsg (tOp (rIx K) (tVar 3) (tVar 4)) (gName 5))
    (tIfS (tTest (tOp rGt (tVar 5) (tC (.int 0)))) (tSeq (tAsg (tOp rDiv (tVar 5) (tVar 1)) (gSub (tVar 3) (tVar 4) rSetL))
    (tRet (tOp rMod (tCB rIntA (tCons (tVar 5) tNil)) (tVar 1)))) tNext)))) tNext)
    (tSeq (tAsg (tDGet (tVar 0) (tC (.str "cells"))) (gName 3))
    (tRet (tOp rMod (tCB rIntA (tCons (tCallG (lift (sp__law_mixed cs)) [] (WE (WF E)) (tCons (tCallG (lift (sp__law_mixed cs)) [] (WE (WF E)) (tCons (tOp (rAdd K) (tOp (rIx K) (tVar 3) (tOp rMod (tCB rIntA (tCons (tVar 2) tNil)) (tC (.int 64)))) (tOp (rMulA K) (tC (.int 31)) (tOp rDiv (tVar 2) (tC (.int 64))))) (tCons (tVar 2) tNil))) (tCons (tOp (rAdd K) (tVar 2) (tC (.int 7))) tNil))) tNil)) (tVar 1)))))))
abbrev st__law_begun : Stmt := top 24
abbrev N__law_begun : List Str := ["script", "m", "cell"]
abbrev ps__law_begun : List Str := ["script"]
def t__law_begun (K : PySem.W.Frag) (cs : Cs) (E : XK) : TS :=
    (tSeq (tAsg (tDisp (((tC (.str "cells")), (tCallG (lift (sp__law_folded cs)) [] (WE (WF E)) (tCons (tVar 0) tNil))) :: (((tC (.str "great")), (tLst tNil)) :: (((tC (.str "spot")), (tC (.int 0))) :: [])))) (gName 1))
    (tSeq (sDPut (tVar 1) (tC (.str "great")) (tLc (iSeq K (tVar 0)) (gName 2) tYes (tIf (tTest (tOp rGe (tVar 2) (tOp rPow (tC (.int 10)) (tC (.int 18))))) (tVar 2) (tC (.int 0))) [2]))
    (tRet (tVar 1))))
abbrev st__law_of : Stmt := top 25
abbrev N__law_of : List Str := ["m", "some"]
abbrev ps__law_of : List Str := ["m", "some"]
def t__law_of (K : PySem.W.Frag) (cs : Cs) (E : XK) : TS :=
    (tRet (tOp (rIx K) (tVar 1) (tCallG (lift (sp__law_draw cs)) [] (WE (WF E)) (tCons (tVar 0) (tCons (tCB (rLenA K) (tCons (tVar 1) tNil)) tNil)))))
abbrev st__law_like : Stmt := top 26
abbrev N__law_like : List Str := ["got", "due", "n"]
abbrev ps__law_like : List Str := ["got", "due"]
def t__law_like (K : PySem.W.Frag) (cs : Cs) (sp_self : SpD) (E : XK) : TS :=
    (tSeq (tIfS (tTest (tOp rIsN (tVar 1) (tC .non))) (tRet (tOp rIsN (tVar 0) (tC .non))) tNext)
    (tSeq (tIfS (tB (tCB (rIsi K) (tCons (tVar 1) (tCons (tC (.ty "bool")) tNil)))) (tRet (tAndV (tCB (rIsi K) (tCons (tVar 0) (tCons (tC (.ty "bool")) tNil))) (tOp (rEqA K) (tVar 0) (tVar 1)))) tNext)
    (tSeq (tIfS (tB (tCB (rIsi K) (tCons (tVar 1) (tCons (tC (.ty "int")) tNil)))) (tRet (tAndV (tCB (rIsi K) (tCons (tVar 0) (tCons (tC (.ty "int")) tNil))) (tAndV (tNotV (tCB (rIsi K) (tCons (tVar 0) (tCons (tC (.ty "bool")) tNil)))) (tOp (rEqA K) (tVar 0) (tVar 1))))) tNext)
    (tSeq (tIfS (tB (tCB (rIsi K) (tCons (tVar 1) (tCons (tC (.ty "str")) tNil)))) (tRet (tAndV (tCB (rIsi K) (tCons (tVar 0) (tCons (tC (.ty "str")) tNil))) (tOp (rEqA K) (tVar 0) (tVar 1)))) tNext)
    (tSeq (tIfS (tOr (tAnd (tB (tCB (rIsi K) (tCons (tVar 1) (tCons (tC (.ty "tuple")) tNil)))) (tNot (tB (tCB (rIsi K) (tCons (tVar 0) (tCons (tC (.ty "tuple")) tNil)))))) (tAnd (tB (tCB (rIsi K) (tCons (tVar 1) (tCons (tC (.ty "list")) tNil)))) (tNot (tB (tCB (rIsi K) (tCons (tVar 0) (tCons (tC (.ty "list")) tNil))))))) (tRet (tC (.bl false))) tNext)
    (tSeq (tIfS (tTest (tOp (rNeA K) (tCB (rLenA K) (tCons (tVar 0) tNil)) (tCB (rLenA K) (tCons (tVar 1) tNil)))) (tRet (tC (.bl false))) tNext)
    (tSeq (tFor (iRng1 (tCons (tCB (rLenA K) (tCons (tVar 1) tNil)) tNil)) (gName 2)
    (tIfS (tNot (tB (tCallG (lift sp_self) [] (WE (WF E)) (tCons (tOp (rIx K) (tVar 0) (tVar 2)) (tCons (tOp (rIx K) (tVar 1) (tVar 2)) tNil))))) (tRet (tC (.bl false))) tNext))
    (tRet (tC (.bl true))))))))))
abbrev st__law_house : Stmt := top 27
abbrev N__law_house : List Str := ["m", "rooms", "colours", "found", "dense", "low", "high", "room"]
abbrev ps__law_house : List Str := ["m", "rooms", "colours"]
def t__law_house (K : PySem.W.Frag) (cs : Cs) (E : XK) : TS :=
    (tSeq (tAsg (tTup (tCons (tLst tNil) (tCons (tCallG (lift (sp__law_draw cs)) [] (WE (WF E)) (tCons (tVar 0) (tCons (tC (.int 5)) tNil))) tNil))) (gTup K 2 (gCons (gName 3) (gCons (gName 4) gNil))))
    (tSeq (tFor (iRng1 (tCons (tVar 1) tNil)) (gName 5)
    (tAsg (tOp (rAdd K) (tVar 3) (tLc (iRng2 (tCons (tOp (rAdd K) (tVar 5) (tC (.int 1))) (tCons (tVar 1) tNil))) (gName 6) (tTest (tOp (rLt K) (tCallG (lift (sp__law_draw cs)) [] (fun _ => E0) (tCons (tVar 0) (tCons (tC (.int 4)) tNil))) (tVar 4))) (tTup (tCons (tVar 5) (tCons (tVar 6) tNil))) [6])) (gName 3)))
    (tRet (tTup (tCons (tCB (rTupOf K) (tCons (tLc (iRng1 (tCons (tVar 1) tNil)) (gName 7) tYes (tCallG (lift (sp__law_draw cs)) [] (fun _ => E0) (tCons (tVar 0) (tCons (tVar 2) tNil))) [7]) tNil)) (tCons (tCB (rTupOf K) (tCons (tVar 3) tNil)) tNil))))))
abbrev st__law_text : Stmt := top 28
abbrev N__law_text : List Str := ["house", "colour", "low", "high"]
abbrev ps__law_text : List Str := ["house"]
def t__law_text (K : PySem.W.Frag) (cs : Cs) (E : XK) : TS :=
    (tRet (tM1 (rJoin K) (tC (.str " ")) (tOp (rAdd K) (tLst (tCons (tOp (rAdd K) (tM1 (rJoin K) (tC (.str "")) (tLc (iSeq K (tOp (rIx K) (tVar 0) (tC (.int 0)))) (gName 1) tYes (tCB rStrI (tCons (tVar 1) tNil)) [1])) (tC (.str ":"))) tNil)) (tLc (iSeq K (tOp (rIx K) (tVar 0) (tC (.int 1)))) (gTup K 2 (gCons (gName 2) (gCons (gName 3) gNil))) tYes (tOp (rAdd K) (tOp (rAdd K) (tCB rStrI (tCons (tVar 2) tNil)) (tC (.str "-"))) (tCB rStrI (tCons (tVar 3) tNil))) [2, 3]))))
abbrev st__law_number : Stmt := top 29
abbrev N__law_number : List Str := ["word", "sign"]
abbrev ps__law_number : List Str := ["word"]
def t__law_number (K : PySem.W.Frag) (cs : Cs) (E : XK) : TS :=
    (tSeq (tIfS (tOr (tTest (tOp (rNiA K) (tCB (rLenA K) (tCons (tVar 0) tNil)) (tLst (tCons (tC (.int 1)) (tCons (tC (.int 2)) tNil))))) (tOr (tTest (tOp (rNeA K) (tLc (iStr (tVar 0)) (gName 1) (tTest (tOp (rNiA K) (tVar 1) (tC (.str "0123456789")))) (tC (.int 1)) [1]) (tLst tNil))) (tAnd (tTest (tOp (rEqA K) (tCB (rLenA K) (tCons (tVar 0) tNil)) (tC (.int 2)))) (tTest (tOp (rEqA K) (tOp (rIx K) (tVar 0) (tC (.int 0))) (tC (.str "0"))))))) (tRet (tUn (rU fun i => .int (-i)) (tC (.int 1)))) tNext)
    (tRet (tCB rIntA (tCons (tVar 0) tNil))))
abbrev st__law_due : Stmt := top 30
abbrev N__law_due : List Str := ["text", "words", "sign", "doors", "word", "halves", "low", "high"]
abbrev ps__law_due : List Str := ["text"]
def t__law_due (K : PySem.W.Frag) (cs : Cs) (E : XK) : TS :=
    (tSeq (tAsg (tM1 rSplit (tVar 0) (tC (.str " "))) (gName 1))
    (tSeq (tIfS (tOr (tTest (tOp (rNeA K) (tSl (rSl K) (tOp (rIx K) (tVar 1) (tC (.int 0))) (tPart (tUn (rU fun i => .int (-i)) (tC (.int 1)))) tNoPart) (tC (.str ":")))) (tOr (tTest (tOp (rNeA K) (tLc (iStr (tSl (rSl K) (tOp (rIx K) (tVar 1) (tC (.int 0))) tNoPart (tPart (tUn (rU fun i => .int (-i)) (tC (.int 1)))))) (gName 2) (tTest (tOp (rNiA K) (tVar 2) (tC (.str "0123456789")))) (tC (.int 1)) [2]) (tLst tNil))) (tTest (tOp rGt (tCB (rLenA K) (tCons (tOp (rIx K) (tVar 1) (tC (.int 0))) tNil)) (tC (.int 61)))))) (tRet (tC .non)) tNext)
    (tSeq (tAsg (tLst tNil) (gName 3))
    (tSeq (tFor (iSeq K (tSl (rSl K) (tVar 1) (tPart (tC (.int 1))) tNoPart)) (gName 4)
    (tSeq (tAsg (tM1 rSplit (tVar 4) (tC (.str "-"))) (gName 5))
    (tSeq (tIfS (tTest (tOp (rNeA K) (tCB (rLenA K) (tCons (tVar 5) tNil)) (tC (.int 2)))) (tRet (tC .non)) tNext)
    (tSeq (tPar 6 7 (tCons (tCallG (lift (sp__law_number cs)) [] (WE (WF E)) (tCons (tOp (rIx K) (tVar 5) (tC (.int 0))) tNil)) (tCons (tCallG (lift (sp__law_number cs)) [] (WE (WF E)) (tCons (tOp (rIx K) (tVar 5) (tC (.int 1))) tNil)) tNil)))
    (tSeq (tIfS (tOr (tNot (tTest (tChain3 (rLe K) (rLt K) (rLt K) (tC (.int 0)) (tVar 6) (tVar 7) (tOp rSub (tCB (rLenA K) (tCons (tOp (rIx K) (tVar 1) (tC (.int 0))) tNil)) (tC (.int 1)))))) (tAnd (tTest (tOp (rNeA K) (tVar 3) (tLst tNil))) (tTest (tOp (rLe K) (tTup (tCons (tVar 6) (tCons (tVar 7) tNil))) (tOp (rIx K) (tVar 3) (tUn (rU fun i => .int (-i)) (tC (.int 1)))))))) (tRet (tC .non)) tNext)
    (tDrop (tBM K "list" rAppend (tVar 3) (tCons (tTup (tCons (tVar 6) (tCons (tVar 7) tNil))) tNil))))))))
    (tRet (tTup (tCons (tCB (rTupOf K) (tCons (tLc (iStr (tSl (rSl K) (tOp (rIx K) (tVar 1) (tC (.int 0))) tNoPart (tPart (tUn (rU fun i => .int (-i)) (tC (.int 1)))))) (gName 2) tYes (tCB rIntA (tCons (tVar 2) tNil)) [2]) tNil)) (tCons (tCB (rTupOf K) (tCons (tVar 3) tNil)) tNil))))))))
abbrev st__law_bent : Stmt := top 31
abbrev N__law_bent : List Str := ["m", "text", "words", "odd", "place", "spot", "pick", "other"]
abbrev ps__law_bent : List Str := ["m", "text"]
def t__law_bent (K : PySem.W.Frag) (cs : Cs) (E : XK) : TS :=
    (tSeq (tPar 2 3 (tCons (tM1 rSplit (tVar 1) (tC (.str " "))) (tCons (tCallG (lift (sp__law_of cs)) [] (WE (WF E)) (tCons (tVar 0) (tCons (tLst (tCons (tC (.str "")) (tCons (tC (.str "0")) (tCons (tC (.str "1")) (tCons (tC (.str "-")) (tCons (tC (.str ":")) (tCons (tC (.str " ")) (tCons (tC (.str "0-1")) (tCons (tC (.str "00-1")) (tCons (tC (.str "1-0")) (tCons (tC (.str "x")) (tCons (tC (.str "\n")) (tCons (tC (.str "+1")) (tCons (tC (.str "1_0")) (tCons (tC (.str "12-13")) (tCons (tC (.str "9-10")) tNil)))))))))))))))) tNil))) tNil)))
    (tSeq (tTriple 4 5 6 (tCons (tCallG (lift (sp__law_draw cs)) [] (WE (WF E)) (tCons (tVar 0) (tCons (tCB (rLenA K) (tCons (tVar 2) tNil)) tNil))) (tCons (tCallG (lift (sp__law_draw cs)) [] (WE (WF E)) (tCons (tVar 0) (tCons (tOp (rAdd K) (tCB (rLenA K) (tCons (tVar 1) tNil)) (tC (.int 1))) tNil))) (tCons (tCallG (lift (sp__law_draw cs)) [] (WE (WF E)) (tCons (tVar 0) (tCons (tC (.int 6)) tNil))) tNil))))
    (tSeq (tIfS (tTest (tOp (rEqA K) (tVar 6) (tC (.int 0)))) (tRet (tOp (rAdd K) (tOp (rAdd K) (tSl (rSl K) (tVar 1) tNoPart (tPart (tVar 5))) (tVar 3)) (tSl (rSl K) (tVar 1) (tPart (tVar 5)) tNoPart))) tNext)
    (tSeq (tIfS (tTest (tOp (rEqA K) (tVar 6) (tC (.int 1)))) (tRet (tOp (rAdd K) (tSl (rSl K) (tVar 1) tNoPart (tPart (tVar 5))) (tSl (rSl K) (tVar 1) (tPart (tOp (rAdd K) (tVar 5) (tC (.int 1)))) tNoPart))) tNext)
    (tSeq (tIfS (tTest (tOp (rEqA K) (tVar 6) (tC (.int 2)))) (tRet (tM1 (rJoin K) (tC (.str " ")) (tOp (rAdd K) (tSl (rSl K) (tVar 2) tNoPart (tPart (tVar 4))) (tSl (rSl K) (tVar 2) (tPart (tOp (rAdd K) (tVar 4) (tC (.int 1)))) tNoPart)))) tNext)
    (tSeq (tIfS (tTest (tOp (rEqA K) (tVar 6) (tC (.int 3)))) (tRet (tM1 (rJoin K) (tC (.str " ")) (tOp (rAdd K) (tOp (rAdd K) (tSl (rSl K) (tVar 2) tNoPart (tPart (tVar 4))) (tLst (tCons (tVar 3) tNil))) (tSl (rSl K) (tVar 2) (tPart (tVar 4)) tNoPart)))) tNext)
    (tSeq (tIfS (tTest (tOp (rEqA K) (tVar 6) (tC (.int 4)))) (tRet (tM1 (rJoin K) (tC (.str " ")) (tOp (rAdd K) (tOp (rAdd K) (tSl (rSl K) (tVar 2) tNoPart (tPart (tVar 4))) (tLst (tCons (tOp (rIx K) (tVar 2) (tVar 4)) tNil))) (tSl (rSl K) (tVar 2) (tPart (tVar 4)) tNoPart)))) tNext)
    (tSeq (tAsg (tCallG (lift (sp__law_draw cs)) [] (WE (WF E)) (tCons (tVar 0) (tCons (tCB (rLenA K) (tCons (tVar 2) tNil)) tNil))) (gName 7))
    (tSeq (tAsg (tTup (tCons (tOp (rIx K) (tVar 2) (tVar 7)) (tCons (tOp (rIx K) (tVar 2) (tVar 4)) tNil))) (gTup K 2 (gCons (gSub (tVar 2) (tVar 4) rSetL) (gCons (gSub (tVar 2) (tVar 7) rSetL) gNil))))
    (tRet (tM1 (rJoin K) (tC (.str " ")) (tVar 2))))))))))))
abbrev st__law_read : Stmt := top 32
abbrev N__law_read : List Str := ["text", "told", "e"]
abbrev ps__law_read : List Str := ["text"]
def t__law_read (K : PySem.W.Frag) (cs : Cs) (E : XK) : TS :=
    (tSeq (tTry K (WF E) (fun W' => (tAsg (tCallG (lift (sp_read_house cs)) [] (WE W') (tCons (tVar 0) tNil)) (gName 1))) ((.ref cs.BadText, some 2, fun a cls d => (tAsg (tLst (tCons (tXf a cls d cs.BadText "line" (tVar 2)) tNil)) (gName 1))) :: []))
    (tRet (tVar 1)))
abbrev st__law_refused : Stmt := top 33
abbrev N__law_refused : List Str := ["value", "told", "e"]
abbrev ps__law_refused : List Str := ["value"]
def t__law_refused (K : PySem.W.Frag) (cs : Cs) (E : XK) : TS :=
    (tSeq (tTry K (WF E) (fun W' => (tAsg (tLst (tCons (tC (.str "told")) (tCons (tCallG (lift (sp_house_text cs)) [] (WE W') (tCons (tVar 0) tNil)) tNil))) (gName 1))) ((.ref cs.BadHouse, some 2, fun a cls d => (tAsg (tLst (tCons (tC (.str "house")) (tCons (tXf a cls d cs.BadHouse "place" (tVar 2)) tNil))) (gName 1))) :: []))
    (tRet (tVar 1)))
abbrev st_law : Stmt := top 34
abbrev N_law : List Str := ["script", "m", "turn", "house", "text", "again", "bent", "due", "great", "told"]
abbrev ps_law : List Str := ["script"]
def t_law (K : PySem.W.Frag) (cs : Cs) (E : XK) : TS :=
    (tSeq (tAsg (tCallG (lift (sp__law_begun cs)) [] (WE (WF E)) (tCons (tVar 0) tNil)) (gName 1))
    (tSeq (tFor (iRng1 (tCons (tC (.int 3)) tNil)) (gName 2)
    (tSeq (tAsg (tCallG (lift (sp__law_house cs)) [] (WE (WF E)) (tCons (tVar 1) (tCons (tCallG (lift (sp__law_draw cs)) [] (WE (WF E)) (tCons (tVar 1) (tCons (tC (.int 15)) tNil))) (tCons (tC (.int 10)) tNil)))) (gName 3))
    (tSeq (tAsg (tCallG (lift (sp__law_text cs)) [] (WE (WF E)) (tCons (tVar 3) tNil)) (gName 4))
    (tSeq (tIfS (tNot (tB (tCallG (lift (sp__law_like cs 6)) [] (WE (WF E)) (tCons (tLst (tCons (tCallG (lift (sp_house_text cs)) [] (WE (WF E)) (tCons (tVar 3) tNil)) (tCons (tCallG (lift (sp_read_house cs)) [] (WE (WF E)) (tCons (tVar 4) tNil)) (tCons (tCallGK (lift (sp_house_text cs)) (fun vs zs => vs ++ zs) (WE (WF E)) tNil (tCons (tVar 3) tNil)) (tCons (tCallGK (lift (sp_read_house cs)) (fun vs zs => vs ++ zs) (WE (WF E)) tNil (tCons (tVar 4) tNil)) tNil))))) (tCons (tLst (tCons (tVar 4) (tCons (tVar 3) (tCons (tVar 4) (tCons (tVar 3) tNil))))) tNil))))) (tRet (tC (.bl false))) tNext)
    (tFor (iRng1 (tCons (tC (.int 8)) tNil)) (gName 5)
    (tSeq (tAsg (tCallG (lift (sp__law_bent cs)) [] (WE (WF E)) (tCons (tVar 1) (tCons (tVar 4) tNil))) (gName 6))
    (tSeq (tAsg (tCallG (lift (sp__law_due cs)) [] (WE (WF E)) (tCons (tVar 6) tNil)) (gName 7))
    (tIfS (tNot (tB (tCallG (lift (sp__law_like cs 6)) [] (WE (WF E)) (tCons (tCallG (lift (sp__law_read cs)) [] (WE (WF E)) (tCons (tVar 6) tNil)) (tCons (tIf (tTest (tOp rIsN (tVar 7) (tC .non))) (tLst (tCons (tC (.int 0)) tNil)) (tVar 7)) tNil))))) (tRet (tC (.bl false))) tNext))))))))
    (tSeq (tAsg (tOp (rAdd K) (tOp (rMulA K) (tC (.str "7")) (tC (.int 60))) (tC (.str ": 0-59 57-59 58-59"))) (gName 8))
    (tSeq (tAsg (tLst (tCons (tOp (rIx K) (tCallG (lift (sp__law_read cs)) [] (WE (WF E)) (tCons (tVar 8) tNil)) (tC (.int 0))) (tCons (tCallG (lift (sp__law_read cs)) [] (WE (WF E)) (tCons (tOp (rAdd K) (tOp (rMulA K) (tC (.str "7")) (tC (.int 61))) (tC (.str ":"))) tNil)) (tCons (tCallG (lift (sp__law_read cs)) [] (WE (WF E)) (tCons (tC .non) tNil)) (tCons (tCallG (lift (sp__law_read cs)) [] (WE (WF E)) (tCons (tC (.int 5)) tNil)) (tCons (tCallG (lift (sp__law_read cs)) [] (WE (WF E)) (tCons (tLst tNil) tNil)) (tCons (tCallG (lift (sp__law_read cs)) [] (WE (WF E)) (tCons (tC (.str "")) tNil)) (tCons (tCallG (lift (sp__law_read cs)) [] (WE (WF E)) (tCons (tC (.str ":")) tNil)) tNil)))))))) (gName 9))
    (tSeq (tAsg (tLst (tCons (tOp (rMulA K) (tTup (tCons (tC (.int 7)) tNil)) (tC (.int 60))) (tCons (tLst (tCons (tC (.int 0)) tNil)) (tCons (tLst (tCons (tC .non) tNil)) (tCons (tLst (tCons (tC .non) tNil)) (tCons (tLst (tCons (tC .non) tNil)) (tCons (tLst (tCons (tC (.int 0)) tNil)) (tCons (tTup (tCons (tTup tNil) (tCons (tTup tNil) tNil))) tNil)))))))) (gName 7))
    (tRet (tAndV (tCallG (lift (sp__law_like cs 6)) [] (WE (WF E)) (tCons (tVar 9) (tCons (tVar 7) tNil))) (tCallG (lift (sp__law_like cs 6)) [] (WE (WF E)) (tCons (tLst (tCons (tCallG (lift (sp__law_refused cs)) [] (WE (WF E)) (tCons (tC .non) tNil)) (tCons (tCallG (lift (sp__law_refused cs)) [] (WE (WF E)) (tCons (tTup (tCons (tTup (tCons (tC (.int 10)) tNil)) (tCons (tTup tNil) tNil))) tNil)) tNil))) (tCons (tLst (tCons (tLst (tCons (tC (.str "house")) (tCons (tC (.str "form")) tNil))) (tCons (tLst (tCons (tC (.str "house")) (tCons (tC (.str "colours")) tNil))) tNil))) tNil))))))))))
end Dz
namespace Dz
open PySem PySem.Spec PyProof.Rows L2
section
variable {P : Program} {w : World} {K : PySem.W.Frag} {mg : Str → Option Value} {base : Heap} {cs : Cs} {k0 : Nat}
theorem sc_is_number : FnScope N_is_number ps_is_number (defScope st_is_number) := ⟨rfl, rfl, rfl, by decide +kernel, rfl, by decide +kernel, by decide +kernel⟩
theorem pss_is_number {f : Addr} {fd : FuncData} (n_bool : mg "bool" = none) (n_int : mg "int" = none) (n_isinstance : mg "isinstance" = none) {cdv : Value} {A : Around} {outer : List Env} {s : Shared} {H : Hp} {E : XK} (hr : Room 2 (A.deeper (envOfC "is_number" (defScope st_is_number) s.heap.objs.size f cdv))) : PSs (cxOf (L2.CX P w) P w K mg base N_is_number "is_number" (defScope st_is_number) f cdv A outer s H E) (defBody st_is_number) (t_is_number K cs E) := by
  have tk : Takes (cxOf (L2.CX P w) P w K mg base N_is_number "is_number" (defScope st_is_number) f cdv A outer s H E) (WF E) := takes_of rfl rfl rfl rfl
  have po : PassesOwn (model P w) (A.deeper (envOfC "is_number" (defScope st_is_number) s.heap.objs.size f cdv)) (envOfC "is_number" (defScope st_is_number) s.heap.objs.size f cdv) (cxOf (L2.CX P w) P w K mg base N_is_number "is_number" (defScope st_is_number) f cdv A outer s H E).xe := passes_of rfl
  exact (pss_cons (ps_if (PW.pt (pw_or (pt_not (pt_val (pe_callB call_isi (by rfl) n_isinstance bt_isinstance (pa_cons (pv 0) (pa_cons (pe_bltn (by rfl) n_int bt_int rfl) pa_nil))))) (pw_or1 (pt_val (pe_callB call_isi (by rfl) n_isinstance bt_isinstance (pa_cons (pv 0) (pa_cons (pe_bltn (by rfl) n_bool bt_bool rfl) pa_nil))))))) (pss_one (ps_ret pe_bl)) pss_nil)
    (pss_one (ps_ret (pe_and (pe_cmpR o_ge (pv 0) (pv 1) (nomark _)) (pe_one (pe_or (pe_cmpR o_is (pv 2) pe_non (nomark _)) (pe_one (pe_cmpR (o_le hr.units0) (pv 0) (pv 2) (nomark _)))))))))
theorem sc_is_row : FnScope N_is_row ps_is_row (defScope st_is_row) := ⟨rfl, rfl, rfl, by decide +kernel, rfl, by decide +kernel, by decide +kernel⟩
theorem pss_is_row {f : Addr} {fd : FuncData} (n_isinstance : mg "isinstance" = none) (n_len : mg "len" = none) (n_tuple : mg "tuple" = none) {cdv : Value} {A : Around} {outer : List Env} {s : Shared} {H : Hp} {E : XK} (hr : Room 2 (A.deeper (envOfC "is_row" (defScope st_is_row) s.heap.objs.size f cdv))) : PSs (cxOf (L2.CX P w) P w K mg base N_is_row "is_row" (defScope st_is_row) f cdv A outer s H E) (defBody st_is_row) (t_is_row K cs E) := by
  have tk : Takes (cxOf (L2.CX P w) P w K mg base N_is_row "is_row" (defScope st_is_row) f cdv A outer s H E) (WF E) := takes_of rfl rfl rfl rfl
  have po : PassesOwn (model P w) (A.deeper (envOfC "is_row" (defScope st_is_row) s.heap.objs.size f cdv)) (envOfC "is_row" (defScope st_is_row) s.heap.objs.size f cdv) (cxOf (L2.CX P w) P w K mg base N_is_row "is_row" (defScope st_is_row) f cdv A outer s H E).xe := passes_of rfl
  exact (pss_one (ps_ret (pe_and (pe_callB call_isi (by rfl) n_isinstance bt_isinstance (pa_cons (pv 0) (pa_cons (pe_bltn (by rfl) n_tuple bt_tuple rfl) pa_nil))) (pe_one (pe_or (pe_cmpR o_is (pv 1) pe_non (nomark _)) (pe_one (pe_cmpR (o_eq hr.units) (pe_callB c_len (by rfl) n_len bt_len (pa_cons (pv 0) pa_nil)) (pv 1) (nomark _))))))))
theorem sc_are_numbers : FnScope N_are_numbers ps_are_numbers (defScope st_are_numbers) := ⟨rfl, rfl, rfl, by decide +kernel, rfl, by decide +kernel, by decide +kernel⟩
theorem pss_are_numbers {f : Addr} {fd : FuncData} {f_is_number : Addr} {fd_is_number : FuncData} (g_is_number : GF P w K mg base "is_number" ps_is_number 3 (sp_is_number cs) f_is_number fd_is_number) {f_is_row : Addr} {fd_is_row : FuncData} (g_is_row : GF P w K mg base "is_row" ps_is_row 3 (sp_is_row cs) f_is_row fd_is_row) (n_all : mg "all" = none) (b_is_number_3 : Bd K fd_is_number ps_is_number []) (b_is_row_1 : Bd K fd_is_row ps_is_row [.non]) {cdv : Value} {A : Around} {outer : List Env} {s : Shared} {H : Hp} {E : XK} (hr : Room 3 (A.deeper (envOfC "are_numbers" (defScope st_are_numbers) s.heap.objs.size f cdv))) : PSs (cxOf (L2.CX P w) P w K mg base N_are_numbers "are_numbers" (defScope st_are_numbers) f cdv A outer s H E) (defBody st_are_numbers) (t_are_numbers K cs E) := by
  have tk : Takes (cxOf (L2.CX P w) P w K mg base N_are_numbers "are_numbers" (defScope st_are_numbers) f cdv A outer s H E) (WF E) := takes_of rfl rfl rfl rfl
  have po : PassesOwn (model P w) (A.deeper (envOfC "are_numbers" (defScope st_are_numbers) s.heap.objs.size f cdv)) (envOfC "are_numbers" (defScope st_are_numbers) s.heap.objs.size f cdv) (cxOf (L2.CX P w) P w K mg base N_are_numbers "are_numbers" (defScope st_are_numbers) f cdv A outer s H E).xe := passes_of rfl
  exact (pss_one (ps_ret (pe_and (pe_D g_is_row (hr.mono (by decide)) b_is_row_1 tk (pa_cons (pv 0) pa_nil)) (pe_one (pe_callB (cr_all rfl) (by rfl) n_all bt_all (pa_cons (pe_lc (own := [("one", 3)]) rfl sc_are_numbers.nd (pi_seq (pv 0)) (blkOk_by (own := [("one", 3)]) (N := N_are_numbers) (sc := defScope st_are_numbers) (by decide +kernel)) (fun _ _ _ _ _ => (pg_name (i := 3) sc_are_numbers.nd rfl (Or.inl rfl))) (fun _ _ _ _ _ => pts_nil) (fun _ _ _ _ _ => (pe_D g_is_number (hr.mono (by decide)) b_is_number_3 takes0 (pa_cons (pv 3) (pa_cons (pv 2) (pa_cons (pv 1) pa_nil)))))) pa_nil))))))
theorem sc_is_door : FnScope N_is_door ps_is_door (defScope st_is_door) := ⟨rfl, rfl, rfl, by decide +kernel, rfl, by decide +kernel, by decide +kernel⟩
theorem pss_is_door {f : Addr} {fd : FuncData} {f_is_number : Addr} {fd_is_number : FuncData} (g_is_number : GF P w K mg base "is_number" ps_is_number 3 (sp_is_number cs) f_is_number fd_is_number) {f_is_row : Addr} {fd_is_row : FuncData} (g_is_row : GF P w K mg base "is_row" ps_is_row 3 (sp_is_row cs) f_is_row fd_is_row) (b_is_number_2 : Bd K fd_is_number ps_is_number [.non]) (b_is_number_3 : Bd K fd_is_number ps_is_number []) (b_is_row_2 : Bd K fd_is_row ps_is_row []) {cdv : Value} {A : Around} {outer : List Env} {s : Shared} {H : Hp} {E : XK} (hr : Room 3 (A.deeper (envOfC "is_door" (defScope st_is_door) s.heap.objs.size f cdv))) : PSs (cxOf (L2.CX P w) P w K mg base N_is_door "is_door" (defScope st_is_door) f cdv A outer s H E) (defBody st_is_door) (t_is_door K cs E) := by
  have tk : Takes (cxOf (L2.CX P w) P w K mg base N_is_door "is_door" (defScope st_is_door) f cdv A outer s H E) (WF E) := takes_of rfl rfl rfl rfl
  have po : PassesOwn (model P w) (A.deeper (envOfC "is_door" (defScope st_is_door) s.heap.objs.size f cdv)) (envOfC "is_door" (defScope st_is_door) s.heap.objs.size f cdv) (cxOf (L2.CX P w) P w K mg base N_is_door "is_door" (defScope st_is_door) f cdv A outer s H E).xe := passes_of rfl
  exact (pss_cons (ps_if (PW.pt (pw_or (pt_not (pt_val (pe_D g_is_row (hr.mono (by decide)) b_is_row_2 tk (pa_cons (pv 1) (pa_cons pe_int pa_nil))))) (pw_or1 (pt_not (pt_val (pe_D g_is_number (hr.mono (by decide)) b_is_number_2 tk (pa_cons (pe_ix ix_seq (pv 1) pe_int (fun _ _ => rfl)) (pa_cons pe_int pa_nil)))))))) (pss_one (ps_ret pe_bl)) pss_nil)
    (pss_one (ps_ret (pe_D g_is_number (hr.mono (by decide)) b_is_number_3 tk (pa_cons (pe_ix ix_seq (pv 1) pe_int (fun _ _ => rfl)) (pa_cons (pe_op o_add (pe_ix ix_seq (pv 1) pe_int (fun _ _ => rfl)) pe_int) (pa_cons (pe_op o_sub (pv 0) pe_int) pa_nil)))))))
theorem sc_house_fault : FnScope N_house_fault ps_house_fault (defScope st_house_fault) := ⟨rfl, rfl, rfl, by decide +kernel, rfl, by decide +kernel, by decide +kernel⟩
theorem pss_house_fault {f : Addr} {fd : FuncData} {tk_MOST_COLOUR : Tok} (k_MOST_COLOUR : mg "MOST_COLOUR" = some (.int 9 tk_MOST_COLOUR)) {f_are_numbers : Addr} {fd_are_numbers : FuncData} (g_are_numbers : GF P w K mg base "are_numbers" ps_are_numbers 4 (sp_are_numbers cs) f_are_numbers fd_are_numbers) {f_is_door : Addr} {fd_is_door : FuncData} (g_is_door : GF P w K mg base "is_door" ps_is_door 4 (sp_is_door cs) f_is_door fd_is_door) {f_is_row : Addr} {fd_is_row : FuncData} (g_is_row : GF P w K mg base "is_row" ps_is_row 3 (sp_is_row cs) f_is_row fd_is_row) (n_enumerate : mg "enumerate" = none) (n_len : mg "len" = none) (b_are_numbers_2 : Bd K fd_are_numbers ps_are_numbers [.int 0]) (b_is_door_2 : Bd K fd_is_door ps_is_door []) (b_is_row_1 : Bd K fd_is_row ps_is_row [.non]) (b_is_row_2 : Bd K fd_is_row ps_is_row []) {cdv : Value} {A : Around} {outer : List Env} {s : Shared} {H : Hp} {E : XK} (hr : Room 4 (A.deeper (envOfC "house_fault" (defScope st_house_fault) s.heap.objs.size f cdv))) : PSs (cxOf (L2.CX P w) P w K mg base N_house_fault "house_fault" (defScope st_house_fault) f cdv A outer s H E) (defBody st_house_fault) (t_house_fault K cs E) := by
  have tk : Takes (cxOf (L2.CX P w) P w K mg base N_house_fault "house_fault" (defScope st_house_fault) f cdv A outer s H E) (WF E) := takes_of rfl rfl rfl rfl
  have po : PassesOwn (model P w) (A.deeper (envOfC "house_fault" (defScope st_house_fault) s.heap.objs.size f cdv)) (envOfC "house_fault" (defScope st_house_fault) s.heap.objs.size f cdv) (cxOf (L2.CX P w) P w K mg base N_house_fault "house_fault" (defScope st_house_fault) f cdv A outer s H E).xe := passes_of rfl
  exact (pss_cons (ps_if (PW.pt (pw_or (pt_not (pt_val (pe_D g_is_row (hr.mono (by decide)) b_is_row_2 tk (pa_cons (pv 0) (pa_cons pe_int pa_nil))))) (pw_or (pt_not (pt_val (pe_D g_is_row (hr.mono (by decide)) b_is_row_1 tk (pa_cons (pe_ix ix_seq (pv 0) pe_int (fun _ _ => rfl)) pa_nil)))) (pw_or1 (pt_not (pt_val (pe_D g_is_row (hr.mono (by decide)) b_is_row_1 tk (pa_cons (pe_ix ix_seq (pv 0) pe_int (fun _ _ => rfl)) pa_nil)))))))) (pss_one (ps_ret (pe_tup (pa_cons pe_str pa_nil)))) pss_nil)
    (pss_cons (ps_if (pt_cmpR o_gt (pe_callB c_len (by rfl) n_len bt_len (pa_cons (pe_ix ix_seq (pv 0) pe_int (fun _ _ => rfl)) pa_nil)) (pv 1) (nomark _)) (pss_one (ps_ret (pe_tup (pa_cons pe_str pa_nil)))) pss_nil)
    (pss_cons (ps_if (pt_not (pt_val (pe_D g_are_numbers (hr.mono (by decide)) b_are_numbers_2 tk (pa_cons (pe_ix ix_seq (pv 0) pe_int (fun _ _ => rfl)) (pa_cons (pe_glob (by rfl) k_MOST_COLOUR ⟨_, rfl⟩) pa_nil))))) (pss_one (ps_ret (pe_tup (pa_cons pe_str pa_nil)))) pss_nil)
    (pss_cons (ps_for po rfl (pi_enumA (by rfl) n_enumerate (pa_cons (pe_ix ix_seq (pv 0) pe_int (fun _ _ => rfl)) pa_nil)) (pg_tup rfl (pgs_cons (pg_name (i := 2) sc_house_fault.nd rfl (Or.inl rfl)) (pgs_cons (pg_name (i := 3) sc_house_fault.nd rfl (Or.inl rfl)) pgs_nil))) (pss_one (ps_if (PW.pt (pw_or (pt_not (pt_val (pe_D g_is_door (hr.mono (by decide)) b_is_door_2 tk (pa_cons (pe_callB c_len (by rfl) n_len bt_len (pa_cons (pe_ix ix_seq (pv 0) pe_int (fun _ _ => rfl)) pa_nil)) (pa_cons (pv 3) pa_nil))))) (pw_or1 (PW.pt (pw_and (pt_cmpR o_gt (pv 2) pe_int (nomark _)) (pw_and1 (pt_cmpR (o_le hr.units0) (pv 3) (pe_ix ix_seq (pe_ix ix_seq (pv 0) pe_int (fun _ _ => rfl)) (pe_op o_sub (pv 2) pe_int) (fun _ _ => rfl)) (nomark _)))))))) (pss_one (ps_ret (pe_tup (pa_cons (pv 2) pa_nil)))) pss_nil)))
    (pss_one (ps_ret (pe_tup pa_nil)))))))
theorem sc_need_house : FnScope N_need_house ps_need_house (defScope st_need_house) := ⟨rfl, rfl, rfl, by decide +kernel, rfl, by decide +kernel, by decide +kernel⟩
theorem pss_need_house {f : Addr} {fd : FuncData} {tk_MOST_ROOMS : Tok} (k_MOST_ROOMS : mg "MOST_ROOMS" = some (.int 60 tk_MOST_ROOMS)) {f_house_fault : Addr} {fd_house_fault : FuncData} (g_house_fault : GF P w K mg base "house_fault" ps_house_fault 5 (sp_house_fault cs) f_house_fault fd_house_fault) (T_BadHouse : PySem.BadX.BadTxt P K mg "BadHouse" "place" cs.BadHouse) (b_house_fault_2 : Bd K fd_house_fault ps_house_fault []) {cdv : Value} {A : Around} {outer : List Env} {s : Shared} {H : Hp} {E : XK} (hr : Room 5 (A.deeper (envOfC "need_house" (defScope st_need_house) s.heap.objs.size f cdv))) : PSs (cxOf (L2.CX P w) P w K mg base N_need_house "need_house" (defScope st_need_house) f cdv A outer s H E) (defBody st_need_house) (t_need_house K cs E) := by
  have tk : Takes (cxOf (L2.CX P w) P w K mg base N_need_house "need_house" (defScope st_need_house) f cdv A outer s H E) (WF E) := takes_of rfl rfl rfl rfl
  have po : PassesOwn (model P w) (A.deeper (envOfC "need_house" (defScope st_need_house) s.heap.objs.size f cdv)) (envOfC "need_house" (defScope st_need_house) s.heap.objs.size f cdv) (cxOf (L2.CX P w) P w K mg base N_need_house "need_house" (defScope st_need_house) f cdv A outer s H E).xe := passes_of rfl
  exact (pss_cons (ps_set (i := 1) sc_need_house.nd rfl (Or.inl rfl) (pe_D g_house_fault (hr.mono (by decide)) b_house_fault_2 tk (pa_cons (pv 0) (pa_cons (pe_glob (by rfl) k_MOST_ROOMS ⟨_, rfl⟩) pa_nil))))
    (pss_cons (ps_if (pt_cmpR (o_ne hr.units) (pv 1) (pe_tup pa_nil) (nomark _)) (pss_one (ps_raise rfl tk (pmk_bad T_BadHouse hr (pa_cons (pe_ix ix_seq (pv 1) pe_int (fun _ _ => rfl)) pa_nil)))) pss_nil)
    (pss_one (ps_ret (pv 0)))))
theorem sc_house_text : FnScope N_house_text ps_house_text (defScope st_house_text) := ⟨rfl, rfl, rfl, by decide +kernel, rfl, by decide +kernel, by decide +kernel⟩
theorem pss_house_text {f : Addr} {fd : FuncData} {f_need_house : Addr} {fd_need_house : FuncData} (g_need_house : GF P w K mg base "need_house" ps_need_house 6 (sp_need_house cs) f_need_house fd_need_house) (n_str : mg "str" = none) (b_need_house_1 : Bd K fd_need_house ps_need_house []) {cdv : Value} {A : Around} {outer : List Env} {s : Shared} {H : Hp} {E : XK} (hr : Room 6 (A.deeper (envOfC "house_text" (defScope st_house_text) s.heap.objs.size f cdv))) : PSs (cxOf (L2.CX P w) P w K mg base N_house_text "house_text" (defScope st_house_text) f cdv A outer s H E) (defBody st_house_text) (t_house_text K cs E) := by
  have tk : Takes (cxOf (L2.CX P w) P w K mg base N_house_text "house_text" (defScope st_house_text) f cdv A outer s H E) (WF E) := takes_of rfl rfl rfl rfl
  have po : PassesOwn (model P w) (A.deeper (envOfC "house_text" (defScope st_house_text) s.heap.objs.size f cdv)) (envOfC "house_text" (defScope st_house_text) s.heap.objs.size f cdv) (cxOf (L2.CX P w) P w K mg base N_house_text "house_text" (defScope st_house_text) f cdv A outer s H E).xe := passes_of rfl
  exact (pss_cons (ps_expr (pe_D g_need_house (hr.mono (by decide)) b_need_house_1 tk (pa_cons (pv 0) pa_nil)))
    (pss_cons (ps_setLc (i := 1) (own := [("low", 2), ("high", 3)]) rfl sc_house_text.nd rfl rfl (sw_true rfl rfl rfl (by decide +kernel)) (pi_seq (pe_ix ix_seq (pv 0) pe_int (fun _ _ => rfl))) (blkOk_by (own := [("low", 2), ("high", 3)]) (N := N_house_text) (sc := defScope st_house_text) (by decide +kernel)) (fun _ _ _ _ _ => (pg_tup rfl (pgs_cons (pg_name (i := 2) sc_house_text.nd rfl (Or.inl rfl)) (pgs_cons (pg_name (i := 3) sc_house_text.nd rfl (Or.inl rfl)) pgs_nil)))) (fun _ _ _ _ _ => pts_nil) (fun _ _ _ _ _ => (pe_op o_add (pe_op o_add (pe_callTy c_str (by rfl) n_str bt_str (pa_cons (pv 2) pa_nil)) pe_str) (pe_callTy c_str (by rfl) n_str bt_str (pa_cons (pv 3) pa_nil)))))
    (pss_one (ps_ret (pe_join pe_str (pe_op o_add (pe_lst (pa_cons (pe_op o_add (pe_join pe_str (pe_lc (own := [("colour", 4)]) rfl sc_house_text.nd (pi_seq (pe_ix ix_seq (pv 0) pe_int (fun _ _ => rfl))) (blkOk_by (own := [("colour", 4)]) (N := N_house_text) (sc := defScope st_house_text) (by decide +kernel)) (fun _ _ _ _ _ => (pg_name (i := 4) sc_house_text.nd rfl (Or.inl rfl))) (fun _ _ _ _ _ => pts_nil) (fun _ _ _ _ _ => (pe_callTy c_str (by rfl) n_str bt_str (pa_cons (pv 4) pa_nil))))) pe_str) pa_nil)) (pv 1)))))))
theorem sc_number_of : FnScope N_number_of ps_number_of (defScope st_number_of) := ⟨rfl, rfl, rfl, by decide +kernel, rfl, by decide +kernel, by decide +kernel⟩
theorem pss_number_of {f : Addr} {fd : FuncData} {tk_DIGITS : Tok} (k_DIGITS : mg "DIGITS" = some (.str "0123456789" tk_DIGITS)) (n_all : mg "all" = none) (n_int : mg "int" = none) (n_len : mg "len" = none) {cdv : Value} {A : Around} {outer : List Env} {s : Shared} {H : Hp} {E : XK} (hr : Room 2 (A.deeper (envOfC "number_of" (defScope st_number_of) s.heap.objs.size f cdv))) : PSs (cxOf (L2.CX P w) P w K mg base N_number_of "number_of" (defScope st_number_of) f cdv A outer s H E) (defBody st_number_of) (t_number_of K cs E) := by
  have tk : Takes (cxOf (L2.CX P w) P w K mg base N_number_of "number_of" (defScope st_number_of) f cdv A outer s H E) (WF E) := takes_of rfl rfl rfl rfl
  have po : PassesOwn (model P w) (A.deeper (envOfC "number_of" (defScope st_number_of) s.heap.objs.size f cdv)) (envOfC "number_of" (defScope st_number_of) s.heap.objs.size f cdv) (cxOf (L2.CX P w) P w K mg base N_number_of "number_of" (defScope st_number_of) f cdv A outer s H E).xe := passes_of rfl
  exact (pss_cons (ps_if (PW.pt (pw_or (pt_cmpR (o_notin hr.units5) (pe_callB c_len (by rfl) n_len bt_len (pa_cons (pv 0) pa_nil)) (pe_tup (pa_cons pe_int (pa_cons pe_int pa_nil))) (by rfl)) (pw_or (pt_not (pt_val (pe_callB (cr_all rfl) (by rfl) n_all bt_all (pa_cons (pe_lc (own := [("sign", 1)]) rfl sc_number_of.nd (pi_str (pv 0)) (blkOk_by (own := [("sign", 1)]) (N := N_number_of) (sc := defScope st_number_of) (by decide +kernel)) (fun _ _ _ _ _ => (pg_name (i := 1) sc_number_of.nd rfl (Or.inl rfl))) (fun _ _ _ _ _ => pts_nil) (fun _ _ _ _ _ => (pe_cmpR (o_in hr.units5) (pv 1) (pe_glob (by rfl) k_DIGITS ⟨_, rfl⟩) (by rfl)))) pa_nil)))) (pw_or1 (PW.pt (pw_and (pt_cmpR (o_eq hr.units) (pe_callB c_len (by rfl) n_len bt_len (pa_cons (pv 0) pa_nil)) pe_int (nomark _)) (pw_and1 (pt_cmpR (o_eq hr.units) (pe_ix ix_seq (pv 0) pe_int (fun _ _ => rfl)) pe_str (nomark _))))))))) (pss_one (ps_ret pe_non)) pss_nil)
    (pss_one (ps_ret (pe_callTy c_int (by rfl) n_int bt_int (pa_cons (pv 0) pa_nil)))))
theorem sc_read_door : FnScope N_read_door ps_read_door (defScope st_read_door) := ⟨rfl, rfl, rfl, by decide +kernel, rfl, by decide +kernel, by decide +kernel⟩
theorem pss_read_door {f : Addr} {fd : FuncData} {f_number_of : Addr} {fd_number_of : FuncData} (g_number_of : GF P w K mg base "number_of" ps_number_of 3 (sp_number_of cs) f_number_of fd_number_of) (b_number_of_1 : Bd K fd_number_of ps_number_of []) {cdv : Value} {A : Around} {outer : List Env} {s : Shared} {H : Hp} {E : XK} (hr : Room 3 (A.deeper (envOfC "read_door" (defScope st_read_door) s.heap.objs.size f cdv))) : PSs (cxOf (L2.CX P w) P w K mg base N_read_door "read_door" (defScope st_read_door) f cdv A outer s H E) (defBody st_read_door) (t_read_door K cs E) := by
  have tk : Takes (cxOf (L2.CX P w) P w K mg base N_read_door "read_door" (defScope st_read_door) f cdv A outer s H E) (WF E) := takes_of rfl rfl rfl rfl
  have po : PassesOwn (model P w) (A.deeper (envOfC "read_door" (defScope st_read_door) s.heap.objs.size f cdv)) (envOfC "read_door" (defScope st_read_door) s.heap.objs.size f cdv) (cxOf (L2.CX P w) P w K mg base N_read_door "read_door" (defScope st_read_door) f cdv A outer s H E).xe := passes_of rfl
  exact (pss_cons (ps_asg (pe_partition (pv 0) pe_str) (pg_tup rfl (pgs_cons (pg_name (i := 1) sc_read_door.nd rfl (Or.inl rfl)) (pgs_cons (pg_name (i := 2) sc_read_door.nd rfl (Or.inl rfl)) (pgs_cons (pg_name (i := 3) sc_read_door.nd rfl (Or.inl rfl)) pgs_nil)))))
    (pss_cons (ps_set (i := 4) sc_read_door.nd rfl (Or.inl rfl) (pe_tup (pa_cons (pe_D g_number_of (hr.mono (by decide)) b_number_of_1 tk (pa_cons (pv 1) pa_nil)) (pa_cons (pe_D g_number_of (hr.mono (by decide)) b_number_of_1 tk (pa_cons (pv 3) pa_nil)) pa_nil))))
    (pss_one (ps_ret (pe_ifExp (PW.pt (pw_or (pt_cmpR (o_eq hr.units) (pv 2) pe_str (nomark _)) (pw_or1 (pt_cmpR (o_in hr.units5) pe_non (pv 4) (by rfl))))) pe_non (pv 4))))))
theorem sc_read_house : FnScope N_read_house ps_read_house (defScope st_read_house) := ⟨rfl, rfl, rfl, by decide +kernel, rfl, by decide +kernel, by decide +kernel⟩
theorem pss_read_house {f : Addr} {fd : FuncData} {tk_DIGITS : Tok} (k_DIGITS : mg "DIGITS" = some (.str "0123456789" tk_DIGITS)) {tk_MOST_ROOMS : Tok} (k_MOST_ROOMS : mg "MOST_ROOMS" = some (.int 60 tk_MOST_ROOMS)) {f_house_fault : Addr} {fd_house_fault : FuncData} (g_house_fault : GF P w K mg base "house_fault" ps_house_fault 5 (sp_house_fault cs) f_house_fault fd_house_fault) {f_read_door : Addr} {fd_read_door : FuncData} (g_read_door : GF P w K mg base "read_door" ps_read_door 4 (sp_read_door cs) f_read_door fd_read_door) (n_all : mg "all" = none) (n_int : mg "int" = none) (n_isinstance : mg "isinstance" = none) (n_str : mg "str" = none) (n_tuple : mg "tuple" = none) (T_BadText : PySem.BadX.BadTxt P K mg "BadText" "line" cs.BadText) (b_house_fault_2 : Bd K fd_house_fault ps_house_fault []) (b_read_door_1 : Bd K fd_read_door ps_read_door []) {cdv : Value} {A : Around} {outer : List Env} {s : Shared} {H : Hp} {E : XK} (hr : Room 5 (A.deeper (envOfC "read_house" (defScope st_read_house) s.heap.objs.size f cdv))) : PSs (cxOf (L2.CX P w) P w K mg base N_read_house "read_house" (defScope st_read_house) f cdv A outer s H E) (defBody st_read_house) (t_read_house K cs E) := by
  have tk : Takes (cxOf (L2.CX P w) P w K mg base N_read_house "read_house" (defScope st_read_house) f cdv A outer s H E) (WF E) := takes_of rfl rfl rfl rfl
  have po : PassesOwn (model P w) (A.deeper (envOfC "read_house" (defScope st_read_house) s.heap.objs.size f cdv)) (envOfC "read_house" (defScope st_read_house) s.heap.objs.size f cdv) (cxOf (L2.CX P w) P w K mg base N_read_house "read_house" (defScope st_read_house) f cdv A outer s H E).xe := passes_of rfl
  exact (pss_cons (ps_if (pt_not (pt_val (pe_callB call_isi (by rfl) n_isinstance bt_isinstance (pa_cons (pv 0) (pa_cons (pe_bltn (by rfl) n_str bt_str rfl) pa_nil))))) (pss_one (ps_raise rfl tk (pmk_bad T_BadText hr (pa_cons pe_non pa_nil)))) pss_nil)
    (pss_cons (ps_set (i := 1) sc_read_house.nd rfl (Or.inl rfl) (pe_split (pv 0) pe_str))
    (pss_cons (ps_setLc (i := 2) (own := [("word", 3)]) rfl sc_read_house.nd rfl rfl (sw_true rfl rfl rfl (by decide +kernel)) (pi_seq (pe_slice sl_any (pv 1) (po_some pe_int) po_none)) (blkOk_by (own := [("word", 3)]) (N := N_read_house) (sc := defScope st_read_house) (by decide +kernel)) (fun _ _ _ _ _ => (pg_name (i := 3) sc_read_house.nd rfl (Or.inl rfl))) (fun _ _ _ _ _ => pts_nil) (fun _ _ _ _ _ => (pe_D g_read_door (hr.mono (by decide)) b_read_door_1 takes0 (pa_cons (pv 3) pa_nil))))
    (pss_cons (ps_if (PW.pt (pw_or (pt_cmpR (o_ne hr.units) (pe_slice sl_any (pe_ix ix_seq (pv 1) pe_int (fun _ _ => rfl)) (po_some (pe_un un_neg pe_int)) po_none) pe_str (nomark _)) (pw_or (pt_not (pt_val (pe_callB (cr_all rfl) (by rfl) n_all bt_all (pa_cons (pe_lc (own := [("sign", 4)]) rfl sc_read_house.nd (pi_str (pe_slice sl_any (pe_ix ix_seq (pv 1) pe_int (fun _ _ => rfl)) po_none (po_some (pe_un un_neg pe_int)))) (blkOk_by (own := [("sign", 4)]) (N := N_read_house) (sc := defScope st_read_house) (by decide +kernel)) (fun _ _ _ _ _ => (pg_name (i := 4) sc_read_house.nd rfl (Or.inl rfl))) (fun _ _ _ _ _ => pts_nil) (fun _ _ _ _ _ => (pe_cmpR (o_in hr.units5) (pv 4) (pe_glob (by rfl) k_DIGITS ⟨_, rfl⟩) (by rfl)))) pa_nil)))) (pw_or1 (pt_cmpR (o_in hr.units5) pe_non (pv 2) (by rfl)))))) (pss_one (ps_raise rfl tk (pmk_bad T_BadText hr (pa_cons pe_int pa_nil)))) pss_nil)
    (pss_cons (ps_set (i := 5) sc_read_house.nd rfl (Or.inl rfl) (pe_tup (pa_cons (pe_callTy c_tuple (by rfl) n_tuple bt_tuple (pa_cons (pe_lc (own := [("sign", 4)]) rfl sc_read_house.nd (pi_str (pe_slice sl_any (pe_ix ix_seq (pv 1) pe_int (fun _ _ => rfl)) po_none (po_some (pe_un un_neg pe_int)))) (blkOk_by (own := [("sign", 4)]) (N := N_read_house) (sc := defScope st_read_house) (by decide +kernel)) (fun _ _ _ _ _ => (pg_name (i := 4) sc_read_house.nd rfl (Or.inl rfl))) (fun _ _ _ _ _ => pts_nil) (fun _ _ _ _ _ => (pe_callTy c_int (by rfl) n_int bt_int (pa_cons (pv 4) pa_nil)))) pa_nil)) (pa_cons (pe_callTy c_tuple (by rfl) n_tuple bt_tuple (pa_cons (pv 2) pa_nil)) pa_nil))))
    (pss_cons (ps_if (pt_cmpR (o_ne hr.units) (pe_D g_house_fault (hr.mono (by decide)) b_house_fault_2 tk (pa_cons (pv 5) (pa_cons (pe_glob (by rfl) k_MOST_ROOMS ⟨_, rfl⟩) pa_nil))) (pe_tup pa_nil) (nomark _)) (pss_one (ps_raise rfl tk (pmk_bad T_BadText hr (pa_cons pe_int pa_nil)))) pss_nil)
    (pss_one (ps_ret (pv 5)))))))))
theorem sc__law_mixed : FnScope N__law_mixed ps__law_mixed (defScope st__law_mixed) := ⟨rfl, rfl, rfl, by decide +kernel, rfl, by decide +kernel, by decide +kernel⟩
theorem pss__law_mixed {f : Addr} {fd : FuncData} (n_int : mg "int" = none) {cdv : Value} {A : Around} {outer : List Env} {s : Shared} {H : Hp} {E : XK} (hr : Room 2 (A.deeper (envOfC "_law_mixed" (defScope st__law_mixed) s.heap.objs.size f cdv))) : PSs (cxOf (L2.CX P w) P w K mg base N__law_mixed "_law_mixed" (defScope st__law_mixed) f cdv A outer s H E) (defBody st__law_mixed) (t__law_mixed K cs E) := by
  have tk : Takes (cxOf (L2.CX P w) P w K mg base N__law_mixed "_law_mixed" (defScope st__law_mixed) f cdv A outer s H E) (WF E) := takes_of rfl rfl rfl rfl
  have po : PassesOwn (model P w) (A.deeper (envOfC "_law_mixed" (defScope st__law_mixed) s.heap.objs.size f cdv)) (envOfC "_law_mixed" (defScope st__law_mixed) s.heap.objs.size f cdv) (cxOf (L2.CX P w) P w K mg base N__law_mixed "_law_mixed" (defScope st__law_mixed) f cdv A outer s H E).xe := passes_of rfl
  exact (pss_cons (ps_set (i := 2) sc__law_mixed.nd rfl (Or.inl rfl) (pe_op o_add (pe_op o_add (pe_op o_mod (pe_callTy c_int (by rfl) n_int bt_int (pa_cons (pe_op o_mul (pe_op o_mul (pv 0) (pe_op o_add pe_int (pe_op o_mul pe_int (pv 1)))) pe_int) pa_nil)) pe_int) (pe_op o_mul (pe_op o_mul pe_int (pv 1)) (pv 1))) (pe_op o_mul pe_int (pv 1))))
    (pss_one (ps_ret (pe_op o_div (pe_op o_mod (pe_callTy c_int (by rfl) n_int bt_int (pa_cons (pe_op o_mul (pv 2) pe_int) pa_nil)) pe_int) pe_int))))
theorem sc__law_folded : FnScope N__law_folded ps__law_folded (defScope st__law_folded) := ⟨rfl, rfl, rfl, by decide +kernel, rfl, by decide +kernel, by decide +kernel⟩
theorem pss__law_folded {f : Addr} {fd : FuncData} (n_enumerate : mg "enumerate" = none) (n_int : mg "int" = none) (n_range : mg "range" = none) {cdv : Value} {A : Around} {outer : List Env} {s : Shared} {H : Hp} {E : XK} (hr : Room 2 (A.deeper (envOfC "_law_folded" (defScope st__law_folded) s.heap.objs.size f cdv))) : PSs (cxOf (L2.CX P w) P w K mg base N__law_folded "_law_folded" (defScope st__law_folded) f cdv A outer s H E) (defBody st__law_folded) (t__law_folded K cs E) := by
  have tk : Takes (cxOf (L2.CX P w) P w K mg base N__law_folded "_law_folded" (defScope st__law_folded) f cdv A outer s H E) (WF E) := takes_of rfl rfl rfl rfl
  have po : PassesOwn (model P w) (A.deeper (envOfC "_law_folded" (defScope st__law_folded) s.heap.objs.size f cdv)) (envOfC "_law_folded" (defScope st__law_folded) s.heap.objs.size f cdv) (cxOf (L2.CX P w) P w K mg base N__law_folded "_law_folded" (defScope st__law_folded) f cdv A outer s H E).xe := passes_of rfl
  exact (pss_cons (ps_setLc (i := 1) (own := [("n", 2)]) rfl sc__law_folded.nd rfl rfl (sw_true rfl rfl rfl (by decide +kernel)) (pi_range1 (by rfl) n_range (pa_cons pe_int pa_nil)) (blkOk_by (own := [("n", 2)]) (N := N__law_folded) (sc := defScope st__law_folded) (by decide +kernel)) (fun _ _ _ _ _ => (pg_name (i := 2) sc__law_folded.nd rfl (Or.inl rfl))) (fun _ _ _ _ _ => pts_nil) (fun _ _ _ _ _ => (pe_op o_add pe_int (pv 2))))
    (pss_cons (ps_for po rfl (pi_enumA (by rfl) n_enumerate (pa_cons (pv 0) pa_nil)) (pg_tup rfl (pgs_cons (pg_name (i := 2) sc__law_folded.nd rfl (Or.inl rfl)) (pgs_cons (pg_name (i := 3) sc__law_folded.nd rfl (Or.inl rfl)) pgs_nil))) (pss_one (ps_asg (pe_op o_mod (pe_callTy c_int (by rfl) n_int bt_int (pa_cons (pe_op o_add (pe_op o_mul (pe_ix ix_seq (pv 1) (pe_op o_mod (pe_callTy c_int (by rfl) n_int bt_int (pa_cons (pv 2) pa_nil)) pe_int) (fun _ _ => rfl)) pe_int) (pv 3)) pa_nil)) pe_int) (pg_sub (pv 1) (pe_op o_mod (pe_callTy c_int (by rfl) n_int bt_int (pa_cons (pv 2) pa_nil)) pe_int) set_list))))
    (pss_cons (ps_for po rfl (pi_range2 (by rfl) n_range (pa_cons pe_int (pa_cons pe_int pa_nil))) (pg_name (i := 2) sc__law_folded.nd rfl (Or.inl rfl)) (pss_one (ps_asg (pe_op o_mod (pe_callTy c_int (by rfl) n_int bt_int (pa_cons (pe_op o_add (pe_ix ix_seq (pv 1) (pv 2) (fun _ _ => rfl)) (pe_op o_mul (pe_ix ix_seq (pv 1) (pe_op o_sub (pv 2) pe_int) (fun _ _ => rfl)) pe_int)) pa_nil)) pe_int) (pg_sub (pv 1) (pv 2) set_list))))
    (pss_one (ps_ret (pv 1))))))
theorem sc__law_draw : FnScope N__law_draw ps__law_draw (defScope st__law_draw) := ⟨rfl, rfl, rfl, by decide +kernel, rfl, by decide +kernel, by decide +kernel⟩
theorem pss__law_draw {f : Addr} {fd : FuncData} {f__law_mixed : Addr} {fd__law_mixed : FuncData} (g__law_mixed : GF P w K mg base "_law_mixed" ps__law_mixed 3 (sp__law_mixed cs) f__law_mixed fd__law_mixed) (n_int : mg "int" = none) (n_len : mg "len" = none) (b__law_mixed_2 : Bd K fd__law_mixed ps__law_mixed []) {cdv : Value} {A : Around} {outer : List Env} {s : Shared} {H : Hp} {E : XK} (hr : Room 3 (A.deeper (envOfC "_law_draw" (defScope st__law_draw) s.heap.objs.size f cdv))) : PSs (cxOf (L2.CX P w) P w K mg base N__law_draw "_law_draw" (defScope st__law_draw) f cdv A outer s H E) (defBody st__law_draw) (t__law_draw K cs E) := by
  have tk : Takes (cxOf (L2.CX P w) P w K mg base N__law_draw "_law_draw" (defScope st__law_draw) f cdv A outer s H E) (WF E) := takes_of rfl rfl rfl rfl
  have po : PassesOwn (model P w) (A.deeper (envOfC "_law_draw" (defScope st__law_draw) s.heap.objs.size f cdv)) (envOfC "_law_draw" (defScope st__law_draw) s.heap.objs.size f cdv) (cxOf (L2.CX P w) P w K mg base N__law_draw "_law_draw" (defScope st__law_draw) f cdv A outer s H E).xe := passes_of rfl
  exact (pss_cons (ps_set (i := 2) sc__law_draw.nd rfl (Or.inl rfl) (pe_dget hr.units1 (pv 0) pe_str (fun _ _ => rfl)))
    (pss_cons (ps_dput hr.units1 (pv 0) pe_str (pe_op o_add (pv 2) pe_int) rfl)
    (pss_cons (ps_if (pt_cmpR (o_ne hr.units) (pe_dget hr.units1 (pv 0) pe_str (fun _ _ => rfl)) (pe_lst pa_nil) (nomark _)) (pss_cons (ps_set (i := 3) sc__law_draw.nd rfl (Or.inl rfl) (pe_dget hr.units1 (pv 0) pe_str (fun _ _ => rfl)))
    (pss_cons (ps_set (i := 4) sc__law_draw.nd rfl (Or.inl rfl) (pe_op o_mod (pe_callTy c_int (by rfl) n_int bt_int (pa_cons (pv 2) pa_nil)) (pe_callB c_len (by rfl) n_len bt_len (pa_cons (pv 3) pa_nil))))
    (pss_cons (ps_set (i := 5) sc__law_draw.nd rfl (Or.inl rfl) (pe_ix ix_seq (pv 3) (pv 4) (fun _ _ => rfl)))
    (pss_one (ps_if (pt_cmpR o_gt (pv 5) pe_int (nomark _)) (pss_cons (ps_asg (pe_op o_div (pv 5) (pv 1)) (pg_sub (pv 3) (pv 4) set_list))
    (pss_one (ps_ret (pe_op o_mod (pe_callTy c_int (by rfl) n_int bt_int (pa_cons (pv 5) pa_nil)) (pv 1))))) pss_nil))))) pss_nil)
    (pss_cons (ps_set (i := 3) sc__law_draw.nd rfl (Or.inl rfl) (pe_dget hr.units1 (pv 0) pe_str (fun _ _ => rfl)))
    (pss_one (ps_ret (pe_op o_mod (pe_callTy c_int (by rfl) n_int bt_int (pa_cons (pe_D g__law_mixed (hr.mono (by decide)) b__law_mixed_2 tk (pa_cons (pe_D g__law_mixed (hr.mono (by decide)) b__law_mixed_2 tk (pa_cons (pe_op o_add (pe_ix ix_seq (pv 3) (pe_op o_mod (pe_callTy c_int (by rfl) n_int bt_int (pa_cons (pv 2) pa_nil)) pe_int) (fun _ _ => rfl)) (pe_op o_mul pe_int (pe_op o_div (pv 2) pe_int))) (pa_cons (pv 2) pa_nil))) (pa_cons (pe_op o_add (pv 2) pe_int) pa_nil))) pa_nil)) (pv 1))))))))
theorem sc__law_begun : FnScope N__law_begun ps__law_begun (defScope st__law_begun) := ⟨rfl, rfl, rfl, by decide +kernel, rfl, by decide +kernel, by decide +kernel⟩
theorem pss__law_begun {f : Addr} {fd : FuncData} {f__law_folded : Addr} {fd__law_folded : FuncData} (g__law_folded : GF P w K mg base "_law_folded" ps__law_folded 3 (sp__law_folded cs) f__law_folded fd__law_folded) (b__law_folded_1 : Bd K fd__law_folded ps__law_folded []) {cdv : Value} {A : Around} {outer : List Env} {s : Shared} {H : Hp} {E : XK} (hr : Room 3 (A.deeper (envOfC "_law_begun" (defScope st__law_begun) s.heap.objs.size f cdv))) : PSs (cxOf (L2.CX P w) P w K mg base N__law_begun "_law_begun" (defScope st__law_begun) f cdv A outer s H E) (defBody st__law_begun) (t__law_begun K cs E) := by
  have tk : Takes (cxOf (L2.CX P w) P w K mg base N__law_begun "_law_begun" (defScope st__law_begun) f cdv A outer s H E) (WF E) := takes_of rfl rfl rfl rfl
  have po : PassesOwn (model P w) (A.deeper (envOfC "_law_begun" (defScope st__law_begun) s.heap.objs.size f cdv)) (envOfC "_law_begun" (defScope st__law_begun) s.heap.objs.size f cdv) (cxOf (L2.CX P w) P w K mg base N__law_begun "_law_begun" (defScope st__law_begun) f cdv A outer s H E).xe := passes_of rfl
  exact (pss_cons (ps_set (i := 1) sc__law_begun.nd rfl (Or.inl rfl) (pe_disp (pps_cons pe_str (pe_D g__law_folded (hr.mono (by decide)) b__law_folded_1 tk (pa_cons (pv 0) pa_nil)) (pps_cons pe_str (pe_lst pa_nil) (pps_cons pe_str pe_int pps_nil))) rfl rfl (by simp) (by decide)))
    (pss_cons (ps_dput hr.units1 (pv 1) pe_str (pe_lc (own := [("cell", 2)]) rfl sc__law_begun.nd (pi_seq (pv 0)) (blkOk_by (own := [("cell", 2)]) (N := N__law_begun) (sc := defScope st__law_begun) (by decide +kernel)) (fun _ _ _ _ _ => (pg_name (i := 2) sc__law_begun.nd rfl (Or.inl rfl))) (fun _ _ _ _ _ => pts_nil) (fun _ _ _ _ _ => (pe_ifExp (pt_cmpR o_ge (pv 2) (pe_op o_pow pe_int pe_int) (nomark _)) (pv 2) pe_int))) rfl)
    (pss_one (ps_ret (pv 1)))))
theorem sc__law_of : FnScope N__law_of ps__law_of (defScope st__law_of) := ⟨rfl, rfl, rfl, by decide +kernel, rfl, by decide +kernel, by decide +kernel⟩
theorem pss__law_of {f : Addr} {fd : FuncData} {f__law_draw : Addr} {fd__law_draw : FuncData} (g__law_draw : GF P w K mg base "_law_draw" ps__law_draw 4 (sp__law_draw cs) f__law_draw fd__law_draw) (n_len : mg "len" = none) (b__law_draw_2 : Bd K fd__law_draw ps__law_draw []) {cdv : Value} {A : Around} {outer : List Env} {s : Shared} {H : Hp} {E : XK} (hr : Room 4 (A.deeper (envOfC "_law_of" (defScope st__law_of) s.heap.objs.size f cdv))) : PSs (cxOf (L2.CX P w) P w K mg base N__law_of "_law_of" (defScope st__law_of) f cdv A outer s H E) (defBody st__law_of) (t__law_of K cs E) := by
  have tk : Takes (cxOf (L2.CX P w) P w K mg base N__law_of "_law_of" (defScope st__law_of) f cdv A outer s H E) (WF E) := takes_of rfl rfl rfl rfl
  have po : PassesOwn (model P w) (A.deeper (envOfC "_law_of" (defScope st__law_of) s.heap.objs.size f cdv)) (envOfC "_law_of" (defScope st__law_of) s.heap.objs.size f cdv) (cxOf (L2.CX P w) P w K mg base N__law_of "_law_of" (defScope st__law_of) f cdv A outer s H E).xe := passes_of rfl
  exact (pss_one (ps_ret (pe_ix ix_seq (pv 1) (pe_D g__law_draw (hr.mono (by decide)) b__law_draw_2 tk (pa_cons (pv 0) (pa_cons (pe_callB c_len (by rfl) n_len bt_len (pa_cons (pv 1) pa_nil)) pa_nil))) (fun _ _ => rfl))))
theorem sc__law_like : FnScope N__law_like ps__law_like (defScope st__law_like) := ⟨rfl, rfl, rfl, by decide +kernel, rfl, by decide +kernel, by decide +kernel⟩
theorem pss__law_like {f : Addr} {fd : FuncData} (n_bool : mg "bool" = none) (n_int : mg "int" = none) (n_isinstance : mg "isinstance" = none) (n_len : mg "len" = none) (n_list : mg "list" = none) (n_range : mg "range" = none) (n_str : mg "str" = none) (n_tuple : mg "tuple" = none) (b__law_like_2 : Bd K fd ps__law_like []) {sp_self : SpD} {kself : Nat} (hself : kself ≤ k0) (g__law_like : GF P w K mg base "_law_like" ps__law_like kself sp_self f fd) {cdv : Value} {A : Around} {outer : List Env} {s : Shared} {H : Hp} {E : XK} (hr : Room k0 (A.deeper (envOfC "_law_like" (defScope st__law_like) s.heap.objs.size f cdv))) : PSs (cxOf (L2.CX P w) P w K mg base N__law_like "_law_like" (defScope st__law_like) f cdv A outer s H E) (defBody st__law_like) (t__law_like K cs sp_self E) := by
  have tk : Takes (cxOf (L2.CX P w) P w K mg base N__law_like "_law_like" (defScope st__law_like) f cdv A outer s H E) (WF E) := takes_of rfl rfl rfl rfl
  have po : PassesOwn (model P w) (A.deeper (envOfC "_law_like" (defScope st__law_like) s.heap.objs.size f cdv)) (envOfC "_law_like" (defScope st__law_like) s.heap.objs.size f cdv) (cxOf (L2.CX P w) P w K mg base N__law_like "_law_like" (defScope st__law_like) f cdv A outer s H E).xe := passes_of rfl
  exact (pss_cons (ps_if (pt_cmpR o_is (pv 1) pe_non (nomark _)) (pss_one (ps_ret (pe_cmpR o_is (pv 0) pe_non (nomark _)))) pss_nil)
    (pss_cons (ps_if (pt_val (pe_callB call_isi (by rfl) n_isinstance bt_isinstance (pa_cons (pv 1) (pa_cons (pe_bltn (by rfl) n_bool bt_bool rfl) pa_nil)))) (pss_one (ps_ret (pe_and (pe_callB call_isi (by rfl) n_isinstance bt_isinstance (pa_cons (pv 0) (pa_cons (pe_bltn (by rfl) n_bool bt_bool rfl) pa_nil))) (pe_one (pe_cmpR (o_eq hr.units) (pv 0) (pv 1) (nomark _)))))) pss_nil)
    (pss_cons (ps_if (pt_val (pe_callB call_isi (by rfl) n_isinstance bt_isinstance (pa_cons (pv 1) (pa_cons (pe_bltn (by rfl) n_int bt_int rfl) pa_nil)))) (pss_one (ps_ret (pe_and (pe_callB call_isi (by rfl) n_isinstance bt_isinstance (pa_cons (pv 0) (pa_cons (pe_bltn (by rfl) n_int bt_int rfl) pa_nil))) (pe_and (pe_not (pe_callB call_isi (by rfl) n_isinstance bt_isinstance (pa_cons (pv 0) (pa_cons (pe_bltn (by rfl) n_bool bt_bool rfl) pa_nil)))) (pe_one (pe_cmpR (o_eq hr.units) (pv 0) (pv 1) (nomark _))))))) pss_nil)
    (pss_cons (ps_if (pt_val (pe_callB call_isi (by rfl) n_isinstance bt_isinstance (pa_cons (pv 1) (pa_cons (pe_bltn (by rfl) n_str bt_str rfl) pa_nil)))) (pss_one (ps_ret (pe_and (pe_callB call_isi (by rfl) n_isinstance bt_isinstance (pa_cons (pv 0) (pa_cons (pe_bltn (by rfl) n_str bt_str rfl) pa_nil))) (pe_one (pe_cmpR (o_eq hr.units) (pv 0) (pv 1) (nomark _)))))) pss_nil)
    (pss_cons (ps_if (PW.pt (pw_or (PW.pt (pw_and (pt_val (pe_callB call_isi (by rfl) n_isinstance bt_isinstance (pa_cons (pv 1) (pa_cons (pe_bltn (by rfl) n_tuple bt_tuple rfl) pa_nil)))) (pw_and1 (pt_not (pt_val (pe_callB call_isi (by rfl) n_isinstance bt_isinstance (pa_cons (pv 0) (pa_cons (pe_bltn (by rfl) n_tuple bt_tuple rfl) pa_nil)))))))) (pw_or1 (PW.pt (pw_and (pt_val (pe_callB call_isi (by rfl) n_isinstance bt_isinstance (pa_cons (pv 1) (pa_cons (pe_bltn (by rfl) n_list bt_list rfl) pa_nil)))) (pw_and1 (pt_not (pt_val (pe_callB call_isi (by rfl) n_isinstance bt_isinstance (pa_cons (pv 0) (pa_cons (pe_bltn (by rfl) n_list bt_list rfl) pa_nil))))))))))) (pss_one (ps_ret pe_bl)) pss_nil)
    (pss_cons (ps_if (pt_cmpR (o_ne hr.units) (pe_callB c_len (by rfl) n_len bt_len (pa_cons (pv 0) pa_nil)) (pe_callB c_len (by rfl) n_len bt_len (pa_cons (pv 1) pa_nil)) (nomark _)) (pss_one (ps_ret pe_bl)) pss_nil)
    (pss_cons (ps_for po rfl (pi_range1 (by rfl) n_range (pa_cons (pe_callB c_len (by rfl) n_len bt_len (pa_cons (pv 1) pa_nil)) pa_nil)) (pg_name (i := 2) sc__law_like.nd rfl (Or.inl rfl)) (pss_one (ps_if (pt_not (pt_val (pe_D g__law_like (hr.mono hself) b__law_like_2 tk (pa_cons (pe_ix ix_seq (pv 0) (pv 2) (fun _ _ => rfl)) (pa_cons (pe_ix ix_seq (pv 1) (pv 2) (fun _ _ => rfl)) pa_nil))))) (pss_one (ps_ret pe_bl)) pss_nil)))
    (pss_one (ps_ret pe_bl)))))))))
theorem sc__law_house : FnScope N__law_house ps__law_house (defScope st__law_house) := ⟨rfl, rfl, rfl, by decide +kernel, rfl, by decide +kernel, by decide +kernel⟩
theorem pss__law_house {f : Addr} {fd : FuncData} {f__law_draw : Addr} {fd__law_draw : FuncData} (g__law_draw : GF P w K mg base "_law_draw" ps__law_draw 4 (sp__law_draw cs) f__law_draw fd__law_draw) (n_range : mg "range" = none) (n_tuple : mg "tuple" = none) (b__law_draw_2 : Bd K fd__law_draw ps__law_draw []) {cdv : Value} {A : Around} {outer : List Env} {s : Shared} {H : Hp} {E : XK} (hr : Room 4 (A.deeper (envOfC "_law_house" (defScope st__law_house) s.heap.objs.size f cdv))) : PSs (cxOf (L2.CX P w) P w K mg base N__law_house "_law_house" (defScope st__law_house) f cdv A outer s H E) (defBody st__law_house) (t__law_house K cs E) := by
  have tk : Takes (cxOf (L2.CX P w) P w K mg base N__law_house "_law_house" (defScope st__law_house) f cdv A outer s H E) (WF E) := takes_of rfl rfl rfl rfl
  have po : PassesOwn (model P w) (A.deeper (envOfC "_law_house" (defScope st__law_house) s.heap.objs.size f cdv)) (envOfC "_law_house" (defScope st__law_house) s.heap.objs.size f cdv) (cxOf (L2.CX P w) P w K mg base N__law_house "_law_house" (defScope st__law_house) f cdv A outer s H E).xe := passes_of rfl
  exact (pss_cons (ps_asg (pe_tup (pa_cons (pe_lst pa_nil) (pa_cons (pe_D g__law_draw (hr.mono (by decide)) b__law_draw_2 tk (pa_cons (pv 0) (pa_cons pe_int pa_nil))) pa_nil))) (pg_tup rfl (pgs_cons (pg_name (i := 3) sc__law_house.nd rfl (Or.inl rfl)) (pgs_cons (pg_name (i := 4) sc__law_house.nd rfl (Or.inr rfl)) pgs_nil))))
    (pss_cons (ps_for po rfl (pi_range1 (by rfl) n_range (pa_cons (pv 1) pa_nil)) (pg_name (i := 5) sc__law_house.nd rfl (Or.inr rfl)) (pss_one (ps_set (i := 3) sc__law_house.nd rfl (Or.inl rfl) (pe_op o_add (pv 3) (pe_lc (own := [("high", 6)]) rfl sc__law_house.nd (pi_range2 (by rfl) n_range (pa_cons (pe_op o_add (pv 5) pe_int) (pa_cons (pv 1) pa_nil))) (blkOk_by (own := [("high", 6)]) (N := N__law_house) (sc := defScope st__law_house) (by decide +kernel)) (fun _ _ _ _ _ => (pg_name (i := 6) sc__law_house.nd rfl (Or.inl rfl))) (fun _ _ _ _ _ => (pts_one (pt_cmpR (o_lt hr.units0) (pe_D g__law_draw (hr.mono (by decide)) b__law_draw_2 takes0 (pa_cons (pv 0) (pa_cons pe_int pa_nil))) (pv 4) (nomark _)))) (fun _ _ _ _ _ => (pe_tup (pa_cons (pv 5) (pa_cons (pv 6) pa_nil)))))))))
    (pss_one (ps_ret (pe_tup (pa_cons (pe_callTy c_tuple (by rfl) n_tuple bt_tuple (pa_cons (pe_lc (own := [("room", 7)]) rfl sc__law_house.nd (pi_range1 (by rfl) n_range (pa_cons (pv 1) pa_nil)) (blkOk_by (own := [("room", 7)]) (N := N__law_house) (sc := defScope st__law_house) (by decide +kernel)) (fun _ _ _ _ _ => (pg_name (i := 7) sc__law_house.nd rfl (Or.inl rfl))) (fun _ _ _ _ _ => pts_nil) (fun _ _ _ _ _ => (pe_D g__law_draw (hr.mono (by decide)) b__law_draw_2 takes0 (pa_cons (pv 0) (pa_cons (pv 2) pa_nil))))) pa_nil)) (pa_cons (pe_callTy c_tuple (by rfl) n_tuple bt_tuple (pa_cons (pv 3) pa_nil)) pa_nil)))))))
theorem sc__law_text : FnScope N__law_text ps__law_text (defScope st__law_text) := ⟨rfl, rfl, rfl, by decide +kernel, rfl, by decide +kernel, by decide +kernel⟩
theorem pss__law_text {f : Addr} {fd : FuncData} (n_str : mg "str" = none) {cdv : Value} {A : Around} {outer : List Env} {s : Shared} {H : Hp} {E : XK} (hr : Room 2 (A.deeper (envOfC "_law_text" (defScope st__law_text) s.heap.objs.size f cdv))) : PSs (cxOf (L2.CX P w) P w K mg base N__law_text "_law_text" (defScope st__law_text) f cdv A outer s H E) (defBody st__law_text) (t__law_text K cs E) := by
  have tk : Takes (cxOf (L2.CX P w) P w K mg base N__law_text "_law_text" (defScope st__law_text) f cdv A outer s H E) (WF E) := takes_of rfl rfl rfl rfl
  have po : PassesOwn (model P w) (A.deeper (envOfC "_law_text" (defScope st__law_text) s.heap.objs.size f cdv)) (envOfC "_law_text" (defScope st__law_text) s.heap.objs.size f cdv) (cxOf (L2.CX P w) P w K mg base N__law_text "_law_text" (defScope st__law_text) f cdv A outer s H E).xe := passes_of rfl
  exact (pss_one (ps_ret (pe_join pe_str (pe_op o_add (pe_lst (pa_cons (pe_op o_add (pe_join pe_str (pe_lc (own := [("colour", 1)]) rfl sc__law_text.nd (pi_seq (pe_ix ix_seq (pv 0) pe_int (fun _ _ => rfl))) (blkOk_by (own := [("colour", 1)]) (N := N__law_text) (sc := defScope st__law_text) (by decide +kernel)) (fun _ _ _ _ _ => (pg_name (i := 1) sc__law_text.nd rfl (Or.inl rfl))) (fun _ _ _ _ _ => pts_nil) (fun _ _ _ _ _ => (pe_callTy c_str (by rfl) n_str bt_str (pa_cons (pv 1) pa_nil))))) pe_str) pa_nil)) (pe_lc (own := [("low", 2), ("high", 3)]) rfl sc__law_text.nd (pi_seq (pe_ix ix_seq (pv 0) pe_int (fun _ _ => rfl))) (blkOk_by (own := [("low", 2), ("high", 3)]) (N := N__law_text) (sc := defScope st__law_text) (by decide +kernel)) (fun _ _ _ _ _ => (pg_tup rfl (pgs_cons (pg_name (i := 2) sc__law_text.nd rfl (Or.inl rfl)) (pgs_cons (pg_name (i := 3) sc__law_text.nd rfl (Or.inl rfl)) pgs_nil)))) (fun _ _ _ _ _ => pts_nil) (fun _ _ _ _ _ => (pe_op o_add (pe_op o_add (pe_callTy c_str (by rfl) n_str bt_str (pa_cons (pv 2) pa_nil)) pe_str) (pe_callTy c_str (by rfl) n_str bt_str (pa_cons (pv 3) pa_nil)))))))))
theorem sc__law_number : FnScope N__law_number ps__law_number (defScope st__law_number) := ⟨rfl, rfl, rfl, by decide +kernel, rfl, by decide +kernel, by decide +kernel⟩
theorem pss__law_number {f : Addr} {fd : FuncData} (n_int : mg "int" = none) (n_len : mg "len" = none) {cdv : Value} {A : Around} {outer : List Env} {s : Shared} {H : Hp} {E : XK} (hr : Room 2 (A.deeper (envOfC "_law_number" (defScope st__law_number) s.heap.objs.size f cdv))) : PSs (cxOf (L2.CX P w) P w K mg base N__law_number "_law_number" (defScope st__law_number) f cdv A outer s H E) (defBody st__law_number) (t__law_number K cs E) := by
  have tk : Takes (cxOf (L2.CX P w) P w K mg base N__law_number "_law_number" (defScope st__law_number) f cdv A outer s H E) (WF E) := takes_of rfl rfl rfl rfl
  have po : PassesOwn (model P w) (A.deeper (envOfC "_law_number" (defScope st__law_number) s.heap.objs.size f cdv)) (envOfC "_law_number" (defScope st__law_number) s.heap.objs.size f cdv) (cxOf (L2.CX P w) P w K mg base N__law_number "_law_number" (defScope st__law_number) f cdv A outer s H E).xe := passes_of rfl
  exact (pss_cons (ps_if (PW.pt (pw_or (pt_cmpR (o_notin hr.units5) (pe_callB c_len (by rfl) n_len bt_len (pa_cons (pv 0) pa_nil)) (pe_lst (pa_cons pe_int (pa_cons pe_int pa_nil))) (by rfl)) (pw_or (pt_cmpR (o_ne hr.units) (pe_lc (own := [("sign", 1)]) rfl sc__law_number.nd (pi_str (pv 0)) (blkOk_by (own := [("sign", 1)]) (N := N__law_number) (sc := defScope st__law_number) (by decide +kernel)) (fun _ _ _ _ _ => (pg_name (i := 1) sc__law_number.nd rfl (Or.inl rfl))) (fun _ _ _ _ _ => (pts_one (pt_cmpR (o_notin hr.units5) (pv 1) pe_str (by rfl)))) (fun _ _ _ _ _ => pe_int)) (pe_lst pa_nil) (nomark _)) (pw_or1 (PW.pt (pw_and (pt_cmpR (o_eq hr.units) (pe_callB c_len (by rfl) n_len bt_len (pa_cons (pv 0) pa_nil)) pe_int (nomark _)) (pw_and1 (pt_cmpR (o_eq hr.units) (pe_ix ix_seq (pv 0) pe_int (fun _ _ => rfl)) pe_str (nomark _))))))))) (pss_one (ps_ret (pe_un un_neg pe_int))) pss_nil)
    (pss_one (ps_ret (pe_callTy c_int (by rfl) n_int bt_int (pa_cons (pv 0) pa_nil)))))
theorem sc__law_due : FnScope N__law_due ps__law_due (defScope st__law_due) := ⟨rfl, rfl, rfl, by decide +kernel, rfl, by decide +kernel, by decide +kernel⟩
theorem pss__law_due {f : Addr} {fd : FuncData} {f__law_number : Addr} {fd__law_number : FuncData} (g__law_number : GF P w K mg base "_law_number" ps__law_number 3 (sp__law_number cs) f__law_number fd__law_number) (n_int : mg "int" = none) (n_len : mg "len" = none) (n_tuple : mg "tuple" = none) (b__law_number_1 : Bd K fd__law_number ps__law_number []) {cdv : Value} {A : Around} {outer : List Env} {s : Shared} {H : Hp} {E : XK} (hr : Room 3 (A.deeper (envOfC "_law_due" (defScope st__law_due) s.heap.objs.size f cdv))) : PSs (cxOf (L2.CX P w) P w K mg base N__law_due "_law_due" (defScope st__law_due) f cdv A outer s H E) (defBody st__law_due) (t__law_due K cs E) := by
  have tk : Takes (cxOf (L2.CX P w) P w K mg base N__law_due "_law_due" (defScope st__law_due) f cdv A outer s H E) (WF E) := takes_of rfl rfl rfl rfl
  have po : PassesOwn (model P w) (A.deeper (envOfC "_law_due" (defScope st__law_due) s.heap.objs.size f cdv)) (envOfC "_law_due" (defScope st__law_due) s.heap.objs.size f cdv) (cxOf (L2.CX P w) P w K mg base N__law_due "_law_due" (defScope st__law_due) f cdv A outer s H E).xe := passes_of rfl
  exact (pss_cons (ps_set (i := 1) sc__law_due.nd rfl (Or.inl rfl) (pe_split (pv 0) pe_str))
    (pss_cons (ps_if (PW.pt (pw_or (pt_cmpR (o_ne hr.units) (pe_slice sl_any (pe_ix ix_seq (pv 1) pe_int (fun _ _ => rfl)) (po_some (pe_un un_neg pe_int)) po_none) pe_str (nomark _)) (pw_or (pt_cmpR (o_ne hr.units) (pe_lc (own := [("sign", 2)]) rfl sc__law_due.nd (pi_str (pe_slice sl_any (pe_ix ix_seq (pv 1) pe_int (fun _ _ => rfl)) po_none (po_some (pe_un un_neg pe_int)))) (blkOk_by (own := [("sign", 2)]) (N := N__law_due) (sc := defScope st__law_due) (by decide +kernel)) (fun _ _ _ _ _ => (pg_name (i := 2) sc__law_due.nd rfl (Or.inl rfl))) (fun _ _ _ _ _ => (pts_one (pt_cmpR (o_notin hr.units5) (pv 2) pe_str (by rfl)))) (fun _ _ _ _ _ => pe_int)) (pe_lst pa_nil) (nomark _)) (pw_or1 (pt_cmpR o_gt (pe_callB c_len (by rfl) n_len bt_len (pa_cons (pe_ix ix_seq (pv 1) pe_int (fun _ _ => rfl)) pa_nil)) pe_int (nomark _)))))) (pss_one (ps_ret pe_non)) pss_nil)
    (pss_cons (ps_set (i := 3) sc__law_due.nd rfl (Or.inl rfl) (pe_lst pa_nil))
    (pss_cons (ps_for po rfl (pi_seq (pe_slice sl_any (pv 1) (po_some pe_int) po_none)) (pg_name (i := 4) sc__law_due.nd rfl (Or.inl rfl)) (pss_cons (ps_set (i := 5) sc__law_due.nd rfl (Or.inl rfl) (pe_split (pv 4) pe_str))
    (pss_cons (ps_if (pt_cmpR (o_ne hr.units) (pe_callB c_len (by rfl) n_len bt_len (pa_cons (pv 5) pa_nil)) pe_int (nomark _)) (pss_one (ps_ret pe_non)) pss_nil)
    (pss_cons (ps_par (i := 6) (j := 7) rfl sc__law_due.nd rfl rfl (by decide) rfl rfl (pa_cons (pe_D g__law_number (hr.mono (by decide)) b__law_number_1 tk (pa_cons (pe_ix ix_seq (pv 5) pe_int (fun _ _ => rfl)) pa_nil)) (pa_cons (pe_D g__law_number (hr.mono (by decide)) b__law_number_1 tk (pa_cons (pe_ix ix_seq (pv 5) pe_int (fun _ _ => rfl)) pa_nil)) pa_nil)) rfl)
    (pss_cons (ps_if (PW.pt (pw_or (pt_not (pt_chain3 (o_le hr.units0) (o_lt hr.units0) (o_lt hr.units0) pe_int (pv 6) (pv 7) (pe_op o_sub (pe_callB c_len (by rfl) n_len bt_len (pa_cons (pe_ix ix_seq (pv 1) pe_int (fun _ _ => rfl)) pa_nil)) pe_int))) (pw_or1 (PW.pt (pw_and (pt_cmpR (o_ne hr.units) (pv 3) (pe_lst pa_nil) (nomark _)) (pw_and1 (pt_cmpR (o_le hr.units0) (pe_tup (pa_cons (pv 6) (pa_cons (pv 7) pa_nil))) (pe_ix ix_seq (pv 3) (pe_un un_neg pe_int) (fun _ _ => rfl)) (nomark _)))))))) (pss_one (ps_ret pe_non)) pss_nil)
    (pss_one (ps_expr (pe_bm PySem.F.plainAttrs_list PySem.F.slot_list_append PySem.F.type_list_append mt_append (pv 3) (pa_cons (pe_tup (pa_cons (pv 6) (pa_cons (pv 7) pa_nil))) pa_nil)))))))))
    (pss_one (ps_ret (pe_tup (pa_cons (pe_callTy c_tuple (by rfl) n_tuple bt_tuple (pa_cons (pe_lc (own := [("sign", 2)]) rfl sc__law_due.nd (pi_str (pe_slice sl_any (pe_ix ix_seq (pv 1) pe_int (fun _ _ => rfl)) po_none (po_some (pe_un un_neg pe_int)))) (blkOk_by (own := [("sign", 2)]) (N := N__law_due) (sc := defScope st__law_due) (by decide +kernel)) (fun _ _ _ _ _ => (pg_name (i := 2) sc__law_due.nd rfl (Or.inl rfl))) (fun _ _ _ _ _ => pts_nil) (fun _ _ _ _ _ => (pe_callTy c_int (by rfl) n_int bt_int (pa_cons (pv 2) pa_nil)))) pa_nil)) (pa_cons (pe_callTy c_tuple (by rfl) n_tuple bt_tuple (pa_cons (pv 3) pa_nil)) pa_nil)))))))))
theorem sc__law_bent : FnScope N__law_bent ps__law_bent (defScope st__law_bent) := ⟨rfl, rfl, rfl, by decide +kernel, rfl, by decide +kernel, by decide +kernel⟩
theorem pss__law_bent {f : Addr} {fd : FuncData} {f__law_draw : Addr} {fd__law_draw : FuncData} (g__law_draw : GF P w K mg base "_law_draw" ps__law_draw 4 (sp__law_draw cs) f__law_draw fd__law_draw) {f__law_of : Addr} {fd__law_of : FuncData} (g__law_of : GF P w K mg base "_law_of" ps__law_of 5 (sp__law_of cs) f__law_of fd__law_of) (n_len : mg "len" = none) (b__law_draw_2 : Bd K fd__law_draw ps__law_draw []) (b__law_of_2 : Bd K fd__law_of ps__law_of []) {cdv : Value} {A : Around} {outer : List Env} {s : Shared} {H : Hp} {E : XK} (hr : Room 5 (A.deeper (envOfC "_law_bent" (defScope st__law_bent) s.heap.objs.size f cdv))) : PSs (cxOf (L2.CX P w) P w K mg base N__law_bent "_law_bent" (defScope st__law_bent) f cdv A outer s H E) (defBody st__law_bent) (t__law_bent K cs E) := by
  have tk : Takes (cxOf (L2.CX P w) P w K mg base N__law_bent "_law_bent" (defScope st__law_bent) f cdv A outer s H E) (WF E) := takes_of rfl rfl rfl rfl
  have po : PassesOwn (model P w) (A.deeper (envOfC "_law_bent" (defScope st__law_bent) s.heap.objs.size f cdv)) (envOfC "_law_bent" (defScope st__law_bent) s.heap.objs.size f cdv) (cxOf (L2.CX P w) P w K mg base N__law_bent "_law_bent" (defScope st__law_bent) f cdv A outer s H E).xe := passes_of rfl
  exact (pss_cons (ps_par (i := 2) (j := 3) rfl sc__law_bent.nd rfl rfl (by decide) rfl rfl (pa_cons (pe_split (pv 1) pe_str) (pa_cons (pe_D g__law_of (hr.mono (by decide)) b__law_of_2 tk (pa_cons (pv 0) (pa_cons (pe_lst (pa_cons pe_str (pa_cons pe_str (pa_cons pe_str (pa_cons pe_str (pa_cons pe_str (pa_cons pe_str (pa_cons pe_str (pa_cons pe_str (pa_cons pe_str (pa_cons pe_str (pa_cons pe_str (pa_cons pe_str (pa_cons pe_str (pa_cons pe_str (pa_cons pe_str pa_nil)))))))))))))))) pa_nil))) pa_nil)) rfl)
    (pss_cons (ps_triple (i := 4) (j := 5) (l := 6) rfl sc__law_bent.nd rfl rfl rfl rfl rfl rfl (pa_cons (pe_D g__law_draw (hr.mono (by decide)) b__law_draw_2 tk (pa_cons (pv 0) (pa_cons (pe_callB c_len (by rfl) n_len bt_len (pa_cons (pv 2) pa_nil)) pa_nil))) (pa_cons (pe_D g__law_draw (hr.mono (by decide)) b__law_draw_2 tk (pa_cons (pv 0) (pa_cons (pe_op o_add (pe_callB c_len (by rfl) n_len bt_len (pa_cons (pv 1) pa_nil)) pe_int) pa_nil))) (pa_cons (pe_D g__law_draw (hr.mono (by decide)) b__law_draw_2 tk (pa_cons (pv 0) (pa_cons pe_int pa_nil))) pa_nil))) rfl)
    (pss_cons (ps_if (pt_cmpR (o_eq hr.units) (pv 6) pe_int (nomark _)) (pss_one (ps_ret (pe_op o_add (pe_op o_add (pe_slice sl_any (pv 1) po_none (po_some (pv 5))) (pv 3)) (pe_slice sl_any (pv 1) (po_some (pv 5)) po_none)))) pss_nil)
    (pss_cons (ps_if (pt_cmpR (o_eq hr.units) (pv 6) pe_int (nomark _)) (pss_one (ps_ret (pe_op o_add (pe_slice sl_any (pv 1) po_none (po_some (pv 5))) (pe_slice sl_any (pv 1) (po_some (pe_op o_add (pv 5) pe_int)) po_none)))) pss_nil)
    (pss_cons (ps_if (pt_cmpR (o_eq hr.units) (pv 6) pe_int (nomark _)) (pss_one (ps_ret (pe_join pe_str (pe_op o_add (pe_slice sl_any (pv 2) po_none (po_some (pv 4))) (pe_slice sl_any (pv 2) (po_some (pe_op o_add (pv 4) pe_int)) po_none))))) pss_nil)
    (pss_cons (ps_if (pt_cmpR (o_eq hr.units) (pv 6) pe_int (nomark _)) (pss_one (ps_ret (pe_join pe_str (pe_op o_add (pe_op o_add (pe_slice sl_any (pv 2) po_none (po_some (pv 4))) (pe_lst (pa_cons (pv 3) pa_nil))) (pe_slice sl_any (pv 2) (po_some (pv 4)) po_none))))) pss_nil)
    (pss_cons (ps_if (pt_cmpR (o_eq hr.units) (pv 6) pe_int (nomark _)) (pss_one (ps_ret (pe_join pe_str (pe_op o_add (pe_op o_add (pe_slice sl_any (pv 2) po_none (po_some (pv 4))) (pe_lst (pa_cons (pe_ix ix_seq (pv 2) (pv 4) (fun _ _ => rfl)) pa_nil))) (pe_slice sl_any (pv 2) (po_some (pv 4)) po_none))))) pss_nil)
    (pss_cons (ps_set (i := 7) sc__law_bent.nd rfl (Or.inl rfl) (pe_D g__law_draw (hr.mono (by decide)) b__law_draw_2 tk (pa_cons (pv 0) (pa_cons (pe_callB c_len (by rfl) n_len bt_len (pa_cons (pv 2) pa_nil)) pa_nil))))
    (pss_cons (ps_asg (pe_tup (pa_cons (pe_ix ix_seq (pv 2) (pv 7) (fun _ _ => rfl)) (pa_cons (pe_ix ix_seq (pv 2) (pv 4) (fun _ _ => rfl)) pa_nil))) (pg_tup rfl (pgs_cons (pg_sub (pv 2) (pv 4) set_list) (pgs_cons (pg_sub (pv 2) (pv 7) set_list) pgs_nil))))
    (pss_one (ps_ret (pe_join pe_str (pv 2)))))))))))))
theorem sc__law_read : FnScope N__law_read ps__law_read (defScope st__law_read) := ⟨rfl, rfl, rfl, by decide +kernel, rfl, by decide +kernel, by decide +kernel⟩
theorem pss__law_read {f : Addr} {fd : FuncData} {f_read_house : Addr} {fd_read_house : FuncData} (g_read_house : GF P w K mg base "read_house" ps_read_house 6 (sp_read_house cs) f_read_house fd_read_house) (b_read_house_1 : Bd K fd_read_house ps_read_house []) (gC_BadText : mg "BadText" = some (.ref cs.BadText)) (xn_BadText_line : PySem.W.findIn K (.ref cs.BadText) "line" = some none) (xc_BadText : XfC K cs.BadText) {cdv : Value} {A : Around} {outer : List Env} {s : Shared} {H : Hp} {E : XK} (hr : Room 6 (A.deeper (envOfC "_law_read" (defScope st__law_read) s.heap.objs.size f cdv))) : PSs (cxOf (L2.CX P w) P w K mg base N__law_read "_law_read" (defScope st__law_read) f cdv A outer s H E) (defBody st__law_read) (t__law_read K cs E) := by
  have tk : Takes (cxOf (L2.CX P w) P w K mg base N__law_read "_law_read" (defScope st__law_read) f cdv A outer s H E) (WF E) := takes_of rfl rfl rfl rfl
  have po : PassesOwn (model P w) (A.deeper (envOfC "_law_read" (defScope st__law_read) s.heap.objs.size f cdv)) (envOfC "_law_read" (defScope st__law_read) s.heap.objs.size f cdv) (cxOf (L2.CX P w) P w K mg base N__law_read "_law_read" (defScope st__law_read) f cdv A outer s H E).xe := passes_of rfl
  exact (pss_cons (ps_try_mul (tb := fun W' => (tAsg (tCallG (lift (sp_read_house cs)) [] (WE W') (tCons (tVar 0) tNil)) (gName 1))) rfl rfl sc__law_read.nd tk (fun W' pn xe tk2 po2 => (pss_one (ps_set (i := 1) sc__law_read.nd rfl (Or.inl rfl) (pe_D g_read_house (hr.mono (by decide)) b_read_house_1 tk2 (pa_cons (pv 0) pa_nil))))) (.named (i := 2) rfl rfl ⟨rfl, by decide, Or.inl gC_BadText⟩ (fun a oe cls d pn hz hf => (pss_one (ps_set (i := 1) sc__law_read.nd rfl (Or.inl rfl) (pe_lst (pa_cons (pe_xf xc_BadText xn_BadText_line hz hf (pv 2)) pa_nil))))) .nil))
    (pss_one (ps_ret (pv 1))))
theorem sc__law_refused : FnScope N__law_refused ps__law_refused (defScope st__law_refused) := ⟨rfl, rfl, rfl, by decide +kernel, rfl, by decide +kernel, by decide +kernel⟩
theorem pss__law_refused {f : Addr} {fd : FuncData} {f_house_text : Addr} {fd_house_text : FuncData} (g_house_text : GF P w K mg base "house_text" ps_house_text 7 (sp_house_text cs) f_house_text fd_house_text) (b_house_text_1 : Bd K fd_house_text ps_house_text []) (gC_BadHouse : mg "BadHouse" = some (.ref cs.BadHouse)) (xn_BadHouse_place : PySem.W.findIn K (.ref cs.BadHouse) "place" = some none) (xc_BadHouse : XfC K cs.BadHouse) {cdv : Value} {A : Around} {outer : List Env} {s : Shared} {H : Hp} {E : XK} (hr : Room 7 (A.deeper (envOfC "_law_refused" (defScope st__law_refused) s.heap.objs.size f cdv))) : PSs (cxOf (L2.CX P w) P w K mg base N__law_refused "_law_refused" (defScope st__law_refused) f cdv A outer s H E) (defBody st__law_refused) (t__law_refused K cs E) := by
  have tk : Takes (cxOf (L2.CX P w) P w K mg base N__law_refused "_law_refused" (defScope st__law_refused) f cdv A outer s H E) (WF E) := takes_of rfl rfl rfl rfl
  have po : PassesOwn (model P w) (A.deeper (envOfC "_law_refused" (defScope st__law_refused) s.heap.objs.size f cdv)) (envOfC "_law_refused" (defScope st__law_refused) s.heap.objs.size f cdv) (cxOf (L2.CX P w) P w K mg base N__law_refused "_law_refused" (defScope st__law_refused) f cdv A outer s H E).xe := passes_of rfl
  exact (pss_cons (ps_try_mul (tb := fun W' => (tAsg (tLst (tCons (tC (.str "told")) (tCons (tCallG (lift (sp_house_text cs)) [] (WE W') (tCons (tVar 0) tNil)) tNil))) (gName 1))) rfl rfl sc__law_refused.nd tk (fun W' pn xe tk2 po2 => (pss_one (ps_set (i := 1) sc__law_refused.nd rfl (Or.inl rfl) (pe_lst (pa_cons pe_str (pa_cons (pe_D g_house_text (hr.mono (by decide)) b_house_text_1 tk2 (pa_cons (pv 0) pa_nil)) pa_nil)))))) (.named (i := 2) rfl rfl ⟨rfl, by decide, Or.inl gC_BadHouse⟩ (fun a oe cls d pn hz hf => (pss_one (ps_set (i := 1) sc__law_refused.nd rfl (Or.inl rfl) (pe_lst (pa_cons pe_str (pa_cons (pe_xf xc_BadHouse xn_BadHouse_place hz hf (pv 2)) pa_nil)))))) .nil))
    (pss_one (ps_ret (pv 1))))
theorem sc_law : FnScope N_law ps_law (defScope st_law) := ⟨rfl, rfl, rfl, by decide +kernel, rfl, by decide +kernel, by decide +kernel⟩
theorem pss_law {f : Addr} {fd : FuncData} {f__law_begun : Addr} {fd__law_begun : FuncData} (g__law_begun : GF P w K mg base "_law_begun" ps__law_begun 4 (sp__law_begun cs) f__law_begun fd__law_begun) {f__law_bent : Addr} {fd__law_bent : FuncData} (g__law_bent : GF P w K mg base "_law_bent" ps__law_bent 6 (sp__law_bent cs) f__law_bent fd__law_bent) {f__law_draw : Addr} {fd__law_draw : FuncData} (g__law_draw : GF P w K mg base "_law_draw" ps__law_draw 4 (sp__law_draw cs) f__law_draw fd__law_draw) {f__law_due : Addr} {fd__law_due : FuncData} (g__law_due : GF P w K mg base "_law_due" ps__law_due 4 (sp__law_due cs) f__law_due fd__law_due) {f__law_house : Addr} {fd__law_house : FuncData} (g__law_house : GF P w K mg base "_law_house" ps__law_house 5 (sp__law_house cs) f__law_house fd__law_house) {f__law_like : Addr} {fd__law_like : FuncData} (g__law_like : GF P w K mg base "_law_like" ps__law_like 9 (sp__law_like cs 6) f__law_like fd__law_like) {f__law_read : Addr} {fd__law_read : FuncData} (g__law_read : GF P w K mg base "_law_read" ps__law_read 7 (sp__law_read cs) f__law_read fd__law_read) {f__law_refused : Addr} {fd__law_refused : FuncData} (g__law_refused : GF P w K mg base "_law_refused" ps__law_refused 8 (sp__law_refused cs) f__law_refused fd__law_refused) {f__law_text : Addr} {fd__law_text : FuncData} (g__law_text : GF P w K mg base "_law_text" ps__law_text 3 (sp__law_text cs) f__law_text fd__law_text) {f_house_text : Addr} {fd_house_text : FuncData} (g_house_text : GF P w K mg base "house_text" ps_house_text 7 (sp_house_text cs) f_house_text fd_house_text) {f_read_house : Addr} {fd_read_house : FuncData} (g_read_house : GF P w K mg base "read_house" ps_read_house 6 (sp_read_house cs) f_read_house fd_read_house) (n_range : mg "range" = none) (b__law_begun_1 : Bd K fd__law_begun ps__law_begun []) (b__law_bent_2 : Bd K fd__law_bent ps__law_bent []) (b__law_draw_2 : Bd K fd__law_draw ps__law_draw []) (b__law_due_1 : Bd K fd__law_due ps__law_due []) (b__law_house_3 : Bd K fd__law_house ps__law_house []) (b__law_like_2 : Bd K fd__law_like ps__law_like []) (b__law_read_1 : Bd K fd__law_read ps__law_read []) (b__law_refused_1 : Bd K fd__law_refused ps__law_refused []) (b__law_text_1 : Bd K fd__law_text ps__law_text []) (b_house_text_1 : Bd K fd_house_text ps_house_text []) (b_read_house_1 : Bd K fd_read_house ps_read_house []) (b_house_text_0_house : BdK K fd_house_text ps_house_text ["house"]) (b_read_house_0_text : BdK K fd_read_house ps_read_house ["text"]) {cdv : Value} {A : Around} {outer : List Env} {s : Shared} {H : Hp} {E : XK} (hr : Room 9 (A.deeper (envOfC "law" (defScope st_law) s.heap.objs.size f cdv))) : PSs (cxOf (L2.CX P w) P w K mg base N_law "law" (defScope st_law) f cdv A outer s H E) (defBody st_law) (t_law K cs E) := by
  have tk : Takes (cxOf (L2.CX P w) P w K mg base N_law "law" (defScope st_law) f cdv A outer s H E) (WF E) := takes_of rfl rfl rfl rfl
  have po : PassesOwn (model P w) (A.deeper (envOfC "law" (defScope st_law) s.heap.objs.size f cdv)) (envOfC "law" (defScope st_law) s.heap.objs.size f cdv) (cxOf (L2.CX P w) P w K mg base N_law "law" (defScope st_law) f cdv A outer s H E).xe := passes_of rfl
  exact (pss_cons (ps_set (i := 1) sc_law.nd rfl (Or.inl rfl) (pe_D g__law_begun (hr.mono (by decide)) b__law_begun_1 tk (pa_cons (pv 0) pa_nil)))
    (pss_cons (ps_for po rfl (pi_range1 (by rfl) n_range (pa_cons pe_int pa_nil)) (pg_name (i := 2) sc_law.nd rfl (Or.inl rfl)) (pss_cons (ps_set (i := 3) sc_law.nd rfl (Or.inl rfl) (pe_D g__law_house (hr.mono (by decide)) b__law_house_3 tk (pa_cons (pv 1) (pa_cons (pe_D g__law_draw (hr.mono (by decide)) b__law_draw_2 tk (pa_cons (pv 1) (pa_cons pe_int pa_nil))) (pa_cons pe_int pa_nil)))))
    (pss_cons (ps_set (i := 4) sc_law.nd rfl (Or.inl rfl) (pe_D g__law_text (hr.mono (by decide)) b__law_text_1 tk (pa_cons (pv 3) pa_nil)))
    (pss_cons (ps_if (pt_not (pt_val (pe_D g__law_like (hr.mono (by decide)) b__law_like_2 tk (pa_cons (pe_lst (pa_cons (pe_D g_house_text (hr.mono (by decide)) b_house_text_1 tk (pa_cons (pv 3) pa_nil)) (pa_cons (pe_D g_read_house (hr.mono (by decide)) b_read_house_1 tk (pa_cons (pv 4) pa_nil)) (pa_cons (pe_Dk0 g_house_text (hr.mono (by decide)) b_house_text_0_house tk (pk_cons (pv 3) pk_nil)) (pa_cons (pe_Dk0 g_read_house (hr.mono (by decide)) b_read_house_0_text tk (pk_cons (pv 4) pk_nil)) pa_nil))))) (pa_cons (pe_lst (pa_cons (pv 4) (pa_cons (pv 3) (pa_cons (pv 4) (pa_cons (pv 3) pa_nil))))) pa_nil))))) (pss_one (ps_ret pe_bl)) pss_nil)
    (pss_one (ps_for po rfl (pi_range1 (by rfl) n_range (pa_cons pe_int pa_nil)) (pg_name (i := 5) sc_law.nd rfl (Or.inl rfl)) (pss_cons (ps_set (i := 6) sc_law.nd rfl (Or.inl rfl) (pe_D g__law_bent (hr.mono (by decide)) b__law_bent_2 tk (pa_cons (pv 1) (pa_cons (pv 4) pa_nil))))
    (pss_cons (ps_set (i := 7) sc_law.nd rfl (Or.inl rfl) (pe_D g__law_due (hr.mono (by decide)) b__law_due_1 tk (pa_cons (pv 6) pa_nil)))
    (pss_one (ps_if (pt_not (pt_val (pe_D g__law_like (hr.mono (by decide)) b__law_like_2 tk (pa_cons (pe_D g__law_read (hr.mono (by decide)) b__law_read_1 tk (pa_cons (pv 6) pa_nil)) (pa_cons (pe_ifExp (pt_cmpR o_is (pv 7) pe_non (nomark _)) (pe_lst (pa_cons pe_int pa_nil)) (pv 7)) pa_nil))))) (pss_one (ps_ret pe_bl)) pss_nil))))))))))
    (pss_cons (ps_set (i := 8) sc_law.nd rfl (Or.inl rfl) (pe_op o_add (pe_op o_mul pe_str pe_int) pe_str))
    (pss_cons (ps_set (i := 9) sc_law.nd rfl (Or.inl rfl) (pe_lst (pa_cons (pe_ix ix_seq (pe_D g__law_read (hr.mono (by decide)) b__law_read_1 tk (pa_cons (pv 8) pa_nil)) pe_int (fun _ _ => rfl)) (pa_cons (pe_D g__law_read (hr.mono (by decide)) b__law_read_1 tk (pa_cons (pe_op o_add (pe_op o_mul pe_str pe_int) pe_str) pa_nil)) (pa_cons (pe_D g__law_read (hr.mono (by decide)) b__law_read_1 tk (pa_cons pe_non pa_nil)) (pa_cons (pe_D g__law_read (hr.mono (by decide)) b__law_read_1 tk (pa_cons pe_int pa_nil)) (pa_cons (pe_D g__law_read (hr.mono (by decide)) b__law_read_1 tk (pa_cons (pe_lst pa_nil) pa_nil)) (pa_cons (pe_D g__law_read (hr.mono (by decide)) b__law_read_1 tk (pa_cons pe_str pa_nil)) (pa_cons (pe_D g__law_read (hr.mono (by decide)) b__law_read_1 tk (pa_cons pe_str pa_nil)) pa_nil)))))))))
    (pss_cons (ps_set (i := 7) sc_law.nd rfl (Or.inl rfl) (pe_lst (pa_cons (pe_op o_mul (pe_tup (pa_cons pe_int pa_nil)) pe_int) (pa_cons (pe_lst (pa_cons pe_int pa_nil)) (pa_cons (pe_lst (pa_cons pe_non pa_nil)) (pa_cons (pe_lst (pa_cons pe_non pa_nil)) (pa_cons (pe_lst (pa_cons pe_non pa_nil)) (pa_cons (pe_lst (pa_cons pe_int pa_nil)) (pa_cons (pe_tup (pa_cons (pe_tup pa_nil) (pa_cons (pe_tup pa_nil) pa_nil))) pa_nil)))))))))
    (pss_one (ps_ret (pe_and (pe_D g__law_like (hr.mono (by decide)) b__law_like_2 tk (pa_cons (pv 9) (pa_cons (pv 7) pa_nil))) (pe_one (pe_D g__law_like (hr.mono (by decide)) b__law_like_2 tk (pa_cons (pe_lst (pa_cons (pe_D g__law_refused (hr.mono (by decide)) b__law_refused_1 tk (pa_cons pe_non pa_nil)) (pa_cons (pe_D g__law_refused (hr.mono (by decide)) b__law_refused_1 tk (pa_cons (pe_tup (pa_cons (pe_tup (pa_cons pe_int pa_nil)) (pa_cons (pe_tup pa_nil) pa_nil))) pa_nil)) pa_nil))) (pa_cons (pe_lst (pa_cons (pe_lst (pa_cons pe_str (pa_cons pe_str pa_nil))) (pa_cons (pe_lst (pa_cons pe_str (pa_cons pe_str pa_nil))) pa_nil))) pa_nil))))))))))))
end
end Dz
namespace Dz
open PySem PySem.Spec PyProof.Rows L2
local macro_rules | `(tactic| trivial) => `(tactic| first
  | with_reducible refine ws_seq ?_ | with_reducible refine ws_if ?_ | with_reducible refine ws_ret ?_ | with_reducible refine ws_asg ?_ | with_reducible refine ws_next ?_ | with_reducible refine ws_drop ?_ | with_reducible refine ws_retN ?_ | with_reducible refine ws_par ?_ | with_reducible refine ws_triple ?_ | with_reducible refine ws_dput ?_ | with_reducible refine ws_raise ?_ | with_reducible refine ws_break ?_ | with_reducible refine ws_cont ?_
  | with_reducible refine wb_and ?_ | with_reducible refine wb_or ?_ | with_reducible refine wb_not ?_ | with_reducible refine wb_test ?_ | with_reducible refine wb_B ?_ | with_reducible refine wb_yes ?_
  | with_reducible refine wa_nil ?_ | with_reducible refine wa_cons ?_
  | with_reducible refine wg_name ?_ | with_reducible refine wgs_nil ?_ | with_reducible refine wgs_cons ?_ | ((with_reducible refine wg_tup ?_ ?_); focus exact rfl)
  | with_reducible refine wt_int ?_ | with_reducible refine wt_str ?_ | with_reducible refine wt_bl ?_ | with_reducible refine wt_non ?_ | with_reducible refine wt_ty ?_ | ((with_reducible apply wt_var); focus exact rfl)
  | with_reducible refine wt_op ?_ | with_reducible refine wt_un ?_ | with_reducible refine wt_and ?_ | with_reducible refine wt_or ?_ | with_reducible refine wt_not ?_ | with_reducible refine wt_if ?_ | with_reducible refine wt_chain ?_ | with_reducible refine wt_chain3 ?_ | with_reducible refine wt_cb ?_ | with_reducible refine wt_tup ?_ | with_reducible refine wt_dget ?_ | with_reducible refine wt_m1 ?_ | with_reducible refine wt_bm ?_ | with_reducible refine wt_bm0 ?_ | with_reducible refine wt_sl ?_ | with_reducible refine wo_none ?_ | with_reducible refine wo_some ?_
  | ((with_reducible refine wt_call ?_ ?_); rotate_left; focus exact rfl) | ((with_reducible refine wt_call0 ?_ ?_); rotate_left; focus exact rfl) | with_reducible refine wt_ck ?_
  | with_reducible refine od_add ?_ | with_reducible refine od_sub ?_ | with_reducible refine od_mod ?_ ?_ | with_reducible refine od_div ?_ ?_ | with_reducible refine od_mul ?_ ?_ | with_reducible refine od_lt ?_ | with_reducible refine od_le ?_ | with_reducible refine od_gt ?_ | with_reducible refine od_ge ?_ | with_reducible refine od_eqi ?_ | with_reducible refine od_nei ?_ | with_reducible refine od_eqs ?_ | with_reducible refine od_nes ?_ | with_reducible refine od_is ?_ | with_reducible refine od_isnot ?_ | with_reducible refine od_adds ?_ ?_ | with_reducible refine od_addl ?_ ?_ | with_reducible refine od_addt ?_ ?_ | with_reducible refine ud_neg ?_
  | with_reducible refine cd_int ?_ | with_reducible refine cd_lens ?_ ?_ | with_reducible refine cd_str ?_ ?_
  | ((with_reducible apply cd_isint); focus exact rfl) | ((with_reducible apply cd_isbool); focus exact rfl) | ((with_reducible apply cd_isstr); focus exact rfl) | ((with_reducible apply cd_istup); focus exact rfl) | ((with_reducible apply cd_islst); focus exact rfl)
  | exact isL_lst | exact isL_own 0 rfl | exact isL_own 1 rfl | exact isL_own 2 rfl
  | (refine ⟨Nat.le_of_ble_eq_true rfl, ?_⟩) | (with_reducible refine ⟨⟨_, rfl⟩, ?_⟩) | (with_reducible refine ⟨_, rfl, ?_⟩) | (with_reducible refine ⟨fun _ => ?_, fun hb => absurd hb (by decide)⟩) | (with_reducible refine ⟨fun hb => absurd hb (by decide), fun _ => ?_⟩) | (with_reducible refine ⟨fun hb => ?_, fun hb => ?_⟩) | fail "no step")
local macro_rules | `(tactic| decreasing_with $_) => `(tactic| first | decide | omega | exact .inr ⟨by decide, by decide⟩ | exact .inl ⟨by decide, by decide⟩ | exact ⟨by decide, by decide⟩ | exact .inl ⟨by omega, by omega⟩ | exact .inr ⟨by omega, by omega⟩ | exact ⟨by omega, by omega⟩)
section
variable {K : PySem.W.Frag} {cs : Cs}
theorem run__law_mixed : Runs (sp__law_mixed cs) N__law_mixed (t__law_mixed K cs) := by
  rintro E ds m Ph Pc ⟨c, n, rfl, ⟨h1, h2, h3, h4⟩, k⟩
  unfold t__law_mixed
  show WS _ _ _ _ [some (.int c), some (.int n), none] m
  repeat' trivial
  all_goals try decreasing_with fail
  refine k _ ?_ ?_
  · rw [Int.fmod_eq_emod_of_nonneg _ (by decide), Int.fdiv_eq_ediv_of_nonneg _ (by decide)]
    omega
  · rw [Int.fmod_eq_emod_of_nonneg _ (by decide), Int.fdiv_eq_ediv_of_nonneg _ (by decide)]
    omega
end

section
variable {cs : Cs}
theorem run__law_folded : Runs (sp__law_folded cs) N__law_folded (t__law_folded cs.K cs) := by
  rintro E ds m Ph Pc ⟨a, ns, rfl, hl, k⟩
  unfold t__law_folded
  show WS _ _ _ _ [some (.scr cs.K a ns), none, none, none] m
  refine ws_seq (ws_asg (wt_lcm (gonly_name (by simp)) (wi_rng1 (wa_cons (wt_int (wa_nil ⟨64, rfl, by decide, by decide, ?_⟩))))))
  refine ⟨((List.range 64).map fun j : Nat => 17 + (j : Int)).map D.int, by simp [rngD], by simp [rngD, sizeLine_eq], fun i d y L acc h1 h2 => ?_, .inr fun L hL => ?_⟩
  · obtain ⟨h3, rfl⟩ := rngD_get h1
    repeat' trivial
    refine ⟨?_, rfl⟩
    have h3' : i < 64 := h3
    rw [List.getElem?_map, List.getElem?_map, List.getElem?_range h3'] at h2
    have h4 := Option.some.inj h2
    rw [← h4]
    simp
  repeat' trivial
  have inv0 : (((List.range 64).map fun j : Nat => 17 + (j : Int))).length = 64 ∧ ∀ c ∈ ((List.range 64).map fun j : Nat => 17 + (j : Int)), 0 ≤ c ∧ c < 2147483647 := by
    refine ⟨by simp, fun c hc => ?_⟩
    obtain ⟨j, hj, rfl⟩ := List.mem_map.mp hc
    have := List.mem_range.mp hj
    omega
  generalize ((List.range 64).map fun j : Nat => 17 + (j : Int)) = c0 at inv0
  -- one store into the list
  refine ws_for (wi_enumS (a := a) (ns := ns) (wa_cons (wt_var rfl (wa_nil ⟨rfl, ?_⟩))))
  refine ⟨fun i r' m' => ∃ (u v : Option D) (cl : List Int), r' = [some (.scr cs.K a ns), some (.ref L), u, v] ∧ m' = (L, MO.lst (cl.map D.int)) :: m ∧ cl.length = 64 ∧ ∀ c ∈ cl, 0 ≤ c ∧ c < 2147483647, ⟨none, none, c0, rfl, rfl, inv0⟩, ?_, ?_⟩
  · rintro i d r' m' hd ⟨u, v, cl, rfl, rfl, hc, hb⟩
    obtain ⟨x, hx, rfl⟩ := enumD_get hd
    rw [List.getElem?_map] at hx
    cases e : ns[i]? with
    | none => rw [e] at hx; cases hx
    | some z =>
      rw [e] at hx
      cases hx
      have hj : i % 64 < cl.length := by omega
      have hf : (i : Int).fmod 64 = ((i % 64 : Nat) : Int) := by
        rw [Int.fmod_eq_emod_of_nonneg _ (by decide)]; omega
      repeat' trivial
      all_goals try decreasing_with fail
      refine od_ixl (isL_own 0 rfl) (atI_at hf (get_map_int hj)) ?_
      repeat' trivial
      · decreasing_with fail
      refine wg_subl ?_
      repeat' trivial
      refine ⟨0, L, _, _, i % 64, rfl, rfl, rfl, ixN_nat hf (by simpa using hj), ?_⟩
      refine ⟨_, _, cl.set (i % 64) ((cl[i % 64] * 48271 + z).fmod 2147483647), rfl, ?_, ?_, ?_⟩
      · rw [List.map_set]; rfl
      · simp [hc]
      · intro c h
        rcases mem_set_imp h with h | h
        · subst h; exact fmod_bd _
        · exact hb c h
  · rintro r' m' ⟨u, v, cl, rfl, rfl, hc, hb⟩
    refine ws_seq (ws_for (wi_rng2 (wa_cons (wt_int (wa_cons (wt_int (wa_nil ⟨1, 64, rfl, by decide, ?_⟩)))))))
    refine ⟨fun i r' m' => ∃ (u v : Option D) (cl : List Int), r' = [some (.scr cs.K a ns), some (.ref L), u, v] ∧ m' = (L, MO.lst (cl.map D.int)) :: m ∧ cl.length = 64 ∧ ∀ c ∈ cl, 0 ≤ c ∧ c < 2147483647, ⟨u, v, cl, rfl, rfl, hc, hb⟩, ?_, ?_⟩
    · rintro i d r' m' hd ⟨u, v, cl, rfl, rfl, hc, hb⟩
      obtain ⟨h3, rfl⟩ := rngD_get hd
      have h3' : i < 63 := h3
      have e1 : (1 : Int) + (i : Nat) = ((i + 1 : Nat) : Int) := by omega
      have e2 : (1 : Int) + (i : Nat) - 1 = ((i : Nat) : Int) := by omega
      repeat' trivial
      refine od_ixl (isL_own 0 rfl) (atI_at e1 (get_map_int (by omega))) ?_
      repeat' trivial
      refine od_ixl (isL_own 0 rfl) (atI_at e2 (get_map_int (by omega))) ?_
      repeat' trivial
      · decreasing_with fail
      refine wg_subl ?_
      repeat' trivial
      refine ⟨0, L, _, _, i + 1, rfl, rfl, rfl, ixN_nat e1 (by simp; omega), ?_⟩
      refine ⟨_, _, cl.set (i + 1) ((cl[i + 1] + cl[i] * 16807).fmod 2147483647), rfl, ?_, ?_, ?_⟩
      · rw [List.map_set]; rfl
      · simp [hc]
      · intro c h
        rcases mem_set_imp h with h | h
        · subst h; exact fmod_bd _
        · exact hb c h
    · rintro r' m' ⟨u, v, cl, rfl, rfl, hc, hb⟩
      repeat' trivial
      exact k L cl hL hc hb
end

section
variable {cs : Cs}
theorem run__law_draw : Runs (sp__law_draw cs) N__law_draw (t__law_draw cs.K cs) := by
  rintro E ds m Ph Pc ⟨a, ac, ag, k, n, limit, rfl, e, h1, h2, h3, kk⟩
  unfold t__law_draw
  show WS _ _ _ _ [some (.ref a), some (.int limit), none, none, none, none] m
  refine ws_open e fun sp cl gs hs hc hcb hg => ws_post ?_
  have fin : ∀ (gs : List Int), gs.length ≤ 63 → ∀ r : Int, 0 ≤ r → r < limit → ∃ m2, Wk ((a, MO.dct (genK ac ag ((sp + 1 : Nat) : Int))) :: (ac, .lst (cl.map D.int)) :: (ag, .lst (gs.map D.int)) :: m.eraseIdx k) m2 ∧ Ph (.int r) m2 :=
    fun gs hg r h4 h5 => ⟨_, wk_close e (by omega) hc hcb hg, kk r h4 h5⟩
  repeat' trivial
  refine ⟨_, Sum.inr "spot", _, .inr ⟨0, a, rfl, rfl⟩, rfl, genK_spot, ?_⟩
  repeat' trivial
  refine ⟨0, a, _, Sum.inr "spot", rfl, rfl, rfl, genK_len, ?_⟩
  rw [genK_put]
  show WS _ _ _ _ _ ((a, MO.dct (genK ac ag ((sp + 1 : Nat) : Int))) :: (ac, .lst (cl.map D.int)) :: (ag, .lst (gs.map D.int)) :: m.eraseIdx k)
  refine ws_seqQ (fun r' m' => ∃ x y z, r' = [some (D.ref a), some (.int limit), some (.int sp), x, y, z] ∧ m' = (a, MO.dct (genK ac ag ((sp + 1 : Nat) : Int))) :: (ac, .lst (cl.map D.int)) :: (ag, .lst (gs.map D.int)) :: m.eraseIdx k) ?_ ?_
  rotate_left
  · rintro r' m' ⟨x, y, z, rfl, rfl⟩
    repeat' trivial
    refine ⟨_, Sum.inr "cells", _, .inr ⟨0, a, rfl, rfl⟩, rfl, genK_cells, ?_⟩
    repeat' trivial
    have hf : (sp : Int).fmod 64 = ((sp % 64 : Nat) : Int) := by
      rw [Int.fmod_eq_emod_of_nonneg _ (by decide)]; omega
    have hj : sp % 64 < cl.length := by omega
    have hb := hcb _ (List.getElem_mem hj)
    refine od_ixl ?_ (atI_at hf (get_map_int hj)) ?_
    repeat' trivial
    all_goals try decreasing_with fail
    have hd : (sp : Int).fdiv 64 = ((sp / 64 : Nat) : Int) := by
      rw [Int.fdiv_eq_ediv_of_nonneg _ (by decide)]; omega
    refine ⟨_, _, rfl, ?_, fun r1 h4 h5 => ?_⟩
    · rw [hd]; omega
    repeat' trivial
    refine ⟨_, _, rfl, by omega, fun r2 h6 h7 => ?_⟩
    repeat' trivial
    · omega
    · exact fin gs hg _ (fmod_pos h1).1 (fmod_pos h1).2
  repeat' trivial
  refine ⟨_, Sum.inr "great", _, .inr ⟨0, a, rfl, rfl⟩, rfl, genK_great, ?_⟩
  refine wt_lst (wa_nil ⟨by decide, ?_⟩)
  refine od_neL (isL_own 2 rfl) isL_lst (pys_ints gs) rfl (shaped_ints gs) shaped_nil ?_
  repeat' trivial
  · rename_i hb
    rw [eqv_nil] at hb
    have hne : gs ≠ [] := fun z => by subst z; simp at hb
    have hlen : 0 < gs.length := List.length_pos_iff.mpr hne
    refine ⟨_, Sum.inr "great", _, .inr ⟨0, a, rfl, rfl⟩, rfl, genK_great, ?_⟩
    repeat' trivial
    refine cd_len (.inl (isL_own 2 rfl)) ?_
    repeat' trivial
    · simp; omega
    have hf : (sp : Int).fmod ((gs.map D.int).length : Nat) = ((sp % gs.length : Nat) : Int) := by
      rw [Int.fmod_eq_emod_of_nonneg _ (by simp), List.length_map]; omega
    have hj : sp % gs.length < gs.length := Nat.mod_lt _ hlen
    rw [hf]
    refine od_ixl ?_ (atI_at rfl (get_map_int hj)) ?_
    repeat' trivial
    · exact ⟨by omega, by omega⟩
    · refine wg_subl ?_
      repeat' trivial
      refine ⟨2, ag, _, _, sp % gs.length, rfl, rfl, rfl, ixN_nat rfl (by simpa using hj), ?_⟩
      repeat' trivial
      · omega
      have e2 : (gs.map D.int).set (sp % gs.length) (.int (gs[sp % gs.length].fdiv limit)) = (gs.set (sp % gs.length) (gs[sp % gs.length].fdiv limit)).map D.int := by rw [List.map_set]
      rw [e2]
      exact fin _ (by simpa using hg) _ (fmod_pos h1).1 (fmod_pos h1).2
    · exact ⟨_, _, _, rfl, rfl⟩
  · exact ⟨_, _, _, rfl, rfl⟩
end

section
variable {cs : Cs}
theorem run__law_begun : Runs (sp__law_begun cs) N__law_begun (t__law_begun cs.K cs) := by
  rintro E ds m Ph Pc ⟨a, ns, rfl, hl, rfl, k⟩
  unfold t__law_begun
  show WS _ _ _ _ [some (.scr cs.K a ns), none, none] []
  refine ws_post (ws_seq (ws_asg (wt_disp fun p hp => wpr_cons ?_)))
  repeat' trivial
  refine ⟨a, ns, rfl, hl, fun l cl hL hc hb => ?_⟩
  refine wpr_cons ?_
  repeat' trivial
  refine wt_lst (wa_nil ⟨by decide, ?_⟩)
  refine wpr_cons ?_
  repeat' trivial
  refine wpr_nil ⟨1, [(Sum.inr "cells", .ref l), (Sum.inr "great", .lst []), (Sum.inr "spot", .int 0)], rfl, rfl, by simp, ?_⟩
  repeat' trivial
  refine wt_lcm (gonly_name (by simp)) (wi_seqS (a := a) (ns := ns) (wt_var rfl ⟨rfl, ?_⟩))
  refine ⟨(ns.map fun c => if (10 : Int) ^ (18 : Int).toNat ≤ c then c else 0).map D.int, by simp, by simp [sizeLine_eq]; omega, fun i d y L acc h1 h2 => ?_, .inr fun L hL => ?_⟩
  · rw [List.getElem?_map] at h1
    rw [List.getElem?_map, List.getElem?_map] at h2
    cases e : ns[i]? with
    | none => rw [e] at h1; cases h1
    | some z =>
      rw [e] at h1 h2
      cases h1
      have h2' := Option.some.inj h2
      repeat' trivial
      · refine od_pow ⟨by decide, by decide, by decide⟩ ?_
        repeat' trivial
        · rename_i hb
          refine ⟨?_, rfl⟩
          rw [← h2']; exact congrArg D.int (if_pos (of_decide_eq_true hb)).symm
        · rename_i hb
          refine ⟨?_, rfl⟩
          rw [← h2']; exact congrArg D.int (if_neg (of_decide_eq_false hb)).symm
  · repeat' trivial
    refine ⟨2, p, _, Sum.inr "great", rfl, rfl, rfl, ?_, ?_⟩
    · show (mergeD [] [(Sum.inr "cells", .ref l), (Sum.inr "great", .lst []), (Sum.inr "spot", .int 0)]).length < sizeLine
      simp [mergeD, putD, n_cg, n_cs, n_gs, sizeLine_eq]
    · repeat' trivial
      have e : putD (mergeD [] [(Sum.inr (Str.ofString "cells"), .ref l), (Sum.inr (Str.ofString "great"), .lst []), (Sum.inr (Str.ofString "spot"), .int 0)]) (Sum.inr (Str.ofString "great")) (.ref L) = genK l L 0 := by
        simp [mergeD, putD, n_cg, n_cs, n_gs, n_sg, genK]
      show ∃ m2, Wk [(L, MO.lst _), (l, MO.lst (cl.map D.int)), (p, MO.dct (putD _ _ _))] m2 ∧ Ph (.ref p) m2
      rw [e]
      exact ⟨_, wk_new hc hb (by simpa using hl), k p l L⟩
theorem run__law_of : Runs (sp__law_of cs) N__law_of (t__law_of cs.K cs) := by
  rintro E ds m Ph Pc ⟨a, ac, ag, k, n, xs, y, rfl, hy, e, h1, h2, h3, kk⟩
  unfold t__law_of
  show WS _ _ _ _ [some (.ref a), some y] m
  have hlen : 0 < xs.length := List.length_pos_iff.mpr h1
  have fin : ∀ r : Int, 0 ≤ r → r < xs.length → ∃ d, atI xs r = some d ∧ Ph d (m.set k (a, .gen ac ag (n + 1))) := fun r h4 h5 => by
    have hj : r.toNat < xs.length := by omega
    exact ⟨xs[r.toNat], atI_at (j := r.toNat) (by omega) (List.getElem?_eq_getElem hj), kk _ (List.getElem_mem hj)⟩
  repeat' trivial
  refine cd_len (ds := xs) (by rcases hy with h | h <;> subst h; exact .inl (.inl rfl); exact .inr rfl) ?_
  repeat' trivial
  refine ⟨a, ac, ag, k, n, _, rfl, e, by omega, by omega, h3, fun r h4 h5 => ?_⟩
  obtain ⟨d, e1, e2⟩ := fin r h4 h5
  rcases hy with h | h <;> subst h
  · exact od_ixl isL_lst e1 e2
  · exact od_ixt e1 e2
end

section
variable {cs : Cs}
theorem pls_mem : ∀ {ds : List D} {d : D}, D.pls ds = true → d ∈ ds → d.pl = true
  | [], _, _, h => by cases h
  | x :: xs, d, hp, h => by
    rw [D.pls, Bool.and_eq_true] at hp
    rcases List.mem_cons.mp h with e | e
    · subst e; exact hp.1
    · exact pls_mem hp.2 e
theorem shals_mem {n : Nat} : ∀ {ds : List D} {d : D}, D.shals ds n = true → d ∈ ds → d.shal n = true
  | [], _, _, h => by cases h
  | x :: xs, d, hp, h => by
    rw [D.shals, Bool.and_eq_true] at hp
    rcases List.mem_cons.mp h with e | e
    · subst e; exact hp.1
    · exact shals_mem hp.2 e
theorem pl_tup {ds : List D} (h : (D.tup ds).pl = true) : ds.length ≤ 2000000 ∧ D.pls ds = true := by
  rw [D.pl, Bool.and_eq_true, decide_eq_true_eq] at h
  exact h
theorem pl_lst {ds : List D} (h : (D.lst ds).pl = true) : ds.length ≤ 2000000 ∧ D.pls ds = true := by
  rw [D.pl, Bool.and_eq_true, decide_eq_true_eq] at h
  exact h
theorem run__law_like (n : Nat) : Runs (sp__law_like cs (n + 1)) N__law_like (t__law_like cs.K cs (sp__law_like cs n)) := by
  rintro E ds m Ph Pc ⟨d, rfl, hp, hs, k⟩
  unfold t__law_like
  show WS _ _ _ _ [some d, some d, none] m
  -- the walk over the items
  have walk : ∀ (xs : List D), (d = .tup xs ∨ d = .lst xs) → WS (WF E) (fun cls fs _ m' => Pc cls fs m')
      (tSeq (tIfS (tTest (tOp (rNeA cs.K) (tCB (rLenA cs.K) (tCons (tVar 0) tNil)) (tCB (rLenA cs.K) (tCons (tVar 1) tNil)))) (tRet (tC (.bl false))) tNext)
        (tSeq (tFor (iRng1 (tCons (tCB (rLenA cs.K) (tCons (tVar 1) tNil)) tNil)) (gName 2)
        (tIfS (tNot (tB (tCallG (lift (sp__law_like cs n)) [] (WE (WF E)) (tCons (tOp (rIx cs.K) (tVar 0) (tVar 2)) (tCons (tOp (rIx cs.K) (tVar 1) (tVar 2)) tNil))))) (tRet (tC (.bl false))) tNext))
        (tRet (tC (.bl true))))) { nx := fun _ m' => Ph .non m', rt := Ph } [some d, some d, none] m := by
    intro xs hd
    have hS : IsS m d xs := by
      rcases hd with h | h <;> subst h
      · exact .inr rfl
      · exact .inl (.inl rfl)
    have hl : xs.length ≤ 2000000 ∧ D.pls xs = true := by
      rcases hd with h | h <;> subst h
      · exact pl_tup hp
      · exact pl_lst hp
    have ix : ∀ {i : Nat} {x : D} {Ph : PhiT}, xs[i]? = some x → Ph x m → OpD (rIx cs.K) d (.int (i : Nat)) m Ph := fun e q => by
      rcases hd with h | h <;> subst h
      · exact od_ixt (atI_nat e) q
      · exact od_ixl isL_lst (atI_nat e) q
    repeat' trivial
    refine cd_len hS ?_
    repeat' trivial
    refine cd_len hS ?_
    repeat' trivial
    · rename_i hb
      simp at hb
    · refine ws_for (wi_rng1 (wa_cons ?_))
      repeat' trivial
      refine cd_len hS ?_
      repeat' trivial
      refine ⟨by omega, by omega, fun i r' m' => (∃ z, r' = [some d, some d, z]) ∧ m' = m, ⟨⟨none, rfl⟩, rfl⟩, ?_, ?_⟩
      · rintro i x r' m' hx ⟨⟨z, rfl⟩, rfl⟩
        obtain ⟨h3, rfl⟩ := rngD_get hx
        have h3' : i < xs.length := by simpa using h3
        have e0 : (0 : Int) + (i : Nat) = (i : Nat) := by omega
        rw [e0]
        have ei := List.getElem?_eq_getElem h3'
        repeat' trivial
        refine ix ei ?_
        repeat' trivial
        refine ix ei ?_
        repeat' trivial
        cases n with
        | zero => rcases hd with h | h <;> subst h <;> simp [D.shal] at hs
        | succ n =>
          have hs2 : D.shals xs n = true := by rcases hd with h | h <;> subst h <;> simpa [D.shal] using hs
          refine ⟨xs[i], rfl, pls_mem hl.2 (List.getElem_mem h3'), shals_mem hs2 (List.getElem_mem h3'), ?_⟩
          repeat' trivial
      · rintro r' m' ⟨⟨z, rfl⟩, rfl⟩
        repeat' trivial
  cases d with
  | non => repeat' trivial
  | bl b =>
    repeat' trivial
    refine od_eqv (v := .bl b) (w := .bl b) rfl rfl rfl ?_
    rw [decide_eq_true rfl]; exact k
  | int i =>
    repeat' trivial
    rw [show (i == i) = true from by simp]
    exact k
  | str s =>
    repeat' trivial
    rw [show (s == s) = true from by simp]
    exact k
  | tup xs =>
    iterate 5 refine ws_skip (by repeat' trivial) ?_
    exact walk xs (.inl rfl)
  | lst xs =>
    iterate 5 refine ws_skip (by repeat' trivial) ?_
    exact walk xs (.inr rfl)
  | dct _ => simp [D.pl] at hp
  | ref _ => simp [D.pl] at hp
  | ty _ => simp [D.pl] at hp
  | exc _ _ _ => simp [D.pl] at hp
  | scr _ _ _ => simp [D.pl] at hp
end

section
variable {cs : Cs}
theorem run_is_number : Runs (sp_is_number cs) N_is_number (t_is_number cs.K cs) := by
  rintro E ds m Ph Pc ⟨v, lo, hi, rfl, hp, hh, k⟩
  unfold t_is_number
  show WS _ _ _ _ [some v, some (.int lo), some hi] m
  cases v with
  | int i =>
    rcases hh with rfl | ⟨h, rfl⟩
    · repeat' trivial
      · rename_i hb _
        have e : isNumD (.int i) lo (hiO .non) = true := by simp [isNumD, hiO]; exact of_decide_eq_true hb
        rw [e] at k; exact k
      · rename_i hb
        have e : isNumD (.int i) lo (hiO .non) = false := by simp [isNumD, hiO]; have := of_decide_eq_false hb; omega
        rw [e] at k; exact k
    · repeat' trivial
      · rename_i hb _
        have e : isNumD (.int i) lo (hiO (.int h)) = decide (i ≤ h) := by simp [isNumD, hiO, of_decide_eq_true hb]
        rw [e] at k; exact k
      · rename_i hb
        have e : isNumD (.int i) lo (hiO (.int h)) = false := by simp [isNumD]; intro z; exact absurd z (of_decide_eq_false hb)
        rw [e] at k; exact k
  | non => repeat' trivial
  | bl b => repeat' trivial
  | str s => repeat' trivial
  | tup s => repeat' trivial
  | lst s => repeat' trivial
  | dct _ => simp [D.pl] at hp
  | ref _ => simp [D.pl] at hp
  | ty _ => simp [D.pl] at hp
  | exc _ _ _ => simp [D.pl] at hp
  | scr _ _ _ => simp [D.pl] at hp
theorem run_is_row : Runs (sp_is_row cs) N_is_row (t_is_row cs.K cs) := by
  rintro E ds m Ph Pc ⟨v, l, rfl, hp, hh, k⟩
  unfold t_is_row
  show WS _ _ _ _ [some v, some l] m
  cases v with
  | tup s =>
    rcases hh with rfl | ⟨h, rfl⟩
    · repeat' trivial
    · repeat' trivial
      refine cd_len (.inr rfl) ?_
      repeat' trivial
  | int i => repeat' trivial
  | non => repeat' trivial
  | bl b => repeat' trivial
  | str s => repeat' trivial
  | lst s => repeat' trivial
  | dct _ => simp [D.pl] at hp
  | ref _ => simp [D.pl] at hp
  | ty _ => simp [D.pl] at hp
  | exc _ _ _ => simp [D.pl] at hp
  | scr _ _ _ => simp [D.pl] at hp
theorem run_are_numbers : Runs (sp_are_numbers cs) N_are_numbers (t_are_numbers cs.K cs) := by
  rintro E ds m Ph Pc ⟨v, hi, lo, rfl, hp, k⟩
  unfold t_are_numbers
  show WS _ _ _ _ [some v, some (.int hi), some (.int lo), none] m
  repeat' trivial
  refine ⟨v, .non, rfl, hp, .inl rfl, ?_⟩
  by_cases hv : ∃ xs, v = .tup xs
  · obtain ⟨xs, rfl⟩ := hv
    have hl := pl_tup hp
    refine ⟨true, rfl, fun _ => ?_, fun z => Bool.noConfusion z⟩
    refine wt_cb (wa_cons (wt_lcm (gonly_name (by simp)) (wi_seq (wt_var rfl ⟨xs, .inr rfl, ?_⟩))))
    refine ⟨(xs.map fun x => isNumD x lo (some hi)).map D.bl, by simp, by rw [sizeLine_eq]; omega, fun i d y L acc h1 h2 => ?_, .inl ?_⟩
    · rw [List.getElem?_map, List.getElem?_map, h1] at h2
      have h2' := Option.some.inj h2
      repeat' trivial
      refine ⟨d, lo, .int hi, rfl, pls_mem hl.2 (List.mem_of_getElem? h1), .inr ⟨hi, rfl⟩, ?_⟩
      exact ⟨h2', rfl⟩
    · refine wa_nil (cd_all isL_lst ?_)
      have e : (xs.map fun x => isNumD x lo (some hi)).all id = areNumsD (.tup xs) hi lo := by
        rw [List.all_map]; rfl
      rw [e]; exact k
  · have e : isRowD v (hiO .non) = false := by
      cases v <;> first | rfl | exact absurd ⟨_, rfl⟩ hv
    have e2 : areNumsD v hi lo = false := by
      cases v <;> first | rfl | exact absurd ⟨_, rfl⟩ hv
    rw [e]
    refine ⟨false, rfl, fun z => Bool.noConfusion z, fun _ => ?_⟩
    rw [e2] at k; exact k
end

section
variable {cs : Cs}
theorem row2 {v : D} (h : ¬ ∃ a b, v = .tup [a, b]) : isRowD v (hiO (.int 2)) = false := by
  cases v with
  | tup xs =>
    match xs, h with
    | [], _ => rfl
    | [_], _ => rfl
    | [a, b], h => exact absurd ⟨a, b, rfl⟩ h
    | _ :: _ :: _ :: r, _ =>
      simp [isRowD, hiO]
      omega
  | _ => rfl
theorem run_is_door : Runs (sp_is_door cs) N_is_door (t_is_door cs.K cs) := by
  rintro E ds m Ph Pc ⟨n, v, rfl, hp, k⟩
  unfold t_is_door
  show WS _ _ _ _ [some (.int n), some v] m
  repeat' trivial
  refine ⟨v, .int 2, rfl, hp, .inr ⟨2, rfl⟩, ?_⟩
  by_cases hv : ∃ a b, v = .tup [a, b]
  · obtain ⟨a, b, rfl⟩ := hv
    have hl := pl_tup hp
    have pa : a.pl = true := pls_mem hl.2 (by simp)
    have pb : b.pl = true := pls_mem hl.2 (by simp)
    rw [show isRowD (.tup [a, b]) (hiO (.int 2)) = true from rfl]
    repeat' trivial
    refine od_ixt (d := a) rfl ?_
    repeat' trivial
    refine ⟨a, 0, .non, rfl, pa, .inl rfl, ?_⟩
    cases a with
    | int i =>
      by_cases hi : 0 ≤ i
      · rw [show isNumD (.int i) 0 (hiO .non) = true from by simp [isNumD, hiO, hi]]
        repeat' trivial
        refine od_ixt (d := b) rfl ?_
        repeat' trivial
        refine od_ixt (d := .int i) rfl ?_
        repeat' trivial
        refine ⟨b, i + 1, .int (n - 1), rfl, pb, .inr ⟨_, rfl⟩, ?_⟩
        have e : isDoorD n (.tup [.int i, b]) = isNumD b (i + 1) (some (n - 1)) := by simp [isDoorD, hi]
        rw [e] at k; exact k
      · rw [show isNumD (.int i) 0 (hiO .non) = false from by simp [isNumD, hiO]; omega]
        have e : isDoorD n (.tup [.int i, b]) = false := by simp [isDoorD, hi]
        rw [e] at k
        repeat' trivial
    | _ => repeat' trivial
  · rw [row2 hv]
    have e : isDoorD n v = false := by
      cases v with
      | tup xs =>
        match xs, hv with
        | [], _ => rfl
        | [_], _ => simp [isDoorD]
        | [a, b], h => exact absurd ⟨a, b, rfl⟩ h
        | _ :: _ :: _ :: r, _ => simp [isDoorD]
      | _ => rfl
    rw [e] at k
    repeat' trivial
end

section
variable {cs : Cs}
theorem door_ints {n : Int} {d : D} (h : isDoorD n d = true) : d = .tup ((intsD d).map D.int) := by
  cases d with
  | tup xs =>
    match xs, h with
    | [], h => simp [isDoorD] at h
    | [_], h => simp [isDoorD] at h
    | [a, b], h =>
      cases a with
      | int i =>
        cases b with
        | int j => rfl
        | _ => simp [isDoorD, isNumD] at h
      | _ => simp [isDoorD] at h
    | _ :: _ :: _ :: _, h => simp [isDoorD] at h
  | _ => simp [isDoorD] at h
theorem od_led {K : PySem.W.Frag} {m : Sto} {Ph : PhiT} {d p : D} {ns ms : List Int} (h1 : d = .tup (ns.map D.int)) (h2 : p = .tup (ms.map D.int)) (k : Ph (.bl (leI ns ms)) m) : OpD (rLe K) d p m Ph := by
  subst h1; subst h2
  exact od_let k
def prevD (dl : List D) (i : Nat) : Option D := if i = 0 then none else dl[i - 1]?
theorem faultD_form {v : D} {most : Int} (h : ¬ ∃ cl dl, v = .tup [.tup cl, .tup dl]) : faultD v most = .tup [.str "form"] := by
  unfold faultD
  split
  · exact absurd ⟨_, _, rfl⟩ h
  · rfl
theorem faultD_eq {cl dl : List D} {most : Int} : faultD (.tup [.tup cl, .tup dl]) most = if most < ((cl.length : Nat) : Int) then .tup [.str "many"] else if (cl.all fun x => isNumD x 0 (some 9)) = false then .tup [.str "colours"] else
      (match badDoor ((cl.length : Nat) : Int) none dl 0 with | some i => .tup [.int (i : Nat)] | none => .tup []) := rfl
theorem badDoor_nil {n : Int} {prev : Option D} {i : Nat} : badDoor n prev [] i = none := by cases prev <;> rfl
theorem badDoor_cons {n : Int} {prev : Option D} {d : D} {ds : List D} {i : Nat} : badDoor n prev (d :: ds) i = if (!isDoorD n d || (match prev with | none => false | some p => leI (intsD d) (intsD p))) = true then some i else badDoor n (some d) ds (i + 1) := by cases prev <;> rfl
theorem run_house_fault : Runs (sp_house_fault cs) N_house_fault (t_house_fault cs.K cs) := by
  rintro E ds m Ph Pc ⟨v, most, rfl, hp, k⟩
  unfold t_house_fault
  show WS _ _ _ _ [some v, some (.int most), none, none] m
  repeat' trivial
  refine ⟨v, .int 2, rfl, hp, .inr ⟨2, rfl⟩, ?_⟩
  by_cases hv : ∃ a b, v = .tup [a, b]
  · obtain ⟨a, b, rfl⟩ := hv
    have hl := pl_tup hp
    have pa : a.pl = true := pls_mem hl.2 (by simp)
    have pb : b.pl = true := pls_mem hl.2 (by simp)
    rw [show isRowD (.tup [a, b]) (hiO (.int 2)) = true from rfl]
    repeat' trivial
    refine od_ixt (d := a) rfl ?_
    repeat' trivial
    refine ⟨a, .non, rfl, pa, .inl rfl, ?_⟩
    by_cases ha : ∃ cl, a = .tup cl
    · obtain ⟨cl, rfl⟩ := ha
      rw [show isRowD (.tup cl) (hiO .non) = true from rfl]
      repeat' trivial
      refine od_ixt (d := b) rfl ?_
      repeat' trivial
      refine ⟨b, .non, rfl, pb, .inl rfl, ?_⟩
      by_cases hb : ∃ dl, b = .tup dl
      · obtain ⟨dl, rfl⟩ := hb
        have hld := pl_tup pb
        rw [show isRowD (.tup dl) (hiO .non) = true from rfl]
        repeat' trivial
        refine od_ixt (d := .tup cl) rfl ?_
        repeat' trivial
        refine cd_len (.inr rfl) ?_
        repeat' trivial
        · rename_i hb
          try refine ⟨by decide, ?_⟩
          have e : faultD (.tup [.tup cl, .tup dl]) most = .tup [.str "many"] := by rw [faultD_eq]; exact if_pos (of_decide_eq_true hb)
          rw [e] at k; exact k
        rename_i hm
        have hm' : ¬ most < ((cl.length : Nat) : Int) := of_decide_eq_false hm
        refine od_ixt (d := .tup cl) rfl ?_
        repeat' trivial
        refine ⟨.tup cl, 9, 0, rfl, pa, ?_⟩
        by_cases hc : (cl.all fun x => isNumD x 0 (some 9)) = true
        · rw [show areNumsD (.tup cl) 9 0 = true from hc]
          have ef : faultD (.tup [.tup cl, .tup dl]) most = (match badDoor ((cl.length : Nat) : Int) none dl 0 with | some i => .tup [.int (i : Nat)] | none => .tup []) := by
            rw [faultD_eq, if_neg hm', if_neg (by rw [hc]; decide)]
          repeat' trivial
          refine ws_for (wi_enum (wa_cons (wt_op ?_)))
          repeat' trivial
          refine od_ixt (d := .tup dl) rfl (wa_nil ⟨_, dl, rfl, .inr rfl, ?_⟩)
          refine ⟨fun i r' m' => (m' = m ∧ ∃ u w, r' = [some (.tup [.tup cl, .tup dl]), some (.int most), u, w]) ∧ badDoor ((cl.length : Nat) : Int) none dl 0 = badDoor ((cl.length : Nat) : Int) (prevD dl i) (dl.drop i) i ∧ ∀ p, prevD dl i = some p → isDoorD ((cl.length : Nat) : Int) p = true,
            ⟨⟨rfl, none, none, rfl⟩, rfl, fun p hp => by simp [prevD] at hp⟩, ?_, ?_⟩
          · rintro i x r' m' hx ⟨⟨rfl, u, w, rfl⟩, hbad, hprev⟩
            obtain ⟨d, hd, rfl⟩ := enumD_get hx
            have hi : i < dl.length := (List.getElem?_eq_some_iff.mp hd).1
            have edrop : dl.drop i = d :: dl.drop (i + 1) := by
              rw [List.drop_eq_getElem_cons hi]
              congr 1
              exact (List.getElem?_eq_some_iff.mp hd).2
            have hnext : prevD dl (i + 1) = some d := by simp [prevD, hd]
            repeat' trivial
            refine od_ixt (d := .tup cl) rfl ?_
            repeat' trivial
            refine cd_len (.inr rfl) ?_
            repeat' trivial
            refine ⟨_, d, rfl, pls_mem hld.2 (List.mem_of_getElem? hd), ?_⟩
            rw [edrop] at hbad
            by_cases hdoor : isDoorD ((cl.length : Nat) : Int) d = true
            · rw [hdoor]
              repeat' trivial
              · rename_i hpos
                have hi0 : 0 < i := by
                  have := of_decide_eq_true hpos
                  omega
                have hp1 : i - 1 < dl.length := by omega
                have ep : prevD dl i = some dl[i - 1] := by
                  unfold prevD
                  rw [if_neg (by omega)]
                  exact List.getElem?_eq_getElem hp1
                have hpd := hprev _ ep
                refine od_ixt (d := .tup dl) rfl ?_
                repeat' trivial
                refine od_ixt (d := dl[i - 1]) (atI_at (j := i - 1) (by omega) (List.getElem?_eq_getElem hp1)) ?_
                refine od_led (door_ints hdoor) (door_ints hpd) ?_
                rw [ep] at hbad
                by_cases hle : leI (intsD d) (intsD dl[i - 1]) = true
                · rw [hle]
                  repeat' trivial
                  try refine ⟨by show 1 ≤ sizeLine; decide, ?_⟩
                  have e2 : badDoor ((cl.length : Nat) : Int) none dl 0 = some i := by
                    rw [hbad, badDoor_cons, hdoor]
                    simp [hle]
                  rw [ef, e2] at k
                  exact k
                · rw [Bool.not_eq_true] at hle
                  rw [hle]
                  repeat' trivial
                  refine ⟨⟨rfl, _, _, rfl⟩, ?_, fun p hp => by rw [hnext] at hp; cases hp; exact hdoor⟩
                  rw [hbad, badDoor_cons, hdoor, hnext]
                  simp [hle]
              · rename_i hpos _
                have hi0 : i = 0 := by
                  have := of_decide_eq_false hpos
                  omega
                subst hi0
                refine ⟨⟨rfl, _, _, rfl⟩, ?_, fun p hp => by rw [hnext] at hp; cases hp; exact hdoor⟩
                rw [hbad, badDoor_cons, hdoor, hnext]
                simp [prevD]
            · rw [Bool.not_eq_true] at hdoor
              rw [hdoor]
              repeat' trivial
              try refine ⟨by show 1 ≤ sizeLine; decide, ?_⟩
              have e2 : badDoor ((cl.length : Nat) : Int) none dl 0 = some i := by
                rw [hbad, badDoor_cons, hdoor]
                simp
              rw [ef, e2] at k
              exact k
          · rintro r' m' ⟨⟨rfl, u, w, rfl⟩, hbad, hprev⟩
            rw [enumD_len] at hbad
            rw [List.drop_length, badDoor_nil] at hbad
            rw [ef, hbad] at k
            repeat' trivial
        · rw [Bool.not_eq_true] at hc
          rw [show areNumsD (.tup cl) 9 0 = false from hc]
          have e : faultD (.tup [.tup cl, .tup dl]) most = .tup [.str "colours"] := by
            rw [faultD_eq, if_neg hm', if_pos hc]
          rw [e] at k
          repeat' trivial
      · rw [show isRowD b (hiO .non) = false from by cases b <;> first | rfl | exact absurd ⟨_, rfl⟩ hb]
        rw [faultD_form (fun ⟨x, y, e⟩ => by cases e; exact hb ⟨_, rfl⟩)] at k
        repeat' trivial
    · rw [show isRowD a (hiO .non) = false from by cases a <;> first | rfl | exact absurd ⟨_, rfl⟩ ha]
      rw [faultD_form (fun ⟨x, y, e⟩ => by cases e; exact ha ⟨_, rfl⟩)] at k
      repeat' trivial
  · rw [row2 hv]
    rw [faultD_form (fun ⟨x, y, e⟩ => hv ⟨_, _, e⟩)] at k
    repeat' trivial
end

section
variable {cs : Cs}
theorem faultD_cases (v : D) (most : Int) : faultD v most = .tup [] ∨ (∃ i : Nat, faultD v most = .tup [.int i]) ∨ ∃ s : Str, (s = "form" ∨ s = "many" ∨ s = "colours") ∧ faultD v most = .tup [.str s] := by
  by_cases h : ∃ cl dl, v = .tup [.tup cl, .tup dl]
  · obtain ⟨cl, dl, rfl⟩ := h
    rw [faultD_eq]
    split
    · exact .inr (.inr ⟨_, .inr (.inl rfl), rfl⟩)
    · split
      · exact .inr (.inr ⟨_, .inr (.inr rfl), rfl⟩)
      · cases badDoor ((cl.length : Nat) : Int) none dl 0 with
        | none => exact .inl rfl
        | some i => exact .inr (.inl ⟨i, rfl⟩)
  · exact .inr (.inr ⟨_, .inl rfl, faultD_form h⟩)
theorem shaped_tnil : SeqAt.shaped (.tuple []) = true := shaped_tints []
theorem shaped_tstr {s : Str} (h : PyData.strOk s = true) : SeqAt.shaped (.tuple [.str s]) = true := by
  unfold SeqAt.shaped
  simp [PyData.canLay0, PyData.canLayAll0, PyData.depth, PyData.depthAll, h]
theorem run_need_house : Runs (sp_need_house cs) N_need_house (t_need_house cs.K cs) := by
  rintro E ds m Ph Pc ⟨v, rfl, hp, k1, k2⟩
  unfold t_need_house
  show WS _ _ _ _ [some v, none] m
  repeat' trivial
  refine ⟨v, 60, rfl, hp, ?_⟩
  rcases faultD_cases v 60 with e | ⟨i, e⟩ | ⟨s, hs, e⟩
  · rw [e]
    repeat' trivial
    try refine ⟨by decide, ?_⟩
    refine od_ne (p := .tuple []) (q := .tuple []) rfl rfl shaped_tnil shaped_tnil ?_
    rw [eqv_tnil]
    repeat' trivial
    exact k1 e
  · rw [e]
    repeat' trivial
    try refine ⟨by decide, ?_⟩
    refine od_ne (p := .tuple [.int i]) (q := .tuple []) (by simp [D.py, D.pys]) rfl (shaped_tints [(i : Int)]) shaped_tnil ?_
    rw [eqv_tnil]
    repeat' trivial
    refine od_ixt (d := .int i) rfl ?_
    repeat' trivial
    exact k2 _ e
  · rw [e]
    repeat' trivial
    try refine ⟨by decide, ?_⟩
    refine od_ne (p := .tuple [.str s]) (q := .tuple []) (by simp [D.py, D.pys]) rfl (shaped_tstr (by rcases hs with h | h | h <;> subst h <;> decide +kernel)) shaped_tnil ?_
    rw [eqv_tnil]
    repeat' trivial
    refine od_ixt (d := .str s) rfl ?_
    repeat' trivial
    exact k2 _ e
end

section
open TL
variable {cs : Cs}
theorem inV_int (i j : Int) (vs : List V) : inV (.int i) (.int j :: vs) = ((j == i) || inV (.int i) vs) := by
  simp [inV, eqV]
theorem inV_nil (x : V) : inV x [] = false := rfl
theorem digits_tl : (Str.ofString "0123456789").cps.toList = [48, 49, 50, 51, 52, 53, 54, 55, 56, 57] := by decide +kernel
theorem dig_mem (c : Nat) : decide (c ∈ (Str.ofString "0123456789").cps.toList) = dig c := by
  rw [digits_tl, Bool.eq_iff_iff]
  simp [dig]
  omega
theorem sign_eq (c d : Nat) : ((⟨#[c]⟩ : Str) == ⟨#[d]⟩) = (c == d) := by
  rw [Bool.eq_iff_iff]
  simp
theorem zero_str : Str.ofString "0" = ⟨#[48]⟩ := by decide +kernel
theorem numL_one {a : Nat} (h : dig a = true) : (⟨#[a]⟩ : Str) = numS (a - 48) := by
  simp [dig] at h
  refine ext_tl ?_
  rw [numS, tl_num, numL_lt (by omega)]
  show [a] = [48 + (a - 48)]
  rw [show 48 + (a - 48) = a from by omega]
theorem numL_two {n : Nat} (h1 : 10 ≤ n) (h2 : n < 100) : numL n = [48 + n / 10, 48 + n % 10] := by
  rw [numL_step h1, numL_lt (by omega)]
  rfl
theorem numS_two {a b : Nat} (ha : dig a = true) (hb : dig b = true) (h0 : (a == 48) = false) : (⟨#[a, b]⟩ : Str) = numS ((a - 48) * 10 + (b - 48)) := by
  simp [dig] at ha hb
  have h0' : a ≠ 48 := fun z => by subst z; simp at h0
  refine ext_tl ?_
  rw [numS, tl_num, numL_two (by omega) (by omega)]
  show [a, b] = _
  rw [show 48 + ((a - 48) * 10 + (b - 48)) / 10 = a from by omega, show 48 + ((a - 48) * 10 + (b - 48)) % 10 = b from by omega]
theorem numC_num {w : Str} {n : Nat} (h : numC w.cps.toList = some n) : w = numS n ∧ n < 100 := by
  obtain ⟨⟨L⟩⟩ := w
  match L, h with
  | [a], h =>
    have h' : (if dig a = true then some (a - 48) else none) = some n := h
    by_cases hd : dig a = true
    · rw [if_pos hd] at h'
      cases h'
      refine ⟨numL_one hd, ?_⟩
      simp [dig] at hd; omega
    · rw [if_neg hd] at h'; cases h'
  | [a, b], h =>
    have h' : (if (dig a && dig b && !(a == 48)) = true then some ((a - 48) * 10 + (b - 48)) else none) = some n := h
    by_cases hd : (dig a && dig b && !(a == 48)) = true
    · rw [if_pos hd] at h'
      cases h'
      simp only [Bool.and_eq_true, Bool.not_eq_true'] at hd
      refine ⟨numS_two hd.1.1 hd.1.2 hd.2, ?_⟩
      have h1 := hd.1.1
      have h2 := hd.1.2
      simp [dig] at h1 h2
      omega
    · rw [if_neg hd] at h'; cases h'
theorem intText_num {w : Str} {n : Nat} (h : numC w.cps.toList = some n) : PySem.intText? w = some (n : Int) := by
  obtain ⟨e, hn⟩ := numC_num h
  rw [e]
  exact int_num (Nat.le_trans (numL_len (k := 2) (by decide) (by omega)) (by decide))
theorem signsD_mk (L : List Nat) : signsD ⟨⟨L⟩⟩ = L.map fun c => D.str ⟨#[c]⟩ := rfl
theorem all_map_dig (L : List Nat) : (L.map dig).all id = L.all dig := by rw [List.all_map]; rfl
theorem run_number_of : Runs (sp_number_of cs) N_number_of (t_number_of cs.K cs) := by
  rintro E ds m Ph Pc ⟨w, rfl, hw, k⟩
  unfold t_number_of
  show WS _ _ _ _ [some (.str w), none] m
  have hz : w.length ≤ sizeLine := by rw [sizeLine_eq]; omega
  obtain ⟨⟨L⟩⟩ := w
  have hl : (⟨⟨L⟩⟩ : Str).length = L.length := rfl
  -- all of the signs
  have allr : ∀ (r : Rho) (Ph' : PhiT), r = [some (.str ⟨⟨L⟩⟩), none] → Ph' (.lst ((L.map dig).map D.bl)) m → WT (fun cls d _ H' => E cls d H') (fun cls fs _ m' => Pc cls fs m') (tLc (iStr (tVar 0)) (gName 1) tYes (tOp (rInA cs.K) (tVar 1) (tC (.str "0123456789"))) [1]) r m Ph' := by
    rintro r Ph' rfl q
    refine wt_lcm (gonly_name (by simp)) (wi_str (wt_var rfl ⟨_, rfl, ?_⟩))
    refine ⟨(L.map dig).map D.bl, by simp [signsD_mk], by rw [signsD_mk, List.length_map]; exact hz, fun i d y A acc h1 h2 => ?_, .inl q⟩
    rw [signsD_mk, List.getElem?_map] at h1
    rw [List.getElem?_map, List.getElem?_map] at h2
    cases e : L[i]? with
    | none => rw [e] at h1; cases h1
    | some c =>
      rw [e] at h1 h2
      cases h1
      have h2' := Option.some.inj h2
      repeat' trivial
      refine od_insign ?_
      rw [dig_mem]
      exact ⟨h2', rfl⟩
  repeat' trivial
  try refine ⟨by decide, ?_⟩
  refine od_ni (ys := [.int 1, .int 2]) (v := .int ((⟨⟨L⟩⟩ : Str).length : Nat)) (vs := [.int 1, .int 2]) rfl rfl ?_ (.inl rfl)
  rw [inV_int, inV_int, inV_nil, hl]
  match L, hz, hl, k, allr with
  | [], hz, hl, k, allr => repeat' trivial
  | [a], hz, hl, k, allr =>
    repeat' trivial
    refine allr _ _ rfl (wa_nil (cd_all isL_lst ?_))
    rw [all_map_dig]
    cases hd : dig a with
    | false =>
      have e : numD ⟨⟨[a]⟩⟩ = .non := by simp [numD, numC, hd]
      rw [e] at k
      rw [show [a].all dig = false from by simp [hd]]
      repeat' trivial
    | true =>
      have e0 : numC (⟨⟨[a]⟩⟩ : Str).cps.toList = some (a - 48) := by simp [numC, hd]
      have e : numD ⟨⟨[a]⟩⟩ = .int ((a - 48 : Nat) : Int) := by simp [numD, e0]
      rw [e] at k
      rw [show [a].all dig = true from by simp [hd]]
      repeat' trivial
      refine cd_ints (intText_num e0) (by show 1 ≤ 640; decide) ?_
      exact k
  | [a, b], hz, hl, k, allr =>
    repeat' trivial
    refine allr _ _ rfl (wa_nil (cd_all isL_lst ?_))
    rw [all_map_dig]
    cases hd : [a, b].all dig with
    | false =>
      have hd' : (dig a && dig b) = false := by simpa using hd
      have e : numD ⟨⟨[a, b]⟩⟩ = .non := by simp [numD, numC, hd']
      rw [e] at k
      repeat' trivial
    | true =>
      have hd' : dig a = true ∧ dig b = true := by simpa using hd
      repeat' trivial
      refine od_ixs (c := a) hz rfl (wt_str (od_eqs ?_))
      rw [zero_str, sign_eq]
      cases h0 : (a == 48) with
      | true =>
        have e : numD ⟨⟨[a, b]⟩⟩ = .non := by simp [numD, numC, hd'.1, hd'.2, h0]
        rw [e] at k
        repeat' trivial
      | false =>
        have e0 : numC (⟨⟨[a, b]⟩⟩ : Str).cps.toList = some ((a - 48) * 10 + (b - 48)) := by simp [numC, hd'.1, hd'.2, h0]
        have e : numD ⟨⟨[a, b]⟩⟩ = .int (((a - 48) * 10 + (b - 48) : Nat) : Int) := by simp only [numD, e0]
        rw [e] at k
        repeat' trivial
        refine cd_ints (intText_num e0) (by show 2 ≤ 640; decide) ?_
        exact k
  | a :: b :: c :: r, hz, hl, k, allr =>
    have e : numD ⟨⟨a :: b :: c :: r⟩⟩ = .non := by simp [numD, numC]
    rw [e] at k
    have e1 : ((1 : Int) == (((a :: b :: c :: r).length : Nat) : Int)) = false := by simp; omega
    have e2 : ((2 : Int) == (((a :: b :: c :: r).length : Nat) : Int)) = false := by simp; omega
    rw [e1, e2]
    repeat' trivial
end

section
open TL
variable {cs : Cs}
def oneF : D → Option D
  | .str s => if s.cps.toList.all dig = true then none else some (.int 1)
  | _ => none
theorem oneF_sign (c : Nat) : oneF (.str ⟨#[c]⟩) = if dig c = true then none else some (.int 1) := by
  simp [oneF]
theorem ones_eq : ∀ L : List Nat, (L.map fun c => D.str ⟨#[c]⟩).filterMap oneF = ((L.filter fun c => !dig c).map fun _ => (1 : Int)).map D.int
  | [] => rfl
  | c :: L => by
    rw [List.map_cons, List.filterMap_cons, oneF_sign, List.filter_cons]
    cases h : dig c with
    | true => have q := ones_eq L; simpa using q
    | false => have q := ones_eq L; simpa using q
theorem ones_empty (L : List Nat) : (((L.filter fun c => !dig c).map fun _ => (1 : Int)).map PyData.int).isEmpty = L.all dig := by
  induction L with
  | nil => rfl
  | cons c L ih =>
    rw [List.filter_cons]
    cases h : dig c with
    | true => simpa [h] using ih
    | false => simp [h]
theorem run__law_number : Runs (sp__law_number cs) N__law_number (t__law_number cs.K cs) := by
  rintro E ds m Ph Pc ⟨w, rfl, hw, k⟩
  unfold t__law_number
  show WS _ _ _ _ [some (.str w), none] m
  have hz : w.length ≤ sizeLine := by rw [sizeLine_eq]; omega
  obtain ⟨⟨L⟩⟩ := w
  have hl : (⟨⟨L⟩⟩ : Str).length = L.length := rfl
  have allr : ∀ (r : Rho) (Ph' : PhiT), r = [some (.str ⟨⟨L⟩⟩), none] → Ph' (.lst (((L.filter fun c => !dig c).map fun _ => (1 : Int)).map D.int)) m → WT (fun cls d _ H' => E cls d H') (fun cls fs _ m' => Pc cls fs m') (tLc (iStr (tVar 0)) (gName 1) (tTest (tOp (rNiA cs.K) (tVar 1) (tC (.str "0123456789")))) (tC (.int 1)) [1]) r m Ph' := by
    rintro r Ph' rfl q
    refine wt_lcf (gonly_name (by simp)) (wi_str (wt_var rfl ⟨_, rfl, ?_⟩))
    refine ⟨oneF, by rw [signsD_mk, List.length_map]; exact hz, fun d A acc h1 => ?_, .inl ?_⟩
    · rw [signsD_mk] at h1
      obtain ⟨c, hc, rfl⟩ := List.mem_map.mp h1
      repeat' trivial
      refine od_nisign ?_
      rw [dig_mem, oneF_sign]
      cases dig c with
      | true => exact ⟨_, rfl, rfl, rfl, fun z => Bool.noConfusion z⟩
      | false =>
        refine ⟨_, rfl, rfl, rfl, fun _ => ?_⟩
        repeat' trivial
    · rw [signsD_mk, ones_eq]; exact q
  repeat' trivial
  refine wt_lst (wa_cons (wt_int (wa_cons (wt_int (wa_nil ⟨by decide, ?_⟩)))))
  refine od_ni (ys := [.int 1, .int 2]) (v := .int ((⟨⟨L⟩⟩ : Str).length : Nat)) (vs := [.int 1, .int 2]) rfl rfl ?_ (.inr rfl)
  rw [inV_int, inV_int, inV_nil, hl]
  match L, hz, hl, k, allr with
  | [], hz, hl, k, allr => repeat' trivial
  | [a], hz, hl, k, allr =>
    repeat' trivial
    refine allr _ _ rfl (wt_lst (wa_nil ⟨by decide, od_neL isL_lst isL_lst (pys_ints _) rfl (shaped_ints _) shaped_nil ?_⟩))
    rw [eqv_nil, ones_empty]
    cases hd : dig a with
    | false =>
      have e : lnumD ⟨⟨[a]⟩⟩ = .int (-1) := by simp [lnumD, numC, hd]
      rw [e] at k
      rw [show [a].all dig = false from by simp [hd]]
      repeat' trivial
    | true =>
      have e0 : numC (⟨⟨[a]⟩⟩ : Str).cps.toList = some (a - 48) := by simp [numC, hd]
      have e : lnumD ⟨⟨[a]⟩⟩ = .int ((a - 48 : Nat) : Int) := by simp [lnumD, e0]
      rw [e] at k
      rw [show [a].all dig = true from by simp [hd]]
      repeat' trivial
      refine cd_ints (intText_num e0) (by show 1 ≤ 640; decide) ?_
      exact k
  | [a, b], hz, hl, k, allr =>
    repeat' trivial
    refine allr _ _ rfl (wt_lst (wa_nil ⟨by decide, od_neL isL_lst isL_lst (pys_ints _) rfl (shaped_ints _) shaped_nil ?_⟩))
    rw [eqv_nil, ones_empty]
    cases hd : [a, b].all dig with
    | false =>
      have hd' : (dig a && dig b) = false := by simpa using hd
      have e : lnumD ⟨⟨[a, b]⟩⟩ = .int (-1) := by simp [lnumD, numC, hd']
      rw [e] at k
      repeat' trivial
    | true =>
      have hd' : dig a = true ∧ dig b = true := by simpa using hd
      repeat' trivial
      refine od_ixs (c := a) hz rfl (wt_str (od_eqs ?_))
      rw [zero_str, sign_eq]
      cases h0 : (a == 48) with
      | true =>
        have e : lnumD ⟨⟨[a, b]⟩⟩ = .int (-1) := by simp [lnumD, numC, hd'.1, hd'.2, h0]
        rw [e] at k
        repeat' trivial
      | false =>
        have e0 : numC (⟨⟨[a, b]⟩⟩ : Str).cps.toList = some ((a - 48) * 10 + (b - 48)) := by simp [numC, hd'.1, hd'.2, h0]
        have e : lnumD ⟨⟨[a, b]⟩⟩ = .int (((a - 48) * 10 + (b - 48) : Nat) : Int) := by simp only [lnumD, e0]
        rw [e] at k
        repeat' trivial
        refine cd_ints (intText_num e0) (by show 2 ≤ 640; decide) ?_
        exact k
  | a :: b :: c :: r, hz, hl, k, allr =>
    have e : lnumD ⟨⟨a :: b :: c :: r⟩⟩ = .int (-1) := by simp [lnumD, numC]
    rw [e] at k
    have e1 : ((1 : Int) == (((a :: b :: c :: r).length : Nat) : Int)) = false := by simp; omega
    have e2 : ((2 : Int) == (((a :: b :: c :: r).length : Nat) : Int)) = false := by simp; omega
    rw [e1, e2]
    repeat' trivial
/-- lengths of what a partition leaves -/
theorem par_len {S : List Nat} : ∀ {l acc p q : List Nat}, par S acc l = some (p, q) → p.length ≤ acc.length + l.length ∧ q.length ≤ l.length
  | [], _, _, _, h => by cases h
  | c :: r, acc, p, q, h => by
    unfold par at h
    split at h
    · cases h
      refine ⟨by omega, ?_⟩
      rw [List.length_drop]; omega
    · have := par_len h
      simp at this ⊢
      omega
theorem dash_tl : tl (Str.ofString "-") = [45] := by decide +kernel
theorem part_len (w : Str) : (Txt.partition w "-").1.length ≤ w.length ∧ (Txt.partition w "-").2.2.length ≤ w.length := by
  rw [partition_par w "-" (by rw [dash_tl]; simp), dash_tl]
  cases h : par [45] [] (tl w) with
  | none => exact ⟨Nat.le_refl _, Nat.zero_le _⟩
  | some pq =>
    obtain ⟨p, q⟩ := pq
    have := par_len h
    simp at this
    rw [len_tl w]
    exact ⟨by show p.length ≤ _; simpa using this.1, by show q.length ≤ _; simpa using this.2⟩
theorem empty_str : Str.ofString "" = Str.empty := rfl
theorem run_read_door : Runs (sp_read_door cs) N_read_door (t_read_door cs.K cs) := by
  rintro E ds m Ph Pc ⟨w, rfl, hw, k⟩
  unfold t_read_door
  show WS _ _ _ _ [some (.str w), none, none, none, none] m
  have hp := part_len w
  unfold doorW at k
  repeat' trivial
  refine md_part (by decide +kernel) (by rw [sizeLine_eq]; omega) ?_
  generalize Txt.partition w (Str.ofString "-") = q at hp k ⊢
  obtain ⟨f, mid, s⟩ := q
  repeat' trivial
  refine ⟨f, rfl, Nat.le_trans hp.1 hw, ?_⟩
  repeat' trivial
  refine ⟨s, rfl, Nat.le_trans hp.2 hw, ?_⟩
  repeat' trivial
  · rename_i hb
    have e : ¬ mid = Str.empty := fun z => by
      rw [z] at hb
      have hb' : (Str.empty == Str.ofString "") = false := hb
      exact absurd hb' (by decide +kernel)
    rw [if_neg e] at k
    have flat : ∀ z : Str, ∃ v, (numD z).flat = some v ∧ flatV v = true ∧ eqV v .non = (numC z.cps.toList).isNone := fun z => by
      unfold numD
      cases numC z.cps.toList with
      | none => exact ⟨_, rfl, rfl, rfl⟩
      | some n => exact ⟨_, rfl, rfl, rfl⟩
    obtain ⟨v1, a1, b1, c1⟩ := flat f
    obtain ⟨v2, a2, b2, c2⟩ := flat s
    refine od_in (x := .non) (ys := [numD f, numD s]) (v := .non) (vs := [v1, v2]) rfl (by simp [D.flats, a1, a2]) ?_ (.inl rfl)
    have ei : inV .non [v1, v2] = ((numC f.cps.toList).isNone || (numC s.cps.toList).isNone) := by simp [inV, c1, c2]
    rw [ei]
    unfold numD
    cases h1 : numC f.cps.toList with
    | none =>
      rw [h1] at k
      have k' : Ph .non m := by cases h2 : numC s.cps.toList <;> rw [h2] at k <;> exact k
      repeat' trivial
    | some a =>
      cases h2 : numC s.cps.toList with
      | none =>
        rw [h1, h2] at k
        have k' : Ph .non m := k
        repeat' trivial
      | some b =>
        rw [h1, h2] at k
        have k' : Ph (.tup [.int (a : Nat), .int (b : Nat)]) m := k
        repeat' trivial
  · rename_i hb _
    have e : mid = Str.empty := by
      have h2 : mid = Str.ofString "" := eq_of_beq hb
      rw [h2, empty_str]
    rw [if_pos e] at k
    exact k
end

section
open TL
variable {cs : Cs}
theorem str_app_len (a b : Str) : (a ++ b).length = a.length + b.length := by
  rw [len_tl, tl_append, List.length_append, ← len_tl, ← len_tl]
theorem numS_len {n : Nat} (h : n < 100) : (numS n).length ≤ 2 := by
  rw [len_tl, numS, tl_num]
  exact numL_len (k := 2) (by decide) (by omega)
theorem sum_le {b : Nat} : ∀ {ys : List Str}, (∀ y ∈ ys, y.length ≤ b) → (ys.map (·.length)).sum ≤ ys.length * b
  | [], _ => Nat.zero_le _
  | y :: ys, h => by
    have h1 := h y List.mem_cons_self
    have h2 := sum_le (ys := ys) fun z hz => h z (List.mem_cons_of_mem _ hz)
    rw [List.map_cons, List.sum_cons, List.length_cons, Nat.succ_mul]
    omega
theorem joinL_len (S : List Nat) : ∀ parts : List (List Nat), (joinL S parts).length ≤ (parts.map (·.length)).sum + parts.length * S.length
  | [] => by simp [joinL]
  | [p] => by simp [joinL]
  | p :: q :: r => by
    have ih := joinL_len S (q :: r)
    rw [joinL, List.length_append, List.length_append, List.map_cons, List.sum_cons, List.length_cons, Nat.succ_mul]
    omega
theorem join_len (y : Str) (parts : List Str) : (Txt.join y parts).length ≤ (parts.map (·.length)).sum + parts.length * y.length := by
  rw [len_tl, join_eq, tl_join]
  have h := joinL_len (tl y) (parts.map tl)
  rw [List.map_map, List.length_map] at h
  rw [len_tl y]
  have e : (parts.map ((·.length) ∘ tl)) = parts.map (·.length) := List.map_congr_left fun z _ => (len_tl z).symm
  rw [e] at h
  exact h
theorem one_len {c : Nat} : (⟨#[c]⟩ : Str).length = 1 := rfl
theorem dash_len : (Str.ofString "-").length = 1 := by decide +kernel
theorem colon_len : (Str.ofString ":").length = 1 := by decide +kernel
theorem space_len : (Str.ofString " ").length = 1 := by decide +kernel
theorem empty_len : (Str.ofString "").length = 0 := by decide +kernel
def doorS (p : Nat × Nat) : Str := numS p.1 ++ "-" ++ numS p.2
theorem doorS_len {p : Nat × Nat} (h1 : p.1 < 100) (h2 : p.2 < 100) : (doorS p).length ≤ 5 := by
  have := numS_len h1
  have := numS_len h2
  rw [doorS, str_app_len, str_app_len, dash_len]
  omega
def colS (cl : List Nat) : Str := Txt.join "" (cl.map numS)
theorem cols_sum {cl : List Nat} (h : ∀ c ∈ cl, c ≤ 9) : ((cl.map numS).map (·.length)).sum ≤ cl.length * 2 := by
  have := sum_le (b := 2) (ys := cl.map numS) fun y hy => by
    obtain ⟨c, hc, rfl⟩ := List.mem_map.mp hy
    exact numS_len (by have := h c hc; omega)
  rwa [List.length_map] at this
theorem colS_len {cl : List Nat} (h : ∀ c ∈ cl, c ≤ 9) : (colS cl).length ≤ cl.length * 2 := by
  have h1 := join_len "" (cl.map numS)
  rw [empty_len] at h1
  have := cols_sum h
  unfold colS
  omega
theorem textS_eq (cl : List Nat) (dl : List (Nat × Nat)) : textS cl dl = Txt.join " " ((colS cl ++ ":") :: dl.map doorS) := rfl
theorem parts_sum {cl : List Nat} {dl : List (Nat × Nat)} (h : SmallH cl dl) : ((((colS cl ++ ":") :: dl.map doorS)).map (·.length)).sum ≤ 10121 := by
  obtain ⟨h1, h2, h3, h4⟩ := h
  have := colS_len h2
  have h5 := sum_le (b := 5) (ys := dl.map doorS) fun y hy => by
    obtain ⟨p, hp, rfl⟩ := List.mem_map.mp hy
    exact doorS_len (h4 p hp).1 (h4 p hp).2
  rw [List.length_map] at h5
  rw [List.map_cons, List.sum_cons, str_app_len, colon_len]
  omega
theorem textS_len {cl : List Nat} {dl : List (Nat × Nat)} (h : SmallH cl dl) : (textS cl dl).length ≤ 12122 := by
  have h1 := join_len " " ((colS cl ++ ":") :: dl.map doorS)
  have h2 := parts_sum h
  obtain ⟨_, _, h3, _⟩ := h
  rw [space_len, List.length_cons, List.length_map] at h1
  rw [textS_eq]
  omega
theorem get_col {cl : List Nat} {i : Nat} {d y : D} (h1 : (cl.map fun (c : Nat) => D.int (c : Int))[i]? = some d) (h2 : ((cl.map numS).map D.str)[i]? = some y) : ∃ c, c ∈ cl ∧ d = .int (c : Nat) ∧ y = .str (numS c) := by
  rw [List.getElem?_map] at h1
  rw [List.getElem?_map, List.getElem?_map] at h2
  cases e : cl[i]? with
  | none => rw [e] at h1; cases h1
  | some c =>
    rw [e] at h1 h2
    cases h1; cases h2
    exact ⟨c, List.mem_of_getElem? e, rfl, rfl⟩
theorem get_door {dl : List (Nat × Nat)} {i : Nat} {d y : D} (h1 : (dl.map fun (p : Nat × Nat) => D.tup [.int (p.1 : Int), .int (p.2 : Int)])[i]? = some d) (h2 : ((dl.map doorS).map D.str)[i]? = some y) :
    ∃ p, p ∈ dl ∧ d = .tup [.int (p.1 : Nat), .int (p.2 : Nat)] ∧ y = .str (doorS p) := by
  rw [List.getElem?_map] at h1
  rw [List.getElem?_map, List.getElem?_map] at h2
  cases e : dl[i]? with
  | none => rw [e] at h1; cases h1
  | some c =>
    rw [e] at h1 h2
    cases h1; cases h2
    exact ⟨c, List.mem_of_getElem? e, rfl, rfl⟩
theorem log_small {n : Nat} (h : n < 100) : ((n : Int)).natAbs.log2 < 1920 := by
  rw [Int.natAbs_natCast]
  have := Nat.log2_le_self n
  omega
section
variable {W : WX} {Ps : PsiT} {r : Rho} {m : Sto} {Ph : PhiT} {cl : List Nat} {dl : List (Nat × Nat)}
/-- the colours' texts -/
theorem wt_cols {j : Nat} (hj : r[0]? = some (some (hD cl dl))) (hlt : j < r.length) (hs : SmallH cl dl) (k : Ph (.lst ((cl.map numS).map D.str)) m) :
    WT W Ps (tLc (iSeq cs.K (tOp (rIx cs.K) (tVar 0) (tC (.int 0)))) (gName j) tYes (tCB rStrI (tCons (tVar j) tNil)) [j]) r m Ph := by
  refine wt_lcm (gonly_name (by simp)) (wi_seq (wt_op (wt_var hj (wt_int (od_ixt (d := .tup (cl.map fun (c : Nat) => D.int (c : Int))) rfl ⟨_, .inr rfl, ?_⟩)))))
  obtain ⟨h1, h2, h3, h4⟩ := hs
  refine ⟨(cl.map numS).map D.str, by simp, by rw [List.length_map, sizeLine_eq]; omega, fun i d y L acc e1 e2 => ?_, .inl k⟩
  obtain ⟨c, hc, rfl, rfl⟩ := get_col e1 e2
  have := h2 c hc
  refine wg_name (wt_cb (wa_cons (wt_var (List.getElem?_set_self (by simpa [wipeR] using hlt)) (wa_nil (cd_str (log_small (by omega)) ?_)))))
  exact ⟨rfl, rfl⟩
/-- the doors' texts -/
theorem wt_doors {i j : Nat} (hj : r[0]? = some (some (hD cl dl))) (hlt : i < r.length) (hlt2 : j < r.length) (hij : j ≠ i) (hs : SmallH cl dl) (k : Ph (.lst ((dl.map doorS).map D.str)) m) :
    WT W Ps (tLc (iSeq cs.K (tOp (rIx cs.K) (tVar 0) (tC (.int 1)))) (gTup cs.K 2 (gCons (gName i) (gCons (gName j) gNil))) tYes (tOp (rAdd cs.K) (tOp (rAdd cs.K) (tCB rStrI (tCons (tVar i) tNil)) (tC (.str "-"))) (tCB rStrI (tCons (tVar j) tNil))) [i, j]) r m Ph := by
  refine wt_lcm (gs2 (by simp) (by simp)) (wi_seq (wt_op (wt_var hj (wt_int (od_ixt (d := .tup (dl.map fun (p : Nat × Nat) => D.tup [.int (p.1 : Int), .int (p.2 : Int)])) rfl ⟨_, .inr rfl, ?_⟩)))))
  obtain ⟨h1, h2, h3, h4⟩ := hs
  refine ⟨(dl.map doorS).map D.str, by simp, by rw [List.length_map, sizeLine_eq]; omega, fun n d y L acc e1 e2 => ?_, .inl k⟩
  obtain ⟨p, hp, rfl, rfl⟩ := get_door e1 e2
  have hp4 := h4 p hp
  have l1 := numS_len hp4.1
  have l2 := numS_len hp4.2
  have g1 : (((wipeR r [i, j]).set i (some (.int (p.1 : Nat)))).set j (some (.int (p.2 : Nat))))[i]? = some (some (.int (p.1 : Nat))) := by
    rw [List.getElem?_set_ne hij, List.getElem?_set_self (by simpa [wipeR] using hlt)]
  have g2 : (((wipeR r [i, j]).set i (some (.int (p.1 : Nat)))).set j (some (.int (p.2 : Nat))))[j]? = some (some (.int (p.2 : Nat))) := List.getElem?_set_self (by simpa [wipeR] using hlt2)
  refine wg_tup rfl (wgs_cons (wg_name (wgs_cons (wg_name (wgs_nil ?_)))))
  refine wt_op (wt_op (wt_cb (wa_cons (wt_var g1 (wa_nil (cd_str (log_small hp4.1) (wt_str (od_adds ?_ (wt_cb (wa_cons (wt_var g2 (wa_nil (cd_str (log_small hp4.2) (od_adds ?_ ⟨rfl, rfl⟩))))))))))))))
  · show (numS p.1).length + _ ≤ _
    rw [dash_len, sizeLine_eq]; omega
  · show (numS p.1 ++ Str.ofString "-").length + (numS p.2).length ≤ _
    rw [str_app_len, dash_len, sizeLine_eq]; omega
end
end

section
open TL
variable {cs : Cs}
theorem join_parts {W : WX} {Ps : PsiT} {r : Rho} {m : Sto} {Ph : PhiT} {cl : List Nat} {dl : List (Nat × Nat)} {tt : TE} {j : Nat} (hj : r[0]? = some (some (hD cl dl))) (hlt : j < r.length) (hs : SmallH cl dl)
    (ht : ∀ Ph' : PhiT, Ph' (.lst ((dl.map doorS).map D.str)) m → WT W Ps tt r m Ph') (k : Ph (.str (textS cl dl)) m) :
    WT W Ps (tM1 (rJoin cs.K) (tC (.str " ")) (tOp (rAdd cs.K) (tLst (tCons (tOp (rAdd cs.K) (tM1 (rJoin cs.K) (tC (.str "")) (tLc (iSeq cs.K (tOp (rIx cs.K) (tVar 0) (tC (.int 0)))) (gName j) tYes (tCB rStrI (tCons (tVar j) tNil)) [j])) (tC (.str ":"))) tNil)) tt)) r m Ph := by
  have hs' := hs
  obtain ⟨h1, h2, h3, h4⟩ := hs
  have c1 := cols_sum h2
  have c2 := colS_len h2
  have c3 := parts_sum hs'
  refine wt_m1 (wt_str ⟨⟨_, rfl⟩, ?_⟩)
  refine wt_op (wt_lst (wa_cons (wt_op (wt_m1 (wt_str ⟨⟨_, rfl⟩, wt_cols hj hlt hs' (md_join (ys := cl.map numS) (.inl isL_lst) ?_ (wt_str (od_adds ?_ (wa_nil ⟨Nat.le_of_ble_eq_true rfl, ?_⟩))))⟩)))))
  · rw [empty_len, List.length_map]; omega
  · show (colS cl).length + _ ≤ _
    rw [colon_len, sizeLine_eq]; omega
  refine ht _ (od_addl ?_ ?_)
  · simp [sizeLine_eq]; omega
  refine md_join (ys := (colS cl ++ ":") :: dl.map doorS) (.inl (.inl (by simp [colS]))) ?_ k
  rw [space_len, List.length_cons, List.length_map]
  omega
theorem run_house_text : Runs (sp_house_text cs) N_house_text (t_house_text cs.K cs) := by
  rintro E ds m Ph Pc ⟨v, rfl, hp, k1, k2⟩
  unfold t_house_text
  show WS _ _ _ _ [some v, none, none, none, none] m
  repeat' trivial
  refine ⟨v, rfl, hp, fun e => ?_, fun x e => k2 x e⟩
  obtain ⟨cl, dl, rfl, hs, k⟩ := k1 e
  refine ws_seq (ws_asg ?_)
  refine wt_doors rfl (by simp) (by simp) (by decide) hs ?_
  refine wg_name (ws_ret ?_)
  exact join_parts (j := 4) rfl (by simp) hs (fun Ph' q => wt_var rfl q) k
theorem run__law_text : Runs (sp__law_text cs) N__law_text (t__law_text cs.K cs) := by
  rintro E ds m Ph Pc ⟨cl, dl, rfl, hs, k⟩
  unfold t__law_text
  show WS _ _ _ _ [some (hD cl dl), none, none, none] m
  refine ws_ret (join_parts (j := 1) rfl (by simp) hs (fun Ph' q => ?_) k)
  exact wt_doors rfl (by simp) (by simp) (by decide) hs q
end

section
open TL
variable {cs : Cs}
/-! ### the fault of a house of numbers -/
theorem leI_two (a b c d : Int) : leI [a, b] [c, d] = (decide (a < c) || (decide (a = c) && decide (b ≤ d))) := by
  simp [leI, Ob.lexAt]
  by_cases h1 : a = c
  · subst h1
    by_cases h2 : b = d
    · subst h2; simp
    · simp [h2]
  · simp [h1]
    omega
theorem isDoor_num (n a b : Nat) : isDoorD ((n : Nat) : Int) (.tup [.int (a : Int), .int (b : Int)]) = (decide (a < b) && decide (b < n)) := by
  rw [Bool.eq_iff_iff]
  simp [isDoorD, isNumD]
  omega
abbrev doorD (p : Nat × Nat) : D := .tup [.int (p.1 : Int), .int (p.2 : Int)]
theorem bad_ok (n : Nat) : ∀ (dl : List (Nat × Nat)) (prev : Option (Nat × Nat)) (i : Nat), (badDoor ((n : Nat) : Int) (prev.map doorD) (dl.map doorD) i = none) ↔ doorsOk n prev dl = true
  | [], prev, i => by
    rw [List.map_nil, badDoor_nil]
    cases prev <;> simp [doorsOk]
  | p :: r, prev, i => by
    rw [List.map_cons, badDoor_cons, isDoor_num]
    have ih := bad_ok n r (some p) (i + 1)
    rw [Option.map_some] at ih
    cases prev with
    | none =>
      simp only [Option.map_none, Bool.or_false, doorsOk, Bool.and_true]
      cases h : (decide (p.1 < p.2) && decide (p.2 < n)) with
      | false => simp
      | true => simpa using ih
    | some q =>
      show (if (!(decide (p.1 < p.2) && decide (p.2 < n)) || leI [(p.1 : Int), (p.2 : Int)] [(q.1 : Int), (q.2 : Int)]) = true then some i else badDoor ((n : Nat) : Int) (some (doorD p)) (r.map doorD) (i + 1)) = none ↔ (decide (p.1 < p.2) && decide (p.2 < n) && (decide (q.1 < p.1) || (decide (q.1 = p.1) && decide (q.2 < p.2))) && doorsOk n (some p) r) = true
      rw [leI_two]
      have e : (decide ((p.1 : Int) < q.1) || (decide ((p.1 : Int) = q.1) && decide ((p.2 : Int) ≤ q.2))) = !(decide (q.1 < p.1) || (decide (q.1 = p.1) && decide (q.2 < p.2))) := by
        rw [Bool.eq_iff_iff]
        simp
        omega
      rw [e]
      cases h : (decide (p.1 < p.2) && decide (p.2 < n)) with
      | false => simp
      | true =>
        cases h2 : (decide (q.1 < p.1) || (decide (q.1 = p.1) && decide (q.2 < p.2))) with
        | false => simp
        | true => simpa using ih
theorem cols_ok (cl : List Nat) : ((cl.map fun (c : Nat) => D.int (c : Int)).all fun x => isNumD x 0 (some 9)) = cl.all fun c => decide (c ≤ 9) := by
  rw [List.all_map]
  congr 1
  funext c
  rw [Bool.eq_iff_iff]
  simp [isNumD]
  omega
theorem fault_valid (cl : List Nat) (dl : List (Nat × Nat)) : faultD (hD cl dl) 60 = .tup [] ↔ validH cl dl = true := by
  rw [hD, faultD_eq, cols_ok, List.length_map]
  unfold validH
  by_cases h1 : cl.length ≤ 60
  · rw [if_neg (by omega), decide_eq_true h1, Bool.true_and]
    cases h2 : cl.all fun c => decide (c ≤ 9) with
    | false => simp
    | true =>
      rw [if_neg (by decide), Bool.true_and]
      have ih := bad_ok cl.length dl none 0
      rw [Option.map_none] at ih
      rw [← ih]
      cases badDoor ((cl.length : Nat) : Int) none (dl.map fun (p : Nat × Nat) => D.tup [.int (p.1 : Int), .int (p.2 : Int)]) 0 with
      | none => simp
      | some i => simp
  · rw [if_pos (by omega), decide_eq_false h1]
    simp
/-! ### words -/
theorem space_tl : tl (Str.ofString " ") = [32] := by decide +kernel
theorem spl_len {S : List Nat} : ∀ {l acc p : List Nat} {k : Nat}, p ∈ spl S k acc l → p.length ≤ acc.length + l.length
  | [], acc, p, k, h => by
    rw [spl_nil] at h
    cases List.mem_singleton.mp h
    omega
  | c :: r, acc, p, k, h => by
    cases k with
    | zero =>
      unfold spl at h
      split at h
      · rcases List.mem_cons.mp h with e | e
        · subst e; omega
        · have := spl_len e
          simp at this ⊢; omega
      · have := spl_len h
        simp at this ⊢; omega
    | succ k =>
      have := spl_len (show p ∈ spl S k acc r from h)
      simp at this ⊢; omega
theorem spl_ne {S : List Nat} : ∀ {l acc : List Nat} {k : Nat}, spl S k acc l ≠ []
  | [], acc, k => by rw [spl_nil]; simp
  | c :: r, acc, 0 => by
    unfold spl
    split
    · simp
    · exact spl_ne
  | c :: r, acc, k + 1 => spl_ne (l := r) (k := k)
theorem split_tl (t : Str) : (Txt.split t " ").map tl = spl [32] 0 [] (tl t) := by
  rw [split_spl t " " (by rw [space_tl]; simp) (kind_ok (by decide +kernel)), space_tl]
theorem split_ne (t : Str) : Txt.split t " " ≠ [] := fun e => by
  have := split_tl t
  rw [e] at this
  exact spl_ne this.symm
theorem word_len {t w : Str} (h : w ∈ Txt.split t " ") : w.length ≤ t.length := by
  have := spl_len (S := [32]) (k := 0) (acc := []) (l := tl t) (p := tl w) (by rw [← split_tl]; exact List.mem_map_of_mem h)
  rw [len_tl w, len_tl t]
  simpa using this
/-! ### the last sign, what is before it -/
theorem cut_last (w : Str) : (cutS w (some (-1)) none).cps.toList = w.cps.toList.drop (w.cps.toList.length - 1) := by
  have hl : w.length = w.cps.toList.length := len_tl w
  show List.take _ (List.drop (HT.sIx w.length 0 (some (-1))) w.cps.toList) = _
  have e1 : HT.sIx w.length 0 (some (-1)) = w.length - 1 := by
    simp only [HT.sIx]
    rw [if_pos (by decide)]; omega
  rw [e1]
  show List.take (w.length - (w.length - 1)) _ = _
  rw [hl, List.take_of_length_le]
  rw [List.length_drop]; omega
theorem cut_init (w : Str) : (cutS w none (some (-1))).cps.toList = w.cps.toList.dropLast := by
  have hl : w.length = w.cps.toList.length := len_tl w
  have e1 : HT.sIx w.length w.length (some (-1)) = w.length - 1 := by
    simp only [HT.sIx]
    rw [if_pos (by decide)]; omega
  show List.take (HT.sIx w.length w.length (some (-1)) - 0) (List.drop 0 w.cps.toList) = _
  rw [e1, List.drop_zero, List.dropLast_eq_take, hl]
  rfl
theorem colon_tl : (Str.ofString ":").cps.toList = [58] := by decide +kernel
theorem last_colon (w : Str) : ((cutS w (some (-1)) none) == Str.ofString ":") = decide (w.cps.toList.getLast? = some 58) := by
  rw [Bool.eq_iff_iff]
  simp only [beq_iff_eq, decide_eq_true_eq]
  have e : cutS w (some (-1)) none = Str.ofString ":" ↔ (cutS w (some (-1)) none).cps.toList = [58] := by
    constructor
    · intro h; rw [h, colon_tl]
    · intro h; exact ext_tl (h.trans colon_tl.symm)
  rw [e, cut_last]
  generalize w.cps.toList = L
  rcases List.eq_nil_or_concat L with rfl | ⟨L', c, rfl⟩
  · simp
  · simp
end

section
open TL
variable {cs : Cs}
section
variable {W : WX} {Ps : PsiT} {r : Rho} {m : Sto} {Ph : PhiT} {ti : TE} {j : Nat} {z w : Str} {ws : List Str}
theorem signs_len (z : Str) : (signsD z).length = z.length := by rw [len_tl]; simp [signsD]
theorem sign_get {z : Str} {i : Nat} {d : D} (h : (signsD z)[i]? = some d) : ∃ c, z.cps.toList[i]? = some c ∧ d = .str ⟨#[c]⟩ := by
  unfold signsD at h
  rw [List.getElem?_map] at h
  cases e : z.cps.toList[i]? with
  | none => rw [e] at h; cases h
  | some c => rw [e] at h; cases h; exact ⟨c, rfl, rfl⟩
theorem wt_alldig (ht : ∀ Ph' : PhiT, Ph' (.str z) m → WT W Ps ti r m Ph') (hz : z.length ≤ sizeLine) (hj : j < r.length) (k : Ph (.lst ((z.cps.toList.map dig).map D.bl)) m) :
    WT W Ps (tLc (iStr ti) (gName j) tYes (tOp (rInA cs.K) (tVar j) (tC (.str "0123456789"))) [j]) r m Ph := by
  refine wt_lcm (gonly_name (by simp)) (wi_str (ht _ ⟨_, rfl, (z.cps.toList.map dig).map D.bl, by simp [signsD], by rw [signs_len]; exact hz, fun i d y A acc h1 h2 => ?_, .inl k⟩))
  obtain ⟨c, hc, rfl⟩ := sign_get h1
  rw [List.getElem?_map, List.getElem?_map, hc] at h2
  have h2' := Option.some.inj h2
  refine wg_name (wt_op (wt_var (List.getElem?_set_self (by simpa [wipeR] using hj)) (wt_str (od_insign ?_))))
  rw [dig_mem]
  exact ⟨h2', rfl⟩
theorem wt_ones (ht : ∀ Ph' : PhiT, Ph' (.str z) m → WT W Ps ti r m Ph') (hz : z.length ≤ sizeLine) (hj : j < r.length) (k : Ph (.lst (((z.cps.toList.filter fun c => !dig c).map fun _ => (1 : Int)).map D.int)) m) :
    WT W Ps (tLc (iStr ti) (gName j) (tTest (tOp (rNiA cs.K) (tVar j) (tC (.str "0123456789")))) (tC (.int 1)) [j]) r m Ph := by
  refine wt_lcf (gonly_name (by simp)) (wi_str (ht _ ⟨_, rfl, oneF, by rw [signs_len]; exact hz, fun d A acc h1 => ?_, .inl ?_⟩))
  · unfold signsD at h1
    obtain ⟨c, hc, rfl⟩ := List.mem_map.mp h1
    refine wg_name (wb_test (wt_op (wt_var (List.getElem?_set_self (by simpa [wipeR] using hj)) (wt_str (od_nisign ?_)))))
    rw [dig_mem, oneF_sign]
    cases dig c with
    | true => exact ⟨_, rfl, rfl, rfl, fun z => Bool.noConfusion z⟩
    | false => exact ⟨_, rfl, rfl, rfl, fun _ => wt_int ⟨rfl, rfl⟩⟩
  · unfold signsD; rw [ones_eq]; exact k
theorem wt_digs (ht : ∀ Ph' : PhiT, Ph' (.str z) m → WT W Ps ti r m Ph') (hz : z.length ≤ sizeLine) (hj : j < r.length) (hd : z.cps.toList.all dig = true) (k : Ph (.lst ((z.cps.toList.map fun c => c - 48).map fun (c : Nat) => D.int (c : Int))) m) :
    WT W Ps (tLc (iStr ti) (gName j) tYes (tCB rIntA (tCons (tVar j) tNil)) [j]) r m Ph := by
  refine wt_lcm (gonly_name (by simp)) (wi_str (ht _ ⟨_, rfl, (z.cps.toList.map fun c => c - 48).map fun (c : Nat) => D.int (c : Int), by simp [signsD], by rw [signs_len]; exact hz, fun i d y A acc h1 h2 => ?_, .inl k⟩))
  obtain ⟨c, hc, rfl⟩ := sign_get h1
  rw [List.getElem?_map, List.getElem?_map, hc] at h2
  have h2' := Option.some.inj h2
  have hdc : dig c = true := List.all_eq_true.mp hd c (List.mem_of_getElem? hc)
  refine wg_name (wt_cb (wa_cons (wt_var (List.getElem?_set_self (by simpa [wipeR] using hj)) (wa_nil (cd_ints (i := ((c - 48 : Nat) : Int)) (intText_num (by simp [numC, hdc])) (by show 1 ≤ 640; decide) ⟨h2', rfl⟩)))))
theorem wt_init (h : r[1]? = some (some (.lst ((w :: ws).map D.str)))) (hz : w.length ≤ sizeLine) (k : Ph (.str (cutS w none (some (-1)))) m) :
    WT W Ps (tSl (rSl cs.K) (tOp (rIx cs.K) (tVar 1) (tC (.int 0))) tNoPart (tPart (tUn (rU fun i => .int (-i)) (tC (.int 1))))) r m Ph :=
  wt_sl (wt_op (wt_var h (wt_int (od_ixl isL_lst (d := .str w) (atI_at (j := 0) rfl rfl) (wo_none (wo_some (wt_un (wt_int (ud_neg ⟨_, rfl, sd_str hz k⟩)))))))))
theorem wt_lastc (h : r[1]? = some (some (.lst ((w :: ws).map D.str)))) (hz : w.length ≤ sizeLine) (k : Ph (.str (cutS w (some (-1)) none)) m) :
    WT W Ps (tSl (rSl cs.K) (tOp (rIx cs.K) (tVar 1) (tC (.int 0))) (tPart (tUn (rU fun i => .int (-i)) (tC (.int 1)))) tNoPart) r m Ph :=
  wt_sl (wt_op (wt_var h (wt_int (od_ixl isL_lst (d := .str w) (atI_at (j := 0) rfl rfl) (wo_some (wt_un (wt_int (ud_neg ⟨_, rfl, wo_none (sd_str hz k)⟩))))))))
theorem cut_tail {α : Type} (f : α → D) (a : α) (l : List α) : cutD ((a :: l).map f) (some 1) none = l.map f := by
  unfold cutD
  rw [HT.sIx_none, show (some (1 : Int)) = some ((1 : Nat) : Int) from rfl, HT.sIx_nat]
  simp
  exact List.take_of_length_le (by simp)
theorem wt_tail (h : r[1]? = some (some (.lst ((w :: ws).map D.str)))) (k : Ph (.lst (ws.map D.str)) m) :
    WT W Ps (tSl (rSl cs.K) (tVar 1) (tPart (tC (.int 1))) tNoPart) r m Ph :=
  wt_sl (wt_var h (wo_some (wt_int ⟨_, rfl, wo_none (sd_lst isL_lst (by rw [cut_tail]; exact k))⟩)))
end
/-! ### doors -/
def pairP : Option (Nat × Nat) → PyData
  | some p => .tuple [.int (p.1 : Nat), .int (p.2 : Nat)]
  | none => .none
theorem pys_pairs : ∀ l : List (Option (Nat × Nat)), D.pys (l.map pairD) = some (l.map pairP)
  | [] => rfl
  | x :: l => by
    rw [List.map_cons, D.pys, pys_pairs l]
    cases x <;> rfl
theorem lay_pairs : ∀ l : List (Option (Nat × Nat)), PyData.canLayAll0 (l.map pairP) = true
  | [] => by simp [PyData.canLayAll0]
  | x :: l => by
    rw [List.map_cons, PyData.canLayAll0, lay_pairs l]
    cases x <;> simp [pairP, PyData.canLay0, PyData.canLayAll0]
theorem dep_pairs : ∀ l : List (Option (Nat × Nat)), PyData.depthAll (l.map pairP) ≤ 1
  | [] => by simp [PyData.depthAll]
  | x :: l => by
    have := dep_pairs l
    rw [List.map_cons, PyData.depthAll]
    cases x <;> simp [pairP, PyData.depth, PyData.depthAll] <;> omega
theorem shaped_pairs (l : List (Option (Nat × Nat))) : SeqAt.shaped (.list (l.map pairP)) = true := by
  unfold SeqAt.shaped
  rw [PyData.canLay0, lay_pairs, PyData.depth, Bool.true_and, decide_eq_true_eq]
  have := dep_pairs l
  omega
theorem any_none (l : List (Option (Nat × Nat))) : ((l.map pairP).any fun z => PyData.eqv z .none) = (allSome l).isNone := by
  induction l with
  | nil => rfl
  | cons x l ih =>
    rw [List.map_cons, List.any_cons, ih]
    cases x with
    | none => simp [pairP, allSome, PyData.eqv]
    | some p =>
      simp only [pairP, allSome, PyData.eqv, Bool.false_or]
      cases allSome l <;> rfl
theorem all_pairs {l : List (Option (Nat × Nat))} {dl : List (Nat × Nat)} (h : allSome l = some dl) : l.map pairD = dl.map doorD ∧ dl.length = l.length := by
  induction l generalizing dl with
  | nil => cases h; exact ⟨rfl, rfl⟩
  | cons x l ih =>
    cases x with
    | none => cases h
    | some p =>
      cases e : allSome l with
      | none => simp [allSome, e] at h
      | some dl' =>
        simp [allSome, e] at h
        subst h
        obtain ⟨h1, h2⟩ := ih e
        exact ⟨by rw [List.map_cons, List.map_cons, h1]; rfl, by simp [h2]⟩
theorem pls_ints : ∀ l : List Nat, D.pls (l.map fun (c : Nat) => D.int (c : Int)) = true
  | [] => by simp [D.pls]
  | x :: l => by rw [List.map_cons, D.pls, pls_ints l]; simp [D.pl]
theorem pls_doors : ∀ l : List (Nat × Nat), D.pls (l.map doorD) = true
  | [] => by simp [D.pls]
  | x :: l => by rw [List.map_cons, D.pls, pls_doors l]; simp [D.pl, D.pls, doorD]
theorem pl_house {cl : List Nat} {dl : List (Nat × Nat)} (h1 : cl.length ≤ 2000000) (h2 : dl.length ≤ 2000000) : (hD cl dl).pl = true := by
  unfold hD
  have e1 := pls_ints cl
  have e2 := pls_doors dl
  simp [D.pl, D.pls, h1, h2, e1]
  exact e2
/-! ### reading a house -/
def readW (w : Str) (ws : List Str) : Option (List Nat × List (Nat × Nat)) := match w.cps.toList.getLast? with
  | none => none
  | some c => if c = 58 ∧ (w.cps.toList.dropLast.all dig) = true then (match allSome (ws.map doorW) with
      | some dl => if validH (w.cps.toList.dropLast.map fun c => c - 48) dl = true then some (w.cps.toList.dropLast.map (fun c => c - 48), dl) else none
      | none => none) else none
theorem readS_w {t w : Str} {ws : List Str} (h : Txt.split t " " = w :: ws) : readS t = readW w ws := by
  unfold readS
  rw [h]; rfl
theorem readW_1 {w : Str} {ws : List Str} (h : ¬ w.cps.toList.getLast? = some 58) : readW w ws = none := by
  unfold readW
  cases e : w.cps.toList.getLast? with
  | none => rfl
  | some c => exact if_neg fun z => h (by rw [e, z.1])
theorem readW_2 {w : Str} {ws : List Str} (h : w.cps.toList.dropLast.all dig = false) : readW w ws = none := by
  unfold readW
  cases e : w.cps.toList.getLast? with
  | none => rfl
  | some c => exact if_neg fun z => by rw [h] at z; exact Bool.noConfusion z.2
theorem readW_3 {w : Str} {ws : List Str} (h : allSome (ws.map doorW) = none) : readW w ws = none := by
  unfold readW
  cases e : w.cps.toList.getLast? with
  | none => rfl
  | some c => rw [h]; simp
theorem readW_4 {w : Str} {ws : List Str} {dl : List (Nat × Nat)} (h1 : w.cps.toList.getLast? = some 58) (h2 : w.cps.toList.dropLast.all dig = true) (h3 : allSome (ws.map doorW) = some dl) :
    readW w ws = if validH (w.cps.toList.dropLast.map fun c => c - 48) dl = true then some (w.cps.toList.dropLast.map (fun c => c - 48), dl) else none := by
  unfold readW
  rw [h1, h3]
  exact if_pos ⟨rfl, h2⟩
theorem run_read_house : Runs (sp_read_house cs) N_read_house (t_read_house cs.K cs) := by
  rintro E ds m Ph Pc ⟨x, rfl, hp, k1, k2⟩
  unfold t_read_house
  show WS _ _ _ _ [some x, none, none, none, none, none] m
  by_cases hx : ∃ t, x = .str t
  · obtain ⟨t, rfl⟩ := hx
    obtain ⟨kh, kn⟩ := k1 t rfl
    have ht : t.length ≤ 1000000 := by simpa [D.pl] using hp
    repeat' trivial
    refine md_split (by decide +kernel) (by rw [sizeLine_eq]; omega) ?_
    have hsl := split_le t (Str.ofString " ")
    have hwl := fun w => word_len (t := t) (w := w)
    cases hW : Txt.split t (Str.ofString " ") with
    | nil => exact absurd hW (split_ne t)
    | cons w ws =>
      rw [hW] at hsl hwl
      rw [readS_w hW] at kh kn
      have hw : w.length ≤ 1000000 := Nat.le_trans (hwl w List.mem_cons_self) ht
      have hwz : w.length ≤ sizeLine := by rw [sizeLine_eq]; omega
      have hws : ws.length ≤ 1000002 := by simp at hsl; omega
      have hin : (cutS w none (some (-1))).length ≤ sizeLine := Nat.le_trans (cutS_length _ _ _) hwz
      refine wg_name (ws_seq (ws_asg (wt_lcm (gonly_name (by simp)) (wi_seq (wt_tail rfl ⟨_, .inl rfl, (ws.map doorW).map pairD, by simp, by rw [List.length_map, sizeLine_eq]; omega, fun i d y A acc h1 h2 => ?_, .inl ?_⟩)))))
      · rw [List.getElem?_map] at h1
        rw [List.getElem?_map, List.getElem?_map] at h2
        cases e : ws[i]? with
        | none => rw [e] at h1; cases h1
        | some v =>
          rw [e] at h1 h2
          cases h1
          have h2' := Option.some.inj h2
          have hv : v.length ≤ 1000000 := Nat.le_trans (hwl v (List.mem_cons_of_mem _ (List.mem_of_getElem? e))) ht
          repeat' trivial
          exact ⟨v, rfl, hv, h2', rfl⟩
      refine wg_name (ws_seq (ws_if (wb_or (wb_test (wt_op (wt_lastc rfl hwz (wt_str (od_nes ?_))))))))
      rw [last_colon]
      by_cases h1 : w.cps.toList.getLast? = some 58
      · rw [decide_eq_true h1]
        refine ⟨_, rfl, fun _ => wb_or (wb_not (wb_B (wt_cb (wa_cons (wt_alldig (fun Ph' q => wt_init rfl hwz q) hin (by simp) (wa_nil (cd_all isL_lst ?_))))))), fun z => Bool.noConfusion z⟩
        rw [all_map_dig, cut_init]
        cases h2 : w.cps.toList.dropLast.all dig with
        | false =>
          have k := kn (readW_2 h2)
          repeat' trivial
        | true =>
          refine ⟨_, rfl, fun _ => wb_test (wt_op (wt_non (wt_var rfl ?_))), fun z => Bool.noConfusion z⟩
          refine od_inD (p := .none) rfl isL_lst (pys_pairs _) (by decide) (shaped_pairs _) ?_
          rw [any_none]
          cases h3 : allSome (ws.map doorW) with
          | none =>
            have k := kn (readW_3 h3)
            repeat' trivial
          | some dl =>
            obtain ⟨e1, e2⟩ := all_pairs h3
            rw [List.length_map] at e2
            rw [e1]
            rw [readW_4 h1 h2 h3] at kh kn
            refine ⟨_, rfl, fun z => Bool.noConfusion z, fun _ => ws_next (ws_seq (ws_asg (wt_tup (wa_cons (wt_cb (wa_cons (wt_digs (fun Ph' q => wt_init rfl hwz q) hin (by simp) (by rw [cut_init]; exact h2) (wa_nil (cd_tupl isL_lst ?_)))))))))⟩
            refine wa_cons (wt_cb (wa_cons (wt_var rfl (wa_nil (cd_tupl isL_lst (wa_nil ⟨Nat.le_of_ble_eq_true rfl, wg_name (ws_seq ?_)⟩))))))
            rw [cut_init]
            have hcl : (w.cps.toList.dropLast.map fun c => c - 48).length ≤ 2000000 := by
              rw [List.length_map, List.length_dropLast, ← len_tl]; omega
            have hpl := pl_house hcl (dl := dl) (by omega)
            refine ws_if (wb_test (wt_op (wt_call (wa_cons (wt_var (d := hD (w.cps.toList.dropLast.map fun c => c - 48) dl) rfl (wa_cons (wt_int (wa_nil ⟨_, 60, rfl, hpl, ?_⟩))))) rfl)))
            refine wt_tup (wa_nil ⟨by decide, ?_⟩)
            cases hv : validH (w.cps.toList.dropLast.map fun c => c - 48) dl with
            | true =>
              rw [(fault_valid _ _).mpr hv]
              refine od_ne (p := .tuple []) (q := .tuple []) rfl rfl shaped_tnil shaped_tnil ?_
              rw [eqv_tnil]
              have k := kh _ (if_pos hv)
              refine ⟨_, rfl, fun z => Bool.noConfusion z, fun _ => ws_next (ws_ret (wt_var rfl k))⟩
            | false =>
              have k := kn (if_neg (by rw [hv]; decide))
              rcases faultD_cases (hD (w.cps.toList.dropLast.map fun c => c - 48) dl) 60 with e | ⟨i, e⟩ | ⟨s, hs, e⟩
              · rw [(fault_valid _ _).mp e] at hv; cases hv
              · rw [e]
                refine od_ne (p := .tuple [.int i]) (q := .tuple []) (by simp [D.py, D.pys]) rfl (shaped_tints [(i : Int)]) shaped_tnil ?_
                rw [eqv_tnil]
                repeat' trivial
              · rw [e]
                refine od_ne (p := .tuple [.str s]) (q := .tuple []) (by simp [D.py, D.pys]) rfl (shaped_tstr (by rcases hs with h | h | h <;> subst h <;> decide +kernel)) shaped_tnil ?_
                rw [eqv_tnil]
                repeat' trivial
      · rw [decide_eq_false h1]
        have k := kn (readW_1 h1)
        repeat' trivial
  · have hx' : ∀ t, x ≠ .str t := fun t e => hx ⟨t, e⟩
    have k := k2 hx'
    cases x with
    | str s => exact absurd rfl (hx' s)
    | dct _ => simp [D.pl] at hp
    | ref _ => simp [D.pl] at hp
    | ty _ => simp [D.pl] at hp
    | exc _ _ _ => simp [D.pl] at hp
    | scr _ _ _ => simp [D.pl] at hp
    | _ => repeat' trivial
end

section
open TL
variable {cs : Cs}
/-! ### one dash -/
theorem pre45 (c : Nat) (r : List Nat) : pre [45] (c :: r) = (c == 45) := by
  simp [pre]
theorem spl_par : ∀ (l acc : List Nat), spl [45] 0 acc l = match par [45] acc l with | none => [acc ++ l] | some (p, q) => p :: spl [45] 0 [] q
  | [], acc => by rw [spl_nil]; simp [par]
  | c :: r, acc => by
    cases h : (c == 45) with
    | true =>
      have hp : pre [45] (c :: r) = true := by rw [pre45]; exact h
      have e : par [45] acc (c :: r) = some (acc, r) := by
        show (if pre [45] (c :: r) = true then some (acc, (c :: r).drop 1) else _) = _
        rw [if_pos hp]; rfl
      rw [spl_hit hp, e]; rfl
    | false =>
      have hp : pre [45] (c :: r) = false := by rw [pre45]; exact h
      have e : par [45] acc (c :: r) = par [45] (acc ++ [c]) r := by
        show (if pre [45] (c :: r) = true then some (acc, (c :: r).drop 1) else _) = _
        rw [if_neg (by rw [hp]; decide)]
      rw [spl_miss hp, e, spl_par r (acc ++ [c])]
      cases par [45] (acc ++ [c]) r with
      | none => simp
      | some pq => rfl
theorem par_mem : ∀ {l acc : List Nat}, par [45] acc l = none → 45 ∉ l
  | [], _, _ => by simp
  | c :: r, acc, h => by
    unfold par at h
    rw [pre45] at h
    cases hc : (c == 45) with
    | true => rw [hc] at h; cases h
    | false =>
      rw [hc] at h
      have ih := par_mem (l := r) (acc := acc ++ [c]) (by simpa using h)
      have : c ≠ 45 := fun z => by subst z; simp at hc
      simp [ih]
      exact fun z => this z.symm
theorem par_has {l acc : List Nat} {pq : List Nat × List Nat} (h : par [45] acc l = some pq) : 45 ∈ l := by
  induction l generalizing acc with
  | nil => cases h
  | cons c r ih =>
    unfold par at h
    rw [pre45] at h
    cases hc : (c == 45) with
    | true => simp at hc; subst hc; simp
    | false =>
      rw [hc] at h
      exact List.mem_cons_of_mem _ (ih (acc := acc ++ [c]) (by simpa using h))
theorem numC_dash {l : List Nat} (h : 45 ∈ l) : numC l = none := by
  match l, h with
  | [a], h =>
    simp at h; subst h; rfl
  | [a, b], h =>
    simp at h
    rcases h with h | h <;> subst h
    · rfl
    · simp [numC]
      intro _ z; exact absurd z (by decide)
  | _ :: _ :: _ :: _, _ => rfl
def doorL (l : List Nat) : Option (Nat × Nat) := match par [45] [] l with
  | none => none
  | some (p, q) => match numC p, numC q with
    | some a, some b => some (a, b)
    | _, _ => none
theorem doorW_L (v : Str) : doorW v = doorL (tl v) := by
  unfold doorW doorL
  rw [partition_par v "-" (by rw [dash_tl]; simp), dash_tl]
  cases par [45] [] (tl v) with
  | none => rfl
  | some pq =>
    obtain ⟨p, q⟩ := pq
    have e : ¬ (Str.ofString "-") = Str.empty := by decide +kernel
    exact if_neg e
theorem splitD_tl (v : Str) : (Txt.split v "-").map tl = spl [45] 0 [] (tl v) := by
  rw [split_spl v "-" (by rw [dash_tl]; simp) (kind_ok (by decide +kernel)), dash_tl]
/-- two halves -/
theorem halves_two {v h0 h1 : Str} (h : Txt.split v "-" = [h0, h1]) : doorW v = (match numC (tl h0), numC (tl h1) with | some a, some b => some (a, b) | _, _ => none) := by
  have e := splitD_tl v
  rw [h, spl_par] at e
  rw [doorW_L]
  unfold doorL
  cases hp : par [45] [] (tl v) with
  | none => rw [hp] at e; simp at e
  | some pq =>
    obtain ⟨p, q⟩ := pq
    rw [hp] at e
    have e1 : tl h0 = p := by simpa using (List.cons.inj e).1
    have e2 : [tl h1] = spl [45] 0 [] q := by simpa using (List.cons.inj e).2
    rw [spl_par] at e2
    cases hq : par [45] [] q with
    | none =>
      rw [hq] at e2
      have e3 : tl h1 = q := by simpa using e2
      rw [e1, e3]
    | some pq2 =>
      obtain ⟨p2, q2⟩ := pq2
      rw [hq] at e2
      have := (List.cons.inj e2).2
      exact absurd this.symm spl_ne
theorem halves_else {v : Str} (h : (Txt.split v "-").length ≠ 2) : doorW v = none := by
  have e := splitD_tl v
  rw [spl_par] at e
  rw [doorW_L]
  unfold doorL
  cases hp : par [45] [] (tl v) with
  | none => rfl
  | some pq =>
    obtain ⟨p, q⟩ := pq
    rw [hp] at e
    cases hq : par [45] [] q with
    | none =>
      have e2 : ((Txt.split v (Str.ofString "-")).map tl).length = (p :: spl [45] 0 [] q).length := congrArg List.length e
      rw [List.length_map, spl_par, hq] at e2
      exact absurd e2 h
    | some pq2 =>
      show (match numC p, numC q with | some a, some b => some (a, b) | _, _ => none) = none
      rw [numC_dash (par_has hq)]
      cases numC p <;> rfl
/-! ### what the law makes of the words -/
def okNext (n : Nat) (prev : Option (Nat × Nat)) (p : Nat × Nat) : Bool := decide (p.1 < p.2) && decide (p.2 < n) && (match prev with | none => true | some q => decide (q.1 < p.1) || (decide (q.1 = p.1) && decide (q.2 < p.2)))
def dueGo (n : Nat) : Option (Nat × Nat) → List Str → Option (List (Nat × Nat))
  | _, [] => some []
  | prev, v :: vs => match doorW v with
    | none => none
    | some p => if okNext n prev p = true then (dueGo n (some p) vs).map (p :: ·) else none
theorem due_all (n : Nat) : ∀ (ws : List Str) (prev : Option (Nat × Nat)), dueGo n prev ws = match allSome (ws.map doorW) with | none => none | some dl => if doorsOk n prev dl = true then some dl else none
  | [], prev => by cases prev <;> simp [dueGo, allSome, doorsOk]
  | v :: vs, prev => by
    have ih := due_all n vs
    rw [dueGo, List.map_cons]
    cases hv : doorW v with
    | none => simp [allSome]
    | some p =>
      simp only [allSome]
      rw [ih (some p)]
      have e : ∀ dl, doorsOk n prev (p :: dl) = (okNext n prev p && doorsOk n (some p) dl) := fun dl => by cases prev <;> simp [doorsOk, okNext]
      cases allSome (vs.map doorW) with
      | none => cases okNext n prev p <;> simp
      | some dl =>
        simp only [e]
        cases okNext n prev p with
        | false => simp
        | true =>
          cases doorsOk n (some p) dl <;> simp
theorem digs_small {l : List Nat} (h : l.all dig = true) : (l.map fun c => c - 48).all (fun c => decide (c ≤ 9)) = true := by
  rw [List.all_map]
  refine List.all_eq_true.mpr fun c hc => ?_
  have := List.all_eq_true.mp h c hc
  simp [dig] at this ⊢
  omega
theorem readW_go {w : Str} {ws : List Str} (h1 : w.cps.toList.getLast? = some 58) (h2 : w.cps.toList.dropLast.all dig = true) (h3 : w.cps.toList.dropLast.length ≤ 60) :
    readW w ws = (dueGo w.cps.toList.dropLast.length none ws).map fun dl => (w.cps.toList.dropLast.map (fun c => c - 48), dl) := by
  rw [due_all]
  cases hd : allSome (ws.map doorW) with
  | none => rw [readW_3 hd]; rfl
  | some dl =>
    rw [readW_4 h1 h2 hd]
    have e : validH (w.cps.toList.dropLast.map fun c => c - 48) dl = doorsOk w.cps.toList.dropLast.length none dl := by
      unfold validH
      rw [digs_small h2, List.length_map, decide_eq_true h3]
      simp
    rw [e]
    show _ = Option.map _ (if doorsOk w.cps.toList.dropLast.length none dl = true then some dl else none)
    cases doorsOk w.cps.toList.dropLast.length none dl <;> simp
theorem readW_long {w : Str} {ws : List Str} (h : 60 < w.cps.toList.dropLast.length) : readW w ws = none := by
  unfold readW
  cases w.cps.toList.getLast? with
  | none => rfl
  | some c =>
    have hv : ∀ dl, validH (w.cps.toList.dropLast.map fun c => c - 48) dl = false := fun dl => by
      unfold validH
      rw [List.length_map, decide_eq_false (by omega)]
      simp
    simp only [hv]
    split
    · cases allSome (ws.map doorW) <;> simp
    · rfl
end

section
open TL
variable {cs : Cs}
theorem wk_erase {m : Sto} {k : Nat} : Wk m (m.eraseIdx k) := ⟨fun x h => dom_erase h, fun H st => sto_erase st⟩
theorem doors_py (l : List (Nat × Nat)) : D.pys (l.map doorD) = some ((l.map some).map pairP) := by
  rw [← pys_pairs, List.map_map]; rfl
theorem split45_word {t h : Str} (e : h ∈ Txt.split t "-") : h.length ≤ t.length := by
  have := spl_len (S := [45]) (k := 0) (acc := []) (l := tl t) (p := tl h) (by rw [← splitD_tl]; exact List.mem_map_of_mem e)
  rw [len_tl h, len_tl t]
  simpa using this
theorem atI_end {l : List (Nat × Nat)} {x : Nat × Nat} (h : l.getLast? = some x) : atI (l.map doorD) (-1) = some (doorD x) := by
  rcases List.eq_nil_or_concat l with rfl | ⟨l', c, rfl⟩
  · cases h
  · rw [List.concat_eq_append] at h ⊢
    rw [List.getLast?_append, List.getLast?_singleton] at h
    cases h
    rw [List.map_append]
    unfold L2.atI ixN
    rw [if_neg (by decide), if_pos (by simp; omega)]
    simp
    rw [show (-1 + ((l'.length : Int) + 1)).toNat = l'.length from by omega]
    simp
theorem due_1 {n : Nat} {prev : Option (Nat × Nat)} {v : Str} {vs : List Str} (h : doorW v = none) : dueGo n prev (v :: vs) = none := by rw [dueGo, h]
theorem due_2 {n : Nat} {prev : Option (Nat × Nat)} {v : Str} {vs : List Str} {p : Nat × Nat} (h : doorW v = some p) (h2 : okNext n prev p = false) : dueGo n prev (v :: vs) = none := by
  rw [dueGo, h]
  exact if_neg (by rw [h2]; decide)
theorem due_3 {n : Nat} {prev : Option (Nat × Nat)} {v : Str} {vs : List Str} {p : Nat × Nat} (h : doorW v = some p) (h2 : okNext n prev p = true) : dueGo n prev (v :: vs) = (dueGo n (some p) vs).map (p :: ·) := by
  rw [dueGo, h]
  exact if_pos h2
theorem run__law_due : Runs (sp__law_due cs) N__law_due (t__law_due cs.K cs) := by
  rintro E ds m Ph Pc ⟨t, rfl, ht, k⟩
  unfold t__law_due
  show WS _ _ _ _ [some (.str t), none, none, none, none, none, none, none] m
  refine ws_post (ws_seq (ws_asg (wt_m1 (wt_var rfl ⟨⟨_, rfl⟩, wt_str (md_split (by decide +kernel) (by rw [sizeLine_eq]; omega) ?_)⟩))))
  have hsl := split_le t (Str.ofString " ")
  have hwl := fun w => word_len (t := t) (w := w)
  cases hW : Txt.split t (Str.ofString " ") with
  | nil => exact absurd hW (split_ne t)
  | cons w ws =>
    rw [hW] at hsl hwl
    rw [readS_w hW] at k
    have hw : w.length ≤ 1000000 := Nat.le_trans (hwl w List.mem_cons_self) ht
    have hwz : w.length ≤ sizeLine := by rw [sizeLine_eq]; omega
    have hws : ws.length ≤ 1000002 := by simp at hsl; omega
    have hin : (cutS w none (some (-1))).length ≤ sizeLine := Nat.le_trans (cutS_length _ _ _) hwz
    have hN : readW w ws = none → ∃ m2, Wk m m2 ∧ Ph .non m2 := fun e => ⟨m, Wk.refl, by rw [e] at k; exact k⟩
    refine wg_name (ws_seq (ws_if (wb_or (wb_test (wt_op (wt_lastc rfl hwz (wt_str (od_nes ?_))))))))
    rw [last_colon]
    by_cases h1 : w.cps.toList.getLast? = some 58
    · rw [decide_eq_true h1]
      refine ⟨_, rfl, fun _ => wb_or (wb_test (wt_op (wt_ones (fun Ph' q => wt_init rfl hwz q) hin (by simp) (wt_lst (wa_nil ⟨by decide, od_neL isL_lst isL_lst (pys_ints _) rfl (shaped_ints _) shaped_nil ?_⟩))))), fun z => Bool.noConfusion z⟩
      rw [eqv_nil, ones_empty, cut_init]
      have hwp : 0 < w.length := by
        rw [len_tl]
        rcases List.eq_nil_or_concat (tl w) with e | ⟨l', c, e⟩
        · rw [show w.cps.toList = [] from e] at h1; cases h1
        · rw [e]; simp
      have hdl : w.cps.toList.dropLast.length = w.length - 1 := by rw [List.length_dropLast, ← len_tl]
      cases h2 : w.cps.toList.dropLast.all dig with
      | false =>
        have k' := hN (readW_2 h2)
        refine ⟨_, rfl, fun z => Bool.noConfusion z, fun _ => ⟨fun _ => ws_ret (wt_non k'), fun z => Bool.noConfusion z⟩⟩
      | true =>
        refine ⟨_, rfl, fun _ => wb_test (wt_op (wt_cb (wa_cons ?_))), fun z => Bool.noConfusion z⟩
        refine wt_op (wt_var rfl (wt_int (od_ixl isL_lst (d := .str w) (atI_at (j := 0) rfl rfl) ?_)))
        refine wa_nil (cd_lens hwz (wt_int (od_gt ?_)))
        by_cases h3 : w.length ≤ 61
        · rw [decide_eq_false (by omega)]
          refine ⟨_, rfl, fun z => Bool.noConfusion z, fun _ => ws_next ?_⟩
          rw [readW_go h1 h2 (by omega), hdl] at k
          have hN : dueGo (w.length - 1) none ws = none → ∃ m2, Wk m m2 ∧ Ph .non m2 := fun e => ⟨m, Wk.refl, by rw [e] at k; exact k⟩
          refine ws_seq (ws_asg (wt_own (wa_nil ⟨by decide, fun A hA => wg_name ?_⟩)))
          refine ws_seq (ws_for (wi_seq (wt_tail rfl ⟨_, .inl rfl, ?_⟩)))
          refine ⟨fun i r' m' => ∃ acc, (∃ u4 u5 u6 u7, r' = [some (.str t), some (.lst ((w :: ws).map D.str)), none, some (.ref A), u4, u5, u6, u7]) ∧ m' = (A, MO.lst (acc.map doorD)) :: m ∧ acc.length ≤ i ∧
            dueGo (w.length - 1) none ws = (dueGo (w.length - 1) acc.getLast? (ws.drop i)).map (acc ++ ·), ⟨[], ⟨_, _, _, _, rfl⟩, rfl, Nat.le_refl _, by simp⟩, ?_, ?_⟩
          · rintro i d r' m' hd ⟨acc, ⟨u4, u5, u6, u7, rfl⟩, rfl, hal, hgo⟩
            rw [List.getElem?_map] at hd
            cases e : ws[i]? with
            | none => rw [e] at hd; cases hd
            | some v =>
              rw [e] at hd
              cases hd
              have hi : i < ws.length := (List.getElem?_eq_some_iff.mp e).1
              have hv : v.length ≤ 1000000 := Nat.le_trans (hwl v (List.mem_cons_of_mem _ (List.mem_of_getElem? e))) ht
              have edrop : ws.drop i = v :: ws.drop (i + 1) := by
                rw [List.drop_eq_getElem_cons hi]
                congr 1
                exact (List.getElem?_eq_some_iff.mp e).2
              rw [edrop] at hgo
              have kn : dueGo (w.length - 1) acc.getLast? (v :: ws.drop (i + 1)) = none → ∃ m2, Wk ((A, MO.lst (acc.map doorD)) :: m) m2 ∧ Ph .non m2 := fun z => by
                rw [z] at hgo
                obtain ⟨m2, w2, p2⟩ := hN hgo
                exact ⟨m2, (wk_erase (k := 0)).trans w2, p2⟩
              have hsl2 := split_le v (Str.ofString "-")
              refine wg_name (ws_seq (ws_asg (wt_m1 (wt_var rfl ⟨⟨_, rfl⟩, wt_str (md_split (by decide +kernel) (by rw [sizeLine_eq]; omega) ?_)⟩))))
              refine wg_name (ws_seq (ws_if (wb_test (wt_op (wt_cb (wa_cons (wt_var rfl (wa_nil (cd_len (.inl isL_lst) (wt_int (od_nei ?_)))))))))))
              rw [List.length_map]
              by_cases h2l : (Txt.split v (Str.ofString "-")).length = 2
              · obtain ⟨x0, x1, hx⟩ : ∃ x0 x1, Txt.split v (Str.ofString "-") = [x0, x1] := by
                  match Txt.split v (Str.ofString "-"), h2l with
                  | [a, b], _ => exact ⟨a, b, rfl⟩
                have l0 : x0.length ≤ 1000000 := Nat.le_trans (split45_word (t := v) (h := x0) (by rw [hx]; simp)) hv
                have l1 : x1.length ≤ 1000000 := Nat.le_trans (split45_word (t := v) (h := x1) (by rw [hx]; simp)) hv
                have hdoor := halves_two hx
                rw [hx]
                refine ⟨_, rfl, fun z => Bool.noConfusion (show (false : Bool) = true from z), fun _ => ws_next (ws_seq (ws_par ?_))⟩
                refine wa_cons (wt_call (wa_cons (wt_op (wt_var rfl (wt_int (od_ixl isL_lst (d := .str x0) (atI_at (j := 0) rfl rfl) (wa_nil ⟨x0, rfl, l0, ?_⟩)))))) rfl)
                refine wa_cons (wt_call (wa_cons (wt_op (wt_var rfl (wt_int (od_ixl isL_lst (d := .str x1) (atI_at (j := 1) rfl rfl) (wa_nil ⟨x1, rfl, l1, ?_⟩)))))) rfl)
                refine wa_nil ⟨_, _, rfl, ?_⟩
                unfold lnumD
                cases e0 : numC (tl x0) with
                | none =>
                  have k' := kn (due_1 (by rw [hdoor, e0]))
                  repeat' trivial
                | some a =>
                  cases e1 : numC (tl x1) with
                  | none =>
                    have k' := kn (due_1 (by rw [hdoor, e0, e1]))
                    repeat' trivial
                  | some b =>
                    rw [e0, e1] at hdoor
                    have app : okNext (w.length - 1) acc.getLast? (a, b) = true → dueGo (w.length - 1) none ws = (dueGo (w.length - 1) (acc ++ [(a, b)]).getLast? (ws.drop (i + 1))).map ((acc ++ [(a, b)]) ++ ·) := fun z => by
                      rw [hgo, due_3 hdoor z, List.getLast?_append, List.getLast?_singleton]
                      show _ = Option.map _ (dueGo (w.length - 1) (some (a, b)) (ws.drop (i + 1)))
                      cases dueGo (w.length - 1) (some (a, b)) (ws.drop (i + 1)) with
                      | none => rfl
                      | some l => simp
                    have bad : okNext (w.length - 1) acc.getLast? (a, b) = false → ∃ m2, Wk ((A, MO.lst (acc.map doorD)) :: m) m2 ∧ Ph .non m2 := fun z => kn (due_2 hdoor z)
                    refine ws_seq (ws_if (wb_or (wb_not (wb_test (wt_chain3 ?_)))))
                    refine wt_int (wt_var rfl (od_le ⟨_, rfl, fun _ => wt_var rfl (od_lt ?_), fun z => absurd z (by rw [decide_eq_true (by omega)]; decide)⟩))
                    by_cases hab : a < b
                    · rw [decide_eq_true (by omega)]
                      refine ⟨_, rfl, fun _ => ?_, fun z => Bool.noConfusion z⟩
                      refine wt_op (wt_cb (wa_cons ?_))
                      refine wt_op (wt_var rfl (wt_int (od_ixl isL_lst (d := .str w) (atI_at (j := 0) rfl rfl) ?_)))
                      refine wa_nil (cd_lens hwz (wt_int (od_sub (od_lt ?_))))
                      by_cases hbn : b < w.length - 1
                      · rw [decide_eq_true (by omega)]
                        refine ⟨true, rfl, fun _ => ?_, fun z => Bool.noConfusion z⟩
                        refine wb_and (wb_test (wt_op (wt_var rfl (wt_lst (wa_nil ⟨by decide, od_neL (isL_own 0 rfl) isL_lst (doors_py acc) rfl (shaped_pairs _) shaped_nil ?_⟩)))))
                        rw [eqv_nil]
                        have push : okNext (w.length - 1) acc.getLast? (a, b) = true → ∃ acc', ((∃ u4 u5 u6 u7, ([some (.str t), some (.lst ((w :: ws).map D.str)), none, some (.ref A), some (.str v), some (.lst ([x0, x1].map D.str)), some (.int (a : Nat)), some (.int (b : Nat))] : Rho) = [some (.str t), some (.lst ((w :: ws).map D.str)), none, some (.ref A), u4, u5, u6, u7]) ∧ ((A, MO.lst (acc.map doorD ++ [.tup [.int (a : Nat), .int (b : Nat)]])) :: m) = (A, MO.lst (acc'.map doorD)) :: m ∧ acc'.length ≤ i + 1 ∧
                            dueGo (w.length - 1) none ws = (dueGo (w.length - 1) acc'.getLast? (ws.drop (i + 1))).map (acc' ++ ·)) := fun z =>
                          ⟨acc ++ [(a, b)], ⟨_, _, _, _, rfl⟩, by rw [List.map_append]; rfl, by simp; omega, app z⟩
                        have hlen : (acc.map doorD).length < sizeLine := by rw [List.length_map, sizeLine_eq]; omega
                        have fin2 : ∀ {Ed : EndsD}, okNext (w.length - 1) acc.getLast? (a, b) = true → (∀ r' m', (∃ acc, (∃ u4 u5 u6 u7, r' = [some (.str t), some (.lst ((w :: ws).map D.str)), none, some (.ref A), u4, u5, u6, u7]) ∧ m' = (A, MO.lst (acc.map doorD)) :: m ∧ acc.length ≤ i + 1 ∧ dueGo (w.length - 1) none ws = (dueGo (w.length - 1) acc.getLast? (ws.drop (i + 1))).map (acc ++ ·)) → Ed.nx r' m') →
                            WS (fun cls d _ H' => E cls d H') (fun cls fs _ m' => Pc cls fs m') (tDrop (tBM cs.K "list" rAppend (tVar 3) (tCons (tTup (tCons (tVar 6) (tCons (tVar 7) tNil))) tNil))) Ed
                            [some (.str t), some (.lst ((w :: ws).map D.str)), none, some (.ref A), some (.str v), some (.lst ([x0, x1].map D.str)), some (.int (a : Nat)), some (.int (b : Nat))] ((A, MO.lst (acc.map doorD)) :: m) := fun {Ed} z q => by
                          refine ws_drop (wt_bm (wt_var rfl ⟨.inr (.inl ⟨_, isL_own 0 rfl, rfl⟩), ?_⟩))
                          refine wa_cons (wt_tup (wa_cons (wt_var rfl (wa_cons (wt_var rfl (wa_nil ⟨Nat.le_of_ble_eq_true rfl, wa_nil (md_append 0 rfl hlen (q _ _ (push z)))⟩))))))
                        cases hlast : acc.getLast? with
                        | none =>
                          have hok : okNext (w.length - 1) acc.getLast? (a, b) = true := by rw [hlast]; simp [okNext, hab, hbn]
                          have he : acc = [] := List.getLast?_eq_none_iff.mp hlast
                          have hem : ((acc.map some).map pairP).isEmpty = true := by rw [he]; rfl
                          rw [hem]
                          refine ⟨_, rfl, fun z => Bool.noConfusion z, fun _ => ⟨fun z => Bool.noConfusion z, fun _ => ws_next (fin2 hok fun _ _ q => q)⟩⟩
                        | some q =>
                          have hne : acc ≠ [] := fun z => by rw [z] at hlast; cases hlast
                          have hem : ((acc.map some).map pairP).isEmpty = false := by cases acc <;> simp at hne ⊢
                          rw [hem]
                          refine ⟨_, rfl, fun _ => ?_, fun z => Bool.noConfusion z⟩
                          refine wb_test (wt_op (wt_tup (wa_cons (wt_var rfl (wa_cons (wt_var rfl (wa_nil ⟨Nat.le_of_ble_eq_true rfl, ?_⟩)))))))
                          refine wt_op (wt_var rfl (wt_un (wt_int (ud_neg (od_ixl (isL_own 0 rfl) (atI_end hlast) (od_led (ns := [(a : Int), (b : Int)]) (ms := [(q.1 : Int), (q.2 : Int)]) rfl rfl ?_))))))
                          rw [leI_two]
                          cases hle : (decide ((a : Int) < q.1) || (decide ((a : Int) = q.1) && decide ((b : Int) ≤ q.2))) with
                          | true =>
                            have hok : okNext (w.length - 1) acc.getLast? (a, b) = false := by
                              rw [hlast]
                              simp [okNext]
                              simp at hle
                              omega
                            refine ⟨_, rfl, ⟨fun _ => ws_ret (wt_non (bad hok)), fun z => Bool.noConfusion z⟩⟩
                          | false =>
                            have hok : okNext (w.length - 1) acc.getLast? (a, b) = true := by
                              rw [hlast]
                              simp [okNext, hab, hbn]
                              simp at hle
                              omega
                            refine ⟨_, rfl, ⟨fun z => Bool.noConfusion z, fun _ => ws_next (fin2 hok fun _ _ q => q)⟩⟩
                      · rw [decide_eq_false (by omega)]
                        have k' := bad (by simp [okNext, hbn])
                        refine ⟨false, rfl, fun z => Bool.noConfusion z, fun _ => ⟨fun _ => ws_ret (wt_non k'), fun z => Bool.noConfusion z⟩⟩
                    · rw [decide_eq_false (by omega)]
                      have k' := bad (by simp [okNext, hab])
                      refine ⟨_, rfl, fun z => Bool.noConfusion z, fun _ => ⟨false, rfl, fun z => Bool.noConfusion z, fun _ => ⟨fun _ => ws_ret (wt_non k'), fun z => Bool.noConfusion z⟩⟩⟩
              · have k' := kn (due_1 (halves_else h2l))
                have e3 : ((((Txt.split v (Str.ofString "-")).length : Nat) : Int) == 2) = false := by
                  rw [Bool.eq_false_iff]; intro z; have := eq_of_beq z; omega
                rw [e3]
                refine ⟨_, rfl, fun _ => ws_ret (wt_non k'), fun z => Bool.noConfusion z⟩
          · rintro r' m' ⟨acc, ⟨u4, u5, u6, u7, rfl⟩, rfl, hal, hgo⟩
            rw [List.length_map, List.drop_length, dueGo] at hgo
            simp at hgo
            rw [hgo] at k
            refine ws_ret (wt_tup (wa_cons (wt_cb (wa_cons (wt_digs (fun Ph' q => wt_init rfl hwz q) hin (by simp) (by rw [cut_init]; exact h2) (wa_nil (cd_tupl isL_lst ?_)))))))
            refine wa_cons (wt_cb (wa_cons (wt_var rfl (wa_nil (cd_tupl (isL_own 0 rfl) (wa_nil ⟨Nat.le_of_ble_eq_true rfl, ?_⟩))))))
            rw [cut_init]
            exact ⟨m, wk_erase (k := 0), k⟩
        · rw [decide_eq_true (by omega)]
          have k' := hN (readW_long (by omega))
          refine ⟨_, rfl, fun _ => ws_ret (wt_non k'), fun z => Bool.noConfusion z⟩
    · rw [decide_eq_false h1]
      have k' := hN (readW_1 h1)
      refine ⟨_, rfl, fun z => Bool.noConfusion z, fun _ => ⟨fun _ => ws_ret (wt_non k'), fun z => Bool.noConfusion z⟩⟩
end

section
open TL
variable {cs : Cs}
theorem dk_app (n : Nat) : ∀ (dl r : List (Nat × Nat)) (prev : Option (Nat × Nat)), doorsOk n prev (dl ++ r) = (doorsOk n prev dl && doorsOk n (match dl.getLast? with | some q => some q | none => prev) r)
  | [], r, prev => by cases prev <;> simp [doorsOk]
  | [p], r, prev => by
    show doorsOk n prev (p :: r) = _
    cases prev <;> simp [doorsOk]
  | p :: q :: l, r, prev => by
    have ih := dk_app n (q :: l) r (some p)
    have e : ∀ x, doorsOk n prev (p :: x) = (okNext n prev p && doorsOk n (some p) x) := fun x => by cases prev <;> simp [doorsOk, okNext]
    rw [List.cons_append, e, ih, e, Bool.and_assoc, List.getLast?_cons_cons]
    cases h : (q :: l).getLast? with
    | none => simp at h
    | some z => rfl
theorem dk_row {n low : Nat} : ∀ (l : List Nat) (prev : Option (Nat × Nat)), (∀ h ∈ l, low < h ∧ h < n) → l.Pairwise (· < ·) → (∀ q, prev = some q → q.1 < low ∨ (q.1 = low ∧ ∀ h ∈ l, q.2 < h)) → doorsOk n prev (l.map fun h => (low, h)) = true
  | [], prev, _, _, _ => by cases prev <;> simp [doorsOk]
  | h :: l, prev, h1, h2, h3 => by
    have e : ∀ x, doorsOk n prev ((low, h) :: x) = (okNext n prev (low, h) && doorsOk n (some (low, h)) x) := fun x => by cases prev <;> simp [doorsOk, okNext]
    rw [List.map_cons, e, Bool.and_eq_true]
    have ha := h1 h List.mem_cons_self
    refine ⟨?_, dk_row l _ (fun z hz => h1 z (List.mem_cons_of_mem _ hz)) (List.pairwise_cons.mp h2).2 fun q hq => ?_⟩
    · cases prev with
      | none => simp [okNext, ha.1, ha.2]
      | some q =>
        have := h3 q rfl
        simp [okNext, ha.1, ha.2]
        rcases this with z | ⟨z, y⟩
        · exact .inl z
        · exact .inr ⟨z, y h List.mem_cons_self⟩
    · cases hq
      exact .inr ⟨rfl, fun z hz => (List.pairwise_cons.mp h2).1 z hz⟩
theorem row_ok {n low : Nat} {dl : List (Nat × Nat)} {l : List Nat} (h : doorsOk n none dl = true) (h0 : ∀ p ∈ dl, p.1 < low) (h1 : ∀ h ∈ l, low < h ∧ h < n) (h2 : l.Pairwise (· < ·)) : doorsOk n none (dl ++ l.map fun h => (low, h)) = true := by
  rw [dk_app, h, Bool.true_and]
  refine dk_row l _ h1 h2 fun q hq => ?_
  cases e : dl.getLast? with
  | none => rw [e] at hq; cases hq
  | some z =>
    rw [e] at hq
    cases hq
    exact .inl (h0 _ (List.mem_of_getLast? e))
theorem set_at {m : Sto} {k : Nat} {p q : Addr × MO} (e : m[k]? = some p) : (m.set k q)[k]? = some q := List.getElem?_set_self (List.getElem?_eq_some_iff.mp e).1
def rowsum (rooms : Nat) : Nat → Nat
  | 0 => 0
  | i + 1 => rowsum rooms i + (rooms - (i + 1))
theorem rowsum_le : ∀ rooms, rooms ≤ 15 → rowsum rooms rooms ≤ 105 := by
  intro rooms h
  have : ∀ r : Fin 16, rowsum r.1 r.1 ≤ 105 := by decide
  exact this ⟨rooms, by omega⟩
theorem run__law_house : Runs (sp__law_house cs) N__law_house (t__law_house cs.K cs) := by
  rintro E ds m Ph Pc ⟨a, ac, ag, k, n, rooms, colours, rfl, e, hr, hc0, hc, hn, kk⟩
  unfold t__law_house
  show WS _ _ _ _ [some (.ref a), some (.int rooms), some (.int colours), none, none, none, none, none] m
  refine ws_post (ws_seq (ws_asg (wt_tup (wa_cons (wt_lst (wa_nil ⟨by decide, ?_⟩))))))
  refine wa_cons (wt_call (wa_cons (wt_var rfl (wa_cons (wt_int (wa_nil ⟨a, ac, ag, k, n, 5, rfl, e, by decide, by decide, by omega, fun dense hd1 hd2 => ?_⟩))))) rfl)
  refine wa_nil ⟨Nat.le_of_ble_eq_true rfl, wg_tup rfl (wgs_cons (wg_name (wgs_cons (wg_name (wgs_nil ?_)))))⟩
  have hat : ∀ q, (m.set k (a, .gen ac ag q))[k]? = some (a, .gen ac ag q) := fun q => set_at e
  refine ws_seq (ws_for (wi_rng1 (wa_cons (wt_var rfl (wa_nil ⟨_, rfl, by omega, by omega, ?_⟩)))))
  refine ⟨fun i r' m' => ∃ q dl u5, r' = [some (.ref a), some (.int rooms), some (.int colours), some (.lst (dl.map doorD)), some (.int dense), u5, none, none] ∧ m' = m.set k (a, .gen ac ag q) ∧ q ≤ n + 1 + 15 * i ∧ doorsOk rooms none dl = true ∧ (∀ p ∈ dl, p.1 < i) ∧ dl.length ≤ rowsum rooms i,
    ⟨n + 1, [], none, rfl, rfl, by omega, by simp [doorsOk], by simp, by simp [rowsum]⟩, ?_, ?_⟩
  · rintro i d r' m' hd ⟨q, dl, u5, rfl, rfl, hq, hok, hlow, hlen⟩
    obtain ⟨h3, rfl⟩ := rngD_get hd
    have h3' : i < rooms := by simpa using h3
    have e0 : (0 : Int) + (i : Nat) = (i : Nat) := by omega
    rw [e0]
    refine wg_name (ws_asg (wt_op (wt_var rfl ?_)))
    refine wt_lcG (gonly_name (by simp)) (wi_rng2 (wa_cons (wt_op (wt_var rfl (wt_int (od_add (wa_cons (wt_var rfl (wa_nil ⟨_, _, rfl, ⟨by omega, by omega, by omega, by omega⟩, ?_⟩)))))))))
    intro L hL
    have hcount : ((rooms : Int) - ((i : Nat) + 1)).toNat = rooms - (i + 1) := by omega
    rw [hcount]
    refine ⟨fun j acc m' => ∃ q' l, acc = l.map (fun h => doorD (i, h)) ∧ m' = m.set k (a, .gen ac ag q') ∧ q' ≤ q + j ∧ (∀ h ∈ l, i < h ∧ h < i + 1 + j) ∧ l.Pairwise (· < ·) ∧ l.length ≤ j,
      ⟨q, [], rfl, rfl, Nat.le_refl _, by simp, List.Pairwise.nil, Nat.le_refl _⟩, ?_, ?_⟩
    · rintro j d acc m' hd2 ⟨q', l, rfl, rfl, hq', hl1, hl2, hl3⟩
      obtain ⟨h4, rfl⟩ := rngD_get hd2
      have e1 : ((i : Nat) : Int) + 1 + (j : Nat) = ((i + 1 + j : Nat) : Int) := by omega
      rw [e1]
      refine wg_name (wb_test (wt_op (wt_call0 (wa_cons (wt_var rfl (wa_cons (wt_int (wa_nil ⟨a, ac, ag, k + 1, q', 4, rfl, hat q', by decide, by decide, by omega, fun r hr1 hr2 => wt_var rfl (od_lt ⟨_, rfl, fun _ => ?_, fun _ => ?_⟩)⟩))))) rfl)))
      · refine wt_tup (wa_cons (wt_var rfl (wa_cons (wt_var rfl (wa_nil ⟨Nat.le_of_ble_eq_true rfl, m.set k (a, .gen ac ag (q' + 1)), ?_, ?_, q' + 1, l ++ [i + 1 + j], ?_, rfl, by omega, fun h hh => ?_, ?_, by simp; omega⟩)))))
        · show (L, MO.lst (l.map fun h => doorD (i, h))) :: (m.set k (a, .gen ac ag q')).set k (a, .gen ac ag (q' + 1)) = _
          rw [List.set_set]
        · rw [List.length_map, sizeLine_eq]; omega
        · rw [List.map_append]; rfl
        · rcases List.mem_append.mp hh with z | z
          · have := hl1 h z; omega
          · cases List.mem_singleton.mp z; omega
        · refine List.pairwise_append.mpr ⟨hl2, by simp, fun x hx y hy => ?_⟩
          cases List.mem_singleton.mp hy
          have := hl1 x hx
          omega
      · refine ⟨m.set k (a, .gen ac ag (q' + 1)), ?_, q' + 1, l, rfl, rfl, by omega, fun h hh => ?_, hl2, by omega⟩
        · show (L, MO.lst (l.map fun h => doorD (i, h))) :: (m.set k (a, .gen ac ag q')).set k (a, .gen ac ag (q' + 1)) = _
          rw [List.set_set]
        · have := hl1 h hh; omega
    · rintro acc m' ⟨q', l, rfl, rfl, hq', hl1, hl2, hl3⟩
      rw [rngD_len] at hq' hl1 hl3
      refine .inl (od_addl ?_ ?_)
      · have hr3 : dl.length ≤ 225 := by
          have : ∀ i ≤ 15, rowsum rooms i ≤ i * 15 := by
            intro i
            induction i with
            | zero => intro _; exact Nat.le_refl _
            | succ i ih => intro z; have := ih (by omega); rw [rowsum]; omega
          have := this i (by omega); omega
        rw [List.length_map, List.length_map, sizeLine_eq]; omega
      refine wg_name ⟨q', dl ++ l.map fun h => (i, h), some (.int (i : Nat)), ?_, rfl, by omega, row_ok hok hlow (fun h hh => ?_) hl2, fun p hp => ?_, by simp [rowsum]; omega⟩
      · rw [List.map_append, List.map_map]; rfl
      · have := hl1 h hh; omega
      · rcases List.mem_append.mp hp with z | z
        · have := hlow p z; omega
        · obtain ⟨h, _, rfl⟩ := List.mem_map.mp z
          show i < i + 1
          omega
  · rintro r' m' ⟨q, dl, u5, rfl, rfl, hq, hok, hlow, hlen⟩
    rw [rngD_len] at hq hlow hlen
    have hr2 := rowsum_le rooms hr
    rw [Int.toNat_natCast] at hlen
    refine ws_ret (wt_tup (wa_cons (wt_cb (wa_cons (wt_lcG (gonly_name (by simp)) (wi_rng1 (wa_cons (wt_var rfl (wa_nil ⟨_, rfl, by omega, by omega, ?_⟩)))))))))
    intro L hL
    refine ⟨fun j acc m' => ∃ q' cl, acc = cl.map (fun (c : Nat) => D.int (c : Int)) ∧ m' = m.set k (a, .gen ac ag q') ∧ q' ≤ q + j ∧ (∀ c ∈ cl, c < colours) ∧ cl.length = j, ⟨q, [], rfl, rfl, Nat.le_refl _, by simp, rfl⟩, ?_, ?_⟩
    · rintro j d acc m' hd2 ⟨q', cl, rfl, rfl, hq', hc1, hc2⟩
      obtain ⟨h4, rfl⟩ := rngD_get hd2
      refine wg_name (wb_yes ⟨fun _ => ?_, fun z => Bool.noConfusion z⟩)
      refine wt_call0 (wa_cons (wt_var rfl (wa_cons (wt_var rfl (wa_nil ⟨a, ac, ag, k + 1, q', (colours : Int), rfl, hat q', by omega, by omega, by omega, fun r hr1 hr2 => ?_⟩))))) rfl
      refine ⟨m.set k (a, .gen ac ag (q' + 1)), ?_, ?_, q' + 1, cl ++ [r.toNat], ?_, rfl, by omega, fun c hc => ?_, by simp; omega⟩
      · show (L, MO.lst (cl.map fun (c : Nat) => D.int (c : Int))) :: (m.set k (a, .gen ac ag q')).set k (a, .gen ac ag (q' + 1)) = _
        rw [List.set_set]
      · rw [List.length_map, sizeLine_eq]; omega
      · rw [List.map_append]
        have : ((r.toNat : Nat) : Int) = r := by omega
        show _ = _ ++ [D.int ((r.toNat : Nat) : Int)]
        rw [this]
      · rcases List.mem_append.mp hc with z | z
        · exact hc1 c z
        · cases List.mem_singleton.mp z; omega
    · rintro acc m' ⟨q', cl, rfl, rfl, hq', hc1, hc2⟩
      rw [rngD_len] at hq' hc2
      refine .inl (wa_nil (cd_tupl isL_lst (wa_cons (wt_cb (wa_cons (wt_var rfl (wa_nil (cd_tupl isL_lst (wa_nil ⟨Nat.le_of_ble_eq_true rfl, ?_⟩)))))))))
      refine ⟨m.set k (a, .gen ac ag (n + 300)), ?_, kk cl dl (by omega) hc1 hok (by omega)⟩
      have w := wk_gen (hat q') (show q' ≤ n + 300 by omega)
      rw [List.set_set] at w
      exact w
end

section
open TL
variable {cs : Cs}
theorem join_ok {ys : List Str} (h : ∀ y ∈ ys, y.length ≤ 700) (hl : ys.length ≤ 1410) : (ys.map (·.length)).sum + ys.length * (Str.ofString " ").length ≤ 16777216 ∧ (Txt.join " " ys).length ≤ 1000000 := by
  have h1 := sum_le h
  have h2 := join_len " " ys
  rw [space_len] at h2 ⊢
  have h3 : ys.length * 700 ≤ 1410 * 700 := Nat.mul_le_mul_right _ hl
  omega
theorem cut_words (l : List Str) (lo hi : Option Int) : ∃ l' : List Str, cutD (l.map D.str) lo hi = l'.map D.str ∧ (∀ x ∈ l', x ∈ l) ∧ l'.length ≤ l.length := by
  refine ⟨(l.drop (HT.sIx l.length 0 lo)).take (HT.sIx l.length l.length hi - HT.sIx l.length 0 lo), ?_, fun x hx => List.mem_of_mem_drop (List.mem_of_mem_take hx), ?_⟩
  · unfold cutD
    rw [List.length_map, List.map_take, List.map_drop]
  · rw [List.length_take, List.length_drop]; omega
theorem odds {d : D} (h : d ∈ ([.str "", .str "0", .str "1", .str "-", .str ":", .str " ", .str "0-1", .str "00-1", .str "1-0", .str "x", .str "\n", .str "+1", .str "1_0", .str "12-13", .str "9-10"] : List D)) : ∃ o : Str, d = .str o ∧ o.length ≤ 5 := by
  simp only [List.mem_cons, List.not_mem_nil, or_false] at h
  rcases h with h | h | h | h | h | h | h | h | h | h | h | h | h | h | h <;> exact ⟨_, h, by decide +kernel⟩
theorem wt_drawc {W : WX} {Ps : PsiT} {r : Rho} {m : Sto} {Ph : PhiT} {te : TE} {a : Addr} {j : Nat} (hj : r[j]? = some (some (.ref a))) (h : WT W Ps te r m fun x m1 => ∃ (ac ag : Addr) (k n : Nat) (limit : Int), x = .int limit ∧ m1[k]? = some (a, .gen ac ag n) ∧ 0 < limit ∧ limit < 1000000 ∧ n < 1000000000 ∧ ∀ r : Int, 0 ≤ r → r < limit → Ph (.int r) (m1.set k (a, .gen ac ag (n + 1)))) :
    WT W Ps (tCallG (lift (sp__law_draw cs)) [] (WE W) (tCons (tVar j) (tCons te tNil))) r m Ph := by
  refine wt_call (wa_cons (wt_var hj (wa_cons (wt_mono (fun d m1 q => ?_) h)))) rfl
  obtain ⟨ac, ag, k, n, limit, rfl, h1, h2, h3, h4, h5⟩ := q
  exact wa_nil ⟨a, ac, ag, k, n, limit, rfl, h1, h2, h3, h4, h5⟩
theorem run__law_bent : Runs (sp__law_bent cs) N__law_bent (t__law_bent cs.K cs) := by
  rintro E ds m Ph Pc ⟨a, ac, ag, k, n, t, rfl, e, ht, hn, kk⟩
  unfold t__law_bent
  show WS _ _ _ _ [some (.ref a), some (.str t), none, none, none, none, none, none] m
  have htz : t.length ≤ sizeLine := by rw [sizeLine_eq]; omega
  have hsl := split_le t (Str.ofString " ")
  have hwl := fun w => word_len (t := t) (w := w)
  have hne := split_ne t
  refine ws_post (ws_seq (ws_par (wa_cons (wt_m1 (wt_var rfl ⟨⟨_, rfl⟩, wt_str (md_splito (by decide +kernel) (by rw [sizeLine_eq]; omega) fun l hl => ?_)⟩)))))
  generalize Txt.split t (Str.ofString " ") = W at hsl hwl hne
  have hW : ∀ x ∈ W, x.length ≤ 700 := fun x hx => Nat.le_trans (hwl x hx) ht
  have hWl : W.length ≤ 702 := by omega
  have hWp : 0 < W.length := List.length_pos_iff.mpr hne
  have hat : ∀ q, (m.set k (a, .gen ac ag q))[k]? = some (a, .gen ac ag q) := fun q => set_at e
  have fin : ∀ (X : MO) (q : Nat) (z : Str), q ≤ n + 5 → z.length ≤ 1000000 → domO (l, X) = [l] → ∃ m2, Wk ((l, X) :: m.set k (a, .gen ac ag q)) m2 ∧ Ph (.str z) m2 := fun X q z hq hz _ => by
    have w := wk_gen (hat q) hq
    rw [List.set_set] at w
    exact ⟨_, (wk_erase (k := 0)).trans w, kk z hz⟩
  refine wa_cons (wt_call (wa_cons (wt_var rfl (wa_cons (wt_lst ?_)))) rfl)
  repeat' trivial
  refine ⟨a, ac, ag, k + 1, n, _, _, rfl, .inl rfl, e, by simp, by simp, by omega, fun d hd => ?_⟩
  obtain ⟨o, rfl, ho⟩ := odds hd
  refine wa_nil ⟨_, _, rfl, ?_⟩
  show WS _ _ _ _ [some (.ref a), some (.str t), some (.ref l), some (.str o), none, none, none, none] ((l, .lst (W.map D.str)) :: m.set k (a, .gen ac ag (n + 1)))
  refine ws_seq (ws_triple (wa_cons (wt_drawc rfl ?_)))
  refine wt_cb (wa_cons (wt_var rfl (wa_nil (cd_len (.inl (isL_own 0 rfl)) ⟨ac, ag, k + 1, n + 1, _, rfl, hat _, by simp; omega, by simp; omega, by omega, fun place hp1 hp2 => ?_⟩))))
  rw [List.length_map] at hp2
  have e2 : ∀ (X : MO) (p q : Nat), ((l, X) :: m.set k (a, .gen ac ag p)).set (k + 1) (a, .gen ac ag q) = (l, X) :: m.set k (a, .gen ac ag q) := fun X p q => by
    show (l, X) :: (m.set k (a, .gen ac ag p)).set k (a, .gen ac ag q) = _
    rw [List.set_set]
  rw [e2]
  refine wa_cons (wt_drawc rfl ?_)
  refine wt_op (wt_cb (wa_cons (wt_var rfl (wa_nil (cd_lens htz (wt_int (od_add ⟨ac, ag, k + 1, n + 1 + 1, _, rfl, hat _, by omega, by omega, by omega, fun spot hs1 hs2 => ?_⟩)))))))
  rw [e2]
  refine wa_cons (wt_drawc rfl (wt_int ⟨ac, ag, k + 1, n + 1 + 1 + 1, _, rfl, hat _, by omega, by omega, by omega, fun pick hq1 hq2 => ?_⟩))
  rw [e2]
  refine wa_nil ⟨_, _, _, rfl, ?_⟩
  show WS _ _ _ _ [some (.ref a), some (.str t), some (.ref l), some (.str o), some (.int place), some (.int spot), some (.int pick), none] _
  have cl := fun lo hi => cutS_length t lo hi
  have cw := fun lo hi => cut_words W lo hi
  -- 0
  refine ws_seq (ws_if (wb_test (wt_op (wt_var rfl (wt_int (od_eqi ⟨_, rfl, fun _ => ?_, fun _ => ws_next ?_⟩))))))
  · refine ws_ret (wt_op (wt_op (wt_sl (wt_var rfl (wo_none (wo_some (wt_var rfl ⟨_, rfl, sd_str htz (wt_var rfl (od_adds ?_ ?_))⟩)))))))
    · have := cl none (some spot)
      rw [sizeLine_eq]; omega
    refine wt_sl (wt_var rfl (wo_some (wt_var rfl ⟨_, rfl, wo_none (sd_str htz (od_adds ?_ ?_))⟩)))
    · have := cl none (some spot)
      have := cl (some spot) none
      rw [str_app_len, sizeLine_eq]; omega
    · refine fin _ _ _ (by omega) ?_ rfl
      have := cl none (some spot)
      have := cl (some spot) none
      rw [str_app_len, str_app_len]; omega
  -- 1
  refine ws_seq (ws_if (wb_test (wt_op (wt_var rfl (wt_int (od_eqi ⟨_, rfl, fun _ => ?_, fun _ => ws_next ?_⟩))))))
  · refine ws_ret (wt_op (wt_sl (wt_var rfl (wo_none (wo_some (wt_var rfl ⟨_, rfl, sd_str htz ?_⟩))))))
    refine wt_sl (wt_var rfl (wo_some (wt_op (wt_var rfl (wt_int (od_add ⟨_, rfl, wo_none (sd_str htz (od_adds ?_ ?_))⟩))))))
    · have := cl none (some spot)
      have := cl (some (spot + 1)) none
      rw [sizeLine_eq]; omega
    · refine fin _ _ _ (by omega) ?_ rfl
      have := cl none (some spot)
      have := cl (some (spot + 1)) none
      rw [str_app_len]; omega
  -- 2
  refine ws_seq (ws_if (wb_test (wt_op (wt_var rfl (wt_int (od_eqi ⟨_, rfl, fun _ => ?_, fun _ => ws_next ?_⟩))))))
  · obtain ⟨x1, ex1, mx1, lx1⟩ := cw none (some place)
    obtain ⟨x2, ex2, mx2, lx2⟩ := cw (some (place + 1)) none
    have jo := join_ok (ys := x1 ++ x2) (fun y hy => by rcases List.mem_append.mp hy with z | z; exact hW y (mx1 y z); exact hW y (mx2 y z)) (by simp; omega)
    refine ws_ret (wt_m1 (wt_str ⟨⟨_, rfl⟩, ?_⟩))
    refine wt_op (wt_sl (wt_var rfl (wo_none (wo_some (wt_var rfl ⟨_, rfl, sd_lst (isL_own 0 rfl) ?_⟩)))))
    refine wt_sl (wt_var rfl (wo_some (wt_op (wt_var rfl (wt_int (od_add ⟨_, rfl, wo_none (sd_lst (isL_own 0 rfl) ?_)⟩))))))
    rw [ex1, ex2]
    refine od_addl (by simp [sizeLine_eq]; omega) (md_join (ys := x1 ++ x2) (.inl (.inl (by simp))) jo.1 (fin _ _ _ (by omega) jo.2 rfl))
  -- 3
  refine ws_seq (ws_if (wb_test (wt_op (wt_var rfl (wt_int (od_eqi ⟨_, rfl, fun _ => ?_, fun _ => ws_next ?_⟩))))))
  · obtain ⟨x1, ex1, mx1, lx1⟩ := cw none (some place)
    obtain ⟨x2, ex2, mx2, lx2⟩ := cw (some place) none
    have jo := join_ok (ys := x1 ++ [o] ++ x2) (fun y hy => by
      rcases List.mem_append.mp hy with z | z
      · rcases List.mem_append.mp z with z | z
        · exact hW y (mx1 y z)
        · cases List.mem_singleton.mp z; omega
      · exact hW y (mx2 y z)) (by simp; omega)
    refine ws_ret (wt_m1 (wt_str ⟨⟨_, rfl⟩, ?_⟩))
    refine wt_op (wt_op (wt_sl (wt_var rfl (wo_none (wo_some (wt_var rfl ⟨_, rfl, sd_lst (isL_own 0 rfl) ?_⟩))))))
    refine wt_lst (wa_cons (wt_var rfl (wa_nil ⟨Nat.le_of_ble_eq_true rfl, ?_⟩)))
    rw [ex1]
    refine od_addl (by simp [sizeLine_eq]; omega) ?_
    refine wt_sl (wt_var rfl (wo_some (wt_var rfl ⟨_, rfl, wo_none (sd_lst (isL_own 0 rfl) ?_)⟩)))
    rw [ex2]
    refine od_addl (by simp [sizeLine_eq]; omega) (md_join (ys := x1 ++ [o] ++ x2) (.inl (.inl (by simp))) jo.1 (fin _ _ _ (by omega) jo.2 rfl))
  -- 4
  have hpl : place.toNat < W.length := by omega
  refine ws_seq (ws_if (wb_test (wt_op (wt_var rfl (wt_int (od_eqi ⟨_, rfl, fun _ => ?_, fun _ => ws_next ?_⟩))))))
  · obtain ⟨x1, ex1, mx1, lx1⟩ := cw none (some place)
    obtain ⟨x2, ex2, mx2, lx2⟩ := cw (some place) none
    have jo := join_ok (ys := x1 ++ [W[place.toNat]] ++ x2) (fun y hy => by
      rcases List.mem_append.mp hy with z | z
      · rcases List.mem_append.mp z with z | z
        · exact hW y (mx1 y z)
        · cases List.mem_singleton.mp z; exact hW _ (List.getElem_mem hpl)
      · exact hW y (mx2 y z)) (by simp; omega)
    refine ws_ret (wt_m1 (wt_str ⟨⟨_, rfl⟩, ?_⟩))
    refine wt_op (wt_op (wt_sl (wt_var rfl (wo_none (wo_some (wt_var rfl ⟨_, rfl, sd_lst (isL_own 0 rfl) ?_⟩))))))
    refine wt_lst (wa_cons (wt_op (wt_var rfl (wt_var rfl (od_ixl (isL_own 0 rfl) (d := .str W[place.toNat]) (atI_at (j := place.toNat) (by omega) (by rw [List.getElem?_map, List.getElem?_eq_getElem hpl]; rfl)) (wa_nil ⟨Nat.le_of_ble_eq_true rfl, ?_⟩))))))
    rw [ex1]
    refine od_addl (by simp [sizeLine_eq]; omega) ?_
    refine wt_sl (wt_var rfl (wo_some (wt_var rfl ⟨_, rfl, wo_none (sd_lst (isL_own 0 rfl) ?_)⟩)))
    rw [ex2]
    refine od_addl (by simp [sizeLine_eq]; omega) (md_join (ys := x1 ++ [W[place.toNat]] ++ x2) (.inl (.inl (by simp))) jo.1 (fin _ _ _ (by omega) jo.2 rfl))
  -- else
  refine ws_seq (ws_asg (wt_drawc rfl ?_))
  refine wt_cb (wa_cons (wt_var rfl (wa_nil (cd_len (.inl (isL_own 0 rfl)) ⟨ac, ag, k + 1, n + 1 + 1 + 1 + 1, _, rfl, hat _, by simp; omega, by simp; omega, by omega, fun other ho1 ho2 => ?_⟩))))
  rw [List.length_map] at ho2
  rw [e2]
  have hot : other.toNat < W.length := by omega
  have g1 : (W.map D.str)[place.toNat]? = some (.str W[place.toNat]) := by rw [List.getElem?_map, List.getElem?_eq_getElem hpl]; rfl
  have g2 : (W.map D.str)[other.toNat]? = some (.str W[other.toNat]) := by rw [List.getElem?_map, List.getElem?_eq_getElem hot]; rfl
  refine wg_name (ws_seq (ws_asg (wt_tup (wa_cons (wt_op (wt_var rfl (wt_var rfl (od_ixl (isL_own 0 rfl) (d := .str W[other.toNat]) (atI_at (j := other.toNat) (by omega) g2) ?_))))))))
  refine wa_cons (wt_op (wt_var rfl (wt_var rfl (od_ixl (isL_own 0 rfl) (d := .str W[place.toNat]) (atI_at (j := place.toNat) (by omega) g1) (wa_nil ⟨Nat.le_of_ble_eq_true rfl, ?_⟩)))))
  refine wg_tup rfl (wgs_cons (wg_subl (wt_var rfl (wt_var rfl ⟨0, l, _, _, place.toNat, rfl, rfl, rfl, ixN_nat (by omega) (by simpa using hpl), ?_⟩))))
  refine wgs_cons (wg_subl (wt_var rfl (wt_var rfl ⟨0, l, _, _, other.toNat, rfl, rfl, rfl, ixN_nat (by omega) (by simpa using hot), wgs_nil ?_⟩)))
  have jo := join_ok (ys := (W.set place.toNat W[other.toNat]).set other.toNat W[place.toNat]) (fun y hy => by
    rcases mem_set_imp hy with z | z
    · subst z; exact hW _ (List.getElem_mem hpl)
    · rcases mem_set_imp z with z | z
      · subst z; exact hW _ (List.getElem_mem hot)
      · exact hW y z) (by simp; omega)
  refine ws_ret (wt_m1 (wt_str ⟨⟨_, rfl⟩, wt_var rfl (md_join (.inl (isL_own 0 (by rw [← List.map_set, ← List.map_set]; rfl))) jo.1 (fin _ _ _ (by omega) jo.2 rfl))⟩))
end

section
open TL
variable {cs : Cs}
theorem run__law_read : Runs (sp__law_read cs) N__law_read (t__law_read cs.K cs) := by
  rintro E ds m Ph Pc ⟨x, rfl, hp, k⟩
  unfold t__law_read
  show WS _ _ _ _ [some x, none, none] m
  have caught : ∀ {W' : WX} {y : D} {Ph' : PsiT}, Ph (.lst [y]) m → HM cs.K (fun cls fs _ m' => Pc cls fs m') { nx := fun r1 m1 => WS (fun cls d _ H' => E cls d H') (fun cls fs _ m' => Pc cls fs m') (tRet (tVar 1)) { nx := fun _ m' => Ph .non m', rt := Ph } r1 m1, rt := Ph }
      [(.ref cs.BadText, some 2, fun a cls d => (tAsg (tLst (tCons (tXf a cls d cs.BadText "line" (tVar 2)) tNil)) (gName 1)))] (.ref cs.BadText) [("line", y)] [some x, none, none] m := fun {W' y Ph'} q =>
    ⟨true, cs.xBadText, fun _ a dd => ws_asg (wt_lst (wa_cons (wt_xf (wt_var rfl ⟨rfl, by simp [List.lookup], wa_nil ⟨Nat.le_of_ble_eq_true rfl, wg_name (ws_ret (wt_var rfl q))⟩⟩)))), fun z => Bool.noConfusion z⟩
  refine ws_seq (ws_try fun W' => ws_asg (wt_call (wa_cons (wt_var rfl (wa_nil ⟨x, rfl, hp, fun t e => ⟨fun h e2 => ?_, fun e2 => ?_⟩, fun hx => ?_⟩))) rfl))
  · subst e
    have e3 : toldD (.str t) = hD h.1 h.2 := by simp [toldD, e2]
    rw [e3] at k
    exact wg_name (ws_ret (wt_var rfl k))
  · subst e
    have e3 : toldD (.str t) = .lst [.int 0] := by simp [toldD, e2]
    rw [e3] at k
    exact caught (W' := W') (Ph' := fun _ _ _ _ => True) k
  · have e3 : toldD x = .lst [.non] := by
      cases x <;> first | rfl | exact absurd rfl (hx _)
    rw [e3] at k
    exact caught (W' := W') (Ph' := fun _ _ _ _ => True) k
theorem run__law_refused : Runs (sp__law_refused cs) N__law_refused (t__law_refused cs.K cs) := by
  rintro E ds m Ph Pc ⟨v, x, rfl, hp, hf, k⟩
  unfold t__law_refused
  show WS _ _ _ _ [some v, none, none] m
  refine ws_seq (ws_try fun W' => ws_asg (wt_lst (wa_cons (wt_str (wa_cons (wt_call (wa_cons (wt_var rfl (wa_nil ⟨v, rfl, hp, fun e => ?_, fun y e => ?_⟩))) rfl))))))
  · rw [hf] at e
    have := D.tup.inj e
    cases this
  · rw [hf] at e
    have e2 := (List.cons.inj (D.tup.inj e)).1
    subst e2
    refine ⟨true, cs.xBadHouse, fun _ a dd => ws_asg (wt_lst (wa_cons (wt_str (wa_cons (wt_xf (wt_var rfl ⟨rfl, by simp [List.lookup], wa_nil ⟨Nat.le_of_ble_eq_true rfl, wg_name (ws_ret (wt_var rfl k))⟩⟩)))))), fun z => Bool.noConfusion z⟩
/-! ### a house's text, read -/
theorem joinL_ones : ∀ cl : List Nat, joinL [] (cl.map fun c => [48 + c]) = cl.map (48 + ·)
  | [] => rfl
  | [c] => rfl
  | a :: b :: r => by
    show [48 + a] ++ ([] ++ joinL [] ((b :: r).map fun c => [48 + c])) = _
    rw [joinL_ones (b :: r)]; rfl
theorem empty_tl : tl (Str.ofString "") = [] := by decide +kernel
theorem colS_tl {cl : List Nat} (h : ∀ c ∈ cl, c ≤ 9) : tl (colS cl) = cl.map (48 + ·) := by
  unfold colS
  rw [join_eq, tl_join, empty_tl, List.map_map, ← joinL_ones]
  congr 1
  refine List.map_congr_left fun c hc => ?_
  have := h c hc
  show tl (numS c) = _
  rw [numS, tl_num, numL_lt (by omega)]
theorem numC_numL {n : Nat} (h : n < 100) : numC (numL n) = some n := by
  by_cases h1 : n < 10
  · rw [numL_lt h1]
    have : dig (48 + n) = true := by simp [dig]; omega
    simp [numC, this]
  · rw [numL_two (by omega) h]
    have e1 : dig (48 + n / 10) = true := by simp [dig]; omega
    have e2 : dig (48 + n % 10) = true := by simp [dig]; omega
    have e3 : (48 + n / 10 == 48) = false := by simp; omega
    simp only [numC, e1, e2, e3]
    simp
    omega
theorem doorW_doorS {p : Nat × Nat} (h1 : p.1 < 100) (h2 : p.2 < 100) : doorW (doorS p) = some p := by
  unfold doorW doorS
  have e := partition_app (y := Str.ofString "-") (s := 45) (S := []) dash_tl (a := numS p.1) (b := numS p.2) (by rw [numS, tl_num]; exact numL_free (.inl (by decide)))
  rw [e]
  rw [if_neg (show ¬ (Str.ofString "-") = Str.empty by decide +kernel)]
  show (match numC (tl (numS p.1)), numC (tl (numS p.2)) with | some a, some b => some (a, b) | _, _ => none) = _
  rw [numS, numS, tl_num, tl_num, numC_numL h1, numC_numL h2]
theorem allSome_map {dl : List (Nat × Nat)} (h : ∀ p ∈ dl, p.1 < 100 ∧ p.2 < 100) : allSome ((dl.map doorS).map doorW) = some dl := by
  induction dl with
  | nil => rfl
  | cons p r ih =>
    rw [List.map_cons, List.map_cons, doorW_doorS (h p List.mem_cons_self).1 (h p List.mem_cons_self).2]
    simp only [allSome]
    rw [ih fun q hq => h q (List.mem_cons_of_mem _ hq)]
theorem read_text {cl : List Nat} {dl : List (Nat × Nat)} (hs : SmallH cl dl) (hv : validH cl dl = true) : readS (textS cl dl) = some (cl, dl) := by
  obtain ⟨h1, h2, h3, h4⟩ := hs
  have hsp : Txt.split (textS cl dl) " " = (colS cl ++ ":") :: dl.map doorS := by
    rw [textS_eq]
    refine split_join (y := Str.ofString " ") (s := 32) (S := []) space_tl (by decide +kernel) (by simp) fun p hp => ?_
    rcases List.mem_cons.mp hp with e | e
    · subst e
      rw [tl_append, colS_tl h2, show tl (Str.ofString ":") = [58] from colon_tl]
      simp
      intro c _; omega
    · obtain ⟨q, hq, rfl⟩ := List.mem_map.mp e
      rw [doorS, tl_append, tl_append, dash_tl, numS, numS, tl_num, tl_num]
      simp
      exact ⟨numL_free (.inl (by decide)), numL_free (.inl (by decide))⟩
  rw [readS_w hsp]
  have ew : (colS cl ++ Str.ofString ":").cps.toList = cl.map (48 + ·) ++ [58] := by
    show tl (colS cl ++ Str.ofString ":") = _
    rw [tl_append, colS_tl h2, show tl (Str.ofString ":") = [58] from colon_tl]
  have ed : (colS cl ++ Str.ofString ":").cps.toList.dropLast = cl.map (48 + ·) := by rw [ew]; simp
  have em : ((cl.map (48 + ·)).map fun c => c - 48) = cl := by
    rw [List.map_map]
    refine (List.map_congr_left fun c _ => ?_).trans (List.map_id cl)
    show 48 + c - 48 = c
    omega
  rw [readW_4 (dl := dl) (by rw [ew]; simp) (by
    rw [ed, List.all_map]
    refine List.all_eq_true.mpr fun c hc => ?_
    have := h2 c hc
    simp [dig]; omega) (allSome_map h4), ed, em, if_pos hv]
theorem valid_small {cl : List Nat} {dl : List (Nat × Nat)} (hv : validH cl dl = true) (h : dl.length ≤ 2000) : SmallH cl dl := by
  unfold validH at hv
  rw [Bool.and_eq_true, Bool.and_eq_true, decide_eq_true_eq] at hv
  obtain ⟨⟨h1, h2⟩, h3⟩ := hv
  have bd : ∀ (n : Nat) (dl : List (Nat × Nat)) (prev : Option (Nat × Nat)), doorsOk n prev dl = true → ∀ p ∈ dl, p.1 < n ∧ p.2 < n := by
    intro n dl
    induction dl with
    | nil => intro _ _ p hp; cases hp
    | cons q r ih =>
      intro prev hd p hp
      have hd' : okNext n prev q = true ∧ doorsOk n (some q) r = true := by
        have e : doorsOk n prev (q :: r) = (okNext n prev q && doorsOk n (some q) r) := by cases prev <;> simp [doorsOk, okNext]
        rw [e, Bool.and_eq_true] at hd
        exact hd
      rcases List.mem_cons.mp hp with e | e
      · subst e
        have := hd'.1
        simp [okNext] at this
        omega
      · exact ih _ hd'.2 p e
  refine ⟨h1, fun c hc => by simpa using List.all_eq_true.mp h2 c hc, h, fun p hp => ?_⟩
  have := bd _ _ _ h3 p hp
  omega
theorem great_eq : (Txt.mul "7" 60 ++ Str.ofString ": 0-59 57-59 58-59") = textS (List.replicate 60 7) [(0, 59), (57, 59), (58, 59)] := by decide +kernel
theorem long_eq : readS (Txt.mul "7" 61 ++ Str.ofString ":") = none := by decide +kernel
theorem empty_eq : readS (Str.ofString "") = none := by decide +kernel
theorem colon_eq : readS (Str.ofString ":") = some ([], []) := by decide +kernel
theorem great_valid : validH (List.replicate 60 7) [(0, 59), (57, 59), (58, 59)] = true := by decide +kernel
end

section
open TL
variable {cs : Cs}
theorem shals_ints : ∀ (l : List Nat) (n : Nat), D.shals (l.map fun (c : Nat) => D.int (c : Int)) n = true
  | [], n => by simp [D.shals]
  | x :: l, n => by
    rw [List.map_cons, D.shals, shals_ints l n, Bool.and_true]
    cases n <;> rfl
theorem shals_doors : ∀ (l : List (Nat × Nat)) (n : Nat), D.shals (l.map doorD) (n + 1) = true
  | [], n => by simp [D.shals]
  | x :: l, n => by
    rw [List.map_cons, D.shals, shals_doors l n, Bool.and_true]
    cases n <;> rfl
theorem shal_house (cl : List Nat) (dl : List (Nat × Nat)) (n : Nat) : (hD cl dl).shal (n + 3) = true := by
  have e1 := shals_ints cl (n + 1)
  have e2 : D.shals (dl.map fun (p : Nat × Nat) => D.tup [.int (p.1 : Int), .int (p.2 : Int)]) (n + 1) = true := shals_doors dl n
  unfold hD
  simp [D.shal, D.shals, e1, e2]
theorem allSome_len {α : Type} : ∀ {l : List (Option α)} {r : List α}, allSome l = some r → r.length = l.length
  | [], r, h => by cases h; rfl
  | none :: l, r, h => by cases h
  | some x :: l, r, h => by
    cases e : allSome l with
    | none => simp [allSome, e] at h
    | some r' =>
      simp [allSome, e] at h
      subst h
      simp [allSome_len e]
theorem readS_pl {z : Str} {h : List Nat × List (Nat × Nat)} (e : readS z = some h) (hz : z.length ≤ 1000000) : (hD h.1 h.2).pl = true := by
  cases hW : Txt.split z (Str.ofString " ") with
  | nil => exact absurd hW (split_ne z)
  | cons w ws =>
    have hsl := split_le z (Str.ofString " ")
    rw [hW] at hsl
    simp at hsl
    rw [readS_w hW] at e
    by_cases h1 : w.cps.toList.getLast? = some 58
    · cases h2 : w.cps.toList.dropLast.all dig with
      | false => rw [readW_2 h2] at e; cases e
      | true =>
        cases h3 : allSome (ws.map doorW) with
        | none => rw [readW_3 h3] at e; cases e
        | some dl =>
          rw [readW_4 h1 h2 h3] at e
          have hl := allSome_len h3
          rw [List.length_map] at hl
          by_cases hv : validH (w.cps.toList.dropLast.map fun c => c - 48) dl = true
          · rw [if_pos hv] at e
            cases e
            unfold validH at hv
            rw [Bool.and_eq_true, Bool.and_eq_true, decide_eq_true_eq] at hv
            exact pl_house (by show (List.map _ _).length ≤ _; omega) (by show dl.length ≤ _; omega)
          · rw [if_neg hv] at e; cases e
    · rw [readW_1 h1] at e; cases e
theorem text_small {cl : List Nat} {dl : List (Nat × Nat)} (hs : SmallH cl dl) (h1 : cl.length ≤ 15) (h2 : dl.length ≤ 105) : (textS cl dl).length ≤ 700 := by
  obtain ⟨_, k2, _, k4⟩ := hs
  have j := join_len " " ((colS cl ++ ":") :: dl.map doorS)
  have c := colS_len k2
  have h5 := sum_le (b := 5) (ys := dl.map doorS) fun y hy => by
    obtain ⟨p, hp, rfl⟩ := List.mem_map.mp hy
    exact doorS_len (k4 p hp).1 (k4 p hp).2
  rw [List.length_map] at h5
  rw [space_len, List.map_cons, List.sum_cons, List.length_cons, List.length_map, str_app_len, colon_len] at j
  rw [textS_eq]
  omega
theorem run_law : Runs (sp_law cs) N_law (t_law cs.K cs) := by
  rintro E ds m Ph Pc ⟨a, ns, rfl, hl, rfl, kk⟩
  unfold t_law
  show WS _ _ _ _ [some (.scr cs.K a ns), none, none, none, none, none, none, none, none, none] []
  refine ws_seq (ws_asg (wt_call (wa_cons (wt_var rfl (wa_nil ⟨a, ns, rfl, hl, rfl, fun g ac ag => ?_⟩))) rfl))
  refine wg_name (ws_seq (ws_for (wi_rng1 (wa_cons (wt_int (wa_nil ⟨3, rfl, by decide, by decide, ?_⟩))))))
  refine ⟨fun i r' m' => ∃ q u2 u3 u4 u5 u6 u7, r' = [some (.scr cs.K a ns), some (.ref g), u2, u3, u4, u5, u6, u7, none, none] ∧ m' = [(g, MO.gen ac ag q)] ∧ q ≤ 1000 * i, ⟨0, _, _, _, _, _, _, rfl, rfl, Nat.zero_le _⟩, ?_, ?_⟩
  · rintro i d r' m' hd ⟨q, u2, u3, u4, u5, u6, u7, rfl, rfl, hq⟩
    obtain ⟨h3, rfl⟩ := rngD_get hd
    have h3' : i < 3 := h3
    refine wg_name (ws_seq (ws_asg (wt_call (wa_cons (wt_var rfl (wa_cons (wt_drawc rfl (wt_int ⟨ac, ag, 0, q, 15, rfl, rfl, by decide, by decide, by omega, fun r hr1 hr2 => ?_⟩))))) rfl)))
    obtain ⟨rooms, rfl⟩ : ∃ n : Nat, r = n := ⟨r.toNat, by omega⟩
    refine wa_cons (wt_int (wa_nil ⟨g, ac, ag, 0, q + 1, rooms, 10, rfl, rfl, by omega, by decide, by decide, by omega, fun cl dl hc1 hc2 hdk hdl => ?_⟩))
    have hv : validH cl dl = true := by
      unfold validH
      rw [hc1, hdk, decide_eq_true (by omega)]
      simp
      exact fun c hc => by have := hc2 c hc; omega
    have hs := valid_small hv (by omega)
    have hpl := pl_house (cl := cl) (dl := dl) (by omega) (by omega)
    have hf := (fault_valid cl dl).mpr hv
    have hnf : ∀ {x : D}, faultD (hD cl dl) 60 = .tup [x] → False := fun {x} e => by rw [hf] at e; cases D.tup.inj e
    have htl := text_small hs (by omega) hdl
    have hrt := read_text hs hv
    have hts : (D.str (textS cl dl)).pl = true := by simp [D.pl]; omega
    refine wg_name (ws_seq (ws_asg (wt_call (wa_cons (wt_var rfl (wa_nil ⟨cl, dl, rfl, hs, ?_⟩))) rfl)))
    refine wg_name (ws_seq (ws_if (wb_not (wb_B (wt_call (wa_cons (wt_lst ?_)) rfl)))))
    refine wa_cons (wt_call (wa_cons (wt_var rfl (wa_nil ⟨hD cl dl, rfl, hpl, fun _ => ⟨cl, dl, rfl, hs, ?_⟩, fun x e => (hnf e).elim⟩))) rfl)
    refine wa_cons (wt_call (wa_cons (wt_var rfl (wa_nil ⟨.str (textS cl dl), rfl, hts, fun t e => ⟨fun h e2 => ?_, fun e2 => ?_⟩, fun hx => absurd rfl (hx _)⟩))) rfl)
    rotate_left
    · cases e; rw [hrt] at e2; cases e2
    cases e
    rw [hrt] at e2
    cases e2
    refine wa_cons (wt_ck (wa_nil (wa_cons (wt_var rfl (wa_nil ⟨hD cl dl, rfl, hpl, fun _ => ⟨cl, dl, rfl, hs, ?_⟩, fun x e => (hnf e).elim⟩)))))
    refine wa_cons (wt_ck (wa_nil (wa_cons (wt_var rfl (wa_nil ⟨.str (textS cl dl), rfl, hts, fun t e => ⟨fun h e2 => ?_, fun e2 => ?_⟩, fun hx => absurd rfl (hx _)⟩)))))
    rotate_left
    · cases e; rw [hrt] at e2; cases e2
    cases e
    rw [hrt] at e2
    cases e2
    refine wa_nil ⟨Nat.le_of_ble_eq_true rfl, ?_⟩
    refine wa_cons (wt_lst ?_)
    refine wa_cons (wt_var rfl (wa_cons (wt_var rfl (wa_cons (wt_var rfl (wa_cons (wt_var rfl ?_)))))))
    refine wa_nil ⟨Nat.le_of_ble_eq_true rfl, wa_nil ?_⟩
    refine ⟨.lst [.str (textS cl dl), hD cl dl, .str (textS cl dl), hD cl dl], rfl, ?_, ?_, ?_⟩
    · simp [D.pl, D.pls, hpl, hts]; omega
    · have := shal_house cl dl 1
      simp [D.shal, D.shals, this]
    refine ⟨_, rfl, fun z => Bool.noConfusion z, fun _ => ws_next ?_⟩
    refine ws_for (wi_rng1 (wa_cons (wt_int (wa_nil ⟨8, rfl, by decide, by decide, ?_⟩))))
    refine ⟨fun j r' m' => ∃ q' u5 u6 u7, r' = [some (.scr cs.K a ns), some (.ref g), some (.int (0 + (i : Nat))), some (hD cl dl), some (.str (textS cl dl)), u5, u6, u7, none, none] ∧ m' = [(g, MO.gen ac ag q')] ∧ q' ≤ q + 301 + 5 * j, ⟨q + 301, _, _, _, rfl, rfl, by omega⟩, ?_, ?_⟩
    · rintro j d r' m' hd2 ⟨q', u5, u6, u7, rfl, rfl, hq'⟩
      obtain ⟨h4, rfl⟩ := rngD_get hd2
      have h4' : j < 8 := h4
      refine wg_name (ws_seq (ws_asg (wt_call (wa_cons (wt_var rfl (wa_cons (wt_var rfl (wa_nil ⟨g, ac, ag, 0, q', textS cl dl, rfl, rfl, htl, by omega, fun z hz => ?_⟩))))) rfl)))
      have hzp : (D.str z).pl = true := by simp [D.pl]; omega
      refine wg_name (ws_seq (ws_asg (wt_call (wa_cons (wt_var rfl (wa_nil ⟨z, rfl, hz, ?_⟩))) rfl)))
      refine wg_name (ws_if (wb_not (wb_B (wt_call (wa_cons (wt_call (wa_cons (wt_var rfl (wa_nil ⟨.str z, rfl, hzp, ?_⟩))) rfl)) rfl))))
      refine wa_cons (wt_if (wb_test (wt_op (wt_var rfl (wt_non (od_is ?_))))))
      cases er : readS z with
      | none =>
        refine ⟨_, rfl, fun _ => wt_lst (wa_cons (wt_int (wa_nil ⟨Nat.le_of_ble_eq_true rfl, wa_nil ?_⟩))), fun z => Bool.noConfusion z⟩
        refine ⟨.lst [.int 0], by simp [toldD, er], rfl, rfl, ?_⟩
        exact ⟨_, rfl, fun z => Bool.noConfusion z, fun _ => ws_next ⟨q' + 5, _, _, _, rfl, rfl, by omega⟩⟩
      | some h =>
        refine ⟨_, rfl, fun z => Bool.noConfusion z, fun _ => wt_var (d := hD h.1 h.2) rfl (wa_nil ?_)⟩
        refine ⟨hD h.1 h.2, by simp [toldD, er], readS_pl er hz, shal_house _ _ 2, ?_⟩
        exact ⟨_, rfl, fun z => Bool.noConfusion z, fun _ => ws_next ⟨q' + 5, _, _, _, rfl, rfl, by omega⟩⟩
    · rintro r' m' ⟨q', u5, u6, u7, rfl, rfl, hq'⟩
      rw [rngD_len] at hq'
      have hq'' : q' ≤ q + 301 + 5 * 8 := hq'
      exact ⟨q', _, _, _, _, _, _, rfl, rfl, by omega⟩
  · rintro r' m' ⟨q, u2, u3, u4, u5, u6, u7, rfl, rfl, hq⟩
    refine ws_seq (ws_asg (wt_op (wt_op (wt_str (wt_int (od_reps ⟨by decide, fun _ _ => by decide +kernel, fun _ _ => by decide +kernel⟩ (wt_str (od_adds (by decide +kernel) ?_))))))))
    rw [great_eq]
    have hsg := valid_small great_valid (by decide)
    have hgr := read_text hsg great_valid
    have gl := textS_len hsg
    refine wg_name (ws_seq (ws_asg (wt_lst ?_)))
    refine wa_cons (wt_op (wt_call (wa_cons (wt_var rfl (wa_nil ⟨_, rfl, (by rw [D.pl]; exact decide_eq_true (Nat.le_trans gl (by decide))), ?_⟩))) rfl))
    rw [show toldD (.str (textS (List.replicate 60 7) [(0, 59), (57, 59), (58, 59)])) = hD (List.replicate 60 7) [(0, 59), (57, 59), (58, 59)] from by simp only [toldD, hgr]]
    refine wt_int (od_ixt (d := .tup ((List.replicate 60 7).map fun (c : Nat) => D.int (c : Int))) rfl ?_)
    refine wa_cons (wt_call (wa_cons (wt_op (wt_op (wt_str (wt_int (od_reps ⟨by decide, fun _ _ => by decide +kernel, fun _ _ => by decide +kernel⟩ (wt_str (od_adds (by decide +kernel) (wa_nil ⟨_, rfl, by decide +kernel, ?_⟩))))))))) rfl)
    rw [show toldD (.str (Txt.mul "7" 61 ++ Str.ofString ":")) = .lst [.int 0] from by simp only [toldD, long_eq]]
    refine wa_cons (wt_call (wa_cons (wt_non (wa_nil ⟨.non, rfl, rfl, ?_⟩))) rfl)
    refine wa_cons (wt_call (wa_cons (wt_int (wa_nil ⟨.int 5, rfl, rfl, ?_⟩))) rfl)
    refine wa_cons (wt_call (wa_cons (wt_lst (wa_nil ⟨Nat.le_of_ble_eq_true rfl, wa_nil ⟨.lst [], rfl, rfl, ?_⟩⟩))) rfl)
    refine wa_cons (wt_call (wa_cons (wt_str (wa_nil ⟨_, rfl, by decide +kernel, ?_⟩))) rfl)
    rw [show toldD (.str (Str.ofString "")) = .lst [.int 0] from by simp only [toldD, empty_eq]]
    refine wa_cons (wt_call (wa_cons (wt_str (wa_nil ⟨_, rfl, by decide +kernel, ?_⟩))) rfl)
    rw [show toldD (.str (Str.ofString ":")) = hD [] [] from by simp only [toldD, colon_eq]]
    refine wa_nil ⟨Nat.le_of_ble_eq_true rfl, wg_name (ws_seq (ws_asg (wt_lst ?_)))⟩
    refine wa_cons (wt_op (wt_tup (wa_cons (wt_int (wa_nil ⟨Nat.le_of_ble_eq_true rfl, wt_int (od_rept (by simp) (by decide) (by decide) (by simp) ?_)⟩)))))
    refine wa_cons (wt_lst (wa_cons (wt_int (wa_nil ⟨Nat.le_of_ble_eq_true rfl, ?_⟩))))
    refine wa_cons (wt_lst (wa_cons (wt_non (wa_nil ⟨Nat.le_of_ble_eq_true rfl, ?_⟩))))
    refine wa_cons (wt_lst (wa_cons (wt_non (wa_nil ⟨Nat.le_of_ble_eq_true rfl, ?_⟩))))
    refine wa_cons (wt_lst (wa_cons (wt_non (wa_nil ⟨Nat.le_of_ble_eq_true rfl, ?_⟩))))
    refine wa_cons (wt_lst (wa_cons (wt_int (wa_nil ⟨Nat.le_of_ble_eq_true rfl, ?_⟩))))
    refine wa_cons (wt_tup (wa_cons (wt_tup (wa_nil ⟨Nat.le_of_ble_eq_true rfl, wa_cons (wt_tup (wa_nil ⟨Nat.le_of_ble_eq_true rfl, wa_nil ⟨Nat.le_of_ble_eq_true rfl, wa_nil ⟨Nat.le_of_ble_eq_true rfl, ?_⟩⟩⟩))⟩))))
    refine wg_name (ws_ret (wt_and (wt_call (wa_cons (wt_var rfl (wa_cons (wt_var rfl (wa_nil ⟨_, rfl, by decide +kernel, by decide +kernel, ?_⟩))))) rfl)))
    refine ⟨true, rfl, fun _ => ?_, fun z => Bool.noConfusion z⟩
    refine wt_call (wa_cons (wt_lst ?_)) rfl
    refine wa_cons (wt_call (wa_cons (wt_non (wa_nil ⟨.non, .str "form", rfl, rfl, rfl, ?_⟩))) rfl)
    refine wa_cons (wt_call (wa_cons (wt_tup ?_)) rfl)
    refine wa_cons (wt_tup (wa_cons (wt_int (wa_nil ⟨Nat.le_of_ble_eq_true rfl, ?_⟩))))
    refine wa_cons (wt_tup (wa_nil ⟨Nat.le_of_ble_eq_true rfl, wa_nil ⟨Nat.le_of_ble_eq_true rfl, wa_nil ⟨_, .str "colours", rfl, by decide +kernel, rfl, ?_⟩⟩⟩))
    refine wa_nil ⟨Nat.le_of_ble_eq_true rfl, wa_cons (wt_lst ?_)⟩
    refine wa_cons (wt_lst (wa_cons (wt_str (wa_cons (wt_str (wa_nil ⟨Nat.le_of_ble_eq_true rfl, ?_⟩))))))
    refine wa_cons (wt_lst (wa_cons (wt_str (wa_cons (wt_str (wa_nil ⟨Nat.le_of_ble_eq_true rfl, wa_nil ⟨Nat.le_of_ble_eq_true rfl, wa_nil ?_⟩⟩))))))
    exact ⟨_, rfl, by decide +kernel, by decide +kernel, kk _⟩
end
end Dz
namespace Dz
open PySem PySem.Spec PyProof.Rows L2
section
variable {P : Program} {w : World} {mg : Str → Option Value} {base : Heap} {cs : Cs}
theorem okd_is_number {f : Addr} {fd : FuncData} (n_bool : mg "bool" = none) (n_int : mg "int" = none) (n_isinstance : mg "isinstance" = none) (F : FunD cs.K "is_number" "is_number" (defArgs st_is_number) (defBody st_is_number) (defScope st_is_number) [.non] [] f fd) (gm : mg "is_number" = some (.ref f)) : GF P w cs.K mg base "is_number" ps_is_number 3 (sp_is_number cs) f fd :=
  ⟨okD (k := 2) F sc_is_number (fun ds m Ph Pc h => by (repeat (first | (obtain ⟨h1, _⟩ := h; subst h1; rfl) | (obtain ⟨_, h⟩ := h)))) run_is_number (fun cdv A outer s H E hr => pss_is_number (K := cs.K) (fd := fd) (n_bool := n_bool) (n_int := n_int) (n_isinstance := n_isinstance) hr), gm, F.kp⟩
theorem okd_is_row {f : Addr} {fd : FuncData} (n_isinstance : mg "isinstance" = none) (n_len : mg "len" = none) (n_tuple : mg "tuple" = none) (F : FunD cs.K "is_row" "is_row" (defArgs st_is_row) (defBody st_is_row) (defScope st_is_row) [.non] [] f fd) (gm : mg "is_row" = some (.ref f)) : GF P w cs.K mg base "is_row" ps_is_row 3 (sp_is_row cs) f fd :=
  ⟨okD (k := 2) F sc_is_row (fun ds m Ph Pc h => by (repeat (first | (obtain ⟨h1, _⟩ := h; subst h1; rfl) | (obtain ⟨_, h⟩ := h)))) run_is_row (fun cdv A outer s H E hr => pss_is_row (K := cs.K) (fd := fd) (n_isinstance := n_isinstance) (n_len := n_len) (n_tuple := n_tuple) hr), gm, F.kp⟩
theorem okd_are_numbers {f : Addr} {fd : FuncData} {f_is_number : Addr} {fd_is_number : FuncData} (g_is_number : GF P w cs.K mg base "is_number" ps_is_number 3 (sp_is_number cs) f_is_number fd_is_number) {f_is_row : Addr} {fd_is_row : FuncData} (g_is_row : GF P w cs.K mg base "is_row" ps_is_row 3 (sp_is_row cs) f_is_row fd_is_row) (n_all : mg "all" = none) (b_is_number_3 : Bd cs.K fd_is_number ps_is_number []) (b_is_row_1 : Bd cs.K fd_is_row ps_is_row [.non]) (F : FunD cs.K "are_numbers" "are_numbers" (defArgs st_are_numbers) (defBody st_are_numbers) (defScope st_are_numbers) [.int 0] [] f fd) (gm : mg "are_numbers" = some (.ref f)) : GF P w cs.K mg base "are_numbers" ps_are_numbers 4 (sp_are_numbers cs) f fd :=
  ⟨okD (k := 3) F sc_are_numbers (fun ds m Ph Pc h => by (repeat (first | (obtain ⟨h1, _⟩ := h; subst h1; rfl) | (obtain ⟨_, h⟩ := h)))) run_are_numbers (fun cdv A outer s H E hr => pss_are_numbers (K := cs.K) (fd := fd) (g_is_number := g_is_number) (g_is_row := g_is_row) (n_all := n_all) (b_is_number_3 := b_is_number_3) (b_is_row_1 := b_is_row_1) hr), gm, F.kp⟩
theorem okd_is_door {f : Addr} {fd : FuncData} {f_is_number : Addr} {fd_is_number : FuncData} (g_is_number : GF P w cs.K mg base "is_number" ps_is_number 3 (sp_is_number cs) f_is_number fd_is_number) {f_is_row : Addr} {fd_is_row : FuncData} (g_is_row : GF P w cs.K mg base "is_row" ps_is_row 3 (sp_is_row cs) f_is_row fd_is_row) (b_is_number_2 : Bd cs.K fd_is_number ps_is_number [.non]) (b_is_number_3 : Bd cs.K fd_is_number ps_is_number []) (b_is_row_2 : Bd cs.K fd_is_row ps_is_row []) (F : FunD cs.K "is_door" "is_door" (defArgs st_is_door) (defBody st_is_door) (defScope st_is_door) [] [] f fd) (gm : mg "is_door" = some (.ref f)) : GF P w cs.K mg base "is_door" ps_is_door 4 (sp_is_door cs) f fd :=
  ⟨okD (k := 3) F sc_is_door (fun ds m Ph Pc h => by (repeat (first | (obtain ⟨h1, _⟩ := h; subst h1; rfl) | (obtain ⟨_, h⟩ := h)))) run_is_door (fun cdv A outer s H E hr => pss_is_door (K := cs.K) (fd := fd) (g_is_number := g_is_number) (g_is_row := g_is_row) (b_is_number_2 := b_is_number_2) (b_is_number_3 := b_is_number_3) (b_is_row_2 := b_is_row_2) hr), gm, F.kp⟩
theorem okd_house_fault {f : Addr} {fd : FuncData} {tk_MOST_COLOUR : Tok} (k_MOST_COLOUR : mg "MOST_COLOUR" = some (.int 9 tk_MOST_COLOUR)) {f_are_numbers : Addr} {fd_are_numbers : FuncData} (g_are_numbers : GF P w cs.K mg base "are_numbers" ps_are_numbers 4 (sp_are_numbers cs) f_are_numbers fd_are_numbers) {f_is_door : Addr} {fd_is_door : FuncData} (g_is_door : GF P w cs.K mg base "is_door" ps_is_door 4 (sp_is_door cs) f_is_door fd_is_door) {f_is_row : Addr} {fd_is_row : FuncData} (g_is_row : GF P w cs.K mg base "is_row" ps_is_row 3 (sp_is_row cs) f_is_row fd_is_row) (n_enumerate : mg "enumerate" = none) (n_len : mg "len" = none) (b_are_numbers_2 : Bd cs.K fd_are_numbers ps_are_numbers [.int 0]) (b_is_door_2 : Bd cs.K fd_is_door ps_is_door []) (b_is_row_1 : Bd cs.K fd_is_row ps_is_row [.non]) (b_is_row_2 : Bd cs.K fd_is_row ps_is_row []) (F : FunD cs.K "house_fault" "house_fault" (defArgs st_house_fault) (defBody st_house_fault) (defScope st_house_fault) [] [] f fd) (gm : mg "house_fault" = some (.ref f)) : GF P w cs.K mg base "house_fault" ps_house_fault 5 (sp_house_fault cs) f fd :=
  ⟨okD (k := 4) F sc_house_fault (fun ds m Ph Pc h => by (repeat (first | (obtain ⟨h1, _⟩ := h; subst h1; rfl) | (obtain ⟨_, h⟩ := h)))) run_house_fault (fun cdv A outer s H E hr => pss_house_fault (K := cs.K) (fd := fd) (k_MOST_COLOUR := k_MOST_COLOUR) (g_are_numbers := g_are_numbers) (g_is_door := g_is_door) (g_is_row := g_is_row) (n_enumerate := n_enumerate) (n_len := n_len) (b_are_numbers_2 := b_are_numbers_2) (b_is_door_2 := b_is_door_2) (b_is_row_1 := b_is_row_1) (b_is_row_2 := b_is_row_2) hr), gm, F.kp⟩
theorem okd_need_house {f : Addr} {fd : FuncData} {tk_MOST_ROOMS : Tok} (k_MOST_ROOMS : mg "MOST_ROOMS" = some (.int 60 tk_MOST_ROOMS)) {f_house_fault : Addr} {fd_house_fault : FuncData} (g_house_fault : GF P w cs.K mg base "house_fault" ps_house_fault 5 (sp_house_fault cs) f_house_fault fd_house_fault) (T_BadHouse : PySem.BadX.BadTxt P cs.K mg "BadHouse" "place" cs.BadHouse) (b_house_fault_2 : Bd cs.K fd_house_fault ps_house_fault []) (F : FunD cs.K "need_house" "need_house" (defArgs st_need_house) (defBody st_need_house) (defScope st_need_house) [] [] f fd) (gm : mg "need_house" = some (.ref f)) : GF P w cs.K mg base "need_house" ps_need_house 6 (sp_need_house cs) f fd :=
  ⟨okD (k := 5) F sc_need_house (fun ds m Ph Pc h => by (repeat (first | (obtain ⟨h1, _⟩ := h; subst h1; rfl) | (obtain ⟨_, h⟩ := h)))) run_need_house (fun cdv A outer s H E hr => pss_need_house (K := cs.K) (fd := fd) (k_MOST_ROOMS := k_MOST_ROOMS) (g_house_fault := g_house_fault) (T_BadHouse := T_BadHouse) (b_house_fault_2 := b_house_fault_2) hr), gm, F.kp⟩
theorem okd_house_text {f : Addr} {fd : FuncData} {f_need_house : Addr} {fd_need_house : FuncData} (g_need_house : GF P w cs.K mg base "need_house" ps_need_house 6 (sp_need_house cs) f_need_house fd_need_house) (n_str : mg "str" = none) (b_need_house_1 : Bd cs.K fd_need_house ps_need_house []) (F : FunD cs.K "house_text" "house_text" (defArgs st_house_text) (defBody st_house_text) (defScope st_house_text) [] [] f fd) (gm : mg "house_text" = some (.ref f)) : GF P w cs.K mg base "house_text" ps_house_text 7 (sp_house_text cs) f fd :=
  ⟨okD (k := 6) F sc_house_text (fun ds m Ph Pc h => by (repeat (first | (obtain ⟨h1, _⟩ := h; subst h1; rfl) | (obtain ⟨_, h⟩ := h)))) run_house_text (fun cdv A outer s H E hr => pss_house_text (K := cs.K) (fd := fd) (g_need_house := g_need_house) (n_str := n_str) (b_need_house_1 := b_need_house_1) hr), gm, F.kp⟩
theorem okd_number_of {f : Addr} {fd : FuncData} {tk_DIGITS : Tok} (k_DIGITS : mg "DIGITS" = some (.str "0123456789" tk_DIGITS)) (n_all : mg "all" = none) (n_int : mg "int" = none) (n_len : mg "len" = none) (F : FunD cs.K "number_of" "number_of" (defArgs st_number_of) (defBody st_number_of) (defScope st_number_of) [] [] f fd) (gm : mg "number_of" = some (.ref f)) : GF P w cs.K mg base "number_of" ps_number_of 3 (sp_number_of cs) f fd :=
  ⟨okD (k := 2) F sc_number_of (fun ds m Ph Pc h => by (repeat (first | (obtain ⟨h1, _⟩ := h; subst h1; rfl) | (obtain ⟨_, h⟩ := h)))) run_number_of (fun cdv A outer s H E hr => pss_number_of (K := cs.K) (fd := fd) (k_DIGITS := k_DIGITS) (n_all := n_all) (n_int := n_int) (n_len := n_len) hr), gm, F.kp⟩
theorem okd_read_door {f : Addr} {fd : FuncData} {f_number_of : Addr} {fd_number_of : FuncData} (g_number_of : GF P w cs.K mg base "number_of" ps_number_of 3 (sp_number_of cs) f_number_of fd_number_of) (b_number_of_1 : Bd cs.K fd_number_of ps_number_of []) (F : FunD cs.K "read_door" "read_door" (defArgs st_read_door) (defBody st_read_door) (defScope st_read_door) [] [] f fd) (gm : mg "read_door" = some (.ref f)) : GF P w cs.K mg base "read_door" ps_read_door 4 (sp_read_door cs) f fd :=
  ⟨okD (k := 3) F sc_read_door (fun ds m Ph Pc h => by (repeat (first | (obtain ⟨h1, _⟩ := h; subst h1; rfl) | (obtain ⟨_, h⟩ := h)))) run_read_door (fun cdv A outer s H E hr => pss_read_door (K := cs.K) (fd := fd) (g_number_of := g_number_of) (b_number_of_1 := b_number_of_1) hr), gm, F.kp⟩
theorem okd_read_house {f : Addr} {fd : FuncData} {tk_DIGITS : Tok} (k_DIGITS : mg "DIGITS" = some (.str "0123456789" tk_DIGITS)) {tk_MOST_ROOMS : Tok} (k_MOST_ROOMS : mg "MOST_ROOMS" = some (.int 60 tk_MOST_ROOMS)) {f_house_fault : Addr} {fd_house_fault : FuncData} (g_house_fault : GF P w cs.K mg base "house_fault" ps_house_fault 5 (sp_house_fault cs) f_house_fault fd_house_fault) {f_read_door : Addr} {fd_read_door : FuncData} (g_read_door : GF P w cs.K mg base "read_door" ps_read_door 4 (sp_read_door cs) f_read_door fd_read_door) (n_all : mg "all" = none) (n_int : mg "int" = none) (n_isinstance : mg "isinstance" = none) (n_str : mg "str" = none) (n_tuple : mg "tuple" = none) (T_BadText : PySem.BadX.BadTxt P cs.K mg "BadText" "line" cs.BadText) (b_house_fault_2 : Bd cs.K fd_house_fault ps_house_fault []) (b_read_door_1 : Bd cs.K fd_read_door ps_read_door []) (F : FunD cs.K "read_house" "read_house" (defArgs st_read_house) (defBody st_read_house) (defScope st_read_house) [] [] f fd) (gm : mg "read_house" = some (.ref f)) : GF P w cs.K mg base "read_house" ps_read_house 6 (sp_read_house cs) f fd :=
  ⟨okD (k := 5) F sc_read_house (fun ds m Ph Pc h => by (repeat (first | (obtain ⟨h1, _⟩ := h; subst h1; rfl) | (obtain ⟨_, h⟩ := h)))) run_read_house (fun cdv A outer s H E hr => pss_read_house (K := cs.K) (fd := fd) (k_DIGITS := k_DIGITS) (k_MOST_ROOMS := k_MOST_ROOMS) (g_house_fault := g_house_fault) (g_read_door := g_read_door) (n_all := n_all) (n_int := n_int) (n_isinstance := n_isinstance) (n_str := n_str) (n_tuple := n_tuple) (T_BadText := T_BadText) (b_house_fault_2 := b_house_fault_2) (b_read_door_1 := b_read_door_1) hr), gm, F.kp⟩
theorem okd__law_mixed {f : Addr} {fd : FuncData} (n_int : mg "int" = none) (F : FunD cs.K "_law_mixed" "_law_mixed" (defArgs st__law_mixed) (defBody st__law_mixed) (defScope st__law_mixed) [] [] f fd) (gm : mg "_law_mixed" = some (.ref f)) : GF P w cs.K mg base "_law_mixed" ps__law_mixed 3 (sp__law_mixed cs) f fd :=
  ⟨okD (k := 2) F sc__law_mixed (fun ds m Ph Pc h => by (repeat (first | (obtain ⟨h1, _⟩ := h; subst h1; rfl) | (obtain ⟨_, h⟩ := h)))) run__law_mixed (fun cdv A outer s H E hr => pss__law_mixed (K := cs.K) (fd := fd) (n_int := n_int) hr), gm, F.kp⟩
theorem okd__law_folded {f : Addr} {fd : FuncData} (n_enumerate : mg "enumerate" = none) (n_int : mg "int" = none) (n_range : mg "range" = none) (F : FunD cs.K "_law_folded" "_law_folded" (defArgs st__law_folded) (defBody st__law_folded) (defScope st__law_folded) [] [] f fd) (gm : mg "_law_folded" = some (.ref f)) : GF P w cs.K mg base "_law_folded" ps__law_folded 3 (sp__law_folded cs) f fd :=
  ⟨okD (k := 2) F sc__law_folded (fun ds m Ph Pc h => by (repeat (first | (obtain ⟨h1, _⟩ := h; subst h1; rfl) | (obtain ⟨_, h⟩ := h)))) run__law_folded (fun cdv A outer s H E hr => pss__law_folded (K := cs.K) (fd := fd) (n_enumerate := n_enumerate) (n_int := n_int) (n_range := n_range) hr), gm, F.kp⟩
theorem okd__law_draw {f : Addr} {fd : FuncData} {f__law_mixed : Addr} {fd__law_mixed : FuncData} (g__law_mixed : GF P w cs.K mg base "_law_mixed" ps__law_mixed 3 (sp__law_mixed cs) f__law_mixed fd__law_mixed) (n_int : mg "int" = none) (n_len : mg "len" = none) (b__law_mixed_2 : Bd cs.K fd__law_mixed ps__law_mixed []) (F : FunD cs.K "_law_draw" "_law_draw" (defArgs st__law_draw) (defBody st__law_draw) (defScope st__law_draw) [] [] f fd) (gm : mg "_law_draw" = some (.ref f)) : GF P w cs.K mg base "_law_draw" ps__law_draw 4 (sp__law_draw cs) f fd :=
  ⟨okD (k := 3) F sc__law_draw (fun ds m Ph Pc h => by (repeat (first | (obtain ⟨h1, _⟩ := h; subst h1; rfl) | (obtain ⟨_, h⟩ := h)))) run__law_draw (fun cdv A outer s H E hr => pss__law_draw (K := cs.K) (fd := fd) (g__law_mixed := g__law_mixed) (n_int := n_int) (n_len := n_len) (b__law_mixed_2 := b__law_mixed_2) hr), gm, F.kp⟩
theorem okd__law_begun {f : Addr} {fd : FuncData} {f__law_folded : Addr} {fd__law_folded : FuncData} (g__law_folded : GF P w cs.K mg base "_law_folded" ps__law_folded 3 (sp__law_folded cs) f__law_folded fd__law_folded) (b__law_folded_1 : Bd cs.K fd__law_folded ps__law_folded []) (F : FunD cs.K "_law_begun" "_law_begun" (defArgs st__law_begun) (defBody st__law_begun) (defScope st__law_begun) [] [] f fd) (gm : mg "_law_begun" = some (.ref f)) : GF P w cs.K mg base "_law_begun" ps__law_begun 4 (sp__law_begun cs) f fd :=
  ⟨okD (k := 3) F sc__law_begun (fun ds m Ph Pc h => by (repeat (first | (obtain ⟨h1, _⟩ := h; subst h1; rfl) | (obtain ⟨_, h⟩ := h)))) run__law_begun (fun cdv A outer s H E hr => pss__law_begun (K := cs.K) (fd := fd) (g__law_folded := g__law_folded) (b__law_folded_1 := b__law_folded_1) hr), gm, F.kp⟩
theorem okd__law_of {f : Addr} {fd : FuncData} {f__law_draw : Addr} {fd__law_draw : FuncData} (g__law_draw : GF P w cs.K mg base "_law_draw" ps__law_draw 4 (sp__law_draw cs) f__law_draw fd__law_draw) (n_len : mg "len" = none) (b__law_draw_2 : Bd cs.K fd__law_draw ps__law_draw []) (F : FunD cs.K "_law_of" "_law_of" (defArgs st__law_of) (defBody st__law_of) (defScope st__law_of) [] [] f fd) (gm : mg "_law_of" = some (.ref f)) : GF P w cs.K mg base "_law_of" ps__law_of 5 (sp__law_of cs) f fd :=
  ⟨okD (k := 4) F sc__law_of (fun ds m Ph Pc h => by (repeat (first | (obtain ⟨h1, _⟩ := h; subst h1; rfl) | (obtain ⟨_, h⟩ := h)))) run__law_of (fun cdv A outer s H E hr => pss__law_of (K := cs.K) (fd := fd) (g__law_draw := g__law_draw) (n_len := n_len) (b__law_draw_2 := b__law_draw_2) hr), gm, F.kp⟩
theorem okr__law_like {f : Addr} {fd : FuncData} (n_bool : mg "bool" = none) (n_int : mg "int" = none) (n_isinstance : mg "isinstance" = none) (n_len : mg "len" = none) (n_list : mg "list" = none) (n_range : mg "range" = none) (n_str : mg "str" = none) (n_tuple : mg "tuple" = none) (b__law_like_2 : Bd cs.K fd ps__law_like []) (F : FunD cs.K "_law_like" "_law_like" (defArgs st__law_like) (defBody st__law_like) (defScope st__law_like) [] [] f fd) (gm : mg "_law_like" = some (.ref f)) : ∀ n : Nat, GF P w cs.K mg base "_law_like" ps__law_like (3 + n) (sp__law_like cs n) f fd
  | 0 => ⟨⟨fun vs H Q E ⟨ds, m, Ph, Ps, _, _, h, _⟩ => h.elim, fun A outer s H args us vs Q E hr he hb hv ⟨ds, m, Ph, Ps, _, _, h, _⟩ => h.elim⟩, gm, F.kp⟩
  | n + 1 => ⟨okD (k := 3 + n) F sc__law_like (fun ds m Ph Pc h => by (repeat (first | (obtain ⟨h1, _⟩ := h; subst h1; rfl) | (obtain ⟨_, h⟩ := h)))) (run__law_like n) (fun cdv A outer s H E hr => pss__law_like (K := cs.K) (fd := fd) (k0 := 3 + n) (kself := 3 + n) (n_bool := n_bool) (n_int := n_int) (n_isinstance := n_isinstance) (n_len := n_len) (n_list := n_list) (n_range := n_range) (n_str := n_str) (n_tuple := n_tuple) (b__law_like_2 := b__law_like_2) (Nat.le_refl _) (okr__law_like (n_bool := n_bool) (n_int := n_int) (n_isinstance := n_isinstance) (n_len := n_len) (n_list := n_list) (n_range := n_range) (n_str := n_str) (n_tuple := n_tuple) (b__law_like_2 := b__law_like_2) F gm n) hr), gm, F.kp⟩
theorem okd__law_like {f : Addr} {fd : FuncData} (n_bool : mg "bool" = none) (n_int : mg "int" = none) (n_isinstance : mg "isinstance" = none) (n_len : mg "len" = none) (n_list : mg "list" = none) (n_range : mg "range" = none) (n_str : mg "str" = none) (n_tuple : mg "tuple" = none) (b__law_like_2 : Bd cs.K fd ps__law_like []) (F : FunD cs.K "_law_like" "_law_like" (defArgs st__law_like) (defBody st__law_like) (defScope st__law_like) [] [] f fd) (gm : mg "_law_like" = some (.ref f)) : GF P w cs.K mg base "_law_like" ps__law_like 9 (sp__law_like cs 6) f fd := okr__law_like (n_bool := n_bool) (n_int := n_int) (n_isinstance := n_isinstance) (n_len := n_len) (n_list := n_list) (n_range := n_range) (n_str := n_str) (n_tuple := n_tuple) (b__law_like_2 := b__law_like_2) F gm 6
theorem okd__law_house {f : Addr} {fd : FuncData} {f__law_draw : Addr} {fd__law_draw : FuncData} (g__law_draw : GF P w cs.K mg base "_law_draw" ps__law_draw 4 (sp__law_draw cs) f__law_draw fd__law_draw) (n_range : mg "range" = none) (n_tuple : mg "tuple" = none) (b__law_draw_2 : Bd cs.K fd__law_draw ps__law_draw []) (F : FunD cs.K "_law_house" "_law_house" (defArgs st__law_house) (defBody st__law_house) (defScope st__law_house) [] [] f fd) (gm : mg "_law_house" = some (.ref f)) : GF P w cs.K mg base "_law_house" ps__law_house 5 (sp__law_house cs) f fd :=
  ⟨okD (k := 4) F sc__law_house (fun ds m Ph Pc h => by (repeat (first | (obtain ⟨h1, _⟩ := h; subst h1; rfl) | (obtain ⟨_, h⟩ := h)))) run__law_house (fun cdv A outer s H E hr => pss__law_house (K := cs.K) (fd := fd) (g__law_draw := g__law_draw) (n_range := n_range) (n_tuple := n_tuple) (b__law_draw_2 := b__law_draw_2) hr), gm, F.kp⟩
theorem okd__law_text {f : Addr} {fd : FuncData} (n_str : mg "str" = none) (F : FunD cs.K "_law_text" "_law_text" (defArgs st__law_text) (defBody st__law_text) (defScope st__law_text) [] [] f fd) (gm : mg "_law_text" = some (.ref f)) : GF P w cs.K mg base "_law_text" ps__law_text 3 (sp__law_text cs) f fd :=
  ⟨okD (k := 2) F sc__law_text (fun ds m Ph Pc h => by (repeat (first | (obtain ⟨h1, _⟩ := h; subst h1; rfl) | (obtain ⟨_, h⟩ := h)))) run__law_text (fun cdv A outer s H E hr => pss__law_text (K := cs.K) (fd := fd) (n_str := n_str) hr), gm, F.kp⟩
theorem okd__law_number {f : Addr} {fd : FuncData} (n_int : mg "int" = none) (n_len : mg "len" = none) (F : FunD cs.K "_law_number" "_law_number" (defArgs st__law_number) (defBody st__law_number) (defScope st__law_number) [] [] f fd) (gm : mg "_law_number" = some (.ref f)) : GF P w cs.K mg base "_law_number" ps__law_number 3 (sp__law_number cs) f fd :=
  ⟨okD (k := 2) F sc__law_number (fun ds m Ph Pc h => by (repeat (first | (obtain ⟨h1, _⟩ := h; subst h1; rfl) | (obtain ⟨_, h⟩ := h)))) run__law_number (fun cdv A outer s H E hr => pss__law_number (K := cs.K) (fd := fd) (n_int := n_int) (n_len := n_len) hr), gm, F.kp⟩
theorem okd__law_due {f : Addr} {fd : FuncData} {f__law_number : Addr} {fd__law_number : FuncData} (g__law_number : GF P w cs.K mg base "_law_number" ps__law_number 3 (sp__law_number cs) f__law_number fd__law_number) (n_int : mg "int" = none) (n_len : mg "len" = none) (n_tuple : mg "tuple" = none) (b__law_number_1 : Bd cs.K fd__law_number ps__law_number []) (F : FunD cs.K "_law_due" "_law_due" (defArgs st__law_due) (defBody st__law_due) (defScope st__law_due) [] [] f fd) (gm : mg "_law_due" = some (.ref f)) : GF P w cs.K mg base "_law_due" ps__law_due 4 (sp__law_due cs) f fd :=
  ⟨okD (k := 3) F sc__law_due (fun ds m Ph Pc h => by (repeat (first | (obtain ⟨h1, _⟩ := h; subst h1; rfl) | (obtain ⟨_, h⟩ := h)))) run__law_due (fun cdv A outer s H E hr => pss__law_due (K := cs.K) (fd := fd) (g__law_number := g__law_number) (n_int := n_int) (n_len := n_len) (n_tuple := n_tuple) (b__law_number_1 := b__law_number_1) hr), gm, F.kp⟩
theorem okd__law_bent {f : Addr} {fd : FuncData} {f__law_draw : Addr} {fd__law_draw : FuncData} (g__law_draw : GF P w cs.K mg base "_law_draw" ps__law_draw 4 (sp__law_draw cs) f__law_draw fd__law_draw) {f__law_of : Addr} {fd__law_of : FuncData} (g__law_of : GF P w cs.K mg base "_law_of" ps__law_of 5 (sp__law_of cs) f__law_of fd__law_of) (n_len : mg "len" = none) (b__law_draw_2 : Bd cs.K fd__law_draw ps__law_draw []) (b__law_of_2 : Bd cs.K fd__law_of ps__law_of []) (F : FunD cs.K "_law_bent" "_law_bent" (defArgs st__law_bent) (defBody st__law_bent) (defScope st__law_bent) [] [] f fd) (gm : mg "_law_bent" = some (.ref f)) : GF P w cs.K mg base "_law_bent" ps__law_bent 6 (sp__law_bent cs) f fd :=
  ⟨okD (k := 5) F sc__law_bent (fun ds m Ph Pc h => by (repeat (first | (obtain ⟨h1, _⟩ := h; subst h1; rfl) | (obtain ⟨_, h⟩ := h)))) run__law_bent (fun cdv A outer s H E hr => pss__law_bent (K := cs.K) (fd := fd) (g__law_draw := g__law_draw) (g__law_of := g__law_of) (n_len := n_len) (b__law_draw_2 := b__law_draw_2) (b__law_of_2 := b__law_of_2) hr), gm, F.kp⟩
theorem okd__law_read {f : Addr} {fd : FuncData} {f_read_house : Addr} {fd_read_house : FuncData} (g_read_house : GF P w cs.K mg base "read_house" ps_read_house 6 (sp_read_house cs) f_read_house fd_read_house) (b_read_house_1 : Bd cs.K fd_read_house ps_read_house []) (gC_BadText : mg "BadText" = some (.ref cs.BadText)) (xn_BadText_line : PySem.W.findIn cs.K (.ref cs.BadText) "line" = some none) (xc_BadText : XfC cs.K cs.BadText) (F : FunD cs.K "_law_read" "_law_read" (defArgs st__law_read) (defBody st__law_read) (defScope st__law_read) [] [] f fd) (gm : mg "_law_read" = some (.ref f)) : GF P w cs.K mg base "_law_read" ps__law_read 7 (sp__law_read cs) f fd :=
  ⟨okD (k := 6) F sc__law_read (fun ds m Ph Pc h => by (repeat (first | (obtain ⟨h1, _⟩ := h; subst h1; rfl) | (obtain ⟨_, h⟩ := h)))) run__law_read (fun cdv A outer s H E hr => pss__law_read (K := cs.K) (fd := fd) (g_read_house := g_read_house) (b_read_house_1 := b_read_house_1) (gC_BadText := gC_BadText) (xn_BadText_line := xn_BadText_line) (xc_BadText := xc_BadText) hr), gm, F.kp⟩
theorem okd__law_refused {f : Addr} {fd : FuncData} {f_house_text : Addr} {fd_house_text : FuncData} (g_house_text : GF P w cs.K mg base "house_text" ps_house_text 7 (sp_house_text cs) f_house_text fd_house_text) (b_house_text_1 : Bd cs.K fd_house_text ps_house_text []) (gC_BadHouse : mg "BadHouse" = some (.ref cs.BadHouse)) (xn_BadHouse_place : PySem.W.findIn cs.K (.ref cs.BadHouse) "place" = some none) (xc_BadHouse : XfC cs.K cs.BadHouse) (F : FunD cs.K "_law_refused" "_law_refused" (defArgs st__law_refused) (defBody st__law_refused) (defScope st__law_refused) [] [] f fd) (gm : mg "_law_refused" = some (.ref f)) : GF P w cs.K mg base "_law_refused" ps__law_refused 8 (sp__law_refused cs) f fd :=
  ⟨okD (k := 7) F sc__law_refused (fun ds m Ph Pc h => by (repeat (first | (obtain ⟨h1, _⟩ := h; subst h1; rfl) | (obtain ⟨_, h⟩ := h)))) run__law_refused (fun cdv A outer s H E hr => pss__law_refused (K := cs.K) (fd := fd) (g_house_text := g_house_text) (b_house_text_1 := b_house_text_1) (gC_BadHouse := gC_BadHouse) (xn_BadHouse_place := xn_BadHouse_place) (xc_BadHouse := xc_BadHouse) hr), gm, F.kp⟩
theorem okd_law {f : Addr} {fd : FuncData} {f__law_begun : Addr} {fd__law_begun : FuncData} (g__law_begun : GF P w cs.K mg base "_law_begun" ps__law_begun 4 (sp__law_begun cs) f__law_begun fd__law_begun) {f__law_bent : Addr} {fd__law_bent : FuncData} (g__law_bent : GF P w cs.K mg base "_law_bent" ps__law_bent 6 (sp__law_bent cs) f__law_bent fd__law_bent) {f__law_draw : Addr} {fd__law_draw : FuncData} (g__law_draw : GF P w cs.K mg base "_law_draw" ps__law_draw 4 (sp__law_draw cs) f__law_draw fd__law_draw) {f__law_due : Addr} {fd__law_due : FuncData} (g__law_due : GF P w cs.K mg base "_law_due" ps__law_due 4 (sp__law_due cs) f__law_due fd__law_due) {f__law_house : Addr} {fd__law_house : FuncData} (g__law_house : GF P w cs.K mg base "_law_house" ps__law_house 5 (sp__law_house cs) f__law_house fd__law_house) {f__law_like : Addr} {fd__law_like : FuncData} (g__law_like : GF P w cs.K mg base "_law_like" ps__law_like 9 (sp__law_like cs 6) f__law_like fd__law_like) {f__law_read : Addr} {fd__law_read : FuncData} (g__law_read : GF P w cs.K mg base "_law_read" ps__law_read 7 (sp__law_read cs) f__law_read fd__law_read) {f__law_refused : Addr} {fd__law_refused : FuncData} (g__law_refused : GF P w cs.K mg base "_law_refused" ps__law_refused 8 (sp__law_refused cs) f__law_refused fd__law_refused) {f__law_text : Addr} {fd__law_text : FuncData} (g__law_text : GF P w cs.K mg base "_law_text" ps__law_text 3 (sp__law_text cs) f__law_text fd__law_text) {f_house_text : Addr} {fd_house_text : FuncData} (g_house_text : GF P w cs.K mg base "house_text" ps_house_text 7 (sp_house_text cs) f_house_text fd_house_text) {f_read_house : Addr} {fd_read_house : FuncData} (g_read_house : GF P w cs.K mg base "read_house" ps_read_house 6 (sp_read_house cs) f_read_house fd_read_house) (n_range : mg "range" = none) (b__law_begun_1 : Bd cs.K fd__law_begun ps__law_begun []) (b__law_bent_2 : Bd cs.K fd__law_bent ps__law_bent []) (b__law_draw_2 : Bd cs.K fd__law_draw ps__law_draw []) (b__law_due_1 : Bd cs.K fd__law_due ps__law_due []) (b__law_house_3 : Bd cs.K fd__law_house ps__law_house []) (b__law_like_2 : Bd cs.K fd__law_like ps__law_like []) (b__law_read_1 : Bd cs.K fd__law_read ps__law_read []) (b__law_refused_1 : Bd cs.K fd__law_refused ps__law_refused []) (b__law_text_1 : Bd cs.K fd__law_text ps__law_text []) (b_house_text_1 : Bd cs.K fd_house_text ps_house_text []) (b_read_house_1 : Bd cs.K fd_read_house ps_read_house []) (b_house_text_0_house : BdK cs.K fd_house_text ps_house_text ["house"]) (b_read_house_0_text : BdK cs.K fd_read_house ps_read_house ["text"]) (F : FunD cs.K "law" "law" (defArgs st_law) (defBody st_law) (defScope st_law) [] [] f fd) (gm : mg "law" = some (.ref f)) : GF P w cs.K mg base "law" ps_law 10 (sp_law cs) f fd :=
  ⟨okD (k := 9) F sc_law (fun ds m Ph Pc h => by (repeat (first | (obtain ⟨h1, _⟩ := h; subst h1; rfl) | (obtain ⟨_, h⟩ := h)))) run_law (fun cdv A outer s H E hr => pss_law (K := cs.K) (fd := fd) (g__law_begun := g__law_begun) (g__law_bent := g__law_bent) (g__law_draw := g__law_draw) (g__law_due := g__law_due) (g__law_house := g__law_house) (g__law_like := g__law_like) (g__law_read := g__law_read) (g__law_refused := g__law_refused) (g__law_text := g__law_text) (g_house_text := g_house_text) (g_read_house := g_read_house) (n_range := n_range) (b__law_begun_1 := b__law_begun_1) (b__law_bent_2 := b__law_bent_2) (b__law_draw_2 := b__law_draw_2) (b__law_due_1 := b__law_due_1) (b__law_house_3 := b__law_house_3) (b__law_like_2 := b__law_like_2) (b__law_read_1 := b__law_read_1) (b__law_refused_1 := b__law_refused_1) (b__law_text_1 := b__law_text_1) (b_house_text_1 := b_house_text_1) (b_read_house_1 := b_read_house_1) (b_house_text_0_house := b_house_text_0_house) (b_read_house_0_text := b_read_house_0_text) hr), gm, F.kp⟩
end
/-- an error of the class at S is what except S names -/
theorem exm_self {K : PySem.W.Frag} {S : Addr} (h1 : PySem.W.subIn K (.ref S) (.type "BaseException") = some true) (h2 : PySem.W.isClsIn K S = true) (h3 : PySem.W.typeIn K (.ref S) = some (.type "type")) (h4 : PySem.W.subIn K (.ref S) (.ref S) = some true) : PySem.W.exmOne K (.ref S) (.ref S) = some true := by
  have e1 : (PySem.W.subIn K (.ref S) (.type "BaseException") == some true) = true := by rw [h1] <;> rfl
  have e2 : ((PySem.W.clsIn K S).isSome && PySem.W.typeIn K (.ref S) == some (.type "type")) = true := by
    have h2' : (PySem.W.clsIn K S).isSome = true := h2
    rw [h2', h3] <;> rfl
  show (if (PySem.W.subIn K (.ref S) (.type "BaseException") == some true) = true then (if ((PySem.W.clsIn K S).isSome && PySem.W.typeIn K (.ref S) == some (.type "type")) = true then PySem.W.subIn K (.ref S) (.ref S) else none) else none) = some true
  rw [if_pos e1, if_pos e2]
  exact h4
theorem all_mk {P : Program} {w : World} {K : PySem.W.Frag} {h : Heap} {mg : Str → Option Value} {fa : Addr}
    {tk_DIGITS : Tok}
    {tk_MOST_COLOUR : Tok}
    {tk_MOST_ROOMS : Tok}
    {A_BadHouse_0 : Addr} {C_BadHouse N_BadHouse fI_BadHouse cc_BadHouse cda_BadHouse : Addr} {nm_BadHouse qn_BadHouse : Str} {bs_BadHouse sub_BadHouse : List Value} {sn_BadHouse : List Str} {ab_BadHouse : Bool} {col_BadHouse : Option Bool} {dd_BadHouse od_BadHouse an_BadHouse cdd_BadHouse cld_BadHouse : Option Addr} {m0_BadHouse m1_BadHouse m2_BadHouse m3_BadHouse m5_BadHouse : Option Value} {oc_BadHouse dc_BadHouse pm_BadHouse ct_BadHouse ccl_BadHouse cl_BadHouse : Value} {sl_BadHouse ccs_BadHouse csl_BadHouse : Array (Option Value)} {vs_BadHouse : Array Value} {file_BadHouse : Str} {tf_BadHouse : Tok}
    {A_BadText_0 : Addr} {C_BadText N_BadText fI_BadText cc_BadText cda_BadText : Addr} {nm_BadText qn_BadText : Str} {bs_BadText sub_BadText : List Value} {sn_BadText : List Str} {ab_BadText : Bool} {col_BadText : Option Bool} {dd_BadText od_BadText an_BadText cdd_BadText cld_BadText : Option Addr} {m0_BadText m1_BadText m2_BadText m3_BadText m5_BadText : Option Value} {oc_BadText dc_BadText pm_BadText ct_BadText ccl_BadText cl_BadText : Value} {sl_BadText ccs_BadText csl_BadText : Array (Option Value)} {vs_BadText : Array Value} {file_BadText : Str} {tf_BadText : Tok}
    {f_is_number : Addr} {oc_is_number kV_is_number dc_is_number pm_is_number cd_is_number ct_is_number : Value} {od_is_number an_is_number : Option Addr} {sl_is_number : Array (Option Value)}
    {T_is_number : Addr} {ocd_is_number : Value} {odd_is_number : Option Addr} {nd_is_number : Nat} {sld_is_number : Array (Option Value)}
    {f_is_row : Addr} {oc_is_row kV_is_row dc_is_row pm_is_row cd_is_row ct_is_row : Value} {od_is_row an_is_row : Option Addr} {sl_is_row : Array (Option Value)}
    {T_is_row : Addr} {ocd_is_row : Value} {odd_is_row : Option Addr} {nd_is_row : Nat} {sld_is_row : Array (Option Value)}
    {f_are_numbers : Addr} {oc_are_numbers kV_are_numbers dc_are_numbers pm_are_numbers cd_are_numbers ct_are_numbers : Value} {od_are_numbers an_are_numbers : Option Addr} {sl_are_numbers : Array (Option Value)}
    {T_are_numbers : Addr} {ocd_are_numbers : Value} {odd_are_numbers : Option Addr} {nd_are_numbers : Nat} {sld_are_numbers : Array (Option Value)}
    {td_are_numbers_0 : Tok}
    {f_is_door : Addr} {oc_is_door kV_is_door dc_is_door pm_is_door cd_is_door ct_is_door : Value} {od_is_door an_is_door : Option Addr} {sl_is_door : Array (Option Value)}
    {f_house_fault : Addr} {oc_house_fault kV_house_fault dc_house_fault pm_house_fault cd_house_fault ct_house_fault : Value} {od_house_fault an_house_fault : Option Addr} {sl_house_fault : Array (Option Value)}
    {f_need_house : Addr} {oc_need_house kV_need_house dc_need_house pm_need_house cd_need_house ct_need_house : Value} {od_need_house an_need_house : Option Addr} {sl_need_house : Array (Option Value)}
    {f_house_text : Addr} {oc_house_text kV_house_text dc_house_text pm_house_text cd_house_text ct_house_text : Value} {od_house_text an_house_text : Option Addr} {sl_house_text : Array (Option Value)}
    {f_number_of : Addr} {oc_number_of kV_number_of dc_number_of pm_number_of cd_number_of ct_number_of : Value} {od_number_of an_number_of : Option Addr} {sl_number_of : Array (Option Value)}
    {f_read_door : Addr} {oc_read_door kV_read_door dc_read_door pm_read_door cd_read_door ct_read_door : Value} {od_read_door an_read_door : Option Addr} {sl_read_door : Array (Option Value)}
    {f_read_house : Addr} {oc_read_house kV_read_house dc_read_house pm_read_house cd_read_house ct_read_house : Value} {od_read_house an_read_house : Option Addr} {sl_read_house : Array (Option Value)}
    {f__law_mixed : Addr} {oc__law_mixed kV__law_mixed dc__law_mixed pm__law_mixed cd__law_mixed ct__law_mixed : Value} {od__law_mixed an__law_mixed : Option Addr} {sl__law_mixed : Array (Option Value)}
    {f__law_folded : Addr} {oc__law_folded kV__law_folded dc__law_folded pm__law_folded cd__law_folded ct__law_folded : Value} {od__law_folded an__law_folded : Option Addr} {sl__law_folded : Array (Option Value)}
    {f__law_draw : Addr} {oc__law_draw kV__law_draw dc__law_draw pm__law_draw cd__law_draw ct__law_draw : Value} {od__law_draw an__law_draw : Option Addr} {sl__law_draw : Array (Option Value)}
    {f__law_begun : Addr} {oc__law_begun kV__law_begun dc__law_begun pm__law_begun cd__law_begun ct__law_begun : Value} {od__law_begun an__law_begun : Option Addr} {sl__law_begun : Array (Option Value)}
    {f__law_of : Addr} {oc__law_of kV__law_of dc__law_of pm__law_of cd__law_of ct__law_of : Value} {od__law_of an__law_of : Option Addr} {sl__law_of : Array (Option Value)}
    {f__law_like : Addr} {oc__law_like kV__law_like dc__law_like pm__law_like cd__law_like ct__law_like : Value} {od__law_like an__law_like : Option Addr} {sl__law_like : Array (Option Value)}
    {f__law_house : Addr} {oc__law_house kV__law_house dc__law_house pm__law_house cd__law_house ct__law_house : Value} {od__law_house an__law_house : Option Addr} {sl__law_house : Array (Option Value)}
    {f__law_text : Addr} {oc__law_text kV__law_text dc__law_text pm__law_text cd__law_text ct__law_text : Value} {od__law_text an__law_text : Option Addr} {sl__law_text : Array (Option Value)}
    {f__law_number : Addr} {oc__law_number kV__law_number dc__law_number pm__law_number cd__law_number ct__law_number : Value} {od__law_number an__law_number : Option Addr} {sl__law_number : Array (Option Value)}
    {f__law_due : Addr} {oc__law_due kV__law_due dc__law_due pm__law_due cd__law_due ct__law_due : Value} {od__law_due an__law_due : Option Addr} {sl__law_due : Array (Option Value)}
    {f__law_bent : Addr} {oc__law_bent kV__law_bent dc__law_bent pm__law_bent cd__law_bent ct__law_bent : Value} {od__law_bent an__law_bent : Option Addr} {sl__law_bent : Array (Option Value)}
    {f__law_read : Addr} {oc__law_read kV__law_read dc__law_read pm__law_read cd__law_read ct__law_read : Value} {od__law_read an__law_read : Option Addr} {sl__law_read : Array (Option Value)}
    {f__law_refused : Addr} {oc__law_refused kV__law_refused dc__law_refused pm__law_refused cd__law_refused ct__law_refused : Value} {od__law_refused an__law_refused : Option Addr} {sl__law_refused : Array (Option Value)}
    {f_law : Addr} {oc_law kV_law dc_law pm_law cd_law ct_law : Value} {od_law an_law : Option Addr} {sl_law : Array (Option Value)} (X : K.In h) (G : h.Ns mainGlobals mg) (hfa : mg "law" = some (.ref fa))
    (z_all : PySem.W.nsIn K mainGlobals "all" = some none)
    (z_bool : PySem.W.nsIn K mainGlobals "bool" = some none)
    (z_enumerate : PySem.W.nsIn K mainGlobals "enumerate" = some none)
    (z_int : PySem.W.nsIn K mainGlobals "int" = some none)
    (z_isinstance : PySem.W.nsIn K mainGlobals "isinstance" = some none)
    (z_len : PySem.W.nsIn K mainGlobals "len" = some none)
    (z_list : PySem.W.nsIn K mainGlobals "list" = some none)
    (z_range : PySem.W.nsIn K mainGlobals "range" = some none)
    (z_str : PySem.W.nsIn K mainGlobals "str" = some none)
    (z_tuple : PySem.W.nsIn K mainGlobals "tuple" = some none)
    (q_DIGITS : PySem.W.nsIn K mainGlobals "DIGITS" = some (some (.str "0123456789" tk_DIGITS)))
    (q_MOST_COLOUR : PySem.W.nsIn K mainGlobals "MOST_COLOUR" = some (some (.int 9 tk_MOST_COLOUR)))
    (q_MOST_ROOMS : PySem.W.nsIn K mainGlobals "MOST_ROOMS" = some (some (.int 60 tk_MOST_ROOMS)))
    (z_super : PySem.W.nsIn K mainGlobals "super" = some none)
    (ops : PySem.W.nsIn K PySem.cStatics "thirdparty.any" = some none)
    (aC_BadHouse : PySem.W.nsIn K mainGlobals "BadHouse" = some (some (.ref C_BadHouse)))
    (xL_BadHouse : K.lookup C_BadHouse = some (excClassObj nm_BadHouse qn_BadHouse C_BadHouse N_BadHouse bs_BadHouse [.ref A_BadHouse_0, .type "ValueError", .type "Exception", .type "BaseException", .type "object"] true sn_BadHouse sub_BadHouse ab_BadHouse col_BadHouse dd_BadHouse m0_BadHouse m1_BadHouse m2_BadHouse m3_BadHouse m5_BadHouse "ValueError.__new__"))
    (al_BadHouse : PySem.W.alongIn K "__init__" [.ref A_BadHouse_0, .type "ValueError", .type "Exception", .type "BaseException", .type "object"] = some (some (.builtin "ValueError.__init__")))
    (sB_BadHouse : PySem.W.subIn K (.ref C_BadHouse) (.type "ValueError") = some true)
    (a1_BadHouse : PySem.W.findIn K (.ref C_BadHouse) "__init__" = some (some (.ref fI_BadHouse)))
    (t1_BadHouse : PySem.W.typeIn K (.ref fI_BadHouse) = some (.type "function"))
    (l1_BadHouse : K.lookup fI_BadHouse = some ⟨oc_BadHouse, od_BadHouse, .func (PySem.W.ksFn "__init__" "BadHouse.__init__" (PySem.BadX.iA "place" ⟨6, 17, 6, 21⟩ ⟨6, 23, 6, 28⟩) (PySem.BadX.iB "place" "not a house" ⟨7, 8, 7, 13⟩ ⟨7, 8, 7, 15⟩ ⟨7, 8, 7, 24⟩ ⟨7, 25, 7, 38⟩ ⟨7, 8, 7, 39⟩ ⟨7, 8, 7, 39⟩ ⟨8, 8, 8, 12⟩ ⟨8, 8, 8, 18⟩ ⟨8, 21, 8, 26⟩ ⟨8, 8, 8, 26⟩) (PySem.BadX.iS "place") .none .none dc_BadHouse pm_BadHouse an_BadHouse (.ref cda_BadHouse) ct_BadHouse cc_BadHouse), sl_BadHouse⟩)
    (c1_BadHouse : PySem.W.codeIn K (.ref cda_BadHouse) "BadHouse.__init__" = true)
    (lc_BadHouse : K.lookup cda_BadHouse = some ⟨ccl_BadHouse, cdd_BadHouse, .fields vs_BadHouse, ccs_BadHouse⟩)
    (v2_BadHouse : vs_BadHouse[2]? = some (.str file_BadHouse tf_BadHouse))
    (fl_BadHouse : ((P.main.file : Str) == file_BadHouse) = true)
    (lq_BadHouse : K.lookup cc_BadHouse = some ⟨cl_BadHouse, cld_BadHouse, .cell (some (.ref C_BadHouse)), csl_BadHouse⟩)
    (sa_BadHouse : PySem.W.findIn K (.ref C_BadHouse) "__setattr__" = some (some (.builtin "object.__setattr__")))
    (ga_BadHouse : PySem.W.findIn K (.ref C_BadHouse) "__getattribute__" = some (some (.builtin "BaseException.__getattribute__")))
    (gg_BadHouse : PySem.W.findIn K (.ref C_BadHouse) "__getattr__" = some none)
    (nb_BadHouse : PySem.W.findIn K (.ref C_BadHouse) "place" = some none)
    (kC_BadHouse : PySem.W.keepIn K (.ref C_BadHouse) = true)
    (eC_BadHouse : PySem.W.subIn K (.ref C_BadHouse) (.type "BaseException") = some true)
    (tC_BadHouse : PySem.W.typeIn K (.ref C_BadHouse) = some (.type "type"))
    (hC_BadHouse : PySem.W.hasDictIn K C_BadHouse = true)
    (iC_BadHouse : PySem.W.isClsIn K C_BadHouse = true)
    (sC_BadHouse : PySem.W.subIn K (.ref C_BadHouse) (.ref C_BadHouse) = some true)
    (aC_BadText : PySem.W.nsIn K mainGlobals "BadText" = some (some (.ref C_BadText)))
    (xL_BadText : K.lookup C_BadText = some (excClassObj nm_BadText qn_BadText C_BadText N_BadText bs_BadText [.ref A_BadText_0, .type "ValueError", .type "Exception", .type "BaseException", .type "object"] true sn_BadText sub_BadText ab_BadText col_BadText dd_BadText m0_BadText m1_BadText m2_BadText m3_BadText m5_BadText "ValueError.__new__"))
    (al_BadText : PySem.W.alongIn K "__init__" [.ref A_BadText_0, .type "ValueError", .type "Exception", .type "BaseException", .type "object"] = some (some (.builtin "ValueError.__init__")))
    (sB_BadText : PySem.W.subIn K (.ref C_BadText) (.type "ValueError") = some true)
    (a1_BadText : PySem.W.findIn K (.ref C_BadText) "__init__" = some (some (.ref fI_BadText)))
    (t1_BadText : PySem.W.typeIn K (.ref fI_BadText) = some (.type "function"))
    (l1_BadText : K.lookup fI_BadText = some ⟨oc_BadText, od_BadText, .func (PySem.W.ksFn "__init__" "BadText.__init__" (PySem.BadX.iA "line" ⟨11, 17, 11, 21⟩ ⟨11, 23, 11, 27⟩) (PySem.BadX.iB "line" "not such a text" ⟨12, 8, 12, 13⟩ ⟨12, 8, 12, 15⟩ ⟨12, 8, 12, 24⟩ ⟨12, 25, 12, 42⟩ ⟨12, 8, 12, 43⟩ ⟨12, 8, 12, 43⟩ ⟨13, 8, 13, 12⟩ ⟨13, 8, 13, 17⟩ ⟨13, 20, 13, 24⟩ ⟨13, 8, 13, 24⟩) (PySem.BadX.iS "line") .none .none dc_BadText pm_BadText an_BadText (.ref cda_BadText) ct_BadText cc_BadText), sl_BadText⟩)
    (c1_BadText : PySem.W.codeIn K (.ref cda_BadText) "BadText.__init__" = true)
    (lc_BadText : K.lookup cda_BadText = some ⟨ccl_BadText, cdd_BadText, .fields vs_BadText, ccs_BadText⟩)
    (v2_BadText : vs_BadText[2]? = some (.str file_BadText tf_BadText))
    (fl_BadText : ((P.main.file : Str) == file_BadText) = true)
    (lq_BadText : K.lookup cc_BadText = some ⟨cl_BadText, cld_BadText, .cell (some (.ref C_BadText)), csl_BadText⟩)
    (sa_BadText : PySem.W.findIn K (.ref C_BadText) "__setattr__" = some (some (.builtin "object.__setattr__")))
    (ga_BadText : PySem.W.findIn K (.ref C_BadText) "__getattribute__" = some (some (.builtin "BaseException.__getattribute__")))
    (gg_BadText : PySem.W.findIn K (.ref C_BadText) "__getattr__" = some none)
    (nb_BadText : PySem.W.findIn K (.ref C_BadText) "line" = some none)
    (kC_BadText : PySem.W.keepIn K (.ref C_BadText) = true)
    (eC_BadText : PySem.W.subIn K (.ref C_BadText) (.type "BaseException") = some true)
    (tC_BadText : PySem.W.typeIn K (.ref C_BadText) = some (.type "type"))
    (hC_BadText : PySem.W.hasDictIn K C_BadText = true)
    (iC_BadText : PySem.W.isClsIn K C_BadText = true)
    (sC_BadText : PySem.W.subIn K (.ref C_BadText) (.ref C_BadText) = some true)
    (a_is_number : PySem.W.nsIn K mainGlobals "is_number" = some (some (.ref f_is_number)))
    (l_is_number : K.lookup f_is_number = some ⟨oc_is_number, od_is_number, .func (PySem.W.fnOf "is_number" "is_number" (defArgs st_is_number) (defBody st_is_number) (defScope st_is_number) (.ref T_is_number) kV_is_number dc_is_number pm_is_number an_is_number cd_is_number ct_is_number), sl_is_number⟩)
    (c_is_number : PySem.W.codeIn K cd_is_number "is_number" = true)
    (kp_is_number : PySem.W.keepIn K (.ref f_is_number) = true)
    (dl_is_number : K.lookup T_is_number = some ⟨ocd_is_number, odd_is_number, .seq ([.none] : List Value).toArray nd_is_number, sld_is_number⟩)
    (a_is_row : PySem.W.nsIn K mainGlobals "is_row" = some (some (.ref f_is_row)))
    (l_is_row : K.lookup f_is_row = some ⟨oc_is_row, od_is_row, .func (PySem.W.fnOf "is_row" "is_row" (defArgs st_is_row) (defBody st_is_row) (defScope st_is_row) (.ref T_is_row) kV_is_row dc_is_row pm_is_row an_is_row cd_is_row ct_is_row), sl_is_row⟩)
    (c_is_row : PySem.W.codeIn K cd_is_row "is_row" = true)
    (kp_is_row : PySem.W.keepIn K (.ref f_is_row) = true)
    (dl_is_row : K.lookup T_is_row = some ⟨ocd_is_row, odd_is_row, .seq ([.none] : List Value).toArray nd_is_row, sld_is_row⟩)
    (a_are_numbers : PySem.W.nsIn K mainGlobals "are_numbers" = some (some (.ref f_are_numbers)))
    (l_are_numbers : K.lookup f_are_numbers = some ⟨oc_are_numbers, od_are_numbers, .func (PySem.W.fnOf "are_numbers" "are_numbers" (defArgs st_are_numbers) (defBody st_are_numbers) (defScope st_are_numbers) (.ref T_are_numbers) kV_are_numbers dc_are_numbers pm_are_numbers an_are_numbers cd_are_numbers ct_are_numbers), sl_are_numbers⟩)
    (c_are_numbers : PySem.W.codeIn K cd_are_numbers "are_numbers" = true)
    (kp_are_numbers : PySem.W.keepIn K (.ref f_are_numbers) = true)
    (dl_are_numbers : K.lookup T_are_numbers = some ⟨ocd_are_numbers, odd_are_numbers, .seq ([.int 0 td_are_numbers_0] : List Value).toArray nd_are_numbers, sld_are_numbers⟩)
    (a_is_door : PySem.W.nsIn K mainGlobals "is_door" = some (some (.ref f_is_door)))
    (l_is_door : K.lookup f_is_door = some ⟨oc_is_door, od_is_door, .func (PySem.W.fnOf "is_door" "is_door" (defArgs st_is_door) (defBody st_is_door) (defScope st_is_door) .none kV_is_door dc_is_door pm_is_door an_is_door cd_is_door ct_is_door), sl_is_door⟩)
    (c_is_door : PySem.W.codeIn K cd_is_door "is_door" = true)
    (kp_is_door : PySem.W.keepIn K (.ref f_is_door) = true)
    (a_house_fault : PySem.W.nsIn K mainGlobals "house_fault" = some (some (.ref f_house_fault)))
    (l_house_fault : K.lookup f_house_fault = some ⟨oc_house_fault, od_house_fault, .func (PySem.W.fnOf "house_fault" "house_fault" (defArgs st_house_fault) (defBody st_house_fault) (defScope st_house_fault) .none kV_house_fault dc_house_fault pm_house_fault an_house_fault cd_house_fault ct_house_fault), sl_house_fault⟩)
    (c_house_fault : PySem.W.codeIn K cd_house_fault "house_fault" = true)
    (kp_house_fault : PySem.W.keepIn K (.ref f_house_fault) = true)
    (a_need_house : PySem.W.nsIn K mainGlobals "need_house" = some (some (.ref f_need_house)))
    (l_need_house : K.lookup f_need_house = some ⟨oc_need_house, od_need_house, .func (PySem.W.fnOf "need_house" "need_house" (defArgs st_need_house) (defBody st_need_house) (defScope st_need_house) .none kV_need_house dc_need_house pm_need_house an_need_house cd_need_house ct_need_house), sl_need_house⟩)
    (c_need_house : PySem.W.codeIn K cd_need_house "need_house" = true)
    (kp_need_house : PySem.W.keepIn K (.ref f_need_house) = true)
    (a_house_text : PySem.W.nsIn K mainGlobals "house_text" = some (some (.ref f_house_text)))
    (l_house_text : K.lookup f_house_text = some ⟨oc_house_text, od_house_text, .func (PySem.W.fnOf "house_text" "house_text" (defArgs st_house_text) (defBody st_house_text) (defScope st_house_text) .none kV_house_text dc_house_text pm_house_text an_house_text cd_house_text ct_house_text), sl_house_text⟩)
    (c_house_text : PySem.W.codeIn K cd_house_text "house_text" = true)
    (kp_house_text : PySem.W.keepIn K (.ref f_house_text) = true)
    (a_number_of : PySem.W.nsIn K mainGlobals "number_of" = some (some (.ref f_number_of)))
    (l_number_of : K.lookup f_number_of = some ⟨oc_number_of, od_number_of, .func (PySem.W.fnOf "number_of" "number_of" (defArgs st_number_of) (defBody st_number_of) (defScope st_number_of) .none kV_number_of dc_number_of pm_number_of an_number_of cd_number_of ct_number_of), sl_number_of⟩)
    (c_number_of : PySem.W.codeIn K cd_number_of "number_of" = true)
    (kp_number_of : PySem.W.keepIn K (.ref f_number_of) = true)
    (a_read_door : PySem.W.nsIn K mainGlobals "read_door" = some (some (.ref f_read_door)))
    (l_read_door : K.lookup f_read_door = some ⟨oc_read_door, od_read_door, .func (PySem.W.fnOf "read_door" "read_door" (defArgs st_read_door) (defBody st_read_door) (defScope st_read_door) .none kV_read_door dc_read_door pm_read_door an_read_door cd_read_door ct_read_door), sl_read_door⟩)
    (c_read_door : PySem.W.codeIn K cd_read_door "read_door" = true)
    (kp_read_door : PySem.W.keepIn K (.ref f_read_door) = true)
    (a_read_house : PySem.W.nsIn K mainGlobals "read_house" = some (some (.ref f_read_house)))
    (l_read_house : K.lookup f_read_house = some ⟨oc_read_house, od_read_house, .func (PySem.W.fnOf "read_house" "read_house" (defArgs st_read_house) (defBody st_read_house) (defScope st_read_house) .none kV_read_house dc_read_house pm_read_house an_read_house cd_read_house ct_read_house), sl_read_house⟩)
    (c_read_house : PySem.W.codeIn K cd_read_house "read_house" = true)
    (kp_read_house : PySem.W.keepIn K (.ref f_read_house) = true)
    (a__law_mixed : PySem.W.nsIn K mainGlobals "_law_mixed" = some (some (.ref f__law_mixed)))
    (l__law_mixed : K.lookup f__law_mixed = some ⟨oc__law_mixed, od__law_mixed, .func (PySem.W.fnOf "_law_mixed" "_law_mixed" (defArgs st__law_mixed) (defBody st__law_mixed) (defScope st__law_mixed) .none kV__law_mixed dc__law_mixed pm__law_mixed an__law_mixed cd__law_mixed ct__law_mixed), sl__law_mixed⟩)
    (c__law_mixed : PySem.W.codeIn K cd__law_mixed "_law_mixed" = true)
    (kp__law_mixed : PySem.W.keepIn K (.ref f__law_mixed) = true)
    (a__law_folded : PySem.W.nsIn K mainGlobals "_law_folded" = some (some (.ref f__law_folded)))
    (l__law_folded : K.lookup f__law_folded = some ⟨oc__law_folded, od__law_folded, .func (PySem.W.fnOf "_law_folded" "_law_folded" (defArgs st__law_folded) (defBody st__law_folded) (defScope st__law_folded) .none kV__law_folded dc__law_folded pm__law_folded an__law_folded cd__law_folded ct__law_folded), sl__law_folded⟩)
    (c__law_folded : PySem.W.codeIn K cd__law_folded "_law_folded" = true)
    (kp__law_folded : PySem.W.keepIn K (.ref f__law_folded) = true)
    (a__law_draw : PySem.W.nsIn K mainGlobals "_law_draw" = some (some (.ref f__law_draw)))
    (l__law_draw : K.lookup f__law_draw = some ⟨oc__law_draw, od__law_draw, .func (PySem.W.fnOf "_law_draw" "_law_draw" (defArgs st__law_draw) (defBody st__law_draw) (defScope st__law_draw) .none kV__law_draw dc__law_draw pm__law_draw an__law_draw cd__law_draw ct__law_draw), sl__law_draw⟩)
    (c__law_draw : PySem.W.codeIn K cd__law_draw "_law_draw" = true)
    (kp__law_draw : PySem.W.keepIn K (.ref f__law_draw) = true)
    (a__law_begun : PySem.W.nsIn K mainGlobals "_law_begun" = some (some (.ref f__law_begun)))
    (l__law_begun : K.lookup f__law_begun = some ⟨oc__law_begun, od__law_begun, .func (PySem.W.fnOf "_law_begun" "_law_begun" (defArgs st__law_begun) (defBody st__law_begun) (defScope st__law_begun) .none kV__law_begun dc__law_begun pm__law_begun an__law_begun cd__law_begun ct__law_begun), sl__law_begun⟩)
    (c__law_begun : PySem.W.codeIn K cd__law_begun "_law_begun" = true)
    (kp__law_begun : PySem.W.keepIn K (.ref f__law_begun) = true)
    (a__law_of : PySem.W.nsIn K mainGlobals "_law_of" = some (some (.ref f__law_of)))
    (l__law_of : K.lookup f__law_of = some ⟨oc__law_of, od__law_of, .func (PySem.W.fnOf "_law_of" "_law_of" (defArgs st__law_of) (defBody st__law_of) (defScope st__law_of) .none kV__law_of dc__law_of pm__law_of an__law_of cd__law_of ct__law_of), sl__law_of⟩)
    (c__law_of : PySem.W.codeIn K cd__law_of "_law_of" = true)
    (kp__law_of : PySem.W.keepIn K (.ref f__law_of) = true)
    (a__law_like : PySem.W.nsIn K mainGlobals "_law_like" = some (some (.ref f__law_like)))
    (l__law_like : K.lookup f__law_like = some ⟨oc__law_like, od__law_like, .func (PySem.W.fnOf "_law_like" "_law_like" (defArgs st__law_like) (defBody st__law_like) (defScope st__law_like) .none kV__law_like dc__law_like pm__law_like an__law_like cd__law_like ct__law_like), sl__law_like⟩)
    (c__law_like : PySem.W.codeIn K cd__law_like "_law_like" = true)
    (kp__law_like : PySem.W.keepIn K (.ref f__law_like) = true)
    (a__law_house : PySem.W.nsIn K mainGlobals "_law_house" = some (some (.ref f__law_house)))
    (l__law_house : K.lookup f__law_house = some ⟨oc__law_house, od__law_house, .func (PySem.W.fnOf "_law_house" "_law_house" (defArgs st__law_house) (defBody st__law_house) (defScope st__law_house) .none kV__law_house dc__law_house pm__law_house an__law_house cd__law_house ct__law_house), sl__law_house⟩)
    (c__law_house : PySem.W.codeIn K cd__law_house "_law_house" = true)
    (kp__law_house : PySem.W.keepIn K (.ref f__law_house) = true)
    (a__law_text : PySem.W.nsIn K mainGlobals "_law_text" = some (some (.ref f__law_text)))
    (l__law_text : K.lookup f__law_text = some ⟨oc__law_text, od__law_text, .func (PySem.W.fnOf "_law_text" "_law_text" (defArgs st__law_text) (defBody st__law_text) (defScope st__law_text) .none kV__law_text dc__law_text pm__law_text an__law_text cd__law_text ct__law_text), sl__law_text⟩)
    (c__law_text : PySem.W.codeIn K cd__law_text "_law_text" = true)
    (kp__law_text : PySem.W.keepIn K (.ref f__law_text) = true)
    (a__law_number : PySem.W.nsIn K mainGlobals "_law_number" = some (some (.ref f__law_number)))
    (l__law_number : K.lookup f__law_number = some ⟨oc__law_number, od__law_number, .func (PySem.W.fnOf "_law_number" "_law_number" (defArgs st__law_number) (defBody st__law_number) (defScope st__law_number) .none kV__law_number dc__law_number pm__law_number an__law_number cd__law_number ct__law_number), sl__law_number⟩)
    (c__law_number : PySem.W.codeIn K cd__law_number "_law_number" = true)
    (kp__law_number : PySem.W.keepIn K (.ref f__law_number) = true)
    (a__law_due : PySem.W.nsIn K mainGlobals "_law_due" = some (some (.ref f__law_due)))
    (l__law_due : K.lookup f__law_due = some ⟨oc__law_due, od__law_due, .func (PySem.W.fnOf "_law_due" "_law_due" (defArgs st__law_due) (defBody st__law_due) (defScope st__law_due) .none kV__law_due dc__law_due pm__law_due an__law_due cd__law_due ct__law_due), sl__law_due⟩)
    (c__law_due : PySem.W.codeIn K cd__law_due "_law_due" = true)
    (kp__law_due : PySem.W.keepIn K (.ref f__law_due) = true)
    (a__law_bent : PySem.W.nsIn K mainGlobals "_law_bent" = some (some (.ref f__law_bent)))
    (l__law_bent : K.lookup f__law_bent = some ⟨oc__law_bent, od__law_bent, .func (PySem.W.fnOf "_law_bent" "_law_bent" (defArgs st__law_bent) (defBody st__law_bent) (defScope st__law_bent) .none kV__law_bent dc__law_bent pm__law_bent an__law_bent cd__law_bent ct__law_bent), sl__law_bent⟩)
    (c__law_bent : PySem.W.codeIn K cd__law_bent "_law_bent" = true)
    (kp__law_bent : PySem.W.keepIn K (.ref f__law_bent) = true)
    (a__law_read : PySem.W.nsIn K mainGlobals "_law_read" = some (some (.ref f__law_read)))
    (l__law_read : K.lookup f__law_read = some ⟨oc__law_read, od__law_read, .func (PySem.W.fnOf "_law_read" "_law_read" (defArgs st__law_read) (defBody st__law_read) (defScope st__law_read) .none kV__law_read dc__law_read pm__law_read an__law_read cd__law_read ct__law_read), sl__law_read⟩)
    (c__law_read : PySem.W.codeIn K cd__law_read "_law_read" = true)
    (kp__law_read : PySem.W.keepIn K (.ref f__law_read) = true)
    (a__law_refused : PySem.W.nsIn K mainGlobals "_law_refused" = some (some (.ref f__law_refused)))
    (l__law_refused : K.lookup f__law_refused = some ⟨oc__law_refused, od__law_refused, .func (PySem.W.fnOf "_law_refused" "_law_refused" (defArgs st__law_refused) (defBody st__law_refused) (defScope st__law_refused) .none kV__law_refused dc__law_refused pm__law_refused an__law_refused cd__law_refused ct__law_refused), sl__law_refused⟩)
    (c__law_refused : PySem.W.codeIn K cd__law_refused "_law_refused" = true)
    (kp__law_refused : PySem.W.keepIn K (.ref f__law_refused) = true)
    (a_law : PySem.W.nsIn K mainGlobals "law" = some (some (.ref f_law)))
    (l_law : K.lookup f_law = some ⟨oc_law, od_law, .func (PySem.W.fnOf "law" "law" (defArgs st_law) (defBody st_law) (defScope st_law) .none kV_law dc_law pm_law an_law cd_law ct_law), sl_law⟩)
    (c_law : PySem.W.codeIn K cd_law "law" = true)
    (kp_law : PySem.W.keepIn K (.ref f_law) = true)
    (htop : (P.main.scope.names.lookup ("super" : Str)).isSome = false) :
    ∃ fd : FuncData, (∀ (s : Shared) (u : Value), BindsTo s fd ⟨[u], []⟩ [("script", u)]) ∧ ∀ base : Heap, K.In base → base.Ns mainGlobals mg → FnOk P w K mg base (L2.CX P w) 10 fa fd ["script"] (lift (spL K)) := by
  have e : f_law = fa := Value.ref.inj (Option.some.inj ((PySem.W.mg_of X G a_law).symm.trans hfa))
  subst e
  have T_BadHouse : PySem.BadX.BadTxt P K mg "BadHouse" "place" C_BadHouse :=
    { gC := PySem.W.mg_of X G aC_BadHouse, cls := ⟨_, _, _, _, _, _, _, _, _, _, _, _, _, _, _, _, _, _, _, PySem.BadX.base_VE, xL_BadHouse, ⟨[A_BadHouse_0], rfl⟩, al_BadHouse, sB_BadHouse⟩,
      fn := ⟨fI_BadHouse, cc_BadHouse, cda_BadHouse, oc_BadHouse, od_BadHouse, dc_BadHouse, pm_BadHouse, an_BadHouse, ct_BadHouse, sl_BadHouse, _, _, _, _, _, _, _, _, _, _, _, _, _, _, ccl_BadHouse, cl_BadHouse, cdd_BadHouse, cld_BadHouse, vs_BadHouse, ccs_BadHouse, csl_BadHouse, file_BadHouse, tf_BadHouse, l1_BadHouse, c1_BadHouse, a1_BadHouse, t1_BadHouse, lc_BadHouse, v2_BadHouse, fl_BadHouse, lq_BadHouse, ⟨fun a b => rfl, fun L => ⟨⟨_, rfl⟩, rfl, rfl⟩⟩⟩,
      htop := htop, msuper := PySem.W.mg_none_of X G z_super, sa := sa_BadHouse, ga := ga_BadHouse, gg := gg_BadHouse, noN := nb_BadHouse, kC := kC_BadHouse, exC := eC_BadHouse, tyC := tC_BadHouse, hdC := hC_BadHouse, ops := ops, nf := by decide +kernel }
  have x_BadHouse := exm_self (K := K) (S := C_BadHouse) eC_BadHouse iC_BadHouse tC_BadHouse sC_BadHouse
  have T_BadText : PySem.BadX.BadTxt P K mg "BadText" "line" C_BadText :=
    { gC := PySem.W.mg_of X G aC_BadText, cls := ⟨_, _, _, _, _, _, _, _, _, _, _, _, _, _, _, _, _, _, _, PySem.BadX.base_VE, xL_BadText, ⟨[A_BadText_0], rfl⟩, al_BadText, sB_BadText⟩,
      fn := ⟨fI_BadText, cc_BadText, cda_BadText, oc_BadText, od_BadText, dc_BadText, pm_BadText, an_BadText, ct_BadText, sl_BadText, _, _, _, _, _, _, _, _, _, _, _, _, _, _, ccl_BadText, cl_BadText, cdd_BadText, cld_BadText, vs_BadText, ccs_BadText, csl_BadText, file_BadText, tf_BadText, l1_BadText, c1_BadText, a1_BadText, t1_BadText, lc_BadText, v2_BadText, fl_BadText, lq_BadText, ⟨fun a b => rfl, fun L => ⟨⟨_, rfl⟩, rfl, rfl⟩⟩⟩,
      htop := htop, msuper := PySem.W.mg_none_of X G z_super, sa := sa_BadText, ga := ga_BadText, gg := gg_BadText, noN := nb_BadText, kC := kC_BadText, exC := eC_BadText, tyC := tC_BadText, hdC := hC_BadText, ops := ops, nf := by decide +kernel }
  have x_BadText := exm_self (K := K) (S := C_BadText) eC_BadText iC_BadText tC_BadText sC_BadText
  have xc_BadHouse : XfC K C_BadHouse := ⟨ga_BadHouse, gg_BadHouse, eC_BadHouse, hC_BadHouse⟩
  have xc_BadText : XfC K C_BadText := ⟨ga_BadText, gg_BadText, eC_BadText, hC_BadText⟩
  have n_super := PySem.W.mg_none_of X G z_super
  have n_all := PySem.W.mg_none_of X G z_all
  have n_bool := PySem.W.mg_none_of X G z_bool
  have n_enumerate := PySem.W.mg_none_of X G z_enumerate
  have n_int := PySem.W.mg_none_of X G z_int
  have n_isinstance := PySem.W.mg_none_of X G z_isinstance
  have n_len := PySem.W.mg_none_of X G z_len
  have n_list := PySem.W.mg_none_of X G z_list
  have n_range := PySem.W.mg_none_of X G z_range
  have n_str := PySem.W.mg_none_of X G z_str
  have n_tuple := PySem.W.mg_none_of X G z_tuple
  have k_DIGITS := PySem.W.mg_of X G q_DIGITS
  have k_MOST_COLOUR := PySem.W.mg_of X G q_MOST_COLOUR
  have k_MOST_ROOMS := PySem.W.mg_of X G q_MOST_ROOMS
  have F_is_number : FunD K "is_number" "is_number" (defArgs st_is_number) (defBody st_is_number) (defScope st_is_number) [.non] [] f_is_number (PySem.W.fnOf "is_number" "is_number" (defArgs st_is_number) (defBody st_is_number) (defScope st_is_number) (.ref T_is_number) kV_is_number dc_is_number pm_is_number an_is_number cd_is_number ct_is_number) := ⟨⟨oc_is_number, od_is_number, _, kV_is_number, dc_is_number, pm_is_number, an_is_number, cd_is_number, ct_is_number, sl_is_number, rfl, l_is_number, c_is_number, .inr ⟨by simp, T_is_number, _, _, _, rfl, dl_is_number, rfl, (.cons rfl .nil)⟩, .inl rfl⟩, kp_is_number⟩
  have b_is_number_2 : Bd K (PySem.W.fnOf "is_number" "is_number" (defArgs st_is_number) (defBody st_is_number) (defScope st_is_number) (.ref T_is_number) kV_is_number dc_is_number pm_is_number an_is_number cd_is_number ct_is_number) ps_is_number [.non] := ⟨F_is_number.binds1 2 0 (by simp) (by decide) fun _ _ _ _ _ _ _ us its h1 h2 => match us, h1, its, h2 with | [_, _], _, [_], _ => ⟨_, rfl, rfl⟩⟩
  have b_is_number_3 : Bd K (PySem.W.fnOf "is_number" "is_number" (defArgs st_is_number) (defBody st_is_number) (defScope st_is_number) (.ref T_is_number) kV_is_number dc_is_number pm_is_number an_is_number cd_is_number ct_is_number) ps_is_number [] := ⟨F_is_number.binds1 3 1 (by simp) (by decide) fun _ _ _ _ _ _ _ us its h1 h2 => match us, h1, its, h2 with | [_, _, _], _, [_], _ => ⟨_, rfl, rfl⟩⟩
  have F_is_row : FunD K "is_row" "is_row" (defArgs st_is_row) (defBody st_is_row) (defScope st_is_row) [.non] [] f_is_row (PySem.W.fnOf "is_row" "is_row" (defArgs st_is_row) (defBody st_is_row) (defScope st_is_row) (.ref T_is_row) kV_is_row dc_is_row pm_is_row an_is_row cd_is_row ct_is_row) := ⟨⟨oc_is_row, od_is_row, _, kV_is_row, dc_is_row, pm_is_row, an_is_row, cd_is_row, ct_is_row, sl_is_row, rfl, l_is_row, c_is_row, .inr ⟨by simp, T_is_row, _, _, _, rfl, dl_is_row, rfl, (.cons rfl .nil)⟩, .inl rfl⟩, kp_is_row⟩
  have b_is_row_1 : Bd K (PySem.W.fnOf "is_row" "is_row" (defArgs st_is_row) (defBody st_is_row) (defScope st_is_row) (.ref T_is_row) kV_is_row dc_is_row pm_is_row an_is_row cd_is_row ct_is_row) ps_is_row [.non] := ⟨F_is_row.binds1 1 0 (by simp) (by decide) fun _ _ _ _ _ _ _ us its h1 h2 => match us, h1, its, h2 with | [_], _, [_], _ => ⟨_, rfl, rfl⟩⟩
  have b_is_row_2 : Bd K (PySem.W.fnOf "is_row" "is_row" (defArgs st_is_row) (defBody st_is_row) (defScope st_is_row) (.ref T_is_row) kV_is_row dc_is_row pm_is_row an_is_row cd_is_row ct_is_row) ps_is_row [] := ⟨F_is_row.binds1 2 1 (by simp) (by decide) fun _ _ _ _ _ _ _ us its h1 h2 => match us, h1, its, h2 with | [_, _], _, [_], _ => ⟨_, rfl, rfl⟩⟩
  have F_are_numbers : FunD K "are_numbers" "are_numbers" (defArgs st_are_numbers) (defBody st_are_numbers) (defScope st_are_numbers) [.int 0] [] f_are_numbers (PySem.W.fnOf "are_numbers" "are_numbers" (defArgs st_are_numbers) (defBody st_are_numbers) (defScope st_are_numbers) (.ref T_are_numbers) kV_are_numbers dc_are_numbers pm_are_numbers an_are_numbers cd_are_numbers ct_are_numbers) := ⟨⟨oc_are_numbers, od_are_numbers, _, kV_are_numbers, dc_are_numbers, pm_are_numbers, an_are_numbers, cd_are_numbers, ct_are_numbers, sl_are_numbers, rfl, l_are_numbers, c_are_numbers, .inr ⟨by simp, T_are_numbers, _, _, _, rfl, dl_are_numbers, rfl, (.cons ⟨_, rfl⟩ .nil)⟩, .inl rfl⟩, kp_are_numbers⟩
  have b_are_numbers_2 : Bd K (PySem.W.fnOf "are_numbers" "are_numbers" (defArgs st_are_numbers) (defBody st_are_numbers) (defScope st_are_numbers) (.ref T_are_numbers) kV_are_numbers dc_are_numbers pm_are_numbers an_are_numbers cd_are_numbers ct_are_numbers) ps_are_numbers [.int 0] := ⟨F_are_numbers.binds1 2 0 (by simp) (by decide) fun _ _ _ _ _ _ _ us its h1 h2 => match us, h1, its, h2 with | [_, _], _, [_], _ => ⟨_, rfl, rfl⟩⟩
  have F_is_door : FunD K "is_door" "is_door" (defArgs st_is_door) (defBody st_is_door) (defScope st_is_door) [] [] f_is_door (PySem.W.fnOf "is_door" "is_door" (defArgs st_is_door) (defBody st_is_door) (defScope st_is_door) .none kV_is_door dc_is_door pm_is_door an_is_door cd_is_door ct_is_door) := ⟨⟨oc_is_door, od_is_door, _, kV_is_door, dc_is_door, pm_is_door, an_is_door, cd_is_door, ct_is_door, sl_is_door, rfl, l_is_door, c_is_door, .inl ⟨rfl, rfl⟩, .inl rfl⟩, kp_is_door⟩
  have b_is_door_2 : Bd K (PySem.W.fnOf "is_door" "is_door" (defArgs st_is_door) (defBody st_is_door) (defScope st_is_door) .none kV_is_door dc_is_door pm_is_door an_is_door cd_is_door ct_is_door) ps_is_door [] := ⟨[], .nil, F_is_door.bindsN fun _ _ _ _ _ _ us hl => match us, hl with | [_, _], _ => rfl⟩
  have F_house_fault : FunD K "house_fault" "house_fault" (defArgs st_house_fault) (defBody st_house_fault) (defScope st_house_fault) [] [] f_house_fault (PySem.W.fnOf "house_fault" "house_fault" (defArgs st_house_fault) (defBody st_house_fault) (defScope st_house_fault) .none kV_house_fault dc_house_fault pm_house_fault an_house_fault cd_house_fault ct_house_fault) := ⟨⟨oc_house_fault, od_house_fault, _, kV_house_fault, dc_house_fault, pm_house_fault, an_house_fault, cd_house_fault, ct_house_fault, sl_house_fault, rfl, l_house_fault, c_house_fault, .inl ⟨rfl, rfl⟩, .inl rfl⟩, kp_house_fault⟩
  have b_house_fault_2 : Bd K (PySem.W.fnOf "house_fault" "house_fault" (defArgs st_house_fault) (defBody st_house_fault) (defScope st_house_fault) .none kV_house_fault dc_house_fault pm_house_fault an_house_fault cd_house_fault ct_house_fault) ps_house_fault [] := ⟨[], .nil, F_house_fault.bindsN fun _ _ _ _ _ _ us hl => match us, hl with | [_, _], _ => rfl⟩
  have F_need_house : FunD K "need_house" "need_house" (defArgs st_need_house) (defBody st_need_house) (defScope st_need_house) [] [] f_need_house (PySem.W.fnOf "need_house" "need_house" (defArgs st_need_house) (defBody st_need_house) (defScope st_need_house) .none kV_need_house dc_need_house pm_need_house an_need_house cd_need_house ct_need_house) := ⟨⟨oc_need_house, od_need_house, _, kV_need_house, dc_need_house, pm_need_house, an_need_house, cd_need_house, ct_need_house, sl_need_house, rfl, l_need_house, c_need_house, .inl ⟨rfl, rfl⟩, .inl rfl⟩, kp_need_house⟩
  have b_need_house_1 : Bd K (PySem.W.fnOf "need_house" "need_house" (defArgs st_need_house) (defBody st_need_house) (defScope st_need_house) .none kV_need_house dc_need_house pm_need_house an_need_house cd_need_house ct_need_house) ps_need_house [] := ⟨[], .nil, F_need_house.bindsN fun _ _ _ _ _ _ us hl => match us, hl with | [_], _ => rfl⟩
  have F_house_text : FunD K "house_text" "house_text" (defArgs st_house_text) (defBody st_house_text) (defScope st_house_text) [] [] f_house_text (PySem.W.fnOf "house_text" "house_text" (defArgs st_house_text) (defBody st_house_text) (defScope st_house_text) .none kV_house_text dc_house_text pm_house_text an_house_text cd_house_text ct_house_text) := ⟨⟨oc_house_text, od_house_text, _, kV_house_text, dc_house_text, pm_house_text, an_house_text, cd_house_text, ct_house_text, sl_house_text, rfl, l_house_text, c_house_text, .inl ⟨rfl, rfl⟩, .inl rfl⟩, kp_house_text⟩
  have b_house_text_1 : Bd K (PySem.W.fnOf "house_text" "house_text" (defArgs st_house_text) (defBody st_house_text) (defScope st_house_text) .none kV_house_text dc_house_text pm_house_text an_house_text cd_house_text ct_house_text) ps_house_text [] := ⟨[], .nil, F_house_text.bindsN fun _ _ _ _ _ _ us hl => match us, hl with | [_], _ => rfl⟩
  have b_house_text_0_house : BdK K (PySem.W.fnOf "house_text" "house_text" (defArgs st_house_text) (defBody st_house_text) (defScope st_house_text) .none kV_house_text dc_house_text pm_house_text an_house_text cd_house_text ct_house_text) ps_house_text ["house"] := ⟨fun s us ws _ hh => match us, ws, hh with | [_], [], _ => .of_eq rfl | [], [_], _ => .of_eq rfl, fun a b => a.append b⟩
  have F_number_of : FunD K "number_of" "number_of" (defArgs st_number_of) (defBody st_number_of) (defScope st_number_of) [] [] f_number_of (PySem.W.fnOf "number_of" "number_of" (defArgs st_number_of) (defBody st_number_of) (defScope st_number_of) .none kV_number_of dc_number_of pm_number_of an_number_of cd_number_of ct_number_of) := ⟨⟨oc_number_of, od_number_of, _, kV_number_of, dc_number_of, pm_number_of, an_number_of, cd_number_of, ct_number_of, sl_number_of, rfl, l_number_of, c_number_of, .inl ⟨rfl, rfl⟩, .inl rfl⟩, kp_number_of⟩
  have b_number_of_1 : Bd K (PySem.W.fnOf "number_of" "number_of" (defArgs st_number_of) (defBody st_number_of) (defScope st_number_of) .none kV_number_of dc_number_of pm_number_of an_number_of cd_number_of ct_number_of) ps_number_of [] := ⟨[], .nil, F_number_of.bindsN fun _ _ _ _ _ _ us hl => match us, hl with | [_], _ => rfl⟩
  have F_read_door : FunD K "read_door" "read_door" (defArgs st_read_door) (defBody st_read_door) (defScope st_read_door) [] [] f_read_door (PySem.W.fnOf "read_door" "read_door" (defArgs st_read_door) (defBody st_read_door) (defScope st_read_door) .none kV_read_door dc_read_door pm_read_door an_read_door cd_read_door ct_read_door) := ⟨⟨oc_read_door, od_read_door, _, kV_read_door, dc_read_door, pm_read_door, an_read_door, cd_read_door, ct_read_door, sl_read_door, rfl, l_read_door, c_read_door, .inl ⟨rfl, rfl⟩, .inl rfl⟩, kp_read_door⟩
  have b_read_door_1 : Bd K (PySem.W.fnOf "read_door" "read_door" (defArgs st_read_door) (defBody st_read_door) (defScope st_read_door) .none kV_read_door dc_read_door pm_read_door an_read_door cd_read_door ct_read_door) ps_read_door [] := ⟨[], .nil, F_read_door.bindsN fun _ _ _ _ _ _ us hl => match us, hl with | [_], _ => rfl⟩
  have F_read_house : FunD K "read_house" "read_house" (defArgs st_read_house) (defBody st_read_house) (defScope st_read_house) [] [] f_read_house (PySem.W.fnOf "read_house" "read_house" (defArgs st_read_house) (defBody st_read_house) (defScope st_read_house) .none kV_read_house dc_read_house pm_read_house an_read_house cd_read_house ct_read_house) := ⟨⟨oc_read_house, od_read_house, _, kV_read_house, dc_read_house, pm_read_house, an_read_house, cd_read_house, ct_read_house, sl_read_house, rfl, l_read_house, c_read_house, .inl ⟨rfl, rfl⟩, .inl rfl⟩, kp_read_house⟩
  have b_read_house_1 : Bd K (PySem.W.fnOf "read_house" "read_house" (defArgs st_read_house) (defBody st_read_house) (defScope st_read_house) .none kV_read_house dc_read_house pm_read_house an_read_house cd_read_house ct_read_house) ps_read_house [] := ⟨[], .nil, F_read_house.bindsN fun _ _ _ _ _ _ us hl => match us, hl with | [_], _ => rfl⟩
  have b_read_house_0_text : BdK K (PySem.W.fnOf "read_house" "read_house" (defArgs st_read_house) (defBody st_read_house) (defScope st_read_house) .none kV_read_house dc_read_house pm_read_house an_read_house cd_read_house ct_read_house) ps_read_house ["text"] := ⟨fun s us ws _ hh => match us, ws, hh with | [_], [], _ => .of_eq rfl | [], [_], _ => .of_eq rfl, fun a b => a.append b⟩
  have F__law_mixed : FunD K "_law_mixed" "_law_mixed" (defArgs st__law_mixed) (defBody st__law_mixed) (defScope st__law_mixed) [] [] f__law_mixed (PySem.W.fnOf "_law_mixed" "_law_mixed" (defArgs st__law_mixed) (defBody st__law_mixed) (defScope st__law_mixed) .none kV__law_mixed dc__law_mixed pm__law_mixed an__law_mixed cd__law_mixed ct__law_mixed) := ⟨⟨oc__law_mixed, od__law_mixed, _, kV__law_mixed, dc__law_mixed, pm__law_mixed, an__law_mixed, cd__law_mixed, ct__law_mixed, sl__law_mixed, rfl, l__law_mixed, c__law_mixed, .inl ⟨rfl, rfl⟩, .inl rfl⟩, kp__law_mixed⟩
  have b__law_mixed_2 : Bd K (PySem.W.fnOf "_law_mixed" "_law_mixed" (defArgs st__law_mixed) (defBody st__law_mixed) (defScope st__law_mixed) .none kV__law_mixed dc__law_mixed pm__law_mixed an__law_mixed cd__law_mixed ct__law_mixed) ps__law_mixed [] := ⟨[], .nil, F__law_mixed.bindsN fun _ _ _ _ _ _ us hl => match us, hl with | [_, _], _ => rfl⟩
  have F__law_folded : FunD K "_law_folded" "_law_folded" (defArgs st__law_folded) (defBody st__law_folded) (defScope st__law_folded) [] [] f__law_folded (PySem.W.fnOf "_law_folded" "_law_folded" (defArgs st__law_folded) (defBody st__law_folded) (defScope st__law_folded) .none kV__law_folded dc__law_folded pm__law_folded an__law_folded cd__law_folded ct__law_folded) := ⟨⟨oc__law_folded, od__law_folded, _, kV__law_folded, dc__law_folded, pm__law_folded, an__law_folded, cd__law_folded, ct__law_folded, sl__law_folded, rfl, l__law_folded, c__law_folded, .inl ⟨rfl, rfl⟩, .inl rfl⟩, kp__law_folded⟩
  have b__law_folded_1 : Bd K (PySem.W.fnOf "_law_folded" "_law_folded" (defArgs st__law_folded) (defBody st__law_folded) (defScope st__law_folded) .none kV__law_folded dc__law_folded pm__law_folded an__law_folded cd__law_folded ct__law_folded) ps__law_folded [] := ⟨[], .nil, F__law_folded.bindsN fun _ _ _ _ _ _ us hl => match us, hl with | [_], _ => rfl⟩
  have F__law_draw : FunD K "_law_draw" "_law_draw" (defArgs st__law_draw) (defBody st__law_draw) (defScope st__law_draw) [] [] f__law_draw (PySem.W.fnOf "_law_draw" "_law_draw" (defArgs st__law_draw) (defBody st__law_draw) (defScope st__law_draw) .none kV__law_draw dc__law_draw pm__law_draw an__law_draw cd__law_draw ct__law_draw) := ⟨⟨oc__law_draw, od__law_draw, _, kV__law_draw, dc__law_draw, pm__law_draw, an__law_draw, cd__law_draw, ct__law_draw, sl__law_draw, rfl, l__law_draw, c__law_draw, .inl ⟨rfl, rfl⟩, .inl rfl⟩, kp__law_draw⟩
  have b__law_draw_2 : Bd K (PySem.W.fnOf "_law_draw" "_law_draw" (defArgs st__law_draw) (defBody st__law_draw) (defScope st__law_draw) .none kV__law_draw dc__law_draw pm__law_draw an__law_draw cd__law_draw ct__law_draw) ps__law_draw [] := ⟨[], .nil, F__law_draw.bindsN fun _ _ _ _ _ _ us hl => match us, hl with | [_, _], _ => rfl⟩
  have F__law_begun : FunD K "_law_begun" "_law_begun" (defArgs st__law_begun) (defBody st__law_begun) (defScope st__law_begun) [] [] f__law_begun (PySem.W.fnOf "_law_begun" "_law_begun" (defArgs st__law_begun) (defBody st__law_begun) (defScope st__law_begun) .none kV__law_begun dc__law_begun pm__law_begun an__law_begun cd__law_begun ct__law_begun) := ⟨⟨oc__law_begun, od__law_begun, _, kV__law_begun, dc__law_begun, pm__law_begun, an__law_begun, cd__law_begun, ct__law_begun, sl__law_begun, rfl, l__law_begun, c__law_begun, .inl ⟨rfl, rfl⟩, .inl rfl⟩, kp__law_begun⟩
  have b__law_begun_1 : Bd K (PySem.W.fnOf "_law_begun" "_law_begun" (defArgs st__law_begun) (defBody st__law_begun) (defScope st__law_begun) .none kV__law_begun dc__law_begun pm__law_begun an__law_begun cd__law_begun ct__law_begun) ps__law_begun [] := ⟨[], .nil, F__law_begun.bindsN fun _ _ _ _ _ _ us hl => match us, hl with | [_], _ => rfl⟩
  have F__law_of : FunD K "_law_of" "_law_of" (defArgs st__law_of) (defBody st__law_of) (defScope st__law_of) [] [] f__law_of (PySem.W.fnOf "_law_of" "_law_of" (defArgs st__law_of) (defBody st__law_of) (defScope st__law_of) .none kV__law_of dc__law_of pm__law_of an__law_of cd__law_of ct__law_of) := ⟨⟨oc__law_of, od__law_of, _, kV__law_of, dc__law_of, pm__law_of, an__law_of, cd__law_of, ct__law_of, sl__law_of, rfl, l__law_of, c__law_of, .inl ⟨rfl, rfl⟩, .inl rfl⟩, kp__law_of⟩
  have b__law_of_2 : Bd K (PySem.W.fnOf "_law_of" "_law_of" (defArgs st__law_of) (defBody st__law_of) (defScope st__law_of) .none kV__law_of dc__law_of pm__law_of an__law_of cd__law_of ct__law_of) ps__law_of [] := ⟨[], .nil, F__law_of.bindsN fun _ _ _ _ _ _ us hl => match us, hl with | [_, _], _ => rfl⟩
  have F__law_like : FunD K "_law_like" "_law_like" (defArgs st__law_like) (defBody st__law_like) (defScope st__law_like) [] [] f__law_like (PySem.W.fnOf "_law_like" "_law_like" (defArgs st__law_like) (defBody st__law_like) (defScope st__law_like) .none kV__law_like dc__law_like pm__law_like an__law_like cd__law_like ct__law_like) := ⟨⟨oc__law_like, od__law_like, _, kV__law_like, dc__law_like, pm__law_like, an__law_like, cd__law_like, ct__law_like, sl__law_like, rfl, l__law_like, c__law_like, .inl ⟨rfl, rfl⟩, .inl rfl⟩, kp__law_like⟩
  have b__law_like_2 : Bd K (PySem.W.fnOf "_law_like" "_law_like" (defArgs st__law_like) (defBody st__law_like) (defScope st__law_like) .none kV__law_like dc__law_like pm__law_like an__law_like cd__law_like ct__law_like) ps__law_like [] := ⟨[], .nil, F__law_like.bindsN fun _ _ _ _ _ _ us hl => match us, hl with | [_, _], _ => rfl⟩
  have F__law_house : FunD K "_law_house" "_law_house" (defArgs st__law_house) (defBody st__law_house) (defScope st__law_house) [] [] f__law_house (PySem.W.fnOf "_law_house" "_law_house" (defArgs st__law_house) (defBody st__law_house) (defScope st__law_house) .none kV__law_house dc__law_house pm__law_house an__law_house cd__law_house ct__law_house) := ⟨⟨oc__law_house, od__law_house, _, kV__law_house, dc__law_house, pm__law_house, an__law_house, cd__law_house, ct__law_house, sl__law_house, rfl, l__law_house, c__law_house, .inl ⟨rfl, rfl⟩, .inl rfl⟩, kp__law_house⟩
  have b__law_house_3 : Bd K (PySem.W.fnOf "_law_house" "_law_house" (defArgs st__law_house) (defBody st__law_house) (defScope st__law_house) .none kV__law_house dc__law_house pm__law_house an__law_house cd__law_house ct__law_house) ps__law_house [] := ⟨[], .nil, F__law_house.bindsN fun _ _ _ _ _ _ us hl => match us, hl with | [_, _, _], _ => rfl⟩
  have F__law_text : FunD K "_law_text" "_law_text" (defArgs st__law_text) (defBody st__law_text) (defScope st__law_text) [] [] f__law_text (PySem.W.fnOf "_law_text" "_law_text" (defArgs st__law_text) (defBody st__law_text) (defScope st__law_text) .none kV__law_text dc__law_text pm__law_text an__law_text cd__law_text ct__law_text) := ⟨⟨oc__law_text, od__law_text, _, kV__law_text, dc__law_text, pm__law_text, an__law_text, cd__law_text, ct__law_text, sl__law_text, rfl, l__law_text, c__law_text, .inl ⟨rfl, rfl⟩, .inl rfl⟩, kp__law_text⟩
  have b__law_text_1 : Bd K (PySem.W.fnOf "_law_text" "_law_text" (defArgs st__law_text) (defBody st__law_text) (defScope st__law_text) .none kV__law_text dc__law_text pm__law_text an__law_text cd__law_text ct__law_text) ps__law_text [] := ⟨[], .nil, F__law_text.bindsN fun _ _ _ _ _ _ us hl => match us, hl with | [_], _ => rfl⟩
  have F__law_number : FunD K "_law_number" "_law_number" (defArgs st__law_number) (defBody st__law_number) (defScope st__law_number) [] [] f__law_number (PySem.W.fnOf "_law_number" "_law_number" (defArgs st__law_number) (defBody st__law_number) (defScope st__law_number) .none kV__law_number dc__law_number pm__law_number an__law_number cd__law_number ct__law_number) := ⟨⟨oc__law_number, od__law_number, _, kV__law_number, dc__law_number, pm__law_number, an__law_number, cd__law_number, ct__law_number, sl__law_number, rfl, l__law_number, c__law_number, .inl ⟨rfl, rfl⟩, .inl rfl⟩, kp__law_number⟩
  have b__law_number_1 : Bd K (PySem.W.fnOf "_law_number" "_law_number" (defArgs st__law_number) (defBody st__law_number) (defScope st__law_number) .none kV__law_number dc__law_number pm__law_number an__law_number cd__law_number ct__law_number) ps__law_number [] := ⟨[], .nil, F__law_number.bindsN fun _ _ _ _ _ _ us hl => match us, hl with | [_], _ => rfl⟩
  have F__law_due : FunD K "_law_due" "_law_due" (defArgs st__law_due) (defBody st__law_due) (defScope st__law_due) [] [] f__law_due (PySem.W.fnOf "_law_due" "_law_due" (defArgs st__law_due) (defBody st__law_due) (defScope st__law_due) .none kV__law_due dc__law_due pm__law_due an__law_due cd__law_due ct__law_due) := ⟨⟨oc__law_due, od__law_due, _, kV__law_due, dc__law_due, pm__law_due, an__law_due, cd__law_due, ct__law_due, sl__law_due, rfl, l__law_due, c__law_due, .inl ⟨rfl, rfl⟩, .inl rfl⟩, kp__law_due⟩
  have b__law_due_1 : Bd K (PySem.W.fnOf "_law_due" "_law_due" (defArgs st__law_due) (defBody st__law_due) (defScope st__law_due) .none kV__law_due dc__law_due pm__law_due an__law_due cd__law_due ct__law_due) ps__law_due [] := ⟨[], .nil, F__law_due.bindsN fun _ _ _ _ _ _ us hl => match us, hl with | [_], _ => rfl⟩
  have F__law_bent : FunD K "_law_bent" "_law_bent" (defArgs st__law_bent) (defBody st__law_bent) (defScope st__law_bent) [] [] f__law_bent (PySem.W.fnOf "_law_bent" "_law_bent" (defArgs st__law_bent) (defBody st__law_bent) (defScope st__law_bent) .none kV__law_bent dc__law_bent pm__law_bent an__law_bent cd__law_bent ct__law_bent) := ⟨⟨oc__law_bent, od__law_bent, _, kV__law_bent, dc__law_bent, pm__law_bent, an__law_bent, cd__law_bent, ct__law_bent, sl__law_bent, rfl, l__law_bent, c__law_bent, .inl ⟨rfl, rfl⟩, .inl rfl⟩, kp__law_bent⟩
  have b__law_bent_2 : Bd K (PySem.W.fnOf "_law_bent" "_law_bent" (defArgs st__law_bent) (defBody st__law_bent) (defScope st__law_bent) .none kV__law_bent dc__law_bent pm__law_bent an__law_bent cd__law_bent ct__law_bent) ps__law_bent [] := ⟨[], .nil, F__law_bent.bindsN fun _ _ _ _ _ _ us hl => match us, hl with | [_, _], _ => rfl⟩
  have F__law_read : FunD K "_law_read" "_law_read" (defArgs st__law_read) (defBody st__law_read) (defScope st__law_read) [] [] f__law_read (PySem.W.fnOf "_law_read" "_law_read" (defArgs st__law_read) (defBody st__law_read) (defScope st__law_read) .none kV__law_read dc__law_read pm__law_read an__law_read cd__law_read ct__law_read) := ⟨⟨oc__law_read, od__law_read, _, kV__law_read, dc__law_read, pm__law_read, an__law_read, cd__law_read, ct__law_read, sl__law_read, rfl, l__law_read, c__law_read, .inl ⟨rfl, rfl⟩, .inl rfl⟩, kp__law_read⟩
  have b__law_read_1 : Bd K (PySem.W.fnOf "_law_read" "_law_read" (defArgs st__law_read) (defBody st__law_read) (defScope st__law_read) .none kV__law_read dc__law_read pm__law_read an__law_read cd__law_read ct__law_read) ps__law_read [] := ⟨[], .nil, F__law_read.bindsN fun _ _ _ _ _ _ us hl => match us, hl with | [_], _ => rfl⟩
  have F__law_refused : FunD K "_law_refused" "_law_refused" (defArgs st__law_refused) (defBody st__law_refused) (defScope st__law_refused) [] [] f__law_refused (PySem.W.fnOf "_law_refused" "_law_refused" (defArgs st__law_refused) (defBody st__law_refused) (defScope st__law_refused) .none kV__law_refused dc__law_refused pm__law_refused an__law_refused cd__law_refused ct__law_refused) := ⟨⟨oc__law_refused, od__law_refused, _, kV__law_refused, dc__law_refused, pm__law_refused, an__law_refused, cd__law_refused, ct__law_refused, sl__law_refused, rfl, l__law_refused, c__law_refused, .inl ⟨rfl, rfl⟩, .inl rfl⟩, kp__law_refused⟩
  have b__law_refused_1 : Bd K (PySem.W.fnOf "_law_refused" "_law_refused" (defArgs st__law_refused) (defBody st__law_refused) (defScope st__law_refused) .none kV__law_refused dc__law_refused pm__law_refused an__law_refused cd__law_refused ct__law_refused) ps__law_refused [] := ⟨[], .nil, F__law_refused.bindsN fun _ _ _ _ _ _ us hl => match us, hl with | [_], _ => rfl⟩
  have F_law : FunD K "law" "law" (defArgs st_law) (defBody st_law) (defScope st_law) [] [] f_law (PySem.W.fnOf "law" "law" (defArgs st_law) (defBody st_law) (defScope st_law) .none kV_law dc_law pm_law an_law cd_law ct_law) := ⟨⟨oc_law, od_law, _, kV_law, dc_law, pm_law, an_law, cd_law, ct_law, sl_law, rfl, l_law, c_law, .inl ⟨rfl, rfl⟩, .inl rfl⟩, kp_law⟩
  refine ⟨(PySem.W.fnOf "law" "law" (defArgs st_law) (defBody st_law) (defScope st_law) .none kV_law dc_law pm_law an_law cd_law ct_law), fun s u => .of_eq rfl, fun base _ _ => ?_⟩
  have g_is_number : GF P w K mg base "is_number" ps_is_number 3 (sp_is_number (⟨K, C_BadHouse, C_BadText, x_BadHouse, x_BadText⟩ : Cs)) f_is_number _ := okd_is_number (cs := (⟨K, C_BadHouse, C_BadText, x_BadHouse, x_BadText⟩ : Cs)) (n_bool := n_bool) (n_int := n_int) (n_isinstance := n_isinstance) F_is_number (PySem.W.mg_of X G a_is_number)
  have g_is_row : GF P w K mg base "is_row" ps_is_row 3 (sp_is_row (⟨K, C_BadHouse, C_BadText, x_BadHouse, x_BadText⟩ : Cs)) f_is_row _ := okd_is_row (cs := (⟨K, C_BadHouse, C_BadText, x_BadHouse, x_BadText⟩ : Cs)) (n_isinstance := n_isinstance) (n_len := n_len) (n_tuple := n_tuple) F_is_row (PySem.W.mg_of X G a_is_row)
  have g_are_numbers : GF P w K mg base "are_numbers" ps_are_numbers 4 (sp_are_numbers (⟨K, C_BadHouse, C_BadText, x_BadHouse, x_BadText⟩ : Cs)) f_are_numbers _ := okd_are_numbers (cs := (⟨K, C_BadHouse, C_BadText, x_BadHouse, x_BadText⟩ : Cs)) (g_is_number := g_is_number) (g_is_row := g_is_row) (n_all := n_all) (b_is_number_3 := b_is_number_3) (b_is_row_1 := b_is_row_1) F_are_numbers (PySem.W.mg_of X G a_are_numbers)
  have g_is_door : GF P w K mg base "is_door" ps_is_door 4 (sp_is_door (⟨K, C_BadHouse, C_BadText, x_BadHouse, x_BadText⟩ : Cs)) f_is_door _ := okd_is_door (cs := (⟨K, C_BadHouse, C_BadText, x_BadHouse, x_BadText⟩ : Cs)) (g_is_number := g_is_number) (g_is_row := g_is_row) (b_is_number_2 := b_is_number_2) (b_is_number_3 := b_is_number_3) (b_is_row_2 := b_is_row_2) F_is_door (PySem.W.mg_of X G a_is_door)
  have g_house_fault : GF P w K mg base "house_fault" ps_house_fault 5 (sp_house_fault (⟨K, C_BadHouse, C_BadText, x_BadHouse, x_BadText⟩ : Cs)) f_house_fault _ := okd_house_fault (cs := (⟨K, C_BadHouse, C_BadText, x_BadHouse, x_BadText⟩ : Cs)) (k_MOST_COLOUR := k_MOST_COLOUR) (g_are_numbers := g_are_numbers) (g_is_door := g_is_door) (g_is_row := g_is_row) (n_enumerate := n_enumerate) (n_len := n_len) (b_are_numbers_2 := b_are_numbers_2) (b_is_door_2 := b_is_door_2) (b_is_row_1 := b_is_row_1) (b_is_row_2 := b_is_row_2) F_house_fault (PySem.W.mg_of X G a_house_fault)
  have g_need_house : GF P w K mg base "need_house" ps_need_house 6 (sp_need_house (⟨K, C_BadHouse, C_BadText, x_BadHouse, x_BadText⟩ : Cs)) f_need_house _ := okd_need_house (cs := (⟨K, C_BadHouse, C_BadText, x_BadHouse, x_BadText⟩ : Cs)) (k_MOST_ROOMS := k_MOST_ROOMS) (g_house_fault := g_house_fault) (T_BadHouse := T_BadHouse) (b_house_fault_2 := b_house_fault_2) F_need_house (PySem.W.mg_of X G a_need_house)
  have g_house_text : GF P w K mg base "house_text" ps_house_text 7 (sp_house_text (⟨K, C_BadHouse, C_BadText, x_BadHouse, x_BadText⟩ : Cs)) f_house_text _ := okd_house_text (cs := (⟨K, C_BadHouse, C_BadText, x_BadHouse, x_BadText⟩ : Cs)) (g_need_house := g_need_house) (n_str := n_str) (b_need_house_1 := b_need_house_1) F_house_text (PySem.W.mg_of X G a_house_text)
  have g_number_of : GF P w K mg base "number_of" ps_number_of 3 (sp_number_of (⟨K, C_BadHouse, C_BadText, x_BadHouse, x_BadText⟩ : Cs)) f_number_of _ := okd_number_of (cs := (⟨K, C_BadHouse, C_BadText, x_BadHouse, x_BadText⟩ : Cs)) (k_DIGITS := k_DIGITS) (n_all := n_all) (n_int := n_int) (n_len := n_len) F_number_of (PySem.W.mg_of X G a_number_of)
  have g_read_door : GF P w K mg base "read_door" ps_read_door 4 (sp_read_door (⟨K, C_BadHouse, C_BadText, x_BadHouse, x_BadText⟩ : Cs)) f_read_door _ := okd_read_door (cs := (⟨K, C_BadHouse, C_BadText, x_BadHouse, x_BadText⟩ : Cs)) (g_number_of := g_number_of) (b_number_of_1 := b_number_of_1) F_read_door (PySem.W.mg_of X G a_read_door)
  have g_read_house : GF P w K mg base "read_house" ps_read_house 6 (sp_read_house (⟨K, C_BadHouse, C_BadText, x_BadHouse, x_BadText⟩ : Cs)) f_read_house _ := okd_read_house (cs := (⟨K, C_BadHouse, C_BadText, x_BadHouse, x_BadText⟩ : Cs)) (k_DIGITS := k_DIGITS) (k_MOST_ROOMS := k_MOST_ROOMS) (g_house_fault := g_house_fault) (g_read_door := g_read_door) (n_all := n_all) (n_int := n_int) (n_isinstance := n_isinstance) (n_str := n_str) (n_tuple := n_tuple) (T_BadText := T_BadText) (b_house_fault_2 := b_house_fault_2) (b_read_door_1 := b_read_door_1) F_read_house (PySem.W.mg_of X G a_read_house)
  have g__law_mixed : GF P w K mg base "_law_mixed" ps__law_mixed 3 (sp__law_mixed (⟨K, C_BadHouse, C_BadText, x_BadHouse, x_BadText⟩ : Cs)) f__law_mixed _ := okd__law_mixed (cs := (⟨K, C_BadHouse, C_BadText, x_BadHouse, x_BadText⟩ : Cs)) (n_int := n_int) F__law_mixed (PySem.W.mg_of X G a__law_mixed)
  have g__law_folded : GF P w K mg base "_law_folded" ps__law_folded 3 (sp__law_folded (⟨K, C_BadHouse, C_BadText, x_BadHouse, x_BadText⟩ : Cs)) f__law_folded _ := okd__law_folded (cs := (⟨K, C_BadHouse, C_BadText, x_BadHouse, x_BadText⟩ : Cs)) (n_enumerate := n_enumerate) (n_int := n_int) (n_range := n_range) F__law_folded (PySem.W.mg_of X G a__law_folded)
  have g__law_draw : GF P w K mg base "_law_draw" ps__law_draw 4 (sp__law_draw (⟨K, C_BadHouse, C_BadText, x_BadHouse, x_BadText⟩ : Cs)) f__law_draw _ := okd__law_draw (cs := (⟨K, C_BadHouse, C_BadText, x_BadHouse, x_BadText⟩ : Cs)) (g__law_mixed := g__law_mixed) (n_int := n_int) (n_len := n_len) (b__law_mixed_2 := b__law_mixed_2) F__law_draw (PySem.W.mg_of X G a__law_draw)
  have g__law_begun : GF P w K mg base "_law_begun" ps__law_begun 4 (sp__law_begun (⟨K, C_BadHouse, C_BadText, x_BadHouse, x_BadText⟩ : Cs)) f__law_begun _ := okd__law_begun (cs := (⟨K, C_BadHouse, C_BadText, x_BadHouse, x_BadText⟩ : Cs)) (g__law_folded := g__law_folded) (b__law_folded_1 := b__law_folded_1) F__law_begun (PySem.W.mg_of X G a__law_begun)
  have g__law_of : GF P w K mg base "_law_of" ps__law_of 5 (sp__law_of (⟨K, C_BadHouse, C_BadText, x_BadHouse, x_BadText⟩ : Cs)) f__law_of _ := okd__law_of (cs := (⟨K, C_BadHouse, C_BadText, x_BadHouse, x_BadText⟩ : Cs)) (g__law_draw := g__law_draw) (n_len := n_len) (b__law_draw_2 := b__law_draw_2) F__law_of (PySem.W.mg_of X G a__law_of)
  have g__law_like : GF P w K mg base "_law_like" ps__law_like 9 (sp__law_like (⟨K, C_BadHouse, C_BadText, x_BadHouse, x_BadText⟩ : Cs) 6) f__law_like _ := okd__law_like (cs := (⟨K, C_BadHouse, C_BadText, x_BadHouse, x_BadText⟩ : Cs)) (n_bool := n_bool) (n_int := n_int) (n_isinstance := n_isinstance) (n_len := n_len) (n_list := n_list) (n_range := n_range) (n_str := n_str) (n_tuple := n_tuple) (b__law_like_2 := b__law_like_2) F__law_like (PySem.W.mg_of X G a__law_like)
  have g__law_house : GF P w K mg base "_law_house" ps__law_house 5 (sp__law_house (⟨K, C_BadHouse, C_BadText, x_BadHouse, x_BadText⟩ : Cs)) f__law_house _ := okd__law_house (cs := (⟨K, C_BadHouse, C_BadText, x_BadHouse, x_BadText⟩ : Cs)) (g__law_draw := g__law_draw) (n_range := n_range) (n_tuple := n_tuple) (b__law_draw_2 := b__law_draw_2) F__law_house (PySem.W.mg_of X G a__law_house)
  have g__law_text : GF P w K mg base "_law_text" ps__law_text 3 (sp__law_text (⟨K, C_BadHouse, C_BadText, x_BadHouse, x_BadText⟩ : Cs)) f__law_text _ := okd__law_text (cs := (⟨K, C_BadHouse, C_BadText, x_BadHouse, x_BadText⟩ : Cs)) (n_str := n_str) F__law_text (PySem.W.mg_of X G a__law_text)
  have g__law_number : GF P w K mg base "_law_number" ps__law_number 3 (sp__law_number (⟨K, C_BadHouse, C_BadText, x_BadHouse, x_BadText⟩ : Cs)) f__law_number _ := okd__law_number (cs := (⟨K, C_BadHouse, C_BadText, x_BadHouse, x_BadText⟩ : Cs)) (n_int := n_int) (n_len := n_len) F__law_number (PySem.W.mg_of X G a__law_number)
  have g__law_due : GF P w K mg base "_law_due" ps__law_due 4 (sp__law_due (⟨K, C_BadHouse, C_BadText, x_BadHouse, x_BadText⟩ : Cs)) f__law_due _ := okd__law_due (cs := (⟨K, C_BadHouse, C_BadText, x_BadHouse, x_BadText⟩ : Cs)) (g__law_number := g__law_number) (n_int := n_int) (n_len := n_len) (n_tuple := n_tuple) (b__law_number_1 := b__law_number_1) F__law_due (PySem.W.mg_of X G a__law_due)
  have g__law_bent : GF P w K mg base "_law_bent" ps__law_bent 6 (sp__law_bent (⟨K, C_BadHouse, C_BadText, x_BadHouse, x_BadText⟩ : Cs)) f__law_bent _ := okd__law_bent (cs := (⟨K, C_BadHouse, C_BadText, x_BadHouse, x_BadText⟩ : Cs)) (g__law_draw := g__law_draw) (g__law_of := g__law_of) (n_len := n_len) (b__law_draw_2 := b__law_draw_2) (b__law_of_2 := b__law_of_2) F__law_bent (PySem.W.mg_of X G a__law_bent)
  have g__law_read : GF P w K mg base "_law_read" ps__law_read 7 (sp__law_read (⟨K, C_BadHouse, C_BadText, x_BadHouse, x_BadText⟩ : Cs)) f__law_read _ := okd__law_read (cs := (⟨K, C_BadHouse, C_BadText, x_BadHouse, x_BadText⟩ : Cs)) (g_read_house := g_read_house) (b_read_house_1 := b_read_house_1) (gC_BadText := (PySem.W.mg_of X G aC_BadText)) (xn_BadText_line := nb_BadText) (xc_BadText := xc_BadText) F__law_read (PySem.W.mg_of X G a__law_read)
  have g__law_refused : GF P w K mg base "_law_refused" ps__law_refused 8 (sp__law_refused (⟨K, C_BadHouse, C_BadText, x_BadHouse, x_BadText⟩ : Cs)) f__law_refused _ := okd__law_refused (cs := (⟨K, C_BadHouse, C_BadText, x_BadHouse, x_BadText⟩ : Cs)) (g_house_text := g_house_text) (b_house_text_1 := b_house_text_1) (gC_BadHouse := (PySem.W.mg_of X G aC_BadHouse)) (xn_BadHouse_place := nb_BadHouse) (xc_BadHouse := xc_BadHouse) F__law_refused (PySem.W.mg_of X G a__law_refused)
  have g_law : GF P w K mg base "law" ps_law 10 (sp_law (⟨K, C_BadHouse, C_BadText, x_BadHouse, x_BadText⟩ : Cs)) f_law _ := okd_law (cs := (⟨K, C_BadHouse, C_BadText, x_BadHouse, x_BadText⟩ : Cs)) (g__law_begun := g__law_begun) (g__law_bent := g__law_bent) (g__law_draw := g__law_draw) (g__law_due := g__law_due) (g__law_house := g__law_house) (g__law_like := g__law_like) (g__law_read := g__law_read) (g__law_refused := g__law_refused) (g__law_text := g__law_text) (g_house_text := g_house_text) (g_read_house := g_read_house) (n_range := n_range) (b__law_begun_1 := b__law_begun_1) (b__law_bent_2 := b__law_bent_2) (b__law_draw_2 := b__law_draw_2) (b__law_due_1 := b__law_due_1) (b__law_house_3 := b__law_house_3) (b__law_like_2 := b__law_like_2) (b__law_read_1 := b__law_read_1) (b__law_refused_1 := b__law_refused_1) (b__law_text_1 := b__law_text_1) (b_house_text_1 := b_house_text_1) (b_read_house_1 := b_read_house_1) (b_house_text_0_house := b_house_text_0_house) (b_read_house_0_text := b_read_house_0_text) F_law (PySem.W.mg_of X G a_law)
  exact g_law.ok
theorem law_sp {K : PySem.W.Frag} {H : Hp} {a : Addr} {ns : List Int} (hl : ns.length ≤ 63) (hS : SqL K H a (ns.map V.int)) : lift (spL K) [.ref a] H (fun v _ => v = .bl true) fun _ _ _ => False := by
  refine ⟨[.scr K a ns], [], fun d _ => d = .bl true, fun _ _ _ => False, .cons ?_ .nil, ⟨List.nodup_nil, fun p hp => by cases hp⟩, ⟨a, ns, rfl, hl, rfl, fun _ => rfl⟩, fun v H' d m' e f r st => ?_, fun _ _ _ _ _ p => p.elim⟩
  · rcases hS with (h | ⟨o, h⟩) | h
    · exact .scr1 h (.inl rfl) (by simp [dom])
    · exact .scr1 h (.inr ⟨o, rfl⟩) (by simp [dom])
    · exact .scr2 h
  · subst e
    cases r
    rfl
end Dz
open PySem PySem.W PyProof.Rows
set_option maxRecDepth 100000 in
set_option maxHeartbeats 0 in
theorem PySem.Challenge.cw_toldbyplans_k05_texts_of_houses_holds : PySem.Challenge.rw_toldbyplans_k05_texts_of_houses.Holds := by
  w_on; o_law; k_head; (case hw => w_witness2)
  k_fill
  refine L2.walk_of (l := PySem.Challenge.rw_toldbyplans_k05_texts_of_houses) (n := 63) (k := 10) (x := "script") (CX := fun w => L2.CX (PySem.Challenge.rw_toldbyplans_k05_texts_of_houses).prog w) (sp := fun w => Dz.lift (Dz.spL _)) rfl (by decide) rfl ⟨rfl, by decide, by decide⟩ (fun w h Y => PySem.W.kIn_of Y) ?F (fun _ _ a ns hl _ hS => Dz.law_sp hl hS) (fun _ _ _ _ _ h => by obtain ⟨_, _, _, _, _, _, _, _, _, _, _, _, z⟩ := h; exact z)
  case F =>
    intro w mg fa h KX G hmg
    refine' Dz.all_mk KX G hmg ?z_all ?z_bool ?z_enumerate ?z_int ?z_isinstance ?z_len ?z_list ?z_range ?z_str ?z_tuple ?q_DIGITS ?q_MOST_COLOUR ?q_MOST_ROOMS ?z_super ?ops ?aC_BadHouse ?xL_BadHouse ?al_BadHouse ?sB_BadHouse ?a1_BadHouse ?t1_BadHouse ?l1_BadHouse ?c1_BadHouse ?lc_BadHouse ?v2_BadHouse ?fl_BadHouse ?lq_BadHouse ?sa_BadHouse ?ga_BadHouse ?gg_BadHouse ?nb_BadHouse ?kC_BadHouse ?eC_BadHouse ?tC_BadHouse ?hC_BadHouse ?iC_BadHouse ?sC_BadHouse ?aC_BadText ?xL_BadText ?al_BadText ?sB_BadText ?a1_BadText ?t1_BadText ?l1_BadText ?c1_BadText ?lc_BadText ?v2_BadText ?fl_BadText ?lq_BadText ?sa_BadText ?ga_BadText ?gg_BadText ?nb_BadText ?kC_BadText ?eC_BadText ?tC_BadText ?hC_BadText ?iC_BadText ?sC_BadText ?a_is_number ?l_is_number ?c_is_number ?kp_is_number ?dl_is_number ?a_is_row ?l_is_row ?c_is_row ?kp_is_row ?dl_is_row ?a_are_numbers ?l_are_numbers ?c_are_numbers ?kp_are_numbers ?dl_are_numbers ?a_is_door ?l_is_door ?c_is_door ?kp_is_door ?a_house_fault ?l_house_fault ?c_house_fault ?kp_house_fault ?a_need_house ?l_need_house ?c_need_house ?kp_need_house ?a_house_text ?l_house_text ?c_house_text ?kp_house_text ?a_number_of ?l_number_of ?c_number_of ?kp_number_of ?a_read_door ?l_read_door ?c_read_door ?kp_read_door ?a_read_house ?l_read_house ?c_read_house ?kp_read_house ?a__law_mixed ?l__law_mixed ?c__law_mixed ?kp__law_mixed ?a__law_folded ?l__law_folded ?c__law_folded ?kp__law_folded ?a__law_draw ?l__law_draw ?c__law_draw ?kp__law_draw ?a__law_begun ?l__law_begun ?c__law_begun ?kp__law_begun ?a__law_of ?l__law_of ?c__law_of ?kp__law_of ?a__law_like ?l__law_like ?c__law_like ?kp__law_like ?a__law_house ?l__law_house ?c__law_house ?kp__law_house ?a__law_text ?l__law_text ?c__law_text ?kp__law_text ?a__law_number ?l__law_number ?c__law_number ?kp__law_number ?a__law_due ?l__law_due ?c__law_due ?kp__law_due ?a__law_bent ?l__law_bent ?c__law_bent ?kp__law_bent ?a__law_read ?l__law_read ?c__law_read ?kp__law_read ?a__law_refused ?l__law_refused ?c__law_refused ?kp__law_refused ?a_law ?l_law ?c_law ?kp_law ?htop
    (case z_all => k_is)
    (case z_bool => k_is)
    (case z_enumerate => k_is)
    (case z_int => k_is)
    (case z_isinstance => k_is)
    (case z_len => k_is)
    (case z_list => k_is)
    (case z_range => k_is)
    (case z_str => k_is)
    (case z_tuple => k_is)
    (case q_DIGITS => k_is)
    (case q_MOST_COLOUR => k_is)
    (case q_MOST_ROOMS => k_is)
    (case z_super => k_is)
    (case ops => k_is)
    (case aC_BadHouse => k_is)
    (case xL_BadHouse => k_is)
    (case al_BadHouse => first | k_is | rfl | decide +kernel)
    (case sB_BadHouse => k_is)
    (case a1_BadHouse => k_is)
    (case t1_BadHouse => k_is)
    (case l1_BadHouse => k_is)
    (case c1_BadHouse => k_is)
    (case lc_BadHouse => k_is)
    (case v2_BadHouse => rfl)
    (case fl_BadHouse => first | rfl | decide +kernel)
    (case lq_BadHouse => k_is)
    (case sa_BadHouse => k_is)
    (case ga_BadHouse => k_is)
    (case gg_BadHouse => k_is)
    (case nb_BadHouse => k_is)
    (case kC_BadHouse => k_is)
    (case eC_BadHouse => k_is)
    (case tC_BadHouse => k_is)
    (case hC_BadHouse => k_is)
    (case iC_BadHouse => k_is)
    (case sC_BadHouse => first | rfl | k_is)
    (case aC_BadText => k_is)
    (case xL_BadText => k_is)
    (case al_BadText => first | k_is | rfl | decide +kernel)
    (case sB_BadText => k_is)
    (case a1_BadText => k_is)
    (case t1_BadText => k_is)
    (case l1_BadText => k_is)
    (case c1_BadText => k_is)
    (case lc_BadText => k_is)
    (case v2_BadText => rfl)
    (case fl_BadText => first | rfl | decide +kernel)
    (case lq_BadText => k_is)
    (case sa_BadText => k_is)
    (case ga_BadText => k_is)
    (case gg_BadText => k_is)
    (case nb_BadText => k_is)
    (case kC_BadText => k_is)
    (case eC_BadText => k_is)
    (case tC_BadText => k_is)
    (case hC_BadText => k_is)
    (case iC_BadText => k_is)
    (case sC_BadText => first | rfl | k_is)
    (case a_is_number => k_is)
    (case l_is_number => k_is)
    (case c_is_number => k_is)
    (case kp_is_number => k_is)
    (case dl_is_number => k_is)
    (case a_is_row => k_is)
    (case l_is_row => k_is)
    (case c_is_row => k_is)
    (case kp_is_row => k_is)
    (case dl_is_row => k_is)
    (case a_are_numbers => k_is)
    (case l_are_numbers => k_is)
    (case c_are_numbers => k_is)
    (case kp_are_numbers => k_is)
    (case dl_are_numbers => k_is)
    (case a_is_door => k_is)
    (case l_is_door => k_is)
    (case c_is_door => k_is)
    (case kp_is_door => k_is)
    (case a_house_fault => k_is)
    (case l_house_fault => k_is)
    (case c_house_fault => k_is)
    (case kp_house_fault => k_is)
    (case a_need_house => k_is)
    (case l_need_house => k_is)
    (case c_need_house => k_is)
    (case kp_need_house => k_is)
    (case a_house_text => k_is)
    (case l_house_text => k_is)
    (case c_house_text => k_is)
    (case kp_house_text => k_is)
    (case a_number_of => k_is)
    (case l_number_of => k_is)
    (case c_number_of => k_is)
    (case kp_number_of => k_is)
    (case a_read_door => k_is)
    (case l_read_door => k_is)
    (case c_read_door => k_is)
    (case kp_read_door => k_is)
    (case a_read_house => k_is)
    (case l_read_house => k_is)
    (case c_read_house => k_is)
    (case kp_read_house => k_is)
    (case a__law_mixed => k_is)
    (case l__law_mixed => k_is)
    (case c__law_mixed => k_is)
    (case kp__law_mixed => k_is)
    (case a__law_folded => k_is)
    (case l__law_folded => k_is)
    (case c__law_folded => k_is)
    (case kp__law_folded => k_is)
    (case a__law_draw => k_is)
    (case l__law_draw => k_is)
    (case c__law_draw => k_is)
    (case kp__law_draw => k_is)
    (case a__law_begun => k_is)
    (case l__law_begun => k_is)
    (case c__law_begun => k_is)
    (case kp__law_begun => k_is)
    (case a__law_of => k_is)
    (case l__law_of => k_is)
    (case c__law_of => k_is)
    (case kp__law_of => k_is)
    (case a__law_like => k_is)
    (case l__law_like => k_is)
    (case c__law_like => k_is)
    (case kp__law_like => k_is)
    (case a__law_house => k_is)
    (case l__law_house => k_is)
    (case c__law_house => k_is)
    (case kp__law_house => k_is)
    (case a__law_text => k_is)
    (case l__law_text => k_is)
    (case c__law_text => k_is)
    (case kp__law_text => k_is)
    (case a__law_number => k_is)
    (case l__law_number => k_is)
    (case c__law_number => k_is)
    (case kp__law_number => k_is)
    (case a__law_due => k_is)
    (case l__law_due => k_is)
    (case c__law_due => k_is)
    (case kp__law_due => k_is)
    (case a__law_bent => k_is)
    (case l__law_bent => k_is)
    (case c__law_bent => k_is)
    (case kp__law_bent => k_is)
    (case a__law_read => k_is)
    (case l__law_read => k_is)
    (case c__law_read => k_is)
    (case kp__law_read => k_is)
    (case a__law_refused => k_is)
    (case l__law_refused => k_is)
    (case c__law_refused => k_is)
    (case kp__law_refused => k_is)
    (case a_law => k_is)
    (case l_law => k_is)
    (case c_law => k_is)
    (case kp_law => k_is)
    (case htop => first | rfl | decide +kernel)

