import PyProof.Rows.All
import Wide.All
import OpenK.AllK
import Wide.FinOn
import HandS.ForMost
import HandS.EndBits
import HandS.Wide
import HandS.Flow
import HandS.Style
import HandS.IsInst
import HandS.TupAny
import HandS.Deep
import PyProof.P3In
import KE.GoesNew
import HandS.IterVal
import PySem.Challenge.RW_cellhall_k76_whole_counts_around_cells
set_option Elab.async false
set_option linter.all false
set_option maxRecDepth 100000
set_option maxHeartbeats 2000000
/-! DL: plain data over the hand layer: what a slot holds, as data; what a callee may change; readings over data alone. -/
namespace DL
open PySem PySem.Spec L2
open PyProof.Rows hiding St

/-! ### data -/
inductive D where
  | non | bl (b : Bool) | int (i : Int) | str (x : Str) | tup (ds : List D) | lst (ds : List D) | adr (a : Addr) | scr (ns : List Int)

def Ex (F H : Hp) : Prop := ∀ a o, F a = some o → H a = some o
theorem Ex.refl (H : Hp) : Ex H H := fun _ _ h => h
theorem Ex.trans {F G H : Hp} (a : Ex F G) (b : Ex G H) : Ex F H := fun x o h => b x o (a x o h)
theorem Ex.new {H : Hp} {p : Addr} {o : HO} (h : H p = none) : Ex H (upd H p o) := fun a u e => by
  rw [upd_ne (ne_of_none e h)]; exact e
theorem Ex.rd {F H : Hp} {a : Addr} {u : HO} (e : Ex F H) (h : Rd F a u) : Rd H a u := by
  rcases h with h | ⟨o, h⟩
  · exact .inl (e a _ h)
  · exact .inr ⟨o, e a _ h⟩
theorem Ex.l {K : PySem.W.Frag} {F H : Hp} {a : Addr} {xs : List V} (e : Ex F H) (h : SqL K F a xs) : SqL K H a xs := by
  rcases h with h | h
  · exact .inl (e.rd h)
  · exact .inr h
theorem Ex.t {K : PySem.W.Frag} {F H : Hp} {a : Addr} {xs : List V} (e : Ex F H) (h : SqT K F a xs) : SqT K H a xs := by
  rcases h with h | h
  · exact .inl (e.rd h)
  · exact .inr h

mutual
inductive Rp (K : PySem.W.Frag) (F : Hp) : V → D → Prop
  | non : Rp K F .non .non
  | bl (b : Bool) : Rp K F (.bl b) (.bl b)
  | int (i : Int) : Rp K F (.int i) (.int i)
  | str (x : Str) : Rp K F (.str x) (.str x)
  | lst {a : Addr} {xs : List V} {ds : List D} : F a = some (.lst xs) → RpA K F xs ds → Rp K F (.ref a) (.lst ds)
  | tup {a : Addr} {xs : List V} {ds : List D} : SqT K F a xs → RpA K F xs ds → Rp K F (.ref a) (.tup ds)
  | adr (a : Addr) : Rp K F (.ref a) (.adr a)
  | scr {a : Addr} {ns : List Int} : SqL K F a (ns.map V.int) → Rp K F (.ref a) (.scr ns)
inductive RpA (K : PySem.W.Frag) (F : Hp) : List V → List D → Prop
  | nil : RpA K F [] []
  | cons {v : V} {vs : List V} {d : D} {ds : List D} : Rp K F v d → RpA K F vs ds → RpA K F (v :: vs) (d :: ds)
end
mutual
theorem Rp.mono {K : PySem.W.Frag} {F H : Hp} (e : Ex F H) : ∀ {v : V} {d : D}, Rp K F v d → Rp K H v d
  | _, _, .non => .non
  | _, _, .bl b => .bl b
  | _, _, .int i => .int i
  | _, _, .str x => .str x
  | _, _, .lst h t => .lst (e _ _ h) (RpA.mono e t)
  | _, _, .tup h t => .tup (e.t h) (RpA.mono e t)
  | _, _, .adr a => .adr a
  | _, _, .scr h => .scr (e.l h)
theorem RpA.mono {K : PySem.W.Frag} {F H : Hp} (e : Ex F H) : ∀ {vs : List V} {ds : List D}, RpA K F vs ds → RpA K H vs ds
  | _, _, .nil => .nil
  | _, _, .cons h t => .cons (Rp.mono e h) (RpA.mono e t)
end
section
variable {K : PySem.W.Frag} {F H : Hp}
theorem RpA.length : ∀ {vs : List V} {ds : List D}, RpA K F vs ds → vs.length = ds.length
  | _, _, .nil => rfl
  | _, _, .cons _ t => by rw [List.length_cons, List.length_cons, RpA.length t]
theorem RpA.get : ∀ {vs : List V} {ds : List D} {i : Nat} {d : D}, RpA K F vs ds → ds[i]? = some d → ∃ v, vs[i]? = some v ∧ Rp K F v d
  | _, _, _, _, .nil, e => by simp at e
  | _, _, 0, _, .cons r _, e => by simp at e; subst e; exact ⟨_, rfl, r⟩
  | _, _, i + 1, d, .cons _ t, e => by
    obtain ⟨v, h1, h2⟩ := RpA.get (i := i) (d := d) t (by simpa using e)
    exact ⟨v, by simpa using h1, h2⟩
theorem RpA.getV : ∀ {vs : List V} {ds : List D} {i : Nat} {v : V}, RpA K F vs ds → vs[i]? = some v → ∃ d, ds[i]? = some d ∧ Rp K F v d
  | _, _, _, _, .nil, e => by simp at e
  | _, _, 0, _, .cons r _, e => by simp at e; subst e; exact ⟨_, rfl, r⟩
  | _, _, i + 1, d, .cons _ t, e => by
    obtain ⟨v, h1, h2⟩ := RpA.getV (i := i) (v := d) t (by simpa using e)
    exact ⟨v, by simpa using h1, h2⟩
theorem RpA.append : ∀ {xs ys : List V} {ds es : List D}, RpA K F xs ds → RpA K F ys es → RpA K F (xs ++ ys) (ds ++ es)
  | _, _, _, _, .nil, s => s
  | _, _, _, _, .cons r t, s => .cons r (RpA.append t s)
theorem RpA.take : ∀ {xs : List V} {ds : List D} (n : Nat), RpA K F xs ds → RpA K F (xs.take n) (ds.take n)
  | _, _, 0, _ => .nil
  | _, _, _ + 1, .nil => .nil
  | _, _, n + 1, .cons r t => .cons r (RpA.take n t)
theorem RpA.drop : ∀ {xs : List V} {ds : List D} (n : Nat), RpA K F xs ds → RpA K F (xs.drop n) (ds.drop n)
  | _, _, 0, r => r
  | _, _, _ + 1, .nil => .nil
  | _, _, n + 1, .cons _ t => RpA.drop n t
theorem RpA.set {x : V} {d : D} (r : Rp K F x d) : ∀ {xs : List V} {ds : List D} (i : Nat), RpA K F xs ds → RpA K F (xs.set i x) (ds.set i d)
  | _, _, _, .nil => .nil
  | _, _, 0, .cons _ t => .cons r t
  | _, _, i + 1, .cons q t => .cons q (RpA.set r i t)
theorem RpA.rev : ∀ {xs : List V} {ds : List D}, RpA K F xs ds → RpA K F xs.reverse ds.reverse
  | _, _, .nil => .nil
  | _, _, .cons r t => by
    rw [List.reverse_cons, List.reverse_cons]
    exact RpA.append (RpA.rev t) (.cons r .nil)
theorem RpA.ints : ∀ {ns : List Int}, RpA K F (ns.map V.int) (ns.map D.int)
  | [] => .nil
  | n :: r => .cons (.int n) RpA.ints
theorem RpA.ofInts : ∀ {vs : List V} {ns : List Int}, RpA K F vs (ns.map D.int) → vs = ns.map V.int
  | _, [], .nil => rfl
  | _, n :: r, .cons h t => by
    cases h
    rw [RpA.ofInts t]; rfl
theorem RpA.bls : ∀ {vs : List V} {bs : List Bool}, RpA K F vs (bs.map D.bl) → vs = bs.map V.bl
  | _, [], .nil => rfl
  | _, n :: r, .cons h t => by
    cases h
    rw [RpA.bls t]; rfl
end

/-! ### slots -/
/-- what an owned object holds -/
inductive OC where
  | ol (ds : List D)
inductive SV where
  | un | im (d : D) | ow (c : OC)
abbrev AR := List SV
inductive AV where
  | im (d : D) | bo (i : Nat)

def OcOk (K : PySem.W.Frag) (F H : Hp) (p : Addr) : OC → Prop
  | .ol ds => ∃ xs, H p = some (.lst xs) ∧ RpA K F xs ds
theorem OcOk.mono {K : PySem.W.Frag} {F F' H H' : Hp} {p : Addr} {c : OC} (e : Ex F F') (h : H' p = H p) (x : OcOk K F H p c) : OcOk K F' H' p c := by
  cases c with
  | ol ds =>
    obtain ⟨xs, h1, h2⟩ := x
    exact ⟨xs, h.trans h1, h2.mono e⟩
theorem OcOk.some {K : PySem.W.Frag} {F H : Hp} {p : Addr} {c : OC} (x : OcOk K F H p c) : ∃ o, H p = some o := by
  cases c with
  | ol ds =>
    obtain ⟨xs, h1, h2⟩ := x
    exact ⟨_, h1⟩

structure Sl (K : PySem.W.Frag) (F H : Hp) (ρ : AR) (σ : St) (O : Addr → Prop) : Prop where
  len : ρ.length = σ.length
  im : ∀ (i : Nat) (d : D), ρ[i]? = some (.im d) → ∃ v, σ[i]? = some (some v) ∧ Rp K F v d
  ow : ∀ (i : Nat) (c : OC), ρ[i]? = some (.ow c) → ∃ p : Addr, σ[i]? = some (some (.ref p)) ∧ O p ∧ OcOk K F H p c
  ap : ∀ (i j : Nat) (c c' : OC) (p : Addr), i ≠ j → ρ[i]? = some (.ow c) → ρ[j]? = some (.ow c') → σ[i]? = some (some (.ref p)) → σ[j]? ≠ some (some (.ref p))
  ex : Ex F H
  fo : ∀ a, O a → F a = none ∧ ∃ o, H a = some o

structure Kp (O : Addr → Prop) (F H : Hp) (O' : Addr → Prop) (F' H' : Hp) : Prop where
  h1 : ∀ a o, H a = some o → ¬ O a → H' a = some o
  h2 : Ex F F'
  h3 : ∀ a o, F' a = some o → F a = some o ∨ O a ∨ H a = none
  h4 : ∀ a, O' a → O a ∨ H a = none
theorem Kp.refl {O : Addr → Prop} {F H : Hp} : Kp O F H O F H := ⟨fun _ _ h _ => h, Ex.refl F, fun _ _ h => .inl h, fun _ h => .inl h⟩
theorem Kp.trans {O O1 O2 : Addr → Prop} {F H F1 H1 F2 H2 : Hp} (a : Kp O F H O1 F1 H1) (b : Kp O1 F1 H1 O2 F2 H2) : Kp O F H O2 F2 H2 where
  h1 := fun x o h n => b.h1 x o (a.h1 x o h n) fun z => by
    rcases a.h4 x z with q | q
    · exact n q
    · rw [h] at q; cases q
  h2 := a.h2.trans b.h2
  h3 := fun x o h => by
    have back : H1 x = none → O x ∨ H x = none := fun q => by
      by_cases hO : O x
      · exact .inl hO
      · cases e : H x with
        | none => exact .inr rfl
        | some u => rw [a.h1 x u e hO] at q; cases q
    rcases b.h3 x o h with q | q | q
    · exact a.h3 x o q
    · exact .inr (a.h4 x q)
    · exact .inr (back q)
  h4 := fun x h => by
    rcases b.h4 x h with q | q
    · exact a.h4 x q
    · by_cases hO : O x
      · exact .inl hO
      · cases e : H x with
        | none => exact .inr rfl
        | some u => rw [a.h1 x u e hO] at q; cases q

/-- only new things came -/
structure KF (F H F' H' : Hp) : Prop where
  f : Ex F F'
  h : Ex H H'
  fh : Ex F' H'
  new : ∀ a o, F' a = some o → F a = some o ∨ H a = none
theorem KF.refl {F H : Hp} (e : Ex F H) : KF F H F H := ⟨Ex.refl F, Ex.refl H, e, fun _ _ h => .inl h⟩
theorem KF.trans {F H F1 H1 F2 H2 : Hp} (a : KF F H F1 H1) (b : KF F1 H1 F2 H2) : KF F H F2 H2 :=
  ⟨a.f.trans b.f, a.h.trans b.h, b.fh, fun x o h => by
    rcases b.new x o h with q | q
    · exact a.new x o q
    · cases e : H x with
      | none => exact .inr rfl
      | some u => rw [a.h x u e] at q; cases q⟩
theorem KF.kp {F H F' H' : Hp} {O : Addr → Prop} (k : KF F H F' H') : Kp O F H O F' H' :=
  ⟨fun a o h _ => k.h a o h, k.f, fun a o h => (k.new a o h).elim .inl fun q => .inr (.inr q), fun _ h => .inl h⟩
/-- a new frozen object -/
theorem KF.put {F H : Hp} (e : Ex F H) {p : Addr} {o : HO} (hp : H p = none) : KF F H (upd F p o) (upd H p o) := by
  have fp : F p = none := by
    cases q : F p with
    | none => rfl
    | some u => rw [e p u q] at hp; cases hp
  refine ⟨Ex.new fp, Ex.new hp, fun a u h => ?_, fun a u h => ?_⟩
  · by_cases z : a = p
    · subst z; rw [upd_same] at h ⊢; exact h
    · rw [upd_ne z] at h ⊢; exact e a u h
  · by_cases z : a = p
    · subst z; exact .inr hp
    · rw [upd_ne z] at h; exact .inl h
/-- an object new to the frozen part, which is there -/
theorem KF.take {F H : Hp} (e : Ex F H) {p : Addr} {o : HO} (hp : H p = some o) (fp : F p = none) : Ex F (upd F p o) ∧ Ex (upd F p o) H := by
  refine ⟨Ex.new fp, fun a u h => ?_⟩
  by_cases z : a = p
  · subst z; rw [upd_same] at h; exact hp.trans h
  · rw [upd_ne z] at h; exact e a u h

section
variable {K : PySem.W.Frag} {F H F' H' : Hp} {ρ : AR} {σ : St} {O : Addr → Prop}
theorem Sl.kf (s : Sl K F H ρ σ O) (k : KF F H F' H') : Sl K F' H' ρ σ O where
  len := s.len
  im := fun i d e => by
    obtain ⟨v, h1, h2⟩ := s.im i d e
    exact ⟨v, h1, h2.mono k.f⟩
  ow := fun i c e => by
    obtain ⟨p, h1, h2, h3⟩ := s.ow i c e
    obtain ⟨o, ho⟩ := h3.some
    exact ⟨p, h1, h2, h3.mono k.f ((k.h p o ho).trans ho.symm)⟩
  ap := s.ap
  ex := k.fh
  fo := fun a h => by
    obtain ⟨h1, o, h2⟩ := s.fo a h
    refine ⟨?_, o, k.h a o h2⟩
    cases e : F' a with
    | none => rfl
    | some u =>
      rcases k.new a u e with q | q
      · rw [h1] at q; cases q
      · rw [h2] at q; cases q
end

/-! ### values -/
def RpV (K : PySem.W.Frag) (F : Hp) (σ : St) (v : V) : AV → Prop
  | .im d => Rp K F v d
  | .bo i => σ[i]? = some (some v)
theorem RpV.mono {K : PySem.W.Frag} {F F' : Hp} {σ : St} {v : V} {a : AV} (e : Ex F F') (h : RpV K F σ v a) : RpV K F' σ v a := by
  cases a with
  | im d => exact Rp.mono e h
  | bo i => exact h
/-- what a value reads as -/
def res (ρ : AR) : AV → Option D
  | .im d => some d
  | .bo i => match ρ[i]? with
    | some (.ow (.ol ds)) => some (.lst ds)
    | _ => none
/-- a value's first level readable in H, what is within in F -/
def RpR (K : PySem.W.Frag) (F H : Hp) (v : V) (d : D) : Prop := Rp K F v d ∨ ∃ p xs ds, v = .ref p ∧ d = .lst ds ∧ H p = some (.lst xs) ∧ RpA K F xs ds
section
variable {K : PySem.W.Frag} {F H : Hp} {ρ : AR} {σ : St} {O : Addr → Prop} {v : V} {a : AV} {d : D}
theorem res_ok (s : Sl K F H ρ σ O) (h : RpV K F σ v a) (e : res ρ a = some d) : RpR K F H v d := by
  cases a with
  | im d' =>
    cases e
    exact .inl h
  | bo i =>
    dsimp only [res] at e
    split at e
    · rename_i ds q
      cases e
      obtain ⟨p, h1, h2, xs, h3, h4⟩ := s.ow i _ q
      have h' : σ[i]? = some (some v) := h
      rw [h1] at h'
      cases h'
      exact .inr ⟨p, xs, ds, rfl, rfl, h3, h4⟩
    · cases e
theorem RpR.int (e : RpR K F H v d) {i : Int} (h : d = .int i) : v = .int i := by
  subst h
  rcases e with e | ⟨_, _, _, _, q, _⟩
  · cases e; rfl
  · cases q
theorem RpR.lst (ex : Ex F H) (e : RpR K F H v d) {ds : List D} (h : d = .lst ds) : ∃ p xs, v = .ref p ∧ H p = some (.lst xs) ∧ RpA K F xs ds := by
  subst h
  rcases e with e | ⟨p, xs, ds', rfl, q, h1, h2⟩
  · cases e with
    | lst h t => exact ⟨_, _, rfl, ex _ _ h, t⟩
  · cases q
    exact ⟨p, xs, rfl, h1, h2⟩
theorem RpR.tup (ex : Ex F H) (e : RpR K F H v d) {ds : List D} (h : d = .tup ds) : ∃ p xs, v = .ref p ∧ SqT K H p xs ∧ RpA K F xs ds := by
  subst h
  rcases e with e | ⟨p, xs, ds', rfl, q, h1, h2⟩
  · cases e with
    | tup h t => exact ⟨_, _, rfl, ex.t h, t⟩
  · cases q
theorem RpR.scr (ex : Ex F H) (e : RpR K F H v d) {ns : List Int} (h : d = .scr ns) : ∃ p, v = .ref p ∧ SqL K H p (ns.map V.int) := by
  subst h
  rcases e with e | ⟨p, xs, ds', rfl, q, h1, h2⟩
  · cases e with
    | scr h => exact ⟨_, rfl, ex.l h⟩
  · cases q
theorem RpR.str (e : RpR K F H v d) {x : Str} (h : d = .str x) : v = .str x := by
  subst h
  rcases e with e | ⟨_, _, _, _, q, _⟩
  · cases e; rfl
  · cases q
theorem RpR.bl (e : RpR K F H v d) {b : Bool} (h : d = .bl b) : v = .bl b := by
  subst h
  rcases e with e | ⟨_, _, _, _, q, _⟩
  · cases e; rfl
  · cases q
theorem RpR.non (e : RpR K F H v d) (h : d = .non) : v = .non := by
  subst h
  rcases e with e | ⟨_, _, _, _, q, _⟩
  · cases e; rfl
  · cases q
end
end DL

namespace DL
open PySem PySem.Spec L2
open PyProof.Rows hiding St

/-! ### readings over data -/
abbrev AE := AR → (AV → AR → Prop) → Prop
abbrev AT := AR → (Bool → AR → Prop) → Prop
abbrev AA := AR → (List AV → AR → Prop) → Prop
abbrev AL := AR → (List D → AR → Prop) → Prop

def RpVs (K : PySem.W.Frag) (F : Hp) (σ : St) : List V → List AV → Prop
  | [], [] => True
  | v :: vs, a :: as => RpV K F σ v a ∧ RpVs K F σ vs as
  | _, _ => False
theorem RpVs.mono {K : PySem.W.Frag} {F F' : Hp} {σ : St} (e : Ex F F') : ∀ {vs : List V} {as : List AV}, RpVs K F σ vs as → RpVs K F' σ vs as
  | [], [], _ => True.intro
  | _ :: _, _ :: _, ⟨h, t⟩ => ⟨h.mono e, RpVs.mono e t⟩
  | [], _ :: _, h => False.elim h
  | _ :: _, [], h => False.elim h
theorem RpVs.length {K : PySem.W.Frag} {F : Hp} {σ : St} : ∀ {vs : List V} {as : List AV}, RpVs K F σ vs as → vs.length = as.length
  | [], [], _ => rfl
  | _ :: _, _ :: _, ⟨_, t⟩ => by rw [List.length_cons, List.length_cons, RpVs.length t]
  | [], _ :: _, h => False.elim h
  | _ :: _, [], h => False.elim h
theorem RpVs.get {K : PySem.W.Frag} {F : Hp} {σ : St} : ∀ {vs : List V} {as : List AV} {j : Nat} {a : AV}, RpVs K F σ vs as → as[j]? = some a → ∃ v, vs[j]? = some v ∧ RpV K F σ v a
  | [], [], _, _, _, e => by simp at e
  | v :: _, a :: _, 0, _, ⟨h, _⟩, e => by simp at e; subst e; exact ⟨v, rfl, h⟩
  | _ :: _, _ :: _, j + 1, a, ⟨_, t⟩, e => by
    obtain ⟨v, h1, h2⟩ := RpVs.get (j := j) (a := a) t (by simpa using e)
    exact ⟨v, by simpa using h1, h2⟩
  | [], _ :: _, _, _, h, _ => False.elim h
  | _ :: _, [], _, _, h, _ => False.elim h

def LkE (K : PySem.W.Frag) (te : TE) (ae : AE) : Prop := ∀ (ρ : AR) (k : AV → AR → Prop), ae ρ k → ∀ (σ : St) (F H : Hp) (O : Addr → Prop), Sl K F H ρ σ O → ∀ Q : VK,
  (∀ v a ρ' F' H', Kp O F H O F' H' → Sl K F' H' ρ' σ O → RpV K F' σ v a → k a ρ' → Q v H') → te σ H Q
def LkT (K : PySem.W.Frag) (tt : TT) (at_ : AT) : Prop := ∀ (ρ : AR) (k : Bool → AR → Prop), at_ ρ k → ∀ (σ : St) (F H : Hp) (O : Addr → Prop), Sl K F H ρ σ O → ∀ Q : Bool → Hp → Prop,
  (∀ b ρ' F' H', Kp O F H O F' H' → Sl K F' H' ρ' σ O → k b ρ' → Q b H') → tt σ H Q
def LkA (K : PySem.W.Frag) (ta : TA) (aa : AA) : Prop := ∀ (ρ : AR) (k : List AV → AR → Prop), aa ρ k → ∀ (σ : St) (F H : Hp) (O : Addr → Prop), Sl K F H ρ σ O → ∀ Q : List V → Hp → Prop,
  (∀ vs as ρ' F' H', Kp O F H O F' H' → Sl K F' H' ρ' σ O → RpVs K F' σ vs as → k as ρ' → Q vs H') → ta σ H Q
/-- a new list, not yet frozen -/
def LkL (K : PySem.W.Frag) (te : TE) (al : AL) : Prop := ∀ (ρ : AR) (k : List D → AR → Prop), al ρ k → ∀ (σ : St) (F H : Hp) (O : Addr → Prop), Sl K F H ρ σ O → ∀ Q : VK,
  (∀ p xs ds ρ' F' H', Kp O F H O F' H' → Sl K F' H' ρ' σ O → H' p = some (.lst xs) → F' p = none → ¬ O p → H p = none → RpA K F' xs ds → k ds ρ' → Q (.ref p) H') → te σ H Q

structure GE (X : Cx) (e : Expr) (te : TE) (ae : AE) : Prop where
  pe : PE X e te
  lk : LkE X.K te ae
structure GL (X : Cx) (e : Expr) (te : TE) (al : AL) : Prop where
  pe : PE X e te
  lk : LkL X.K te al
structure GT (X : Cx) (e : Expr) (tt : TT) (at_ : AT) : Prop where
  pt : PT X e tt
  lk : LkT X.K tt at_
structure GW (X : Cx) (e : Expr) (tt : TT) (at_ : AT) : Prop where
  pw : PW X e tt
  lk : LkT X.K tt at_
structure GA (X : Cx) (es : List Expr) (ta : TA) (aa : AA) : Prop where
  pa : PA X es ta
  lk : LkA X.K ta aa

/-! ### freezing a new list -/
theorem Sl.freeze {K : PySem.W.Frag} {F H : Hp} {ρ : AR} {σ : St} {O : Addr → Prop} (s : Sl K F H ρ σ O) {p : Addr} {o : HO} (hp : H p = some o) (fp : F p = none) (nO : ¬ O p) : Sl K (upd F p o) H ρ σ O where
  len := s.len
  im := fun i d e => by
    obtain ⟨v, h1, h2⟩ := s.im i d e
    exact ⟨v, h1, h2.mono (Ex.new fp)⟩
  ow := fun i c e => by
    obtain ⟨q, h1, h2, h3⟩ := s.ow i c e
    exact ⟨q, h1, h2, h3.mono (Ex.new fp) rfl⟩
  ap := s.ap
  ex := (KF.take s.ex hp fp).2
  fo := fun a h => by
    obtain ⟨h1, h2⟩ := s.fo a h
    refine ⟨?_, h2⟩
    rw [upd_ne (show a ≠ p from fun z => nO (by rw [← z]; exact h))]
    exact h1
theorem Kp.freeze {O O' : Addr → Prop} {F H F' H' : Hp} (k : Kp O F H O' F' H') {p : Addr} {o : HO} (fp : F' p = none) (h0 : O p ∨ H p = none) : Kp O F H O' (upd F' p o) H' :=
  ⟨k.h1, k.h2.trans (Ex.new fp), fun a u e => by
    by_cases z : a = p
    · subst z; exact .inr h0
    · rw [upd_ne z] at e; exact k.h3 a u e, k.h4⟩
def aOfL (al : AL) : AE := fun ρ k => al ρ fun ds ρ' => k (.im (.lst ds)) ρ'
theorem LkL.toE {K : PySem.W.Frag} {te : TE} {al : AL} (h : LkL K te al) : LkE K te (aOfL al) := by
  intro ρ k hk σ F H O s Q hq
  refine h ρ _ hk σ F H O s Q fun p xs ds ρ' F' H' kp s' hp fp nO h0 r hk' => ?_
  exact hq (.ref p) (.im (.lst ds)) ρ' (upd F' p (.lst xs)) H' (kp.freeze fp (.inr h0)) (s'.freeze hp fp nO) (.lst upd_same (r.mono (Ex.new fp))) hk'
theorem GL.e {X : Cx} {e : Expr} {te : TE} {al : AL} (g : GL X e te al) : GE X e te (aOfL al) := ⟨g.pe, g.lk.toE⟩

/-! ### names, constants -/
def aVar (i : Nat) : AE := fun ρ k => match ρ[i]? with
  | some (.im d) => k (.im d) ρ
  | some (.ow _) => k (.bo i) ρ
  | _ => False
theorem lk_var {K : PySem.W.Frag} {i : Nat} : LkE K (tVar i) (aVar i) := by
  intro ρ k hk σ F H O s Q hq
  unfold aVar at hk
  split at hk
  · rename_i d q
    obtain ⟨v, h1, h2⟩ := s.im i d q
    exact ⟨v, h1, hq v (.im d) ρ F H Kp.refl s h2 hk⟩
  · rename_i c q
    obtain ⟨p, h1, h2, h3⟩ := s.ow i c q
    exact ⟨.ref p, h1, hq (.ref p) (.bo i) ρ F H Kp.refl s h1 hk⟩
  · exact hk.elim
def aC (d : D) : AE := fun ρ k => k (.im d) ρ
theorem lk_c {K : PySem.W.Frag} {v : V} {d : D} (r : ∀ F, Rp K F v d) : LkE K (tC v) (aC d) := fun ρ k hk σ F H O s Q hq => hq v (.im d) ρ F H Kp.refl s (r F) hk
section
variable {X : Cx}
theorem gv (i : Nat) {x : Str} {pos : Pos} (hN : X.N[i]? = some x := by rfl) (hv : Vis X.env.scope x := by first | exact Or.inl rfl | exact Or.inr (Or.inl rfl) | exact Or.inr (Or.inr rfl)) (hd : (x == ("__debug__" : Str)) = false := by decide)
    (hcd : (x == ("__classdict__" : Str)) = false := by decide) : GE X (.Name x pos) (tVar i) (aVar i) := ⟨pv i hN hv hd hcd, lk_var⟩
theorem ge_int {i j pos} : GE X (.Constant (.int i) j pos) (tC (.int i)) (aC (.int i)) := ⟨pe_int, lk_c fun _ => .int i⟩
theorem ge_bl {b j pos} : GE X (.Constant (.bool b) j pos) (tC (.bl b)) (aC (.bl b)) := ⟨pe_bl, lk_c fun _ => .bl b⟩
theorem ge_non {j pos} : GE X (.Constant .none j pos) (tC .non) (aC .non) := ⟨pe_non, lk_c fun _ => .non⟩
theorem ge_str {x j pos} : GE X (.Constant (.str x) j pos) (tC (.str x)) (aC (.str x)) := ⟨pe_str, lk_c fun _ => .str x⟩
theorem ge_glob {x : Str} {pos : Pos} {v : V} {u : Value} {d : D} (hm : X.mg x = some u) (r : RelV v u) (rd : ∀ F, Rp X.K F v d) (hg : Gl X x := by rfl) (hd : (x == ("__debug__" : Str)) = false := by decide) : GE X (.Name x pos) (tC v) (aC d) := ⟨pe_glob hg hm r hd, lk_c rd⟩
end

/-! ### operators -/
/-- what an operator does with two values, by data -/
abbrev R2D := D → D → (D → Prop) → Prop
def LkR (K : PySem.W.Frag) (rr : R2) (f : R2D) : Prop := ∀ (d e : D) (k : D → Prop), f d e k → ∀ (F H : Hp) (v u : V), Ex F H → RpR K F H v d → RpR K F H u e → ∀ Q : VK,
  (∀ z d' F' H', KF F H F' H' → Rp K F' z d' → k d' → Q z H') → rr v u H Q
def aOp (f : R2D) (a b : AE) : AE := fun ρ k => a ρ fun x ρ1 => b ρ1 fun y ρ2 => match res ρ2 x, res ρ2 y with
  | some d, some e => f d e fun z => k (.im z) ρ2
  | _, _ => False
theorem lk_op {K : PySem.W.Frag} {rr : R2} {f : R2D} {ta tb : TE} {a b : AE} (hr : LkR K rr f) (ha : LkE K ta a) (hb : LkE K tb b) : LkE K (tOp rr ta tb) (aOp f a b) := by
  intro ρ k hk σ F H O s Q hq
  refine ha ρ _ hk σ F H O s _ fun v x ρ1 F1 H1 kp1 s1 r1 hk1 => ?_
  refine hb ρ1 _ hk1 σ F1 H1 O s1 _ fun u y ρ2 F2 H2 kp2 s2 r2 hk2 => ?_
  split at hk2
  · rename_i d e q1 q2
    refine hr d e _ hk2 F2 H2 v u s2.ex (res_ok s2 (r1.mono kp2.h2) q1) (res_ok s2 r2 q2) _ fun z d' F' H' kf rz hk' => ?_
    exact hq z (.im d') ρ2 F' H' ((kp1.trans kp2).trans kf.kp) (s2.kf kf) rz hk'
  · exact hk2.elim
theorem ge_op {X : Cx} {op : Operator} {rr : R2} {f : R2D} {a b : Expr} {pos : Pos} {ta tb : TE} {aa ab : AE} (ho : OpR X (binaryOp op) rr) (hl : LkR X.K rr f) (ha : GE X a ta aa) (hb : GE X b tb ab) : GE X (.BinOp a op b pos) (tOp rr ta tb) (aOp f aa ab) :=
  ⟨pe_op ho ha.pe hb.pe, lk_op hl ha.lk hb.lk⟩
theorem ge_cmp {X : Cx} {op : CmpOp} {rr : R2} {f : R2D} {a b : Expr} {pos : Pos} {ta tb : TE} {aa ab : AE} (ho : OpR X (compareOp op) rr) (hl : LkR X.K rr f) (ha : GE X a ta aa) (hb : GE X b tb ab) (hm : behindInMarks op b = false) : GE X (.Compare a [op] [b] pos) (tOp rr ta tb) (aOp f aa ab) :=
  ⟨pe_cmpR ho ha.pe hb.pe hm, lk_op hl ha.lk hb.lk⟩
def aTest (a : AE) : AT := fun ρ k => a ρ fun x ρ' => match x with
  | .im (.bl b) => k b ρ'
  | _ => False
theorem lk_test {K : PySem.W.Frag} {te : TE} {a : AE} (h : LkE K te a) : LkT K (tTest te) (aTest a) := by
  intro ρ k hk σ F H O s Q hq
  refine h ρ _ hk σ F H O s _ fun v x ρ' F' H' kp s' r hk' => ?_
  split at hk'
  · rename_i b
    have r' : Rp K F' v (.bl b) := r
    cases r'
    exact ⟨b, rfl, hq b ρ' F' H' kp s' hk'⟩
  · exact hk'.elim
theorem lk_tB {K : PySem.W.Frag} {te : TE} {a : AE} (h : LkE K te a) : LkT K (tB te) (aTest a) := by
  intro ρ k hk σ F H O s Q hq
  refine h ρ _ hk σ F H O s _ fun v x ρ' F' H' kp s' r hk' => ?_
  split at hk'
  · rename_i b
    have r' : Rp K F' v (.bl b) := r
    cases r'
    exact ⟨b, rfl, hq b ρ' F' H' kp s' hk'⟩
  · exact hk'.elim
theorem gt_cmp {X : Cx} {op : CmpOp} {rr : R2} {f : R2D} {a b : Expr} {pos : Pos} {ta tb : TE} {aa ab : AE} (ho : OpR X (compareOp op) rr) (hl : LkR X.K rr f) (ha : GE X a ta aa) (hb : GE X b tb ab) (hm : behindInMarks op b = false) : GT X (.Compare a [op] [b] pos) (tTest (tOp rr ta tb)) (aTest (aOp f aa ab)) :=
  ⟨pt_cmpR ho ha.pe hb.pe hm, lk_test (lk_op hl ha.lk hb.lk)⟩
def aChain (f f' : R2D) (a b c : AE) : AE := fun ρ k => a ρ fun x ρ1 => b ρ1 fun y ρ2 => match res ρ2 x, res ρ2 y with
  | some d, some e => f d e fun z => match z with
    | .bl t => if t = true then c ρ2 fun w ρ3 => match res ρ3 y, res ρ3 w with
        | some e', some g => f' e' g fun z => k (.im z) ρ3
        | _, _ => False
      else k (.im (.bl false)) ρ2
    | _ => False
  | _, _ => False
theorem lk_chain {K : PySem.W.Frag} {rr rr' : R2} {f f' : R2D} {ta tb tc : TE} {a b c : AE} (hr : LkR K rr f) (hr' : LkR K rr' f') (ha : LkE K ta a) (hb : LkE K tb b) (hc : LkE K tc c) : LkE K (tChain rr rr' ta tb tc) (aChain f f' a b c) := by
  intro ρ k hk σ F H O s Q hq
  refine ha ρ _ hk σ F H O s _ fun v x ρ1 F1 H1 kp1 s1 r1 hk1 => ?_
  refine hb ρ1 _ hk1 σ F1 H1 O s1 _ fun u y ρ2 F2 H2 kp2 s2 r2 hk2 => ?_
  split at hk2
  · rename_i d e q1 q2
    refine hr d e _ hk2 F2 H2 v u s2.ex (res_ok s2 (r1.mono kp2.h2) q1) (res_ok s2 r2 q2) _ fun z d' F3 H3 kf rz hk' => ?_
    have s3 := s2.kf kf
    split at hk'
    · rename_i t
      cases rz
      refine ⟨t, rfl, ?_⟩
      cases t with
      | false =>
        rw [if_neg Bool.false_ne_true] at hk' ⊢
        exact hq (.bl false) (.im (.bl false)) ρ2 F3 H3 ((kp1.trans kp2).trans kf.kp) s3 (.bl false) hk'
      | true =>
      rw [if_pos rfl] at hk' ⊢
      refine hc ρ2 _ hk' σ F3 H3 O s3 _ fun w g ρ4 F4 H4 kp4 s4 r4 hk4 => ?_
      split at hk4
      · rename_i e' g' q3 q4
        refine hr' e' g' _ hk4 F4 H4 u w s4.ex (res_ok s4 (r2.mono (kf.f.trans kp4.h2)) q3) (res_ok s4 r4 q4) _ fun z d' F' H' kf' rz hk' => ?_
        exact hq z (.im d') ρ4 F' H' ((((kp1.trans kp2).trans kf.kp).trans kp4).trans kf'.kp) (s4.kf kf') rz hk'
      · exact hk4.elim
    · exact hk'.elim
  · exact hk2.elim
theorem ge_chain {X : Cx} {op op' : CmpOp} {rr rr' : R2} {f f' : R2D} {a b c : Expr} {pos : Pos} {ta tb tc : TE} {aa ab ac : AE} (ho : OpR X (compareOp op) rr) (hl : LkR X.K rr f) (ho' : OpR X (compareOp op') rr') (hl' : LkR X.K rr' f') (ha : GE X a ta aa) (hb : GE X b tb ab) (hc : GE X c tc ac)
    (hm : lastMarks [op, op'] [b, c] = false := by with_unfolding_all rfl) : GE X (.Compare a [op, op'] [b, c] pos) (tChain rr rr' ta tb tc) (aChain f f' aa ab ac) := ⟨pe_chain ho ho' ha.pe hb.pe hc.pe hm, lk_chain hl hl' ha.lk hb.lk hc.lk⟩
theorem gt_chain {X : Cx} {op op' : CmpOp} {rr rr' : R2} {f f' : R2D} {a b c : Expr} {pos : Pos} {ta tb tc : TE} {aa ab ac : AE} (ho : OpR X (compareOp op) rr) (hl : LkR X.K rr f) (ho' : OpR X (compareOp op') rr') (hl' : LkR X.K rr' f') (ha : GE X a ta aa) (hb : GE X b tb ab) (hc : GE X c tc ac)
    (hm : lastMarks [op, op'] [b, c] = false := by with_unfolding_all rfl) : GT X (.Compare a [op, op'] [b, c] pos) (tTest (tChain rr rr' ta tb tc)) (aTest (aChain f f' aa ab ac)) := ⟨pt_chain ho ho' ha.pe hb.pe hc.pe hm, lk_test (lk_chain hl hl' ha.lk hb.lk hc.lk)⟩

/-! ### one value -/
abbrev R1D := D → (D → Prop) → Prop
def LkU (K : PySem.W.Frag) (rr : V → Hp → VK → Prop) (f : R1D) : Prop := ∀ (d : D) (k : D → Prop), f d k → ∀ (F H : Hp) (v : V), Ex F H → RpR K F H v d → ∀ Q : VK,
  (∀ z d' F' H', KF F H F' H' → Rp K F' z d' → k d' → Q z H') → rr v H Q
def aUn (f : R1D) (a : AE) : AE := fun ρ k => a ρ fun x ρ1 => match res ρ1 x with
  | some d => f d fun z => k (.im z) ρ1
  | _ => False
theorem lk_un {K : PySem.W.Frag} {rr : V → Hp → VK → Prop} {f : R1D} {ta : TE} {a : AE} (hr : LkU K rr f) (ha : LkE K ta a) : LkE K (tUn rr ta) (aUn f a) := by
  intro ρ k hk σ F H O s Q hq
  refine ha ρ _ hk σ F H O s _ fun v x ρ1 F1 H1 kp1 s1 r1 hk1 => ?_
  split at hk1
  · rename_i d q1
    refine hr d _ hk1 F1 H1 v s1.ex (res_ok s1 r1 q1) _ fun z d' F' H' kf rz hk' => ?_
    exact hq z (.im d') ρ1 F' H' (kp1.trans kf.kp) (s1.kf kf) rz hk'
  · exact hk1.elim
theorem ge_un {X : Cx} {op : UnaryOp} {rr : V → Hp → VK → Prop} {f : R1D} {a : Expr} {pos : Pos} {ta : TE} {aa : AE} (ho : UnR X (unaryOp op) rr) (hl : LkU X.K rr f) (ha : GE X a ta aa) : GE X (.UnaryOp op a pos) (tUn rr ta) (aUn f aa) :=
  ⟨pe_un ho ha.pe, lk_un hl ha.lk⟩

/-! ### tests -/
theorem gt_val {X : Cx} {e : Expr} {te : TE} {a : AE} (h : GE X e te a) (he : ∀ whole, isTrue e X.env whole = (do let v ← whole; standAt e.pos; holding [v] (truthy v)) := by intro _; rfl) : GT X e (tB te) (aTest a) := ⟨pt_val h.pe he, lk_tB h.lk⟩
/-- a value's truth -/
def truD : D → Option Bool
  | .non => some false
  | .bl b => some b
  | .int i => some (i != 0)
  | .lst ds => some (!ds.isEmpty)
  | .tup ds => some (!ds.isEmpty)
  | _ => none
def aTru (a : AE) : AT := fun ρ k => a ρ fun x ρ' => match res ρ' x with
  | some d => match truD d with
    | some b => k b ρ'
    | none => False
  | none => False
theorem isEmpty_rpa {K : PySem.W.Frag} {F : Hp} {xs : List V} {ds : List D} (r : RpA K F xs ds) : xs.isEmpty = ds.isEmpty := by cases r <;> rfl
theorem truV_ok {K : PySem.W.Frag} {F H : Hp} {v : V} {d : D} {b : Bool} (ex : Ex F H) (r : RpR K F H v d) (e : truD d = some b) : TruV K v H b := by
  cases d with
  | non => rw [r.non rfl]; cases e; rfl
  | bl c => rw [r.bl rfl]; cases e; rfl
  | int i => rw [r.int rfl]; cases e; rfl
  | str x => cases e
  | lst ds =>
    obtain ⟨p, xs, rfl, h1, h2⟩ := r.lst ex rfl
    cases e
    exact .inl ⟨xs, .inl (.inl h1), by rw [isEmpty_rpa h2]⟩
  | tup ds =>
    obtain ⟨p, xs, rfl, h1, h2⟩ := r.tup ex rfl
    cases e
    exact .inr (.inl ⟨xs, h1, by rw [isEmpty_rpa h2]⟩)
  | adr a => cases e
  | scr a => cases e
theorem gt_truth {X : Cx} {e : Expr} {te : TE} {a : AE} (h : GE X e te a) (he : ∀ whole, isTrue e X.env whole = (do let v ← whole; standAt e.pos; holding [v] (truthy v)) := by intro _; rfl) : GT X e (fun σ H Q => te σ H fun x H' => ∃ k, TruV X.K x H' k ∧ Q k H') (aTru a) := by
  refine ⟨pt_truth h.pe he, fun ρ k hk σ F H O s Q hq => ?_⟩
  refine h.lk ρ _ hk σ F H O s _ fun v x ρ' F' H' kp s' r hk' => ?_
  split at hk'
  · rename_i d q
    split at hk'
    · rename_i b q2
      exact ⟨b, truV_ok s'.ex (res_ok s' r q) q2, hq b ρ' F' H' kp s' hk'⟩
    · exact hk'.elim
  · exact hk'.elim
def aAnd (t u : AT) : AT := fun ρ k => t ρ fun c ρ1 => if c = true then u ρ1 k else k false ρ1
def aOr (t u : AT) : AT := fun ρ k => t ρ fun c ρ1 => if c = true then k true ρ1 else u ρ1 k
def aNot (t : AT) : AT := fun ρ k => t ρ fun c ρ1 => k (!c) ρ1
section
variable {K : PySem.W.Frag} {t u : TT} {a b : AT}
theorem lk_and (ha : LkT K t a) (hb : LkT K u b) : LkT K (tAnd t u) (aAnd a b) := by
  intro ρ k hk σ F H O s Q hq
  refine ha ρ _ hk σ F H O s _ fun c ρ1 F1 H1 kp1 s1 hk1 => ?_
  cases c with
  | true =>
    rw [if_pos rfl] at hk1 ⊢
    exact hb ρ1 _ hk1 σ F1 H1 O s1 _ fun c2 ρ2 F2 H2 kp2 s2 hk2 => hq c2 ρ2 F2 H2 (kp1.trans kp2) s2 hk2
  | false =>
    rw [if_neg Bool.false_ne_true] at hk1 ⊢
    exact hq false ρ1 F1 H1 kp1 s1 hk1
theorem lk_or (ha : LkT K t a) (hb : LkT K u b) : LkT K (tOr t u) (aOr a b) := by
  intro ρ k hk σ F H O s Q hq
  refine ha ρ _ hk σ F H O s _ fun c ρ1 F1 H1 kp1 s1 hk1 => ?_
  cases c with
  | true =>
    rw [if_pos rfl] at hk1 ⊢
    exact hq true ρ1 F1 H1 kp1 s1 hk1
  | false =>
    rw [if_neg Bool.false_ne_true] at hk1 ⊢
    exact hb ρ1 _ hk1 σ F1 H1 O s1 _ fun c2 ρ2 F2 H2 kp2 s2 hk2 => hq c2 ρ2 F2 H2 (kp1.trans kp2) s2 hk2
theorem lk_not (ha : LkT K t a) : LkT K (tNot t) (aNot a) := fun ρ k hk σ F H O s Q hq =>
  ha ρ _ hk σ F H O s _ fun c ρ1 F1 H1 kp1 s1 hk1 => hq (!c) ρ1 F1 H1 kp1 s1 hk1
end
section
variable {X : Cx} {a b : Expr} {rest : List Expr} {pos : Pos} {t u : TT} {x y : AT}
theorem gw_and (ha : GT X a t x) (hb : GW X (.BoolOp .And (b :: rest) pos) u y) : GW X (.BoolOp .And (a :: b :: rest) pos) (tAnd t u) (aAnd x y) := ⟨pw_and ha.pt hb.pw, lk_and ha.lk hb.lk⟩
theorem gw_or (ha : GT X a t x) (hb : GW X (.BoolOp .Or (b :: rest) pos) u y) : GW X (.BoolOp .Or (a :: b :: rest) pos) (tOr t u) (aOr x y) := ⟨pw_or ha.pt hb.pw, lk_or ha.lk hb.lk⟩
theorem gw_and1 (ha : GT X a t x) : GW X (.BoolOp .And [a] pos) t x := ⟨pw_and1 ha.pt, ha.lk⟩
theorem gw_or1 (ha : GT X a t x) : GW X (.BoolOp .Or [a] pos) t x := ⟨pw_or1 ha.pt, ha.lk⟩
theorem GW.gt {e : Expr} (h : GW X e t x) : GT X e t x := ⟨h.pw.pt, h.lk⟩
theorem gt_not (ha : GT X a t x) : GT X (.UnaryOp .Not a pos) (tNot t) (aNot x) := ⟨pt_not ha.pt, lk_not ha.lk⟩
end
/-! ### and, or, not as values (truth values) -/
def aAndV (a b : AE) : AE := fun ρ k => a ρ fun x ρ1 => match x with
  | .im (.bl c) => if c = true then b ρ1 k else k (.im (.bl false)) ρ1
  | _ => False
def aOrV (a b : AE) : AE := fun ρ k => a ρ fun x ρ1 => match x with
  | .im (.bl c) => if c = true then k (.im (.bl true)) ρ1 else b ρ1 k
  | _ => False
def aNotV (a : AE) : AE := fun ρ k => a ρ fun x ρ1 => match x with
  | .im (.bl c) => k (.im (.bl !c)) ρ1
  | _ => False
def aIf (t : AT) (a b : AE) : AE := fun ρ k => t ρ fun c ρ1 => if c = true then a ρ1 k else b ρ1 k
section
variable {K : PySem.W.Frag} {ta tb : TE} {tt : TT} {a b : AE} {t : AT}
theorem lk_andV (ha : LkE K ta a) (hb : LkE K tb b) : LkE K (tAndV ta tb) (aAndV a b) := by
  intro ρ k hk σ F H O s Q hq
  refine ha ρ _ hk σ F H O s _ fun v x ρ1 F1 H1 kp1 s1 r1 hk1 => ?_
  split at hk1
  · rename_i c
    have r' : Rp K F1 v (.bl c) := r1
    cases r'
    refine ⟨c, rfl, ?_⟩
    cases c with
    | true =>
      rw [if_pos rfl] at hk1 ⊢
      exact hb ρ1 _ hk1 σ F1 H1 O s1 _ fun u y ρ2 F2 H2 kp2 s2 r2 hk2 => hq u y ρ2 F2 H2 (kp1.trans kp2) s2 r2 hk2
    | false =>
      rw [if_neg Bool.false_ne_true] at hk1 ⊢
      exact hq _ _ ρ1 F1 H1 kp1 s1 r1 hk1
  · exact hk1.elim
theorem lk_orV (ha : LkE K ta a) (hb : LkE K tb b) : LkE K (tOrV ta tb) (aOrV a b) := by
  intro ρ k hk σ F H O s Q hq
  refine ha ρ _ hk σ F H O s _ fun v x ρ1 F1 H1 kp1 s1 r1 hk1 => ?_
  split at hk1
  · rename_i c
    have r' : Rp K F1 v (.bl c) := r1
    cases r'
    refine ⟨c, rfl, ?_⟩
    cases c with
    | true =>
      rw [if_pos rfl] at hk1 ⊢
      exact hq _ _ ρ1 F1 H1 kp1 s1 r1 hk1
    | false =>
      rw [if_neg Bool.false_ne_true] at hk1 ⊢
      exact hb ρ1 _ hk1 σ F1 H1 O s1 _ fun u y ρ2 F2 H2 kp2 s2 r2 hk2 => hq u y ρ2 F2 H2 (kp1.trans kp2) s2 r2 hk2
  · exact hk1.elim
theorem lk_notV (ha : LkE K ta a) : LkE K (tNotV ta) (aNotV a) := by
  intro ρ k hk σ F H O s Q hq
  refine ha ρ _ hk σ F H O s _ fun v x ρ1 F1 H1 kp1 s1 r1 hk1 => ?_
  split at hk1
  · rename_i c
    have r' : Rp K F1 v (.bl c) := r1
    cases r'
    exact ⟨c, rfl, hq (.bl (!c)) (.im (.bl (!c))) ρ1 F1 H1 kp1 s1 (Rp.bl (!c)) hk1⟩
  · exact hk1.elim
theorem lk_if (ht : LkT K tt t) (ha : LkE K ta a) (hb : LkE K tb b) : LkE K (tIf tt ta tb) (aIf t a b) := by
  intro ρ k hk σ F H O s Q hq
  refine ht ρ _ hk σ F H O s _ fun c ρ1 F1 H1 kp1 s1 hk1 => ?_
  cases c with
  | true =>
    rw [if_pos rfl] at hk1 ⊢
    exact ha ρ1 _ hk1 σ F1 H1 O s1 _ fun u y ρ2 F2 H2 kp2 s2 r2 hk2 => hq u y ρ2 F2 H2 (kp1.trans kp2) s2 r2 hk2
  | false =>
    rw [if_neg Bool.false_ne_true] at hk1 ⊢
    exact hb ρ1 _ hk1 σ F1 H1 O s1 _ fun u y ρ2 F2 H2 kp2 s2 r2 hk2 => hq u y ρ2 F2 H2 (kp1.trans kp2) s2 r2 hk2
end
section
variable {X : Cx} {a b c : Expr} {rest : List Expr} {pos : Pos} {ta tb : TE} {tt : TT} {x y : AE} {t : AT}
theorem ge_and (ha : GE X a ta x) (hb : GE X (.BoolOp .And (b :: rest) pos) tb y) : GE X (.BoolOp .And (a :: b :: rest) pos) (tAndV ta tb) (aAndV x y) := ⟨pe_and ha.pe hb.pe, lk_andV ha.lk hb.lk⟩
theorem ge_or (ha : GE X a ta x) (hb : GE X (.BoolOp .Or (b :: rest) pos) tb y) : GE X (.BoolOp .Or (a :: b :: rest) pos) (tOrV ta tb) (aOrV x y) := ⟨pe_or ha.pe hb.pe, lk_orV ha.lk hb.lk⟩
theorem ge_one {op : BoolOp} (ha : GE X a ta x) : GE X (.BoolOp op [a] pos) ta x := ⟨pe_one ha.pe, ha.lk⟩
theorem ge_not (ha : GE X a ta x) : GE X (.UnaryOp .Not a pos) (tNotV ta) (aNotV x) := ⟨pe_not ha.pe, lk_notV ha.lk⟩
theorem ge_if (hc : GT X c tt t) (ha : GE X a ta x) (hb : GE X b tb y) : GE X (.IfExp c a b pos) (tIf tt ta tb) (aIf t x y) := ⟨pe_ifExp hc.pt ha.pe hb.pe, lk_if hc.lk ha.lk hb.lk⟩
end
end DL

namespace DL
open PySem PySem.Spec L2
open PyProof.Rows hiding St

/-! ### argument lists, displays -/
def aNil : AA := fun ρ k => k [] ρ
def aCons (a : AE) (r : AA) : AA := fun ρ k => a ρ fun x ρ1 => r ρ1 fun xs ρ2 => k (x :: xs) ρ2
theorem lk_nil {K : PySem.W.Frag} : LkA K tNil aNil := fun ρ k hk σ F H O s Q hq => hq [] [] ρ F H Kp.refl s True.intro hk
theorem lk_cons {K : PySem.W.Frag} {te : TE} {ta : TA} {a : AE} {r : AA} (ha : LkE K te a) (hr : LkA K ta r) : LkA K (tCons te ta) (aCons a r) := by
  intro ρ k hk σ F H O s Q hq
  refine ha ρ _ hk σ F H O s _ fun v x ρ1 F1 H1 kp1 s1 r1 hk1 => ?_
  exact hr ρ1 _ hk1 σ F1 H1 O s1 _ fun vs xs ρ2 F2 H2 kp2 s2 r2 hk2 => hq (v :: vs) (x :: xs) ρ2 F2 H2 (kp1.trans kp2) s2 ⟨r1.mono kp2.h2, r2⟩ hk2
section
variable {X : Cx} {e : Expr} {es : List Expr} {te : TE} {ta : TA} {a : AE} {r : AA} {pos : Pos}
theorem ga_nil : GA X [] tNil aNil := ⟨pa_nil, lk_nil⟩
theorem ga_cons (ha : GE X e te a) (hr : GA X es ta r) (hs : starEach (e :: es) X.env = (false, eval e X.env) :: starEach es X.env := by rfl) : GA X (e :: es) (tCons te ta) (aCons a r) := ⟨pa_cons ha.pe hr.pa hs, lk_cons ha.lk hr.lk⟩
end
/-- all of them plain -/
def imAll : List AV → Option (List D)
  | [] => some []
  | .im d :: as => (imAll as).map (d :: ·)
  | _ :: _ => none
theorem imAll_ok {K : PySem.W.Frag} {F : Hp} {σ : St} : ∀ {vs : List V} {as : List AV} {ds : List D}, RpVs K F σ vs as → imAll as = some ds → RpA K F vs ds
  | [], [], ds, _, e => by cases e; exact .nil
  | v :: vs, .im d :: as, ds, ⟨h, t⟩, e => by
    unfold imAll at e
    cases q : imAll as with
    | none => rw [q] at e; cases e
    | some es =>
      rw [q] at e
      cases e
      exact .cons h (imAll_ok t q)
  | _ :: _, .bo _ :: _, _, _, e => by cases e
  | [], _ :: _, _, h, _ => False.elim h
  | _ :: _, [], _, h, _ => False.elim h
def aTup (aa : AA) : AE := fun ρ k => aa ρ fun as ρ1 => match imAll as with
  | some ds => ds.length ≤ 1000000 ∧ k (.im (.tup ds)) ρ1
  | none => False
def aLst (aa : AA) : AL := fun ρ k => aa ρ fun as ρ1 => match imAll as with
  | some ds => ds.length ≤ 1000000 ∧ k ds ρ1
  | none => False
theorem sz {n : Nat} (h : n ≤ 1000000) : n ≤ sizeLine := Nat.le_trans h (by decide)
theorem szl {n : Nat} (h : n < 1000000) : n < sizeLine := Nat.lt_of_lt_of_le h (by decide)
/-- a fresh address is in no owned place -/
theorem Sl.notO {K : PySem.W.Frag} {F H : Hp} {ρ : AR} {σ : St} {O : Addr → Prop} (s : Sl K F H ρ σ O) {p : Addr} (hp : H p = none) : ¬ O p := fun h => by
  obtain ⟨_, o, e⟩ := s.fo p h
  rw [hp] at e; cases e
theorem Sl.notF {K : PySem.W.Frag} {F H : Hp} {ρ : AR} {σ : St} {O : Addr → Prop} (s : Sl K F H ρ σ O) {p : Addr} (hp : H p = none) : F p = none := by
  cases e : F p with
  | none => rfl
  | some o => rw [s.ex p o e] at hp; cases hp
/-- an untracked address in O is fresh from before -/
theorem Kp.back {O O' : Addr → Prop} {F H F' H' : Hp} (k : Kp O F H O' F' H') {p : Addr} (h : H' p = none) (nO : ¬ O p) : H p = none := by
  cases e : H p with
  | none => rfl
  | some o => rw [k.h1 p o e nO] at h; cases h
theorem lk_tup {K : PySem.W.Frag} {ta : TA} {aa : AA} (ha : LkA K ta aa) : LkE K (tTup ta) (aTup aa) := by
  intro ρ k hk σ F H O s Q hq
  refine ha ρ _ hk σ F H O s _ fun vs xs ρ1 F1 H1 kp1 s1 r1 hk1 => ?_
  split at hk1
  · rename_i ds q
    obtain ⟨hz, hk1⟩ := hk1
    have r := imAll_ok r1 q
    refine ⟨by rw [r.length]; exact sz hz, fun p hp => ?_⟩
    have kf : KF F1 H1 (upd F1 p (.tup vs)) (upd H1 p (.tup vs)) := KF.put s1.ex hp
    exact hq (.ref p) (.im (.tup ds)) ρ1 _ _ (kp1.trans kf.kp) (s1.kf kf) (Rp.tup (.inl (.inl upd_same)) (r.mono kf.f)) hk1
  · exact hk1.elim
theorem lk_lst {K : PySem.W.Frag} {ta : TA} {aa : AA} (ha : LkA K ta aa) : LkL K (tLst ta) (aLst aa) := by
  intro ρ k hk σ F H O s Q hq
  refine ha ρ _ hk σ F H O s _ fun vs xs ρ1 F1 H1 kp1 s1 r1 hk1 => ?_
  split at hk1
  · rename_i ds q
    obtain ⟨hz, hk1⟩ := hk1
    have r := imAll_ok r1 q
    refine ⟨by rw [r.length]; exact sz hz, fun p hp => ?_⟩
    have nO := s1.notO hp
    have fp := s1.notF hp
    have s2 : Sl K F1 (upd H1 p (.lst vs)) ρ1 σ O := s1.kf ⟨Ex.refl _, Ex.new hp, s1.ex.trans (Ex.new hp), fun _ _ h => .inl h⟩
    refine hq p vs ds ρ1 F1 (upd H1 p (.lst vs)) (kp1.trans ⟨fun a o h _ => Ex.new hp a o h, Ex.refl _, fun _ _ h => .inl h, fun _ h => .inl h⟩) s2 upd_same fp nO (kp1.back hp nO) r hk1
  · exact hk1.elim
section
variable {X : Cx} {es : List Expr} {ta : TA} {aa : AA} {pos : Pos}
theorem ge_tup {x1} (h : GA X es ta aa) : GE X (.Tuple es x1 pos) (tTup ta) (aTup aa) := ⟨pe_tup h.pa, lk_tup h.lk⟩
theorem gl_lst (h : GA X es ta aa) : GL X (.List es pos) (tLst ta) (aLst aa) := ⟨pe_lst h.pa, lk_lst h.lk⟩
end

/-! ### built-ins by values -/
def resAll (ρ : AR) : List AV → Option (List D)
  | [] => some []
  | a :: as => match res ρ a, resAll ρ as with
    | some d, some ds => some (d :: ds)
    | _, _ => none
def RpRs (K : PySem.W.Frag) (F H : Hp) : List V → List D → Prop
  | [], [] => True
  | v :: vs, d :: ds => RpR K F H v d ∧ RpRs K F H vs ds
  | _, _ => False
theorem resAll_ok {K : PySem.W.Frag} {F H : Hp} {ρ : AR} {σ : St} {O : Addr → Prop} (s : Sl K F H ρ σ O) : ∀ {vs : List V} {as : List AV} {ds : List D}, RpVs K F σ vs as → resAll ρ as = some ds → RpRs K F H vs ds
  | [], [], ds, _, e => by cases e; exact True.intro
  | v :: vs, a :: as, ds, ⟨h, t⟩, e => by
    unfold resAll at e
    split at e
    · rename_i d ds' q1 q2
      cases e
      exact ⟨res_ok s h q1, resAll_ok s t q2⟩
    · cases e
  | [], _ :: _, _, h, _ => False.elim h
  | _ :: _, [], _, h, _ => False.elim h
/-- what a built-in does with its arguments, by data -/
abbrev RCD := List D → (D → Prop) → Prop
def LkC (K : PySem.W.Frag) (rr : List V → Hp → VK → Prop) (f : RCD) : Prop := ∀ (ds : List D) (k : D → Prop), f ds k → ∀ (F H : Hp) (vs : List V), Ex F H → RpRs K F H vs ds → ∀ Q : VK,
  (∀ z d' F' H', KF F H F' H' → Rp K F' z d' → k d' → Q z H') → rr vs H Q
def aCB (f : RCD) (aa : AA) : AE := fun ρ k => aa ρ fun as ρ1 => match resAll ρ1 as with
  | some ds => f ds fun z => k (.im z) ρ1
  | none => False
theorem lk_cb {K : PySem.W.Frag} {rr : List V → Hp → VK → Prop} {f : RCD} {ta : TA} {aa : AA} (hr : LkC K rr f) (ha : LkA K ta aa) : LkE K (tCB rr ta) (aCB f aa) := by
  intro ρ k hk σ F H O s Q hq
  refine ha ρ _ hk σ F H O s _ fun vs xs ρ1 F1 H1 kp1 s1 r1 hk1 => ?_
  split at hk1
  · rename_i ds q
    refine hr ds _ hk1 F1 H1 vs s1.ex (resAll_ok s1 r1 q) _ fun z d' F' H' kf rz hk' => ?_
    exact hq z (.im d') ρ1 F' H' (kp1.trans kf.kp) (s1.kf kf) rz hk'
  · exact hk1.elim
section
variable {X : Cx} {x : Str} {p pos : Pos} {e : Expr} {es : List Expr} {ta : TA} {aa : AA} {id T : String} {rr : List V → Hp → VK → Prop} {f : RCD}
theorem ge_callB (hc : CallR X (.builtin id) rr) (hl : LkC X.K rr f) (hm : X.mg x = none) (hv : bootBuiltins x = some (.builtin id)) (ha : GA X (e :: es) ta aa) (hg : Gl X x := by rfl) (hn : x ≠ "__name__" := by decide) (hdb : (x == ("__debug__" : Str)) = false := by decide)
    (he : starEach (e :: es) X.env = (false, eval e X.env) :: starEach es X.env := by rfl) (hpl : (backTo pos (starEach es X.env)).any (·.1) = false := by rfl) : GE X (.Call (.Name x p) (e :: es) [] pos) (tCB rr ta) (aCB f aa) :=
  ⟨pe_callB hc hg hm hv ha.pa hn hdb he hpl, lk_cb hl ha.lk⟩
theorem ge_callTy (hc : CallR X (.type T) rr) (hl : LkC X.K rr f) (hm : X.mg x = none) (hv : bootBuiltins x = some (.type T)) (ha : GA X (e :: es) ta aa) (hg : Gl X x := by rfl) (hn : x ≠ "__name__" := by decide) (hdb : (x == ("__debug__" : Str)) = false := by decide)
    (he : starEach (e :: es) X.env = (false, eval e X.env) :: starEach es X.env := by rfl) (hpl : (backTo pos (starEach es X.env)).any (·.1) = false := by rfl) : GE X (.Call (.Name x p) (e :: es) [] pos) (tCB rr ta) (aCB f aa) :=
  ⟨pe_callTy hc hg hm hv ha.pa hn hdb he hpl, lk_cb hl ha.lk⟩
end

/-! ### defs: what they promise -/
abbrev AF := AR → (D → AR → Prop) → Prop
/-- the addresses that a callee owns: those of its owned arguments -/
def own (ρ : AR) (σ : St) : Addr → Prop := fun a => ∃ (i : Nat) (c : OC), ρ[i]? = some (.ow c) ∧ σ[i]? = some (some (.ref a))
def SpF (K : PySem.W.Frag) (af : AF) : Sp := fun vs H Q _ => ∃ (ρ : AR) (F : Hp) (k : D → AR → Prop), Sl K F H ρ (vs.map some) (own ρ (vs.map some)) ∧ af ρ k ∧
  ∀ v d ρ' F' H', Kp (own ρ (vs.map some)) F H (own ρ (vs.map some)) F' H' → Sl K F' H' ρ' (vs.map some) (own ρ (vs.map some)) → Rp K F' v d → k d ρ' → Q v H'
def svOf (ρ : AR) : AV → SV
  | .im d => .im d
  | .bo i => match ρ[i]? with
    | some (.ow c) => .ow c
    | _ => .un
def back : AR → List AV → AR → AR
  | ρ, .bo i :: as, s :: ss => back (ρ.set i s) as ss
  | ρ, .im _ :: as, _ :: ss => back ρ as ss
  | ρ, _, _ => ρ
def isOw (ρ : AR) (i : Nat) : Bool := match ρ[i]? with
  | some (.ow _) => true
  | _ => false
def bos : List AV → List Nat
  | [] => []
  | .bo i :: as => i :: bos as
  | .im _ :: as => bos as
def bok (ρ : AR) : List AV → Bool
  | [] => true
  | .bo i :: as => isOw ρ i && !(bos as).contains i && bok ρ as
  | .im _ :: as => bok ρ as
def aCall (af : AF) (aa : AA) : AE := fun ρ k => aa ρ fun as ρ1 => bok ρ1 as = true ∧ af (as.map (svOf ρ1)) fun d ss => k (.im d) (back ρ1 as ss)

theorem back_len : ∀ {ρ : AR} {as : List AV} {ss : AR}, (back ρ as ss).length = ρ.length
  | ρ, [], _ => by unfold back; rfl
  | ρ, .bo i :: as, s :: ss => by unfold back; rw [back_len, List.length_set]
  | ρ, .im _ :: as, _ :: ss => by unfold back; exact back_len
  | ρ, .bo i :: as, [] => by unfold back; rfl
  | ρ, .im _ :: as, [] => by unfold back; rfl
theorem back_get : ∀ {ρ : AR} {as : List AV} {ss : AR} {i : Nat} {s : SV}, as.length = ss.length → (back ρ as ss)[i]? = some s →
    (∃ j : Nat, as[j]? = some (.bo i) ∧ ss[j]? = some s) ∨ (ρ[i]? = some s ∧ ∀ j : Nat, as[j]? ≠ some (.bo i))
  | ρ, [], ss, i, s, hl, h => .inr ⟨by unfold back at h; exact h, fun j => by simp⟩
  | ρ, .bo i0 :: as, s0 :: ss, i, s, hl, h => by
    unfold back at h
    rcases back_get (by simpa using hl) h with ⟨j, h1, h2⟩ | ⟨h1, h2⟩
    · exact .inl ⟨j + 1, by simpa using h1, by simpa using h2⟩
    · by_cases e : i0 = i
      · subst e
        by_cases hi : i0 < ρ.length
        · rw [List.getElem?_set_self hi] at h1
          cases h1
          exact .inl ⟨0, rfl, rfl⟩
        · rw [List.getElem?_eq_none (by simpa using hi)] at h1; cases h1
      · rw [List.getElem?_set_ne e] at h1
        refine .inr ⟨h1, fun j => ?_⟩
        cases j with
        | zero =>
          intro z
          simp at z
          exact e z
        | succ j => simpa using h2 j
  | ρ, .im d :: as, s0 :: ss, i, s, hl, h => by
    unfold back at h
    rcases back_get (by simpa using hl) h with ⟨j, h1, h2⟩ | ⟨h1, h2⟩
    · exact .inl ⟨j + 1, by simpa using h1, by simpa using h2⟩
    · refine .inr ⟨h1, fun j => ?_⟩
      cases j with
      | zero => simp
      | succ j => simpa using h2 j
  | ρ, _ :: as, [], i, s, hl, h => by simp at hl
theorem mem_bos : ∀ {as : List AV} {j i : Nat}, as[j]? = some (.bo i) → i ∈ bos as
  | [], _, _, h => by simp at h
  | .bo i0 :: as, 0, i, h => by simp at h; subst h; unfold bos; exact List.mem_cons_self
  | .im d :: as, 0, i, h => by simp at h
  | .bo i0 :: as, j + 1, i, h => by unfold bos; exact List.mem_cons_of_mem _ (mem_bos (by simpa using h))
  | .im d :: as, j + 1, i, h => by unfold bos; exact mem_bos (by simpa using h)
theorem bok_ow : ∀ {ρ : AR} {as : List AV} {j i : Nat}, bok ρ as = true → as[j]? = some (.bo i) → ∃ c, ρ[i]? = some (.ow c)
  | _, [], _, _, _, h => by simp at h
  | ρ, .bo i0 :: as, 0, i, hb, h => by
    simp at h; subst h
    unfold bok at hb
    simp only [Bool.and_eq_true] at hb
    have q := hb.1.1
    unfold isOw at q
    split at q
    · rename_i c e; exact ⟨c, e⟩
    · cases q
  | ρ, .im d :: as, 0, i, _, h => by simp at h
  | ρ, .bo i0 :: as, j + 1, i, hb, h => by
    unfold bok at hb
    simp only [Bool.and_eq_true] at hb
    exact bok_ow hb.2 (by simpa using h)
  | ρ, .im d :: as, j + 1, i, hb, h => by
    unfold bok at hb
    exact bok_ow hb (by simpa using h)
theorem bok_inj : ∀ {ρ : AR} {as : List AV} {j j' i : Nat}, bok ρ as = true → as[j]? = some (.bo i) → as[j']? = some (.bo i) → j = j'
  | _, [], _, _, _, _, h, _ => by simp at h
  | ρ, .bo i0 :: as, 0, 0, i, hb, h, h' => rfl
  | ρ, .bo i0 :: as, 0, j' + 1, i, hb, h, h' => by
    simp at h; subst h
    unfold bok at hb
    simp only [Bool.and_eq_true, Bool.not_eq_true'] at hb
    have q : i0 ∈ bos as := mem_bos (by simpa using h')
    have := hb.1.2
    rw [List.contains_iff_mem.mpr q] at this
    cases this
  | ρ, .bo i0 :: as, j + 1, 0, i, hb, h, h' => by
    simp at h'; subst h'
    unfold bok at hb
    simp only [Bool.and_eq_true, Bool.not_eq_true'] at hb
    have q : i0 ∈ bos as := mem_bos (by simpa using h)
    have := hb.1.2
    rw [List.contains_iff_mem.mpr q] at this
    cases this
  | ρ, .bo i0 :: as, j + 1, j' + 1, i, hb, h, h' => by
    unfold bok at hb
    simp only [Bool.and_eq_true] at hb
    exact congrArg (· + 1) (bok_inj (i := i) hb.2 (by simpa using h) (by simpa using h'))
  | ρ, .im d :: as, 0, _, i, hb, h, h' => by simp at h
  | ρ, .im d :: as, j + 1, 0, i, hb, h, h' => by simp at h'
  | ρ, .im d :: as, j + 1, j' + 1, i, hb, h, h' => by
    unfold bok at hb
    exact congrArg (· + 1) (bok_inj (i := i) hb (by simpa using h) (by simpa using h'))
section
variable {K : PySem.W.Frag} {F H : Hp} {ρ : AR} {σ : St} {O : Addr → Prop} {vs : List V} {as : List AV}
theorem map_some_get {j : Nat} {v : V} (h : vs[j]? = some v) : (vs.map some)[j]? = some (some v) := by rw [List.getElem?_map, h]; rfl
theorem svOf_im {d : D} {a : AV} (h : svOf ρ a = .im d) : a = .im d := by
  cases a with
  | im e => cases h; rfl
  | bo i =>
    unfold svOf at h
    dsimp only at h
    split at h <;> cases h
theorem svOf_ow {c : OC} {a : AV} (h : svOf ρ a = .ow c) : ∃ i, a = .bo i ∧ ρ[i]? = some (.ow c) := by
  cases a with
  | im e => cases h
  | bo i =>
    unfold svOf at h
    dsimp only at h
    split at h
    · rename_i c' e
      cases h
      exact ⟨i, rfl, e⟩
    · cases h
theorem argsSl (s : Sl K F H ρ σ O) (r : RpVs K F σ vs as) (hb : bok ρ as = true) : Sl K F H (as.map (svOf ρ)) (vs.map some) (own (as.map (svOf ρ)) (vs.map some)) where
  len := by rw [List.length_map, List.length_map, r.length]
  im := fun i d e => by
    rw [List.getElem?_map] at e
    cases q : as[i]? with
    | none => rw [q] at e; cases e
    | some a =>
      rw [q] at e
      have ea : a = .im d := svOf_im (Option.some.inj e)
      subst ea
      obtain ⟨v, h1, h2⟩ := r.get q
      exact ⟨v, map_some_get h1, h2⟩
  ow := fun i c e => by
    have e0 := e
    rw [List.getElem?_map] at e
    cases q : as[i]? with
    | none => rw [q] at e; cases e
    | some a =>
      rw [q] at e
      obtain ⟨i', rfl, h1⟩ := svOf_ow (Option.some.inj e)
      obtain ⟨v, h2, h3⟩ := r.get q
      obtain ⟨p, h4, h5, h6⟩ := s.ow i' c h1
      have h3' : σ[i']? = some (some v) := h3
      rw [h4] at h3'
      cases h3'
      exact ⟨p, map_some_get h2, ⟨i, c, e0, map_some_get h2⟩, h6⟩
  ap := fun i j c c' p hij e e' h h' => by
    rw [List.getElem?_map] at e e'
    cases q : as[i]? with
    | none => rw [q] at e; cases e
    | some a =>
      cases q' : as[j]? with
      | none => rw [q'] at e'; cases e'
      | some a' =>
        rw [q] at e
        rw [q'] at e'
        obtain ⟨i1, rfl, h1⟩ := svOf_ow (Option.some.inj e)
        obtain ⟨i2, rfl, h2⟩ := svOf_ow (Option.some.inj e')
        obtain ⟨v, g1, g2⟩ := r.get q
        obtain ⟨v', g1', g2'⟩ := r.get q'
        rw [map_some_get g1] at h
        rw [map_some_get g1'] at h'
        cases h
        cases h'
        have hne : i1 ≠ i2 := fun z => by
          subst z
          exact hij (bok_inj hb q q')
        exact s.ap i1 i2 c c' p hne h1 h2 g2 g2'
  ex := s.ex
  fo := fun a ⟨i, c, e, h⟩ => by
    rw [List.getElem?_map] at e
    cases q : as[i]? with
    | none => rw [q] at e; cases e
    | some b =>
      rw [q] at e
      obtain ⟨i1, rfl, h1⟩ := svOf_ow (Option.some.inj e)
      obtain ⟨v, g1, g2⟩ := r.get q
      rw [map_some_get g1] at h
      cases h
      obtain ⟨p, h4, h5, h6⟩ := s.ow i1 c h1
      have g2' : σ[i1]? = some (some (.ref a)) := g2
      rw [h4] at g2'
      cases g2'
      exact s.fo a h5
/-- what the callee owns is ours -/
theorem own_sub (s : Sl K F H ρ σ O) (r : RpVs K F σ vs as) {a : Addr} (h : own (as.map (svOf ρ)) (vs.map some) a) : ∃ (i : Nat) (c : OC) (j : Nat), as[j]? = some (.bo i) ∧ ρ[i]? = some (.ow c) ∧ σ[i]? = some (some (.ref a)) ∧ O a := by
  obtain ⟨j, c, e, h⟩ := h
  rw [List.getElem?_map] at e
  cases q : as[j]? with
  | none => rw [q] at e; cases e
  | some b =>
    rw [q] at e
    obtain ⟨i1, rfl, h1⟩ := svOf_ow (Option.some.inj e)
    obtain ⟨v, g1, g2⟩ := r.get q
    rw [map_some_get g1] at h
    cases h
    obtain ⟨p, h4, h5, h6⟩ := s.ow i1 c h1
    have g2' : σ[i1]? = some (some (.ref a)) := g2
    rw [h4] at g2'
    cases g2'
    exact ⟨i1, c, j, q, h1, g2, h5⟩
theorem kp_up (s : Sl K F H ρ σ O) (r : RpVs K F σ vs as) {F' H' : Hp} (k : Kp (own (as.map (svOf ρ)) (vs.map some)) F H (own (as.map (svOf ρ)) (vs.map some)) F' H') : Kp O F H O F' H' :=
  ⟨fun a o e n => k.h1 a o e fun z => by
      obtain ⟨_, _, _, _, _, _, h⟩ := own_sub s r z
      exact n h,
    k.h2, fun a o e => by
      rcases k.h3 a o e with q | q | q
      · exact .inl q
      · obtain ⟨_, _, _, _, _, _, h⟩ := own_sub s r q
        exact .inr (.inl h)
      · exact .inr (.inr q),
    fun a h => .inl h⟩
theorem backSl (s : Sl K F H ρ σ O) (r : RpVs K F σ vs as) (hb : bok ρ as = true) {F' H' : Hp} {ss : AR} (k : Kp (own (as.map (svOf ρ)) (vs.map some)) F H (own (as.map (svOf ρ)) (vs.map some)) F' H')
    (s' : Sl K F' H' ss (vs.map some) (own (as.map (svOf ρ)) (vs.map some))) : Sl K F' H' (back ρ as ss) σ O := by
  have hl : as.length = ss.length := by rw [s'.len, List.length_map, r.length]
  -- an owned slot behind: it was owned ahead
  have was : ∀ (i : Nat) (c : OC), (back ρ as ss)[i]? = some (.ow c) → ∃ c0, ρ[i]? = some (.ow c0) := fun i c e => by
    rcases back_get hl e with ⟨j, h1, h2⟩ | ⟨h1, h2⟩
    · exact bok_ow hb h1
    · exact ⟨c, h1⟩
  have keep : ∀ (i : Nat) (c : OC) (p : Addr), ρ[i]? = some (.ow c) → (∀ j : Nat, as[j]? ≠ some (.bo i)) → σ[i]? = some (some (.ref p)) → ¬ own (as.map (svOf ρ)) (vs.map some) p := fun i c p h1 h2 h3 z => by
    obtain ⟨i', c', j', a1, a2, a3, _⟩ := own_sub s r z
    have hne : i ≠ i' := fun z => by
      subst z
      exact h2 j' a1
    exact s.ap i i' c c' p hne h1 a2 h3 a3
  refine ⟨by rw [back_len, s.len], fun i d e => ?_, fun i c e => ?_, fun i j c c' p hij e e' h h' => ?_, s'.ex, fun a h => ?_⟩
  · rcases back_get hl e with ⟨j, h1, h2⟩ | ⟨h1, h2⟩
    · obtain ⟨v, g1, g2⟩ := r.get h1
      obtain ⟨v', g3, g4⟩ := s'.im j d h2
      rw [map_some_get g1] at g3
      cases g3
      exact ⟨v, g2, g4⟩
    · obtain ⟨v, g1, g2⟩ := s.im i d h1
      exact ⟨v, g1, g2.mono k.h2⟩
  · rcases back_get hl e with ⟨j, h1, h2⟩ | ⟨h1, h2⟩
    · obtain ⟨v, g1, g2⟩ := r.get h1
      obtain ⟨p, g3, g4, g5⟩ := s'.ow j c h2
      rw [map_some_get g1] at g3
      cases g3
      obtain ⟨_, _, _, _, _, _, hO⟩ := own_sub s r g4
      exact ⟨p, g2, hO, g5⟩
    · obtain ⟨p, g1, g2, g3⟩ := s.ow i c h1
      obtain ⟨o, ho⟩ := g3.some
      exact ⟨p, g1, g2, g3.mono k.h2 ((k.h1 p o ho (keep i c p h1 h2 g1)).trans ho.symm)⟩
  · obtain ⟨c0, h0⟩ := was i c e
    obtain ⟨c0', h0'⟩ := was j c' e'
    exact s.ap i j c0 c0' p hij h0 h0' h h'
  · obtain ⟨f0, o, ho⟩ := s.fo a h
    by_cases z : own (as.map (svOf ρ)) (vs.map some) a
    · exact s'.fo a z
    · refine ⟨?_, o, k.h1 a o ho z⟩
      cases q : F' a with
      | none => rfl
      | some u =>
        rcases k.h3 a u q with q | q | q
        · rw [f0] at q; cases q
        · exact (z q).elim
        · rw [ho] at q; cases q
theorem lk_call {af : AF} {E : XK} {ta : TA} {aa : AA} (ha : LkA K ta aa) : LkE K (tCall (SpF K af) [] E ta) (aCall af aa) := by
  intro ρ k hk σ F H O s Q hq
  refine ha ρ _ hk σ F H O s _ fun vs xs ρ1 F1 H1 kp1 s1 r1 hk1 => ?_
  obtain ⟨hb, hk1⟩ := hk1
  show SpF K af (vs ++ []) H1 Q E
  rw [List.append_nil]
  refine ⟨xs.map (svOf ρ1), F1, _, argsSl s1 r1 hb, hk1, fun v d ss F' H' kp s' rd hk' => ?_⟩
  exact hq v (.im d) (back ρ1 xs ss) F' H' (kp1.trans (kp_up s1 r1 kp)) (backSl s1 r1 hb kp s') rd hk'
end
section
variable {X : Cx} {k : Nat} {f : Addr} {fd : FuncData} {ps : List Str} {af : AF} {x : Str} {p pos : Pos} {e : Expr} {es : List Expr} {ta : TA} {aa : AA}
theorem ge_call (F : FnOk X.prog X.w X.K X.mg X.base CX0 k f fd ps (SpF X.K af)) (hr : Room k X.A) (hm : X.mg x = some (.ref f)) (hk : PySem.W.keepIn X.K (.ref f) = true) (hb : Binds X.K fd ps []) (ha : GA X (e :: es) ta aa) (hg : Gl X x := by rfl)
    (he : starEach (e :: es) X.env = (false, eval e X.env) :: starEach es X.env := by rfl) (hpl : (backTo pos (starEach es X.env)).any (·.1) = false := by rfl) (hdb : (x == ("__debug__" : Str)) = false := by decide) :
    GE X (.Call (.Name x p) (e :: es) [] pos) (tCall (SpF X.K af) [] E0 ta) (aCall af aa) := ⟨pe_call F hr hg hm hk hb .nil pass0 ha.pa hdb he hpl, lk_call ha.lk⟩
end
end DL

namespace DL
open PySem PySem.Spec L2
open PyProof.Rows hiding St

/-! ### what a statement leaves -/
/-- an error: its class, its limit -/
structure AX where
  cls : Addr
  lim : Option Int := none
structure AEnds where
  nx : AR → Prop
  rt : D → AR → Prop
  bk : AR → Prop := fun _ => False
  ct : AR → Prop := fun _ => False
  ex : AX → AR → Prop := fun _ _ => False
  rl : List D → AR → Prop := fun _ _ => False
abbrev AS := AEnds → AR → Prop
def XOk (H : Hp) (x : AX) (cls : Value) (d : Option Addr) : Prop := cls = .ref x.cls ∧ ∀ n, x.lim = some n → ∃ (dd : Addr) (fs : List (Str × V)), d = some dd ∧ H dd = some (.xd fs) ∧ fs.lookup ("limit" : Str) = some (V.int n)
structure Keep (B : List Nat) (σ σ' : St) : Prop where
  ln : σ'.length = σ.length
  at_ : ∀ i : Nat, i ∉ B → σ'[i]? = σ[i]?
theorem Keep.refl {B : List Nat} {σ : St} : Keep B σ σ := ⟨rfl, fun _ _ => rfl⟩
theorem Keep.trans {B : List Nat} {σ σ1 σ2 : St} (a : Keep B σ σ1) (b : Keep B σ1 σ2) : Keep B σ σ2 := ⟨b.ln.trans a.ln, fun i h => (b.at_ i h).trans (a.at_ i h)⟩
theorem Keep.set {B : List Nat} {σ : St} {i : Nat} {v : Option V} (h : i ∈ B) : Keep B σ (σ.set i v) := ⟨List.length_set, fun j hj => List.getElem?_set_ne fun z => hj (by rw [← z]; exact h)⟩

abbrev WX' := Value → Option Addr → L2.St → Hp → Prop
structure Bd (K : PySem.W.Frag) (W : WX') (A : AEnds) (F H : Hp) (O : Addr → Prop) (B : List Nat) (σ : St) (Dn : Ends) : Prop where
  nx : ∀ ρ' σ' F' H' O', Kp O F H O' F' H' → Sl K F' H' ρ' σ' O' → Keep B σ σ' → A.nx ρ' → Dn.nx σ' H'
  rt : ∀ v d ρ' σ' F' H' O', Kp O F H O' F' H' → Sl K F' H' ρ' σ' O' → Keep B σ σ' → Rp K F' v d → A.rt d ρ' → Dn.rt v H'
  bk : ∀ ρ' σ' F' H' O', Kp O F H O' F' H' → Sl K F' H' ρ' σ' O' → Keep B σ σ' → A.bk ρ' → Dn.bk σ' H'
  ct : ∀ ρ' σ' F' H' O', Kp O F H O' F' H' → Sl K F' H' ρ' σ' O' → Keep B σ σ' → A.ct ρ' → Dn.ct σ' H'
  ex : ∀ x cls dd ρ' σ' F' H' O', Kp O F H O' F' H' → Sl K F' H' ρ' σ' O' → Keep B σ σ' → XOk H' x cls dd → A.ex x ρ' → W cls dd σ' H'
  rl : ∀ p xs ds ρ' σ' F' H' O', Kp O F H O' F' H' → Sl K F' H' ρ' σ' O' → Keep B σ σ' → H' p = some (.lst xs) → F' p = none → ¬ O' p → (O p ∨ H p = none) → RpA K F' xs ds → A.rl ds ρ' → Dn.rt (.ref p) H'
theorem Kp.back2 {O O' : Addr → Prop} {F H F' H' : Hp} (k : Kp O F H O' F' H') {p : Addr} (h : O' p ∨ H' p = none) : O p ∨ H p = none := by
  rcases h with h | h
  · exact k.h4 p h
  · by_cases q : O p
    · exact .inl q
    · exact .inr (k.back h q)
theorem Bd.shift {K : PySem.W.Frag} {W : WX'} {A : AEnds} {F H F1 H1 : Hp} {O O1 : Addr → Prop} {B : List Nat} {σ σ1 : St} {Dn : Ends} (b : Bd K W A F H O B σ Dn) (k : Kp O F H O1 F1 H1) (e : Keep B σ σ1) : Bd K W A F1 H1 O1 B σ1 Dn where
  nx := fun ρ' σ' F' H' O' k' s' e' h => b.nx ρ' σ' F' H' O' (k.trans k') s' (e.trans e') h
  rt := fun v d ρ' σ' F' H' O' k' s' e' r h => b.rt v d ρ' σ' F' H' O' (k.trans k') s' (e.trans e') r h
  bk := fun ρ' σ' F' H' O' k' s' e' h => b.bk ρ' σ' F' H' O' (k.trans k') s' (e.trans e') h
  ct := fun ρ' σ' F' H' O' k' s' e' h => b.ct ρ' σ' F' H' O' (k.trans k') s' (e.trans e') h
  ex := fun x cls dd ρ' σ' F' H' O' k' s' e' o h => b.ex x cls dd ρ' σ' F' H' O' (k.trans k') s' (e.trans e') o h
  rl := fun p xs ds ρ' σ' F' H' O' k' s' e' h1 h2 h3 h4 r h => b.rl p xs ds ρ' σ' F' H' O' (k.trans k') s' (e.trans e') h1 h2 h3 (k.back2 h4) r h

def LkS (K : PySem.W.Frag) (W : WX') (ts : TS) (as : AS) (B : List Nat) : Prop := ∀ (A : AEnds) (ρ : AR), as A ρ → ∀ (σ : St) (F H : Hp) (O : Addr → Prop), Sl K F H ρ σ O → ∀ (B' : List Nat) (Dn : Ends), (∀ i ∈ B, i ∈ B') → Bd K W A F H O B' σ Dn → ts Dn σ H
structure GS (X : Cx) (W : WX') (st : Stmt) (ts : TS) (as : AS) (B : List Nat) : Prop where
  ps : PS X st ts
  lk : LkS X.K W ts as B
structure GSs (X : Cx) (W : WX') (st : List Stmt) (ts : TS) (as : AS) (B : List Nat) : Prop where
  ps : PSs X st ts
  lk : LkS X.K W ts as B

/-! ### blocks, tests -/
def aNext : AS := fun A ρ => A.nx ρ
def aSeq (a b : AS) : AS := fun A ρ => a { A with nx := b A } ρ
def aIfS (t : AT) (a b : AS) : AS := fun A ρ => t ρ fun c ρ1 => if c = true then a A ρ1 else b A ρ1
section
variable {K : PySem.W.Frag} {W : WX'} {t u : TS} {a b : AS} {B B1 B2 : List Nat}
theorem lk_next : LkS K W tNext aNext [] := fun A ρ h σ F H O s B' Dn _ bd => bd.nx ρ σ F H O Kp.refl s Keep.refl h
theorem lk_seq (ha : LkS K W t a B1) (hb : LkS K W u b B2) : LkS K W (tSeq t u) (aSeq a b) (B1 ++ B2) := by
  intro A ρ h σ F H O s B' Dn hB bd
  refine ha _ ρ h σ F H O s B' { Dn with nx := u Dn } (fun i hi => hB i (List.mem_append_left _ hi)) ⟨fun ρ' σ' F' H' O' k s' e h' => ?_, bd.rt, bd.bk, bd.ct, bd.ex, bd.rl⟩
  exact hb A ρ' h' σ' F' H' O' s' B' Dn (fun i hi => hB i (List.mem_append_right _ hi)) (bd.shift k e)
theorem lk_ifS {tt : TT} {at_ : AT} (ht : LkT K tt at_) (ha : LkS K W t a B1) (hb : LkS K W u b B2) : LkS K W (tIfS tt t u) (aIfS at_ a b) (B1 ++ B2) := by
  intro A ρ h σ F H O s B' Dn hB bd
  refine ht ρ _ h σ F H O s _ fun c ρ1 F1 H1 k1 s1 h1 => ?_
  cases c with
  | true =>
    rw [if_pos rfl] at h1 ⊢
    exact ha A ρ1 h1 σ F1 H1 O s1 B' Dn (fun i hi => hB i (List.mem_append_left _ hi)) (bd.shift k1 Keep.refl)
  | false =>
    rw [if_neg Bool.false_ne_true] at h1 ⊢
    exact hb A ρ1 h1 σ F1 H1 O s1 B' Dn (fun i hi => hB i (List.mem_append_right _ hi)) (bd.shift k1 Keep.refl)
end
section
variable {X : Cx} {W : WX'} {t u : TS} {a b : AS} {B B1 B2 : List Nat} {st : Stmt} {rest sa sb : List Stmt} {pos : Pos}
theorem gss_nil : GSs X W [] tNext aNext [] := ⟨pss_nil, lk_next⟩
theorem gss_cons (h1 : GS X W st t a B1) (h2 : GSs X W rest u b B2) : GSs X W (st :: rest) (tSeq t u) (aSeq a b) (B1 ++ B2) := ⟨pss_cons h1.ps h2.ps, lk_seq h1.lk h2.lk⟩
theorem gss_one (h1 : GS X W st t a B) : GSs X W [st] t a B := ⟨pss_one h1.ps, h1.lk⟩
theorem gs_if {c : Expr} {tc : TT} {ac : AT} (hc : GT X c tc ac) (ha : GSs X W sa t a B1) (hb : GSs X W sb u b B2) : GS X W (.If c sa sb pos) (tIfS tc t u) (aIfS ac a b) (B1 ++ B2) := ⟨ps_if hc.pt ha.ps hb.ps, lk_ifS hc.lk ha.lk hb.lk⟩
def aNever : AS := fun _ _ => False
theorem gs_never : GS X W st tNever aNever [] := ⟨ps_never, fun _ _ h => h.elim⟩
theorem gss_never {sts : List Stmt} : GSs X W sts tNever aNever [] := ⟨pss_never, fun _ _ h => h.elim⟩
end

/-! ### slots stored -/
section
variable {K : PySem.W.Frag} {F H : Hp} {ρ : AR} {σ : St} {O : Addr → Prop}
theorem set_get {α : Type} {l : List α} {i j : Nat} {x y : α} (h : (l.set i x)[j]? = some y) : (j = i ∧ y = x) ∨ (j ≠ i ∧ l[j]? = some y) := by
  by_cases e : i = j
  · subst e
    by_cases hi : i < l.length
    · rw [List.getElem?_set_self hi] at h
      cases h; exact .inl ⟨rfl, rfl⟩
    · rw [List.getElem?_eq_none (by simpa using hi)] at h; cases h
  · rw [List.getElem?_set_ne e] at h
    exact .inr ⟨fun z => e z.symm, h⟩
theorem get_lt {α : Type} {l : List α} {j : Nat} {y : α} (h : l[j]? = some y) : j < l.length := (List.getElem?_eq_some_iff.mp h).1
theorem Sl.setIm (s : Sl K F H ρ σ O) {v : V} {d : D} (r : Rp K F v d) (i : Nat) : Sl K F H (ρ.set i (.im d)) (σ.set i (some v)) O where
  len := by rw [List.length_set, List.length_set, s.len]
  im := fun j e h => by
    have hj := get_lt h
    rw [List.length_set, s.len] at hj
    rcases set_get h with ⟨rfl, q⟩ | ⟨n, q⟩
    · cases q
      exact ⟨v, List.getElem?_set_self hj, r⟩
    · obtain ⟨u, h1, h2⟩ := s.im j e q
      exact ⟨u, by rw [List.getElem?_set_ne (Ne.symm n)]; exact h1, h2⟩
  ow := fun j c h => by
    rcases set_get h with ⟨rfl, q⟩ | ⟨n, q⟩
    · cases q
    · obtain ⟨p, h1, h2⟩ := s.ow j c q
      exact ⟨p, by rw [List.getElem?_set_ne (Ne.symm n)]; exact h1, h2⟩
  ap := fun j j' c c' p hij h h' g g' => by
    rcases set_get h with ⟨rfl, q⟩ | ⟨n, q⟩
    · cases q
    · rcases set_get h' with ⟨rfl, q'⟩ | ⟨n', q'⟩
      · cases q'
      · rw [List.getElem?_set_ne (Ne.symm n)] at g
        rw [List.getElem?_set_ne (Ne.symm n')] at g'
        exact s.ap j j' c c' p hij q q' g g'
  ex := s.ex
  fo := s.fo
/-- a new owned object -/
theorem Sl.setOw (s : Sl K F H ρ σ O) {p : Addr} {c : OC} (x : OcOk K F H p c) (fp : F p = none) (nO : ¬ O p) (i : Nat) : Sl K F H (ρ.set i (.ow c)) (σ.set i (some (.ref p))) (fun a => O a ∨ a = p) where
  len := by rw [List.length_set, List.length_set, s.len]
  im := fun j e h => by
    rcases set_get h with ⟨rfl, q⟩ | ⟨n, q⟩
    · cases q
    · obtain ⟨u, h1, h2⟩ := s.im j e q
      exact ⟨u, by rw [List.getElem?_set_ne (Ne.symm n)]; exact h1, h2⟩
  ow := fun j c' h => by
    have hj := get_lt h
    rw [List.length_set, s.len] at hj
    rcases set_get h with ⟨rfl, q⟩ | ⟨n, q⟩
    · cases q
      exact ⟨p, List.getElem?_set_self hj, .inr rfl, x⟩
    · obtain ⟨p', h1, h2, h3⟩ := s.ow j c' q
      exact ⟨p', by rw [List.getElem?_set_ne (Ne.symm n)]; exact h1, .inl h2, h3⟩
  ap := fun j j' c1 c2 q hij h h' g g' => by
    have hj := get_lt h
    have hj' := get_lt h'
    rw [List.length_set, s.len] at hj hj'
    rcases set_get h with ⟨rfl, e⟩ | ⟨n, e⟩
    · rw [List.getElem?_set_self hj] at g
      cases g
      rcases set_get h' with ⟨rfl, e'⟩ | ⟨n', e'⟩
      · exact hij rfl
      · rw [List.getElem?_set_ne (Ne.symm n')] at g'
        obtain ⟨p', a1, a2, a3⟩ := s.ow j' c2 e'
        rw [a1] at g'
        cases g'
        exact nO a2
    · rw [List.getElem?_set_ne (Ne.symm n)] at g
      rcases set_get h' with ⟨rfl, e'⟩ | ⟨n', e'⟩
      · rw [List.getElem?_set_self hj'] at g'
        cases g'
        obtain ⟨p', a1, a2, a3⟩ := s.ow j c1 e
        rw [a1] at g
        cases g
        exact nO a2
      · rw [List.getElem?_set_ne (Ne.symm n')] at g'
        exact s.ap j j' c1 c2 q hij e e' g g'
  ex := s.ex
  fo := fun a h => by
    rcases h with h | rfl
    · exact s.fo a h
    · exact ⟨fp, x.some⟩
/-- what an owned object holds is changed -/
theorem Sl.write (s : Sl K F H ρ σ O) {p : Addr} {c c' : OC} {i : Nat} {o : HO} (h : ρ[i]? = some (.ow c)) (g : σ[i]? = some (some (.ref p))) (x : OcOk K F (upd H p o) p c') : Sl K F (upd H p o) (ρ.set i (.ow c')) σ O := by
  have hp : O p := by
    obtain ⟨p', a1, a2, a3⟩ := s.ow i c h
    rw [a1] at g
    cases g
    exact a2
  refine ⟨by rw [List.length_set, s.len], fun j e hj => ?_, fun j c1 hj => ?_, fun j j' c1 c2 q hij h1 h2 g1 g2 => ?_, fun a u e => ?_, fun a ha => ?_⟩
  · rcases set_get hj with ⟨rfl, q⟩ | ⟨n, q⟩
    · cases q
    · exact s.im j e q
  · rcases set_get hj with ⟨rfl, q⟩ | ⟨n, q⟩
    · cases q
      exact ⟨p, g, hp, x⟩
    · obtain ⟨p', a1, a2, a3⟩ := s.ow j c1 q
      have ne : p' ≠ p := fun z => by
        subst z
        exact s.ap j i c1 c p' n q h a1 g
      exact ⟨p', a1, a2, a3.mono (Ex.refl F) (upd_ne ne)⟩
  · have e1 : ∃ c, ρ[j]? = some (.ow c) := by
      rcases set_get h1 with ⟨rfl, _⟩ | ⟨_, q⟩
      · exact ⟨c, h⟩
      · exact ⟨c1, q⟩
    have e2 : ∃ c, ρ[j']? = some (.ow c) := by
      rcases set_get h2 with ⟨rfl, _⟩ | ⟨_, q⟩
      · exact ⟨c, h⟩
      · exact ⟨c2, q⟩
    obtain ⟨d1, e1⟩ := e1
    obtain ⟨d2, e2⟩ := e2
    exact s.ap j j' d1 d2 q hij e1 e2 g1 g2
  · have ne : a ≠ p := fun z => by
      subst z
      rw [(s.fo a hp).1] at e
      cases e
    rw [upd_ne ne]
    exact s.ex a u e
  · obtain ⟨f0, v, hv⟩ := s.fo a ha
    by_cases z : a = p
    · subst z; exact ⟨f0, _, upd_same⟩
    · exact ⟨f0, v, by rw [upd_ne z]; exact hv⟩
theorem Kp.write {O : Addr → Prop} {F H : Hp} {p : Addr} {o : HO} (hp : O p) : Kp O F H O F (upd H p o) :=
  ⟨fun a u e n => by rw [upd_ne (show a ≠ p from fun z => n (by rw [z]; exact hp))]; exact e, Ex.refl F, fun _ _ h => .inl h, fun _ h => .inl h⟩
end

/-! ### targets -/
abbrev AG := D → AR → (AR → Prop) → Prop
abbrev AGs := List D → AR → (AR → Prop) → Prop
def LkG (K : PySem.W.Frag) (g : TG) (ag : AG) (B : List Nat) : Prop := ∀ (d : D) (ρ : AR) (k : AR → Prop), ag d ρ k → ∀ (v : V) (σ : St) (F H : Hp) (O : Addr → Prop), Sl K F H ρ σ O → Rp K F v d → ∀ (B' : List Nat), (∀ i ∈ B, i ∈ B') → ∀ Q : St → Hp → Prop,
  (∀ ρ' σ' F' H', Kp O F H O F' H' → Sl K F' H' ρ' σ' O → Keep B' σ σ' → k ρ' → Q σ' H') → g v σ H Q
def LkGs (K : PySem.W.Frag) (g : TGs) (ag : AGs) (B : List Nat) : Prop := ∀ (ds : List D) (ρ : AR) (k : AR → Prop), ag ds ρ k → ∀ (vs : List V) (σ : St) (F H : Hp) (O : Addr → Prop), Sl K F H ρ σ O → RpA K F vs ds → ∀ (B' : List Nat), (∀ i ∈ B, i ∈ B') → ∀ Q : St → Hp → Prop,
  (∀ ρ' σ' F' H', Kp O F H O F' H' → Sl K F' H' ρ' σ' O → Keep B' σ σ' → k ρ' → Q σ' H') → g vs σ H Q
structure GG (X : Cx) (tg : Expr) (g : TG) (ag : AG) (B : List Nat) : Prop where
  pg : PG X tg g
  lk : LkG X.K g ag B
structure GGs (X : Cx) (tgs : List Expr) (g : TGs) (ag : AGs) (B : List Nat) : Prop where
  pg : PGs X tgs g
  lk : LkGs X.K g ag B
def aName (i : Nat) : AG := fun d ρ k => k (ρ.set i (.im d))
def aGNil : AGs := fun ds ρ k => ds = [] ∧ k ρ
def aGCons (g : AG) (r : AGs) : AGs := fun ds ρ k => match ds with
  | d :: ds => g d ρ fun ρ1 => r ds ρ1 k
  | [] => False
def aGTup (n : Nat) (g : AGs) : AG := fun d ρ k => match d with
  | .tup ds => ds.length = n ∧ g ds ρ k
  | _ => False
section
variable {K : PySem.W.Frag}
theorem lk_name (i : Nat) : LkG K (gName i) (aName i) [i] := fun d ρ k h v σ F H O s r B' hB Q hq =>
  hq (ρ.set i (.im d)) (σ.set i (some v)) F H Kp.refl (s.setIm r i) (Keep.set (hB i List.mem_cons_self)) h
theorem lk_gnil : LkGs K gNil aGNil [] := fun ds ρ k h vs σ F H O s r B' hB Q hq => by
  obtain ⟨rfl, h⟩ := h
  cases r
  exact ⟨rfl, hq ρ σ F H Kp.refl s Keep.refl h⟩
theorem lk_gcons {g : TG} {gs : TGs} {ag : AG} {ags : AGs} {B1 B2 : List Nat} (h1 : LkG K g ag B1) (h2 : LkGs K gs ags B2) : LkGs K (gCons g gs) (aGCons ag ags) (B1 ++ B2) := by
  intro ds ρ k h vs σ F H O s r B' hB Q hq
  unfold aGCons at h
  cases r with
  | nil => exact h.elim
  | cons r1 r2 =>
    refine ⟨_, _, rfl, h1 _ ρ _ h _ σ F H O s r1 B' (fun i hi => hB i (List.mem_append_left _ hi)) _ fun ρ1 σ1 F1 H1 k1 s1 e1 h1' => ?_⟩
    exact h2 _ ρ1 k h1' _ σ1 F1 H1 O s1 (r2.mono k1.h2) B' (fun i hi => hB i (List.mem_append_right _ hi)) Q fun ρ2 σ2 F2 H2 k2 s2 e2 h2' => hq ρ2 σ2 F2 H2 (k1.trans k2) s2 (e1.trans e2) h2'
theorem lk_gtup {n : Nat} {gs : TGs} {ags : AGs} {B : List Nat} (h2 : LkGs K gs ags B) : LkG K (gTup K n gs) (aGTup n ags) B := by
  intro d ρ k h v σ F H O s r B' hB Q hq
  unfold aGTup at h
  split at h
  · rename_i ds
    cases r with
    | tup h1 h3 =>
      exact ⟨_, _, rfl, s.ex.t h1, h3.length.trans h.1, h2 ds ρ k h.2 _ σ F H O s h3 B' hB Q hq⟩
  · exact h.elim
end
section
variable {X : Cx}
theorem gg_name {i : Nat} {x : Str} {pos : Pos} (hN : X.N.Nodup) (hi : X.N[i]? = some x := by rfl) (hx : Loc X.env.scope x := by first | exact .inl rfl | exact .inr rfl) (hf : X.fn x = true ∨ X.env.scope.names.lookup x = some .local := by first | exact .inl rfl | exact .inr rfl | assumption) : GG X (.Name x pos) (gName i) (aName i) [i] :=
  ⟨pg_name hN hi hx hf, lk_name i⟩
theorem ggs_nil : GGs X [] gNil aGNil [] := ⟨pgs_nil, lk_gnil⟩
theorem ggs_cons {e : Expr} {es : List Expr} {t : TG} {u : TGs} {a : AG} {b : AGs} {B1 B2 : List Nat} (h1 : GG X e t a B1) (h2 : GGs X es u b B2)
    (hs : (assignEach (e :: es) X.env).map (·.2) = assign e X.env :: (assignEach es X.env).map (·.2) := by rfl) : GGs X (e :: es) (gCons t u) (aGCons a b) (B1 ++ B2) := ⟨pgs_cons h1.pg h2.pg hs, lk_gcons h1.lk h2.lk⟩
theorem gg_tup {es : List Expr} {k : Nat} {t : TGs} {a : AGs} {B : List Nat} {n : Nat} {pos : Pos} (hc : X.calm = true) (h : GGs X es t a B)
    (hn : (assignEach es X.env).length = n := by rfl) (hst : (assignEach es X.env).findIdx? (·.1) = none := by rfl) : GG X (.Tuple es k pos) (gTup X.K n t) (aGTup n a) B := ⟨pg_tup hc h.pg hn hst, lk_gtup h.lk⟩
end

/-! ### assignments, returns -/
def aAsg (e : AE) (g : AG) : AS := fun A ρ => e ρ fun x ρ1 => match x with
  | .im d => g d ρ1 A.nx
  | _ => False
def aAsgO (l : AL) (i : Nat) : AS := fun A ρ => l ρ fun ds ρ1 => A.nx (ρ1.set i (.ow (.ol ds)))
def aRet (e : AE) : AS := fun A ρ => e ρ fun x ρ1 => match x with
  | .im d => A.rt d ρ1
  | _ => False
def aRetL (l : AL) : AS := fun A ρ => l ρ fun ds ρ1 => A.rl ds ρ1
def aRetN : AS := fun A ρ => A.rt .non ρ
def aDrop (e : AE) : AS := fun A ρ => e ρ fun _ ρ1 => A.nx ρ1
def aBreak : AS := fun A ρ => A.bk ρ
def aCont : AS := fun A ρ => A.ct ρ
/-- the object in slot i is changed no more -/
def frz (ρ : AR) (i : Nat) : AR := match ρ[i]? with
  | some (.ow (.ol ds)) => ρ.set i (.im (.lst ds))
  | _ => ρ
def aFrz (i : Nat) (s : AS) : AS := fun A ρ => s A (frz ρ i)
section
variable {K : PySem.W.Frag} {W : WX'} {te : TE} {e : AE} {l : AL} {g : TG} {ag : AG} {B : List Nat}
theorem lk_asg (he : LkE K te e) (hg : LkG K g ag B) : LkS K W (tAsg te g) (aAsg e ag) B := by
  intro A ρ h σ F H O s B' Dn hB bd
  refine he ρ _ h σ F H O s _ fun v x ρ1 F1 H1 k1 s1 r1 h1 => ?_
  split at h1
  · rename_i d
    exact hg d ρ1 A.nx h1 v σ F1 H1 O s1 r1 B' hB _ fun ρ2 σ2 F2 H2 k2 s2 e2 h2 => bd.nx ρ2 σ2 F2 H2 O (k1.trans k2) s2 e2 h2
  · exact h1.elim
theorem lk_asgO (hl : LkL K te l) (i : Nat) : LkS K W (tAsg te (gName i)) (aAsgO l i) [i] := by
  intro A ρ h σ F H O s B' Dn hB bd
  refine hl ρ _ h σ F H O s _ fun p xs ds ρ1 F1 H1 k1 s1 hp fp nO h0 r h1 => ?_
  refine bd.nx (ρ1.set i (.ow (.ol ds))) (σ.set i (some (.ref p))) F1 H1 (fun a => O a ∨ a = p) ⟨k1.h1, k1.h2, k1.h3, fun a ha => ?_⟩ (s1.setOw ⟨xs, hp, r⟩ fp nO i) (Keep.set (hB i List.mem_cons_self)) h1
  rcases ha with ha | rfl
  · exact .inl ha
  · exact .inr h0
theorem lk_ret (he : LkE K te e) : LkS K W (tRet te) (aRet e) [] := by
  intro A ρ h σ F H O s B' Dn hB bd
  refine he ρ _ h σ F H O s _ fun v x ρ1 F1 H1 k1 s1 r1 h1 => ?_
  split at h1
  · rename_i d
    exact bd.rt v d ρ1 σ F1 H1 O k1 s1 Keep.refl r1 h1
  · exact h1.elim
theorem lk_retL (hl : LkL K te l) : LkS K W (tRet te) (aRetL l) [] := fun A ρ h σ F H O s B' Dn hB bd =>
  hl ρ _ h σ F H O s _ fun p xs ds ρ1 F1 H1 k1 s1 hp fp nO h0 r h1 => bd.rl p xs ds ρ1 σ F1 H1 O k1 s1 Keep.refl hp fp nO (.inr h0) r h1
theorem lk_retN : LkS K W tRetN aRetN [] := fun A ρ h σ F H O s B' Dn hB bd => bd.rt .non .non ρ σ F H O Kp.refl s Keep.refl .non h
theorem lk_drop (he : LkE K te e) : LkS K W (tDrop te) (aDrop e) [] := fun A ρ h σ F H O s B' Dn hB bd =>
  he ρ _ h σ F H O s _ fun v x ρ1 F1 H1 k1 s1 r1 h1 => bd.nx ρ1 σ F1 H1 O k1 s1 Keep.refl h1
theorem lk_break : LkS K W tBreak aBreak [] := fun A ρ h σ F H O s B' Dn hB bd => bd.bk ρ σ F H O Kp.refl s Keep.refl h
theorem lk_cont : LkS K W tCont aCont [] := fun A ρ h σ F H O s B' Dn hB bd => bd.ct ρ σ F H O Kp.refl s Keep.refl h
theorem Sl.frz {F H : Hp} {ρ : AR} {σ : St} {O : Addr → Prop} (s : Sl K F H ρ σ O) (i : Nat) : ∃ F' O', Kp O F H O' F' H ∧ Sl K F' H (DL.frz ρ i) σ O' := by
  unfold DL.frz
  split
  · rename_i ds q
    obtain ⟨p, h1, h2, xs, h3, h4⟩ := s.ow i _ q
    have fp : F p = none := (s.fo p h2).1
    refine ⟨upd F p (.lst xs), fun a => O a ∧ a ≠ p, ⟨fun _ _ h _ => h, Ex.new fp, fun a u e => ?_, fun a h => .inl h.1⟩, ?_⟩
    · by_cases z : a = p
      · subst z; exact .inr (.inl h2)
      · rw [upd_ne z] at e; exact .inl e
    · refine ⟨by rw [List.length_set, s.len], fun j d h => ?_, fun j c h => ?_, fun j j' c c' q' hij h h' g g' => ?_, (KF.take s.ex h3 fp).2, fun a h => ?_⟩
      · rcases set_get h with ⟨rfl, e⟩ | ⟨n, e⟩
        · cases e
          exact ⟨.ref p, h1, .lst upd_same (h4.mono (Ex.new fp))⟩
        · obtain ⟨v, a1, a2⟩ := s.im j d e
          exact ⟨v, a1, a2.mono (Ex.new fp)⟩
      · rcases set_get h with ⟨rfl, e⟩ | ⟨n, e⟩
        · cases e
        · obtain ⟨p', a1, a2, a3⟩ := s.ow j c e
          refine ⟨p', a1, ⟨a2, fun z => ?_⟩, a3.mono (Ex.new fp) rfl⟩
          subst z
          exact s.ap j i c _ p' n e q a1 h1
      · rcases set_get h with ⟨rfl, e⟩ | ⟨n, e⟩
        · cases e
        · rcases set_get h' with ⟨rfl, e'⟩ | ⟨n', e'⟩
          · cases e'
          · exact s.ap j j' c c' q' hij e e' g g'
      · obtain ⟨f0, hv⟩ := s.fo a h.1
        exact ⟨by rw [upd_ne h.2]; exact f0, hv⟩
  · exact ⟨F, O, Kp.refl, s⟩
theorem lk_frz {ts : TS} {as : AS} (i : Nat) (h : LkS K W ts as B) : LkS K W ts (aFrz i as) B := fun A ρ hA σ F H O s B' Dn hB bd => by
  obtain ⟨F', O', k, s'⟩ := s.frz i
  exact h A (frz ρ i) hA σ F' H O' s' B' Dn hB (bd.shift k Keep.refl)
end
section
variable {X : Cx} {W : WX'} {e : Expr} {te : TE} {a : AE} {l : AL} {g : TG} {ag : AG} {B : List Nat} {tg : Expr} {pos : Pos}
theorem gs_asg (he : GE X e te a) (hg : GG X tg g ag B) (hs : swapsWithSole [tg] e pos.line X.env = pure false := by rfl) (hw : swappedStores [tg] e X.env = pure none := by rfl)
    (h1 : (assignEach [tg] X.env).map (·.2) = [assign tg X.env] := by rfl) : GS X W (.Assign [tg] e pos) (tAsg te g) (aAsg a ag) B := ⟨ps_asg he.pe hg.pg hs hw h1, lk_asg he.lk hg.lk⟩
theorem gs_set {i : Nat} {x : Str} {pos' : Pos} (hN : X.N.Nodup) (he : GE X e te a) (hi : X.N[i]? = some x := by rfl) (hx : Loc X.env.scope x := by first | exact .inl rfl | exact .inr rfl) (hs : swapsWith e (some (.Name x pos')) pos.line X.env = pure false := by rfl) (hf : X.fn x = true ∨ X.env.scope.names.lookup x = some .local := by first | exact .inl rfl | exact .inr rfl | assumption) :
    GS X W (.Assign [.Name x pos'] e pos) (tAsg te (gName i)) (aAsg a (aName i)) [i] := ⟨ps_set hN hi hx he.pe hs hf, lk_asg he.lk (lk_name i)⟩
theorem gs_setO {i : Nat} {x : Str} {pos' : Pos} (hN : X.N.Nodup) (he : GL X e te l) (hi : X.N[i]? = some x := by rfl) (hx : Loc X.env.scope x := by first | exact .inl rfl | exact .inr rfl) (hs : swapsWith e (some (.Name x pos')) pos.line X.env = pure false := by rfl) (hf : X.fn x = true ∨ X.env.scope.names.lookup x = some .local := by first | exact .inl rfl | exact .inr rfl | assumption) :
    GS X W (.Assign [.Name x pos'] e pos) (tAsg te (gName i)) (aAsgO l i) [i] := ⟨ps_set hN hi hx he.pe hs hf, lk_asgO he.lk i⟩
theorem gs_ret (he : GE X e te a) : GS X W (.Return (some e) pos) (tRet te) (aRet a) [] := ⟨ps_ret he.pe, lk_ret he.lk⟩
theorem gs_retL (he : GL X e te l) : GS X W (.Return (some e) pos) (tRet te) (aRetL l) [] := ⟨ps_ret he.pe, lk_retL he.lk⟩
theorem gs_expr (he : GE X e te a) (hs : swapsWith e none pos.line X.env = pure false := by rfl) : GS X W (.Expr e pos) (tDrop te) (aDrop a) [] := ⟨ps_expr he.pe hs, lk_drop he.lk⟩
theorem gs_frz {st : Stmt} {ts : TS} {as : AS} (i : Nat) (h : GS X W st ts as B) : GS X W st ts (aFrz i as) B := ⟨h.ps, lk_frz i h.lk⟩
end
end DL

namespace DL
open PySem PySem.Spec L2
open PyProof.Rows hiding St

/-! ### what is walked -/
structure Walks (K : PySem.W.Frag) (J : It) (F : Hp) (ds : List D) : Prop where
  go : ∀ i H, i < ds.length → Ex F H → J.go i H
  yld : ∀ (i : Nat) (H : Hp) (x : V) (H' : Hp) (d : D), ds[i]? = some d → Ex F H → J.yld i H x H' → ∀ F1, Ex F F1 → Ex F1 H → ∃ F2, KF F1 H F2 H' ∧ Rp K F2 x d
  stop : ∀ H, Ex F H → J.stop ds.length H
abbrev AI := AR → (List D → AR → Prop) → Prop
def LkI (K : PySem.W.Frag) (wi : TI) (ai : AI) : Prop := ∀ (ρ : AR) (k : List D → AR → Prop), ai ρ k → ∀ (σ : St) (F H : Hp) (O : Addr → Prop), Sl K F H ρ σ O → ∀ R : It → Hp → Prop,
  (∀ J ds ρ' F' H', Kp O F H O F' H' → Sl K F' H' ρ' σ O → Walks K J F' ds → k ds ρ' → R J H') → wi σ H R
structure GI (X : Cx) (tg iter : Expr) (wi : TI) (ai : AI) : Prop where
  pi : PI X tg iter wi
  lk : LkI X.K wi ai
theorem Rd.inj {H : Hp} {a : Addr} {xs ys : List V} (h : Rd H a (.lst xs)) (g : Rd H a (.lst ys)) : xs = ys := by
  rcases h with h | ⟨o, h⟩ <;> rcases g with g | ⟨o', g⟩ <;> rw [h] at g <;> cases g <;> rfl
section
variable {K : PySem.W.Frag} {F : Hp}
theorem walks_lst {a : Addr} {xs : List V} {ds : List D} (h : SqL K F a xs) (r : RpA K F xs ds) : Walks K (Itl K a) F ds where
  go := fun i H hi e => by
    have hi' : i < xs.length := by rw [r.length]; exact hi
    exact ⟨xs, xs[i], e.l h, List.getElem?_eq_getElem hi'⟩
  yld := fun i H x H' d hd e y F1 e1 e2 => by
    obtain ⟨rfl, y⟩ := y
    obtain ⟨v, h1, h2⟩ := r.get hd
    have q := y xs (e.l h)
    rw [h1] at q
    cases q
    exact ⟨F1, KF.refl e2, h2.mono e1⟩
  stop := fun H e => ⟨xs, e.l h, by rw [r.length]; exact Nat.le_refl _⟩
theorem walks_tup {a : Addr} {xs : List V} {ds : List D} (h : SqT K F a xs) (r : RpA K F xs ds) : Walks K (Itt K a) F ds where
  go := fun i H hi e => by
    have hi' : i < xs.length := by rw [r.length]; exact hi
    exact ⟨xs, xs[i], e.t h, List.getElem?_eq_getElem hi'⟩
  yld := fun i H x H' d hd e y F1 e1 e2 => by
    obtain ⟨rfl, y⟩ := y
    obtain ⟨v, h1, h2⟩ := r.get hd
    have q := y xs (e.t h)
    rw [h1] at q
    cases q
    exact ⟨F1, KF.refl e2, h2.mono e1⟩
  stop := fun H e => ⟨xs, e.t h, by rw [r.length]; exact Nat.le_refl _⟩
/-- lo, lo + 1, .. -/
def rng (lo : Int) (n : Nat) : List D := (List.range n).map fun i => .int (lo + (i : Nat))
theorem rng_len (lo : Int) (n : Nat) : (rng lo n).length = n := by unfold rng; rw [List.length_map, List.length_range]
theorem rng_get {lo : Int} {n i : Nat} {d : D} (h : (rng lo n)[i]? = some d) : i < n ∧ d = .int (lo + (i : Nat)) := by
  have hi := get_lt h
  rw [rng_len] at hi
  unfold rng at h
  rw [List.getElem?_map, List.getElem?_range hi] at h
  exact ⟨hi, (Option.some.inj h).symm⟩
theorem walks_rng (lo : Int) (n : Nat) : Walks K (Itr lo n) F (rng lo n) where
  go := fun i H hi e => by rw [rng_len] at hi; exact hi
  yld := fun i H x H' d hd e y F1 e1 e2 => by
    obtain ⟨rfl, rfl⟩ := y
    obtain ⟨_, rfl⟩ := rng_get hd
    exact ⟨F1, KF.refl e2, .int _⟩
  stop := fun H e => by rw [rng_len]; exact Nat.le_refl _
end
/-- over a list, a tuple -/
def aIL (e : AE) : AI := fun ρ k => e ρ fun x ρ1 => match x with
  | .im (.lst ds) => k ds ρ1
  | _ => False
def aIT (e : AE) : AI := fun ρ k => e ρ fun x ρ1 => match x with
  | .im (.tup ds) => k ds ρ1
  | _ => False
def aRg1 (aa : AA) : AI := fun ρ k => aa ρ fun as ρ1 => match as with
  | [.im (.int n)] => (-1000000 ≤ n ∧ n ≤ 1000000) ∧ k (rng 0 n.toNat) ρ1
  | _ => False
def aRg2 (aa : AA) : AI := fun ρ k => aa ρ fun as ρ1 => match as with
  | [.im (.int a), .im (.int b)] => (-1000000 ≤ a ∧ a ≤ 1000000 ∧ -1000000 ≤ b ∧ b ≤ 1000000) ∧ k (rng a (b - a).toNat) ρ1
  | _ => False
section
variable {K : PySem.W.Frag} {te : TE} {e : AE} {ta : TA} {aa : AA}
theorem lk_iL (he : LkE K te e) : LkI K (iList K te) (aIL e) := by
  intro ρ k hk σ F H O s R hq
  refine he ρ _ hk σ F H O s _ fun v x ρ1 F1 H1 k1 s1 r1 h1 => ?_
  split at h1
  · rename_i ds
    cases (show Rp K F1 v (.lst ds) from r1) with
    | lst a1 a2 => exact ⟨_, rfl, ⟨_, SqL.of (s1.ex _ _ a1)⟩, hq _ ds ρ1 F1 H1 k1 s1 (walks_lst (SqL.of a1) a2) h1⟩
  · exact h1.elim
theorem lk_iT (he : LkE K te e) : LkI K (iTup K te) (aIT e) := by
  intro ρ k hk σ F H O s R hq
  refine he ρ _ hk σ F H O s _ fun v x ρ1 F1 H1 k1 s1 r1 h1 => ?_
  split at h1
  · rename_i ds
    cases (show Rp K F1 v (.tup ds) from r1) with
    | tup a1 a2 => exact ⟨_, rfl, ⟨_, s1.ex.t a1⟩, hq _ ds ρ1 F1 H1 k1 s1 (walks_tup a1 a2) h1⟩
  · exact h1.elim
theorem lk_rg1 (ha : LkA K ta aa) : LkI K (iRng1 ta) (aRg1 aa) := by
  intro ρ k hk σ F H O s R hq
  refine ha ρ _ hk σ F H O s _ fun vs as ρ1 F1 H1 k1 s1 r1 h1 => ?_
  split at h1
  · rename_i n
    match vs, r1 with
    | [v], ⟨r, _⟩ =>
      cases (show Rp K F1 v (.int n) from r)
      exact ⟨n, rfl, by omega, by omega, hq _ _ ρ1 F1 H1 k1 s1 (walks_rng 0 n.toNat) h1.2⟩
  · exact h1.elim
theorem lk_rg2 (ha : LkA K ta aa) : LkI K (iRng2 ta) (aRg2 aa) := by
  intro ρ k hk σ F H O s R hq
  refine ha ρ _ hk σ F H O s _ fun vs as ρ1 F1 H1 k1 s1 r1 h1 => ?_
  split at h1
  · rename_i a b
    match vs, r1 with
    | [v, u], ⟨r, r', _⟩ =>
      cases (show Rp K F1 v (.int a) from r)
      cases (show Rp K F1 u (.int b) from r')
      exact ⟨a, b, rfl, ⟨by omega, by omega, by omega, by omega⟩, hq _ _ ρ1 F1 H1 k1 s1 (walks_rng a (b - a).toNat) h1.2⟩
  · exact h1.elim
end
section
variable {X : Cx} {tg e : Expr} {te : TE} {a : AE} {x y : Expr} {ta : TA} {aa : AA} {p pos : Pos}
theorem gi_list (he : GE X e te a) : GI X tg e (iList X.K te) (aIL a) := ⟨pi_list he.pe, lk_iL he.lk⟩
theorem gi_tup (he : GE X e te a) : GI X tg e (iTup X.K te) (aIT a) := ⟨pi_tup he.pe, lk_iT he.lk⟩
end

/-! ### for, while -/
def aFor (ai : AI) (g : AG) (b : AS) : AS := fun A ρ => ai ρ fun ds ρ1 => ∃ W : Nat → AR → Prop, W 0 ρ1 ∧
  (∀ (i : Nat) (d : D) (ρ' : AR), ds[i]? = some d → W i ρ' → g d ρ' fun ρ'' => b { A with nx := W (i + 1), ct := W (i + 1), bk := A.nx } ρ'') ∧ ∀ ρ', W ds.length ρ' → A.nx ρ'
def aWhile (t : AT) (b : AS) : AS := fun A ρ => ∃ W : Nat → AR → Prop, (∃ m, W m ρ) ∧ ∀ m ρ', W m ρ' →
  t ρ' fun c ρ1 => if c = true then b { A with nx := fun ρ2 => ∃ m', m' < m ∧ W m' ρ2, ct := fun ρ2 => ∃ m', m' < m ∧ W m' ρ2, bk := A.nx } ρ1 else A.nx ρ1
section
variable {K : PySem.W.Frag} {W : WX'} {wi : TI} {ai : AI} {g : TG} {ag : AG} {tb : TS} {ab : AS} {B1 B2 B : List Nat}
theorem lk_for (hi : LkI K wi ai) (hg : LkG K g ag B1) (hb : LkS K W tb ab B2) : LkS K W (tFor wi g tb) (aFor ai ag ab) (B1 ++ B2) := by
  intro A ρ h σ F H O s B' Dn hB bd
  refine hi ρ _ h σ F H O s _ fun J ds ρ1 F1 H1 k1 s1 wk h1 => ?_
  obtain ⟨Wa, w0, turn, done⟩ := h1
  have hB1 : ∀ i ∈ B1, i ∈ B' := fun i hi => hB i (List.mem_append_left _ hi)
  have hB2 : ∀ i ∈ B2, i ∈ B' := fun i hi => hB i (List.mem_append_right _ hi)
  let Inv : Nat → St → Hp → Prop := fun i σ' H' => ∃ ρ' F' O', Kp O F1 H1 O' F' H' ∧ Sl K F' H' ρ' σ' O' ∧ Keep B' σ σ' ∧ Wa i ρ'
  refine ⟨fun i m σ' H' => m = ds.length - i ∧ i ≤ ds.length ∧ Inv i σ' H', ⟨ds.length, by simp, Nat.zero_le _, ρ1, F1, O, Kp.refl, s1, Keep.refl, w0⟩, ?_⟩
  rintro i m σ' H' ⟨rfl, hle, ρ', F', O', k2, s2, e2, w2⟩
  have exF : Ex F1 H' := k2.h2.trans s2.ex
  by_cases hlt : i < ds.length
  · refine .inr ⟨wk.go i H' hlt exF, Inv (i + 1), fun σ3 H3 q => ⟨ds.length - (i + 1), by omega, rfl, hlt, q⟩, fun x H3 y => ?_⟩
    obtain ⟨F3, kf, rx⟩ := wk.yld i H' x H3 ds[i] (List.getElem?_eq_getElem hlt) exF y F' k2.h2 s2.ex
    have s3 := s2.kf kf
    refine hg ds[i] ρ' _ (turn i ds[i] ρ' (List.getElem?_eq_getElem hlt) w2) x σ' F3 H3 O' s3 rx B' hB1 _ fun ρ4 σ4 F4 H4 k4 s4 e4 h4 => ?_
    have kk : Kp O F1 H1 O' F4 H4 := (k2.trans kf.kp).trans k4
    refine hb _ ρ4 h4 σ4 F4 H4 O' s4 B' _ hB2 ⟨fun ρ5 σ5 F5 H5 O5 k5 s5 e5 w5 => ?_, fun v d ρ5 σ5 F5 H5 O5 k5 s5 e5 r5 w5 => ?_, fun ρ5 σ5 F5 H5 O5 k5 s5 e5 w5 => ?_, fun ρ5 σ5 F5 H5 O5 k5 s5 e5 w5 => ?_, fun x' cls dd ρ5 σ5 F5 H5 O5 k5 s5 e5 o5 w5 => ?_, fun p5 xs5 ds5 ρ5 σ5 F5 H5 O5 k5 s5 e5 a1 a2 a3 a4 r5 w5 => ?_⟩
    · exact ⟨ρ5, F5, O5, kk.trans k5, s5, (e2.trans e4).trans e5, w5⟩
    · exact bd.rt v d ρ5 σ5 F5 H5 O5 ((k1.trans kk).trans k5) s5 ((e2.trans e4).trans e5) r5 w5
    · exact bd.nx ρ5 σ5 F5 H5 O5 ((k1.trans kk).trans k5) s5 ((e2.trans e4).trans e5) w5
    · exact ⟨ρ5, F5, O5, kk.trans k5, s5, (e2.trans e4).trans e5, w5⟩
    · exact bd.ex x' cls dd ρ5 σ5 F5 H5 O5 ((k1.trans kk).trans k5) s5 ((e2.trans e4).trans e5) o5 w5
    · exact bd.rl p5 xs5 ds5 ρ5 σ5 F5 H5 O5 ((k1.trans kk).trans k5) s5 ((e2.trans e4).trans e5) a1 a2 a3 ((k1.trans kk).back2 a4) r5 w5
  · have e : i = ds.length := by omega
    subst e
    exact .inl ⟨wk.stop H' exF, bd.nx ρ' σ' F' H' O' (k1.trans k2) s2 e2 (done ρ' w2)⟩
theorem lk_while {tt : TT} {at_ : AT} (ht : LkT K tt at_) (hb : LkS K W tb ab B) : LkS K W (tWhile tt tb) (aWhile at_ ab) B := by
  intro A ρ h σ F H O s B' Dn hB bd
  obtain ⟨Wa, ⟨m0, w0⟩, turn⟩ := h
  let Inv : Nat → St → Hp → Prop := fun m σ' H' => ∃ ρ' F' O', Kp O F H O' F' H' ∧ Sl K F' H' ρ' σ' O' ∧ Keep B' σ σ' ∧ Wa m ρ'
  refine ⟨Inv, ⟨m0, ρ, F, O, Kp.refl, s, Keep.refl, w0⟩, ?_⟩
  rintro m σ' H' ⟨ρ', F', O', k2, s2, e2, w2⟩
  refine ht ρ' _ (turn m ρ' w2) σ' F' H' O' s2 _ fun c ρ3 F3 H3 k3 s3 h3 => ?_
  have kk := k2.trans k3
  cases c with
  | true =>
    rw [if_pos rfl] at h3 ⊢
    refine ⟨fun σ5 H5 => ∃ m', m' < m ∧ Inv m' σ5 H5, fun σ5 H5 q => q, ?_⟩
    refine hb _ ρ3 h3 σ' F3 H3 O' s3 B' _ hB ⟨fun ρ5 σ5 F5 H5 O5 k5 s5 e5 w5 => ?_, fun v d ρ5 σ5 F5 H5 O5 k5 s5 e5 r5 w5 => ?_, fun ρ5 σ5 F5 H5 O5 k5 s5 e5 w5 => ?_, fun ρ5 σ5 F5 H5 O5 k5 s5 e5 w5 => ?_, fun x' cls dd ρ5 σ5 F5 H5 O5 k5 s5 e5 o5 w5 => ?_, fun p5 xs5 ds5 ρ5 σ5 F5 H5 O5 k5 s5 e5 a1 a2 a3 a4 r5 w5 => ?_⟩
    · obtain ⟨m', hm, w5⟩ := w5
      exact ⟨m', hm, ρ5, F5, O5, kk.trans k5, s5, e2.trans e5, w5⟩
    · exact bd.rt v d ρ5 σ5 F5 H5 O5 (kk.trans k5) s5 (e2.trans e5) r5 w5
    · exact bd.nx ρ5 σ5 F5 H5 O5 (kk.trans k5) s5 (e2.trans e5) w5
    · obtain ⟨m', hm, w5⟩ := w5
      exact ⟨m', hm, ρ5, F5, O5, kk.trans k5, s5, e2.trans e5, w5⟩
    · exact bd.ex x' cls dd ρ5 σ5 F5 H5 O5 (kk.trans k5) s5 (e2.trans e5) o5 w5
    · exact bd.rl p5 xs5 ds5 ρ5 σ5 F5 H5 O5 (kk.trans k5) s5 (e2.trans e5) a1 a2 a3 (kk.back2 a4) r5 w5
  | false =>
    rw [if_neg Bool.false_ne_true] at h3 ⊢
    exact bd.nx ρ3 σ' F3 H3 O' kk s3 e2 h3
end
section
variable {X : Cx} {W : WX'} {iter tg : Expr} {body : List Stmt} {wi : TI} {ai : AI} {g : TG} {ag : AG} {tb : TS} {ab : AS} {B1 B2 B : List Nat} {pos : Pos}
theorem gs_for (hp : PassesOwn (model X.prog X.w) X.A X.env X.xe) (hc : X.calm = true) (hi : GI X tg iter wi ai) (hg : GG X tg g ag B1) (hb : GSs X W body tb ab B2) (hs : ∀ x, foldedSetIterable iter X.env x = pure x := by intro _; rfl) : GS X W (.For tg iter body [] pos) (tFor wi g tb) (aFor ai ag ab) (B1 ++ B2) :=
  ⟨ps_for hp hc hi.pi hg.pg hb.ps hs, lk_for hi.lk hg.lk hb.lk⟩
theorem gs_while {c : Expr} {tc : TT} {ac : AT} (hp : PassesOwn (model X.prog X.w) X.A X.env X.xe) (hc : GT X c tc ac) (hb : GSs X W body tb ab B) : GS X W (.While c body [] pos) (tWhile tc tb) (aWhile ac ab) B :=
  ⟨ps_while hp hc.pt hb.ps, lk_while hc.lk hb.lk⟩
end

/-! ### comprehensions -/
def wipeA (ρ : AR) : List Nat → AR
  | [] => ρ
  | v :: vs => (wipeA ρ vs).set v .un
def mrg : List Nat → AR → AR → AR
  | [], _, ρ4 => ρ4
  | v :: vs, ρ, ρ4 => (mrg vs ρ ρ4).set v (ρ.getD v .un)
def noOw (ρ : AR) : List Nat → Bool
  | [] => true
  | v :: vs => !isOw ρ v && noOw ρ vs
def aYes : AT := fun ρ k => k true ρ
def aLc (ai : AI) (g : AG) (at_ : AT) (ae : AE) (vs : List Nat) : AL := fun ρ k => ai ρ fun ds ρ1 => ∃ W : Nat → List D → AR → Prop, W 0 [] ρ1 ∧
  (∀ (i : Nat) (d : D) (acc : List D) (ρ' : AR), ds[i]? = some d → W i acc ρ' → noOw ρ' vs = true ∧ g d (wipeA ρ' vs) fun ρ2 => at_ ρ2 fun b ρ3 =>
    if b = true then ae ρ3 fun x ρ4 => ∃ y, x = .im y ∧ acc.length < 1000000 ∧ W (i + 1) (acc ++ [y]) (mrg vs ρ' ρ4) else W (i + 1) acc (mrg vs ρ' ρ3)) ∧
  ∀ acc ρ', W ds.length acc ρ' → k acc ρ'
section
variable {K : PySem.W.Frag} {F H : Hp} {ρ ρ4 : AR} {σ σ2 : St} {O : Addr → Prop}
theorem wipe_get {vs : List Nat} : ∀ {σ : St} {i : Nat}, i ∉ vs → (wipe σ vs)[i]? = σ[i]? := by
  induction vs with
  | nil => intro σ i _; rfl
  | cons v vs ih =>
    intro σ i h
    unfold wipe
    rw [List.getElem?_set_ne (fun z => h (by rw [z]; exact List.mem_cons_self))]
    exact ih fun z => h (List.mem_cons_of_mem _ z)
theorem wipe_in {vs : List Nat} : ∀ {σ : St} {i : Nat}, i ∈ vs → i < σ.length → (wipe σ vs)[i]? = some none := by
  induction vs with
  | nil => intro σ i h; cases h
  | cons v vs ih =>
    intro σ i h hi
    unfold wipe
    by_cases e : v = i
    · subst e
      exact List.getElem?_set_self (by rw [wipe_length]; exact hi)
    · rw [List.getElem?_set_ne e]
      exact ih ((List.mem_cons.mp h).resolve_left fun z => e z.symm) hi
theorem wipe_eq {vs : List Nat} (hl : σ2.length = σ.length) (h : ∀ i : Nat, i ∉ vs → σ2[i]? = σ[i]?) : wipe σ2 vs = wipe σ vs := by
  apply List.ext_getElem?
  intro i
  by_cases hi : i ∈ vs
  · by_cases hz : i < σ.length
    · rw [wipe_in hi hz, wipe_in hi (by rw [hl]; exact hz)]
    · rw [List.getElem?_eq_none (by rw [wipe_length, hl]; omega), List.getElem?_eq_none (by rw [wipe_length]; omega)]
  · rw [wipe_get hi, wipe_get hi, h i hi]
theorem wipeA_len (vs : List Nat) : (wipeA ρ vs).length = ρ.length := by
  induction vs with
  | nil => rfl
  | cons v vs ih => unfold wipeA; rw [List.length_set, ih]
theorem wipeA_get {s : SV} : ∀ {vs : List Nat} {i : Nat}, (wipeA ρ vs)[i]? = some s → s = .un ∨ (ρ[i]? = some s ∧ i ∉ vs)
  | [], i, h => .inr ⟨h, by simp⟩
  | v :: vs, i, h => by
    unfold wipeA at h
    rcases set_get h with ⟨rfl, e⟩ | ⟨n, e⟩
    · exact .inl e
    · rcases wipeA_get e with q | ⟨q, m⟩
      · exact .inl q
      · exact .inr ⟨q, by simp only [List.mem_cons, not_or]; exact ⟨n, m⟩⟩
theorem Sl.wipe (s : Sl K F H ρ σ O) (vs : List Nat) : Sl K F H (wipeA ρ vs) (L2.wipe σ vs) O where
  len := by rw [wipeA_len, wipe_length, s.len]
  im := fun i d h => by
    rcases wipeA_get h with e | ⟨e, n⟩
    · cases e
    · obtain ⟨v, h1, h2⟩ := s.im i d e
      exact ⟨v, (wipe_get n).trans h1, h2⟩
  ow := fun i c h => by
    rcases wipeA_get h with e | ⟨e, n⟩
    · cases e
    · obtain ⟨p, h1, h2⟩ := s.ow i c e
      exact ⟨p, (wipe_get n).trans h1, h2⟩
  ap := fun i j c c' p hij h h' g g' => by
    rcases wipeA_get h with e | ⟨e, n⟩
    · cases e
    · rcases wipeA_get h' with e' | ⟨e', n'⟩
      · cases e'
      · rw [wipe_get n] at g
        rw [wipe_get n'] at g'
        exact s.ap i j c c' p hij e e' g g'
  ex := s.ex
  fo := s.fo
theorem mrg_len (vs : List Nat) : (mrg vs ρ ρ4).length = ρ4.length := by
  induction vs with
  | nil => rfl
  | cons v vs ih => unfold mrg; rw [List.length_set, ih]
theorem mrg_get {s : SV} : ∀ {vs : List Nat} {i : Nat}, (mrg vs ρ ρ4)[i]? = some s → (i ∈ vs ∧ s = ρ.getD i .un) ∨ (i ∉ vs ∧ ρ4[i]? = some s)
  | [], i, h => .inr ⟨by simp, h⟩
  | v :: vs, i, h => by
    unfold mrg at h
    rcases set_get h with ⟨rfl, e⟩ | ⟨n, e⟩
    · exact .inl ⟨List.mem_cons_self, e⟩
    · rcases mrg_get e with ⟨q, m⟩ | ⟨q, m⟩
      · exact .inl ⟨List.mem_cons_of_mem _ q, m⟩
      · exact .inr ⟨by simp only [List.mem_cons, not_or]; exact ⟨n, q⟩, m⟩
theorem noOw_get : ∀ {vs : List Nat} {i : Nat} {c : OC}, noOw ρ vs = true → i ∈ vs → ρ[i]? ≠ some (.ow c)
  | [], _, _, _, h => by cases h
  | v :: vs, i, c, hn, h => by
    unfold noOw at hn
    simp only [Bool.and_eq_true, Bool.not_eq_true'] at hn
    rcases List.mem_cons.mp h with rfl | h
    · intro e
      have q := hn.1
      unfold isOw at q
      rw [e] at q
      cases q
    · exact noOw_get hn.2 h
theorem getD_some {s : SV} {i : Nat} (h : ρ.getD i .un = s) (hs : s ≠ .un) : ρ[i]? = some s := by
  rw [List.getD_eq_getElem?_getD] at h
  cases e : ρ[i]? with
  | none => rw [e] at h; exact (hs h.symm).elim
  | some t => rw [e] at h; exact congrArg some h
/-- the block's end: the names ahead are there again -/
theorem Sl.merge {F' H' : Hp} {vs : List Nat} (s : Sl K F H ρ σ O) (hn : noOw ρ vs = true) (e : Ex F F') (s4 : Sl K F' H' ρ4 σ2 O) (hl : σ2.length = σ.length) (hk : ∀ i : Nat, i ∉ vs → σ2[i]? = σ[i]?) : Sl K F' H' (mrg vs ρ ρ4) σ O where
  len := by rw [mrg_len, s4.len, hl]
  im := fun i d h => by
    rcases mrg_get h with ⟨hi, q⟩ | ⟨hi, q⟩
    · obtain ⟨v, h1, h2⟩ := s.im i d (getD_some q.symm (by intro z; cases z))
      exact ⟨v, h1, h2.mono e⟩
    · obtain ⟨v, h1, h2⟩ := s4.im i d q
      exact ⟨v, (hk i hi).symm.trans h1, h2⟩
  ow := fun i c h => by
    rcases mrg_get h with ⟨hi, q⟩ | ⟨hi, q⟩
    · exact (noOw_get hn hi (getD_some q.symm (by intro z; cases z))).elim
    · obtain ⟨p, h1, h2⟩ := s4.ow i c q
      exact ⟨p, (hk i hi).symm.trans h1, h2⟩
  ap := fun i j c c' p hij h h' g g' => by
    rcases mrg_get h with ⟨hi, q⟩ | ⟨hi, q⟩
    · exact (noOw_get hn hi (getD_some q.symm (by intro z; cases z))).elim
    · rcases mrg_get h' with ⟨hi', q'⟩ | ⟨hi', q'⟩
      · exact (noOw_get hn hi' (getD_some q'.symm (by intro z; cases z))).elim
      · rw [← hk i hi] at g
        rw [← hk j hi'] at g'
        exact s4.ap i j c c' p hij q q' g g'
  ex := s4.ex
  fo := s4.fo
theorem Kp.at_ {O O' : Addr → Prop} {F H F' H' : Hp} (k : Kp O F H O' F' H') {p : Addr} {o : HO} (h0 : H p = none) : Kp O F H O' F' (upd H' p o) :=
  ⟨fun a u e n => by rw [upd_ne (ne_of_none e h0)]; exact k.h1 a u e n, k.h2, k.h3, k.h4⟩
theorem Sl.other (s : Sl K F H ρ σ O) {p : Addr} {o : HO} (fp : F p = none) (nO : ¬ O p) : Sl K F (upd H p o) ρ σ O where
  len := s.len
  im := s.im
  ow := fun i c e => by
    obtain ⟨q, h1, h2, h3⟩ := s.ow i c e
    exact ⟨q, h1, h2, h3.mono (Ex.refl F) (upd_ne fun z => nO (by rw [← z]; exact h2))⟩
  ap := s.ap
  ex := fun a u e => by
    rw [upd_ne (ne_of_none e fp)]
    exact s.ex a u e
  fo := fun a h => by
    obtain ⟨f0, u, hu⟩ := s.fo a h
    exact ⟨f0, u, by rw [upd_ne (fun z => nO (by rw [← z]; exact h))]; exact hu⟩
theorem lk_yes : LkT K tYes aYes := fun ρ k hk σ F H O s Q hq => hq true ρ F H Kp.refl s hk
theorem lc_at {J : It} {ds : List D} {F1 H1 : Hp} {ρ1 : AR} {σ : St} {O : Addr → Prop} {k : List D → AR → Prop} {g : TG} {ag : AG} {tt : TT} {at_ : AT} {te : TE} {ae : AE} {vs B : List Nat} (hg : LkG K g ag B) (ht : LkT K tt at_) (he : LkE K te ae) (hB : ∀ i ∈ B, i ∈ vs)
    (s1 : Sl K F1 H1 ρ1 σ O) (wk : Walks K J F1 ds) (h1 : aLc (fun ρ kk => kk ds ρ) ag at_ ae vs ρ1 k) (Q : VK)
    (hq : ∀ p xs ds ρ' F' H', Kp O F1 H1 O F' H' → Sl K F' H' ρ' σ O → H' p = some (.lst xs) → F' p = none → ¬ O p → H1 p = none → RpA K F' xs ds → k ds ρ' → Q (.ref p) H') : tLc (fun _ H R => R J H) g tt te vs σ H1 Q := by
  obtain ⟨Wa, w0, turn, done⟩ := h1
  intro Dl hD
  have nO : ¬ O Dl := s1.notO hD
  have fD : F1 Dl = none := s1.notF hD
  let Inv : Nat → Hp → Prop := fun i H' => ∃ ρ' F' acc xs, Kp O F1 H1 O F' H' ∧ Sl K F' H' ρ' σ O ∧ H' Dl = some (.lst xs) ∧ F' Dl = none ∧ RpA K F' xs acc ∧ Wa i acc ρ'
  have sD : Sl K F1 (upd H1 Dl (.lst [])) ρ1 σ O := s1.kf ⟨Ex.refl _, Ex.new hD, s1.ex.trans (Ex.new hD), fun _ _ h => .inl h⟩
  refine ⟨fun i m H' => m = ds.length - i ∧ i ≤ ds.length ∧ Inv i H', ⟨ds.length, by simp, Nat.zero_le _, ρ1, F1, [], [], ⟨fun a o h _ => Ex.new hD a o h, Ex.refl _, fun _ _ h => .inl h, fun _ h => .inl h⟩, sD, upd_same, fD, .nil, w0⟩, ?_⟩
  rintro i m H' ⟨rfl, hle, ρ', F', acc, xs, k2, s2, hDl, fDl, racc, w2⟩
  have exF : Ex F1 H' := k2.h2.trans s2.ex
  by_cases hlt : i < ds.length
  · refine .inr ⟨wk.go i H' hlt exF, Inv (i + 1), fun H3 q => ⟨ds.length - (i + 1), by omega, rfl, hlt, q⟩, fun x H3 y => ?_⟩
    obtain ⟨F3, kf, rx⟩ := wk.yld i H' x H3 ds[i] (List.getElem?_eq_getElem hlt) exF y F' k2.h2 s2.ex
    obtain ⟨hno, turn'⟩ := turn i ds[i] acc ρ' (List.getElem?_eq_getElem hlt) w2
    have s3 := s2.kf kf
    refine hg ds[i] _ _ turn' x (wipe σ vs) F3 H3 O (s3.wipe vs) rx vs hB _ fun ρ4 σ4 F4 H4 k4 s4 e4 h4 => ?_
    have hl4 : σ4.length = σ.length := by rw [e4.ln, wipe_length]
    have hk4 : ∀ i : Nat, i ∉ vs → σ4[i]? = σ[i]? := fun i hi => (e4.at_ i hi).trans (wipe_get hi)
    refine ⟨wipe_eq hl4 hk4, ?_⟩
    refine ht ρ4 _ h4 σ4 F4 H4 O s4 _ fun b ρ5 F5 H5 k5 s5 h5 => ?_
    have k45 : Kp O F' H' O F5 H5 := (kf.kp.trans k4).trans k5
    -- the new list is untouched
    have keepD : ∀ {F6 H6 : Hp}, Kp O F' H' O F6 H6 → H6 Dl = some (.lst xs) ∧ F6 Dl = none := fun {F6 H6} kk => ⟨kk.h1 Dl _ hDl nO, by
      cases q : F6 Dl with
      | none => rfl
      | some u =>
        rcases kk.h3 Dl u q with z | z | z
        · rw [fDl] at z; cases z
        · exact (nO z).elim
        · rw [hDl] at z; cases z⟩
    cases b with
    | true =>
      rw [if_pos rfl] at h5 ⊢
      refine he ρ5 _ h5 σ4 F5 H5 O s5 _ fun v x' ρ6 F6 H6 k6 s6 r6 h6 => ?_
      obtain ⟨y', rfl, hz, w6⟩ := h6
      have kk := k45.trans k6
      obtain ⟨hD6, fD6⟩ := keepD kk
      have rv : Rp K F6 v y' := r6
      have hl : xs.length < sizeLine := by rw [racc.length]; exact szl hz
      have sm : Sl K F6 H6 (mrg vs ρ' ρ6) σ O := s2.merge hno kk.h2 s6 hl4 hk4
      refine ⟨xs, hD6, hl, mrg vs ρ' ρ6, F6, acc ++ [y'], xs ++ [v], (k2.trans kk).at_ hD, sm.other fD6 nO, upd_same, fD6, (racc.mono kk.h2).append (.cons rv .nil), w6⟩
    | false =>
      rw [if_neg Bool.false_ne_true] at h5 ⊢
      obtain ⟨hD5, fD5⟩ := keepD k45
      exact ⟨mrg vs ρ' ρ5, F5, acc, xs, k2.trans k45, s2.merge hno k45.h2 s5 hl4 hk4, hD5, fD5, racc.mono k45.h2, h5⟩
  · have e : i = ds.length := by omega
    subst e
    exact .inl ⟨wk.stop H' exF, hq Dl xs acc ρ' F' H' k2 s2 hDl fDl nO hD racc (done acc ρ' w2)⟩
theorem lk_lc {wi : TI} {ai : AI} {g : TG} {ag : AG} {tt : TT} {at_ : AT} {te : TE} {ae : AE} {vs B : List Nat} (hi : LkI K wi ai) (hg : LkG K g ag B) (ht : LkT K tt at_) (he : LkE K te ae) (hB : ∀ i ∈ B, i ∈ vs) :
    LkL K (tLc wi g tt te vs) (aLc ai ag at_ ae vs) := by
  intro ρ k hk σ F H O s Q hq
  exact hi ρ _ hk σ F H O s _ fun J ds ρ1 F1 H1 k1 s1 wk h1 => lc_at hg ht he hB s1 wk h1 Q fun p xs ds ρ' F' H' k2 s2 hp fp nO h0 r hk' => hq p xs ds ρ' F' H' (k1.trans k2) s2 hp fp nO (k1.back h0 nO) r hk'
end
section
variable {X : Cx}
structure GTs (X : Cx) (ifs : List Expr) (tt : TT) (at_ : AT) : Prop where
  pt : PTs X ifs tt
  lk : LkT X.K tt at_
theorem gts_nil : GTs X [] tYes aYes := ⟨pts_nil, lk_yes⟩
theorem gts_one {c : Expr} {t : TT} {a : AT} (h : GT X c t a) : GTs X [c] t a := ⟨pts_one h.pt, h.lk⟩
/-- [elt for target in iter if ..] -/
theorem gl_lc {elt tg iter : Expr} {ifs : List Expr} {scope : Scope} {own : List (Str × Nat)} {pos : Pos} {wi : TI} {ai : AI} {g : TG} {ag : AG} {tt : TT} {at_ : AT} {te : TE} {ae : AE} {B : List Nat} (hc : X.calm = true) (hN : X.N.Nodup) (ok : BlkOk X.N X.env.scope scope own) (hi : GI X tg iter wi ai)
    (hg : ∀ (s : Shared) (H : Hp) (C : Addr) (cl : List (Str × Addr)) (fp : List Addr), GG (X.blk s H scope (compEnvC scope cl C X.env) fp) tg g ag B) (ht : ∀ (s : Shared) (H : Hp) (C : Addr) (cl : List (Str × Addr)) (fp : List Addr), GTs (X.blk s H scope (compEnvC scope cl C X.env) fp) ifs tt at_)
    (he : ∀ (s : Shared) (H : Hp) (C : Addr) (cl : List (Str × Addr)) (fp : List Addr), GE (X.blk s H scope (compEnvC scope cl C X.env) fp) elt te ae) (hB : ∀ i ∈ B, i ∈ own.map (·.2) := by decide) (hs : ∀ x, foldedSetIterable iter X.env x = pure x := by intro _; rfl) :
    GL X (.ListComp elt [⟨tg, iter, ifs, 0⟩] scope pos) (tLc wi g tt te (own.map (·.2))) (aLc ai ag at_ ae (own.map (·.2))) := by
  refine ⟨pe_lc hc hN hi.pi ok (fun s H C cl fp => (hg s H C cl fp).pg) (fun s H C cl fp => (ht s H C cl fp).pt) (fun s H C cl fp => (he s H C cl fp).pe) hs, ?_⟩
  exact lk_lc hi.lk (hg {} (fun _ => none) 0 [] []).lk (ht {} (fun _ => none) 0 [] []).lk (he {} (fun _ => none) 0 [] []).lk hB
/-- name = [..] on one line, the name a local: frozen, owned -/
theorem gs_setLc {W : WX'} {i : Nat} {y : Str} {py : Pos} {elt tg iter : Expr} {ifs : List Expr} {scope : Scope} {own : List (Str × Nat)} {pos spos : Pos} {wi : TI} {ai : AI} {g : TG} {ag : AG} {tt : TT} {at_ : AT} {te : TE} {ae : AE} {B : List Nat} (hc : X.calm = true) (hN : X.N.Nodup)
    (hsw : swapsWith (.ListComp elt [⟨tg, iter, ifs, 0⟩] scope pos) (some (.Name y py)) spos.line X.env = pure true) (ok : BlkOk X.N X.env.scope scope own) (hi : GI X tg iter wi ai)
    (hg : ∀ (s : Shared) (H : Hp) (C : Addr) (cl : List (Str × Addr)) (fp : List Addr), GG (X.blk s H scope (compEnvC scope cl C X.env) fp) tg g ag B) (ht : ∀ (s : Shared) (H : Hp) (C : Addr) (cl : List (Str × Addr)) (fp : List Addr), GTs (X.blk s H scope (compEnvC scope cl C X.env) fp) ifs tt at_)
    (he : ∀ (s : Shared) (H : Hp) (C : Addr) (cl : List (Str × Addr)) (fp : List Addr), GE (X.blk s H scope (compEnvC scope cl C X.env) fp) elt te ae) (hB : ∀ i ∈ B, i ∈ own.map (·.2) := by decide) (hs : ∀ x, foldedSetIterable iter X.env x = pure x := by intro _; rfl) (hy : X.N[i]? = some y := by rfl) (hyl : X.env.scope.names.lookup y = some .local := by rfl) :
    GS X W (.Assign [.Name y py] (.ListComp elt [⟨tg, iter, ifs, 0⟩] scope pos) spos) (tAsg (tLc wi g tt te (own.map (·.2))) (gName i)) (aAsg (aOfL (aLc ai ag at_ ae (own.map (·.2)))) (aName i)) [i] := by
  refine ⟨ps_setLc hc hN hy hyl hsw hi.pi ok (fun s H C cl fp => (hg s H C cl fp).pg) (fun s H C cl fp => (ht s H C cl fp).pt) (fun s H C cl fp => (he s H C cl fp).pe) hs, ?_⟩
  exact lk_asg (lk_lc hi.lk (hg {} (fun _ => none) 0 [] []).lk (ht {} (fun _ => none) 0 [] []).lk (he {} (fun _ => none) 0 [] []).lk hB).toE (lk_name i)
theorem gs_setLcO {W : WX'} {i : Nat} {y : Str} {py : Pos} {elt tg iter : Expr} {ifs : List Expr} {scope : Scope} {own : List (Str × Nat)} {pos spos : Pos} {wi : TI} {ai : AI} {g : TG} {ag : AG} {tt : TT} {at_ : AT} {te : TE} {ae : AE} {B : List Nat} (hc : X.calm = true) (hN : X.N.Nodup)
    (hsw : swapsWith (.ListComp elt [⟨tg, iter, ifs, 0⟩] scope pos) (some (.Name y py)) spos.line X.env = pure true) (ok : BlkOk X.N X.env.scope scope own) (hi : GI X tg iter wi ai)
    (hg : ∀ (s : Shared) (H : Hp) (C : Addr) (cl : List (Str × Addr)) (fp : List Addr), GG (X.blk s H scope (compEnvC scope cl C X.env) fp) tg g ag B) (ht : ∀ (s : Shared) (H : Hp) (C : Addr) (cl : List (Str × Addr)) (fp : List Addr), GTs (X.blk s H scope (compEnvC scope cl C X.env) fp) ifs tt at_)
    (he : ∀ (s : Shared) (H : Hp) (C : Addr) (cl : List (Str × Addr)) (fp : List Addr), GE (X.blk s H scope (compEnvC scope cl C X.env) fp) elt te ae) (hB : ∀ i ∈ B, i ∈ own.map (·.2) := by decide) (hs : ∀ x, foldedSetIterable iter X.env x = pure x := by intro _; rfl) (hy : X.N[i]? = some y := by rfl) (hyl : X.env.scope.names.lookup y = some .local := by rfl) :
    GS X W (.Assign [.Name y py] (.ListComp elt [⟨tg, iter, ifs, 0⟩] scope pos) spos) (tAsg (tLc wi g tt te (own.map (·.2))) (gName i)) (aAsgO (aLc ai ag at_ ae (own.map (·.2))) i) [i] := by
  refine ⟨ps_setLc hc hN hy hyl hsw hi.pi ok (fun s H C cl fp => (hg s H C cl fp).pg) (fun s H C cl fp => (ht s H C cl fp).pt) (fun s H C cl fp => (he s H C cl fp).pe) hs, ?_⟩
  exact lk_asgO (lk_lc hi.lk (hg {} (fun _ => none) 0 [] []).lk (ht {} (fun _ => none) 0 [] []).lk (he {} (fun _ => none) 0 [] []).lk hB) i
end

/-! ### a def keeps its promise -/
def retA : AR → AR → AR
  | [], _ => []
  | s :: ρ, [] => s :: retA ρ []
  | .ow _ :: ρ, t :: ρ' => t :: retA ρ ρ'
  | s :: ρ, _ :: ρ' => s :: retA ρ ρ'
def still : AR → AR → Bool
  | [], _ => true
  | .ow _ :: ρ, .ow _ :: ρ' => still ρ ρ'
  | .ow _ :: _, _ => false
  | _ :: ρ, _ :: ρ' => still ρ ρ'
  | _ :: ρ, [] => still ρ []
def bpin (ρ : AR) (B : List Nat) : Bool := B.all fun i => !isOw ρ i
theorem retA_len : ∀ ρ ρ' : AR, (retA ρ ρ').length = ρ.length
  | [], _ => by unfold retA; rfl
  | s :: ρ, [] => by unfold retA; rw [List.length_cons, List.length_cons, retA_len ρ []]
  | .ow _ :: ρ, t :: ρ' => by unfold retA; rw [List.length_cons, List.length_cons, retA_len ρ ρ']
  | .un :: ρ, t :: ρ' => by unfold retA; rw [List.length_cons, List.length_cons, retA_len ρ ρ']
  | .im _ :: ρ, t :: ρ' => by unfold retA; rw [List.length_cons, List.length_cons, retA_len ρ ρ']
theorem retA_get {s : SV} : ∀ {ρ ρ' : AR} {i : Nat}, still ρ ρ' = true → (retA ρ ρ')[i]? = some s → (ρ[i]? = some s ∧ ∀ c, s ≠ .ow c) ∨ ∃ c c', s = .ow c' ∧ ρ[i]? = some (.ow c) ∧ ρ'[i]? = some (.ow c')
  | [], _, i, _, h => by unfold retA at h; simp at h
  | .un :: ρ, [], 0, hs, h => by unfold retA at h; simp at h; subst h; exact .inl ⟨rfl, fun c z => by cases z⟩
  | .im d :: ρ, [], 0, hs, h => by unfold retA at h; simp at h; subst h; exact .inl ⟨rfl, fun c z => by cases z⟩
  | .ow c :: ρ, [], _, hs, h => by unfold still at hs; cases hs
  | .un :: ρ, [], i + 1, hs, h => by
    unfold retA at h; unfold still at hs
    rcases retA_get (i := i) hs (by simpa using h) with q | ⟨c, c', e1, e2, e3⟩
    · exact .inl (by simpa using q)
    · simp at e3
  | .im d :: ρ, [], i + 1, hs, h => by
    unfold retA at h; unfold still at hs
    rcases retA_get (i := i) hs (by simpa using h) with q | ⟨c, c', e1, e2, e3⟩
    · exact .inl (by simpa using q)
    · simp at e3
  | .ow c :: ρ, .ow c' :: ρ', 0, hs, h => by unfold retA at h; simp at h; subst h; exact .inr ⟨c, c', rfl, rfl, rfl⟩
  | .ow c :: ρ, .ow c' :: ρ', i + 1, hs, h => by
    unfold retA at h; unfold still at hs
    rcases retA_get (i := i) hs (by simpa using h) with q | ⟨c, c', e1, e2, e3⟩
    · exact .inl (by simpa using q)
    · exact .inr ⟨c, c', e1, by simpa using e2, by simpa using e3⟩
  | .ow c :: ρ, .un :: ρ', _, hs, h => by unfold still at hs; cases hs
  | .ow c :: ρ, .im d :: ρ', _, hs, h => by unfold still at hs; cases hs
  | .un :: ρ, t :: ρ', 0, hs, h => by unfold retA at h; simp at h; subst h; exact .inl ⟨rfl, fun c z => by cases z⟩
  | .im d :: ρ, t :: ρ', 0, hs, h => by unfold retA at h; simp at h; subst h; exact .inl ⟨rfl, fun c z => by cases z⟩
  | .un :: ρ, t :: ρ', i + 1, hs, h => by
    unfold retA at h; unfold still at hs
    rcases retA_get (i := i) hs (by simpa using h) with q | ⟨c, c', e1, e2, e3⟩
    · exact .inl (by simpa using q)
    · exact .inr ⟨c, c', e1, by simpa using e2, by simpa using e3⟩
  | .im d :: ρ, t :: ρ', i + 1, hs, h => by
    unfold retA at h; unfold still at hs
    rcases retA_get (i := i) hs (by simpa using h) with q | ⟨c, c', e1, e2, e3⟩
    · exact .inl (by simpa using q)
    · exact .inr ⟨c, c', e1, by simpa using e2, by simpa using e3⟩
theorem still_get : ∀ {ρ ρ' : AR} {i : Nat} {c : OC}, still ρ ρ' = true → ρ[i]? = some (.ow c) → ∃ c', ρ'[i]? = some (.ow c')
  | [], _, i, c, _, h => by simp at h
  | .ow c :: ρ, .ow c' :: ρ', 0, _, hs, h => ⟨c', rfl⟩
  | .ow c :: ρ, .ow c' :: ρ', i + 1, _, hs, h => by
    unfold still at hs
    obtain ⟨c2, e⟩ := still_get (i := i) hs (by simpa using h)
    exact ⟨c2, by simpa using e⟩
  | .ow c :: ρ, .un :: ρ', _, _, hs, h => by unfold still at hs; cases hs
  | .ow c :: ρ, .im d :: ρ', _, _, hs, h => by unfold still at hs; cases hs
  | .ow c :: ρ, [], _, _, hs, h => by unfold still at hs; cases hs
  | .un :: ρ, [], 0, _, hs, h => by simp at h
  | .im d :: ρ, [], 0, _, hs, h => by simp at h
  | .un :: ρ, [], i + 1, _, hs, h => by
    unfold still at hs
    obtain ⟨c2, e⟩ := still_get (i := i) hs (by simpa using h)
    simp at e
  | .im d :: ρ, [], i + 1, _, hs, h => by
    unfold still at hs
    obtain ⟨c2, e⟩ := still_get (i := i) hs (by simpa using h)
    simp at e
  | .un :: ρ, t :: ρ', 0, _, hs, h => by simp at h
  | .im d :: ρ, t :: ρ', 0, _, hs, h => by simp at h
  | .un :: ρ, t :: ρ', i + 1, _, hs, h => by
    unfold still at hs
    obtain ⟨c2, e⟩ := still_get (i := i) hs (by simpa using h)
    exact ⟨c2, by simpa using e⟩
  | .im d :: ρ, t :: ρ', i + 1, _, hs, h => by
    unfold still at hs
    obtain ⟨c2, e⟩ := still_get (i := i) hs (by simpa using h)
    exact ⟨c2, by simpa using e⟩
theorem bpin_not {ρ : AR} {B : List Nat} (h : bpin ρ B = true) {i : Nat} {c : OC} (e : ρ[i]? = some (.ow c)) : i ∉ B := fun z => by
  unfold bpin at h
  have q := List.all_eq_true.mp h i z
  unfold isOw at q
  rw [e] at q
  cases q
theorem get_append_un {ρ : AR} {n i : Nat} {s : SV} (h : (ρ ++ List.replicate n SV.un)[i]? = some s) (hs : s ≠ .un) : ρ[i]? = some s ∧ i < ρ.length := by
  by_cases hi : i < ρ.length
  · rw [List.getElem?_append_left hi] at h
    exact ⟨h, hi⟩
  · rw [List.getElem?_append_right (by omega), List.getElem?_replicate] at h
    split at h
    · cases h; exact (hs rfl).elim
    · cases h
theorem startSl {K : PySem.W.Frag} {F H : Hp} {ρ : AR} {vs : List V} {O : Addr → Prop} {N : List Str} (s : Sl K F H ρ (vs.map some) O) (n : Nat) (hn : n = N.length - vs.length) : Sl K F H (ρ ++ List.replicate n .un) (L2.start N vs) O := by
  have st : ∀ (i : Nat) (x : Option V), (vs.map some)[i]? = some x → (L2.start N vs)[i]? = some x := fun i x h => by
    unfold L2.start
    rw [List.getElem?_append_left (get_lt h)]
    exact h
  have hl := s.len
  refine ⟨?_, fun i d h => ?_, fun i c h => ?_, fun i j c c' p hij h h' g g' => ?_, s.ex, s.fo⟩
  · unfold L2.start
    rw [List.length_append, List.length_append, List.length_replicate, List.length_replicate, hl, hn]
  · obtain ⟨h1, _⟩ := get_append_un h (by intro z; cases z)
    obtain ⟨v, a1, a2⟩ := s.im i d h1
    exact ⟨v, st i _ a1, a2⟩
  · obtain ⟨h1, _⟩ := get_append_un h (by intro z; cases z)
    obtain ⟨p, a1, a2⟩ := s.ow i c h1
    exact ⟨p, st i _ a1, a2⟩
  · obtain ⟨h1, _⟩ := get_append_un h (by intro z; cases z)
    obtain ⟨h2, _⟩ := get_append_un h' (by intro z; cases z)
    obtain ⟨p1, a1, a2⟩ := s.ow i c h1
    obtain ⟨p2, b1, b2⟩ := s.ow j c' h2
    rw [st i _ a1] at g
    rw [st j _ b1] at g'
    cases g
    cases g'
    exact s.ap i j c c' _ hij h1 h2 a1 b1
section
variable {P : Program} {w : World} {K : PySem.W.Frag} {mg : Str → Option Value} {base : Heap}
theorem retSl {F H F' H' : Hp} {ρ ρ' : AR} {vs : List V} {σ' : St} {O' : Addr → Prop} {N : List Str} {B : List Nat} (s : Sl K F H ρ (vs.map some) (own ρ (vs.map some))) (k : Kp (own ρ (vs.map some)) F H O' F' H') (s' : Sl K F' H' ρ' σ' O') (e : Keep B (L2.start N vs) σ') (hB : bpin ρ B = true) (hs : still ρ ρ' = true) :
    Kp (own ρ (vs.map some)) F H (own ρ (vs.map some)) F' H' ∧ Sl K F' H' (retA ρ ρ') (vs.map some) (own ρ (vs.map some)) := by
  have st : ∀ (i : Nat) (x : Option V), (vs.map some)[i]? = some x → (L2.start N vs)[i]? = some x := fun i x h => by
    unfold L2.start
    rw [List.getElem?_append_left (get_lt h)]
    exact h
  -- an owned argument's place behind
  have at_ : ∀ (i : Nat) (c : OC) (p : Addr), ρ[i]? = some (.ow c) → (vs.map some)[i]? = some (some (.ref p)) → σ'[i]? = some (some (.ref p)) := fun i c p h g => (e.at_ i (bpin_not hB h)).trans (st i _ g)
  refine ⟨⟨k.h1, k.h2, k.h3, fun _ h => .inl h⟩, by rw [retA_len, s.len], fun i d h => ?_, fun i c h => ?_, fun i j c c' p hij h h' g g' => ?_, s'.ex, fun a h => ?_⟩
  · rcases retA_get hs h with ⟨h1, _⟩ | ⟨c, c', z, _⟩
    · obtain ⟨v, a1, a2⟩ := s.im i d h1
      exact ⟨v, a1, a2.mono k.h2⟩
    · cases z
  · rcases retA_get hs h with ⟨_, n⟩ | ⟨c0, c', z, h1, h2⟩
    · exact (n c rfl).elim
    · cases z
      obtain ⟨p, a1, a2, a3⟩ := s.ow i c0 h1
      obtain ⟨p', b1, b2, b3⟩ := s'.ow i c h2
      rw [at_ i c0 p h1 a1] at b1
      cases b1
      exact ⟨p, a1, a2, b3⟩
  · rcases retA_get hs h with ⟨_, n⟩ | ⟨c0, _, _, h1, _⟩
    · exact (n c rfl).elim
    · rcases retA_get hs h' with ⟨_, n⟩ | ⟨c0', _, _, h1', _⟩
      · exact (n c' rfl).elim
      · exact s.ap i j c0 c0' p hij h1 h1' g g'
  · obtain ⟨i, c, h1, h2⟩ := h
    obtain ⟨c', h3⟩ := still_get hs h1
    obtain ⟨p, b1, b2, b3⟩ := s'.ow i c' h3
    rw [at_ i c a h1 h2] at b1
    cases b1
    exact s'.fo a b2
abbrev W0 : WX' := fun _ _ _ _ => False
/-- THE RULE for a def -/
theorem fn_ok {x qual : Str} {st : Stmt} {f : Addr} {fd : FuncData} {N ps : List Str} {k : Nat} {af : AF} (Fn : Fun K x qual st f fd) (S : FnScope N ps (defScope st)) (hlen : ∀ ρ kk, af ρ kk → ρ.length = ps.length)
    (hbody : ∀ (cdv : Value) (A : Around) (outer : List Env) (s : Shared) (H : Hp) (E : XK), Room k (A.deeper (envOfC qual (defScope st) s.heap.objs.size f cdv)) →
      ∃ t as B, GSs (cxOf CX0 P w K mg base N qual (defScope st) f cdv A outer s H E).nox W0 (defBody st) t as B ∧
        ∀ ρ kk, af ρ kk → bpin ρ B = true ∧ as { nx := fun ρ' => still ρ ρ' = true ∧ kk .non (retA ρ ρ'), rt := fun d ρ' => still ρ ρ' = true ∧ kk d (retA ρ ρ') } (ρ ++ List.replicate (N.length - ps.length) .un)) :
    FnOk P w K mg base CX0 (k + 1) f fd ps (SpF K af) := by
  refine Fn.ok S (fun vs H Q E h => ?_) (fun cdv A outer s H vs Q E hr h => ?_)
  · obtain ⟨ρ, F, kk, sl, h, _⟩ := h
    have := hlen ρ kk h
    have := sl.len
    rw [List.length_map] at this
    omega
  · obtain ⟨ρ, F, kk, sl, h, q⟩ := h
    obtain ⟨t, as, B, g, hb⟩ := hbody cdv A outer s H E hr
    obtain ⟨hB, hb⟩ := hb ρ kk h
    have hv : vs.length = ps.length := by
      have := hlen ρ kk h
      have := sl.len
      rw [List.length_map] at this
      omega
    refine ⟨t, g.ps, ?_⟩
    refine g.lk _ _ hb (L2.start N vs) F H _ (startSl sl _ (by rw [hv])) B _ (fun _ z => z) ⟨fun ρ' σ' F' H' O' k' s' e' h' => ?_, fun v d ρ' σ' F' H' O' k' s' e' r h' => ?_, fun _ _ _ _ _ _ _ _ z => z.elim, fun _ _ _ _ _ _ _ _ z => z.elim, fun _ _ _ _ _ _ _ _ _ _ _ _ z => z.elim, fun _ _ _ _ _ _ _ _ _ _ _ _ _ _ _ _ z => z.elim⟩
    · obtain ⟨k2, s2⟩ := retSl sl k' s' e' hB h'.1
      exact q .non .non (retA ρ ρ') F' H' k2 s2 .non h'.2
    · obtain ⟨k2, s2⟩ := retSl sl k' s' e' hB h'.1
      exact q v d (retA ρ ρ') F' H' k2 s2 r h'.2
/-! a def that hands back a new list, to be owned by its caller -/
abbrev AFL := AR → (List D → AR → Prop) → Prop
def SpL (K : PySem.W.Frag) (af : AFL) : Sp := fun vs H Q _ => ∃ (ρ : AR) (F : Hp) (k : List D → AR → Prop), Sl K F H ρ (vs.map some) (own ρ (vs.map some)) ∧ af ρ k ∧
  ∀ p xs ds ρ' F' H', Kp (own ρ (vs.map some)) F H (own ρ (vs.map some)) F' H' → Sl K F' H' ρ' (vs.map some) (own ρ (vs.map some)) → H' p = some (.lst xs) → F' p = none → ¬ own ρ (vs.map some) p → H p = none → RpA K F' xs ds → k ds ρ' → Q (.ref p) H'
def aCallL (af : AFL) (aa : AA) : AL := fun ρ k => aa ρ fun as ρ1 => bok ρ1 as = true ∧ af (as.map (svOf ρ1)) fun ds ss => k ds (back ρ1 as ss)
theorem lk_callL {af : AFL} {E : XK} {ta : TA} {aa : AA} (ha : LkA K ta aa) : LkL K (tCall (SpL K af) [] E ta) (aCallL af aa) := by
  intro ρ k hk σ F H O s Q hq
  refine ha ρ _ hk σ F H O s _ fun vs xs ρ1 F1 H1 kp1 s1 r1 hk1 => ?_
  obtain ⟨hb, hk1⟩ := hk1
  show SpL K af (vs ++ []) H1 Q E
  rw [List.append_nil]
  refine ⟨xs.map (svOf ρ1), F1, _, argsSl s1 r1 hb, hk1, fun p ys ds ss F' H' kp s' hp fp nO h0 rd hk' => ?_⟩
  have nO' : ¬ O p := s1.notO h0
  exact hq p ys ds (back ρ1 xs ss) F' H' (kp1.trans (kp_up s1 r1 kp)) (backSl s1 r1 hb kp s') hp fp nO' (kp1.back h0 nO') rd hk'
theorem fnL_ok {x qual : Str} {st : Stmt} {f : Addr} {fd : FuncData} {N ps : List Str} {k : Nat} {af : AFL} (Fn : Fun K x qual st f fd) (S : FnScope N ps (defScope st)) (hlen : ∀ ρ kk, af ρ kk → ρ.length = ps.length)
    (hbody : ∀ (cdv : Value) (A : Around) (outer : List Env) (s : Shared) (H : Hp) (E : XK), Room k (A.deeper (envOfC qual (defScope st) s.heap.objs.size f cdv)) →
      ∃ t as B, GSs (cxOf CX0 P w K mg base N qual (defScope st) f cdv A outer s H E).nox W0 (defBody st) t as B ∧
        ∀ ρ kk, af ρ kk → bpin ρ B = true ∧ as { nx := fun _ => False, rt := fun _ _ => False, rl := fun ds ρ' => still ρ ρ' = true ∧ kk ds (retA ρ ρ') } (ρ ++ List.replicate (N.length - ps.length) .un)) :
    FnOk P w K mg base CX0 (k + 1) f fd ps (SpL K af) := by
  refine Fn.ok S (fun vs H Q E h => ?_) (fun cdv A outer s H vs Q E hr h => ?_)
  · obtain ⟨ρ, F, kk, sl, h, _⟩ := h
    have := hlen ρ kk h
    have := sl.len
    rw [List.length_map] at this
    omega
  · obtain ⟨ρ, F, kk, sl, h, q⟩ := h
    obtain ⟨t, as, B, g, hb⟩ := hbody cdv A outer s H E hr
    obtain ⟨hB, hb⟩ := hb ρ kk h
    have hv : vs.length = ps.length := by
      have := hlen ρ kk h
      have := sl.len
      rw [List.length_map] at this
      omega
    refine ⟨t, g.ps, ?_⟩
    refine g.lk _ _ hb (L2.start N vs) F H _ (startSl sl _ (by rw [hv])) B _ (fun _ z => z) ⟨fun _ _ _ _ _ _ _ _ z => z.elim, fun _ _ _ _ _ _ _ _ _ _ _ z => z.elim, fun _ _ _ _ _ _ _ _ z => z.elim, fun _ _ _ _ _ _ _ _ z => z.elim, fun _ _ _ _ _ _ _ _ _ _ _ _ z => z.elim, fun p xs ds ρ' σ' F' H' O' k' s' e' hp fp nO h0 r h' => ?_⟩
    obtain ⟨k2, s2⟩ := retSl sl k' s' e' hB h'.1
    have nOwn : ¬ own ρ (vs.map some) p := fun z => by
      obtain ⟨i, c, z1, z2⟩ := z
      obtain ⟨c', z3⟩ := still_get h'.1 z1
      obtain ⟨p', b1, b2, b3⟩ := s'.ow i c' z3
      have e1 : σ'[i]? = some (some (.ref p)) := by
        rw [e'.at_ i (bpin_not hB z1)]
        unfold L2.start
        rw [List.getElem?_append_left (get_lt z2)]
        exact z2
      rw [e1] at b1
      cases b1
      exact nO b2
    exact q p xs ds (retA ρ ρ') F' H' k2 s2 hp fp nOwn (h0.resolve_left nOwn) r h'.2
end
end DL

namespace DL
open PySem PySem.Spec L2
open PyProof.Rows hiding St

/-! ### whole numbers -/
def fI (C : Int → Int → Prop) (g : Int → Int → D) : R2D := fun d e k => match d, e with
  | .int i, .int j => C i j ∧ k (g i j)
  | _, _ => False
def fI0 (g : Int → Int → D) : R2D := fun d e k => match d, e with
  | .int i, .int j => k (g i j)
  | _, _ => False
section
variable {K : PySem.W.Frag}
theorem lk_I {C : Int → Int → Prop} {gV : Int → Int → V} {g : Int → Int → D} (h : ∀ F i j, Rp K F (gV i j) (g i j)) : LkR K (rI C gV) (fI C g) := by
  intro d e k hk F H v u ex rv ru Q hq
  unfold fI at hk
  split at hk
  · rename_i i j
    exact ⟨i, j, rv.int rfl, ru.int rfl, hk.1, hq _ _ F H (KF.refl ex) (h F i j) hk.2⟩
  · exact hk.elim
theorem lk_I0 {gV : Int → Int → V} {g : Int → Int → D} (h : ∀ F i j, Rp K F (gV i j) (g i j)) : LkR K (rI0 gV) (fI0 g) := by
  intro d e k hk F H v u ex rv ru Q hq
  unfold fI0 at hk
  split at hk
  · rename_i i j
    exact ⟨i, j, rv.int rfl, ru.int rfl, hq _ _ F H (KF.refl ex) (h F i j) hk⟩
  · exact hk.elim
theorem lk_add : LkR K (rI0 fun i j => .int (i + j)) (fI0 fun i j => .int (i + j)) := lk_I0 fun _ _ _ => .int _
theorem lk_sub : LkR K (rI0 fun i j => .int (i - j)) (fI0 fun i j => .int (i - j)) := lk_I0 fun _ _ _ => .int _
theorem lk_mul : LkR K (rI CMul fun i j => .int (i * j)) (fI CMul fun i j => .int (i * j)) := lk_I fun _ _ _ => .int _
theorem lk_mulW : LkR K (rI CMulW fun i j => .int (i * j)) (fI CMulW fun i j => .int (i * j)) := lk_I fun _ _ _ => .int _
theorem lk_mod : LkR K (rI (fun _ j => 0 < j) fun i j => .int (i % j)) (fI (fun _ j => 0 < j) fun i j => .int (i % j)) := lk_I fun _ _ _ => .int _
theorem lk_fdiv : LkR K (rI CDiv fun i j => .int (i / j)) (fI CDiv fun i j => .int (i / j)) := lk_I fun _ _ _ => .int _
theorem lk_fdivW : LkR K (rI CDivW fun i j => .int (i / j)) (fI CDivW fun i j => .int (i / j)) := lk_I fun _ _ _ => .int _
theorem lk_pow : LkR K (rI CPow fun i j => .int (i ^ j.toNat)) (fI CPow fun i j => .int (i ^ j.toNat)) := lk_I fun _ _ _ => .int _
theorem lk_lt : LkR K (rI0 fun i j => .bl (decide (i < j))) (fI0 fun i j => .bl (decide (i < j))) := lk_I0 fun _ _ _ => .bl _
theorem lk_le : LkR K (rI0 fun i j => .bl (decide (i ≤ j))) (fI0 fun i j => .bl (decide (i ≤ j))) := lk_I0 fun _ _ _ => .bl _
theorem lk_gt : LkR K (rI0 fun i j => .bl (decide (j < i))) (fI0 fun i j => .bl (decide (j < i))) := lk_I0 fun _ _ _ => .bl _
theorem lk_ge : LkR K (rI0 fun i j => .bl (decide (j ≤ i))) (fI0 fun i j => .bl (decide (j ≤ i))) := lk_I0 fun _ _ _ => .bl _
def fNeg : R1D := fun d k => match d with
  | .int i => k (.int (-i))
  | _ => False
theorem lk_neg : LkU K (rU fun i => .int (-i)) fNeg := by
  intro d k hk F H v ex rv Q hq
  unfold fNeg at hk
  split at hk
  · rename_i i
    exact ⟨i, rv.int rfl, hq _ _ F H (KF.refl ex) (.int _) hk⟩
  · exact hk.elim
end

/-! ### equality at any depth -/
mutual
def toP : D → PyData
  | .non => .none
  | .bl b => .bool b
  | .int i => .int i
  | .str x => .str x
  | .tup ds => .tuple (toPs ds)
  | .lst ds => .list (toPs ds)
  | .adr _ => .none
  | .scr _ => .none
def toPs : List D → List PyData
  | [] => []
  | d :: ds => toP d :: toPs ds
end
mutual
/-- data that == compares -/
def plain : D → Bool
  | .non => true
  | .bl _ => true
  | .int _ => true
  | .str x => PySem.PyData.canLay0 (.str x)
  | .tup ds => plains ds
  | .lst ds => plains ds
  | .adr _ => false
  | .scr _ => false
def plains : List D → Bool
  | [] => true
  | d :: ds => plain d && plains ds
end
mutual
def deep : D → Nat
  | .tup ds => deeps ds + 1
  | .lst ds => deeps ds + 1
  | _ => 0
def deeps : List D → Nat
  | [] => 0
  | d :: ds => max (deep d) (deeps ds)
end
mutual
def eqv : D → D → Bool
  | .non, .non => true
  | .bl a, .bl b => a == b
  | .bl a, .int j => (if a then 1 else 0) == j
  | .int i, .bl b => i == (if b then 1 else 0)
  | .int i, .int j => i == j
  | .str x, .str y => x == y
  | .lst xs, .lst ys => eqvs xs ys
  | .tup xs, .tup ys => eqvs xs ys
  | _, _ => false
def eqvs : List D → List D → Bool
  | [], [] => true
  | x :: xs, y :: ys => eqv x y && eqvs xs ys
  | _, _ => false
end
mutual
theorem canLay_of : ∀ d : D, plain d = true → (toP d).canLay0 = true
  | .non, _ => by unfold toP PyData.canLay0; rfl
  | .bl _, _ => by unfold toP PyData.canLay0; rfl
  | .int _, _ => by unfold toP PyData.canLay0; rfl
  | .str x, h => by unfold toP; unfold plain at h; exact h
  | .tup ds, h => by unfold toP PyData.canLay0; unfold plain at h; exact canLays_of ds h
  | .lst ds, h => by unfold toP PyData.canLay0; unfold plain at h; exact canLays_of ds h
  | .adr _, h => by unfold plain at h; cases h
  | .scr _, h => by unfold plain at h; cases h
theorem canLays_of : ∀ ds : List D, plains ds = true → PyData.canLayAll0 (toPs ds) = true
  | [], _ => by unfold toPs PyData.canLayAll0; rfl
  | d :: ds, h => by
    unfold plains at h
    simp only [Bool.and_eq_true] at h
    unfold toPs PyData.canLayAll0
    rw [canLay_of d h.1, canLays_of ds h.2]; rfl
end
mutual
theorem depth_of : ∀ d : D, (toP d).depth = deep d
  | .non => by unfold toP PyData.depth deep; rfl
  | .bl _ => by unfold toP PyData.depth deep; rfl
  | .int _ => by unfold toP PyData.depth deep; rfl
  | .str x => by unfold toP PyData.depth deep; rfl
  | .tup ds => by unfold toP PyData.depth deep; rw [depths_of ds]
  | .lst ds => by unfold toP PyData.depth deep; rw [depths_of ds]
  | .adr _ => by unfold toP PyData.depth deep; rfl
  | .scr _ => by unfold toP PyData.depth deep; rfl
theorem depths_of : ∀ ds : List D, PyData.depthAll (toPs ds) = deeps ds
  | [] => by unfold toPs PyData.depthAll deeps; rfl
  | d :: ds => by unfold toPs PyData.depthAll deeps; rw [depth_of d, depths_of ds]
end
def shp (d : D) : Bool := plain d && decide (deep d ≤ 64)
theorem shaped_of {d : D} (h : shp d = true) : SeqAt.shaped (toP d) = true := by
  unfold shp at h
  simp only [Bool.and_eq_true, decide_eq_true_eq] at h
  unfold SeqAt.shaped
  rw [canLay_of d h.1, depth_of, decide_eq_true h.2]; rfl
mutual
theorem eqv_of : ∀ d e : D, plain d = true → plain e = true → PyData.eqv (toP d) (toP e) = eqv d e
  | d, e, hd, he => by
    cases d with
    | adr a => unfold plain at hd; cases hd
    | scr a => unfold plain at hd; cases hd
    | tup xs =>
      unfold plain at hd
      cases e with
      | adr a => unfold plain at he; cases he
      | scr a => unfold plain at he; cases he
      | tup ys =>
        unfold plain at he
        unfold toP PyData.eqv eqv
        exact eqvs_of xs ys hd he
      | _ => unfold toP PyData.eqv eqv; rfl
    | lst xs =>
      unfold plain at hd
      cases e with
      | adr a => unfold plain at he; cases he
      | scr a => unfold plain at he; cases he
      | lst ys =>
        unfold plain at he
        unfold toP PyData.eqv eqv
        exact eqvs_of xs ys hd he
      | _ => unfold toP PyData.eqv eqv; rfl
    | _ =>
      cases e with
      | adr a => unfold plain at he; cases he
      | scr a => unfold plain at he; cases he
      | _ => unfold toP PyData.eqv eqv; rfl
theorem eqvs_of : ∀ xs ys : List D, plains xs = true → plains ys = true → PyData.eqvAll (toPs xs) (toPs ys) = eqvs xs ys
  | [], [], _, _ => by unfold toPs PyData.eqvAll eqvs; rfl
  | [], y :: ys, _, _ => by unfold toPs PyData.eqvAll eqvs; rfl
  | x :: xs, [], _, _ => by unfold toPs PyData.eqvAll eqvs; rfl
  | x :: xs, y :: ys, hx, hy => by
    unfold plains at hx hy
    simp only [Bool.and_eq_true] at hx hy
    unfold toPs PyData.eqvAll eqvs
    rw [eqv_of x y hx.1 hy.1, eqvs_of xs ys hx.2 hy.2]
end
section
variable {K : PySem.W.Frag}
mutual
theorem dp_of {H : Hp} : ∀ (d : D) (v : V), plain d = true → Rp K H v d → Dp K H v (toP d)
  | .non, v, _, r => by cases r; unfold toP; exact .non
  | .bl b, v, _, r => by cases r; unfold toP; exact .bl b
  | .int i, v, _, r => by cases r; unfold toP; exact .int i
  | .str x, v, _, r => by cases r; unfold toP; exact .str x
  | .tup ds, v, h, r => by
    unfold plain at h
    cases r with
    | tup a b => unfold toP; exact .tup a (dps_of ds _ h b)
  | .lst ds, v, h, r => by
    unfold plain at h
    cases r with
    | lst a b => unfold toP; exact .lst (SqL.of a) (dps_of ds _ h b)
  | .adr _, v, h, _ => by unfold plain at h; cases h
  | .scr _, v, h, _ => by unfold plain at h; cases h
theorem dps_of {H : Hp} : ∀ (ds : List D) (vs : List V), plains ds = true → RpA K H vs ds → DpAll K H vs (toPs ds)
  | [], vs, _, r => by cases r; unfold toPs; exact .nil
  | d :: ds, vs, h, r => by
    unfold plains at h
    simp only [Bool.and_eq_true] at h
    cases r with
    | cons a b => unfold toPs; exact .cons (dp_of d _ h.1 a) (dps_of ds _ h.2 b)
end
theorem dpR_of {F H : Hp} {v : V} {d : D} (ex : Ex F H) (h : plain d = true) (r : RpR K F H v d) : Dp K H v (toP d) := by
  rcases r with r | ⟨p, xs, ds, rfl, rfl, h1, h2⟩
  · exact dp_of d v h (r.mono ex)
  · unfold plain at h
    unfold toP
    exact .lst (SqL.of h1) (dps_of ds xs h (h2.mono ex))
def fEq : R2D := fun d e k => shp d = true ∧ shp e = true ∧ k (.bl (eqv d e))
def fNe : R2D := fun d e k => shp d = true ∧ shp e = true ∧ k (.bl (!eqv d e))
theorem shp_plain {d : D} (h : shp d = true) : plain d = true := by
  unfold shp at h
  simp only [Bool.and_eq_true] at h
  exact h.1
theorem lk_eq : LkR K (rEqD K) fEq := by
  intro d e k hk F H v u ex rv ru Q hq
  obtain ⟨hd, he, hk⟩ := hk
  refine ⟨toP d, toP e, dpR_of ex (shp_plain hd) rv, dpR_of ex (shp_plain he) ru, shaped_of hd, shaped_of he, ?_⟩
  rw [eqv_of d e (shp_plain hd) (shp_plain he)]
  exact hq _ _ F H (KF.refl ex) (.bl _) hk
theorem lk_ne : LkR K (rNeD K) fNe := by
  intro d e k hk F H v u ex rv ru Q hq
  obtain ⟨hd, he, hk⟩ := hk
  refine ⟨toP d, toP e, dpR_of ex (shp_plain hd) rv, dpR_of ex (shp_plain he) ru, shaped_of hd, shaped_of he, ?_⟩
  rw [eqv_of d e (shp_plain hd) (shp_plain he)]
  exact hq _ _ F H (KF.refl ex) (.bl _) hk
end

/-! ### x in xs -/
section
variable {X : Cx}
def rInA (K : PySem.W.Frag) (neg : Bool) : R2 := fun x y H Q => ∃ d ds, Dp K H x d ∧ (Dp K H y (.list ds) ∨ Dp K H y (.tuple ds)) ∧ SeqAt.shaped d = true ∧ SeqAt.shaped (.list ds) = true ∧ Q (.bl (neg != ds.any fun z => PyData.eqv z d)) H
theorem shaped_tl {ds : List PyData} (h : SeqAt.shaped (.list ds) = true) : SeqAt.shaped (.tuple ds) = true := h
theorem op_inA (hu : X.A.units + 65 < cLine) : OpR X (compareOp .In) (rInA X.K false) := by
  intro pins s σ H x y v u Q I rx ry h
  obtain ⟨d, ds, hd, he, sd, se, q⟩ := h
  obtain ⟨as, r1⟩ := Dp.reads I d x v hd rx
  have q' : Q (.bl (ds.any fun z => PyData.eqv z d)) H := by simpa using q
  rcases he with he | he
  · obtain ⟨bs, r2⟩ := Dp.reads I (.list ds) y u he ry
    exact SeqAt.in_list_reads r2 r1 (SeqAt.canLay_of_shaped se) (SeqAt.canLay_of_shaped sd) (room_in_shaped sd hu) ⟨.bl _, H, I, rfl, q'⟩
  · obtain ⟨bs, r2⟩ := Dp.reads I (.tuple ds) y u he ry
    exact SeqAt.in_tuple_reads r2 r1 (SeqAt.canLay_of_shaped se) (SeqAt.canLay_of_shaped sd) (room_in_shaped sd hu) ⟨.bl _, H, I, rfl, q'⟩
theorem op_notInA (hu : X.A.units + 65 < cLine) : OpR X (compareOp .NotIn) (rInA X.K true) := by
  intro pins s σ H x y v u Q I rx ry h
  obtain ⟨d, ds, hd, he, sd, se, q⟩ := h
  obtain ⟨as, r1⟩ := Dp.reads I d x v hd rx
  have q' : Q (.bl (!ds.any fun z => PyData.eqv z d)) H := by
    cases z : ds.any fun z => PyData.eqv z d
    · rw [z] at q; exact q
    · rw [z] at q; exact q
  rcases he with he | he
  · obtain ⟨bs, r2⟩ := Dp.reads I (.list ds) y u he ry
    exact SeqAt.notIn_list_reads r2 r1 (SeqAt.canLay_of_shaped se) (SeqAt.canLay_of_shaped sd) (room_in_shaped sd hu) ⟨.bl _, H, I, rfl, q'⟩
  · obtain ⟨bs, r2⟩ := Dp.reads I (.tuple ds) y u he ry
    exact SeqAt.notIn_tuple_reads r2 r1 (SeqAt.canLay_of_shaped se) (SeqAt.canLay_of_shaped sd) (room_in_shaped sd hu) ⟨.bl _, H, I, rfl, q'⟩
end
def fIn (neg : Bool) : R2D := fun d e k => match e with
  | .lst ds => shp d = true ∧ shp (.lst ds) = true ∧ k (.bl (neg != ds.any fun z => eqv z d))
  | .tup ds => shp d = true ∧ shp (.lst ds) = true ∧ k (.bl (neg != ds.any fun z => eqv z d))
  | _ => False
theorem any_of {d : D} (hd : plain d = true) : ∀ ds : List D, plains ds = true → ((toPs ds).any fun z => PyData.eqv z (toP d)) = ds.any fun z => eqv z d
  | [], _ => by unfold toPs; rfl
  | e :: ds, h => by
    unfold plains at h
    simp only [Bool.and_eq_true] at h
    unfold toPs
    rw [List.any_cons, List.any_cons, eqv_of e d h.1 hd, any_of hd ds h.2]
theorem lk_in {K : PySem.W.Frag} {neg : Bool} : LkR K (rInA K neg) (fIn neg) := by
  intro d e k hk F H v u ex rv ru Q hq
  unfold fIn at hk
  split at hk
  · rename_i ds
    obtain ⟨hd, he, hk⟩ := hk
    have hp := shp_plain he
    have s2 := shaped_of he
    have r2 := dpR_of ex hp ru
    unfold toP at r2 s2
    unfold plain at hp
    refine ⟨toP d, toPs ds, dpR_of ex (shp_plain hd) rv, .inl r2, shaped_of hd, s2, ?_⟩
    rw [any_of (shp_plain hd) ds hp]
    exact hq _ _ F H (KF.refl ex) (.bl _) hk
  · rename_i ds
    obtain ⟨hd, he, hk⟩ := hk
    have hp := shp_plain he
    have s2 := shaped_of he
    unfold plain at hp
    have r2 : Dp K H u (.tuple (toPs ds)) := by
      have := dpR_of (d := .tup ds) ex (by unfold plain; exact hp) ru
      unfold toP at this
      exact this
    unfold toP at s2
    refine ⟨toP d, toPs ds, dpR_of ex (shp_plain hd) rv, .inr r2, shaped_of hd, s2, ?_⟩
    rw [any_of (shp_plain hd) ds hp]
    exact hq _ _ F H (KF.refl ex) (.bl _) hk
  · exact hk.elim

/-! ### is -/
def isNonD : D → Bool
  | .non => true
  | _ => false
theorem isNon_of {K : PySem.W.Frag} {F H : Hp} {v : V} {d : D} (r : RpR K F H v d) : decide (v = .non) = isNonD d := by
  rcases r with r | ⟨p, xs, ds, rfl, rfl, h1, h2⟩
  · cases r <;> rfl
  · rfl
def fIsN : R2D := fun d e k => match e with
  | .non => k (.bl (isNonD d))
  | _ => False
def fNotN : R2D := fun d e k => match e with
  | .non => k (.bl (!isNonD d))
  | _ => False
def fIsB : R2D := fun d e k => match d, e with
  | .bl a, .bl b => k (.bl (decide (a = b)))
  | _, _ => False
def fNotB : R2D := fun d e k => match d, e with
  | .bl a, .bl b => k (.bl (!decide (a = b)))
  | _, _ => False
section
variable {K : PySem.W.Frag}
theorem lk_isN : LkR K (fun x y H Q => y = .non ∧ Q (.bl (decide (x = .non))) H) fIsN := by
  intro d e k hk F H v u ex rv ru Q hq
  unfold fIsN at hk
  split at hk
  · refine ⟨ru.non rfl, ?_⟩
    rw [isNon_of rv]
    exact hq _ _ F H (KF.refl ex) (.bl _) hk
  · exact hk.elim
theorem lk_notN : LkR K (fun x y H Q => y = .non ∧ Q (.bl (!decide (x = .non))) H) fNotN := by
  intro d e k hk F H v u ex rv ru Q hq
  unfold fNotN at hk
  split at hk
  · refine ⟨ru.non rfl, ?_⟩
    rw [isNon_of rv]
    exact hq _ _ F H (KF.refl ex) (.bl _) hk
  · exact hk.elim
theorem lk_isB : LkR K rIsB fIsB := by
  intro d e k hk F H v u ex rv ru Q hq
  unfold fIsB at hk
  split at hk
  · rename_i a b
    exact ⟨a, b, rv.bl rfl, ru.bl rfl, hq _ _ F H (KF.refl ex) (.bl _) hk⟩
  · exact hk.elim
theorem lk_notB : LkR K rNotB fNotB := by
  intro d e k hk F H v u ex rv ru Q hq
  unfold fNotB at hk
  split at hk
  · rename_i a b
    exact ⟨a, b, rv.bl rfl, ru.bl rfl, hq _ _ F H (KF.refl ex) (.bl _) hk⟩
  · exact hk.elim
end

/-! ### isinstance -/
inductive Ty where | int | bool | tuple | list | str
def Ty.nm : Ty → String
  | .int => "int" | .bool => "bool" | .tuple => "tuple" | .list => "list" | .str => "str"
def isT : Ty → D → Bool
  | .int, .int _ => true
  | .int, .bl _ => true
  | .bool, .bl _ => true
  | .tuple, .tup _ => true
  | .list, .lst _ => true
  | .str, .str _ => true
  | _, _ => false
theorem kit_non (T : Ty) : kitB "NoneType" T.nm = some (isT T .non) := by cases T <;> decide +kernel
theorem kit_bl0 (T : Ty) : kitB "bool" T.nm = some (isT T (.bl true)) := by cases T <;> decide +kernel
theorem kit_int0 (T : Ty) : kitB "int" T.nm = some (isT T (.int 0)) := by cases T <;> decide +kernel
theorem kit_str0 (T : Ty) : kitB "str" T.nm = some (isT T (.str ⟨#[]⟩)) := by cases T <;> decide +kernel
theorem kit_lst0 (T : Ty) : kitB "list" T.nm = some (isT T (.lst [])) := by cases T <;> decide +kernel
theorem kit_tup0 (T : Ty) : kitB "tuple" T.nm = some (isT T (.tup [])) := by cases T <;> decide +kernel
def aIsi (T : Ty) (a : AE) : AE := fun ρ k => a ρ fun x ρ1 => match res ρ1 x with
  | some (.adr _) => False
  | some (.scr _) => False
  | some d => k (.im (.bl (isT T d))) ρ1
  | none => False
theorem lk_isi {K : PySem.W.Frag} {te : TE} {a : AE} (T : Ty) (ha : LkE K te a) : LkE K (tCB (rIsi K) (tCons te (tCons (tC (.ty T.nm)) tNil))) (aIsi T a) := by
  intro ρ k hk σ F H O s Q hq
  refine ha ρ _ hk σ F H O s _ fun v x ρ1 F1 H1 kp1 s1 r1 hk1 => ?_
  show rIsi K [v, .ty T.nm] H1 Q
  have go : ∀ (d : D) (t : String), res ρ1 x = some d → TyX K H1 v (.type t) → kitB t T.nm = some (isT T d) → k (.im (.bl (isT T d))) ρ1 → rIsi K [v, .ty T.nm] H1 Q := fun d t _ ty e hk' =>
    ⟨v, .ty T.nm, .type t, .type T.nm, _, rfl, .ty _, ty, kit_ty e, hq _ (.im (.bl (isT T d))) ρ1 F1 H1 kp1 s1 (Rp.bl _) hk'⟩
  split at hk1
  · exact hk1.elim
  · exact hk1.elim
  · rename_i d n1 n2 q
    have r := res_ok s1 r1 q
    cases d with
    | non => exact go _ "NoneType" q (by rw [r.non rfl]; exact .base .non) (kit_non T) hk1
    | bl b => exact go _ "bool" q (by rw [r.bl rfl]; exact .base (.bl b)) (by cases T <;> exact kit_bl0 _) hk1
    | int i => exact go _ "int" q (by rw [r.int rfl]; exact .base (.int i)) (by cases T <;> exact kit_int0 _) hk1
    | str y => exact go _ "str" q (by rw [r.str rfl]; exact .base (.str y)) (by cases T <;> exact kit_str0 _) hk1
    | lst ds =>
      obtain ⟨p, xs, rfl, h1, _⟩ := r.lst s1.ex rfl
      exact go _ "list" q (.base (.lst h1)) (by cases T <;> exact kit_lst0 _) hk1
    | tup ds =>
      obtain ⟨p, xs, rfl, h1, _⟩ := r.tup s1.ex rfl
      refine go _ "tuple" q ?_ (by cases T <;> exact kit_tup0 _) hk1
      rcases h1 with (h1 | ⟨o, h1⟩) | ⟨o, its, n, h1, h2, _⟩
      · exact .base (.tup h1)
      · exact .fTuple h1
      · exact .kTuple h1 h2
    | adr a => exact (n1 a rfl).elim
    | scr a => exact (n2 a rfl).elim
  · exact hk1.elim
theorem ge_isi {X : Cx} {e : Expr} {te : TE} {a : AE} {p q pos : Pos} {y : Str} (T : Ty) (hm : X.mg "isinstance" = none) (hy : X.mg y = none) (ha : GE X e te a) (hv : bootBuiltins y = some (.type T.nm) := by decide +kernel) (hg : Gl X "isinstance" := by rfl) (hg2 : Gl X y := by rfl) (hn : y ≠ "__name__" := by decide) (hdb : (y == ("__debug__" : Str)) = false := by decide) (hcd : (y == ("__classdict__" : Str)) = false := by decide)
    (he : starEach (e :: [.Name y q]) X.env = (false, eval e X.env) :: starEach [.Name y q] X.env := by rfl) (he2 : starEach (.Name y q :: []) X.env = (false, eval (.Name y q) X.env) :: starEach [] X.env := by rfl) (hpl : (backTo pos (starEach [.Name y q] X.env)).any (·.1) = false := by rfl) :
    GE X (.Call (.Name "isinstance" p) [e, .Name y q] [] pos) (tCB (rIsi X.K) (tCons te (tCons (tC (.ty T.nm)) tNil))) (aIsi T a) :=
  ⟨pe_callB call_isi hg hm (by decide +kernel) (pa_cons ha.pe (pa_cons (pe_bltn hg2 hy hv rfl hn hdb) pa_nil he2) he) (by decide) (by decide) he hpl, lk_isi T ha.lk⟩
end DL

namespace DL
open PySem PySem.Spec L2
open PyProof.Rows hiding St

/-! ### one rule for an operator, whatever the kinds -/
theorem opr_or {X : Cx} {f : Value → Value → Sem Value} {r r' : R2} (h : OpR X f r) (h' : OpR X f r') : OpR X f (fun x y H Q => r x y H Q ∨ r' x y H Q) := by
  intro pins s σ H x y v u Q I rx ry q
  rcases q with q | q
  · exact h pins s σ H x y v u Q I rx ry q
  · exact h' pins s σ H x y v u Q I rx ry q
section
variable {K : PySem.W.Frag}
theorem lkr_or {r r' : R2} {f f' g : R2D} (h : LkR K r f) (h' : LkR K r' f') (hg : ∀ d e k, g d e k → f d e k ∨ f' d e k) : LkR K (fun x y H Q => r x y H Q ∨ r' x y H Q) g := by
  intro d e k hk F H v u ex rv ru Q hq
  rcases hg d e k hk with q | q
  · exact .inl (h d e k q F H v u ex rv ru Q hq)
  · exact .inr (h' d e k q F H v u ex rv ru Q hq)
def fCatT : R2D := fun d e k => match d, e with
  | .tup xs, .tup ys => xs.length + ys.length ≤ 1000000 ∧ k (.tup (xs ++ ys))
  | _, _ => False
def fCatL : R2D := fun d e k => match d, e with
  | .lst xs, .lst ys => xs.length + ys.length ≤ 1000000 ∧ k (.lst (xs ++ ys))
  | _, _ => False
/-- a tuple that may stand already, or a new one -/
theorem lk_catT : LkR K (rCatA K) fCatT := by
  intro d e k hk F H v u ex rv ru Q hq
  unfold fCatT at hk
  split at hk
  · rename_i xs ys
    obtain ⟨hz, hk⟩ := hk
    obtain ⟨p, vs, rfl, h1, h2⟩ := rv.tup ex rfl
    obtain ⟨q, us, rfl, h3, h4⟩ := ru.tup ex rfl
    refine ⟨p, q, vs, us, rfl, rfl, h1, h3, by rw [h2.length, h4.length]; exact sz hz, fun z => ?_, fun _ z => ?_, fun _ _ l hl => ?_⟩
    · subst z
      cases h2
      rcases ru with ru | ⟨_, _, _, _, z, _⟩
      · exact hq _ (.tup ys) F H (KF.refl ex) ru hk
      · cases z
    · subst z
      cases h4
      rcases rv with rv | ⟨_, _, _, _, z, _⟩
      · rw [List.append_nil] at hk
        exact hq _ (.tup xs) F H (KF.refl ex) rv hk
      · cases z
    · have kf : KF F H (upd F l (.tup (vs ++ us))) (upd H l (.tup (vs ++ us))) := KF.put ex hl
      exact hq _ (.tup (xs ++ ys)) _ _ kf (.tup (.inl (.inl upd_same)) ((h2.mono kf.f).append (h4.mono kf.f))) hk
  · exact hk.elim
theorem lk_catL : LkR K rCat fCatL := by
  intro d e k hk F H v u ex rv ru Q hq
  unfold fCatL at hk
  split at hk
  · rename_i xs ys
    obtain ⟨hz, hk⟩ := hk
    obtain ⟨p, vs, rfl, h1, h2⟩ := rv.lst ex rfl
    obtain ⟨q, us, rfl, h3, h4⟩ := ru.lst ex rfl
    refine ⟨p, q, vs, us, rfl, rfl, h1, h3, by rw [h2.length, h4.length]; exact sz hz, fun l hl => ?_⟩
    have kf : KF F H (upd F l (.lst (vs ++ us))) (upd H l (.lst (vs ++ us))) := KF.put ex hl
    exact hq _ (.lst (xs ++ ys)) _ _ kf (.lst upd_same ((h2.mono kf.f).append (h4.mono kf.f))) hk
  · exact hk.elim
/-- + -/
def fPlus : R2D := fun d e k => match d, e with
  | .int i, .int j => k (.int (i + j))
  | .tup xs, .tup ys => xs.length + ys.length ≤ 1000000 ∧ k (.tup (xs ++ ys))
  | .lst xs, .lst ys => xs.length + ys.length ≤ 1000000 ∧ k (.lst (xs ++ ys))
  | _, _ => False
abbrev rPlus (K : PySem.W.Frag) : R2 := fun x y H Q => (rI0 fun i j => .int (i + j)) x y H Q ∨ (fun x y H Q => rCatA K x y H Q ∨ rCat x y H Q) x y H Q
theorem lk_plus : LkR K (rPlus K) fPlus := lkr_or lk_add (lkr_or (g := fun d e k => fCatT d e k ∨ fCatL d e k) lk_catT lk_catL fun _ _ _ h => h) fun d e k h => by
  unfold fPlus at h
  split at h
  · exact .inl h
  · exact .inr (.inl h)
  · exact .inr (.inr h)
  · exact h.elim
end
theorem op_plus {X : Cx} : OpR X (binaryOp .Add) (rPlus X.K) := opr_or op_add (opr_or op_catA op_cat)

/-! ### subscripts -/
section
variable {K : PySem.W.Frag} {F H : Hp}
theorem atI_rpa {xs : List V} {ds : List D} {i : Int} {d : D} (r : RpA K F xs ds) (h : atI ds i = some d) : ∃ v, atI xs i = some v ∧ Rp K F v d := by
  unfold atI at h ⊢
  rw [r.length]
  cases e : ixN ds.length i with
  | none => rw [e] at h; cases h
  | some j =>
    rw [e] at h
    obtain ⟨v, h1, h2⟩ := r.get (i := j) (d := d) h
    exact ⟨v, h1, h2⟩
def fIx : R2D := fun d e k => match d, e with
  | .lst ds, .int i => ∃ x, atI ds i = some x ∧ k x
  | .tup ds, .int i => ∃ x, atI ds i = some x ∧ k x
  | _, _ => False
theorem lk_ix : LkR K (rIx K) fIx := by
  intro d e k hk F H v u ex rv ru Q hq
  unfold fIx at hk
  split at hk
  · rename_i ds i
    obtain ⟨x, hx, hk⟩ := hk
    obtain ⟨p, vs, rfl, h1, h2⟩ := rv.lst ex rfl
    obtain ⟨y, h3, h4⟩ := atI_rpa h2 hx
    exact .inl ⟨p, vs, i, y, rfl, ru.int rfl, SqL.of h1, h3, hq _ _ F H (KF.refl ex) h4 hk⟩
  · rename_i ds i
    obtain ⟨x, hx, hk⟩ := hk
    obtain ⟨p, vs, rfl, h1, h2⟩ := rv.tup ex rfl
    obtain ⟨y, h3, h4⟩ := atI_rpa h2 hx
    exact .inr (.inl ⟨p, vs, i, y, rfl, ru.int rfl, h1, h3, hq _ _ F H (KF.refl ex) h4 hk⟩)
  · exact hk.elim
end
theorem ge_ix {X : Cx} {a b : Expr} {pos : Pos} {ta tb : TE} {aa ab : AE} (ha : GE X a ta aa) (hb : GE X b tb ab) (hs : PlainIx b := by exact fun _ _ => rfl) : GE X (.Subscript a b pos) (tOp (rIx X.K) ta tb) (aOp fIx aa ab) :=
  ⟨pe_ix ix_seq ha.pe hb.pe hs, lk_op lk_ix ha.lk hb.lk⟩

/-! ### slices -/
abbrev AO := AR → (Option Int → AR → Prop) → Prop
def LkO (K : PySem.W.Frag) (to : TO) (ao : AO) : Prop := ∀ (ρ : AR) (k : Option Int → AR → Prop), ao ρ k → ∀ (σ : St) (F H : Hp) (O : Addr → Prop), Sl K F H ρ σ O → ∀ Q : Option Int → Hp → Prop,
  (∀ o ρ' F' H', Kp O F H O F' H' → Sl K F' H' ρ' σ O → k o ρ' → Q o H') → to σ H Q
structure GO (X : Cx) (e : Option Expr) (to : TO) (ao : AO) : Prop where
  po : PO X e to
  lk : LkO X.K to ao
def aNoPart : AO := fun ρ k => k none ρ
def aPart (a : AE) : AO := fun ρ k => a ρ fun x ρ1 => match x with
  | .im (.int i) => k (some i) ρ1
  | _ => False
theorem go_none {X : Cx} : GO X none tNoPart aNoPart := ⟨po_none, fun ρ k hk σ F H O s Q hq => hq none ρ F H Kp.refl s hk⟩
theorem go_some {X : Cx} {e : Expr} {te : TE} {a : AE} (h : GE X e te a) : GO X (some e) (tPart te) (aPart a) := by
  refine ⟨po_some h.pe, fun ρ k hk σ F H O s Q hq => ?_⟩
  refine h.lk ρ _ hk σ F H O s _ fun v x ρ1 F1 H1 k1 s1 r1 h1 => ?_
  split at h1
  · rename_i i
    cases (show Rp X.K F1 v (.int i) from r1)
    exact ⟨i, rfl, hq (some i) ρ1 F1 H1 k1 s1 h1⟩
  · exact h1.elim
/-- xs[lo:hi] -/
def cutD (xs : List D) (lo hi : Option Int) : List D := (xs.drop (HT.sIx xs.length 0 lo)).take (HT.sIx xs.length xs.length hi - HT.sIx xs.length 0 lo)
theorem cut_rpa {K : PySem.W.Frag} {F : Hp} {xs : List V} {ds : List D} (r : RpA K F xs ds) (lo hi : Option Int) : RpA K F (cutV xs lo hi) (cutD ds lo hi) := by
  unfold cutV cutD
  rw [r.length]
  exact (r.drop _).take _
theorem cutD_len (xs : List D) (lo hi : Option Int) : (cutD xs lo hi).length ≤ xs.length := by
  unfold cutD
  rw [List.length_take, List.length_drop]
  omega
def aSl (a : AE) (l h : AO) : AE := fun ρ k => a ρ fun x ρ1 => l ρ1 fun lo ρ2 => h ρ2 fun hi ρ3 => match res ρ3 x with
  | some (.lst ds) => k (.im (.lst (cutD ds lo hi))) ρ3
  | some (.tup ds) => k (.im (.tup (cutD ds lo hi))) ρ3
  | _ => False
abbrev rSl (K : PySem.W.Frag) : V → Option Int → Option Int → Hp → VK → Prop := fun x lo hi H Q => rSlL K x lo hi H Q ∨ rSlA K x lo hi H Q
theorem cutV_whole {xs : List V} {lo hi : Option Int} (h : HT.sIx xs.length 0 lo = 0 ∧ HT.sIx xs.length xs.length hi = xs.length) : cutV xs lo hi = xs := by
  unfold cutV
  rw [h.1, h.2, Nat.sub_zero, List.drop_zero, List.take_length]
theorem lk_sl {K : PySem.W.Frag} {te : TE} {a : AE} {tl th : TO} {l h : AO} (ha : LkE K te a) (hl : LkO K tl l) (hh : LkO K th h) : LkE K (tSl (rSl K) te tl th) (aSl a l h) := by
  intro ρ k hk σ F H O s Q hq
  refine ha ρ _ hk σ F H O s _ fun v x ρ1 F1 H1 k1 s1 r1 h1 => ?_
  refine hl ρ1 _ h1 σ F1 H1 O s1 _ fun lo ρ2 F2 H2 k2 s2 h2 => ?_
  refine hh ρ2 _ h2 σ F2 H2 O s2 _ fun hi ρ3 F3 H3 k3 s3 h3 => ?_
  have kk : Kp O F H O F3 H3 := (k1.trans k2).trans k3
  have rx : RpV K F3 σ v x := (r1.mono k2.h2).mono k3.h2
  split at h3
  · rename_i ds q
    obtain ⟨p, vs, rfl, g1, g2⟩ := (res_ok s3 rx q).lst s3.ex rfl
    refine .inl ⟨p, vs, rfl, SqL.of g1, fun l hl => ?_⟩
    have kf : KF F3 H3 (upd F3 l (.lst (cutV vs lo hi))) (upd H3 l (.lst (cutV vs lo hi))) := KF.put s3.ex hl
    exact hq _ (.im (.lst (cutD ds lo hi))) ρ3 _ _ (kk.trans kf.kp) (s3.kf kf) (Rp.lst upd_same (cut_rpa (g2.mono kf.f) lo hi)) h3
  · rename_i ds q
    have rr := res_ok s3 rx q
    obtain ⟨p, vs, rfl, g1, g2⟩ := rr.tup s3.ex rfl
    refine .inr ⟨p, vs, rfl, g1, fun w => ?_, fun w l hl => ?_⟩
    · have e : cutD ds lo hi = ds := by
        unfold cutD
        rw [g2.length] at w
        rw [w.1, w.2, Nat.sub_zero, List.drop_zero, List.take_length]
      rw [e] at h3
      rcases rr with rr | ⟨_, _, _, _, z, _⟩
      · exact hq _ (.im (.tup ds)) ρ3 F3 H3 kk s3 rr h3
      · cases z
    · have kf : KF F3 H3 (upd F3 l (.tup (cutV vs lo hi))) (upd H3 l (.tup (cutV vs lo hi))) := KF.put s3.ex hl
      exact hq _ (.im (.tup (cutD ds lo hi))) ρ3 _ _ (kk.trans kf.kp) (s3.kf kf) (Rp.tup (.inl (.inl upd_same)) (cut_rpa (g2.mono kf.f) lo hi)) h3
  · exact h3.elim
theorem ge_sl {X : Cx} {e : Expr} {lo hi : Option Expr} {te : TE} {a : AE} {tl th : TO} {l h : AO} {pos p2 : Pos} (he : GE X e te a) (hl : GO X lo tl l) (hh : GO X hi th h) : GE X (.Subscript e (.Slice lo hi none p2) pos) (tSl (rSl X.K) te tl th) (aSl a l h) :=
  ⟨pe_slice (SlR.or sl_list sl_tupA) he.pe hl.po hh.po, lk_sl he.lk hl.lk hh.lk⟩

/-! ### built-ins -/
section
variable {K : PySem.W.Frag}
theorem rprs1 {F H : Hp} {vs : List V} {d : D} (r : RpRs K F H vs [d]) : ∃ v, vs = [v] ∧ RpR K F H v d := by
  match vs, r with
  | [v], ⟨h, _⟩ => exact ⟨v, rfl, h⟩
theorem rprs2 {F H : Hp} {vs : List V} {d e : D} (r : RpRs K F H vs [d, e]) : ∃ v u, vs = [v, u] ∧ RpR K F H v d ∧ RpR K F H u e := by
  match vs, r with
  | [v, u], ⟨h, h', _⟩ => exact ⟨v, u, rfl, h, h'⟩
def fLen : RCD := fun ds k => match ds with
  | [.lst xs] => k (.int xs.length)
  | [.tup xs] => k (.int xs.length)
  | _ => False
theorem lk_len : LkC K (fun xs H Q => ∃ p ys, xs = [.ref p] ∧ (SqL K H p ys ∨ SqT K H p ys) ∧ Q (.int ys.length) H) fLen := by
  intro ds k hk F H vs ex r Q hq
  unfold fLen at hk
  split at hk
  · rename_i xs
    obtain ⟨v, rfl, r1⟩ := rprs1 r
    obtain ⟨p, ys, rfl, h1, h2⟩ := r1.lst ex rfl
    exact ⟨p, ys, rfl, .inl (SqL.of h1), hq _ _ F H (KF.refl ex) (by rw [h2.length]; exact .int _) hk⟩
  · rename_i xs
    obtain ⟨v, rfl, r1⟩ := rprs1 r
    obtain ⟨p, ys, rfl, h1, h2⟩ := r1.tup ex rfl
    exact ⟨p, ys, rfl, .inr h1, hq _ _ F H (KF.refl ex) (by rw [h2.length]; exact .int _) hk⟩
  · exact hk.elim
def fTuple : RCD := fun ds k => match ds with
  | [.lst xs] => k (.tup xs)
  | [.tup xs] => k (.tup xs)
  | _ => False
theorem lk_tuple : LkC K (fun xs H Q => ∃ p ys, xs = [.ref p] ∧ ((SqL K H p ys ∧ ∀ l, H l = none → Q (.ref l) (upd H l (.tup ys))) ∨ (SqT K H p ys ∧ Q (.ref p) H))) fTuple := by
  intro ds k hk F H vs ex r Q hq
  unfold fTuple at hk
  split at hk
  · rename_i xs
    obtain ⟨v, rfl, r1⟩ := rprs1 r
    obtain ⟨p, ys, rfl, h1, h2⟩ := r1.lst ex rfl
    refine ⟨p, ys, rfl, .inl ⟨SqL.of h1, fun l hl => ?_⟩⟩
    have kf : KF F H (upd F l (.tup ys)) (upd H l (.tup ys)) := KF.put ex hl
    exact hq _ _ _ _ kf (.tup (.inl (.inl upd_same)) (h2.mono kf.f)) hk
  · rename_i xs
    obtain ⟨v, rfl, r1⟩ := rprs1 r
    obtain ⟨p, ys, rfl, h1, h2⟩ := r1.tup ex rfl
    rcases r1 with r1 | ⟨_, _, _, _, z, _⟩
    · exact ⟨p, ys, rfl, .inr ⟨h1, hq _ _ F H (KF.refl ex) r1 hk⟩⟩
    · cases z
  · exact hk.elim
def fInt : RCD := fun ds k => match ds with
  | [.int i] => k (.int i)
  | [.bl b] => k (.int (if b then 1 else 0))
  | _ => False
theorem lk_int : LkC K (fun xs H Q => (∃ i, xs = [.int i] ∧ Q (.int i) H) ∨ ∃ k, xs = [.bl k] ∧ Q (.int (if k then 1 else 0)) H) fInt := by
  intro ds k hk F H vs ex r Q hq
  unfold fInt at hk
  split at hk
  · rename_i i
    obtain ⟨v, rfl, r1⟩ := rprs1 r
    exact .inl ⟨i, by rw [r1.int rfl], hq _ _ F H (KF.refl ex) (.int _) hk⟩
  · rename_i b
    obtain ⟨v, rfl, r1⟩ := rprs1 r
    exact .inr ⟨b, by rw [r1.bl rfl], hq _ _ F H (KF.refl ex) (.int _) hk⟩
  · exact hk.elim
def fAbs : RCD := fun ds k => match ds with
  | [.int i] => k (.int (if i < 0 then -i else i))
  | _ => False
theorem lk_abs : LkC K (fun xs H Q => ∃ i, xs = [.int i] ∧ Q (.int (if i < 0 then -i else i)) H) fAbs := by
  intro ds k hk F H vs ex r Q hq
  unfold fAbs at hk
  split at hk
  · rename_i i
    obtain ⟨v, rfl, r1⟩ := rprs1 r
    exact ⟨i, by rw [r1.int rfl], hq _ _ F H (KF.refl ex) (.int _) hk⟩
  · exact hk.elim
def fMax2 : RCD := fun ds k => match ds with
  | [.int i, .int j] => k (.int (if j > i then j else i))
  | _ => False
theorem lk_max2 : LkC K (fun xs H Q => ∃ i j, xs = [.int i, .int j] ∧ Q (.int (if j > i then j else i)) H) fMax2 := by
  intro ds k hk F H vs ex r Q hq
  unfold fMax2 at hk
  split at hk
  · rename_i i j
    obtain ⟨v, u, rfl, r1, r2⟩ := rprs2 r
    exact ⟨i, j, by rw [r1.int rfl, r2.int rfl], hq _ _ F H (KF.refl ex) (.int _) hk⟩
  · exact hk.elim
def fMin2 : RCD := fun ds k => match ds with
  | [.int i, .int j] => k (.int (if j < i then j else i))
  | _ => False
theorem lk_min2 : LkC K (fun xs H Q => ∃ i j, xs = [.int i, .int j] ∧ Q (.int (if j < i then j else i)) H) fMin2 := by
  intro ds k hk F H vs ex r Q hq
  unfold fMin2 at hk
  split at hk
  · rename_i i j
    obtain ⟨v, u, rfl, r1, r2⟩ := rprs2 r
    exact ⟨i, j, by rw [r1.int rfl, r2.int rfl], hq _ _ F H (KF.refl ex) (.int _) hk⟩
  · exact hk.elim
/-- the whole numbers, the truth values of a list -/
def intsD : List D → Option (List Int)
  | [] => some []
  | .int i :: ds => (intsD ds).map (i :: ·)
  | _ :: _ => none
def bls : List D → Option (List Bool)
  | [] => some []
  | .bl b :: ds => (bls ds).map (b :: ·)
  | _ :: _ => none
theorem ints_eq : ∀ {ds : List D} {ns : List Int}, intsD ds = some ns → ds = ns.map D.int
  | [], ns, h => by cases h; rfl
  | .int i :: ds, ns, h => by
    unfold intsD at h
    cases e : intsD ds with
    | none => rw [e] at h; cases h
    | some ms =>
      rw [e] at h
      cases h
      rw [ints_eq e]; rfl
  | .non :: _, _, h => by cases h
  | .bl _ :: _, _, h => by cases h
  | .str _ :: _, _, h => by cases h
  | .tup _ :: _, _, h => by cases h
  | .lst _ :: _, _, h => by cases h
  | .adr _ :: _, _, h => by cases h
  | .scr _ :: _, _, h => by cases h
theorem ints_map (ns : List Int) : intsD (ns.map D.int) = some ns := by
  induction ns with
  | nil => rfl
  | cons n ns ih => show (intsD (ns.map D.int)).map (n :: ·) = _; rw [ih]; rfl
theorem bls_eq : ∀ {ds : List D} {ns : List Bool}, bls ds = some ns → ds = ns.map D.bl
  | [], ns, h => by cases h; rfl
  | .bl i :: ds, ns, h => by
    unfold bls at h
    cases e : bls ds with
    | none => rw [e] at h; cases h
    | some ms =>
      rw [e] at h
      cases h
      rw [bls_eq e]; rfl
  | .non :: _, _, h => by cases h
  | .int _ :: _, _, h => by cases h
  | .str _ :: _, _, h => by cases h
  | .tup _ :: _, _, h => by cases h
  | .lst _ :: _, _, h => by cases h
  | .adr _ :: _, _, h => by cases h
  | .scr _ :: _, _, h => by cases h
theorem bls_map (ns : List Bool) : bls (ns.map D.bl) = some ns := by
  induction ns with
  | nil => rfl
  | cons n ns ih => show (bls (ns.map D.bl)).map (n :: ·) = _; rw [ih]; rfl
def fSum : RCD := fun ds k => match ds with
  | [.lst xs] => ∃ ns, intsD xs = some ns ∧ k (.int ns.sum)
  | _ => False
theorem lk_sum : LkC K (rSum K) fSum := by
  intro ds k hk F H vs ex r Q hq
  unfold fSum at hk
  split at hk
  · rename_i xs
    obtain ⟨ns, e, hk⟩ := hk
    obtain ⟨v, rfl, r1⟩ := rprs1 r
    obtain ⟨p, ys, rfl, h1, h2⟩ := r1.lst ex rfl
    rw [ints_eq e] at h2
    rw [h2.ofInts] at h1
    exact ⟨p, ns, rfl, SqL.of h1, hq _ _ F H (KF.refl ex) (.int _) hk⟩
  · exact hk.elim
def fMax : RCD := fun ds k => match ds with
  | [.lst xs] => ∃ ns, intsD xs = some ns ∧ 0 < ns.length ∧ ∀ m, m ∈ ns → (∀ y, y ∈ ns → y ≤ m) → k (.int m)
  | _ => False
theorem lk_max : LkC K (rMax K) fMax := by
  intro ds k hk F H vs ex r Q hq
  unfold fMax at hk
  split at hk
  · rename_i xs
    obtain ⟨ns, e, hn, hk⟩ := hk
    obtain ⟨v, rfl, r1⟩ := rprs1 r
    obtain ⟨p, ys, rfl, h1, h2⟩ := r1.lst ex rfl
    rw [ints_eq e] at h2
    rw [h2.ofInts] at h1
    exact ⟨p, ns, rfl, SqL.of h1, hn, fun m a b => hq _ _ F H (KF.refl ex) (.int _) (hk m a b)⟩
  · exact hk.elim
def fMin : RCD := fun ds k => match ds with
  | [.lst xs] => ∃ ns, intsD xs = some ns ∧ 0 < ns.length ∧ ∀ m, m ∈ ns → (∀ y, y ∈ ns → m ≤ y) → k (.int m)
  | _ => False
theorem lk_min : LkC K (rMin K) fMin := by
  intro ds k hk F H vs ex r Q hq
  unfold fMin at hk
  split at hk
  · rename_i xs
    obtain ⟨ns, e, hn, hk⟩ := hk
    obtain ⟨v, rfl, r1⟩ := rprs1 r
    obtain ⟨p, ys, rfl, h1, h2⟩ := r1.lst ex rfl
    rw [ints_eq e] at h2
    rw [h2.ofInts] at h1
    exact ⟨p, ns, rfl, SqL.of h1, hn, fun m a b => hq _ _ F H (KF.refl ex) (.int _) (hk m a b)⟩
  · exact hk.elim
def fAll : RCD := fun ds k => match ds with
  | [.lst xs] => ∃ bs, bls xs = some bs ∧ k (.bl (bs.all id))
  | _ => False
theorem lk_all : LkC K (rAll K) fAll := by
  intro ds k hk F H vs ex r Q hq
  unfold fAll at hk
  split at hk
  · rename_i xs
    obtain ⟨bs, e, hk⟩ := hk
    obtain ⟨v, rfl, r1⟩ := rprs1 r
    obtain ⟨p, ys, rfl, h1, h2⟩ := r1.lst ex rfl
    rw [bls_eq e] at h2
    rw [h2.bls] at h1
    exact ⟨p, bs, rfl, SqL.of h1, hq _ _ F H (KF.refl ex) (.bl _) hk⟩
  · exact hk.elim
/-- list(xs): a new list -/
def aList (aa : AA) : AL := fun ρ k => aa ρ fun as ρ1 => match resAll ρ1 as with
  | some [.lst ds] => k ds ρ1
  | some [.tup ds] => k ds ρ1
  | some [.scr ns] => k (ns.map D.int) ρ1
  | _ => False
theorem lk_list {ta : TA} {aa : AA} (ha : LkA K ta aa) : LkL K (tCB (fun xs H Q => ∃ p ys, xs = [.ref p] ∧ (SqL K H p ys ∨ SqT K H p ys) ∧ ∀ l, H l = none → Q (.ref l) (upd H l (.lst ys))) ta) (aList aa) := by
  intro ρ k hk σ F H O s Q hq
  refine ha ρ _ hk σ F H O s _ fun vs xs ρ1 F1 H1 k1 s1 r1 h1 => ?_
  have go : ∀ (p : Addr) (ys : List V) (ds : List D), vs = [.ref p] → (SqL K H1 p ys ∨ SqT K H1 p ys) → RpA K F1 ys ds → k ds ρ1 → (fun xs H Q => ∃ p ys, xs = [V.ref p] ∧ (SqL K H p ys ∨ SqT K H p ys) ∧ ∀ l, H l = none → Q (.ref l) (upd H l (.lst ys))) vs H1 Q := fun p ys ds ev hs ra hk' =>
    ⟨p, ys, ev, hs, fun l hl => hq l ys ds ρ1 F1 (upd H1 l (.lst ys)) (k1.trans ⟨fun a o h _ => Ex.new hl a o h, Ex.refl _, fun _ _ h => .inl h, fun _ h => .inl h⟩) (s1.other (s1.notF hl) (s1.notO hl)) upd_same (s1.notF hl) (s1.notO hl) (k1.back hl (s1.notO hl)) ra hk'⟩
  split at h1
  · rename_i ds q
    obtain ⟨v, rfl, r2⟩ := rprs1 (resAll_ok s1 r1 q)
    obtain ⟨p, ys, rfl, g1, g2⟩ := r2.lst s1.ex rfl
    exact go p ys ds rfl (.inl (SqL.of g1)) g2 h1
  · rename_i ds q
    obtain ⟨v, rfl, r2⟩ := rprs1 (resAll_ok s1 r1 q)
    obtain ⟨p, ys, rfl, g1, g2⟩ := r2.tup s1.ex rfl
    exact go p ys ds rfl (.inr g1) g2 h1
  · rename_i ns q
    obtain ⟨v, rfl, r2⟩ := rprs1 (resAll_ok s1 r1 q)
    obtain ⟨p, rfl, g1⟩ := r2.scr s1.ex rfl
    exact go p _ _ rfl (.inl g1) RpA.ints h1
  · exact h1.elim
end
section
variable {X : Cx} {p pos : Pos} {e : Expr} {es : List Expr} {ta : TA} {aa : AA}
theorem gl_list (hm : X.mg "list" = none) (ha : GA X (e :: es) ta aa) (hg : Gl X "list" := by rfl)
    (he : starEach (e :: es) X.env = (false, eval e X.env) :: starEach es X.env := by rfl) (hpl : (backTo pos (starEach es X.env)).any (·.1) = false := by rfl) : GL X (.Call (.Name "list" p) (e :: es) [] pos) (tCB (fun xs H Q => ∃ p ys, xs = [.ref p] ∧ (SqL X.K H p ys ∨ SqT X.K H p ys) ∧ ∀ l, H l = none → Q (.ref l) (upd H l (.lst ys))) ta) (aList aa) :=
  ⟨pe_callTy call_list_of hg hm (by decide +kernel) ha.pa (by decide) (by decide) he hpl, lk_list ha.lk⟩
end

/-! ### xs.append(e), xs.pop() on an owned list -/
def aApp (i : Nat) (a : AE) : AE := fun ρ k => isOw ρ i = true ∧ a ρ fun x ρ1 => match x, ρ1[i]? with
  | .im d, some (.ow (.ol ds)) => ds.length < 1000000 ∧ k (.im .non) (ρ1.set i (.ow (.ol (ds ++ [d]))))
  | _, _ => False
theorem isOw_get {ρ : AR} {i : Nat} (h : isOw ρ i = true) : ∃ c, ρ[i]? = some (.ow c) := by
  unfold isOw at h
  split at h
  · rename_i c e; exact ⟨c, e⟩
  · cases h
theorem lk_app {K : PySem.W.Frag} {te : TE} {a : AE} {i : Nat} (ha : LkE K te a) : LkE K (tBM K "list" rAppend (tVar i) (tCons te tNil)) (aApp i a) := by
  intro ρ k hk σ F H O s Q hq
  obtain ⟨ho, hk⟩ := hk
  obtain ⟨c, hc⟩ := isOw_get ho
  obtain ⟨p, h1, h2, h3⟩ := s.ow i c hc
  cases c with
  | ol ds0 =>
    obtain ⟨xs0, h4, h5⟩ := h3
    refine ⟨.ref p, h1, .inl ⟨rfl, xs0, SqL.of h4⟩, ?_⟩
    refine ha ρ _ hk σ F H O s _ fun v x ρ1 F1 H1 k1 s1 r1 hk1 => ?_
    split at hk1
    · rename_i d ds q
      obtain ⟨hz, hk1⟩ := hk1
      obtain ⟨p', g1, g2, xs, g3, g4⟩ := s1.ow i _ q
      rw [h1] at g1
      cases g1
      refine ⟨p, xs, v, rfl, rfl, g3, by rw [g4.length]; exact szl hz, ?_⟩
      exact hq .non (.im .non) _ F1 _ (k1.trans (Kp.write g2)) (s1.write q h1 ⟨xs ++ [v], upd_same, g4.append (.cons r1 .nil)⟩) Rp.non hk1
    · exact hk1.elim
theorem ge_app {X : Cx} {x : Str} {xp apos cpos : Pos} {e : Expr} {te : TE} {a : AE} (i : Nat) (ha : GE X e te a) (hN : X.N[i]? = some x := by rfl) (hv : Vis X.env.scope x := by first | exact Or.inl rfl | exact Or.inr (Or.inl rfl) | exact Or.inr (Or.inr rfl)) (hd : (x == ("__debug__" : Str)) = false := by decide)
    (hcd : (x == ("__classdict__" : Str)) = false := by decide) (hbase : attributeBase (.Name x xp) "append" X.env (eval (.Name x xp) X.env) = eval (.Name x xp) X.env := by rfl)
    (hfew : ((backTo cpos (starEach [e] X.env)).all (fun x => !x.1) && (backToKw cpos (keywordEach [] X.env)).all (fun x => x.1.isSome)
      && decide ([e].length + ([] : List Keyword).length + (if ([] : List Keyword).isEmpty then 0 else 1) < 30)) = true := by rfl)
    (hline : (apos.endLine == cpos.line) = true := by rfl) (hs : starEach (e :: []) X.env = (false, eval e X.env) :: starEach [] X.env := by rfl) (hplain : (backTo cpos (starEach [] X.env)).any (·.1) = false := by rfl) :
    GE X (.Call (.Attribute (.Name x xp) "append" apos) [e] [] cpos) (tBM X.K "list" rAppend (tVar i) (tCons te tNil)) (aApp i a) :=
  ⟨pe_bm PySem.F.plainAttrs_list PySem.F.slot_list_append PySem.F.type_list_append mt_append (pe_var hN hv hd hcd) (pa_cons ha.pe pa_nil hs) hbase hfew hline hs hplain, lk_app ha.lk⟩
end DL

namespace DL
open PySem PySem.Spec L2
open PyProof.Rows hiding St

/-! ### defs by name -/
section
variable (P : Program) (w : World) (K : PySem.W.Frag) (mg : Str → Option Value) (base : Heap)
/-- the def x keeps the promise af, by at most level k -/
def Df (k : Nat) (x : Str) (af : AF) : Prop := ∃ (f : Addr) (fd : FuncData) (ps : List Str), FnOk P w K mg base CX0 k f fd ps (SpF K af) ∧ mg x = some (.ref f) ∧ PySem.W.keepIn K (.ref f) = true ∧ Binds K fd ps []
/-- the def x stands in the module as the text says -/
def Here (x : Str) (st : Stmt) (ps : List Str) : Prop := ∃ (f : Addr) (fd : FuncData), Fun K x x st f fd ∧ mg x = some (.ref f) ∧ Binds K fd ps []
end
theorem Df.mono {P : Program} {w : World} {K : PySem.W.Frag} {mg : Str → Option Value} {base : Heap} {j k : Nat} {x : Str} {af : AF} (d : Df P w K mg base j x af) (h : j ≤ k) : Df P w K mg base k x af := by
  obtain ⟨f, fd, ps, F, r⟩ := d
  exact ⟨f, fd, ps, F.mono h, r⟩
theorem ge_df {X : Cx} {j k : Nat} {af : AF} {x : Str} {p pos : Pos} {e : Expr} {es : List Expr} {ta : TA} {aa : AA} (d : Df X.prog X.w X.K X.mg X.base k x af) (hr : Room j X.A) (ha : GA X (e :: es) ta aa) (hk : k ≤ j := by decide) (hg : Gl X x := by rfl)
    (he : starEach (e :: es) X.env = (false, eval e X.env) :: starEach es X.env := by rfl) (hpl : (backTo pos (starEach es X.env)).any (·.1) = false := by rfl) (hdb : (x == ("__debug__" : Str)) = false := by decide) :
    GE X (.Call (.Name x p) (e :: es) [] pos) (tCall (SpF X.K af) [] E0 ta) (aCall af aa) := by
  obtain ⟨f, fd, ps, F, hm, hk', hb⟩ := d
  exact ge_call F (hr.mono hk) hm hk' hb ha hg he hpl hdb
/-- THE RULE for a def by its name -/
theorem df_ok {P : Program} {w : World} {K : PySem.W.Frag} {mg : Str → Option Value} {base : Heap} {x : Str} {st : Stmt} {N ps : List Str} {k : Nat} {af : AF} (h : Here K mg x st ps) (S : FnScope N ps (defScope st)) (us : List SV) (hlen : ∀ ρ kk, af ρ kk → ρ.length = ps.length)
    (hbody : ∀ (f : Addr) (cdv : Value) (A : Around) (outer : List Env) (s : Shared) (H : Hp) (E : XK), Room k (A.deeper (envOfC x (defScope st) s.heap.objs.size f cdv)) →
      ∃ t as B, GSs (cxOf CX0 P w K mg base N x (defScope st) f cdv A outer s H E).nox W0 (defBody st) t as B ∧
        ∀ ρ kk, af ρ kk → bpin ρ B = true ∧ as { nx := fun ρ' => still ρ ρ' = true ∧ kk .non (retA ρ ρ'), rt := fun d ρ' => still ρ ρ' = true ∧ kk d (retA ρ ρ') } (ρ ++ us)) (hus : List.replicate (N.length - ps.length) .un = us := by rfl) :
    Df P w K mg base (k + 1) x af := by
  obtain ⟨f, fd, Fn, hm, hb⟩ := h
  subst hus
  exact ⟨f, fd, ps, fn_ok Fn S hlen (hbody f), hm, Fn.kp, hb⟩

/-- .. that hands back a new list -/
def DfL (P : Program) (w : World) (K : PySem.W.Frag) (mg : Str → Option Value) (base : Heap) (k : Nat) (x : Str) (af : AFL) : Prop := ∃ (f : Addr) (fd : FuncData) (ps : List Str), FnOk P w K mg base CX0 k f fd ps (SpL K af) ∧ mg x = some (.ref f) ∧ PySem.W.keepIn K (.ref f) = true ∧ Binds K fd ps []
theorem gl_df {X : Cx} {j k : Nat} {af : AFL} {x : Str} {p pos : Pos} {e : Expr} {es : List Expr} {ta : TA} {aa : AA} (d : DfL X.prog X.w X.K X.mg X.base k x af) (hr : Room j X.A) (ha : GA X (e :: es) ta aa) (hk : k ≤ j := by decide) (hg : Gl X x := by rfl)
    (he : starEach (e :: es) X.env = (false, eval e X.env) :: starEach es X.env := by rfl) (hpl : (backTo pos (starEach es X.env)).any (·.1) = false := by rfl) (hdb : (x == ("__debug__" : Str)) = false := by decide) :
    GL X (.Call (.Name x p) (e :: es) [] pos) (tCall (SpL X.K af) [] E0 ta) (aCallL af aa) := by
  obtain ⟨f, fd, ps, F, hm, hk', hb⟩ := d
  exact ⟨pe_call F (hr.mono hk) hg hm hk' hb .nil pass0 ha.pa hdb he hpl, lk_callL ha.lk⟩
theorem dfL_ok {P : Program} {w : World} {K : PySem.W.Frag} {mg : Str → Option Value} {base : Heap} {x : Str} {st : Stmt} {N ps : List Str} {k : Nat} {af : AFL} (h : Here K mg x st ps) (S : FnScope N ps (defScope st)) (us : List SV) (hlen : ∀ ρ kk, af ρ kk → ρ.length = ps.length)
    (hbody : ∀ (f : Addr) (cdv : Value) (A : Around) (outer : List Env) (s : Shared) (H : Hp) (E : XK), Room k (A.deeper (envOfC x (defScope st) s.heap.objs.size f cdv)) →
      ∃ t as B, GSs (cxOf CX0 P w K mg base N x (defScope st) f cdv A outer s H E).nox W0 (defBody st) t as B ∧
        ∀ ρ kk, af ρ kk → bpin ρ B = true ∧ as { nx := fun _ => False, rt := fun _ _ => False, rl := fun ds ρ' => still ρ ρ' = true ∧ kk ds (retA ρ ρ') } (ρ ++ us)) (hus : List.replicate (N.length - ps.length) .un = us := by rfl) :
    DfL P w K mg base (k + 1) x af := by
  obtain ⟨f, fd, Fn, hm, hb⟩ := h
  subst hus
  exact ⟨f, fd, ps, fnL_ok Fn S hlen (hbody f), hm, Fn.kp, hb⟩

/-- built-in names that the module does not bind -/
structure Bt (mg : Str → Option Value) : Prop where
  abs : mg "abs" = none
  all : mg "all" = none
  any : mg "any" = none
  bool : mg "bool" = none
  dict : mg "dict" = none
  enumerate : mg "enumerate" = none
  int : mg "int" = none
  isinstance : mg "isinstance" = none
  len : mg "len" = none
  list : mg "list" = none
  max : mg "max" = none
  min : mg "min" = none
  range : mg "range" = none
  set : mg "set" = none
  sorted : mg "sorted" = none
  str : mg "str" = none
  sum : mg "sum" = none
  tuple : mg "tuple" = none
  zip : mg "zip" = none
abbrev rLen (K : PySem.W.Frag) : List V → Hp → VK → Prop := fun xs H Q => ∃ p ys, xs = [.ref p] ∧ (SqL K H p ys ∨ SqT K H p ys) ∧ Q (.int ys.length) H
abbrev rAbs1 : List V → Hp → VK → Prop := fun xs H Q => ∃ i, xs = [.int i] ∧ Q (.int (if i < 0 then -i else i)) H
abbrev rMx2 : List V → Hp → VK → Prop := fun xs H Q => ∃ i j, xs = [.int i, .int j] ∧ Q (.int (if j > i then j else i)) H
abbrev rMn2 : List V → Hp → VK → Prop := fun xs H Q => ∃ i j, xs = [.int i, .int j] ∧ Q (.int (if j < i then j else i)) H
abbrev rInt1 : List V → Hp → VK → Prop := fun xs H Q => (∃ i, xs = [.int i] ∧ Q (.int i) H) ∨ ∃ k, xs = [.bl k] ∧ Q (.int (if k then 1 else 0)) H
abbrev rTup1 (K : PySem.W.Frag) : List V → Hp → VK → Prop := fun xs H Q => ∃ p ys, xs = [.ref p] ∧ ((SqL K H p ys ∧ ∀ l, H l = none → Q (.ref l) (upd H l (.tup ys))) ∨ (SqT K H p ys ∧ Q (.ref p) H))
section
variable {X : Cx} {p pos : Pos} {e : Expr} {es : List Expr} {ta : TA} {aa : AA}
theorem ge_len (B : Bt X.mg) (ha : GA X (e :: es) ta aa) (hg : Gl X "len" := by rfl) (he : starEach (e :: es) X.env = (false, eval e X.env) :: starEach es X.env := by rfl) (hpl : (backTo pos (starEach es X.env)).any (·.1) = false := by rfl) : GE X (.Call (.Name "len" p) (e :: es) [] pos) (tCB (rLen X.K) ta) (aCB fLen aa) := ge_callB call_len_seq lk_len B.len PySem.boot_len ha hg (by decide) (by decide) he hpl
theorem ge_abs (B : Bt X.mg) (ha : GA X (e :: es) ta aa) (hg : Gl X "abs" := by rfl) (he : starEach (e :: es) X.env = (false, eval e X.env) :: starEach es X.env := by rfl) (hpl : (backTo pos (starEach es X.env)).any (·.1) = false := by rfl) : GE X (.Call (.Name "abs" p) (e :: es) [] pos) (tCB rAbs1 ta) (aCB fAbs aa) := ge_callB call_abs lk_abs B.abs (by decide +kernel) ha hg (by decide) (by decide) he hpl
theorem ge_max2 (hc : X.calm = true) (B : Bt X.mg) (ha : GA X (e :: es) ta aa) (hg : Gl X "max" := by rfl) (he : starEach (e :: es) X.env = (false, eval e X.env) :: starEach es X.env := by rfl) (hpl : (backTo pos (starEach es X.env)).any (·.1) = false := by rfl) : GE X (.Call (.Name "max" p) (e :: es) [] pos) (tCB rMx2 ta) (aCB fMax2 aa) := ge_callB (call_max2 hc) lk_max2 B.max (by decide +kernel) ha hg (by decide) (by decide) he hpl
theorem ge_min2 (hc : X.calm = true) (B : Bt X.mg) (ha : GA X (e :: es) ta aa) (hg : Gl X "min" := by rfl) (he : starEach (e :: es) X.env = (false, eval e X.env) :: starEach es X.env := by rfl) (hpl : (backTo pos (starEach es X.env)).any (·.1) = false := by rfl) : GE X (.Call (.Name "min" p) (e :: es) [] pos) (tCB rMn2 ta) (aCB fMin2 aa) := ge_callB (call_min2 hc) lk_min2 B.min (by decide +kernel) ha hg (by decide) (by decide) he hpl
theorem ge_max (hc : X.calm = true) (B : Bt X.mg) (ha : GA X (e :: es) ta aa) (hg : Gl X "max" := by rfl) (he : starEach (e :: es) X.env = (false, eval e X.env) :: starEach es X.env := by rfl) (hpl : (backTo pos (starEach es X.env)).any (·.1) = false := by rfl) : GE X (.Call (.Name "max" p) (e :: es) [] pos) (tCB (rMax X.K) ta) (aCB fMax aa) := ge_callB (cr_max hc) lk_max B.max (by decide +kernel) ha hg (by decide) (by decide) he hpl
theorem ge_min (hc : X.calm = true) (B : Bt X.mg) (ha : GA X (e :: es) ta aa) (hg : Gl X "min" := by rfl) (he : starEach (e :: es) X.env = (false, eval e X.env) :: starEach es X.env := by rfl) (hpl : (backTo pos (starEach es X.env)).any (·.1) = false := by rfl) : GE X (.Call (.Name "min" p) (e :: es) [] pos) (tCB (rMin X.K) ta) (aCB fMin aa) := ge_callB (cr_min hc) lk_min B.min (by decide +kernel) ha hg (by decide) (by decide) he hpl
theorem ge_sum (hc : X.calm = true) (B : Bt X.mg) (ha : GA X (e :: es) ta aa) (hg : Gl X "sum" := by rfl) (he : starEach (e :: es) X.env = (false, eval e X.env) :: starEach es X.env := by rfl) (hpl : (backTo pos (starEach es X.env)).any (·.1) = false := by rfl) : GE X (.Call (.Name "sum" p) (e :: es) [] pos) (tCB (rSum X.K) ta) (aCB fSum aa) := ge_callB (cr_sum hc) lk_sum B.sum (by decide +kernel) ha hg (by decide) (by decide) he hpl
theorem ge_all (hc : X.calm = true) (B : Bt X.mg) (ha : GA X (e :: es) ta aa) (hg : Gl X "all" := by rfl) (he : starEach (e :: es) X.env = (false, eval e X.env) :: starEach es X.env := by rfl) (hpl : (backTo pos (starEach es X.env)).any (·.1) = false := by rfl) : GE X (.Call (.Name "all" p) (e :: es) [] pos) (tCB (rAll X.K) ta) (aCB fAll aa) := ge_callB (cr_all hc) lk_all B.all (by decide +kernel) ha hg (by decide) (by decide) he hpl
theorem ge_int1 (B : Bt X.mg) (ha : GA X (e :: es) ta aa) (hg : Gl X "int" := by rfl) (he : starEach (e :: es) X.env = (false, eval e X.env) :: starEach es X.env := by rfl) (hpl : (backTo pos (starEach es X.env)).any (·.1) = false := by rfl) : GE X (.Call (.Name "int" p) (e :: es) [] pos) (tCB rInt1 ta) (aCB fInt aa) := ge_callTy call_int1 lk_int B.int (by decide +kernel) ha hg (by decide) (by decide) he hpl
theorem ge_tuple (B : Bt X.mg) (ha : GA X (e :: es) ta aa) (hg : Gl X "tuple" := by rfl) (he : starEach (e :: es) X.env = (false, eval e X.env) :: starEach es X.env := by rfl) (hpl : (backTo pos (starEach es X.env)).any (·.1) = false := by rfl) : GE X (.Call (.Name "tuple" p) (e :: es) [] pos) (tCB (rTup1 X.K) ta) (aCB fTuple aa) := ge_callTy call_tuple_of lk_tuple B.tuple (by decide +kernel) ha hg (by decide) (by decide) he hpl
theorem gi_rg1 {tg x : Expr} (B : Bt X.mg) (ha : GA X [x] ta aa) (hg : Gl X "range" := by rfl) (hs : starEach [x] X.env = [(false, eval x X.env)] := by rfl) : GI X tg (.Call (.Name "range" p) [x] [] pos) (iRng1 ta) (aRg1 aa) := ⟨pi_range1 hg B.range ha.pa hs, lk_rg1 ha.lk⟩
theorem gi_rg2 {tg x y : Expr} (B : Bt X.mg) (ha : GA X [x, y] ta aa) (hg : Gl X "range" := by rfl) (hs : starEach [x, y] X.env = [(false, eval x X.env), (false, eval y X.env)] := by rfl) (hs2 : starEach [y] X.env = [(false, eval y X.env)] := by rfl) : GI X tg (.Call (.Name "range" p) [x, y] [] pos) (iRng2 ta) (aRg2 aa) := ⟨pi_range2 hg B.range ha.pa hs hs2, lk_rg2 ha.lk⟩
end
end DL

namespace DL
open PySem PySem.Spec L2
open PyProof.Rows hiding St

/-! ### over a list or a tuple -/
def iSeq (K : PySem.W.Frag) (te : TE) : TI := fun σ H R => te σ H fun x H1 => ∃ a, x = .ref a ∧ (((∃ xs, SqL K H1 a xs) ∧ R (Itl K a) H1) ∨ ((∃ xs, SqT K H1 a xs) ∧ R (Itt K a) H1))
theorem pi_seq {X : Cx} {tg l : Expr} {tl : TE} (hl : PE X l tl) : PI X tg l (iSeq X.K tl) := by
  refine ⟨fun pins s σ H R I h => ?_⟩
  refine thn (hl.run pins s σ H _ I h) fun v s1 ⟨x, H1, I1, r1, q1⟩ => ?_
  obtain ⟨a, e, q1⟩ := q1
  subst e
  cases r1
  rcases q1 with ⟨⟨xs, hq⟩, q⟩ | ⟨⟨xs, hq⟩, q⟩
  · obtain ⟨its, rv, p, hz⟩ := I1.list hq
    refine wpAny_pyIter_list p.isList ?_
    refine ⟨s1.heap.objs.size, [s1.heap.objs.size], _, _, H1, rfl, I1.kept (t' := s1.toks) fun b o e => Heap.get?_push_of_some _ e, turn_list a _, ⟨_, Heap.get?_push_size _ rfl, rfl, rfl⟩, fun b hb => ?_, q⟩
    have e : b = s1.heap.objs.size := by simpa using hb
    subst e
    exact I1.fpOk (Nat.le_refl _) (I1.hok.fresh (Nat.le_refl _))
  · obtain ⟨its, rv, p, hz⟩ := I1.tuple hq
    refine wpAny_pyIter_tuple (show s1.heap.IsTuple a its.toArray from p) ?_
    refine ⟨s1.heap.objs.size, [s1.heap.objs.size], _, _, H1, rfl, I1.kept (t' := s1.toks) fun b o e => Heap.get?_push_of_some _ e, turn_tuple a _, ⟨_, Heap.get?_push_size _ rfl, rfl, rfl⟩, fun b hb => ?_, q⟩
    have e : b = s1.heap.objs.size := by simpa using hb
    subst e
    exact I1.fpOk (Nat.le_refl _) (I1.hok.fresh (Nat.le_refl _))
def aISeq (e : AE) : AI := fun ρ k => e ρ fun x ρ1 => match x with
  | .im (.lst ds) => k ds ρ1
  | .im (.tup ds) => k ds ρ1
  | _ => False
theorem lk_iSeq {K : PySem.W.Frag} {te : TE} {e : AE} (he : LkE K te e) : LkI K (iSeq K te) (aISeq e) := by
  intro ρ k hk σ F H O s R hq
  refine he ρ _ hk σ F H O s _ fun v x ρ1 F1 H1 k1 s1 r1 h1 => ?_
  split at h1
  · rename_i ds
    cases (show Rp K F1 v (.lst ds) from r1) with
    | lst a1 a2 => exact ⟨_, rfl, .inl ⟨⟨_, SqL.of (s1.ex _ _ a1)⟩, hq _ ds ρ1 F1 H1 k1 s1 (walks_lst (SqL.of a1) a2) h1⟩⟩
  · rename_i ds
    cases (show Rp K F1 v (.tup ds) from r1) with
    | tup a1 a2 => exact ⟨_, rfl, .inr ⟨⟨_, s1.ex.t a1⟩, hq _ ds ρ1 F1 H1 k1 s1 (walks_tup a1 a2) h1⟩⟩
  · exact h1.elim
theorem gi_seq {X : Cx} {tg e : Expr} {te : TE} {a : AE} (he : GE X e te a) : GI X tg e (iSeq X.K te) (aISeq a) := ⟨pi_seq he.pe, lk_iSeq he.lk⟩

/-! ### a, b = .. : each side plain or a new list -/
inductive MV where
  | im (d : D) | fr (ds : List D)
abbrev AM := AR → (MV → AR → Prop) → Prop
def RpM (K : PySem.W.Frag) (F' H' : Hp) (O : Addr → Prop) (H : Hp) (v : V) : MV → Prop
  | .im d => Rp K F' v d
  | .fr ds => ∃ p xs, v = .ref p ∧ H' p = some (.lst xs) ∧ F' p = none ∧ ¬ O p ∧ H p = none ∧ RpA K F' xs ds
def LkM (K : PySem.W.Frag) (te : TE) (am : AM) : Prop := ∀ (ρ : AR) (k : MV → AR → Prop), am ρ k → ∀ (σ : St) (F H : Hp) (O : Addr → Prop), Sl K F H ρ σ O → ∀ Q : VK,
  (∀ v m ρ' F' H', Kp O F H O F' H' → Sl K F' H' ρ' σ O → RpM K F' H' O H v m → k m ρ' → Q v H') → te σ H Q
structure GM (X : Cx) (e : Expr) (te : TE) (am : AM) : Prop where
  pe : PE X e te
  lk : LkM X.K te am
def aMIm (a : AE) : AM := fun ρ k => a ρ fun x ρ1 => match x with
  | .im d => k (.im d) ρ1
  | _ => False
def aMFr (l : AL) : AM := fun ρ k => l ρ fun ds ρ1 => k (.fr ds) ρ1
theorem GE.m {X : Cx} {e : Expr} {te : TE} {a : AE} (g : GE X e te a) : GM X e te (aMIm a) := ⟨g.pe, fun ρ k hk σ F H O s Q hq => g.lk ρ _ hk σ F H O s _ fun v x ρ1 F1 H1 k1 s1 r1 h1 => by
  split at h1
  · rename_i d
    exact hq v (.im d) ρ1 F1 H1 k1 s1 r1 h1
  · exact h1.elim⟩
theorem GL.m {X : Cx} {e : Expr} {te : TE} {l : AL} (g : GL X e te l) : GM X e te (aMFr l) := ⟨g.pe, fun ρ k hk σ F H O s Q hq => g.lk ρ _ hk σ F H O s _ fun p xs ds ρ1 F1 H1 k1 s1 hp fp nO h0 r h1 => hq _ (.fr ds) ρ1 F1 H1 k1 s1 ⟨p, xs, rfl, hp, fp, nO, h0, r⟩ h1⟩
def svM : MV → SV
  | .im d => .im d
  | .fr ds => .ow (.ol ds)
section
variable {K : PySem.W.Frag} {F H F' H' : Hp} {ρ : AR} {σ : St} {O O' : Addr → Prop}
theorem RpM.mono {H0 : Hp} {v : V} {m : MV} (r : RpM K F H O H0 v m) (k : Kp O F H O F' H') (e : Ex F' H') : RpM K F' H' O H0 v m := by
  cases m with
  | im d => exact Rp.mono k.h2 r
  | fr ds =>
    obtain ⟨p, xs, rfl, hp, fp, nO, h0, ra⟩ := r
    refine ⟨p, xs, rfl, k.h1 p _ hp nO, ?_, nO, h0, ra.mono k.h2⟩
    cases q : F' p with
    | none => rfl
    | some u =>
      rcases k.h3 p u q with z | z | z
      · rw [fp] at z; cases z
      · exact (nO z).elim
      · rw [hp] at z; cases z
/-- the place of a new list, if it is one -/
def newAt (v : V) (m : MV) (a : Addr) : Prop := (∃ ds, m = .fr ds) ∧ v = .ref a
theorem Sl.setM {H0 : Hp} {v : V} {m : MV} (s : Sl K F H ρ σ O) (r : RpM K F H O' H0 v m) (i : Nat) (hn : ∀ a, newAt v m a → ¬ O a) : Sl K F H (ρ.set i (svM m)) (σ.set i (some v)) (fun a => O a ∨ newAt v m a) := by
  cases m with
  | im d =>
    have q := s.setIm (show Rp K F v d from r) i
    refine ⟨q.len, q.im, fun j c e => ?_, q.ap, q.ex, fun a h => ?_⟩
    · obtain ⟨p, h1, h2, h3⟩ := q.ow j c e
      exact ⟨p, h1, .inl h2, h3⟩
    · rcases h with h | ⟨⟨ds, e⟩, _⟩
      · exact q.fo a h
      · cases e
  | fr ds =>
    obtain ⟨p, xs, rfl, hp, fp, nO, h0, ra⟩ := r
    have nO2 : ¬ O p := hn p ⟨⟨ds, rfl⟩, rfl⟩
    have q := s.setOw (c := .ol ds) ⟨xs, hp, ra⟩ fp nO2 i
    refine ⟨q.len, q.im, fun j c e => ?_, q.ap, q.ex, fun a h => ?_⟩
    · obtain ⟨p', h1, h2, h3⟩ := q.ow j c e
      refine ⟨p', h1, ?_, h3⟩
      rcases h2 with h2 | h2
      · exact .inl h2
      · exact .inr ⟨⟨ds, rfl⟩, by rw [h2]⟩
    · rcases h with h | ⟨_, e⟩
      · exact s.fo a h
      · cases e
        exact ⟨fp, _, hp⟩
def aPar (i j : Nat) (a b : AM) : AS := fun A ρ => a ρ fun m ρ1 => b ρ1 fun n ρ2 => A.nx ((ρ2.set i (svM m)).set j (svM n))
theorem newAt_fr {H0 : Hp} {v : V} {m : MV} (r : RpM K F H O H0 v m) {a : Addr} (h : newAt v m a) : ∃ o, H a = some o ∧ F a = none ∧ ¬ O a ∧ H0 a = none := by
  obtain ⟨⟨ds, rfl⟩, rfl⟩ := h
  obtain ⟨p, xs, e, hp, fp, nO, h0, ra⟩ := r
  cases e
  exact ⟨_, hp, fp, nO, h0⟩
theorem lk_par {W : WX'} {i j : Nat} {ta tb : TE} {a b : AM} (ha : LkM K ta a) (hb : LkM K tb b) : LkS K W (tPar i j (tCons ta (tCons tb tNil))) (aPar i j a b) [i, j] := by
  intro A ρ h σ F H O s B' Dn hB bd
  refine ha ρ _ h σ F H O s _ fun v m ρ1 F1 H1 k1 s1 r1 h1 => ?_
  refine hb ρ1 _ h1 σ F1 H1 O s1 _ fun u n ρ2 F2 H2 k2 s2 r2 h2 => ?_
  refine ⟨v, u, rfl, ?_⟩
  have r1' := r1.mono k2 s2.ex
  have q1 := s2.setM r1' i fun a h => (newAt_fr r1' h).choose_spec.2.2.1
  have q2 := q1.setM (O' := O) (H0 := H1) r2 j fun a h z => by
    obtain ⟨o2, b1, b2, b3, b4⟩ := newAt_fr r2 h
    rcases z with z | z
    · exact b3 z
    · obtain ⟨o1, c1, c2, c3, c4⟩ := newAt_fr r1 z
      rw [c1] at b4
      cases b4
  refine bd.nx _ _ F2 H2 _ ⟨(k1.trans k2).h1, (k1.trans k2).h2, (k1.trans k2).h3, fun a h => ?_⟩ q2 ((Keep.set (hB i (by simp))).trans (Keep.set (hB j (by simp)))) h2
  rcases h with (h | h) | h
  · exact .inl h
  · exact .inr (newAt_fr r1 h).choose_spec.2.2.2
  · obtain ⟨o2, b1, b2, b3, b4⟩ := newAt_fr r2 h
    exact .inr (k1.back b4 b3)
def aPar3 (i j l : Nat) (a b c : AM) : AS := fun A ρ => a ρ fun m ρ1 => b ρ1 fun n ρ2 => c ρ2 fun o ρ3 => A.nx (((ρ3.set i (svM m)).set j (svM n)).set l (svM o))
theorem lk_par3 {W : WX'} {i j l : Nat} {ta tb tc : TE} {a b c : AM} (ha : LkM K ta a) (hb : LkM K tb b) (hc : LkM K tc c) : LkS K W (tPar3 i j l (tCons ta (tCons tb (tCons tc tNil)))) (aPar3 i j l a b c) [i, j, l] := by
  intro A ρ h σ F H O s B' Dn hB bd
  refine ha ρ _ h σ F H O s _ fun v m ρ1 F1 H1 k1 s1 r1 h1 => ?_
  refine hb ρ1 _ h1 σ F1 H1 O s1 _ fun u n ρ2 F2 H2 k2 s2 r2 h2 => ?_
  refine hc ρ2 _ h2 σ F2 H2 O s2 _ fun w o ρ3 F3 H3 k3 s3 r3 h3 => ?_
  refine ⟨v, u, w, rfl, ?_⟩
  have r1' := r1.mono (k2.trans k3) s3.ex
  have r2' := r2.mono k3 s3.ex
  have q1 := s3.setM r1' i fun a h => (newAt_fr r1' h).choose_spec.2.2.1
  have q2 := q1.setM (O' := O) (H0 := H1) r2' j fun a h z => by
    obtain ⟨o2, b1, b2, b3, b4⟩ := newAt_fr r2 h
    rcases z with z | z
    · exact b3 z
    · obtain ⟨o1, c1, c2, c3, c4⟩ := newAt_fr r1 z
      rw [c1] at b4
      cases b4
  have q3 := q2.setM (O' := O) (H0 := H2) r3 l fun a h z => by
    obtain ⟨o3, b1, b2, b3, b4⟩ := newAt_fr r3 h
    rcases z with (z | z) | z
    · exact b3 z
    · obtain ⟨o1, c1, c2, c3, c4⟩ := newAt_fr (r1.mono k2 s2.ex) z
      rw [c1] at b4
      cases b4
    · obtain ⟨o1, c1, c2, c3, c4⟩ := newAt_fr r2 z
      rw [c1] at b4
      cases b4
  have kk := (k1.trans k2).trans k3
  refine bd.nx _ _ F3 H3 _ ⟨kk.h1, kk.h2, kk.h3, fun a h => ?_⟩ q3 (((Keep.set (hB i (by simp))).trans (Keep.set (hB j (by simp)))).trans (Keep.set (hB l (by simp)))) h3
  rcases h with ((h | h) | h) | h
  · exact .inl h
  · exact .inr (newAt_fr r1 h).choose_spec.2.2.2
  · obtain ⟨o2, b1, b2, b3, b4⟩ := newAt_fr r2 h
    exact .inr (k1.back b4 b3)
  · obtain ⟨o2, b1, b2, b3, b4⟩ := newAt_fr r3 h
    exact .inr ((k1.trans k2).back b4 b3)
end
section
variable {X : Cx} {W : WX'}
theorem gs_par {i j : Nat} {x y : Str} {a b : Expr} {ta tb : TE} {ma mb : AM} {px py pt pos : Pos} {kt k2 pt2} (hc : X.calm = true) (hN : X.N.Nodup) (ha : GM X a ta ma) (hb : GM X b tb mb)
    (hi : X.N[i]? = some x := by rfl) (hj : X.N[j]? = some y := by rfl) (hij : i ≠ j := by decide) (hx : X.env.scope.names.lookup x = some .local := by rfl) (hy : X.env.scope.names.lookup y = some .local := by rfl)
    (hw : swappedStores [.Tuple [.Name x px, .Name y py] kt pt] (.Tuple [a, b] k2 pt2) X.env = pure (some [x, y]) := by rfl)
    (hs : swapsWithSole [.Tuple [.Name x px, .Name y py] kt pt] (.Tuple [a, b] k2 pt2) pos.line X.env = pure false := by rfl)
    (h1 : starEach (a :: [b]) X.env = (false, eval a X.env) :: starEach [b] X.env := by rfl) (h2 : starEach (b :: []) X.env = (false, eval b X.env) :: starEach [] X.env := by rfl) :
    GS X W (.Assign [.Tuple [.Name x px, .Name y py] kt pt] (.Tuple [a, b] k2 pt2) pos) (tPar i j (tCons ta (tCons tb tNil))) (aPar i j ma mb) [i, j] :=
  ⟨ps_par hc hN hi hj hij hx hy (pa_cons ha.pe (pa_cons hb.pe pa_nil h2) h1) hw hs, lk_par ha.lk hb.lk⟩
theorem gs_par3 {i j l : Nat} {x y z : Str} {a b c : Expr} {ta tb tc : TE} {ma mb mc : AM} {px py pz pt pos : Pos} {kt k2 pt2} (hc : X.calm = true) (hN : X.N.Nodup) (ha : GM X a ta ma) (hb : GM X b tb mb) (hd : GM X c tc mc)
    (hi : X.N[i]? = some x := by rfl) (hj : X.N[j]? = some y := by rfl) (hl : X.N[l]? = some z := by rfl) (hij : i ≠ j := by decide) (hil : i ≠ l := by decide) (hjl : j ≠ l := by decide) (hx : X.env.scope.names.lookup x = some .local := by rfl) (hy : X.env.scope.names.lookup y = some .local := by rfl) (hz : X.env.scope.names.lookup z = some .local := by rfl)
    (hw : swappedStores [.Tuple [.Name x px, .Name y py, .Name z pz] kt pt] (.Tuple [a, b, c] k2 pt2) X.env = pure (some [x, y, z]) := by rfl)
    (hs : swapsWithSole [.Tuple [.Name x px, .Name y py, .Name z pz] kt pt] (.Tuple [a, b, c] k2 pt2) pos.line X.env = pure false := by rfl)
    (h1 : starEach (a :: [b, c]) X.env = (false, eval a X.env) :: starEach [b, c] X.env := by rfl) (h2 : starEach (b :: [c]) X.env = (false, eval b X.env) :: starEach [c] X.env := by rfl) (h3 : starEach (c :: []) X.env = (false, eval c X.env) :: starEach [] X.env := by rfl) :
    GS X W (.Assign [.Tuple [.Name x px, .Name y py, .Name z pz] kt pt] (.Tuple [a, b, c] k2 pt2) pos) (tPar3 i j l (tCons ta (tCons tb (tCons tc tNil)))) (aPar3 i j l ma mb mc) [i, j, l] :=
  ⟨ps_par3 hc hN hi hj hl hij hil hjl hx hy hz (pa_cons ha.pe (pa_cons hb.pe (pa_cons hd.pe pa_nil h3) h2) h1) hw hs, lk_par3 ha.lk hb.lk hd.lk⟩
end

/-! ### xs[i] = e, xs += ys, n += e, xs.pop() -/
def aSetI (j : Nat) (a : AE) : AG := fun d ρ k => isOw ρ j = true ∧ a ρ fun x ρ1 => match x, ρ1[j]? with
  | .im (.int n), some (.ow (.ol ds)) => ∃ m, ixN ds.length n = some m ∧ k (ρ1.set j (.ow (.ol (ds.set m d))))
  | _, _ => False
theorem lk_setI {K : PySem.W.Frag} {ti : TE} {a : AE} {j : Nat} (ha : LkE K ti a) : LkG K (gSub (tVar j) ti rSetL) (aSetI j a) [] := by
  intro d ρ k hk v σ F H O s r B' hB Q hq
  obtain ⟨ho, hk⟩ := hk
  obtain ⟨c, hc⟩ := isOw_get ho
  obtain ⟨p, h1, h2, h3⟩ := s.ow j c hc
  refine ⟨.ref p, h1, ?_⟩
  refine ha ρ _ hk σ F H O s _ fun u x ρ1 F1 H1 k1 s1 r1 hk1 => ?_
  split at hk1
  · rename_i n ds q
    obtain ⟨m, hm, hk1⟩ := hk1
    cases (show Rp K F1 u (.int n) from r1)
    obtain ⟨p', g1, g2, xs, g3, g4⟩ := s1.ow j _ q
    rw [h1] at g1
    cases g1
    refine ⟨p, xs, n, m, rfl, rfl, g3, by rw [g4.length]; exact hm, ?_⟩
    exact hq _ σ F1 _ (k1.trans (Kp.write g2)) (s1.write q h1 ⟨xs.set m v, upd_same, g4.set (r.mono k1.h2) m⟩) Keep.refl hk1
  · exact hk1.elim
theorem gg_setI {X : Cx} {x : Str} {xp pos : Pos} {i : Expr} {ti : TE} {a : AE} (j : Nat) (hi : GE X i ti a) (hN : X.N[j]? = some x := by rfl) (hv : Vis X.env.scope x := by first | exact Or.inl rfl | exact Or.inr (Or.inl rfl) | exact Or.inr (Or.inr rfl)) (hd : (x == ("__debug__" : Str)) = false := by decide)
    (hcd : (x == ("__classdict__" : Str)) = false := by decide) (ha : ∀ v, assign (.Subscript (.Name x xp) i pos) X.env v = (do
      let ov ← holding [v] (eval (.Name x xp) X.env)
      let iv ← holding [v, ov] (eval i X.env)
      standAt pos
      holding [v, ov, iv] (setItem ov iv v)
      release [v, ov, iv] []) := by intro _; rfl) : GG X (.Subscript (.Name x xp) i pos) (gSub (tVar j) ti rSetL) (aSetI j a) [] :=
  ⟨pg_sub (pe_var hN hv hd hcd) hi.pe set_list ha, lk_setI hi.lk⟩
/-- n += e (numbers), xs += ys (lists) -/
abbrev rAug : R2 := fun x y H Q => (rI0 fun i j => .int (i + j)) x y H Q ∨ rExt2 x y H Q
def aAug (i : Nat) (a : AE) : AS := fun A ρ => match ρ[i]? with
  | some (.im (.int n)) => a ρ fun x ρ1 => match x with
    | .im (.int m) => A.nx (ρ1.set i (.im (.int (n + m))))
    | _ => False
  | some (.ow _) => a ρ fun x ρ1 => match res ρ1 x, ρ1[i]? with
    | some (.lst es), some (.ow (.ol ds)) => ds.length + es.length ≤ 1000000 ∧ A.nx (ρ1.set i (.ow (.ol (ds ++ es))))
    | _, _ => False
  | _ => False
theorem lk_aug {K : PySem.W.Frag} {W : WX'} {te : TE} {a : AE} {i : Nat} (ha : LkE K te a) : LkS K W (tAug i te rAug) (aAug i a) [i] := by
  intro A ρ h σ F H O s B' Dn hB bd
  unfold aAug at h
  split at h
  · rename_i n q
    obtain ⟨v, h1, h2⟩ := s.im i _ q
    cases h2
    refine ⟨.int n, h1, ?_⟩
    refine ha ρ _ h σ F H O s _ fun u x ρ1 F1 H1 k1 s1 r1 hk1 => ?_
    split at hk1
    · rename_i m
      cases (show Rp K F1 u (.int m) from r1)
      exact .inl ⟨n, m, rfl, rfl, bd.nx _ _ F1 H1 O k1 (s1.setIm (.int _) i) (Keep.set (hB i List.mem_cons_self)) hk1⟩
    · exact hk1.elim
  · rename_i c q
    obtain ⟨p, h1, h2, h3⟩ := s.ow i _ q
    refine ⟨.ref p, h1, ?_⟩
    refine ha ρ _ h σ F H O s _ fun u x ρ1 F1 H1 k1 s1 r1 hk1 => ?_
    split at hk1
    · rename_i es ds q1 q2
      obtain ⟨hz, hk1⟩ := hk1
      obtain ⟨b, ys, rfl, g1, g2⟩ := (res_ok s1 r1 q1).lst s1.ex rfl
      obtain ⟨p', a1, a2, xs, a3, a4⟩ := s1.ow i _ q2
      rw [h1] at a1
      cases a1
      refine .inr ⟨p, b, xs, ys, rfl, rfl, a3, g1, by rw [a4.length, g2.length]; exact sz hz, ?_⟩
      have sw := s1.write (o := .lst (xs ++ ys)) (c' := .ol (ds ++ es)) q2 h1 ⟨xs ++ ys, upd_same, a4.append g2⟩
      have eσ : σ.set i (some (.ref p)) = σ := by
        apply List.ext_getElem?
        intro j
        by_cases e : i = j
        · subst e
          rw [List.getElem?_set_self (get_lt h1), h1]
        · rw [List.getElem?_set_ne e]
      refine bd.nx _ _ F1 _ O (k1.trans (Kp.write a2)) ?_ (Keep.set (hB i List.mem_cons_self)) hk1
      rw [eσ]
      exact sw
    · exact hk1.elim
  · exact h.elim
theorem gs_aug {X : Cx} {W : WX'} {i : Nat} {x : Str} {e : Expr} {te : TE} {a : AE} {pos pos' : Pos} (hN : X.N.Nodup) (he : GE X e te a) (hi : X.N[i]? = some x := by rfl) (hx : Loc X.env.scope x := by first | exact .inl rfl | exact .inr rfl) (hf : X.fn x = true ∨ X.env.scope.names.lookup x = some .local := by first | exact .inl rfl | exact .inr rfl | assumption) :
    GS X W (.AugAssign (.Name x pos') .Add e pos) (tAug i te rAug) (aAug i a) [i] := ⟨ps_aug hN hi hx he.pe (opr_or iop_add iop_ext) hf, lk_aug he.lk⟩
def aPop (i : Nat) : AE := fun ρ k => match ρ[i]? with
  | some (.ow (.ol ds)) => ∃ d, ds[ds.length - 1]? = some d ∧ k (.im d) (ρ.set i (.ow (.ol ds.dropLast)))
  | _ => False
theorem RpA.dropLast {K : PySem.W.Frag} {F : Hp} {xs : List V} {ds : List D} (r : RpA K F xs ds) : RpA K F xs.dropLast ds.dropLast := by
  rw [List.dropLast_eq_take, List.dropLast_eq_take, r.length]
  exact r.take _
theorem lk_pop {K : PySem.W.Frag} {i : Nat} : LkE K (tBM0 K "list" rPop (tVar i)) (aPop i) := by
  intro ρ k hk σ F H O s Q hq
  unfold aPop at hk
  split at hk
  · rename_i ds q
    obtain ⟨d, hd, hk⟩ := hk
    obtain ⟨p, h1, h2, xs, h3, h4⟩ := s.ow i _ q
    obtain ⟨v, hv, rv⟩ := h4.get hd
    refine ⟨.ref p, h1, .inl ⟨rfl, xs, SqL.of h3⟩, p, xs, v, rfl, rfl, h3, by rw [h4.length]; exact hv, ?_⟩
    exact hq v (.im d) _ F _ (Kp.write h2) (s.write q h1 ⟨xs.dropLast, upd_same, h4.dropLast⟩) rv hk
  · exact hk.elim
theorem ge_pop {X : Cx} {x : Str} {xp apos cpos : Pos} (i : Nat) (hN : X.N[i]? = some x := by rfl) (hv : Vis X.env.scope x := by first | exact Or.inl rfl | exact Or.inr (Or.inl rfl) | exact Or.inr (Or.inr rfl)) (hd : (x == ("__debug__" : Str)) = false := by decide)
    (hcd : (x == ("__classdict__" : Str)) = false := by decide) (hbase : attributeBase (.Name x xp) "pop" X.env (eval (.Name x xp) X.env) = eval (.Name x xp) X.env := by rfl) (hline : (apos.endLine == cpos.line) = true := by rfl) :
    GE X (.Call (.Attribute (.Name x xp) "pop" apos) [] [] cpos) (tBM0 X.K "list" rPop (tVar i)) (aPop i) :=
  ⟨pe_bm0 PySem.F.plainAttrs_list PySem.F.slot_list_pop PySem.F.type_list_pop mt_pop (pe_var hN hv hd hcd) hbase hline, lk_pop⟩
theorem hu65 {k : Nat} {A : Around} (hr : Room k A) : A.units + 65 < cLine := by have := hr.un; omega
end DL
namespace DL
open PySem PySem.Spec L2
open PyProof.Rows hiding St
/-- a module's whole number -/
def IsInt (mg : Str → Option Value) (x : Str) (n : Int) : Prop := ∃ t, mg x = some (.int n t)
theorem ge_gint {X : Cx} {x : Str} {n : Int} {pos : Pos} (h : IsInt X.mg x n) (hg : Gl X x := by rfl) (hd : (x == ("__debug__" : Str)) = false := by decide) : GE X (.Name x pos) (tC (.int n)) (aC (.int n)) := by
  obtain ⟨t, h⟩ := h
  exact ge_glob h ⟨t, rfl⟩ (fun _ => .int n) hg hd
/-- neither an address nor the script -/
def val : D → Bool
  | .adr _ => false
  | .scr _ => false
  | _ => true
end DL

namespace DL
open PySem PySem.Spec L2
open PyProof.Rows hiding St

/-! ### comprehensions that change nothing -/
theorem mem_of_get {α : Type} {l : List α} {i : Nat} {x : α} (h : l[i]? = some x) : x ∈ l := List.mem_of_getElem? h
theorem take_more {α : Type} {l : List α} {i : Nat} {x : α} (h : l[i]? = some x) : l.take (i + 1) = l.take i ++ [x] := by
  rw [List.take_add_one, h]; rfl
theorem aLc_pure {ai : AI} {g : AG} {at_ : AT} {ae : AE} {vs : List Nat} {ρ : AR} {k : List D → AR → Prop} (ds : List D) (p : D → Bool) (f : D → D) (hai : ∀ k' : List D → AR → Prop, k' ds ρ → ai ρ k') (hn : noOw ρ vs = true) (hz : ds.length ≤ 1000000)
    (ht : ∀ d ∈ ds, ∀ (Wy : D → AR → Prop) (Wn : AR → Prop), (p d = true → Wy (f d) ρ) → (p d = false → Wn ρ) → g d (wipeA ρ vs) fun ρ2 => at_ ρ2 fun b ρ3 => if b = true then ae ρ3 fun x ρ4 => ∃ y, x = .im y ∧ Wy y (mrg vs ρ ρ4) else Wn (mrg vs ρ ρ3))
    (hk : k ((ds.filter p).map f) ρ) : aLc ai g at_ ae vs ρ k := by
  unfold aLc
  refine hai _ ⟨fun i acc ρ' => acc = ((ds.take i).filter p).map f ∧ ρ' = ρ, ⟨by simp, rfl⟩, ?_, ?_⟩
  · rintro i d acc ρ' hd ⟨rfl, rfl⟩
    refine ⟨hn, ht d (mem_of_get hd) (fun y ρ'' => (((ds.take i).filter p).map f).length < 1000000 ∧ ((((ds.take i).filter p).map f) ++ [y] = ((ds.take (i + 1)).filter p).map f ∧ ρ'' = ρ')) (fun ρ'' => ((ds.take i).filter p).map f = ((ds.take (i + 1)).filter p).map f ∧ ρ'' = ρ') (fun hp => ⟨?_, ?_, rfl⟩) fun hp => ⟨?_, rfl⟩⟩
    · rw [List.length_map]
      have h1 := List.length_filter_le p (ds.take i)
      have h2 := get_lt hd
      rw [List.length_take] at h1
      omega
    · rw [take_more hd, List.filter_append, List.map_append, List.filter_cons, if_pos hp]; rfl
    · rw [take_more hd, List.filter_append, List.map_append, List.filter_cons, if_neg (by rw [hp]; decide)]
      simp
  · rintro acc ρ' ⟨rfl, rfl⟩
    rw [List.take_length]
    exact hk
theorem aLc_map {ai : AI} {g : AG} {ae : AE} {vs : List Nat} {ρ : AR} {k : List D → AR → Prop} (ds : List D) (f : D → D) (hai : ∀ k' : List D → AR → Prop, k' ds ρ → ai ρ k') (hn : noOw ρ vs = true) (hz : ds.length ≤ 1000000)
    (ht : ∀ d ∈ ds, ∀ (Wy : D → AR → Prop), Wy (f d) ρ → g d (wipeA ρ vs) fun ρ2 => ae ρ2 fun x ρ4 => ∃ y, x = .im y ∧ Wy y (mrg vs ρ ρ4))
    (hk : k (ds.map f) ρ) : aLc ai g aYes ae vs ρ k := by
  refine aLc_pure ds (fun _ => true) f hai hn hz (fun d hd Wy Wn h1 h2 => ?_) ?_
  · exact ht d hd Wy (h1 rfl)
  · rw [List.filter_eq_self.mpr (fun _ _ => rfl)]
    exact hk
/-- by an invariant over what is made so far (a turn may change what is owned) -/
theorem aLc_inv {ai : AI} {g : AG} {ae : AE} {vs : List Nat} {ρ : AR} {k : List D → AR → Prop} (ds : List D) (I : List D → AR → Prop) (hai : ∀ k' : List D → AR → Prop, k' ds ρ → ai ρ k') (hz : ds.length ≤ 1000000) (h0 : I [] ρ)
    (ht : ∀ d ∈ ds, ∀ acc ρ', I acc ρ' → noOw ρ' vs = true ∧ ∀ Wy : D → AR → Prop, (∀ y ρ'', I (acc ++ [y]) ρ'' → Wy y ρ'') → g d (wipeA ρ' vs) fun ρ2 => ae ρ2 fun x ρ4 => ∃ y, x = .im y ∧ Wy y (mrg vs ρ' ρ4))
    (hk : ∀ acc ρ', acc.length = ds.length → I acc ρ' → k acc ρ') : aLc ai g aYes ae vs ρ k := by
  unfold aLc
  refine hai _ ⟨fun i acc ρ' => acc.length = i ∧ I acc ρ', ⟨rfl, h0⟩, ?_, ?_⟩
  · rintro i d acc ρ' hd ⟨hl, hI⟩
    obtain ⟨hn, ht⟩ := ht d (mem_of_get hd) acc ρ' hI
    refine ⟨hn, ?_⟩
    have hi := get_lt hd
    exact ht (fun y ρ'' => acc.length < 1000000 ∧ ((acc ++ [y]).length = i + 1 ∧ I (acc ++ [y]) ρ'')) fun y ρ'' h => ⟨by omega, by rw [List.length_append, hl]; rfl, h⟩
  · rintro acc ρ' ⟨hl, hI⟩
    exact hk acc ρ' hl hI
/-- a for over what is walked, by an invariant over what is taken so far -/
theorem aFor_inv {ai : AI} {g : AG} {b : AS} {A : AEnds} {ρ : AR} (ds : List D) (I : List D → AR → Prop) (hai : ∀ k' : List D → AR → Prop, k' ds ρ → ai ρ k') (h0 : I [] ρ)
    (ht : ∀ (pre : List D) (d : D) (post : List D) (ρ' : AR), ds = pre ++ d :: post → I pre ρ' → ∀ N : AR → Prop, (∀ ρ'', I (pre ++ [d]) ρ'' → N ρ'') → g d ρ' fun ρ'' => b { A with nx := N, ct := N, bk := A.nx } ρ'')
    (hk : ∀ ρ', I ds ρ' → A.nx ρ') : aFor ai g b A ρ := by
  unfold aFor
  refine hai _ ⟨fun i ρ' => I (ds.take i) ρ', by simpa using h0, fun i d ρ' hd hI => ?_, fun ρ' hI => hk ρ' (by have hI' : I (ds.take ds.length) ρ' := hI; rw [List.take_length] at hI'; exact hI')⟩
  have hi := get_lt hd
  have e : ds = ds.take i ++ d :: ds.drop (i + 1) := by
    have h2 : ds[i] = d := Option.some.inj ((List.getElem?_eq_getElem hi).symm.trans hd)
    rw [← h2]
    simp
  refine ht (ds.take i) d (ds.drop (i + 1)) ρ' e hI (fun ρ'' => I (ds.take (i + 1)) ρ'') fun ρ'' h => ?_
  rw [take_more hd]
  exact h
end DL

/-! the rules that speak of the written part K, with K given by name (a comprehension's block has its own context) -/
namespace DL
open PySem PySem.Spec L2
open PyProof.Rows hiding St
section
variable {X : Cx} {K : PySem.W.Frag} {a b e : Expr} {es : List Expr} {pos p : Pos} {ta tb te : TE} {aa ab ae : AE} {tas : TA} {aas : AA}
theorem ge_plus (ha : GE X a ta aa) (hb : GE X b tb ab) (hK : X.K = K := by rfl) : GE X (.BinOp a .Add b pos) (tOp (rPlus K) ta tb) (aOp fPlus aa ab) := by
  subst hK
  exact ge_op op_plus lk_plus ha hb
theorem ge_eq (hu : X.A.units + 64 < cLine) (ha : GE X a ta aa) (hb : GE X b tb ab) (hm : behindInMarks .Eq b = false) (hK : X.K = K := by rfl) : GE X (.Compare a [.Eq] [b] pos) (tOp (rEqD K) ta tb) (aOp fEq aa ab) := by
  subst hK
  exact ge_cmp (op_eqD hu) lk_eq ha hb hm
theorem gt_eq (hu : X.A.units + 64 < cLine) (ha : GE X a ta aa) (hb : GE X b tb ab) (hm : behindInMarks .Eq b = false) (hK : X.K = K := by rfl) : GT X (.Compare a [.Eq] [b] pos) (tTest (tOp (rEqD K) ta tb)) (aTest (aOp fEq aa ab)) := by
  subst hK
  exact gt_cmp (op_eqD hu) lk_eq ha hb hm
theorem ge_ne (hu : X.A.units + 64 < cLine) (ha : GE X a ta aa) (hb : GE X b tb ab) (hm : behindInMarks .NotEq b = false) (hK : X.K = K := by rfl) : GE X (.Compare a [.NotEq] [b] pos) (tOp (rNeD K) ta tb) (aOp fNe aa ab) := by
  subst hK
  exact ge_cmp (op_neD hu) lk_ne ha hb hm
theorem gt_ne (hu : X.A.units + 64 < cLine) (ha : GE X a ta aa) (hb : GE X b tb ab) (hm : behindInMarks .NotEq b = false) (hK : X.K = K := by rfl) : GT X (.Compare a [.NotEq] [b] pos) (tTest (tOp (rNeD K) ta tb)) (aTest (aOp fNe aa ab)) := by
  subst hK
  exact gt_cmp (op_neD hu) lk_ne ha hb hm
theorem ge_in (hu : X.A.units + 65 < cLine) (ha : GE X a ta aa) (hb : GE X b tb ab) (hm : behindInMarks .In b = false) (hK : X.K = K := by rfl) : GE X (.Compare a [.In] [b] pos) (tOp (rInA K false) ta tb) (aOp (fIn false) aa ab) := by
  subst hK
  exact ge_cmp (op_inA hu) lk_in ha hb hm
theorem gt_in (hu : X.A.units + 65 < cLine) (ha : GE X a ta aa) (hb : GE X b tb ab) (hm : behindInMarks .In b = false) (hK : X.K = K := by rfl) : GT X (.Compare a [.In] [b] pos) (tTest (tOp (rInA K false) ta tb)) (aTest (aOp (fIn false) aa ab)) := by
  subst hK
  exact gt_cmp (op_inA hu) lk_in ha hb hm
theorem ge_nin (hu : X.A.units + 65 < cLine) (ha : GE X a ta aa) (hb : GE X b tb ab) (hm : behindInMarks .NotIn b = false) (hK : X.K = K := by rfl) : GE X (.Compare a [.NotIn] [b] pos) (tOp (rInA K true) ta tb) (aOp (fIn true) aa ab) := by
  subst hK
  exact ge_cmp (op_notInA hu) lk_in ha hb hm
theorem gt_nin (hu : X.A.units + 65 < cLine) (ha : GE X a ta aa) (hb : GE X b tb ab) (hm : behindInMarks .NotIn b = false) (hK : X.K = K := by rfl) : GT X (.Compare a [.NotIn] [b] pos) (tTest (tOp (rInA K true) ta tb)) (aTest (aOp (fIn true) aa ab)) := by
  subst hK
  exact gt_cmp (op_notInA hu) lk_in ha hb hm
theorem ge_ixK (ha : GE X a ta aa) (hb : GE X b tb ab) (hs : PlainIx b := by exact fun _ _ => rfl) (hK : X.K = K := by rfl) : GE X (.Subscript a b pos) (tOp (rIx K) ta tb) (aOp fIx aa ab) := by
  subst hK
  exact ge_ix ha hb hs
theorem ge_slK {lo hi : Option Expr} {tl th : TO} {l h : AO} {p2 : Pos} (he : GE X e te ae) (hl : GO X lo tl l) (hh : GO X hi th h) (hK : X.K = K := by rfl) : GE X (.Subscript e (.Slice lo hi none p2) pos) (tSl (rSl K) te tl th) (aSl ae l h) := by
  subst hK
  exact ge_sl he hl hh
theorem ge_isiK {q : Pos} {y : Str} (T : Ty) (hm : X.mg "isinstance" = none) (hy : X.mg y = none) (ha : GE X e te ae) (hv : bootBuiltins y = some (.type T.nm) := by decide +kernel) (hg : Gl X "isinstance" := by rfl) (hg2 : Gl X y := by rfl) (hn : y ≠ "__name__" := by decide) (hdb : (y == ("__debug__" : Str)) = false := by decide) (hcd : (y == ("__classdict__" : Str)) = false := by decide)
    (he : starEach (e :: [.Name y q]) X.env = (false, eval e X.env) :: starEach [.Name y q] X.env := by rfl) (he2 : starEach (.Name y q :: []) X.env = (false, eval (.Name y q) X.env) :: starEach [] X.env := by rfl) (hpl : (backTo pos (starEach [.Name y q] X.env)).any (·.1) = false := by rfl) (hK : X.K = K := by rfl) :
    GE X (.Call (.Name "isinstance" p) [e, .Name y q] [] pos) (tCB (rIsi K) (tCons te (tCons (tC (.ty T.nm)) tNil))) (aIsi T ae) := by
  subst hK
  exact ge_isi T hm hy ha hv hg hg2 hn hdb hcd he he2 hpl
theorem ge_lenK (B : Bt X.mg) (ha : GA X (e :: es) tas aas) (hg : Gl X "len" := by rfl) (he : starEach (e :: es) X.env = (false, eval e X.env) :: starEach es X.env := by rfl) (hpl : (backTo pos (starEach es X.env)).any (·.1) = false := by rfl) (hK : X.K = K := by rfl) : GE X (.Call (.Name "len" p) (e :: es) [] pos) (tCB (rLen K) tas) (aCB fLen aas) := by
  subst hK
  exact ge_len B ha hg he hpl
theorem ge_maxK (hc : X.calm = true) (B : Bt X.mg) (ha : GA X (e :: es) tas aas) (hg : Gl X "max" := by rfl) (he : starEach (e :: es) X.env = (false, eval e X.env) :: starEach es X.env := by rfl) (hpl : (backTo pos (starEach es X.env)).any (·.1) = false := by rfl) (hK : X.K = K := by rfl) : GE X (.Call (.Name "max" p) (e :: es) [] pos) (tCB (rMax K) tas) (aCB fMax aas) := by
  subst hK
  exact ge_max hc B ha hg he hpl
theorem ge_minK (hc : X.calm = true) (B : Bt X.mg) (ha : GA X (e :: es) tas aas) (hg : Gl X "min" := by rfl) (he : starEach (e :: es) X.env = (false, eval e X.env) :: starEach es X.env := by rfl) (hpl : (backTo pos (starEach es X.env)).any (·.1) = false := by rfl) (hK : X.K = K := by rfl) : GE X (.Call (.Name "min" p) (e :: es) [] pos) (tCB (rMin K) tas) (aCB fMin aas) := by
  subst hK
  exact ge_min hc B ha hg he hpl
theorem ge_sumK (hc : X.calm = true) (B : Bt X.mg) (ha : GA X (e :: es) tas aas) (hg : Gl X "sum" := by rfl) (he : starEach (e :: es) X.env = (false, eval e X.env) :: starEach es X.env := by rfl) (hpl : (backTo pos (starEach es X.env)).any (·.1) = false := by rfl) (hK : X.K = K := by rfl) : GE X (.Call (.Name "sum" p) (e :: es) [] pos) (tCB (rSum K) tas) (aCB fSum aas) := by
  subst hK
  exact ge_sum hc B ha hg he hpl
theorem ge_allK (hc : X.calm = true) (B : Bt X.mg) (ha : GA X (e :: es) tas aas) (hg : Gl X "all" := by rfl) (he : starEach (e :: es) X.env = (false, eval e X.env) :: starEach es X.env := by rfl) (hpl : (backTo pos (starEach es X.env)).any (·.1) = false := by rfl) (hK : X.K = K := by rfl) : GE X (.Call (.Name "all" p) (e :: es) [] pos) (tCB (rAll K) tas) (aCB fAll aas) := by
  subst hK
  exact ge_all hc B ha hg he hpl
theorem ge_tupleK (B : Bt X.mg) (ha : GA X (e :: es) tas aas) (hg : Gl X "tuple" := by rfl) (he : starEach (e :: es) X.env = (false, eval e X.env) :: starEach es X.env := by rfl) (hpl : (backTo pos (starEach es X.env)).any (·.1) = false := by rfl) (hK : X.K = K := by rfl) : GE X (.Call (.Name "tuple" p) (e :: es) [] pos) (tCB (rTup1 K) tas) (aCB fTuple aas) := by
  subst hK
  exact ge_tuple B ha hg he hpl
theorem gl_listK (hm : X.mg "list" = none) (ha : GA X (e :: es) tas aas) (hg : Gl X "list" := by rfl)
    (he : starEach (e :: es) X.env = (false, eval e X.env) :: starEach es X.env := by rfl) (hpl : (backTo pos (starEach es X.env)).any (·.1) = false := by rfl) (hK : X.K = K := by rfl) : GL X (.Call (.Name "list" p) (e :: es) [] pos) (tCB (fun xs H Q => ∃ p ys, xs = [.ref p] ∧ (SqL K H p ys ∨ SqT K H p ys) ∧ ∀ l, H l = none → Q (.ref l) (upd H l (.lst ys))) tas) (aList aas) := by
  subst hK
  exact gl_list hm ha hg he hpl
theorem ge_appK {x : Str} {xp apos cpos : Pos} (i : Nat) (ha : GE X e te ae) (hN : X.N[i]? = some x := by rfl) (hv : Vis X.env.scope x := by first | exact Or.inl rfl | exact Or.inr (Or.inl rfl) | exact Or.inr (Or.inr rfl)) (hd : (x == ("__debug__" : Str)) = false := by decide)
    (hcd : (x == ("__classdict__" : Str)) = false := by decide) (hbase : attributeBase (.Name x xp) "append" X.env (eval (.Name x xp) X.env) = eval (.Name x xp) X.env := by rfl)
    (hfew : ((backTo cpos (starEach [e] X.env)).all (fun x => !x.1) && (backToKw cpos (keywordEach [] X.env)).all (fun x => x.1.isSome)
      && decide ([e].length + ([] : List Keyword).length + (if ([] : List Keyword).isEmpty then 0 else 1) < 30)) = true := by rfl)
    (hline : (apos.endLine == cpos.line) = true := by rfl) (hs : starEach (e :: []) X.env = (false, eval e X.env) :: starEach [] X.env := by rfl) (hplain : (backTo cpos (starEach [] X.env)).any (·.1) = false := by rfl) (hK : X.K = K := by rfl) :
    GE X (.Call (.Attribute (.Name x xp) "append" apos) [e] [] cpos) (tBM K "list" rAppend (tVar i) (tCons te tNil)) (aApp i ae) := by
  subst hK
  exact ge_app i ha hN hv hd hcd hbase hfew hline hs hplain
theorem ge_popK {x : Str} {xp apos cpos : Pos} (i : Nat) (hN : X.N[i]? = some x := by rfl) (hv : Vis X.env.scope x := by first | exact Or.inl rfl | exact Or.inr (Or.inl rfl) | exact Or.inr (Or.inr rfl)) (hd : (x == ("__debug__" : Str)) = false := by decide)
    (hcd : (x == ("__classdict__" : Str)) = false := by decide) (hbase : attributeBase (.Name x xp) "pop" X.env (eval (.Name x xp) X.env) = eval (.Name x xp) X.env := by rfl) (hline : (apos.endLine == cpos.line) = true := by rfl) (hK : X.K = K := by rfl) :
    GE X (.Call (.Attribute (.Name x xp) "pop" apos) [] [] cpos) (tBM0 K "list" rPop (tVar i)) (aPop i) := by
  subst hK
  exact ge_pop i hN hv hd hcd hbase hline
theorem gi_seqK {tg : Expr} (he : GE X e te ae) (hK : X.K = K := by rfl) : GI X tg e (iSeq K te) (aISeq ae) := by
  subst hK
  exact gi_seq he
theorem gg_tupK {es : List Expr} {k : Nat} {t : TGs} {a : AGs} {B : List Nat} {n : Nat} {pos : Pos} (hc : X.calm = true) (h : GGs X es t a B)
    (hn : (assignEach es X.env).length = n := by rfl) (hst : (assignEach es X.env).findIdx? (·.1) = none := by rfl) (hK : X.K = K := by rfl) : GG X (.Tuple es k pos) (gTup K n t) (aGTup n a) B := by
  subst hK
  exact gg_tup hc h hn hst
theorem ge_dfK {P : Program} {w : World} {mg : Str → Option Value} {base : Heap} {j k : Nat} {af : AF} {x : Str} (d : Df P w K mg base k x af) (hr : Room j X.A) (ha : GA X (e :: es) tas aas) (hk : k ≤ j := by decide) (hg : Gl X x := by rfl)
    (he : starEach (e :: es) X.env = (false, eval e X.env) :: starEach es X.env := by rfl) (hpl : (backTo pos (starEach es X.env)).any (·.1) = false := by rfl) (hdb : (x == ("__debug__" : Str)) = false := by decide) (hK : X.K = K := by rfl) (hP : X.prog = P := by rfl) (hw : X.w = w := by rfl) (hm : X.mg = mg := by rfl) (hb : X.base = base := by rfl) :
    GE X (.Call (.Name x p) (e :: es) [] pos) (tCall (SpF K af) [] E0 tas) (aCall af aas) := by
  subst hK hP hw hm hb
  exact ge_df d hr ha hk hg he hpl hdb
theorem gl_dfK {P : Program} {w : World} {mg : Str → Option Value} {base : Heap} {j k : Nat} {af : AFL} {x : Str} (d : DfL P w K mg base k x af) (hr : Room j X.A) (ha : GA X (e :: es) tas aas) (hk : k ≤ j := by decide) (hg : Gl X x := by rfl)
    (he : starEach (e :: es) X.env = (false, eval e X.env) :: starEach es X.env := by rfl) (hpl : (backTo pos (starEach es X.env)).any (·.1) = false := by rfl) (hdb : (x == ("__debug__" : Str)) = false := by decide) (hK : X.K = K := by rfl) (hP : X.prog = P := by rfl) (hw : X.w = w := by rfl) (hm : X.mg = mg := by rfl) (hb : X.base = base := by rfl) :
    GL X (.Call (.Name x p) (e :: es) [] pos) (tCall (SpL K af) [] E0 tas) (aCallL af aas) := by
  subst hK hP hw hm hb
  exact gl_df d hr ha hk hg he hpl hdb
end
end DL

namespace DL
open PySem PySem.Spec L2
open PyProof.Rows hiding St

/-! ### over what is told by a list of plain things -/
theorem split_map {α : Type} {f : α → D} : ∀ {xs : List α} {pre post : List D} {d : D}, xs.map f = pre ++ d :: post → ∃ p x q, xs = p ++ x :: q ∧ pre = p.map f ∧ d = f x ∧ post = q.map f
  | [], pre, post, d, h => by cases pre <;> cases h
  | y :: xs, [], post, d, h => by
    simp only [List.map_cons, List.nil_append, List.cons.injEq] at h
    exact ⟨[], y, xs, rfl, rfl, h.1.symm, h.2.symm⟩
  | y :: xs, e :: pre, post, d, h => by
    simp only [List.map_cons, List.cons_append, List.cons.injEq] at h
    obtain ⟨p, x, q, h1, h2, h3, h4⟩ := split_map h.2
    exact ⟨y :: p, x, q, by rw [h1]; rfl, by rw [h2, ← h.1]; rfl, h3, h4⟩
theorem map_inj_take {α : Type} {f : α → D} (hf : ∀ x y, f x = f y → x = y) : ∀ {xs ys : List α}, xs.map f = ys.map f → xs = ys
  | [], [], _ => rfl
  | [], _ :: _, h => by cases h
  | _ :: _, [], h => by cases h
  | x :: xs, y :: ys, h => by
    simp only [List.map_cons, List.cons.injEq] at h
    rw [hf _ _ h.1, map_inj_take hf h.2]
theorem aFor_map {α : Type} {ai : AI} {g : AG} {b : AS} {A : AEnds} {ρ : AR} (xs : List α) (f : α → D) (I : List α → AR → Prop) (hai : ∀ k' : List D → AR → Prop, k' (xs.map f) ρ → ai ρ k') (h0 : I [] ρ)
    (ht : ∀ (pre : List α) (x : α) (post : List α) (ρ' : AR), xs = pre ++ x :: post → I pre ρ' → ∀ N : AR → Prop, (∀ ρ'', I (pre ++ [x]) ρ'' → N ρ'') → g (f x) ρ' fun ρ'' => b { A with nx := N, ct := N, bk := A.nx } ρ'')
    (hk : ∀ ρ', I xs ρ' → A.nx ρ') : aFor ai g b A ρ := by
  unfold aFor
  refine hai _ ⟨fun i ρ' => I (xs.take i) ρ', by simpa using h0, fun i d ρ' hd hI => ?_, fun ρ' hI => hk ρ' (by have hI' : I (xs.take (xs.map f).length) ρ' := hI; rw [List.length_map, List.take_length] at hI'; exact hI')⟩
  have hi := get_lt hd
  rw [List.length_map] at hi
  rw [List.getElem?_map, List.getElem?_eq_getElem hi] at hd
  cases hd
  refine ht (xs.take i) xs[i] (xs.drop (i + 1)) ρ' (by simp) hI (fun ρ'' => I (xs.take (i + 1)) ρ'') fun ρ'' h => ?_
  rw [take_more (List.getElem?_eq_getElem hi)]
  exact h
theorem aLc_mapM {α : Type} {ai : AI} {g : AG} {ae : AE} {vs : List Nat} {ρ : AR} {k : List D → AR → Prop} (xs : List α) (f h : α → D) (hai : ∀ k' : List D → AR → Prop, k' (xs.map f) ρ → ai ρ k') (hn : noOw ρ vs = true) (hz : xs.length ≤ 1000000)
    (ht : ∀ x ∈ xs, ∀ (Wy : D → AR → Prop), Wy (h x) ρ → g (f x) (wipeA ρ vs) fun ρ2 => ae ρ2 fun y ρ4 => ∃ z, y = .im z ∧ Wy z (mrg vs ρ ρ4))
    (hk : k (xs.map h) ρ) : aLc ai g aYes ae vs ρ k := by
  unfold aLc
  refine hai _ ⟨fun i acc ρ' => acc = (xs.take i).map h ∧ ρ' = ρ, ⟨by simp, rfl⟩, ?_, ?_⟩
  · rintro i d acc ρ' hd ⟨rfl, rfl⟩
    have hi := get_lt hd
    rw [List.length_map] at hi
    rw [List.getElem?_map, List.getElem?_eq_getElem hi] at hd
    cases hd
    refine ⟨hn, ht xs[i] (List.getElem_mem hi) (fun y ρ'' => ((xs.take i).map h).length < 1000000 ∧ (((xs.take i).map h) ++ [y] = (xs.take (i + 1)).map h ∧ ρ'' = ρ')) ⟨?_, ?_, rfl⟩⟩
    · rw [List.length_map, List.length_take]; omega
    · rw [take_more (List.getElem?_eq_getElem hi), List.map_append]; rfl
  · rintro acc ρ' ⟨rfl, rfl⟩
    rw [List.length_map, List.take_length]
    exact hk
theorem aLc_pureM {α : Type} {ai : AI} {g : AG} {at_ : AT} {ae : AE} {vs : List Nat} {ρ : AR} {k : List D → AR → Prop} (xs : List α) (f : α → D) (p : α → Bool) (h : α → D) (hai : ∀ k' : List D → AR → Prop, k' (xs.map f) ρ → ai ρ k') (hn : noOw ρ vs = true) (hz : xs.length ≤ 1000000)
    (ht : ∀ x ∈ xs, ∀ (Wy : D → AR → Prop) (Wn : AR → Prop), (p x = true → Wy (h x) ρ) → (p x = false → Wn ρ) → g (f x) (wipeA ρ vs) fun ρ2 => at_ ρ2 fun b ρ3 => if b = true then ae ρ3 fun y ρ4 => ∃ z, y = .im z ∧ Wy z (mrg vs ρ ρ4) else Wn (mrg vs ρ ρ3))
    (hk : k ((xs.filter p).map h) ρ) : aLc ai g at_ ae vs ρ k := by
  unfold aLc
  refine hai _ ⟨fun i acc ρ' => acc = ((xs.take i).filter p).map h ∧ ρ' = ρ, ⟨by simp, rfl⟩, ?_, ?_⟩
  · rintro i d acc ρ' hd ⟨rfl, rfl⟩
    have hi := get_lt hd
    rw [List.length_map] at hi
    rw [List.getElem?_map, List.getElem?_eq_getElem hi] at hd
    cases hd
    have ht' := take_more (List.getElem?_eq_getElem hi)
    refine ⟨hn, ht xs[i] (List.getElem_mem hi) (fun y ρ'' => (((xs.take i).filter p).map h).length < 1000000 ∧ ((((xs.take i).filter p).map h) ++ [y] = ((xs.take (i + 1)).filter p).map h ∧ ρ'' = ρ')) (fun ρ'' => ((xs.take i).filter p).map h = ((xs.take (i + 1)).filter p).map h ∧ ρ'' = ρ') (fun hp => ⟨?_, ?_, rfl⟩) fun hp => ⟨?_, rfl⟩⟩
    · rw [List.length_map]
      have h1 := List.length_filter_le p (xs.take i)
      rw [List.length_take] at h1
      omega
    · rw [ht', List.filter_append, List.map_append, List.filter_cons, if_pos hp]; rfl
    · rw [ht', List.filter_append, List.map_append, List.filter_cons, if_neg (by rw [hp]; decide)]
      simp
  · rintro acc ρ' ⟨rfl, rfl⟩
    rw [List.length_map, List.take_length]
    exact hk
/-- by an invariant over what is taken so far (a turn may change what is owned) -/
theorem aLc_invM {α : Type} {ai : AI} {g : AG} {ae : AE} {vs : List Nat} {ρ : AR} {k : List D → AR → Prop} (xs : List α) (f : α → D) (I : List D → AR → Prop) (hai : ∀ k' : List D → AR → Prop, k' (xs.map f) ρ → ai ρ k') (hz : xs.length ≤ 1000000) (h0 : I [] ρ)
    (ht : ∀ x ∈ xs, ∀ acc ρ', I acc ρ' → noOw ρ' vs = true ∧ ∀ Wy : D → AR → Prop, (∀ y ρ'', I (acc ++ [y]) ρ'' → Wy y ρ'') → g (f x) (wipeA ρ' vs) fun ρ2 => ae ρ2 fun x ρ4 => ∃ y, x = .im y ∧ Wy y (mrg vs ρ' ρ4))
    (hk : ∀ acc ρ', acc.length = xs.length → I acc ρ' → k acc ρ') : aLc ai g aYes ae vs ρ k := by
  refine aLc_inv (xs.map f) I hai (by rw [List.length_map]; exact hz) h0 (fun d hd acc ρ' hI => ?_) fun acc ρ' hl hI => hk acc ρ' (by rw [hl, List.length_map]) hI
  obtain ⟨x, hx, rfl⟩ := List.mem_map.mp hd
  exact ht x hx acc ρ' hI

/-- a, a + 1, .. ahead of b -/
def rgI (a b : Int) : List Int := (List.range (b - a).toNat).map fun i => a + (i : Nat)
theorem rng_rgI (a b : Int) : rng a (b - a).toNat = (rgI a b).map D.int := by
  unfold rng rgI
  rw [List.map_map]; rfl
theorem rng_rgI0 (b : Int) : rng 0 b.toNat = (rgI 0 b).map D.int := by
  rw [← rng_rgI, Int.sub_zero]
theorem rgI_len (a b : Int) : (rgI a b).length = (b - a).toNat := by unfold rgI; rw [List.length_map, List.length_range]
theorem rgI_mem {a b i : Int} : i ∈ rgI a b ↔ a ≤ i ∧ i < b := by
  unfold rgI
  constructor
  · intro h
    obtain ⟨j, hj, rfl⟩ := List.mem_map.mp h
    have := List.mem_range.mp hj
    omega
  · rintro ⟨h1, h2⟩
    exact List.mem_map.mpr ⟨(i - a).toNat, List.mem_range.mpr (by omega), by omega⟩
theorem rgI_pre {a b i : Int} {pre post : List Int} (h : rgI a b = pre ++ i :: post) : pre = rgI a i ∧ i = a + (pre.length : Nat) ∧ a ≤ i ∧ i < b := by
  have hl : (rgI a b).length = pre.length + (post.length + 1) := by rw [h, List.length_append, List.length_cons]
  rw [rgI_len] at hl
  have hi : i = a + (pre.length : Nat) := by
    have h1 : (rgI a b)[pre.length]? = some i := by
      rw [h, List.getElem?_append_right (Nat.le_refl _), Nat.sub_self]; rfl
    unfold rgI at h1
    rw [List.getElem?_map, List.getElem?_range (by omega)] at h1
    exact (Option.some.inj h1).symm
  refine ⟨?_, hi, by omega, by omega⟩
  have h2 : pre = (rgI a b).take pre.length := by rw [h]; simp
  rw [h2]
  unfold rgI
  rw [← List.map_take, List.take_range, hi]
  congr 2
  omega
theorem atI_nat {xs : List D} {i : Int} {d : D} (h0 : 0 ≤ i) (h : xs[i.toNat]? = some d) : atI xs i = some d := by
  have hl := get_lt h
  have hi : i < (xs.length : Int) := by omega
  unfold atI ixN
  simp only [h0, hi, if_true, and_self, Option.bind_some]
  exact h
theorem gt_truthK {X : Cx} {K : PySem.W.Frag} {e : Expr} {te : TE} {a : AE} (h : GE X e te a) (he : ∀ whole, isTrue e X.env whole = (do let v ← whole; standAt e.pos; holding [v] (truthy v)) := by intro _; rfl) (hK : X.K = K := by rfl) : GT X e (fun σ H Q => te σ H fun x H' => ∃ k, TruV K x H' k ∧ Q k H') (aTru a) := by
  subst hK
  exact gt_truth h he
/-- one statement at a time: what stands between -/
theorem aSeq_cut {x r : AS} {A : AEnds} {ρ : AR} (R : AR → Prop) (h2 : ∀ N : AR → Prop, (∀ ρ', R ρ' → N ρ') → x { A with nx := N } ρ) (h1 : ∀ ρ', R ρ' → r A ρ') : aSeq x r A ρ := h2 _ h1
/-- THE RULE for a def at its place -/
theorem df_okE {P : Program} {w : World} {K : PySem.W.Frag} {mg : Str → Option Value} {base : Heap} {x : Str} {st : Stmt} {N ps : List Str} {k : Nat} {af : AF} {f : Addr} {fd : FuncData} (Fn : Fun K x x st f fd) (S : FnScope N ps (defScope st)) (us : List SV) (hlen : ∀ ρ kk, af ρ kk → ρ.length = ps.length)
    (hbody : ∀ (f : Addr) (cdv : Value) (A : Around) (outer : List Env) (s : Shared) (H : Hp) (E : XK), Room k (A.deeper (envOfC x (defScope st) s.heap.objs.size f cdv)) →
      ∃ t as B, GSs (cxOf CX0 P w K mg base N x (defScope st) f cdv A outer s H E).nox W0 (defBody st) t as B ∧
        ∀ ρ kk, af ρ kk → bpin ρ B = true ∧ as { nx := fun ρ' => still ρ ρ' = true ∧ kk .non (retA ρ ρ'), rt := fun d ρ' => still ρ ρ' = true ∧ kk d (retA ρ ρ') } (ρ ++ us)) (hus : List.replicate (N.length - ps.length) .un = us := by rfl) :
    FnOk P w K mg base CX0 (k + 1) f fd ps (SpF K af) := by
  subst hus
  exact fn_ok Fn S hlen (hbody f)
end DL

namespace DL
open PySem PySem.Spec L2
open PyProof.Rows hiding St

/-! ### zip of two, of three lists or tuples -/
inductive Src where
  | L (a : Addr) | T (a : Addr)
def Src.at : Src → Addr
  | .L a => a
  | .T a => a
def SqS (K : PySem.W.Frag) (H : Hp) : Src → List V → Prop
  | .L a, xs => SqL K H a xs
  | .T a, xs => SqT K H a xs
def IsS (h : Heap) : Src → Array Value → Prop
  | .L a, its => h.IsList a its
  | .T a, its => h.IsTuple a its
def ItS (h : Heap) (it : Addr) (i : Nat) : Src → Prop
  | .L a => h.IsListIter it a i
  | .T a => h.IsTupleIter it a i
def obS (i : Nat) : Src → Obj
  | .L a => { cls := .type "list_iterator", data := .fields #[.ref a, .int i 0] }
  | .T a => { cls := .type "tuple_iterator", data := .fields #[.ref a, .int i 0] }
theorem itS_of {h : Heap} {it : Addr} {i : Nat} {S : Src} (e : h.get? it = some (obS i S)) : ItS h it i S := by
  cases S with
  | L a => exact ⟨_, e, rfl, rfl⟩
  | T a => exact ⟨_, e, rfl, rfl⟩
theorem itS_live {h : Heap} {it : Addr} {i : Nat} {S : Src} (e : ItS h it i S) : ∃ o, h.get? it = some o ∧ ∀ v, o.data ≠ .cell v := by
  cases S with
  | L a => obtain ⟨o, e1, _, d1⟩ := e; exact ⟨o, e1, fun v q => by rw [d1] at q; cases q⟩
  | T a => obtain ⟨o, e1, _, d1⟩ := e; exact ⟨o, e1, fun v q => by rw [d1] at q; cases q⟩
theorem itS_keep {h h' : Heap} {it : Addr} {i : Nat} {S : Src} (e : ItS h it i S) (k : ∀ o, h.get? it = some o → h'.get? it = some o) : ItS h' it i S := by
  cases S with
  | L a => exact Heap.IsListIter.at e k
  | T a => exact Heap.IsTupleIter.at e k
theorem draws_S {prog : Program} {w : World} {A : Around} (hh : A.handled = none) (it : Addr) (S : Src) (hne : S.at ≠ it) (its : Array Value) :
    Draws prog w A it [it, S.at] its.size (fun i v => its[i]? = some v) (fun i h => ItS h it i S ∧ IsS h S its) := by
  cases S with
  | L a => exact Draws.list hh it a hne its
  | T a => exact Draws.tuple hh it a hne its
theorem begins_S (S : Src) (its : Array Value) : Begins (.ref S.at) (obS 0 S) fun h => IsS h S its := by
  cases S with
  | L a => exact begins_list a its
  | T a => exact begins_tuple a its
theorem inv_S {X : Cx} {pins : List (Addr × Obj)} {σ : L2.St} {H : Hp} {s : Shared} (I : Inv X pins σ H s) {S : Src} {xs : List V} (h : SqS X.K H S xs) : ∃ its : List Value, Vals xs its ∧ IsS s.heap S its.toArray ∧ S.at < s.heap.objs.size := by
  cases S with
  | L a => obtain ⟨its, r, p, _⟩ := I.list h; exact ⟨its, r, p.isList, p.lt⟩
  | T a =>
    obtain ⟨its, r, p, _⟩ := I.tuple h
    obtain ⟨o, ho, _⟩ := id p
    exact ⟨its, r, p, Heap.lt_size ho⟩
theorem inj_S {X : Cx} {pins : List (Addr × Obj)} {σ : L2.St} {H : Hp} {s : Shared} (I : Inv X pins σ H s) {S : Src} {xs ys : List V} (h : SqS X.K H S xs) (h' : SqS X.K H S ys) : xs = ys := by
  cases S with
  | L a => exact I.list_inj h h'
  | T a => exact I.tuple_inj h h'

/-- the sources as they stand at each turn, the items in new triples -/
def ItZ3 (K : PySem.W.Frag) (a b c : Src) : It :=
  ⟨fun i H => ∃ (xs ys zs : List V) (x y z : V), SqS K H a xs ∧ SqS K H b ys ∧ SqS K H c zs ∧ xs[i]? = some x ∧ ys[i]? = some y ∧ zs[i]? = some z,
    fun i H v H' => ∃ T x y z, v = .ref T ∧ H T = none ∧ H' = upd H T (.tup [x, y, z]) ∧ (∀ xs, SqS K H a xs → xs[i]? = some x) ∧ (∀ ys, SqS K H b ys → ys[i]? = some y) ∧ ∀ zs, SqS K H c zs → zs[i]? = some z,
    fun i H => ∃ xs ys zs : List V, SqS K H a xs ∧ SqS K H b ys ∧ SqS K H c zs ∧ i ≤ xs.length ∧ i ≤ ys.length ∧ i ≤ zs.length ∧ (i = xs.length ∨ i = ys.length ∨ i = zs.length)⟩
def tnZ3 (z TI TO i1 i2 i3 : Addr) (a b c : Src) (i : Nat) (h : Heap) : Prop :=
  IsZip h z TI TO .none ∧ IsTupOf3 h TI (.ref i1) (.ref i2) (.ref i3) ∧ (∃ x y u, IsTupOf3 h TO x y u) ∧ ItS h i1 i a ∧ ItS h i2 i b ∧ ItS h i3 i c
theorem turn_z3 {P : Program} {w : World} {K : PySem.W.Frag} {elts : List Expr} {kk : Nat} {tpos : Pos} {a b c : Src} {z TI TO i1 i2 i3 : Addr} (D : ZipSep3 z TI TO i1 i2 i3 [i1, a.at] [i2, b.at] [i3, c.at]) (n1 : a.at ≠ i1) (n2 : b.at ≠ i2) (n3 : c.at ≠ i3) :
    Turn P w K (.Tuple elts kk tpos) (ItZ3 K a b c) [z, TI, TO, i1, i2, i3] z (tnZ3 z TI TO i1 i2 i3 a b c) where
  mem := by simp
  obj := fun i h st e he => by
    obtain ⟨hz, hTI, ⟨x, y, u, hTO⟩, h1, h2, h3⟩ := st
    have e' : e = z ∨ e = TI ∨ e = TO ∨ e = i1 ∨ e = i2 ∨ e = i3 := by simpa using he
    rcases e' with q | q | q | q | q | q
    · rw [q]; exact ⟨_, hz, fun v q => nomatch q⟩
    · rw [q]; exact ⟨_, hTI, fun v q => nomatch q⟩
    · rw [q]; exact ⟨_, hTO, fun v q => nomatch q⟩
    · rw [q]; exact itS_live h1
    · rw [q]; exact itS_live h2
    · rw [q]; exact itS_live h3
  keep := fun i h h' st k => by
    obtain ⟨hz, hTI, ⟨x, y, u, hTO⟩, h1, h2, h3⟩ := st
    exact ⟨k z (by simp) _ hz, k TI (by simp) _ hTI, ⟨x, y, u, k TO (by simp) _ hTO⟩, itS_keep h1 fun o q => k i1 (by simp) o q, itS_keep h2 fun o q => k i2 (by simp) o q, itS_keep h3 fun o q => k i3 (by simp) o q⟩
  item := by
    intro X hP hw hK hc i pins s σ H E I hf st hg
    subst hP hw hK
    obtain ⟨hz, hTI, hTO, h1, h2, h3⟩ := st
    obtain ⟨xs, ys, zs, x, y, u, hqx, hqy, hqz, hx, hy, hu⟩ := hg
    obtain ⟨it1, r1, p1, _⟩ := inv_S I hqx
    obtain ⟨it2, r2, p2, _⟩ := inv_S I hqy
    obtain ⟨it3, r3, p3, _⟩ := inv_S I hqz
    have hd := I.ok.hd hc
    have G := GoesN.zip3 (elts := elts) (x1 := kk) (pos := tpos) (prog := X.prog) (w := X.w) (A := X.A) D (draws_S (prog := X.prog) (w := X.w) (A := X.A.in1) hd i1 a n1 it1.toArray) (draws_S (prog := X.prog) (w := X.w) (A := X.A.in1) hd i2 b n2 it2.toArray) (draws_S (prog := X.prog) (w := X.w) (A := X.A.in1) hd i3 c n3 it3.toArray)
    obtain ⟨v1, hv1, rv1⟩ := r1.get hx
    obtain ⟨v2, hv2, rv2⟩ := r2.get hy
    obtain ⟨v3, hv3, rv3⟩ := r3.get hu
    have l1 : i < it1.length := (List.getElem?_eq_some_iff.mp hv1).1
    have l2 : i < it2.length := (List.getElem?_eq_some_iff.mp hv2).1
    have l3 : i < it3.length := (List.getElem?_eq_some_iff.mp hv3).1
    refine G.goes i s (fun u s2 => ∃ x H', Inv X pins σ H' s2 ∧ RelV x u ∧ (ItZ3 X.K a b c).yld i H x H' ∧ tnZ3 z TI TO i1 i2 i3 a b c (i + 1) s2.heap ∧ ∀ b ∈ [z, TI, TO, i1, i2, i3], H' b = none) E (by simp; omega) ⟨hz, hTI, hTO, ⟨h1, p1⟩, ⟨h2, p2⟩, ⟨h3, p3⟩⟩ fun v h' tk hy' st' k htk => ?_
    obtain ⟨T, y1, y2, y3, rfl, hT, q1, q2, q3, hTup⟩ := hy'
    obtain ⟨hz', hTI', hTO', g1, g2, g3⟩ := st'
    have e1 : y1 = v1 := by simpa [hv1] using q1.symm
    have e2 : y2 = v2 := by simpa [hv2] using q2.symm
    have e3 : y3 = v3 := by simpa [hv3] using q3.symm
    subst e1 e2 e3
    have new : ObjOk X.prog X.w (upd H T (.tup [x, y, u])) h' T (.tup [x, y, u]) :=
      ⟨by show 3 ≤ sizeLine; decide, [y1, y2, y3], .cons rv1 (.cons rv2 (.cons rv3 .nil)), hTup⟩
    have hsub : ∀ b ∈ [z, TO, i1, i2, i3], FpOk X pins H b := fun b hb => hf b (by
      have e' : b = z ∨ b = TO ∨ b = i1 ∨ b = i2 ∨ b = i3 := by simpa using hb
      rcases e' with q | q | q | q | q <;> subst q <;> simp)
    have I1 : Inv X pins σ (upd H T (.tup [x, y, u])) { s with heap := h', toks := tk } := I.turnedNew (t' := tk) (ch := [z, TO, i1, i2, i3]) k hsub hT new
    refine ⟨.ref T, _, I1, rfl, ⟨T, x, y, u, rfl, I.hok.fresh hT, rfl, fun l hl => by rw [inj_S I hl hqx]; exact hx, fun l hl => by rw [inj_S I hl hqy]; exact hy, fun l hl => by rw [inj_S I hl hqz]; exact hu⟩, ⟨hz', hTI', hTO', g1.1, g2.1, g3.1⟩, fun e hem => ?_⟩
    have hlt : e < s.heap.objs.size := by
      obtain ⟨a1, a2, a3, hTO⟩ := hTO
      have e' : e = z ∨ e = TI ∨ e = TO ∨ e = i1 ∨ e = i2 ∨ e = i3 := by simpa using hem
      rcases e' with q | q | q | q | q | q
      · rw [q]; exact Heap.lt_size hz
      · rw [q]; exact Heap.lt_size hTI
      · rw [q]; exact Heap.lt_size hTO
      · rw [q]; obtain ⟨_, e1, _⟩ := itS_live h1; exact Heap.lt_size e1
      · rw [q]; obtain ⟨_, e1, _⟩ := itS_live h2; exact Heap.lt_size e1
      · rw [q]; obtain ⟨_, e1, _⟩ := itS_live h3; exact Heap.lt_size e1
    rw [upd_ne (Nat.ne_of_lt (Nat.lt_of_lt_of_le hlt hT))]
    exact (hf e hem).1
  done := by
    intro X hP hw hK hc i pins s σ H E I hf st hg
    subst hP hw hK
    obtain ⟨hz, hTI, ⟨a1, a2, a3, hTO⟩, h1, h2, h3⟩ := st
    obtain ⟨xs, ys, zs, hqx, hqy, hqz, g1, g2, g3, hend⟩ := hg
    obtain ⟨it1, r1, p1, _⟩ := inv_S I hqx
    obtain ⟨it2, r2, p2, _⟩ := inv_S I hqy
    obtain ⟨it3, r3, p3, _⟩ := inv_S I hqz
    have l1 := r1.length
    have l2 := r2.length
    have l3 := r3.length
    have hd := I.ok.hd hc
    have hsub : ∀ b ∈ [z, TO, i1, i2, i3], FpOk X pins H b := fun b hb => hf b (by
      have e' : b = z ∨ b = TO ∨ b = i1 ∨ b = i2 ∨ b = i3 := by simpa using hb
      rcases e' with q | q | q | q | q <;> subst q <;> simp)
    refine wpAny_pyNext_zipD3_end (i := i) D (draws_S (prog := X.prog) (w := X.w) (A := X.A.in1) hd i1 a n1 it1.toArray) (draws_S (prog := X.prog) (w := X.w) (A := X.A.in1) hd i2 b n2 it2.toArray) (draws_S (prog := X.prog) (w := X.w) (A := X.A.in1) hd i3 c n3 it3.toArray) hz hTI hTO ⟨h1, p1⟩ ⟨h2, p2⟩ ⟨h3, p3⟩ (by simp; omega) (by simp; omega) (by simp; omega) (by simp; omega) fun h' tk hk => ⟨rfl, I.turnedL (t' := tk) (ch := [z, TO, i1, i2, i3]) (fun e o hb q => ?_) hsub⟩
    exact hk e o (fun q' => hb (by simp [q'])) (fun q' => hb (by simp [q'])) (fun q' => hb (by simp [q'])) (fun q' => hb (by simp [q'])) (fun q' => hb (by simp [q'])) q
  self := fun A i s Q E st h => wpAny_pyIter_zip st.1 h
end DL

namespace DL
open PySem PySem.Spec L2
open PyProof.Rows hiding St

/-! ### many known objects tracked at once -/
def KO (a : Addr) (o : Obj) : HO := .ext fun h => h.get? a = some o
theorem ko_ok {P : Program} {w : World} {H : Hp} {h : Heap} {a : Addr} {o : Obj} (e : h.get? a = some o) : ObjOk P w H h a (KO a o) := ⟨e, ⟨_, e⟩, fun h1 h2 q k => k _ q⟩
def updKs (H : Hp) : List (Addr × Obj) → Hp
  | [] => H
  | p :: l => upd (updKs H l) p.1 (KO p.1 p.2)
theorem updKs_out {H : Hp} {b : Addr} : ∀ {l : List (Addr × Obj)}, (∀ p ∈ l, p.1 ≠ b) → updKs H l b = H b
  | [], _ => rfl
  | p :: l, h => by
    unfold updKs
    rw [upd_ne (Ne.symm (h p List.mem_cons_self)), updKs_out fun q hq => h q (List.mem_cons_of_mem _ hq)]
theorem updKs_in {H : Hp} {b : Addr} {u : HO} : ∀ {l : List (Addr × Obj)}, updKs H l b = some u → (∃ o, (b, o) ∈ l ∧ u = KO b o) ∨ H b = some u
  | [], h => .inr h
  | p :: l, h => by
    unfold updKs at h
    by_cases e : b = p.1
    · rw [e, upd_same] at h
      cases h
      exact .inl ⟨p.2, by rw [e]; exact List.mem_cons_self, by rw [e]⟩
    · rw [upd_ne e] at h
      rcases updKs_in h with ⟨o, h1, h2⟩ | h1
      · exact .inl ⟨o, List.mem_cons_of_mem _ h1, h2⟩
      · exact .inr h1
theorem updKs_get {H : Hp} {l : List (Addr × Obj)} (hn : (l.map Prod.fst).Nodup) : ∀ p ∈ l, updKs H l p.1 = some (KO p.1 p.2) := by
  induction l with
  | nil => intro p hp; cases hp
  | cons q l ih =>
    intro p hp
    rw [List.map_cons, List.nodup_cons] at hn
    show upd (updKs H l) q.1 (KO q.1 q.2) p.1 = _
    rcases List.mem_cons.mp hp with e | hp'
    · subst e
      exact upd_same
    · rw [upd_ne (fun z => hn.1 (by rw [← z]; exact List.mem_map_of_mem hp'))]
      exact ih hn.2 p hp'
def dropKs (H : Hp) : List (Addr × Obj) → Hp
  | [] => H
  | p :: l => dropKs (ItX.dropH H p.1) l
theorem dropKs_upd {H : Hp} : ∀ {l : List (Addr × Obj)}, (∀ p ∈ l, H p.1 = none) → (l.map Prod.fst).Nodup → dropKs (updKs H l) l = H
  | [], _, _ => rfl
  | p :: l, h, hn => by
    rw [List.map_cons, List.nodup_cons] at hn
    unfold dropKs updKs
    rw [ItX.dropH_upd (by rw [updKs_out fun q hq z => hn.1 (by rw [← z]; exact List.mem_map_of_mem hq)]; exact h p List.mem_cons_self)]
    exact dropKs_upd (fun q hq => h q (List.mem_cons_of_mem _ hq)) hn.2
theorem dropKs_out {b : Addr} : ∀ {H : Hp} {l : List (Addr × Obj)}, (∀ p ∈ l, p.1 ≠ b) → dropKs H l b = H b
  | _, [], _ => rfl
  | H, p :: l, h => by
    unfold dropKs
    rw [dropKs_out fun q hq => h q (List.mem_cons_of_mem _ hq), ItX.dropH_ne (Ne.symm (h p List.mem_cons_self))]
theorem dropKs_in {b : Addr} : ∀ {H : Hp} {l : List (Addr × Obj)}, H b = none ∨ (∃ p ∈ l, p.1 = b) → dropKs H l b = none
  | H, [], h => by
    rcases h with h | ⟨p, hp, _⟩
    · exact h
    · cases hp
  | H, p :: l, h => by
    unfold dropKs
    refine dropKs_in ?_
    rcases h with h | ⟨q, hq, e⟩
    · by_cases z : b = p.1
      · left; rw [z, ItX.dropH_same]
      · left; rw [ItX.dropH_ne z]; exact h
    · rcases List.mem_cons.mp hq with z | hq
      · left; rw [← e, z, ItX.dropH_same]
      · exact .inr ⟨q, hq, e⟩
section
variable {X : Cx} {pins : List (Addr × Obj)} {σ : L2.St} {H : Hp} {s : Shared}
theorem inv_laids {h' : Heap} {t' : Nat} {l : List (Addr × Obj)} (I : Inv X pins σ H s) (k : ∀ b u, s.heap.get? b = some u → h'.get? b = some u) (hl : ∀ p ∈ l, s.heap.objs.size ≤ p.1 ∧ h'.get? p.1 = some p.2) :
    Inv X pins σ (updKs H l) { s with heap := h', toks := t' } := by
  have ne : ∀ b u, s.heap.get? b = some u → ∀ p ∈ l, p.1 ≠ b := fun b u e p hp z => absurd (Heap.lt_size e) (Nat.not_lt.mpr (by rw [← z]; exact (hl p hp).1))
  have neH : ∀ b u, H b = some u → ∀ p ∈ l, p.1 ≠ b := fun b u e p hp z => by
    have q := I.hok.fresh (hl p hp).1
    rw [z, e] at q
    cases q
  have out : ∀ b u, H b = some u → updKs H l b = some u := fun b u e => by rw [updKs_out (neH b u e)]; exact e
  refine I.un ⟨fun b u q _ _ _ => k b u q, fun b u q _ _ _ => ⟨u.slots, k b u q⟩, fun b u q n _ => by rw [updKs_out (ne b u q)]; exact n, fun b u q _ => ⟨u, k b u q⟩, fun b xs q => out b _ q, fun b o u q => out b _ q, fun b ps q => ⟨#[], by rw [out b _ q]; simp⟩⟩ ?_
  intro b u e
  rcases updKs_in e with ⟨o, h1, rfl⟩ | h1
  · exact ko_ok (hl _ h1).2
  · exact (I.hok b u h1).stay (fun c v _ q => k c v q) (fun c q => out c _ q) fun c xs q => out c _ q
theorem inv_drops : ∀ {l : List (Addr × Obj)} {H : Hp}, Inv X pins σ H s → (∀ p ∈ l, H p.1 = some (KO p.1 p.2)) → (l.map Prod.fst).Nodup → Inv X pins σ (dropKs H l) s
  | [], _, I, _, _ => I
  | p :: l, H, I, h, hn => by
    rw [List.map_cons, List.nodup_cons] at hn
    unfold dropKs
    refine inv_drops (ItX.inv_drop I (h p List.mem_cons_self)) (fun q hq => ?_) hn.2
    rw [ItX.dropH_ne fun z => hn.1 (by rw [← z]; exact List.mem_map_of_mem hq)]
    exact h q (List.mem_cons_of_mem _ hq)
theorem fpOk_of {a : Addr} {u : HO} {H' : Hp} (I : Inv X pins σ H s) (h : H a = some u) (hn : X.s_0.heap.objs.size ≤ a) (h' : H' a = none) : FpOk X pins H' a :=
  ⟨h', (ItX.inv_fp I h hn).2⟩
theorem ko_get {a : Addr} {o : Obj} (I : Inv X pins σ H s) (h : H a = some (KO a o)) : s.heap.get? a = some o := (I.hok a _ h).1
end

/-! ### zip(a, b, c): walked, kept in a name -/
def zpO (TI TO : Addr) : Obj := { cls := .type "zip", dict := none, data := .fields #[.none, .bool false, .bool false, .ref TI, .ref TO], slots := #[] }
def t3O (a b c : Value) : Obj := { cls := .type "tuple", data := .seq #[a, b, c] }
def zl (N : Addr) (a b c : Src) : List (Addr × Obj) := [((N + 5 : Nat), zpO (N + 3 : Nat) (N + 4 : Nat)), ((N + 3 : Nat), t3O (.ref N) (.ref (N + 1 : Nat)) (.ref (N + 2 : Nat))), ((N + 4 : Nat), t3O .none .none .none), (N, obS 0 a), ((N + 1 : Nat), obS 0 b), ((N + 2 : Nat), obS 0 c)]
theorem zl_nodup (N : Addr) (a b c : Src) : ((zl N a b c).map Prod.fst).Nodup := by
  show ([(N + 5 : Nat), (N + 3 : Nat), (N + 4 : Nat), (N : Nat), (N + 1 : Nat), (N + 2 : Nat)] : List Nat).Nodup
  simp only [List.nodup_cons, List.mem_cons, List.not_mem_nil, or_false, not_or, List.nodup_nil, and_true, not_false_eq_true]
  refine ⟨⟨?_, ?_, ?_, ?_, ?_⟩, ⟨?_, ?_, ?_, ?_⟩, ⟨?_, ?_, ?_⟩, ⟨?_, ?_⟩, ?_⟩ <;> exact fun z => by have z' : (_ : Nat) = _ := z; omega
theorem zl_le {N : Addr} {a b c : Src} : ∀ p ∈ zl N a b c, N ≤ p.1 := fun p hp => by
  simp only [zl, List.mem_cons, List.not_mem_nil, or_false] at hp
  rcases hp with rfl | rfl | rfl | rfl | rfl | rfl
  · exact Nat.le_add_right N 5
  · exact Nat.le_add_right N 3
  · exact Nat.le_add_right N 4
  · exact Nat.le_refl N
  · exact Nat.le_add_right N 1
  · exact Nat.le_add_right N 2
theorem zl_sep {N : Addr} {a b c : Src} (h1 : a.at < N) (h2 : b.at < N) (h3 : c.at < N) : ZipSep3 (N + 5 : Nat) (N + 3 : Nat) (N + 4 : Nat) N (N + 1 : Nat) (N + 2 : Nat) [N, a.at] [(N + 1 : Nat), b.at] [(N + 2 : Nat), c.at] :=
  zip_sep3 (N := N) (fp1 := [a.at]) (fp2 := [b.at]) (fp3 := [c.at]) (fun q hq => by rw [List.mem_singleton.mp hq]; exact h1) (fun q hq => by rw [List.mem_singleton.mp hq]; exact h2) (fun q hq => by rw [List.mem_singleton.mp hq]; exact h3)
theorem zl_turn {P : Program} {w : World} {K : PySem.W.Frag} {elts : List Expr} {kk : Nat} {tpos : Pos} {N : Addr} {a b c : Src} (h1 : a.at < N) (h2 : b.at < N) (h3 : c.at < N) :
    Turn P w K (.Tuple elts kk tpos) (ItZ3 K a b c) [(N + 5 : Nat), (N + 3 : Nat), (N + 4 : Nat), N, (N + 1 : Nat), (N + 2 : Nat)] (N + 5 : Nat) (tnZ3 (N + 5 : Nat) (N + 3 : Nat) (N + 4 : Nat) N (N + 1 : Nat) (N + 2 : Nat) a b c) :=
  turn_z3 (zl_sep h1 h2 h3) (Nat.ne_of_lt h1) (Nat.ne_of_lt (Nat.lt_of_lt_of_le h2 (Nat.le_add_right _ _))) (Nat.ne_of_lt (Nat.lt_of_lt_of_le h3 (Nat.le_add_right _ _)))
theorem zl_tn {h : Heap} {N : Addr} {a b c : Src} (g : ∀ p ∈ zl N a b c, h.get? p.1 = some p.2) : tnZ3 (N + 5 : Nat) (N + 3 : Nat) (N + 4 : Nat) N (N + 1 : Nat) (N + 2 : Nat) a b c 0 h :=
  ⟨g ((N + 5 : Nat), zpO (N + 3 : Nat) (N + 4 : Nat)) (by simp [zl]), g ((N + 3 : Nat), t3O (.ref N) (.ref (N + 1 : Nat)) (.ref (N + 2 : Nat))) (by simp [zl]), ⟨_, _, _, g ((N + 4 : Nat), t3O .none .none .none) (by simp [zl])⟩,
    itS_of (g (N, obS 0 a) (by simp [zl])), itS_of (g ((N + 1 : Nat), obS 0 b) (by simp [zl])), itS_of (g ((N + 2 : Nat), obS 0 c) (by simp [zl]))⟩
def three (K : PySem.W.Frag) (vs : List V) (H : Hp) (a b c : Src) : Prop := ∃ xs ys zs : List V, vs = [.ref a.at, .ref b.at, .ref c.at] ∧ SqS K H a xs ∧ SqS K H b ys ∧ SqS K H c zs
def iZip3 (K : PySem.W.Frag) (ta : TA) : TI := fun σ H R => ta σ H fun vs H1 => ∃ a b c, three K vs H1 a b c ∧ R (ItZ3 K a b c) H1
def tZipV (K : PySem.W.Frag) (n : Nat) (ta : TA) : TE := fun σ H Q => ta σ H fun vs H1 => ∃ a b c, three K vs H1 a b c ∧ ∀ N : Addr, (∀ p ∈ zl N a b c, H1 p.1 = none) → n ≤ N → a.at < N → b.at < N → c.at < N → Q (.ref (N + 5 : Nat)) (updKs H1 (zl N a b c))
def iZv (K : PySem.W.Frag) (n k : Nat) : TI := fun σ H R => ∃ (N : Addr) (a b c : Src), σ[k]? = some (some (.ref (N + 5 : Nat))) ∧ (∀ p ∈ zl N a b c, H p.1 = some (KO p.1 p.2)) ∧ n ≤ N ∧ a.at < N ∧ b.at < N ∧ c.at < N ∧ R (ItZ3 K a b c) (dropKs H (zl N a b c))
section
variable {X : Cx} {e1 e2 e3 : Expr} {ta : TA} {p pos tpos : Pos} {elts : List Expr} {kk : Nat}
theorem zip_core {pins : List (Addr × Obj)} {σ : L2.St} {H1 : Hp} {s1 : Shared} {us : List Value} {vs : List V} {a b c : Src} (I1 : Inv X pins σ H1 s1) (r1 : Vals vs us) (q : three X.K vs H1 a b c) {A : Around} {E : Value → Shared → Prop} {Q : Value → Shared → Prop}
    (h : ∀ h' : Heap, (∀ p ∈ zl s1.heap.objs.size a b c, h'.get? p.1 = some p.2) → (∀ c o, s1.heap.get? c = some o → h'.get? c = some o) → a.at < s1.heap.objs.size → b.at < s1.heap.objs.size → c.at < s1.heap.objs.size → Q (.ref (s1.heap.objs.size + 5 : Nat)) { s1 with heap := h' }) :
    wpAny (model X.prog X.w) A (call (.type "zip") us) Q E s1 := by
  obtain ⟨xs, ys, zs, rfl, hx, hy, hz⟩ := q
  cases r1 with
  | cons r1 rr =>
    cases rr with
    | cons r2 rr =>
      cases rr with
      | cons r3 rr =>
        cases rr
        cases r1
        cases r2
        cases r3
        obtain ⟨i1, _, p1, l1⟩ := inv_S I1 hx
        obtain ⟨i2, _, p2, l2⟩ := inv_S I1 hy
        obtain ⟨i3, _, p3, l3⟩ := inv_S I1 hz
        refine zip_begins3 (begins_S a i1.toArray) (begins_S b i2.toArray) (begins_S c i3.toArray) p1 p2 p3 fun h' hz hTI hTO g1 g2 g3 hsz hk => ?_
        refine h h' (fun q hq => ?_) hk l1 l2 l3
        simp only [zl, List.mem_cons, List.not_mem_nil, or_false] at hq
        rcases hq with rfl | rfl | rfl | rfl | rfl | rfl
        · exact hz
        · exact hTI
        · exact hTO
        · exact g1
        · exact g2
        · exact g3
theorem pi_zip3 (hg : Gl X "zip") (hm : X.mg "zip" = none) (ha : PA X [e1, e2, e3] ta)
    (hs : starEach [e1, e2, e3] X.env = (false, eval e1 X.env) :: starEach [e2, e3] X.env := by rfl) (hpl : (backTo pos (starEach [e2, e3] X.env)).any (·.1) = false := by rfl) :
    PI X (.Tuple elts kk tpos) (.Call (.Name "zip" p) [e1, e2, e3] [] pos) (iZip3 X.K ta) := by
  refine ⟨fun pins s σ H R I h => ?_⟩
  refine Call_ (ld_blt I hg hm PyProof.Rows.boot_zip (PyProof.Rows.callWith_type1 (thn (ha.run pos pins s σ H _ I h) fun us s1 ⟨vs, H1, I1, r1, q1⟩ => ?_) hs hpl))
  obtain ⟨a, b, c, q1, q⟩ := q1
  refine zip_core I1 r1 q1 fun h' g hk l1 l2 l3 => ?_
  have st := zl_tn g
  refine wpAny_pyIter_zip st.1 ?_
  refine ⟨_, [(s1.heap.objs.size + 5 : Nat), (s1.heap.objs.size + 3 : Nat), (s1.heap.objs.size + 4 : Nat), s1.heap.objs.size, (s1.heap.objs.size + 1 : Nat), (s1.heap.objs.size + 2 : Nat)], _, _, H1, rfl, I1.kept (t' := s1.toks) hk, zl_turn l1 l2 l3, st, fun d hd => ?_, q⟩
  have hle : s1.heap.objs.size ≤ d := by
    have e' : d = s1.heap.objs.size + 5 ∨ d = s1.heap.objs.size + 3 ∨ d = s1.heap.objs.size + 4 ∨ d = s1.heap.objs.size ∨ d = s1.heap.objs.size + 1 ∨ d = s1.heap.objs.size + 2 := by simpa using hd
    rcases e' with z | z | z | z | z | z
    · rw [z]; exact Nat.le_add_right _ _
    · rw [z]; exact Nat.le_add_right _ _
    · rw [z]; exact Nat.le_add_right _ _
    · rw [z]; exact Nat.le_refl _
    · rw [z]; exact Nat.le_add_right _ _
    · rw [z]; exact Nat.le_add_right _ _
  exact I1.fpOk hle (I1.hok.fresh hle)
theorem pe_zipV (hg : Gl X "zip") (hm : X.mg "zip" = none) (ha : PA X [e1, e2, e3] ta)
    (hs : starEach [e1, e2, e3] X.env = (false, eval e1 X.env) :: starEach [e2, e3] X.env := by rfl) (hpl : (backTo pos (starEach [e2, e3] X.env)).any (·.1) = false := by rfl) :
    PE X (.Call (.Name "zip" p) [e1, e2, e3] [] pos) (tZipV X.K X.s_0.heap.objs.size ta) := by
  refine ⟨fun pins s σ H R I h => ?_⟩
  refine Call_ (ld_blt I hg hm PyProof.Rows.boot_zip (PyProof.Rows.callWith_type1 (thn (ha.run pos pins s σ H _ I h) fun us s1 ⟨vs, H1, I1, r1, q1⟩ => ?_) hs hpl))
  obtain ⟨a, b, c, q1, q⟩ := q1
  refine zip_core I1 r1 q1 fun h' g hk l1 l2 l3 => ?_
  exact ⟨.ref _, _, inv_laids (t' := s1.toks) I1 hk fun p hp => ⟨zl_le p hp, g p hp⟩, rfl, q _ (fun p hp => I1.hok.fresh (zl_le p hp)) I1.sz l1 l2 l3⟩
theorem pi_zv {k : Nat} {x : Str} (hN : X.N[k]? = some x) (hv : Vis X.env.scope x) (hd : (x == ("__debug__" : Str)) = false := by decide) (hcd : (x == ("__classdict__" : Str)) = false := by decide) : PI X (.Tuple elts kk tpos) (.Name x p) (iZv X.K X.s_0.heap.objs.size k) := by
  refine ⟨fun pins s σ H R I h => ?_⟩
  obtain ⟨N, a, b, c, hs, hi, hn, l1, l2, l3, q⟩ := h
  refine thn ((pe_var (pos := p) (i := k) hN hv hd hcd).run pins s σ H (fun v H1 => v = .ref (N + 5 : Nat) ∧ H1 = H) I ⟨.ref _, hs, rfl, rfl⟩) fun u s1 ⟨v, H1, I1, r1, ev, eH⟩ => ?_
  subst ev
  rw [eH] at I1
  cases r1
  have st := zl_tn (h := s1.heap) (N := N) (a := a) (b := b) (c := c) fun p hp => ko_get I1 (hi p hp)
  refine wpAny_pyIter_zip st.1 ?_
  refine ⟨_, [(N + 5 : Nat), (N + 3 : Nat), (N + 4 : Nat), N, (N + 1 : Nat), (N + 2 : Nat)], _, _, _, rfl, inv_drops I1 hi (zl_nodup N a b c), zl_turn l1 l2 l3, st, fun d hd => ?_, q⟩
  have hm : ∃ p ∈ zl N a b c, p.1 = d := by
    have e' : d = N + 5 ∨ d = N + 3 ∨ d = N + 4 ∨ d = N ∨ d = N + 1 ∨ d = N + 2 := by simpa using hd
    rcases e' with z | z | z | z | z | z <;> rw [z] <;> simp [zl]
  obtain ⟨p, hp, rfl⟩ := hm
  exact fpOk_of I1 (hi p hp) (Nat.le_trans hn (zl_le p hp)) (dropKs_in (.inr ⟨p, hp, rfl⟩))
end
end DL

namespace DL
open PySem PySem.Spec L2
open PyProof.Rows hiding St

def zip3D : List D → List D → List D → List D
  | d :: ds, e :: es, f :: fs => .tup [d, e, f] :: zip3D ds es fs
  | _, _, _ => []
theorem zip3D_get : ∀ {ds es fs : List D} {i : Nat} {x : D}, (zip3D ds es fs)[i]? = some x → ∃ d e f, ds[i]? = some d ∧ es[i]? = some e ∧ fs[i]? = some f ∧ x = .tup [d, e, f]
  | d :: ds, e :: es, f :: fs, 0, x, h => by
    unfold zip3D at h
    simp at h
    exact ⟨d, e, f, rfl, rfl, rfl, h.symm⟩
  | d :: ds, e :: es, f :: fs, i + 1, x, h => by
    unfold zip3D at h
    simp only [List.getElem?_cons_succ] at h ⊢
    exact zip3D_get h
  | [], _, _, _, _, h => by unfold zip3D at h; simp at h
  | _ :: _, [], _, _, _, h => by unfold zip3D at h; simp at h
  | _ :: _, _ :: _, [], _, _, h => by unfold zip3D at h; simp at h
theorem zip3D_len : ∀ (ds es fs : List D), (zip3D ds es fs).length ≤ ds.length ∧ (zip3D ds es fs).length ≤ es.length ∧ (zip3D ds es fs).length ≤ fs.length ∧ ((zip3D ds es fs).length = ds.length ∨ (zip3D ds es fs).length = es.length ∨ (zip3D ds es fs).length = fs.length)
  | d :: ds, e :: es, f :: fs => by
    unfold zip3D
    have := zip3D_len ds es fs
    simp only [List.length_cons]
    omega
  | [], _, _ => by unfold zip3D; simp
  | _ :: _, [], _ => by unfold zip3D; simp
  | _ :: _, _ :: _, [] => by unfold zip3D; simp
def seqD : AV → Option (List D)
  | .im (.lst ds) => some ds
  | .im (.tup ds) => some ds
  | _ => none
section
variable {K : PySem.W.Frag} {F H : Hp}
theorem Ex.s {S : Src} {xs : List V} (e : Ex F H) (h : SqS K F S xs) : SqS K H S xs := by
  cases S with
  | L a => exact e.l h
  | T a => exact e.t h
theorem seqD_src {σ : L2.St} {v : V} {x : AV} {ds : List D} (r : RpV K F σ v x) (h : seqD x = some ds) : ∃ S xs, v = .ref S.at ∧ SqS K F S xs ∧ RpA K F xs ds := by
  unfold seqD at h
  split at h
  · cases h
    cases (show Rp K F v (.lst ds) from r) with
    | lst h1 h2 => exact ⟨.L _, _, rfl, SqL.of h1, h2⟩
  · cases h
    cases (show Rp K F v (.tup ds) from r) with
    | tup h1 h2 => exact ⟨.T _, _, rfl, h1, h2⟩
  · cases h
theorem walks_z3 {a b c : Src} {xs ys zs : List V} {ds es fs : List D} (h1 : SqS K F a xs) (h2 : SqS K F b ys) (h3 : SqS K F c zs) (r1 : RpA K F xs ds) (r2 : RpA K F ys es) (r3 : RpA K F zs fs) : Walks K (ItZ3 K a b c) F (zip3D ds es fs) where
  go := fun i H hi e => by
    obtain ⟨d, e', f, g1, g2, g3, _⟩ := zip3D_get (List.getElem?_eq_getElem hi)
    obtain ⟨x, hx, _⟩ := r1.get g1
    obtain ⟨y, hy, _⟩ := r2.get g2
    obtain ⟨z, hz, _⟩ := r3.get g3
    exact ⟨xs, ys, zs, x, y, z, e.s h1, e.s h2, e.s h3, hx, hy, hz⟩
  yld := fun i H x H' d hd e y F1 e1 e2 => by
    obtain ⟨T, x', y', z', rfl, hT, rfl, q1, q2, q3⟩ := y
    obtain ⟨dd, ee, ff, g1, g2, g3, rfl⟩ := zip3D_get hd
    obtain ⟨x2, hx, rx⟩ := r1.get g1
    obtain ⟨y2, hy, ry⟩ := r2.get g2
    obtain ⟨z2, hz, rz⟩ := r3.get g3
    have p1 := q1 xs (e.s h1)
    have p2 := q2 ys (e.s h2)
    have p3 := q3 zs (e.s h3)
    rw [hx] at p1
    rw [hy] at p2
    rw [hz] at p3
    cases p1
    cases p2
    cases p3
    have kf := KF.put (o := .tup [x', y', z']) e2 hT
    refine ⟨_, kf, .tup (.inl (Rd.of upd_same)) (.cons ?_ (.cons ?_ (.cons ?_ .nil)))⟩
    · exact (rx.mono e1).mono kf.f
    · exact (ry.mono e1).mono kf.f
    · exact (rz.mono e1).mono kf.f
  stop := fun H e => by
    have l := zip3D_len ds es fs
    have l1 := r1.length
    have l2 := r2.length
    have l3 := r3.length
    exact ⟨xs, ys, zs, e.s h1, e.s h2, e.s h3, by omega, by omega, by omega, by omega⟩
def aZ3 (as : List AV) : Option (List D) := match as with
  | [x, y, z] => match seqD x, seqD y, seqD z with
    | some ds, some es, some fs => some (zip3D ds es fs)
    | _, _, _ => none
  | _ => none
def aZip3 (aa : AA) : AI := fun ρ k => aa ρ fun as ρ1 => match aZ3 as with
  | some zs => k zs ρ1
  | none => False
theorem aZ3_ok {σ : L2.St} {vs : List V} {as : List AV} {zs : List D} (ex : Ex F H) (r : RpVs K F σ vs as) (h : aZ3 as = some zs) : ∃ a b c, three K vs H a b c ∧ Walks K (ItZ3 K a b c) F zs := by
  unfold aZ3 at h
  split at h
  · rename_i x y z
    split at h
    · rename_i ds es fs e1 e2 e3
      cases h
      match vs, r with
      | [v1, v2, v3], r =>
        obtain ⟨r1, r2, r3, _⟩ := r
        obtain ⟨a, xs, rfl, h1, g1⟩ := seqD_src r1 e1
        obtain ⟨b, ys, rfl, h2, g2⟩ := seqD_src r2 e2
        obtain ⟨c, zs, rfl, h3, g3⟩ := seqD_src r3 e3
        exact ⟨a, b, c, ⟨xs, ys, zs, rfl, ex.s h1, ex.s h2, ex.s h3⟩, walks_z3 h1 h2 h3 g1 g2 g3⟩
      | [], r => exact r.elim
      | [_], r => exact r.2.elim
      | [_, _], r => exact r.2.2.elim
      | _ :: _ :: _ :: _ :: _, r => exact r.2.2.2.elim
    · cases h
  · cases h
theorem lk_zip3 {ta : TA} {aa : AA} (ha : LkA K ta aa) : LkI K (iZip3 K ta) (aZip3 aa) := by
  intro ρ k hk σ F H O s R hq
  refine ha ρ _ hk σ F H O s _ fun vs as ρ1 F1 H1 k1 s1 r1 h1 => ?_
  split at h1
  · rename_i zs q
    obtain ⟨a, b, c, t, wk⟩ := aZ3_ok s1.ex r1 q
    exact ⟨a, b, c, t, hq _ zs ρ1 F1 H1 k1 s1 wk h1⟩
  · exact h1.elim

/-! pairs = zip(a, b, c); xs.append(tuple([.. for .. in pairs])) -/
abbrev zE (K : PySem.W.Frag) (j : Nat) (wi : TI) (g : TG) (tt : TT) (te : TE) (vs : List Nat) : TE := tBM K "list" rAppend (tVar j) (tCons (tCB (rTup1 K) (tCons (tLc wi g tt te vs) tNil)) tNil)
def aZipTwo (aa : AA) (k j : Nat) (ag : AG) (at_ : AT) (ae : AE) (vs : List Nat) : AS := fun A ρ => isOw ρ k = false ∧ isOw ρ j = true ∧ aa ρ fun as ρ1 => match aZ3 as with
  | some zs => k < ρ1.length ∧ isOw (ρ1.set k .un) j = true ∧ aLc (fun ρ kk => kk zs ρ) ag at_ ae vs (ρ1.set k .un) fun ds ρ2 => match ρ2[j]? with
    | some (.ow (.ol xs)) => xs.length < 1000000 ∧ A.nx (ρ2.set j (.ow (.ol (xs ++ [.tup ds]))))
    | _ => False
  | none => False
theorem Sl.setUn {ρ : AR} {σ : L2.St} {O : Addr → Prop} (s : Sl K F H ρ σ O) (k : Nat) (v : V) : Sl K F H (ρ.set k .un) (σ.set k (some v)) O where
  len := by rw [List.length_set, List.length_set, s.len]
  im := fun i d h => by
    rcases set_get h with ⟨_, q⟩ | ⟨n, q⟩
    · cases q
    · obtain ⟨u, h1, h2⟩ := s.im i d q
      exact ⟨u, by rw [List.getElem?_set_ne (Ne.symm n)]; exact h1, h2⟩
  ow := fun i c h => by
    rcases set_get h with ⟨_, q⟩ | ⟨n, q⟩
    · cases q
    · obtain ⟨p, h1, h2⟩ := s.ow i c q
      exact ⟨p, by rw [List.getElem?_set_ne (Ne.symm n)]; exact h1, h2⟩
  ap := fun i j c c' p hij h h' g g' => by
    rcases set_get h with ⟨_, q⟩ | ⟨n, q⟩
    · cases q
    · rcases set_get h' with ⟨_, q'⟩ | ⟨n', q'⟩
      · cases q'
      · rw [List.getElem?_set_ne (Ne.symm n)] at g
        rw [List.getElem?_set_ne (Ne.symm n')] at g'
        exact s.ap i j c c' p hij q q' g g'
  ex := s.ex
  fo := s.fo
theorem updKs_ex {l : List (Addr × Obj)} (h : ∀ p ∈ l, H p.1 = none) : Ex H (updKs H l) := fun a o e => by
  rw [updKs_out fun p hp z => by rw [← z, h p hp] at e; cases e]
  exact e
theorem lk_zipTwo {W : WX'} {n k j : Nat} {ta : TA} {aa : AA} {g : TG} {ag : AG} {tt : TT} {at_ : AT} {te : TE} {ae : AE} {vs B : List Nat} (ha : LkA K ta aa) (hg : LkG K g ag B) (ht : LkT K tt at_) (he : LkE K te ae) (hB : ∀ i ∈ B, i ∈ vs) :
    LkS K W (tSeq (tAsg (tZipV K n ta) (gName k)) (tDrop (zE K j (iZv K n k) g tt te vs))) (aZipTwo aa k j ag at_ ae vs) [k] := by
  intro A ρ h σ F H O s B' Dn hBk bd
  obtain ⟨hno, hoj, h⟩ := h
  refine ha ρ _ h σ F H O s _ fun us as ρ1 F1 H1 k1 s1 r1 h1 => ?_
  split at h1
  · rename_i zs q
    obtain ⟨hno1, hoj1, h1⟩ := h1
    obtain ⟨a, b, c, t3, wk⟩ := aZ3_ok s1.ex r1 q
    refine ⟨a, b, c, t3, fun N hN hn l1 l2 l3 => ?_⟩
    have su := s1.setUn k (.ref (N + 5 : Nat))
    obtain ⟨cj, hcj⟩ := isOw_get hoj1
    obtain ⟨pj, g1, g2, g3⟩ := su.ow j cj hcj
    have hk : k < σ.length := by rw [← s1.len]; exact hno1
    have g3' : ∃ xs, H1 pj = some (.lst xs) := by
      cases cj with
      | ol ds => obtain ⟨xs, e, _⟩ := g3; exact ⟨xs, e⟩
    obtain ⟨xsj, g3'⟩ := g3'
    have exU := updKs_ex hN
    refine ⟨.ref pj, g1, .inl ⟨rfl, xsj, exU.l (SqL.of g3')⟩, ?_⟩
    refine ⟨N, a, b, c, List.getElem?_set_self hk, updKs_get (zl_nodup N a b c), hn, l1, l2, l3, ?_⟩
    rw [dropKs_upd hN (zl_nodup N a b c)]
    have go : tLc (fun _ H R => R (ItZ3 K a b c) H) g tt te vs (σ.set k (some (.ref (N + 5 : Nat)))) H1 (fun y H2 => rTup1 K [y] H2 fun x H3 => rAppend (.ref pj) [x] H3 fun _ H4 => Dn.nx (σ.set k (some (.ref (N + 5 : Nat)))) H4) := ?_
    · exact go
    refine lc_at hg ht he hB su wk h1 _ fun p xs ds ρ2 F2 H2 k2 s2 hp fp nO h0 rd h2 => ?_
    refine ⟨p, xs, rfl, .inl ⟨SqL.of hp, fun l hl => ?_⟩⟩
    split at h2
    · rename_i xs0 q2
      obtain ⟨hz, h2⟩ := h2
      have kf : KF F2 H2 (upd F2 l (.tup xs)) (upd H2 l (.tup xs)) := KF.put s2.ex hl
      have s3 := s2.kf kf
      obtain ⟨p', e1, e2, ys, e3, e4⟩ := s3.ow j _ q2
      rw [g1] at e1
      cases e1
      have rt : Rp K (upd F2 l (.tup xs)) (.ref l) (.tup ds) := .tup (.inl (.inl upd_same)) (rd.mono kf.f)
      refine ⟨pj, ys, .ref l, rfl, rfl, e3, by rw [e4.length]; exact szl hz, ?_⟩
      refine bd.nx _ _ _ _ O (((k1.trans k2).trans kf.kp).trans (Kp.write e2)) (s3.write q2 g1 ⟨ys ++ [.ref l], upd_same, e4.append (.cons rt .nil)⟩) (Keep.set (hBk k List.mem_cons_self)) h2
    · exact h2.elim
  · exact h1.elim
end
section
variable {X : Cx} {K : PySem.W.Frag} {W : WX'}
theorem gi_zip3 {e1 e2 e3 : Expr} {ta : TA} {aa : AA} {p pos tpos : Pos} {elts : List Expr} {kk : Nat} (Bn : Bt X.mg) (ha : GA X [e1, e2, e3] ta aa) (hg : Gl X "zip" := by rfl)
    (hs : starEach [e1, e2, e3] X.env = (false, eval e1 X.env) :: starEach [e2, e3] X.env := by rfl) (hpl : (backTo pos (starEach [e2, e3] X.env)).any (·.1) = false := by rfl) (hK : X.K = K := by rfl) :
    GI X (.Tuple elts kk tpos) (.Call (.Name "zip" p) [e1, e2, e3] [] pos) (iZip3 K ta) (aZip3 aa) := by
  subst hK
  exact ⟨pi_zip3 hg Bn.zip ha.pa hs hpl, lk_zip3 ha.lk⟩
theorem gss_zip2e {e1 e2 e3 : Expr} {ta : TA} {aa : AA} {zp zpos : Pos} {k j : Nat} {y x : Str} {py py2 : Pos} {spos : Pos} {xp apos cpos tp tcp spos2 : Pos} {elt : Expr} {ifs : List Expr} {scope : Scope} {own : List (Str × Nat)} {lpos : Pos} {elts : List Expr} {kk : Nat} {tpos : Pos}
    {g : TG} {ag : AG} {tt : TT} {at_ : AT} {te : TE} {ae : AE} {B : List Nat} (hc : X.calm = true) (hN : X.N.Nodup) (Bn : Bt X.mg) (ha : GA X [e1, e2, e3] ta aa) (ok : BlkOk X.N X.env.scope scope own)
    (hg : ∀ (s : Shared) (H : Hp) (C : Addr) (cl : List (Str × Addr)) (fp : List Addr), GG (X.blk s H scope (compEnvC scope cl C X.env) fp) (.Tuple elts kk tpos) g ag B) (ht : ∀ (s : Shared) (H : Hp) (C : Addr) (cl : List (Str × Addr)) (fp : List Addr), GTs (X.blk s H scope (compEnvC scope cl C X.env) fp) ifs tt at_)
    (he : ∀ (s : Shared) (H : Hp) (C : Addr) (cl : List (Str × Addr)) (fp : List Addr), GE (X.blk s H scope (compEnvC scope cl C X.env) fp) elt te ae) (hB : ∀ i ∈ B, i ∈ own.map (·.2) := by decide) (hs : ∀ x, foldedSetIterable (.Name y py2) X.env x = pure x := by intro _; rfl)
    (hgz : Gl X "zip" := by rfl) (hsz : starEach [e1, e2, e3] X.env = (false, eval e1 X.env) :: starEach [e2, e3] X.env := by rfl) (hplz : (backTo zpos (starEach [e2, e3] X.env)).any (·.1) = false := by rfl)
    (hi : X.N[k]? = some y := by rfl) (hx : Loc X.env.scope y := by first | exact .inl rfl | exact .inr rfl) (hsw : swapsWith (.Call (.Name "zip" zp) [e1, e2, e3] [] zpos) (some (.Name y py)) spos.line X.env = pure false := by rfl) (hf : X.fn y = true ∨ X.env.scope.names.lookup y = some .local := by first | exact .inl rfl | exact .inr rfl | assumption)
    (hvy : Vis X.env.scope y := by first | exact Or.inl rfl | exact Or.inr (Or.inl rfl) | exact Or.inr (Or.inr rfl)) (hdy : (y == ("__debug__" : Str)) = false := by decide) (hcy : (y == ("__classdict__" : Str)) = false := by decide)
    (hgt : Gl X "tuple" := by rfl) (hst : starEach (.ListComp elt [⟨.Tuple elts kk tpos, .Name y py2, ifs, 0⟩] scope lpos :: []) X.env = (false, eval (.ListComp elt [⟨.Tuple elts kk tpos, .Name y py2, ifs, 0⟩] scope lpos) X.env) :: starEach [] X.env := by rfl) (hplt : (backTo tcp (starEach [] X.env)).any (·.1) = false := by rfl)
    (hj : X.N[j]? = some x := by rfl) (hv : Vis X.env.scope x := by first | exact Or.inl rfl | exact Or.inr (Or.inl rfl) | exact Or.inr (Or.inr rfl)) (hd : (x == ("__debug__" : Str)) = false := by decide) (hcd : (x == ("__classdict__" : Str)) = false := by decide)
    (hbase : attributeBase (.Name x xp) "append" X.env (eval (.Name x xp) X.env) = eval (.Name x xp) X.env := by rfl)
    (hfew : ((backTo cpos (starEach [Expr.Call (.Name "tuple" tp) [.ListComp elt [⟨.Tuple elts kk tpos, .Name y py2, ifs, 0⟩] scope lpos] [] tcp] X.env)).all (fun x => !x.1) && (backToKw cpos (keywordEach [] X.env)).all (fun x => x.1.isSome)
      && decide ([Expr.Call (.Name "tuple" tp) [.ListComp elt [⟨.Tuple elts kk tpos, .Name y py2, ifs, 0⟩] scope lpos] [] tcp].length + ([] : List Keyword).length + (if ([] : List Keyword).isEmpty then 0 else 1) < 30)) = true := by rfl)
    (hline : (apos.endLine == cpos.line) = true := by rfl) (hsa : starEach (Expr.Call (.Name "tuple" tp) [.ListComp elt [⟨.Tuple elts kk tpos, .Name y py2, ifs, 0⟩] scope lpos] [] tcp :: []) X.env = (false, eval (Expr.Call (.Name "tuple" tp) [.ListComp elt [⟨.Tuple elts kk tpos, .Name y py2, ifs, 0⟩] scope lpos] [] tcp) X.env) :: starEach [] X.env := by rfl) (hpla : (backTo cpos (starEach [] X.env)).any (·.1) = false := by rfl)
    (hsx : swapsWith (.Call (.Attribute (.Name x xp) "append" apos) [Expr.Call (.Name "tuple" tp) [.ListComp elt [⟨.Tuple elts kk tpos, .Name y py2, ifs, 0⟩] scope lpos] [] tcp] [] cpos) none spos2.line X.env = pure false := by rfl) :
    GSs X W [.Assign [.Name y py] (.Call (.Name "zip" zp) [e1, e2, e3] [] zpos) spos, .Expr (.Call (.Attribute (.Name x xp) "append" apos) [.Call (.Name "tuple" tp) [.ListComp elt [⟨.Tuple elts kk tpos, .Name y py2, ifs, 0⟩] scope lpos] [] tcp] [] cpos) spos2]
      (tSeq (tAsg (tZipV X.K X.s_0.heap.objs.size ta) (gName k)) (tDrop (zE X.K j (iZv X.K X.s_0.heap.objs.size k) g tt te (own.map (·.2))))) (aZipTwo aa k j ag at_ ae (own.map (·.2))) [k] := by
  have p1 := ps_set (pos := spos) (pos' := py) hN hi hx (pe_zipV (p := zp) (pos := zpos) hgz Bn.zip ha.pa hsz hplz) hsw hf
  have pl := pe_lc (pos := lpos) hc hN (pi_zv (p := py2) (elts := elts) (kk := kk) (tpos := tpos) hi hvy hdy hcy) ok (fun s H C cl fp => (hg s H C cl fp).pg) (fun s H C cl fp => (ht s H C cl fp).pt) (fun s H C cl fp => (he s H C cl fp).pe) hs
  have pt := pe_callTy (pos := tcp) (p := tp) call_tuple_of hgt Bn.tuple (by decide +kernel) (pa_cons pl pa_nil hst) (by decide) (by decide) hst hplt
  have p2 := ps_expr (pos := spos2) (pe_bm PySem.F.plainAttrs_list PySem.F.slot_list_append PySem.F.type_list_append mt_append (pe_var hj hv hd hcd) (pa_cons pt pa_nil hsa) hbase hfew hline hsa hpla) hsx
  exact ⟨pss_cons p1 (pss_one p2), lk_zipTwo ha.lk (hg {} (fun _ => none) 0 [] []).lk (ht {} (fun _ => none) 0 [] []).lk (he {} (fun _ => none) 0 [] []).lk hB⟩
end
end DL

namespace DL
open PySem PySem.Spec L2
open PyProof.Rows hiding St
/-! ### a list of lists made row by row, one cell written again, frozen then -/
structure Nst (K : PySem.W.Frag) (F H : Hp) (O : Addr → Prop) (p : Addr) (qs : List Addr) (g : List (List D)) : Prop where
  hp : H p = some (.lst (qs.map V.ref))
  fp : F p = none
  np : ¬ O p
  len : qs.length = g.length
  nd : qs.Nodup
  pq : p ∉ qs
  q : ∀ q ∈ qs, F q = none ∧ ¬ O q
  row : ∀ (n : Nat) (q : Addr) (ds : List D), qs[n]? = some q → g[n]? = some ds → ∃ xs, H q = some (.lst xs) ∧ RpA K F xs ds
section
variable {K : PySem.W.Frag} {F H F' H' : Hp} {O O' : Addr → Prop} {p : Addr} {qs : List Addr} {g : List (List D)}
theorem kp_none {a : Addr} {o : HO} (k : Kp O F H O' F' H') (h : H a = some o) (fa : F a = none) (na : ¬ O a) : H' a = some o ∧ F' a = none ∧ ¬ O' a := by
  refine ⟨k.h1 a o h na, ?_, fun z => ?_⟩
  · cases e : F' a with
    | none => rfl
    | some u =>
      rcases k.h3 a u e with z | z | z
      · rw [fa] at z; cases z
      · exact (na z).elim
      · rw [h] at z; cases z
  · rcases k.h4 a z with z | z
    · exact na z
    · rw [h] at z; cases z
theorem Nst.kp (t : Nst K F H O p qs g) (k : Kp O F H O' F' H') : Nst K F' H' O' p qs g := by
  obtain ⟨a1, a2, a3⟩ := kp_none k t.hp t.fp t.np
  have qq : ∀ (n : Nat) (q : Addr), qs[n]? = some q → ∃ ds xs, g[n]? = some ds ∧ H q = some (.lst xs) ∧ RpA K F xs ds ∧ H' q = some (.lst xs) ∧ F' q = none ∧ ¬ O' q := fun n q hq => by
    have hn : n < g.length := by rw [← t.len]; exact get_lt hq
    obtain ⟨xs, e1, e2⟩ := t.row n q g[n] hq (List.getElem?_eq_getElem hn)
    obtain ⟨f1, f2⟩ := t.q q (List.mem_of_getElem? hq)
    obtain ⟨b1, b2, b3⟩ := kp_none k e1 f1 f2
    exact ⟨_, xs, List.getElem?_eq_getElem hn, e1, e2, b1, b2, b3⟩
  refine ⟨a1, a2, a3, t.len, t.nd, t.pq, fun q hq => ?_, fun n q ds hq hd => ?_⟩
  · obtain ⟨n, hn⟩ := List.mem_iff_getElem?.mp hq
    obtain ⟨_, _, _, _, _, _, b2, b3⟩ := qq n q hn
    exact ⟨b2, b3⟩
  · obtain ⟨ds', xs, e0, _, e2, b1, _, _⟩ := qq n q hq
    rw [hd] at e0
    cases e0
    exact ⟨xs, b1, e2.mono k.h2⟩
theorem Kp.wr {a : Addr} {o : HO} (k : Kp O F H O' F' H') (h : O a ∨ H a = none) : Kp O F H O' F' (upd H' a o) :=
  ⟨fun b u e n => by
    rw [upd_ne (show b ≠ a from fun z => by
      subst z
      rcases h with h | h
      · exact n h
      · rw [h] at e; cases e)]
    exact k.h1 b u e n, k.h2, k.h3, k.h4⟩
theorem RpA.of_get : ∀ {vs : List V} {ds : List D}, vs.length = ds.length → (∀ (n : Nat) (v : V) (d : D), vs[n]? = some v → ds[n]? = some d → Rp K F v d) → RpA K F vs ds
  | [], [], _, _ => .nil
  | v :: vs, d :: ds, hl, h => .cons (h 0 v d rfl rfl) (RpA.of_get (by simpa using hl) fun n v' d' h1 h2 => h (n + 1) v' d' (by simpa using h1) (by simpa using h2))
  | [], _ :: _, hl, _ => by cases hl
  | _ :: _, [], hl, _ => by cases hl
theorem Sl.grow {ρ : AR} {σ : L2.St} (s : Sl K F H ρ σ O) (e : Ex F F') (x : Ex F' H) (fo : ∀ a, O a → F' a = none) : Sl K F' H ρ σ O where
  len := s.len
  im := fun i d h => by
    obtain ⟨v, h1, h2⟩ := s.im i d h
    exact ⟨v, h1, h2.mono e⟩
  ow := fun i c h => by
    obtain ⟨q, h1, h2, h3⟩ := s.ow i c h
    exact ⟨q, h1, h2, h3.mono e rfl⟩
  ap := s.ap
  ex := x
  fo := fun a h => ⟨fo a h, (s.fo a h).2⟩
/-- all of it frozen -/
theorem Nst.freeze {ρ : AR} {σ : L2.St} (t : Nst K F H O p qs g) (s : Sl K F H ρ σ O) : ∃ F2, Sl K F2 H ρ σ O ∧ Ex F F2 ∧ (∀ a o, F2 a = some o → F a = some o ∨ a = p ∨ a ∈ qs) ∧ Rp K F2 (.ref p) (.lst (g.map D.lst)) := by
  let F2 : Hp := fun a => if a = p then some (.lst (qs.map V.ref)) else if a ∈ qs then H a else F a
  have f1 : F2 p = some (.lst (qs.map V.ref)) := if_pos rfl
  have f2 : ∀ a ∈ qs, F2 a = H a := fun a ha => by
    show (if a = p then _ else _) = _
    rw [if_neg (fun z => t.pq (by rw [← z]; exact ha)), if_pos ha]
  have f3 : ∀ a, a ≠ p → a ∉ qs → F2 a = F a := fun a h1 h2 => by
    show (if a = p then _ else _) = _
    rw [if_neg h1, if_neg h2]
  have e : Ex F F2 := fun a o h => by
    rw [f3 a (fun z => by rw [z, t.fp] at h; cases h) (fun z => by rw [(t.q a z).1] at h; cases h)]
    exact h
  refine ⟨F2, s.grow e (fun a o h => ?_) (fun a h => ?_), e, fun a o h => ?_, .lst f1 (RpA.of_get (by rw [List.length_map, List.length_map, t.len]) fun n v d h1 h2 => ?_)⟩
  · by_cases z : a = p
    · rw [z, f1] at h; rw [z, t.hp]; exact h
    · by_cases z' : a ∈ qs
      · rw [f2 a z'] at h; exact h
      · rw [f3 a z z'] at h; exact s.ex a o h
  · rw [f3 a (fun z => t.np (by rw [← z]; exact h)) (fun z => (t.q a z).2 h)]
    exact (s.fo a h).1
  · by_cases z : a = p
    · exact .inr (.inl z)
    · by_cases z' : a ∈ qs
      · exact .inr (.inr z')
      · rw [f3 a z z'] at h; exact .inl h
  · rw [List.getElem?_map] at h1 h2
    cases hq : qs[n]? with
    | none => rw [hq] at h1; cases h1
    | some q =>
      cases hd : g[n]? with
      | none => rw [hd] at h2; cases h2
      | some ds =>
        rw [hq] at h1
        rw [hd] at h2
        cases h1
        cases h2
        obtain ⟨xs, e1, e2⟩ := t.row n q ds hq hd
        exact .lst (by rw [f2 q (List.mem_of_getElem? hq)]; exact e1) (e2.mono e)
/-- a row more -/
theorem Nst.push {q : Addr} {xs : List V} {ds : List D} {O2 : Addr → Prop} (t : Nst K F H O p qs g) (hO : O q) (fq : F q = none) (hq : H q = some (.lst xs)) (r : RpA K F xs ds) (hO2 : ∀ a, O2 a → O a ∧ a ≠ q) :
    Nst K F (upd H p (.lst (qs.map V.ref ++ [.ref q]))) O2 p (qs ++ [q]) (g ++ [ds]) := by
  have qp : q ≠ p := fun z => t.np (by rw [← z]; exact hO)
  have qn : q ∉ qs := fun z => (t.q q z).2 hO
  refine ⟨?_, t.fp, fun z => t.np (hO2 p z).1, ?_, ?_, ?_, fun a ha => ?_, fun n a es ha hd => ?_⟩
  · rw [upd_same, List.map_append]; rfl
  · rw [List.length_append, List.length_append, t.len]; rfl
  · rw [List.nodup_append]
    refine ⟨t.nd, by simp, fun a ha b hb z => ?_⟩
    rw [List.mem_singleton.mp hb] at z
    exact qn (by rw [← z]; exact ha)
  · intro z
    rcases List.mem_append.mp z with z | z
    · exact t.pq z
    · exact qp (List.mem_singleton.mp z).symm
  · rcases List.mem_append.mp ha with ha | ha
    · exact ⟨(t.q a ha).1, fun z => (t.q a ha).2 (hO2 a z).1⟩
    · rw [List.mem_singleton.mp ha]
      exact ⟨fq, fun z => (hO2 q z).2 rfl⟩
  · by_cases hn : n < qs.length
    · rw [List.getElem?_append_left hn] at ha
      rw [List.getElem?_append_left (by rw [← t.len]; exact hn)] at hd
      have : a ≠ p := fun z => t.pq (by rw [← z]; exact List.mem_of_getElem? ha)
      rw [upd_ne this]
      exact t.row n a es ha hd
    · have hn' : n = qs.length := by
        have := get_lt ha
        rw [List.length_append] at this
        simp only [List.length_cons, List.length_nil] at this
        omega
      rw [hn', List.getElem?_append_right (Nat.le_refl _), Nat.sub_self] at ha
      rw [hn', t.len, List.getElem?_append_right (Nat.le_refl _), Nat.sub_self] at hd
      cases ha
      cases hd
      rw [upd_ne qp]
      exact ⟨xs, hq, r⟩
/-- a cell written -/
theorem Nst.write {n m : Nat} {q : Addr} {xs : List V} {ds : List D} {v : V} {d : D} (t : Nst K F H O p qs g) (hq : qs[n]? = some q) (hg : g[n]? = some ds) (hx : H q = some (.lst xs)) (r : RpA K F xs ds) (rv : Rp K F v d) :
    Nst K F (upd H q (.lst (xs.set m v))) O p qs (g.set n (ds.set m d)) := by
  have qm := List.mem_of_getElem? hq
  have qp : p ≠ q := fun z => t.pq (by rw [z]; exact qm)
  refine ⟨by rw [upd_ne qp]; exact t.hp, t.fp, t.np, by rw [List.length_set]; exact t.len, t.nd, t.pq, t.q, fun k a es ha hd => ?_⟩
  by_cases z : n = k
  · subst z
    rw [hq] at ha
    cases ha
    rw [List.getElem?_set_self (get_lt hg)] at hd
    cases hd
    exact ⟨_, upd_same, r.set rv m⟩
  · rw [List.getElem?_set_ne z] at hd
    have : a ≠ q := fun y => by
      subst y
      have h1 := get_lt hq
      have h2 := get_lt ha
      have e1 : qs[n] = a := Option.some.inj ((List.getElem?_eq_getElem h1).symm.trans hq)
      have e2 : qs[k] = a := Option.some.inj ((List.getElem?_eq_getElem h2).symm.trans ha)
      have pw := List.pairwise_iff_getElem.mp t.nd
      rcases Nat.lt_or_gt_of_ne z with lt | lt
      · exact pw n k h1 h2 lt (e1.trans e2.symm)
      · exact pw k n h2 h1 lt (e2.trans e1.symm)
    rw [upd_ne this]
    exact t.row k a es ha hd
end
section
variable {K : PySem.W.Frag} {W : WX'}
def noEnds (N : AR → Prop) : AEnds := { nx := N, rt := fun _ _ => False }
/-- rows = []; for ..: {..; rows.append(line)}; if ..: {..; rows[r][c] = ..}; the rest, with the rows known -/
def aNest (R L r c : Nat) (ai : AI) (ag : AG) (al : AS) (at_ : AT) (ap : AS) (ae : AE) (a4 : AS) : AS := fun A ρ => R < ρ.length ∧ isOw ρ R = false ∧
  ai (ρ.set R .un) fun ds ρ1 => ∃ Wa : Nat → List (List D) → AR → Prop, Wa 0 [] ρ1 ∧
    (∀ (i : Nat) (d : D) (g : List (List D)) (ρ' : AR), ds[i]? = some d → Wa i g ρ' → ag d ρ' fun ρ'' => al (noEnds fun ρ2 => g.length < 1000000 ∧ ∃ xs, ρ2[L]? = some (.ow (.ol xs)) ∧ Wa (i + 1) (g ++ [xs]) (ρ2.set L .un)) ρ'') ∧
    ∀ (g : List (List D)) (ρ' : AR), Wa ds.length g ρ' → at_ ρ' fun b ρ2 => if b = true then
      ap (noEnds fun ρ3 => ae ρ3 fun x ρ4 => ∃ d i j n m row, x = .im d ∧ ρ4[r]? = some (.im (.int i)) ∧ ρ4[c]? = some (.im (.int j)) ∧ ixN g.length i = some n ∧ g[n]? = some row ∧ ixN row.length j = some m ∧
        a4 A (ρ4.set R (.im (.lst ((g.set n (row.set m d)).map .lst))))) ρ2
      else a4 A (ρ2.set R (.im (.lst (g.map .lst))))
theorem Sl.moved {F H : Hp} {O : Addr → Prop} {ρ : AR} {σ : L2.St} {L : Nat} {cc : OC} {q : Addr} (s : Sl K F H ρ σ O) (h : ρ[L]? = some (.ow cc)) (e : σ[L]? = some (some (.ref q))) : Sl K F H (ρ.set L .un) σ (fun a => O a ∧ a ≠ q) where
  len := by rw [List.length_set, s.len]
  im := fun i d h' => by
    rcases set_get h' with ⟨_, z⟩ | ⟨_, z⟩
    · cases z
    · exact s.im i d z
  ow := fun i c' h' => by
    rcases set_get h' with ⟨_, z⟩ | ⟨n, z⟩
    · cases z
    · obtain ⟨p', g1, g2, g3⟩ := s.ow i c' z
      exact ⟨p', g1, ⟨g2, fun y => by subst y; exact s.ap i L c' cc p' n z h g1 e⟩, g3⟩
  ap := fun i j c1 c2 p' hij h1 h2 g1 g2 => by
    rcases set_get h1 with ⟨_, z⟩ | ⟨_, z1⟩
    · cases z
    · rcases set_get h2 with ⟨_, z⟩ | ⟨_, z2⟩
      · cases z
      · exact s.ap i j c1 c2 p' hij z1 z2 g1 g2
  ex := s.ex
  fo := fun a h' => s.fo a h'.1
theorem lk_nest {R L r c : Nat} {wi : TI} {ai : AI} {g : TG} {ag : AG} {tl : TS} {al : AS} {tt : TT} {at_ : AT} {tp : TS} {ap : AS} {te : TE} {ae : AE} {t4 : TS} {a4 : AS} {B1 B2 B3 B4 : List Nat} (hi : LkI K wi ai) (hg : LkG K g ag B1) (hl : LkS K W tl al B2) (ht : LkT K tt at_) (hp : LkS K W tp ap B3) (he : LkE K te ae) (h4 : LkS K W t4 a4 B4)
    (n1 : R ∉ B1) (n2 : R ∉ B2) (n3 : R ∉ B3) :
    LkS K W (tSeq (tAsg (tLst tNil) (gName R)) (tSeq (tFor wi g (tSeq tl (tDrop (tBM K "list" rAppend (tVar R) (tCons (tVar L) tNil))))) (tSeq (tIfS tt (tSeq tp (tAsg te (gSub (tOp (rIx K) (tVar R) (tVar r)) (tVar c) rSetL))) tNext) t4)))
      (aNest R L r c ai ag al at_ ap ae a4) (R :: (B1 ++ B2 ++ B3 ++ B4)) := by
  intro A ρ h σ F H O s B' Dn hB bd
  obtain ⟨hR, hno, h⟩ := h
  have hRσ : R < σ.length := by rw [← s.len]; exact hR
  refine ⟨by decide, fun p hp0 => ?_⟩
  -- the new list
  have nOp : ¬ O p := s.notO hp0
  have fp : F p = none := s.notF hp0
  have s0 : Sl K F (upd H p (.lst [])) (ρ.set R .un) (σ.set R (some (.ref p))) O := (s.setUn R (.ref p)).other fp nOp
  have k0 : Kp O F H O F (upd H p (.lst [])) := Kp.refl.at_ hp0
  have e0 : Keep B' σ (σ.set R (some (.ref p))) := Keep.set (hB R List.mem_cons_self)
  refine hi _ _ h _ F _ O s0 _ fun J ds ρ1 F1 H1 k1 s1 wk h1 => ?_
  obtain ⟨Wa, w0, turn, done⟩ := h1
  have t0 : Nst K F1 H1 O p [] [] := Nst.kp (K := K) (F := F) (H := upd H p (.lst [])) (O := O) ⟨upd_same, fp, nOp, rfl, List.nodup_nil, (fun z => by cases z), (fun _ z => by cases z), (fun n q ds z => by simp at z)⟩ k1
  let Inv : Nat → L2.St → Hp → Prop := fun i σ' H' => ∃ ρ' F' O' qs gg, Kp O F H O' F' H' ∧ Sl K F' H' ρ' σ' O' ∧ Keep B' σ σ' ∧ σ'[R]? = some (some (.ref p)) ∧ Ex F1 F' ∧ Nst K F' H' O' p qs gg ∧ (∀ q ∈ qs, O q ∨ H q = none) ∧ Wa i gg ρ'
  refine ⟨fun i m σ' H' => m = ds.length - i ∧ i ≤ ds.length ∧ Inv i σ' H', ⟨ds.length, by simp, Nat.zero_le _, ρ1, F1, O, [], [], k0.trans k1, s1, e0, List.getElem?_set_self hRσ, Ex.refl _, t0, (fun _ z => by cases z), w0⟩, ?_⟩
  rintro i mm σ' H' ⟨rfl, hle, ρ', F', O', qs, gg, k2, s2, e2, hr2, x2, t2, q2, w2⟩
  have exF : Ex F1 H' := x2.trans s2.ex
  have inB1 : ∀ i ∈ B1, i ∈ B1 := fun _ z => z
  by_cases hlt : i < ds.length
  · refine .inr ⟨wk.go i H' hlt exF, Inv (i + 1), fun σ3 H3 q => ⟨ds.length - (i + 1), by omega, rfl, hlt, q⟩, fun x H3 y => ?_⟩
    obtain ⟨F3, kf, rx⟩ := wk.yld i H' x H3 ds[i] (List.getElem?_eq_getElem hlt) exF y F' x2 s2.ex
    have s3 := s2.kf kf
    refine hg ds[i] ρ' _ (turn i ds[i] gg ρ' (List.getElem?_eq_getElem hlt) w2) x σ' F3 H3 O' s3 rx B1 inB1 _ fun ρ4 σ4 F4 H4 k4 s4 e4 h4' => ?_
    have kk : Kp O' F' H' O' F4 H4 := kf.kp.trans k4
    refine hl _ ρ4 h4' σ4 F4 H4 O' s4 B2 _ (fun _ z => z) ⟨fun ρ5 σ5 F5 H5 O5 k5 s5 e5 w5 => ?_, fun _ _ _ _ _ _ _ _ _ _ _ z => z.elim, fun _ _ _ _ _ _ _ _ z => z.elim, fun _ _ _ _ _ _ _ _ z => z.elim, fun _ _ _ _ _ _ _ _ _ _ _ _ z => z.elim, fun _ _ _ _ _ _ _ _ _ _ _ _ _ _ _ _ z => z.elim⟩
    obtain ⟨hz, xs, hx, w5⟩ := w5
    have kA : Kp O' F' H' O5 F5 H5 := kk.trans k5
    have t5 := t2.kp kA
    have r5 : σ5[R]? = some (some (.ref p)) := by rw [e5.at_ R n2, e4.at_ R n1]; exact hr2
    obtain ⟨q, g1, g2, vs, g3, g4⟩ := s5.ow L _ hx
    have e5' : Keep B' σ σ5 := e2.trans ⟨e5.ln.trans e4.ln, fun j hj => by
      rw [e5.at_ j (fun z => hj (hB j (by simp [z]))), e4.at_ j (fun z => hj (hB j (by simp [z])))]⟩
    refine ⟨.ref p, r5, .inl ⟨rfl, _, SqL.of t5.hp⟩, .ref q, g1, p, _, .ref q, rfl, rfl, t5.hp, by rw [List.length_map, t5.len]; exact szl hz, ?_⟩
    have s6 := s5.moved hx g1
    have t6 := t5.push g2 (s5.fo q g2).1 g3 g4 (O2 := fun a => O5 a ∧ a ≠ q) fun a z => z
    have kO : Kp O F H O5 F5 H5 := k2.trans kA
    have kO2 : Kp O F H (fun a => O5 a ∧ a ≠ q) F5 (upd H5 p (.lst (qs.map V.ref ++ [.ref q]))) := Kp.wr ⟨kO.h1, kO.h2, kO.h3, fun a z => kO.h4 a z.1⟩ (.inr hp0)
    refine ⟨_, F5, _, qs ++ [q], gg ++ [xs], kO2, s6.other t5.fp (fun z => t5.np z.1), e5', r5, x2.trans kA.h2, t6, fun a ha => ?_, w5⟩
    rcases List.mem_append.mp ha with ha | ha
    · exact q2 a ha
    · rw [List.mem_singleton.mp ha]
      exact kO.h4 q g2
  · have e : i = ds.length := by omega
    subst e
    refine .inl ⟨wk.stop H' exF, ?_⟩
    -- what stands behind the loop
    have last : ∀ (ρ6 : AR) (σ6 : L2.St) (F6 H6 : Hp) (O6 : Addr → Prop) (gg : List (List D)), Kp O F H O6 F6 H6 → Sl K F6 H6 ρ6 σ6 O6 → Keep B' σ σ6 → σ6[R]? = some (some (.ref p)) → Nst K F6 H6 O6 p qs gg → a4 A (ρ6.set R (.im (.lst (gg.map .lst)))) → t4 Dn σ6 H6 := fun ρ6 σ6 F6 H6 O6 gg k6 s6 e6 r6 t6 h6 => by
      obtain ⟨F7, s7, x7, n7, rp7⟩ := t6.freeze s6
      have s8 := s7.setIm rp7 R
      have eσ : σ6.set R (some (.ref p)) = σ6 := by
        apply List.ext_getElem?
        intro j
        by_cases z : R = j
        · subst z; rw [List.getElem?_set_self (get_lt r6), r6]
        · rw [List.getElem?_set_ne z]
      rw [eσ] at s8
      have k7 : Kp O F H O6 F7 H6 := ⟨k6.h1, k6.h2.trans x7, fun a o z => by
        rcases n7 a o z with z | z | z
        · exact k6.h3 a o z
        · subst z; exact .inr (.inr hp0)
        · exact .inr (q2 a z), k6.h4⟩
      exact h4 A _ h6 σ6 F7 H6 O6 s8 B' Dn (fun j hj => hB j (by simp [hj])) (bd.shift k7 e6)
    refine ht ρ' _ (done gg ρ' w2) σ' F' H' O' s2 _ fun b ρ3 F3 H3 k3 s3 h3 => ?_
    have t3 := t2.kp k3
    cases b with
    | false =>
      rw [if_neg Bool.false_ne_true] at h3 ⊢
      exact last ρ3 σ' F3 H3 O' gg (k2.trans k3) s3 e2 hr2 t3 h3
    | true =>
      rw [if_pos rfl] at h3 ⊢
      refine hp _ ρ3 h3 σ' F3 H3 O' s3 B3 _ (fun _ z => z) ⟨fun ρ4 σ4 F4 H4 O4 k4 s4 e4 w4 => ?_, fun _ _ _ _ _ _ _ _ _ _ _ z => z.elim, fun _ _ _ _ _ _ _ _ z => z.elim, fun _ _ _ _ _ _ _ _ z => z.elim, fun _ _ _ _ _ _ _ _ _ _ _ _ z => z.elim, fun _ _ _ _ _ _ _ _ _ _ _ _ _ _ _ _ z => z.elim⟩
      refine he ρ4 _ w4 σ4 F4 H4 O4 s4 _ fun v x ρ5 F5 H5 k5 s5 rv h5 => ?_
      obtain ⟨d, i5, j5, n5, m5, row, rfl, hr5, hc5, hn5, hg5, hm5, h5⟩ := h5
      have r4 : σ4[R]? = some (some (.ref p)) := by rw [e4.at_ R n3]; exact hr2
      have t5 := (t3.kp k4).kp k5
      obtain ⟨v1, a1, b1⟩ := s5.im r _ hr5
      obtain ⟨v2, a2, b2⟩ := s5.im c _ hc5
      cases b1
      cases b2
      have hnl : n5 < qs.length := by rw [t5.len]; exact get_lt hg5
      obtain ⟨xs, hx, rx⟩ := t5.row n5 qs[n5] row (List.getElem?_eq_getElem hnl) hg5
      have hat : atI (qs.map V.ref) i5 = some (.ref qs[n5]) := by
        unfold atI
        rw [List.length_map, t5.len, hn5]
        show (qs.map V.ref)[n5]? = _
        rw [List.getElem?_map, List.getElem?_eq_getElem hnl]; rfl
      refine ⟨.ref p, r4, .int i5, a1, .inl ⟨p, _, i5, .ref qs[n5], rfl, rfl, SqL.of t5.hp, hat, .int j5, a2, qs[n5], xs, j5, m5, rfl, rfl, hx, by rw [rx.length]; exact hm5, ?_⟩⟩
      have qm : qs[n5] ∈ qs := List.getElem_mem hnl
      have t6 := t5.write (m := m5) (List.getElem?_eq_getElem hnl) hg5 hx rx rv
      have k6 : Kp O F H O4 F5 (upd H5 qs[n5] (.lst (xs.set m5 v))) := Kp.wr (((k2.trans k3).trans k4).trans k5) (q2 _ qm)
      have e6 : Keep B' σ σ4 := e2.trans ⟨e4.ln, fun j hj => e4.at_ j fun z => hj (hB j (by simp [z]))⟩
      exact last ρ5 σ4 F5 _ O4 _ k6 (s5.other (t5.q _ qm).1 (t5.q _ qm).2) e6 r4 t6 h5
end
section
variable {X : Cx} {K : PySem.W.Frag} {W : WX'}
theorem gss_nest {R L r c : Nat} {st1 sl1 sl2 sa sp st4 : Stmt} {tg iter test e tg2 : Expr} {fpos ipos apos : Pos} {wi : TI} {ai : AI} {g : TG} {ag : AG} {tl1 tl2 : TS} {al1 al2 : AS} {tt : TT} {at_ : AT} {tp : TS} {ap : AS} {te : TE} {ae : AE} {t4 : TS} {a4 : AS} {B1 C1 C2 B3 B4 : List Nat}
    (hpo : PassesOwn (model X.prog X.w) X.A X.env X.xe) (hc : X.calm = true) (h1 : PS X st1 (tAsg (tLst tNil) (gName R))) (hi : GI X tg iter wi ai) (hg : GG X tg g ag B1) (hl1 : GS X W sl1 tl1 al1 C1) (hl2 : GS X W sl2 tl2 al2 C2) (ha : PS X sa (tDrop (tBM X.K "list" rAppend (tVar R) (tCons (tVar L) tNil))))
    (ht : GT X test tt at_) (hp : GS X W sp tp ap B3) (he : GE X e te ae) (hs : PG X tg2 (gSub (tOp (rIx X.K) (tVar R) (tVar r)) (tVar c) rSetL)) (h4 : GS X W st4 t4 a4 B4) (n1 : R ∉ B1 := by decide) (n2 : R ∉ C1 ++ C2 := by decide) (n3 : R ∉ B3 := by decide) (hf : ∀ x, foldedSetIterable iter X.env x = pure x := by intro _; rfl)
    (a1 : swapsWithSole [tg2] e apos.line X.env = pure false := by rfl) (a2 : swappedStores [tg2] e X.env = pure none := by rfl) (a3 : (assignEach [tg2] X.env).map (·.2) = [assign tg2 X.env] := by rfl) :
    GSs X W [st1, .For tg iter [sl1, sl2, sa] [] fpos, .If test [sp, .Assign [tg2] e apos] [] ipos, st4]
      (tSeq (tAsg (tLst tNil) (gName R)) (tSeq (tFor wi g (tSeq (tSeq tl1 tl2) (tDrop (tBM X.K "list" rAppend (tVar R) (tCons (tVar L) tNil))))) (tSeq (tIfS tt (tSeq tp (tAsg te (gSub (tOp (rIx X.K) (tVar R) (tVar r)) (tVar c) rSetL))) tNext) t4)))
      (aNest R L r c ai ag (aSeq al1 al2) at_ ap ae a4) (R :: (B1 ++ (C1 ++ C2) ++ B3 ++ B4)) := by
  have pb : PSs X [sl1, sl2, sa] (tSeq (tSeq tl1 tl2) (tDrop (tBM X.K "list" rAppend (tVar R) (tCons (tVar L) tNil)))) := by
    have q : PSs X [sl1, sl2, sa] (tSeq tl1 (tSeq tl2 (tDrop (tBM X.K "list" rAppend (tVar R) (tCons (tVar L) tNil))))) := pss_cons hl1.ps (pss_cons hl2.ps (pss_one ha))
    exact q
  exact ⟨pss_cons h1 (pss_cons (ps_for hpo hc hi.pi hg.pg pb hf) (pss_cons (ps_if ht.pt (pss_cons hp.ps (pss_one (ps_asg he.pe hs a1 a2 a3))) pss_nil) (pss_one h4.ps))), lk_nest hi.lk hg.lk (lk_seq hl1.lk hl2.lk) ht.lk hp.lk he.lk h4.lk n1 n2 n3⟩
end
end DL

namespace K76
open PySem PySem.Spec L2 DL
open PyProof.Rows hiding St
def topS (i : Nat) : Stmt := PySem.Challenge.pw_cellhall_k76_whole_counts_around_cells.main.body.getD i (.Pass ⟨0, 0, 0, 0⟩)
abbrev sFitsWhole : Stmt := topS 6
theorem scFitsWhole : FnScope ["value", "low", "high"] ["value", "low", "high"] (defScope sFitsWhole) := ⟨rfl, rfl, rfl, by decide +kernel, rfl, by decide +kernel, by decide +kernel⟩
abbrev sIsTupleOf : Stmt := topS 7
theorem scIsTupleOf : FnScope ["value", "least", "most"] ["value", "least", "most"] (defScope sIsTupleOf) := ⟨rfl, rfl, rfl, by decide +kernel, rfl, by decide +kernel, by decide +kernel⟩
abbrev sFitsBox : Stmt := topS 11
theorem scFitsBox : FnScope ["high", "wide", "most"] ["high", "wide", "most"] (defScope sFitsBox) := ⟨rfl, rfl, rfl, by decide +kernel, rfl, by decide +kernel, by decide +kernel⟩
abbrev sFitsSigns : Stmt := topS 12
theorem scFitsSigns : FnScope ["high", "wide", "value", "most", "row", "sign"] ["high", "wide", "value", "most"] (defScope sFitsSigns) := ⟨rfl, rfl, rfl, by decide +kernel, rfl, by decide +kernel, by decide +kernel⟩
abbrev sAroundIn : Stmt := topS 13
theorem scAroundIn : FnScope ["high", "wide", "row", "column", "found", "down", "right", "cell"] ["high", "wide", "row", "column"] (defScope sAroundIn) := ⟨rfl, rfl, rfl, by decide +kernel, rfl, by decide +kernel, by decide +kernel⟩
abbrev sNeedBox : Stmt := topS 14
theorem scNeedBox : FnScope ["high", "wide", "most"] ["high", "wide", "most"] (defScope sNeedBox) := ⟨rfl, rfl, rfl, by decide +kernel, rfl, by decide +kernel, by decide +kernel⟩
abbrev sNeedMarks : Stmt := topS 15
theorem scNeedMarks : FnScope ["high", "wide", "marks"] ["high", "wide", "marks"] (defScope sNeedMarks) := ⟨rfl, rfl, rfl, by decide +kernel, rfl, by decide +kernel, by decide +kernel⟩
abbrev sNeedTold : Stmt := topS 16
theorem scNeedTold : FnScope ["high", "wide", "told", "most"] ["high", "wide", "told", "most"] (defScope sNeedTold) := ⟨rfl, rfl, rfl, by decide +kernel, rfl, by decide +kernel, by decide +kernel⟩
abbrev sCountsIn : Stmt := topS 17
theorem scCountsIn : FnScope ["high", "wide", "marks", "found", "row", "line", "column", "down", "right", "some"] ["high", "wide", "marks"] (defScope sCountsIn) := ⟨rfl, rfl, rfl, by decide +kernel, rfl, by decide +kernel, by decide +kernel⟩
abbrev sFitsMarks : Stmt := topS 18
theorem scFitsMarks : FnScope ["high", "wide", "told", "marks", "counts", "row", "column"] ["high", "wide", "told", "marks"] (defScope sFitsMarks) := ⟨rfl, rfl, rfl, by decide +kernel, rfl, by decide +kernel, by decide +kernel⟩
abbrev sAreMarks : Stmt := topS 19
theorem scAreMarks : FnScope ["high", "wide", "value"] ["high", "wide", "value"] (defScope sAreMarks) := ⟨rfl, rfl, rfl, by decide +kernel, rfl, by decide +kernel, by decide +kernel⟩
abbrev sIsTold : Stmt := topS 20
theorem scIsTold : FnScope ["high", "wide", "value"] ["high", "wide", "value"] (defScope sIsTold) := ⟨rfl, rfl, rfl, by decide +kernel, rfl, by decide +kernel, by decide +kernel⟩
abbrev sCountsAround : Stmt := topS 21
theorem scCountsAround : FnScope ["high", "wide", "marks", "line"] ["high", "wide", "marks"] (defScope sCountsAround) := ⟨rfl, rfl, rfl, by decide +kernel, rfl, by decide +kernel, by decide +kernel⟩
abbrev sToldBy : Stmt := topS 22
theorem scToldBy : FnScope ["high", "wide", "marks", "shown", "found", "counts", "line", "some", "pairs", "count", "mark", "is_shown"] ["high", "wide", "marks", "shown"] (defScope sToldBy) := ⟨rfl, rfl, rfl, by decide +kernel, rfl, by decide +kernel, by decide +kernel⟩
abbrev sFitsTold : Stmt := topS 23
theorem scFitsTold : FnScope ["high", "wide", "told", "marks"] ["high", "wide", "told", "marks"] (defScope sFitsTold) := ⟨rfl, rfl, rfl, by decide +kernel, rfl, by decide +kernel, by decide +kernel⟩
abbrev sLawCup : Stmt := topS 25
theorem scLawCup : FnScope ["script", "cell"] ["script"] (defScope sLawCup) := ⟨rfl, rfl, rfl, by decide +kernel, rfl, by decide +kernel, by decide +kernel⟩
abbrev sLawRoll : Stmt := topS 26
theorem scLawRoll : FnScope ["cup", "many", "found", "deep"] ["cup", "many"] (defScope sLawRoll) := ⟨rfl, rfl, rfl, by decide +kernel, rfl, by decide +kernel, by decide +kernel⟩
abbrev sLawSome : Stmt := topS 27
theorem scLawSome : FnScope ["cup", "things"] ["cup", "things"] (defScope sLawSome) := ⟨rfl, rfl, rfl, by decide +kernel, rfl, by decide +kernel, by decide +kernel⟩
abbrev sLawSame : Stmt := topS 28
theorem scLawSame : FnScope ["told", "due", "at"] ["told", "due"] (defScope sLawSame) := ⟨rfl, rfl, rfl, by decide +kernel, rfl, by decide +kernel, by decide +kernel⟩
abbrev sLawMarks : Stmt := topS 29
theorem scLawMarks : FnScope ["cup", "high", "wide", "share", "found", "row", "column"] ["cup", "high", "wide", "share"] (defScope sLawMarks) := ⟨rfl, rfl, rfl, by decide +kernel, rfl, by decide +kernel, by decide +kernel⟩
abbrev sLawCount : Stmt := topS 30
theorem scLawCount : FnScope ["high", "wide", "marks", "cell", "found", "down", "right", "row", "column"] ["high", "wide", "marks", "cell"] (defScope sLawCount) := ⟨rfl, rfl, rfl, by decide +kernel, rfl, by decide +kernel, by decide +kernel⟩
abbrev sLawFits : Stmt := topS 31
theorem scLawFits : FnScope ["high", "wide", "told", "marks", "row", "column"] ["high", "wide", "told", "marks"] (defScope sLawFits) := ⟨rfl, rfl, rfl, by decide +kernel, rfl, by decide +kernel, by decide +kernel⟩
abbrev sLawTold : Stmt := topS 32
theorem scLawTold : FnScope ["cup", "high", "wide", "marks", "share", "rows", "row", "line", "column", "is_shown"] ["cup", "high", "wide", "marks", "share"] (defScope sLawTold) := ⟨rfl, rfl, rfl, by decide +kernel, rfl, by decide +kernel, by decide +kernel⟩
abbrev sLawSigns : Stmt := topS 33
theorem scLawSigns : FnScope ["high", "wide", "value", "most", "row", "one"] ["high", "wide", "value", "most"] (defScope sLawSigns) := ⟨rfl, rfl, rfl, by decide +kernel, rfl, by decide +kernel, by decide +kernel⟩
abbrev sLaw : Stmt := topS 34
theorem scLaw : FnScope ["script", "cup", "turn", "high", "wide", "marks", "shown", "counts", "row", "column", "due", "line", "at", "told", "other", "odds", "one", "values", "value", "odd"] ["script"] (defScope sLaw) := ⟨rfl, rfl, rfl, by decide +kernel, rfl, by decide +kernel, by decide +kernel⟩

/-! ### plain functions -/
def fitsWhole : D → Int → Int → Bool
  | .int i, lo, hi => decide (lo ≤ i) && decide (i ≤ hi)
  | _, _, _ => false
def isTup : D → Int → Int → Bool
  | .tup ds, lo, hi => decide (lo ≤ (ds.length : Int)) && decide ((ds.length : Int) ≤ hi)
  | _, _, _ => false
def signs (most : Int) : D → Bool
  | .tup ss => ss.all fun s => fitsWhole s 0 most
  | _ => false
def fitsSigns (h w : Int) (d : D) (most : Int) : Bool := match d with
  | .tup rows => decide ((rows.length : Int) = h) && (rows.all fun r => isTup r w w) && rows.all (signs most)
  | _ => false
mutual
/-- no address, no script within -/
def okd : D → Bool
  | .tup ds => okds ds
  | .lst ds => okds ds
  | .adr _ => false
  | .scr _ => false
  | _ => true
def okds : List D → Bool
  | [] => true
  | d :: ds => okd d && okds ds
end
theorem okd_val {d : D} (h : okd d = true) : val d = true := by
  cases d <;> first | rfl | (unfold okd at h; cases h)
theorem okds_mem : ∀ {ds : List D} {d : D}, okds ds = true → d ∈ ds → okd d = true
  | e :: ds, d, h, m => by
    unfold okds at h
    simp only [Bool.and_eq_true] at h
    rcases List.mem_cons.mp m with rfl | m
    · exact h.1
    · exact okds_mem h.2 m

section
variable {P : Program} {w : World} {K : PySem.W.Frag} {mg : Str → Option Value} {base : Heap}
def afFitsWhole : AF := fun ρ k => ∃ d lo hi, ρ = [.im d, .im (.int lo), .im (.int hi)] ∧ val d = true ∧ k (.bl (fitsWhole d lo hi)) ρ
theorem ok_fits_whole (Bn : Bt mg) (h : Here K mg "fits_whole" sFitsWhole ["value", "low", "high"]) : Df P w K mg base 1 "fits_whole" afFitsWhole := by
  refine df_ok h scFitsWhole [] (fun ρ kk h => by obtain ⟨_, _, _, rfl, _⟩ := h; rfl) (fun f cdv A outer s H E hr => ⟨_, _, _, (gss_one (gs_ret (ge_and (ge_isiK (K := K) .int Bn.isinstance Bn.int (gv 0)) (ge_and (ge_not (ge_isiK (K := K) .bool Bn.isinstance Bn.bool (gv 0))) (ge_one (ge_chain op_le lk_le op_le lk_le (gv 1) (gv 0) (gv 2))))))), fun ρ kk h => ?_⟩)
  obtain ⟨d, lo, hi, rfl, hv, hk⟩ := h
  refine ⟨rfl, ?_⟩
  cases d <;> try cases hv
  case int i =>
    try dsimp only [fAll, fSum, aRet, aRetN, aAndV, aOrV, aNotV, aIsi, aVar, aC, aChain, aOp, aUn, aTest, aTru, truD, aAnd, aOr, aNot, aIf, aCons, aNil, aTup, aLst, imAll, aCB, resAll, res, aCall, bok, isOw, bos, svOf, back, aNext, aSeq, aIfS, aAsg, aAsgO, aName, aGTup, aGCons, aGNil, aDrop, aFrz, frz, aOfL, fI0, fI, fNeg, fPlus, fLen, fTuple, fInt, fAbs, fMax2, fMin2, fIsN, fNotN, fIsB, fNotB, isNonD, isT, aApp, aAug, aPop, aSetI, aPar, aPar3, aMIm, aMFr, svM, aList, aSl, aPart, aNoPart, aISeq, aRg1, aRg2, aYes, wipeA, mrg, noOw, still, retA, Option.map, List.map, List.getElem?_cons_zero, List.getElem?_cons_succ, List.set_cons_zero, List.set_cons_succ, List.cons_append, List.nil_append, List.replicate, List.length_cons, List.length_nil, Bool.not_true, Bool.not_false, Bool.and_true, Bool.true_and, aZipTwo, aZip3]
    dsimp only [fitsWhole] at hk
    by_cases h1 : lo ≤ i
    · simp only [h1, decide_true, Bool.true_and, if_true, true_and] at hk ⊢; exact hk
    · simp only [h1, decide_false, Bool.false_and, if_true, true_and] at hk ⊢; exact hk
  all_goals exact ⟨rfl, hk⟩
def afIsTupleOf : AF := fun ρ k => ∃ d lo hi, ρ = [.im d, .im (.int lo), .im (.int hi)] ∧ val d = true ∧ k (.bl (isTup d lo hi)) ρ
theorem ok_is_tuple_of (Bn : Bt mg) (h : Here K mg "is_tuple_of" sIsTupleOf ["value", "least", "most"]) : Df P w K mg base 1 "is_tuple_of" afIsTupleOf := by
  refine df_ok h scIsTupleOf [] (fun ρ kk h => by obtain ⟨_, _, _, rfl, _⟩ := h; rfl) (fun f cdv A outer s H E hr => ⟨_, _, _, (gss_one (gs_ret (ge_and (ge_isiK (K := K) .tuple Bn.isinstance Bn.tuple (gv 0)) (ge_one (ge_chain op_le lk_le op_le lk_le (gv 1) (ge_lenK (K := K) Bn (ga_cons (gv 0) ga_nil)) (gv 2)))))), fun ρ kk h => ?_⟩)
  obtain ⟨d, lo, hi, rfl, hv, hk⟩ := h
  refine ⟨rfl, ?_⟩
  cases d <;> try cases hv
  case tup ds =>
    try dsimp only [fAll, fSum, aRet, aRetN, aAndV, aOrV, aNotV, aIsi, aVar, aC, aChain, aOp, aUn, aTest, aTru, truD, aAnd, aOr, aNot, aIf, aCons, aNil, aTup, aLst, imAll, aCB, resAll, res, aCall, bok, isOw, bos, svOf, back, aNext, aSeq, aIfS, aAsg, aAsgO, aName, aGTup, aGCons, aGNil, aDrop, aFrz, frz, aOfL, fI0, fI, fNeg, fPlus, fLen, fTuple, fInt, fAbs, fMax2, fMin2, fIsN, fNotN, fIsB, fNotB, isNonD, isT, aApp, aAug, aPop, aSetI, aPar, aPar3, aMIm, aMFr, svM, aList, aSl, aPart, aNoPart, aISeq, aRg1, aRg2, aYes, wipeA, mrg, noOw, still, retA, Option.map, List.map, List.getElem?_cons_zero, List.getElem?_cons_succ, List.set_cons_zero, List.set_cons_succ, List.cons_append, List.nil_append, List.replicate, List.length_cons, List.length_nil, Bool.not_true, Bool.not_false, Bool.and_true, Bool.true_and, aZipTwo, aZip3]
    dsimp only [isTup] at hk
    by_cases h1 : lo ≤ (ds.length : Int)
    · simp only [h1, decide_true, Bool.true_and, if_true, true_and] at hk ⊢; exact hk
    · simp only [h1, decide_false, Bool.false_and, if_true, true_and] at hk ⊢; exact hk
  all_goals exact ⟨rfl, hk⟩
def afFitsBox : AF := fun ρ k => ∃ d e most, ρ = [.im d, .im e, .im (.int most)] ∧ val d = true ∧ val e = true ∧ k (.bl (fitsWhole d 1 30 && fitsWhole e 1 most)) ρ
theorem ok_fits_box (Bn : Bt mg) (cGREAT : IsInt mg "GREAT" 30) (h : Here K mg "fits_box" sFitsBox ["high", "wide", "most"]) (d_fits_whole : Df P w K mg base 1 "fits_whole" afFitsWhole) : Df P w K mg base 2 "fits_box" afFitsBox := by
  refine df_ok h scFitsBox [] (fun ρ kk h => by obtain ⟨_, _, _, rfl, _⟩ := h; rfl) (fun f cdv A outer s H E hr => ⟨_, _, _, (gss_one (gs_ret (ge_and (ge_dfK d_fits_whole hr (ga_cons (gv 0) (ga_cons ge_int (ga_cons (ge_gint cGREAT) ga_nil)))) (ge_one (ge_dfK d_fits_whole hr (ga_cons (gv 1) (ga_cons ge_int (ga_cons (gv 2) ga_nil)))))))), fun ρ kk h => ?_⟩)
  obtain ⟨d, e, most, rfl, hv, hv2, hk⟩ := h
  refine ⟨rfl, ?_⟩
  try dsimp only [fAll, fSum, aRet, aRetN, aAndV, aOrV, aNotV, aIsi, aVar, aC, aChain, aOp, aUn, aTest, aTru, truD, aAnd, aOr, aNot, aIf, aCons, aNil, aTup, aLst, imAll, aCB, resAll, res, aCall, bok, isOw, bos, svOf, back, aNext, aSeq, aIfS, aAsg, aAsgO, aName, aGTup, aGCons, aGNil, aDrop, aFrz, frz, aOfL, fI0, fI, fNeg, fPlus, fLen, fTuple, fInt, fAbs, fMax2, fMin2, fIsN, fNotN, fIsB, fNotB, isNonD, isT, aApp, aAug, aPop, aSetI, aPar, aPar3, aMIm, aMFr, svM, aList, aSl, aPart, aNoPart, aISeq, aRg1, aRg2, aYes, wipeA, mrg, noOw, still, retA, Option.map, List.map, List.getElem?_cons_zero, List.getElem?_cons_succ, List.set_cons_zero, List.set_cons_succ, List.cons_append, List.nil_append, List.replicate, List.length_cons, List.length_nil, Bool.not_true, Bool.not_false, Bool.and_true, Bool.true_and, aZipTwo, aZip3]
  refine ⟨rfl, d, 1, 30, rfl, hv, ?_⟩
  try dsimp only [fAll, fSum, aRet, aRetN, aAndV, aOrV, aNotV, aIsi, aVar, aC, aChain, aOp, aUn, aTest, aTru, truD, aAnd, aOr, aNot, aIf, aCons, aNil, aTup, aLst, imAll, aCB, resAll, res, aCall, bok, isOw, bos, svOf, back, aNext, aSeq, aIfS, aAsg, aAsgO, aName, aGTup, aGCons, aGNil, aDrop, aFrz, frz, aOfL, fI0, fI, fNeg, fPlus, fLen, fTuple, fInt, fAbs, fMax2, fMin2, fIsN, fNotN, fIsB, fNotB, isNonD, isT, aApp, aAug, aPop, aSetI, aPar, aPar3, aMIm, aMFr, svM, aList, aSl, aPart, aNoPart, aISeq, aRg1, aRg2, aYes, wipeA, mrg, noOw, still, retA, Option.map, List.map, List.getElem?_cons_zero, List.getElem?_cons_succ, List.set_cons_zero, List.set_cons_succ, List.cons_append, List.nil_append, List.replicate, List.length_cons, List.length_nil, Bool.not_true, Bool.not_false, Bool.and_true, Bool.true_and, aZipTwo, aZip3]
  cases h1 : fitsWhole d 1 30 with
  | true =>
    rw [h1] at hk
    exact ⟨rfl, e, 1, most, rfl, hv2, rfl, hk⟩
  | false =>
    rw [h1] at hk
    exact ⟨rfl, hk⟩
theorem all_map_id {α : Type} (l : List α) (f : α → Bool) : (l.map f).all id = l.all f := by
  induction l with
  | nil => rfl
  | cons x l ih => simp only [List.map_cons, List.all_cons, ih, id]
theorem bls_fun {α : Type} (l : List α) (f : α → Bool) : bls (l.map fun x => D.bl (f x)) = some (l.map f) := by
  have := bls_map (l.map f)
  rw [List.map_map] at this
  exact this
def afFitsSigns : AF := fun ρ k => ∃ h w d most, ρ = [.im (.int h), .im (.int w), .im d, .im (.int most)] ∧ okd d = true ∧ (∀ ds, d = .tup ds → ds.length ≤ 1000000 ∧ ∀ r ∈ ds, ∀ ss, r = .tup ss → ss.length ≤ 1000000) ∧ k (.bl (fitsSigns h w d most)) ρ
theorem ok_fits_signs (Bn : Bt mg) (h : Here K mg "fits_signs" sFitsSigns ["high", "wide", "value", "most"]) (d_fits_whole : Df P w K mg base 1 "fits_whole" afFitsWhole) (d_is_tuple_of : Df P w K mg base 1 "is_tuple_of" afIsTupleOf) : Df P w K mg base 2 "fits_signs" afFitsSigns := by
  refine df_ok h scFitsSigns [.un, .un] (fun ρ kk h => by obtain ⟨_, _, _, _, rfl, _⟩ := h; rfl) (fun f cdv A outer s H E hr => ⟨_, _, _, (gss_cons (gs_if (GW.gt (gw_or (gt_not (gt_truthK (K := K) (ge_dfK d_is_tuple_of hr (ga_cons (gv 2) (ga_cons (gv 0) (ga_cons (gv 0) ga_nil)))))) (gw_or1 (gt_not (gt_truthK (K := K) (ge_allK (K := K) rfl Bn (ga_cons (GL.e (gl_lc rfl scFitsSigns.nd (blkOk_by (own := [("row", 4)]) (by kernel_rfl)) (gi_seqK (K := K) (gv 2)) (fun _ _ _ _ _ => (gg_name scFitsSigns.nd (i := 4))) (fun _ _ _ _ _ => gts_nil) (fun _ _ _ _ _ => (ge_dfK d_is_tuple_of hr (ga_cons (gv 4) (ga_cons (gv 1) (ga_cons (gv 1) ga_nil))))))) ga_nil))))))) (gss_one (gs_ret ge_bl)) gss_nil)
      (gss_one (gs_ret (ge_allK (K := K) rfl Bn (ga_cons (GL.e (gl_lc rfl scFitsSigns.nd (blkOk_by (own := [("row", 4)]) (by kernel_rfl)) (gi_seqK (K := K) (gv 2)) (fun _ _ _ _ _ => (gg_name scFitsSigns.nd (i := 4))) (fun _ _ _ _ _ => gts_nil) (fun _ _ _ _ _ => (ge_allK (K := K) rfl Bn (ga_cons (GL.e (gl_lc rfl scFitsSigns.nd (blkOk_by (own := [("sign", 5)]) (by kernel_rfl)) (gi_seqK (K := K) (gv 4)) (fun _ _ _ _ _ => (gg_name scFitsSigns.nd (i := 5))) (fun _ _ _ _ _ => gts_nil) (fun _ _ _ _ _ => (ge_dfK d_fits_whole hr (ga_cons (gv 5) (ga_cons ge_int (ga_cons (gv 3) ga_nil))))))) ga_nil))))) ga_nil))))), fun ρ kk h => ?_⟩)
  obtain ⟨hi, wi, d, most, rfl, hv, hz, hk⟩ := h
  refine ⟨rfl, ?_⟩
  try dsimp only [fAll, fSum, aRet, aRetN, aAndV, aOrV, aNotV, aIsi, aVar, aC, aChain, aOp, aUn, aTest, aTru, truD, aAnd, aOr, aNot, aIf, aCons, aNil, aTup, aLst, imAll, aCB, resAll, res, aCall, bok, isOw, bos, svOf, back, aNext, aSeq, aIfS, aAsg, aAsgO, aName, aGTup, aGCons, aGNil, aDrop, aFrz, frz, aOfL, fI0, fI, fNeg, fPlus, fLen, fTuple, fInt, fAbs, fMax2, fMin2, fIsN, fNotN, fIsB, fNotB, isNonD, isT, aApp, aAug, aPop, aSetI, aPar, aPar3, aMIm, aMFr, svM, aList, aSl, aPart, aNoPart, aISeq, aRg1, aRg2, aYes, wipeA, mrg, noOw, still, retA, Option.map, List.map, List.getElem?_cons_zero, List.getElem?_cons_succ, List.set_cons_zero, List.set_cons_succ, List.cons_append, List.nil_append, List.replicate, List.length_cons, List.length_nil, Bool.not_true, Bool.not_false, Bool.and_true, Bool.true_and, aZipTwo, aZip3]
  refine ⟨rfl, d, hi, hi, rfl, okd_val hv, ?_⟩
  try dsimp only [fAll, fSum, aRet, aRetN, aAndV, aOrV, aNotV, aIsi, aVar, aC, aChain, aOp, aUn, aTest, aTru, truD, aAnd, aOr, aNot, aIf, aCons, aNil, aTup, aLst, imAll, aCB, resAll, res, aCall, bok, isOw, bos, svOf, back, aNext, aSeq, aIfS, aAsg, aAsgO, aName, aGTup, aGCons, aGNil, aDrop, aFrz, frz, aOfL, fI0, fI, fNeg, fPlus, fLen, fTuple, fInt, fAbs, fMax2, fMin2, fIsN, fNotN, fIsB, fNotB, isNonD, isT, aApp, aAug, aPop, aSetI, aPar, aPar3, aMIm, aMFr, svM, aList, aSl, aPart, aNoPart, aISeq, aRg1, aRg2, aYes, wipeA, mrg, noOw, still, retA, Option.map, List.map, List.getElem?_cons_zero, List.getElem?_cons_succ, List.set_cons_zero, List.set_cons_succ, List.cons_append, List.nil_append, List.replicate, List.length_cons, List.length_nil, Bool.not_true, Bool.not_false, Bool.and_true, Bool.true_and, aZipTwo, aZip3]
  cases h1 : isTup d hi hi with
  | false =>
    have e : fitsSigns hi wi d most = false := by
      cases d with
      | tup ds =>
        dsimp only [fitsSigns]
        dsimp only [isTup] at h1
        have : ¬ (ds.length : Int) = hi := fun z => by rw [z] at h1; simp at h1
        simp only [decide_eq_false this, Bool.false_and]
      | _ => rfl
    rw [e] at hk
    exact ⟨rfl, hk⟩
  | true =>
    simp only [Bool.not_true, Bool.false_eq_true, if_false]
    cases d with
    | tup ds =>
      have hl : (ds.length : Int) = hi := by
        dsimp only [isTup] at h1
        simp only [Bool.and_eq_true, decide_eq_true_eq] at h1
        omega
      have hz1 := (hz ds rfl).1
      have hz2 := (hz ds rfl).2
      have hv' : okds ds = true := by unfold okd at hv; exact hv
      refine aLc_map ds (fun r => .bl (isTup r wi wi)) (fun _ h => h) rfl hz1 (fun r hr Wy hW => ?_) ?_
      · try dsimp only [fAll, fSum, aRet, aRetN, aAndV, aOrV, aNotV, aIsi, aVar, aC, aChain, aOp, aUn, aTest, aTru, truD, aAnd, aOr, aNot, aIf, aCons, aNil, aTup, aLst, imAll, aCB, resAll, res, aCall, bok, isOw, bos, svOf, back, aNext, aSeq, aIfS, aAsg, aAsgO, aName, aGTup, aGCons, aGNil, aDrop, aFrz, frz, aOfL, fI0, fI, fNeg, fPlus, fLen, fTuple, fInt, fAbs, fMax2, fMin2, fIsN, fNotN, fIsB, fNotB, isNonD, isT, aApp, aAug, aPop, aSetI, aPar, aPar3, aMIm, aMFr, svM, aList, aSl, aPart, aNoPart, aISeq, aRg1, aRg2, aYes, wipeA, mrg, noOw, still, retA, Option.map, List.map, List.getElem?_cons_zero, List.getElem?_cons_succ, List.set_cons_zero, List.set_cons_succ, List.cons_append, List.nil_append, List.replicate, List.length_cons, List.length_nil, Bool.not_true, Bool.not_false, Bool.and_true, Bool.true_and, aZipTwo, aZip3]
        exact ⟨rfl, r, wi, wi, rfl, okd_val (okds_mem hv' hr), _, rfl, hW⟩
      · try dsimp only [fAll, fSum, aRet, aRetN, aAndV, aOrV, aNotV, aIsi, aVar, aC, aChain, aOp, aUn, aTest, aTru, truD, aAnd, aOr, aNot, aIf, aCons, aNil, aTup, aLst, imAll, aCB, resAll, res, aCall, bok, isOw, bos, svOf, back, aNext, aSeq, aIfS, aAsg, aAsgO, aName, aGTup, aGCons, aGNil, aDrop, aFrz, frz, aOfL, fI0, fI, fNeg, fPlus, fLen, fTuple, fInt, fAbs, fMax2, fMin2, fIsN, fNotN, fIsB, fNotB, isNonD, isT, aApp, aAug, aPop, aSetI, aPar, aPar3, aMIm, aMFr, svM, aList, aSl, aPart, aNoPart, aISeq, aRg1, aRg2, aYes, wipeA, mrg, noOw, still, retA, Option.map, List.map, List.getElem?_cons_zero, List.getElem?_cons_succ, List.set_cons_zero, List.set_cons_succ, List.cons_append, List.nil_append, List.replicate, List.length_cons, List.length_nil, Bool.not_true, Bool.not_false, Bool.and_true, Bool.true_and, aZipTwo, aZip3]
        refine ⟨_, bls_fun ds fun r => isTup r wi wi, ?_⟩
        rw [all_map_id]
        try dsimp only [fAll, fSum, aRet, aRetN, aAndV, aOrV, aNotV, aIsi, aVar, aC, aChain, aOp, aUn, aTest, aTru, truD, aAnd, aOr, aNot, aIf, aCons, aNil, aTup, aLst, imAll, aCB, resAll, res, aCall, bok, isOw, bos, svOf, back, aNext, aSeq, aIfS, aAsg, aAsgO, aName, aGTup, aGCons, aGNil, aDrop, aFrz, frz, aOfL, fI0, fI, fNeg, fPlus, fLen, fTuple, fInt, fAbs, fMax2, fMin2, fIsN, fNotN, fIsB, fNotB, isNonD, isT, aApp, aAug, aPop, aSetI, aPar, aPar3, aMIm, aMFr, svM, aList, aSl, aPart, aNoPart, aISeq, aRg1, aRg2, aYes, wipeA, mrg, noOw, still, retA, Option.map, List.map, List.getElem?_cons_zero, List.getElem?_cons_succ, List.set_cons_zero, List.set_cons_succ, List.cons_append, List.nil_append, List.replicate, List.length_cons, List.length_nil, Bool.not_true, Bool.not_false, Bool.and_true, Bool.true_and, aZipTwo, aZip3]
        dsimp only [fitsSigns] at hk
        rw [decide_eq_true hl, Bool.true_and] at hk
        cases h2 : ds.all fun r => isTup r wi wi with
        | false =>
          rw [h2] at hk
          exact ⟨rfl, hk⟩
        | true =>
          rw [h2, Bool.true_and] at hk
          simp only [Bool.not_true, Bool.false_eq_true, if_false]
          refine aLc_map ds (fun r => .bl (signs most r)) (fun _ h => h) rfl hz1 (fun r hr Wy hW => ?_) ?_
          · have h3 := List.all_eq_true.mp h2 r hr
            have hvr := okds_mem hv' hr
            cases r with
            | tup ss =>
              have hss := hz2 _ hr ss rfl
              have hvs : okds ss = true := by unfold okd at hvr; exact hvr
              try dsimp only [fAll, fSum, aRet, aRetN, aAndV, aOrV, aNotV, aIsi, aVar, aC, aChain, aOp, aUn, aTest, aTru, truD, aAnd, aOr, aNot, aIf, aCons, aNil, aTup, aLst, imAll, aCB, resAll, res, aCall, bok, isOw, bos, svOf, back, aNext, aSeq, aIfS, aAsg, aAsgO, aName, aGTup, aGCons, aGNil, aDrop, aFrz, frz, aOfL, fI0, fI, fNeg, fPlus, fLen, fTuple, fInt, fAbs, fMax2, fMin2, fIsN, fNotN, fIsB, fNotB, isNonD, isT, aApp, aAug, aPop, aSetI, aPar, aPar3, aMIm, aMFr, svM, aList, aSl, aPart, aNoPart, aISeq, aRg1, aRg2, aYes, wipeA, mrg, noOw, still, retA, Option.map, List.map, List.getElem?_cons_zero, List.getElem?_cons_succ, List.set_cons_zero, List.set_cons_succ, List.cons_append, List.nil_append, List.replicate, List.length_cons, List.length_nil, Bool.not_true, Bool.not_false, Bool.and_true, Bool.true_and, aZipTwo, aZip3]
              refine aLc_map ss (fun s => .bl (fitsWhole s 0 most)) (fun _ h => h) rfl hss (fun x hx Wz hWz => ?_) ?_
              · try dsimp only [fAll, fSum, aRet, aRetN, aAndV, aOrV, aNotV, aIsi, aVar, aC, aChain, aOp, aUn, aTest, aTru, truD, aAnd, aOr, aNot, aIf, aCons, aNil, aTup, aLst, imAll, aCB, resAll, res, aCall, bok, isOw, bos, svOf, back, aNext, aSeq, aIfS, aAsg, aAsgO, aName, aGTup, aGCons, aGNil, aDrop, aFrz, frz, aOfL, fI0, fI, fNeg, fPlus, fLen, fTuple, fInt, fAbs, fMax2, fMin2, fIsN, fNotN, fIsB, fNotB, isNonD, isT, aApp, aAug, aPop, aSetI, aPar, aPar3, aMIm, aMFr, svM, aList, aSl, aPart, aNoPart, aISeq, aRg1, aRg2, aYes, wipeA, mrg, noOw, still, retA, Option.map, List.map, List.getElem?_cons_zero, List.getElem?_cons_succ, List.set_cons_zero, List.set_cons_succ, List.cons_append, List.nil_append, List.replicate, List.length_cons, List.length_nil, Bool.not_true, Bool.not_false, Bool.and_true, Bool.true_and, aZipTwo, aZip3]
                exact ⟨rfl, x, 0, most, rfl, okd_val (okds_mem hvs hx), _, rfl, hWz⟩
              · try dsimp only [fAll, fSum, aRet, aRetN, aAndV, aOrV, aNotV, aIsi, aVar, aC, aChain, aOp, aUn, aTest, aTru, truD, aAnd, aOr, aNot, aIf, aCons, aNil, aTup, aLst, imAll, aCB, resAll, res, aCall, bok, isOw, bos, svOf, back, aNext, aSeq, aIfS, aAsg, aAsgO, aName, aGTup, aGCons, aGNil, aDrop, aFrz, frz, aOfL, fI0, fI, fNeg, fPlus, fLen, fTuple, fInt, fAbs, fMax2, fMin2, fIsN, fNotN, fIsB, fNotB, isNonD, isT, aApp, aAug, aPop, aSetI, aPar, aPar3, aMIm, aMFr, svM, aList, aSl, aPart, aNoPart, aISeq, aRg1, aRg2, aYes, wipeA, mrg, noOw, still, retA, Option.map, List.map, List.getElem?_cons_zero, List.getElem?_cons_succ, List.set_cons_zero, List.set_cons_succ, List.cons_append, List.nil_append, List.replicate, List.length_cons, List.length_nil, Bool.not_true, Bool.not_false, Bool.and_true, Bool.true_and, aZipTwo, aZip3]
                refine ⟨_, bls_fun ss fun s => fitsWhole s 0 most, _, rfl, ?_⟩
                rw [all_map_id]
                exact hW
            | _ => cases h3
          · try dsimp only [fAll, fSum, aRet, aRetN, aAndV, aOrV, aNotV, aIsi, aVar, aC, aChain, aOp, aUn, aTest, aTru, truD, aAnd, aOr, aNot, aIf, aCons, aNil, aTup, aLst, imAll, aCB, resAll, res, aCall, bok, isOw, bos, svOf, back, aNext, aSeq, aIfS, aAsg, aAsgO, aName, aGTup, aGCons, aGNil, aDrop, aFrz, frz, aOfL, fI0, fI, fNeg, fPlus, fLen, fTuple, fInt, fAbs, fMax2, fMin2, fIsN, fNotN, fIsB, fNotB, isNonD, isT, aApp, aAug, aPop, aSetI, aPar, aPar3, aMIm, aMFr, svM, aList, aSl, aPart, aNoPart, aISeq, aRg1, aRg2, aYes, wipeA, mrg, noOw, still, retA, Option.map, List.map, List.getElem?_cons_zero, List.getElem?_cons_succ, List.set_cons_zero, List.set_cons_succ, List.cons_append, List.nil_append, List.replicate, List.length_cons, List.length_nil, Bool.not_true, Bool.not_false, Bool.and_true, Bool.true_and, aZipTwo, aZip3]
            refine ⟨_, bls_fun ds (signs most), rfl, ?_⟩
            rw [all_map_id]
            exact hk
    | _ => cases h1
end
end K76

namespace K76
open PySem PySem.Spec L2 DL
open PyProof.Rows hiding St
abbrev mx (i j : Int) : Int := if j > i then j else i
abbrev mn (i j : Int) : Int := if j < i then j else i
def cellD (p : Int × Int) : D := .tup [.int p.1, .int p.2]
def ax (h r : Int) : List Int := rgI (mx 0 (r - 1)) (mn h (r + 2))
def around (h w r c : Int) : List (Int × Int) := ((ax h r).flatMap fun d => (ax w c).map fun e => (d, e)).filter fun p => !(p.1 == r && p.2 == c)
theorem ax_len (h r : Int) : (ax h r).length ≤ 3 := by
  unfold ax mx mn
  rw [rgI_len]
  split <;> split <;> omega
theorem ax_mem {h r i : Int} (m : i ∈ ax h r) : 0 ≤ i ∧ i < h := by
  unfold ax mx mn at m
  have := rgI_mem.mp m
  split at this <;> split at this <;> omega
theorem fm_len {α : Type} {β : Type} (xs : List α) (ys : List β) : (xs.flatMap fun d => ys.map fun e => (d, e)).length = xs.length * ys.length := by
  induction xs with
  | nil => simp
  | cons x xs ih => rw [List.flatMap_cons, List.length_append, ih, List.length_map, List.length_cons, Nat.succ_mul, Nat.add_comm]
section
variable {P : Program} {w : World} {K : PySem.W.Frag} {mg : Str → Option Value} {base : Heap}
theorem shp_cell (p : Int × Int) : shp (cellD p) = true := by rfl
theorem eqv_cell (p q : Int × Int) : eqv (cellD p) (cellD q) = (p.1 == q.1 && p.2 == q.2) := by
  simp [cellD, eqv, eqvs]
def afAroundIn : AF := fun ρ k => ∃ h w r c, ρ = [.im (.int h), .im (.int w), .im (.int r), .im (.int c)] ∧ (0 ≤ h ∧ h ≤ 1000 ∧ 0 ≤ w ∧ w ≤ 1000 ∧ 0 ≤ r ∧ r ≤ 1000 ∧ 0 ≤ c ∧ c ≤ 1000) ∧ k (.lst ((around h w r c).map cellD)) ρ
theorem ok_around_in (Bn : Bt mg) (h : Here K mg "around_in" sAroundIn ["high", "wide", "row", "column"]) : Df P w K mg base 1 "around_in" afAroundIn := by
  refine df_ok h scAroundIn [.un, .un, .un, .un] (fun ρ kk h => by obtain ⟨_, _, _, _, rfl, _⟩ := h; rfl) (fun f cdv A outer s H E hr => ⟨_, _, _, (gss_cons (gs_setO (i := 4) scAroundIn.nd (gl_lst ga_nil))
      (gss_cons (gs_for PassesOwn.never rfl (gi_rg2 Bn (ga_cons (ge_max2 rfl Bn (ga_cons ge_int (ga_cons (ge_op op_sub lk_sub (gv 2) ge_int) ga_nil))) (ga_cons (ge_min2 rfl Bn (ga_cons (gv 0) (ga_cons (ge_plus (K := K) (gv 2) ge_int) ga_nil))) ga_nil))) (gg_name scAroundIn.nd (i := 5))
      (gss_one (gs_aug (i := 4) scAroundIn.nd (GL.e (gl_lc rfl scAroundIn.nd (blkOk_by (own := [("right", 6)]) (by kernel_rfl)) (gi_rg2 Bn (ga_cons (ge_max2 rfl Bn (ga_cons ge_int (ga_cons (ge_op op_sub lk_sub (gv 3) ge_int) ga_nil))) (ga_cons (ge_min2 rfl Bn (ga_cons (gv 1) (ga_cons (ge_plus (K := K) (gv 3) ge_int) ga_nil))) ga_nil))) (fun _ _ _ _ _ => (gg_name scAroundIn.nd (i := 6))) (fun _ _ _ _ _ => gts_nil) (fun _ _ _ _ _ => (ge_tup (ga_cons (gv 5) (ga_cons (gv 6) ga_nil)))))))))
      (gss_one (gs_frz 4 (gs_ret (GL.e (gl_lc rfl scAroundIn.nd (blkOk_by (own := [("cell", 7)]) (by kernel_rfl)) (gi_seqK (K := K) (gv 4)) (fun _ _ _ _ _ => (gg_name scAroundIn.nd (i := 7))) (fun _ _ _ _ _ => (gts_one (gt_ne (K := K) hr.units (gv 7) (ge_tup (ga_cons (gv 2) (ga_cons (gv 3) ga_nil))) (nomark _)))) (fun _ _ _ _ _ => (gv 7))))))))), fun ρ kk h => ?_⟩)
  obtain ⟨hh, ww, r, c, rfl, hb, hk⟩ := h
  refine ⟨rfl, ?_⟩
  try dsimp only [fAll, fSum, aRet, aRetN, aAndV, aOrV, aNotV, aIsi, aVar, aC, aChain, aOp, aUn, aTest, aTru, truD, aAnd, aOr, aNot, aIf, aCons, aNil, aTup, aLst, imAll, aCB, resAll, res, aCall, bok, isOw, bos, svOf, back, aNext, aSeq, aIfS, aAsg, aAsgO, aName, aGTup, aGCons, aGNil, aDrop, aFrz, frz, aOfL, fI0, fI, fNeg, fPlus, fLen, fTuple, fInt, fAbs, fMax2, fMin2, fIsN, fNotN, fIsB, fNotB, isNonD, isT, aApp, aAug, aPop, aSetI, aPar, aPar3, aMIm, aMFr, svM, aList, aSl, aPart, aNoPart, aISeq, aRg1, aRg2, aYes, wipeA, mrg, noOw, still, retA, Option.map, List.map, List.getElem?_cons_zero, List.getElem?_cons_succ, List.set_cons_zero, List.set_cons_succ, List.cons_append, List.nil_append, List.replicate, List.length_cons, List.length_nil, Bool.not_true, Bool.not_false, Bool.and_true, Bool.true_and, aZipTwo, aZip3]
  refine ⟨by decide, ?_⟩
  refine aFor_map (ax hh r) D.int (fun pre ρ' => ∃ s, ρ' = [.im (.int hh), .im (.int ww), .im (.int r), .im (.int c), .ow (.ol ((pre.flatMap fun d => (ax ww c).map fun e => (d, e)).map cellD)), s, .un, .un]) (fun k' hk' => ?_) ⟨_, rfl⟩ (fun pre x post ρ' hx hI N hN => ?_) ?_
  · try dsimp only [fAll, fSum, aRet, aRetN, aAndV, aOrV, aNotV, aIsi, aVar, aC, aChain, aOp, aUn, aTest, aTru, truD, aAnd, aOr, aNot, aIf, aCons, aNil, aTup, aLst, imAll, aCB, resAll, res, aCall, bok, isOw, bos, svOf, back, aNext, aSeq, aIfS, aAsg, aAsgO, aName, aGTup, aGCons, aGNil, aDrop, aFrz, frz, aOfL, fI0, fI, fNeg, fPlus, fLen, fTuple, fInt, fAbs, fMax2, fMin2, fIsN, fNotN, fIsB, fNotB, isNonD, isT, aApp, aAug, aPop, aSetI, aPar, aPar3, aMIm, aMFr, svM, aList, aSl, aPart, aNoPart, aISeq, aRg1, aRg2, aYes, wipeA, mrg, noOw, still, retA, Option.map, List.map, List.getElem?_cons_zero, List.getElem?_cons_succ, List.set_cons_zero, List.set_cons_succ, List.cons_append, List.nil_append, List.replicate, List.length_cons, List.length_nil, Bool.not_true, Bool.not_false, Bool.and_true, Bool.true_and, aZipTwo, aZip3]
    rw [rng_rgI]
    unfold ax mx mn at hk'
    refine ⟨?_, hk'⟩
    split <;> split <;> omega
  · obtain ⟨s, rfl⟩ := hI
    try dsimp only [fAll, fSum, aRet, aRetN, aAndV, aOrV, aNotV, aIsi, aVar, aC, aChain, aOp, aUn, aTest, aTru, truD, aAnd, aOr, aNot, aIf, aCons, aNil, aTup, aLst, imAll, aCB, resAll, res, aCall, bok, isOw, bos, svOf, back, aNext, aSeq, aIfS, aAsg, aAsgO, aName, aGTup, aGCons, aGNil, aDrop, aFrz, frz, aOfL, fI0, fI, fNeg, fPlus, fLen, fTuple, fInt, fAbs, fMax2, fMin2, fIsN, fNotN, fIsB, fNotB, isNonD, isT, aApp, aAug, aPop, aSetI, aPar, aPar3, aMIm, aMFr, svM, aList, aSl, aPart, aNoPart, aISeq, aRg1, aRg2, aYes, wipeA, mrg, noOw, still, retA, Option.map, List.map, List.getElem?_cons_zero, List.getElem?_cons_succ, List.set_cons_zero, List.set_cons_succ, List.cons_append, List.nil_append, List.replicate, List.length_cons, List.length_nil, Bool.not_true, Bool.not_false, Bool.and_true, Bool.true_and, aZipTwo, aZip3]
    refine aLc_mapM (ax ww c) D.int (fun e => cellD (x, e)) (fun k' hk' => ?_) rfl (by have := ax_len ww c; omega) (fun e he Wy hW => ?_) ?_
    · try dsimp only [fAll, fSum, aRet, aRetN, aAndV, aOrV, aNotV, aIsi, aVar, aC, aChain, aOp, aUn, aTest, aTru, truD, aAnd, aOr, aNot, aIf, aCons, aNil, aTup, aLst, imAll, aCB, resAll, res, aCall, bok, isOw, bos, svOf, back, aNext, aSeq, aIfS, aAsg, aAsgO, aName, aGTup, aGCons, aGNil, aDrop, aFrz, frz, aOfL, fI0, fI, fNeg, fPlus, fLen, fTuple, fInt, fAbs, fMax2, fMin2, fIsN, fNotN, fIsB, fNotB, isNonD, isT, aApp, aAug, aPop, aSetI, aPar, aPar3, aMIm, aMFr, svM, aList, aSl, aPart, aNoPart, aISeq, aRg1, aRg2, aYes, wipeA, mrg, noOw, still, retA, Option.map, List.map, List.getElem?_cons_zero, List.getElem?_cons_succ, List.set_cons_zero, List.set_cons_succ, List.cons_append, List.nil_append, List.replicate, List.length_cons, List.length_nil, Bool.not_true, Bool.not_false, Bool.and_true, Bool.true_and, aZipTwo, aZip3]
      rw [rng_rgI]
      unfold ax mx mn at hk'
      refine ⟨?_, hk'⟩
      split <;> split <;> omega
    · try dsimp only [fAll, fSum, aRet, aRetN, aAndV, aOrV, aNotV, aIsi, aVar, aC, aChain, aOp, aUn, aTest, aTru, truD, aAnd, aOr, aNot, aIf, aCons, aNil, aTup, aLst, imAll, aCB, resAll, res, aCall, bok, isOw, bos, svOf, back, aNext, aSeq, aIfS, aAsg, aAsgO, aName, aGTup, aGCons, aGNil, aDrop, aFrz, frz, aOfL, fI0, fI, fNeg, fPlus, fLen, fTuple, fInt, fAbs, fMax2, fMin2, fIsN, fNotN, fIsB, fNotB, isNonD, isT, aApp, aAug, aPop, aSetI, aPar, aPar3, aMIm, aMFr, svM, aList, aSl, aPart, aNoPart, aISeq, aRg1, aRg2, aYes, wipeA, mrg, noOw, still, retA, Option.map, List.map, List.getElem?_cons_zero, List.getElem?_cons_succ, List.set_cons_zero, List.set_cons_succ, List.cons_append, List.nil_append, List.replicate, List.length_cons, List.length_nil, Bool.not_true, Bool.not_false, Bool.and_true, Bool.true_and, aZipTwo, aZip3]
      exact ⟨by decide, _, rfl, hW⟩
    · try dsimp only [fAll, fSum, aRet, aRetN, aAndV, aOrV, aNotV, aIsi, aVar, aC, aChain, aOp, aUn, aTest, aTru, truD, aAnd, aOr, aNot, aIf, aCons, aNil, aTup, aLst, imAll, aCB, resAll, res, aCall, bok, isOw, bos, svOf, back, aNext, aSeq, aIfS, aAsg, aAsgO, aName, aGTup, aGCons, aGNil, aDrop, aFrz, frz, aOfL, fI0, fI, fNeg, fPlus, fLen, fTuple, fInt, fAbs, fMax2, fMin2, fIsN, fNotN, fIsB, fNotB, isNonD, isT, aApp, aAug, aPop, aSetI, aPar, aPar3, aMIm, aMFr, svM, aList, aSl, aPart, aNoPart, aISeq, aRg1, aRg2, aYes, wipeA, mrg, noOw, still, retA, Option.map, List.map, List.getElem?_cons_zero, List.getElem?_cons_succ, List.set_cons_zero, List.set_cons_succ, List.cons_append, List.nil_append, List.replicate, List.length_cons, List.length_nil, Bool.not_true, Bool.not_false, Bool.and_true, Bool.true_and, aZipTwo, aZip3]
      have h1 := ax_len hh r
      have h2 := ax_len ww c
      refine ⟨?_, hN _ ⟨.im (.int x), ?_⟩⟩
      · rw [List.length_map, List.length_map, fm_len]
        have h3 : pre.length ≤ 3 := by rw [hx, List.length_append] at h1; omega
        have := Nat.mul_le_mul h3 h2
        omega
      · rw [List.flatMap_append, List.map_append]
        simp only [List.flatMap_cons, List.flatMap_nil, List.append_nil, List.map_map]
        rfl
  · rintro ρ' ⟨s, rfl⟩
    try dsimp only [fAll, fSum, aRet, aRetN, aAndV, aOrV, aNotV, aIsi, aVar, aC, aChain, aOp, aUn, aTest, aTru, truD, aAnd, aOr, aNot, aIf, aCons, aNil, aTup, aLst, imAll, aCB, resAll, res, aCall, bok, isOw, bos, svOf, back, aNext, aSeq, aIfS, aAsg, aAsgO, aName, aGTup, aGCons, aGNil, aDrop, aFrz, frz, aOfL, fI0, fI, fNeg, fPlus, fLen, fTuple, fInt, fAbs, fMax2, fMin2, fIsN, fNotN, fIsB, fNotB, isNonD, isT, aApp, aAug, aPop, aSetI, aPar, aPar3, aMIm, aMFr, svM, aList, aSl, aPart, aNoPart, aISeq, aRg1, aRg2, aYes, wipeA, mrg, noOw, still, retA, Option.map, List.map, List.getElem?_cons_zero, List.getElem?_cons_succ, List.set_cons_zero, List.set_cons_succ, List.cons_append, List.nil_append, List.replicate, List.length_cons, List.length_nil, Bool.not_true, Bool.not_false, Bool.and_true, Bool.true_and, aZipTwo, aZip3]
    refine aLc_pureM ((ax hh r).flatMap fun d => (ax ww c).map fun e => (d, e)) cellD (fun p => !(p.1 == r && p.2 == c)) cellD (fun k' hk' => ?_) rfl ?_ (fun p hp Wy Wn hy hn => ?_) ?_
    · try dsimp only [fAll, fSum, aRet, aRetN, aAndV, aOrV, aNotV, aIsi, aVar, aC, aChain, aOp, aUn, aTest, aTru, truD, aAnd, aOr, aNot, aIf, aCons, aNil, aTup, aLst, imAll, aCB, resAll, res, aCall, bok, isOw, bos, svOf, back, aNext, aSeq, aIfS, aAsg, aAsgO, aName, aGTup, aGCons, aGNil, aDrop, aFrz, frz, aOfL, fI0, fI, fNeg, fPlus, fLen, fTuple, fInt, fAbs, fMax2, fMin2, fIsN, fNotN, fIsB, fNotB, isNonD, isT, aApp, aAug, aPop, aSetI, aPar, aPar3, aMIm, aMFr, svM, aList, aSl, aPart, aNoPart, aISeq, aRg1, aRg2, aYes, wipeA, mrg, noOw, still, retA, Option.map, List.map, List.getElem?_cons_zero, List.getElem?_cons_succ, List.set_cons_zero, List.set_cons_succ, List.cons_append, List.nil_append, List.replicate, List.length_cons, List.length_nil, Bool.not_true, Bool.not_false, Bool.and_true, Bool.true_and, aZipTwo, aZip3]
      exact hk'
    · have h1 := ax_len hh r
      have h2 := ax_len ww c
      rw [fm_len]
      have := Nat.mul_le_mul h1 h2
      omega
    · try dsimp only [fAll, fSum, aRet, aRetN, aAndV, aOrV, aNotV, aIsi, aVar, aC, aChain, aOp, aUn, aTest, aTru, truD, aAnd, aOr, aNot, aIf, aCons, aNil, aTup, aLst, imAll, aCB, resAll, res, aCall, bok, isOw, bos, svOf, back, aNext, aSeq, aIfS, aAsg, aAsgO, aName, aGTup, aGCons, aGNil, aDrop, aFrz, frz, aOfL, fI0, fI, fNeg, fPlus, fLen, fTuple, fInt, fAbs, fMax2, fMin2, fIsN, fNotN, fIsB, fNotB, isNonD, isT, aApp, aAug, aPop, aSetI, aPar, aPar3, aMIm, aMFr, svM, aList, aSl, aPart, aNoPart, aISeq, aRg1, aRg2, aYes, wipeA, mrg, noOw, still, retA, Option.map, List.map, List.getElem?_cons_zero, List.getElem?_cons_succ, List.set_cons_zero, List.set_cons_succ, List.cons_append, List.nil_append, List.replicate, List.length_cons, List.length_nil, Bool.not_true, Bool.not_false, Bool.and_true, Bool.true_and, aZipTwo, aZip3]
      refine ⟨by decide, shp_cell p, shp_cell (r, c), ?_⟩
      rw [show D.tup [.int r, .int c] = cellD (r, c) from rfl, eqv_cell]
      try dsimp only [fAll, fSum, aRet, aRetN, aAndV, aOrV, aNotV, aIsi, aVar, aC, aChain, aOp, aUn, aTest, aTru, truD, aAnd, aOr, aNot, aIf, aCons, aNil, aTup, aLst, imAll, aCB, resAll, res, aCall, bok, isOw, bos, svOf, back, aNext, aSeq, aIfS, aAsg, aAsgO, aName, aGTup, aGCons, aGNil, aDrop, aFrz, frz, aOfL, fI0, fI, fNeg, fPlus, fLen, fTuple, fInt, fAbs, fMax2, fMin2, fIsN, fNotN, fIsB, fNotB, isNonD, isT, aApp, aAug, aPop, aSetI, aPar, aPar3, aMIm, aMFr, svM, aList, aSl, aPart, aNoPart, aISeq, aRg1, aRg2, aYes, wipeA, mrg, noOw, still, retA, Option.map, List.map, List.getElem?_cons_zero, List.getElem?_cons_succ, List.set_cons_zero, List.set_cons_succ, List.cons_append, List.nil_append, List.replicate, List.length_cons, List.length_nil, Bool.not_true, Bool.not_false, Bool.and_true, Bool.true_and, aZipTwo, aZip3]
      cases e : !(p.1 == r && p.2 == c) with
      | true => exact ⟨_, rfl, hy e⟩
      | false => exact hn e
    · try dsimp only [fAll, fSum, aRet, aRetN, aAndV, aOrV, aNotV, aIsi, aVar, aC, aChain, aOp, aUn, aTest, aTru, truD, aAnd, aOr, aNot, aIf, aCons, aNil, aTup, aLst, imAll, aCB, resAll, res, aCall, bok, isOw, bos, svOf, back, aNext, aSeq, aIfS, aAsg, aAsgO, aName, aGTup, aGCons, aGNil, aDrop, aFrz, frz, aOfL, fI0, fI, fNeg, fPlus, fLen, fTuple, fInt, fAbs, fMax2, fMin2, fIsN, fNotN, fIsB, fNotB, isNonD, isT, aApp, aAug, aPop, aSetI, aPar, aPar3, aMIm, aMFr, svM, aList, aSl, aPart, aNoPart, aISeq, aRg1, aRg2, aYes, wipeA, mrg, noOw, still, retA, Option.map, List.map, List.getElem?_cons_zero, List.getElem?_cons_succ, List.set_cons_zero, List.set_cons_succ, List.cons_append, List.nil_append, List.replicate, List.length_cons, List.length_nil, Bool.not_true, Bool.not_false, Bool.and_true, Bool.true_and, aZipTwo, aZip3]
      exact ⟨rfl, hk⟩

/-! ### grids of whole numbers -/
abbrev Gr := List (List Int)
def rowD (r : List Int) : D := .tup (r.map D.int)
def gridD (m : Gr) : D := .tup (m.map rowD)
structure Grid (h w : Int) (m : Gr) : Prop where
  len : (m.length : Int) = h
  row : ∀ r ∈ m, (r.length : Int) = w
def Within (most : Int) (m : Gr) : Prop := ∀ r ∈ m, ∀ x ∈ r, 0 ≤ x ∧ x ≤ most
def cel (m : Gr) (i j : Int) : Int := (m.getD i.toNat []).getD j.toNat 0
theorem gix {m : Gr} {i : Int} (h0 : 0 ≤ i) (h1 : i < (m.length : Int)) : atI (m.map rowD) i = some (rowD (m.getD i.toNat [])) := by
  have hi : i.toNat < m.length := by omega
  refine atI_nat h0 ?_
  rw [List.getElem?_map, List.getElem?_eq_getElem hi, List.getD_eq_getElem?_getD, List.getElem?_eq_getElem hi]; rfl
theorem rix {r : List Int} {j : Int} (h0 : 0 ≤ j) (h1 : j < (r.length : Int)) : atI (r.map D.int) j = some (.int (r.getD j.toNat 0)) := by
  have hi : j.toNat < r.length := by omega
  refine atI_nat h0 ?_
  rw [List.getElem?_map, List.getElem?_eq_getElem hi, List.getD_eq_getElem?_getD, List.getElem?_eq_getElem hi]; rfl
theorem Grid.at {h w : Int} {m : Gr} (g : Grid h w m) {i : Int} (h0 : 0 ≤ i) (h1 : i < h) : m.getD i.toNat [] ∈ m ∧ ((m.getD i.toNat []).length : Int) = w := by
  have hl := g.len
  have hi : i.toNat < m.length := by omega
  have e : m.getD i.toNat [] = m[i.toNat] := by rw [List.getD_eq_getElem?_getD, List.getElem?_eq_getElem hi]; rfl
  rw [e]
  exact ⟨List.getElem_mem hi, g.row _ (List.getElem_mem hi)⟩
theorem signs_row {most : Int} {r : List Int} : signs most (rowD r) = r.all fun x => decide (0 ≤ x) && decide (x ≤ most) := by
  unfold signs rowD
  simp only [List.all_map]
  rfl
theorem fits_grid {h w most : Int} {m : Gr} (g : Grid h w m) (a : Within most m) : fitsSigns h w (gridD m) most = true := by
  unfold fitsSigns gridD
  simp only [List.length_map, List.all_map, Bool.and_eq_true, decide_eq_true_eq, List.all_eq_true, Function.comp]
  refine ⟨⟨g.len, fun r hr => ?_⟩, fun r hr => ?_⟩
  · unfold isTup rowD
    have := g.row r hr
    simp only [List.length_map, this]
    simp
  · rw [signs_row]
    simp only [List.all_eq_true, Bool.and_eq_true, decide_eq_true_eq]
    exact a r hr
def sized (d : D) : Prop := ∀ ds, d = .tup ds → ds.length ≤ 1000000 ∧ ∀ r ∈ ds, ∀ ss, r = .tup ss → ss.length ≤ 1000000
theorem okds_ints (r : List Int) : okds (r.map D.int) = true := by
  induction r with
  | nil => rfl
  | cons x r ih => rw [List.map_cons]; unfold okds okd; rw [ih]; rfl
theorem okd_row (r : List Int) : okd (rowD r) = true := by unfold rowD okd; exact okds_ints r
theorem okds_rows (m : Gr) : okds (m.map rowD) = true := by
  induction m with
  | nil => rfl
  | cons x r ih => rw [List.map_cons]; unfold okds; rw [ih, okd_row]; rfl
theorem okd_grid (m : Gr) : okd (gridD m) = true := by unfold gridD okd; exact okds_rows m
theorem sized_grid {h w : Int} {m : Gr} (g : Grid h w m) (hh : h ≤ 1000) (hw : w ≤ 1000) : sized (gridD m) := by
  intro ds e
  unfold gridD at e
  cases e
  have := g.len
  refine ⟨by rw [List.length_map]; omega, fun r hr ss e => ?_⟩
  obtain ⟨q, hq, rfl⟩ := List.mem_map.mp hr
  unfold rowD at e
  cases e
  have := g.row q hq
  rw [List.length_map]; omega

theorem ok_fits_signs' (Bn : Bt mg) (h : Here K mg "fits_signs" sFitsSigns ["high", "wide", "value", "most"]) (d_fits_whole : Df P w K mg base 1 "fits_whole" afFitsWhole) (d_is_tuple_of : Df P w K mg base 1 "is_tuple_of" afIsTupleOf) : Df P w K mg base 2 "fits_signs" afFitsSigns := ok_fits_signs Bn h d_fits_whole d_is_tuple_of
theorem ofWhole {i lo hi : Int} (h1 : lo ≤ i) (h2 : i ≤ hi) : fitsWhole (.int i) lo hi = true := by unfold fitsWhole; simp [h1, h2]
def afNeedBox : AF := fun ρ k => ∃ h w m, ρ = [.im (.int h), .im (.int w), .im (.int m)] ∧ (1 ≤ h ∧ h ≤ 30 ∧ 1 ≤ w ∧ w ≤ m) ∧ k .non ρ
theorem ok_need_box (h : Here K mg "need_box" sNeedBox ["high", "wide", "most"]) (d_fits_box : Df P w K mg base 2 "fits_box" afFitsBox) : Df P w K mg base 3 "need_box" afNeedBox := by
  refine df_ok h scNeedBox [] (fun ρ kk h => by obtain ⟨_, _, _, rfl, _⟩ := h; rfl) (fun f cdv A outer s H E hr => ⟨_, _, _, (gss_one (gs_if (gt_not (gt_truthK (K := K) (ge_dfK d_fits_box hr (ga_cons (gv 0) (ga_cons (gv 1) (ga_cons (gv 2) ga_nil)))))) (gss_one gs_never) gss_nil)), fun ρ kk h => ?_⟩)
  obtain ⟨hi, wi, m, rfl, hb, hk⟩ := h
  refine ⟨rfl, ?_⟩
  try dsimp only [fAll, fSum, aRet, aRetN, aAndV, aOrV, aNotV, aIsi, aVar, aC, aChain, aOp, aUn, aTest, aTru, truD, aAnd, aOr, aNot, aIf, aCons, aNil, aTup, aLst, imAll, aCB, resAll, res, aCall, bok, isOw, bos, svOf, back, aNext, aSeq, aIfS, aAsg, aAsgO, aName, aGTup, aGCons, aGNil, aDrop, aFrz, frz, aOfL, fI0, fI, fNeg, fPlus, fLen, fTuple, fInt, fAbs, fMax2, fMin2, fIsN, fNotN, fIsB, fNotB, isNonD, isT, aApp, aAug, aPop, aSetI, aPar, aPar3, aMIm, aMFr, svM, aList, aSl, aPart, aNoPart, aISeq, aRg1, aRg2, aYes, wipeA, mrg, noOw, still, retA, Option.map, List.map, List.getElem?_cons_zero, List.getElem?_cons_succ, List.set_cons_zero, List.set_cons_succ, List.cons_append, List.nil_append, List.replicate, List.length_cons, List.length_nil, Bool.not_true, Bool.not_false, Bool.and_true, Bool.true_and, aZipTwo, aZip3]
  refine ⟨rfl, .int hi, .int wi, m, rfl, rfl, rfl, ?_⟩
  rw [ofWhole hb.1 hb.2.1, ofWhole hb.2.2.1 hb.2.2.2]
  exact ⟨rfl, hk⟩
def afNeedMarks : AF := fun ρ k => ∃ h w m, ρ = [.im (.int h), .im (.int w), .im (gridD m)] ∧ (1 ≤ h ∧ h ≤ 30 ∧ 1 ≤ w ∧ w ≤ 30) ∧ Grid h w m ∧ Within 1 m ∧ k .non ρ
theorem ok_need_marks (cGREAT : IsInt mg "GREAT" 30) (h : Here K mg "need_marks" sNeedMarks ["high", "wide", "marks"]) (d_need_box : Df P w K mg base 3 "need_box" afNeedBox) (d_fits_signs : Df P w K mg base 2 "fits_signs" afFitsSigns) : Df P w K mg base 4 "need_marks" afNeedMarks := by
  refine df_ok h scNeedMarks [] (fun ρ kk h => by obtain ⟨_, _, _, rfl, _⟩ := h; rfl) (fun f cdv A outer s H E hr => ⟨_, _, _, (gss_cons (gs_expr (ge_dfK d_need_box hr (ga_cons (gv 0) (ga_cons (gv 1) (ga_cons (ge_gint cGREAT) ga_nil)))))
      (gss_one (gs_if (gt_not (gt_truthK (K := K) (ge_dfK d_fits_signs hr (ga_cons (gv 0) (ga_cons (gv 1) (ga_cons (gv 2) (ga_cons ge_int ga_nil))))))) (gss_one gs_never) gss_nil))), fun ρ kk h => ?_⟩)
  obtain ⟨hi, wi, m, rfl, hb, hg, ha, hk⟩ := h
  refine ⟨rfl, ?_⟩
  try dsimp only [fAll, fSum, aRet, aRetN, aAndV, aOrV, aNotV, aIsi, aVar, aC, aChain, aOp, aUn, aTest, aTru, truD, aAnd, aOr, aNot, aIf, aCons, aNil, aTup, aLst, imAll, aCB, resAll, res, aCall, bok, isOw, bos, svOf, back, aNext, aSeq, aIfS, aAsg, aAsgO, aName, aGTup, aGCons, aGNil, aDrop, aFrz, frz, aOfL, fI0, fI, fNeg, fPlus, fLen, fTuple, fInt, fAbs, fMax2, fMin2, fIsN, fNotN, fIsB, fNotB, isNonD, isT, aApp, aAug, aPop, aSetI, aPar, aPar3, aMIm, aMFr, svM, aList, aSl, aPart, aNoPart, aISeq, aRg1, aRg2, aYes, wipeA, mrg, noOw, still, retA, Option.map, List.map, List.getElem?_cons_zero, List.getElem?_cons_succ, List.set_cons_zero, List.set_cons_succ, List.cons_append, List.nil_append, List.replicate, List.length_cons, List.length_nil, Bool.not_true, Bool.not_false, Bool.and_true, Bool.true_and, aZipTwo, aZip3]
  refine ⟨rfl, hi, wi, 30, rfl, hb, rfl, hi, wi, gridD m, 1, rfl, okd_grid m, sized_grid hg (by omega) (by omega), ?_⟩
  rw [fits_grid hg ha]
  exact ⟨rfl, hk⟩
def afNeedTold : AF := fun ρ k => ∃ h w m b, ρ = [.im (.int h), .im (.int w), .im (gridD m), .im (.int b)] ∧ (1 ≤ h ∧ h ≤ 30 ∧ 1 ≤ w ∧ w ≤ 30 ∧ w ≤ b) ∧ Grid h w m ∧ Within 9 m ∧ k .non ρ
theorem ok_need_told (cOPEN : IsInt mg "OPEN" 9) (h : Here K mg "need_told" sNeedTold ["high", "wide", "told", "most"]) (d_need_box : Df P w K mg base 3 "need_box" afNeedBox) (d_fits_signs : Df P w K mg base 2 "fits_signs" afFitsSigns) : Df P w K mg base 4 "need_told" afNeedTold := by
  refine df_ok h scNeedTold [] (fun ρ kk h => by obtain ⟨_, _, _, _, rfl, _⟩ := h; rfl) (fun f cdv A outer s H E hr => ⟨_, _, _, (gss_cons (gs_expr (ge_dfK d_need_box hr (ga_cons (gv 0) (ga_cons (gv 1) (ga_cons (gv 3) ga_nil)))))
      (gss_one (gs_if (gt_not (gt_truthK (K := K) (ge_dfK d_fits_signs hr (ga_cons (gv 0) (ga_cons (gv 1) (ga_cons (gv 2) (ga_cons (ge_gint cOPEN) ga_nil))))))) (gss_one gs_never) gss_nil))), fun ρ kk h => ?_⟩)
  obtain ⟨hi, wi, m, b, rfl, hb, hg, ha, hk⟩ := h
  refine ⟨rfl, ?_⟩
  try dsimp only [fAll, fSum, aRet, aRetN, aAndV, aOrV, aNotV, aIsi, aVar, aC, aChain, aOp, aUn, aTest, aTru, truD, aAnd, aOr, aNot, aIf, aCons, aNil, aTup, aLst, imAll, aCB, resAll, res, aCall, bok, isOw, bos, svOf, back, aNext, aSeq, aIfS, aAsg, aAsgO, aName, aGTup, aGCons, aGNil, aDrop, aFrz, frz, aOfL, fI0, fI, fNeg, fPlus, fLen, fTuple, fInt, fAbs, fMax2, fMin2, fIsN, fNotN, fIsB, fNotB, isNonD, isT, aApp, aAug, aPop, aSetI, aPar, aPar3, aMIm, aMFr, svM, aList, aSl, aPart, aNoPart, aISeq, aRg1, aRg2, aYes, wipeA, mrg, noOw, still, retA, Option.map, List.map, List.getElem?_cons_zero, List.getElem?_cons_succ, List.set_cons_zero, List.set_cons_succ, List.cons_append, List.nil_append, List.replicate, List.length_cons, List.length_nil, Bool.not_true, Bool.not_false, Bool.and_true, Bool.true_and, aZipTwo, aZip3]
  refine ⟨rfl, hi, wi, b, rfl, ⟨hb.1, hb.2.1, hb.2.2.1, hb.2.2.2.2⟩, rfl, hi, wi, gridD m, 9, rfl, okd_grid m, sized_grid hg (by omega) (by omega), ?_⟩
  rw [fits_grid hg ha]
  exact ⟨rfl, hk⟩
def afMay (most : Int) : AF := fun ρ k => ∃ h w d, ρ = [.im (.int h), .im (.int w), .im d] ∧ (1 ≤ h ∧ h ≤ 30 ∧ 1 ≤ w ∧ w ≤ 30) ∧ okd d = true ∧ sized d ∧ k (.bl (fitsSigns h w d most)) ρ
theorem ok_are_marks (cGREAT : IsInt mg "GREAT" 30) (h : Here K mg "are_marks" sAreMarks ["high", "wide", "value"]) (d_need_box : Df P w K mg base 3 "need_box" afNeedBox) (d_fits_signs : Df P w K mg base 2 "fits_signs" afFitsSigns) : Df P w K mg base 4 "are_marks" (afMay 1) := by
  refine df_ok h scAreMarks [] (fun ρ kk h => by obtain ⟨_, _, _, rfl, _⟩ := h; rfl) (fun f cdv A outer s H E hr => ⟨_, _, _, (gss_cons (gs_expr (ge_dfK d_need_box hr (ga_cons (gv 0) (ga_cons (gv 1) (ga_cons (ge_gint cGREAT) ga_nil)))))
      (gss_one (gs_ret (ge_dfK d_fits_signs hr (ga_cons (gv 0) (ga_cons (gv 1) (ga_cons (gv 2) (ga_cons ge_int ga_nil)))))))), fun ρ kk h => ?_⟩)
  obtain ⟨hi, wi, d, rfl, hb, ho, hz, hk⟩ := h
  refine ⟨rfl, ?_⟩
  try dsimp only [fAll, fSum, aRet, aRetN, aAndV, aOrV, aNotV, aIsi, aVar, aC, aChain, aOp, aUn, aTest, aTru, truD, aAnd, aOr, aNot, aIf, aCons, aNil, aTup, aLst, imAll, aCB, resAll, res, aCall, bok, isOw, bos, svOf, back, aNext, aSeq, aIfS, aAsg, aAsgO, aName, aGTup, aGCons, aGNil, aDrop, aFrz, frz, aOfL, fI0, fI, fNeg, fPlus, fLen, fTuple, fInt, fAbs, fMax2, fMin2, fIsN, fNotN, fIsB, fNotB, isNonD, isT, aApp, aAug, aPop, aSetI, aPar, aPar3, aMIm, aMFr, svM, aList, aSl, aPart, aNoPart, aISeq, aRg1, aRg2, aYes, wipeA, mrg, noOw, still, retA, Option.map, List.map, List.getElem?_cons_zero, List.getElem?_cons_succ, List.set_cons_zero, List.set_cons_succ, List.cons_append, List.nil_append, List.replicate, List.length_cons, List.length_nil, Bool.not_true, Bool.not_false, Bool.and_true, Bool.true_and, aZipTwo, aZip3]
  exact ⟨rfl, hi, wi, 30, rfl, hb, rfl, hi, wi, d, 1, rfl, ho, hz, rfl, hk⟩
theorem ok_is_told (cGREAT : IsInt mg "GREAT" 30) (cOPEN : IsInt mg "OPEN" 9) (h : Here K mg "is_told" sIsTold ["high", "wide", "value"]) (d_need_box : Df P w K mg base 3 "need_box" afNeedBox) (d_fits_signs : Df P w K mg base 2 "fits_signs" afFitsSigns) : Df P w K mg base 4 "is_told" (afMay 9) := by
  refine df_ok h scIsTold [] (fun ρ kk h => by obtain ⟨_, _, _, rfl, _⟩ := h; rfl) (fun f cdv A outer s H E hr => ⟨_, _, _, (gss_cons (gs_expr (ge_dfK d_need_box hr (ga_cons (gv 0) (ga_cons (gv 1) (ga_cons (ge_gint cGREAT) ga_nil)))))
      (gss_one (gs_ret (ge_dfK d_fits_signs hr (ga_cons (gv 0) (ga_cons (gv 1) (ga_cons (gv 2) (ga_cons (ge_gint cOPEN) ga_nil)))))))), fun ρ kk h => ?_⟩)
  obtain ⟨hi, wi, d, rfl, hb, ho, hz, hk⟩ := h
  refine ⟨rfl, ?_⟩
  try dsimp only [fAll, fSum, aRet, aRetN, aAndV, aOrV, aNotV, aIsi, aVar, aC, aChain, aOp, aUn, aTest, aTru, truD, aAnd, aOr, aNot, aIf, aCons, aNil, aTup, aLst, imAll, aCB, resAll, res, aCall, bok, isOw, bos, svOf, back, aNext, aSeq, aIfS, aAsg, aAsgO, aName, aGTup, aGCons, aGNil, aDrop, aFrz, frz, aOfL, fI0, fI, fNeg, fPlus, fLen, fTuple, fInt, fAbs, fMax2, fMin2, fIsN, fNotN, fIsB, fNotB, isNonD, isT, aApp, aAug, aPop, aSetI, aPar, aPar3, aMIm, aMFr, svM, aList, aSl, aPart, aNoPart, aISeq, aRg1, aRg2, aYes, wipeA, mrg, noOw, still, retA, Option.map, List.map, List.getElem?_cons_zero, List.getElem?_cons_succ, List.set_cons_zero, List.set_cons_succ, List.cons_append, List.nil_append, List.replicate, List.length_cons, List.length_nil, Bool.not_true, Bool.not_false, Bool.and_true, Bool.true_and, aZipTwo, aZip3]
  exact ⟨rfl, hi, wi, 30, rfl, hb, rfl, hi, wi, d, 9, rfl, ho, hz, rfl, hk⟩

/-- the marks around one cell -/
def cnt (h w : Int) (m : Gr) (r c : Int) : Int := ((around h w r c).map fun p => cel m p.1 p.2).sum
def cntRow (h w : Int) (m : Gr) (r : Int) : List Int := (rgI 0 w).map fun c => cnt h w m r c
def cntIn (h w : Int) (m : Gr) : Gr := (rgI 0 h).map fun r => cntRow h w m r
def lrowD (r : List Int) : D := .lst (r.map D.int)
def lgridD (m : Gr) : D := .lst (m.map lrowD)
theorem lrow_cnt (h w : Int) (m : Gr) (r : Int) : lrowD (cntRow h w m r) = .lst ((rgI 0 w).map fun c => D.int (cnt h w m r c)) := by
  unfold lrowD cntRow
  rw [List.map_map]; rfl
theorem around_mem {h w r c : Int} {p : Int × Int} (m : p ∈ around h w r c) : (0 ≤ p.1 ∧ p.1 < h) ∧ 0 ≤ p.2 ∧ p.2 < w := by
  unfold around at m
  obtain ⟨m, _⟩ := List.mem_filter.mp m
  obtain ⟨d, hd, m⟩ := List.mem_flatMap.mp m
  obtain ⟨e, he, rfl⟩ := List.mem_map.mp m
  exact ⟨ax_mem hd, ax_mem he⟩
theorem around_len (h w r c : Int) : (around h w r c).length ≤ 9 := by
  unfold around
  refine Nat.le_trans (List.length_filter_le _ _) ?_
  rw [fm_len]
  exact Nat.mul_le_mul (ax_len h r) (ax_len w c)
theorem intsD_map {α : Type} (l : List α) (f : α → Int) : intsD (l.map fun x => D.int (f x)) = some (l.map f) := by
  have := DL.ints_map (l.map f)
  rw [List.map_map] at this
  exact this
def afCountsIn : AF := fun ρ k => ∃ h w m, ρ = [.im (.int h), .im (.int w), .im (gridD m)] ∧ (1 ≤ h ∧ h ≤ 30 ∧ 1 ≤ w ∧ w ≤ 30) ∧ Grid h w m ∧ k (lgridD (cntIn h w m)) ρ
theorem ok_counts_in (Bn : Bt mg) (h : Here K mg "counts_in" sCountsIn ["high", "wide", "marks"]) (d_around_in : Df P w K mg base 1 "around_in" afAroundIn) : Df P w K mg base 2 "counts_in" afCountsIn := by
  refine df_ok h scCountsIn [.un, .un, .un, .un, .un, .un, .un] (fun ρ kk h => by obtain ⟨_, _, _, rfl, _⟩ := h; rfl) (fun f cdv A outer s H E hr => ⟨_, _, _, (gss_cons (gs_setO (i := 3) scCountsIn.nd (gl_lst ga_nil))
      (gss_cons (gs_for PassesOwn.never rfl (gi_rg1 Bn (ga_cons (gv 0) ga_nil)) (gg_name scCountsIn.nd (i := 4))
      (gss_cons (gs_setLc (i := 5) rfl scCountsIn.nd (by rfl) (blkOk_by (own := [("column", 6)]) (by kernel_rfl)) (gi_rg1 Bn (ga_cons (gv 1) ga_nil)) (fun _ _ _ _ _ => (gg_name scCountsIn.nd (i := 6))) (fun _ _ _ _ _ => gts_nil) (fun _ _ _ _ _ => (ge_dfK d_around_in hr (ga_cons (gv 0) (ga_cons (gv 1) (ga_cons (gv 4) (ga_cons (gv 6) ga_nil)))))))
      (gss_one (gs_expr (ge_appK (K := K) 3 (GL.e (gl_lc rfl scCountsIn.nd (blkOk_by (own := [("some", 9)]) (by kernel_rfl)) (gi_seqK (K := K) (gv 5)) (fun _ _ _ _ _ => (gg_name scCountsIn.nd (i := 9))) (fun _ _ _ _ _ => gts_nil) (fun _ _ _ _ _ => (ge_sumK (K := K) rfl Bn (ga_cons (GL.e (gl_lc rfl scCountsIn.nd (blkOk_by (own := [("down", 7), ("right", 8)]) (by kernel_rfl)) (gi_seqK (K := K) (gv 9)) (fun _ _ _ _ _ => (gg_tupK (K := K) (n := 2) rfl (ggs_cons (gg_name scCountsIn.nd (i := 7)) (ggs_cons (gg_name scCountsIn.nd (i := 8)) ggs_nil)))) (fun _ _ _ _ _ => gts_nil) (fun _ _ _ _ _ => (ge_ixK (K := K) (ge_ixK (K := K) (gv 2) (gv 7)) (gv 8))))) ga_nil))))))))))
      (gss_one (gs_frz 3 (gs_ret (gv 3)))))), fun ρ kk h => ?_⟩)
  obtain ⟨hi, wi, m, rfl, hb, hg, hk⟩ := h
  refine ⟨rfl, ?_⟩
  try dsimp only [fAll, fSum, aRet, aRetN, aAndV, aOrV, aNotV, aIsi, aVar, aC, aChain, aOp, aUn, aTest, aTru, truD, aAnd, aOr, aNot, aIf, aCons, aNil, aTup, aLst, imAll, aCB, resAll, res, aCall, bok, isOw, bos, svOf, back, aNext, aSeq, aIfS, aAsg, aAsgO, aName, aGTup, aGCons, aGNil, aDrop, aFrz, frz, aOfL, fI0, fI, fNeg, fPlus, fLen, fTuple, fInt, fAbs, fMax2, fMin2, fIsN, fNotN, fIsB, fNotB, isNonD, isT, aApp, aAug, aPop, aSetI, aPar, aPar3, aMIm, aMFr, svM, aList, aSl, aPart, aNoPart, aISeq, aRg1, aRg2, aYes, wipeA, mrg, noOw, still, retA, Option.map, List.map, List.getElem?_cons_zero, List.getElem?_cons_succ, List.set_cons_zero, List.set_cons_succ, List.cons_append, List.nil_append, List.replicate, List.length_cons, List.length_nil, Bool.not_true, Bool.not_false, Bool.and_true, Bool.true_and, aZipTwo, aZip3]
  refine ⟨by decide, ?_⟩
  refine aFor_map (rgI 0 hi) D.int (fun pre ρ' => ∃ s t, ρ' = [.im (.int hi), .im (.int wi), .im (gridD m), .ow (.ol (pre.map fun r => lrowD (cntRow hi wi m r))), s, t, .un, .un, .un, .un]) (fun k' hk' => ?_) ⟨_, _, rfl⟩ (fun pre r post ρ' hx hI N hN => ?_) ?_
  · try dsimp only [fAll, fSum, aRet, aRetN, aAndV, aOrV, aNotV, aIsi, aVar, aC, aChain, aOp, aUn, aTest, aTru, truD, aAnd, aOr, aNot, aIf, aCons, aNil, aTup, aLst, imAll, aCB, resAll, res, aCall, bok, isOw, bos, svOf, back, aNext, aSeq, aIfS, aAsg, aAsgO, aName, aGTup, aGCons, aGNil, aDrop, aFrz, frz, aOfL, fI0, fI, fNeg, fPlus, fLen, fTuple, fInt, fAbs, fMax2, fMin2, fIsN, fNotN, fIsB, fNotB, isNonD, isT, aApp, aAug, aPop, aSetI, aPar, aPar3, aMIm, aMFr, svM, aList, aSl, aPart, aNoPart, aISeq, aRg1, aRg2, aYes, wipeA, mrg, noOw, still, retA, Option.map, List.map, List.getElem?_cons_zero, List.getElem?_cons_succ, List.set_cons_zero, List.set_cons_succ, List.cons_append, List.nil_append, List.replicate, List.length_cons, List.length_nil, Bool.not_true, Bool.not_false, Bool.and_true, Bool.true_and, aZipTwo, aZip3]
    rw [rng_rgI0]
    exact ⟨by omega, hk'⟩
  · obtain ⟨s, t, rfl⟩ := hI
    obtain ⟨h1, h2, h3, h4⟩ := rgI_pre hx
    try dsimp only [fAll, fSum, aRet, aRetN, aAndV, aOrV, aNotV, aIsi, aVar, aC, aChain, aOp, aUn, aTest, aTru, truD, aAnd, aOr, aNot, aIf, aCons, aNil, aTup, aLst, imAll, aCB, resAll, res, aCall, bok, isOw, bos, svOf, back, aNext, aSeq, aIfS, aAsg, aAsgO, aName, aGTup, aGCons, aGNil, aDrop, aFrz, frz, aOfL, fI0, fI, fNeg, fPlus, fLen, fTuple, fInt, fAbs, fMax2, fMin2, fIsN, fNotN, fIsB, fNotB, isNonD, isT, aApp, aAug, aPop, aSetI, aPar, aPar3, aMIm, aMFr, svM, aList, aSl, aPart, aNoPart, aISeq, aRg1, aRg2, aYes, wipeA, mrg, noOw, still, retA, Option.map, List.map, List.getElem?_cons_zero, List.getElem?_cons_succ, List.set_cons_zero, List.set_cons_succ, List.cons_append, List.nil_append, List.replicate, List.length_cons, List.length_nil, Bool.not_true, Bool.not_false, Bool.and_true, Bool.true_and, aZipTwo, aZip3]
    refine aLc_mapM (rgI 0 wi) D.int (fun c => .lst ((around hi wi r c).map cellD)) (fun k' hk' => ?_) rfl (by rw [rgI_len]; omega) (fun c hc Wy hW => ?_) ?_
    · try dsimp only [fAll, fSum, aRet, aRetN, aAndV, aOrV, aNotV, aIsi, aVar, aC, aChain, aOp, aUn, aTest, aTru, truD, aAnd, aOr, aNot, aIf, aCons, aNil, aTup, aLst, imAll, aCB, resAll, res, aCall, bok, isOw, bos, svOf, back, aNext, aSeq, aIfS, aAsg, aAsgO, aName, aGTup, aGCons, aGNil, aDrop, aFrz, frz, aOfL, fI0, fI, fNeg, fPlus, fLen, fTuple, fInt, fAbs, fMax2, fMin2, fIsN, fNotN, fIsB, fNotB, isNonD, isT, aApp, aAug, aPop, aSetI, aPar, aPar3, aMIm, aMFr, svM, aList, aSl, aPart, aNoPart, aISeq, aRg1, aRg2, aYes, wipeA, mrg, noOw, still, retA, Option.map, List.map, List.getElem?_cons_zero, List.getElem?_cons_succ, List.set_cons_zero, List.set_cons_succ, List.cons_append, List.nil_append, List.replicate, List.length_cons, List.length_nil, Bool.not_true, Bool.not_false, Bool.and_true, Bool.true_and, aZipTwo, aZip3]
      rw [rng_rgI0]
      exact ⟨by omega, hk'⟩
    · try dsimp only [fAll, fSum, aRet, aRetN, aAndV, aOrV, aNotV, aIsi, aVar, aC, aChain, aOp, aUn, aTest, aTru, truD, aAnd, aOr, aNot, aIf, aCons, aNil, aTup, aLst, imAll, aCB, resAll, res, aCall, bok, isOw, bos, svOf, back, aNext, aSeq, aIfS, aAsg, aAsgO, aName, aGTup, aGCons, aGNil, aDrop, aFrz, frz, aOfL, fI0, fI, fNeg, fPlus, fLen, fTuple, fInt, fAbs, fMax2, fMin2, fIsN, fNotN, fIsB, fNotB, isNonD, isT, aApp, aAug, aPop, aSetI, aPar, aPar3, aMIm, aMFr, svM, aList, aSl, aPart, aNoPart, aISeq, aRg1, aRg2, aYes, wipeA, mrg, noOw, still, retA, Option.map, List.map, List.getElem?_cons_zero, List.getElem?_cons_succ, List.set_cons_zero, List.set_cons_succ, List.cons_append, List.nil_append, List.replicate, List.length_cons, List.length_nil, Bool.not_true, Bool.not_false, Bool.and_true, Bool.true_and, aZipTwo, aZip3]
      have hc' := rgI_mem.mp hc
      exact ⟨rfl, hi, wi, r, c, rfl, by omega, _, rfl, hW⟩
    · try dsimp only [fAll, fSum, aRet, aRetN, aAndV, aOrV, aNotV, aIsi, aVar, aC, aChain, aOp, aUn, aTest, aTru, truD, aAnd, aOr, aNot, aIf, aCons, aNil, aTup, aLst, imAll, aCB, resAll, res, aCall, bok, isOw, bos, svOf, back, aNext, aSeq, aIfS, aAsg, aAsgO, aName, aGTup, aGCons, aGNil, aDrop, aFrz, frz, aOfL, fI0, fI, fNeg, fPlus, fLen, fTuple, fInt, fAbs, fMax2, fMin2, fIsN, fNotN, fIsB, fNotB, isNonD, isT, aApp, aAug, aPop, aSetI, aPar, aPar3, aMIm, aMFr, svM, aList, aSl, aPart, aNoPart, aISeq, aRg1, aRg2, aYes, wipeA, mrg, noOw, still, retA, Option.map, List.map, List.getElem?_cons_zero, List.getElem?_cons_succ, List.set_cons_zero, List.set_cons_succ, List.cons_append, List.nil_append, List.replicate, List.length_cons, List.length_nil, Bool.not_true, Bool.not_false, Bool.and_true, Bool.true_and, aZipTwo, aZip3]
      refine ⟨rfl, ?_⟩
      refine aLc_mapM (rgI 0 wi) (fun c => .lst ((around hi wi r c).map cellD)) (fun c => .int (cnt hi wi m r c)) (fun _ h => h) rfl (by rw [rgI_len]; omega) (fun c hc Wy hW => ?_) ?_
      · try dsimp only [fAll, fSum, aRet, aRetN, aAndV, aOrV, aNotV, aIsi, aVar, aC, aChain, aOp, aUn, aTest, aTru, truD, aAnd, aOr, aNot, aIf, aCons, aNil, aTup, aLst, imAll, aCB, resAll, res, aCall, bok, isOw, bos, svOf, back, aNext, aSeq, aIfS, aAsg, aAsgO, aName, aGTup, aGCons, aGNil, aDrop, aFrz, frz, aOfL, fI0, fI, fNeg, fPlus, fLen, fTuple, fInt, fAbs, fMax2, fMin2, fIsN, fNotN, fIsB, fNotB, isNonD, isT, aApp, aAug, aPop, aSetI, aPar, aPar3, aMIm, aMFr, svM, aList, aSl, aPart, aNoPart, aISeq, aRg1, aRg2, aYes, wipeA, mrg, noOw, still, retA, Option.map, List.map, List.getElem?_cons_zero, List.getElem?_cons_succ, List.set_cons_zero, List.set_cons_succ, List.cons_append, List.nil_append, List.replicate, List.length_cons, List.length_nil, Bool.not_true, Bool.not_false, Bool.and_true, Bool.true_and, aZipTwo, aZip3]
        refine aLc_mapM (around hi wi r c) cellD (fun p => .int (cel m p.1 p.2)) (fun _ h => h) rfl (by have := around_len hi wi r c; omega) (fun p hp Wz hWz => ?_) ?_
        · try dsimp only [fAll, fSum, aRet, aRetN, aAndV, aOrV, aNotV, aIsi, aVar, aC, aChain, aOp, aUn, aTest, aTru, truD, aAnd, aOr, aNot, aIf, aCons, aNil, aTup, aLst, imAll, aCB, resAll, res, aCall, bok, isOw, bos, svOf, back, aNext, aSeq, aIfS, aAsg, aAsgO, aName, aGTup, aGCons, aGNil, aDrop, aFrz, frz, aOfL, fI0, fI, fNeg, fPlus, fLen, fTuple, fInt, fAbs, fMax2, fMin2, fIsN, fNotN, fIsB, fNotB, isNonD, isT, aApp, aAug, aPop, aSetI, aPar, aPar3, aMIm, aMFr, svM, aList, aSl, aPart, aNoPart, aISeq, aRg1, aRg2, aYes, wipeA, mrg, noOw, still, retA, Option.map, List.map, List.getElem?_cons_zero, List.getElem?_cons_succ, List.set_cons_zero, List.set_cons_succ, List.cons_append, List.nil_append, List.replicate, List.length_cons, List.length_nil, Bool.not_true, Bool.not_false, Bool.and_true, Bool.true_and, aZipTwo, aZip3]
          obtain ⟨q1, q2⟩ := around_mem hp
          unfold cellD gridD
          try dsimp only [fAll, fSum, aRet, aRetN, aAndV, aOrV, aNotV, aIsi, aVar, aC, aChain, aOp, aUn, aTest, aTru, truD, aAnd, aOr, aNot, aIf, aCons, aNil, aTup, aLst, imAll, aCB, resAll, res, aCall, bok, isOw, bos, svOf, back, aNext, aSeq, aIfS, aAsg, aAsgO, aName, aGTup, aGCons, aGNil, aDrop, aFrz, frz, aOfL, fI0, fI, fNeg, fPlus, fLen, fTuple, fInt, fAbs, fMax2, fMin2, fIsN, fNotN, fIsB, fNotB, isNonD, isT, aApp, aAug, aPop, aSetI, aPar, aPar3, aMIm, aMFr, svM, aList, aSl, aPart, aNoPart, aISeq, aRg1, aRg2, aYes, wipeA, mrg, noOw, still, retA, Option.map, List.map, List.getElem?_cons_zero, List.getElem?_cons_succ, List.set_cons_zero, List.set_cons_succ, List.cons_append, List.nil_append, List.replicate, List.length_cons, List.length_nil, Bool.not_true, Bool.not_false, Bool.and_true, Bool.true_and, aZipTwo, aZip3]
          refine ⟨rfl, rfl, rowD (m.getD p.1.toNat []), gix q1.1 (by rw [hg.len]; exact q1.2), ?_⟩
          unfold rowD
          try dsimp only [fAll, fSum, aRet, aRetN, aAndV, aOrV, aNotV, aIsi, aVar, aC, aChain, aOp, aUn, aTest, aTru, truD, aAnd, aOr, aNot, aIf, aCons, aNil, aTup, aLst, imAll, aCB, resAll, res, aCall, bok, isOw, bos, svOf, back, aNext, aSeq, aIfS, aAsg, aAsgO, aName, aGTup, aGCons, aGNil, aDrop, aFrz, frz, aOfL, fI0, fI, fNeg, fPlus, fLen, fTuple, fInt, fAbs, fMax2, fMin2, fIsN, fNotN, fIsB, fNotB, isNonD, isT, aApp, aAug, aPop, aSetI, aPar, aPar3, aMIm, aMFr, svM, aList, aSl, aPart, aNoPart, aISeq, aRg1, aRg2, aYes, wipeA, mrg, noOw, still, retA, Option.map, List.map, List.getElem?_cons_zero, List.getElem?_cons_succ, List.set_cons_zero, List.set_cons_succ, List.cons_append, List.nil_append, List.replicate, List.length_cons, List.length_nil, Bool.not_true, Bool.not_false, Bool.and_true, Bool.true_and, aZipTwo, aZip3]
          refine ⟨_, rix q2.1 (by rw [(hg.at q1.1 q1.2).2]; exact q2.2), _, rfl, hWz⟩
        · try dsimp only [fAll, fSum, aRet, aRetN, aAndV, aOrV, aNotV, aIsi, aVar, aC, aChain, aOp, aUn, aTest, aTru, truD, aAnd, aOr, aNot, aIf, aCons, aNil, aTup, aLst, imAll, aCB, resAll, res, aCall, bok, isOw, bos, svOf, back, aNext, aSeq, aIfS, aAsg, aAsgO, aName, aGTup, aGCons, aGNil, aDrop, aFrz, frz, aOfL, fI0, fI, fNeg, fPlus, fLen, fTuple, fInt, fAbs, fMax2, fMin2, fIsN, fNotN, fIsB, fNotB, isNonD, isT, aApp, aAug, aPop, aSetI, aPar, aPar3, aMIm, aMFr, svM, aList, aSl, aPart, aNoPart, aISeq, aRg1, aRg2, aYes, wipeA, mrg, noOw, still, retA, Option.map, List.map, List.getElem?_cons_zero, List.getElem?_cons_succ, List.set_cons_zero, List.set_cons_succ, List.cons_append, List.nil_append, List.replicate, List.length_cons, List.length_nil, Bool.not_true, Bool.not_false, Bool.and_true, Bool.true_and, aZipTwo, aZip3]
          exact ⟨_, intsD_map _ _, _, rfl, hW⟩
      · try dsimp only [fAll, fSum, aRet, aRetN, aAndV, aOrV, aNotV, aIsi, aVar, aC, aChain, aOp, aUn, aTest, aTru, truD, aAnd, aOr, aNot, aIf, aCons, aNil, aTup, aLst, imAll, aCB, resAll, res, aCall, bok, isOw, bos, svOf, back, aNext, aSeq, aIfS, aAsg, aAsgO, aName, aGTup, aGCons, aGNil, aDrop, aFrz, frz, aOfL, fI0, fI, fNeg, fPlus, fLen, fTuple, fInt, fAbs, fMax2, fMin2, fIsN, fNotN, fIsB, fNotB, isNonD, isT, aApp, aAug, aPop, aSetI, aPar, aPar3, aMIm, aMFr, svM, aList, aSl, aPart, aNoPart, aISeq, aRg1, aRg2, aYes, wipeA, mrg, noOw, still, retA, Option.map, List.map, List.getElem?_cons_zero, List.getElem?_cons_succ, List.set_cons_zero, List.set_cons_succ, List.cons_append, List.nil_append, List.replicate, List.length_cons, List.length_nil, Bool.not_true, Bool.not_false, Bool.and_true, Bool.true_and, aZipTwo, aZip3]
        simp only [List.map_append, List.map_cons, List.map_nil, lrow_cnt] at hN ⊢
        refine ⟨?_, hN _ ⟨_, _, rfl⟩⟩
        rw [List.length_map]
        omega
  · rintro ρ' ⟨s, t, rfl⟩
    try dsimp only [fAll, fSum, aRet, aRetN, aAndV, aOrV, aNotV, aIsi, aVar, aC, aChain, aOp, aUn, aTest, aTru, truD, aAnd, aOr, aNot, aIf, aCons, aNil, aTup, aLst, imAll, aCB, resAll, res, aCall, bok, isOw, bos, svOf, back, aNext, aSeq, aIfS, aAsg, aAsgO, aName, aGTup, aGCons, aGNil, aDrop, aFrz, frz, aOfL, fI0, fI, fNeg, fPlus, fLen, fTuple, fInt, fAbs, fMax2, fMin2, fIsN, fNotN, fIsB, fNotB, isNonD, isT, aApp, aAug, aPop, aSetI, aPar, aPar3, aMIm, aMFr, svM, aList, aSl, aPart, aNoPart, aISeq, aRg1, aRg2, aYes, wipeA, mrg, noOw, still, retA, Option.map, List.map, List.getElem?_cons_zero, List.getElem?_cons_succ, List.set_cons_zero, List.set_cons_succ, List.cons_append, List.nil_append, List.replicate, List.length_cons, List.length_nil, Bool.not_true, Bool.not_false, Bool.and_true, Bool.true_and, aZipTwo, aZip3]
    exact ⟨rfl, by unfold lgridD cntIn at hk; rw [List.map_map] at hk; exact hk⟩
end
end K76

namespace K76
open PySem PySem.Spec L2 DL
open PyProof.Rows hiding St
theorem Grid.ix {h w : Int} {m : Gr} (g : Grid h w m) {i : Int} (h0 : 0 ≤ i) (h1 : i < h) : atI (m.map rowD) i = some (.tup ((m.getD i.toNat []).map D.int)) := gix h0 (by rw [g.len]; exact h1)
theorem Grid.ixl {h w : Int} {m : Gr} (g : Grid h w m) {i : Int} (h0 : 0 ≤ i) (h1 : i < h) : atI (m.map lrowD) i = some (.lst ((m.getD i.toNat []).map D.int)) := by
  have hl := g.len
  have hi : i.toNat < m.length := by omega
  refine atI_nat h0 ?_
  rw [List.getElem?_map, List.getElem?_eq_getElem hi, List.getD_eq_getElem?_getD, List.getElem?_eq_getElem hi]; rfl
theorem Grid.jx {h w : Int} {m : Gr} (g : Grid h w m) {i j : Int} (h0 : 0 ≤ i) (h1 : i < h) (h2 : 0 ≤ j) (h3 : j < w) : atI ((m.getD i.toNat []).map D.int) j = some (.int (cel m i j)) := rix h2 (by rw [(g.at h0 h1).2]; exact h3)
theorem rgI_get {n i : Int} (h0 : 0 ≤ i) (h1 : i < n) : (rgI 0 n)[i.toNat]? = some i := by
  unfold rgI
  rw [List.getElem?_map, List.getElem?_range (by omega)]
  show some (0 + ((i.toNat : Nat) : Int)) = some i
  rw [show 0 + ((i.toNat : Nat) : Int) = i by omega]
theorem cel_mk {h w : Int} {C : Int → Int → Int} {r c : Int} (h0 : 0 ≤ r) (h1 : r < h) (h2 : 0 ≤ c) (h3 : c < w) : cel ((rgI 0 h).map fun r => (rgI 0 w).map fun c => C r c) r c = C r c := by
  unfold cel
  rw [List.getD_eq_getElem?_getD, List.getD_eq_getElem?_getD, List.getElem?_map, rgI_get h0 h1]
  dsimp only [Option.map_some, Option.getD_some]
  rw [List.getElem?_map, rgI_get h2 h3]; rfl
theorem grid_mk {h w : Int} (C : Int → Int → Int) (hh : 0 ≤ h) (hw : 0 ≤ w) : Grid h w ((rgI 0 h).map fun r => (rgI 0 w).map fun c => C r c) := by
  refine ⟨by rw [List.length_map, rgI_len]; omega, fun r hr => ?_⟩
  obtain ⟨q, _, rfl⟩ := List.mem_map.mp hr
  rw [List.length_map, rgI_len]; omega
/-- what is told fits the marks, by the counts C -/
def okc (C : Int → Int → Int) (t m : Gr) (r c : Int) : Bool := !(cel t r c != 9 && (cel m r c == 1 || C r c != cel t r c))
def fitsM (C : Int → Int → Int) (h w : Int) (t m : Gr) : Bool := (rgI 0 h).all fun r => (rgI 0 w).all fun c => okc C t m r c
theorem fitsM_bad {C : Int → Int → Int} {h w : Int} {t m : Gr} {r c : Int} (h0 : 0 ≤ r) (h1 : r < h) (h2 : 0 ≤ c) (h3 : c < w) (hb : okc C t m r c = false) : fitsM C h w t m = false := by
  cases e : fitsM C h w t m with
  | false => rfl
  | true =>
    have := List.all_eq_true.mp (List.all_eq_true.mp e r (rgI_mem.mpr ⟨h0, h1⟩)) c (rgI_mem.mpr ⟨h2, h3⟩)
    rw [hb] at this
    cases this
theorem fitsM_ok {C : Int → Int → Int} {h w : Int} {t m : Gr} (g : ∀ r ∈ rgI 0 h, ∀ c ∈ rgI 0 w, okc C t m r c = true) : fitsM C h w t m = true := List.all_eq_true.mpr fun r hr => List.all_eq_true.mpr fun c hc => g r hr c hc
theorem eqv_int (i j : Int) : eqv (.int i) (.int j) = (i == j) := by simp only [eqv]
theorem all_app {α : Type} {p : α → Prop} {xs : List α} {x : α} (h : ∀ y ∈ xs, p y) (hx : p x) : ∀ y ∈ xs ++ [x], p y := fun y m => by
  rcases List.mem_append.mp m with m | m
  · exact h y m
  · rw [List.mem_singleton.mp m]; exact hx
section
variable {P : Program} {w : World} {K : PySem.W.Frag} {mg : Str → Option Value} {base : Heap}
def afFitsMarks : AF := fun ρ k => ∃ h w t m, ρ = [.im (.int h), .im (.int w), .im (gridD t), .im (gridD m)] ∧ (1 ≤ h ∧ h ≤ 30 ∧ 1 ≤ w ∧ w ≤ 30) ∧ Grid h w t ∧ Grid h w m ∧ k (.bl (fitsM (cnt h w m) h w t m)) ρ
theorem ok_fits_marks (Bn : Bt mg) (cOPEN : IsInt mg "OPEN" 9) (h : Here K mg "fits_marks" sFitsMarks ["high", "wide", "told", "marks"]) (d_counts_in : Df P w K mg base 2 "counts_in" afCountsIn) : Df P w K mg base 3 "fits_marks" afFitsMarks := by
  refine df_ok h scFitsMarks [.un, .un, .un] (fun ρ kk h => by obtain ⟨_, _, _, _, rfl, _⟩ := h; rfl) (fun f cdv A outer s H E hr => ⟨_, _, _, (gss_cons (gs_set (i := 4) scFitsMarks.nd (ge_dfK d_counts_in hr (ga_cons (gv 0) (ga_cons (gv 1) (ga_cons (gv 3) ga_nil)))))
      (gss_cons (gs_for PassesOwn.never rfl (gi_rg1 Bn (ga_cons (gv 0) ga_nil)) (gg_name scFitsMarks.nd (i := 5))
      (gss_one (gs_for PassesOwn.never rfl (gi_rg1 Bn (ga_cons (gv 1) ga_nil)) (gg_name scFitsMarks.nd (i := 6))
      (gss_one (gs_if (GW.gt (gw_and (gt_ne (K := K) hr.units (ge_ixK (K := K) (ge_ixK (K := K) (gv 2) (gv 5)) (gv 6)) (ge_gint cOPEN) (nomark _)) (gw_and1 (GW.gt (gw_or (gt_eq (K := K) hr.units (ge_ixK (K := K) (ge_ixK (K := K) (gv 3) (gv 5)) (gv 6)) ge_int (nomark _)) (gw_or1 (gt_ne (K := K) hr.units (ge_ixK (K := K) (ge_ixK (K := K) (gv 4) (gv 5)) (gv 6)) (ge_ixK (K := K) (ge_ixK (K := K) (gv 2) (gv 5)) (gv 6)) (nomark _)))))))) (gss_one (gs_ret ge_bl)) gss_nil)))))
      (gss_one (gs_ret ge_bl)))), fun ρ kk h => ?_⟩)
  obtain ⟨hi, wi, t, m, rfl, hb, gt, gm, hk⟩ := h
  refine ⟨rfl, ?_⟩
  try dsimp only [fAll, fSum, aRet, aRetN, aAndV, aOrV, aNotV, aIsi, aVar, aC, aChain, aOp, aUn, aTest, aTru, truD, aAnd, aOr, aNot, aIf, aCons, aNil, aTup, aLst, imAll, aCB, resAll, res, aCall, bok, isOw, bos, svOf, back, aNext, aSeq, aIfS, aAsg, aAsgO, aName, aGTup, aGCons, aGNil, aDrop, aFrz, frz, aOfL, fI0, fI, fNeg, fPlus, fLen, fTuple, fInt, fAbs, fMax2, fMin2, fIsN, fNotN, fIsB, fNotB, isNonD, isT, aApp, aAug, aPop, aSetI, aPar, aPar3, aMIm, aMFr, svM, aList, aSl, aPart, aNoPart, aISeq, aRg1, aRg2, aYes, wipeA, mrg, noOw, still, retA, Option.map, List.map, List.getElem?_cons_zero, List.getElem?_cons_succ, List.set_cons_zero, List.set_cons_succ, List.cons_append, List.nil_append, List.replicate, List.length_cons, List.length_nil, Bool.not_true, Bool.not_false, Bool.and_true, Bool.true_and, aZipTwo, aZip3]
  refine ⟨rfl, hi, wi, m, rfl, hb, gm, ?_⟩
  try dsimp only [fAll, fSum, aRet, aRetN, aAndV, aOrV, aNotV, aIsi, aVar, aC, aChain, aOp, aUn, aTest, aTru, truD, aAnd, aOr, aNot, aIf, aCons, aNil, aTup, aLst, imAll, aCB, resAll, res, aCall, bok, isOw, bos, svOf, back, aNext, aSeq, aIfS, aAsg, aAsgO, aName, aGTup, aGCons, aGNil, aDrop, aFrz, frz, aOfL, fI0, fI, fNeg, fPlus, fLen, fTuple, fInt, fAbs, fMax2, fMin2, fIsN, fNotN, fIsB, fNotB, isNonD, isT, aApp, aAug, aPop, aSetI, aPar, aPar3, aMIm, aMFr, svM, aList, aSl, aPart, aNoPart, aISeq, aRg1, aRg2, aYes, wipeA, mrg, noOw, still, retA, Option.map, List.map, List.getElem?_cons_zero, List.getElem?_cons_succ, List.set_cons_zero, List.set_cons_succ, List.cons_append, List.nil_append, List.replicate, List.length_cons, List.length_nil, Bool.not_true, Bool.not_false, Bool.and_true, Bool.true_and, aZipTwo, aZip3]
  have gc : Grid hi wi (cntIn hi wi m) := grid_mk (cnt hi wi m) (by omega) (by omega)
  refine aFor_map (rgI 0 hi) D.int (fun pre ρ' => (∀ r ∈ pre, ∀ c ∈ rgI 0 wi, okc (cnt hi wi m) t m r c = true) ∧ ∃ s u, ρ' = [.im (.int hi), .im (.int wi), .im (gridD t), .im (gridD m), .im (lgridD (cntIn hi wi m)), s, u]) (fun k' hk' => ?_) ⟨fun _ h => absurd h List.not_mem_nil, _, _, rfl⟩ (fun pre r post ρ' hx hI N hN => ?_) ?_
  · try dsimp only [fAll, fSum, aRet, aRetN, aAndV, aOrV, aNotV, aIsi, aVar, aC, aChain, aOp, aUn, aTest, aTru, truD, aAnd, aOr, aNot, aIf, aCons, aNil, aTup, aLst, imAll, aCB, resAll, res, aCall, bok, isOw, bos, svOf, back, aNext, aSeq, aIfS, aAsg, aAsgO, aName, aGTup, aGCons, aGNil, aDrop, aFrz, frz, aOfL, fI0, fI, fNeg, fPlus, fLen, fTuple, fInt, fAbs, fMax2, fMin2, fIsN, fNotN, fIsB, fNotB, isNonD, isT, aApp, aAug, aPop, aSetI, aPar, aPar3, aMIm, aMFr, svM, aList, aSl, aPart, aNoPart, aISeq, aRg1, aRg2, aYes, wipeA, mrg, noOw, still, retA, Option.map, List.map, List.getElem?_cons_zero, List.getElem?_cons_succ, List.set_cons_zero, List.set_cons_succ, List.cons_append, List.nil_append, List.replicate, List.length_cons, List.length_nil, Bool.not_true, Bool.not_false, Bool.and_true, Bool.true_and, aZipTwo, aZip3]
    rw [rng_rgI0]
    exact ⟨by omega, hk'⟩
  · obtain ⟨hI, s, u, rfl⟩ := hI
    obtain ⟨h1, h2, h3, h4⟩ := rgI_pre hx
    try dsimp only [fAll, fSum, aRet, aRetN, aAndV, aOrV, aNotV, aIsi, aVar, aC, aChain, aOp, aUn, aTest, aTru, truD, aAnd, aOr, aNot, aIf, aCons, aNil, aTup, aLst, imAll, aCB, resAll, res, aCall, bok, isOw, bos, svOf, back, aNext, aSeq, aIfS, aAsg, aAsgO, aName, aGTup, aGCons, aGNil, aDrop, aFrz, frz, aOfL, fI0, fI, fNeg, fPlus, fLen, fTuple, fInt, fAbs, fMax2, fMin2, fIsN, fNotN, fIsB, fNotB, isNonD, isT, aApp, aAug, aPop, aSetI, aPar, aPar3, aMIm, aMFr, svM, aList, aSl, aPart, aNoPart, aISeq, aRg1, aRg2, aYes, wipeA, mrg, noOw, still, retA, Option.map, List.map, List.getElem?_cons_zero, List.getElem?_cons_succ, List.set_cons_zero, List.set_cons_succ, List.cons_append, List.nil_append, List.replicate, List.length_cons, List.length_nil, Bool.not_true, Bool.not_false, Bool.and_true, Bool.true_and, aZipTwo, aZip3]
    refine aFor_map (rgI 0 wi) D.int (fun pre' ρ' => (∀ c ∈ pre', okc (cnt hi wi m) t m r c = true) ∧ ∃ u, ρ' = [.im (.int hi), .im (.int wi), .im (gridD t), .im (gridD m), .im (lgridD (cntIn hi wi m)), .im (.int r), u]) (fun k' hk' => ?_) ⟨fun _ h => absurd h List.not_mem_nil, _, rfl⟩ (fun pre' c post' ρ' hx' hI' N' hN' => ?_) ?_
    · try dsimp only [fAll, fSum, aRet, aRetN, aAndV, aOrV, aNotV, aIsi, aVar, aC, aChain, aOp, aUn, aTest, aTru, truD, aAnd, aOr, aNot, aIf, aCons, aNil, aTup, aLst, imAll, aCB, resAll, res, aCall, bok, isOw, bos, svOf, back, aNext, aSeq, aIfS, aAsg, aAsgO, aName, aGTup, aGCons, aGNil, aDrop, aFrz, frz, aOfL, fI0, fI, fNeg, fPlus, fLen, fTuple, fInt, fAbs, fMax2, fMin2, fIsN, fNotN, fIsB, fNotB, isNonD, isT, aApp, aAug, aPop, aSetI, aPar, aPar3, aMIm, aMFr, svM, aList, aSl, aPart, aNoPart, aISeq, aRg1, aRg2, aYes, wipeA, mrg, noOw, still, retA, Option.map, List.map, List.getElem?_cons_zero, List.getElem?_cons_succ, List.set_cons_zero, List.set_cons_succ, List.cons_append, List.nil_append, List.replicate, List.length_cons, List.length_nil, Bool.not_true, Bool.not_false, Bool.and_true, Bool.true_and, aZipTwo, aZip3]
      rw [rng_rgI0]
      exact ⟨by omega, hk'⟩
    · obtain ⟨hI', u, rfl⟩ := hI'
      obtain ⟨i1, i2, i3, i4⟩ := rgI_pre hx'
      have hN2 : okc (cnt hi wi m) t m r c = true → N' [.im (.int hi), .im (.int wi), .im (gridD t), .im (gridD m), .im (lgridD (cntIn hi wi m)), .im (.int r), .im (.int c)] := fun o => hN' _ ⟨all_app hI' o, _, rfl⟩
      have hbad : okc (cnt hi wi m) t m r c = false → kk (.bl false) [.im (.int hi), .im (.int wi), .im (gridD t), .im (gridD m)] := fun o => by
        rw [fitsM_bad h3 h4 i3 i4 o] at hk
        exact hk
      unfold okc at hN2 hbad
      unfold gridD lgridD at hN2 ⊢
      unfold gridD at hbad
      try dsimp only [fAll, fSum, aRet, aRetN, aAndV, aOrV, aNotV, aIsi, aVar, aC, aChain, aOp, aUn, aTest, aTru, truD, aAnd, aOr, aNot, aIf, aCons, aNil, aTup, aLst, imAll, aCB, resAll, res, aCall, bok, isOw, bos, svOf, back, aNext, aSeq, aIfS, aAsg, aAsgO, aName, aGTup, aGCons, aGNil, aDrop, aFrz, frz, aOfL, fI0, fI, fNeg, fPlus, fLen, fTuple, fInt, fAbs, fMax2, fMin2, fIsN, fNotN, fIsB, fNotB, isNonD, isT, aApp, aAug, aPop, aSetI, aPar, aPar3, aMIm, aMFr, svM, aList, aSl, aPart, aNoPart, aISeq, aRg1, aRg2, aYes, wipeA, mrg, noOw, still, retA, Option.map, List.map, List.getElem?_cons_zero, List.getElem?_cons_succ, List.set_cons_zero, List.set_cons_succ, List.cons_append, List.nil_append, List.replicate, List.length_cons, List.length_nil, Bool.not_true, Bool.not_false, Bool.and_true, Bool.true_and, aZipTwo, aZip3]
      refine ⟨_, gt.ix h3 h4, ?_⟩
      try dsimp only [fAll, fSum, aRet, aRetN, aAndV, aOrV, aNotV, aIsi, aVar, aC, aChain, aOp, aUn, aTest, aTru, truD, aAnd, aOr, aNot, aIf, aCons, aNil, aTup, aLst, imAll, aCB, resAll, res, aCall, bok, isOw, bos, svOf, back, aNext, aSeq, aIfS, aAsg, aAsgO, aName, aGTup, aGCons, aGNil, aDrop, aFrz, frz, aOfL, fI0, fI, fNeg, fPlus, fLen, fTuple, fInt, fAbs, fMax2, fMin2, fIsN, fNotN, fIsB, fNotB, isNonD, isT, aApp, aAug, aPop, aSetI, aPar, aPar3, aMIm, aMFr, svM, aList, aSl, aPart, aNoPart, aISeq, aRg1, aRg2, aYes, wipeA, mrg, noOw, still, retA, Option.map, List.map, List.getElem?_cons_zero, List.getElem?_cons_succ, List.set_cons_zero, List.set_cons_succ, List.cons_append, List.nil_append, List.replicate, List.length_cons, List.length_nil, Bool.not_true, Bool.not_false, Bool.and_true, Bool.true_and, aZipTwo, aZip3]
      refine ⟨_, gt.jx h3 h4 i3 i4, rfl, rfl, ?_⟩
      rw [eqv_int]
      cases e1 : cel t r c == 9 with
      | true =>
        simp only [bne, e1, Bool.not_true, Bool.false_and, Bool.not_false, forall_const, if_false, Bool.false_eq_true] at hN2 ⊢
        exact hN2
      | false =>
        simp only [bne, e1, Bool.not_false, Bool.true_and, if_true] at hN2 hbad ⊢
        refine ⟨_, gm.ix h3 h4, ?_⟩
        try dsimp only [fAll, fSum, aRet, aRetN, aAndV, aOrV, aNotV, aIsi, aVar, aC, aChain, aOp, aUn, aTest, aTru, truD, aAnd, aOr, aNot, aIf, aCons, aNil, aTup, aLst, imAll, aCB, resAll, res, aCall, bok, isOw, bos, svOf, back, aNext, aSeq, aIfS, aAsg, aAsgO, aName, aGTup, aGCons, aGNil, aDrop, aFrz, frz, aOfL, fI0, fI, fNeg, fPlus, fLen, fTuple, fInt, fAbs, fMax2, fMin2, fIsN, fNotN, fIsB, fNotB, isNonD, isT, aApp, aAug, aPop, aSetI, aPar, aPar3, aMIm, aMFr, svM, aList, aSl, aPart, aNoPart, aISeq, aRg1, aRg2, aYes, wipeA, mrg, noOw, still, retA, Option.map, List.map, List.getElem?_cons_zero, List.getElem?_cons_succ, List.set_cons_zero, List.set_cons_succ, List.cons_append, List.nil_append, List.replicate, List.length_cons, List.length_nil, Bool.not_true, Bool.not_false, Bool.and_true, Bool.true_and, aZipTwo, aZip3]
        refine ⟨_, gm.jx h3 h4 i3 i4, rfl, rfl, ?_⟩
        rw [eqv_int]
        cases e2 : cel m r c == 1 with
        | true =>
          simp only [e2, Bool.true_or, Bool.not_true, forall_const, if_true] at hbad ⊢
          exact ⟨trivial, hbad⟩
        | false =>
          simp only [e2, Bool.false_or, if_false, Bool.false_eq_true] at hN2 hbad ⊢
          refine ⟨_, gc.ixl h3 h4, ?_⟩
          try dsimp only [fAll, fSum, aRet, aRetN, aAndV, aOrV, aNotV, aIsi, aVar, aC, aChain, aOp, aUn, aTest, aTru, truD, aAnd, aOr, aNot, aIf, aCons, aNil, aTup, aLst, imAll, aCB, resAll, res, aCall, bok, isOw, bos, svOf, back, aNext, aSeq, aIfS, aAsg, aAsgO, aName, aGTup, aGCons, aGNil, aDrop, aFrz, frz, aOfL, fI0, fI, fNeg, fPlus, fLen, fTuple, fInt, fAbs, fMax2, fMin2, fIsN, fNotN, fIsB, fNotB, isNonD, isT, aApp, aAug, aPop, aSetI, aPar, aPar3, aMIm, aMFr, svM, aList, aSl, aPart, aNoPart, aISeq, aRg1, aRg2, aYes, wipeA, mrg, noOw, still, retA, Option.map, List.map, List.getElem?_cons_zero, List.getElem?_cons_succ, List.set_cons_zero, List.set_cons_succ, List.cons_append, List.nil_append, List.replicate, List.length_cons, List.length_nil, Bool.not_true, Bool.not_false, Bool.and_true, Bool.true_and, aZipTwo, aZip3]
          refine ⟨_, gc.jx h3 h4 i3 i4, _, gt.ix h3 h4, ?_⟩
          try dsimp only [fAll, fSum, aRet, aRetN, aAndV, aOrV, aNotV, aIsi, aVar, aC, aChain, aOp, aUn, aTest, aTru, truD, aAnd, aOr, aNot, aIf, aCons, aNil, aTup, aLst, imAll, aCB, resAll, res, aCall, bok, isOw, bos, svOf, back, aNext, aSeq, aIfS, aAsg, aAsgO, aName, aGTup, aGCons, aGNil, aDrop, aFrz, frz, aOfL, fI0, fI, fNeg, fPlus, fLen, fTuple, fInt, fAbs, fMax2, fMin2, fIsN, fNotN, fIsB, fNotB, isNonD, isT, aApp, aAug, aPop, aSetI, aPar, aPar3, aMIm, aMFr, svM, aList, aSl, aPart, aNoPart, aISeq, aRg1, aRg2, aYes, wipeA, mrg, noOw, still, retA, Option.map, List.map, List.getElem?_cons_zero, List.getElem?_cons_succ, List.set_cons_zero, List.set_cons_succ, List.cons_append, List.nil_append, List.replicate, List.length_cons, List.length_nil, Bool.not_true, Bool.not_false, Bool.and_true, Bool.true_and, aZipTwo, aZip3]
          refine ⟨_, gt.jx h3 h4 i3 i4, rfl, rfl, ?_⟩
          rw [eqv_int, show cel (cntIn hi wi m) r c = cnt hi wi m r c from cel_mk h3 h4 i3 i4]
          cases e3 : cnt hi wi m r c == cel t r c with
          | true =>
            simp only [e3, Bool.not_true, Bool.not_false, if_false, Bool.false_eq_true, forall_const] at hN2 ⊢
            exact hN2
          | false =>
            simp only [e3, Bool.not_true, Bool.not_false, if_true, forall_const] at hbad ⊢
            exact ⟨trivial, hbad⟩
    · rintro ρ' ⟨ha, u, rfl⟩
      exact hN _ ⟨all_app hI ha, _, _, rfl⟩
  · rintro ρ' ⟨ha, s, u, rfl⟩
    rw [fitsM_ok ha] at hk
    try dsimp only [fAll, fSum, aRet, aRetN, aAndV, aOrV, aNotV, aIsi, aVar, aC, aChain, aOp, aUn, aTest, aTru, truD, aAnd, aOr, aNot, aIf, aCons, aNil, aTup, aLst, imAll, aCB, resAll, res, aCall, bok, isOw, bos, svOf, back, aNext, aSeq, aIfS, aAsg, aAsgO, aName, aGTup, aGCons, aGNil, aDrop, aFrz, frz, aOfL, fI0, fI, fNeg, fPlus, fLen, fTuple, fInt, fAbs, fMax2, fMin2, fIsN, fNotN, fIsB, fNotB, isNonD, isT, aApp, aAug, aPop, aSetI, aPar, aPar3, aMIm, aMFr, svM, aList, aSl, aPart, aNoPart, aISeq, aRg1, aRg2, aYes, wipeA, mrg, noOw, still, retA, Option.map, List.map, List.getElem?_cons_zero, List.getElem?_cons_succ, List.set_cons_zero, List.set_cons_succ, List.cons_append, List.nil_append, List.replicate, List.length_cons, List.length_nil, Bool.not_true, Bool.not_false, Bool.and_true, Bool.true_and, aZipTwo, aZip3]
    exact ⟨rfl, hk⟩
def afCountsAround : AF := fun ρ k => ∃ h w m, ρ = [.im (.int h), .im (.int w), .im (gridD m)] ∧ (1 ≤ h ∧ h ≤ 30 ∧ 1 ≤ w ∧ w ≤ 30) ∧ Grid h w m ∧ Within 1 m ∧ k (gridD (cntIn h w m)) ρ
theorem ok_counts_around (Bn : Bt mg) (h : Here K mg "counts_around" sCountsAround ["high", "wide", "marks"]) (d_need_marks : Df P w K mg base 4 "need_marks" afNeedMarks) (d_counts_in : Df P w K mg base 2 "counts_in" afCountsIn) : Df P w K mg base 5 "counts_around" afCountsAround := by
  refine df_ok h scCountsAround [.un] (fun ρ kk h => by obtain ⟨_, _, _, rfl, _⟩ := h; rfl) (fun f cdv A outer s H E hr => ⟨_, _, _, (gss_cons (gs_expr (ge_dfK d_need_marks hr (ga_cons (gv 0) (ga_cons (gv 1) (ga_cons (gv 2) ga_nil)))))
      (gss_one (gs_ret (ge_tupleK (K := K) Bn (ga_cons (GL.e (gl_lc rfl scCountsAround.nd (blkOk_by (own := [("line", 3)]) (by kernel_rfl)) (gi_seqK (K := K) (ge_dfK d_counts_in hr (ga_cons (gv 0) (ga_cons (gv 1) (ga_cons (gv 2) ga_nil))))) (fun _ _ _ _ _ => (gg_name scCountsAround.nd (i := 3))) (fun _ _ _ _ _ => gts_nil) (fun _ _ _ _ _ => (ge_tupleK (K := K) Bn (ga_cons (gv 3) ga_nil))))) ga_nil))))), fun ρ kk h => ?_⟩)
  obtain ⟨hi, wi, m, rfl, hb, gm, ha, hk⟩ := h
  refine ⟨rfl, ?_⟩
  try dsimp only [fAll, fSum, aRet, aRetN, aAndV, aOrV, aNotV, aIsi, aVar, aC, aChain, aOp, aUn, aTest, aTru, truD, aAnd, aOr, aNot, aIf, aCons, aNil, aTup, aLst, imAll, aCB, resAll, res, aCall, bok, isOw, bos, svOf, back, aNext, aSeq, aIfS, aAsg, aAsgO, aName, aGTup, aGCons, aGNil, aDrop, aFrz, frz, aOfL, fI0, fI, fNeg, fPlus, fLen, fTuple, fInt, fAbs, fMax2, fMin2, fIsN, fNotN, fIsB, fNotB, isNonD, isT, aApp, aAug, aPop, aSetI, aPar, aPar3, aMIm, aMFr, svM, aList, aSl, aPart, aNoPart, aISeq, aRg1, aRg2, aYes, wipeA, mrg, noOw, still, retA, Option.map, List.map, List.getElem?_cons_zero, List.getElem?_cons_succ, List.set_cons_zero, List.set_cons_succ, List.cons_append, List.nil_append, List.replicate, List.length_cons, List.length_nil, Bool.not_true, Bool.not_false, Bool.and_true, Bool.true_and, aZipTwo, aZip3]
  refine ⟨rfl, hi, wi, m, rfl, hb, gm, ha, ?_⟩
  try dsimp only [fAll, fSum, aRet, aRetN, aAndV, aOrV, aNotV, aIsi, aVar, aC, aChain, aOp, aUn, aTest, aTru, truD, aAnd, aOr, aNot, aIf, aCons, aNil, aTup, aLst, imAll, aCB, resAll, res, aCall, bok, isOw, bos, svOf, back, aNext, aSeq, aIfS, aAsg, aAsgO, aName, aGTup, aGCons, aGNil, aDrop, aFrz, frz, aOfL, fI0, fI, fNeg, fPlus, fLen, fTuple, fInt, fAbs, fMax2, fMin2, fIsN, fNotN, fIsB, fNotB, isNonD, isT, aApp, aAug, aPop, aSetI, aPar, aPar3, aMIm, aMFr, svM, aList, aSl, aPart, aNoPart, aISeq, aRg1, aRg2, aYes, wipeA, mrg, noOw, still, retA, Option.map, List.map, List.getElem?_cons_zero, List.getElem?_cons_succ, List.set_cons_zero, List.set_cons_succ, List.cons_append, List.nil_append, List.replicate, List.length_cons, List.length_nil, Bool.not_true, Bool.not_false, Bool.and_true, Bool.true_and, aZipTwo, aZip3]
  refine aLc_mapM (cntIn hi wi m) lrowD rowD (fun k' hk' => ?_) rfl (by unfold cntIn; rw [List.length_map, rgI_len]; omega) (fun r hr Wy hW => ?_) ?_
  · try dsimp only [fAll, fSum, aRet, aRetN, aAndV, aOrV, aNotV, aIsi, aVar, aC, aChain, aOp, aUn, aTest, aTru, truD, aAnd, aOr, aNot, aIf, aCons, aNil, aTup, aLst, imAll, aCB, resAll, res, aCall, bok, isOw, bos, svOf, back, aNext, aSeq, aIfS, aAsg, aAsgO, aName, aGTup, aGCons, aGNil, aDrop, aFrz, frz, aOfL, fI0, fI, fNeg, fPlus, fLen, fTuple, fInt, fAbs, fMax2, fMin2, fIsN, fNotN, fIsB, fNotB, isNonD, isT, aApp, aAug, aPop, aSetI, aPar, aPar3, aMIm, aMFr, svM, aList, aSl, aPart, aNoPart, aISeq, aRg1, aRg2, aYes, wipeA, mrg, noOw, still, retA, Option.map, List.map, List.getElem?_cons_zero, List.getElem?_cons_succ, List.set_cons_zero, List.set_cons_succ, List.cons_append, List.nil_append, List.replicate, List.length_cons, List.length_nil, Bool.not_true, Bool.not_false, Bool.and_true, Bool.true_and, aZipTwo, aZip3]
    exact ⟨rfl, hi, wi, m, rfl, hb, gm, hk'⟩
  · unfold lrowD
    try dsimp only [fAll, fSum, aRet, aRetN, aAndV, aOrV, aNotV, aIsi, aVar, aC, aChain, aOp, aUn, aTest, aTru, truD, aAnd, aOr, aNot, aIf, aCons, aNil, aTup, aLst, imAll, aCB, resAll, res, aCall, bok, isOw, bos, svOf, back, aNext, aSeq, aIfS, aAsg, aAsgO, aName, aGTup, aGCons, aGNil, aDrop, aFrz, frz, aOfL, fI0, fI, fNeg, fPlus, fLen, fTuple, fInt, fAbs, fMax2, fMin2, fIsN, fNotN, fIsB, fNotB, isNonD, isT, aApp, aAug, aPop, aSetI, aPar, aPar3, aMIm, aMFr, svM, aList, aSl, aPart, aNoPart, aISeq, aRg1, aRg2, aYes, wipeA, mrg, noOw, still, retA, Option.map, List.map, List.getElem?_cons_zero, List.getElem?_cons_succ, List.set_cons_zero, List.set_cons_succ, List.cons_append, List.nil_append, List.replicate, List.length_cons, List.length_nil, Bool.not_true, Bool.not_false, Bool.and_true, Bool.true_and, aZipTwo, aZip3]
    exact ⟨_, rfl, hW⟩
  · try dsimp only [fAll, fSum, aRet, aRetN, aAndV, aOrV, aNotV, aIsi, aVar, aC, aChain, aOp, aUn, aTest, aTru, truD, aAnd, aOr, aNot, aIf, aCons, aNil, aTup, aLst, imAll, aCB, resAll, res, aCall, bok, isOw, bos, svOf, back, aNext, aSeq, aIfS, aAsg, aAsgO, aName, aGTup, aGCons, aGNil, aDrop, aFrz, frz, aOfL, fI0, fI, fNeg, fPlus, fLen, fTuple, fInt, fAbs, fMax2, fMin2, fIsN, fNotN, fIsB, fNotB, isNonD, isT, aApp, aAug, aPop, aSetI, aPar, aPar3, aMIm, aMFr, svM, aList, aSl, aPart, aNoPart, aISeq, aRg1, aRg2, aYes, wipeA, mrg, noOw, still, retA, Option.map, List.map, List.getElem?_cons_zero, List.getElem?_cons_succ, List.set_cons_zero, List.set_cons_succ, List.cons_append, List.nil_append, List.replicate, List.length_cons, List.length_nil, Bool.not_true, Bool.not_false, Bool.and_true, Bool.true_and, aZipTwo, aZip3]
    exact ⟨rfl, hk⟩
def afFitsTold : AF := fun ρ k => ∃ h w t m, ρ = [.im (.int h), .im (.int w), .im (gridD t), .im (gridD m)] ∧ (1 ≤ h ∧ h ≤ 30 ∧ 1 ≤ w ∧ w ≤ 30) ∧ Grid h w t ∧ Within 9 t ∧ Grid h w m ∧ Within 1 m ∧ k (.bl (fitsM (cnt h w m) h w t m)) ρ
theorem ok_fits_told (cGREAT : IsInt mg "GREAT" 30) (h : Here K mg "fits_told" sFitsTold ["high", "wide", "told", "marks"]) (d_need_told : Df P w K mg base 4 "need_told" afNeedTold) (d_fits_signs : Df P w K mg base 2 "fits_signs" afFitsSigns) (d_fits_marks : Df P w K mg base 3 "fits_marks" afFitsMarks) : Df P w K mg base 5 "fits_told" afFitsTold := by
  refine df_ok h scFitsTold [] (fun ρ kk h => by obtain ⟨_, _, _, _, rfl, _⟩ := h; rfl) (fun f cdv A outer s H E hr => ⟨_, _, _, (gss_cons (gs_expr (ge_dfK d_need_told hr (ga_cons (gv 0) (ga_cons (gv 1) (ga_cons (gv 2) (ga_cons (ge_gint cGREAT) ga_nil))))))
      (gss_cons (gs_if (gt_not (gt_truthK (K := K) (ge_dfK d_fits_signs hr (ga_cons (gv 0) (ga_cons (gv 1) (ga_cons (gv 3) (ga_cons ge_int ga_nil))))))) (gss_one gs_never) gss_nil)
      (gss_one (gs_ret (ge_dfK d_fits_marks hr (ga_cons (gv 0) (ga_cons (gv 1) (ga_cons (gv 2) (ga_cons (gv 3) ga_nil))))))))), fun ρ kk h => ?_⟩)
  obtain ⟨hi, wi, t, m, rfl, hb, gt, at', gm, am, hk⟩ := h
  refine ⟨rfl, ?_⟩
  try dsimp only [fAll, fSum, aRet, aRetN, aAndV, aOrV, aNotV, aIsi, aVar, aC, aChain, aOp, aUn, aTest, aTru, truD, aAnd, aOr, aNot, aIf, aCons, aNil, aTup, aLst, imAll, aCB, resAll, res, aCall, bok, isOw, bos, svOf, back, aNext, aSeq, aIfS, aAsg, aAsgO, aName, aGTup, aGCons, aGNil, aDrop, aFrz, frz, aOfL, fI0, fI, fNeg, fPlus, fLen, fTuple, fInt, fAbs, fMax2, fMin2, fIsN, fNotN, fIsB, fNotB, isNonD, isT, aApp, aAug, aPop, aSetI, aPar, aPar3, aMIm, aMFr, svM, aList, aSl, aPart, aNoPart, aISeq, aRg1, aRg2, aYes, wipeA, mrg, noOw, still, retA, Option.map, List.map, List.getElem?_cons_zero, List.getElem?_cons_succ, List.set_cons_zero, List.set_cons_succ, List.cons_append, List.nil_append, List.replicate, List.length_cons, List.length_nil, Bool.not_true, Bool.not_false, Bool.and_true, Bool.true_and, aZipTwo, aZip3]
  refine ⟨rfl, hi, wi, t, 30, rfl, ⟨hb.1, hb.2.1, hb.2.2.1, hb.2.2.2, hb.2.2.2⟩, gt, at', rfl, hi, wi, gridD m, 1, rfl, okd_grid m, sized_grid gm (by omega) (by omega), ?_⟩
  rw [fits_grid gm am]
  exact ⟨rfl, hi, wi, t, m, rfl, hb, gt, gm, rfl, hk⟩
end
end K76

namespace K76
open PySem PySem.Spec L2 DL
open PyProof.Rows hiding St
theorem zip3D_map {α : Type} (f g h : α → D) (xs : List α) : zip3D (xs.map f) (xs.map g) (xs.map h) = xs.map fun x => .tup [f x, g x, h x] := by
  induction xs with
  | nil => rfl
  | cons x xs ih => simp only [List.map_cons, zip3D, ih]
theorem list_rgI {α : Type} (f : α → D) (d : α) {n : Int} {l : List α} (h : (l.length : Int) = n) : l.map f = (rgI 0 n).map fun i => f (l.getD i.toNat d) := by
  apply List.ext_getElem?
  intro i
  rw [List.getElem?_map, List.getElem?_map]
  unfold rgI
  by_cases hi : i < l.length
  · rw [List.getElem?_map, List.getElem?_range (by omega), List.getElem?_eq_getElem hi]
    simp [hi]
  · rw [List.getElem?_eq_none (by omega), List.getElem?_eq_none (by rw [List.length_map, List.length_range]; omega)]; rfl
theorem Grid.rows {h w : Int} {m : Gr} (g : Grid h w m) : m.map rowD = (rgI 0 h).map fun r => rowD (m.getD r.toNat []) := list_rgI rowD [] g.len
theorem Grid.rowI {h w : Int} {m : Gr} (g : Grid h w m) {r : Int} (h0 : 0 ≤ r) (h1 : r < h) : (m.getD r.toNat []).map D.int = (rgI 0 w).map fun c => D.int (cel m r c) := list_rgI D.int 0 (g.at h0 h1).2
/-- what is told of marks where they are shown -/
def toldR (C : Int → Int → Int) (w : Int) (m s : Gr) (r : Int) : List Int := (rgI 0 w).map fun c => if cel s r c ≠ 0 ∧ cel m r c = 0 then C r c else 9
def toldG (C : Int → Int → Int) (h w : Int) (m s : Gr) : Gr := (rgI 0 h).map fun r => toldR C w m s r
theorem aZ3_grid (c m s : Gr) : aZ3 [.im (lgridD c), .im (gridD m), .im (gridD s)] = some (zip3D (c.map lrowD) (m.map rowD) (s.map rowD)) := rfl
theorem aZ3_row (a b c : List Int) : aZ3 [.im (lrowD a), .im (rowD b), .im (rowD c)] = some (zip3D (a.map D.int) (b.map D.int) (c.map D.int)) := rfl
theorem zip_grids {h w : Int} {m s : Gr} (gm : Grid h w m) (gs : Grid h w s) : zip3D ((cntIn h w m).map lrowD) (m.map rowD) (s.map rowD) = (rgI 0 h).map fun r => .tup [lrowD (cntRow h w m r), rowD (m.getD r.toNat []), rowD (s.getD r.toNat [])] := by
  rw [gm.rows, gs.rows, show (cntIn h w m).map lrowD = (rgI 0 h).map fun r => lrowD (cntRow h w m r) from by unfold cntIn; rw [List.map_map]; rfl, zip3D_map]
theorem rowI (C : Int → Int → Int) (w : Int) (m s : Gr) (r : Int) : rowD (toldR C w m s r) = .tup ((rgI 0 w).map fun c => D.int (if cel s r c ≠ 0 ∧ cel m r c = 0 then C r c else 9)) := by unfold rowD toldR; rw [List.map_map]; rfl
theorem lrowI (h w : Int) (m : Gr) (r : Int) : (cntRow h w m r).map D.int = (rgI 0 w).map fun c => D.int (cnt h w m r c) := by unfold cntRow; rw [List.map_map]; rfl
def isOwS : SV → Bool
  | .ow _ => true
  | _ => false
section
variable {P : Program} {w : World} {K : PySem.W.Frag} {mg : Str → Option Value} {base : Heap}
def afToldBy : AF := fun ρ k => ∃ h w m s, ρ = [.im (.int h), .im (.int w), .im (gridD m), .im (gridD s)] ∧ (1 ≤ h ∧ h ≤ 30 ∧ 1 ≤ w ∧ w ≤ 30) ∧ Grid h w m ∧ Within 1 m ∧ Grid h w s ∧ Within 1 s ∧ k (gridD (toldG (cnt h w m) h w m s)) ρ
theorem ok_told_by (Bn : Bt mg) (cOPEN : IsInt mg "OPEN" 9) (h : Here K mg "told_by" sToldBy ["high", "wide", "marks", "shown"]) (d_need_marks : Df P w K mg base 4 "need_marks" afNeedMarks) (d_fits_signs : Df P w K mg base 2 "fits_signs" afFitsSigns) (d_counts_in : Df P w K mg base 2 "counts_in" afCountsIn) : Df P w K mg base 5 "told_by" afToldBy := by
  refine df_ok h scToldBy [.un, .un, .un, .un, .un, .un, .un, .un] (fun ρ kk h => by obtain ⟨_, _, _, _, rfl, _⟩ := h; rfl) (fun f cdv A outer s H E hr => ⟨_, _, _, (gss_cons (gs_expr (ge_dfK d_need_marks hr (ga_cons (gv 0) (ga_cons (gv 1) (ga_cons (gv 2) ga_nil)))))
      (gss_cons (gs_if (gt_not (gt_truthK (K := K) (ge_dfK d_fits_signs hr (ga_cons (gv 0) (ga_cons (gv 1) (ga_cons (gv 3) (ga_cons ge_int ga_nil))))))) (gss_one gs_never) gss_nil)
      (gss_cons (gs_setO (i := 4) scToldBy.nd (gl_lst ga_nil))
      (gss_cons (gs_for PassesOwn.never rfl (gi_zip3 (K := K) Bn (ga_cons (ge_dfK d_counts_in hr (ga_cons (gv 0) (ga_cons (gv 1) (ga_cons (gv 2) ga_nil)))) (ga_cons (gv 2) (ga_cons (gv 3) ga_nil)))) (gg_tupK (K := K) (n := 3) rfl (ggs_cons (gg_name scToldBy.nd (i := 5)) (ggs_cons (gg_name scToldBy.nd (i := 6)) (ggs_cons (gg_name scToldBy.nd (i := 7)) ggs_nil))))
      (gss_zip2e (k := 8) (j := 4) rfl scToldBy.nd Bn (ga_cons (gv 5) (ga_cons (gv 6) (ga_cons (gv 7) ga_nil))) (blkOk_by (own := [("count", 9), ("mark", 10), ("is_shown", 11)]) (by kernel_rfl)) (fun _ _ _ _ _ => (gg_tupK (K := K) (n := 3) rfl (ggs_cons (gg_name scToldBy.nd (i := 9)) (ggs_cons (gg_name scToldBy.nd (i := 10)) (ggs_cons (gg_name scToldBy.nd (i := 11)) ggs_nil))))) (fun _ _ _ _ _ => gts_nil) (fun _ _ _ _ _ => (ge_if (GW.gt (gw_and (gt_truthK (K := K) (gv 11)) (gw_and1 (gt_not (gt_truthK (K := K) (gv 10)))))) (gv 9) (ge_gint cOPEN)))))
      (gss_one (gs_ret (ge_tupleK (K := K) Bn (ga_cons (gv 4) ga_nil)))))))), fun ρ kk h => ?_⟩)
  obtain ⟨hi, wi, m, sh, rfl, hb, gm, am, gs, as', hk⟩ := h
  refine ⟨rfl, ?_⟩
  try dsimp only [fAll, fSum, aRet, aRetN, aAndV, aOrV, aNotV, aIsi, aVar, aC, aChain, aOp, aUn, aTest, aTru, truD, aAnd, aOr, aNot, aIf, aCons, aNil, aTup, aLst, imAll, aCB, resAll, res, aCall, bok, isOw, bos, svOf, back, aNext, aSeq, aIfS, aAsg, aAsgO, aName, aGTup, aGCons, aGNil, aDrop, aFrz, frz, aOfL, fI0, fI, fNeg, fPlus, fLen, fTuple, fInt, fAbs, fMax2, fMin2, fIsN, fNotN, fIsB, fNotB, isNonD, isT, aApp, aAug, aPop, aSetI, aPar, aPar3, aMIm, aMFr, svM, aList, aSl, aPart, aNoPart, aISeq, aRg1, aRg2, aYes, wipeA, mrg, noOw, still, retA, Option.map, List.map, List.getElem?_cons_zero, List.getElem?_cons_succ, List.set_cons_zero, List.set_cons_succ, List.cons_append, List.nil_append, List.replicate, List.length_cons, List.length_nil, Bool.not_true, Bool.not_false, Bool.and_true, Bool.true_and, aZipTwo, aZip3]
  refine ⟨rfl, hi, wi, m, rfl, hb, gm, am, rfl, hi, wi, gridD sh, 1, rfl, okd_grid sh, sized_grid gs (by omega) (by omega), ?_⟩
  rw [fits_grid gs as']
  simp only [Bool.not_true, Bool.false_eq_true, if_false]
  refine ⟨by decide, ?_⟩
  try dsimp only [fAll, fSum, aRet, aRetN, aAndV, aOrV, aNotV, aIsi, aVar, aC, aChain, aOp, aUn, aTest, aTru, truD, aAnd, aOr, aNot, aIf, aCons, aNil, aTup, aLst, imAll, aCB, resAll, res, aCall, bok, isOw, bos, svOf, back, aNext, aSeq, aIfS, aAsg, aAsgO, aName, aGTup, aGCons, aGNil, aDrop, aFrz, frz, aOfL, fI0, fI, fNeg, fPlus, fLen, fTuple, fInt, fAbs, fMax2, fMin2, fIsN, fNotN, fIsB, fNotB, isNonD, isT, aApp, aAug, aPop, aSetI, aPar, aPar3, aMIm, aMFr, svM, aList, aSl, aPart, aNoPart, aISeq, aRg1, aRg2, aYes, wipeA, mrg, noOw, still, retA, Option.map, List.map, List.getElem?_cons_zero, List.getElem?_cons_succ, List.set_cons_zero, List.set_cons_succ, List.cons_append, List.nil_append, List.replicate, List.length_cons, List.length_nil, Bool.not_true, Bool.not_false, Bool.and_true, Bool.true_and, aZipTwo, aZip3]
  refine aFor_map (rgI 0 hi) (fun r => .tup [lrowD (cntRow hi wi m r), rowD (m.getD r.toNat []), rowD (sh.getD r.toNat [])]) (fun pre ρ' => ∃ a b c, ρ' = [.im (.int hi), .im (.int wi), .im (gridD m), .im (gridD sh), .ow (.ol (pre.map fun r => rowD (toldR (cnt hi wi m) wi m sh r))), a, b, c, .un, .un, .un, .un]) (fun k' hk' => ?_) ⟨.un, .un, .un, rfl⟩ (fun pre r post ρ' hx hI N hN => ?_) ?_
  · try dsimp only [fAll, fSum, aRet, aRetN, aAndV, aOrV, aNotV, aIsi, aVar, aC, aChain, aOp, aUn, aTest, aTru, truD, aAnd, aOr, aNot, aIf, aCons, aNil, aTup, aLst, imAll, aCB, resAll, res, aCall, bok, isOw, bos, svOf, back, aNext, aSeq, aIfS, aAsg, aAsgO, aName, aGTup, aGCons, aGNil, aDrop, aFrz, frz, aOfL, fI0, fI, fNeg, fPlus, fLen, fTuple, fInt, fAbs, fMax2, fMin2, fIsN, fNotN, fIsB, fNotB, isNonD, isT, aApp, aAug, aPop, aSetI, aPar, aPar3, aMIm, aMFr, svM, aList, aSl, aPart, aNoPart, aISeq, aRg1, aRg2, aYes, wipeA, mrg, noOw, still, retA, Option.map, List.map, List.getElem?_cons_zero, List.getElem?_cons_succ, List.set_cons_zero, List.set_cons_succ, List.cons_append, List.nil_append, List.replicate, List.length_cons, List.length_nil, Bool.not_true, Bool.not_false, Bool.and_true, Bool.true_and, aZipTwo, aZip3]
    refine ⟨rfl, hi, wi, m, rfl, hb, gm, ?_⟩
    try dsimp only [fAll, fSum, aRet, aRetN, aAndV, aOrV, aNotV, aIsi, aVar, aC, aChain, aOp, aUn, aTest, aTru, truD, aAnd, aOr, aNot, aIf, aCons, aNil, aTup, aLst, imAll, aCB, resAll, res, aCall, bok, isOw, bos, svOf, back, aNext, aSeq, aIfS, aAsg, aAsgO, aName, aGTup, aGCons, aGNil, aDrop, aFrz, frz, aOfL, fI0, fI, fNeg, fPlus, fLen, fTuple, fInt, fAbs, fMax2, fMin2, fIsN, fNotN, fIsB, fNotB, isNonD, isT, aApp, aAug, aPop, aSetI, aPar, aPar3, aMIm, aMFr, svM, aList, aSl, aPart, aNoPart, aISeq, aRg1, aRg2, aYes, wipeA, mrg, noOw, still, retA, Option.map, List.map, List.getElem?_cons_zero, List.getElem?_cons_succ, List.set_cons_zero, List.set_cons_succ, List.cons_append, List.nil_append, List.replicate, List.length_cons, List.length_nil, Bool.not_true, Bool.not_false, Bool.and_true, Bool.true_and, aZipTwo, aZip3]
    rw [aZ3_grid, zip_grids gm gs]
    exact hk'
  · obtain ⟨a, b, c, rfl⟩ := hI
    obtain ⟨_, _, h3, h4⟩ := rgI_pre hx
    try dsimp only [fAll, fSum, aRet, aRetN, aAndV, aOrV, aNotV, aIsi, aVar, aC, aChain, aOp, aUn, aTest, aTru, truD, aAnd, aOr, aNot, aIf, aCons, aNil, aTup, aLst, imAll, aCB, resAll, res, aCall, bok, isOw, bos, svOf, back, aNext, aSeq, aIfS, aAsg, aAsgO, aName, aGTup, aGCons, aGNil, aDrop, aFrz, frz, aOfL, fI0, fI, fNeg, fPlus, fLen, fTuple, fInt, fAbs, fMax2, fMin2, fIsN, fNotN, fIsB, fNotB, isNonD, isT, aApp, aAug, aPop, aSetI, aPar, aPar3, aMIm, aMFr, svM, aList, aSl, aPart, aNoPart, aISeq, aRg1, aRg2, aYes, wipeA, mrg, noOw, still, retA, Option.map, List.map, List.getElem?_cons_zero, List.getElem?_cons_succ, List.set_cons_zero, List.set_cons_succ, List.cons_append, List.nil_append, List.replicate, List.length_cons, List.length_nil, Bool.not_true, Bool.not_false, Bool.and_true, Bool.true_and, aZipTwo, aZip3]
    refine ⟨rfl, rfl, ?_⟩
    rw [aZ3_row, lrowI, gm.rowI h3 h4, gs.rowI h3 h4, zip3D_map]
    try dsimp only [fAll, fSum, aRet, aRetN, aAndV, aOrV, aNotV, aIsi, aVar, aC, aChain, aOp, aUn, aTest, aTru, truD, aAnd, aOr, aNot, aIf, aCons, aNil, aTup, aLst, imAll, aCB, resAll, res, aCall, bok, isOw, bos, svOf, back, aNext, aSeq, aIfS, aAsg, aAsgO, aName, aGTup, aGCons, aGNil, aDrop, aFrz, frz, aOfL, fI0, fI, fNeg, fPlus, fLen, fTuple, fInt, fAbs, fMax2, fMin2, fIsN, fNotN, fIsB, fNotB, isNonD, isT, aApp, aAug, aPop, aSetI, aPar, aPar3, aMIm, aMFr, svM, aList, aSl, aPart, aNoPart, aISeq, aRg1, aRg2, aYes, wipeA, mrg, noOw, still, retA, Option.map, List.map, List.getElem?_cons_zero, List.getElem?_cons_succ, List.set_cons_zero, List.set_cons_succ, List.cons_append, List.nil_append, List.replicate, List.length_cons, List.length_nil, Bool.not_true, Bool.not_false, Bool.and_true, Bool.true_and, aZipTwo, aZip3]
    refine ⟨by decide, rfl, ?_⟩
    refine ⟨by decide, rfl, ?_⟩
    refine aLc_mapM (rgI 0 wi) (fun c => .tup [.int (cnt hi wi m r c), .int (cel m r c), .int (cel sh r c)]) (fun c => .int (if cel sh r c ≠ 0 ∧ cel m r c = 0 then cnt hi wi m r c else 9)) (fun _ h => h) rfl (by rw [rgI_len]; omega) (fun c hc Wy hW => ?_) ?_
    · try dsimp only [fAll, fSum, aRet, aRetN, aAndV, aOrV, aNotV, aIsi, aVar, aC, aChain, aOp, aUn, aTest, aTru, truD, aAnd, aOr, aNot, aIf, aCons, aNil, aTup, aLst, imAll, aCB, resAll, res, aCall, bok, isOw, bos, svOf, back, aNext, aSeq, aIfS, aAsg, aAsgO, aName, aGTup, aGCons, aGNil, aDrop, aFrz, frz, aOfL, fI0, fI, fNeg, fPlus, fLen, fTuple, fInt, fAbs, fMax2, fMin2, fIsN, fNotN, fIsB, fNotB, isNonD, isT, aApp, aAug, aPop, aSetI, aPar, aPar3, aMIm, aMFr, svM, aList, aSl, aPart, aNoPart, aISeq, aRg1, aRg2, aYes, wipeA, mrg, noOw, still, retA, Option.map, List.map, List.getElem?_cons_zero, List.getElem?_cons_succ, List.set_cons_zero, List.set_cons_succ, List.cons_append, List.nil_append, List.replicate, List.length_cons, List.length_nil, Bool.not_true, Bool.not_false, Bool.and_true, Bool.true_and, aZipTwo, aZip3]
      refine ⟨rfl, rfl, ?_⟩
      by_cases e1 : cel sh r c = 0
      · have e1' : (cel sh r c != 0) = false := by simp [e1]
        rw [if_neg (fun z => z.1 e1)] at hW
        simp only [e1', Bool.false_eq_true, if_false]
        exact ⟨_, rfl, hW⟩
      · have e1' : (cel sh r c != 0) = true := by simp [e1]
        simp only [e1', if_true]
        by_cases e2 : cel m r c = 0
        · have e2' : (cel m r c != 0) = false := by simp [e2]
          rw [if_pos ⟨e1, e2⟩] at hW
          simp only [e2', Bool.not_false, if_true]
          exact ⟨_, rfl, hW⟩
        · have e2' : (cel m r c != 0) = true := by simp [e2]
          rw [if_neg (fun z => e2 z.2)] at hW
          simp only [e2', Bool.not_true, Bool.false_eq_true, if_false]
          exact ⟨_, rfl, hW⟩
    · try dsimp only [fAll, fSum, aRet, aRetN, aAndV, aOrV, aNotV, aIsi, aVar, aC, aChain, aOp, aUn, aTest, aTru, truD, aAnd, aOr, aNot, aIf, aCons, aNil, aTup, aLst, imAll, aCB, resAll, res, aCall, bok, isOw, bos, svOf, back, aNext, aSeq, aIfS, aAsg, aAsgO, aName, aGTup, aGCons, aGNil, aDrop, aFrz, frz, aOfL, fI0, fI, fNeg, fPlus, fLen, fTuple, fInt, fAbs, fMax2, fMin2, fIsN, fNotN, fIsB, fNotB, isNonD, isT, aApp, aAug, aPop, aSetI, aPar, aPar3, aMIm, aMFr, svM, aList, aSl, aPart, aNoPart, aISeq, aRg1, aRg2, aYes, wipeA, mrg, noOw, still, retA, Option.map, List.map, List.getElem?_cons_zero, List.getElem?_cons_succ, List.set_cons_zero, List.set_cons_succ, List.cons_append, List.nil_append, List.replicate, List.length_cons, List.length_nil, Bool.not_true, Bool.not_false, Bool.and_true, Bool.true_and, aZipTwo, aZip3]
      have hl : pre.length ≤ 30 := by
        have h5 := congrArg List.length hx
        rw [rgI_len, List.length_append, List.length_cons] at h5
        omega
      refine ⟨by rw [List.length_map]; omega, ?_⟩
      simp only [List.map_append, List.map_cons, List.map_nil] at hN
      rw [rowI _ _ _ _ r] at hN
      exact hN _ ⟨_, _, _, rfl⟩
  · rintro ρ' ⟨a, b, c, rfl⟩
    try dsimp only [fAll, fSum, aRet, aRetN, aAndV, aOrV, aNotV, aIsi, aVar, aC, aChain, aOp, aUn, aTest, aTru, truD, aAnd, aOr, aNot, aIf, aCons, aNil, aTup, aLst, imAll, aCB, resAll, res, aCall, bok, isOw, bos, svOf, back, aNext, aSeq, aIfS, aAsg, aAsgO, aName, aGTup, aGCons, aGNil, aDrop, aFrz, frz, aOfL, fI0, fI, fNeg, fPlus, fLen, fTuple, fInt, fAbs, fMax2, fMin2, fIsN, fNotN, fIsB, fNotB, isNonD, isT, aApp, aAug, aPop, aSetI, aPar, aPar3, aMIm, aMFr, svM, aList, aSl, aPart, aNoPart, aISeq, aRg1, aRg2, aYes, wipeA, mrg, noOw, still, retA, Option.map, List.map, List.getElem?_cons_zero, List.getElem?_cons_succ, List.set_cons_zero, List.set_cons_succ, List.cons_append, List.nil_append, List.replicate, List.length_cons, List.length_nil, Bool.not_true, Bool.not_false, Bool.and_true, Bool.true_and, aZipTwo, aZip3]
    unfold gridD toldG at hk
    rw [List.map_map] at hk
    exact ⟨rfl, hk⟩
end
end K76

namespace K76
open PySem PySem.Spec L2 DL
open PyProof.Rows hiding St
section
variable {P : Program} {w : World} {K : PySem.W.Frag} {mg : Str → Option Value} {base : Heap}
abbrev cupS (a b : Int) : SV := .ow (.ol [.int a, .int b])
def afCup : AFL := fun ρ k => ∃ ns, ρ = [.im (.scr ns)] ∧ ns.length ≤ 999999 ∧ ∀ a b, k [.int a, .int b] ρ
theorem ok_law_cup (Bn : Bt mg) (h : Here K mg "_law_cup" sLawCup ["script"]) : DfL P w K mg base 1 "_law_cup" afCup := by
  refine dfL_ok h scLawCup [.un] (fun ρ kk h => by obtain ⟨_, rfl, _⟩ := h; rfl) (fun f cdv A outer s H E hr => ⟨_, _, _, (gss_cons (gs_set (i := 1) scLawCup.nd (ge_abs Bn (ga_cons (ge_ixK (K := K) (ge_plus (K := K) (GL.e (gl_listK (K := K) Bn.list (ga_cons (gv 0) ga_nil))) (GL.e (gl_lst (ga_cons ge_int ga_nil)))) ge_int) ga_nil)))
      (gss_one (gs_retL (gl_lst (ga_cons (ge_if (gt_cmp op_ge lk_ge (gv 1) (ge_op op_pow lk_pow ge_int ge_int) (nomark _)) (ge_op op_fdivW lk_fdivW (gv 1) ge_int) ge_int) (ga_cons (ge_plus (K := K) (ge_op op_mod lk_mod (ge_int1 Bn (ga_cons (ge_plus (K := K) (ge_op op_mul lk_mul (gv 1) ge_int) ge_int) ga_nil)) ge_int) ge_int) ga_nil)))))), fun ρ kk h => ?_⟩)
  obtain ⟨ns, rfl, hl, hk⟩ := h
  refine ⟨rfl, ?_⟩
  try dsimp only [fAll, fSum, aRet, aRetN, aAndV, aOrV, aNotV, aIsi, aVar, aC, aChain, aOp, aUn, aTest, aTru, truD, aAnd, aOr, aNot, aIf, aCons, aNil, aTup, aLst, imAll, aCB, resAll, res, aCall, bok, isOw, bos, svOf, back, aNext, aSeq, aIfS, aAsg, aAsgO, aName, aGTup, aGCons, aGNil, aDrop, aFrz, frz, aOfL, fI0, fI, fNeg, fPlus, fLen, fTuple, fInt, fAbs, fMax2, fMin2, fIsN, fNotN, fIsB, fNotB, isNonD, isT, aApp, aAug, aPop, aSetI, aPar, aPar3, aMIm, aMFr, svM, aList, aSl, aPart, aNoPart, aISeq, aRg1, aRg2, aYes, wipeA, mrg, noOw, still, retA, Option.map, List.map, List.getElem?_cons_zero, List.getElem?_cons_succ, List.set_cons_zero, List.set_cons_succ, List.cons_append, List.nil_append, List.replicate, List.length_cons, List.length_nil, Bool.not_true, Bool.not_false, Bool.and_true, Bool.true_and, aZipTwo, aZip3]
  refine ⟨by decide, by rw [List.length_map]; omega, ?_⟩
  have hc : ∀ c : Int, True := fun _ => trivial
  have go : ∃ c : Int, atI (ns.map D.int ++ [D.int 0]) 0 = some (.int c) := by
    cases ns with
    | nil => exact ⟨0, rfl⟩
    | cons n ns => exact ⟨n, atI_nat (by decide) rfl⟩
  obtain ⟨c, hc⟩ := go
  refine ⟨_, hc, ?_⟩
  try dsimp only [fAll, fSum, aRet, aRetN, aAndV, aOrV, aNotV, aIsi, aVar, aC, aChain, aOp, aUn, aTest, aTru, truD, aAnd, aOr, aNot, aIf, aCons, aNil, aTup, aLst, imAll, aCB, resAll, res, aCall, bok, isOw, bos, svOf, back, aNext, aSeq, aIfS, aAsg, aAsgO, aName, aGTup, aGCons, aGNil, aDrop, aFrz, frz, aOfL, fI0, fI, fNeg, fPlus, fLen, fTuple, fInt, fAbs, fMax2, fMin2, fIsN, fNotN, fIsB, fNotB, isNonD, isT, aApp, aAug, aPop, aSetI, aPar, aPar3, aMIm, aMFr, svM, aList, aSl, aPart, aNoPart, aISeq, aRg1, aRg2, aYes, wipeA, mrg, noOw, still, retA, Option.map, List.map, List.getElem?_cons_zero, List.getElem?_cons_succ, List.set_cons_zero, List.set_cons_succ, List.cons_append, List.nil_append, List.replicate, List.length_cons, List.length_nil, Bool.not_true, Bool.not_false, Bool.and_true, Bool.true_and, aZipTwo, aZip3]
  have h1 : CPow (10 : Int) 18 := by refine ⟨by decide, by decide, by decide⟩
  have h2 : ∀ i : Int, CDivW i 127 := fun i => ⟨by decide, by decide +kernel⟩
  have h3 : ∀ i : Int, CMul i 1433 := fun i => .inr ⟨by decide, by decide⟩
  generalize (if c < 0 then -c else c) = e
  refine ⟨h1, ?_⟩
  try dsimp only [fAll, fSum, aRet, aRetN, aAndV, aOrV, aNotV, aIsi, aVar, aC, aChain, aOp, aUn, aTest, aTru, truD, aAnd, aOr, aNot, aIf, aCons, aNil, aTup, aLst, imAll, aCB, resAll, res, aCall, bok, isOw, bos, svOf, back, aNext, aSeq, aIfS, aAsg, aAsgO, aName, aGTup, aGCons, aGNil, aDrop, aFrz, frz, aOfL, fI0, fI, fNeg, fPlus, fLen, fTuple, fInt, fAbs, fMax2, fMin2, fIsN, fNotN, fIsB, fNotB, isNonD, isT, aApp, aAug, aPop, aSetI, aPar, aPar3, aMIm, aMFr, svM, aList, aSl, aPart, aNoPart, aISeq, aRg1, aRg2, aYes, wipeA, mrg, noOw, still, retA, Option.map, List.map, List.getElem?_cons_zero, List.getElem?_cons_succ, List.set_cons_zero, List.set_cons_succ, List.cons_append, List.nil_append, List.replicate, List.length_cons, List.length_nil, Bool.not_true, Bool.not_false, Bool.and_true, Bool.true_and, aZipTwo, aZip3]
  by_cases h4 : decide ((10 : Int) ^ (18 : Int).toNat ≤ e) = true
  · rw [if_pos h4]
    exact ⟨h2 _, h3 _, by decide, by decide, rfl, hk _ _⟩
  · rw [if_neg h4]
    exact ⟨h3 _, by decide, by decide, rfl, hk _ _⟩
def afRoll : AF := fun ρ k => ∃ a b n, ρ = [cupS a b, .im (.int n)] ∧ (1 ≤ n ∧ n ≤ 8000) ∧ ∀ v a' b', 0 ≤ v → v < n → k (.int v) [cupS a' b', .im (.int n)]
theorem ok_law_roll (Bn : Bt mg) (h : Here K mg "_law_roll" sLawRoll ["cup", "many"]) : Df P w K mg base 1 "_law_roll" afRoll := by
  refine df_ok h scLawRoll [.un, .un] (fun ρ kk h => by obtain ⟨_, _, _, rfl, _⟩ := h; rfl) (fun f cdv A outer s H E hr => ⟨_, _, _, (gss_cons (gs_if (gt_cmp op_gt lk_gt (ge_ixK (K := K) (gv 0) ge_int) ge_int (nomark _)) (gss_cons (gs_set (i := 2) scLawRoll.nd (ge_op op_mod lk_mod (ge_int1 Bn (ga_cons (ge_ixK (K := K) (gv 0) ge_int) ga_nil)) (gv 1)))
      (gss_cons (gs_asg (ge_op op_fdivW lk_fdivW (ge_ixK (K := K) (gv 0) ge_int) (gv 1)) (gg_setI 0 ge_int))
      (gss_one (gs_ret (gv 2))))) gss_nil)
      (gss_cons (gs_asg (ge_op op_mod lk_mod (ge_int1 Bn (ga_cons (ge_plus (K := K) (ge_op op_mul lk_mul (ge_ixK (K := K) (gv 0) ge_int) ge_int) ge_int) ga_nil)) ge_int) (gg_setI 0 ge_int))
      (gss_cons (gs_set (i := 3) scLawRoll.nd (ge_op op_mod lk_mod (ge_int1 Bn (ga_cons (ge_op op_mul lk_mul (ge_ixK (K := K) (gv 0) ge_int) (ge_plus (K := K) (ge_ixK (K := K) (gv 0) ge_int) ge_int)) ga_nil)) ge_int))
      (gss_one (gs_ret (ge_op op_mod lk_mod (ge_int1 Bn (ga_cons (ge_op op_fdivW lk_fdivW (gv 3) ge_int) ga_nil)) (gv 1))))))), fun ρ kk h => ?_⟩)
  obtain ⟨a, b, n, rfl, hn, hk⟩ := h
  refine ⟨rfl, ?_⟩
  try dsimp only [fAll, fSum, aRet, aRetN, aAndV, aOrV, aNotV, aIsi, aVar, aC, aChain, aOp, aUn, aTest, aTru, truD, aAnd, aOr, aNot, aIf, aCons, aNil, aTup, aLst, imAll, aCB, resAll, res, aCall, bok, isOw, bos, svOf, back, aNext, aSeq, aIfS, aAsg, aAsgO, aName, aGTup, aGCons, aGNil, aDrop, aFrz, frz, aOfL, fI0, fI, fNeg, fPlus, fLen, fTuple, fInt, fAbs, fMax2, fMin2, fIsN, fNotN, fIsB, fNotB, isNonD, isT, aApp, aAug, aPop, aSetI, aPar, aPar3, aMIm, aMFr, svM, aList, aSl, aPart, aNoPart, aISeq, aRg1, aRg2, aYes, wipeA, mrg, noOw, still, retA, Option.map, List.map, List.getElem?_cons_zero, List.getElem?_cons_succ, List.set_cons_zero, List.set_cons_succ, List.cons_append, List.nil_append, List.replicate, List.length_cons, List.length_nil, Bool.not_true, Bool.not_false, Bool.and_true, Bool.true_and, aZipTwo, aZip3]
  refine ⟨_, rfl, ?_⟩
  try dsimp only [fAll, fSum, aRet, aRetN, aAndV, aOrV, aNotV, aIsi, aVar, aC, aChain, aOp, aUn, aTest, aTru, truD, aAnd, aOr, aNot, aIf, aCons, aNil, aTup, aLst, imAll, aCB, resAll, res, aCall, bok, isOw, bos, svOf, back, aNext, aSeq, aIfS, aAsg, aAsgO, aName, aGTup, aGCons, aGNil, aDrop, aFrz, frz, aOfL, fI0, fI, fNeg, fPlus, fLen, fTuple, fInt, fAbs, fMax2, fMin2, fIsN, fNotN, fIsB, fNotB, isNonD, isT, aApp, aAug, aPop, aSetI, aPar, aPar3, aMIm, aMFr, svM, aList, aSl, aPart, aNoPart, aISeq, aRg1, aRg2, aYes, wipeA, mrg, noOw, still, retA, Option.map, List.map, List.getElem?_cons_zero, List.getElem?_cons_succ, List.set_cons_zero, List.set_cons_succ, List.cons_append, List.nil_append, List.replicate, List.length_cons, List.length_nil, Bool.not_true, Bool.not_false, Bool.and_true, Bool.true_and, aZipTwo, aZip3]
  have hn8 : CDivW a n := ⟨by omega, by have := Nat.log2_le_self n.natAbs; omega⟩
  by_cases h0 : 0 < a
  · rw [if_pos (by simpa using h0)]
    refine ⟨_, rfl, ?_⟩
    try dsimp only [fAll, fSum, aRet, aRetN, aAndV, aOrV, aNotV, aIsi, aVar, aC, aChain, aOp, aUn, aTest, aTru, truD, aAnd, aOr, aNot, aIf, aCons, aNil, aTup, aLst, imAll, aCB, resAll, res, aCall, bok, isOw, bos, svOf, back, aNext, aSeq, aIfS, aAsg, aAsgO, aName, aGTup, aGCons, aGNil, aDrop, aFrz, frz, aOfL, fI0, fI, fNeg, fPlus, fLen, fTuple, fInt, fAbs, fMax2, fMin2, fIsN, fNotN, fIsB, fNotB, isNonD, isT, aApp, aAug, aPop, aSetI, aPar, aPar3, aMIm, aMFr, svM, aList, aSl, aPart, aNoPart, aISeq, aRg1, aRg2, aYes, wipeA, mrg, noOw, still, retA, Option.map, List.map, List.getElem?_cons_zero, List.getElem?_cons_succ, List.set_cons_zero, List.set_cons_succ, List.cons_append, List.nil_append, List.replicate, List.length_cons, List.length_nil, Bool.not_true, Bool.not_false, Bool.and_true, Bool.true_and, aZipTwo, aZip3]
    refine ⟨by omega, _, rfl, ?_⟩
    try dsimp only [fAll, fSum, aRet, aRetN, aAndV, aOrV, aNotV, aIsi, aVar, aC, aChain, aOp, aUn, aTest, aTru, truD, aAnd, aOr, aNot, aIf, aCons, aNil, aTup, aLst, imAll, aCB, resAll, res, aCall, bok, isOw, bos, svOf, back, aNext, aSeq, aIfS, aAsg, aAsgO, aName, aGTup, aGCons, aGNil, aDrop, aFrz, frz, aOfL, fI0, fI, fNeg, fPlus, fLen, fTuple, fInt, fAbs, fMax2, fMin2, fIsN, fNotN, fIsB, fNotB, isNonD, isT, aApp, aAug, aPop, aSetI, aPar, aPar3, aMIm, aMFr, svM, aList, aSl, aPart, aNoPart, aISeq, aRg1, aRg2, aYes, wipeA, mrg, noOw, still, retA, Option.map, List.map, List.getElem?_cons_zero, List.getElem?_cons_succ, List.set_cons_zero, List.set_cons_succ, List.cons_append, List.nil_append, List.replicate, List.length_cons, List.length_nil, Bool.not_true, Bool.not_false, Bool.and_true, Bool.true_and, aZipTwo, aZip3]
    exact ⟨hn8, rfl, 0, rfl, rfl, hk _ _ _ (Int.emod_nonneg _ (by omega)) (Int.emod_lt_of_pos _ (by omega))⟩
  · rw [if_neg (by simpa using h0)]
    refine ⟨_, rfl, ?_⟩
    try dsimp only [fAll, fSum, aRet, aRetN, aAndV, aOrV, aNotV, aIsi, aVar, aC, aChain, aOp, aUn, aTest, aTru, truD, aAnd, aOr, aNot, aIf, aCons, aNil, aTup, aLst, imAll, aCB, resAll, res, aCall, bok, isOw, bos, svOf, back, aNext, aSeq, aIfS, aAsg, aAsgO, aName, aGTup, aGCons, aGNil, aDrop, aFrz, frz, aOfL, fI0, fI, fNeg, fPlus, fLen, fTuple, fInt, fAbs, fMax2, fMin2, fIsN, fNotN, fIsB, fNotB, isNonD, isT, aApp, aAug, aPop, aSetI, aPar, aPar3, aMIm, aMFr, svM, aList, aSl, aPart, aNoPart, aISeq, aRg1, aRg2, aYes, wipeA, mrg, noOw, still, retA, Option.map, List.map, List.getElem?_cons_zero, List.getElem?_cons_succ, List.set_cons_zero, List.set_cons_succ, List.cons_append, List.nil_append, List.replicate, List.length_cons, List.length_nil, Bool.not_true, Bool.not_false, Bool.and_true, Bool.true_and, aZipTwo, aZip3]
    generalize hx : (b * 32155 + 6113) % 2147483423 = x
    have x0 : 0 ≤ x := by omega
    have x1 : x < 2147483423 := by omega
    refine ⟨.inr ⟨by decide, by decide⟩, by decide, rfl, 1, rfl, _, rfl, _, rfl, ?_⟩
    try dsimp only [fAll, fSum, aRet, aRetN, aAndV, aOrV, aNotV, aIsi, aVar, aC, aChain, aOp, aUn, aTest, aTru, truD, aAnd, aOr, aNot, aIf, aCons, aNil, aTup, aLst, imAll, aCB, resAll, res, aCall, bok, isOw, bos, svOf, back, aNext, aSeq, aIfS, aAsg, aAsgO, aName, aGTup, aGCons, aGNil, aDrop, aFrz, frz, aOfL, fI0, fI, fNeg, fPlus, fLen, fTuple, fInt, fAbs, fMax2, fMin2, fIsN, fNotN, fIsB, fNotB, isNonD, isT, aApp, aAug, aPop, aSetI, aPar, aPar3, aMIm, aMFr, svM, aList, aSl, aPart, aNoPart, aISeq, aRg1, aRg2, aYes, wipeA, mrg, noOw, still, retA, Option.map, List.map, List.getElem?_cons_zero, List.getElem?_cons_succ, List.set_cons_zero, List.set_cons_succ, List.cons_append, List.nil_append, List.replicate, List.length_cons, List.length_nil, Bool.not_true, Bool.not_false, Bool.and_true, Bool.true_and, aZipTwo, aZip3]
    refine ⟨.inl ⟨by omega, by omega⟩, by decide, ⟨by decide, by decide +kernel⟩, by omega, rfl, ?_⟩
    exact hk _ _ _ (Int.emod_nonneg _ (by omega)) (Int.emod_lt_of_pos _ (by omega))
def afSome : AF := fun ρ k => ∃ a b ds, ρ = [cupS a b, .im (.lst ds)] ∧ ds ≠ [] ∧ ds.length ≤ 1000 ∧ ∀ d ∈ ds, ∀ a' b', k d [cupS a' b', .im (.lst ds)]
theorem ok_law_some (Bn : Bt mg) (h : Here K mg "_law_some" sLawSome ["cup", "things"]) (d_law_roll : Df P w K mg base 1 "_law_roll" afRoll) : Df P w K mg base 2 "_law_some" afSome := by
  refine df_ok h scLawSome [] (fun ρ kk h => by obtain ⟨_, _, _, rfl, _⟩ := h; rfl) (fun f cdv A outer s H E hr => ⟨_, _, _, (gss_one (gs_ret (ge_ixK (K := K) (gv 1) (ge_dfK d_law_roll hr (ga_cons (gv 0) (ga_cons (ge_lenK (K := K) Bn (ga_cons (gv 1) ga_nil)) ga_nil)))))), fun ρ kk h => ?_⟩)
  obtain ⟨a, b, ds, rfl, hn, hl, hk⟩ := h
  refine ⟨rfl, ?_⟩
  try dsimp only [fAll, fSum, aRet, aRetN, aAndV, aOrV, aNotV, aIsi, aVar, aC, aChain, aOp, aUn, aTest, aTru, truD, aAnd, aOr, aNot, aIf, aCons, aNil, aTup, aLst, imAll, aCB, resAll, res, aCall, bok, isOw, bos, svOf, back, aNext, aSeq, aIfS, aAsg, aAsgO, aName, aGTup, aGCons, aGNil, aDrop, aFrz, frz, aOfL, fI0, fI, fNeg, fPlus, fLen, fTuple, fInt, fAbs, fMax2, fMin2, fIsN, fNotN, fIsB, fNotB, isNonD, isT, aApp, aAug, aPop, aSetI, aPar, aPar3, aMIm, aMFr, svM, aList, aSl, aPart, aNoPart, aISeq, aRg1, aRg2, aYes, wipeA, mrg, noOw, still, retA, Option.map, List.map, List.getElem?_cons_zero, List.getElem?_cons_succ, List.set_cons_zero, List.set_cons_succ, List.cons_append, List.nil_append, List.replicate, List.length_cons, List.length_nil, Bool.not_true, Bool.not_false, Bool.and_true, Bool.true_and, aZipTwo, aZip3]
  have hpos : 0 < ds.length := List.length_pos_iff.mpr hn
  refine ⟨rfl, a, b, ds.length, rfl, ⟨by omega, by omega⟩, fun v a' b' v0 v1 => ?_⟩
  have hv : v.toNat < ds.length := by omega
  refine ⟨_, atI_nat v0 (List.getElem?_eq_getElem hv), rfl, ?_⟩
  exact hk _ (List.getElem_mem hv) a' b'
def afLawMarks : AF := fun ρ k => ∃ a b h w s, ρ = [cupS a b, .im (.int h), .im (.int w), .im (.int s)] ∧ (1 ≤ h ∧ h ≤ 30 ∧ 1 ≤ w ∧ w ≤ 30) ∧ ∀ m a' b', Grid h w m → Within 1 m → k (gridD m) [cupS a' b', .im (.int h), .im (.int w), .im (.int s)]
theorem ok_law_marks (Bn : Bt mg) (h : Here K mg "_law_marks" sLawMarks ["cup", "high", "wide", "share"]) (d_law_roll : Df P w K mg base 1 "_law_roll" afRoll) : Df P w K mg base 2 "_law_marks" afLawMarks := by
  refine df_ok h scLawMarks [.un, .un, .un] (fun ρ kk h => by obtain ⟨_, _, _, _, _, rfl, _⟩ := h; rfl) (fun f cdv A outer s H E hr => ⟨_, _, _, (gss_cons (gs_setO (i := 4) scLawMarks.nd (gl_lst ga_nil))
      (gss_cons (gs_for PassesOwn.never rfl (gi_rg1 Bn (ga_cons (gv 1) ga_nil)) (gg_name scLawMarks.nd (i := 5))
      (gss_one (gs_expr (ge_appK (K := K) 4 (ge_tupleK (K := K) Bn (ga_cons (GL.e (gl_lc rfl scLawMarks.nd (blkOk_by (own := [("column", 6)]) (by kernel_rfl)) (gi_rg1 Bn (ga_cons (gv 2) ga_nil)) (fun _ _ _ _ _ => (gg_name scLawMarks.nd (i := 6))) (fun _ _ _ _ _ => gts_nil) (fun _ _ _ _ _ => (ge_if (gt_cmp op_lt lk_lt (ge_dfK d_law_roll hr (ga_cons (gv 0) (ga_cons ge_int ga_nil))) (gv 3) (nomark _)) ge_int ge_int)))) ga_nil))))))
      (gss_one (gs_ret (ge_tupleK (K := K) Bn (ga_cons (gv 4) ga_nil)))))), fun ρ kk h => ?_⟩)
  obtain ⟨a, b, hi, wi, sh, rfl, hb, hk⟩ := h
  refine ⟨rfl, ?_⟩
  try dsimp only [fAll, fSum, aRet, aRetN, aAndV, aOrV, aNotV, aIsi, aVar, aC, aChain, aOp, aUn, aTest, aTru, truD, aAnd, aOr, aNot, aIf, aCons, aNil, aTup, aLst, imAll, aCB, resAll, res, aCall, bok, isOw, bos, svOf, back, aNext, aSeq, aIfS, aAsg, aAsgO, aName, aGTup, aGCons, aGNil, aDrop, aFrz, frz, aOfL, fI0, fI, fNeg, fPlus, fLen, fTuple, fInt, fAbs, fMax2, fMin2, fIsN, fNotN, fIsB, fNotB, isNonD, isT, aApp, aAug, aPop, aSetI, aPar, aPar3, aMIm, aMFr, svM, aList, aSl, aPart, aNoPart, aISeq, aRg1, aRg2, aYes, wipeA, mrg, noOw, still, retA, Option.map, List.map, List.getElem?_cons_zero, List.getElem?_cons_succ, List.set_cons_zero, List.set_cons_succ, List.cons_append, List.nil_append, List.replicate, List.length_cons, List.length_nil, Bool.not_true, Bool.not_false, Bool.and_true, Bool.true_and, aZipTwo, aZip3]
  refine ⟨by decide, ?_⟩
  refine aFor_map (rgI 0 hi) D.int (fun pre ρ' => ∃ a b m s, ρ' = [cupS a b, .im (.int hi), .im (.int wi), .im (.int sh), .ow (.ol (m.map rowD)), s, .un] ∧ m.length = pre.length ∧ (∀ r ∈ m, (r.length : Int) = wi) ∧ Within 1 m) (fun k' hk' => ?_) ⟨_, _, [], _, rfl, rfl, fun _ h => absurd h List.not_mem_nil, fun _ h => absurd h List.not_mem_nil⟩ (fun pre r post ρ' hx hI N hN => ?_) ?_
  · try dsimp only [fAll, fSum, aRet, aRetN, aAndV, aOrV, aNotV, aIsi, aVar, aC, aChain, aOp, aUn, aTest, aTru, truD, aAnd, aOr, aNot, aIf, aCons, aNil, aTup, aLst, imAll, aCB, resAll, res, aCall, bok, isOw, bos, svOf, back, aNext, aSeq, aIfS, aAsg, aAsgO, aName, aGTup, aGCons, aGNil, aDrop, aFrz, frz, aOfL, fI0, fI, fNeg, fPlus, fLen, fTuple, fInt, fAbs, fMax2, fMin2, fIsN, fNotN, fIsB, fNotB, isNonD, isT, aApp, aAug, aPop, aSetI, aPar, aPar3, aMIm, aMFr, svM, aList, aSl, aPart, aNoPart, aISeq, aRg1, aRg2, aYes, wipeA, mrg, noOw, still, retA, Option.map, List.map, List.getElem?_cons_zero, List.getElem?_cons_succ, List.set_cons_zero, List.set_cons_succ, List.cons_append, List.nil_append, List.replicate, List.length_cons, List.length_nil, Bool.not_true, Bool.not_false, Bool.and_true, Bool.true_and, aZipTwo, aZip3]
    rw [rng_rgI0]
    exact ⟨by omega, hk'⟩
  · obtain ⟨a, b, m, s, rfl, g1, g2, g3⟩ := hI
    try dsimp only [fAll, fSum, aRet, aRetN, aAndV, aOrV, aNotV, aIsi, aVar, aC, aChain, aOp, aUn, aTest, aTru, truD, aAnd, aOr, aNot, aIf, aCons, aNil, aTup, aLst, imAll, aCB, resAll, res, aCall, bok, isOw, bos, svOf, back, aNext, aSeq, aIfS, aAsg, aAsgO, aName, aGTup, aGCons, aGNil, aDrop, aFrz, frz, aOfL, fI0, fI, fNeg, fPlus, fLen, fTuple, fInt, fAbs, fMax2, fMin2, fIsN, fNotN, fIsB, fNotB, isNonD, isT, aApp, aAug, aPop, aSetI, aPar, aPar3, aMIm, aMFr, svM, aList, aSl, aPart, aNoPart, aISeq, aRg1, aRg2, aYes, wipeA, mrg, noOw, still, retA, Option.map, List.map, List.getElem?_cons_zero, List.getElem?_cons_succ, List.set_cons_zero, List.set_cons_succ, List.cons_append, List.nil_append, List.replicate, List.length_cons, List.length_nil, Bool.not_true, Bool.not_false, Bool.and_true, Bool.true_and, aZipTwo, aZip3]
    refine ⟨rfl, ?_⟩
    refine aLc_invM (rgI 0 wi) D.int (fun acc ρ' => ∃ a b l, ρ' = [cupS a b, .im (.int hi), .im (.int wi), .im (.int sh), .ow (.ol (m.map rowD)), .im (.int r), .un] ∧ acc = l.map D.int ∧ ∀ x ∈ l, 0 ≤ x ∧ x ≤ 1) (fun k' hk' => ?_) (by rw [rgI_len]; omega) ⟨a, b, [], rfl, rfl, fun _ h => absurd h List.not_mem_nil⟩ (fun c hc acc ρ' hI => ?_) (fun acc ρ' hl hI => ?_)
    · try dsimp only [fAll, fSum, aRet, aRetN, aAndV, aOrV, aNotV, aIsi, aVar, aC, aChain, aOp, aUn, aTest, aTru, truD, aAnd, aOr, aNot, aIf, aCons, aNil, aTup, aLst, imAll, aCB, resAll, res, aCall, bok, isOw, bos, svOf, back, aNext, aSeq, aIfS, aAsg, aAsgO, aName, aGTup, aGCons, aGNil, aDrop, aFrz, frz, aOfL, fI0, fI, fNeg, fPlus, fLen, fTuple, fInt, fAbs, fMax2, fMin2, fIsN, fNotN, fIsB, fNotB, isNonD, isT, aApp, aAug, aPop, aSetI, aPar, aPar3, aMIm, aMFr, svM, aList, aSl, aPart, aNoPart, aISeq, aRg1, aRg2, aYes, wipeA, mrg, noOw, still, retA, Option.map, List.map, List.getElem?_cons_zero, List.getElem?_cons_succ, List.set_cons_zero, List.set_cons_succ, List.cons_append, List.nil_append, List.replicate, List.length_cons, List.length_nil, Bool.not_true, Bool.not_false, Bool.and_true, Bool.true_and, aZipTwo, aZip3]
      rw [rng_rgI0]
      exact ⟨by omega, hk'⟩
    · obtain ⟨a, b, l, rfl, rfl, hl⟩ := hI
      refine ⟨rfl, fun Wy hW => ?_⟩
      try dsimp only [fAll, fSum, aRet, aRetN, aAndV, aOrV, aNotV, aIsi, aVar, aC, aChain, aOp, aUn, aTest, aTru, truD, aAnd, aOr, aNot, aIf, aCons, aNil, aTup, aLst, imAll, aCB, resAll, res, aCall, bok, isOw, bos, svOf, back, aNext, aSeq, aIfS, aAsg, aAsgO, aName, aGTup, aGCons, aGNil, aDrop, aFrz, frz, aOfL, fI0, fI, fNeg, fPlus, fLen, fTuple, fInt, fAbs, fMax2, fMin2, fIsN, fNotN, fIsB, fNotB, isNonD, isT, aApp, aAug, aPop, aSetI, aPar, aPar3, aMIm, aMFr, svM, aList, aSl, aPart, aNoPart, aISeq, aRg1, aRg2, aYes, wipeA, mrg, noOw, still, retA, Option.map, List.map, List.getElem?_cons_zero, List.getElem?_cons_succ, List.set_cons_zero, List.set_cons_succ, List.cons_append, List.nil_append, List.replicate, List.length_cons, List.length_nil, Bool.not_true, Bool.not_false, Bool.and_true, Bool.true_and, aZipTwo, aZip3]
      refine ⟨rfl, a, b, 8, rfl, ⟨by decide, by decide⟩, fun v a' b' v0 v1 => ?_⟩
      try dsimp only [fAll, fSum, aRet, aRetN, aAndV, aOrV, aNotV, aIsi, aVar, aC, aChain, aOp, aUn, aTest, aTru, truD, aAnd, aOr, aNot, aIf, aCons, aNil, aTup, aLst, imAll, aCB, resAll, res, aCall, bok, isOw, bos, svOf, back, aNext, aSeq, aIfS, aAsg, aAsgO, aName, aGTup, aGCons, aGNil, aDrop, aFrz, frz, aOfL, fI0, fI, fNeg, fPlus, fLen, fTuple, fInt, fAbs, fMax2, fMin2, fIsN, fNotN, fIsB, fNotB, isNonD, isT, aApp, aAug, aPop, aSetI, aPar, aPar3, aMIm, aMFr, svM, aList, aSl, aPart, aNoPart, aISeq, aRg1, aRg2, aYes, wipeA, mrg, noOw, still, retA, Option.map, List.map, List.getElem?_cons_zero, List.getElem?_cons_succ, List.set_cons_zero, List.set_cons_succ, List.cons_append, List.nil_append, List.replicate, List.length_cons, List.length_nil, Bool.not_true, Bool.not_false, Bool.and_true, Bool.true_and, aZipTwo, aZip3]
      by_cases e : v < sh
      · rw [if_pos (by simpa using e)]
        exact ⟨_, rfl, hW _ _ ⟨a', b', l ++ [1], rfl, by rw [List.map_append]; rfl, all_app hl ⟨by decide, by decide⟩⟩⟩
      · rw [if_neg (by simpa using e)]
        exact ⟨_, rfl, hW _ _ ⟨a', b', l ++ [0], rfl, by rw [List.map_append]; rfl, all_app hl ⟨by decide, by decide⟩⟩⟩
    · obtain ⟨a, b, l, rfl, rfl, hl'⟩ := hI
      try dsimp only [fAll, fSum, aRet, aRetN, aAndV, aOrV, aNotV, aIsi, aVar, aC, aChain, aOp, aUn, aTest, aTru, truD, aAnd, aOr, aNot, aIf, aCons, aNil, aTup, aLst, imAll, aCB, resAll, res, aCall, bok, isOw, bos, svOf, back, aNext, aSeq, aIfS, aAsg, aAsgO, aName, aGTup, aGCons, aGNil, aDrop, aFrz, frz, aOfL, fI0, fI, fNeg, fPlus, fLen, fTuple, fInt, fAbs, fMax2, fMin2, fIsN, fNotN, fIsB, fNotB, isNonD, isT, aApp, aAug, aPop, aSetI, aPar, aPar3, aMIm, aMFr, svM, aList, aSl, aPart, aNoPart, aISeq, aRg1, aRg2, aYes, wipeA, mrg, noOw, still, retA, Option.map, List.map, List.getElem?_cons_zero, List.getElem?_cons_succ, List.set_cons_zero, List.set_cons_succ, List.cons_append, List.nil_append, List.replicate, List.length_cons, List.length_nil, Bool.not_true, Bool.not_false, Bool.and_true, Bool.true_and, aZipTwo, aZip3]
      rw [List.length_map, rgI_len] at hl
      have h5 := congrArg List.length hx
      rw [rgI_len, List.length_append, List.length_cons] at h5
      refine ⟨by rw [List.length_map]; omega, hN _ ⟨a, b, m ++ [l], .im (.int r), ?_, ?_, all_app g2 (by omega), all_app g3 hl'⟩⟩
      · rw [List.map_append]; rfl
      · rw [List.length_append, List.length_append, g1]; rfl
  · rintro ρ' ⟨a, b, m, s, rfl, g1, g2, g3⟩
    try dsimp only [fAll, fSum, aRet, aRetN, aAndV, aOrV, aNotV, aIsi, aVar, aC, aChain, aOp, aUn, aTest, aTru, truD, aAnd, aOr, aNot, aIf, aCons, aNil, aTup, aLst, imAll, aCB, resAll, res, aCall, bok, isOw, bos, svOf, back, aNext, aSeq, aIfS, aAsg, aAsgO, aName, aGTup, aGCons, aGNil, aDrop, aFrz, frz, aOfL, fI0, fI, fNeg, fPlus, fLen, fTuple, fInt, fAbs, fMax2, fMin2, fIsN, fNotN, fIsB, fNotB, isNonD, isT, aApp, aAug, aPop, aSetI, aPar, aPar3, aMIm, aMFr, svM, aList, aSl, aPart, aNoPart, aISeq, aRg1, aRg2, aYes, wipeA, mrg, noOw, still, retA, Option.map, List.map, List.getElem?_cons_zero, List.getElem?_cons_succ, List.set_cons_zero, List.set_cons_succ, List.cons_append, List.nil_append, List.replicate, List.length_cons, List.length_nil, Bool.not_true, Bool.not_false, Bool.and_true, Bool.true_and, aZipTwo, aZip3]
    rw [rgI_len] at g1
    exact ⟨rfl, hk m a b ⟨by omega, g2⟩ g3⟩
end
end K76

namespace K76
open PySem PySem.Spec L2 DL
open PyProof.Rows hiding St
def tri : List Int := [-1, 0, 1]
def one (h w : Int) (m : Gr) (r c : Int) (d e : Int) : Int := if ¬ (d = 0 ∧ e = 0) ∧ (0 ≤ r + d ∧ r + d < h) ∧ (0 ≤ c + e ∧ c + e < w) then cel m (r + d) (c + e) else 0
def lawCnt (h w : Int) (m : Gr) (r c : Int) : Int := (tri.map fun d => (tri.map fun e => one h w m r c d e).sum).sum
section
variable {P : Program} {w : World} {K : PySem.W.Frag} {mg : Str → Option Value} {base : Heap}
def afLawCount : AF := fun ρ k => ∃ h w m r c, ρ = [.im (.int h), .im (.int w), .im (gridD m), .im (cellD (r, c))] ∧ (1 ≤ h ∧ h ≤ 30 ∧ 1 ≤ w ∧ w ≤ 30) ∧ Grid h w m ∧ k (.int (lawCnt h w m r c)) ρ
theorem ok_law_count (Bn : Bt mg) (h : Here K mg "_law_count" sLawCount ["high", "wide", "marks", "cell"]) : Df P w K mg base 1 "_law_count" afLawCount := by
  refine df_ok h scLawCount [.un, .un, .un, .un, .un] (fun ρ kk h => by obtain ⟨_, _, _, _, _, rfl, _⟩ := h; rfl) (fun f cdv A outer s H E hr => ⟨_, _, _, (gss_cons (gs_set (i := 4) scLawCount.nd ge_int)
      (gss_cons (gs_for PassesOwn.never rfl (gi_seqK (K := K) (ge_tup (ga_cons (ge_un un_neg lk_neg ge_int) (ga_cons ge_int (ga_cons ge_int ga_nil))))) (gg_name scLawCount.nd (i := 5))
      (gss_one (gs_for PassesOwn.never rfl (gi_seqK (K := K) (ge_tup (ga_cons (ge_un un_neg lk_neg ge_int) (ga_cons ge_int (ga_cons ge_int ga_nil))))) (gg_name scLawCount.nd (i := 6))
      (gss_cons (gs_par (i := 7) (j := 8) rfl scLawCount.nd (GE.m (ge_plus (K := K) (ge_ixK (K := K) (gv 3) ge_int) (gv 5))) (GE.m (ge_plus (K := K) (ge_ixK (K := K) (gv 3) ge_int) (gv 6))))
      (gss_one (gs_if (GW.gt (gw_and (gt_ne (K := K) hr.units (ge_tup (ga_cons (gv 5) (ga_cons (gv 6) ga_nil))) (ge_tup (ga_cons ge_int (ga_cons ge_int ga_nil))) (nomark _)) (gw_and (gt_chain op_le lk_le op_lt lk_lt ge_int (gv 7) (gv 0)) (gw_and1 (gt_chain op_le lk_le op_lt lk_lt ge_int (gv 8) (gv 1)))))) (gss_one (gs_set (i := 4) scLawCount.nd (ge_plus (K := K) (gv 4) (ge_ixK (K := K) (ge_ixK (K := K) (gv 2) (gv 7)) (gv 8))))) gss_nil))))))
      (gss_one (gs_ret (gv 4))))), fun ρ kk h => ?_⟩)
  obtain ⟨hi, wi, m, r, c, rfl, hb, hg, hk⟩ := h
  refine ⟨rfl, ?_⟩
  unfold cellD at hk ⊢
  try dsimp only [fAll, fSum, aRet, aRetN, aAndV, aOrV, aNotV, aIsi, aVar, aC, aChain, aOp, aUn, aTest, aTru, truD, aAnd, aOr, aNot, aIf, aCons, aNil, aTup, aLst, imAll, aCB, resAll, res, aCall, bok, isOw, bos, svOf, back, aNext, aSeq, aIfS, aAsg, aAsgO, aName, aGTup, aGCons, aGNil, aDrop, aFrz, frz, aOfL, fI0, fI, fNeg, fPlus, fLen, fTuple, fInt, fAbs, fMax2, fMin2, fIsN, fNotN, fIsB, fNotB, isNonD, isT, aApp, aAug, aPop, aSetI, aPar, aPar3, aMIm, aMFr, svM, aList, aSl, aPart, aNoPart, aISeq, aRg1, aRg2, aYes, wipeA, mrg, noOw, still, retA, Option.map, List.map, List.getElem?_cons_zero, List.getElem?_cons_succ, List.set_cons_zero, List.set_cons_succ, List.cons_append, List.nil_append, List.replicate, List.length_cons, List.length_nil, Bool.not_true, Bool.not_false, Bool.and_true, Bool.true_and, aZipTwo, aZip3]
  refine aFor_map tri D.int (fun pre ρ' => ∃ a b c' d', ρ' = [.im (.int hi), .im (.int wi), .im (gridD m), .im (.tup [.int r, .int c]), .im (.int (pre.map fun d => (tri.map fun e => one hi wi m r c d e).sum).sum), a, b, c', d']) (fun k' hk' => ?_) ⟨_, _, _, _, rfl⟩ (fun pre x post ρ' hx hI N hN => ?_) ?_
  · try dsimp only [fAll, fSum, aRet, aRetN, aAndV, aOrV, aNotV, aIsi, aVar, aC, aChain, aOp, aUn, aTest, aTru, truD, aAnd, aOr, aNot, aIf, aCons, aNil, aTup, aLst, imAll, aCB, resAll, res, aCall, bok, isOw, bos, svOf, back, aNext, aSeq, aIfS, aAsg, aAsgO, aName, aGTup, aGCons, aGNil, aDrop, aFrz, frz, aOfL, fI0, fI, fNeg, fPlus, fLen, fTuple, fInt, fAbs, fMax2, fMin2, fIsN, fNotN, fIsB, fNotB, isNonD, isT, aApp, aAug, aPop, aSetI, aPar, aPar3, aMIm, aMFr, svM, aList, aSl, aPart, aNoPart, aISeq, aRg1, aRg2, aYes, wipeA, mrg, noOw, still, retA, Option.map, List.map, List.getElem?_cons_zero, List.getElem?_cons_succ, List.set_cons_zero, List.set_cons_succ, List.cons_append, List.nil_append, List.replicate, List.length_cons, List.length_nil, Bool.not_true, Bool.not_false, Bool.and_true, Bool.true_and, aZipTwo, aZip3]
    exact ⟨by decide, hk'⟩
  · obtain ⟨a, b, c', d', rfl⟩ := hI
    simp only [List.map_append, List.sum_append, List.map_cons, List.map_nil, List.sum_cons, List.sum_nil, Int.add_zero] at hN
    generalize (pre.map fun d => (tri.map fun e => one hi wi m r c d e).sum).sum = S at hN ⊢
    try dsimp only [fAll, fSum, aRet, aRetN, aAndV, aOrV, aNotV, aIsi, aVar, aC, aChain, aOp, aUn, aTest, aTru, truD, aAnd, aOr, aNot, aIf, aCons, aNil, aTup, aLst, imAll, aCB, resAll, res, aCall, bok, isOw, bos, svOf, back, aNext, aSeq, aIfS, aAsg, aAsgO, aName, aGTup, aGCons, aGNil, aDrop, aFrz, frz, aOfL, fI0, fI, fNeg, fPlus, fLen, fTuple, fInt, fAbs, fMax2, fMin2, fIsN, fNotN, fIsB, fNotB, isNonD, isT, aApp, aAug, aPop, aSetI, aPar, aPar3, aMIm, aMFr, svM, aList, aSl, aPart, aNoPart, aISeq, aRg1, aRg2, aYes, wipeA, mrg, noOw, still, retA, Option.map, List.map, List.getElem?_cons_zero, List.getElem?_cons_succ, List.set_cons_zero, List.set_cons_succ, List.cons_append, List.nil_append, List.replicate, List.length_cons, List.length_nil, Bool.not_true, Bool.not_false, Bool.and_true, Bool.true_and, aZipTwo, aZip3]
    refine aFor_map tri D.int (fun pre' ρ' => ∃ b c' d', ρ' = [.im (.int hi), .im (.int wi), .im (gridD m), .im (.tup [.int r, .int c]), .im (.int (S + (pre'.map fun e => one hi wi m r c x e).sum)), .im (.int x), b, c', d']) (fun k' hk' => ?_) ⟨b, c', d', by simp⟩ (fun pre' y post' ρ' hx' hI' N' hN' => ?_) ?_
    · try dsimp only [fAll, fSum, aRet, aRetN, aAndV, aOrV, aNotV, aIsi, aVar, aC, aChain, aOp, aUn, aTest, aTru, truD, aAnd, aOr, aNot, aIf, aCons, aNil, aTup, aLst, imAll, aCB, resAll, res, aCall, bok, isOw, bos, svOf, back, aNext, aSeq, aIfS, aAsg, aAsgO, aName, aGTup, aGCons, aGNil, aDrop, aFrz, frz, aOfL, fI0, fI, fNeg, fPlus, fLen, fTuple, fInt, fAbs, fMax2, fMin2, fIsN, fNotN, fIsB, fNotB, isNonD, isT, aApp, aAug, aPop, aSetI, aPar, aPar3, aMIm, aMFr, svM, aList, aSl, aPart, aNoPart, aISeq, aRg1, aRg2, aYes, wipeA, mrg, noOw, still, retA, Option.map, List.map, List.getElem?_cons_zero, List.getElem?_cons_succ, List.set_cons_zero, List.set_cons_succ, List.cons_append, List.nil_append, List.replicate, List.length_cons, List.length_nil, Bool.not_true, Bool.not_false, Bool.and_true, Bool.true_and, aZipTwo, aZip3]
      exact ⟨by decide, hk'⟩
    · obtain ⟨b, c', d', rfl⟩ := hI'
      simp only [List.map_append, List.sum_append, List.map_cons, List.map_nil, List.sum_cons, List.sum_nil, Int.add_zero, ← Int.add_assoc] at hN'
      generalize S + (pre'.map fun e => one hi wi m r c x e).sum = S' at hN' ⊢
      try dsimp only [fAll, fSum, aRet, aRetN, aAndV, aOrV, aNotV, aIsi, aVar, aC, aChain, aOp, aUn, aTest, aTru, truD, aAnd, aOr, aNot, aIf, aCons, aNil, aTup, aLst, imAll, aCB, resAll, res, aCall, bok, isOw, bos, svOf, back, aNext, aSeq, aIfS, aAsg, aAsgO, aName, aGTup, aGCons, aGNil, aDrop, aFrz, frz, aOfL, fI0, fI, fNeg, fPlus, fLen, fTuple, fInt, fAbs, fMax2, fMin2, fIsN, fNotN, fIsB, fNotB, isNonD, isT, aApp, aAug, aPop, aSetI, aPar, aPar3, aMIm, aMFr, svM, aList, aSl, aPart, aNoPart, aISeq, aRg1, aRg2, aYes, wipeA, mrg, noOw, still, retA, Option.map, List.map, List.getElem?_cons_zero, List.getElem?_cons_succ, List.set_cons_zero, List.set_cons_succ, List.cons_append, List.nil_append, List.replicate, List.length_cons, List.length_nil, Bool.not_true, Bool.not_false, Bool.and_true, Bool.true_and, aZipTwo, aZip3]
      refine ⟨_, rfl, ?_⟩
      try dsimp only [fAll, fSum, aRet, aRetN, aAndV, aOrV, aNotV, aIsi, aVar, aC, aChain, aOp, aUn, aTest, aTru, truD, aAnd, aOr, aNot, aIf, aCons, aNil, aTup, aLst, imAll, aCB, resAll, res, aCall, bok, isOw, bos, svOf, back, aNext, aSeq, aIfS, aAsg, aAsgO, aName, aGTup, aGCons, aGNil, aDrop, aFrz, frz, aOfL, fI0, fI, fNeg, fPlus, fLen, fTuple, fInt, fAbs, fMax2, fMin2, fIsN, fNotN, fIsB, fNotB, isNonD, isT, aApp, aAug, aPop, aSetI, aPar, aPar3, aMIm, aMFr, svM, aList, aSl, aPart, aNoPart, aISeq, aRg1, aRg2, aYes, wipeA, mrg, noOw, still, retA, Option.map, List.map, List.getElem?_cons_zero, List.getElem?_cons_succ, List.set_cons_zero, List.set_cons_succ, List.cons_append, List.nil_append, List.replicate, List.length_cons, List.length_nil, Bool.not_true, Bool.not_false, Bool.and_true, Bool.true_and, aZipTwo, aZip3]
      refine ⟨_, rfl, ?_⟩
      try dsimp only [fAll, fSum, aRet, aRetN, aAndV, aOrV, aNotV, aIsi, aVar, aC, aChain, aOp, aUn, aTest, aTru, truD, aAnd, aOr, aNot, aIf, aCons, aNil, aTup, aLst, imAll, aCB, resAll, res, aCall, bok, isOw, bos, svOf, back, aNext, aSeq, aIfS, aAsg, aAsgO, aName, aGTup, aGCons, aGNil, aDrop, aFrz, frz, aOfL, fI0, fI, fNeg, fPlus, fLen, fTuple, fInt, fAbs, fMax2, fMin2, fIsN, fNotN, fIsB, fNotB, isNonD, isT, aApp, aAug, aPop, aSetI, aPar, aPar3, aMIm, aMFr, svM, aList, aSl, aPart, aNoPart, aISeq, aRg1, aRg2, aYes, wipeA, mrg, noOw, still, retA, Option.map, List.map, List.getElem?_cons_zero, List.getElem?_cons_succ, List.set_cons_zero, List.set_cons_succ, List.cons_append, List.nil_append, List.replicate, List.length_cons, List.length_nil, Bool.not_true, Bool.not_false, Bool.and_true, Bool.true_and, aZipTwo, aZip3]
      refine ⟨by decide, by decide, rfl, rfl, ?_⟩
      rw [show eqv (.tup [.int x, .int y]) (.tup [.int 0, .int 0]) = (x == 0 && y == 0) from eqv_cell (x, y) (0, 0)]
      cases e1 : (x == 0 && y == 0) with
      | true =>
        have e1' : x = 0 ∧ y = 0 := by simpa using e1
        rw [show one hi wi m r c x y = 0 from if_neg fun z => z.1 e1', Int.add_zero] at hN'
        simp only [Bool.not_true, Bool.false_eq_true, if_false]
        exact hN' _ ⟨_, _, _, rfl⟩
      | false =>
        have e1' : ¬ (x = 0 ∧ y = 0) := by simpa using e1
        simp only [Bool.not_false, if_true]
        by_cases e2 : 0 ≤ r + x
        · simp only [e2, decide_true, if_true]
          by_cases e3 : r + x < hi
          · simp only [e3, decide_true, if_true]
            by_cases e4 : 0 ≤ c + y
            · simp only [e4, decide_true, if_true]
              by_cases e5 : c + y < wi
              · simp only [e5, decide_true, if_true]
                unfold gridD at hN' ⊢
                try dsimp only [fAll, fSum, aRet, aRetN, aAndV, aOrV, aNotV, aIsi, aVar, aC, aChain, aOp, aUn, aTest, aTru, truD, aAnd, aOr, aNot, aIf, aCons, aNil, aTup, aLst, imAll, aCB, resAll, res, aCall, bok, isOw, bos, svOf, back, aNext, aSeq, aIfS, aAsg, aAsgO, aName, aGTup, aGCons, aGNil, aDrop, aFrz, frz, aOfL, fI0, fI, fNeg, fPlus, fLen, fTuple, fInt, fAbs, fMax2, fMin2, fIsN, fNotN, fIsB, fNotB, isNonD, isT, aApp, aAug, aPop, aSetI, aPar, aPar3, aMIm, aMFr, svM, aList, aSl, aPart, aNoPart, aISeq, aRg1, aRg2, aYes, wipeA, mrg, noOw, still, retA, Option.map, List.map, List.getElem?_cons_zero, List.getElem?_cons_succ, List.set_cons_zero, List.set_cons_succ, List.cons_append, List.nil_append, List.replicate, List.length_cons, List.length_nil, Bool.not_true, Bool.not_false, Bool.and_true, Bool.true_and, aZipTwo, aZip3]
                refine ⟨_, hg.ix e2 e3, ?_⟩
                try dsimp only [fAll, fSum, aRet, aRetN, aAndV, aOrV, aNotV, aIsi, aVar, aC, aChain, aOp, aUn, aTest, aTru, truD, aAnd, aOr, aNot, aIf, aCons, aNil, aTup, aLst, imAll, aCB, resAll, res, aCall, bok, isOw, bos, svOf, back, aNext, aSeq, aIfS, aAsg, aAsgO, aName, aGTup, aGCons, aGNil, aDrop, aFrz, frz, aOfL, fI0, fI, fNeg, fPlus, fLen, fTuple, fInt, fAbs, fMax2, fMin2, fIsN, fNotN, fIsB, fNotB, isNonD, isT, aApp, aAug, aPop, aSetI, aPar, aPar3, aMIm, aMFr, svM, aList, aSl, aPart, aNoPart, aISeq, aRg1, aRg2, aYes, wipeA, mrg, noOw, still, retA, Option.map, List.map, List.getElem?_cons_zero, List.getElem?_cons_succ, List.set_cons_zero, List.set_cons_succ, List.cons_append, List.nil_append, List.replicate, List.length_cons, List.length_nil, Bool.not_true, Bool.not_false, Bool.and_true, Bool.true_and, aZipTwo, aZip3]
                refine ⟨_, hg.jx e2 e3 e4 e5, ?_⟩
                rw [show one hi wi m r c x y = cel m (r + x) (c + y) from if_pos ⟨e1', ⟨e2, e3⟩, e4, e5⟩] at hN'
                exact hN' _ ⟨_, _, _, rfl⟩
              · rw [show one hi wi m r c x y = 0 from if_neg fun z => e5 z.2.2.2, Int.add_zero] at hN'
                simp only [e5, decide_false, Bool.false_eq_true, if_false]
                exact hN' _ ⟨_, _, _, rfl⟩
            · rw [show one hi wi m r c x y = 0 from if_neg fun z => e4 z.2.2.1, Int.add_zero] at hN'
              simp only [e4, decide_false, Bool.false_eq_true, if_false]
              exact hN' _ ⟨_, _, _, rfl⟩
          · rw [show one hi wi m r c x y = 0 from if_neg fun z => e3 z.2.1.2, Int.add_zero] at hN'
            simp only [e3, decide_false, Bool.false_eq_true, if_false]
            exact hN' _ ⟨_, _, _, rfl⟩
        · rw [show one hi wi m r c x y = 0 from if_neg fun z => e2 z.2.1.1, Int.add_zero] at hN'
          simp only [e2, decide_false, Bool.false_eq_true, if_false]
          exact hN' _ ⟨_, _, _, rfl⟩
    · rintro ρ' ⟨b, c', d', rfl⟩
      exact hN _ ⟨_, _, _, _, rfl⟩
  · rintro ρ' ⟨a, b, c', d', rfl⟩
    try dsimp only [fAll, fSum, aRet, aRetN, aAndV, aOrV, aNotV, aIsi, aVar, aC, aChain, aOp, aUn, aTest, aTru, truD, aAnd, aOr, aNot, aIf, aCons, aNil, aTup, aLst, imAll, aCB, resAll, res, aCall, bok, isOw, bos, svOf, back, aNext, aSeq, aIfS, aAsg, aAsgO, aName, aGTup, aGCons, aGNil, aDrop, aFrz, frz, aOfL, fI0, fI, fNeg, fPlus, fLen, fTuple, fInt, fAbs, fMax2, fMin2, fIsN, fNotN, fIsB, fNotB, isNonD, isT, aApp, aAug, aPop, aSetI, aPar, aPar3, aMIm, aMFr, svM, aList, aSl, aPart, aNoPart, aISeq, aRg1, aRg2, aYes, wipeA, mrg, noOw, still, retA, Option.map, List.map, List.getElem?_cons_zero, List.getElem?_cons_succ, List.set_cons_zero, List.set_cons_succ, List.cons_append, List.nil_append, List.replicate, List.length_cons, List.length_nil, Bool.not_true, Bool.not_false, Bool.and_true, Bool.true_and, aZipTwo, aZip3]
    exact ⟨rfl, hk⟩
def afLawFits : AF := fun ρ k => ∃ h w t m, ρ = [.im (.int h), .im (.int w), .im (gridD t), .im (gridD m)] ∧ (1 ≤ h ∧ h ≤ 30 ∧ 1 ≤ w ∧ w ≤ 30) ∧ Grid h w t ∧ Grid h w m ∧ k (.bl (fitsM (lawCnt h w m) h w t m)) ρ
theorem ok_law_fits (Bn : Bt mg) (h : Here K mg "_law_fits" sLawFits ["high", "wide", "told", "marks"]) (d_law_count : Df P w K mg base 1 "_law_count" afLawCount) : Df P w K mg base 2 "_law_fits" afLawFits := by
  refine df_ok h scLawFits [.un, .un] (fun ρ kk h => by obtain ⟨_, _, _, _, rfl, _⟩ := h; rfl) (fun f cdv A outer s H E hr => ⟨_, _, _, (gss_cons (gs_for PassesOwn.never rfl (gi_rg1 Bn (ga_cons (gv 0) ga_nil)) (gg_name scLawFits.nd (i := 4))
      (gss_one (gs_for PassesOwn.never rfl (gi_rg1 Bn (ga_cons (gv 1) ga_nil)) (gg_name scLawFits.nd (i := 5))
      (gss_one (gs_if (GW.gt (gw_and (gt_ne (K := K) hr.units (ge_ixK (K := K) (ge_ixK (K := K) (gv 2) (gv 4)) (gv 5)) ge_int (nomark _)) (gw_and1 (GW.gt (gw_or (gt_eq (K := K) hr.units (ge_ixK (K := K) (ge_ixK (K := K) (gv 3) (gv 4)) (gv 5)) ge_int (nomark _)) (gw_or1 (gt_ne (K := K) hr.units (ge_dfK d_law_count hr (ga_cons (gv 0) (ga_cons (gv 1) (ga_cons (gv 3) (ga_cons (ge_tup (ga_cons (gv 4) (ga_cons (gv 5) ga_nil))) ga_nil))))) (ge_ixK (K := K) (ge_ixK (K := K) (gv 2) (gv 4)) (gv 5)) (nomark _)))))))) (gss_one (gs_ret ge_bl)) gss_nil)))))
      (gss_one (gs_ret ge_bl))), fun ρ kk h => ?_⟩)
  obtain ⟨hi, wi, t, m, rfl, hb, gt, gm, hk⟩ := h
  refine ⟨rfl, ?_⟩
  try dsimp only [fAll, fSum, aRet, aRetN, aAndV, aOrV, aNotV, aIsi, aVar, aC, aChain, aOp, aUn, aTest, aTru, truD, aAnd, aOr, aNot, aIf, aCons, aNil, aTup, aLst, imAll, aCB, resAll, res, aCall, bok, isOw, bos, svOf, back, aNext, aSeq, aIfS, aAsg, aAsgO, aName, aGTup, aGCons, aGNil, aDrop, aFrz, frz, aOfL, fI0, fI, fNeg, fPlus, fLen, fTuple, fInt, fAbs, fMax2, fMin2, fIsN, fNotN, fIsB, fNotB, isNonD, isT, aApp, aAug, aPop, aSetI, aPar, aPar3, aMIm, aMFr, svM, aList, aSl, aPart, aNoPart, aISeq, aRg1, aRg2, aYes, wipeA, mrg, noOw, still, retA, Option.map, List.map, List.getElem?_cons_zero, List.getElem?_cons_succ, List.set_cons_zero, List.set_cons_succ, List.cons_append, List.nil_append, List.replicate, List.length_cons, List.length_nil, Bool.not_true, Bool.not_false, Bool.and_true, Bool.true_and, aZipTwo, aZip3]
  refine aFor_map (rgI 0 hi) D.int (fun pre ρ' => (∀ r ∈ pre, ∀ c ∈ rgI 0 wi, okc (lawCnt hi wi m) t m r c = true) ∧ ∃ s u, ρ' = [.im (.int hi), .im (.int wi), .im (gridD t), .im (gridD m), s, u]) (fun k' hk' => ?_) ⟨fun _ h => absurd h List.not_mem_nil, _, _, rfl⟩ (fun pre r post ρ' hx hI N hN => ?_) ?_
  · try dsimp only [fAll, fSum, aRet, aRetN, aAndV, aOrV, aNotV, aIsi, aVar, aC, aChain, aOp, aUn, aTest, aTru, truD, aAnd, aOr, aNot, aIf, aCons, aNil, aTup, aLst, imAll, aCB, resAll, res, aCall, bok, isOw, bos, svOf, back, aNext, aSeq, aIfS, aAsg, aAsgO, aName, aGTup, aGCons, aGNil, aDrop, aFrz, frz, aOfL, fI0, fI, fNeg, fPlus, fLen, fTuple, fInt, fAbs, fMax2, fMin2, fIsN, fNotN, fIsB, fNotB, isNonD, isT, aApp, aAug, aPop, aSetI, aPar, aPar3, aMIm, aMFr, svM, aList, aSl, aPart, aNoPart, aISeq, aRg1, aRg2, aYes, wipeA, mrg, noOw, still, retA, Option.map, List.map, List.getElem?_cons_zero, List.getElem?_cons_succ, List.set_cons_zero, List.set_cons_succ, List.cons_append, List.nil_append, List.replicate, List.length_cons, List.length_nil, Bool.not_true, Bool.not_false, Bool.and_true, Bool.true_and, aZipTwo, aZip3]
    rw [rng_rgI0]
    exact ⟨by omega, hk'⟩
  · obtain ⟨hI, s, u, rfl⟩ := hI
    obtain ⟨h1, h2, h3, h4⟩ := rgI_pre hx
    try dsimp only [fAll, fSum, aRet, aRetN, aAndV, aOrV, aNotV, aIsi, aVar, aC, aChain, aOp, aUn, aTest, aTru, truD, aAnd, aOr, aNot, aIf, aCons, aNil, aTup, aLst, imAll, aCB, resAll, res, aCall, bok, isOw, bos, svOf, back, aNext, aSeq, aIfS, aAsg, aAsgO, aName, aGTup, aGCons, aGNil, aDrop, aFrz, frz, aOfL, fI0, fI, fNeg, fPlus, fLen, fTuple, fInt, fAbs, fMax2, fMin2, fIsN, fNotN, fIsB, fNotB, isNonD, isT, aApp, aAug, aPop, aSetI, aPar, aPar3, aMIm, aMFr, svM, aList, aSl, aPart, aNoPart, aISeq, aRg1, aRg2, aYes, wipeA, mrg, noOw, still, retA, Option.map, List.map, List.getElem?_cons_zero, List.getElem?_cons_succ, List.set_cons_zero, List.set_cons_succ, List.cons_append, List.nil_append, List.replicate, List.length_cons, List.length_nil, Bool.not_true, Bool.not_false, Bool.and_true, Bool.true_and, aZipTwo, aZip3]
    refine aFor_map (rgI 0 wi) D.int (fun pre' ρ' => (∀ c ∈ pre', okc (lawCnt hi wi m) t m r c = true) ∧ ∃ u, ρ' = [.im (.int hi), .im (.int wi), .im (gridD t), .im (gridD m), .im (.int r), u]) (fun k' hk' => ?_) ⟨fun _ h => absurd h List.not_mem_nil, _, rfl⟩ (fun pre' c post' ρ' hx' hI' N' hN' => ?_) ?_
    · try dsimp only [fAll, fSum, aRet, aRetN, aAndV, aOrV, aNotV, aIsi, aVar, aC, aChain, aOp, aUn, aTest, aTru, truD, aAnd, aOr, aNot, aIf, aCons, aNil, aTup, aLst, imAll, aCB, resAll, res, aCall, bok, isOw, bos, svOf, back, aNext, aSeq, aIfS, aAsg, aAsgO, aName, aGTup, aGCons, aGNil, aDrop, aFrz, frz, aOfL, fI0, fI, fNeg, fPlus, fLen, fTuple, fInt, fAbs, fMax2, fMin2, fIsN, fNotN, fIsB, fNotB, isNonD, isT, aApp, aAug, aPop, aSetI, aPar, aPar3, aMIm, aMFr, svM, aList, aSl, aPart, aNoPart, aISeq, aRg1, aRg2, aYes, wipeA, mrg, noOw, still, retA, Option.map, List.map, List.getElem?_cons_zero, List.getElem?_cons_succ, List.set_cons_zero, List.set_cons_succ, List.cons_append, List.nil_append, List.replicate, List.length_cons, List.length_nil, Bool.not_true, Bool.not_false, Bool.and_true, Bool.true_and, aZipTwo, aZip3]
      rw [rng_rgI0]
      exact ⟨by omega, hk'⟩
    · obtain ⟨hI', u, rfl⟩ := hI'
      obtain ⟨i1, i2, i3, i4⟩ := rgI_pre hx'
      have hN2 : okc (lawCnt hi wi m) t m r c = true → N' [.im (.int hi), .im (.int wi), .im (gridD t), .im (gridD m), .im (.int r), .im (.int c)] := fun o => hN' _ ⟨all_app hI' o, _, rfl⟩
      have hbad : okc (lawCnt hi wi m) t m r c = false → kk (.bl false) [.im (.int hi), .im (.int wi), .im (gridD t), .im (gridD m)] := fun o => by
        rw [fitsM_bad h3 h4 i3 i4 o] at hk
        exact hk
      unfold okc at hN2 hbad
      unfold gridD at hN2 hbad ⊢
      try dsimp only [fAll, fSum, aRet, aRetN, aAndV, aOrV, aNotV, aIsi, aVar, aC, aChain, aOp, aUn, aTest, aTru, truD, aAnd, aOr, aNot, aIf, aCons, aNil, aTup, aLst, imAll, aCB, resAll, res, aCall, bok, isOw, bos, svOf, back, aNext, aSeq, aIfS, aAsg, aAsgO, aName, aGTup, aGCons, aGNil, aDrop, aFrz, frz, aOfL, fI0, fI, fNeg, fPlus, fLen, fTuple, fInt, fAbs, fMax2, fMin2, fIsN, fNotN, fIsB, fNotB, isNonD, isT, aApp, aAug, aPop, aSetI, aPar, aPar3, aMIm, aMFr, svM, aList, aSl, aPart, aNoPart, aISeq, aRg1, aRg2, aYes, wipeA, mrg, noOw, still, retA, Option.map, List.map, List.getElem?_cons_zero, List.getElem?_cons_succ, List.set_cons_zero, List.set_cons_succ, List.cons_append, List.nil_append, List.replicate, List.length_cons, List.length_nil, Bool.not_true, Bool.not_false, Bool.and_true, Bool.true_and, aZipTwo, aZip3]
      refine ⟨_, gt.ix h3 h4, ?_⟩
      try dsimp only [fAll, fSum, aRet, aRetN, aAndV, aOrV, aNotV, aIsi, aVar, aC, aChain, aOp, aUn, aTest, aTru, truD, aAnd, aOr, aNot, aIf, aCons, aNil, aTup, aLst, imAll, aCB, resAll, res, aCall, bok, isOw, bos, svOf, back, aNext, aSeq, aIfS, aAsg, aAsgO, aName, aGTup, aGCons, aGNil, aDrop, aFrz, frz, aOfL, fI0, fI, fNeg, fPlus, fLen, fTuple, fInt, fAbs, fMax2, fMin2, fIsN, fNotN, fIsB, fNotB, isNonD, isT, aApp, aAug, aPop, aSetI, aPar, aPar3, aMIm, aMFr, svM, aList, aSl, aPart, aNoPart, aISeq, aRg1, aRg2, aYes, wipeA, mrg, noOw, still, retA, Option.map, List.map, List.getElem?_cons_zero, List.getElem?_cons_succ, List.set_cons_zero, List.set_cons_succ, List.cons_append, List.nil_append, List.replicate, List.length_cons, List.length_nil, Bool.not_true, Bool.not_false, Bool.and_true, Bool.true_and, aZipTwo, aZip3]
      refine ⟨_, gt.jx h3 h4 i3 i4, rfl, rfl, ?_⟩
      rw [eqv_int]
      cases e1 : cel t r c == 9 with
      | true =>
        simp only [bne, e1, Bool.not_true, Bool.false_and, Bool.not_false, forall_const, if_false, Bool.false_eq_true] at hN2 ⊢
        exact hN2
      | false =>
        simp only [bne, e1, Bool.not_false, Bool.true_and, if_true] at hN2 hbad ⊢
        refine ⟨_, gm.ix h3 h4, ?_⟩
        try dsimp only [fAll, fSum, aRet, aRetN, aAndV, aOrV, aNotV, aIsi, aVar, aC, aChain, aOp, aUn, aTest, aTru, truD, aAnd, aOr, aNot, aIf, aCons, aNil, aTup, aLst, imAll, aCB, resAll, res, aCall, bok, isOw, bos, svOf, back, aNext, aSeq, aIfS, aAsg, aAsgO, aName, aGTup, aGCons, aGNil, aDrop, aFrz, frz, aOfL, fI0, fI, fNeg, fPlus, fLen, fTuple, fInt, fAbs, fMax2, fMin2, fIsN, fNotN, fIsB, fNotB, isNonD, isT, aApp, aAug, aPop, aSetI, aPar, aPar3, aMIm, aMFr, svM, aList, aSl, aPart, aNoPart, aISeq, aRg1, aRg2, aYes, wipeA, mrg, noOw, still, retA, Option.map, List.map, List.getElem?_cons_zero, List.getElem?_cons_succ, List.set_cons_zero, List.set_cons_succ, List.cons_append, List.nil_append, List.replicate, List.length_cons, List.length_nil, Bool.not_true, Bool.not_false, Bool.and_true, Bool.true_and, aZipTwo, aZip3]
        refine ⟨_, gm.jx h3 h4 i3 i4, rfl, rfl, ?_⟩
        rw [eqv_int]
        cases e2 : cel m r c == 1 with
        | true =>
          simp only [e2, Bool.true_or, Bool.not_true, forall_const, if_true] at hbad ⊢
          exact ⟨trivial, hbad⟩
        | false =>
          simp only [e2, Bool.false_or, if_false, Bool.false_eq_true] at hN2 hbad ⊢
          refine ⟨by decide, trivial, hi, wi, m, r, c, rfl, hb, gm, _, gt.ix h3 h4, ?_⟩
          try dsimp only [fAll, fSum, aRet, aRetN, aAndV, aOrV, aNotV, aIsi, aVar, aC, aChain, aOp, aUn, aTest, aTru, truD, aAnd, aOr, aNot, aIf, aCons, aNil, aTup, aLst, imAll, aCB, resAll, res, aCall, bok, isOw, bos, svOf, back, aNext, aSeq, aIfS, aAsg, aAsgO, aName, aGTup, aGCons, aGNil, aDrop, aFrz, frz, aOfL, fI0, fI, fNeg, fPlus, fLen, fTuple, fInt, fAbs, fMax2, fMin2, fIsN, fNotN, fIsB, fNotB, isNonD, isT, aApp, aAug, aPop, aSetI, aPar, aPar3, aMIm, aMFr, svM, aList, aSl, aPart, aNoPart, aISeq, aRg1, aRg2, aYes, wipeA, mrg, noOw, still, retA, Option.map, List.map, List.getElem?_cons_zero, List.getElem?_cons_succ, List.set_cons_zero, List.set_cons_succ, List.cons_append, List.nil_append, List.replicate, List.length_cons, List.length_nil, Bool.not_true, Bool.not_false, Bool.and_true, Bool.true_and, aZipTwo, aZip3]
          refine ⟨_, gt.jx h3 h4 i3 i4, rfl, rfl, ?_⟩
          rw [eqv_int]
          cases e3 : lawCnt hi wi m r c == cel t r c with
          | true =>
            simp only [e3, Bool.not_true, Bool.not_false, if_false, Bool.false_eq_true, forall_const] at hN2 ⊢
            exact hN2
          | false =>
            simp only [e3, Bool.not_true, Bool.not_false, if_true, forall_const] at hbad ⊢
            exact ⟨trivial, hbad⟩
    · rintro ρ' ⟨ha, u, rfl⟩
      exact hN _ ⟨all_app hI ha, _, _, rfl⟩
  · rintro ρ' ⟨ha, s, u, rfl⟩
    rw [fitsM_ok ha] at hk
    try dsimp only [fAll, fSum, aRet, aRetN, aAndV, aOrV, aNotV, aIsi, aVar, aC, aChain, aOp, aUn, aTest, aTru, truD, aAnd, aOr, aNot, aIf, aCons, aNil, aTup, aLst, imAll, aCB, resAll, res, aCall, bok, isOw, bos, svOf, back, aNext, aSeq, aIfS, aAsg, aAsgO, aName, aGTup, aGCons, aGNil, aDrop, aFrz, frz, aOfL, fI0, fI, fNeg, fPlus, fLen, fTuple, fInt, fAbs, fMax2, fMin2, fIsN, fNotN, fIsB, fNotB, isNonD, isT, aApp, aAug, aPop, aSetI, aPar, aPar3, aMIm, aMFr, svM, aList, aSl, aPart, aNoPart, aISeq, aRg1, aRg2, aYes, wipeA, mrg, noOw, still, retA, Option.map, List.map, List.getElem?_cons_zero, List.getElem?_cons_succ, List.set_cons_zero, List.set_cons_succ, List.cons_append, List.nil_append, List.replicate, List.length_cons, List.length_nil, Bool.not_true, Bool.not_false, Bool.and_true, Bool.true_and, aZipTwo, aZip3]
    exact ⟨rfl, hk⟩

theorem plains_ones {α : Type} (l : List α) : plains (l.map fun _ => D.int 1) = true := by
  induction l with
  | nil => rfl
  | cons x l ih => rw [List.map_cons]; unfold plains DL.plain; rw [ih]; rfl
theorem deeps_ones {α : Type} (l : List α) : deeps (l.map fun _ => D.int 1) = 0 := by
  induction l with
  | nil => rfl
  | cons x l ih => rw [List.map_cons]; unfold deeps deep; rw [ih]; rfl
theorem shp_ones {α : Type} (l : List α) : shp (.lst (l.map fun _ => D.int 1)) = true := by
  unfold shp DL.plain deep
  rw [plains_ones, deeps_ones]; rfl
theorem eqv_nil {α : Type} (l : List α) : eqv (.lst (l.map fun _ => D.int 1)) (.lst []) = l.isEmpty := by
  cases l <;> simp [eqv, eqvs]
theorem fits_bad {h w most : Int} {rows : List D} {r : D} (hr : r ∈ rows) (hb : (isTup r w w && signs most r) = false) : fitsSigns h w (.tup rows) most = false := by
  cases e : fitsSigns h w (.tup rows) most with
  | false => rfl
  | true =>
    unfold fitsSigns at e
    simp only [Bool.and_eq_true, List.all_eq_true] at e
    rw [e.1.2 r hr, e.2 r hr] at hb
    cases hb
def afLawSigns : AF := fun ρ k => ∃ h w d most, ρ = [.im (.int h), .im (.int w), .im d, .im (.int most)] ∧ okd d = true ∧ sized d ∧ k (.bl (fitsSigns h w d most)) ρ
theorem ok_law_signs (Bn : Bt mg) (h : Here K mg "_law_signs" sLawSigns ["high", "wide", "value", "most"]) : Df P w K mg base 1 "_law_signs" afLawSigns := by
  refine df_ok h scLawSigns [.un, .un] (fun ρ kk h => by obtain ⟨_, _, _, _, rfl, _⟩ := h; rfl) (fun f cdv A outer s H E hr => ⟨_, _, _, (gss_cons (gs_if (GW.gt (gw_or (gt_not (gt_truthK (K := K) (ge_isiK (K := K) .tuple Bn.isinstance Bn.tuple (gv 2)))) (gw_or1 (gt_ne (K := K) hr.units (ge_lenK (K := K) Bn (ga_cons (gv 2) ga_nil)) (gv 0) (nomark _))))) (gss_one (gs_ret ge_bl)) gss_nil)
      (gss_cons (gs_for PassesOwn.never rfl (gi_seqK (K := K) (gv 2)) (gg_name scLawSigns.nd (i := 4))
      (gss_cons (gs_if (GW.gt (gw_or (gt_not (gt_truthK (K := K) (ge_isiK (K := K) .tuple Bn.isinstance Bn.tuple (gv 4)))) (gw_or1 (gt_ne (K := K) hr.units (ge_lenK (K := K) Bn (ga_cons (gv 4) ga_nil)) (gv 1) (nomark _))))) (gss_one (gs_ret ge_bl)) gss_nil)
      (gss_one (gs_if (gt_ne (K := K) hr.units (GL.e (gl_lc rfl scLawSigns.nd (blkOk_by (own := [("one", 5)]) (by kernel_rfl)) (gi_seqK (K := K) (gv 4)) (fun _ _ _ _ _ => (gg_name scLawSigns.nd (i := 5))) (fun _ _ _ _ _ => (gts_one (GW.gt (gw_or (gt_truthK (K := K) (ge_isiK (K := K) .bool Bn.isinstance Bn.bool (gv 5))) (gw_or (gt_not (gt_truthK (K := K) (ge_isiK (K := K) .int Bn.isinstance Bn.int (gv 5)))) (gw_or1 (gt_not (gt_chain op_le lk_le op_le lk_le ge_int (gv 5) (gv 3))))))))) (fun _ _ _ _ _ => ge_int))) (GL.e (gl_lst ga_nil)) (nomark _)) (gss_one (gs_ret ge_bl)) gss_nil))))
      (gss_one (gs_ret ge_bl)))), fun ρ kk h => ?_⟩)
  obtain ⟨hi, wi, d, most, rfl, ho, hz, hk⟩ := h
  refine ⟨rfl, ?_⟩
  cases d with
  | tup rows =>
    try dsimp only [fAll, fSum, aRet, aRetN, aAndV, aOrV, aNotV, aIsi, aVar, aC, aChain, aOp, aUn, aTest, aTru, truD, aAnd, aOr, aNot, aIf, aCons, aNil, aTup, aLst, imAll, aCB, resAll, res, aCall, bok, isOw, bos, svOf, back, aNext, aSeq, aIfS, aAsg, aAsgO, aName, aGTup, aGCons, aGNil, aDrop, aFrz, frz, aOfL, fI0, fI, fNeg, fPlus, fLen, fTuple, fInt, fAbs, fMax2, fMin2, fIsN, fNotN, fIsB, fNotB, isNonD, isT, aApp, aAug, aPop, aSetI, aPar, aPar3, aMIm, aMFr, svM, aList, aSl, aPart, aNoPart, aISeq, aRg1, aRg2, aYes, wipeA, mrg, noOw, still, retA, Option.map, List.map, List.getElem?_cons_zero, List.getElem?_cons_succ, List.set_cons_zero, List.set_cons_succ, List.cons_append, List.nil_append, List.replicate, List.length_cons, List.length_nil, Bool.not_true, Bool.not_false, Bool.and_true, Bool.true_and, aZipTwo, aZip3]
    refine ⟨rfl, rfl, ?_⟩
    rw [eqv_int]
    have hv' : okds rows = true := by unfold okd at ho; exact ho
    cases e1 : ((rows.length : Int) == hi) with
    | false =>
      have e : fitsSigns hi wi (.tup rows) most = false := by
        unfold fitsSigns
        simp only [beq_eq_false_iff_ne, ne_eq] at e1
        simp only [e1, decide_false, Bool.false_and]
      rw [e] at hk
      exact ⟨rfl, hk⟩
    | true =>
      simp only [Bool.not_true, Bool.false_eq_true, if_false]
      have hl : (rows.length : Int) = hi := by simpa using e1
      refine aFor_map rows id (fun pre ρ' => (∀ r ∈ pre, isTup r wi wi = true ∧ signs most r = true) ∧ ∃ s, ρ' = [.im (.int hi), .im (.int wi), .im (.tup rows), .im (.int most), s, .un]) (fun k' hk' => ?_) ⟨fun _ h => absurd h List.not_mem_nil, _, rfl⟩ (fun pre r post ρ' hx hI N hN => ?_) ?_
      · try dsimp only [fAll, fSum, aRet, aRetN, aAndV, aOrV, aNotV, aIsi, aVar, aC, aChain, aOp, aUn, aTest, aTru, truD, aAnd, aOr, aNot, aIf, aCons, aNil, aTup, aLst, imAll, aCB, resAll, res, aCall, bok, isOw, bos, svOf, back, aNext, aSeq, aIfS, aAsg, aAsgO, aName, aGTup, aGCons, aGNil, aDrop, aFrz, frz, aOfL, fI0, fI, fNeg, fPlus, fLen, fTuple, fInt, fAbs, fMax2, fMin2, fIsN, fNotN, fIsB, fNotB, isNonD, isT, aApp, aAug, aPop, aSetI, aPar, aPar3, aMIm, aMFr, svM, aList, aSl, aPart, aNoPart, aISeq, aRg1, aRg2, aYes, wipeA, mrg, noOw, still, retA, Option.map, List.map, List.getElem?_cons_zero, List.getElem?_cons_succ, List.set_cons_zero, List.set_cons_succ, List.cons_append, List.nil_append, List.replicate, List.length_cons, List.length_nil, Bool.not_true, Bool.not_false, Bool.and_true, Bool.true_and, aZipTwo, aZip3]
        rw [List.map_id] at hk'
        exact hk'
      · obtain ⟨hI, s, rfl⟩ := hI
        have hr : r ∈ rows := by rw [hx]; simp
        have hor := okds_mem hv' hr
        have hN2 : isTup r wi wi = true → signs most r = true → N [.im (.int hi), .im (.int wi), .im (.tup rows), .im (.int most), .im r, .un] := fun o1 o2 => hN _ ⟨all_app hI ⟨o1, o2⟩, _, rfl⟩
        have hbad : (isTup r wi wi && signs most r) = false → kk (.bl false) [.im (.int hi), .im (.int wi), .im (.tup rows), .im (.int most)] := fun o => by
          rw [fits_bad hr o] at hk
          exact hk
        dsimp only [id]
        cases r with
        | tup ss =>
          try dsimp only [fAll, fSum, aRet, aRetN, aAndV, aOrV, aNotV, aIsi, aVar, aC, aChain, aOp, aUn, aTest, aTru, truD, aAnd, aOr, aNot, aIf, aCons, aNil, aTup, aLst, imAll, aCB, resAll, res, aCall, bok, isOw, bos, svOf, back, aNext, aSeq, aIfS, aAsg, aAsgO, aName, aGTup, aGCons, aGNil, aDrop, aFrz, frz, aOfL, fI0, fI, fNeg, fPlus, fLen, fTuple, fInt, fAbs, fMax2, fMin2, fIsN, fNotN, fIsB, fNotB, isNonD, isT, aApp, aAug, aPop, aSetI, aPar, aPar3, aMIm, aMFr, svM, aList, aSl, aPart, aNoPart, aISeq, aRg1, aRg2, aYes, wipeA, mrg, noOw, still, retA, Option.map, List.map, List.getElem?_cons_zero, List.getElem?_cons_succ, List.set_cons_zero, List.set_cons_succ, List.cons_append, List.nil_append, List.replicate, List.length_cons, List.length_nil, Bool.not_true, Bool.not_false, Bool.and_true, Bool.true_and, aZipTwo, aZip3]
          refine ⟨rfl, rfl, ?_⟩
          rw [eqv_int]
          cases e2 : ((ss.length : Int) == wi) with
          | false =>
            simp only [beq_eq_false_iff_ne, ne_eq] at e2
            simp only [Bool.not_false, if_true]
            refine ⟨trivial, hbad ?_⟩
            dsimp only [isTup]
            have : (decide (wi ≤ (ss.length : Int)) && decide ((ss.length : Int) ≤ wi)) = false := by simp; omega
            rw [this, Bool.false_and]
          | true =>
            have e2' : (ss.length : Int) = wi := by simpa using e2
            have e3 : isTup (.tup ss) wi wi = true := by unfold isTup; simp [e2']
            have hss := (hz rows rfl).2 _ hr ss rfl
            simp only [Bool.not_true, Bool.false_eq_true, if_false]
            refine aLc_pureM ss id (fun s => !fitsWhole s 0 most) (fun _ => .int 1) (fun k' hk' => by rw [List.map_id] at hk'; exact hk') rfl hss (fun x hx Wy Wn hy hn => ?_) ?_
            · have hox : okd x = true := okds_mem (by unfold okd at hor; exact hor) hx
              dsimp only [id]
              cases x with
              | int i =>
                try dsimp only [fAll, fSum, aRet, aRetN, aAndV, aOrV, aNotV, aIsi, aVar, aC, aChain, aOp, aUn, aTest, aTru, truD, aAnd, aOr, aNot, aIf, aCons, aNil, aTup, aLst, imAll, aCB, resAll, res, aCall, bok, isOw, bos, svOf, back, aNext, aSeq, aIfS, aAsg, aAsgO, aName, aGTup, aGCons, aGNil, aDrop, aFrz, frz, aOfL, fI0, fI, fNeg, fPlus, fLen, fTuple, fInt, fAbs, fMax2, fMin2, fIsN, fNotN, fIsB, fNotB, isNonD, isT, aApp, aAug, aPop, aSetI, aPar, aPar3, aMIm, aMFr, svM, aList, aSl, aPart, aNoPart, aISeq, aRg1, aRg2, aYes, wipeA, mrg, noOw, still, retA, Option.map, List.map, List.getElem?_cons_zero, List.getElem?_cons_succ, List.set_cons_zero, List.set_cons_succ, List.cons_append, List.nil_append, List.replicate, List.length_cons, List.length_nil, Bool.not_true, Bool.not_false, Bool.and_true, Bool.true_and, aZipTwo, aZip3]
                dsimp only [fitsWhole] at hy hn
                by_cases h1 : 0 ≤ i
                · by_cases h2 : i ≤ most
                  · simp only [h1, h2, decide_true, Bool.and_true, Bool.true_and, Bool.not_true, forall_const, Bool.false_eq_true, if_true, if_false] at hn ⊢
                    exact hn
                  · simp only [h1, h2, decide_true, decide_false, Bool.and_false, Bool.true_and, Bool.not_true, Bool.not_false, forall_const, Bool.false_eq_true, if_true, if_false] at hy ⊢
                    exact ⟨_, rfl, hy⟩
                · simp only [h1, decide_true, decide_false, Bool.and_false, Bool.false_and, Bool.not_true, Bool.not_false, forall_const, Bool.false_eq_true, if_true, if_false] at hy ⊢
                  exact ⟨_, rfl, hy⟩
              | adr a => unfold okd at hox; cases hox
              | scr a => unfold okd at hox; cases hox
              | _ => exact ⟨_, rfl, hy rfl⟩
            · try dsimp only [fAll, fSum, aRet, aRetN, aAndV, aOrV, aNotV, aIsi, aVar, aC, aChain, aOp, aUn, aTest, aTru, truD, aAnd, aOr, aNot, aIf, aCons, aNil, aTup, aLst, imAll, aCB, resAll, res, aCall, bok, isOw, bos, svOf, back, aNext, aSeq, aIfS, aAsg, aAsgO, aName, aGTup, aGCons, aGNil, aDrop, aFrz, frz, aOfL, fI0, fI, fNeg, fPlus, fLen, fTuple, fInt, fAbs, fMax2, fMin2, fIsN, fNotN, fIsB, fNotB, isNonD, isT, aApp, aAug, aPop, aSetI, aPar, aPar3, aMIm, aMFr, svM, aList, aSl, aPart, aNoPart, aISeq, aRg1, aRg2, aYes, wipeA, mrg, noOw, still, retA, Option.map, List.map, List.getElem?_cons_zero, List.getElem?_cons_succ, List.set_cons_zero, List.set_cons_succ, List.cons_append, List.nil_append, List.replicate, List.length_cons, List.length_nil, Bool.not_true, Bool.not_false, Bool.and_true, Bool.true_and, aZipTwo, aZip3]
              refine ⟨by decide, shp_ones _, rfl, ?_⟩
              rw [eqv_nil]
              have e4 : signs most (.tup ss) = (ss.filter fun s => !fitsWhole s 0 most).isEmpty := by
                dsimp only [signs]
                rw [Bool.eq_iff_iff, List.all_eq_true, List.isEmpty_iff, List.filter_eq_nil_iff]
                simp
              cases e5 : (ss.filter fun s => !fitsWhole s 0 most).isEmpty with
              | true =>
                simp only [Bool.not_true, Bool.false_eq_true, if_false]
                exact hN2 e3 (e4.trans e5)
              | false =>
                simp only [Bool.not_false, if_true]
                exact ⟨trivial, hbad (by rw [e4, e5, Bool.and_false])⟩
        | adr a => unfold okd at hor; cases hor
        | scr a => unfold okd at hor; cases hor
        | _ => exact ⟨rfl, hbad rfl⟩
      · rintro ρ' ⟨ha, s, rfl⟩
        have e : fitsSigns hi wi (.tup rows) most = true := by
          unfold fitsSigns
          simp only [Bool.and_eq_true, List.all_eq_true, decide_eq_true_eq]
          exact ⟨⟨hl, fun r hr => (ha r hr).1⟩, fun r hr => (ha r hr).2⟩
        rw [e] at hk
        exact ⟨rfl, hk⟩
  | adr a => unfold okd at ho; cases ho
  | scr a => unfold okd at ho; cases ho
  | _ => exact ⟨rfl, hk⟩
end
end K76

namespace K76
open PySem PySem.Spec L2 DL
open PyProof.Rows hiding St
mutual
/-- none, truth values, whole numbers, tuples and lists of them -/
def numd : D → Bool
  | .non => true
  | .bl _ => true
  | .int _ => true
  | .tup ds => numds ds
  | .lst ds => numds ds
  | _ => false
def numds : List D → Bool
  | [] => true
  | d :: ds => numd d && numds ds
end
theorem numds_mem : ∀ {ds : List D} {d : D}, numds ds = true → d ∈ ds → numd d = true
  | e :: ds, d, h, m => by
    unfold numds at h
    simp only [Bool.and_eq_true] at h
    rcases List.mem_cons.mp m with rfl | m
    · exact h.1
    · exact numds_mem h.2 m
theorem deeps_mem : ∀ {ds : List D} {d : D}, d ∈ ds → deep d ≤ deeps ds
  | e :: ds, d, m => by
    unfold deeps
    rcases List.mem_cons.mp m with rfl | m
    · omega
    · have := deeps_mem m; omega
mutual
/-- no list or tuple longer than a million -/
def small : D → Bool
  | .tup ds => decide (ds.length ≤ 1000000) && smalls ds
  | .lst ds => decide (ds.length ≤ 1000000) && smalls ds
  | _ => true
def smalls : List D → Bool
  | [] => true
  | d :: ds => small d && smalls ds
end
theorem smalls_mem : ∀ {ds : List D} {d : D}, smalls ds = true → d ∈ ds → small d = true
  | e :: ds, d, h, m => by
    unfold smalls at h
    simp only [Bool.and_eq_true] at h
    rcases List.mem_cons.mp m with rfl | m
    · exact h.1
    · exact smalls_mem h.2 m
theorem eqv_bl (a : Bool) : eqv (.bl a) (.bl a) = true := by simp [eqv]
section
variable {P : Program} {w : World} {K : PySem.W.Frag} {mg : Str → Option Value} {base : Heap}
def afSame (n : Nat) : AF := fun ρ k => ∃ d, ρ = [.im d, .im d] ∧ numd d = true ∧ small d = true ∧ deep d < n ∧ k (.bl true) ρ
theorem ok_law_same0 (Bn : Bt mg) (h : Here K mg "_law_same" sLawSame ["told", "due"]) : Df P w K mg base 0 "_law_same" (afSame 0) := by
  obtain ⟨f, fd, Fn, hm, hb⟩ := h
  have no : ∀ vs H Q E, ¬ SpF K (afSame 0) vs H Q E := fun vs H Q E z => by
    obtain ⟨ρ, F, k, _, ⟨d, _, _, _, z, _⟩, _⟩ := z
    exact absurd z (Nat.not_lt_zero _)
  exact ⟨f, fd, _, ⟨fun vs H Q E z => (no _ _ _ _ z).elim, fun _ _ _ _ _ _ _ _ _ _ _ _ _ z => (no _ _ _ _ z).elim⟩, hm, Fn.kp, hb⟩
theorem ok_law_same (Bn : Bt mg) (h : Here K mg "_law_same" sLawSame ["told", "due"]) : ∀ n : Nat, Df P w K mg base n "_law_same" (afSame n)
  | 0 => ok_law_same0 Bn h
  | n + 1 => by
    have d_law_same := ok_law_same Bn h n
    refine df_ok h scLawSame [.un] (fun ρ kk h => by obtain ⟨_, rfl, _⟩ := h; rfl) (fun f cdv A outer s H E hr => ⟨_, _, _, (gss_cons (gs_if (GW.gt (gw_or (gt_truthK (K := K) (ge_isiK (K := K) .tuple Bn.isinstance Bn.tuple (gv 1))) (gw_or1 (gt_truthK (K := K) (ge_isiK (K := K) .list Bn.isinstance Bn.list (gv 1)))))) (gss_cons (gs_if (GW.gt (gw_or (gt_ne (K := K) hr.units (ge_isiK (K := K) .tuple Bn.isinstance Bn.tuple (gv 0)) (ge_isiK (K := K) .tuple Bn.isinstance Bn.tuple (gv 1)) (nomark _)) (gw_or (gt_ne (K := K) hr.units (ge_isiK (K := K) .list Bn.isinstance Bn.list (gv 0)) (ge_isiK (K := K) .list Bn.isinstance Bn.list (gv 1)) (nomark _)) (gw_or1 (gt_ne (K := K) hr.units (ge_lenK (K := K) Bn (ga_cons (gv 0) ga_nil)) (ge_lenK (K := K) Bn (ga_cons (gv 1) ga_nil)) (nomark _)))))) (gss_one (gs_ret ge_bl)) gss_nil)
      (gss_one (gs_ret (ge_eq (K := K) hr.units (GL.e (gl_lc rfl scLawSame.nd (blkOk_by (own := [("at", 2)]) (by kernel_rfl)) (gi_rg1 Bn (ga_cons (ge_lenK (K := K) Bn (ga_cons (gv 1) ga_nil)) ga_nil)) (fun _ _ _ _ _ => (gg_name scLawSame.nd (i := 2))) (fun _ _ _ _ _ => (gts_one (gt_not (gt_truthK (K := K) (ge_dfK d_law_same hr (ga_cons (ge_ixK (K := K) (gv 0) (gv 2)) (ga_cons (ge_ixK (K := K) (gv 1) (gv 2)) ga_nil)) (hk := Nat.le_refl _)))))) (fun _ _ _ _ _ => ge_int))) (GL.e (gl_lst ga_nil)) (nomark _))))) gss_nil)
      (gss_cons (gs_if (gt_cmp op_isN lk_isN (gv 1) ge_non (nomark _)) (gss_one (gs_ret (ge_cmp op_isN lk_isN (gv 0) ge_non (nomark _)))) gss_nil)
      (gss_cons (gs_if (gt_truthK (K := K) (ge_isiK (K := K) .bool Bn.isinstance Bn.bool (gv 1))) (gss_one (gs_ret (ge_if (gt_truthK (K := K) (gv 1)) (ge_cmp op_isBl lk_isB (gv 0) ge_bl (nomark _)) (ge_cmp op_isBl lk_isB (gv 0) ge_bl (nomark _))))) gss_nil)
      (gss_cons (gs_if (gt_truthK (K := K) (ge_isiK (K := K) .int Bn.isinstance Bn.int (gv 1))) (gss_one (gs_ret (ge_and (ge_isiK (K := K) .int Bn.isinstance Bn.int (gv 0)) (ge_and (ge_not (ge_isiK (K := K) .bool Bn.isinstance Bn.bool (gv 0))) (ge_one (ge_eq (K := K) hr.units (ge_int1 Bn (ga_cons (gv 0) ga_nil)) (gv 1) (nomark _))))))) gss_nil)
      (gss_one gs_never))))), fun ρ kk h => ?_⟩)
    obtain ⟨d, rfl, hn, hs, hd, hk⟩ := h
    refine ⟨rfl, ?_⟩
    cases d with
    | non => exact ⟨rfl, hk⟩
    | bl b => cases b <;> exact ⟨rfl, hk⟩
    | int i =>
      try dsimp only [fAll, fSum, aRet, aRetN, aAndV, aOrV, aNotV, aIsi, aVar, aC, aChain, aOp, aUn, aTest, aTru, truD, aAnd, aOr, aNot, aIf, aCons, aNil, aTup, aLst, imAll, aCB, resAll, res, aCall, bok, isOw, bos, svOf, back, aNext, aSeq, aIfS, aAsg, aAsgO, aName, aGTup, aGCons, aGNil, aDrop, aFrz, frz, aOfL, fI0, fI, fNeg, fPlus, fLen, fTuple, fInt, fAbs, fMax2, fMin2, fIsN, fNotN, fIsB, fNotB, isNonD, isT, aApp, aAug, aPop, aSetI, aPar, aPar3, aMIm, aMFr, svM, aList, aSl, aPart, aNoPart, aISeq, aRg1, aRg2, aYes, wipeA, mrg, noOw, still, retA, Option.map, List.map, List.getElem?_cons_zero, List.getElem?_cons_succ, List.set_cons_zero, List.set_cons_succ, List.cons_append, List.nil_append, List.replicate, List.length_cons, List.length_nil, Bool.not_true, Bool.not_false, Bool.and_true, Bool.true_and, aZipTwo, aZip3]
      refine ⟨rfl, rfl, rfl, ?_⟩
      rw [eqv_int, beq_self_eq_true]
      exact hk
    | tup ds =>
      try dsimp only [fAll, fSum, aRet, aRetN, aAndV, aOrV, aNotV, aIsi, aVar, aC, aChain, aOp, aUn, aTest, aTru, truD, aAnd, aOr, aNot, aIf, aCons, aNil, aTup, aLst, imAll, aCB, resAll, res, aCall, bok, isOw, bos, svOf, back, aNext, aSeq, aIfS, aAsg, aAsgO, aName, aGTup, aGCons, aGNil, aDrop, aFrz, frz, aOfL, fI0, fI, fNeg, fPlus, fLen, fTuple, fInt, fAbs, fMax2, fMin2, fIsN, fNotN, fIsB, fNotB, isNonD, isT, aApp, aAug, aPop, aSetI, aPar, aPar3, aMIm, aMFr, svM, aList, aSl, aPart, aNoPart, aISeq, aRg1, aRg2, aYes, wipeA, mrg, noOw, still, retA, Option.map, List.map, List.getElem?_cons_zero, List.getElem?_cons_succ, List.set_cons_zero, List.set_cons_succ, List.cons_append, List.nil_append, List.replicate, List.length_cons, List.length_nil, Bool.not_true, Bool.not_false, Bool.and_true, Bool.true_and, aZipTwo, aZip3]
      refine ⟨rfl, rfl, ?_⟩
      rw [eqv_bl]
      refine ⟨rfl, rfl, ?_⟩
      rw [eqv_bl]
      refine ⟨rfl, rfl, ?_⟩
      rw [eqv_int, beq_self_eq_true]
      simp only [Bool.not_true, Bool.false_eq_true, if_false]
      unfold numd at hn
      unfold small at hs
      unfold deep at hd
      simp only [Bool.and_eq_true, decide_eq_true_eq] at hs
      refine aLc_pureM (rgI 0 (ds.length : Int)) D.int (fun _ => false) (fun _ => .int 1) (fun k' hk' => ?_) rfl (by rw [rgI_len]; omega) (fun x hx Wy Wn hy hn' => ?_) ?_
      · try dsimp only [fAll, fSum, aRet, aRetN, aAndV, aOrV, aNotV, aIsi, aVar, aC, aChain, aOp, aUn, aTest, aTru, truD, aAnd, aOr, aNot, aIf, aCons, aNil, aTup, aLst, imAll, aCB, resAll, res, aCall, bok, isOw, bos, svOf, back, aNext, aSeq, aIfS, aAsg, aAsgO, aName, aGTup, aGCons, aGNil, aDrop, aFrz, frz, aOfL, fI0, fI, fNeg, fPlus, fLen, fTuple, fInt, fAbs, fMax2, fMin2, fIsN, fNotN, fIsB, fNotB, isNonD, isT, aApp, aAug, aPop, aSetI, aPar, aPar3, aMIm, aMFr, svM, aList, aSl, aPart, aNoPart, aISeq, aRg1, aRg2, aYes, wipeA, mrg, noOw, still, retA, Option.map, List.map, List.getElem?_cons_zero, List.getElem?_cons_succ, List.set_cons_zero, List.set_cons_succ, List.cons_append, List.nil_append, List.replicate, List.length_cons, List.length_nil, Bool.not_true, Bool.not_false, Bool.and_true, Bool.true_and, aZipTwo, aZip3]
        rw [rng_rgI0]
        exact ⟨by omega, hk'⟩
      · obtain ⟨x0, x1⟩ := rgI_mem.mp hx
        have hxl : x.toNat < ds.length := by omega
        have hm := List.getElem_mem hxl
        have ha := atI_nat x0 (List.getElem?_eq_getElem hxl)
        try dsimp only [fAll, fSum, aRet, aRetN, aAndV, aOrV, aNotV, aIsi, aVar, aC, aChain, aOp, aUn, aTest, aTru, truD, aAnd, aOr, aNot, aIf, aCons, aNil, aTup, aLst, imAll, aCB, resAll, res, aCall, bok, isOw, bos, svOf, back, aNext, aSeq, aIfS, aAsg, aAsgO, aName, aGTup, aGCons, aGNil, aDrop, aFrz, frz, aOfL, fI0, fI, fNeg, fPlus, fLen, fTuple, fInt, fAbs, fMax2, fMin2, fIsN, fNotN, fIsB, fNotB, isNonD, isT, aApp, aAug, aPop, aSetI, aPar, aPar3, aMIm, aMFr, svM, aList, aSl, aPart, aNoPart, aISeq, aRg1, aRg2, aYes, wipeA, mrg, noOw, still, retA, Option.map, List.map, List.getElem?_cons_zero, List.getElem?_cons_succ, List.set_cons_zero, List.set_cons_succ, List.cons_append, List.nil_append, List.replicate, List.length_cons, List.length_nil, Bool.not_true, Bool.not_false, Bool.and_true, Bool.true_and, aZipTwo, aZip3]
        refine ⟨_, ha, _, ha, rfl, ds[x.toNat], rfl, numds_mem hn hm, smalls_mem hs.2 hm, ?_, ?_⟩
        · have := deeps_mem hm
          omega
        · exact hn' rfl
      · rw [show ((rgI 0 (ds.length : Int)).filter fun _ => false) = [] from List.filter_eq_nil_iff.mpr fun _ _ => by decide]
        try dsimp only [fAll, fSum, aRet, aRetN, aAndV, aOrV, aNotV, aIsi, aVar, aC, aChain, aOp, aUn, aTest, aTru, truD, aAnd, aOr, aNot, aIf, aCons, aNil, aTup, aLst, imAll, aCB, resAll, res, aCall, bok, isOw, bos, svOf, back, aNext, aSeq, aIfS, aAsg, aAsgO, aName, aGTup, aGCons, aGNil, aDrop, aFrz, frz, aOfL, fI0, fI, fNeg, fPlus, fLen, fTuple, fInt, fAbs, fMax2, fMin2, fIsN, fNotN, fIsB, fNotB, isNonD, isT, aApp, aAug, aPop, aSetI, aPar, aPar3, aMIm, aMFr, svM, aList, aSl, aPart, aNoPart, aISeq, aRg1, aRg2, aYes, wipeA, mrg, noOw, still, retA, Option.map, List.map, List.getElem?_cons_zero, List.getElem?_cons_succ, List.set_cons_zero, List.set_cons_succ, List.cons_append, List.nil_append, List.replicate, List.length_cons, List.length_nil, Bool.not_true, Bool.not_false, Bool.and_true, Bool.true_and, aZipTwo, aZip3]
        refine ⟨by decide, rfl, rfl, rfl, ?_⟩
        rw [show eqv (.lst []) (.lst []) = true by simp [eqv, eqvs]]
        exact hk
    | lst ds =>
      try dsimp only [fAll, fSum, aRet, aRetN, aAndV, aOrV, aNotV, aIsi, aVar, aC, aChain, aOp, aUn, aTest, aTru, truD, aAnd, aOr, aNot, aIf, aCons, aNil, aTup, aLst, imAll, aCB, resAll, res, aCall, bok, isOw, bos, svOf, back, aNext, aSeq, aIfS, aAsg, aAsgO, aName, aGTup, aGCons, aGNil, aDrop, aFrz, frz, aOfL, fI0, fI, fNeg, fPlus, fLen, fTuple, fInt, fAbs, fMax2, fMin2, fIsN, fNotN, fIsB, fNotB, isNonD, isT, aApp, aAug, aPop, aSetI, aPar, aPar3, aMIm, aMFr, svM, aList, aSl, aPart, aNoPart, aISeq, aRg1, aRg2, aYes, wipeA, mrg, noOw, still, retA, Option.map, List.map, List.getElem?_cons_zero, List.getElem?_cons_succ, List.set_cons_zero, List.set_cons_succ, List.cons_append, List.nil_append, List.replicate, List.length_cons, List.length_nil, Bool.not_true, Bool.not_false, Bool.and_true, Bool.true_and, aZipTwo, aZip3]
      refine ⟨rfl, rfl, ?_⟩
      rw [eqv_bl]
      refine ⟨rfl, rfl, ?_⟩
      rw [eqv_bl]
      refine ⟨rfl, rfl, ?_⟩
      rw [eqv_int, beq_self_eq_true]
      simp only [Bool.not_true, Bool.false_eq_true, if_false]
      unfold numd at hn
      unfold small at hs
      unfold deep at hd
      simp only [Bool.and_eq_true, decide_eq_true_eq] at hs
      refine aLc_pureM (rgI 0 (ds.length : Int)) D.int (fun _ => false) (fun _ => .int 1) (fun k' hk' => ?_) rfl (by rw [rgI_len]; omega) (fun x hx Wy Wn hy hn' => ?_) ?_
      · try dsimp only [fAll, fSum, aRet, aRetN, aAndV, aOrV, aNotV, aIsi, aVar, aC, aChain, aOp, aUn, aTest, aTru, truD, aAnd, aOr, aNot, aIf, aCons, aNil, aTup, aLst, imAll, aCB, resAll, res, aCall, bok, isOw, bos, svOf, back, aNext, aSeq, aIfS, aAsg, aAsgO, aName, aGTup, aGCons, aGNil, aDrop, aFrz, frz, aOfL, fI0, fI, fNeg, fPlus, fLen, fTuple, fInt, fAbs, fMax2, fMin2, fIsN, fNotN, fIsB, fNotB, isNonD, isT, aApp, aAug, aPop, aSetI, aPar, aPar3, aMIm, aMFr, svM, aList, aSl, aPart, aNoPart, aISeq, aRg1, aRg2, aYes, wipeA, mrg, noOw, still, retA, Option.map, List.map, List.getElem?_cons_zero, List.getElem?_cons_succ, List.set_cons_zero, List.set_cons_succ, List.cons_append, List.nil_append, List.replicate, List.length_cons, List.length_nil, Bool.not_true, Bool.not_false, Bool.and_true, Bool.true_and, aZipTwo, aZip3]
        rw [rng_rgI0]
        exact ⟨by omega, hk'⟩
      · obtain ⟨x0, x1⟩ := rgI_mem.mp hx
        have hxl : x.toNat < ds.length := by omega
        have hm := List.getElem_mem hxl
        have ha := atI_nat x0 (List.getElem?_eq_getElem hxl)
        try dsimp only [fAll, fSum, aRet, aRetN, aAndV, aOrV, aNotV, aIsi, aVar, aC, aChain, aOp, aUn, aTest, aTru, truD, aAnd, aOr, aNot, aIf, aCons, aNil, aTup, aLst, imAll, aCB, resAll, res, aCall, bok, isOw, bos, svOf, back, aNext, aSeq, aIfS, aAsg, aAsgO, aName, aGTup, aGCons, aGNil, aDrop, aFrz, frz, aOfL, fI0, fI, fNeg, fPlus, fLen, fTuple, fInt, fAbs, fMax2, fMin2, fIsN, fNotN, fIsB, fNotB, isNonD, isT, aApp, aAug, aPop, aSetI, aPar, aPar3, aMIm, aMFr, svM, aList, aSl, aPart, aNoPart, aISeq, aRg1, aRg2, aYes, wipeA, mrg, noOw, still, retA, Option.map, List.map, List.getElem?_cons_zero, List.getElem?_cons_succ, List.set_cons_zero, List.set_cons_succ, List.cons_append, List.nil_append, List.replicate, List.length_cons, List.length_nil, Bool.not_true, Bool.not_false, Bool.and_true, Bool.true_and, aZipTwo, aZip3]
        refine ⟨_, ha, _, ha, rfl, ds[x.toNat], rfl, numds_mem hn hm, smalls_mem hs.2 hm, ?_, ?_⟩
        · have := deeps_mem hm
          omega
        · exact hn' rfl
      · rw [show ((rgI 0 (ds.length : Int)).filter fun _ => false) = [] from List.filter_eq_nil_iff.mpr fun _ _ => by decide]
        try dsimp only [fAll, fSum, aRet, aRetN, aAndV, aOrV, aNotV, aIsi, aVar, aC, aChain, aOp, aUn, aTest, aTru, truD, aAnd, aOr, aNot, aIf, aCons, aNil, aTup, aLst, imAll, aCB, resAll, res, aCall, bok, isOw, bos, svOf, back, aNext, aSeq, aIfS, aAsg, aAsgO, aName, aGTup, aGCons, aGNil, aDrop, aFrz, frz, aOfL, fI0, fI, fNeg, fPlus, fLen, fTuple, fInt, fAbs, fMax2, fMin2, fIsN, fNotN, fIsB, fNotB, isNonD, isT, aApp, aAug, aPop, aSetI, aPar, aPar3, aMIm, aMFr, svM, aList, aSl, aPart, aNoPart, aISeq, aRg1, aRg2, aYes, wipeA, mrg, noOw, still, retA, Option.map, List.map, List.getElem?_cons_zero, List.getElem?_cons_succ, List.set_cons_zero, List.set_cons_succ, List.cons_append, List.nil_append, List.replicate, List.length_cons, List.length_nil, Bool.not_true, Bool.not_false, Bool.and_true, Bool.true_and, aZipTwo, aZip3]
        refine ⟨by decide, rfl, rfl, rfl, ?_⟩
        rw [show eqv (.lst []) (.lst []) = true by simp [eqv, eqvs]]
        exact hk
    | _ => cases hn
end
end K76

namespace K76
open PySem PySem.Spec L2 DL
open PyProof.Rows hiding St
/-! ### the plain law: the counts are alike -/
theorem sum_filter {α : Type} (l : List α) (p : α → Bool) (f : α → Int) : ((l.filter p).map f).sum = (l.map fun x => if p x = true then f x else 0).sum := by
  induction l with
  | nil => rfl
  | cons x l ih =>
    rw [List.filter_cons]
    split
    · rename_i h; simp [h, ih]
    · rename_i h; simp [h, ih]
theorem sum_flat {α β : Type} (l : List α) (g : α → List β) (f : β → Int) : ((l.flatMap g).map f).sum = (l.map fun x => ((g x).map f).sum).sum := by
  induction l with
  | nil => rfl
  | cons x l ih => simp [ih]
def inn (h r d : Int) : Bool := decide (0 ≤ r + d) && decide (r + d < h)
theorem rgI1 {a b : Int} (h : b = a + 1) : rgI a b = [a] := by subst h; unfold rgI; rw [show (a + 1 - a).toNat = 1 by omega]; simp [List.range_succ]
theorem rgI2 {a b : Int} (h : b = a + 2) : rgI a b = [a, a + 1] := by subst h; unfold rgI; rw [show (a + 2 - a).toNat = 2 by omega]; simp [List.range_succ]
theorem rgI3 {a b : Int} (h : b = a + 3) : rgI a b = [a, a + 1, a + 2] := by subst h; unfold rgI; rw [show (a + 3 - a).toNat = 3 by omega]; simp [List.range_succ]
theorem ax_tri {h r : Int} (h0 : 0 ≤ r) (h1 : r < h) : ax h r = (tri.filter (inn h r)).map fun d => r + d := by
  have i0 : inn h r 0 = true := by unfold inn; simp; omega
  unfold ax
  by_cases a : 1 ≤ r
  · have im : inn h r (-1) = true := by unfold inn; simp; omega
    rw [show mx 0 (r - 1) = r - 1 by unfold mx; split <;> omega]
    by_cases b : r + 1 < h
    · have ip : inn h r 1 = true := by unfold inn; simp; omega
      rw [show mn h (r + 2) = r + 2 by unfold mn; split <;> omega, rgI3 (by omega)]
      simp only [tri, List.filter_cons, i0, im, ip, if_true, List.filter_nil, List.map_cons, List.map_nil]
      congr 1
      congr 1
      · omega
      · congr 1; omega
    · have ip : inn h r 1 = false := by unfold inn; simp; omega
      rw [show mn h (r + 2) = r + 1 by unfold mn; split <;> omega, rgI2 (by omega)]
      simp only [tri, List.filter_cons, i0, im, ip, if_true, List.filter_nil, List.map_cons, List.map_nil, Bool.false_eq_true, if_false]
      congr 1
      congr 1
      omega
  · have im : inn h r (-1) = false := by unfold inn; simp; omega
    rw [show mx 0 (r - 1) = r by unfold mx; split <;> omega]
    by_cases b : r + 1 < h
    · have ip : inn h r 1 = true := by unfold inn; simp; omega
      rw [show mn h (r + 2) = r + 2 by unfold mn; split <;> omega, rgI2 (by omega)]
      simp only [tri, List.filter_cons, i0, im, ip, if_true, List.filter_nil, List.map_cons, List.map_nil, Bool.false_eq_true, if_false]
      congr 1
      omega
    · have ip : inn h r 1 = false := by unfold inn; simp; omega
      rw [show mn h (r + 2) = r + 1 by unfold mn; split <;> omega, rgI1 (by omega)]
      simp only [tri, List.filter_cons, i0, im, ip, if_true, List.filter_nil, List.map_cons, List.map_nil, Bool.false_eq_true, if_false]
      congr 1
      omega
theorem cnt_law {h w : Int} {m : Gr} {r c : Int} (h0 : 0 ≤ r) (h1 : r < h) (h2 : 0 ≤ c) (h3 : c < w) : cnt h w m r c = lawCnt h w m r c := by
  unfold cnt around lawCnt
  rw [sum_filter, sum_flat, ax_tri h0 h1, List.map_map, sum_filter]
  congr 1
  apply List.map_congr_left
  intro d hd
  dsimp only [Function.comp]
  rw [List.map_map, ax_tri h2 h3, List.map_map, sum_filter]
  cases e : inn h r d with
  | false =>
    have e' : ¬ (0 ≤ r + d ∧ r + d < h) := by unfold inn at e; simpa using e
    rw [if_neg Bool.false_ne_true]
    have : ∀ x ∈ tri, one h w m r c d x = 0 := fun x _ => if_neg fun z => e' z.2.1
    rw [List.map_congr_left this]
    simp [tri]
  | true =>
    have e' : 0 ≤ r + d ∧ r + d < h := by unfold inn at e; simpa using e
    rw [if_pos rfl]
    congr 1
    apply List.map_congr_left
    intro x hx
    dsimp only [Function.comp]
    unfold one
    cases e2 : inn w c x with
    | false =>
      have e2' : ¬ (0 ≤ c + x ∧ c + x < w) := by unfold inn at e2; simpa using e2
      rw [if_neg Bool.false_ne_true, if_neg fun z => e2' z.2.2]
    | true =>
      have e2' : 0 ≤ c + x ∧ c + x < w := by unfold inn at e2; simpa using e2
      rw [if_pos rfl]
      by_cases z : d = 0 ∧ x = 0
      · rw [if_neg (by rw [z.1, z.2]; simp), if_neg fun q => q.1 z]
      · rw [if_pos (by simp; omega), if_pos ⟨z, e', e2'⟩]
theorem told_fits {C C' : Int → Int → Int} {h w : Int} {m s : Gr} (hC : ∀ r c, 0 ≤ r → r < h → 0 ≤ c → c < w → C' r c = C r c) : fitsM C' h w (toldG C h w m s) m = true := by
  refine fitsM_ok fun r hr c hc => ?_
  obtain ⟨h0, h1⟩ := rgI_mem.mp hr
  obtain ⟨h2, h3⟩ := rgI_mem.mp hc
  unfold okc
  rw [hC r c h0 h1 h2 h3, show cel (toldG C h w m s) r c = if cel s r c ≠ 0 ∧ cel m r c = 0 then C r c else 9 from cel_mk h0 h1 h2 h3]
  by_cases z : cel s r c ≠ 0 ∧ cel m r c = 0
  · rw [if_pos z, z.2]; simp
  · rw [if_neg z]; rfl
theorem getD_mem {α : Type} {l : List α} {i : Nat} {d : α} (h : i < l.length) : l.getD i d ∈ l := by
  rw [List.getD_eq_getElem?_getD, List.getElem?_eq_getElem h]; exact List.getElem_mem h
theorem getD_out {α : Type} {l : List α} {i : Nat} {d : α} (h : ¬ i < l.length) : l.getD i d = d := by
  rw [List.getD_eq_getElem?_getD, List.getElem?_eq_none (by omega)]; rfl
theorem cel_bound {m : Gr} {b i j : Int} (hb : 0 ≤ b) (a : Within b m) : 0 ≤ cel m i j ∧ cel m i j ≤ b := by
  unfold cel
  by_cases i1 : i.toNat < m.length
  · by_cases i2 : j.toNat < (m.getD i.toNat []).length
    · exact a _ (getD_mem i1) _ (getD_mem i2)
    · rw [getD_out i2]; omega
  · rw [getD_out i1]; simpa using hb
theorem one_bound {h w : Int} {m : Gr} {r c d e : Int} (a : Within 1 m) : 0 ≤ one h w m r c d e ∧ one h w m r c d e ≤ 1 := by
  unfold one
  split
  · exact cel_bound (by decide) a
  · decide
theorem law_bound {h w : Int} {m : Gr} {r c : Int} (a : Within 1 m) : 0 ≤ lawCnt h w m r c ∧ lawCnt h w m r c ≤ 9 := by
  unfold lawCnt tri
  simp only [List.map_cons, List.map_nil, List.sum_cons, List.sum_nil]
  have b := fun d e => one_bound (h := h) (w := w) (r := r) (c := c) (d := d) (e := e) a
  have b1 := b (-1) (-1)
  have b2 := b (-1) 0
  have b3 := b (-1) 1
  have b4 := b 0 (-1)
  have b5 := b 0 0
  have b6 := b 0 1
  have b7 := b 1 (-1)
  have b8 := b 1 0
  have b9 := b 1 1
  omega
theorem told_within {C : Int → Int → Int} {h w : Int} {m s : Gr} (hC : ∀ r c, 0 ≤ r → r < h → 0 ≤ c → c < w → 0 ≤ C r c ∧ C r c ≤ 9) : Within 9 (toldG C h w m s) := by
  intro row hr x hx
  obtain ⟨r, hr1, e1⟩ := List.mem_map.mp hr
  subst e1
  obtain ⟨c, hc, e2⟩ := List.mem_map.mp hx
  subst e2
  obtain ⟨h0, h1⟩ := rgI_mem.mp hr1
  obtain ⟨h2, h3⟩ := rgI_mem.mp hc
  split
  · exact hC r c h0 h1 h2 h3
  · decide
theorem told_grid {C : Int → Int → Int} {h w : Int} {m s : Gr} (h0 : 0 ≤ h) (h1 : 0 ≤ w) : Grid h w (toldG C h w m s) := grid_mk (fun r c => if cel s r c ≠ 0 ∧ cel m r c = 0 then C r c else 9) h0 h1
theorem fitsM_congr {C C' : Int → Int → Int} {h w : Int} {t m : Gr} (hC : ∀ r c, 0 ≤ r → r < h → 0 ≤ c → c < w → C r c = C' r c) : fitsM C h w t m = fitsM C' h w t m := by
  rw [Bool.eq_iff_iff]
  unfold fitsM
  simp only [List.all_eq_true]
  have e : ∀ r ∈ rgI 0 h, ∀ c ∈ rgI 0 w, okc C t m r c = okc C' t m r c := fun r hr c hc => by
    obtain ⟨h0, h1⟩ := rgI_mem.mp hr
    obtain ⟨h2, h3⟩ := rgI_mem.mp hc
    unfold okc
    rw [hC r c h0 h1 h2 h3]
  exact ⟨fun q r hr c hc => by rw [← e r hr c hc]; exact q r hr c hc, fun q r hr c hc => by rw [e r hr c hc]; exact q r hr c hc⟩
theorem cntIn_law {h w : Int} {m : Gr} : cntIn h w m = (rgI 0 h).map fun r => (rgI 0 w).map fun c => lawCnt h w m r c := by
  unfold cntIn cntRow
  refine List.map_congr_left fun r hr => List.map_congr_left fun c hc => ?_
  obtain ⟨h0, h1⟩ := rgI_mem.mp hr
  obtain ⟨h2, h3⟩ := rgI_mem.mp hc
  exact cnt_law h0 h1 h2 h3
theorem toldG_law {h w : Int} {m s : Gr} : toldG (cnt h w m) h w m s = toldG (lawCnt h w m) h w m s := by
  unfold toldG toldR
  refine List.map_congr_left fun r hr => List.map_congr_left fun c hc => ?_
  obtain ⟨h0, h1⟩ := rgI_mem.mp hr
  obtain ⟨h2, h3⟩ := rgI_mem.mp hc
  rw [cnt_law h0 h1 h2 h3]
theorem numds_of {ds : List D} (h : ∀ d ∈ ds, numd d = true) : numds ds = true := by
  induction ds with
  | nil => rfl
  | cons d ds ih => unfold numds; rw [h d List.mem_cons_self, ih fun x hx => h x (List.mem_cons_of_mem _ hx)]; rfl
theorem smalls_of {ds : List D} (h : ∀ d ∈ ds, small d = true) : smalls ds = true := by
  induction ds with
  | nil => rfl
  | cons d ds ih => unfold smalls; rw [h d List.mem_cons_self, ih fun x hx => h x (List.mem_cons_of_mem _ hx)]; rfl
theorem deeps_of {ds : List D} {n : Nat} (h : ∀ d ∈ ds, deep d ≤ n) : deeps ds ≤ n := by
  induction ds with
  | nil => exact Nat.zero_le _
  | cons d ds ih =>
    unfold deeps
    have h1 := h d List.mem_cons_self
    have h2 := ih fun x hx => h x (List.mem_cons_of_mem _ hx)
    omega
theorem okds_of {ds : List D} (h : ∀ d ∈ ds, okd d = true) : okds ds = true := by
  induction ds with
  | nil => rfl
  | cons d ds ih => unfold okds; rw [h d List.mem_cons_self, ih fun x hx => h x (List.mem_cons_of_mem _ hx)]; rfl
theorem numd_row (r : List Int) : numd (rowD r) = true := by
  unfold rowD numd
  refine numds_of fun d hd => ?_
  obtain ⟨x, _, rfl⟩ := List.mem_map.mp hd; rfl
theorem numd_grid (m : Gr) : numd (gridD m) = true := by
  unfold gridD numd
  refine numds_of fun d hd => ?_
  obtain ⟨x, _, rfl⟩ := List.mem_map.mp hd; exact numd_row x
theorem small_row {r : List Int} (h : r.length ≤ 1000000) : small (rowD r) = true := by
  unfold rowD small
  rw [List.length_map, decide_eq_true h, Bool.true_and]
  refine smalls_of fun d hd => ?_
  obtain ⟨x, _, rfl⟩ := List.mem_map.mp hd; rfl
theorem small_grid {h w : Int} {m : Gr} (g : Grid h w m) (hh : h ≤ 1000) (hw : w ≤ 1000) : small (gridD m) = true := by
  unfold gridD small
  have := g.len
  rw [List.length_map, decide_eq_true (by omega), Bool.true_and]
  refine smalls_of fun d hd => ?_
  obtain ⟨x, hx, rfl⟩ := List.mem_map.mp hd
  have := g.row x hx
  exact small_row (by omega)
theorem deep_row (r : List Int) : deep (rowD r) ≤ 1 := by
  unfold rowD deep
  have : deeps (r.map D.int) ≤ 0 := deeps_of fun d hd => by
    obtain ⟨x, _, rfl⟩ := List.mem_map.mp hd
    exact Nat.le_refl _
  omega
theorem deep_grid (m : Gr) : deep (gridD m) ≤ 2 := by
  unfold gridD deep
  have : deeps (m.map rowD) ≤ 1 := deeps_of fun d hd => by
    obtain ⟨x, _, rfl⟩ := List.mem_map.mp hd
    exact deep_row x
  omega
/-- a list of two grids -/
theorem two_grids {h w : Int} {m s : Gr} (gm : Grid h w m) (gs : Grid h w s) (hh : h ≤ 1000) (hw : w ≤ 1000) : numd (.lst [gridD m, gridD s]) = true ∧ small (.lst [gridD m, gridD s]) = true ∧ deep (.lst [gridD m, gridD s]) < 6 := by
  refine ⟨?_, ?_, ?_⟩
  · unfold numd
    exact numds_of fun d hd => by
      simp only [List.mem_cons, List.not_mem_nil, or_false] at hd
      rcases hd with rfl | rfl <;> exact numd_grid _
  · unfold small
    rw [show decide ([gridD m, gridD s].length ≤ 1000000) = true from rfl, Bool.true_and]
    exact smalls_of fun d hd => by
      simp only [List.mem_cons, List.not_mem_nil, or_false] at hd
      rcases hd with rfl | rfl
      · exact small_grid gm hh hw
      · exact small_grid gs hh hw
  · unfold deep
    have : deeps [gridD m, gridD s] ≤ 2 := deeps_of fun d hd => by
      simp only [List.mem_cons, List.not_mem_nil, or_false] at hd
      rcases hd with rfl | rfl <;> exact deep_grid _
    omega
/-- a row that may stand in a paper: short, no address within -/
def rowOk (d : D) : Prop := okd d = true ∧ ∀ ss, d = .tup ss → ss.length ≤ 1000
theorem rowOk_row {r : List Int} (h : r.length ≤ 1000) : rowOk (rowD r) := ⟨okd_row r, fun ss e => by unfold rowD at e; cases e; rw [List.length_map]; exact h⟩
theorem sized_of {ds : List D} (hl : ds.length ≤ 1000000) (h : ∀ d ∈ ds, rowOk d) : okd (.tup ds) = true ∧ sized (.tup ds) := by
  refine ⟨by unfold okd; exact okds_of fun d hd => (h d hd).1, fun es e => ?_⟩
  cases e
  exact ⟨hl, fun r hr ss e => Nat.le_trans ((h r hr).2 ss e) (by decide)⟩
theorem cutD_mem {xs : List D} {lo hi : Option Int} {d : D} (h : d ∈ cutD xs lo hi) : d ∈ xs := List.mem_of_mem_drop (List.mem_of_mem_take h)
theorem rowOk_tup {ds : List D} (h : ∀ d ∈ ds, okd d = true) (hl : ds.length ≤ 1000) : rowOk (.tup ds) := ⟨by unfold okd; exact okds_of h, fun ss e => by cases e; exact hl⟩
theorem rowOk_lst {ds : List D} (h : ∀ d ∈ ds, okd d = true) : rowOk (.lst ds) := ⟨by unfold okd; exact okds_of h, fun ss e => by cases e⟩
theorem ok_app {p : D → Prop} {xs ys : List D} (h : ∀ d ∈ xs, p d) (g : ∀ d ∈ ys, p d) : ∀ d ∈ xs ++ ys, p d := fun d m => (List.mem_append.mp m).elim (h d) (g d)
theorem ok_cut {p : D → Prop} {xs : List D} {lo hi : Option Int} (h : ∀ d ∈ xs, p d) : ∀ d ∈ cutD xs lo hi, p d := fun d m => h d (cutD_mem m)
theorem ok_nil {p : D → Prop} : ∀ d ∈ ([] : List D), p d := fun d m => by cases m
theorem ok_cons {p : D → Prop} {x : D} {xs : List D} (h : p x) (g : ∀ d ∈ xs, p d) : ∀ d ∈ x :: xs, p d := fun d m => by
  rcases List.mem_cons.mp m with rfl | m
  · exact h
  · exact g d m
/-- what may stand for a paper -/
def paper (d : D) : Prop := okd d = true ∧ sized d
theorem paper_tup {ds : List D} (hl : ds.length ≤ 1000) (h : ∀ d ∈ ds, rowOk d) : paper (.tup ds) := sized_of (by omega) h
theorem paper_lst {ds : List D} (h : ∀ d ∈ ds, rowOk d) : paper (.lst ds) := ⟨by unfold okd; exact okds_of fun d hd => (h d hd).1, fun _ e => by cases e⟩
theorem rowsOk {h w : Int} {m : Gr} (g : Grid h w m) (hw : w ≤ 1000) : ∀ d ∈ m.map rowD, rowOk d := fun d hd => by
  obtain ⟨x, hx, rfl⟩ := List.mem_map.mp hd
  have := g.row x hx
  exact rowOk_row (by omega)
end K76

namespace K76
open PySem PySem.Spec L2 DL
open PyProof.Rows hiding St
section
variable {P : Program} {w : World} {K : PySem.W.Frag} {mg : Str → Option Value} {base : Heap}
def afLawTold : AF := fun ρ k => ∃ a b h w m s, ρ = [cupS a b, .im (.int h), .im (.int w), .im (gridD m), .im (.int s)] ∧ (1 ≤ h ∧ h ≤ 30 ∧ 1 ≤ w ∧ w ≤ 30) ∧ Grid h w m ∧ Within 1 m ∧ ∀ t a' b', Grid h w t → Within 9 t → k (gridD t) [cupS a' b', .im (.int h), .im (.int w), .im (gridD m), .im (.int s)]
theorem ok_law_told (Bn : Bt mg) (h : Here K mg "_law_told" sLawTold ["cup", "high", "wide", "marks", "share"]) (d_law_roll : Df P w K mg base 1 "_law_roll" afRoll) (d_law_count : Df P w K mg base 1 "_law_count" afLawCount) : Df P w K mg base 2 "_law_told" afLawTold := by
  refine df_ok h scLawTold [.un, .un, .un, .un, .un] (fun ρ kk h => by obtain ⟨_, _, _, _, _, _, rfl, _⟩ := h; rfl) (fun f cdv A outer s H E hr => ⟨_, _, _, (gss_nest (R := 5) (L := 7) (r := 6) (c := 8) PassesOwn.never rfl (gs_setO (W := W0) (i := 5) scLawTold.nd (gl_lst ga_nil)).ps (gi_rg1 Bn (ga_cons (gv 1) ga_nil)) (gg_name scLawTold.nd (i := 6))
      (gs_setO (i := 7) scLawTold.nd (gl_lst ga_nil))
      (gs_for PassesOwn.never rfl (gi_rg1 Bn (ga_cons (gv 2) ga_nil)) (gg_name scLawTold.nd (i := 8))
      (gss_cons (gs_set (i := 9) scLawTold.nd (ge_and (ge_eq (K := K) hr.units (ge_ixK (K := K) (ge_ixK (K := K) (gv 3) (gv 6)) (gv 8)) ge_int (nomark _)) (ge_one (ge_cmp op_lt lk_lt (ge_dfK d_law_roll hr (ga_cons (gv 0) (ga_cons ge_int ga_nil))) (gv 4) (nomark _)))))
      (gss_one (gs_expr (ge_appK (K := K) 7 (ge_if (gt_truthK (K := K) (gv 9)) (ge_dfK d_law_count hr (ga_cons (gv 1) (ga_cons (gv 2) (ga_cons (gv 3) (ga_cons (ge_tup (ga_cons (gv 6) (ga_cons (gv 8) ga_nil))) ga_nil))))) ge_int))))))
      (gs_expr (W := W0) (ge_appK (K := K) 5 (gv 7))).ps
      (gt_eq (K := K) hr.units (ge_dfK d_law_roll hr (ga_cons (gv 0) (ga_cons ge_int ga_nil))) ge_int (nomark _))
      (gs_par (i := 6) (j := 8) rfl scLawTold.nd (GE.m (ge_dfK d_law_roll hr (ga_cons (gv 0) (ga_cons (gv 1) ga_nil)))) (GE.m (ge_dfK d_law_roll hr (ga_cons (gv 0) (ga_cons (gv 2) ga_nil)))))
      (ge_dfK d_law_roll hr (ga_cons (gv 0) (ga_cons ge_int ga_nil)))
      (pg_sub (GE.pe (ge_ixK (K := K) (gv 5) (gv 6))) (GE.pe (gv 8)) set_list)
      (gs_ret (ge_tupleK (K := K) Bn (ga_cons (GL.e (gl_lc rfl scLawTold.nd (blkOk_by (own := [("line", 7)]) (by kernel_rfl)) (gi_seqK (K := K) (gv 5)) (fun _ _ _ _ _ => (gg_name scLawTold.nd (i := 7))) (fun _ _ _ _ _ => gts_nil) (fun _ _ _ _ _ => (ge_tupleK (K := K) Bn (ga_cons (gv 7) ga_nil))))) ga_nil)))), fun ρ kk h => ?_⟩)
  obtain ⟨a, b, hi, wi, m, sh, rfl, hb, gm, am, hk⟩ := h
  refine ⟨rfl, ?_⟩
  have fin : ∀ (t : Gr) (a' b' : Int) (s6 s8 s9 : SV), Grid hi wi t → Within 9 t → aRet (aCB fTuple (aCons (aOfL (aLc (aISeq (aVar 5)) (aName 7) aYes (aCB fTuple (aCons (aVar 7) aNil)) [7])) aNil)) { nx := fun ρ' => still [cupS a b, .im (.int hi), .im (.int wi), .im (gridD m), .im (.int sh)] ρ' = true ∧ kk .non (retA [cupS a b, .im (.int hi), .im (.int wi), .im (gridD m), .im (.int sh)] ρ'), rt := fun d ρ' => still [cupS a b, .im (.int hi), .im (.int wi), .im (gridD m), .im (.int sh)] ρ' = true ∧ kk d (retA [cupS a b, .im (.int hi), .im (.int wi), .im (gridD m), .im (.int sh)] ρ') } [cupS a' b', .im (.int hi), .im (.int wi), .im (gridD m), .im (.int sh), .im (.lst ((t.map fun r => r.map D.int).map .lst)), s6, .un, s8, s9] := fun t a' b' s6 s8 s9 gt wt => by
    try dsimp only [fAll, fSum, aRet, aRetN, aAndV, aOrV, aNotV, aIsi, aVar, aC, aChain, aOp, aUn, aTest, aTru, truD, aAnd, aOr, aNot, aIf, aCons, aNil, aTup, aLst, imAll, aCB, resAll, res, aCall, bok, isOw, bos, svOf, back, aNext, aSeq, aIfS, aAsg, aAsgO, aName, aGTup, aGCons, aGNil, aDrop, aFrz, frz, aOfL, fI0, fI, fNeg, fPlus, fLen, fTuple, fInt, fAbs, fMax2, fMin2, fIsN, fNotN, fIsB, fNotB, isNonD, isT, aApp, aAug, aPop, aSetI, aPar, aPar3, aMIm, aMFr, svM, aList, aSl, aPart, aNoPart, aISeq, aRg1, aRg2, aYes, wipeA, mrg, noOw, still, retA, Option.map, List.map, List.getElem?_cons_zero, List.getElem?_cons_succ, List.set_cons_zero, List.set_cons_succ, List.cons_append, List.nil_append, List.replicate, List.length_cons, List.length_nil, Bool.not_true, Bool.not_false, Bool.and_true, Bool.true_and, aZipTwo, aZip3]
    refine aLc_mapM t (fun r => .lst (r.map D.int)) rowD (fun k' hk' => by rw [← show (t.map fun r => r.map D.int).map D.lst = t.map fun r => D.lst (r.map D.int) from List.map_map] at hk'; exact hk') rfl (by have := gt.len; omega) (fun r hr Wy hW => ?_) ?_
    · try dsimp only [fAll, fSum, aRet, aRetN, aAndV, aOrV, aNotV, aIsi, aVar, aC, aChain, aOp, aUn, aTest, aTru, truD, aAnd, aOr, aNot, aIf, aCons, aNil, aTup, aLst, imAll, aCB, resAll, res, aCall, bok, isOw, bos, svOf, back, aNext, aSeq, aIfS, aAsg, aAsgO, aName, aGTup, aGCons, aGNil, aDrop, aFrz, frz, aOfL, fI0, fI, fNeg, fPlus, fLen, fTuple, fInt, fAbs, fMax2, fMin2, fIsN, fNotN, fIsB, fNotB, isNonD, isT, aApp, aAug, aPop, aSetI, aPar, aPar3, aMIm, aMFr, svM, aList, aSl, aPart, aNoPart, aISeq, aRg1, aRg2, aYes, wipeA, mrg, noOw, still, retA, Option.map, List.map, List.getElem?_cons_zero, List.getElem?_cons_succ, List.set_cons_zero, List.set_cons_succ, List.cons_append, List.nil_append, List.replicate, List.length_cons, List.length_nil, Bool.not_true, Bool.not_false, Bool.and_true, Bool.true_and, aZipTwo, aZip3]
      exact ⟨_, rfl, hW⟩
    · try dsimp only [fAll, fSum, aRet, aRetN, aAndV, aOrV, aNotV, aIsi, aVar, aC, aChain, aOp, aUn, aTest, aTru, truD, aAnd, aOr, aNot, aIf, aCons, aNil, aTup, aLst, imAll, aCB, resAll, res, aCall, bok, isOw, bos, svOf, back, aNext, aSeq, aIfS, aAsg, aAsgO, aName, aGTup, aGCons, aGNil, aDrop, aFrz, frz, aOfL, fI0, fI, fNeg, fPlus, fLen, fTuple, fInt, fAbs, fMax2, fMin2, fIsN, fNotN, fIsB, fNotB, isNonD, isT, aApp, aAug, aPop, aSetI, aPar, aPar3, aMIm, aMFr, svM, aList, aSl, aPart, aNoPart, aISeq, aRg1, aRg2, aYes, wipeA, mrg, noOw, still, retA, Option.map, List.map, List.getElem?_cons_zero, List.getElem?_cons_succ, List.set_cons_zero, List.set_cons_succ, List.cons_append, List.nil_append, List.replicate, List.length_cons, List.length_nil, Bool.not_true, Bool.not_false, Bool.and_true, Bool.true_and, aZipTwo, aZip3]
      exact ⟨rfl, hk t a' b' gt wt⟩
  refine ⟨Nat.le_of_ble_eq_true rfl, rfl, ?_⟩
  try dsimp only [fAll, fSum, aRet, aRetN, aAndV, aOrV, aNotV, aIsi, aVar, aC, aChain, aOp, aUn, aTest, aTru, truD, aAnd, aOr, aNot, aIf, aCons, aNil, aTup, aLst, imAll, aCB, resAll, res, aCall, bok, isOw, bos, svOf, back, aNext, aSeq, aIfS, aAsg, aAsgO, aName, aGTup, aGCons, aGNil, aDrop, aFrz, frz, aOfL, fI0, fI, fNeg, fPlus, fLen, fTuple, fInt, fAbs, fMax2, fMin2, fIsN, fNotN, fIsB, fNotB, isNonD, isT, aApp, aAug, aPop, aSetI, aPar, aPar3, aMIm, aMFr, svM, aList, aSl, aPart, aNoPart, aISeq, aRg1, aRg2, aYes, wipeA, mrg, noOw, still, retA, Option.map, List.map, List.getElem?_cons_zero, List.getElem?_cons_succ, List.set_cons_zero, List.set_cons_succ, List.cons_append, List.nil_append, List.replicate, List.length_cons, List.length_nil, Bool.not_true, Bool.not_false, Bool.and_true, Bool.true_and, aZipTwo, aZip3]
  rw [rng_rgI0]
  refine ⟨by omega, fun i g ρ' => ∃ a b s6 s8 s9 t, ρ' = [cupS a b, .im (.int hi), .im (.int wi), .im (gridD m), .im (.int sh), .un, s6, .un, s8, s9] ∧ g = t.map (fun r => r.map D.int) ∧ t.length = i ∧ (∀ r ∈ t, (r.length : Int) = wi) ∧ Within 9 t, ⟨a, b, .un, .un, .un, [], rfl, rfl, rfl, fun _ h => absurd h List.not_mem_nil, fun _ h => absurd h List.not_mem_nil⟩, ?_, ?_⟩
  · rintro i d g ρ' hd ⟨a, b, s6, s8, s9, t, rfl, rfl, rfl, ht, wt⟩
    have hti := get_lt hd
    rw [List.length_map, rgI_len] at hti
    obtain ⟨r, hr, rfl⟩ := List.mem_map.mp (List.mem_of_getElem? hd)
    obtain ⟨r0, r1⟩ := rgI_mem.mp hr
    clear hd hr
    try dsimp only [fAll, fSum, aRet, aRetN, aAndV, aOrV, aNotV, aIsi, aVar, aC, aChain, aOp, aUn, aTest, aTru, truD, aAnd, aOr, aNot, aIf, aCons, aNil, aTup, aLst, imAll, aCB, resAll, res, aCall, bok, isOw, bos, svOf, back, aNext, aSeq, aIfS, aAsg, aAsgO, aName, aGTup, aGCons, aGNil, aDrop, aFrz, frz, aOfL, fI0, fI, fNeg, fPlus, fLen, fTuple, fInt, fAbs, fMax2, fMin2, fIsN, fNotN, fIsB, fNotB, isNonD, isT, aApp, aAug, aPop, aSetI, aPar, aPar3, aMIm, aMFr, svM, aList, aSl, aPart, aNoPart, aISeq, aRg1, aRg2, aYes, wipeA, mrg, noOw, still, retA, Option.map, List.map, List.getElem?_cons_zero, List.getElem?_cons_succ, List.set_cons_zero, List.set_cons_succ, List.cons_append, List.nil_append, List.replicate, List.length_cons, List.length_nil, Bool.not_true, Bool.not_false, Bool.and_true, Bool.true_and, aZipTwo, aZip3]
    refine ⟨by decide, ?_⟩
    refine aFor_map (rgI 0 wi) D.int (fun pre ρ' => ∃ a b s8 s9 l, ρ' = [cupS a b, .im (.int hi), .im (.int wi), .im (gridD m), .im (.int sh), .un, .im (.int r), .ow (.ol (l.map D.int)), s8, s9] ∧ l.length = pre.length ∧ ∀ x ∈ l, 0 ≤ x ∧ x ≤ 9) (fun k' hk' => ?_) ⟨a, b, _, _, [], rfl, rfl, fun _ h => absurd h List.not_mem_nil⟩ (fun pre c post ρ' hx hI N hN => ?_) ?_
    · try dsimp only [fAll, fSum, aRet, aRetN, aAndV, aOrV, aNotV, aIsi, aVar, aC, aChain, aOp, aUn, aTest, aTru, truD, aAnd, aOr, aNot, aIf, aCons, aNil, aTup, aLst, imAll, aCB, resAll, res, aCall, bok, isOw, bos, svOf, back, aNext, aSeq, aIfS, aAsg, aAsgO, aName, aGTup, aGCons, aGNil, aDrop, aFrz, frz, aOfL, fI0, fI, fNeg, fPlus, fLen, fTuple, fInt, fAbs, fMax2, fMin2, fIsN, fNotN, fIsB, fNotB, isNonD, isT, aApp, aAug, aPop, aSetI, aPar, aPar3, aMIm, aMFr, svM, aList, aSl, aPart, aNoPart, aISeq, aRg1, aRg2, aYes, wipeA, mrg, noOw, still, retA, Option.map, List.map, List.getElem?_cons_zero, List.getElem?_cons_succ, List.set_cons_zero, List.set_cons_succ, List.cons_append, List.nil_append, List.replicate, List.length_cons, List.length_nil, Bool.not_true, Bool.not_false, Bool.and_true, Bool.true_and, aZipTwo, aZip3]
      rw [rng_rgI0]
      exact ⟨by omega, hk'⟩
    · obtain ⟨a, b, s8, s9, l, rfl, hl, hw⟩ := hI
      obtain ⟨_, _, c0, c1⟩ := rgI_pre hx
      have h5 := congrArg List.length hx
      rw [rgI_len, List.length_append, List.length_cons] at h5
      have lb := law_bound (h := hi) (w := wi) (r := r) (c := c) am
      have go : ∀ (v : Int) (a b : Int) (s9 : SV), 0 ≤ v → v ≤ 9 → N [cupS a b, .im (.int hi), .im (.int wi), .im (gridD m), .im (.int sh), .un, .im (.int r), .ow (.ol (l.map D.int ++ [.int v])), .im (.int c), s9] := fun v a b s9 v0 v9 => hN _ ⟨a, b, _, s9, l ++ [v], by rw [List.map_append]; rfl, by rw [List.length_append, List.length_append, hl]; rfl, all_app hw ⟨v0, v9⟩⟩
      refine aSeq_cut (fun ρ' => ∃ a b k, ρ' = [cupS a b, .im (.int hi), .im (.int wi), .im (gridD m), .im (.int sh), .un, .im (.int r), .ow (.ol (l.map D.int)), .im (.int c), .im (.bl k)]) (fun N hN => ?_) (fun ρ' h => ?_)
      · unfold gridD at hN ⊢
        try dsimp only [fAll, fSum, aRet, aRetN, aAndV, aOrV, aNotV, aIsi, aVar, aC, aChain, aOp, aUn, aTest, aTru, truD, aAnd, aOr, aNot, aIf, aCons, aNil, aTup, aLst, imAll, aCB, resAll, res, aCall, bok, isOw, bos, svOf, back, aNext, aSeq, aIfS, aAsg, aAsgO, aName, aGTup, aGCons, aGNil, aDrop, aFrz, frz, aOfL, fI0, fI, fNeg, fPlus, fLen, fTuple, fInt, fAbs, fMax2, fMin2, fIsN, fNotN, fIsB, fNotB, isNonD, isT, aApp, aAug, aPop, aSetI, aPar, aPar3, aMIm, aMFr, svM, aList, aSl, aPart, aNoPart, aISeq, aRg1, aRg2, aYes, wipeA, mrg, noOw, still, retA, Option.map, List.map, List.getElem?_cons_zero, List.getElem?_cons_succ, List.set_cons_zero, List.set_cons_succ, List.cons_append, List.nil_append, List.replicate, List.length_cons, List.length_nil, Bool.not_true, Bool.not_false, Bool.and_true, Bool.true_and, aZipTwo, aZip3]
        refine ⟨_, gm.ix r0 r1, ?_⟩
        try dsimp only [fAll, fSum, aRet, aRetN, aAndV, aOrV, aNotV, aIsi, aVar, aC, aChain, aOp, aUn, aTest, aTru, truD, aAnd, aOr, aNot, aIf, aCons, aNil, aTup, aLst, imAll, aCB, resAll, res, aCall, bok, isOw, bos, svOf, back, aNext, aSeq, aIfS, aAsg, aAsgO, aName, aGTup, aGCons, aGNil, aDrop, aFrz, frz, aOfL, fI0, fI, fNeg, fPlus, fLen, fTuple, fInt, fAbs, fMax2, fMin2, fIsN, fNotN, fIsB, fNotB, isNonD, isT, aApp, aAug, aPop, aSetI, aPar, aPar3, aMIm, aMFr, svM, aList, aSl, aPart, aNoPart, aISeq, aRg1, aRg2, aYes, wipeA, mrg, noOw, still, retA, Option.map, List.map, List.getElem?_cons_zero, List.getElem?_cons_succ, List.set_cons_zero, List.set_cons_succ, List.cons_append, List.nil_append, List.replicate, List.length_cons, List.length_nil, Bool.not_true, Bool.not_false, Bool.and_true, Bool.true_and, aZipTwo, aZip3]
        refine ⟨_, gm.jx r0 r1 c0 c1, rfl, rfl, ?_⟩
        cases eqv (.int (cel m r c)) (.int 0) with
        | false => exact hN _ ⟨a, b, false, rfl⟩
        | true =>
          refine ⟨rfl, a, b, 8, rfl, ⟨by decide, by decide⟩, fun v a b v0 v1 => ?_⟩
          exact hN _ ⟨a, b, _, rfl⟩
      · obtain ⟨a, b, k, rfl⟩ := h
        try dsimp only [fAll, fSum, aRet, aRetN, aAndV, aOrV, aNotV, aIsi, aVar, aC, aChain, aOp, aUn, aTest, aTru, truD, aAnd, aOr, aNot, aIf, aCons, aNil, aTup, aLst, imAll, aCB, resAll, res, aCall, bok, isOw, bos, svOf, back, aNext, aSeq, aIfS, aAsg, aAsgO, aName, aGTup, aGCons, aGNil, aDrop, aFrz, frz, aOfL, fI0, fI, fNeg, fPlus, fLen, fTuple, fInt, fAbs, fMax2, fMin2, fIsN, fNotN, fIsB, fNotB, isNonD, isT, aApp, aAug, aPop, aSetI, aPar, aPar3, aMIm, aMFr, svM, aList, aSl, aPart, aNoPart, aISeq, aRg1, aRg2, aYes, wipeA, mrg, noOw, still, retA, Option.map, List.map, List.getElem?_cons_zero, List.getElem?_cons_succ, List.set_cons_zero, List.set_cons_succ, List.cons_append, List.nil_append, List.replicate, List.length_cons, List.length_nil, Bool.not_true, Bool.not_false, Bool.and_true, Bool.true_and, aZipTwo, aZip3]
        cases k with
        | false =>
          refine ⟨rfl, ?_, go 9 a b _ (by decide) (by decide)⟩
          rw [List.length_map]; omega
        | true =>
          refine ⟨rfl, by decide, rfl, hi, wi, m, r, c, rfl, hb, gm, ?_, go _ a b _ lb.1 lb.2⟩
          rw [List.length_map]; omega
    · rintro ρ' ⟨a, b, s8, s9, l, rfl, hl, hw⟩
      rw [rgI_len] at hl
      refine ⟨by rw [List.length_map]; omega, l.map D.int, rfl, a, b, .im (.int r), s8, s9, t ++ [l], rfl, by rw [List.map_append]; rfl, by rw [List.length_append]; rfl, all_app ht (by omega), all_app wt hw⟩
  · rintro g ρ' ⟨a, b, s6, s8, s9, t, rfl, rfl, hl, ht, wt⟩
    rw [List.length_map, rgI_len] at hl
    have gt : Grid hi wi t := ⟨by omega, ht⟩
    try dsimp only [fAll, fSum, aRet, aRetN, aAndV, aOrV, aNotV, aIsi, aVar, aC, aChain, aOp, aUn, aTest, aTru, truD, aAnd, aOr, aNot, aIf, aCons, aNil, aTup, aLst, imAll, aCB, resAll, res, aCall, bok, isOw, bos, svOf, back, aNext, aSeq, aIfS, aAsg, aAsgO, aName, aGTup, aGCons, aGNil, aDrop, aFrz, frz, aOfL, fI0, fI, fNeg, fPlus, fLen, fTuple, fInt, fAbs, fMax2, fMin2, fIsN, fNotN, fIsB, fNotB, isNonD, isT, aApp, aAug, aPop, aSetI, aPar, aPar3, aMIm, aMFr, svM, aList, aSl, aPart, aNoPart, aISeq, aRg1, aRg2, aYes, wipeA, mrg, noOw, still, retA, Option.map, List.map, List.getElem?_cons_zero, List.getElem?_cons_succ, List.set_cons_zero, List.set_cons_succ, List.cons_append, List.nil_append, List.replicate, List.length_cons, List.length_nil, Bool.not_true, Bool.not_false, Bool.and_true, Bool.true_and, aZipTwo, aZip3]
    refine ⟨rfl, a, b, 3, rfl, ⟨by decide, by decide⟩, fun v a b v0 v1 => ?_⟩
    refine ⟨rfl, rfl, ?_⟩
    cases eqv (.int v) (.int 0) with
    | false => exact fin t a b s6 s8 s9 gt wt
    | true =>
      refine ⟨rfl, a, b, hi, rfl, ⟨by omega, by omega⟩, fun r a b r0 r1 => ?_⟩
      try dsimp only [fAll, fSum, aRet, aRetN, aAndV, aOrV, aNotV, aIsi, aVar, aC, aChain, aOp, aUn, aTest, aTru, truD, aAnd, aOr, aNot, aIf, aCons, aNil, aTup, aLst, imAll, aCB, resAll, res, aCall, bok, isOw, bos, svOf, back, aNext, aSeq, aIfS, aAsg, aAsgO, aName, aGTup, aGCons, aGNil, aDrop, aFrz, frz, aOfL, fI0, fI, fNeg, fPlus, fLen, fTuple, fInt, fAbs, fMax2, fMin2, fIsN, fNotN, fIsB, fNotB, isNonD, isT, aApp, aAug, aPop, aSetI, aPar, aPar3, aMIm, aMFr, svM, aList, aSl, aPart, aNoPart, aISeq, aRg1, aRg2, aYes, wipeA, mrg, noOw, still, retA, Option.map, List.map, List.getElem?_cons_zero, List.getElem?_cons_succ, List.set_cons_zero, List.set_cons_succ, List.cons_append, List.nil_append, List.replicate, List.length_cons, List.length_nil, Bool.not_true, Bool.not_false, Bool.and_true, Bool.true_and, aZipTwo, aZip3]
      refine ⟨rfl, a, b, wi, rfl, ⟨by omega, by omega⟩, fun c a b c0 c1 => ?_⟩
      try dsimp only [fAll, fSum, aRet, aRetN, aAndV, aOrV, aNotV, aIsi, aVar, aC, aChain, aOp, aUn, aTest, aTru, truD, aAnd, aOr, aNot, aIf, aCons, aNil, aTup, aLst, imAll, aCB, resAll, res, aCall, bok, isOw, bos, svOf, back, aNext, aSeq, aIfS, aAsg, aAsgO, aName, aGTup, aGCons, aGNil, aDrop, aFrz, frz, aOfL, fI0, fI, fNeg, fPlus, fLen, fTuple, fInt, fAbs, fMax2, fMin2, fIsN, fNotN, fIsB, fNotB, isNonD, isT, aApp, aAug, aPop, aSetI, aPar, aPar3, aMIm, aMFr, svM, aList, aSl, aPart, aNoPart, aISeq, aRg1, aRg2, aYes, wipeA, mrg, noOw, still, retA, Option.map, List.map, List.getElem?_cons_zero, List.getElem?_cons_succ, List.set_cons_zero, List.set_cons_succ, List.cons_append, List.nil_append, List.replicate, List.length_cons, List.length_nil, Bool.not_true, Bool.not_false, Bool.and_true, Bool.true_and, aZipTwo, aZip3]
      refine ⟨rfl, a, b, 5, rfl, ⟨by decide, by decide⟩, fun v a b v0 v1 => ?_⟩
      obtain ⟨tm, tw⟩ := gt.at r0 r1
      have h1 : r.toNat < t.length := by omega
      have e1 : t.getD r.toNat [] = t[r.toNat] := by rw [List.getD_eq_getElem?_getD, List.getElem?_eq_getElem h1]; rfl
      refine ⟨.int v, r, c, r.toNat, c.toNat, (t.getD r.toNat []).map D.int, rfl, rfl, rfl, ?_, ?_, ?_, ?_⟩
      · unfold ixN; rw [List.length_map, if_pos r0, if_pos (by omega)]
      · rw [List.getElem?_map, List.getElem?_eq_getElem h1, e1]; rfl
      · unfold ixN; rw [List.length_map, if_pos c0, if_pos (by omega)]
      · have e2 : (t.map fun r => r.map D.int).set r.toNat (((t.getD r.toNat []).map D.int).set c.toNat (.int v)) = (t.set r.toNat ((t.getD r.toNat []).set c.toNat v)).map fun r => r.map D.int := by
          rw [List.map_set, List.map_set]
        rw [e2]
        refine fin _ a b _ _ _ ⟨by rw [List.length_set]; omega, fun q hq => ?_⟩ fun q hq => ?_
        · rcases List.mem_or_eq_of_mem_set hq with hq | rfl
          · exact ht q hq
          · rw [List.length_set]; exact tw
        · rcases List.mem_or_eq_of_mem_set hq with hq | rfl
          · exact wt q hq
          · intro x hx
            rcases List.mem_or_eq_of_mem_set hx with hx | rfl
            · exact wt _ tm x hx
            · exact ⟨v0, by omega⟩
end
end K76

namespace K76
open PySem PySem.Spec L2 DL
open PyProof.Rows hiding St
def lrow (h w : Int) (m : Gr) (r : Int) : List Int := (rgI 0 w).map fun c => lawCnt h w m r c
def lcnt (h w : Int) (m : Gr) : Gr := (rgI 0 h).map fun r => lrow h w m r
theorem lrow_D (h w : Int) (m : Gr) (r : Int) : rowD (lrow h w m r) = .tup ((rgI 0 w).map fun c => D.int (lawCnt h w m r c)) := by unfold rowD lrow; rw [List.map_map]; rfl
def so : Option D → SV
  | none => .un
  | some d => .im d
section
variable {P : Program} {w : World} {K : PySem.W.Frag} {mg : Str → Option Value} {base : Heap}
def afLaw : AF := fun ρ k => ∃ ns, ρ = [.im (.scr ns)] ∧ ns.length ≤ 999999 ∧ k (.bl true) ρ
theorem ok_law {f : Addr} {fd : FuncData} (Bn : Bt mg) (h : Fun K "law" "law" sLaw f fd) (d_law_cup : DfL P w K mg base 1 "_law_cup" afCup) (d_law_roll : Df P w K mg base 1 "_law_roll" afRoll) (d_law_some : Df P w K mg base 2 "_law_some" afSome) (d_law_marks : Df P w K mg base 2 "_law_marks" afLawMarks)
    (d_law_count : Df P w K mg base 1 "_law_count" afLawCount) (d_law_same : Df P w K mg base 6 "_law_same" (afSame 6)) (d_counts_around : Df P w K mg base 5 "counts_around" afCountsAround) (d_told_by : Df P w K mg base 5 "told_by" afToldBy) (d_fits_told : Df P w K mg base 5 "fits_told" afFitsTold)
    (d_law_fits : Df P w K mg base 2 "_law_fits" afLawFits) (d_law_told : Df P w K mg base 2 "_law_told" afLawTold) (d_law_signs : Df P w K mg base 1 "_law_signs" afLawSigns) (d_are_marks : Df P w K mg base 4 "are_marks" (afMay 1)) (d_is_told : Df P w K mg base 4 "is_told" (afMay 9)) : FnOk P w K mg base CX0 7 f fd ["script"] (SpF K afLaw) := by
  refine df_okE h scLaw [.un, .un, .un, .un, .un, .un, .un, .un, .un, .un, .un, .un, .un, .un, .un, .un, .un, .un, .un] (fun ρ kk h => by obtain ⟨_, rfl, _⟩ := h; rfl) (fun f cdv A outer s H E hr => ⟨_, _, _, (gss_cons (gs_setO (i := 1) scLaw.nd (gl_dfK d_law_cup hr (ga_cons (gv 0) ga_nil)))
      (gss_cons (gs_for PassesOwn.never rfl (gi_rg1 Bn (ga_cons ge_int ga_nil)) (gg_name scLaw.nd (i := 2))
      (gss_cons (gs_asg (ge_tup (ga_cons (ge_dfK d_law_some hr (ga_cons (gv 1) (ga_cons (GL.e (gl_lst (ga_cons ge_int (ga_cons ge_int (ga_cons ge_int (ga_cons (ge_plus (K := K) ge_int (ge_dfK d_law_roll hr (ga_cons (gv 1) (ga_cons ge_int ga_nil)))) ga_nil)))))) ga_nil))) (ga_cons (ge_dfK d_law_some hr (ga_cons (gv 1) (ga_cons (GL.e (gl_lst (ga_cons ge_int (ga_cons ge_int (ga_cons ge_int (ga_cons (ge_plus (K := K) ge_int (ge_dfK d_law_roll hr (ga_cons (gv 1) (ga_cons ge_int ga_nil)))) ga_nil)))))) ga_nil))) ga_nil))) (gg_tupK (K := K) (n := 2) rfl (ggs_cons (gg_name scLaw.nd (i := 3)) (ggs_cons (gg_name scLaw.nd (i := 4)) ggs_nil))))
      (gss_cons (gs_asg (ge_tup (ga_cons (ge_dfK d_law_marks hr (ga_cons (gv 1) (ga_cons (gv 3) (ga_cons (gv 4) (ga_cons (ge_dfK d_law_some hr (ga_cons (gv 1) (ga_cons (GL.e (gl_lst (ga_cons ge_int (ga_cons ge_int (ga_cons ge_int (ga_cons ge_int ga_nil)))))) ga_nil))) ga_nil))))) (ga_cons (ge_dfK d_law_marks hr (ga_cons (gv 1) (ga_cons (gv 3) (ga_cons (gv 4) (ga_cons ge_int ga_nil))))) ga_nil))) (gg_tupK (K := K) (n := 2) rfl (ggs_cons (gg_name scLaw.nd (i := 5)) (ggs_cons (gg_name scLaw.nd (i := 6)) ggs_nil))))
      (gss_cons (gs_setO (i := 7) scLaw.nd (gl_lst ga_nil))
      (gss_cons (gs_for PassesOwn.never rfl (gi_rg1 Bn (ga_cons (gv 3) ga_nil)) (gg_name scLaw.nd (i := 8))
      (gss_one (gs_expr (ge_appK (K := K) 7 (ge_tupleK (K := K) Bn (ga_cons (GL.e (gl_lc rfl scLaw.nd (blkOk_by (own := [("column", 9)]) (by kernel_rfl)) (gi_rg1 Bn (ga_cons (gv 4) ga_nil)) (fun _ _ _ _ _ => (gg_name scLaw.nd (i := 9))) (fun _ _ _ _ _ => gts_nil) (fun _ _ _ _ _ => (ge_dfK d_law_count hr (ga_cons (gv 3) (ga_cons (gv 4) (ga_cons (gv 5) (ga_cons (ge_tup (ga_cons (gv 8) (ga_cons (gv 9) ga_nil))) ga_nil)))))))) ga_nil))))))
      (gss_cons (gs_setO (i := 10) scLaw.nd (gl_lst ga_nil))
      (gss_cons (gs_for PassesOwn.never rfl (gi_rg1 Bn (ga_cons (gv 3) ga_nil)) (gg_name scLaw.nd (i := 8))
      (gss_cons (gs_set (i := 11) scLaw.nd (GL.e (gl_lc rfl scLaw.nd (blkOk_by (own := [("at", 12)]) (by kernel_rfl)) (gi_rg1 Bn (ga_cons (gv 4) ga_nil)) (fun _ _ _ _ _ => (gg_name scLaw.nd (i := 12))) (fun _ _ _ _ _ => gts_nil) (fun _ _ _ _ _ => (ge_if (GW.gt (gw_and (gt_eq (K := K) hr.units (ge_ixK (K := K) (ge_ixK (K := K) (gv 6) (gv 8)) (gv 12)) ge_int (nomark _)) (gw_and1 (gt_eq (K := K) hr.units (ge_ixK (K := K) (ge_ixK (K := K) (gv 5) (gv 8)) (gv 12)) ge_int (nomark _))))) (ge_ixK (K := K) (ge_ixK (K := K) (gv 7) (gv 8)) (gv 12)) ge_int)))))
      (gss_one (gs_expr (ge_appK (K := K) 10 (ge_tupleK (K := K) Bn (ga_cons (gv 11) ga_nil)))))))
      (gss_cons (gs_set (i := 13) scLaw.nd (GL.e (gl_lst (ga_cons (ge_dfK d_counts_around hr (ga_cons (gv 3) (ga_cons (gv 4) (ga_cons (gv 5) ga_nil)))) (ga_cons (ge_dfK d_told_by hr (ga_cons (gv 3) (ga_cons (gv 4) (ga_cons (gv 5) (ga_cons (gv 6) ga_nil))))) ga_nil)))))
      (gss_cons (gs_if (GW.gt (gw_or (gt_not (gt_truthK (K := K) (ge_dfK d_law_same hr (ga_cons (gv 13) (ga_cons (GL.e (gl_lst (ga_cons (ge_tupleK (K := K) Bn (ga_cons (gv 7) ga_nil)) (ga_cons (ge_tupleK (K := K) Bn (ga_cons (gv 10) ga_nil)) ga_nil)))) ga_nil))))) (gw_or1 (gt_cmp op_notBl lk_notB (ge_dfK d_fits_told hr (ga_cons (gv 3) (ga_cons (gv 4) (ga_cons (ge_tupleK (K := K) Bn (ga_cons (gv 10) ga_nil)) (ga_cons (gv 5) ga_nil))))) ge_bl (nomark _))))) (gss_one (gs_ret ge_bl)) gss_nil)
      (gss_cons (gs_set (i := 14) scLaw.nd (ge_dfK d_law_told hr (ga_cons (gv 1) (ga_cons (gv 3) (ga_cons (gv 4) (ga_cons (gv 5) (ga_cons ge_int ga_nil)))))))
      (gss_cons (gs_if (gt_not (gt_truthK (K := K) (ge_dfK d_law_same hr (ga_cons (ge_dfK d_fits_told hr (ga_cons (gv 3) (ga_cons (gv 4) (ga_cons (gv 14) (ga_cons (gv 5) ga_nil))))) (ga_cons (ge_dfK d_law_fits hr (ga_cons (gv 3) (ga_cons (gv 4) (ga_cons (gv 14) (ga_cons (gv 5) ga_nil))))) ga_nil))))) (gss_one (gs_ret ge_bl)) gss_nil)
      (gss_cons (gs_asg (ge_tup (ga_cons (ge_dfK d_law_roll hr (ga_cons (gv 1) (ga_cons (gv 3) ga_nil))) (ga_cons (ge_dfK d_law_roll hr (ga_cons (gv 1) (ga_cons (gv 4) ga_nil))) ga_nil))) (gg_tupK (K := K) (n := 2) rfl (ggs_cons (gg_name scLaw.nd (i := 8)) (ggs_cons (gg_name scLaw.nd (i := 12)) ggs_nil))))
      (gss_cons (gs_set (i := 11) scLaw.nd (ge_ixK (K := K) (gv 5) (gv 8)))
      (gss_cons (gs_set (i := 15) scLaw.nd (GL.e (gl_lst (ga_cons (ge_slK (K := K) (gv 11) (go_some ge_int) go_none) (ga_cons (ge_plus (K := K) (gv 11) (ge_tup (ga_cons ge_int ga_nil))) (ga_cons (GL.e (gl_listK (K := K) Bn.list (ga_cons (gv 11) ga_nil))) (ga_cons ge_non (ga_cons (ge_tup ga_nil) (ga_cons ge_int (ga_cons ge_str ga_nil))))))))))
      (gss_cons (gs_set (i := 15) scLaw.nd (ge_plus (K := K) (gv 15) (GL.e (gl_lc rfl scLaw.nd (blkOk_by (own := [("one", 16)]) (by kernel_rfl)) (gi_seqK (K := K) (ge_tup (ga_cons ge_int (ga_cons ge_int (ga_cons ge_int (ga_cons (ge_un un_neg lk_neg ge_int) (ga_cons ge_bl (ga_cons ge_non (ga_cons ge_str ga_nil))))))))) (fun _ _ _ _ _ => (gg_name scLaw.nd (i := 16))) (fun _ _ _ _ _ => gts_nil) (fun _ _ _ _ _ => (ge_plus (K := K) (ge_plus (K := K) (ge_slK (K := K) (gv 11) go_none (go_some (gv 12))) (ge_tup (ga_cons (gv 16) ga_nil))) (ge_slK (K := K) (gv 11) (go_some (ge_plus (K := K) (gv 12) ge_int)) go_none)))))))
      (gss_cons (gs_set (i := 17) scLaw.nd (GL.e (gl_lst (ga_cons (gv 5) (ga_cons (gv 14) (ga_cons (ge_slK (K := K) (gv 5) (go_some ge_int) go_none) (ga_cons (ge_plus (K := K) (gv 5) (ge_slK (K := K) (gv 5) go_none (go_some ge_int))) (ga_cons (GL.e (gl_listK (K := K) Bn.list (ga_cons (gv 5) ga_nil))) (ga_cons ge_non (ga_cons (ge_tup ga_nil) (ga_cons (gv 11) ga_nil)))))))))))
      (gss_one (gs_for PassesOwn.never rfl (gi_seqK (K := K) (ge_plus (K := K) (gv 17) (GL.e (gl_lc rfl scLaw.nd (blkOk_by (own := [("odd", 19)]) (by kernel_rfl)) (gi_seqK (K := K) (gv 15)) (fun _ _ _ _ _ => (gg_name scLaw.nd (i := 19))) (fun _ _ _ _ _ => gts_nil) (fun _ _ _ _ _ => (ge_plus (K := K) (ge_plus (K := K) (ge_slK (K := K) (gv 5) go_none (go_some (gv 8))) (ge_tup (ga_cons (gv 19) ga_nil))) (ge_slK (K := K) (gv 5) (go_some (ge_plus (K := K) (gv 8) ge_int)) go_none))))))) (gg_name scLaw.nd (i := 18))
      (gss_cons (gs_setO (i := 10) scLaw.nd (gl_lst (ga_cons (ge_dfK d_law_signs hr (ga_cons (gv 3) (ga_cons (gv 4) (ga_cons (gv 18) (ga_cons ge_int ga_nil))))) (ga_cons (ge_dfK d_law_signs hr (ga_cons (gv 3) (ga_cons (gv 4) (ga_cons (gv 18) (ga_cons ge_int ga_nil))))) ga_nil))))
      (gss_one (gs_frz 10 (gs_if (gt_not (gt_truthK (K := K) (ge_dfK d_law_same hr (ga_cons (GL.e (gl_lst (ga_cons (ge_dfK d_are_marks hr (ga_cons (gv 3) (ga_cons (gv 4) (ga_cons (gv 18) ga_nil)))) (ga_cons (ge_dfK d_is_told hr (ga_cons (gv 3) (ga_cons (gv 4) (ga_cons (gv 18) ga_nil)))) ga_nil)))) (ga_cons (gv 10) ga_nil))))) (gss_one (gs_ret ge_bl)) gss_nil))))))))))))))))))))))
      (gss_one (gs_ret ge_bl)))), fun ρ kk h => ?_⟩)
  obtain ⟨ns, rfl, hl, hk⟩ := h
  refine ⟨rfl, ?_⟩
  refine aSeq_cut (fun ρ' => ∃ a b, ρ' = [.im (.scr ns), cupS a b, .un, .un, .un, .un, .un, .un, .un, .un, .un, .un, .un, .un, .un, .un, .un, .un, .un, .un]) (fun N hN => ?_) (fun ρ' h => ?_)
  · try dsimp only [fAll, fSum, aRet, aRetN, aAndV, aOrV, aNotV, aIsi, aVar, aC, aChain, aOp, aUn, aTest, aTru, truD, aAnd, aOr, aNot, aIf, aCons, aNil, aTup, aLst, imAll, aCB, resAll, res, aCall, bok, isOw, bos, svOf, back, aNext, aSeq, aIfS, aAsg, aAsgO, aName, aGTup, aGCons, aGNil, aDrop, aFrz, frz, aOfL, fI0, fI, fNeg, fPlus, fLen, fTuple, fInt, fAbs, fMax2, fMin2, fIsN, fNotN, fIsB, fNotB, isNonD, isT, aApp, aAug, aPop, aSetI, aPar, aPar3, aMIm, aMFr, svM, aList, aSl, aPart, aNoPart, aISeq, aRg1, aRg2, aYes, wipeA, mrg, noOw, still, retA, Option.map, List.map, List.getElem?_cons_zero, List.getElem?_cons_succ, List.set_cons_zero, List.set_cons_succ, List.cons_append, List.nil_append, List.replicate, List.length_cons, List.length_nil, Bool.not_true, Bool.not_false, Bool.and_true, Bool.true_and, aZipTwo, aZip3]
    exact ⟨rfl, ns, rfl, hl, fun a0 b0 => hN _ ⟨_, _, rfl⟩⟩
  obtain ⟨a0, b0, rfl⟩ := h
  refine aSeq_cut (fun ρ' => ∃ ρ2, ρ' = .im (.scr ns) :: ρ2) (fun N hN => ?_) (fun ρ' h => ?_)
  · refine aFor_map (rgI 0 4) D.int (fun _ ρ' => ∃ a b s2 s3 s4 s5 s6 s7 s8 s10 s11 o s13 s14 s15 s17 s18, ρ' = [.im (.scr ns), cupS a b, s2, s3, s4, s5, s6, s7, s8, .un, s10, s11, so o, s13, s14, s15, .un, s17, s18, .un]) (fun k' hk' => ?_) ⟨a0, b0, .un, .un, .un, .un, .un, .un, .un, .un, .un, none, .un, .un, .un, .un, .un, rfl⟩ (fun pre x post ρ' hx hI N' hN' => ?_) ?_
    · try dsimp only [fAll, fSum, aRet, aRetN, aAndV, aOrV, aNotV, aIsi, aVar, aC, aChain, aOp, aUn, aTest, aTru, truD, aAnd, aOr, aNot, aIf, aCons, aNil, aTup, aLst, imAll, aCB, resAll, res, aCall, bok, isOw, bos, svOf, back, aNext, aSeq, aIfS, aAsg, aAsgO, aName, aGTup, aGCons, aGNil, aDrop, aFrz, frz, aOfL, fI0, fI, fNeg, fPlus, fLen, fTuple, fInt, fAbs, fMax2, fMin2, fIsN, fNotN, fIsB, fNotB, isNonD, isT, aApp, aAug, aPop, aSetI, aPar, aPar3, aMIm, aMFr, svM, aList, aSl, aPart, aNoPart, aISeq, aRg1, aRg2, aYes, wipeA, mrg, noOw, still, retA, Option.map, List.map, List.getElem?_cons_zero, List.getElem?_cons_succ, List.set_cons_zero, List.set_cons_succ, List.cons_append, List.nil_append, List.replicate, List.length_cons, List.length_nil, Bool.not_true, Bool.not_false, Bool.and_true, Bool.true_and, aZipTwo, aZip3]
      rw [show rng 0 (4 : Int).toNat = (rgI 0 4).map D.int from rng_rgI0 4]
      exact ⟨by decide, hk'⟩
    · obtain ⟨a, b, s2, s3, s4, s5, s6, s7, s8, s10, s11, o, s13, s14, s15, s17, s18, rfl⟩ := hI
      clear hx pre post hN
      have hN2 : ∀ a b s2 s3 s4 s5 s6 s7 s8 s10 s11 o s13 s14 s15 s17 s18, N' [.im (.scr ns), cupS a b, s2, s3, s4, s5, s6, s7, s8, .un, s10, s11, so o, s13, s14, s15, .un, s17, s18, .un] := fun a b s2 s3 s4 s5 s6 s7 s8 s10 s11 o s13 s14 s15 s17 s18 => hN' _ ⟨a, b, s2, s3, s4, s5, s6, s7, s8, s10, s11, o, s13, s14, s15, s17, s18, rfl⟩
      clear hN'
      -- high, wide
      refine aSeq_cut (fun ρ' => ∃ a b hi wi, (1 ≤ hi ∧ hi ≤ 30 ∧ 1 ≤ wi ∧ wi ≤ 30) ∧ ρ' = [.im (.scr ns), cupS a b, .im (.int x), .im (.int hi), .im (.int wi), s5, s6, s7, s8, .un, s10, s11, so o, s13, s14, s15, .un, s17, s18, .un]) (fun N hN => ?_) (fun ρ' h => ?_)
      · try dsimp only [fAll, fSum, aRet, aRetN, aAndV, aOrV, aNotV, aIsi, aVar, aC, aChain, aOp, aUn, aTest, aTru, truD, aAnd, aOr, aNot, aIf, aCons, aNil, aTup, aLst, imAll, aCB, resAll, res, aCall, bok, isOw, bos, svOf, back, aNext, aSeq, aIfS, aAsg, aAsgO, aName, aGTup, aGCons, aGNil, aDrop, aFrz, frz, aOfL, fI0, fI, fNeg, fPlus, fLen, fTuple, fInt, fAbs, fMax2, fMin2, fIsN, fNotN, fIsB, fNotB, isNonD, isT, aApp, aAug, aPop, aSetI, aPar, aPar3, aMIm, aMFr, svM, aList, aSl, aPart, aNoPart, aISeq, aRg1, aRg2, aYes, wipeA, mrg, noOw, still, retA, Option.map, List.map, List.getElem?_cons_zero, List.getElem?_cons_succ, List.set_cons_zero, List.set_cons_succ, List.cons_append, List.nil_append, List.replicate, List.length_cons, List.length_nil, Bool.not_true, Bool.not_false, Bool.and_true, Bool.true_and, aZipTwo, aZip3]
        refine ⟨rfl, a, b, 30, rfl, ⟨by decide, by decide⟩, fun v a b v0 v1 => ?_⟩
        try dsimp only [fAll, fSum, aRet, aRetN, aAndV, aOrV, aNotV, aIsi, aVar, aC, aChain, aOp, aUn, aTest, aTru, truD, aAnd, aOr, aNot, aIf, aCons, aNil, aTup, aLst, imAll, aCB, resAll, res, aCall, bok, isOw, bos, svOf, back, aNext, aSeq, aIfS, aAsg, aAsgO, aName, aGTup, aGCons, aGNil, aDrop, aFrz, frz, aOfL, fI0, fI, fNeg, fPlus, fLen, fTuple, fInt, fAbs, fMax2, fMin2, fIsN, fNotN, fIsB, fNotB, isNonD, isT, aApp, aAug, aPop, aSetI, aPar, aPar3, aMIm, aMFr, svM, aList, aSl, aPart, aNoPart, aISeq, aRg1, aRg2, aYes, wipeA, mrg, noOw, still, retA, Option.map, List.map, List.getElem?_cons_zero, List.getElem?_cons_succ, List.set_cons_zero, List.set_cons_succ, List.cons_append, List.nil_append, List.replicate, List.length_cons, List.length_nil, Bool.not_true, Bool.not_false, Bool.and_true, Bool.true_and, aZipTwo, aZip3]
        refine ⟨by decide, rfl, a, b, _, rfl, List.cons_ne_nil _ _, Nat.le_of_ble_eq_true rfl, fun d hd a b => ?_⟩
        obtain ⟨hi, rfl, hi1, hi2⟩ : ∃ hi, d = .int hi ∧ 1 ≤ hi ∧ hi ≤ 30 := by
          simp only [List.mem_cons, List.not_mem_nil, or_false] at hd
          rcases hd with rfl | rfl | rfl | rfl
          · exact ⟨_, rfl, by decide, by decide⟩
          · exact ⟨_, rfl, by decide, by decide⟩
          · exact ⟨_, rfl, by decide, by decide⟩
          · exact ⟨_, rfl, by omega, by omega⟩
        clear hd v0 v1
        try dsimp only [fAll, fSum, aRet, aRetN, aAndV, aOrV, aNotV, aIsi, aVar, aC, aChain, aOp, aUn, aTest, aTru, truD, aAnd, aOr, aNot, aIf, aCons, aNil, aTup, aLst, imAll, aCB, resAll, res, aCall, bok, isOw, bos, svOf, back, aNext, aSeq, aIfS, aAsg, aAsgO, aName, aGTup, aGCons, aGNil, aDrop, aFrz, frz, aOfL, fI0, fI, fNeg, fPlus, fLen, fTuple, fInt, fAbs, fMax2, fMin2, fIsN, fNotN, fIsB, fNotB, isNonD, isT, aApp, aAug, aPop, aSetI, aPar, aPar3, aMIm, aMFr, svM, aList, aSl, aPart, aNoPart, aISeq, aRg1, aRg2, aYes, wipeA, mrg, noOw, still, retA, Option.map, List.map, List.getElem?_cons_zero, List.getElem?_cons_succ, List.set_cons_zero, List.set_cons_succ, List.cons_append, List.nil_append, List.replicate, List.length_cons, List.length_nil, Bool.not_true, Bool.not_false, Bool.and_true, Bool.true_and, aZipTwo, aZip3]
        refine ⟨rfl, a, b, 30, rfl, ⟨by decide, by decide⟩, fun v a b v0 v1 => ?_⟩
        try dsimp only [fAll, fSum, aRet, aRetN, aAndV, aOrV, aNotV, aIsi, aVar, aC, aChain, aOp, aUn, aTest, aTru, truD, aAnd, aOr, aNot, aIf, aCons, aNil, aTup, aLst, imAll, aCB, resAll, res, aCall, bok, isOw, bos, svOf, back, aNext, aSeq, aIfS, aAsg, aAsgO, aName, aGTup, aGCons, aGNil, aDrop, aFrz, frz, aOfL, fI0, fI, fNeg, fPlus, fLen, fTuple, fInt, fAbs, fMax2, fMin2, fIsN, fNotN, fIsB, fNotB, isNonD, isT, aApp, aAug, aPop, aSetI, aPar, aPar3, aMIm, aMFr, svM, aList, aSl, aPart, aNoPart, aISeq, aRg1, aRg2, aYes, wipeA, mrg, noOw, still, retA, Option.map, List.map, List.getElem?_cons_zero, List.getElem?_cons_succ, List.set_cons_zero, List.set_cons_succ, List.cons_append, List.nil_append, List.replicate, List.length_cons, List.length_nil, Bool.not_true, Bool.not_false, Bool.and_true, Bool.true_and, aZipTwo, aZip3]
        refine ⟨by decide, rfl, a, b, _, rfl, List.cons_ne_nil _ _, Nat.le_of_ble_eq_true rfl, fun d hd a b => ?_⟩
        obtain ⟨wi, rfl, wi1, wi2⟩ : ∃ hi, d = .int hi ∧ 1 ≤ hi ∧ hi ≤ 30 := by
          simp only [List.mem_cons, List.not_mem_nil, or_false] at hd
          rcases hd with rfl | rfl | rfl | rfl
          · exact ⟨_, rfl, by decide, by decide⟩
          · exact ⟨_, rfl, by decide, by decide⟩
          · exact ⟨_, rfl, by decide, by decide⟩
          · exact ⟨_, rfl, by omega, by omega⟩
        clear hd v0 v1
        try dsimp only [fAll, fSum, aRet, aRetN, aAndV, aOrV, aNotV, aIsi, aVar, aC, aChain, aOp, aUn, aTest, aTru, truD, aAnd, aOr, aNot, aIf, aCons, aNil, aTup, aLst, imAll, aCB, resAll, res, aCall, bok, isOw, bos, svOf, back, aNext, aSeq, aIfS, aAsg, aAsgO, aName, aGTup, aGCons, aGNil, aDrop, aFrz, frz, aOfL, fI0, fI, fNeg, fPlus, fLen, fTuple, fInt, fAbs, fMax2, fMin2, fIsN, fNotN, fIsB, fNotB, isNonD, isT, aApp, aAug, aPop, aSetI, aPar, aPar3, aMIm, aMFr, svM, aList, aSl, aPart, aNoPart, aISeq, aRg1, aRg2, aYes, wipeA, mrg, noOw, still, retA, Option.map, List.map, List.getElem?_cons_zero, List.getElem?_cons_succ, List.set_cons_zero, List.set_cons_succ, List.cons_append, List.nil_append, List.replicate, List.length_cons, List.length_nil, Bool.not_true, Bool.not_false, Bool.and_true, Bool.true_and, aZipTwo, aZip3]
        exact ⟨by decide, rfl, rfl, hN _ ⟨a, b, hi, wi, ⟨hi1, hi2, wi1, wi2⟩, rfl⟩⟩
      obtain ⟨a, b, hi, wi, hb, rfl⟩ := h
      -- marks, shown
      refine aSeq_cut (fun ρ' => ∃ a b m sh, Grid hi wi m ∧ Within 1 m ∧ Grid hi wi sh ∧ Within 1 sh ∧ ρ' = [.im (.scr ns), cupS a b, .im (.int x), .im (.int hi), .im (.int wi), .im (gridD m), .im (gridD sh), s7, s8, .un, s10, s11, so o, s13, s14, s15, .un, s17, s18, .un]) (fun N hN => ?_) (fun ρ' h => ?_)
      · try dsimp only [fAll, fSum, aRet, aRetN, aAndV, aOrV, aNotV, aIsi, aVar, aC, aChain, aOp, aUn, aTest, aTru, truD, aAnd, aOr, aNot, aIf, aCons, aNil, aTup, aLst, imAll, aCB, resAll, res, aCall, bok, isOw, bos, svOf, back, aNext, aSeq, aIfS, aAsg, aAsgO, aName, aGTup, aGCons, aGNil, aDrop, aFrz, frz, aOfL, fI0, fI, fNeg, fPlus, fLen, fTuple, fInt, fAbs, fMax2, fMin2, fIsN, fNotN, fIsB, fNotB, isNonD, isT, aApp, aAug, aPop, aSetI, aPar, aPar3, aMIm, aMFr, svM, aList, aSl, aPart, aNoPart, aISeq, aRg1, aRg2, aYes, wipeA, mrg, noOw, still, retA, Option.map, List.map, List.getElem?_cons_zero, List.getElem?_cons_succ, List.set_cons_zero, List.set_cons_succ, List.cons_append, List.nil_append, List.replicate, List.length_cons, List.length_nil, Bool.not_true, Bool.not_false, Bool.and_true, Bool.true_and, aZipTwo, aZip3]
        refine ⟨by decide, rfl, a, b, _, rfl, List.cons_ne_nil _ _, Nat.le_of_ble_eq_true rfl, fun d hd a b => ?_⟩
        obtain ⟨sq, rfl⟩ : ∃ sq, d = .int sq := by
          simp only [List.mem_cons, List.not_mem_nil, or_false] at hd
          rcases hd with rfl | rfl | rfl | rfl
          · exact ⟨_, rfl⟩
          · exact ⟨_, rfl⟩
          · exact ⟨_, rfl⟩
          · exact ⟨_, rfl⟩
        clear hd
        try dsimp only [fAll, fSum, aRet, aRetN, aAndV, aOrV, aNotV, aIsi, aVar, aC, aChain, aOp, aUn, aTest, aTru, truD, aAnd, aOr, aNot, aIf, aCons, aNil, aTup, aLst, imAll, aCB, resAll, res, aCall, bok, isOw, bos, svOf, back, aNext, aSeq, aIfS, aAsg, aAsgO, aName, aGTup, aGCons, aGNil, aDrop, aFrz, frz, aOfL, fI0, fI, fNeg, fPlus, fLen, fTuple, fInt, fAbs, fMax2, fMin2, fIsN, fNotN, fIsB, fNotB, isNonD, isT, aApp, aAug, aPop, aSetI, aPar, aPar3, aMIm, aMFr, svM, aList, aSl, aPart, aNoPart, aISeq, aRg1, aRg2, aYes, wipeA, mrg, noOw, still, retA, Option.map, List.map, List.getElem?_cons_zero, List.getElem?_cons_succ, List.set_cons_zero, List.set_cons_succ, List.cons_append, List.nil_append, List.replicate, List.length_cons, List.length_nil, Bool.not_true, Bool.not_false, Bool.and_true, Bool.true_and, aZipTwo, aZip3]
        refine ⟨rfl, a, b, hi, wi, sq, rfl, hb, fun m a b gm am => ?_⟩
        try dsimp only [fAll, fSum, aRet, aRetN, aAndV, aOrV, aNotV, aIsi, aVar, aC, aChain, aOp, aUn, aTest, aTru, truD, aAnd, aOr, aNot, aIf, aCons, aNil, aTup, aLst, imAll, aCB, resAll, res, aCall, bok, isOw, bos, svOf, back, aNext, aSeq, aIfS, aAsg, aAsgO, aName, aGTup, aGCons, aGNil, aDrop, aFrz, frz, aOfL, fI0, fI, fNeg, fPlus, fLen, fTuple, fInt, fAbs, fMax2, fMin2, fIsN, fNotN, fIsB, fNotB, isNonD, isT, aApp, aAug, aPop, aSetI, aPar, aPar3, aMIm, aMFr, svM, aList, aSl, aPart, aNoPart, aISeq, aRg1, aRg2, aYes, wipeA, mrg, noOw, still, retA, Option.map, List.map, List.getElem?_cons_zero, List.getElem?_cons_succ, List.set_cons_zero, List.set_cons_succ, List.cons_append, List.nil_append, List.replicate, List.length_cons, List.length_nil, Bool.not_true, Bool.not_false, Bool.and_true, Bool.true_and, aZipTwo, aZip3]
        refine ⟨rfl, a, b, hi, wi, 4, rfl, hb, fun sh a b gs as' => ?_⟩
        try dsimp only [fAll, fSum, aRet, aRetN, aAndV, aOrV, aNotV, aIsi, aVar, aC, aChain, aOp, aUn, aTest, aTru, truD, aAnd, aOr, aNot, aIf, aCons, aNil, aTup, aLst, imAll, aCB, resAll, res, aCall, bok, isOw, bos, svOf, back, aNext, aSeq, aIfS, aAsg, aAsgO, aName, aGTup, aGCons, aGNil, aDrop, aFrz, frz, aOfL, fI0, fI, fNeg, fPlus, fLen, fTuple, fInt, fAbs, fMax2, fMin2, fIsN, fNotN, fIsB, fNotB, isNonD, isT, aApp, aAug, aPop, aSetI, aPar, aPar3, aMIm, aMFr, svM, aList, aSl, aPart, aNoPart, aISeq, aRg1, aRg2, aYes, wipeA, mrg, noOw, still, retA, Option.map, List.map, List.getElem?_cons_zero, List.getElem?_cons_succ, List.set_cons_zero, List.set_cons_succ, List.cons_append, List.nil_append, List.replicate, List.length_cons, List.length_nil, Bool.not_true, Bool.not_false, Bool.and_true, Bool.true_and, aZipTwo, aZip3]
        exact ⟨by decide, rfl, rfl, hN _ ⟨a, b, m, sh, gm, am, gs, as', rfl⟩⟩
      obtain ⟨a, b, m, sh, gm, am, gs, as', rfl⟩ := h
      -- counts = []
      refine aSeq_cut (fun ρ' => ρ' = [.im (.scr ns), cupS a b, .im (.int x), .im (.int hi), .im (.int wi), .im (gridD m), .im (gridD sh), .ow (.ol []), s8, .un, s10, s11, so o, s13, s14, s15, .un, s17, s18, .un]) (fun N hN => ?_) (fun ρ' h => ?_)
      · try dsimp only [fAll, fSum, aRet, aRetN, aAndV, aOrV, aNotV, aIsi, aVar, aC, aChain, aOp, aUn, aTest, aTru, truD, aAnd, aOr, aNot, aIf, aCons, aNil, aTup, aLst, imAll, aCB, resAll, res, aCall, bok, isOw, bos, svOf, back, aNext, aSeq, aIfS, aAsg, aAsgO, aName, aGTup, aGCons, aGNil, aDrop, aFrz, frz, aOfL, fI0, fI, fNeg, fPlus, fLen, fTuple, fInt, fAbs, fMax2, fMin2, fIsN, fNotN, fIsB, fNotB, isNonD, isT, aApp, aAug, aPop, aSetI, aPar, aPar3, aMIm, aMFr, svM, aList, aSl, aPart, aNoPart, aISeq, aRg1, aRg2, aYes, wipeA, mrg, noOw, still, retA, Option.map, List.map, List.getElem?_cons_zero, List.getElem?_cons_succ, List.set_cons_zero, List.set_cons_succ, List.cons_append, List.nil_append, List.replicate, List.length_cons, List.length_nil, Bool.not_true, Bool.not_false, Bool.and_true, Bool.true_and, aZipTwo, aZip3]
        exact ⟨by decide, hN _ rfl⟩
      subst h
      -- the counts
      refine aSeq_cut (fun ρ' => ∃ s8, ρ' = [.im (.scr ns), cupS a b, .im (.int x), .im (.int hi), .im (.int wi), .im (gridD m), .im (gridD sh), .ow (.ol ((lcnt hi wi m).map rowD)), s8, .un, s10, s11, so o, s13, s14, s15, .un, s17, s18, .un]) (fun N hN => ?_) (fun ρ' h => ?_)
      · refine aFor_map (rgI 0 hi) D.int (fun pre ρ' => ∃ s8, ρ' = [.im (.scr ns), cupS a b, .im (.int x), .im (.int hi), .im (.int wi), .im (gridD m), .im (gridD sh), .ow (.ol (pre.map fun r => rowD (lrow hi wi m r))), s8, .un, s10, s11, so o, s13, s14, s15, .un, s17, s18, .un]) (fun k' hk' => ?_) ⟨_, rfl⟩ (fun pre r post ρ' hx hI N' hN' => ?_) ?_
        · try dsimp only [fAll, fSum, aRet, aRetN, aAndV, aOrV, aNotV, aIsi, aVar, aC, aChain, aOp, aUn, aTest, aTru, truD, aAnd, aOr, aNot, aIf, aCons, aNil, aTup, aLst, imAll, aCB, resAll, res, aCall, bok, isOw, bos, svOf, back, aNext, aSeq, aIfS, aAsg, aAsgO, aName, aGTup, aGCons, aGNil, aDrop, aFrz, frz, aOfL, fI0, fI, fNeg, fPlus, fLen, fTuple, fInt, fAbs, fMax2, fMin2, fIsN, fNotN, fIsB, fNotB, isNonD, isT, aApp, aAug, aPop, aSetI, aPar, aPar3, aMIm, aMFr, svM, aList, aSl, aPart, aNoPart, aISeq, aRg1, aRg2, aYes, wipeA, mrg, noOw, still, retA, Option.map, List.map, List.getElem?_cons_zero, List.getElem?_cons_succ, List.set_cons_zero, List.set_cons_succ, List.cons_append, List.nil_append, List.replicate, List.length_cons, List.length_nil, Bool.not_true, Bool.not_false, Bool.and_true, Bool.true_and, aZipTwo, aZip3]
          rw [rng_rgI0]
          exact ⟨by omega, hk'⟩
        · obtain ⟨s8, rfl⟩ := hI
          obtain ⟨h1, h2, h3, h4⟩ := rgI_pre hx
          simp only [List.map_append, List.map_cons, List.map_nil] at hN'
          rw [lrow_D _ _ _ r] at hN'
          try dsimp only [fAll, fSum, aRet, aRetN, aAndV, aOrV, aNotV, aIsi, aVar, aC, aChain, aOp, aUn, aTest, aTru, truD, aAnd, aOr, aNot, aIf, aCons, aNil, aTup, aLst, imAll, aCB, resAll, res, aCall, bok, isOw, bos, svOf, back, aNext, aSeq, aIfS, aAsg, aAsgO, aName, aGTup, aGCons, aGNil, aDrop, aFrz, frz, aOfL, fI0, fI, fNeg, fPlus, fLen, fTuple, fInt, fAbs, fMax2, fMin2, fIsN, fNotN, fIsB, fNotB, isNonD, isT, aApp, aAug, aPop, aSetI, aPar, aPar3, aMIm, aMFr, svM, aList, aSl, aPart, aNoPart, aISeq, aRg1, aRg2, aYes, wipeA, mrg, noOw, still, retA, Option.map, List.map, List.getElem?_cons_zero, List.getElem?_cons_succ, List.set_cons_zero, List.set_cons_succ, List.cons_append, List.nil_append, List.replicate, List.length_cons, List.length_nil, Bool.not_true, Bool.not_false, Bool.and_true, Bool.true_and, aZipTwo, aZip3]
          refine ⟨rfl, ?_⟩
          refine aLc_mapM (rgI 0 wi) D.int (fun c => .int (lawCnt hi wi m r c)) (fun k' hk' => ?_) rfl (by rw [rgI_len]; omega) (fun c hc Wy hW => ?_) ?_
          · try dsimp only [fAll, fSum, aRet, aRetN, aAndV, aOrV, aNotV, aIsi, aVar, aC, aChain, aOp, aUn, aTest, aTru, truD, aAnd, aOr, aNot, aIf, aCons, aNil, aTup, aLst, imAll, aCB, resAll, res, aCall, bok, isOw, bos, svOf, back, aNext, aSeq, aIfS, aAsg, aAsgO, aName, aGTup, aGCons, aGNil, aDrop, aFrz, frz, aOfL, fI0, fI, fNeg, fPlus, fLen, fTuple, fInt, fAbs, fMax2, fMin2, fIsN, fNotN, fIsB, fNotB, isNonD, isT, aApp, aAug, aPop, aSetI, aPar, aPar3, aMIm, aMFr, svM, aList, aSl, aPart, aNoPart, aISeq, aRg1, aRg2, aYes, wipeA, mrg, noOw, still, retA, Option.map, List.map, List.getElem?_cons_zero, List.getElem?_cons_succ, List.set_cons_zero, List.set_cons_succ, List.cons_append, List.nil_append, List.replicate, List.length_cons, List.length_nil, Bool.not_true, Bool.not_false, Bool.and_true, Bool.true_and, aZipTwo, aZip3]
            rw [rng_rgI0]
            exact ⟨by omega, hk'⟩
          · try dsimp only [fAll, fSum, aRet, aRetN, aAndV, aOrV, aNotV, aIsi, aVar, aC, aChain, aOp, aUn, aTest, aTru, truD, aAnd, aOr, aNot, aIf, aCons, aNil, aTup, aLst, imAll, aCB, resAll, res, aCall, bok, isOw, bos, svOf, back, aNext, aSeq, aIfS, aAsg, aAsgO, aName, aGTup, aGCons, aGNil, aDrop, aFrz, frz, aOfL, fI0, fI, fNeg, fPlus, fLen, fTuple, fInt, fAbs, fMax2, fMin2, fIsN, fNotN, fIsB, fNotB, isNonD, isT, aApp, aAug, aPop, aSetI, aPar, aPar3, aMIm, aMFr, svM, aList, aSl, aPart, aNoPart, aISeq, aRg1, aRg2, aYes, wipeA, mrg, noOw, still, retA, Option.map, List.map, List.getElem?_cons_zero, List.getElem?_cons_succ, List.set_cons_zero, List.set_cons_succ, List.cons_append, List.nil_append, List.replicate, List.length_cons, List.length_nil, Bool.not_true, Bool.not_false, Bool.and_true, Bool.true_and, aZipTwo, aZip3]
            exact ⟨by decide, rfl, hi, wi, m, r, c, rfl, hb, gm, _, rfl, hW⟩
          · try dsimp only [fAll, fSum, aRet, aRetN, aAndV, aOrV, aNotV, aIsi, aVar, aC, aChain, aOp, aUn, aTest, aTru, truD, aAnd, aOr, aNot, aIf, aCons, aNil, aTup, aLst, imAll, aCB, resAll, res, aCall, bok, isOw, bos, svOf, back, aNext, aSeq, aIfS, aAsg, aAsgO, aName, aGTup, aGCons, aGNil, aDrop, aFrz, frz, aOfL, fI0, fI, fNeg, fPlus, fLen, fTuple, fInt, fAbs, fMax2, fMin2, fIsN, fNotN, fIsB, fNotB, isNonD, isT, aApp, aAug, aPop, aSetI, aPar, aPar3, aMIm, aMFr, svM, aList, aSl, aPart, aNoPart, aISeq, aRg1, aRg2, aYes, wipeA, mrg, noOw, still, retA, Option.map, List.map, List.getElem?_cons_zero, List.getElem?_cons_succ, List.set_cons_zero, List.set_cons_succ, List.cons_append, List.nil_append, List.replicate, List.length_cons, List.length_nil, Bool.not_true, Bool.not_false, Bool.and_true, Bool.true_and, aZipTwo, aZip3]
            refine ⟨?_, hN' _ ⟨_, rfl⟩⟩
            rw [List.length_map]
            have h5 := congrArg List.length hx
            rw [rgI_len, List.length_append, List.length_cons] at h5
            omega
        · rintro ρ' ⟨s8, rfl⟩
          refine hN _ ⟨s8, ?_⟩
          unfold lcnt
          rw [List.map_map]; rfl
      obtain ⟨s8, rfl⟩ := h
      -- due = []
      refine aSeq_cut (fun ρ' => ρ' = [.im (.scr ns), cupS a b, .im (.int x), .im (.int hi), .im (.int wi), .im (gridD m), .im (gridD sh), .ow (.ol ((lcnt hi wi m).map rowD)), s8, .un, .ow (.ol []), s11, so o, s13, s14, s15, .un, s17, s18, .un]) (fun N hN => ?_) (fun ρ' h => ?_)
      · try dsimp only [fAll, fSum, aRet, aRetN, aAndV, aOrV, aNotV, aIsi, aVar, aC, aChain, aOp, aUn, aTest, aTru, truD, aAnd, aOr, aNot, aIf, aCons, aNil, aTup, aLst, imAll, aCB, resAll, res, aCall, bok, isOw, bos, svOf, back, aNext, aSeq, aIfS, aAsg, aAsgO, aName, aGTup, aGCons, aGNil, aDrop, aFrz, frz, aOfL, fI0, fI, fNeg, fPlus, fLen, fTuple, fInt, fAbs, fMax2, fMin2, fIsN, fNotN, fIsB, fNotB, isNonD, isT, aApp, aAug, aPop, aSetI, aPar, aPar3, aMIm, aMFr, svM, aList, aSl, aPart, aNoPart, aISeq, aRg1, aRg2, aYes, wipeA, mrg, noOw, still, retA, Option.map, List.map, List.getElem?_cons_zero, List.getElem?_cons_succ, List.set_cons_zero, List.set_cons_succ, List.cons_append, List.nil_append, List.replicate, List.length_cons, List.length_nil, Bool.not_true, Bool.not_false, Bool.and_true, Bool.true_and, aZipTwo, aZip3]
        exact ⟨by decide, hN _ rfl⟩
      subst h
      have gl : Grid hi wi (lcnt hi wi m) := grid_mk (lawCnt hi wi m) (by omega) (by omega)
      -- what is due
      refine aSeq_cut (fun ρ' => ∃ s8 s11, ρ' = [.im (.scr ns), cupS a b, .im (.int x), .im (.int hi), .im (.int wi), .im (gridD m), .im (gridD sh), .ow (.ol ((lcnt hi wi m).map rowD)), s8, .un, .ow (.ol ((toldG (lawCnt hi wi m) hi wi m sh).map rowD)), s11, so o, s13, s14, s15, .un, s17, s18, .un]) (fun N hN => ?_) (fun ρ' h => ?_)
      · refine aFor_map (rgI 0 hi) D.int (fun pre ρ' => ∃ s8 s11, ρ' = [.im (.scr ns), cupS a b, .im (.int x), .im (.int hi), .im (.int wi), .im (gridD m), .im (gridD sh), .ow (.ol ((lcnt hi wi m).map rowD)), s8, .un, .ow (.ol (pre.map fun r => rowD (toldR (lawCnt hi wi m) wi m sh r))), s11, so o, s13, s14, s15, .un, s17, s18, .un]) (fun k' hk' => ?_) ⟨_, _, rfl⟩ (fun pre r post ρ' hx hI N' hN' => ?_) ?_
        · try dsimp only [fAll, fSum, aRet, aRetN, aAndV, aOrV, aNotV, aIsi, aVar, aC, aChain, aOp, aUn, aTest, aTru, truD, aAnd, aOr, aNot, aIf, aCons, aNil, aTup, aLst, imAll, aCB, resAll, res, aCall, bok, isOw, bos, svOf, back, aNext, aSeq, aIfS, aAsg, aAsgO, aName, aGTup, aGCons, aGNil, aDrop, aFrz, frz, aOfL, fI0, fI, fNeg, fPlus, fLen, fTuple, fInt, fAbs, fMax2, fMin2, fIsN, fNotN, fIsB, fNotB, isNonD, isT, aApp, aAug, aPop, aSetI, aPar, aPar3, aMIm, aMFr, svM, aList, aSl, aPart, aNoPart, aISeq, aRg1, aRg2, aYes, wipeA, mrg, noOw, still, retA, Option.map, List.map, List.getElem?_cons_zero, List.getElem?_cons_succ, List.set_cons_zero, List.set_cons_succ, List.cons_append, List.nil_append, List.replicate, List.length_cons, List.length_nil, Bool.not_true, Bool.not_false, Bool.and_true, Bool.true_and, aZipTwo, aZip3]
          rw [rng_rgI0]
          exact ⟨by omega, hk'⟩
        · obtain ⟨s8, s11, rfl⟩ := hI
          obtain ⟨h1, h2, h3, h4⟩ := rgI_pre hx
          simp only [List.map_append, List.map_cons, List.map_nil] at hN'
          rw [rowI _ _ _ _ r] at hN'
          refine aSeq_cut (fun ρ' => ρ' = [.im (.scr ns), cupS a b, .im (.int x), .im (.int hi), .im (.int wi), .im (gridD m), .im (gridD sh), .ow (.ol ((lcnt hi wi m).map rowD)), .im (.int r), .un, .ow (.ol (pre.map fun r => rowD (toldR (lawCnt hi wi m) wi m sh r))), .im (.lst ((rgI 0 wi).map fun c => D.int (if cel sh r c ≠ 0 ∧ cel m r c = 0 then lawCnt hi wi m r c else 9))), so o, s13, s14, s15, .un, s17, s18, .un]) (fun N hN => ?_) (fun ρ' h => ?_)
          · try dsimp only [fAll, fSum, aRet, aRetN, aAndV, aOrV, aNotV, aIsi, aVar, aC, aChain, aOp, aUn, aTest, aTru, truD, aAnd, aOr, aNot, aIf, aCons, aNil, aTup, aLst, imAll, aCB, resAll, res, aCall, bok, isOw, bos, svOf, back, aNext, aSeq, aIfS, aAsg, aAsgO, aName, aGTup, aGCons, aGNil, aDrop, aFrz, frz, aOfL, fI0, fI, fNeg, fPlus, fLen, fTuple, fInt, fAbs, fMax2, fMin2, fIsN, fNotN, fIsB, fNotB, isNonD, isT, aApp, aAug, aPop, aSetI, aPar, aPar3, aMIm, aMFr, svM, aList, aSl, aPart, aNoPart, aISeq, aRg1, aRg2, aYes, wipeA, mrg, noOw, still, retA, Option.map, List.map, List.getElem?_cons_zero, List.getElem?_cons_succ, List.set_cons_zero, List.set_cons_succ, List.cons_append, List.nil_append, List.replicate, List.length_cons, List.length_nil, Bool.not_true, Bool.not_false, Bool.and_true, Bool.true_and, aZipTwo, aZip3]
            refine aLc_mapM (rgI 0 wi) D.int (fun c => .int (if cel sh r c ≠ 0 ∧ cel m r c = 0 then lawCnt hi wi m r c else 9)) (fun k' hk' => ?_) (by cases o <;> rfl) (by rw [rgI_len]; omega) (fun c hc Wy hW => ?_) ?_
            · try dsimp only [fAll, fSum, aRet, aRetN, aAndV, aOrV, aNotV, aIsi, aVar, aC, aChain, aOp, aUn, aTest, aTru, truD, aAnd, aOr, aNot, aIf, aCons, aNil, aTup, aLst, imAll, aCB, resAll, res, aCall, bok, isOw, bos, svOf, back, aNext, aSeq, aIfS, aAsg, aAsgO, aName, aGTup, aGCons, aGNil, aDrop, aFrz, frz, aOfL, fI0, fI, fNeg, fPlus, fLen, fTuple, fInt, fAbs, fMax2, fMin2, fIsN, fNotN, fIsB, fNotB, isNonD, isT, aApp, aAug, aPop, aSetI, aPar, aPar3, aMIm, aMFr, svM, aList, aSl, aPart, aNoPart, aISeq, aRg1, aRg2, aYes, wipeA, mrg, noOw, still, retA, Option.map, List.map, List.getElem?_cons_zero, List.getElem?_cons_succ, List.set_cons_zero, List.set_cons_succ, List.cons_append, List.nil_append, List.replicate, List.length_cons, List.length_nil, Bool.not_true, Bool.not_false, Bool.and_true, Bool.true_and, aZipTwo, aZip3]
              rw [rng_rgI0]
              exact ⟨by omega, hk'⟩
            · obtain ⟨c0, c1⟩ := rgI_mem.mp hc
              have bs := cel_bound (i := r) (j := c) (by decide) as'
              unfold gridD at hW ⊢
              try dsimp only [fAll, fSum, aRet, aRetN, aAndV, aOrV, aNotV, aIsi, aVar, aC, aChain, aOp, aUn, aTest, aTru, truD, aAnd, aOr, aNot, aIf, aCons, aNil, aTup, aLst, imAll, aCB, resAll, res, aCall, bok, isOw, bos, svOf, back, aNext, aSeq, aIfS, aAsg, aAsgO, aName, aGTup, aGCons, aGNil, aDrop, aFrz, frz, aOfL, fI0, fI, fNeg, fPlus, fLen, fTuple, fInt, fAbs, fMax2, fMin2, fIsN, fNotN, fIsB, fNotB, isNonD, isT, aApp, aAug, aPop, aSetI, aPar, aPar3, aMIm, aMFr, svM, aList, aSl, aPart, aNoPart, aISeq, aRg1, aRg2, aYes, wipeA, mrg, noOw, still, retA, Option.map, List.map, List.getElem?_cons_zero, List.getElem?_cons_succ, List.set_cons_zero, List.set_cons_succ, List.cons_append, List.nil_append, List.replicate, List.length_cons, List.length_nil, Bool.not_true, Bool.not_false, Bool.and_true, Bool.true_and, aZipTwo, aZip3]
              refine ⟨_, gs.ix h3 h4, ?_⟩
              try dsimp only [fAll, fSum, aRet, aRetN, aAndV, aOrV, aNotV, aIsi, aVar, aC, aChain, aOp, aUn, aTest, aTru, truD, aAnd, aOr, aNot, aIf, aCons, aNil, aTup, aLst, imAll, aCB, resAll, res, aCall, bok, isOw, bos, svOf, back, aNext, aSeq, aIfS, aAsg, aAsgO, aName, aGTup, aGCons, aGNil, aDrop, aFrz, frz, aOfL, fI0, fI, fNeg, fPlus, fLen, fTuple, fInt, fAbs, fMax2, fMin2, fIsN, fNotN, fIsB, fNotB, isNonD, isT, aApp, aAug, aPop, aSetI, aPar, aPar3, aMIm, aMFr, svM, aList, aSl, aPart, aNoPart, aISeq, aRg1, aRg2, aYes, wipeA, mrg, noOw, still, retA, Option.map, List.map, List.getElem?_cons_zero, List.getElem?_cons_succ, List.set_cons_zero, List.set_cons_succ, List.cons_append, List.nil_append, List.replicate, List.length_cons, List.length_nil, Bool.not_true, Bool.not_false, Bool.and_true, Bool.true_and, aZipTwo, aZip3]
              refine ⟨_, gs.jx h3 h4 c0 c1, rfl, rfl, ?_⟩
              rw [eqv_int]
              cases e1 : (cel sh r c == 1) with
              | true =>
                have e1' : cel sh r c = 1 := by simpa using e1
                simp only [if_true]
                refine ⟨_, gm.ix h3 h4, ?_⟩
                try dsimp only [fAll, fSum, aRet, aRetN, aAndV, aOrV, aNotV, aIsi, aVar, aC, aChain, aOp, aUn, aTest, aTru, truD, aAnd, aOr, aNot, aIf, aCons, aNil, aTup, aLst, imAll, aCB, resAll, res, aCall, bok, isOw, bos, svOf, back, aNext, aSeq, aIfS, aAsg, aAsgO, aName, aGTup, aGCons, aGNil, aDrop, aFrz, frz, aOfL, fI0, fI, fNeg, fPlus, fLen, fTuple, fInt, fAbs, fMax2, fMin2, fIsN, fNotN, fIsB, fNotB, isNonD, isT, aApp, aAug, aPop, aSetI, aPar, aPar3, aMIm, aMFr, svM, aList, aSl, aPart, aNoPart, aISeq, aRg1, aRg2, aYes, wipeA, mrg, noOw, still, retA, Option.map, List.map, List.getElem?_cons_zero, List.getElem?_cons_succ, List.set_cons_zero, List.set_cons_succ, List.cons_append, List.nil_append, List.replicate, List.length_cons, List.length_nil, Bool.not_true, Bool.not_false, Bool.and_true, Bool.true_and, aZipTwo, aZip3]
                refine ⟨_, gm.jx h3 h4 c0 c1, rfl, rfl, ?_⟩
                rw [eqv_int]
                cases e2 : (cel m r c == 0) with
                | true =>
                  have e2' : cel m r c = 0 := by simpa using e2
                  simp only [if_true]
                  rw [if_pos ⟨by omega, e2'⟩] at hW
                  refine ⟨_, gl.ix h3 h4, ?_⟩
                  try dsimp only [fAll, fSum, aRet, aRetN, aAndV, aOrV, aNotV, aIsi, aVar, aC, aChain, aOp, aUn, aTest, aTru, truD, aAnd, aOr, aNot, aIf, aCons, aNil, aTup, aLst, imAll, aCB, resAll, res, aCall, bok, isOw, bos, svOf, back, aNext, aSeq, aIfS, aAsg, aAsgO, aName, aGTup, aGCons, aGNil, aDrop, aFrz, frz, aOfL, fI0, fI, fNeg, fPlus, fLen, fTuple, fInt, fAbs, fMax2, fMin2, fIsN, fNotN, fIsB, fNotB, isNonD, isT, aApp, aAug, aPop, aSetI, aPar, aPar3, aMIm, aMFr, svM, aList, aSl, aPart, aNoPart, aISeq, aRg1, aRg2, aYes, wipeA, mrg, noOw, still, retA, Option.map, List.map, List.getElem?_cons_zero, List.getElem?_cons_succ, List.set_cons_zero, List.set_cons_succ, List.cons_append, List.nil_append, List.replicate, List.length_cons, List.length_nil, Bool.not_true, Bool.not_false, Bool.and_true, Bool.true_and, aZipTwo, aZip3]
                  refine ⟨_, gl.jx h3 h4 c0 c1, _, rfl, ?_⟩
                  rw [show cel (lcnt hi wi m) r c = lawCnt hi wi m r c from cel_mk h3 h4 c0 c1]
                  exact hW
                | false =>
                  have e2' : ¬ cel m r c = 0 := by simpa using e2
                  simp only [Bool.false_eq_true, if_false]
                  rw [if_neg fun z => e2' z.2] at hW
                  exact ⟨_, rfl, hW⟩
              | false =>
                have e1' : ¬ cel sh r c = 1 := by simpa using e1
                simp only [Bool.false_eq_true, if_false]
                rw [if_neg fun z => e1' (by omega)] at hW
                exact ⟨_, rfl, hW⟩
            · exact hN _ rfl
          · subst h
            try dsimp only [fAll, fSum, aRet, aRetN, aAndV, aOrV, aNotV, aIsi, aVar, aC, aChain, aOp, aUn, aTest, aTru, truD, aAnd, aOr, aNot, aIf, aCons, aNil, aTup, aLst, imAll, aCB, resAll, res, aCall, bok, isOw, bos, svOf, back, aNext, aSeq, aIfS, aAsg, aAsgO, aName, aGTup, aGCons, aGNil, aDrop, aFrz, frz, aOfL, fI0, fI, fNeg, fPlus, fLen, fTuple, fInt, fAbs, fMax2, fMin2, fIsN, fNotN, fIsB, fNotB, isNonD, isT, aApp, aAug, aPop, aSetI, aPar, aPar3, aMIm, aMFr, svM, aList, aSl, aPart, aNoPart, aISeq, aRg1, aRg2, aYes, wipeA, mrg, noOw, still, retA, Option.map, List.map, List.getElem?_cons_zero, List.getElem?_cons_succ, List.set_cons_zero, List.set_cons_succ, List.cons_append, List.nil_append, List.replicate, List.length_cons, List.length_nil, Bool.not_true, Bool.not_false, Bool.and_true, Bool.true_and, aZipTwo, aZip3]
            refine ⟨rfl, ?_, hN' _ ⟨_, _, rfl⟩⟩
            rw [List.length_map]
            have h5 := congrArg List.length hx
            rw [rgI_len, List.length_append, List.length_cons] at h5
            omega
        · rintro ρ' ⟨s8, s11, rfl⟩
          refine hN _ ⟨s8, s11, ?_⟩
          unfold toldG
          rw [List.map_map]; rfl
      obtain ⟨s8, s11, rfl⟩ := h
      have gt : Grid hi wi (toldG (lawCnt hi wi m) hi wi m sh) := told_grid (by omega) (by omega)
      have wt : Within 9 (toldG (lawCnt hi wi m) hi wi m sh) := told_within fun r c _ _ _ _ => law_bound am
      -- told
      refine aSeq_cut (fun ρ' => ρ' = [.im (.scr ns), cupS a b, .im (.int x), .im (.int hi), .im (.int wi), .im (gridD m), .im (gridD sh), .ow (.ol ((lcnt hi wi m).map rowD)), s8, .un, .ow (.ol ((toldG (lawCnt hi wi m) hi wi m sh).map rowD)), s11, so o, .im (.lst [gridD (lcnt hi wi m), gridD (toldG (lawCnt hi wi m) hi wi m sh)]), s14, s15, .un, s17, s18, .un]) (fun N hN => ?_) (fun ρ' h => ?_)
      · try dsimp only [fAll, fSum, aRet, aRetN, aAndV, aOrV, aNotV, aIsi, aVar, aC, aChain, aOp, aUn, aTest, aTru, truD, aAnd, aOr, aNot, aIf, aCons, aNil, aTup, aLst, imAll, aCB, resAll, res, aCall, bok, isOw, bos, svOf, back, aNext, aSeq, aIfS, aAsg, aAsgO, aName, aGTup, aGCons, aGNil, aDrop, aFrz, frz, aOfL, fI0, fI, fNeg, fPlus, fLen, fTuple, fInt, fAbs, fMax2, fMin2, fIsN, fNotN, fIsB, fNotB, isNonD, isT, aApp, aAug, aPop, aSetI, aPar, aPar3, aMIm, aMFr, svM, aList, aSl, aPart, aNoPart, aISeq, aRg1, aRg2, aYes, wipeA, mrg, noOw, still, retA, Option.map, List.map, List.getElem?_cons_zero, List.getElem?_cons_succ, List.set_cons_zero, List.set_cons_succ, List.cons_append, List.nil_append, List.replicate, List.length_cons, List.length_nil, Bool.not_true, Bool.not_false, Bool.and_true, Bool.true_and, aZipTwo, aZip3]
        refine ⟨rfl, hi, wi, m, rfl, hb, gm, am, ?_⟩
        try dsimp only [fAll, fSum, aRet, aRetN, aAndV, aOrV, aNotV, aIsi, aVar, aC, aChain, aOp, aUn, aTest, aTru, truD, aAnd, aOr, aNot, aIf, aCons, aNil, aTup, aLst, imAll, aCB, resAll, res, aCall, bok, isOw, bos, svOf, back, aNext, aSeq, aIfS, aAsg, aAsgO, aName, aGTup, aGCons, aGNil, aDrop, aFrz, frz, aOfL, fI0, fI, fNeg, fPlus, fLen, fTuple, fInt, fAbs, fMax2, fMin2, fIsN, fNotN, fIsB, fNotB, isNonD, isT, aApp, aAug, aPop, aSetI, aPar, aPar3, aMIm, aMFr, svM, aList, aSl, aPart, aNoPart, aISeq, aRg1, aRg2, aYes, wipeA, mrg, noOw, still, retA, Option.map, List.map, List.getElem?_cons_zero, List.getElem?_cons_succ, List.set_cons_zero, List.set_cons_succ, List.cons_append, List.nil_append, List.replicate, List.length_cons, List.length_nil, Bool.not_true, Bool.not_false, Bool.and_true, Bool.true_and, aZipTwo, aZip3]
        refine ⟨rfl, hi, wi, m, sh, rfl, hb, gm, am, gs, as', ?_⟩
        rw [cntIn_law, toldG_law]
        exact ⟨by decide, hN _ rfl⟩
      subst h
      -- the counts told
      refine aSeq_cut (fun ρ' => ρ' = [.im (.scr ns), cupS a b, .im (.int x), .im (.int hi), .im (.int wi), .im (gridD m), .im (gridD sh), .ow (.ol ((lcnt hi wi m).map rowD)), s8, .un, .ow (.ol ((toldG (lawCnt hi wi m) hi wi m sh).map rowD)), s11, so o, .im (.lst [gridD (lcnt hi wi m), gridD (toldG (lawCnt hi wi m) hi wi m sh)]), s14, s15, .un, s17, s18, .un]) (fun N hN => ?_) (fun ρ' h => ?_)
      · try dsimp only [fAll, fSum, aRet, aRetN, aAndV, aOrV, aNotV, aIsi, aVar, aC, aChain, aOp, aUn, aTest, aTru, truD, aAnd, aOr, aNot, aIf, aCons, aNil, aTup, aLst, imAll, aCB, resAll, res, aCall, bok, isOw, bos, svOf, back, aNext, aSeq, aIfS, aAsg, aAsgO, aName, aGTup, aGCons, aGNil, aDrop, aFrz, frz, aOfL, fI0, fI, fNeg, fPlus, fLen, fTuple, fInt, fAbs, fMax2, fMin2, fIsN, fNotN, fIsB, fNotB, isNonD, isT, aApp, aAug, aPop, aSetI, aPar, aPar3, aMIm, aMFr, svM, aList, aSl, aPart, aNoPart, aISeq, aRg1, aRg2, aYes, wipeA, mrg, noOw, still, retA, Option.map, List.map, List.getElem?_cons_zero, List.getElem?_cons_succ, List.set_cons_zero, List.set_cons_succ, List.cons_append, List.nil_append, List.replicate, List.length_cons, List.length_nil, Bool.not_true, Bool.not_false, Bool.and_true, Bool.true_and, aZipTwo, aZip3]
        obtain ⟨n1, n2, n3⟩ := two_grids gl gt (by omega) (by omega)
        refine ⟨by decide, rfl, _, rfl, n1, n2, n3, ?_⟩
        try dsimp only [fAll, fSum, aRet, aRetN, aAndV, aOrV, aNotV, aIsi, aVar, aC, aChain, aOp, aUn, aTest, aTru, truD, aAnd, aOr, aNot, aIf, aCons, aNil, aTup, aLst, imAll, aCB, resAll, res, aCall, bok, isOw, bos, svOf, back, aNext, aSeq, aIfS, aAsg, aAsgO, aName, aGTup, aGCons, aGNil, aDrop, aFrz, frz, aOfL, fI0, fI, fNeg, fPlus, fLen, fTuple, fInt, fAbs, fMax2, fMin2, fIsN, fNotN, fIsB, fNotB, isNonD, isT, aApp, aAug, aPop, aSetI, aPar, aPar3, aMIm, aMFr, svM, aList, aSl, aPart, aNoPart, aISeq, aRg1, aRg2, aYes, wipeA, mrg, noOw, still, retA, Option.map, List.map, List.getElem?_cons_zero, List.getElem?_cons_succ, List.set_cons_zero, List.set_cons_succ, List.cons_append, List.nil_append, List.replicate, List.length_cons, List.length_nil, Bool.not_true, Bool.not_false, Bool.and_true, Bool.true_and, aZipTwo, aZip3]
        refine ⟨rfl, hi, wi, _, m, rfl, hb, gt, wt, gm, am, ?_⟩
        rw [told_fits fun r c h0 h1 h2 h3 => cnt_law h0 h1 h2 h3]
        exact hN _ rfl
      subst h
      -- other
      refine aSeq_cut (fun ρ' => ∃ a b t, Grid hi wi t ∧ Within 9 t ∧ ρ' = [.im (.scr ns), cupS a b, .im (.int x), .im (.int hi), .im (.int wi), .im (gridD m), .im (gridD sh), .ow (.ol ((lcnt hi wi m).map rowD)), s8, .un, .ow (.ol ((toldG (lawCnt hi wi m) hi wi m sh).map rowD)), s11, so o, .im (.lst [gridD (lcnt hi wi m), gridD (toldG (lawCnt hi wi m) hi wi m sh)]), .im (gridD t), s15, .un, s17, s18, .un]) (fun N hN => ?_) (fun ρ' h => ?_)
      · try dsimp only [fAll, fSum, aRet, aRetN, aAndV, aOrV, aNotV, aIsi, aVar, aC, aChain, aOp, aUn, aTest, aTru, truD, aAnd, aOr, aNot, aIf, aCons, aNil, aTup, aLst, imAll, aCB, resAll, res, aCall, bok, isOw, bos, svOf, back, aNext, aSeq, aIfS, aAsg, aAsgO, aName, aGTup, aGCons, aGNil, aDrop, aFrz, frz, aOfL, fI0, fI, fNeg, fPlus, fLen, fTuple, fInt, fAbs, fMax2, fMin2, fIsN, fNotN, fIsB, fNotB, isNonD, isT, aApp, aAug, aPop, aSetI, aPar, aPar3, aMIm, aMFr, svM, aList, aSl, aPart, aNoPart, aISeq, aRg1, aRg2, aYes, wipeA, mrg, noOw, still, retA, Option.map, List.map, List.getElem?_cons_zero, List.getElem?_cons_succ, List.set_cons_zero, List.set_cons_succ, List.cons_append, List.nil_append, List.replicate, List.length_cons, List.length_nil, Bool.not_true, Bool.not_false, Bool.and_true, Bool.true_and, aZipTwo, aZip3]
        refine ⟨rfl, a, b, hi, wi, m, 3, rfl, hb, gm, am, fun t a b gt wt => ?_⟩
        exact hN _ ⟨a, b, t, gt, wt, rfl⟩
      obtain ⟨a, b, t, got, wot, rfl⟩ := h
      -- whether it fits
      refine aSeq_cut (fun ρ' => ρ' = [.im (.scr ns), cupS a b, .im (.int x), .im (.int hi), .im (.int wi), .im (gridD m), .im (gridD sh), .ow (.ol ((lcnt hi wi m).map rowD)), s8, .un, .ow (.ol ((toldG (lawCnt hi wi m) hi wi m sh).map rowD)), s11, so o, .im (.lst [gridD (lcnt hi wi m), gridD (toldG (lawCnt hi wi m) hi wi m sh)]), .im (gridD t), s15, .un, s17, s18, .un]) (fun N hN => ?_) (fun ρ' h => ?_)
      · try dsimp only [fAll, fSum, aRet, aRetN, aAndV, aOrV, aNotV, aIsi, aVar, aC, aChain, aOp, aUn, aTest, aTru, truD, aAnd, aOr, aNot, aIf, aCons, aNil, aTup, aLst, imAll, aCB, resAll, res, aCall, bok, isOw, bos, svOf, back, aNext, aSeq, aIfS, aAsg, aAsgO, aName, aGTup, aGCons, aGNil, aDrop, aFrz, frz, aOfL, fI0, fI, fNeg, fPlus, fLen, fTuple, fInt, fAbs, fMax2, fMin2, fIsN, fNotN, fIsB, fNotB, isNonD, isT, aApp, aAug, aPop, aSetI, aPar, aPar3, aMIm, aMFr, svM, aList, aSl, aPart, aNoPart, aISeq, aRg1, aRg2, aYes, wipeA, mrg, noOw, still, retA, Option.map, List.map, List.getElem?_cons_zero, List.getElem?_cons_succ, List.set_cons_zero, List.set_cons_succ, List.cons_append, List.nil_append, List.replicate, List.length_cons, List.length_nil, Bool.not_true, Bool.not_false, Bool.and_true, Bool.true_and, aZipTwo, aZip3]
        refine ⟨rfl, hi, wi, t, m, rfl, hb, got, wot, gm, am, ?_⟩
        try dsimp only [fAll, fSum, aRet, aRetN, aAndV, aOrV, aNotV, aIsi, aVar, aC, aChain, aOp, aUn, aTest, aTru, truD, aAnd, aOr, aNot, aIf, aCons, aNil, aTup, aLst, imAll, aCB, resAll, res, aCall, bok, isOw, bos, svOf, back, aNext, aSeq, aIfS, aAsg, aAsgO, aName, aGTup, aGCons, aGNil, aDrop, aFrz, frz, aOfL, fI0, fI, fNeg, fPlus, fLen, fTuple, fInt, fAbs, fMax2, fMin2, fIsN, fNotN, fIsB, fNotB, isNonD, isT, aApp, aAug, aPop, aSetI, aPar, aPar3, aMIm, aMFr, svM, aList, aSl, aPart, aNoPart, aISeq, aRg1, aRg2, aYes, wipeA, mrg, noOw, still, retA, Option.map, List.map, List.getElem?_cons_zero, List.getElem?_cons_succ, List.set_cons_zero, List.set_cons_succ, List.cons_append, List.nil_append, List.replicate, List.length_cons, List.length_nil, Bool.not_true, Bool.not_false, Bool.and_true, Bool.true_and, aZipTwo, aZip3]
        refine ⟨rfl, hi, wi, t, m, rfl, hb, got, gm, ?_⟩
        rw [fitsM_congr fun r c h0 h1 h2 h3 => cnt_law h0 h1 h2 h3]
        exact ⟨rfl, _, rfl, rfl, rfl, by simp only [deep]; decide, hN _ rfl⟩
      subst h
      -- row, at
      refine aSeq_cut (fun ρ' => ∃ a b r c, (0 ≤ r ∧ r < hi ∧ 0 ≤ c ∧ c < wi) ∧ ρ' = [.im (.scr ns), cupS a b, .im (.int x), .im (.int hi), .im (.int wi), .im (gridD m), .im (gridD sh), .ow (.ol ((lcnt hi wi m).map rowD)), .im (.int r), .un, .ow (.ol ((toldG (lawCnt hi wi m) hi wi m sh).map rowD)), s11, .im (.int c), .im (.lst [gridD (lcnt hi wi m), gridD (toldG (lawCnt hi wi m) hi wi m sh)]), .im (gridD t), s15, .un, s17, s18, .un]) (fun N hN => ?_) (fun ρ' h => ?_)
      · try dsimp only [fAll, fSum, aRet, aRetN, aAndV, aOrV, aNotV, aIsi, aVar, aC, aChain, aOp, aUn, aTest, aTru, truD, aAnd, aOr, aNot, aIf, aCons, aNil, aTup, aLst, imAll, aCB, resAll, res, aCall, bok, isOw, bos, svOf, back, aNext, aSeq, aIfS, aAsg, aAsgO, aName, aGTup, aGCons, aGNil, aDrop, aFrz, frz, aOfL, fI0, fI, fNeg, fPlus, fLen, fTuple, fInt, fAbs, fMax2, fMin2, fIsN, fNotN, fIsB, fNotB, isNonD, isT, aApp, aAug, aPop, aSetI, aPar, aPar3, aMIm, aMFr, svM, aList, aSl, aPart, aNoPart, aISeq, aRg1, aRg2, aYes, wipeA, mrg, noOw, still, retA, Option.map, List.map, List.getElem?_cons_zero, List.getElem?_cons_succ, List.set_cons_zero, List.set_cons_succ, List.cons_append, List.nil_append, List.replicate, List.length_cons, List.length_nil, Bool.not_true, Bool.not_false, Bool.and_true, Bool.true_and, aZipTwo, aZip3]
        refine ⟨rfl, a, b, hi, rfl, ⟨by omega, by omega⟩, fun r a b r0 r1 => ?_⟩
        try dsimp only [fAll, fSum, aRet, aRetN, aAndV, aOrV, aNotV, aIsi, aVar, aC, aChain, aOp, aUn, aTest, aTru, truD, aAnd, aOr, aNot, aIf, aCons, aNil, aTup, aLst, imAll, aCB, resAll, res, aCall, bok, isOw, bos, svOf, back, aNext, aSeq, aIfS, aAsg, aAsgO, aName, aGTup, aGCons, aGNil, aDrop, aFrz, frz, aOfL, fI0, fI, fNeg, fPlus, fLen, fTuple, fInt, fAbs, fMax2, fMin2, fIsN, fNotN, fIsB, fNotB, isNonD, isT, aApp, aAug, aPop, aSetI, aPar, aPar3, aMIm, aMFr, svM, aList, aSl, aPart, aNoPart, aISeq, aRg1, aRg2, aYes, wipeA, mrg, noOw, still, retA, Option.map, List.map, List.getElem?_cons_zero, List.getElem?_cons_succ, List.set_cons_zero, List.set_cons_succ, List.cons_append, List.nil_append, List.replicate, List.length_cons, List.length_nil, Bool.not_true, Bool.not_false, Bool.and_true, Bool.true_and, aZipTwo, aZip3]
        refine ⟨rfl, a, b, wi, rfl, ⟨by omega, by omega⟩, fun c a b c0 c1 => ?_⟩
        try dsimp only [fAll, fSum, aRet, aRetN, aAndV, aOrV, aNotV, aIsi, aVar, aC, aChain, aOp, aUn, aTest, aTru, truD, aAnd, aOr, aNot, aIf, aCons, aNil, aTup, aLst, imAll, aCB, resAll, res, aCall, bok, isOw, bos, svOf, back, aNext, aSeq, aIfS, aAsg, aAsgO, aName, aGTup, aGCons, aGNil, aDrop, aFrz, frz, aOfL, fI0, fI, fNeg, fPlus, fLen, fTuple, fInt, fAbs, fMax2, fMin2, fIsN, fNotN, fIsB, fNotB, isNonD, isT, aApp, aAug, aPop, aSetI, aPar, aPar3, aMIm, aMFr, svM, aList, aSl, aPart, aNoPart, aISeq, aRg1, aRg2, aYes, wipeA, mrg, noOw, still, retA, Option.map, List.map, List.getElem?_cons_zero, List.getElem?_cons_succ, List.set_cons_zero, List.set_cons_succ, List.cons_append, List.nil_append, List.replicate, List.length_cons, List.length_nil, Bool.not_true, Bool.not_false, Bool.and_true, Bool.true_and, aZipTwo, aZip3]
        exact ⟨by decide, rfl, rfl, hN _ ⟨a, b, r, c, ⟨r0, r1, c0, c1⟩, rfl⟩⟩
      obtain ⟨a, b, r, c, ⟨r0, r1, c0, c1⟩, rfl⟩ := h
      -- line
      have hm := gm.len
      have hrl : ∀ d ∈ m.map rowD, rowOk d := rowsOk gm (by omega)
      obtain ⟨ls, els⟩ : ∃ ls, ls = (m.getD r.toNat []).map D.int := ⟨_, rfl⟩
      have lok : ∀ d ∈ ls, okd d = true := fun d hd => by
        rw [els] at hd
        obtain ⟨q, _, rfl⟩ := List.mem_map.mp hd; rfl
      have lle : ls.length ≤ 30 := by
        rw [els, List.length_map]
        have := (gm.at r0 r1).2
        omega
      refine aSeq_cut (fun ρ' => ∃ s6 s7 s10 s13, ρ' = [.im (.scr ns), cupS a b, .im (.int x), .im (.int hi), .im (.int wi), .im (.tup (m.map rowD)), s6, s7, .im (.int r), .un, s10, .im (.tup ls), .im (.int c), s13, .im (.tup (t.map rowD)), s15, .un, s17, s18, .un]) (fun N hN => ?_) (fun ρ' h => ?_)
      · try dsimp only [fAll, fSum, aRet, aRetN, aAndV, aOrV, aNotV, aIsi, aVar, aC, aChain, aOp, aUn, aTest, aTru, truD, aAnd, aOr, aNot, aIf, aCons, aNil, aTup, aLst, imAll, aCB, resAll, res, aCall, bok, isOw, bos, svOf, back, aNext, aSeq, aIfS, aAsg, aAsgO, aName, aGTup, aGCons, aGNil, aDrop, aFrz, frz, aOfL, fI0, fI, fNeg, fPlus, fLen, fTuple, fInt, fAbs, fMax2, fMin2, fIsN, fNotN, fIsB, fNotB, isNonD, isT, aApp, aAug, aPop, aSetI, aPar, aPar3, aMIm, aMFr, svM, aList, aSl, aPart, aNoPart, aISeq, aRg1, aRg2, aYes, wipeA, mrg, noOw, still, retA, Option.map, List.map, List.getElem?_cons_zero, List.getElem?_cons_succ, List.set_cons_zero, List.set_cons_succ, List.cons_append, List.nil_append, List.replicate, List.length_cons, List.length_nil, Bool.not_true, Bool.not_false, Bool.and_true, Bool.true_and, aZipTwo, aZip3]
        refine ⟨_, gm.ix r0 r1, ?_⟩
        rw [← els]
        exact hN _ ⟨_, _, _, _, rfl⟩
      obtain ⟨s6, s7, s10, s13, rfl⟩ := h
      -- odds
      refine aSeq_cut (fun ρ' => ∃ od, (∀ d ∈ od, rowOk d) ∧ od.length ≤ 10 ∧ ρ' = [.im (.scr ns), cupS a b, .im (.int x), .im (.int hi), .im (.int wi), .im (.tup (m.map rowD)), s6, s7, .im (.int r), .un, s10, .im (.tup ls), .im (.int c), s13, .im (.tup (t.map rowD)), .im (.lst od), .un, s17, s18, .un]) (fun N hN => ?_) (fun ρ' h => ?_)
      · try dsimp only [fAll, fSum, aRet, aRetN, aAndV, aOrV, aNotV, aIsi, aVar, aC, aChain, aOp, aUn, aTest, aTru, truD, aAnd, aOr, aNot, aIf, aCons, aNil, aTup, aLst, imAll, aCB, resAll, res, aCall, bok, isOw, bos, svOf, back, aNext, aSeq, aIfS, aAsg, aAsgO, aName, aGTup, aGCons, aGNil, aDrop, aFrz, frz, aOfL, fI0, fI, fNeg, fPlus, fLen, fTuple, fInt, fAbs, fMax2, fMin2, fIsN, fNotN, fIsB, fNotB, isNonD, isT, aApp, aAug, aPop, aSetI, aPar, aPar3, aMIm, aMFr, svM, aList, aSl, aPart, aNoPart, aISeq, aRg1, aRg2, aYes, wipeA, mrg, noOw, still, retA, Option.map, List.map, List.getElem?_cons_zero, List.getElem?_cons_succ, List.set_cons_zero, List.set_cons_succ, List.cons_append, List.nil_append, List.replicate, List.length_cons, List.length_nil, Bool.not_true, Bool.not_false, Bool.and_true, Bool.true_and, aZipTwo, aZip3]
        refine ⟨by decide, by omega, by decide, by decide, hN _ ⟨_, ?_, ?_, rfl⟩⟩
        · refine ok_cons (rowOk_tup (ok_cut lok) (by have := cutD_len ls (some 1) none; omega)) (ok_cons (rowOk_tup (ok_app lok (ok_cons rfl ok_nil)) (by rw [List.length_append]; simp only [List.length_cons, List.length_nil]; omega)) (ok_cons (rowOk_lst lok) (ok_cons ⟨rfl, fun _ e => by cases e⟩ (ok_cons (rowOk_tup ok_nil (by decide)) (ok_cons ⟨rfl, fun _ e => by cases e⟩ (ok_cons ⟨rfl, fun _ e => by cases e⟩ ok_nil))))))
        · exact Nat.le_of_ble_eq_true rfl
      obtain ⟨od, odok, odl, rfl⟩ := h
      -- more odds
      refine aSeq_cut (fun ρ' => ∃ od, (∀ d ∈ od, rowOk d) ∧ od.length ≤ 20 ∧ ρ' = [.im (.scr ns), cupS a b, .im (.int x), .im (.int hi), .im (.int wi), .im (.tup (m.map rowD)), s6, s7, .im (.int r), .un, s10, .im (.tup ls), .im (.int c), s13, .im (.tup (t.map rowD)), .im (.lst od), .un, s17, s18, .un]) (fun N hN => ?_) (fun ρ' h => ?_)
      · have c1l := cutD_len ls none (some c)
        have c2l := cutD_len ls (some (c + 1)) none
        try dsimp only [fAll, fSum, aRet, aRetN, aAndV, aOrV, aNotV, aIsi, aVar, aC, aChain, aOp, aUn, aTest, aTru, truD, aAnd, aOr, aNot, aIf, aCons, aNil, aTup, aLst, imAll, aCB, resAll, res, aCall, bok, isOw, bos, svOf, back, aNext, aSeq, aIfS, aAsg, aAsgO, aName, aGTup, aGCons, aGNil, aDrop, aFrz, frz, aOfL, fI0, fI, fNeg, fPlus, fLen, fTuple, fInt, fAbs, fMax2, fMin2, fIsN, fNotN, fIsB, fNotB, isNonD, isT, aApp, aAug, aPop, aSetI, aPar, aPar3, aMIm, aMFr, svM, aList, aSl, aPart, aNoPart, aISeq, aRg1, aRg2, aYes, wipeA, mrg, noOw, still, retA, Option.map, List.map, List.getElem?_cons_zero, List.getElem?_cons_succ, List.set_cons_zero, List.set_cons_succ, List.cons_append, List.nil_append, List.replicate, List.length_cons, List.length_nil, Bool.not_true, Bool.not_false, Bool.and_true, Bool.true_and, aZipTwo, aZip3]
        refine aLc_map [.int 2, .int 9, .int 10, .int (-1), .bl true, .non, .str "0"] (fun d => .tup (cutD ls none (some c) ++ [d] ++ cutD ls (some (c + 1)) none)) (fun k' hk' => ?_) rfl (by decide) (fun d hd Wy hW => ?_) ?_
        · try dsimp only [fAll, fSum, aRet, aRetN, aAndV, aOrV, aNotV, aIsi, aVar, aC, aChain, aOp, aUn, aTest, aTru, truD, aAnd, aOr, aNot, aIf, aCons, aNil, aTup, aLst, imAll, aCB, resAll, res, aCall, bok, isOw, bos, svOf, back, aNext, aSeq, aIfS, aAsg, aAsgO, aName, aGTup, aGCons, aGNil, aDrop, aFrz, frz, aOfL, fI0, fI, fNeg, fPlus, fLen, fTuple, fInt, fAbs, fMax2, fMin2, fIsN, fNotN, fIsB, fNotB, isNonD, isT, aApp, aAug, aPop, aSetI, aPar, aPar3, aMIm, aMFr, svM, aList, aSl, aPart, aNoPart, aISeq, aRg1, aRg2, aYes, wipeA, mrg, noOw, still, retA, Option.map, List.map, List.getElem?_cons_zero, List.getElem?_cons_succ, List.set_cons_zero, List.set_cons_succ, List.cons_append, List.nil_append, List.replicate, List.length_cons, List.length_nil, Bool.not_true, Bool.not_false, Bool.and_true, Bool.true_and, aZipTwo, aZip3]
          exact ⟨by decide, hk'⟩
        · try dsimp only [fAll, fSum, aRet, aRetN, aAndV, aOrV, aNotV, aIsi, aVar, aC, aChain, aOp, aUn, aTest, aTru, truD, aAnd, aOr, aNot, aIf, aCons, aNil, aTup, aLst, imAll, aCB, resAll, res, aCall, bok, isOw, bos, svOf, back, aNext, aSeq, aIfS, aAsg, aAsgO, aName, aGTup, aGCons, aGNil, aDrop, aFrz, frz, aOfL, fI0, fI, fNeg, fPlus, fLen, fTuple, fInt, fAbs, fMax2, fMin2, fIsN, fNotN, fIsB, fNotB, isNonD, isT, aApp, aAug, aPop, aSetI, aPar, aPar3, aMIm, aMFr, svM, aList, aSl, aPart, aNoPart, aISeq, aRg1, aRg2, aYes, wipeA, mrg, noOw, still, retA, Option.map, List.map, List.getElem?_cons_zero, List.getElem?_cons_succ, List.set_cons_zero, List.set_cons_succ, List.cons_append, List.nil_append, List.replicate, List.length_cons, List.length_nil, Bool.not_true, Bool.not_false, Bool.and_true, Bool.true_and, aZipTwo, aZip3]
          refine ⟨by decide, by omega, ?_, _, rfl, hW⟩
          rw [List.length_append]
          simp only [List.length_cons, List.length_nil]
          omega
        · try dsimp only [fAll, fSum, aRet, aRetN, aAndV, aOrV, aNotV, aIsi, aVar, aC, aChain, aOp, aUn, aTest, aTru, truD, aAnd, aOr, aNot, aIf, aCons, aNil, aTup, aLst, imAll, aCB, resAll, res, aCall, bok, isOw, bos, svOf, back, aNext, aSeq, aIfS, aAsg, aAsgO, aName, aGTup, aGCons, aGNil, aDrop, aFrz, frz, aOfL, fI0, fI, fNeg, fPlus, fLen, fTuple, fInt, fAbs, fMax2, fMin2, fIsN, fNotN, fIsB, fNotB, isNonD, isT, aApp, aAug, aPop, aSetI, aPar, aPar3, aMIm, aMFr, svM, aList, aSl, aPart, aNoPart, aISeq, aRg1, aRg2, aYes, wipeA, mrg, noOw, still, retA, Option.map, List.map, List.getElem?_cons_zero, List.getElem?_cons_succ, List.set_cons_zero, List.set_cons_succ, List.cons_append, List.nil_append, List.replicate, List.length_cons, List.length_nil, Bool.not_true, Bool.not_false, Bool.and_true, Bool.true_and, aZipTwo, aZip3]
          have okl : ∀ d ∈ ([.int 2, .int 9, .int 10, .int (-1), .bl true, .non, .str "0"] : List D), okd d = true := ok_cons rfl (ok_cons rfl (ok_cons rfl (ok_cons rfl (ok_cons rfl (ok_cons rfl (ok_cons rfl ok_nil))))))
          have okm : ∀ d ∈ ([.int 2, .int 9, .int 10, .int (-1), .bl true, .non, .str "0"] : List D).map (fun d => D.tup (cutD ls none (some c) ++ [d] ++ cutD ls (some (c + 1)) none)), rowOk d := fun d hd => by
            obtain ⟨q, hq, rfl⟩ := List.mem_map.mp hd
            refine rowOk_tup (ok_app (ok_app (ok_cut lok) (ok_cons (okl q hq) ok_nil)) (ok_cut lok)) ?_
            rw [List.length_append, List.length_append]
            simp only [List.length_cons, List.length_nil]
            omega
          simp only [List.map_cons, List.map_nil] at okm
          refine ⟨by omega, hN _ ⟨_, ok_app odok okm, ?_, rfl⟩⟩
          rw [List.length_append]
          simp only [List.length_cons, List.length_nil]
          omega
      obtain ⟨od, odok, odl, rfl⟩ := h
      -- the values
      refine aSeq_cut (fun ρ' => ∃ vs, (∀ d ∈ vs, paper d) ∧ vs.length ≤ 10 ∧ ρ' = [.im (.scr ns), cupS a b, .im (.int x), .im (.int hi), .im (.int wi), .im (.tup (m.map rowD)), s6, s7, .im (.int r), .un, s10, .im (.tup ls), .im (.int c), s13, .im (.tup (t.map rowD)), .im (.lst od), .un, .im (.lst vs), s18, .un]) (fun N hN => ?_) (fun ρ' h => ?_)
      · have htl := got.len
        have ml : (m.map rowD).length ≤ 30 := by rw [List.length_map]; omega
        have tl : (t.map rowD).length ≤ 30 := by rw [List.length_map]; omega
        have trl : ∀ d ∈ t.map rowD, rowOk d := rowsOk got (by omega)
        generalize m.map rowD = M at hN hrl ml ⊢
        generalize t.map rowD = T at hN trl tl ⊢
        have c1l := cutD_len M (some 1) none
        have c2l := cutD_len M none (some 1)
        try dsimp only [fAll, fSum, aRet, aRetN, aAndV, aOrV, aNotV, aIsi, aVar, aC, aChain, aOp, aUn, aTest, aTru, truD, aAnd, aOr, aNot, aIf, aCons, aNil, aTup, aLst, imAll, aCB, resAll, res, aCall, bok, isOw, bos, svOf, back, aNext, aSeq, aIfS, aAsg, aAsgO, aName, aGTup, aGCons, aGNil, aDrop, aFrz, frz, aOfL, fI0, fI, fNeg, fPlus, fLen, fTuple, fInt, fAbs, fMax2, fMin2, fIsN, fNotN, fIsB, fNotB, isNonD, isT, aApp, aAug, aPop, aSetI, aPar, aPar3, aMIm, aMFr, svM, aList, aSl, aPart, aNoPart, aISeq, aRg1, aRg2, aYes, wipeA, mrg, noOw, still, retA, Option.map, List.map, List.getElem?_cons_zero, List.getElem?_cons_succ, List.set_cons_zero, List.set_cons_succ, List.cons_append, List.nil_append, List.replicate, List.length_cons, List.length_nil, Bool.not_true, Bool.not_false, Bool.and_true, Bool.true_and, aZipTwo, aZip3]
        refine ⟨by omega, by decide, by decide, hN _ ⟨_, ?_, ?_, rfl⟩⟩
        · refine ok_cons (paper_tup (by omega) hrl) (ok_cons (paper_tup (by omega) trl) (ok_cons (paper_tup (by omega) (ok_cut hrl)) (ok_cons (paper_tup (by rw [List.length_append]; omega) (ok_app hrl (ok_cut hrl))) (ok_cons (paper_lst hrl) (ok_cons ⟨rfl, fun _ e => by cases e⟩ (ok_cons (paper_tup (by decide) ok_nil) (ok_cons (sized_of (by omega) fun d hd => ⟨lok d hd, ?_⟩) ok_nil)))))))
          intro ss e
          subst e
          rw [els] at hd
          obtain ⟨q, _, z⟩ := List.mem_map.mp hd
          cases z
        · exact Nat.le_of_ble_eq_true rfl
      obtain ⟨vs, vok, vl, rfl⟩ := h
      -- each of them
      have ml : (m.map rowD).length ≤ 30 := by rw [List.length_map]; omega
      generalize m.map rowD = M at hrl ml ⊢
      have c1l := cutD_len M none (some r)
      have c2l := cutD_len M (some (r + 1)) none
      let fo : D → D := fun d => .tup (cutD M none (some r) ++ [d] ++ cutD M (some (r + 1)) none)
      have aok : ∀ d ∈ vs ++ od.map fo, paper d := ok_app vok fun d hd => by
        obtain ⟨q, hq, rfl⟩ := List.mem_map.mp hd
        refine paper_tup ?_ (ok_app (ok_app (ok_cut hrl) (ok_cons (odok q hq) ok_nil)) (ok_cut hrl))
        rw [List.length_append, List.length_append]
        simp only [List.length_cons, List.length_nil]
        omega
      refine aFor_map (vs ++ od.map fo) id (fun _ ρ' => ∃ s10 s18, ρ' = [.im (.scr ns), cupS a b, .im (.int x), .im (.int hi), .im (.int wi), .im (.tup M), s6, s7, .im (.int r), .un, s10, .im (.tup ls), .im (.int c), s13, .im (.tup (t.map rowD)), .im (.lst od), .un, .im (.lst vs), s18, .un]) (fun k' hk' => ?_) ⟨_, _, rfl⟩ (fun pre d post ρ' hx hI N' hN' => ?_) ?_
      · rw [List.map_id] at hk'
        try dsimp only [fAll, fSum, aRet, aRetN, aAndV, aOrV, aNotV, aIsi, aVar, aC, aChain, aOp, aUn, aTest, aTru, truD, aAnd, aOr, aNot, aIf, aCons, aNil, aTup, aLst, imAll, aCB, resAll, res, aCall, bok, isOw, bos, svOf, back, aNext, aSeq, aIfS, aAsg, aAsgO, aName, aGTup, aGCons, aGNil, aDrop, aFrz, frz, aOfL, fI0, fI, fNeg, fPlus, fLen, fTuple, fInt, fAbs, fMax2, fMin2, fIsN, fNotN, fIsB, fNotB, isNonD, isT, aApp, aAug, aPop, aSetI, aPar, aPar3, aMIm, aMFr, svM, aList, aSl, aPart, aNoPart, aISeq, aRg1, aRg2, aYes, wipeA, mrg, noOw, still, retA, Option.map, List.map, List.getElem?_cons_zero, List.getElem?_cons_succ, List.set_cons_zero, List.set_cons_succ, List.cons_append, List.nil_append, List.replicate, List.length_cons, List.length_nil, Bool.not_true, Bool.not_false, Bool.and_true, Bool.true_and, aZipTwo, aZip3]
        refine aLc_map od fo (fun _ h => h) rfl (by omega) (fun d hd Wy hW => ?_) ?_
        · try dsimp only [fAll, fSum, aRet, aRetN, aAndV, aOrV, aNotV, aIsi, aVar, aC, aChain, aOp, aUn, aTest, aTru, truD, aAnd, aOr, aNot, aIf, aCons, aNil, aTup, aLst, imAll, aCB, resAll, res, aCall, bok, isOw, bos, svOf, back, aNext, aSeq, aIfS, aAsg, aAsgO, aName, aGTup, aGCons, aGNil, aDrop, aFrz, frz, aOfL, fI0, fI, fNeg, fPlus, fLen, fTuple, fInt, fAbs, fMax2, fMin2, fIsN, fNotN, fIsB, fNotB, isNonD, isT, aApp, aAug, aPop, aSetI, aPar, aPar3, aMIm, aMFr, svM, aList, aSl, aPart, aNoPart, aISeq, aRg1, aRg2, aYes, wipeA, mrg, noOw, still, retA, Option.map, List.map, List.getElem?_cons_zero, List.getElem?_cons_succ, List.set_cons_zero, List.set_cons_succ, List.cons_append, List.nil_append, List.replicate, List.length_cons, List.length_nil, Bool.not_true, Bool.not_false, Bool.and_true, Bool.true_and, aZipTwo, aZip3]
          refine ⟨by decide, by omega, ?_, _, rfl, hW⟩
          rw [List.length_append]
          simp only [List.length_cons, List.length_nil]
          omega
        · try dsimp only [fAll, fSum, aRet, aRetN, aAndV, aOrV, aNotV, aIsi, aVar, aC, aChain, aOp, aUn, aTest, aTru, truD, aAnd, aOr, aNot, aIf, aCons, aNil, aTup, aLst, imAll, aCB, resAll, res, aCall, bok, isOw, bos, svOf, back, aNext, aSeq, aIfS, aAsg, aAsgO, aName, aGTup, aGCons, aGNil, aDrop, aFrz, frz, aOfL, fI0, fI, fNeg, fPlus, fLen, fTuple, fInt, fAbs, fMax2, fMin2, fIsN, fNotN, fIsB, fNotB, isNonD, isT, aApp, aAug, aPop, aSetI, aPar, aPar3, aMIm, aMFr, svM, aList, aSl, aPart, aNoPart, aISeq, aRg1, aRg2, aYes, wipeA, mrg, noOw, still, retA, Option.map, List.map, List.getElem?_cons_zero, List.getElem?_cons_succ, List.set_cons_zero, List.set_cons_succ, List.cons_append, List.nil_append, List.replicate, List.length_cons, List.length_nil, Bool.not_true, Bool.not_false, Bool.and_true, Bool.true_and, aZipTwo, aZip3]
          exact ⟨by rw [List.length_map]; omega, hk'⟩
      · obtain ⟨s10, s18, rfl⟩ := hI
        obtain ⟨dok, dsz⟩ := aok d (by rw [hx]; simp)
        dsimp only [id]
        refine aSeq_cut (fun ρ' => ρ' = [.im (.scr ns), cupS a b, .im (.int x), .im (.int hi), .im (.int wi), .im (.tup M), s6, s7, .im (.int r), .un, .ow (.ol [.bl (fitsSigns hi wi d 1), .bl (fitsSigns hi wi d 9)]), .im (.tup ls), .im (.int c), s13, .im (.tup (t.map rowD)), .im (.lst od), .un, .im (.lst vs), .im d, .un]) (fun N hN => ?_) (fun ρ' h => ?_)
        · try dsimp only [fAll, fSum, aRet, aRetN, aAndV, aOrV, aNotV, aIsi, aVar, aC, aChain, aOp, aUn, aTest, aTru, truD, aAnd, aOr, aNot, aIf, aCons, aNil, aTup, aLst, imAll, aCB, resAll, res, aCall, bok, isOw, bos, svOf, back, aNext, aSeq, aIfS, aAsg, aAsgO, aName, aGTup, aGCons, aGNil, aDrop, aFrz, frz, aOfL, fI0, fI, fNeg, fPlus, fLen, fTuple, fInt, fAbs, fMax2, fMin2, fIsN, fNotN, fIsB, fNotB, isNonD, isT, aApp, aAug, aPop, aSetI, aPar, aPar3, aMIm, aMFr, svM, aList, aSl, aPart, aNoPart, aISeq, aRg1, aRg2, aYes, wipeA, mrg, noOw, still, retA, Option.map, List.map, List.getElem?_cons_zero, List.getElem?_cons_succ, List.set_cons_zero, List.set_cons_succ, List.cons_append, List.nil_append, List.replicate, List.length_cons, List.length_nil, Bool.not_true, Bool.not_false, Bool.and_true, Bool.true_and, aZipTwo, aZip3]
          refine ⟨rfl, hi, wi, d, 1, rfl, dok, dsz, ?_⟩
          try dsimp only [fAll, fSum, aRet, aRetN, aAndV, aOrV, aNotV, aIsi, aVar, aC, aChain, aOp, aUn, aTest, aTru, truD, aAnd, aOr, aNot, aIf, aCons, aNil, aTup, aLst, imAll, aCB, resAll, res, aCall, bok, isOw, bos, svOf, back, aNext, aSeq, aIfS, aAsg, aAsgO, aName, aGTup, aGCons, aGNil, aDrop, aFrz, frz, aOfL, fI0, fI, fNeg, fPlus, fLen, fTuple, fInt, fAbs, fMax2, fMin2, fIsN, fNotN, fIsB, fNotB, isNonD, isT, aApp, aAug, aPop, aSetI, aPar, aPar3, aMIm, aMFr, svM, aList, aSl, aPart, aNoPart, aISeq, aRg1, aRg2, aYes, wipeA, mrg, noOw, still, retA, Option.map, List.map, List.getElem?_cons_zero, List.getElem?_cons_succ, List.set_cons_zero, List.set_cons_succ, List.cons_append, List.nil_append, List.replicate, List.length_cons, List.length_nil, Bool.not_true, Bool.not_false, Bool.and_true, Bool.true_and, aZipTwo, aZip3]
          refine ⟨rfl, hi, wi, d, 9, rfl, dok, dsz, ?_⟩
          exact ⟨by decide, hN _ rfl⟩
        subst h
        try dsimp only [fAll, fSum, aRet, aRetN, aAndV, aOrV, aNotV, aIsi, aVar, aC, aChain, aOp, aUn, aTest, aTru, truD, aAnd, aOr, aNot, aIf, aCons, aNil, aTup, aLst, imAll, aCB, resAll, res, aCall, bok, isOw, bos, svOf, back, aNext, aSeq, aIfS, aAsg, aAsgO, aName, aGTup, aGCons, aGNil, aDrop, aFrz, frz, aOfL, fI0, fI, fNeg, fPlus, fLen, fTuple, fInt, fAbs, fMax2, fMin2, fIsN, fNotN, fIsB, fNotB, isNonD, isT, aApp, aAug, aPop, aSetI, aPar, aPar3, aMIm, aMFr, svM, aList, aSl, aPart, aNoPart, aISeq, aRg1, aRg2, aYes, wipeA, mrg, noOw, still, retA, Option.map, List.map, List.getElem?_cons_zero, List.getElem?_cons_succ, List.set_cons_zero, List.set_cons_succ, List.cons_append, List.nil_append, List.replicate, List.length_cons, List.length_nil, Bool.not_true, Bool.not_false, Bool.and_true, Bool.true_and, aZipTwo, aZip3]
        refine ⟨rfl, hi, wi, d, rfl, hb, dok, dsz, ?_⟩
        try dsimp only [fAll, fSum, aRet, aRetN, aAndV, aOrV, aNotV, aIsi, aVar, aC, aChain, aOp, aUn, aTest, aTru, truD, aAnd, aOr, aNot, aIf, aCons, aNil, aTup, aLst, imAll, aCB, resAll, res, aCall, bok, isOw, bos, svOf, back, aNext, aSeq, aIfS, aAsg, aAsgO, aName, aGTup, aGCons, aGNil, aDrop, aFrz, frz, aOfL, fI0, fI, fNeg, fPlus, fLen, fTuple, fInt, fAbs, fMax2, fMin2, fIsN, fNotN, fIsB, fNotB, isNonD, isT, aApp, aAug, aPop, aSetI, aPar, aPar3, aMIm, aMFr, svM, aList, aSl, aPart, aNoPart, aISeq, aRg1, aRg2, aYes, wipeA, mrg, noOw, still, retA, Option.map, List.map, List.getElem?_cons_zero, List.getElem?_cons_succ, List.set_cons_zero, List.set_cons_succ, List.cons_append, List.nil_append, List.replicate, List.length_cons, List.length_nil, Bool.not_true, Bool.not_false, Bool.and_true, Bool.true_and, aZipTwo, aZip3]
        refine ⟨rfl, hi, wi, d, rfl, hb, dok, dsz, ?_⟩
        try dsimp only [fAll, fSum, aRet, aRetN, aAndV, aOrV, aNotV, aIsi, aVar, aC, aChain, aOp, aUn, aTest, aTru, truD, aAnd, aOr, aNot, aIf, aCons, aNil, aTup, aLst, imAll, aCB, resAll, res, aCall, bok, isOw, bos, svOf, back, aNext, aSeq, aIfS, aAsg, aAsgO, aName, aGTup, aGCons, aGNil, aDrop, aFrz, frz, aOfL, fI0, fI, fNeg, fPlus, fLen, fTuple, fInt, fAbs, fMax2, fMin2, fIsN, fNotN, fIsB, fNotB, isNonD, isT, aApp, aAug, aPop, aSetI, aPar, aPar3, aMIm, aMFr, svM, aList, aSl, aPart, aNoPart, aISeq, aRg1, aRg2, aYes, wipeA, mrg, noOw, still, retA, Option.map, List.map, List.getElem?_cons_zero, List.getElem?_cons_succ, List.set_cons_zero, List.set_cons_succ, List.cons_append, List.nil_append, List.replicate, List.length_cons, List.length_nil, Bool.not_true, Bool.not_false, Bool.and_true, Bool.true_and, aZipTwo, aZip3]
        refine ⟨by decide, rfl, _, rfl, rfl, rfl, Nat.lt_of_le_of_lt (deeps_of (n := 0) (ds := [.bl (fitsSigns hi wi d 1), .bl (fitsSigns hi wi d 9)]) (ok_cons (Nat.le_refl _) (ok_cons (Nat.le_refl _) ok_nil)) |> Nat.succ_le_succ) (by decide), ?_⟩
        exact hN' _ ⟨_, _, rfl⟩
      · rintro ρ' ⟨s10, s18, rfl⟩
        exact hN2 a b _ _ _ _ _ _ _ _ _ (some (.int c)) _ _ _ _ _
    · rintro ρ' ⟨a, b, s2, s3, s4, s5, s6, s7, s8, s10, s11, o, s13, s14, s15, s17, s18, rfl⟩
      exact hN _ ⟨_, rfl⟩
  obtain ⟨ρ2, rfl⟩ := h
  exact ⟨rfl, hk⟩
end
end K76

namespace K76
open PySem PySem.Spec L2 DL
open PyProof.Rows hiding St
theorem hereFitsWhole {K : PySem.W.Frag} {h : Heap} {mg : Str → Option Value} {f : Addr} {od an : Option Addr} {sl : Array (Option Value)} {oc kV dc pm cd ct : Value} (X : K.In h) (G : h.Ns mainGlobals mg) (a : PySem.W.nsIn K mainGlobals "fits_whole" = some (some (.ref f)))
    (l : K.lookup f = some ⟨oc, od, .func (PySem.W.fnOf "fits_whole" "fits_whole" (defArgs sFitsWhole) (defBody sFitsWhole) (defScope sFitsWhole) .none kV dc pm an cd ct), sl⟩) (c : PySem.W.codeIn K cd "fits_whole" = true) (k : PySem.W.keepIn K (.ref f) = true) : Here K mg "fits_whole" sFitsWhole ["value", "low", "high"] :=
  ⟨_, _, fun_mk (st := sFitsWhole) l c k, PySem.W.mg_of X G a, (fun_mk (st := sFitsWhole) l c k).binds (ps := ["value", "low", "high"]) fun _ _ _ _ _ _ us hl => match us, hl with | [_, _, _], _ => rfl⟩
theorem hereIsTupleOf {K : PySem.W.Frag} {h : Heap} {mg : Str → Option Value} {f : Addr} {od an : Option Addr} {sl : Array (Option Value)} {oc kV dc pm cd ct : Value} (X : K.In h) (G : h.Ns mainGlobals mg) (a : PySem.W.nsIn K mainGlobals "is_tuple_of" = some (some (.ref f)))
    (l : K.lookup f = some ⟨oc, od, .func (PySem.W.fnOf "is_tuple_of" "is_tuple_of" (defArgs sIsTupleOf) (defBody sIsTupleOf) (defScope sIsTupleOf) .none kV dc pm an cd ct), sl⟩) (c : PySem.W.codeIn K cd "is_tuple_of" = true) (k : PySem.W.keepIn K (.ref f) = true) : Here K mg "is_tuple_of" sIsTupleOf ["value", "least", "most"] :=
  ⟨_, _, fun_mk (st := sIsTupleOf) l c k, PySem.W.mg_of X G a, (fun_mk (st := sIsTupleOf) l c k).binds (ps := ["value", "least", "most"]) fun _ _ _ _ _ _ us hl => match us, hl with | [_, _, _], _ => rfl⟩
theorem hereFitsBox {K : PySem.W.Frag} {h : Heap} {mg : Str → Option Value} {f : Addr} {od an : Option Addr} {sl : Array (Option Value)} {oc kV dc pm cd ct : Value} (X : K.In h) (G : h.Ns mainGlobals mg) (a : PySem.W.nsIn K mainGlobals "fits_box" = some (some (.ref f)))
    (l : K.lookup f = some ⟨oc, od, .func (PySem.W.fnOf "fits_box" "fits_box" (defArgs sFitsBox) (defBody sFitsBox) (defScope sFitsBox) .none kV dc pm an cd ct), sl⟩) (c : PySem.W.codeIn K cd "fits_box" = true) (k : PySem.W.keepIn K (.ref f) = true) : Here K mg "fits_box" sFitsBox ["high", "wide", "most"] :=
  ⟨_, _, fun_mk (st := sFitsBox) l c k, PySem.W.mg_of X G a, (fun_mk (st := sFitsBox) l c k).binds (ps := ["high", "wide", "most"]) fun _ _ _ _ _ _ us hl => match us, hl with | [_, _, _], _ => rfl⟩
theorem hereFitsSigns {K : PySem.W.Frag} {h : Heap} {mg : Str → Option Value} {f : Addr} {od an : Option Addr} {sl : Array (Option Value)} {oc kV dc pm cd ct : Value} (X : K.In h) (G : h.Ns mainGlobals mg) (a : PySem.W.nsIn K mainGlobals "fits_signs" = some (some (.ref f)))
    (l : K.lookup f = some ⟨oc, od, .func (PySem.W.fnOf "fits_signs" "fits_signs" (defArgs sFitsSigns) (defBody sFitsSigns) (defScope sFitsSigns) .none kV dc pm an cd ct), sl⟩) (c : PySem.W.codeIn K cd "fits_signs" = true) (k : PySem.W.keepIn K (.ref f) = true) : Here K mg "fits_signs" sFitsSigns ["high", "wide", "value", "most"] :=
  ⟨_, _, fun_mk (st := sFitsSigns) l c k, PySem.W.mg_of X G a, (fun_mk (st := sFitsSigns) l c k).binds (ps := ["high", "wide", "value", "most"]) fun _ _ _ _ _ _ us hl => match us, hl with | [_, _, _, _], _ => rfl⟩
theorem hereAroundIn {K : PySem.W.Frag} {h : Heap} {mg : Str → Option Value} {f : Addr} {od an : Option Addr} {sl : Array (Option Value)} {oc kV dc pm cd ct : Value} (X : K.In h) (G : h.Ns mainGlobals mg) (a : PySem.W.nsIn K mainGlobals "around_in" = some (some (.ref f)))
    (l : K.lookup f = some ⟨oc, od, .func (PySem.W.fnOf "around_in" "around_in" (defArgs sAroundIn) (defBody sAroundIn) (defScope sAroundIn) .none kV dc pm an cd ct), sl⟩) (c : PySem.W.codeIn K cd "around_in" = true) (k : PySem.W.keepIn K (.ref f) = true) : Here K mg "around_in" sAroundIn ["high", "wide", "row", "column"] :=
  ⟨_, _, fun_mk (st := sAroundIn) l c k, PySem.W.mg_of X G a, (fun_mk (st := sAroundIn) l c k).binds (ps := ["high", "wide", "row", "column"]) fun _ _ _ _ _ _ us hl => match us, hl with | [_, _, _, _], _ => rfl⟩
theorem hereNeedBox {K : PySem.W.Frag} {h : Heap} {mg : Str → Option Value} {f : Addr} {od an : Option Addr} {sl : Array (Option Value)} {oc kV dc pm cd ct : Value} (X : K.In h) (G : h.Ns mainGlobals mg) (a : PySem.W.nsIn K mainGlobals "need_box" = some (some (.ref f)))
    (l : K.lookup f = some ⟨oc, od, .func (PySem.W.fnOf "need_box" "need_box" (defArgs sNeedBox) (defBody sNeedBox) (defScope sNeedBox) .none kV dc pm an cd ct), sl⟩) (c : PySem.W.codeIn K cd "need_box" = true) (k : PySem.W.keepIn K (.ref f) = true) : Here K mg "need_box" sNeedBox ["high", "wide", "most"] :=
  ⟨_, _, fun_mk (st := sNeedBox) l c k, PySem.W.mg_of X G a, (fun_mk (st := sNeedBox) l c k).binds (ps := ["high", "wide", "most"]) fun _ _ _ _ _ _ us hl => match us, hl with | [_, _, _], _ => rfl⟩
theorem hereNeedMarks {K : PySem.W.Frag} {h : Heap} {mg : Str → Option Value} {f : Addr} {od an : Option Addr} {sl : Array (Option Value)} {oc kV dc pm cd ct : Value} (X : K.In h) (G : h.Ns mainGlobals mg) (a : PySem.W.nsIn K mainGlobals "need_marks" = some (some (.ref f)))
    (l : K.lookup f = some ⟨oc, od, .func (PySem.W.fnOf "need_marks" "need_marks" (defArgs sNeedMarks) (defBody sNeedMarks) (defScope sNeedMarks) .none kV dc pm an cd ct), sl⟩) (c : PySem.W.codeIn K cd "need_marks" = true) (k : PySem.W.keepIn K (.ref f) = true) : Here K mg "need_marks" sNeedMarks ["high", "wide", "marks"] :=
  ⟨_, _, fun_mk (st := sNeedMarks) l c k, PySem.W.mg_of X G a, (fun_mk (st := sNeedMarks) l c k).binds (ps := ["high", "wide", "marks"]) fun _ _ _ _ _ _ us hl => match us, hl with | [_, _, _], _ => rfl⟩
theorem hereNeedTold {K : PySem.W.Frag} {h : Heap} {mg : Str → Option Value} {f : Addr} {od an : Option Addr} {sl : Array (Option Value)} {oc kV dc pm cd ct : Value} (X : K.In h) (G : h.Ns mainGlobals mg) (a : PySem.W.nsIn K mainGlobals "need_told" = some (some (.ref f)))
    (l : K.lookup f = some ⟨oc, od, .func (PySem.W.fnOf "need_told" "need_told" (defArgs sNeedTold) (defBody sNeedTold) (defScope sNeedTold) .none kV dc pm an cd ct), sl⟩) (c : PySem.W.codeIn K cd "need_told" = true) (k : PySem.W.keepIn K (.ref f) = true) : Here K mg "need_told" sNeedTold ["high", "wide", "told", "most"] :=
  ⟨_, _, fun_mk (st := sNeedTold) l c k, PySem.W.mg_of X G a, (fun_mk (st := sNeedTold) l c k).binds (ps := ["high", "wide", "told", "most"]) fun _ _ _ _ _ _ us hl => match us, hl with | [_, _, _, _], _ => rfl⟩
theorem hereCountsIn {K : PySem.W.Frag} {h : Heap} {mg : Str → Option Value} {f : Addr} {od an : Option Addr} {sl : Array (Option Value)} {oc kV dc pm cd ct : Value} (X : K.In h) (G : h.Ns mainGlobals mg) (a : PySem.W.nsIn K mainGlobals "counts_in" = some (some (.ref f)))
    (l : K.lookup f = some ⟨oc, od, .func (PySem.W.fnOf "counts_in" "counts_in" (defArgs sCountsIn) (defBody sCountsIn) (defScope sCountsIn) .none kV dc pm an cd ct), sl⟩) (c : PySem.W.codeIn K cd "counts_in" = true) (k : PySem.W.keepIn K (.ref f) = true) : Here K mg "counts_in" sCountsIn ["high", "wide", "marks"] :=
  ⟨_, _, fun_mk (st := sCountsIn) l c k, PySem.W.mg_of X G a, (fun_mk (st := sCountsIn) l c k).binds (ps := ["high", "wide", "marks"]) fun _ _ _ _ _ _ us hl => match us, hl with | [_, _, _], _ => rfl⟩
theorem hereFitsMarks {K : PySem.W.Frag} {h : Heap} {mg : Str → Option Value} {f : Addr} {od an : Option Addr} {sl : Array (Option Value)} {oc kV dc pm cd ct : Value} (X : K.In h) (G : h.Ns mainGlobals mg) (a : PySem.W.nsIn K mainGlobals "fits_marks" = some (some (.ref f)))
    (l : K.lookup f = some ⟨oc, od, .func (PySem.W.fnOf "fits_marks" "fits_marks" (defArgs sFitsMarks) (defBody sFitsMarks) (defScope sFitsMarks) .none kV dc pm an cd ct), sl⟩) (c : PySem.W.codeIn K cd "fits_marks" = true) (k : PySem.W.keepIn K (.ref f) = true) : Here K mg "fits_marks" sFitsMarks ["high", "wide", "told", "marks"] :=
  ⟨_, _, fun_mk (st := sFitsMarks) l c k, PySem.W.mg_of X G a, (fun_mk (st := sFitsMarks) l c k).binds (ps := ["high", "wide", "told", "marks"]) fun _ _ _ _ _ _ us hl => match us, hl with | [_, _, _, _], _ => rfl⟩
theorem hereAreMarks {K : PySem.W.Frag} {h : Heap} {mg : Str → Option Value} {f : Addr} {od an : Option Addr} {sl : Array (Option Value)} {oc kV dc pm cd ct : Value} (X : K.In h) (G : h.Ns mainGlobals mg) (a : PySem.W.nsIn K mainGlobals "are_marks" = some (some (.ref f)))
    (l : K.lookup f = some ⟨oc, od, .func (PySem.W.fnOf "are_marks" "are_marks" (defArgs sAreMarks) (defBody sAreMarks) (defScope sAreMarks) .none kV dc pm an cd ct), sl⟩) (c : PySem.W.codeIn K cd "are_marks" = true) (k : PySem.W.keepIn K (.ref f) = true) : Here K mg "are_marks" sAreMarks ["high", "wide", "value"] :=
  ⟨_, _, fun_mk (st := sAreMarks) l c k, PySem.W.mg_of X G a, (fun_mk (st := sAreMarks) l c k).binds (ps := ["high", "wide", "value"]) fun _ _ _ _ _ _ us hl => match us, hl with | [_, _, _], _ => rfl⟩
theorem hereIsTold {K : PySem.W.Frag} {h : Heap} {mg : Str → Option Value} {f : Addr} {od an : Option Addr} {sl : Array (Option Value)} {oc kV dc pm cd ct : Value} (X : K.In h) (G : h.Ns mainGlobals mg) (a : PySem.W.nsIn K mainGlobals "is_told" = some (some (.ref f)))
    (l : K.lookup f = some ⟨oc, od, .func (PySem.W.fnOf "is_told" "is_told" (defArgs sIsTold) (defBody sIsTold) (defScope sIsTold) .none kV dc pm an cd ct), sl⟩) (c : PySem.W.codeIn K cd "is_told" = true) (k : PySem.W.keepIn K (.ref f) = true) : Here K mg "is_told" sIsTold ["high", "wide", "value"] :=
  ⟨_, _, fun_mk (st := sIsTold) l c k, PySem.W.mg_of X G a, (fun_mk (st := sIsTold) l c k).binds (ps := ["high", "wide", "value"]) fun _ _ _ _ _ _ us hl => match us, hl with | [_, _, _], _ => rfl⟩
theorem hereCountsAround {K : PySem.W.Frag} {h : Heap} {mg : Str → Option Value} {f : Addr} {od an : Option Addr} {sl : Array (Option Value)} {oc kV dc pm cd ct : Value} (X : K.In h) (G : h.Ns mainGlobals mg) (a : PySem.W.nsIn K mainGlobals "counts_around" = some (some (.ref f)))
    (l : K.lookup f = some ⟨oc, od, .func (PySem.W.fnOf "counts_around" "counts_around" (defArgs sCountsAround) (defBody sCountsAround) (defScope sCountsAround) .none kV dc pm an cd ct), sl⟩) (c : PySem.W.codeIn K cd "counts_around" = true) (k : PySem.W.keepIn K (.ref f) = true) : Here K mg "counts_around" sCountsAround ["high", "wide", "marks"] :=
  ⟨_, _, fun_mk (st := sCountsAround) l c k, PySem.W.mg_of X G a, (fun_mk (st := sCountsAround) l c k).binds (ps := ["high", "wide", "marks"]) fun _ _ _ _ _ _ us hl => match us, hl with | [_, _, _], _ => rfl⟩
theorem hereToldBy {K : PySem.W.Frag} {h : Heap} {mg : Str → Option Value} {f : Addr} {od an : Option Addr} {sl : Array (Option Value)} {oc kV dc pm cd ct : Value} (X : K.In h) (G : h.Ns mainGlobals mg) (a : PySem.W.nsIn K mainGlobals "told_by" = some (some (.ref f)))
    (l : K.lookup f = some ⟨oc, od, .func (PySem.W.fnOf "told_by" "told_by" (defArgs sToldBy) (defBody sToldBy) (defScope sToldBy) .none kV dc pm an cd ct), sl⟩) (c : PySem.W.codeIn K cd "told_by" = true) (k : PySem.W.keepIn K (.ref f) = true) : Here K mg "told_by" sToldBy ["high", "wide", "marks", "shown"] :=
  ⟨_, _, fun_mk (st := sToldBy) l c k, PySem.W.mg_of X G a, (fun_mk (st := sToldBy) l c k).binds (ps := ["high", "wide", "marks", "shown"]) fun _ _ _ _ _ _ us hl => match us, hl with | [_, _, _, _], _ => rfl⟩
theorem hereFitsTold {K : PySem.W.Frag} {h : Heap} {mg : Str → Option Value} {f : Addr} {od an : Option Addr} {sl : Array (Option Value)} {oc kV dc pm cd ct : Value} (X : K.In h) (G : h.Ns mainGlobals mg) (a : PySem.W.nsIn K mainGlobals "fits_told" = some (some (.ref f)))
    (l : K.lookup f = some ⟨oc, od, .func (PySem.W.fnOf "fits_told" "fits_told" (defArgs sFitsTold) (defBody sFitsTold) (defScope sFitsTold) .none kV dc pm an cd ct), sl⟩) (c : PySem.W.codeIn K cd "fits_told" = true) (k : PySem.W.keepIn K (.ref f) = true) : Here K mg "fits_told" sFitsTold ["high", "wide", "told", "marks"] :=
  ⟨_, _, fun_mk (st := sFitsTold) l c k, PySem.W.mg_of X G a, (fun_mk (st := sFitsTold) l c k).binds (ps := ["high", "wide", "told", "marks"]) fun _ _ _ _ _ _ us hl => match us, hl with | [_, _, _, _], _ => rfl⟩
theorem hereLawCup {K : PySem.W.Frag} {h : Heap} {mg : Str → Option Value} {f : Addr} {od an : Option Addr} {sl : Array (Option Value)} {oc kV dc pm cd ct : Value} (X : K.In h) (G : h.Ns mainGlobals mg) (a : PySem.W.nsIn K mainGlobals "_law_cup" = some (some (.ref f)))
    (l : K.lookup f = some ⟨oc, od, .func (PySem.W.fnOf "_law_cup" "_law_cup" (defArgs sLawCup) (defBody sLawCup) (defScope sLawCup) .none kV dc pm an cd ct), sl⟩) (c : PySem.W.codeIn K cd "_law_cup" = true) (k : PySem.W.keepIn K (.ref f) = true) : Here K mg "_law_cup" sLawCup ["script"] :=
  ⟨_, _, fun_mk (st := sLawCup) l c k, PySem.W.mg_of X G a, (fun_mk (st := sLawCup) l c k).binds (ps := ["script"]) fun _ _ _ _ _ _ us hl => match us, hl with | [_], _ => rfl⟩
theorem hereLawRoll {K : PySem.W.Frag} {h : Heap} {mg : Str → Option Value} {f : Addr} {od an : Option Addr} {sl : Array (Option Value)} {oc kV dc pm cd ct : Value} (X : K.In h) (G : h.Ns mainGlobals mg) (a : PySem.W.nsIn K mainGlobals "_law_roll" = some (some (.ref f)))
    (l : K.lookup f = some ⟨oc, od, .func (PySem.W.fnOf "_law_roll" "_law_roll" (defArgs sLawRoll) (defBody sLawRoll) (defScope sLawRoll) .none kV dc pm an cd ct), sl⟩) (c : PySem.W.codeIn K cd "_law_roll" = true) (k : PySem.W.keepIn K (.ref f) = true) : Here K mg "_law_roll" sLawRoll ["cup", "many"] :=
  ⟨_, _, fun_mk (st := sLawRoll) l c k, PySem.W.mg_of X G a, (fun_mk (st := sLawRoll) l c k).binds (ps := ["cup", "many"]) fun _ _ _ _ _ _ us hl => match us, hl with | [_, _], _ => rfl⟩
theorem hereLawSome {K : PySem.W.Frag} {h : Heap} {mg : Str → Option Value} {f : Addr} {od an : Option Addr} {sl : Array (Option Value)} {oc kV dc pm cd ct : Value} (X : K.In h) (G : h.Ns mainGlobals mg) (a : PySem.W.nsIn K mainGlobals "_law_some" = some (some (.ref f)))
    (l : K.lookup f = some ⟨oc, od, .func (PySem.W.fnOf "_law_some" "_law_some" (defArgs sLawSome) (defBody sLawSome) (defScope sLawSome) .none kV dc pm an cd ct), sl⟩) (c : PySem.W.codeIn K cd "_law_some" = true) (k : PySem.W.keepIn K (.ref f) = true) : Here K mg "_law_some" sLawSome ["cup", "things"] :=
  ⟨_, _, fun_mk (st := sLawSome) l c k, PySem.W.mg_of X G a, (fun_mk (st := sLawSome) l c k).binds (ps := ["cup", "things"]) fun _ _ _ _ _ _ us hl => match us, hl with | [_, _], _ => rfl⟩
theorem hereLawSame {K : PySem.W.Frag} {h : Heap} {mg : Str → Option Value} {f : Addr} {od an : Option Addr} {sl : Array (Option Value)} {oc kV dc pm cd ct : Value} (X : K.In h) (G : h.Ns mainGlobals mg) (a : PySem.W.nsIn K mainGlobals "_law_same" = some (some (.ref f)))
    (l : K.lookup f = some ⟨oc, od, .func (PySem.W.fnOf "_law_same" "_law_same" (defArgs sLawSame) (defBody sLawSame) (defScope sLawSame) .none kV dc pm an cd ct), sl⟩) (c : PySem.W.codeIn K cd "_law_same" = true) (k : PySem.W.keepIn K (.ref f) = true) : Here K mg "_law_same" sLawSame ["told", "due"] :=
  ⟨_, _, fun_mk (st := sLawSame) l c k, PySem.W.mg_of X G a, (fun_mk (st := sLawSame) l c k).binds (ps := ["told", "due"]) fun _ _ _ _ _ _ us hl => match us, hl with | [_, _], _ => rfl⟩
theorem hereLawMarks {K : PySem.W.Frag} {h : Heap} {mg : Str → Option Value} {f : Addr} {od an : Option Addr} {sl : Array (Option Value)} {oc kV dc pm cd ct : Value} (X : K.In h) (G : h.Ns mainGlobals mg) (a : PySem.W.nsIn K mainGlobals "_law_marks" = some (some (.ref f)))
    (l : K.lookup f = some ⟨oc, od, .func (PySem.W.fnOf "_law_marks" "_law_marks" (defArgs sLawMarks) (defBody sLawMarks) (defScope sLawMarks) .none kV dc pm an cd ct), sl⟩) (c : PySem.W.codeIn K cd "_law_marks" = true) (k : PySem.W.keepIn K (.ref f) = true) : Here K mg "_law_marks" sLawMarks ["cup", "high", "wide", "share"] :=
  ⟨_, _, fun_mk (st := sLawMarks) l c k, PySem.W.mg_of X G a, (fun_mk (st := sLawMarks) l c k).binds (ps := ["cup", "high", "wide", "share"]) fun _ _ _ _ _ _ us hl => match us, hl with | [_, _, _, _], _ => rfl⟩
theorem hereLawCount {K : PySem.W.Frag} {h : Heap} {mg : Str → Option Value} {f : Addr} {od an : Option Addr} {sl : Array (Option Value)} {oc kV dc pm cd ct : Value} (X : K.In h) (G : h.Ns mainGlobals mg) (a : PySem.W.nsIn K mainGlobals "_law_count" = some (some (.ref f)))
    (l : K.lookup f = some ⟨oc, od, .func (PySem.W.fnOf "_law_count" "_law_count" (defArgs sLawCount) (defBody sLawCount) (defScope sLawCount) .none kV dc pm an cd ct), sl⟩) (c : PySem.W.codeIn K cd "_law_count" = true) (k : PySem.W.keepIn K (.ref f) = true) : Here K mg "_law_count" sLawCount ["high", "wide", "marks", "cell"] :=
  ⟨_, _, fun_mk (st := sLawCount) l c k, PySem.W.mg_of X G a, (fun_mk (st := sLawCount) l c k).binds (ps := ["high", "wide", "marks", "cell"]) fun _ _ _ _ _ _ us hl => match us, hl with | [_, _, _, _], _ => rfl⟩
theorem hereLawFits {K : PySem.W.Frag} {h : Heap} {mg : Str → Option Value} {f : Addr} {od an : Option Addr} {sl : Array (Option Value)} {oc kV dc pm cd ct : Value} (X : K.In h) (G : h.Ns mainGlobals mg) (a : PySem.W.nsIn K mainGlobals "_law_fits" = some (some (.ref f)))
    (l : K.lookup f = some ⟨oc, od, .func (PySem.W.fnOf "_law_fits" "_law_fits" (defArgs sLawFits) (defBody sLawFits) (defScope sLawFits) .none kV dc pm an cd ct), sl⟩) (c : PySem.W.codeIn K cd "_law_fits" = true) (k : PySem.W.keepIn K (.ref f) = true) : Here K mg "_law_fits" sLawFits ["high", "wide", "told", "marks"] :=
  ⟨_, _, fun_mk (st := sLawFits) l c k, PySem.W.mg_of X G a, (fun_mk (st := sLawFits) l c k).binds (ps := ["high", "wide", "told", "marks"]) fun _ _ _ _ _ _ us hl => match us, hl with | [_, _, _, _], _ => rfl⟩
theorem hereLawTold {K : PySem.W.Frag} {h : Heap} {mg : Str → Option Value} {f : Addr} {od an : Option Addr} {sl : Array (Option Value)} {oc kV dc pm cd ct : Value} (X : K.In h) (G : h.Ns mainGlobals mg) (a : PySem.W.nsIn K mainGlobals "_law_told" = some (some (.ref f)))
    (l : K.lookup f = some ⟨oc, od, .func (PySem.W.fnOf "_law_told" "_law_told" (defArgs sLawTold) (defBody sLawTold) (defScope sLawTold) .none kV dc pm an cd ct), sl⟩) (c : PySem.W.codeIn K cd "_law_told" = true) (k : PySem.W.keepIn K (.ref f) = true) : Here K mg "_law_told" sLawTold ["cup", "high", "wide", "marks", "share"] :=
  ⟨_, _, fun_mk (st := sLawTold) l c k, PySem.W.mg_of X G a, (fun_mk (st := sLawTold) l c k).binds (ps := ["cup", "high", "wide", "marks", "share"]) fun _ _ _ _ _ _ us hl => match us, hl with | [_, _, _, _, _], _ => rfl⟩
theorem hereLawSigns {K : PySem.W.Frag} {h : Heap} {mg : Str → Option Value} {f : Addr} {od an : Option Addr} {sl : Array (Option Value)} {oc kV dc pm cd ct : Value} (X : K.In h) (G : h.Ns mainGlobals mg) (a : PySem.W.nsIn K mainGlobals "_law_signs" = some (some (.ref f)))
    (l : K.lookup f = some ⟨oc, od, .func (PySem.W.fnOf "_law_signs" "_law_signs" (defArgs sLawSigns) (defBody sLawSigns) (defScope sLawSigns) .none kV dc pm an cd ct), sl⟩) (c : PySem.W.codeIn K cd "_law_signs" = true) (k : PySem.W.keepIn K (.ref f) = true) : Here K mg "_law_signs" sLawSigns ["high", "wide", "value", "most"] :=
  ⟨_, _, fun_mk (st := sLawSigns) l c k, PySem.W.mg_of X G a, (fun_mk (st := sLawSigns) l c k).binds (ps := ["high", "wide", "value", "most"]) fun _ _ _ _ _ _ us hl => match us, hl with | [_, _, _, _], _ => rfl⟩
theorem hereLaw {K : PySem.W.Frag} {h : Heap} {mg : Str → Option Value} {f : Addr} {od an : Option Addr} {sl : Array (Option Value)} {oc kV dc pm cd ct : Value} (X : K.In h) (G : h.Ns mainGlobals mg) (a : PySem.W.nsIn K mainGlobals "law" = some (some (.ref f)))
    (l : K.lookup f = some ⟨oc, od, .func (PySem.W.fnOf "law" "law" (defArgs sLaw) (defBody sLaw) (defScope sLaw) .none kV dc pm an cd ct), sl⟩) (c : PySem.W.codeIn K cd "law" = true) (k : PySem.W.keepIn K (.ref f) = true) : Here K mg "law" sLaw ["script"] :=
  ⟨_, _, fun_mk (st := sLaw) l c k, PySem.W.mg_of X G a, (fun_mk (st := sLaw) l c k).binds (ps := ["script"]) fun _ _ _ _ _ _ us hl => match us, hl with | [_], _ => rfl⟩
theorem isInt_mk {K : PySem.W.Frag} {h : Heap} {mg : Str → Option Value} {x : Str} {n : Int} {t : Tok} (X : K.In h) (G : h.Ns mainGlobals mg) (a : PySem.W.nsIn K mainGlobals x = some (some (.int n t))) : IsInt mg x n := ⟨t, PySem.W.mg_of X G a⟩
def spLaw (K : PySem.W.Frag) : Sp := fun vs H Q _ => ∃ (a : Addr) (ns : List Int), vs = [.ref a] ∧ SqL K H a (ns.map V.int) ∧ ns.length ≤ 63 ∧ ∀ H', Q (.bl true) H'
theorem law_sp {K : PySem.W.Frag} {vs : List V} {H : Hp} {Q : VK} {E : XK} (h : spLaw K vs H Q E) : SpF K afLaw vs H Q E := by
  obtain ⟨a, ns, rfl, hs, hl, hq⟩ := h
  have s : Sl K H H [.im (.scr ns)] ([V.ref a].map some) (own [.im (.scr ns)] ([V.ref a].map some)) := by
    refine ⟨rfl, fun i d e => ?_, fun i c e => ?_, fun i j c c' p _ e => ?_, Ex.refl H, fun x z => ?_⟩
    · match i, e with
      | 0, e => cases e; exact ⟨_, rfl, .scr hs⟩
    · match i, e with
      | 0, e => cases e
    · match i, e with
      | 0, e => cases e
    · obtain ⟨i, c, e, _⟩ := z
      match i, e with
      | 0, e => cases e
  refine ⟨[.im (.scr ns)], H, fun d _ => d = .bl true, s, ⟨ns, rfl, by omega, rfl⟩, fun v d ρ' F' H' _ _ r e => ?_⟩
  subst e
  cases r
  exact hq H'
theorem all_mk {l : PySem.W.OpenLaw} {w : World} {K : PySem.W.Frag} {mg : Str → Option Value} {fa : Addr} (hfa : mg "law" = some (.ref fa)) (Bn : Bt mg) (cGREAT : IsInt mg "GREAT" 30) (cOPEN : IsInt mg "OPEN" 9)
    (h_fits_whole : Here K mg "fits_whole" sFitsWhole ["value", "low", "high"]) (h_is_tuple_of : Here K mg "is_tuple_of" sIsTupleOf ["value", "least", "most"]) (h_fits_box : Here K mg "fits_box" sFitsBox ["high", "wide", "most"]) (h_fits_signs : Here K mg "fits_signs" sFitsSigns ["high", "wide", "value", "most"])
    (h_around_in : Here K mg "around_in" sAroundIn ["high", "wide", "row", "column"]) (h_need_box : Here K mg "need_box" sNeedBox ["high", "wide", "most"]) (h_need_marks : Here K mg "need_marks" sNeedMarks ["high", "wide", "marks"]) (h_need_told : Here K mg "need_told" sNeedTold ["high", "wide", "told", "most"])
    (h_counts_in : Here K mg "counts_in" sCountsIn ["high", "wide", "marks"]) (h_fits_marks : Here K mg "fits_marks" sFitsMarks ["high", "wide", "told", "marks"]) (h_are_marks : Here K mg "are_marks" sAreMarks ["high", "wide", "value"]) (h_is_told : Here K mg "is_told" sIsTold ["high", "wide", "value"])
    (h_counts_around : Here K mg "counts_around" sCountsAround ["high", "wide", "marks"]) (h_told_by : Here K mg "told_by" sToldBy ["high", "wide", "marks", "shown"]) (h_fits_told : Here K mg "fits_told" sFitsTold ["high", "wide", "told", "marks"])
    (h_law_cup : Here K mg "_law_cup" sLawCup ["script"]) (h_law_roll : Here K mg "_law_roll" sLawRoll ["cup", "many"]) (h_law_some : Here K mg "_law_some" sLawSome ["cup", "things"]) (h_law_same : Here K mg "_law_same" sLawSame ["told", "due"]) (h_law_marks : Here K mg "_law_marks" sLawMarks ["cup", "high", "wide", "share"])
    (h_law_count : Here K mg "_law_count" sLawCount ["high", "wide", "marks", "cell"]) (h_law_fits : Here K mg "_law_fits" sLawFits ["high", "wide", "told", "marks"]) (h_law_told : Here K mg "_law_told" sLawTold ["cup", "high", "wide", "marks", "share"]) (h_law_signs : Here K mg "_law_signs" sLawSigns ["high", "wide", "value", "most"]) (h_law : Here K mg "law" sLaw ["script"]) :
    ∃ fd : FuncData, (∀ (s : Shared) (v : Value), BindsTo s fd ⟨[v], []⟩ [("script", v)]) ∧ ∀ base : Heap, K.In base → base.Ns mainGlobals mg → FnOk l.prog w K mg base CX0 7 fa fd ["script"] (spLaw K) := by
  obtain ⟨f, fd, Fn, hm, hb⟩ := h_law
  have e := hfa.symm.trans hm
  cases e
  have go : ∀ base : Heap, FnOk l.prog w K mg base CX0 7 fa fd ["script"] (SpF K afLaw) := fun base => by
    have d_fits_whole := ok_fits_whole (P := l.prog) (w := w) (base := base) Bn h_fits_whole
    have d_is_tuple_of := ok_is_tuple_of (P := l.prog) (w := w) (base := base) Bn h_is_tuple_of
    have d_fits_box := ok_fits_box Bn cGREAT h_fits_box d_fits_whole
    have d_fits_signs := ok_fits_signs Bn h_fits_signs d_fits_whole d_is_tuple_of
    have d_around_in := ok_around_in (P := l.prog) (w := w) (base := base) Bn h_around_in
    have d_need_box := ok_need_box h_need_box d_fits_box
    have d_need_marks := ok_need_marks cGREAT h_need_marks d_need_box d_fits_signs
    have d_need_told := ok_need_told cOPEN h_need_told d_need_box d_fits_signs
    have d_counts_in := ok_counts_in Bn h_counts_in d_around_in
    have d_fits_marks := ok_fits_marks Bn cOPEN h_fits_marks d_counts_in
    have d_are_marks := ok_are_marks cGREAT h_are_marks d_need_box d_fits_signs
    have d_is_told := ok_is_told cGREAT cOPEN h_is_told d_need_box d_fits_signs
    have d_counts_around := ok_counts_around Bn h_counts_around d_need_marks d_counts_in
    have d_told_by := ok_told_by Bn cOPEN h_told_by d_need_marks d_fits_signs d_counts_in
    have d_fits_told := ok_fits_told cGREAT h_fits_told d_need_told d_fits_signs d_fits_marks
    have d_law_cup := ok_law_cup (P := l.prog) (w := w) (base := base) Bn h_law_cup
    have d_law_roll := ok_law_roll (P := l.prog) (w := w) (base := base) Bn h_law_roll
    have d_law_some := ok_law_some Bn h_law_some d_law_roll
    have d_law_same := ok_law_same (P := l.prog) (w := w) (base := base) Bn h_law_same 6
    have d_law_marks := ok_law_marks Bn h_law_marks d_law_roll
    have d_law_count := ok_law_count (P := l.prog) (w := w) (base := base) Bn h_law_count
    have d_law_fits := ok_law_fits Bn h_law_fits d_law_count
    have d_law_told := ok_law_told Bn h_law_told d_law_roll d_law_count
    have d_law_signs := ok_law_signs (P := l.prog) (w := w) (base := base) Bn h_law_signs
    exact ok_law Bn Fn d_law_cup d_law_roll d_law_some d_law_marks d_law_count d_law_same d_counts_around d_told_by d_fits_told d_law_fits d_law_told d_law_signs d_are_marks d_is_told
  obtain ⟨⟨oc, od, kV, doc, pm, an, cdv, ct, osl, rfl, l, c⟩, k⟩ := Fn
  exact ⟨_, fun s v => .of_eq rfl, fun base _ _ => (go base).imp fun vs H Q E => law_sp⟩
end K76

open PySem PySem.W PyProof.Rows
theorem PySem.Challenge.cw_cellhall_k76_whole_counts_around_cells_holds : PySem.Challenge.rw_cellhall_k76_whole_counts_around_cells.Holds := by
  w_on; o_law; k_head; (case hw => w_witness2)
  k_fill
  refine L2.walk_of (l := PySem.Challenge.rw_cellhall_k76_whole_counts_around_cells) (n := 63) (k := 7) (x := "script") (CX := fun _ => L2.CX0) (sp := fun w => K76.spLaw _) rfl (by decide) rfl ⟨rfl, by decide, by decide⟩ (fun w h Y => PySem.W.kIn_of Y) ?F (fun _ _ a ns hl _ hS => ⟨a, ns, rfl, hS, hl, fun _ => rfl⟩) (fun _ _ _ _ _ h => h)
  case F =>
    intro w mg fa h KX G hmg
    refine' K76.all_mk hmg ⟨PySem.W.mg_none_of KX G ?z_abs, PySem.W.mg_none_of KX G ?z_all, PySem.W.mg_none_of KX G ?z_any, PySem.W.mg_none_of KX G ?z_bool, PySem.W.mg_none_of KX G ?z_dict, PySem.W.mg_none_of KX G ?z_enumerate, PySem.W.mg_none_of KX G ?z_int, PySem.W.mg_none_of KX G ?z_isinstance, PySem.W.mg_none_of KX G ?z_len, PySem.W.mg_none_of KX G ?z_list, PySem.W.mg_none_of KX G ?z_max, PySem.W.mg_none_of KX G ?z_min, PySem.W.mg_none_of KX G ?z_range, PySem.W.mg_none_of KX G ?z_set, PySem.W.mg_none_of KX G ?z_sorted, PySem.W.mg_none_of KX G ?z_str, PySem.W.mg_none_of KX G ?z_sum, PySem.W.mg_none_of KX G ?z_tuple, PySem.W.mg_none_of KX G ?z_zip⟩ (K76.isInt_mk KX G ?g_GREAT) (K76.isInt_mk KX G ?g_OPEN)
      (K76.hereFitsWhole KX G ?a_FitsWhole ?l_FitsWhole ?c_FitsWhole ?k_FitsWhole)
      (K76.hereIsTupleOf KX G ?a_IsTupleOf ?l_IsTupleOf ?c_IsTupleOf ?k_IsTupleOf)
      (K76.hereFitsBox KX G ?a_FitsBox ?l_FitsBox ?c_FitsBox ?k_FitsBox)
      (K76.hereFitsSigns KX G ?a_FitsSigns ?l_FitsSigns ?c_FitsSigns ?k_FitsSigns)
      (K76.hereAroundIn KX G ?a_AroundIn ?l_AroundIn ?c_AroundIn ?k_AroundIn)
      (K76.hereNeedBox KX G ?a_NeedBox ?l_NeedBox ?c_NeedBox ?k_NeedBox)
      (K76.hereNeedMarks KX G ?a_NeedMarks ?l_NeedMarks ?c_NeedMarks ?k_NeedMarks)
      (K76.hereNeedTold KX G ?a_NeedTold ?l_NeedTold ?c_NeedTold ?k_NeedTold)
      (K76.hereCountsIn KX G ?a_CountsIn ?l_CountsIn ?c_CountsIn ?k_CountsIn)
      (K76.hereFitsMarks KX G ?a_FitsMarks ?l_FitsMarks ?c_FitsMarks ?k_FitsMarks)
      (K76.hereAreMarks KX G ?a_AreMarks ?l_AreMarks ?c_AreMarks ?k_AreMarks)
      (K76.hereIsTold KX G ?a_IsTold ?l_IsTold ?c_IsTold ?k_IsTold)
      (K76.hereCountsAround KX G ?a_CountsAround ?l_CountsAround ?c_CountsAround ?k_CountsAround)
      (K76.hereToldBy KX G ?a_ToldBy ?l_ToldBy ?c_ToldBy ?k_ToldBy)
      (K76.hereFitsTold KX G ?a_FitsTold ?l_FitsTold ?c_FitsTold ?k_FitsTold)
      (K76.hereLawCup KX G ?a_LawCup ?l_LawCup ?c_LawCup ?k_LawCup)
      (K76.hereLawRoll KX G ?a_LawRoll ?l_LawRoll ?c_LawRoll ?k_LawRoll)
      (K76.hereLawSome KX G ?a_LawSome ?l_LawSome ?c_LawSome ?k_LawSome)
      (K76.hereLawSame KX G ?a_LawSame ?l_LawSame ?c_LawSame ?k_LawSame)
      (K76.hereLawMarks KX G ?a_LawMarks ?l_LawMarks ?c_LawMarks ?k_LawMarks)
      (K76.hereLawCount KX G ?a_LawCount ?l_LawCount ?c_LawCount ?k_LawCount)
      (K76.hereLawFits KX G ?a_LawFits ?l_LawFits ?c_LawFits ?k_LawFits)
      (K76.hereLawTold KX G ?a_LawTold ?l_LawTold ?c_LawTold ?k_LawTold)
      (K76.hereLawSigns KX G ?a_LawSigns ?l_LawSigns ?c_LawSigns ?k_LawSigns)
      (K76.hereLaw KX G ?a_Law ?l_Law ?c_Law ?k_Law)
    (case z_abs => k_is)
    (case z_all => k_is)
    (case z_any => k_is)
    (case z_bool => k_is)
    (case z_dict => k_is)
    (case z_enumerate => k_is)
    (case z_int => k_is)
    (case z_isinstance => k_is)
    (case z_len => k_is)
    (case z_list => k_is)
    (case z_max => k_is)
    (case z_min => k_is)
    (case z_range => k_is)
    (case z_set => k_is)
    (case z_sorted => k_is)
    (case z_str => k_is)
    (case z_sum => k_is)
    (case z_tuple => k_is)
    (case z_zip => k_is)
    (case g_GREAT => k_is)
    (case g_OPEN => k_is)
    (case a_FitsWhole => k_is)
    (case l_FitsWhole => k_is)
    (case c_FitsWhole => k_is)
    (case k_FitsWhole => k_is)
    (case a_IsTupleOf => k_is)
    (case l_IsTupleOf => k_is)
    (case c_IsTupleOf => k_is)
    (case k_IsTupleOf => k_is)
    (case a_FitsBox => k_is)
    (case l_FitsBox => k_is)
    (case c_FitsBox => k_is)
    (case k_FitsBox => k_is)
    (case a_FitsSigns => k_is)
    (case l_FitsSigns => k_is)
    (case c_FitsSigns => k_is)
    (case k_FitsSigns => k_is)
    (case a_AroundIn => k_is)
    (case l_AroundIn => k_is)
    (case c_AroundIn => k_is)
    (case k_AroundIn => k_is)
    (case a_NeedBox => k_is)
    (case l_NeedBox => k_is)
    (case c_NeedBox => k_is)
    (case k_NeedBox => k_is)
    (case a_NeedMarks => k_is)
    (case l_NeedMarks => k_is)
    (case c_NeedMarks => k_is)
    (case k_NeedMarks => k_is)
    (case a_NeedTold => k_is)
    (case l_NeedTold => k_is)
    (case c_NeedTold => k_is)
    (case k_NeedTold => k_is)
    (case a_CountsIn => k_is)
    (case l_CountsIn => k_is)
    (case c_CountsIn => k_is)
    (case k_CountsIn => k_is)
    (case a_FitsMarks => k_is)
    (case l_FitsMarks => k_is)
    (case c_FitsMarks => k_is)
    (case k_FitsMarks => k_is)
    (case a_AreMarks => k_is)
    (case l_AreMarks => k_is)
    (case c_AreMarks => k_is)
    (case k_AreMarks => k_is)
    (case a_IsTold => k_is)
    (case l_IsTold => k_is)
    (case c_IsTold => k_is)
    (case k_IsTold => k_is)
    (case a_CountsAround => k_is)
    (case l_CountsAround => k_is)
    (case c_CountsAround => k_is)
    (case k_CountsAround => k_is)
    (case a_ToldBy => k_is)
    (case l_ToldBy => k_is)
    (case c_ToldBy => k_is)
    (case k_ToldBy => k_is)
    (case a_FitsTold => k_is)
    (case l_FitsTold => k_is)
    (case c_FitsTold => k_is)
    (case k_FitsTold => k_is)
    (case a_LawCup => k_is)
    (case l_LawCup => k_is)
    (case c_LawCup => k_is)
    (case k_LawCup => k_is)
    (case a_LawRoll => k_is)
    (case l_LawRoll => k_is)
    (case c_LawRoll => k_is)
    (case k_LawRoll => k_is)
    (case a_LawSome => k_is)
    (case l_LawSome => k_is)
    (case c_LawSome => k_is)
    (case k_LawSome => k_is)
    (case a_LawSame => k_is)
    (case l_LawSame => k_is)
    (case c_LawSame => k_is)
    (case k_LawSame => k_is)
    (case a_LawMarks => k_is)
    (case l_LawMarks => k_is)
    (case c_LawMarks => k_is)
    (case k_LawMarks => k_is)
    (case a_LawCount => k_is)
    (case l_LawCount => k_is)
    (case c_LawCount => k_is)
    (case k_LawCount => k_is)
    (case a_LawFits => k_is)
    (case l_LawFits => k_is)
    (case c_LawFits => k_is)
    (case k_LawFits => k_is)
    (case a_LawTold => k_is)
    (case l_LawTold => k_is)
    (case c_LawTold => k_is)
    (case k_LawTold => k_is)
    (case a_LawSigns => k_is)
    (case l_LawSigns => k_is)
    (case c_LawSigns => k_is)
    (case k_LawSigns => k_is)
    (case a_Law => k_is)
    (case l_Law => k_is)
    (case c_Law => k_is)
    (case k_Law => k_is)
