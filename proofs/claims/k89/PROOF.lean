import PyProof.Rows.All
import Wide.All
import OpenK.AllK
import Wide.FinOn
import HandS.ForMost
import HandS.EndBits
import HandS.Wide
import HandS.Flow
import HandS.Style
import KE.KeyNested
import KE.KDictWalk
import HandS.IsInst
import HandS.TupAny
import HandS.Deep
import PyProof.P3In
import KE.GoesNew
import HandS.IterVal
import KE.SortData
import KE.KDictSum
import KE.KDictCopyH
import HandS.TupLen
import HandS.TupSets
import KE.SortKeyHeap
import HandS.SortKw
import PyProof.MinMaxWalk
import PyProof.WalksMore
import KE.KDictDisplayH
import KE.KRevSl
import PySem.Challenge.RW_cellhall_k89_whole_orders_of_boxes
set_option Elab.async false
set_option linter.all false
set_option maxRecDepth 100000
set_option maxHeartbeats 2000000
/-! DL: plain data over the hand layer: what a slot holds, as data; what a callee may change; readings over data alone. -/
namespace DL
open PySem PySem.Spec L2
open PyProof.Rows hiding St

/-! ### data -/
inductive D where
  | non | bl (b : Bool) | int (i : Int) | str (x : Str) | tup (ds : List D) | lst (ds : List D) | adr (a : Addr) | scr (ns : List Int) | dic (ks vs : List D)

def Ex (F H : Hp) : Prop := ∀ a o, F a = some o → H a = some o
theorem Ex.refl (H : Hp) : Ex H H := fun _ _ h => h
theorem Ex.trans {F G H : Hp} (a : Ex F G) (b : Ex G H) : Ex F H := fun x o h => b x o (a x o h)
theorem Ex.new {H : Hp} {p : Addr} {o : HO} (h : H p = none) : Ex H (upd H p o) := fun a u e => by
  rw [upd_ne (ne_of_none e h)]; exact e
theorem Ex.rd {F H : Hp} {a : Addr} {u : HO} (e : Ex F H) (h : Rd F a u) : Rd H a u := by
  rcases h with h | ⟨o, h⟩
  · exact .inl (e a _ h)
  · exact .inr ⟨o, e a _ h⟩
theorem Ex.l {K : PySem.W.Frag} {F H : Hp} {a : Addr} {xs : List V} (e : Ex F H) (h : SqL K F a xs) : SqL K H a xs := by
  rcases h with h | h
  · exact .inl (e.rd h)
  · exact .inr h
theorem Ex.t {K : PySem.W.Frag} {F H : Hp} {a : Addr} {xs : List V} (e : Ex F H) (h : SqT K F a xs) : SqT K H a xs := by
  rcases h with h | h
  · exact .inl (e.rd h)
  · exact .inr h

mutual
/-- a key: whole numbers, truth values, None, tuples of such -/
def keyN : D → Option NestedKey
  | .non => some .none
  | .bl b => some (.num (if b then 1 else 0))
  | .int i => some (.num i)
  | .tup ds => (keysN ds).map .tup
  | _ => none
def keysN : List D → Option (List NestedKey)
  | [] => some []
  | d :: ds => match keyN d, keysN ds with
    | some k, some ks => some (k :: ks)
    | _, _ => none
end
/-- a plain dict's entries -/
abbrev NH (a : Addr) (es : Array DictEntry) (ep : Nat) : HO := .ext fun h => h.DictRaw a es ep
def entN (w : World) (x : NestedKey × Addr × Value) : DictEntry := ⟨x.1.hash w, .ref x.2.1, x.2.2⟩
structure DEnt (a : Addr) (es : Array DictEntry) (xs : List (NestedKey × Addr × Value)) : Prop where
  low : (a == sysModules) = false
  ent : ∀ w : World, es.toList = xs.map (entN w)
  nd : (xs.map (·.1)).Nodup
  dp : ∀ x ∈ xs, x.1.depth ≤ 8

mutual
inductive Rp (K : PySem.W.Frag) (F : Hp) : V → D → Prop
  | non : Rp K F .non .non
  | bl (b : Bool) : Rp K F (.bl b) (.bl b)
  | int (i : Int) : Rp K F (.int i) (.int i)
  | str (x : Str) : Rp K F (.str x) (.str x)
  | lst {a : Addr} {xs : List V} {ds : List D} : F a = some (.lst xs) → RpA K F xs ds → Rp K F (.ref a) (.lst ds)
  | tup {a : Addr} {xs : List V} {ds : List D} : SqT K F a xs → RpA K F xs ds → Rp K F (.ref a) (.tup ds)
  | adr (a : Addr) : Rp K F (.ref a) (.adr a)
  | scr {a : Addr} {ns : List Int} : SqL K F a (ns.map V.int) → Rp K F (.ref a) (.scr ns)
  | dic {a : Addr} {es : Array DictEntry} {ep : Nat} {xs : List (NestedKey × Addr × Value)} {ys : List V} {ks vs : List D} : F a = some (NH a es ep) → DEnt a es xs → Vals ys (xs.map fun x => x.2.2) → ks.map keyN = xs.map (fun x => some x.1) →
      RpA K F (xs.map fun x => V.ref x.2.1) ks → RpA K F ys vs → Rp K F (.ref a) (.dic ks vs)
inductive RpA (K : PySem.W.Frag) (F : Hp) : List V → List D → Prop
  | nil : RpA K F [] []
  | cons {v : V} {vs : List V} {d : D} {ds : List D} : Rp K F v d → RpA K F vs ds → RpA K F (v :: vs) (d :: ds)
end
mutual
theorem Rp.mono {K : PySem.W.Frag} {F H : Hp} (e : Ex F H) : ∀ {v : V} {d : D}, Rp K F v d → Rp K H v d
  | _, _, .non => .non
  | _, _, .bl b => .bl b
  | _, _, .int i => .int i
  | _, _, .str x => .str x
  | _, _, .lst h t => .lst (e _ _ h) (RpA.mono e t)
  | _, _, .tup h t => .tup (e.t h) (RpA.mono e t)
  | _, _, .adr a => .adr a
  | _, _, .scr h => .scr (e.l h)
  | _, _, .dic h1 h2 h3 h4 h5 h6 => .dic (e _ _ h1) h2 h3 h4 (RpA.mono e h5) (RpA.mono e h6)
theorem RpA.mono {K : PySem.W.Frag} {F H : Hp} (e : Ex F H) : ∀ {vs : List V} {ds : List D}, RpA K F vs ds → RpA K H vs ds
  | _, _, .nil => .nil
  | _, _, .cons h t => .cons (Rp.mono e h) (RpA.mono e t)
end
section
variable {K : PySem.W.Frag} {F H : Hp}
theorem RpA.length : ∀ {vs : List V} {ds : List D}, RpA K F vs ds → vs.length = ds.length
  | _, _, .nil => rfl
  | _, _, .cons _ t => by rw [List.length_cons, List.length_cons, RpA.length t]
theorem RpA.get : ∀ {vs : List V} {ds : List D} {i : Nat} {d : D}, RpA K F vs ds → ds[i]? = some d → ∃ v, vs[i]? = some v ∧ Rp K F v d
  | _, _, _, _, .nil, e => by simp at e
  | _, _, 0, _, .cons r _, e => by simp at e; subst e; exact ⟨_, rfl, r⟩
  | _, _, i + 1, d, .cons _ t, e => by
    obtain ⟨v, h1, h2⟩ := RpA.get (i := i) (d := d) t (by simpa using e)
    exact ⟨v, by simpa using h1, h2⟩
theorem RpA.getV : ∀ {vs : List V} {ds : List D} {i : Nat} {v : V}, RpA K F vs ds → vs[i]? = some v → ∃ d, ds[i]? = some d ∧ Rp K F v d
  | _, _, _, _, .nil, e => by simp at e
  | _, _, 0, _, .cons r _, e => by simp at e; subst e; exact ⟨_, rfl, r⟩
  | _, _, i + 1, d, .cons _ t, e => by
    obtain ⟨v, h1, h2⟩ := RpA.getV (i := i) (v := d) t (by simpa using e)
    exact ⟨v, by simpa using h1, h2⟩
theorem RpA.append : ∀ {xs ys : List V} {ds es : List D}, RpA K F xs ds → RpA K F ys es → RpA K F (xs ++ ys) (ds ++ es)
  | _, _, _, _, .nil, s => s
  | _, _, _, _, .cons r t, s => .cons r (RpA.append t s)
theorem RpA.take : ∀ {xs : List V} {ds : List D} (n : Nat), RpA K F xs ds → RpA K F (xs.take n) (ds.take n)
  | _, _, 0, _ => .nil
  | _, _, _ + 1, .nil => .nil
  | _, _, n + 1, .cons r t => .cons r (RpA.take n t)
theorem RpA.drop : ∀ {xs : List V} {ds : List D} (n : Nat), RpA K F xs ds → RpA K F (xs.drop n) (ds.drop n)
  | _, _, 0, r => r
  | _, _, _ + 1, .nil => .nil
  | _, _, n + 1, .cons _ t => RpA.drop n t
theorem RpA.set {x : V} {d : D} (r : Rp K F x d) : ∀ {xs : List V} {ds : List D} (i : Nat), RpA K F xs ds → RpA K F (xs.set i x) (ds.set i d)
  | _, _, _, .nil => .nil
  | _, _, 0, .cons _ t => .cons r t
  | _, _, i + 1, .cons q t => .cons q (RpA.set r i t)
theorem RpA.rev : ∀ {xs : List V} {ds : List D}, RpA K F xs ds → RpA K F xs.reverse ds.reverse
  | _, _, .nil => .nil
  | _, _, .cons r t => by
    rw [List.reverse_cons, List.reverse_cons]
    exact RpA.append (RpA.rev t) (.cons r .nil)
theorem RpA.ints : ∀ {ns : List Int}, RpA K F (ns.map V.int) (ns.map D.int)
  | [] => .nil
  | n :: r => .cons (.int n) RpA.ints
theorem RpA.ofInts : ∀ {vs : List V} {ns : List Int}, RpA K F vs (ns.map D.int) → vs = ns.map V.int
  | _, [], .nil => rfl
  | _, n :: r, .cons h t => by
    cases h
    rw [RpA.ofInts t]; rfl
theorem RpA.bls : ∀ {vs : List V} {bs : List Bool}, RpA K F vs (bs.map D.bl) → vs = bs.map V.bl
  | _, [], .nil => rfl
  | _, n :: r, .cons h t => by
    cases h
    rw [RpA.bls t]; rfl
end

/-! ### slots -/
/-- a dict at p: its keys, its values -/
def DicAt (K : PySem.W.Frag) (F H : Hp) (p : Addr) (ks vs : List D) : Prop := ∃ (es : Array DictEntry) (ep : Nat) (xs : List (NestedKey × Addr × Value)) (ys : List V), H p = some (NH p es ep) ∧ DEnt p es xs ∧ Vals ys (xs.map fun x => x.2.2) ∧
  ks.map keyN = xs.map (fun x => some x.1) ∧ RpA K F (xs.map fun x => V.ref x.2.1) ks ∧ RpA K F ys vs
theorem DicAt.mono {K : PySem.W.Frag} {F F' H H' : Hp} {p : Addr} {ks vs : List D} (e : Ex F F') (h : H' p = H p) (x : DicAt K F H p ks vs) : DicAt K F' H' p ks vs := by
  obtain ⟨es, ep, xs, ys, h1, h2, h3, h4, h5, h6⟩ := x
  exact ⟨es, ep, xs, ys, h.trans h1, h2, h3, h4, h5.mono e, h6.mono e⟩
/-- what an owned object holds -/
inductive OC where
  | ol (ds : List D)
  | od (ks vs : List D)
inductive SV where
  | un | im (d : D) | ow (c : OC)
abbrev AR := List SV
inductive AV where
  | im (d : D) | bo (i : Nat)

def OcOk (K : PySem.W.Frag) (F H : Hp) (p : Addr) : OC → Prop
  | .ol ds => ∃ xs, H p = some (.lst xs) ∧ RpA K F xs ds
  | .od ks vs => DicAt K F H p ks vs
theorem OcOk.mono {K : PySem.W.Frag} {F F' H H' : Hp} {p : Addr} {c : OC} (e : Ex F F') (h : H' p = H p) (x : OcOk K F H p c) : OcOk K F' H' p c := by
  cases c with
  | ol ds =>
    obtain ⟨xs, h1, h2⟩ := x
    exact ⟨xs, h.trans h1, h2.mono e⟩
  | od ks vs => exact DicAt.mono e h x
theorem OcOk.some {K : PySem.W.Frag} {F H : Hp} {p : Addr} {c : OC} (x : OcOk K F H p c) : ∃ o, H p = some o := by
  cases c with
  | ol ds =>
    obtain ⟨xs, h1, h2⟩ := x
    exact ⟨_, h1⟩
  | od ks vs =>
    obtain ⟨es, ep, xs, ys, h1, _⟩ := x
    exact ⟨_, h1⟩

structure Sl (K : PySem.W.Frag) (F H : Hp) (ρ : AR) (σ : St) (O : Addr → Prop) : Prop where
  len : ρ.length = σ.length
  im : ∀ (i : Nat) (d : D), ρ[i]? = some (.im d) → ∃ v, σ[i]? = some (some v) ∧ Rp K F v d
  ow : ∀ (i : Nat) (c : OC), ρ[i]? = some (.ow c) → ∃ p : Addr, σ[i]? = some (some (.ref p)) ∧ O p ∧ OcOk K F H p c
  ap : ∀ (i j : Nat) (c c' : OC) (p : Addr), i ≠ j → ρ[i]? = some (.ow c) → ρ[j]? = some (.ow c') → σ[i]? = some (some (.ref p)) → σ[j]? ≠ some (some (.ref p))
  ex : Ex F H
  fo : ∀ a, O a → F a = none ∧ ∃ o, H a = some o

structure Kp (O : Addr → Prop) (F H : Hp) (O' : Addr → Prop) (F' H' : Hp) : Prop where
  h1 : ∀ a o, H a = some o → ¬ O a → H' a = some o
  h2 : Ex F F'
  h3 : ∀ a o, F' a = some o → F a = some o ∨ O a ∨ H a = none
  h4 : ∀ a, O' a → O a ∨ H a = none
theorem Kp.refl {O : Addr → Prop} {F H : Hp} : Kp O F H O F H := ⟨fun _ _ h _ => h, Ex.refl F, fun _ _ h => .inl h, fun _ h => .inl h⟩
theorem Kp.trans {O O1 O2 : Addr → Prop} {F H F1 H1 F2 H2 : Hp} (a : Kp O F H O1 F1 H1) (b : Kp O1 F1 H1 O2 F2 H2) : Kp O F H O2 F2 H2 where
  h1 := fun x o h n => b.h1 x o (a.h1 x o h n) fun z => by
    rcases a.h4 x z with q | q
    · exact n q
    · rw [h] at q; cases q
  h2 := a.h2.trans b.h2
  h3 := fun x o h => by
    have back : H1 x = none → O x ∨ H x = none := fun q => by
      by_cases hO : O x
      · exact .inl hO
      · cases e : H x with
        | none => exact .inr rfl
        | some u => rw [a.h1 x u e hO] at q; cases q
    rcases b.h3 x o h with q | q | q
    · exact a.h3 x o q
    · exact .inr (a.h4 x q)
    · exact .inr (back q)
  h4 := fun x h => by
    rcases b.h4 x h with q | q
    · exact a.h4 x q
    · by_cases hO : O x
      · exact .inl hO
      · cases e : H x with
        | none => exact .inr rfl
        | some u => rw [a.h1 x u e hO] at q; cases q

/-- only new things came -/
structure KF (F H F' H' : Hp) : Prop where
  f : Ex F F'
  h : Ex H H'
  fh : Ex F' H'
  new : ∀ a o, F' a = some o → F a = some o ∨ H a = none
theorem KF.refl {F H : Hp} (e : Ex F H) : KF F H F H := ⟨Ex.refl F, Ex.refl H, e, fun _ _ h => .inl h⟩
theorem KF.trans {F H F1 H1 F2 H2 : Hp} (a : KF F H F1 H1) (b : KF F1 H1 F2 H2) : KF F H F2 H2 :=
  ⟨a.f.trans b.f, a.h.trans b.h, b.fh, fun x o h => by
    rcases b.new x o h with q | q
    · exact a.new x o q
    · cases e : H x with
      | none => exact .inr rfl
      | some u => rw [a.h x u e] at q; cases q⟩
theorem KF.kp {F H F' H' : Hp} {O : Addr → Prop} (k : KF F H F' H') : Kp O F H O F' H' :=
  ⟨fun a o h _ => k.h a o h, k.f, fun a o h => (k.new a o h).elim .inl fun q => .inr (.inr q), fun _ h => .inl h⟩
/-- a new frozen object -/
theorem KF.put {F H : Hp} (e : Ex F H) {p : Addr} {o : HO} (hp : H p = none) : KF F H (upd F p o) (upd H p o) := by
  have fp : F p = none := by
    cases q : F p with
    | none => rfl
    | some u => rw [e p u q] at hp; cases hp
  refine ⟨Ex.new fp, Ex.new hp, fun a u h => ?_, fun a u h => ?_⟩
  · by_cases z : a = p
    · subst z; rw [upd_same] at h ⊢; exact h
    · rw [upd_ne z] at h ⊢; exact e a u h
  · by_cases z : a = p
    · subst z; exact .inr hp
    · rw [upd_ne z] at h; exact .inl h
/-- an object new to the frozen part, which is there -/
theorem KF.take {F H : Hp} (e : Ex F H) {p : Addr} {o : HO} (hp : H p = some o) (fp : F p = none) : Ex F (upd F p o) ∧ Ex (upd F p o) H := by
  refine ⟨Ex.new fp, fun a u h => ?_⟩
  by_cases z : a = p
  · subst z; rw [upd_same] at h; exact hp.trans h
  · rw [upd_ne z] at h; exact e a u h

section
variable {K : PySem.W.Frag} {F H F' H' : Hp} {ρ : AR} {σ : St} {O : Addr → Prop}
theorem Sl.kf (s : Sl K F H ρ σ O) (k : KF F H F' H') : Sl K F' H' ρ σ O where
  len := s.len
  im := fun i d e => by
    obtain ⟨v, h1, h2⟩ := s.im i d e
    exact ⟨v, h1, h2.mono k.f⟩
  ow := fun i c e => by
    obtain ⟨p, h1, h2, h3⟩ := s.ow i c e
    obtain ⟨o, ho⟩ := h3.some
    exact ⟨p, h1, h2, h3.mono k.f ((k.h p o ho).trans ho.symm)⟩
  ap := s.ap
  ex := k.fh
  fo := fun a h => by
    obtain ⟨h1, o, h2⟩ := s.fo a h
    refine ⟨?_, o, k.h a o h2⟩
    cases e : F' a with
    | none => rfl
    | some u =>
      rcases k.new a u e with q | q
      · rw [h1] at q; cases q
      · rw [h2] at q; cases q
end

/-! ### values -/
def RpV (K : PySem.W.Frag) (F : Hp) (σ : St) (v : V) : AV → Prop
  | .im d => Rp K F v d
  | .bo i => σ[i]? = some (some v)
theorem RpV.mono {K : PySem.W.Frag} {F F' : Hp} {σ : St} {v : V} {a : AV} (e : Ex F F') (h : RpV K F σ v a) : RpV K F' σ v a := by
  cases a with
  | im d => exact Rp.mono e h
  | bo i => exact h
/-- what a value reads as -/
def res (ρ : AR) : AV → Option D
  | .im d => some d
  | .bo i => match ρ[i]? with
    | some (.ow (.ol ds)) => some (.lst ds)
    | some (.ow (.od ks vs)) => some (.dic ks vs)
    | _ => none
def OwnAt (K : PySem.W.Frag) (F H : Hp) (p : Addr) : D → Prop
  | .lst ds => ∃ xs, H p = some (.lst xs) ∧ RpA K F xs ds
  | .dic ks vs => DicAt K F H p ks vs
  | _ => False
/-- a value's first level readable in H, what is within in F -/
def RpR (K : PySem.W.Frag) (F H : Hp) (v : V) (d : D) : Prop := Rp K F v d ∨ ∃ p, v = .ref p ∧ OwnAt K F H p d
section
variable {K : PySem.W.Frag} {F H : Hp} {ρ : AR} {σ : St} {O : Addr → Prop} {v : V} {a : AV} {d : D}
theorem res_ok (s : Sl K F H ρ σ O) (h : RpV K F σ v a) (e : res ρ a = some d) : RpR K F H v d := by
  cases a with
  | im d' =>
    cases e
    exact .inl h
  | bo i =>
    dsimp only [res] at e
    have h' : σ[i]? = some (some v) := h
    split at e
    · rename_i ds q
      cases e
      obtain ⟨p, h1, h2, h3⟩ := s.ow i _ q
      rw [h1] at h'
      cases h'
      exact .inr ⟨p, rfl, h3⟩
    · rename_i ks vs q
      cases e
      obtain ⟨p, h1, h2, h3⟩ := s.ow i _ q
      rw [h1] at h'
      cases h'
      exact .inr ⟨p, rfl, h3⟩
    · cases e
theorem RpR.int (e : RpR K F H v d) {i : Int} (h : d = .int i) : v = .int i := by
  subst h
  rcases e with e | ⟨_, _, q⟩
  · cases e; rfl
  · exact q.elim
theorem RpR.lst (ex : Ex F H) (e : RpR K F H v d) {ds : List D} (h : d = .lst ds) : ∃ p xs, v = .ref p ∧ H p = some (.lst xs) ∧ RpA K F xs ds := by
  subst h
  rcases e with e | ⟨p, rfl, xs, h1, h2⟩
  · cases e with
    | lst h t => exact ⟨_, _, rfl, ex _ _ h, t⟩
  · exact ⟨p, xs, rfl, h1, h2⟩
theorem RpR.dic (ex : Ex F H) (e : RpR K F H v d) {ks vs : List D} (h : d = .dic ks vs) : ∃ p, v = .ref p ∧ DicAt K F H p ks vs := by
  subst h
  rcases e with e | ⟨p, rfl, q⟩
  · cases e with
    | dic h1 h2 h3 h4 h5 h6 => exact ⟨_, rfl, _, _, _, _, ex _ _ h1, h2, h3, h4, h5, h6⟩
  · exact ⟨p, rfl, q⟩
theorem RpR.tup (ex : Ex F H) (e : RpR K F H v d) {ds : List D} (h : d = .tup ds) : ∃ p xs, v = .ref p ∧ SqT K H p xs ∧ RpA K F xs ds := by
  subst h
  rcases e with e | ⟨_, _, q⟩
  · cases e with
    | tup h t => exact ⟨_, _, rfl, ex.t h, t⟩
  · exact q.elim
theorem RpR.scr (ex : Ex F H) (e : RpR K F H v d) {ns : List Int} (h : d = .scr ns) : ∃ p, v = .ref p ∧ SqL K H p (ns.map V.int) := by
  subst h
  rcases e with e | ⟨_, _, q⟩
  · cases e with
    | scr h => exact ⟨_, rfl, ex.l h⟩
  · exact q.elim
theorem RpR.str (e : RpR K F H v d) {x : Str} (h : d = .str x) : v = .str x := by
  subst h
  rcases e with e | ⟨_, _, q⟩
  · cases e; rfl
  · exact q.elim
theorem RpR.bl (e : RpR K F H v d) {b : Bool} (h : d = .bl b) : v = .bl b := by
  subst h
  rcases e with e | ⟨_, _, q⟩
  · cases e; rfl
  · exact q.elim
theorem RpR.non (e : RpR K F H v d) (h : d = .non) : v = .non := by
  subst h
  rcases e with e | ⟨_, _, q⟩
  · cases e; rfl
  · exact q.elim
end
end DL

namespace DL
open PySem PySem.Spec L2
open PyProof.Rows hiding St

/-! ### readings over data -/
abbrev AE := AR → (AV → AR → Prop) → Prop
abbrev AT := AR → (Bool → AR → Prop) → Prop
abbrev AA := AR → (List AV → AR → Prop) → Prop
abbrev AL := AR → (List D → AR → Prop) → Prop

def RpVs (K : PySem.W.Frag) (F : Hp) (σ : St) : List V → List AV → Prop
  | [], [] => True
  | v :: vs, a :: as => RpV K F σ v a ∧ RpVs K F σ vs as
  | _, _ => False
theorem RpVs.mono {K : PySem.W.Frag} {F F' : Hp} {σ : St} (e : Ex F F') : ∀ {vs : List V} {as : List AV}, RpVs K F σ vs as → RpVs K F' σ vs as
  | [], [], _ => True.intro
  | _ :: _, _ :: _, ⟨h, t⟩ => ⟨h.mono e, RpVs.mono e t⟩
  | [], _ :: _, h => False.elim h
  | _ :: _, [], h => False.elim h
theorem RpVs.length {K : PySem.W.Frag} {F : Hp} {σ : St} : ∀ {vs : List V} {as : List AV}, RpVs K F σ vs as → vs.length = as.length
  | [], [], _ => rfl
  | _ :: _, _ :: _, ⟨_, t⟩ => by rw [List.length_cons, List.length_cons, RpVs.length t]
  | [], _ :: _, h => False.elim h
  | _ :: _, [], h => False.elim h
theorem RpVs.get {K : PySem.W.Frag} {F : Hp} {σ : St} : ∀ {vs : List V} {as : List AV} {j : Nat} {a : AV}, RpVs K F σ vs as → as[j]? = some a → ∃ v, vs[j]? = some v ∧ RpV K F σ v a
  | [], [], _, _, _, e => by simp at e
  | v :: _, a :: _, 0, _, ⟨h, _⟩, e => by simp at e; subst e; exact ⟨v, rfl, h⟩
  | _ :: _, _ :: _, j + 1, a, ⟨_, t⟩, e => by
    obtain ⟨v, h1, h2⟩ := RpVs.get (j := j) (a := a) t (by simpa using e)
    exact ⟨v, by simpa using h1, h2⟩
  | [], _ :: _, _, _, h, _ => False.elim h
  | _ :: _, [], _, _, h, _ => False.elim h

def LkE (K : PySem.W.Frag) (te : TE) (ae : AE) : Prop := ∀ (ρ : AR) (k : AV → AR → Prop), ae ρ k → ∀ (σ : St) (F H : Hp) (O : Addr → Prop), Sl K F H ρ σ O → ∀ Q : VK,
  (∀ v a ρ' F' H', Kp O F H O F' H' → Sl K F' H' ρ' σ O → RpV K F' σ v a → k a ρ' → Q v H') → te σ H Q
def LkT (K : PySem.W.Frag) (tt : TT) (at_ : AT) : Prop := ∀ (ρ : AR) (k : Bool → AR → Prop), at_ ρ k → ∀ (σ : St) (F H : Hp) (O : Addr → Prop), Sl K F H ρ σ O → ∀ Q : Bool → Hp → Prop,
  (∀ b ρ' F' H', Kp O F H O F' H' → Sl K F' H' ρ' σ O → k b ρ' → Q b H') → tt σ H Q
def LkA (K : PySem.W.Frag) (ta : TA) (aa : AA) : Prop := ∀ (ρ : AR) (k : List AV → AR → Prop), aa ρ k → ∀ (σ : St) (F H : Hp) (O : Addr → Prop), Sl K F H ρ σ O → ∀ Q : List V → Hp → Prop,
  (∀ vs as ρ' F' H', Kp O F H O F' H' → Sl K F' H' ρ' σ O → RpVs K F' σ vs as → k as ρ' → Q vs H') → ta σ H Q
/-- a new list, not yet frozen -/
def LkL (K : PySem.W.Frag) (te : TE) (al : AL) : Prop := ∀ (ρ : AR) (k : List D → AR → Prop), al ρ k → ∀ (σ : St) (F H : Hp) (O : Addr → Prop), Sl K F H ρ σ O → ∀ Q : VK,
  (∀ p xs ds ρ' F' H', Kp O F H O F' H' → Sl K F' H' ρ' σ O → H' p = some (.lst xs) → F' p = none → ¬ O p → H p = none → RpA K F' xs ds → k ds ρ' → Q (.ref p) H') → te σ H Q

structure GE (X : Cx) (e : Expr) (te : TE) (ae : AE) : Prop where
  pe : PE X e te
  lk : LkE X.K te ae
structure GL (X : Cx) (e : Expr) (te : TE) (al : AL) : Prop where
  pe : PE X e te
  lk : LkL X.K te al
structure GT (X : Cx) (e : Expr) (tt : TT) (at_ : AT) : Prop where
  pt : PT X e tt
  lk : LkT X.K tt at_
structure GW (X : Cx) (e : Expr) (tt : TT) (at_ : AT) : Prop where
  pw : PW X e tt
  lk : LkT X.K tt at_
structure GA (X : Cx) (es : List Expr) (ta : TA) (aa : AA) : Prop where
  pa : PA X es ta
  lk : LkA X.K ta aa

/-! ### freezing a new list -/
theorem Sl.freeze {K : PySem.W.Frag} {F H : Hp} {ρ : AR} {σ : St} {O : Addr → Prop} (s : Sl K F H ρ σ O) {p : Addr} {o : HO} (hp : H p = some o) (fp : F p = none) (nO : ¬ O p) : Sl K (upd F p o) H ρ σ O where
  len := s.len
  im := fun i d e => by
    obtain ⟨v, h1, h2⟩ := s.im i d e
    exact ⟨v, h1, h2.mono (Ex.new fp)⟩
  ow := fun i c e => by
    obtain ⟨q, h1, h2, h3⟩ := s.ow i c e
    exact ⟨q, h1, h2, h3.mono (Ex.new fp) rfl⟩
  ap := s.ap
  ex := (KF.take s.ex hp fp).2
  fo := fun a h => by
    obtain ⟨h1, h2⟩ := s.fo a h
    refine ⟨?_, h2⟩
    rw [upd_ne (show a ≠ p from fun z => nO (by rw [← z]; exact h))]
    exact h1
theorem Kp.freeze {O O' : Addr → Prop} {F H F' H' : Hp} (k : Kp O F H O' F' H') {p : Addr} {o : HO} (fp : F' p = none) (h0 : O p ∨ H p = none) : Kp O F H O' (upd F' p o) H' :=
  ⟨k.h1, k.h2.trans (Ex.new fp), fun a u e => by
    by_cases z : a = p
    · subst z; exact .inr h0
    · rw [upd_ne z] at e; exact k.h3 a u e, k.h4⟩
def aOfL (al : AL) : AE := fun ρ k => al ρ fun ds ρ' => k (.im (.lst ds)) ρ'
theorem LkL.toE {K : PySem.W.Frag} {te : TE} {al : AL} (h : LkL K te al) : LkE K te (aOfL al) := by
  intro ρ k hk σ F H O s Q hq
  refine h ρ _ hk σ F H O s Q fun p xs ds ρ' F' H' kp s' hp fp nO h0 r hk' => ?_
  exact hq (.ref p) (.im (.lst ds)) ρ' (upd F' p (.lst xs)) H' (kp.freeze fp (.inr h0)) (s'.freeze hp fp nO) (.lst upd_same (r.mono (Ex.new fp))) hk'
theorem GL.e {X : Cx} {e : Expr} {te : TE} {al : AL} (g : GL X e te al) : GE X e te (aOfL al) := ⟨g.pe, g.lk.toE⟩

/-! ### names, constants -/
def aVar (i : Nat) : AE := fun ρ k => match ρ[i]? with
  | some (.im d) => k (.im d) ρ
  | some (.ow _) => k (.bo i) ρ
  | _ => False
theorem lk_var {K : PySem.W.Frag} {i : Nat} : LkE K (tVar i) (aVar i) := by
  intro ρ k hk σ F H O s Q hq
  unfold aVar at hk
  split at hk
  · rename_i d q
    obtain ⟨v, h1, h2⟩ := s.im i d q
    exact ⟨v, h1, hq v (.im d) ρ F H Kp.refl s h2 hk⟩
  · rename_i c q
    obtain ⟨p, h1, h2, h3⟩ := s.ow i c q
    exact ⟨.ref p, h1, hq (.ref p) (.bo i) ρ F H Kp.refl s h1 hk⟩
  · exact hk.elim
def aC (d : D) : AE := fun ρ k => k (.im d) ρ
theorem lk_c {K : PySem.W.Frag} {v : V} {d : D} (r : ∀ F, Rp K F v d) : LkE K (tC v) (aC d) := fun ρ k hk σ F H O s Q hq => hq v (.im d) ρ F H Kp.refl s (r F) hk
section
variable {X : Cx}
theorem gv (i : Nat) {x : Str} {pos : Pos} (hN : X.N[i]? = some x := by rfl) (hv : Vis X.env.scope x := by first | exact Or.inl rfl | exact Or.inr (Or.inl rfl) | exact Or.inr (Or.inr rfl)) (hd : (x == ("__debug__" : Str)) = false := by decide)
    (hcd : (x == ("__classdict__" : Str)) = false := by decide) : GE X (.Name x pos) (tVar i) (aVar i) := ⟨pv i hN hv hd hcd, lk_var⟩
theorem ge_int {i j pos} : GE X (.Constant (.int i) j pos) (tC (.int i)) (aC (.int i)) := ⟨pe_int, lk_c fun _ => .int i⟩
theorem ge_bl {b j pos} : GE X (.Constant (.bool b) j pos) (tC (.bl b)) (aC (.bl b)) := ⟨pe_bl, lk_c fun _ => .bl b⟩
theorem ge_non {j pos} : GE X (.Constant .none j pos) (tC .non) (aC .non) := ⟨pe_non, lk_c fun _ => .non⟩
theorem ge_str {x j pos} : GE X (.Constant (.str x) j pos) (tC (.str x)) (aC (.str x)) := ⟨pe_str, lk_c fun _ => .str x⟩
theorem ge_glob {x : Str} {pos : Pos} {v : V} {u : Value} {d : D} (hm : X.mg x = some u) (r : RelV v u) (rd : ∀ F, Rp X.K F v d) (hg : Gl X x := by rfl) (hd : (x == ("__debug__" : Str)) = false := by decide) : GE X (.Name x pos) (tC v) (aC d) := ⟨pe_glob hg hm r hd, lk_c rd⟩
end

/-! ### operators -/
/-- what an operator does with two values, by data -/
abbrev R2D := D → D → (D → Prop) → Prop
def LkR (K : PySem.W.Frag) (rr : R2) (f : R2D) : Prop := ∀ (d e : D) (k : D → Prop), f d e k → ∀ (F H : Hp) (v u : V), Ex F H → RpR K F H v d → RpR K F H u e → ∀ Q : VK,
  (∀ z d' F' H', KF F H F' H' → Rp K F' z d' → k d' → Q z H') → rr v u H Q
def aOp (f : R2D) (a b : AE) : AE := fun ρ k => a ρ fun x ρ1 => b ρ1 fun y ρ2 => match res ρ2 x, res ρ2 y with
  | some d, some e => f d e fun z => k (.im z) ρ2
  | _, _ => False
theorem lk_op {K : PySem.W.Frag} {rr : R2} {f : R2D} {ta tb : TE} {a b : AE} (hr : LkR K rr f) (ha : LkE K ta a) (hb : LkE K tb b) : LkE K (tOp rr ta tb) (aOp f a b) := by
  intro ρ k hk σ F H O s Q hq
  refine ha ρ _ hk σ F H O s _ fun v x ρ1 F1 H1 kp1 s1 r1 hk1 => ?_
  refine hb ρ1 _ hk1 σ F1 H1 O s1 _ fun u y ρ2 F2 H2 kp2 s2 r2 hk2 => ?_
  split at hk2
  · rename_i d e q1 q2
    refine hr d e _ hk2 F2 H2 v u s2.ex (res_ok s2 (r1.mono kp2.h2) q1) (res_ok s2 r2 q2) _ fun z d' F' H' kf rz hk' => ?_
    exact hq z (.im d') ρ2 F' H' ((kp1.trans kp2).trans kf.kp) (s2.kf kf) rz hk'
  · exact hk2.elim
theorem ge_op {X : Cx} {op : Operator} {rr : R2} {f : R2D} {a b : Expr} {pos : Pos} {ta tb : TE} {aa ab : AE} (ho : OpR X (binaryOp op) rr) (hl : LkR X.K rr f) (ha : GE X a ta aa) (hb : GE X b tb ab) : GE X (.BinOp a op b pos) (tOp rr ta tb) (aOp f aa ab) :=
  ⟨pe_op ho ha.pe hb.pe, lk_op hl ha.lk hb.lk⟩
theorem ge_cmp {X : Cx} {op : CmpOp} {rr : R2} {f : R2D} {a b : Expr} {pos : Pos} {ta tb : TE} {aa ab : AE} (ho : OpR X (compareOp op) rr) (hl : LkR X.K rr f) (ha : GE X a ta aa) (hb : GE X b tb ab) (hm : behindInMarks op b = false) : GE X (.Compare a [op] [b] pos) (tOp rr ta tb) (aOp f aa ab) :=
  ⟨pe_cmpR ho ha.pe hb.pe hm, lk_op hl ha.lk hb.lk⟩
def aTest (a : AE) : AT := fun ρ k => a ρ fun x ρ' => match x with
  | .im (.bl b) => k b ρ'
  | _ => False
theorem lk_test {K : PySem.W.Frag} {te : TE} {a : AE} (h : LkE K te a) : LkT K (tTest te) (aTest a) := by
  intro ρ k hk σ F H O s Q hq
  refine h ρ _ hk σ F H O s _ fun v x ρ' F' H' kp s' r hk' => ?_
  split at hk'
  · rename_i b
    have r' : Rp K F' v (.bl b) := r
    cases r'
    exact ⟨b, rfl, hq b ρ' F' H' kp s' hk'⟩
  · exact hk'.elim
theorem lk_tB {K : PySem.W.Frag} {te : TE} {a : AE} (h : LkE K te a) : LkT K (tB te) (aTest a) := by
  intro ρ k hk σ F H O s Q hq
  refine h ρ _ hk σ F H O s _ fun v x ρ' F' H' kp s' r hk' => ?_
  split at hk'
  · rename_i b
    have r' : Rp K F' v (.bl b) := r
    cases r'
    exact ⟨b, rfl, hq b ρ' F' H' kp s' hk'⟩
  · exact hk'.elim
theorem gt_cmp {X : Cx} {op : CmpOp} {rr : R2} {f : R2D} {a b : Expr} {pos : Pos} {ta tb : TE} {aa ab : AE} (ho : OpR X (compareOp op) rr) (hl : LkR X.K rr f) (ha : GE X a ta aa) (hb : GE X b tb ab) (hm : behindInMarks op b = false) : GT X (.Compare a [op] [b] pos) (tTest (tOp rr ta tb)) (aTest (aOp f aa ab)) :=
  ⟨pt_cmpR ho ha.pe hb.pe hm, lk_test (lk_op hl ha.lk hb.lk)⟩
def aChain (f f' : R2D) (a b c : AE) : AE := fun ρ k => a ρ fun x ρ1 => b ρ1 fun y ρ2 => match res ρ2 x, res ρ2 y with
  | some d, some e => f d e fun z => match z with
    | .bl t => if t = true then c ρ2 fun w ρ3 => match res ρ3 y, res ρ3 w with
        | some e', some g => f' e' g fun z => k (.im z) ρ3
        | _, _ => False
      else k (.im (.bl false)) ρ2
    | _ => False
  | _, _ => False
theorem lk_chain {K : PySem.W.Frag} {rr rr' : R2} {f f' : R2D} {ta tb tc : TE} {a b c : AE} (hr : LkR K rr f) (hr' : LkR K rr' f') (ha : LkE K ta a) (hb : LkE K tb b) (hc : LkE K tc c) : LkE K (tChain rr rr' ta tb tc) (aChain f f' a b c) := by
  intro ρ k hk σ F H O s Q hq
  refine ha ρ _ hk σ F H O s _ fun v x ρ1 F1 H1 kp1 s1 r1 hk1 => ?_
  refine hb ρ1 _ hk1 σ F1 H1 O s1 _ fun u y ρ2 F2 H2 kp2 s2 r2 hk2 => ?_
  split at hk2
  · rename_i d e q1 q2
    refine hr d e _ hk2 F2 H2 v u s2.ex (res_ok s2 (r1.mono kp2.h2) q1) (res_ok s2 r2 q2) _ fun z d' F3 H3 kf rz hk' => ?_
    have s3 := s2.kf kf
    split at hk'
    · rename_i t
      cases rz
      refine ⟨t, rfl, ?_⟩
      cases t with
      | false =>
        rw [if_neg Bool.false_ne_true] at hk' ⊢
        exact hq (.bl false) (.im (.bl false)) ρ2 F3 H3 ((kp1.trans kp2).trans kf.kp) s3 (.bl false) hk'
      | true =>
      rw [if_pos rfl] at hk' ⊢
      refine hc ρ2 _ hk' σ F3 H3 O s3 _ fun w g ρ4 F4 H4 kp4 s4 r4 hk4 => ?_
      split at hk4
      · rename_i e' g' q3 q4
        refine hr' e' g' _ hk4 F4 H4 u w s4.ex (res_ok s4 (r2.mono (kf.f.trans kp4.h2)) q3) (res_ok s4 r4 q4) _ fun z d' F' H' kf' rz hk' => ?_
        exact hq z (.im d') ρ4 F' H' ((((kp1.trans kp2).trans kf.kp).trans kp4).trans kf'.kp) (s4.kf kf') rz hk'
      · exact hk4.elim
    · exact hk'.elim
  · exact hk2.elim
theorem ge_chain {X : Cx} {op op' : CmpOp} {rr rr' : R2} {f f' : R2D} {a b c : Expr} {pos : Pos} {ta tb tc : TE} {aa ab ac : AE} (ho : OpR X (compareOp op) rr) (hl : LkR X.K rr f) (ho' : OpR X (compareOp op') rr') (hl' : LkR X.K rr' f') (ha : GE X a ta aa) (hb : GE X b tb ab) (hc : GE X c tc ac)
    (hm : lastMarks [op, op'] [b, c] = false := by with_unfolding_all rfl) : GE X (.Compare a [op, op'] [b, c] pos) (tChain rr rr' ta tb tc) (aChain f f' aa ab ac) := ⟨pe_chain ho ho' ha.pe hb.pe hc.pe hm, lk_chain hl hl' ha.lk hb.lk hc.lk⟩
theorem gt_chain {X : Cx} {op op' : CmpOp} {rr rr' : R2} {f f' : R2D} {a b c : Expr} {pos : Pos} {ta tb tc : TE} {aa ab ac : AE} (ho : OpR X (compareOp op) rr) (hl : LkR X.K rr f) (ho' : OpR X (compareOp op') rr') (hl' : LkR X.K rr' f') (ha : GE X a ta aa) (hb : GE X b tb ab) (hc : GE X c tc ac)
    (hm : lastMarks [op, op'] [b, c] = false := by with_unfolding_all rfl) : GT X (.Compare a [op, op'] [b, c] pos) (tTest (tChain rr rr' ta tb tc)) (aTest (aChain f f' aa ab ac)) := ⟨pt_chain ho ho' ha.pe hb.pe hc.pe hm, lk_test (lk_chain hl hl' ha.lk hb.lk hc.lk)⟩

/-! ### one value -/
abbrev R1D := D → (D → Prop) → Prop
def LkU (K : PySem.W.Frag) (rr : V → Hp → VK → Prop) (f : R1D) : Prop := ∀ (d : D) (k : D → Prop), f d k → ∀ (F H : Hp) (v : V), Ex F H → RpR K F H v d → ∀ Q : VK,
  (∀ z d' F' H', KF F H F' H' → Rp K F' z d' → k d' → Q z H') → rr v H Q
def aUn (f : R1D) (a : AE) : AE := fun ρ k => a ρ fun x ρ1 => match res ρ1 x with
  | some d => f d fun z => k (.im z) ρ1
  | _ => False
theorem lk_un {K : PySem.W.Frag} {rr : V → Hp → VK → Prop} {f : R1D} {ta : TE} {a : AE} (hr : LkU K rr f) (ha : LkE K ta a) : LkE K (tUn rr ta) (aUn f a) := by
  intro ρ k hk σ F H O s Q hq
  refine ha ρ _ hk σ F H O s _ fun v x ρ1 F1 H1 kp1 s1 r1 hk1 => ?_
  split at hk1
  · rename_i d q1
    refine hr d _ hk1 F1 H1 v s1.ex (res_ok s1 r1 q1) _ fun z d' F' H' kf rz hk' => ?_
    exact hq z (.im d') ρ1 F' H' (kp1.trans kf.kp) (s1.kf kf) rz hk'
  · exact hk1.elim
theorem ge_un {X : Cx} {op : UnaryOp} {rr : V → Hp → VK → Prop} {f : R1D} {a : Expr} {pos : Pos} {ta : TE} {aa : AE} (ho : UnR X (unaryOp op) rr) (hl : LkU X.K rr f) (ha : GE X a ta aa) : GE X (.UnaryOp op a pos) (tUn rr ta) (aUn f aa) :=
  ⟨pe_un ho ha.pe, lk_un hl ha.lk⟩

/-! ### tests -/
theorem gt_val {X : Cx} {e : Expr} {te : TE} {a : AE} (h : GE X e te a) (he : ∀ whole, isTrue e X.env whole = (do let v ← whole; standAt e.pos; holding [v] (truthy v)) := by intro _; rfl) : GT X e (tB te) (aTest a) := ⟨pt_val h.pe he, lk_tB h.lk⟩
/-- a value's truth -/
def truD : D → Option Bool
  | .non => some false
  | .bl b => some b
  | .int i => some (i != 0)
  | .lst ds => some (!ds.isEmpty)
  | .tup ds => some (!ds.isEmpty)
  | _ => none
def aTru (a : AE) : AT := fun ρ k => a ρ fun x ρ' => match res ρ' x with
  | some d => match truD d with
    | some b => k b ρ'
    | none => False
  | none => False
theorem isEmpty_rpa {K : PySem.W.Frag} {F : Hp} {xs : List V} {ds : List D} (r : RpA K F xs ds) : xs.isEmpty = ds.isEmpty := by cases r <;> rfl
theorem truV_ok {K : PySem.W.Frag} {F H : Hp} {v : V} {d : D} {b : Bool} (ex : Ex F H) (r : RpR K F H v d) (e : truD d = some b) : TruV K v H b := by
  cases d with
  | non => rw [r.non rfl]; cases e; rfl
  | bl c => rw [r.bl rfl]; cases e; rfl
  | int i => rw [r.int rfl]; cases e; rfl
  | str x => cases e
  | lst ds =>
    obtain ⟨p, xs, rfl, h1, h2⟩ := r.lst ex rfl
    cases e
    exact .inl ⟨xs, .inl (.inl h1), by rw [isEmpty_rpa h2]⟩
  | tup ds =>
    obtain ⟨p, xs, rfl, h1, h2⟩ := r.tup ex rfl
    cases e
    exact .inr (.inl ⟨xs, h1, by rw [isEmpty_rpa h2]⟩)
  | adr a => cases e
  | scr a => cases e
  | dic a b => cases e
theorem gt_truth {X : Cx} {e : Expr} {te : TE} {a : AE} (h : GE X e te a) (he : ∀ whole, isTrue e X.env whole = (do let v ← whole; standAt e.pos; holding [v] (truthy v)) := by intro _; rfl) : GT X e (fun σ H Q => te σ H fun x H' => ∃ k, TruV X.K x H' k ∧ Q k H') (aTru a) := by
  refine ⟨pt_truth h.pe he, fun ρ k hk σ F H O s Q hq => ?_⟩
  refine h.lk ρ _ hk σ F H O s _ fun v x ρ' F' H' kp s' r hk' => ?_
  split at hk'
  · rename_i d q
    split at hk'
    · rename_i b q2
      exact ⟨b, truV_ok s'.ex (res_ok s' r q) q2, hq b ρ' F' H' kp s' hk'⟩
    · exact hk'.elim
  · exact hk'.elim
def aAnd (t u : AT) : AT := fun ρ k => t ρ fun c ρ1 => if c = true then u ρ1 k else k false ρ1
def aOr (t u : AT) : AT := fun ρ k => t ρ fun c ρ1 => if c = true then k true ρ1 else u ρ1 k
def aNot (t : AT) : AT := fun ρ k => t ρ fun c ρ1 => k (!c) ρ1
section
variable {K : PySem.W.Frag} {t u : TT} {a b : AT}
theorem lk_and (ha : LkT K t a) (hb : LkT K u b) : LkT K (tAnd t u) (aAnd a b) := by
  intro ρ k hk σ F H O s Q hq
  refine ha ρ _ hk σ F H O s _ fun c ρ1 F1 H1 kp1 s1 hk1 => ?_
  cases c with
  | true =>
    rw [if_pos rfl] at hk1 ⊢
    exact hb ρ1 _ hk1 σ F1 H1 O s1 _ fun c2 ρ2 F2 H2 kp2 s2 hk2 => hq c2 ρ2 F2 H2 (kp1.trans kp2) s2 hk2
  | false =>
    rw [if_neg Bool.false_ne_true] at hk1 ⊢
    exact hq false ρ1 F1 H1 kp1 s1 hk1
theorem lk_or (ha : LkT K t a) (hb : LkT K u b) : LkT K (tOr t u) (aOr a b) := by
  intro ρ k hk σ F H O s Q hq
  refine ha ρ _ hk σ F H O s _ fun c ρ1 F1 H1 kp1 s1 hk1 => ?_
  cases c with
  | true =>
    rw [if_pos rfl] at hk1 ⊢
    exact hq true ρ1 F1 H1 kp1 s1 hk1
  | false =>
    rw [if_neg Bool.false_ne_true] at hk1 ⊢
    exact hb ρ1 _ hk1 σ F1 H1 O s1 _ fun c2 ρ2 F2 H2 kp2 s2 hk2 => hq c2 ρ2 F2 H2 (kp1.trans kp2) s2 hk2
theorem lk_not (ha : LkT K t a) : LkT K (tNot t) (aNot a) := fun ρ k hk σ F H O s Q hq =>
  ha ρ _ hk σ F H O s _ fun c ρ1 F1 H1 kp1 s1 hk1 => hq (!c) ρ1 F1 H1 kp1 s1 hk1
end
section
variable {X : Cx} {a b : Expr} {rest : List Expr} {pos : Pos} {t u : TT} {x y : AT}
theorem gw_and (ha : GT X a t x) (hb : GW X (.BoolOp .And (b :: rest) pos) u y) : GW X (.BoolOp .And (a :: b :: rest) pos) (tAnd t u) (aAnd x y) := ⟨pw_and ha.pt hb.pw, lk_and ha.lk hb.lk⟩
theorem gw_or (ha : GT X a t x) (hb : GW X (.BoolOp .Or (b :: rest) pos) u y) : GW X (.BoolOp .Or (a :: b :: rest) pos) (tOr t u) (aOr x y) := ⟨pw_or ha.pt hb.pw, lk_or ha.lk hb.lk⟩
theorem gw_and1 (ha : GT X a t x) : GW X (.BoolOp .And [a] pos) t x := ⟨pw_and1 ha.pt, ha.lk⟩
theorem gw_or1 (ha : GT X a t x) : GW X (.BoolOp .Or [a] pos) t x := ⟨pw_or1 ha.pt, ha.lk⟩
theorem GW.gt {e : Expr} (h : GW X e t x) : GT X e t x := ⟨h.pw.pt, h.lk⟩
theorem gt_not (ha : GT X a t x) : GT X (.UnaryOp .Not a pos) (tNot t) (aNot x) := ⟨pt_not ha.pt, lk_not ha.lk⟩
end
/-! ### and, or, not as values (truth values) -/
def aAndV (a b : AE) : AE := fun ρ k => a ρ fun x ρ1 => match x with
  | .im (.bl c) => if c = true then b ρ1 k else k (.im (.bl false)) ρ1
  | _ => False
def aOrV (a b : AE) : AE := fun ρ k => a ρ fun x ρ1 => match x with
  | .im (.bl c) => if c = true then k (.im (.bl true)) ρ1 else b ρ1 k
  | _ => False
def aNotV (a : AE) : AE := fun ρ k => a ρ fun x ρ1 => match x with
  | .im (.bl c) => k (.im (.bl !c)) ρ1
  | _ => False
def aIf (t : AT) (a b : AE) : AE := fun ρ k => t ρ fun c ρ1 => if c = true then a ρ1 k else b ρ1 k
section
variable {K : PySem.W.Frag} {ta tb : TE} {tt : TT} {a b : AE} {t : AT}
theorem lk_andV (ha : LkE K ta a) (hb : LkE K tb b) : LkE K (tAndV ta tb) (aAndV a b) := by
  intro ρ k hk σ F H O s Q hq
  refine ha ρ _ hk σ F H O s _ fun v x ρ1 F1 H1 kp1 s1 r1 hk1 => ?_
  split at hk1
  · rename_i c
    have r' : Rp K F1 v (.bl c) := r1
    cases r'
    refine ⟨c, rfl, ?_⟩
    cases c with
    | true =>
      rw [if_pos rfl] at hk1 ⊢
      exact hb ρ1 _ hk1 σ F1 H1 O s1 _ fun u y ρ2 F2 H2 kp2 s2 r2 hk2 => hq u y ρ2 F2 H2 (kp1.trans kp2) s2 r2 hk2
    | false =>
      rw [if_neg Bool.false_ne_true] at hk1 ⊢
      exact hq _ _ ρ1 F1 H1 kp1 s1 r1 hk1
  · exact hk1.elim
theorem lk_orV (ha : LkE K ta a) (hb : LkE K tb b) : LkE K (tOrV ta tb) (aOrV a b) := by
  intro ρ k hk σ F H O s Q hq
  refine ha ρ _ hk σ F H O s _ fun v x ρ1 F1 H1 kp1 s1 r1 hk1 => ?_
  split at hk1
  · rename_i c
    have r' : Rp K F1 v (.bl c) := r1
    cases r'
    refine ⟨c, rfl, ?_⟩
    cases c with
    | true =>
      rw [if_pos rfl] at hk1 ⊢
      exact hq _ _ ρ1 F1 H1 kp1 s1 r1 hk1
    | false =>
      rw [if_neg Bool.false_ne_true] at hk1 ⊢
      exact hb ρ1 _ hk1 σ F1 H1 O s1 _ fun u y ρ2 F2 H2 kp2 s2 r2 hk2 => hq u y ρ2 F2 H2 (kp1.trans kp2) s2 r2 hk2
  · exact hk1.elim
theorem lk_notV (ha : LkE K ta a) : LkE K (tNotV ta) (aNotV a) := by
  intro ρ k hk σ F H O s Q hq
  refine ha ρ _ hk σ F H O s _ fun v x ρ1 F1 H1 kp1 s1 r1 hk1 => ?_
  split at hk1
  · rename_i c
    have r' : Rp K F1 v (.bl c) := r1
    cases r'
    exact ⟨c, rfl, hq (.bl (!c)) (.im (.bl (!c))) ρ1 F1 H1 kp1 s1 (Rp.bl (!c)) hk1⟩
  · exact hk1.elim
theorem lk_if (ht : LkT K tt t) (ha : LkE K ta a) (hb : LkE K tb b) : LkE K (tIf tt ta tb) (aIf t a b) := by
  intro ρ k hk σ F H O s Q hq
  refine ht ρ _ hk σ F H O s _ fun c ρ1 F1 H1 kp1 s1 hk1 => ?_
  cases c with
  | true =>
    rw [if_pos rfl] at hk1 ⊢
    exact ha ρ1 _ hk1 σ F1 H1 O s1 _ fun u y ρ2 F2 H2 kp2 s2 r2 hk2 => hq u y ρ2 F2 H2 (kp1.trans kp2) s2 r2 hk2
  | false =>
    rw [if_neg Bool.false_ne_true] at hk1 ⊢
    exact hb ρ1 _ hk1 σ F1 H1 O s1 _ fun u y ρ2 F2 H2 kp2 s2 r2 hk2 => hq u y ρ2 F2 H2 (kp1.trans kp2) s2 r2 hk2
end
section
variable {X : Cx} {a b c : Expr} {rest : List Expr} {pos : Pos} {ta tb : TE} {tt : TT} {x y : AE} {t : AT}
theorem ge_and (ha : GE X a ta x) (hb : GE X (.BoolOp .And (b :: rest) pos) tb y) : GE X (.BoolOp .And (a :: b :: rest) pos) (tAndV ta tb) (aAndV x y) := ⟨pe_and ha.pe hb.pe, lk_andV ha.lk hb.lk⟩
theorem ge_or (ha : GE X a ta x) (hb : GE X (.BoolOp .Or (b :: rest) pos) tb y) : GE X (.BoolOp .Or (a :: b :: rest) pos) (tOrV ta tb) (aOrV x y) := ⟨pe_or ha.pe hb.pe, lk_orV ha.lk hb.lk⟩
theorem ge_one {op : BoolOp} (ha : GE X a ta x) : GE X (.BoolOp op [a] pos) ta x := ⟨pe_one ha.pe, ha.lk⟩
theorem ge_not (ha : GE X a ta x) : GE X (.UnaryOp .Not a pos) (tNotV ta) (aNotV x) := ⟨pe_not ha.pe, lk_notV ha.lk⟩
theorem ge_if (hc : GT X c tt t) (ha : GE X a ta x) (hb : GE X b tb y) : GE X (.IfExp c a b pos) (tIf tt ta tb) (aIf t x y) := ⟨pe_ifExp hc.pt ha.pe hb.pe, lk_if hc.lk ha.lk hb.lk⟩
end
end DL

namespace DL
open PySem PySem.Spec L2
open PyProof.Rows hiding St

/-! ### argument lists, displays -/
def aNil : AA := fun ρ k => k [] ρ
def aCons (a : AE) (r : AA) : AA := fun ρ k => a ρ fun x ρ1 => r ρ1 fun xs ρ2 => k (x :: xs) ρ2
theorem lk_nil {K : PySem.W.Frag} : LkA K tNil aNil := fun ρ k hk σ F H O s Q hq => hq [] [] ρ F H Kp.refl s True.intro hk
theorem lk_cons {K : PySem.W.Frag} {te : TE} {ta : TA} {a : AE} {r : AA} (ha : LkE K te a) (hr : LkA K ta r) : LkA K (tCons te ta) (aCons a r) := by
  intro ρ k hk σ F H O s Q hq
  refine ha ρ _ hk σ F H O s _ fun v x ρ1 F1 H1 kp1 s1 r1 hk1 => ?_
  exact hr ρ1 _ hk1 σ F1 H1 O s1 _ fun vs xs ρ2 F2 H2 kp2 s2 r2 hk2 => hq (v :: vs) (x :: xs) ρ2 F2 H2 (kp1.trans kp2) s2 ⟨r1.mono kp2.h2, r2⟩ hk2
section
variable {X : Cx} {e : Expr} {es : List Expr} {te : TE} {ta : TA} {a : AE} {r : AA} {pos : Pos}
theorem ga_nil : GA X [] tNil aNil := ⟨pa_nil, lk_nil⟩
theorem ga_cons (ha : GE X e te a) (hr : GA X es ta r) (hs : starEach (e :: es) X.env = (false, eval e X.env) :: starEach es X.env := by rfl) : GA X (e :: es) (tCons te ta) (aCons a r) := ⟨pa_cons ha.pe hr.pa hs, lk_cons ha.lk hr.lk⟩
end
/-- all of them plain -/
def imAll : List AV → Option (List D)
  | [] => some []
  | .im d :: as => (imAll as).map (d :: ·)
  | _ :: _ => none
theorem imAll_ok {K : PySem.W.Frag} {F : Hp} {σ : St} : ∀ {vs : List V} {as : List AV} {ds : List D}, RpVs K F σ vs as → imAll as = some ds → RpA K F vs ds
  | [], [], ds, _, e => by cases e; exact .nil
  | v :: vs, .im d :: as, ds, ⟨h, t⟩, e => by
    unfold imAll at e
    cases q : imAll as with
    | none => rw [q] at e; cases e
    | some es =>
      rw [q] at e
      cases e
      exact .cons h (imAll_ok t q)
  | _ :: _, .bo _ :: _, _, _, e => by cases e
  | [], _ :: _, _, h, _ => False.elim h
  | _ :: _, [], _, h, _ => False.elim h
def aTup (aa : AA) : AE := fun ρ k => aa ρ fun as ρ1 => match imAll as with
  | some ds => ds.length ≤ 1000000 ∧ k (.im (.tup ds)) ρ1
  | none => False
def aLst (aa : AA) : AL := fun ρ k => aa ρ fun as ρ1 => match imAll as with
  | some ds => ds.length ≤ 1000000 ∧ k ds ρ1
  | none => False
theorem sz {n : Nat} (h : n ≤ 1000000) : n ≤ sizeLine := Nat.le_trans h (by decide)
theorem szl {n : Nat} (h : n < 1000000) : n < sizeLine := Nat.lt_of_lt_of_le h (by decide)
/-- a fresh address is in no owned place -/
theorem Sl.notO {K : PySem.W.Frag} {F H : Hp} {ρ : AR} {σ : St} {O : Addr → Prop} (s : Sl K F H ρ σ O) {p : Addr} (hp : H p = none) : ¬ O p := fun h => by
  obtain ⟨_, o, e⟩ := s.fo p h
  rw [hp] at e; cases e
theorem Sl.notF {K : PySem.W.Frag} {F H : Hp} {ρ : AR} {σ : St} {O : Addr → Prop} (s : Sl K F H ρ σ O) {p : Addr} (hp : H p = none) : F p = none := by
  cases e : F p with
  | none => rfl
  | some o => rw [s.ex p o e] at hp; cases hp
/-- an untracked address in O is fresh from before -/
theorem Kp.back {O O' : Addr → Prop} {F H F' H' : Hp} (k : Kp O F H O' F' H') {p : Addr} (h : H' p = none) (nO : ¬ O p) : H p = none := by
  cases e : H p with
  | none => rfl
  | some o => rw [k.h1 p o e nO] at h; cases h
theorem lk_tup {K : PySem.W.Frag} {ta : TA} {aa : AA} (ha : LkA K ta aa) : LkE K (tTup ta) (aTup aa) := by
  intro ρ k hk σ F H O s Q hq
  refine ha ρ _ hk σ F H O s _ fun vs xs ρ1 F1 H1 kp1 s1 r1 hk1 => ?_
  split at hk1
  · rename_i ds q
    obtain ⟨hz, hk1⟩ := hk1
    have r := imAll_ok r1 q
    refine ⟨by rw [r.length]; exact sz hz, fun p hp => ?_⟩
    have kf : KF F1 H1 (upd F1 p (.tup vs)) (upd H1 p (.tup vs)) := KF.put s1.ex hp
    exact hq (.ref p) (.im (.tup ds)) ρ1 _ _ (kp1.trans kf.kp) (s1.kf kf) (Rp.tup (.inl (.inl upd_same)) (r.mono kf.f)) hk1
  · exact hk1.elim
theorem lk_lst {K : PySem.W.Frag} {ta : TA} {aa : AA} (ha : LkA K ta aa) : LkL K (tLst ta) (aLst aa) := by
  intro ρ k hk σ F H O s Q hq
  refine ha ρ _ hk σ F H O s _ fun vs xs ρ1 F1 H1 kp1 s1 r1 hk1 => ?_
  split at hk1
  · rename_i ds q
    obtain ⟨hz, hk1⟩ := hk1
    have r := imAll_ok r1 q
    refine ⟨by rw [r.length]; exact sz hz, fun p hp => ?_⟩
    have nO := s1.notO hp
    have fp := s1.notF hp
    have s2 : Sl K F1 (upd H1 p (.lst vs)) ρ1 σ O := s1.kf ⟨Ex.refl _, Ex.new hp, s1.ex.trans (Ex.new hp), fun _ _ h => .inl h⟩
    refine hq p vs ds ρ1 F1 (upd H1 p (.lst vs)) (kp1.trans ⟨fun a o h _ => Ex.new hp a o h, Ex.refl _, fun _ _ h => .inl h, fun _ h => .inl h⟩) s2 upd_same fp nO (kp1.back hp nO) r hk1
  · exact hk1.elim
section
variable {X : Cx} {es : List Expr} {ta : TA} {aa : AA} {pos : Pos}
theorem ge_tup {x1} (h : GA X es ta aa) : GE X (.Tuple es x1 pos) (tTup ta) (aTup aa) := ⟨pe_tup h.pa, lk_tup h.lk⟩
theorem gl_lst (h : GA X es ta aa) : GL X (.List es pos) (tLst ta) (aLst aa) := ⟨pe_lst h.pa, lk_lst h.lk⟩
end

/-! ### built-ins by values -/
def resAll (ρ : AR) : List AV → Option (List D)
  | [] => some []
  | a :: as => match res ρ a, resAll ρ as with
    | some d, some ds => some (d :: ds)
    | _, _ => none
def RpRs (K : PySem.W.Frag) (F H : Hp) : List V → List D → Prop
  | [], [] => True
  | v :: vs, d :: ds => RpR K F H v d ∧ RpRs K F H vs ds
  | _, _ => False
theorem resAll_ok {K : PySem.W.Frag} {F H : Hp} {ρ : AR} {σ : St} {O : Addr → Prop} (s : Sl K F H ρ σ O) : ∀ {vs : List V} {as : List AV} {ds : List D}, RpVs K F σ vs as → resAll ρ as = some ds → RpRs K F H vs ds
  | [], [], ds, _, e => by cases e; exact True.intro
  | v :: vs, a :: as, ds, ⟨h, t⟩, e => by
    unfold resAll at e
    split at e
    · rename_i d ds' q1 q2
      cases e
      exact ⟨res_ok s h q1, resAll_ok s t q2⟩
    · cases e
  | [], _ :: _, _, h, _ => False.elim h
  | _ :: _, [], _, h, _ => False.elim h
/-- what a built-in does with its arguments, by data -/
abbrev RCD := List D → (D → Prop) → Prop
def LkC (K : PySem.W.Frag) (rr : List V → Hp → VK → Prop) (f : RCD) : Prop := ∀ (ds : List D) (k : D → Prop), f ds k → ∀ (F H : Hp) (vs : List V), Ex F H → RpRs K F H vs ds → ∀ Q : VK,
  (∀ z d' F' H', KF F H F' H' → Rp K F' z d' → k d' → Q z H') → rr vs H Q
def aCB (f : RCD) (aa : AA) : AE := fun ρ k => aa ρ fun as ρ1 => match resAll ρ1 as with
  | some ds => f ds fun z => k (.im z) ρ1
  | none => False
theorem lk_cb {K : PySem.W.Frag} {rr : List V → Hp → VK → Prop} {f : RCD} {ta : TA} {aa : AA} (hr : LkC K rr f) (ha : LkA K ta aa) : LkE K (tCB rr ta) (aCB f aa) := by
  intro ρ k hk σ F H O s Q hq
  refine ha ρ _ hk σ F H O s _ fun vs xs ρ1 F1 H1 kp1 s1 r1 hk1 => ?_
  split at hk1
  · rename_i ds q
    refine hr ds _ hk1 F1 H1 vs s1.ex (resAll_ok s1 r1 q) _ fun z d' F' H' kf rz hk' => ?_
    exact hq z (.im d') ρ1 F' H' (kp1.trans kf.kp) (s1.kf kf) rz hk'
  · exact hk1.elim
section
variable {X : Cx} {x : Str} {p pos : Pos} {e : Expr} {es : List Expr} {ta : TA} {aa : AA} {id T : String} {rr : List V → Hp → VK → Prop} {f : RCD}
theorem ge_callB (hc : CallR X (.builtin id) rr) (hl : LkC X.K rr f) (hm : X.mg x = none) (hv : bootBuiltins x = some (.builtin id)) (ha : GA X (e :: es) ta aa) (hg : Gl X x := by rfl) (hn : x ≠ "__name__" := by decide) (hdb : (x == ("__debug__" : Str)) = false := by decide)
    (he : starEach (e :: es) X.env = (false, eval e X.env) :: starEach es X.env := by rfl) (hpl : (backTo pos (starEach es X.env)).any (·.1) = false := by rfl) : GE X (.Call (.Name x p) (e :: es) [] pos) (tCB rr ta) (aCB f aa) :=
  ⟨pe_callB hc hg hm hv ha.pa hn hdb he hpl, lk_cb hl ha.lk⟩
theorem ge_callTy (hc : CallR X (.type T) rr) (hl : LkC X.K rr f) (hm : X.mg x = none) (hv : bootBuiltins x = some (.type T)) (ha : GA X (e :: es) ta aa) (hg : Gl X x := by rfl) (hn : x ≠ "__name__" := by decide) (hdb : (x == ("__debug__" : Str)) = false := by decide)
    (he : starEach (e :: es) X.env = (false, eval e X.env) :: starEach es X.env := by rfl) (hpl : (backTo pos (starEach es X.env)).any (·.1) = false := by rfl) : GE X (.Call (.Name x p) (e :: es) [] pos) (tCB rr ta) (aCB f aa) :=
  ⟨pe_callTy hc hg hm hv ha.pa hn hdb he hpl, lk_cb hl ha.lk⟩
end

/-! ### defs: what they promise -/
abbrev AF := AR → (D → AR → Prop) → Prop
/-- the addresses that a callee owns: those of its owned arguments -/
def own (ρ : AR) (σ : St) : Addr → Prop := fun a => ∃ (i : Nat) (c : OC), ρ[i]? = some (.ow c) ∧ σ[i]? = some (some (.ref a))
def SpF (K : PySem.W.Frag) (af : AF) : Sp := fun vs H Q _ => ∃ (ρ : AR) (F : Hp) (k : D → AR → Prop), Sl K F H ρ (vs.map some) (own ρ (vs.map some)) ∧ af ρ k ∧
  ∀ v d ρ' F' H', Kp (own ρ (vs.map some)) F H (own ρ (vs.map some)) F' H' → Sl K F' H' ρ' (vs.map some) (own ρ (vs.map some)) → Rp K F' v d → k d ρ' → Q v H'
def svOf (ρ : AR) : AV → SV
  | .im d => .im d
  | .bo i => match ρ[i]? with
    | some (.ow c) => .ow c
    | _ => .un
def back : AR → List AV → AR → AR
  | ρ, .bo i :: as, s :: ss => back (ρ.set i s) as ss
  | ρ, .im _ :: as, _ :: ss => back ρ as ss
  | ρ, _, _ => ρ
def isOw (ρ : AR) (i : Nat) : Bool := match ρ[i]? with
  | some (.ow _) => true
  | _ => false
def bos : List AV → List Nat
  | [] => []
  | .bo i :: as => i :: bos as
  | .im _ :: as => bos as
def bok (ρ : AR) : List AV → Bool
  | [] => true
  | .bo i :: as => isOw ρ i && !(bos as).contains i && bok ρ as
  | .im _ :: as => bok ρ as
def aCall (af : AF) (aa : AA) : AE := fun ρ k => aa ρ fun as ρ1 => bok ρ1 as = true ∧ af (as.map (svOf ρ1)) fun d ss => k (.im d) (back ρ1 as ss)

theorem back_len : ∀ {ρ : AR} {as : List AV} {ss : AR}, (back ρ as ss).length = ρ.length
  | ρ, [], _ => by unfold back; rfl
  | ρ, .bo i :: as, s :: ss => by unfold back; rw [back_len, List.length_set]
  | ρ, .im _ :: as, _ :: ss => by unfold back; exact back_len
  | ρ, .bo i :: as, [] => by unfold back; rfl
  | ρ, .im _ :: as, [] => by unfold back; rfl
theorem back_get : ∀ {ρ : AR} {as : List AV} {ss : AR} {i : Nat} {s : SV}, as.length = ss.length → (back ρ as ss)[i]? = some s →
    (∃ j : Nat, as[j]? = some (.bo i) ∧ ss[j]? = some s) ∨ (ρ[i]? = some s ∧ ∀ j : Nat, as[j]? ≠ some (.bo i))
  | ρ, [], ss, i, s, hl, h => .inr ⟨by unfold back at h; exact h, fun j => by simp⟩
  | ρ, .bo i0 :: as, s0 :: ss, i, s, hl, h => by
    unfold back at h
    rcases back_get (by simpa using hl) h with ⟨j, h1, h2⟩ | ⟨h1, h2⟩
    · exact .inl ⟨j + 1, by simpa using h1, by simpa using h2⟩
    · by_cases e : i0 = i
      · subst e
        by_cases hi : i0 < ρ.length
        · rw [List.getElem?_set_self hi] at h1
          cases h1
          exact .inl ⟨0, rfl, rfl⟩
        · rw [List.getElem?_eq_none (by simpa using hi)] at h1; cases h1
      · rw [List.getElem?_set_ne e] at h1
        refine .inr ⟨h1, fun j => ?_⟩
        cases j with
        | zero =>
          intro z
          simp at z
          exact e z
        | succ j => simpa using h2 j
  | ρ, .im d :: as, s0 :: ss, i, s, hl, h => by
    unfold back at h
    rcases back_get (by simpa using hl) h with ⟨j, h1, h2⟩ | ⟨h1, h2⟩
    · exact .inl ⟨j + 1, by simpa using h1, by simpa using h2⟩
    · refine .inr ⟨h1, fun j => ?_⟩
      cases j with
      | zero => simp
      | succ j => simpa using h2 j
  | ρ, _ :: as, [], i, s, hl, h => by simp at hl
theorem mem_bos : ∀ {as : List AV} {j i : Nat}, as[j]? = some (.bo i) → i ∈ bos as
  | [], _, _, h => by simp at h
  | .bo i0 :: as, 0, i, h => by simp at h; subst h; unfold bos; exact List.mem_cons_self
  | .im d :: as, 0, i, h => by simp at h
  | .bo i0 :: as, j + 1, i, h => by unfold bos; exact List.mem_cons_of_mem _ (mem_bos (by simpa using h))
  | .im d :: as, j + 1, i, h => by unfold bos; exact mem_bos (by simpa using h)
theorem bok_ow : ∀ {ρ : AR} {as : List AV} {j i : Nat}, bok ρ as = true → as[j]? = some (.bo i) → ∃ c, ρ[i]? = some (.ow c)
  | _, [], _, _, _, h => by simp at h
  | ρ, .bo i0 :: as, 0, i, hb, h => by
    simp at h; subst h
    unfold bok at hb
    simp only [Bool.and_eq_true] at hb
    have q := hb.1.1
    unfold isOw at q
    split at q
    · rename_i c e; exact ⟨c, e⟩
    · cases q
  | ρ, .im d :: as, 0, i, _, h => by simp at h
  | ρ, .bo i0 :: as, j + 1, i, hb, h => by
    unfold bok at hb
    simp only [Bool.and_eq_true] at hb
    exact bok_ow hb.2 (by simpa using h)
  | ρ, .im d :: as, j + 1, i, hb, h => by
    unfold bok at hb
    exact bok_ow hb (by simpa using h)
theorem bok_inj : ∀ {ρ : AR} {as : List AV} {j j' i : Nat}, bok ρ as = true → as[j]? = some (.bo i) → as[j']? = some (.bo i) → j = j'
  | _, [], _, _, _, _, h, _ => by simp at h
  | ρ, .bo i0 :: as, 0, 0, i, hb, h, h' => rfl
  | ρ, .bo i0 :: as, 0, j' + 1, i, hb, h, h' => by
    simp at h; subst h
    unfold bok at hb
    simp only [Bool.and_eq_true, Bool.not_eq_true'] at hb
    have q : i0 ∈ bos as := mem_bos (by simpa using h')
    have := hb.1.2
    rw [List.contains_iff_mem.mpr q] at this
    cases this
  | ρ, .bo i0 :: as, j + 1, 0, i, hb, h, h' => by
    simp at h'; subst h'
    unfold bok at hb
    simp only [Bool.and_eq_true, Bool.not_eq_true'] at hb
    have q : i0 ∈ bos as := mem_bos (by simpa using h)
    have := hb.1.2
    rw [List.contains_iff_mem.mpr q] at this
    cases this
  | ρ, .bo i0 :: as, j + 1, j' + 1, i, hb, h, h' => by
    unfold bok at hb
    simp only [Bool.and_eq_true] at hb
    exact congrArg (· + 1) (bok_inj (i := i) hb.2 (by simpa using h) (by simpa using h'))
  | ρ, .im d :: as, 0, _, i, hb, h, h' => by simp at h
  | ρ, .im d :: as, j + 1, 0, i, hb, h, h' => by simp at h'
  | ρ, .im d :: as, j + 1, j' + 1, i, hb, h, h' => by
    unfold bok at hb
    exact congrArg (· + 1) (bok_inj (i := i) hb (by simpa using h) (by simpa using h'))
section
variable {K : PySem.W.Frag} {F H : Hp} {ρ : AR} {σ : St} {O : Addr → Prop} {vs : List V} {as : List AV}
theorem map_some_get {j : Nat} {v : V} (h : vs[j]? = some v) : (vs.map some)[j]? = some (some v) := by rw [List.getElem?_map, h]; rfl
theorem svOf_im {d : D} {a : AV} (h : svOf ρ a = .im d) : a = .im d := by
  cases a with
  | im e => cases h; rfl
  | bo i =>
    unfold svOf at h
    dsimp only at h
    split at h <;> cases h
theorem svOf_ow {c : OC} {a : AV} (h : svOf ρ a = .ow c) : ∃ i, a = .bo i ∧ ρ[i]? = some (.ow c) := by
  cases a with
  | im e => cases h
  | bo i =>
    unfold svOf at h
    dsimp only at h
    split at h
    · rename_i c' e
      cases h
      exact ⟨i, rfl, e⟩
    · cases h
theorem argsSl (s : Sl K F H ρ σ O) (r : RpVs K F σ vs as) (hb : bok ρ as = true) : Sl K F H (as.map (svOf ρ)) (vs.map some) (own (as.map (svOf ρ)) (vs.map some)) where
  len := by rw [List.length_map, List.length_map, r.length]
  im := fun i d e => by
    rw [List.getElem?_map] at e
    cases q : as[i]? with
    | none => rw [q] at e; cases e
    | some a =>
      rw [q] at e
      have ea : a = .im d := svOf_im (Option.some.inj e)
      subst ea
      obtain ⟨v, h1, h2⟩ := r.get q
      exact ⟨v, map_some_get h1, h2⟩
  ow := fun i c e => by
    have e0 := e
    rw [List.getElem?_map] at e
    cases q : as[i]? with
    | none => rw [q] at e; cases e
    | some a =>
      rw [q] at e
      obtain ⟨i', rfl, h1⟩ := svOf_ow (Option.some.inj e)
      obtain ⟨v, h2, h3⟩ := r.get q
      obtain ⟨p, h4, h5, h6⟩ := s.ow i' c h1
      have h3' : σ[i']? = some (some v) := h3
      rw [h4] at h3'
      cases h3'
      exact ⟨p, map_some_get h2, ⟨i, c, e0, map_some_get h2⟩, h6⟩
  ap := fun i j c c' p hij e e' h h' => by
    rw [List.getElem?_map] at e e'
    cases q : as[i]? with
    | none => rw [q] at e; cases e
    | some a =>
      cases q' : as[j]? with
      | none => rw [q'] at e'; cases e'
      | some a' =>
        rw [q] at e
        rw [q'] at e'
        obtain ⟨i1, rfl, h1⟩ := svOf_ow (Option.some.inj e)
        obtain ⟨i2, rfl, h2⟩ := svOf_ow (Option.some.inj e')
        obtain ⟨v, g1, g2⟩ := r.get q
        obtain ⟨v', g1', g2'⟩ := r.get q'
        rw [map_some_get g1] at h
        rw [map_some_get g1'] at h'
        cases h
        cases h'
        have hne : i1 ≠ i2 := fun z => by
          subst z
          exact hij (bok_inj hb q q')
        exact s.ap i1 i2 c c' p hne h1 h2 g2 g2'
  ex := s.ex
  fo := fun a ⟨i, c, e, h⟩ => by
    rw [List.getElem?_map] at e
    cases q : as[i]? with
    | none => rw [q] at e; cases e
    | some b =>
      rw [q] at e
      obtain ⟨i1, rfl, h1⟩ := svOf_ow (Option.some.inj e)
      obtain ⟨v, g1, g2⟩ := r.get q
      rw [map_some_get g1] at h
      cases h
      obtain ⟨p, h4, h5, h6⟩ := s.ow i1 c h1
      have g2' : σ[i1]? = some (some (.ref a)) := g2
      rw [h4] at g2'
      cases g2'
      exact s.fo a h5
/-- what the callee owns is ours -/
theorem own_sub (s : Sl K F H ρ σ O) (r : RpVs K F σ vs as) {a : Addr} (h : own (as.map (svOf ρ)) (vs.map some) a) : ∃ (i : Nat) (c : OC) (j : Nat), as[j]? = some (.bo i) ∧ ρ[i]? = some (.ow c) ∧ σ[i]? = some (some (.ref a)) ∧ O a := by
  obtain ⟨j, c, e, h⟩ := h
  rw [List.getElem?_map] at e
  cases q : as[j]? with
  | none => rw [q] at e; cases e
  | some b =>
    rw [q] at e
    obtain ⟨i1, rfl, h1⟩ := svOf_ow (Option.some.inj e)
    obtain ⟨v, g1, g2⟩ := r.get q
    rw [map_some_get g1] at h
    cases h
    obtain ⟨p, h4, h5, h6⟩ := s.ow i1 c h1
    have g2' : σ[i1]? = some (some (.ref a)) := g2
    rw [h4] at g2'
    cases g2'
    exact ⟨i1, c, j, q, h1, g2, h5⟩
theorem kp_up (s : Sl K F H ρ σ O) (r : RpVs K F σ vs as) {F' H' : Hp} (k : Kp (own (as.map (svOf ρ)) (vs.map some)) F H (own (as.map (svOf ρ)) (vs.map some)) F' H') : Kp O F H O F' H' :=
  ⟨fun a o e n => k.h1 a o e fun z => by
      obtain ⟨_, _, _, _, _, _, h⟩ := own_sub s r z
      exact n h,
    k.h2, fun a o e => by
      rcases k.h3 a o e with q | q | q
      · exact .inl q
      · obtain ⟨_, _, _, _, _, _, h⟩ := own_sub s r q
        exact .inr (.inl h)
      · exact .inr (.inr q),
    fun a h => .inl h⟩
theorem backSl (s : Sl K F H ρ σ O) (r : RpVs K F σ vs as) (hb : bok ρ as = true) {F' H' : Hp} {ss : AR} (k : Kp (own (as.map (svOf ρ)) (vs.map some)) F H (own (as.map (svOf ρ)) (vs.map some)) F' H')
    (s' : Sl K F' H' ss (vs.map some) (own (as.map (svOf ρ)) (vs.map some))) : Sl K F' H' (back ρ as ss) σ O := by
  have hl : as.length = ss.length := by rw [s'.len, List.length_map, r.length]
  -- an owned slot behind: it was owned ahead
  have was : ∀ (i : Nat) (c : OC), (back ρ as ss)[i]? = some (.ow c) → ∃ c0, ρ[i]? = some (.ow c0) := fun i c e => by
    rcases back_get hl e with ⟨j, h1, h2⟩ | ⟨h1, h2⟩
    · exact bok_ow hb h1
    · exact ⟨c, h1⟩
  have keep : ∀ (i : Nat) (c : OC) (p : Addr), ρ[i]? = some (.ow c) → (∀ j : Nat, as[j]? ≠ some (.bo i)) → σ[i]? = some (some (.ref p)) → ¬ own (as.map (svOf ρ)) (vs.map some) p := fun i c p h1 h2 h3 z => by
    obtain ⟨i', c', j', a1, a2, a3, _⟩ := own_sub s r z
    have hne : i ≠ i' := fun z => by
      subst z
      exact h2 j' a1
    exact s.ap i i' c c' p hne h1 a2 h3 a3
  refine ⟨by rw [back_len, s.len], fun i d e => ?_, fun i c e => ?_, fun i j c c' p hij e e' h h' => ?_, s'.ex, fun a h => ?_⟩
  · rcases back_get hl e with ⟨j, h1, h2⟩ | ⟨h1, h2⟩
    · obtain ⟨v, g1, g2⟩ := r.get h1
      obtain ⟨v', g3, g4⟩ := s'.im j d h2
      rw [map_some_get g1] at g3
      cases g3
      exact ⟨v, g2, g4⟩
    · obtain ⟨v, g1, g2⟩ := s.im i d h1
      exact ⟨v, g1, g2.mono k.h2⟩
  · rcases back_get hl e with ⟨j, h1, h2⟩ | ⟨h1, h2⟩
    · obtain ⟨v, g1, g2⟩ := r.get h1
      obtain ⟨p, g3, g4, g5⟩ := s'.ow j c h2
      rw [map_some_get g1] at g3
      cases g3
      obtain ⟨_, _, _, _, _, _, hO⟩ := own_sub s r g4
      exact ⟨p, g2, hO, g5⟩
    · obtain ⟨p, g1, g2, g3⟩ := s.ow i c h1
      obtain ⟨o, ho⟩ := g3.some
      exact ⟨p, g1, g2, g3.mono k.h2 ((k.h1 p o ho (keep i c p h1 h2 g1)).trans ho.symm)⟩
  · obtain ⟨c0, h0⟩ := was i c e
    obtain ⟨c0', h0'⟩ := was j c' e'
    exact s.ap i j c0 c0' p hij h0 h0' h h'
  · obtain ⟨f0, o, ho⟩ := s.fo a h
    by_cases z : own (as.map (svOf ρ)) (vs.map some) a
    · exact s'.fo a z
    · refine ⟨?_, o, k.h1 a o ho z⟩
      cases q : F' a with
      | none => rfl
      | some u =>
        rcases k.h3 a u q with q | q | q
        · rw [f0] at q; cases q
        · exact (z q).elim
        · rw [ho] at q; cases q
theorem lk_call {af : AF} {E : XK} {ta : TA} {aa : AA} (ha : LkA K ta aa) : LkE K (tCall (SpF K af) [] E ta) (aCall af aa) := by
  intro ρ k hk σ F H O s Q hq
  refine ha ρ _ hk σ F H O s _ fun vs xs ρ1 F1 H1 kp1 s1 r1 hk1 => ?_
  obtain ⟨hb, hk1⟩ := hk1
  show SpF K af (vs ++ []) H1 Q E
  rw [List.append_nil]
  refine ⟨xs.map (svOf ρ1), F1, _, argsSl s1 r1 hb, hk1, fun v d ss F' H' kp s' rd hk' => ?_⟩
  exact hq v (.im d) (back ρ1 xs ss) F' H' (kp1.trans (kp_up s1 r1 kp)) (backSl s1 r1 hb kp s') rd hk'
end
section
variable {X : Cx} {k : Nat} {f : Addr} {fd : FuncData} {ps : List Str} {af : AF} {x : Str} {p pos : Pos} {e : Expr} {es : List Expr} {ta : TA} {aa : AA}
theorem ge_call (F : FnOk X.prog X.w X.K X.mg X.base CX0 k f fd ps (SpF X.K af)) (hr : Room k X.A) (hm : X.mg x = some (.ref f)) (hk : PySem.W.keepIn X.K (.ref f) = true) (hb : Binds X.K fd ps []) (ha : GA X (e :: es) ta aa) (hg : Gl X x := by rfl)
    (he : starEach (e :: es) X.env = (false, eval e X.env) :: starEach es X.env := by rfl) (hpl : (backTo pos (starEach es X.env)).any (·.1) = false := by rfl) (hdb : (x == ("__debug__" : Str)) = false := by decide) :
    GE X (.Call (.Name x p) (e :: es) [] pos) (tCall (SpF X.K af) [] E0 ta) (aCall af aa) := ⟨pe_call F hr hg hm hk hb .nil pass0 ha.pa hdb he hpl, lk_call ha.lk⟩
end
end DL

namespace DL
open PySem PySem.Spec L2
open PyProof.Rows hiding St

/-! ### what a statement leaves -/
/-- an error: its class, its limit -/
structure AX where
  cls : Addr
  lim : Option Int := none
structure AEnds where
  nx : AR → Prop
  rt : D → AR → Prop
  bk : AR → Prop := fun _ => False
  ct : AR → Prop := fun _ => False
  ex : AX → AR → Prop := fun _ _ => False
  rl : List D → AR → Prop := fun _ _ => False
abbrev AS := AEnds → AR → Prop
def XOk (H : Hp) (x : AX) (cls : Value) (d : Option Addr) : Prop := cls = .ref x.cls ∧ ∀ n, x.lim = some n → ∃ (dd : Addr) (fs : List (Str × V)), d = some dd ∧ H dd = some (.xd fs) ∧ fs.lookup ("limit" : Str) = some (V.int n)
structure Keep (B : List Nat) (σ σ' : St) : Prop where
  ln : σ'.length = σ.length
  at_ : ∀ i : Nat, i ∉ B → σ'[i]? = σ[i]?
theorem Keep.refl {B : List Nat} {σ : St} : Keep B σ σ := ⟨rfl, fun _ _ => rfl⟩
theorem Keep.trans {B : List Nat} {σ σ1 σ2 : St} (a : Keep B σ σ1) (b : Keep B σ1 σ2) : Keep B σ σ2 := ⟨b.ln.trans a.ln, fun i h => (b.at_ i h).trans (a.at_ i h)⟩
theorem Keep.set {B : List Nat} {σ : St} {i : Nat} {v : Option V} (h : i ∈ B) : Keep B σ (σ.set i v) := ⟨List.length_set, fun j hj => List.getElem?_set_ne fun z => hj (by rw [← z]; exact h)⟩

abbrev WX' := Value → Option Addr → L2.St → Hp → Prop
structure Bd (K : PySem.W.Frag) (W : WX') (A : AEnds) (F H : Hp) (O : Addr → Prop) (B : List Nat) (σ : St) (Dn : Ends) : Prop where
  nx : ∀ ρ' σ' F' H' O', Kp O F H O' F' H' → Sl K F' H' ρ' σ' O' → Keep B σ σ' → A.nx ρ' → Dn.nx σ' H'
  rt : ∀ v d ρ' σ' F' H' O', Kp O F H O' F' H' → Sl K F' H' ρ' σ' O' → Keep B σ σ' → Rp K F' v d → A.rt d ρ' → Dn.rt v H'
  bk : ∀ ρ' σ' F' H' O', Kp O F H O' F' H' → Sl K F' H' ρ' σ' O' → Keep B σ σ' → A.bk ρ' → Dn.bk σ' H'
  ct : ∀ ρ' σ' F' H' O', Kp O F H O' F' H' → Sl K F' H' ρ' σ' O' → Keep B σ σ' → A.ct ρ' → Dn.ct σ' H'
  ex : ∀ x cls dd ρ' σ' F' H' O', Kp O F H O' F' H' → Sl K F' H' ρ' σ' O' → Keep B σ σ' → XOk H' x cls dd → A.ex x ρ' → W cls dd σ' H'
  rl : ∀ p xs ds ρ' σ' F' H' O', Kp O F H O' F' H' → Sl K F' H' ρ' σ' O' → Keep B σ σ' → H' p = some (.lst xs) → F' p = none → ¬ O' p → (O p ∨ H p = none) → RpA K F' xs ds → A.rl ds ρ' → Dn.rt (.ref p) H'
theorem Kp.back2 {O O' : Addr → Prop} {F H F' H' : Hp} (k : Kp O F H O' F' H') {p : Addr} (h : O' p ∨ H' p = none) : O p ∨ H p = none := by
  rcases h with h | h
  · exact k.h4 p h
  · by_cases q : O p
    · exact .inl q
    · exact .inr (k.back h q)
theorem Bd.shift {K : PySem.W.Frag} {W : WX'} {A : AEnds} {F H F1 H1 : Hp} {O O1 : Addr → Prop} {B : List Nat} {σ σ1 : St} {Dn : Ends} (b : Bd K W A F H O B σ Dn) (k : Kp O F H O1 F1 H1) (e : Keep B σ σ1) : Bd K W A F1 H1 O1 B σ1 Dn where
  nx := fun ρ' σ' F' H' O' k' s' e' h => b.nx ρ' σ' F' H' O' (k.trans k') s' (e.trans e') h
  rt := fun v d ρ' σ' F' H' O' k' s' e' r h => b.rt v d ρ' σ' F' H' O' (k.trans k') s' (e.trans e') r h
  bk := fun ρ' σ' F' H' O' k' s' e' h => b.bk ρ' σ' F' H' O' (k.trans k') s' (e.trans e') h
  ct := fun ρ' σ' F' H' O' k' s' e' h => b.ct ρ' σ' F' H' O' (k.trans k') s' (e.trans e') h
  ex := fun x cls dd ρ' σ' F' H' O' k' s' e' o h => b.ex x cls dd ρ' σ' F' H' O' (k.trans k') s' (e.trans e') o h
  rl := fun p xs ds ρ' σ' F' H' O' k' s' e' h1 h2 h3 h4 r h => b.rl p xs ds ρ' σ' F' H' O' (k.trans k') s' (e.trans e') h1 h2 h3 (k.back2 h4) r h

def LkS (K : PySem.W.Frag) (W : WX') (ts : TS) (as : AS) (B : List Nat) : Prop := ∀ (A : AEnds) (ρ : AR), as A ρ → ∀ (σ : St) (F H : Hp) (O : Addr → Prop), Sl K F H ρ σ O → ∀ (B' : List Nat) (Dn : Ends), (∀ i ∈ B, i ∈ B') → Bd K W A F H O B' σ Dn → ts Dn σ H
structure GS (X : Cx) (W : WX') (st : Stmt) (ts : TS) (as : AS) (B : List Nat) : Prop where
  ps : PS X st ts
  lk : LkS X.K W ts as B
structure GSs (X : Cx) (W : WX') (st : List Stmt) (ts : TS) (as : AS) (B : List Nat) : Prop where
  ps : PSs X st ts
  lk : LkS X.K W ts as B

/-! ### blocks, tests -/
def aNext : AS := fun A ρ => A.nx ρ
def aSeq (a b : AS) : AS := fun A ρ => a { A with nx := b A } ρ
def aIfS (t : AT) (a b : AS) : AS := fun A ρ => t ρ fun c ρ1 => if c = true then a A ρ1 else b A ρ1
section
variable {K : PySem.W.Frag} {W : WX'} {t u : TS} {a b : AS} {B B1 B2 : List Nat}
theorem lk_next : LkS K W tNext aNext [] := fun A ρ h σ F H O s B' Dn _ bd => bd.nx ρ σ F H O Kp.refl s Keep.refl h
theorem lk_seq (ha : LkS K W t a B1) (hb : LkS K W u b B2) : LkS K W (tSeq t u) (aSeq a b) (B1 ++ B2) := by
  intro A ρ h σ F H O s B' Dn hB bd
  refine ha _ ρ h σ F H O s B' { Dn with nx := u Dn } (fun i hi => hB i (List.mem_append_left _ hi)) ⟨fun ρ' σ' F' H' O' k s' e h' => ?_, bd.rt, bd.bk, bd.ct, bd.ex, bd.rl⟩
  exact hb A ρ' h' σ' F' H' O' s' B' Dn (fun i hi => hB i (List.mem_append_right _ hi)) (bd.shift k e)
theorem lk_ifS {tt : TT} {at_ : AT} (ht : LkT K tt at_) (ha : LkS K W t a B1) (hb : LkS K W u b B2) : LkS K W (tIfS tt t u) (aIfS at_ a b) (B1 ++ B2) := by
  intro A ρ h σ F H O s B' Dn hB bd
  refine ht ρ _ h σ F H O s _ fun c ρ1 F1 H1 k1 s1 h1 => ?_
  cases c with
  | true =>
    rw [if_pos rfl] at h1 ⊢
    exact ha A ρ1 h1 σ F1 H1 O s1 B' Dn (fun i hi => hB i (List.mem_append_left _ hi)) (bd.shift k1 Keep.refl)
  | false =>
    rw [if_neg Bool.false_ne_true] at h1 ⊢
    exact hb A ρ1 h1 σ F1 H1 O s1 B' Dn (fun i hi => hB i (List.mem_append_right _ hi)) (bd.shift k1 Keep.refl)
end
section
variable {X : Cx} {W : WX'} {t u : TS} {a b : AS} {B B1 B2 : List Nat} {st : Stmt} {rest sa sb : List Stmt} {pos : Pos}
theorem gss_nil : GSs X W [] tNext aNext [] := ⟨pss_nil, lk_next⟩
theorem gss_cons (h1 : GS X W st t a B1) (h2 : GSs X W rest u b B2) : GSs X W (st :: rest) (tSeq t u) (aSeq a b) (B1 ++ B2) := ⟨pss_cons h1.ps h2.ps, lk_seq h1.lk h2.lk⟩
theorem gss_one (h1 : GS X W st t a B) : GSs X W [st] t a B := ⟨pss_one h1.ps, h1.lk⟩
theorem gs_if {c : Expr} {tc : TT} {ac : AT} (hc : GT X c tc ac) (ha : GSs X W sa t a B1) (hb : GSs X W sb u b B2) : GS X W (.If c sa sb pos) (tIfS tc t u) (aIfS ac a b) (B1 ++ B2) := ⟨ps_if hc.pt ha.ps hb.ps, lk_ifS hc.lk ha.lk hb.lk⟩
def aNever : AS := fun _ _ => False
theorem gs_never : GS X W st tNever aNever [] := ⟨ps_never, fun _ _ h => h.elim⟩
theorem gss_never {sts : List Stmt} : GSs X W sts tNever aNever [] := ⟨pss_never, fun _ _ h => h.elim⟩
end

/-! ### slots stored -/
section
variable {K : PySem.W.Frag} {F H : Hp} {ρ : AR} {σ : St} {O : Addr → Prop}
theorem set_get {α : Type} {l : List α} {i j : Nat} {x y : α} (h : (l.set i x)[j]? = some y) : (j = i ∧ y = x) ∨ (j ≠ i ∧ l[j]? = some y) := by
  by_cases e : i = j
  · subst e
    by_cases hi : i < l.length
    · rw [List.getElem?_set_self hi] at h
      cases h; exact .inl ⟨rfl, rfl⟩
    · rw [List.getElem?_eq_none (by simpa using hi)] at h; cases h
  · rw [List.getElem?_set_ne e] at h
    exact .inr ⟨fun z => e z.symm, h⟩
theorem get_lt {α : Type} {l : List α} {j : Nat} {y : α} (h : l[j]? = some y) : j < l.length := (List.getElem?_eq_some_iff.mp h).1
theorem Sl.setIm (s : Sl K F H ρ σ O) {v : V} {d : D} (r : Rp K F v d) (i : Nat) : Sl K F H (ρ.set i (.im d)) (σ.set i (some v)) O where
  len := by rw [List.length_set, List.length_set, s.len]
  im := fun j e h => by
    have hj := get_lt h
    rw [List.length_set, s.len] at hj
    rcases set_get h with ⟨rfl, q⟩ | ⟨n, q⟩
    · cases q
      exact ⟨v, List.getElem?_set_self hj, r⟩
    · obtain ⟨u, h1, h2⟩ := s.im j e q
      exact ⟨u, by rw [List.getElem?_set_ne (Ne.symm n)]; exact h1, h2⟩
  ow := fun j c h => by
    rcases set_get h with ⟨rfl, q⟩ | ⟨n, q⟩
    · cases q
    · obtain ⟨p, h1, h2⟩ := s.ow j c q
      exact ⟨p, by rw [List.getElem?_set_ne (Ne.symm n)]; exact h1, h2⟩
  ap := fun j j' c c' p hij h h' g g' => by
    rcases set_get h with ⟨rfl, q⟩ | ⟨n, q⟩
    · cases q
    · rcases set_get h' with ⟨rfl, q'⟩ | ⟨n', q'⟩
      · cases q'
      · rw [List.getElem?_set_ne (Ne.symm n)] at g
        rw [List.getElem?_set_ne (Ne.symm n')] at g'
        exact s.ap j j' c c' p hij q q' g g'
  ex := s.ex
  fo := s.fo
/-- a new owned object -/
theorem Sl.setOw (s : Sl K F H ρ σ O) {p : Addr} {c : OC} (x : OcOk K F H p c) (fp : F p = none) (nO : ¬ O p) (i : Nat) : Sl K F H (ρ.set i (.ow c)) (σ.set i (some (.ref p))) (fun a => O a ∨ a = p) where
  len := by rw [List.length_set, List.length_set, s.len]
  im := fun j e h => by
    rcases set_get h with ⟨rfl, q⟩ | ⟨n, q⟩
    · cases q
    · obtain ⟨u, h1, h2⟩ := s.im j e q
      exact ⟨u, by rw [List.getElem?_set_ne (Ne.symm n)]; exact h1, h2⟩
  ow := fun j c' h => by
    have hj := get_lt h
    rw [List.length_set, s.len] at hj
    rcases set_get h with ⟨rfl, q⟩ | ⟨n, q⟩
    · cases q
      exact ⟨p, List.getElem?_set_self hj, .inr rfl, x⟩
    · obtain ⟨p', h1, h2, h3⟩ := s.ow j c' q
      exact ⟨p', by rw [List.getElem?_set_ne (Ne.symm n)]; exact h1, .inl h2, h3⟩
  ap := fun j j' c1 c2 q hij h h' g g' => by
    have hj := get_lt h
    have hj' := get_lt h'
    rw [List.length_set, s.len] at hj hj'
    rcases set_get h with ⟨rfl, e⟩ | ⟨n, e⟩
    · rw [List.getElem?_set_self hj] at g
      cases g
      rcases set_get h' with ⟨rfl, e'⟩ | ⟨n', e'⟩
      · exact hij rfl
      · rw [List.getElem?_set_ne (Ne.symm n')] at g'
        obtain ⟨p', a1, a2, a3⟩ := s.ow j' c2 e'
        rw [a1] at g'
        cases g'
        exact nO a2
    · rw [List.getElem?_set_ne (Ne.symm n)] at g
      rcases set_get h' with ⟨rfl, e'⟩ | ⟨n', e'⟩
      · rw [List.getElem?_set_self hj'] at g'
        cases g'
        obtain ⟨p', a1, a2, a3⟩ := s.ow j c1 e
        rw [a1] at g
        cases g
        exact nO a2
      · rw [List.getElem?_set_ne (Ne.symm n')] at g'
        exact s.ap j j' c1 c2 q hij e e' g g'
  ex := s.ex
  fo := fun a h => by
    rcases h with h | rfl
    · exact s.fo a h
    · exact ⟨fp, x.some⟩
/-- what an owned object holds is changed -/
theorem Sl.write (s : Sl K F H ρ σ O) {p : Addr} {c c' : OC} {i : Nat} {o : HO} (h : ρ[i]? = some (.ow c)) (g : σ[i]? = some (some (.ref p))) (x : OcOk K F (upd H p o) p c') : Sl K F (upd H p o) (ρ.set i (.ow c')) σ O := by
  have hp : O p := by
    obtain ⟨p', a1, a2, a3⟩ := s.ow i c h
    rw [a1] at g
    cases g
    exact a2
  refine ⟨by rw [List.length_set, s.len], fun j e hj => ?_, fun j c1 hj => ?_, fun j j' c1 c2 q hij h1 h2 g1 g2 => ?_, fun a u e => ?_, fun a ha => ?_⟩
  · rcases set_get hj with ⟨rfl, q⟩ | ⟨n, q⟩
    · cases q
    · exact s.im j e q
  · rcases set_get hj with ⟨rfl, q⟩ | ⟨n, q⟩
    · cases q
      exact ⟨p, g, hp, x⟩
    · obtain ⟨p', a1, a2, a3⟩ := s.ow j c1 q
      have ne : p' ≠ p := fun z => by
        subst z
        exact s.ap j i c1 c p' n q h a1 g
      exact ⟨p', a1, a2, a3.mono (Ex.refl F) (upd_ne ne)⟩
  · have e1 : ∃ c, ρ[j]? = some (.ow c) := by
      rcases set_get h1 with ⟨rfl, _⟩ | ⟨_, q⟩
      · exact ⟨c, h⟩
      · exact ⟨c1, q⟩
    have e2 : ∃ c, ρ[j']? = some (.ow c) := by
      rcases set_get h2 with ⟨rfl, _⟩ | ⟨_, q⟩
      · exact ⟨c, h⟩
      · exact ⟨c2, q⟩
    obtain ⟨d1, e1⟩ := e1
    obtain ⟨d2, e2⟩ := e2
    exact s.ap j j' d1 d2 q hij e1 e2 g1 g2
  · have ne : a ≠ p := fun z => by
      subst z
      rw [(s.fo a hp).1] at e
      cases e
    rw [upd_ne ne]
    exact s.ex a u e
  · obtain ⟨f0, v, hv⟩ := s.fo a ha
    by_cases z : a = p
    · subst z; exact ⟨f0, _, upd_same⟩
    · exact ⟨f0, v, by rw [upd_ne z]; exact hv⟩
theorem Kp.write {O : Addr → Prop} {F H : Hp} {p : Addr} {o : HO} (hp : O p) : Kp O F H O F (upd H p o) :=
  ⟨fun a u e n => by rw [upd_ne (show a ≠ p from fun z => n (by rw [z]; exact hp))]; exact e, Ex.refl F, fun _ _ h => .inl h, fun _ h => .inl h⟩
end

/-! ### targets -/
abbrev AG := D → AR → (AR → Prop) → Prop
abbrev AGs := List D → AR → (AR → Prop) → Prop
def LkG (K : PySem.W.Frag) (g : TG) (ag : AG) (B : List Nat) : Prop := ∀ (d : D) (ρ : AR) (k : AR → Prop), ag d ρ k → ∀ (v : V) (σ : St) (F H : Hp) (O : Addr → Prop), Sl K F H ρ σ O → Rp K F v d → ∀ (B' : List Nat), (∀ i ∈ B, i ∈ B') → ∀ Q : St → Hp → Prop,
  (∀ ρ' σ' F' H', Kp O F H O F' H' → Sl K F' H' ρ' σ' O → Keep B' σ σ' → k ρ' → Q σ' H') → g v σ H Q
def LkGs (K : PySem.W.Frag) (g : TGs) (ag : AGs) (B : List Nat) : Prop := ∀ (ds : List D) (ρ : AR) (k : AR → Prop), ag ds ρ k → ∀ (vs : List V) (σ : St) (F H : Hp) (O : Addr → Prop), Sl K F H ρ σ O → RpA K F vs ds → ∀ (B' : List Nat), (∀ i ∈ B, i ∈ B') → ∀ Q : St → Hp → Prop,
  (∀ ρ' σ' F' H', Kp O F H O F' H' → Sl K F' H' ρ' σ' O → Keep B' σ σ' → k ρ' → Q σ' H') → g vs σ H Q
structure GG (X : Cx) (tg : Expr) (g : TG) (ag : AG) (B : List Nat) : Prop where
  pg : PG X tg g
  lk : LkG X.K g ag B
structure GGs (X : Cx) (tgs : List Expr) (g : TGs) (ag : AGs) (B : List Nat) : Prop where
  pg : PGs X tgs g
  lk : LkGs X.K g ag B
def aName (i : Nat) : AG := fun d ρ k => k (ρ.set i (.im d))
def aGNil : AGs := fun ds ρ k => ds = [] ∧ k ρ
def aGCons (g : AG) (r : AGs) : AGs := fun ds ρ k => match ds with
  | d :: ds => g d ρ fun ρ1 => r ds ρ1 k
  | [] => False
def aGTup (n : Nat) (g : AGs) : AG := fun d ρ k => match d with
  | .tup ds => ds.length = n ∧ g ds ρ k
  | _ => False
section
variable {K : PySem.W.Frag}
theorem lk_name (i : Nat) : LkG K (gName i) (aName i) [i] := fun d ρ k h v σ F H O s r B' hB Q hq =>
  hq (ρ.set i (.im d)) (σ.set i (some v)) F H Kp.refl (s.setIm r i) (Keep.set (hB i List.mem_cons_self)) h
theorem lk_gnil : LkGs K gNil aGNil [] := fun ds ρ k h vs σ F H O s r B' hB Q hq => by
  obtain ⟨rfl, h⟩ := h
  cases r
  exact ⟨rfl, hq ρ σ F H Kp.refl s Keep.refl h⟩
theorem lk_gcons {g : TG} {gs : TGs} {ag : AG} {ags : AGs} {B1 B2 : List Nat} (h1 : LkG K g ag B1) (h2 : LkGs K gs ags B2) : LkGs K (gCons g gs) (aGCons ag ags) (B1 ++ B2) := by
  intro ds ρ k h vs σ F H O s r B' hB Q hq
  unfold aGCons at h
  cases r with
  | nil => exact h.elim
  | cons r1 r2 =>
    refine ⟨_, _, rfl, h1 _ ρ _ h _ σ F H O s r1 B' (fun i hi => hB i (List.mem_append_left _ hi)) _ fun ρ1 σ1 F1 H1 k1 s1 e1 h1' => ?_⟩
    exact h2 _ ρ1 k h1' _ σ1 F1 H1 O s1 (r2.mono k1.h2) B' (fun i hi => hB i (List.mem_append_right _ hi)) Q fun ρ2 σ2 F2 H2 k2 s2 e2 h2' => hq ρ2 σ2 F2 H2 (k1.trans k2) s2 (e1.trans e2) h2'
theorem lk_gtup {n : Nat} {gs : TGs} {ags : AGs} {B : List Nat} (h2 : LkGs K gs ags B) : LkG K (gTup K n gs) (aGTup n ags) B := by
  intro d ρ k h v σ F H O s r B' hB Q hq
  unfold aGTup at h
  split at h
  · rename_i ds
    cases r with
    | tup h1 h3 =>
      exact ⟨_, _, rfl, s.ex.t h1, h3.length.trans h.1, h2 ds ρ k h.2 _ σ F H O s h3 B' hB Q hq⟩
  · exact h.elim
end
section
variable {X : Cx}
theorem gg_name {i : Nat} {x : Str} {pos : Pos} (hN : X.N.Nodup) (hi : X.N[i]? = some x := by rfl) (hx : Loc X.env.scope x := by first | exact .inl rfl | exact .inr rfl) (hf : X.fn x = true ∨ X.env.scope.names.lookup x = some .local := by first | exact .inl rfl | exact .inr rfl | assumption) : GG X (.Name x pos) (gName i) (aName i) [i] :=
  ⟨pg_name hN hi hx hf, lk_name i⟩
theorem ggs_nil : GGs X [] gNil aGNil [] := ⟨pgs_nil, lk_gnil⟩
theorem ggs_cons {e : Expr} {es : List Expr} {t : TG} {u : TGs} {a : AG} {b : AGs} {B1 B2 : List Nat} (h1 : GG X e t a B1) (h2 : GGs X es u b B2)
    (hs : (assignEach (e :: es) X.env).map (·.2) = assign e X.env :: (assignEach es X.env).map (·.2) := by rfl) : GGs X (e :: es) (gCons t u) (aGCons a b) (B1 ++ B2) := ⟨pgs_cons h1.pg h2.pg hs, lk_gcons h1.lk h2.lk⟩
theorem gg_tup {es : List Expr} {k : Nat} {t : TGs} {a : AGs} {B : List Nat} {n : Nat} {pos : Pos} (hc : X.calm = true) (h : GGs X es t a B)
    (hn : (assignEach es X.env).length = n := by rfl) (hst : (assignEach es X.env).findIdx? (·.1) = none := by rfl) : GG X (.Tuple es k pos) (gTup X.K n t) (aGTup n a) B := ⟨pg_tup hc h.pg hn hst, lk_gtup h.lk⟩
end

/-! ### assignments, returns -/
def aAsg (e : AE) (g : AG) : AS := fun A ρ => e ρ fun x ρ1 => match x with
  | .im d => g d ρ1 A.nx
  | _ => False
def aAsgO (l : AL) (i : Nat) : AS := fun A ρ => l ρ fun ds ρ1 => A.nx (ρ1.set i (.ow (.ol ds)))
def aRet (e : AE) : AS := fun A ρ => e ρ fun x ρ1 => match x with
  | .im d => A.rt d ρ1
  | _ => False
def aRetL (l : AL) : AS := fun A ρ => l ρ fun ds ρ1 => A.rl ds ρ1
def aRetN : AS := fun A ρ => A.rt .non ρ
def aDrop (e : AE) : AS := fun A ρ => e ρ fun _ ρ1 => A.nx ρ1
def aBreak : AS := fun A ρ => A.bk ρ
def aCont : AS := fun A ρ => A.ct ρ
/-- the object in slot i is changed no more -/
def frz (ρ : AR) (i : Nat) : AR := match ρ[i]? with
  | some (.ow (.ol ds)) => ρ.set i (.im (.lst ds))
  | some (.ow (.od ks vs)) => ρ.set i (.im (.dic ks vs))
  | _ => ρ
def aFrz (i : Nat) (s : AS) : AS := fun A ρ => s A (frz ρ i)
section
variable {K : PySem.W.Frag} {W : WX'} {te : TE} {e : AE} {l : AL} {g : TG} {ag : AG} {B : List Nat}
theorem lk_asg (he : LkE K te e) (hg : LkG K g ag B) : LkS K W (tAsg te g) (aAsg e ag) B := by
  intro A ρ h σ F H O s B' Dn hB bd
  refine he ρ _ h σ F H O s _ fun v x ρ1 F1 H1 k1 s1 r1 h1 => ?_
  split at h1
  · rename_i d
    exact hg d ρ1 A.nx h1 v σ F1 H1 O s1 r1 B' hB _ fun ρ2 σ2 F2 H2 k2 s2 e2 h2 => bd.nx ρ2 σ2 F2 H2 O (k1.trans k2) s2 e2 h2
  · exact h1.elim
theorem lk_asgO (hl : LkL K te l) (i : Nat) : LkS K W (tAsg te (gName i)) (aAsgO l i) [i] := by
  intro A ρ h σ F H O s B' Dn hB bd
  refine hl ρ _ h σ F H O s _ fun p xs ds ρ1 F1 H1 k1 s1 hp fp nO h0 r h1 => ?_
  refine bd.nx (ρ1.set i (.ow (.ol ds))) (σ.set i (some (.ref p))) F1 H1 (fun a => O a ∨ a = p) ⟨k1.h1, k1.h2, k1.h3, fun a ha => ?_⟩ (s1.setOw (c := .ol ds) ⟨xs, hp, r⟩ fp nO i) (Keep.set (hB i List.mem_cons_self)) h1
  rcases ha with ha | rfl
  · exact .inl ha
  · exact .inr h0
theorem lk_ret (he : LkE K te e) : LkS K W (tRet te) (aRet e) [] := by
  intro A ρ h σ F H O s B' Dn hB bd
  refine he ρ _ h σ F H O s _ fun v x ρ1 F1 H1 k1 s1 r1 h1 => ?_
  split at h1
  · rename_i d
    exact bd.rt v d ρ1 σ F1 H1 O k1 s1 Keep.refl r1 h1
  · exact h1.elim
theorem lk_retL (hl : LkL K te l) : LkS K W (tRet te) (aRetL l) [] := fun A ρ h σ F H O s B' Dn hB bd =>
  hl ρ _ h σ F H O s _ fun p xs ds ρ1 F1 H1 k1 s1 hp fp nO h0 r h1 => bd.rl p xs ds ρ1 σ F1 H1 O k1 s1 Keep.refl hp fp nO (.inr h0) r h1
theorem lk_retN : LkS K W tRetN aRetN [] := fun A ρ h σ F H O s B' Dn hB bd => bd.rt .non .non ρ σ F H O Kp.refl s Keep.refl .non h
theorem lk_drop (he : LkE K te e) : LkS K W (tDrop te) (aDrop e) [] := fun A ρ h σ F H O s B' Dn hB bd =>
  he ρ _ h σ F H O s _ fun v x ρ1 F1 H1 k1 s1 r1 h1 => bd.nx ρ1 σ F1 H1 O k1 s1 Keep.refl h1
theorem lk_break : LkS K W tBreak aBreak [] := fun A ρ h σ F H O s B' Dn hB bd => bd.bk ρ σ F H O Kp.refl s Keep.refl h
theorem lk_cont : LkS K W tCont aCont [] := fun A ρ h σ F H O s B' Dn hB bd => bd.ct ρ σ F H O Kp.refl s Keep.refl h
theorem Sl.frz1 {F H : Hp} {ρ : AR} {σ : St} {O : Addr → Prop} (s : Sl K F H ρ σ O) (i : Nat) {c : OC} {d : D} (q : ρ[i]? = some (.ow c)) (hr : ∀ p, F p = none → OcOk K F H p c → ∃ o, H p = some o ∧ Rp K (upd F p o) (.ref p) d) : ∃ F' O', Kp O F H O' F' H ∧ Sl K F' H (ρ.set i (.im d)) σ O' := by
  obtain ⟨p, h1, h2, h5⟩ := s.ow i _ q
  have fp : F p = none := (s.fo p h2).1
  obtain ⟨o, h3, h4⟩ := hr p fp h5
  refine ⟨upd F p o, fun a => O a ∧ a ≠ p, ⟨fun _ _ h _ => h, Ex.new fp, fun a u e => ?_, fun a h => .inl h.1⟩, ?_⟩
  · by_cases z : a = p
    · subst z; exact .inr (.inl h2)
    · rw [upd_ne z] at e; exact .inl e
  · refine ⟨by rw [List.length_set, s.len], fun j d h => ?_, fun j c h => ?_, fun j j' c c' q' hij h h' g g' => ?_, (KF.take s.ex h3 fp).2, fun a h => ?_⟩
    · rcases set_get h with ⟨rfl, e⟩ | ⟨n, e⟩
      · cases e
        exact ⟨.ref p, h1, h4⟩
      · obtain ⟨v, a1, a2⟩ := s.im j d e
        exact ⟨v, a1, a2.mono (Ex.new fp)⟩
    · rcases set_get h with ⟨rfl, e⟩ | ⟨n, e⟩
      · cases e
      · obtain ⟨p', a1, a2, a3⟩ := s.ow j c e
        refine ⟨p', a1, ⟨a2, fun z => ?_⟩, a3.mono (Ex.new fp) rfl⟩
        subst z
        exact s.ap j i c _ p' n e q a1 h1
    · rcases set_get h with ⟨rfl, e⟩ | ⟨n, e⟩
      · cases e
      · rcases set_get h' with ⟨rfl, e'⟩ | ⟨n', e'⟩
        · cases e'
        · exact s.ap j j' c c' q' hij e e' g g'
    · obtain ⟨f0, hv⟩ := s.fo a h.1
      exact ⟨by rw [upd_ne h.2]; exact f0, hv⟩
theorem Sl.frz {F H : Hp} {ρ : AR} {σ : St} {O : Addr → Prop} (s : Sl K F H ρ σ O) (i : Nat) : ∃ F' O', Kp O F H O' F' H ∧ Sl K F' H (DL.frz ρ i) σ O' := by
  unfold DL.frz
  split
  · rename_i ds q
    refine s.frz1 i q fun p fp x => ?_
    obtain ⟨xs, h3, h4⟩ := x
    exact ⟨_, h3, .lst upd_same (h4.mono (Ex.new fp))⟩
  · rename_i ks vs q
    refine s.frz1 i q fun p fp x => ?_
    obtain ⟨es, ep, xs, ys, h1, h2, h3, h4, h5, h6⟩ := x
    exact ⟨_, h1, .dic upd_same h2 h3 h4 (h5.mono (Ex.new fp)) (h6.mono (Ex.new fp))⟩
  · exact ⟨F, O, Kp.refl, s⟩
theorem lk_frz {ts : TS} {as : AS} (i : Nat) (h : LkS K W ts as B) : LkS K W ts (aFrz i as) B := fun A ρ hA σ F H O s B' Dn hB bd => by
  obtain ⟨F', O', k, s'⟩ := s.frz i
  exact h A (frz ρ i) hA σ F' H O' s' B' Dn hB (bd.shift k Keep.refl)
end
section
variable {X : Cx} {W : WX'} {e : Expr} {te : TE} {a : AE} {l : AL} {g : TG} {ag : AG} {B : List Nat} {tg : Expr} {pos : Pos}
theorem gs_asg (he : GE X e te a) (hg : GG X tg g ag B) (hs : swapsWithSole [tg] e pos.line X.env = pure false := by rfl) (hw : swappedStores [tg] e X.env = pure none := by rfl)
    (h1 : (assignEach [tg] X.env).map (·.2) = [assign tg X.env] := by rfl) : GS X W (.Assign [tg] e pos) (tAsg te g) (aAsg a ag) B := ⟨ps_asg he.pe hg.pg hs hw h1, lk_asg he.lk hg.lk⟩
theorem gs_set {i : Nat} {x : Str} {pos' : Pos} (hN : X.N.Nodup) (he : GE X e te a) (hi : X.N[i]? = some x := by rfl) (hx : Loc X.env.scope x := by first | exact .inl rfl | exact .inr rfl) (hs : swapsWith e (some (.Name x pos')) pos.line X.env = pure false := by rfl) (hf : X.fn x = true ∨ X.env.scope.names.lookup x = some .local := by first | exact .inl rfl | exact .inr rfl | assumption) :
    GS X W (.Assign [.Name x pos'] e pos) (tAsg te (gName i)) (aAsg a (aName i)) [i] := ⟨ps_set hN hi hx he.pe hs hf, lk_asg he.lk (lk_name i)⟩
theorem gs_setO {i : Nat} {x : Str} {pos' : Pos} (hN : X.N.Nodup) (he : GL X e te l) (hi : X.N[i]? = some x := by rfl) (hx : Loc X.env.scope x := by first | exact .inl rfl | exact .inr rfl) (hs : swapsWith e (some (.Name x pos')) pos.line X.env = pure false := by rfl) (hf : X.fn x = true ∨ X.env.scope.names.lookup x = some .local := by first | exact .inl rfl | exact .inr rfl | assumption) :
    GS X W (.Assign [.Name x pos'] e pos) (tAsg te (gName i)) (aAsgO l i) [i] := ⟨ps_set hN hi hx he.pe hs hf, lk_asgO he.lk i⟩
theorem gs_ret (he : GE X e te a) : GS X W (.Return (some e) pos) (tRet te) (aRet a) [] := ⟨ps_ret he.pe, lk_ret he.lk⟩
theorem gs_retL (he : GL X e te l) : GS X W (.Return (some e) pos) (tRet te) (aRetL l) [] := ⟨ps_ret he.pe, lk_retL he.lk⟩
theorem gs_expr (he : GE X e te a) (hs : swapsWith e none pos.line X.env = pure false := by rfl) : GS X W (.Expr e pos) (tDrop te) (aDrop a) [] := ⟨ps_expr he.pe hs, lk_drop he.lk⟩
theorem gs_frz {st : Stmt} {ts : TS} {as : AS} (i : Nat) (h : GS X W st ts as B) : GS X W st ts (aFrz i as) B := ⟨h.ps, lk_frz i h.lk⟩
end
end DL

namespace DL
open PySem PySem.Spec L2
open PyProof.Rows hiding St

/-! ### what is walked -/
structure Walks (K : PySem.W.Frag) (J : It) (F : Hp) (ds : List D) : Prop where
  go : ∀ i H, i < ds.length → Ex F H → J.go i H
  yld : ∀ (i : Nat) (H : Hp) (x : V) (H' : Hp) (d : D), ds[i]? = some d → Ex F H → J.yld i H x H' → ∀ F1, Ex F F1 → Ex F1 H → ∃ F2, KF F1 H F2 H' ∧ Rp K F2 x d
  stop : ∀ H, Ex F H → J.stop ds.length H
abbrev AI := AR → (List D → AR → Prop) → Prop
def LkI (K : PySem.W.Frag) (wi : TI) (ai : AI) : Prop := ∀ (ρ : AR) (k : List D → AR → Prop), ai ρ k → ∀ (σ : St) (F H : Hp) (O : Addr → Prop), Sl K F H ρ σ O → ∀ R : It → Hp → Prop,
  (∀ J ds ρ' F' H', Kp O F H O F' H' → Sl K F' H' ρ' σ O → Walks K J F' ds → k ds ρ' → R J H') → wi σ H R
structure GI (X : Cx) (tg iter : Expr) (wi : TI) (ai : AI) : Prop where
  pi : PI X tg iter wi
  lk : LkI X.K wi ai
theorem Rd.inj {H : Hp} {a : Addr} {xs ys : List V} (h : Rd H a (.lst xs)) (g : Rd H a (.lst ys)) : xs = ys := by
  rcases h with h | ⟨o, h⟩ <;> rcases g with g | ⟨o', g⟩ <;> rw [h] at g <;> cases g <;> rfl
section
variable {K : PySem.W.Frag} {F : Hp}
theorem walks_lst {a : Addr} {xs : List V} {ds : List D} (h : SqL K F a xs) (r : RpA K F xs ds) : Walks K (Itl K a) F ds where
  go := fun i H hi e => by
    have hi' : i < xs.length := by rw [r.length]; exact hi
    exact ⟨xs, xs[i], e.l h, List.getElem?_eq_getElem hi'⟩
  yld := fun i H x H' d hd e y F1 e1 e2 => by
    obtain ⟨rfl, y⟩ := y
    obtain ⟨v, h1, h2⟩ := r.get hd
    have q := y xs (e.l h)
    rw [h1] at q
    cases q
    exact ⟨F1, KF.refl e2, h2.mono e1⟩
  stop := fun H e => ⟨xs, e.l h, by rw [r.length]; exact Nat.le_refl _⟩
theorem walks_tup {a : Addr} {xs : List V} {ds : List D} (h : SqT K F a xs) (r : RpA K F xs ds) : Walks K (Itt K a) F ds where
  go := fun i H hi e => by
    have hi' : i < xs.length := by rw [r.length]; exact hi
    exact ⟨xs, xs[i], e.t h, List.getElem?_eq_getElem hi'⟩
  yld := fun i H x H' d hd e y F1 e1 e2 => by
    obtain ⟨rfl, y⟩ := y
    obtain ⟨v, h1, h2⟩ := r.get hd
    have q := y xs (e.t h)
    rw [h1] at q
    cases q
    exact ⟨F1, KF.refl e2, h2.mono e1⟩
  stop := fun H e => ⟨xs, e.t h, by rw [r.length]; exact Nat.le_refl _⟩
/-- lo, lo + 1, .. -/
def rng (lo : Int) (n : Nat) : List D := (List.range n).map fun i => .int (lo + (i : Nat))
theorem rng_len (lo : Int) (n : Nat) : (rng lo n).length = n := by unfold rng; rw [List.length_map, List.length_range]
theorem rng_get {lo : Int} {n i : Nat} {d : D} (h : (rng lo n)[i]? = some d) : i < n ∧ d = .int (lo + (i : Nat)) := by
  have hi := get_lt h
  rw [rng_len] at hi
  unfold rng at h
  rw [List.getElem?_map, List.getElem?_range hi] at h
  exact ⟨hi, (Option.some.inj h).symm⟩
theorem walks_rng (lo : Int) (n : Nat) : Walks K (Itr lo n) F (rng lo n) where
  go := fun i H hi e => by rw [rng_len] at hi; exact hi
  yld := fun i H x H' d hd e y F1 e1 e2 => by
    obtain ⟨rfl, rfl⟩ := y
    obtain ⟨_, rfl⟩ := rng_get hd
    exact ⟨F1, KF.refl e2, .int _⟩
  stop := fun H e => by rw [rng_len]; exact Nat.le_refl _
end
/-- over a list, a tuple -/
def aIL (e : AE) : AI := fun ρ k => e ρ fun x ρ1 => match x with
  | .im (.lst ds) => k ds ρ1
  | _ => False
def aIT (e : AE) : AI := fun ρ k => e ρ fun x ρ1 => match x with
  | .im (.tup ds) => k ds ρ1
  | _ => False
def aRg1 (aa : AA) : AI := fun ρ k => aa ρ fun as ρ1 => match as with
  | [.im (.int n)] => (-1000000 ≤ n ∧ n ≤ 1000000) ∧ k (rng 0 n.toNat) ρ1
  | _ => False
def aRg2 (aa : AA) : AI := fun ρ k => aa ρ fun as ρ1 => match as with
  | [.im (.int a), .im (.int b)] => (-1000000 ≤ a ∧ a ≤ 1000000 ∧ -1000000 ≤ b ∧ b ≤ 1000000) ∧ k (rng a (b - a).toNat) ρ1
  | _ => False
section
variable {K : PySem.W.Frag} {te : TE} {e : AE} {ta : TA} {aa : AA}
theorem lk_iL (he : LkE K te e) : LkI K (iList K te) (aIL e) := by
  intro ρ k hk σ F H O s R hq
  refine he ρ _ hk σ F H O s _ fun v x ρ1 F1 H1 k1 s1 r1 h1 => ?_
  split at h1
  · rename_i ds
    cases (show Rp K F1 v (.lst ds) from r1) with
    | lst a1 a2 => exact ⟨_, rfl, ⟨_, SqL.of (s1.ex _ _ a1)⟩, hq _ ds ρ1 F1 H1 k1 s1 (walks_lst (SqL.of a1) a2) h1⟩
  · exact h1.elim
theorem lk_iT (he : LkE K te e) : LkI K (iTup K te) (aIT e) := by
  intro ρ k hk σ F H O s R hq
  refine he ρ _ hk σ F H O s _ fun v x ρ1 F1 H1 k1 s1 r1 h1 => ?_
  split at h1
  · rename_i ds
    cases (show Rp K F1 v (.tup ds) from r1) with
    | tup a1 a2 => exact ⟨_, rfl, ⟨_, s1.ex.t a1⟩, hq _ ds ρ1 F1 H1 k1 s1 (walks_tup a1 a2) h1⟩
  · exact h1.elim
theorem lk_rg1 (ha : LkA K ta aa) : LkI K (iRng1 ta) (aRg1 aa) := by
  intro ρ k hk σ F H O s R hq
  refine ha ρ _ hk σ F H O s _ fun vs as ρ1 F1 H1 k1 s1 r1 h1 => ?_
  split at h1
  · rename_i n
    match vs, r1 with
    | [v], ⟨r, _⟩ =>
      cases (show Rp K F1 v (.int n) from r)
      exact ⟨n, rfl, by omega, by omega, hq _ _ ρ1 F1 H1 k1 s1 (walks_rng 0 n.toNat) h1.2⟩
  · exact h1.elim
theorem lk_rg2 (ha : LkA K ta aa) : LkI K (iRng2 ta) (aRg2 aa) := by
  intro ρ k hk σ F H O s R hq
  refine ha ρ _ hk σ F H O s _ fun vs as ρ1 F1 H1 k1 s1 r1 h1 => ?_
  split at h1
  · rename_i a b
    match vs, r1 with
    | [v, u], ⟨r, r', _⟩ =>
      cases (show Rp K F1 v (.int a) from r)
      cases (show Rp K F1 u (.int b) from r')
      exact ⟨a, b, rfl, ⟨by omega, by omega, by omega, by omega⟩, hq _ _ ρ1 F1 H1 k1 s1 (walks_rng a (b - a).toNat) h1.2⟩
  · exact h1.elim
end
section
variable {X : Cx} {tg e : Expr} {te : TE} {a : AE} {x y : Expr} {ta : TA} {aa : AA} {p pos : Pos}
theorem gi_list (he : GE X e te a) : GI X tg e (iList X.K te) (aIL a) := ⟨pi_list he.pe, lk_iL he.lk⟩
theorem gi_tup (he : GE X e te a) : GI X tg e (iTup X.K te) (aIT a) := ⟨pi_tup he.pe, lk_iT he.lk⟩
end

/-! ### for, while -/
def aFor (ai : AI) (g : AG) (b : AS) : AS := fun A ρ => ai ρ fun ds ρ1 => ∃ W : Nat → AR → Prop, W 0 ρ1 ∧
  (∀ (i : Nat) (d : D) (ρ' : AR), ds[i]? = some d → W i ρ' → g d ρ' fun ρ'' => b { A with nx := W (i + 1), ct := W (i + 1), bk := A.nx } ρ'') ∧ ∀ ρ', W ds.length ρ' → A.nx ρ'
def aWhile (t : AT) (b : AS) : AS := fun A ρ => ∃ W : Nat → AR → Prop, (∃ m, W m ρ) ∧ ∀ m ρ', W m ρ' →
  t ρ' fun c ρ1 => if c = true then b { A with nx := fun ρ2 => ∃ m', m' < m ∧ W m' ρ2, ct := fun ρ2 => ∃ m', m' < m ∧ W m' ρ2, bk := A.nx } ρ1 else A.nx ρ1
section
variable {K : PySem.W.Frag} {W : WX'} {wi : TI} {ai : AI} {g : TG} {ag : AG} {tb : TS} {ab : AS} {B1 B2 B : List Nat}
theorem lk_for (hi : LkI K wi ai) (hg : LkG K g ag B1) (hb : LkS K W tb ab B2) : LkS K W (tFor wi g tb) (aFor ai ag ab) (B1 ++ B2) := by
  intro A ρ h σ F H O s B' Dn hB bd
  refine hi ρ _ h σ F H O s _ fun J ds ρ1 F1 H1 k1 s1 wk h1 => ?_
  obtain ⟨Wa, w0, turn, done⟩ := h1
  have hB1 : ∀ i ∈ B1, i ∈ B' := fun i hi => hB i (List.mem_append_left _ hi)
  have hB2 : ∀ i ∈ B2, i ∈ B' := fun i hi => hB i (List.mem_append_right _ hi)
  let Inv : Nat → St → Hp → Prop := fun i σ' H' => ∃ ρ' F' O', Kp O F1 H1 O' F' H' ∧ Sl K F' H' ρ' σ' O' ∧ Keep B' σ σ' ∧ Wa i ρ'
  refine ⟨fun i m σ' H' => m = ds.length - i ∧ i ≤ ds.length ∧ Inv i σ' H', ⟨ds.length, by simp, Nat.zero_le _, ρ1, F1, O, Kp.refl, s1, Keep.refl, w0⟩, ?_⟩
  rintro i m σ' H' ⟨rfl, hle, ρ', F', O', k2, s2, e2, w2⟩
  have exF : Ex F1 H' := k2.h2.trans s2.ex
  by_cases hlt : i < ds.length
  · refine .inr ⟨wk.go i H' hlt exF, Inv (i + 1), fun σ3 H3 q => ⟨ds.length - (i + 1), by omega, rfl, hlt, q⟩, fun x H3 y => ?_⟩
    obtain ⟨F3, kf, rx⟩ := wk.yld i H' x H3 ds[i] (List.getElem?_eq_getElem hlt) exF y F' k2.h2 s2.ex
    have s3 := s2.kf kf
    refine hg ds[i] ρ' _ (turn i ds[i] ρ' (List.getElem?_eq_getElem hlt) w2) x σ' F3 H3 O' s3 rx B' hB1 _ fun ρ4 σ4 F4 H4 k4 s4 e4 h4 => ?_
    have kk : Kp O F1 H1 O' F4 H4 := (k2.trans kf.kp).trans k4
    refine hb _ ρ4 h4 σ4 F4 H4 O' s4 B' _ hB2 ⟨fun ρ5 σ5 F5 H5 O5 k5 s5 e5 w5 => ?_, fun v d ρ5 σ5 F5 H5 O5 k5 s5 e5 r5 w5 => ?_, fun ρ5 σ5 F5 H5 O5 k5 s5 e5 w5 => ?_, fun ρ5 σ5 F5 H5 O5 k5 s5 e5 w5 => ?_, fun x' cls dd ρ5 σ5 F5 H5 O5 k5 s5 e5 o5 w5 => ?_, fun p5 xs5 ds5 ρ5 σ5 F5 H5 O5 k5 s5 e5 a1 a2 a3 a4 r5 w5 => ?_⟩
    · exact ⟨ρ5, F5, O5, kk.trans k5, s5, (e2.trans e4).trans e5, w5⟩
    · exact bd.rt v d ρ5 σ5 F5 H5 O5 ((k1.trans kk).trans k5) s5 ((e2.trans e4).trans e5) r5 w5
    · exact bd.nx ρ5 σ5 F5 H5 O5 ((k1.trans kk).trans k5) s5 ((e2.trans e4).trans e5) w5
    · exact ⟨ρ5, F5, O5, kk.trans k5, s5, (e2.trans e4).trans e5, w5⟩
    · exact bd.ex x' cls dd ρ5 σ5 F5 H5 O5 ((k1.trans kk).trans k5) s5 ((e2.trans e4).trans e5) o5 w5
    · exact bd.rl p5 xs5 ds5 ρ5 σ5 F5 H5 O5 ((k1.trans kk).trans k5) s5 ((e2.trans e4).trans e5) a1 a2 a3 ((k1.trans kk).back2 a4) r5 w5
  · have e : i = ds.length := by omega
    subst e
    exact .inl ⟨wk.stop H' exF, bd.nx ρ' σ' F' H' O' (k1.trans k2) s2 e2 (done ρ' w2)⟩
theorem lk_while {tt : TT} {at_ : AT} (ht : LkT K tt at_) (hb : LkS K W tb ab B) : LkS K W (tWhile tt tb) (aWhile at_ ab) B := by
  intro A ρ h σ F H O s B' Dn hB bd
  obtain ⟨Wa, ⟨m0, w0⟩, turn⟩ := h
  let Inv : Nat → St → Hp → Prop := fun m σ' H' => ∃ ρ' F' O', Kp O F H O' F' H' ∧ Sl K F' H' ρ' σ' O' ∧ Keep B' σ σ' ∧ Wa m ρ'
  refine ⟨Inv, ⟨m0, ρ, F, O, Kp.refl, s, Keep.refl, w0⟩, ?_⟩
  rintro m σ' H' ⟨ρ', F', O', k2, s2, e2, w2⟩
  refine ht ρ' _ (turn m ρ' w2) σ' F' H' O' s2 _ fun c ρ3 F3 H3 k3 s3 h3 => ?_
  have kk := k2.trans k3
  cases c with
  | true =>
    rw [if_pos rfl] at h3 ⊢
    refine ⟨fun σ5 H5 => ∃ m', m' < m ∧ Inv m' σ5 H5, fun σ5 H5 q => q, ?_⟩
    refine hb _ ρ3 h3 σ' F3 H3 O' s3 B' _ hB ⟨fun ρ5 σ5 F5 H5 O5 k5 s5 e5 w5 => ?_, fun v d ρ5 σ5 F5 H5 O5 k5 s5 e5 r5 w5 => ?_, fun ρ5 σ5 F5 H5 O5 k5 s5 e5 w5 => ?_, fun ρ5 σ5 F5 H5 O5 k5 s5 e5 w5 => ?_, fun x' cls dd ρ5 σ5 F5 H5 O5 k5 s5 e5 o5 w5 => ?_, fun p5 xs5 ds5 ρ5 σ5 F5 H5 O5 k5 s5 e5 a1 a2 a3 a4 r5 w5 => ?_⟩
    · obtain ⟨m', hm, w5⟩ := w5
      exact ⟨m', hm, ρ5, F5, O5, kk.trans k5, s5, e2.trans e5, w5⟩
    · exact bd.rt v d ρ5 σ5 F5 H5 O5 (kk.trans k5) s5 (e2.trans e5) r5 w5
    · exact bd.nx ρ5 σ5 F5 H5 O5 (kk.trans k5) s5 (e2.trans e5) w5
    · obtain ⟨m', hm, w5⟩ := w5
      exact ⟨m', hm, ρ5, F5, O5, kk.trans k5, s5, e2.trans e5, w5⟩
    · exact bd.ex x' cls dd ρ5 σ5 F5 H5 O5 (kk.trans k5) s5 (e2.trans e5) o5 w5
    · exact bd.rl p5 xs5 ds5 ρ5 σ5 F5 H5 O5 (kk.trans k5) s5 (e2.trans e5) a1 a2 a3 (kk.back2 a4) r5 w5
  | false =>
    rw [if_neg Bool.false_ne_true] at h3 ⊢
    exact bd.nx ρ3 σ' F3 H3 O' kk s3 e2 h3
end
section
variable {X : Cx} {W : WX'} {iter tg : Expr} {body : List Stmt} {wi : TI} {ai : AI} {g : TG} {ag : AG} {tb : TS} {ab : AS} {B1 B2 B : List Nat} {pos : Pos}
theorem gs_for (hp : PassesOwn (model X.prog X.w) X.A X.env X.xe) (hc : X.calm = true) (hi : GI X tg iter wi ai) (hg : GG X tg g ag B1) (hb : GSs X W body tb ab B2) (hs : ∀ x, foldedSetIterable iter X.env x = pure x := by intro _; rfl) : GS X W (.For tg iter body [] pos) (tFor wi g tb) (aFor ai ag ab) (B1 ++ B2) :=
  ⟨ps_for hp hc hi.pi hg.pg hb.ps hs, lk_for hi.lk hg.lk hb.lk⟩
theorem gs_while {c : Expr} {tc : TT} {ac : AT} (hp : PassesOwn (model X.prog X.w) X.A X.env X.xe) (hc : GT X c tc ac) (hb : GSs X W body tb ab B) : GS X W (.While c body [] pos) (tWhile tc tb) (aWhile ac ab) B :=
  ⟨ps_while hp hc.pt hb.ps, lk_while hc.lk hb.lk⟩
end

/-! ### comprehensions -/
def wipeA (ρ : AR) : List Nat → AR
  | [] => ρ
  | v :: vs => (wipeA ρ vs).set v .un
def mrg : List Nat → AR → AR → AR
  | [], _, ρ4 => ρ4
  | v :: vs, ρ, ρ4 => (mrg vs ρ ρ4).set v (ρ.getD v .un)
def noOw (ρ : AR) : List Nat → Bool
  | [] => true
  | v :: vs => !isOw ρ v && noOw ρ vs
def aYes : AT := fun ρ k => k true ρ
def aLc (ai : AI) (g : AG) (at_ : AT) (ae : AE) (vs : List Nat) : AL := fun ρ k => ai ρ fun ds ρ1 => ∃ W : Nat → List D → AR → Prop, W 0 [] ρ1 ∧
  (∀ (i : Nat) (d : D) (acc : List D) (ρ' : AR), ds[i]? = some d → W i acc ρ' → noOw ρ' vs = true ∧ g d (wipeA ρ' vs) fun ρ2 => at_ ρ2 fun b ρ3 =>
    if b = true then ae ρ3 fun x ρ4 => ∃ y, x = .im y ∧ acc.length < 1000000 ∧ W (i + 1) (acc ++ [y]) (mrg vs ρ' ρ4) else W (i + 1) acc (mrg vs ρ' ρ3)) ∧
  ∀ acc ρ', W ds.length acc ρ' → k acc ρ'
section
variable {K : PySem.W.Frag} {F H : Hp} {ρ ρ4 : AR} {σ σ2 : St} {O : Addr → Prop}
theorem wipe_get {vs : List Nat} : ∀ {σ : St} {i : Nat}, i ∉ vs → (wipe σ vs)[i]? = σ[i]? := by
  induction vs with
  | nil => intro σ i _; rfl
  | cons v vs ih =>
    intro σ i h
    unfold wipe
    rw [List.getElem?_set_ne (fun z => h (by rw [z]; exact List.mem_cons_self))]
    exact ih fun z => h (List.mem_cons_of_mem _ z)
theorem wipe_in {vs : List Nat} : ∀ {σ : St} {i : Nat}, i ∈ vs → i < σ.length → (wipe σ vs)[i]? = some none := by
  induction vs with
  | nil => intro σ i h; cases h
  | cons v vs ih =>
    intro σ i h hi
    unfold wipe
    by_cases e : v = i
    · subst e
      exact List.getElem?_set_self (by rw [wipe_length]; exact hi)
    · rw [List.getElem?_set_ne e]
      exact ih ((List.mem_cons.mp h).resolve_left fun z => e z.symm) hi
theorem wipe_eq {vs : List Nat} (hl : σ2.length = σ.length) (h : ∀ i : Nat, i ∉ vs → σ2[i]? = σ[i]?) : wipe σ2 vs = wipe σ vs := by
  apply List.ext_getElem?
  intro i
  by_cases hi : i ∈ vs
  · by_cases hz : i < σ.length
    · rw [wipe_in hi hz, wipe_in hi (by rw [hl]; exact hz)]
    · rw [List.getElem?_eq_none (by rw [wipe_length, hl]; omega), List.getElem?_eq_none (by rw [wipe_length]; omega)]
  · rw [wipe_get hi, wipe_get hi, h i hi]
theorem wipeA_len (vs : List Nat) : (wipeA ρ vs).length = ρ.length := by
  induction vs with
  | nil => rfl
  | cons v vs ih => unfold wipeA; rw [List.length_set, ih]
theorem wipeA_get {s : SV} : ∀ {vs : List Nat} {i : Nat}, (wipeA ρ vs)[i]? = some s → s = .un ∨ (ρ[i]? = some s ∧ i ∉ vs)
  | [], i, h => .inr ⟨h, by simp⟩
  | v :: vs, i, h => by
    unfold wipeA at h
    rcases set_get h with ⟨rfl, e⟩ | ⟨n, e⟩
    · exact .inl e
    · rcases wipeA_get e with q | ⟨q, m⟩
      · exact .inl q
      · exact .inr ⟨q, by simp only [List.mem_cons, not_or]; exact ⟨n, m⟩⟩
theorem Sl.wipe (s : Sl K F H ρ σ O) (vs : List Nat) : Sl K F H (wipeA ρ vs) (L2.wipe σ vs) O where
  len := by rw [wipeA_len, wipe_length, s.len]
  im := fun i d h => by
    rcases wipeA_get h with e | ⟨e, n⟩
    · cases e
    · obtain ⟨v, h1, h2⟩ := s.im i d e
      exact ⟨v, (wipe_get n).trans h1, h2⟩
  ow := fun i c h => by
    rcases wipeA_get h with e | ⟨e, n⟩
    · cases e
    · obtain ⟨p, h1, h2⟩ := s.ow i c e
      exact ⟨p, (wipe_get n).trans h1, h2⟩
  ap := fun i j c c' p hij h h' g g' => by
    rcases wipeA_get h with e | ⟨e, n⟩
    · cases e
    · rcases wipeA_get h' with e' | ⟨e', n'⟩
      · cases e'
      · rw [wipe_get n] at g
        rw [wipe_get n'] at g'
        exact s.ap i j c c' p hij e e' g g'
  ex := s.ex
  fo := s.fo
theorem mrg_len (vs : List Nat) : (mrg vs ρ ρ4).length = ρ4.length := by
  induction vs with
  | nil => rfl
  | cons v vs ih => unfold mrg; rw [List.length_set, ih]
theorem mrg_get {s : SV} : ∀ {vs : List Nat} {i : Nat}, (mrg vs ρ ρ4)[i]? = some s → (i ∈ vs ∧ s = ρ.getD i .un) ∨ (i ∉ vs ∧ ρ4[i]? = some s)
  | [], i, h => .inr ⟨by simp, h⟩
  | v :: vs, i, h => by
    unfold mrg at h
    rcases set_get h with ⟨rfl, e⟩ | ⟨n, e⟩
    · exact .inl ⟨List.mem_cons_self, e⟩
    · rcases mrg_get e with ⟨q, m⟩ | ⟨q, m⟩
      · exact .inl ⟨List.mem_cons_of_mem _ q, m⟩
      · exact .inr ⟨by simp only [List.mem_cons, not_or]; exact ⟨n, q⟩, m⟩
theorem noOw_get : ∀ {vs : List Nat} {i : Nat} {c : OC}, noOw ρ vs = true → i ∈ vs → ρ[i]? ≠ some (.ow c)
  | [], _, _, _, h => by cases h
  | v :: vs, i, c, hn, h => by
    unfold noOw at hn
    simp only [Bool.and_eq_true, Bool.not_eq_true'] at hn
    rcases List.mem_cons.mp h with rfl | h
    · intro e
      have q := hn.1
      unfold isOw at q
      rw [e] at q
      cases q
    · exact noOw_get hn.2 h
theorem getD_some {s : SV} {i : Nat} (h : ρ.getD i .un = s) (hs : s ≠ .un) : ρ[i]? = some s := by
  rw [List.getD_eq_getElem?_getD] at h
  cases e : ρ[i]? with
  | none => rw [e] at h; exact (hs h.symm).elim
  | some t => rw [e] at h; exact congrArg some h
/-- the block's end: the names ahead are there again -/
theorem Sl.merge {F' H' : Hp} {vs : List Nat} (s : Sl K F H ρ σ O) (hn : noOw ρ vs = true) (e : Ex F F') (s4 : Sl K F' H' ρ4 σ2 O) (hl : σ2.length = σ.length) (hk : ∀ i : Nat, i ∉ vs → σ2[i]? = σ[i]?) : Sl K F' H' (mrg vs ρ ρ4) σ O where
  len := by rw [mrg_len, s4.len, hl]
  im := fun i d h => by
    rcases mrg_get h with ⟨hi, q⟩ | ⟨hi, q⟩
    · obtain ⟨v, h1, h2⟩ := s.im i d (getD_some q.symm (by intro z; cases z))
      exact ⟨v, h1, h2.mono e⟩
    · obtain ⟨v, h1, h2⟩ := s4.im i d q
      exact ⟨v, (hk i hi).symm.trans h1, h2⟩
  ow := fun i c h => by
    rcases mrg_get h with ⟨hi, q⟩ | ⟨hi, q⟩
    · exact (noOw_get hn hi (getD_some q.symm (by intro z; cases z))).elim
    · obtain ⟨p, h1, h2⟩ := s4.ow i c q
      exact ⟨p, (hk i hi).symm.trans h1, h2⟩
  ap := fun i j c c' p hij h h' g g' => by
    rcases mrg_get h with ⟨hi, q⟩ | ⟨hi, q⟩
    · exact (noOw_get hn hi (getD_some q.symm (by intro z; cases z))).elim
    · rcases mrg_get h' with ⟨hi', q'⟩ | ⟨hi', q'⟩
      · exact (noOw_get hn hi' (getD_some q'.symm (by intro z; cases z))).elim
      · rw [← hk i hi] at g
        rw [← hk j hi'] at g'
        exact s4.ap i j c c' p hij q q' g g'
  ex := s4.ex
  fo := s4.fo
theorem Kp.at_ {O O' : Addr → Prop} {F H F' H' : Hp} (k : Kp O F H O' F' H') {p : Addr} {o : HO} (h0 : H p = none) : Kp O F H O' F' (upd H' p o) :=
  ⟨fun a u e n => by rw [upd_ne (ne_of_none e h0)]; exact k.h1 a u e n, k.h2, k.h3, k.h4⟩
theorem Sl.other (s : Sl K F H ρ σ O) {p : Addr} {o : HO} (fp : F p = none) (nO : ¬ O p) : Sl K F (upd H p o) ρ σ O where
  len := s.len
  im := s.im
  ow := fun i c e => by
    obtain ⟨q, h1, h2, h3⟩ := s.ow i c e
    exact ⟨q, h1, h2, h3.mono (Ex.refl F) (upd_ne fun z => nO (by rw [← z]; exact h2))⟩
  ap := s.ap
  ex := fun a u e => by
    rw [upd_ne (ne_of_none e fp)]
    exact s.ex a u e
  fo := fun a h => by
    obtain ⟨f0, u, hu⟩ := s.fo a h
    exact ⟨f0, u, by rw [upd_ne (fun z => nO (by rw [← z]; exact h))]; exact hu⟩
theorem lk_yes : LkT K tYes aYes := fun ρ k hk σ F H O s Q hq => hq true ρ F H Kp.refl s hk
theorem lc_at {J : It} {ds : List D} {F1 H1 : Hp} {ρ1 : AR} {σ : St} {O : Addr → Prop} {k : List D → AR → Prop} {g : TG} {ag : AG} {tt : TT} {at_ : AT} {te : TE} {ae : AE} {vs B : List Nat} (hg : LkG K g ag B) (ht : LkT K tt at_) (he : LkE K te ae) (hB : ∀ i ∈ B, i ∈ vs)
    (s1 : Sl K F1 H1 ρ1 σ O) (wk : Walks K J F1 ds) (h1 : aLc (fun ρ kk => kk ds ρ) ag at_ ae vs ρ1 k) (Q : VK)
    (hq : ∀ p xs ds ρ' F' H', Kp O F1 H1 O F' H' → Sl K F' H' ρ' σ O → H' p = some (.lst xs) → F' p = none → ¬ O p → H1 p = none → RpA K F' xs ds → k ds ρ' → Q (.ref p) H') : tLc (fun _ H R => R J H) g tt te vs σ H1 Q := by
  obtain ⟨Wa, w0, turn, done⟩ := h1
  intro Dl hD
  have nO : ¬ O Dl := s1.notO hD
  have fD : F1 Dl = none := s1.notF hD
  let Inv : Nat → Hp → Prop := fun i H' => ∃ ρ' F' acc xs, Kp O F1 H1 O F' H' ∧ Sl K F' H' ρ' σ O ∧ H' Dl = some (.lst xs) ∧ F' Dl = none ∧ RpA K F' xs acc ∧ Wa i acc ρ'
  have sD : Sl K F1 (upd H1 Dl (.lst [])) ρ1 σ O := s1.kf ⟨Ex.refl _, Ex.new hD, s1.ex.trans (Ex.new hD), fun _ _ h => .inl h⟩
  refine ⟨fun i m H' => m = ds.length - i ∧ i ≤ ds.length ∧ Inv i H', ⟨ds.length, by simp, Nat.zero_le _, ρ1, F1, [], [], ⟨fun a o h _ => Ex.new hD a o h, Ex.refl _, fun _ _ h => .inl h, fun _ h => .inl h⟩, sD, upd_same, fD, .nil, w0⟩, ?_⟩
  rintro i m H' ⟨rfl, hle, ρ', F', acc, xs, k2, s2, hDl, fDl, racc, w2⟩
  have exF : Ex F1 H' := k2.h2.trans s2.ex
  by_cases hlt : i < ds.length
  · refine .inr ⟨wk.go i H' hlt exF, Inv (i + 1), fun H3 q => ⟨ds.length - (i + 1), by omega, rfl, hlt, q⟩, fun x H3 y => ?_⟩
    obtain ⟨F3, kf, rx⟩ := wk.yld i H' x H3 ds[i] (List.getElem?_eq_getElem hlt) exF y F' k2.h2 s2.ex
    obtain ⟨hno, turn'⟩ := turn i ds[i] acc ρ' (List.getElem?_eq_getElem hlt) w2
    have s3 := s2.kf kf
    refine hg ds[i] _ _ turn' x (wipe σ vs) F3 H3 O (s3.wipe vs) rx vs hB _ fun ρ4 σ4 F4 H4 k4 s4 e4 h4 => ?_
    have hl4 : σ4.length = σ.length := by rw [e4.ln, wipe_length]
    have hk4 : ∀ i : Nat, i ∉ vs → σ4[i]? = σ[i]? := fun i hi => (e4.at_ i hi).trans (wipe_get hi)
    refine ⟨wipe_eq hl4 hk4, ?_⟩
    refine ht ρ4 _ h4 σ4 F4 H4 O s4 _ fun b ρ5 F5 H5 k5 s5 h5 => ?_
    have k45 : Kp O F' H' O F5 H5 := (kf.kp.trans k4).trans k5
    -- the new list is untouched
    have keepD : ∀ {F6 H6 : Hp}, Kp O F' H' O F6 H6 → H6 Dl = some (.lst xs) ∧ F6 Dl = none := fun {F6 H6} kk => ⟨kk.h1 Dl _ hDl nO, by
      cases q : F6 Dl with
      | none => rfl
      | some u =>
        rcases kk.h3 Dl u q with z | z | z
        · rw [fDl] at z; cases z
        · exact (nO z).elim
        · rw [hDl] at z; cases z⟩
    cases b with
    | true =>
      rw [if_pos rfl] at h5 ⊢
      refine he ρ5 _ h5 σ4 F5 H5 O s5 _ fun v x' ρ6 F6 H6 k6 s6 r6 h6 => ?_
      obtain ⟨y', rfl, hz, w6⟩ := h6
      have kk := k45.trans k6
      obtain ⟨hD6, fD6⟩ := keepD kk
      have rv : Rp K F6 v y' := r6
      have hl : xs.length < sizeLine := by rw [racc.length]; exact szl hz
      have sm : Sl K F6 H6 (mrg vs ρ' ρ6) σ O := s2.merge hno kk.h2 s6 hl4 hk4
      refine ⟨xs, hD6, hl, mrg vs ρ' ρ6, F6, acc ++ [y'], xs ++ [v], (k2.trans kk).at_ hD, sm.other fD6 nO, upd_same, fD6, (racc.mono kk.h2).append (.cons rv .nil), w6⟩
    | false =>
      rw [if_neg Bool.false_ne_true] at h5 ⊢
      obtain ⟨hD5, fD5⟩ := keepD k45
      exact ⟨mrg vs ρ' ρ5, F5, acc, xs, k2.trans k45, s2.merge hno k45.h2 s5 hl4 hk4, hD5, fD5, racc.mono k45.h2, h5⟩
  · have e : i = ds.length := by omega
    subst e
    exact .inl ⟨wk.stop H' exF, hq Dl xs acc ρ' F' H' k2 s2 hDl fDl nO hD racc (done acc ρ' w2)⟩
theorem lk_lc {wi : TI} {ai : AI} {g : TG} {ag : AG} {tt : TT} {at_ : AT} {te : TE} {ae : AE} {vs B : List Nat} (hi : LkI K wi ai) (hg : LkG K g ag B) (ht : LkT K tt at_) (he : LkE K te ae) (hB : ∀ i ∈ B, i ∈ vs) :
    LkL K (tLc wi g tt te vs) (aLc ai ag at_ ae vs) := by
  intro ρ k hk σ F H O s Q hq
  exact hi ρ _ hk σ F H O s _ fun J ds ρ1 F1 H1 k1 s1 wk h1 => lc_at hg ht he hB s1 wk h1 Q fun p xs ds ρ' F' H' k2 s2 hp fp nO h0 r hk' => hq p xs ds ρ' F' H' (k1.trans k2) s2 hp fp nO (k1.back h0 nO) r hk'
end
section
variable {X : Cx}
structure GTs (X : Cx) (ifs : List Expr) (tt : TT) (at_ : AT) : Prop where
  pt : PTs X ifs tt
  lk : LkT X.K tt at_
theorem gts_nil : GTs X [] tYes aYes := ⟨pts_nil, lk_yes⟩
theorem gts_one {c : Expr} {t : TT} {a : AT} (h : GT X c t a) : GTs X [c] t a := ⟨pts_one h.pt, h.lk⟩
/-- [elt for target in iter if ..] -/
theorem gl_lc {elt tg iter : Expr} {ifs : List Expr} {scope : Scope} {own : List (Str × Nat)} {pos : Pos} {wi : TI} {ai : AI} {g : TG} {ag : AG} {tt : TT} {at_ : AT} {te : TE} {ae : AE} {B : List Nat} (hc : X.calm = true) (hN : X.N.Nodup) (ok : BlkOk X.N X.env.scope scope own) (hi : GI X tg iter wi ai)
    (hg : ∀ (s : Shared) (H : Hp) (C : Addr) (cl : List (Str × Addr)) (fp : List Addr), GG (X.blk s H scope (compEnvC scope cl C X.env) fp) tg g ag B) (ht : ∀ (s : Shared) (H : Hp) (C : Addr) (cl : List (Str × Addr)) (fp : List Addr), GTs (X.blk s H scope (compEnvC scope cl C X.env) fp) ifs tt at_)
    (he : ∀ (s : Shared) (H : Hp) (C : Addr) (cl : List (Str × Addr)) (fp : List Addr), GE (X.blk s H scope (compEnvC scope cl C X.env) fp) elt te ae) (hB : ∀ i ∈ B, i ∈ own.map (·.2) := by decide) (hs : ∀ x, foldedSetIterable iter X.env x = pure x := by intro _; rfl) :
    GL X (.ListComp elt [⟨tg, iter, ifs, 0⟩] scope pos) (tLc wi g tt te (own.map (·.2))) (aLc ai ag at_ ae (own.map (·.2))) := by
  refine ⟨pe_lc hc hN hi.pi ok (fun s H C cl fp => (hg s H C cl fp).pg) (fun s H C cl fp => (ht s H C cl fp).pt) (fun s H C cl fp => (he s H C cl fp).pe) hs, ?_⟩
  exact lk_lc hi.lk (hg {} (fun _ => none) 0 [] []).lk (ht {} (fun _ => none) 0 [] []).lk (he {} (fun _ => none) 0 [] []).lk hB
/-- name = [..] on one line, the name a local: frozen, owned -/
theorem gs_setLc {W : WX'} {i : Nat} {y : Str} {py : Pos} {elt tg iter : Expr} {ifs : List Expr} {scope : Scope} {own : List (Str × Nat)} {pos spos : Pos} {wi : TI} {ai : AI} {g : TG} {ag : AG} {tt : TT} {at_ : AT} {te : TE} {ae : AE} {B : List Nat} (hc : X.calm = true) (hN : X.N.Nodup)
    (hsw : swapsWith (.ListComp elt [⟨tg, iter, ifs, 0⟩] scope pos) (some (.Name y py)) spos.line X.env = pure true) (ok : BlkOk X.N X.env.scope scope own) (hi : GI X tg iter wi ai)
    (hg : ∀ (s : Shared) (H : Hp) (C : Addr) (cl : List (Str × Addr)) (fp : List Addr), GG (X.blk s H scope (compEnvC scope cl C X.env) fp) tg g ag B) (ht : ∀ (s : Shared) (H : Hp) (C : Addr) (cl : List (Str × Addr)) (fp : List Addr), GTs (X.blk s H scope (compEnvC scope cl C X.env) fp) ifs tt at_)
    (he : ∀ (s : Shared) (H : Hp) (C : Addr) (cl : List (Str × Addr)) (fp : List Addr), GE (X.blk s H scope (compEnvC scope cl C X.env) fp) elt te ae) (hB : ∀ i ∈ B, i ∈ own.map (·.2) := by decide) (hs : ∀ x, foldedSetIterable iter X.env x = pure x := by intro _; rfl) (hy : X.N[i]? = some y := by rfl) (hyl : X.env.scope.names.lookup y = some .local := by rfl) :
    GS X W (.Assign [.Name y py] (.ListComp elt [⟨tg, iter, ifs, 0⟩] scope pos) spos) (tAsg (tLc wi g tt te (own.map (·.2))) (gName i)) (aAsg (aOfL (aLc ai ag at_ ae (own.map (·.2)))) (aName i)) [i] := by
  refine ⟨ps_setLc hc hN hy hyl hsw hi.pi ok (fun s H C cl fp => (hg s H C cl fp).pg) (fun s H C cl fp => (ht s H C cl fp).pt) (fun s H C cl fp => (he s H C cl fp).pe) hs, ?_⟩
  exact lk_asg (lk_lc hi.lk (hg {} (fun _ => none) 0 [] []).lk (ht {} (fun _ => none) 0 [] []).lk (he {} (fun _ => none) 0 [] []).lk hB).toE (lk_name i)
theorem gs_setLcO {W : WX'} {i : Nat} {y : Str} {py : Pos} {elt tg iter : Expr} {ifs : List Expr} {scope : Scope} {own : List (Str × Nat)} {pos spos : Pos} {wi : TI} {ai : AI} {g : TG} {ag : AG} {tt : TT} {at_ : AT} {te : TE} {ae : AE} {B : List Nat} (hc : X.calm = true) (hN : X.N.Nodup)
    (hsw : swapsWith (.ListComp elt [⟨tg, iter, ifs, 0⟩] scope pos) (some (.Name y py)) spos.line X.env = pure true) (ok : BlkOk X.N X.env.scope scope own) (hi : GI X tg iter wi ai)
    (hg : ∀ (s : Shared) (H : Hp) (C : Addr) (cl : List (Str × Addr)) (fp : List Addr), GG (X.blk s H scope (compEnvC scope cl C X.env) fp) tg g ag B) (ht : ∀ (s : Shared) (H : Hp) (C : Addr) (cl : List (Str × Addr)) (fp : List Addr), GTs (X.blk s H scope (compEnvC scope cl C X.env) fp) ifs tt at_)
    (he : ∀ (s : Shared) (H : Hp) (C : Addr) (cl : List (Str × Addr)) (fp : List Addr), GE (X.blk s H scope (compEnvC scope cl C X.env) fp) elt te ae) (hB : ∀ i ∈ B, i ∈ own.map (·.2) := by decide) (hs : ∀ x, foldedSetIterable iter X.env x = pure x := by intro _; rfl) (hy : X.N[i]? = some y := by rfl) (hyl : X.env.scope.names.lookup y = some .local := by rfl) :
    GS X W (.Assign [.Name y py] (.ListComp elt [⟨tg, iter, ifs, 0⟩] scope pos) spos) (tAsg (tLc wi g tt te (own.map (·.2))) (gName i)) (aAsgO (aLc ai ag at_ ae (own.map (·.2))) i) [i] := by
  refine ⟨ps_setLc hc hN hy hyl hsw hi.pi ok (fun s H C cl fp => (hg s H C cl fp).pg) (fun s H C cl fp => (ht s H C cl fp).pt) (fun s H C cl fp => (he s H C cl fp).pe) hs, ?_⟩
  exact lk_asgO (lk_lc hi.lk (hg {} (fun _ => none) 0 [] []).lk (ht {} (fun _ => none) 0 [] []).lk (he {} (fun _ => none) 0 [] []).lk hB) i
end

/-! ### a def keeps its promise -/
def retA : AR → AR → AR
  | [], _ => []
  | s :: ρ, [] => s :: retA ρ []
  | .ow _ :: ρ, t :: ρ' => t :: retA ρ ρ'
  | s :: ρ, _ :: ρ' => s :: retA ρ ρ'
def still : AR → AR → Bool
  | [], _ => true
  | .ow _ :: ρ, .ow _ :: ρ' => still ρ ρ'
  | .ow _ :: _, _ => false
  | _ :: ρ, _ :: ρ' => still ρ ρ'
  | _ :: ρ, [] => still ρ []
def bpin (ρ : AR) (B : List Nat) : Bool := B.all fun i => !isOw ρ i
theorem retA_len : ∀ ρ ρ' : AR, (retA ρ ρ').length = ρ.length
  | [], _ => by unfold retA; rfl
  | s :: ρ, [] => by unfold retA; rw [List.length_cons, List.length_cons, retA_len ρ []]
  | .ow _ :: ρ, t :: ρ' => by unfold retA; rw [List.length_cons, List.length_cons, retA_len ρ ρ']
  | .un :: ρ, t :: ρ' => by unfold retA; rw [List.length_cons, List.length_cons, retA_len ρ ρ']
  | .im _ :: ρ, t :: ρ' => by unfold retA; rw [List.length_cons, List.length_cons, retA_len ρ ρ']
theorem retA_get {s : SV} : ∀ {ρ ρ' : AR} {i : Nat}, still ρ ρ' = true → (retA ρ ρ')[i]? = some s → (ρ[i]? = some s ∧ ∀ c, s ≠ .ow c) ∨ ∃ c c', s = .ow c' ∧ ρ[i]? = some (.ow c) ∧ ρ'[i]? = some (.ow c')
  | [], _, i, _, h => by unfold retA at h; simp at h
  | .un :: ρ, [], 0, hs, h => by unfold retA at h; simp at h; subst h; exact .inl ⟨rfl, fun c z => by cases z⟩
  | .im d :: ρ, [], 0, hs, h => by unfold retA at h; simp at h; subst h; exact .inl ⟨rfl, fun c z => by cases z⟩
  | .ow c :: ρ, [], _, hs, h => by unfold still at hs; cases hs
  | .un :: ρ, [], i + 1, hs, h => by
    unfold retA at h; unfold still at hs
    rcases retA_get (i := i) hs (by simpa using h) with q | ⟨c, c', e1, e2, e3⟩
    · exact .inl (by simpa using q)
    · simp at e3
  | .im d :: ρ, [], i + 1, hs, h => by
    unfold retA at h; unfold still at hs
    rcases retA_get (i := i) hs (by simpa using h) with q | ⟨c, c', e1, e2, e3⟩
    · exact .inl (by simpa using q)
    · simp at e3
  | .ow c :: ρ, .ow c' :: ρ', 0, hs, h => by unfold retA at h; simp at h; subst h; exact .inr ⟨c, c', rfl, rfl, rfl⟩
  | .ow c :: ρ, .ow c' :: ρ', i + 1, hs, h => by
    unfold retA at h; unfold still at hs
    rcases retA_get (i := i) hs (by simpa using h) with q | ⟨c, c', e1, e2, e3⟩
    · exact .inl (by simpa using q)
    · exact .inr ⟨c, c', e1, by simpa using e2, by simpa using e3⟩
  | .ow c :: ρ, .un :: ρ', _, hs, h => by unfold still at hs; cases hs
  | .ow c :: ρ, .im d :: ρ', _, hs, h => by unfold still at hs; cases hs
  | .un :: ρ, t :: ρ', 0, hs, h => by unfold retA at h; simp at h; subst h; exact .inl ⟨rfl, fun c z => by cases z⟩
  | .im d :: ρ, t :: ρ', 0, hs, h => by unfold retA at h; simp at h; subst h; exact .inl ⟨rfl, fun c z => by cases z⟩
  | .un :: ρ, t :: ρ', i + 1, hs, h => by
    unfold retA at h; unfold still at hs
    rcases retA_get (i := i) hs (by simpa using h) with q | ⟨c, c', e1, e2, e3⟩
    · exact .inl (by simpa using q)
    · exact .inr ⟨c, c', e1, by simpa using e2, by simpa using e3⟩
  | .im d :: ρ, t :: ρ', i + 1, hs, h => by
    unfold retA at h; unfold still at hs
    rcases retA_get (i := i) hs (by simpa using h) with q | ⟨c, c', e1, e2, e3⟩
    · exact .inl (by simpa using q)
    · exact .inr ⟨c, c', e1, by simpa using e2, by simpa using e3⟩
theorem still_get : ∀ {ρ ρ' : AR} {i : Nat} {c : OC}, still ρ ρ' = true → ρ[i]? = some (.ow c) → ∃ c', ρ'[i]? = some (.ow c')
  | [], _, i, c, _, h => by simp at h
  | .ow c :: ρ, .ow c' :: ρ', 0, _, hs, h => ⟨c', rfl⟩
  | .ow c :: ρ, .ow c' :: ρ', i + 1, _, hs, h => by
    unfold still at hs
    obtain ⟨c2, e⟩ := still_get (i := i) hs (by simpa using h)
    exact ⟨c2, by simpa using e⟩
  | .ow c :: ρ, .un :: ρ', _, _, hs, h => by unfold still at hs; cases hs
  | .ow c :: ρ, .im d :: ρ', _, _, hs, h => by unfold still at hs; cases hs
  | .ow c :: ρ, [], _, _, hs, h => by unfold still at hs; cases hs
  | .un :: ρ, [], 0, _, hs, h => by simp at h
  | .im d :: ρ, [], 0, _, hs, h => by simp at h
  | .un :: ρ, [], i + 1, _, hs, h => by
    unfold still at hs
    obtain ⟨c2, e⟩ := still_get (i := i) hs (by simpa using h)
    simp at e
  | .im d :: ρ, [], i + 1, _, hs, h => by
    unfold still at hs
    obtain ⟨c2, e⟩ := still_get (i := i) hs (by simpa using h)
    simp at e
  | .un :: ρ, t :: ρ', 0, _, hs, h => by simp at h
  | .im d :: ρ, t :: ρ', 0, _, hs, h => by simp at h
  | .un :: ρ, t :: ρ', i + 1, _, hs, h => by
    unfold still at hs
    obtain ⟨c2, e⟩ := still_get (i := i) hs (by simpa using h)
    exact ⟨c2, by simpa using e⟩
  | .im d :: ρ, t :: ρ', i + 1, _, hs, h => by
    unfold still at hs
    obtain ⟨c2, e⟩ := still_get (i := i) hs (by simpa using h)
    exact ⟨c2, by simpa using e⟩
theorem bpin_not {ρ : AR} {B : List Nat} (h : bpin ρ B = true) {i : Nat} {c : OC} (e : ρ[i]? = some (.ow c)) : i ∉ B := fun z => by
  unfold bpin at h
  have q := List.all_eq_true.mp h i z
  unfold isOw at q
  rw [e] at q
  cases q
theorem get_append_un {ρ : AR} {n i : Nat} {s : SV} (h : (ρ ++ List.replicate n SV.un)[i]? = some s) (hs : s ≠ .un) : ρ[i]? = some s ∧ i < ρ.length := by
  by_cases hi : i < ρ.length
  · rw [List.getElem?_append_left hi] at h
    exact ⟨h, hi⟩
  · rw [List.getElem?_append_right (by omega), List.getElem?_replicate] at h
    split at h
    · cases h; exact (hs rfl).elim
    · cases h
theorem startSl {K : PySem.W.Frag} {F H : Hp} {ρ : AR} {vs : List V} {O : Addr → Prop} {N : List Str} (s : Sl K F H ρ (vs.map some) O) (n : Nat) (hn : n = N.length - vs.length) : Sl K F H (ρ ++ List.replicate n .un) (L2.start N vs) O := by
  have st : ∀ (i : Nat) (x : Option V), (vs.map some)[i]? = some x → (L2.start N vs)[i]? = some x := fun i x h => by
    unfold L2.start
    rw [List.getElem?_append_left (get_lt h)]
    exact h
  have hl := s.len
  refine ⟨?_, fun i d h => ?_, fun i c h => ?_, fun i j c c' p hij h h' g g' => ?_, s.ex, s.fo⟩
  · unfold L2.start
    rw [List.length_append, List.length_append, List.length_replicate, List.length_replicate, hl, hn]
  · obtain ⟨h1, _⟩ := get_append_un h (by intro z; cases z)
    obtain ⟨v, a1, a2⟩ := s.im i d h1
    exact ⟨v, st i _ a1, a2⟩
  · obtain ⟨h1, _⟩ := get_append_un h (by intro z; cases z)
    obtain ⟨p, a1, a2⟩ := s.ow i c h1
    exact ⟨p, st i _ a1, a2⟩
  · obtain ⟨h1, _⟩ := get_append_un h (by intro z; cases z)
    obtain ⟨h2, _⟩ := get_append_un h' (by intro z; cases z)
    obtain ⟨p1, a1, a2⟩ := s.ow i c h1
    obtain ⟨p2, b1, b2⟩ := s.ow j c' h2
    rw [st i _ a1] at g
    rw [st j _ b1] at g'
    cases g
    cases g'
    exact s.ap i j c c' _ hij h1 h2 a1 b1
section
variable {P : Program} {w : World} {K : PySem.W.Frag} {mg : Str → Option Value} {base : Heap}
theorem retSl {F H F' H' : Hp} {ρ ρ' : AR} {vs : List V} {σ' : St} {O' : Addr → Prop} {N : List Str} {B : List Nat} (s : Sl K F H ρ (vs.map some) (own ρ (vs.map some))) (k : Kp (own ρ (vs.map some)) F H O' F' H') (s' : Sl K F' H' ρ' σ' O') (e : Keep B (L2.start N vs) σ') (hB : bpin ρ B = true) (hs : still ρ ρ' = true) :
    Kp (own ρ (vs.map some)) F H (own ρ (vs.map some)) F' H' ∧ Sl K F' H' (retA ρ ρ') (vs.map some) (own ρ (vs.map some)) := by
  have st : ∀ (i : Nat) (x : Option V), (vs.map some)[i]? = some x → (L2.start N vs)[i]? = some x := fun i x h => by
    unfold L2.start
    rw [List.getElem?_append_left (get_lt h)]
    exact h
  -- an owned argument's place behind
  have at_ : ∀ (i : Nat) (c : OC) (p : Addr), ρ[i]? = some (.ow c) → (vs.map some)[i]? = some (some (.ref p)) → σ'[i]? = some (some (.ref p)) := fun i c p h g => (e.at_ i (bpin_not hB h)).trans (st i _ g)
  refine ⟨⟨k.h1, k.h2, k.h3, fun _ h => .inl h⟩, by rw [retA_len, s.len], fun i d h => ?_, fun i c h => ?_, fun i j c c' p hij h h' g g' => ?_, s'.ex, fun a h => ?_⟩
  · rcases retA_get hs h with ⟨h1, _⟩ | ⟨c, c', z, _⟩
    · obtain ⟨v, a1, a2⟩ := s.im i d h1
      exact ⟨v, a1, a2.mono k.h2⟩
    · cases z
  · rcases retA_get hs h with ⟨_, n⟩ | ⟨c0, c', z, h1, h2⟩
    · exact (n c rfl).elim
    · cases z
      obtain ⟨p, a1, a2, a3⟩ := s.ow i c0 h1
      obtain ⟨p', b1, b2, b3⟩ := s'.ow i c h2
      rw [at_ i c0 p h1 a1] at b1
      cases b1
      exact ⟨p, a1, a2, b3⟩
  · rcases retA_get hs h with ⟨_, n⟩ | ⟨c0, _, _, h1, _⟩
    · exact (n c rfl).elim
    · rcases retA_get hs h' with ⟨_, n⟩ | ⟨c0', _, _, h1', _⟩
      · exact (n c' rfl).elim
      · exact s.ap i j c0 c0' p hij h1 h1' g g'
  · obtain ⟨i, c, h1, h2⟩ := h
    obtain ⟨c', h3⟩ := still_get hs h1
    obtain ⟨p, b1, b2, b3⟩ := s'.ow i c' h3
    rw [at_ i c a h1 h2] at b1
    cases b1
    exact s'.fo a b2
abbrev W0 : WX' := fun _ _ _ _ => False
/-- THE RULE for a def -/
theorem fn_ok {x qual : Str} {st : Stmt} {f : Addr} {fd : FuncData} {N ps : List Str} {k : Nat} {af : AF} (Fn : Fun K x qual st f fd) (S : FnScope N ps (defScope st)) (hlen : ∀ ρ kk, af ρ kk → ρ.length = ps.length)
    (hbody : ∀ (cdv : Value) (A : Around) (outer : List Env) (s : Shared) (H : Hp) (E : XK), Room k (A.deeper (envOfC qual (defScope st) s.heap.objs.size f cdv)) →
      ∃ t as B, GSs (cxOf CX0 P w K mg base N qual (defScope st) f cdv A outer s H E).nox W0 (defBody st) t as B ∧
        ∀ ρ kk, af ρ kk → bpin ρ B = true ∧ as { nx := fun ρ' => still ρ ρ' = true ∧ kk .non (retA ρ ρ'), rt := fun d ρ' => still ρ ρ' = true ∧ kk d (retA ρ ρ') } (ρ ++ List.replicate (N.length - ps.length) .un)) :
    FnOk P w K mg base CX0 (k + 1) f fd ps (SpF K af) := by
  refine Fn.ok S (fun vs H Q E h => ?_) (fun cdv A outer s H vs Q E hr h => ?_)
  · obtain ⟨ρ, F, kk, sl, h, _⟩ := h
    have := hlen ρ kk h
    have := sl.len
    rw [List.length_map] at this
    omega
  · obtain ⟨ρ, F, kk, sl, h, q⟩ := h
    obtain ⟨t, as, B, g, hb⟩ := hbody cdv A outer s H E hr
    obtain ⟨hB, hb⟩ := hb ρ kk h
    have hv : vs.length = ps.length := by
      have := hlen ρ kk h
      have := sl.len
      rw [List.length_map] at this
      omega
    refine ⟨t, g.ps, ?_⟩
    refine g.lk _ _ hb (L2.start N vs) F H _ (startSl sl _ (by rw [hv])) B _ (fun _ z => z) ⟨fun ρ' σ' F' H' O' k' s' e' h' => ?_, fun v d ρ' σ' F' H' O' k' s' e' r h' => ?_, fun _ _ _ _ _ _ _ _ z => z.elim, fun _ _ _ _ _ _ _ _ z => z.elim, fun _ _ _ _ _ _ _ _ _ _ _ _ z => z.elim, fun _ _ _ _ _ _ _ _ _ _ _ _ _ _ _ _ z => z.elim⟩
    · obtain ⟨k2, s2⟩ := retSl sl k' s' e' hB h'.1
      exact q .non .non (retA ρ ρ') F' H' k2 s2 .non h'.2
    · obtain ⟨k2, s2⟩ := retSl sl k' s' e' hB h'.1
      exact q v d (retA ρ ρ') F' H' k2 s2 r h'.2
/-! a def that hands back a new list, to be owned by its caller -/
abbrev AFL := AR → (List D → AR → Prop) → Prop
def SpL (K : PySem.W.Frag) (af : AFL) : Sp := fun vs H Q _ => ∃ (ρ : AR) (F : Hp) (k : List D → AR → Prop), Sl K F H ρ (vs.map some) (own ρ (vs.map some)) ∧ af ρ k ∧
  ∀ p xs ds ρ' F' H', Kp (own ρ (vs.map some)) F H (own ρ (vs.map some)) F' H' → Sl K F' H' ρ' (vs.map some) (own ρ (vs.map some)) → H' p = some (.lst xs) → F' p = none → ¬ own ρ (vs.map some) p → H p = none → RpA K F' xs ds → k ds ρ' → Q (.ref p) H'
def aCallL (af : AFL) (aa : AA) : AL := fun ρ k => aa ρ fun as ρ1 => bok ρ1 as = true ∧ af (as.map (svOf ρ1)) fun ds ss => k ds (back ρ1 as ss)
theorem lk_callL {af : AFL} {E : XK} {ta : TA} {aa : AA} (ha : LkA K ta aa) : LkL K (tCall (SpL K af) [] E ta) (aCallL af aa) := by
  intro ρ k hk σ F H O s Q hq
  refine ha ρ _ hk σ F H O s _ fun vs xs ρ1 F1 H1 kp1 s1 r1 hk1 => ?_
  obtain ⟨hb, hk1⟩ := hk1
  show SpL K af (vs ++ []) H1 Q E
  rw [List.append_nil]
  refine ⟨xs.map (svOf ρ1), F1, _, argsSl s1 r1 hb, hk1, fun p ys ds ss F' H' kp s' hp fp nO h0 rd hk' => ?_⟩
  have nO' : ¬ O p := s1.notO h0
  exact hq p ys ds (back ρ1 xs ss) F' H' (kp1.trans (kp_up s1 r1 kp)) (backSl s1 r1 hb kp s') hp fp nO' (kp1.back h0 nO') rd hk'
theorem fnL_ok {x qual : Str} {st : Stmt} {f : Addr} {fd : FuncData} {N ps : List Str} {k : Nat} {af : AFL} (Fn : Fun K x qual st f fd) (S : FnScope N ps (defScope st)) (hlen : ∀ ρ kk, af ρ kk → ρ.length = ps.length)
    (hbody : ∀ (cdv : Value) (A : Around) (outer : List Env) (s : Shared) (H : Hp) (E : XK), Room k (A.deeper (envOfC qual (defScope st) s.heap.objs.size f cdv)) →
      ∃ t as B, GSs (cxOf CX0 P w K mg base N qual (defScope st) f cdv A outer s H E).nox W0 (defBody st) t as B ∧
        ∀ ρ kk, af ρ kk → bpin ρ B = true ∧ as { nx := fun _ => False, rt := fun _ _ => False, rl := fun ds ρ' => still ρ ρ' = true ∧ kk ds (retA ρ ρ') } (ρ ++ List.replicate (N.length - ps.length) .un)) :
    FnOk P w K mg base CX0 (k + 1) f fd ps (SpL K af) := by
  refine Fn.ok S (fun vs H Q E h => ?_) (fun cdv A outer s H vs Q E hr h => ?_)
  · obtain ⟨ρ, F, kk, sl, h, _⟩ := h
    have := hlen ρ kk h
    have := sl.len
    rw [List.length_map] at this
    omega
  · obtain ⟨ρ, F, kk, sl, h, q⟩ := h
    obtain ⟨t, as, B, g, hb⟩ := hbody cdv A outer s H E hr
    obtain ⟨hB, hb⟩ := hb ρ kk h
    have hv : vs.length = ps.length := by
      have := hlen ρ kk h
      have := sl.len
      rw [List.length_map] at this
      omega
    refine ⟨t, g.ps, ?_⟩
    refine g.lk _ _ hb (L2.start N vs) F H _ (startSl sl _ (by rw [hv])) B _ (fun _ z => z) ⟨fun _ _ _ _ _ _ _ _ z => z.elim, fun _ _ _ _ _ _ _ _ _ _ _ z => z.elim, fun _ _ _ _ _ _ _ _ z => z.elim, fun _ _ _ _ _ _ _ _ z => z.elim, fun _ _ _ _ _ _ _ _ _ _ _ _ z => z.elim, fun p xs ds ρ' σ' F' H' O' k' s' e' hp fp nO h0 r h' => ?_⟩
    obtain ⟨k2, s2⟩ := retSl sl k' s' e' hB h'.1
    have nOwn : ¬ own ρ (vs.map some) p := fun z => by
      obtain ⟨i, c, z1, z2⟩ := z
      obtain ⟨c', z3⟩ := still_get h'.1 z1
      obtain ⟨p', b1, b2, b3⟩ := s'.ow i c' z3
      have e1 : σ'[i]? = some (some (.ref p)) := by
        rw [e'.at_ i (bpin_not hB z1)]
        unfold L2.start
        rw [List.getElem?_append_left (get_lt z2)]
        exact z2
      rw [e1] at b1
      cases b1
      exact nO b2
    exact q p xs ds (retA ρ ρ') F' H' k2 s2 hp fp nOwn (h0.resolve_left nOwn) r h'.2
end
end DL

namespace DL
open PySem PySem.Spec L2
open PyProof.Rows hiding St

/-! ### whole numbers -/
def fI (C : Int → Int → Prop) (g : Int → Int → D) : R2D := fun d e k => match d, e with
  | .int i, .int j => C i j ∧ k (g i j)
  | _, _ => False
def fI0 (g : Int → Int → D) : R2D := fun d e k => match d, e with
  | .int i, .int j => k (g i j)
  | _, _ => False
section
variable {K : PySem.W.Frag}
theorem lk_I {C : Int → Int → Prop} {gV : Int → Int → V} {g : Int → Int → D} (h : ∀ F i j, Rp K F (gV i j) (g i j)) : LkR K (rI C gV) (fI C g) := by
  intro d e k hk F H v u ex rv ru Q hq
  unfold fI at hk
  split at hk
  · rename_i i j
    exact ⟨i, j, rv.int rfl, ru.int rfl, hk.1, hq _ _ F H (KF.refl ex) (h F i j) hk.2⟩
  · exact hk.elim
theorem lk_I0 {gV : Int → Int → V} {g : Int → Int → D} (h : ∀ F i j, Rp K F (gV i j) (g i j)) : LkR K (rI0 gV) (fI0 g) := by
  intro d e k hk F H v u ex rv ru Q hq
  unfold fI0 at hk
  split at hk
  · rename_i i j
    exact ⟨i, j, rv.int rfl, ru.int rfl, hq _ _ F H (KF.refl ex) (h F i j) hk⟩
  · exact hk.elim
theorem lk_add : LkR K (rI0 fun i j => .int (i + j)) (fI0 fun i j => .int (i + j)) := lk_I0 fun _ _ _ => .int _
theorem lk_sub : LkR K (rI0 fun i j => .int (i - j)) (fI0 fun i j => .int (i - j)) := lk_I0 fun _ _ _ => .int _
theorem lk_mul : LkR K (rI CMul fun i j => .int (i * j)) (fI CMul fun i j => .int (i * j)) := lk_I fun _ _ _ => .int _
theorem lk_mulW : LkR K (rI CMulW fun i j => .int (i * j)) (fI CMulW fun i j => .int (i * j)) := lk_I fun _ _ _ => .int _
theorem lk_mod : LkR K (rI (fun _ j => 0 < j) fun i j => .int (i % j)) (fI (fun _ j => 0 < j) fun i j => .int (i % j)) := lk_I fun _ _ _ => .int _
theorem lk_fdiv : LkR K (rI CDiv fun i j => .int (i / j)) (fI CDiv fun i j => .int (i / j)) := lk_I fun _ _ _ => .int _
theorem lk_fdivW : LkR K (rI CDivW fun i j => .int (i / j)) (fI CDivW fun i j => .int (i / j)) := lk_I fun _ _ _ => .int _
theorem lk_pow : LkR K (rI CPow fun i j => .int (i ^ j.toNat)) (fI CPow fun i j => .int (i ^ j.toNat)) := lk_I fun _ _ _ => .int _
theorem lk_lt : LkR K (rI0 fun i j => .bl (decide (i < j))) (fI0 fun i j => .bl (decide (i < j))) := lk_I0 fun _ _ _ => .bl _
theorem lk_le : LkR K (rI0 fun i j => .bl (decide (i ≤ j))) (fI0 fun i j => .bl (decide (i ≤ j))) := lk_I0 fun _ _ _ => .bl _
theorem lk_gt : LkR K (rI0 fun i j => .bl (decide (j < i))) (fI0 fun i j => .bl (decide (j < i))) := lk_I0 fun _ _ _ => .bl _
theorem lk_ge : LkR K (rI0 fun i j => .bl (decide (j ≤ i))) (fI0 fun i j => .bl (decide (j ≤ i))) := lk_I0 fun _ _ _ => .bl _
def fNeg : R1D := fun d k => match d with
  | .int i => k (.int (-i))
  | _ => False
theorem lk_neg : LkU K (rU fun i => .int (-i)) fNeg := by
  intro d k hk F H v ex rv Q hq
  unfold fNeg at hk
  split at hk
  · rename_i i
    exact ⟨i, rv.int rfl, hq _ _ F H (KF.refl ex) (.int _) hk⟩
  · exact hk.elim
end

/-! ### equality at any depth -/
mutual
def toP : D → PyData
  | .non => .none
  | .bl b => .bool b
  | .int i => .int i
  | .str x => .str x
  | .tup ds => .tuple (toPs ds)
  | .lst ds => .list (toPs ds)
  | .adr _ => .none
  | .scr _ => .none
  | .dic _ _ => .none
def toPs : List D → List PyData
  | [] => []
  | d :: ds => toP d :: toPs ds
end
mutual
/-- data that == compares -/
def plain : D → Bool
  | .non => true
  | .bl _ => true
  | .int _ => true
  | .str x => PySem.PyData.canLay0 (.str x)
  | .tup ds => plains ds
  | .lst ds => plains ds
  | .adr _ => false
  | .scr _ => false
  | .dic _ _ => false
def plains : List D → Bool
  | [] => true
  | d :: ds => plain d && plains ds
end
mutual
def deep : D → Nat
  | .tup ds => deeps ds + 1
  | .lst ds => deeps ds + 1
  | _ => 0
def deeps : List D → Nat
  | [] => 0
  | d :: ds => max (deep d) (deeps ds)
end
mutual
def eqv : D → D → Bool
  | .non, .non => true
  | .bl a, .bl b => a == b
  | .bl a, .int j => (if a then 1 else 0) == j
  | .int i, .bl b => i == (if b then 1 else 0)
  | .int i, .int j => i == j
  | .str x, .str y => x == y
  | .lst xs, .lst ys => eqvs xs ys
  | .tup xs, .tup ys => eqvs xs ys
  | _, _ => false
def eqvs : List D → List D → Bool
  | [], [] => true
  | x :: xs, y :: ys => eqv x y && eqvs xs ys
  | _, _ => false
end
mutual
theorem canLay_of : ∀ d : D, plain d = true → (toP d).canLay0 = true
  | .non, _ => by unfold toP PyData.canLay0; rfl
  | .bl _, _ => by unfold toP PyData.canLay0; rfl
  | .int _, _ => by unfold toP PyData.canLay0; rfl
  | .str x, h => by unfold toP; unfold plain at h; exact h
  | .tup ds, h => by unfold toP PyData.canLay0; unfold plain at h; exact canLays_of ds h
  | .lst ds, h => by unfold toP PyData.canLay0; unfold plain at h; exact canLays_of ds h
  | .adr _, h => by unfold plain at h; cases h
  | .scr _, h => by unfold plain at h; cases h
  | .dic _ _, h => by unfold plain at h; cases h
theorem canLays_of : ∀ ds : List D, plains ds = true → PyData.canLayAll0 (toPs ds) = true
  | [], _ => by unfold toPs PyData.canLayAll0; rfl
  | d :: ds, h => by
    unfold plains at h
    simp only [Bool.and_eq_true] at h
    unfold toPs PyData.canLayAll0
    rw [canLay_of d h.1, canLays_of ds h.2]; rfl
end
mutual
theorem depth_of : ∀ d : D, (toP d).depth = deep d
  | .non => by unfold toP PyData.depth deep; rfl
  | .bl _ => by unfold toP PyData.depth deep; rfl
  | .int _ => by unfold toP PyData.depth deep; rfl
  | .str x => by unfold toP PyData.depth deep; rfl
  | .tup ds => by unfold toP PyData.depth deep; rw [depths_of ds]
  | .lst ds => by unfold toP PyData.depth deep; rw [depths_of ds]
  | .adr _ => by unfold toP PyData.depth deep; rfl
  | .scr _ => by unfold toP PyData.depth deep; rfl
  | .dic _ _ => by unfold toP PyData.depth deep; rfl
theorem depths_of : ∀ ds : List D, PyData.depthAll (toPs ds) = deeps ds
  | [] => by unfold toPs PyData.depthAll deeps; rfl
  | d :: ds => by unfold toPs PyData.depthAll deeps; rw [depth_of d, depths_of ds]
end
def shp (d : D) : Bool := plain d && decide (deep d ≤ 64)
theorem shaped_of {d : D} (h : shp d = true) : SeqAt.shaped (toP d) = true := by
  unfold shp at h
  simp only [Bool.and_eq_true, decide_eq_true_eq] at h
  unfold SeqAt.shaped
  rw [canLay_of d h.1, depth_of, decide_eq_true h.2]; rfl
mutual
theorem eqv_of : ∀ d e : D, plain d = true → plain e = true → PyData.eqv (toP d) (toP e) = eqv d e
  | d, e, hd, he => by
    cases d with
    | adr a => unfold plain at hd; cases hd
    | scr a => unfold plain at hd; cases hd
    | dic a b => unfold plain at hd; cases hd
    | tup xs =>
      unfold plain at hd
      cases e with
      | adr a => unfold plain at he; cases he
      | scr a => unfold plain at he; cases he
      | dic a b => unfold plain at he; cases he
      | tup ys =>
        unfold plain at he
        unfold toP PyData.eqv eqv
        exact eqvs_of xs ys hd he
      | _ => unfold toP PyData.eqv eqv; rfl
    | lst xs =>
      unfold plain at hd
      cases e with
      | adr a => unfold plain at he; cases he
      | scr a => unfold plain at he; cases he
      | dic a b => unfold plain at he; cases he
      | lst ys =>
        unfold plain at he
        unfold toP PyData.eqv eqv
        exact eqvs_of xs ys hd he
      | _ => unfold toP PyData.eqv eqv; rfl
    | _ =>
      cases e with
      | adr a => unfold plain at he; cases he
      | scr a => unfold plain at he; cases he
      | dic a b => unfold plain at he; cases he
      | _ => unfold toP PyData.eqv eqv; rfl
theorem eqvs_of : ∀ xs ys : List D, plains xs = true → plains ys = true → PyData.eqvAll (toPs xs) (toPs ys) = eqvs xs ys
  | [], [], _, _ => by unfold toPs PyData.eqvAll eqvs; rfl
  | [], y :: ys, _, _ => by unfold toPs PyData.eqvAll eqvs; rfl
  | x :: xs, [], _, _ => by unfold toPs PyData.eqvAll eqvs; rfl
  | x :: xs, y :: ys, hx, hy => by
    unfold plains at hx hy
    simp only [Bool.and_eq_true] at hx hy
    unfold toPs PyData.eqvAll eqvs
    rw [eqv_of x y hx.1 hy.1, eqvs_of xs ys hx.2 hy.2]
end
section
variable {K : PySem.W.Frag}
mutual
theorem dp_of {H : Hp} : ∀ (d : D) (v : V), plain d = true → Rp K H v d → Dp K H v (toP d)
  | .non, v, _, r => by cases r; unfold toP; exact .non
  | .bl b, v, _, r => by cases r; unfold toP; exact .bl b
  | .int i, v, _, r => by cases r; unfold toP; exact .int i
  | .str x, v, _, r => by cases r; unfold toP; exact .str x
  | .tup ds, v, h, r => by
    unfold plain at h
    cases r with
    | tup a b => unfold toP; exact .tup a (dps_of ds _ h b)
  | .lst ds, v, h, r => by
    unfold plain at h
    cases r with
    | lst a b => unfold toP; exact .lst (SqL.of a) (dps_of ds _ h b)
  | .adr _, v, h, _ => by unfold plain at h; cases h
  | .scr _, v, h, _ => by unfold plain at h; cases h
  | .dic _ _, v, h, _ => by unfold plain at h; cases h
theorem dps_of {H : Hp} : ∀ (ds : List D) (vs : List V), plains ds = true → RpA K H vs ds → DpAll K H vs (toPs ds)
  | [], vs, _, r => by cases r; unfold toPs; exact .nil
  | d :: ds, vs, h, r => by
    unfold plains at h
    simp only [Bool.and_eq_true] at h
    cases r with
    | cons a b => unfold toPs; exact .cons (dp_of d _ h.1 a) (dps_of ds _ h.2 b)
end
theorem dpR_of {F H : Hp} {v : V} {d : D} (ex : Ex F H) (h : plain d = true) (r : RpR K F H v d) : Dp K H v (toP d) := by
  rcases r with r | ⟨p, rfl, q⟩
  · exact dp_of d v h (r.mono ex)
  · cases d with
    | lst ds =>
      obtain ⟨xs, h1, h2⟩ := q
      unfold plain at h
      unfold toP
      exact .lst (SqL.of h1) (dps_of ds xs h (h2.mono ex))
    | dic ks vs => unfold plain at h; cases h
    | _ => exact q.elim
def fEq : R2D := fun d e k => shp d = true ∧ shp e = true ∧ k (.bl (eqv d e))
def fNe : R2D := fun d e k => shp d = true ∧ shp e = true ∧ k (.bl (!eqv d e))
theorem shp_plain {d : D} (h : shp d = true) : plain d = true := by
  unfold shp at h
  simp only [Bool.and_eq_true] at h
  exact h.1
theorem lk_eq : LkR K (rEqD K) fEq := by
  intro d e k hk F H v u ex rv ru Q hq
  obtain ⟨hd, he, hk⟩ := hk
  refine ⟨toP d, toP e, dpR_of ex (shp_plain hd) rv, dpR_of ex (shp_plain he) ru, shaped_of hd, shaped_of he, ?_⟩
  rw [eqv_of d e (shp_plain hd) (shp_plain he)]
  exact hq _ _ F H (KF.refl ex) (.bl _) hk
theorem lk_ne : LkR K (rNeD K) fNe := by
  intro d e k hk F H v u ex rv ru Q hq
  obtain ⟨hd, he, hk⟩ := hk
  refine ⟨toP d, toP e, dpR_of ex (shp_plain hd) rv, dpR_of ex (shp_plain he) ru, shaped_of hd, shaped_of he, ?_⟩
  rw [eqv_of d e (shp_plain hd) (shp_plain he)]
  exact hq _ _ F H (KF.refl ex) (.bl _) hk
end

/-! ### x in xs -/
section
variable {X : Cx}
def rInA (K : PySem.W.Frag) (neg : Bool) : R2 := fun x y H Q => ∃ d ds, Dp K H x d ∧ (Dp K H y (.list ds) ∨ Dp K H y (.tuple ds)) ∧ SeqAt.shaped d = true ∧ SeqAt.shaped (.list ds) = true ∧ Q (.bl (neg != ds.any fun z => PyData.eqv z d)) H
theorem shaped_tl {ds : List PyData} (h : SeqAt.shaped (.list ds) = true) : SeqAt.shaped (.tuple ds) = true := h
theorem op_inA (hu : X.A.units + 65 < cLine) : OpR X (compareOp .In) (rInA X.K false) := by
  intro pins s σ H x y v u Q I rx ry h
  obtain ⟨d, ds, hd, he, sd, se, q⟩ := h
  obtain ⟨as, r1⟩ := Dp.reads I d x v hd rx
  have q' : Q (.bl (ds.any fun z => PyData.eqv z d)) H := by simpa using q
  rcases he with he | he
  · obtain ⟨bs, r2⟩ := Dp.reads I (.list ds) y u he ry
    exact SeqAt.in_list_reads r2 r1 (SeqAt.canLay_of_shaped se) (SeqAt.canLay_of_shaped sd) (room_in_shaped sd hu) ⟨.bl _, H, I, rfl, q'⟩
  · obtain ⟨bs, r2⟩ := Dp.reads I (.tuple ds) y u he ry
    exact SeqAt.in_tuple_reads r2 r1 (SeqAt.canLay_of_shaped se) (SeqAt.canLay_of_shaped sd) (room_in_shaped sd hu) ⟨.bl _, H, I, rfl, q'⟩
theorem op_notInA (hu : X.A.units + 65 < cLine) : OpR X (compareOp .NotIn) (rInA X.K true) := by
  intro pins s σ H x y v u Q I rx ry h
  obtain ⟨d, ds, hd, he, sd, se, q⟩ := h
  obtain ⟨as, r1⟩ := Dp.reads I d x v hd rx
  have q' : Q (.bl (!ds.any fun z => PyData.eqv z d)) H := by
    cases z : ds.any fun z => PyData.eqv z d
    · rw [z] at q; exact q
    · rw [z] at q; exact q
  rcases he with he | he
  · obtain ⟨bs, r2⟩ := Dp.reads I (.list ds) y u he ry
    exact SeqAt.notIn_list_reads r2 r1 (SeqAt.canLay_of_shaped se) (SeqAt.canLay_of_shaped sd) (room_in_shaped sd hu) ⟨.bl _, H, I, rfl, q'⟩
  · obtain ⟨bs, r2⟩ := Dp.reads I (.tuple ds) y u he ry
    exact SeqAt.notIn_tuple_reads r2 r1 (SeqAt.canLay_of_shaped se) (SeqAt.canLay_of_shaped sd) (room_in_shaped sd hu) ⟨.bl _, H, I, rfl, q'⟩
end
def fIn (neg : Bool) : R2D := fun d e k => match e with
  | .lst ds => shp d = true ∧ shp (.lst ds) = true ∧ k (.bl (neg != ds.any fun z => eqv z d))
  | .tup ds => shp d = true ∧ shp (.lst ds) = true ∧ k (.bl (neg != ds.any fun z => eqv z d))
  | _ => False
theorem any_of {d : D} (hd : plain d = true) : ∀ ds : List D, plains ds = true → ((toPs ds).any fun z => PyData.eqv z (toP d)) = ds.any fun z => eqv z d
  | [], _ => by unfold toPs; rfl
  | e :: ds, h => by
    unfold plains at h
    simp only [Bool.and_eq_true] at h
    unfold toPs
    rw [List.any_cons, List.any_cons, eqv_of e d h.1 hd, any_of hd ds h.2]
theorem lk_in {K : PySem.W.Frag} {neg : Bool} : LkR K (rInA K neg) (fIn neg) := by
  intro d e k hk F H v u ex rv ru Q hq
  unfold fIn at hk
  split at hk
  · rename_i ds
    obtain ⟨hd, he, hk⟩ := hk
    have hp := shp_plain he
    have s2 := shaped_of he
    have r2 := dpR_of ex hp ru
    unfold toP at r2 s2
    unfold plain at hp
    refine ⟨toP d, toPs ds, dpR_of ex (shp_plain hd) rv, .inl r2, shaped_of hd, s2, ?_⟩
    rw [any_of (shp_plain hd) ds hp]
    exact hq _ _ F H (KF.refl ex) (.bl _) hk
  · rename_i ds
    obtain ⟨hd, he, hk⟩ := hk
    have hp := shp_plain he
    have s2 := shaped_of he
    unfold plain at hp
    have r2 : Dp K H u (.tuple (toPs ds)) := by
      have := dpR_of (d := .tup ds) ex (by unfold plain; exact hp) ru
      unfold toP at this
      exact this
    unfold toP at s2
    refine ⟨toP d, toPs ds, dpR_of ex (shp_plain hd) rv, .inr r2, shaped_of hd, s2, ?_⟩
    rw [any_of (shp_plain hd) ds hp]
    exact hq _ _ F H (KF.refl ex) (.bl _) hk
  · exact hk.elim

/-! ### is -/
def isNonD : D → Bool
  | .non => true
  | _ => false
theorem isNon_of {K : PySem.W.Frag} {F H : Hp} {v : V} {d : D} (r : RpR K F H v d) : decide (v = .non) = isNonD d := by
  rcases r with r | ⟨p, rfl, q⟩
  · cases r <;> rfl
  · cases d <;> first | rfl | exact q.elim
def fIsN : R2D := fun d e k => match e with
  | .non => k (.bl (isNonD d))
  | _ => False
def fNotN : R2D := fun d e k => match e with
  | .non => k (.bl (!isNonD d))
  | _ => False
def fIsB : R2D := fun d e k => match d, e with
  | .bl a, .bl b => k (.bl (decide (a = b)))
  | _, _ => False
def fNotB : R2D := fun d e k => match d, e with
  | .bl a, .bl b => k (.bl (!decide (a = b)))
  | _, _ => False
section
variable {K : PySem.W.Frag}
theorem lk_isN : LkR K (fun x y H Q => y = .non ∧ Q (.bl (decide (x = .non))) H) fIsN := by
  intro d e k hk F H v u ex rv ru Q hq
  unfold fIsN at hk
  split at hk
  · refine ⟨ru.non rfl, ?_⟩
    rw [isNon_of rv]
    exact hq _ _ F H (KF.refl ex) (.bl _) hk
  · exact hk.elim
theorem lk_notN : LkR K (fun x y H Q => y = .non ∧ Q (.bl (!decide (x = .non))) H) fNotN := by
  intro d e k hk F H v u ex rv ru Q hq
  unfold fNotN at hk
  split at hk
  · refine ⟨ru.non rfl, ?_⟩
    rw [isNon_of rv]
    exact hq _ _ F H (KF.refl ex) (.bl _) hk
  · exact hk.elim
theorem lk_isB : LkR K rIsB fIsB := by
  intro d e k hk F H v u ex rv ru Q hq
  unfold fIsB at hk
  split at hk
  · rename_i a b
    exact ⟨a, b, rv.bl rfl, ru.bl rfl, hq _ _ F H (KF.refl ex) (.bl _) hk⟩
  · exact hk.elim
theorem lk_notB : LkR K rNotB fNotB := by
  intro d e k hk F H v u ex rv ru Q hq
  unfold fNotB at hk
  split at hk
  · rename_i a b
    exact ⟨a, b, rv.bl rfl, ru.bl rfl, hq _ _ F H (KF.refl ex) (.bl _) hk⟩
  · exact hk.elim
end

/-! ### isinstance -/
inductive Ty where | int | bool | tuple | list | str
def Ty.nm : Ty → String
  | .int => "int" | .bool => "bool" | .tuple => "tuple" | .list => "list" | .str => "str"
def isT : Ty → D → Bool
  | .int, .int _ => true
  | .int, .bl _ => true
  | .bool, .bl _ => true
  | .tuple, .tup _ => true
  | .list, .lst _ => true
  | .str, .str _ => true
  | _, _ => false
theorem kit_non (T : Ty) : kitB "NoneType" T.nm = some (isT T .non) := by cases T <;> decide +kernel
theorem kit_bl0 (T : Ty) : kitB "bool" T.nm = some (isT T (.bl true)) := by cases T <;> decide +kernel
theorem kit_int0 (T : Ty) : kitB "int" T.nm = some (isT T (.int 0)) := by cases T <;> decide +kernel
theorem kit_str0 (T : Ty) : kitB "str" T.nm = some (isT T (.str ⟨#[]⟩)) := by cases T <;> decide +kernel
theorem kit_lst0 (T : Ty) : kitB "list" T.nm = some (isT T (.lst [])) := by cases T <;> decide +kernel
theorem kit_tup0 (T : Ty) : kitB "tuple" T.nm = some (isT T (.tup [])) := by cases T <;> decide +kernel
def aIsi (T : Ty) (a : AE) : AE := fun ρ k => a ρ fun x ρ1 => match res ρ1 x with
  | some (.adr _) => False
  | some (.scr _) => False
  | some (.dic _ _) => False
  | some d => k (.im (.bl (isT T d))) ρ1
  | none => False
theorem lk_isi {K : PySem.W.Frag} {te : TE} {a : AE} (T : Ty) (ha : LkE K te a) : LkE K (tCB (rIsi K) (tCons te (tCons (tC (.ty T.nm)) tNil))) (aIsi T a) := by
  intro ρ k hk σ F H O s Q hq
  refine ha ρ _ hk σ F H O s _ fun v x ρ1 F1 H1 kp1 s1 r1 hk1 => ?_
  show rIsi K [v, .ty T.nm] H1 Q
  have go : ∀ (d : D) (t : String), res ρ1 x = some d → TyX K H1 v (.type t) → kitB t T.nm = some (isT T d) → k (.im (.bl (isT T d))) ρ1 → rIsi K [v, .ty T.nm] H1 Q := fun d t _ ty e hk' =>
    ⟨v, .ty T.nm, .type t, .type T.nm, _, rfl, .ty _, ty, kit_ty e, hq _ (.im (.bl (isT T d))) ρ1 F1 H1 kp1 s1 (Rp.bl _) hk'⟩
  split at hk1
  · exact hk1.elim
  · exact hk1.elim
  · exact hk1.elim
  · rename_i d n1 n2 n3 q
    have r := res_ok s1 r1 q
    cases d with
    | non => exact go _ "NoneType" q (by rw [r.non rfl]; exact .base .non) (kit_non T) hk1
    | bl b => exact go _ "bool" q (by rw [r.bl rfl]; exact .base (.bl b)) (by cases T <;> exact kit_bl0 _) hk1
    | int i => exact go _ "int" q (by rw [r.int rfl]; exact .base (.int i)) (by cases T <;> exact kit_int0 _) hk1
    | str y => exact go _ "str" q (by rw [r.str rfl]; exact .base (.str y)) (by cases T <;> exact kit_str0 _) hk1
    | lst ds =>
      obtain ⟨p, xs, rfl, h1, _⟩ := r.lst s1.ex rfl
      exact go _ "list" q (.base (.lst h1)) (by cases T <;> exact kit_lst0 _) hk1
    | tup ds =>
      obtain ⟨p, xs, rfl, h1, _⟩ := r.tup s1.ex rfl
      refine go _ "tuple" q ?_ (by cases T <;> exact kit_tup0 _) hk1
      rcases h1 with (h1 | ⟨o, h1⟩) | ⟨o, its, n, h1, h2, _⟩
      · exact .base (.tup h1)
      · exact .fTuple h1
      · exact .kTuple h1 h2
    | adr a => exact (n1 a rfl).elim
    | scr a => exact (n2 a rfl).elim
    | dic a b => exact (n3 a b rfl).elim
  · exact hk1.elim
theorem ge_isi {X : Cx} {e : Expr} {te : TE} {a : AE} {p q pos : Pos} {y : Str} (T : Ty) (hm : X.mg "isinstance" = none) (hy : X.mg y = none) (ha : GE X e te a) (hv : bootBuiltins y = some (.type T.nm) := by decide +kernel) (hg : Gl X "isinstance" := by rfl) (hg2 : Gl X y := by rfl) (hn : y ≠ "__name__" := by decide) (hdb : (y == ("__debug__" : Str)) = false := by decide) (hcd : (y == ("__classdict__" : Str)) = false := by decide)
    (he : starEach (e :: [.Name y q]) X.env = (false, eval e X.env) :: starEach [.Name y q] X.env := by rfl) (he2 : starEach (.Name y q :: []) X.env = (false, eval (.Name y q) X.env) :: starEach [] X.env := by rfl) (hpl : (backTo pos (starEach [.Name y q] X.env)).any (·.1) = false := by rfl) :
    GE X (.Call (.Name "isinstance" p) [e, .Name y q] [] pos) (tCB (rIsi X.K) (tCons te (tCons (tC (.ty T.nm)) tNil))) (aIsi T a) :=
  ⟨pe_callB call_isi hg hm (by decide +kernel) (pa_cons ha.pe (pa_cons (pe_bltn hg2 hy hv rfl hn hdb) pa_nil he2) he) (by decide) (by decide) he hpl, lk_isi T ha.lk⟩
end DL

namespace DL
open PySem PySem.Spec L2
open PyProof.Rows hiding St

/-! ### one rule for an operator, whatever the kinds -/
theorem opr_or {X : Cx} {f : Value → Value → Sem Value} {r r' : R2} (h : OpR X f r) (h' : OpR X f r') : OpR X f (fun x y H Q => r x y H Q ∨ r' x y H Q) := by
  intro pins s σ H x y v u Q I rx ry q
  rcases q with q | q
  · exact h pins s σ H x y v u Q I rx ry q
  · exact h' pins s σ H x y v u Q I rx ry q
section
variable {K : PySem.W.Frag}
theorem lkr_or {r r' : R2} {f f' g : R2D} (h : LkR K r f) (h' : LkR K r' f') (hg : ∀ d e k, g d e k → f d e k ∨ f' d e k) : LkR K (fun x y H Q => r x y H Q ∨ r' x y H Q) g := by
  intro d e k hk F H v u ex rv ru Q hq
  rcases hg d e k hk with q | q
  · exact .inl (h d e k q F H v u ex rv ru Q hq)
  · exact .inr (h' d e k q F H v u ex rv ru Q hq)
def fCatT : R2D := fun d e k => match d, e with
  | .tup xs, .tup ys => xs.length + ys.length ≤ 1000000 ∧ k (.tup (xs ++ ys))
  | _, _ => False
def fCatL : R2D := fun d e k => match d, e with
  | .lst xs, .lst ys => xs.length + ys.length ≤ 1000000 ∧ k (.lst (xs ++ ys))
  | _, _ => False
/-- a tuple that may stand already, or a new one -/
theorem lk_catT : LkR K (rCatA K) fCatT := by
  intro d e k hk F H v u ex rv ru Q hq
  unfold fCatT at hk
  split at hk
  · rename_i xs ys
    obtain ⟨hz, hk⟩ := hk
    obtain ⟨p, vs, rfl, h1, h2⟩ := rv.tup ex rfl
    obtain ⟨q, us, rfl, h3, h4⟩ := ru.tup ex rfl
    refine ⟨p, q, vs, us, rfl, rfl, h1, h3, by rw [h2.length, h4.length]; exact sz hz, fun z => ?_, fun _ z => ?_, fun _ _ l hl => ?_⟩
    · subst z
      cases h2
      rcases ru with ru | ⟨_, _, z⟩
      · exact hq _ (.tup ys) F H (KF.refl ex) ru hk
      · cases z
    · subst z
      cases h4
      rcases rv with rv | ⟨_, _, z⟩
      · rw [List.append_nil] at hk
        exact hq _ (.tup xs) F H (KF.refl ex) rv hk
      · cases z
    · have kf : KF F H (upd F l (.tup (vs ++ us))) (upd H l (.tup (vs ++ us))) := KF.put ex hl
      exact hq _ (.tup (xs ++ ys)) _ _ kf (.tup (.inl (.inl upd_same)) ((h2.mono kf.f).append (h4.mono kf.f))) hk
  · exact hk.elim
theorem lk_catL : LkR K rCat fCatL := by
  intro d e k hk F H v u ex rv ru Q hq
  unfold fCatL at hk
  split at hk
  · rename_i xs ys
    obtain ⟨hz, hk⟩ := hk
    obtain ⟨p, vs, rfl, h1, h2⟩ := rv.lst ex rfl
    obtain ⟨q, us, rfl, h3, h4⟩ := ru.lst ex rfl
    refine ⟨p, q, vs, us, rfl, rfl, h1, h3, by rw [h2.length, h4.length]; exact sz hz, fun l hl => ?_⟩
    have kf : KF F H (upd F l (.lst (vs ++ us))) (upd H l (.lst (vs ++ us))) := KF.put ex hl
    exact hq _ (.lst (xs ++ ys)) _ _ kf (.lst upd_same ((h2.mono kf.f).append (h4.mono kf.f))) hk
  · exact hk.elim
/-- + -/
def fPlus : R2D := fun d e k => match d, e with
  | .int i, .int j => k (.int (i + j))
  | .tup xs, .tup ys => xs.length + ys.length ≤ 1000000 ∧ k (.tup (xs ++ ys))
  | .lst xs, .lst ys => xs.length + ys.length ≤ 1000000 ∧ k (.lst (xs ++ ys))
  | _, _ => False
abbrev rPlus (K : PySem.W.Frag) : R2 := fun x y H Q => (rI0 fun i j => .int (i + j)) x y H Q ∨ (fun x y H Q => rCatA K x y H Q ∨ rCat x y H Q) x y H Q
theorem lk_plus : LkR K (rPlus K) fPlus := lkr_or lk_add (lkr_or (g := fun d e k => fCatT d e k ∨ fCatL d e k) lk_catT lk_catL fun _ _ _ h => h) fun d e k h => by
  unfold fPlus at h
  split at h
  · exact .inl h
  · exact .inr (.inl h)
  · exact .inr (.inr h)
  · exact h.elim
end
theorem op_plus {X : Cx} : OpR X (binaryOp .Add) (rPlus X.K) := opr_or op_add (opr_or op_catA op_cat)

/-! ### subscripts -/
section
variable {K : PySem.W.Frag} {F H : Hp}
theorem atI_rpa {xs : List V} {ds : List D} {i : Int} {d : D} (r : RpA K F xs ds) (h : atI ds i = some d) : ∃ v, atI xs i = some v ∧ Rp K F v d := by
  unfold atI at h ⊢
  rw [r.length]
  cases e : ixN ds.length i with
  | none => rw [e] at h; cases h
  | some j =>
    rw [e] at h
    obtain ⟨v, h1, h2⟩ := r.get (i := j) (d := d) h
    exact ⟨v, h1, h2⟩
def fIx : R2D := fun d e k => match d, e with
  | .lst ds, .int i => ∃ x, atI ds i = some x ∧ k x
  | .tup ds, .int i => ∃ x, atI ds i = some x ∧ k x
  | _, _ => False
theorem lk_ix : LkR K (rIx K) fIx := by
  intro d e k hk F H v u ex rv ru Q hq
  unfold fIx at hk
  split at hk
  · rename_i ds i
    obtain ⟨x, hx, hk⟩ := hk
    obtain ⟨p, vs, rfl, h1, h2⟩ := rv.lst ex rfl
    obtain ⟨y, h3, h4⟩ := atI_rpa h2 hx
    exact .inl ⟨p, vs, i, y, rfl, ru.int rfl, SqL.of h1, h3, hq _ _ F H (KF.refl ex) h4 hk⟩
  · rename_i ds i
    obtain ⟨x, hx, hk⟩ := hk
    obtain ⟨p, vs, rfl, h1, h2⟩ := rv.tup ex rfl
    obtain ⟨y, h3, h4⟩ := atI_rpa h2 hx
    exact .inr (.inl ⟨p, vs, i, y, rfl, ru.int rfl, h1, h3, hq _ _ F H (KF.refl ex) h4 hk⟩)
  · exact hk.elim
end
theorem ge_ix {X : Cx} {a b : Expr} {pos : Pos} {ta tb : TE} {aa ab : AE} (ha : GE X a ta aa) (hb : GE X b tb ab) (hs : PlainIx b := by exact fun _ _ => rfl) : GE X (.Subscript a b pos) (tOp (rIx X.K) ta tb) (aOp fIx aa ab) :=
  ⟨pe_ix ix_seq ha.pe hb.pe hs, lk_op lk_ix ha.lk hb.lk⟩

/-! ### slices -/
abbrev AO := AR → (Option Int → AR → Prop) → Prop
def LkO (K : PySem.W.Frag) (to : TO) (ao : AO) : Prop := ∀ (ρ : AR) (k : Option Int → AR → Prop), ao ρ k → ∀ (σ : St) (F H : Hp) (O : Addr → Prop), Sl K F H ρ σ O → ∀ Q : Option Int → Hp → Prop,
  (∀ o ρ' F' H', Kp O F H O F' H' → Sl K F' H' ρ' σ O → k o ρ' → Q o H') → to σ H Q
structure GO (X : Cx) (e : Option Expr) (to : TO) (ao : AO) : Prop where
  po : PO X e to
  lk : LkO X.K to ao
def aNoPart : AO := fun ρ k => k none ρ
def aPart (a : AE) : AO := fun ρ k => a ρ fun x ρ1 => match x with
  | .im (.int i) => k (some i) ρ1
  | _ => False
theorem go_none {X : Cx} : GO X none tNoPart aNoPart := ⟨po_none, fun ρ k hk σ F H O s Q hq => hq none ρ F H Kp.refl s hk⟩
theorem go_some {X : Cx} {e : Expr} {te : TE} {a : AE} (h : GE X e te a) : GO X (some e) (tPart te) (aPart a) := by
  refine ⟨po_some h.pe, fun ρ k hk σ F H O s Q hq => ?_⟩
  refine h.lk ρ _ hk σ F H O s _ fun v x ρ1 F1 H1 k1 s1 r1 h1 => ?_
  split at h1
  · rename_i i
    cases (show Rp X.K F1 v (.int i) from r1)
    exact ⟨i, rfl, hq (some i) ρ1 F1 H1 k1 s1 h1⟩
  · exact h1.elim
/-- xs[lo:hi] -/
def cutD (xs : List D) (lo hi : Option Int) : List D := (xs.drop (HT.sIx xs.length 0 lo)).take (HT.sIx xs.length xs.length hi - HT.sIx xs.length 0 lo)
theorem cut_rpa {K : PySem.W.Frag} {F : Hp} {xs : List V} {ds : List D} (r : RpA K F xs ds) (lo hi : Option Int) : RpA K F (cutV xs lo hi) (cutD ds lo hi) := by
  unfold cutV cutD
  rw [r.length]
  exact (r.drop _).take _
theorem cutD_len (xs : List D) (lo hi : Option Int) : (cutD xs lo hi).length ≤ xs.length := by
  unfold cutD
  rw [List.length_take, List.length_drop]
  omega
def aSl (a : AE) (l h : AO) : AE := fun ρ k => a ρ fun x ρ1 => l ρ1 fun lo ρ2 => h ρ2 fun hi ρ3 => match res ρ3 x with
  | some (.lst ds) => k (.im (.lst (cutD ds lo hi))) ρ3
  | some (.tup ds) => k (.im (.tup (cutD ds lo hi))) ρ3
  | _ => False
abbrev rSl (K : PySem.W.Frag) : V → Option Int → Option Int → Hp → VK → Prop := fun x lo hi H Q => rSlL K x lo hi H Q ∨ rSlA K x lo hi H Q
theorem cutV_whole {xs : List V} {lo hi : Option Int} (h : HT.sIx xs.length 0 lo = 0 ∧ HT.sIx xs.length xs.length hi = xs.length) : cutV xs lo hi = xs := by
  unfold cutV
  rw [h.1, h.2, Nat.sub_zero, List.drop_zero, List.take_length]
theorem lk_sl {K : PySem.W.Frag} {te : TE} {a : AE} {tl th : TO} {l h : AO} (ha : LkE K te a) (hl : LkO K tl l) (hh : LkO K th h) : LkE K (tSl (rSl K) te tl th) (aSl a l h) := by
  intro ρ k hk σ F H O s Q hq
  refine ha ρ _ hk σ F H O s _ fun v x ρ1 F1 H1 k1 s1 r1 h1 => ?_
  refine hl ρ1 _ h1 σ F1 H1 O s1 _ fun lo ρ2 F2 H2 k2 s2 h2 => ?_
  refine hh ρ2 _ h2 σ F2 H2 O s2 _ fun hi ρ3 F3 H3 k3 s3 h3 => ?_
  have kk : Kp O F H O F3 H3 := (k1.trans k2).trans k3
  have rx : RpV K F3 σ v x := (r1.mono k2.h2).mono k3.h2
  split at h3
  · rename_i ds q
    obtain ⟨p, vs, rfl, g1, g2⟩ := (res_ok s3 rx q).lst s3.ex rfl
    refine .inl ⟨p, vs, rfl, SqL.of g1, fun l hl => ?_⟩
    have kf : KF F3 H3 (upd F3 l (.lst (cutV vs lo hi))) (upd H3 l (.lst (cutV vs lo hi))) := KF.put s3.ex hl
    exact hq _ (.im (.lst (cutD ds lo hi))) ρ3 _ _ (kk.trans kf.kp) (s3.kf kf) (Rp.lst upd_same (cut_rpa (g2.mono kf.f) lo hi)) h3
  · rename_i ds q
    have rr := res_ok s3 rx q
    obtain ⟨p, vs, rfl, g1, g2⟩ := rr.tup s3.ex rfl
    refine .inr ⟨p, vs, rfl, g1, fun w => ?_, fun w l hl => ?_⟩
    · have e : cutD ds lo hi = ds := by
        unfold cutD
        rw [g2.length] at w
        rw [w.1, w.2, Nat.sub_zero, List.drop_zero, List.take_length]
      rw [e] at h3
      rcases rr with rr | ⟨_, _, z⟩
      · exact hq _ (.im (.tup ds)) ρ3 F3 H3 kk s3 rr h3
      · cases z
    · have kf : KF F3 H3 (upd F3 l (.tup (cutV vs lo hi))) (upd H3 l (.tup (cutV vs lo hi))) := KF.put s3.ex hl
      exact hq _ (.im (.tup (cutD ds lo hi))) ρ3 _ _ (kk.trans kf.kp) (s3.kf kf) (Rp.tup (.inl (.inl upd_same)) (cut_rpa (g2.mono kf.f) lo hi)) h3
  · exact h3.elim
theorem ge_sl {X : Cx} {e : Expr} {lo hi : Option Expr} {te : TE} {a : AE} {tl th : TO} {l h : AO} {pos p2 : Pos} (he : GE X e te a) (hl : GO X lo tl l) (hh : GO X hi th h) : GE X (.Subscript e (.Slice lo hi none p2) pos) (tSl (rSl X.K) te tl th) (aSl a l h) :=
  ⟨pe_slice (SlR.or sl_list sl_tupA) he.pe hl.po hh.po, lk_sl he.lk hl.lk hh.lk⟩

/-! ### built-ins -/
section
variable {K : PySem.W.Frag}
theorem rprs1 {F H : Hp} {vs : List V} {d : D} (r : RpRs K F H vs [d]) : ∃ v, vs = [v] ∧ RpR K F H v d := by
  match vs, r with
  | [v], ⟨h, _⟩ => exact ⟨v, rfl, h⟩
theorem rprs2 {F H : Hp} {vs : List V} {d e : D} (r : RpRs K F H vs [d, e]) : ∃ v u, vs = [v, u] ∧ RpR K F H v d ∧ RpR K F H u e := by
  match vs, r with
  | [v, u], ⟨h, h', _⟩ => exact ⟨v, u, rfl, h, h'⟩
def fLen : RCD := fun ds k => match ds with
  | [.lst xs] => k (.int xs.length)
  | [.tup xs] => k (.int xs.length)
  | _ => False
theorem lk_len : LkC K (fun xs H Q => ∃ p ys, xs = [.ref p] ∧ (SqL K H p ys ∨ SqT K H p ys) ∧ Q (.int ys.length) H) fLen := by
  intro ds k hk F H vs ex r Q hq
  unfold fLen at hk
  split at hk
  · rename_i xs
    obtain ⟨v, rfl, r1⟩ := rprs1 r
    obtain ⟨p, ys, rfl, h1, h2⟩ := r1.lst ex rfl
    exact ⟨p, ys, rfl, .inl (SqL.of h1), hq _ _ F H (KF.refl ex) (by rw [h2.length]; exact .int _) hk⟩
  · rename_i xs
    obtain ⟨v, rfl, r1⟩ := rprs1 r
    obtain ⟨p, ys, rfl, h1, h2⟩ := r1.tup ex rfl
    exact ⟨p, ys, rfl, .inr h1, hq _ _ F H (KF.refl ex) (by rw [h2.length]; exact .int _) hk⟩
  · exact hk.elim
def fTuple : RCD := fun ds k => match ds with
  | [.lst xs] => k (.tup xs)
  | [.tup xs] => k (.tup xs)
  | _ => False
theorem lk_tuple : LkC K (fun xs H Q => ∃ p ys, xs = [.ref p] ∧ ((SqL K H p ys ∧ ∀ l, H l = none → Q (.ref l) (upd H l (.tup ys))) ∨ (SqT K H p ys ∧ Q (.ref p) H))) fTuple := by
  intro ds k hk F H vs ex r Q hq
  unfold fTuple at hk
  split at hk
  · rename_i xs
    obtain ⟨v, rfl, r1⟩ := rprs1 r
    obtain ⟨p, ys, rfl, h1, h2⟩ := r1.lst ex rfl
    refine ⟨p, ys, rfl, .inl ⟨SqL.of h1, fun l hl => ?_⟩⟩
    have kf : KF F H (upd F l (.tup ys)) (upd H l (.tup ys)) := KF.put ex hl
    exact hq _ _ _ _ kf (.tup (.inl (.inl upd_same)) (h2.mono kf.f)) hk
  · rename_i xs
    obtain ⟨v, rfl, r1⟩ := rprs1 r
    obtain ⟨p, ys, rfl, h1, h2⟩ := r1.tup ex rfl
    rcases r1 with r1 | ⟨_, _, z⟩
    · exact ⟨p, ys, rfl, .inr ⟨h1, hq _ _ F H (KF.refl ex) r1 hk⟩⟩
    · cases z
  · exact hk.elim
def fInt : RCD := fun ds k => match ds with
  | [.int i] => k (.int i)
  | [.bl b] => k (.int (if b then 1 else 0))
  | _ => False
theorem lk_int : LkC K (fun xs H Q => (∃ i, xs = [.int i] ∧ Q (.int i) H) ∨ ∃ k, xs = [.bl k] ∧ Q (.int (if k then 1 else 0)) H) fInt := by
  intro ds k hk F H vs ex r Q hq
  unfold fInt at hk
  split at hk
  · rename_i i
    obtain ⟨v, rfl, r1⟩ := rprs1 r
    exact .inl ⟨i, by rw [r1.int rfl], hq _ _ F H (KF.refl ex) (.int _) hk⟩
  · rename_i b
    obtain ⟨v, rfl, r1⟩ := rprs1 r
    exact .inr ⟨b, by rw [r1.bl rfl], hq _ _ F H (KF.refl ex) (.int _) hk⟩
  · exact hk.elim
def fAbs : RCD := fun ds k => match ds with
  | [.int i] => k (.int (if i < 0 then -i else i))
  | _ => False
theorem lk_abs : LkC K (fun xs H Q => ∃ i, xs = [.int i] ∧ Q (.int (if i < 0 then -i else i)) H) fAbs := by
  intro ds k hk F H vs ex r Q hq
  unfold fAbs at hk
  split at hk
  · rename_i i
    obtain ⟨v, rfl, r1⟩ := rprs1 r
    exact ⟨i, by rw [r1.int rfl], hq _ _ F H (KF.refl ex) (.int _) hk⟩
  · exact hk.elim
def fMax2 : RCD := fun ds k => match ds with
  | [.int i, .int j] => k (.int (if j > i then j else i))
  | _ => False
theorem lk_max2 : LkC K (fun xs H Q => ∃ i j, xs = [.int i, .int j] ∧ Q (.int (if j > i then j else i)) H) fMax2 := by
  intro ds k hk F H vs ex r Q hq
  unfold fMax2 at hk
  split at hk
  · rename_i i j
    obtain ⟨v, u, rfl, r1, r2⟩ := rprs2 r
    exact ⟨i, j, by rw [r1.int rfl, r2.int rfl], hq _ _ F H (KF.refl ex) (.int _) hk⟩
  · exact hk.elim
def fMin2 : RCD := fun ds k => match ds with
  | [.int i, .int j] => k (.int (if j < i then j else i))
  | _ => False
theorem lk_min2 : LkC K (fun xs H Q => ∃ i j, xs = [.int i, .int j] ∧ Q (.int (if j < i then j else i)) H) fMin2 := by
  intro ds k hk F H vs ex r Q hq
  unfold fMin2 at hk
  split at hk
  · rename_i i j
    obtain ⟨v, u, rfl, r1, r2⟩ := rprs2 r
    exact ⟨i, j, by rw [r1.int rfl, r2.int rfl], hq _ _ F H (KF.refl ex) (.int _) hk⟩
  · exact hk.elim
/-- the whole numbers, the truth values of a list -/
def intsD : List D → Option (List Int)
  | [] => some []
  | .int i :: ds => (intsD ds).map (i :: ·)
  | _ :: _ => none
def bls : List D → Option (List Bool)
  | [] => some []
  | .bl b :: ds => (bls ds).map (b :: ·)
  | _ :: _ => none
theorem ints_eq : ∀ {ds : List D} {ns : List Int}, intsD ds = some ns → ds = ns.map D.int
  | [], ns, h => by cases h; rfl
  | .int i :: ds, ns, h => by
    unfold intsD at h
    cases e : intsD ds with
    | none => rw [e] at h; cases h
    | some ms =>
      rw [e] at h
      cases h
      rw [ints_eq e]; rfl
  | .non :: _, _, h => by cases h
  | .bl _ :: _, _, h => by cases h
  | .str _ :: _, _, h => by cases h
  | .tup _ :: _, _, h => by cases h
  | .lst _ :: _, _, h => by cases h
  | .adr _ :: _, _, h => by cases h
  | .scr _ :: _, _, h => by cases h
  | .dic _ _ :: _, _, h => by cases h
theorem ints_map (ns : List Int) : intsD (ns.map D.int) = some ns := by
  induction ns with
  | nil => rfl
  | cons n ns ih => show (intsD (ns.map D.int)).map (n :: ·) = _; rw [ih]; rfl
theorem bls_eq : ∀ {ds : List D} {ns : List Bool}, bls ds = some ns → ds = ns.map D.bl
  | [], ns, h => by cases h; rfl
  | .bl i :: ds, ns, h => by
    unfold bls at h
    cases e : bls ds with
    | none => rw [e] at h; cases h
    | some ms =>
      rw [e] at h
      cases h
      rw [bls_eq e]; rfl
  | .non :: _, _, h => by cases h
  | .int _ :: _, _, h => by cases h
  | .str _ :: _, _, h => by cases h
  | .tup _ :: _, _, h => by cases h
  | .lst _ :: _, _, h => by cases h
  | .adr _ :: _, _, h => by cases h
  | .scr _ :: _, _, h => by cases h
  | .dic _ _ :: _, _, h => by cases h
theorem bls_map (ns : List Bool) : bls (ns.map D.bl) = some ns := by
  induction ns with
  | nil => rfl
  | cons n ns ih => show (bls (ns.map D.bl)).map (n :: ·) = _; rw [ih]; rfl
def fSum : RCD := fun ds k => match ds with
  | [.lst xs] => ∃ ns, intsD xs = some ns ∧ k (.int ns.sum)
  | _ => False
theorem lk_sum : LkC K (rSum K) fSum := by
  intro ds k hk F H vs ex r Q hq
  unfold fSum at hk
  split at hk
  · rename_i xs
    obtain ⟨ns, e, hk⟩ := hk
    obtain ⟨v, rfl, r1⟩ := rprs1 r
    obtain ⟨p, ys, rfl, h1, h2⟩ := r1.lst ex rfl
    rw [ints_eq e] at h2
    rw [h2.ofInts] at h1
    exact ⟨p, ns, rfl, SqL.of h1, hq _ _ F H (KF.refl ex) (.int _) hk⟩
  · exact hk.elim
def fMax : RCD := fun ds k => match ds with
  | [.lst xs] => ∃ ns, intsD xs = some ns ∧ 0 < ns.length ∧ ∀ m, m ∈ ns → (∀ y, y ∈ ns → y ≤ m) → k (.int m)
  | _ => False
theorem lk_max : LkC K (rMax K) fMax := by
  intro ds k hk F H vs ex r Q hq
  unfold fMax at hk
  split at hk
  · rename_i xs
    obtain ⟨ns, e, hn, hk⟩ := hk
    obtain ⟨v, rfl, r1⟩ := rprs1 r
    obtain ⟨p, ys, rfl, h1, h2⟩ := r1.lst ex rfl
    rw [ints_eq e] at h2
    rw [h2.ofInts] at h1
    exact ⟨p, ns, rfl, SqL.of h1, hn, fun m a b => hq _ _ F H (KF.refl ex) (.int _) (hk m a b)⟩
  · exact hk.elim
def fMin : RCD := fun ds k => match ds with
  | [.lst xs] => ∃ ns, intsD xs = some ns ∧ 0 < ns.length ∧ ∀ m, m ∈ ns → (∀ y, y ∈ ns → m ≤ y) → k (.int m)
  | _ => False
theorem lk_min : LkC K (rMin K) fMin := by
  intro ds k hk F H vs ex r Q hq
  unfold fMin at hk
  split at hk
  · rename_i xs
    obtain ⟨ns, e, hn, hk⟩ := hk
    obtain ⟨v, rfl, r1⟩ := rprs1 r
    obtain ⟨p, ys, rfl, h1, h2⟩ := r1.lst ex rfl
    rw [ints_eq e] at h2
    rw [h2.ofInts] at h1
    exact ⟨p, ns, rfl, SqL.of h1, hn, fun m a b => hq _ _ F H (KF.refl ex) (.int _) (hk m a b)⟩
  · exact hk.elim
def fAll : RCD := fun ds k => match ds with
  | [.lst xs] => ∃ bs, bls xs = some bs ∧ k (.bl (bs.all id))
  | _ => False
theorem lk_all : LkC K (rAll K) fAll := by
  intro ds k hk F H vs ex r Q hq
  unfold fAll at hk
  split at hk
  · rename_i xs
    obtain ⟨bs, e, hk⟩ := hk
    obtain ⟨v, rfl, r1⟩ := rprs1 r
    obtain ⟨p, ys, rfl, h1, h2⟩ := r1.lst ex rfl
    rw [bls_eq e] at h2
    rw [h2.bls] at h1
    exact ⟨p, bs, rfl, SqL.of h1, hq _ _ F H (KF.refl ex) (.bl _) hk⟩
  · exact hk.elim
/-- list(xs): a new list -/
def aList (aa : AA) : AL := fun ρ k => aa ρ fun as ρ1 => match resAll ρ1 as with
  | some [.lst ds] => k ds ρ1
  | some [.tup ds] => k ds ρ1
  | some [.scr ns] => k (ns.map D.int) ρ1
  | _ => False
theorem lk_list {ta : TA} {aa : AA} (ha : LkA K ta aa) : LkL K (tCB (fun xs H Q => ∃ p ys, xs = [.ref p] ∧ (SqL K H p ys ∨ SqT K H p ys) ∧ ∀ l, H l = none → Q (.ref l) (upd H l (.lst ys))) ta) (aList aa) := by
  intro ρ k hk σ F H O s Q hq
  refine ha ρ _ hk σ F H O s _ fun vs xs ρ1 F1 H1 k1 s1 r1 h1 => ?_
  have go : ∀ (p : Addr) (ys : List V) (ds : List D), vs = [.ref p] → (SqL K H1 p ys ∨ SqT K H1 p ys) → RpA K F1 ys ds → k ds ρ1 → (fun xs H Q => ∃ p ys, xs = [V.ref p] ∧ (SqL K H p ys ∨ SqT K H p ys) ∧ ∀ l, H l = none → Q (.ref l) (upd H l (.lst ys))) vs H1 Q := fun p ys ds ev hs ra hk' =>
    ⟨p, ys, ev, hs, fun l hl => hq l ys ds ρ1 F1 (upd H1 l (.lst ys)) (k1.trans ⟨fun a o h _ => Ex.new hl a o h, Ex.refl _, fun _ _ h => .inl h, fun _ h => .inl h⟩) (s1.other (s1.notF hl) (s1.notO hl)) upd_same (s1.notF hl) (s1.notO hl) (k1.back hl (s1.notO hl)) ra hk'⟩
  split at h1
  · rename_i ds q
    obtain ⟨v, rfl, r2⟩ := rprs1 (resAll_ok s1 r1 q)
    obtain ⟨p, ys, rfl, g1, g2⟩ := r2.lst s1.ex rfl
    exact go p ys ds rfl (.inl (SqL.of g1)) g2 h1
  · rename_i ds q
    obtain ⟨v, rfl, r2⟩ := rprs1 (resAll_ok s1 r1 q)
    obtain ⟨p, ys, rfl, g1, g2⟩ := r2.tup s1.ex rfl
    exact go p ys ds rfl (.inr g1) g2 h1
  · rename_i ns q
    obtain ⟨v, rfl, r2⟩ := rprs1 (resAll_ok s1 r1 q)
    obtain ⟨p, rfl, g1⟩ := r2.scr s1.ex rfl
    exact go p _ _ rfl (.inl g1) RpA.ints h1
  · exact h1.elim
end
section
variable {X : Cx} {p pos : Pos} {e : Expr} {es : List Expr} {ta : TA} {aa : AA}
theorem gl_list (hm : X.mg "list" = none) (ha : GA X (e :: es) ta aa) (hg : Gl X "list" := by rfl)
    (he : starEach (e :: es) X.env = (false, eval e X.env) :: starEach es X.env := by rfl) (hpl : (backTo pos (starEach es X.env)).any (·.1) = false := by rfl) : GL X (.Call (.Name "list" p) (e :: es) [] pos) (tCB (fun xs H Q => ∃ p ys, xs = [.ref p] ∧ (SqL X.K H p ys ∨ SqT X.K H p ys) ∧ ∀ l, H l = none → Q (.ref l) (upd H l (.lst ys))) ta) (aList aa) :=
  ⟨pe_callTy call_list_of hg hm (by decide +kernel) ha.pa (by decide) (by decide) he hpl, lk_list ha.lk⟩
end

/-! ### xs.append(e), xs.pop() on an owned list -/
def isOl (ρ : AR) (i : Nat) : Bool := match ρ[i]? with
  | some (.ow (.ol _)) => true
  | _ => false
def isOd (ρ : AR) (i : Nat) : Bool := match ρ[i]? with
  | some (.ow (.od _ _)) => true
  | _ => false
def aApp (i : Nat) (a : AE) : AE := fun ρ k => isOl ρ i = true ∧ a ρ fun x ρ1 => match x, ρ1[i]? with
  | .im d, some (.ow (.ol ds)) => ds.length < 1000000 ∧ k (.im .non) (ρ1.set i (.ow (.ol (ds ++ [d]))))
  | _, _ => False
theorem isOw_get {ρ : AR} {i : Nat} (h : isOw ρ i = true) : ∃ c, ρ[i]? = some (.ow c) := by
  unfold isOw at h
  split at h
  · rename_i c e; exact ⟨c, e⟩
  · cases h
theorem isOl_get {ρ : AR} {i : Nat} (h : isOl ρ i = true) : ∃ ds, ρ[i]? = some (.ow (.ol ds)) := by
  unfold isOl at h
  split at h
  · rename_i c e; exact ⟨_, e⟩
  · cases h
theorem isOd_get {ρ : AR} {i : Nat} (h : isOd ρ i = true) : ∃ ks vs, ρ[i]? = some (.ow (.od ks vs)) := by
  unfold isOd at h
  split at h
  · rename_i e; exact ⟨_, _, e⟩
  · cases h
theorem lk_app {K : PySem.W.Frag} {te : TE} {a : AE} {i : Nat} (ha : LkE K te a) : LkE K (tBM K "list" rAppend (tVar i) (tCons te tNil)) (aApp i a) := by
  intro ρ k hk σ F H O s Q hq
  obtain ⟨ho, hk⟩ := hk
  obtain ⟨ds0, hc⟩ := isOl_get ho
  obtain ⟨p, h1, h2, xs0, h4, h5⟩ := s.ow i _ hc
  refine ⟨.ref p, h1, .inl ⟨rfl, xs0, SqL.of h4⟩, ?_⟩
  refine ha ρ _ hk σ F H O s _ fun v x ρ1 F1 H1 k1 s1 r1 hk1 => ?_
  split at hk1
  · rename_i d ds q
    obtain ⟨hz, hk1⟩ := hk1
    obtain ⟨p', g1, g2, xs, g3, g4⟩ := s1.ow i _ q
    rw [h1] at g1
    cases g1
    refine ⟨p, xs, v, rfl, rfl, g3, by rw [g4.length]; exact szl hz, ?_⟩
    exact hq .non (.im .non) _ F1 _ (k1.trans (Kp.write g2)) (s1.write (c' := .ol (ds ++ [d])) q h1 ⟨xs ++ [v], upd_same, g4.append (.cons r1 .nil)⟩) Rp.non hk1
  · exact hk1.elim
theorem ge_app {X : Cx} {x : Str} {xp apos cpos : Pos} {e : Expr} {te : TE} {a : AE} (i : Nat) (ha : GE X e te a) (hN : X.N[i]? = some x := by rfl) (hv : Vis X.env.scope x := by first | exact Or.inl rfl | exact Or.inr (Or.inl rfl) | exact Or.inr (Or.inr rfl)) (hd : (x == ("__debug__" : Str)) = false := by decide)
    (hcd : (x == ("__classdict__" : Str)) = false := by decide) (hbase : attributeBase (.Name x xp) "append" X.env (eval (.Name x xp) X.env) = eval (.Name x xp) X.env := by rfl)
    (hfew : ((backTo cpos (starEach [e] X.env)).all (fun x => !x.1) && (backToKw cpos (keywordEach [] X.env)).all (fun x => x.1.isSome)
      && decide ([e].length + ([] : List Keyword).length + (if ([] : List Keyword).isEmpty then 0 else 1) < 30)) = true := by rfl)
    (hline : (apos.endLine == cpos.line) = true := by rfl) (hs : starEach (e :: []) X.env = (false, eval e X.env) :: starEach [] X.env := by rfl) (hplain : (backTo cpos (starEach [] X.env)).any (·.1) = false := by rfl) :
    GE X (.Call (.Attribute (.Name x xp) "append" apos) [e] [] cpos) (tBM X.K "list" rAppend (tVar i) (tCons te tNil)) (aApp i a) :=
  ⟨pe_bm PySem.F.plainAttrs_list PySem.F.slot_list_append PySem.F.type_list_append mt_append (pe_var hN hv hd hcd) (pa_cons ha.pe pa_nil hs) hbase hfew hline hs hplain, lk_app ha.lk⟩
end DL

namespace DL
open PySem PySem.Spec L2
open PyProof.Rows hiding St

/-! ### defs by name -/
section
variable (P : Program) (w : World) (K : PySem.W.Frag) (mg : Str → Option Value) (base : Heap)
/-- the def x keeps the promise af, by at most level k -/
def Df (k : Nat) (x : Str) (af : AF) : Prop := ∃ (f : Addr) (fd : FuncData) (ps : List Str), FnOk P w K mg base CX0 k f fd ps (SpF K af) ∧ mg x = some (.ref f) ∧ PySem.W.keepIn K (.ref f) = true ∧ Binds K fd ps []
/-- the def x stands in the module as the text says -/
def Here (x : Str) (st : Stmt) (ps : List Str) : Prop := ∃ (f : Addr) (fd : FuncData), Fun K x x st f fd ∧ mg x = some (.ref f) ∧ Binds K fd ps []
end
theorem Df.mono {P : Program} {w : World} {K : PySem.W.Frag} {mg : Str → Option Value} {base : Heap} {j k : Nat} {x : Str} {af : AF} (d : Df P w K mg base j x af) (h : j ≤ k) : Df P w K mg base k x af := by
  obtain ⟨f, fd, ps, F, r⟩ := d
  exact ⟨f, fd, ps, F.mono h, r⟩
theorem ge_df {X : Cx} {j k : Nat} {af : AF} {x : Str} {p pos : Pos} {e : Expr} {es : List Expr} {ta : TA} {aa : AA} (d : Df X.prog X.w X.K X.mg X.base k x af) (hr : Room j X.A) (ha : GA X (e :: es) ta aa) (hk : k ≤ j := by decide) (hg : Gl X x := by rfl)
    (he : starEach (e :: es) X.env = (false, eval e X.env) :: starEach es X.env := by rfl) (hpl : (backTo pos (starEach es X.env)).any (·.1) = false := by rfl) (hdb : (x == ("__debug__" : Str)) = false := by decide) :
    GE X (.Call (.Name x p) (e :: es) [] pos) (tCall (SpF X.K af) [] E0 ta) (aCall af aa) := by
  obtain ⟨f, fd, ps, F, hm, hk', hb⟩ := d
  exact ge_call F (hr.mono hk) hm hk' hb ha hg he hpl hdb
/-- THE RULE for a def by its name -/
theorem df_ok {P : Program} {w : World} {K : PySem.W.Frag} {mg : Str → Option Value} {base : Heap} {x : Str} {st : Stmt} {N ps : List Str} {k : Nat} {af : AF} (h : Here K mg x st ps) (S : FnScope N ps (defScope st)) (us : List SV) (hlen : ∀ ρ kk, af ρ kk → ρ.length = ps.length)
    (hbody : ∀ (f : Addr) (cdv : Value) (A : Around) (outer : List Env) (s : Shared) (H : Hp) (E : XK), Room k (A.deeper (envOfC x (defScope st) s.heap.objs.size f cdv)) →
      ∃ t as B, GSs (cxOf CX0 P w K mg base N x (defScope st) f cdv A outer s H E).nox W0 (defBody st) t as B ∧
        ∀ ρ kk, af ρ kk → bpin ρ B = true ∧ as { nx := fun ρ' => still ρ ρ' = true ∧ kk .non (retA ρ ρ'), rt := fun d ρ' => still ρ ρ' = true ∧ kk d (retA ρ ρ') } (ρ ++ us)) (hus : List.replicate (N.length - ps.length) .un = us := by rfl) :
    Df P w K mg base (k + 1) x af := by
  obtain ⟨f, fd, Fn, hm, hb⟩ := h
  subst hus
  exact ⟨f, fd, ps, fn_ok Fn S hlen (hbody f), hm, Fn.kp, hb⟩

/-- .. that hands back a new list -/
def DfL (P : Program) (w : World) (K : PySem.W.Frag) (mg : Str → Option Value) (base : Heap) (k : Nat) (x : Str) (af : AFL) : Prop := ∃ (f : Addr) (fd : FuncData) (ps : List Str), FnOk P w K mg base CX0 k f fd ps (SpL K af) ∧ mg x = some (.ref f) ∧ PySem.W.keepIn K (.ref f) = true ∧ Binds K fd ps []
theorem gl_df {X : Cx} {j k : Nat} {af : AFL} {x : Str} {p pos : Pos} {e : Expr} {es : List Expr} {ta : TA} {aa : AA} (d : DfL X.prog X.w X.K X.mg X.base k x af) (hr : Room j X.A) (ha : GA X (e :: es) ta aa) (hk : k ≤ j := by decide) (hg : Gl X x := by rfl)
    (he : starEach (e :: es) X.env = (false, eval e X.env) :: starEach es X.env := by rfl) (hpl : (backTo pos (starEach es X.env)).any (·.1) = false := by rfl) (hdb : (x == ("__debug__" : Str)) = false := by decide) :
    GL X (.Call (.Name x p) (e :: es) [] pos) (tCall (SpL X.K af) [] E0 ta) (aCallL af aa) := by
  obtain ⟨f, fd, ps, F, hm, hk', hb⟩ := d
  exact ⟨pe_call F (hr.mono hk) hg hm hk' hb .nil pass0 ha.pa hdb he hpl, lk_callL ha.lk⟩
theorem dfL_ok {P : Program} {w : World} {K : PySem.W.Frag} {mg : Str → Option Value} {base : Heap} {x : Str} {st : Stmt} {N ps : List Str} {k : Nat} {af : AFL} (h : Here K mg x st ps) (S : FnScope N ps (defScope st)) (us : List SV) (hlen : ∀ ρ kk, af ρ kk → ρ.length = ps.length)
    (hbody : ∀ (f : Addr) (cdv : Value) (A : Around) (outer : List Env) (s : Shared) (H : Hp) (E : XK), Room k (A.deeper (envOfC x (defScope st) s.heap.objs.size f cdv)) →
      ∃ t as B, GSs (cxOf CX0 P w K mg base N x (defScope st) f cdv A outer s H E).nox W0 (defBody st) t as B ∧
        ∀ ρ kk, af ρ kk → bpin ρ B = true ∧ as { nx := fun _ => False, rt := fun _ _ => False, rl := fun ds ρ' => still ρ ρ' = true ∧ kk ds (retA ρ ρ') } (ρ ++ us)) (hus : List.replicate (N.length - ps.length) .un = us := by rfl) :
    DfL P w K mg base (k + 1) x af := by
  obtain ⟨f, fd, Fn, hm, hb⟩ := h
  subst hus
  exact ⟨f, fd, ps, fnL_ok Fn S hlen (hbody f), hm, Fn.kp, hb⟩

/-- built-in names that the module does not bind -/
structure Bt (mg : Str → Option Value) : Prop where
  abs : mg "abs" = none
  all : mg "all" = none
  any : mg "any" = none
  bool : mg "bool" = none
  dict : mg "dict" = none
  enumerate : mg "enumerate" = none
  int : mg "int" = none
  isinstance : mg "isinstance" = none
  len : mg "len" = none
  list : mg "list" = none
  max : mg "max" = none
  min : mg "min" = none
  range : mg "range" = none
  set : mg "set" = none
  sorted : mg "sorted" = none
  str : mg "str" = none
  sum : mg "sum" = none
  tuple : mg "tuple" = none
  zip : mg "zip" = none
abbrev rLen (K : PySem.W.Frag) : List V → Hp → VK → Prop := fun xs H Q => ∃ p ys, xs = [.ref p] ∧ (SqL K H p ys ∨ SqT K H p ys) ∧ Q (.int ys.length) H
abbrev rAbs1 : List V → Hp → VK → Prop := fun xs H Q => ∃ i, xs = [.int i] ∧ Q (.int (if i < 0 then -i else i)) H
abbrev rMx2 : List V → Hp → VK → Prop := fun xs H Q => ∃ i j, xs = [.int i, .int j] ∧ Q (.int (if j > i then j else i)) H
abbrev rMn2 : List V → Hp → VK → Prop := fun xs H Q => ∃ i j, xs = [.int i, .int j] ∧ Q (.int (if j < i then j else i)) H
abbrev rInt1 : List V → Hp → VK → Prop := fun xs H Q => (∃ i, xs = [.int i] ∧ Q (.int i) H) ∨ ∃ k, xs = [.bl k] ∧ Q (.int (if k then 1 else 0)) H
abbrev rTup1 (K : PySem.W.Frag) : List V → Hp → VK → Prop := fun xs H Q => ∃ p ys, xs = [.ref p] ∧ ((SqL K H p ys ∧ ∀ l, H l = none → Q (.ref l) (upd H l (.tup ys))) ∨ (SqT K H p ys ∧ Q (.ref p) H))
section
variable {X : Cx} {p pos : Pos} {e : Expr} {es : List Expr} {ta : TA} {aa : AA}
theorem ge_len (B : Bt X.mg) (ha : GA X (e :: es) ta aa) (hg : Gl X "len" := by rfl) (he : starEach (e :: es) X.env = (false, eval e X.env) :: starEach es X.env := by rfl) (hpl : (backTo pos (starEach es X.env)).any (·.1) = false := by rfl) : GE X (.Call (.Name "len" p) (e :: es) [] pos) (tCB (rLen X.K) ta) (aCB fLen aa) := ge_callB call_len_seq lk_len B.len PySem.boot_len ha hg (by decide) (by decide) he hpl
theorem ge_abs (B : Bt X.mg) (ha : GA X (e :: es) ta aa) (hg : Gl X "abs" := by rfl) (he : starEach (e :: es) X.env = (false, eval e X.env) :: starEach es X.env := by rfl) (hpl : (backTo pos (starEach es X.env)).any (·.1) = false := by rfl) : GE X (.Call (.Name "abs" p) (e :: es) [] pos) (tCB rAbs1 ta) (aCB fAbs aa) := ge_callB call_abs lk_abs B.abs (by decide +kernel) ha hg (by decide) (by decide) he hpl
theorem ge_max2 (hc : X.calm = true) (B : Bt X.mg) (ha : GA X (e :: es) ta aa) (hg : Gl X "max" := by rfl) (he : starEach (e :: es) X.env = (false, eval e X.env) :: starEach es X.env := by rfl) (hpl : (backTo pos (starEach es X.env)).any (·.1) = false := by rfl) : GE X (.Call (.Name "max" p) (e :: es) [] pos) (tCB rMx2 ta) (aCB fMax2 aa) := ge_callB (call_max2 hc) lk_max2 B.max (by decide +kernel) ha hg (by decide) (by decide) he hpl
theorem ge_min2 (hc : X.calm = true) (B : Bt X.mg) (ha : GA X (e :: es) ta aa) (hg : Gl X "min" := by rfl) (he : starEach (e :: es) X.env = (false, eval e X.env) :: starEach es X.env := by rfl) (hpl : (backTo pos (starEach es X.env)).any (·.1) = false := by rfl) : GE X (.Call (.Name "min" p) (e :: es) [] pos) (tCB rMn2 ta) (aCB fMin2 aa) := ge_callB (call_min2 hc) lk_min2 B.min (by decide +kernel) ha hg (by decide) (by decide) he hpl
theorem ge_max (hc : X.calm = true) (B : Bt X.mg) (ha : GA X (e :: es) ta aa) (hg : Gl X "max" := by rfl) (he : starEach (e :: es) X.env = (false, eval e X.env) :: starEach es X.env := by rfl) (hpl : (backTo pos (starEach es X.env)).any (·.1) = false := by rfl) : GE X (.Call (.Name "max" p) (e :: es) [] pos) (tCB (rMax X.K) ta) (aCB fMax aa) := ge_callB (cr_max hc) lk_max B.max (by decide +kernel) ha hg (by decide) (by decide) he hpl
theorem ge_min (hc : X.calm = true) (B : Bt X.mg) (ha : GA X (e :: es) ta aa) (hg : Gl X "min" := by rfl) (he : starEach (e :: es) X.env = (false, eval e X.env) :: starEach es X.env := by rfl) (hpl : (backTo pos (starEach es X.env)).any (·.1) = false := by rfl) : GE X (.Call (.Name "min" p) (e :: es) [] pos) (tCB (rMin X.K) ta) (aCB fMin aa) := ge_callB (cr_min hc) lk_min B.min (by decide +kernel) ha hg (by decide) (by decide) he hpl
theorem ge_sum (hc : X.calm = true) (B : Bt X.mg) (ha : GA X (e :: es) ta aa) (hg : Gl X "sum" := by rfl) (he : starEach (e :: es) X.env = (false, eval e X.env) :: starEach es X.env := by rfl) (hpl : (backTo pos (starEach es X.env)).any (·.1) = false := by rfl) : GE X (.Call (.Name "sum" p) (e :: es) [] pos) (tCB (rSum X.K) ta) (aCB fSum aa) := ge_callB (cr_sum hc) lk_sum B.sum (by decide +kernel) ha hg (by decide) (by decide) he hpl
theorem ge_all (hc : X.calm = true) (B : Bt X.mg) (ha : GA X (e :: es) ta aa) (hg : Gl X "all" := by rfl) (he : starEach (e :: es) X.env = (false, eval e X.env) :: starEach es X.env := by rfl) (hpl : (backTo pos (starEach es X.env)).any (·.1) = false := by rfl) : GE X (.Call (.Name "all" p) (e :: es) [] pos) (tCB (rAll X.K) ta) (aCB fAll aa) := ge_callB (cr_all hc) lk_all B.all (by decide +kernel) ha hg (by decide) (by decide) he hpl
theorem ge_int1 (B : Bt X.mg) (ha : GA X (e :: es) ta aa) (hg : Gl X "int" := by rfl) (he : starEach (e :: es) X.env = (false, eval e X.env) :: starEach es X.env := by rfl) (hpl : (backTo pos (starEach es X.env)).any (·.1) = false := by rfl) : GE X (.Call (.Name "int" p) (e :: es) [] pos) (tCB rInt1 ta) (aCB fInt aa) := ge_callTy call_int1 lk_int B.int (by decide +kernel) ha hg (by decide) (by decide) he hpl
theorem ge_tuple (B : Bt X.mg) (ha : GA X (e :: es) ta aa) (hg : Gl X "tuple" := by rfl) (he : starEach (e :: es) X.env = (false, eval e X.env) :: starEach es X.env := by rfl) (hpl : (backTo pos (starEach es X.env)).any (·.1) = false := by rfl) : GE X (.Call (.Name "tuple" p) (e :: es) [] pos) (tCB (rTup1 X.K) ta) (aCB fTuple aa) := ge_callTy call_tuple_of lk_tuple B.tuple (by decide +kernel) ha hg (by decide) (by decide) he hpl
theorem gi_rg1 {tg x : Expr} (B : Bt X.mg) (ha : GA X [x] ta aa) (hg : Gl X "range" := by rfl) (hs : starEach [x] X.env = [(false, eval x X.env)] := by rfl) : GI X tg (.Call (.Name "range" p) [x] [] pos) (iRng1 ta) (aRg1 aa) := ⟨pi_range1 hg B.range ha.pa hs, lk_rg1 ha.lk⟩
theorem gi_rg2 {tg x y : Expr} (B : Bt X.mg) (ha : GA X [x, y] ta aa) (hg : Gl X "range" := by rfl) (hs : starEach [x, y] X.env = [(false, eval x X.env), (false, eval y X.env)] := by rfl) (hs2 : starEach [y] X.env = [(false, eval y X.env)] := by rfl) : GI X tg (.Call (.Name "range" p) [x, y] [] pos) (iRng2 ta) (aRg2 aa) := ⟨pi_range2 hg B.range ha.pa hs hs2, lk_rg2 ha.lk⟩
end
end DL

namespace DL
open PySem PySem.Spec L2
open PyProof.Rows hiding St

/-! ### over a list or a tuple -/
def iSeq (K : PySem.W.Frag) (te : TE) : TI := fun σ H R => te σ H fun x H1 => ∃ a, x = .ref a ∧ (((∃ xs, SqL K H1 a xs) ∧ R (Itl K a) H1) ∨ ((∃ xs, SqT K H1 a xs) ∧ R (Itt K a) H1))
theorem pi_seq {X : Cx} {tg l : Expr} {tl : TE} (hl : PE X l tl) : PI X tg l (iSeq X.K tl) := by
  refine ⟨fun pins s σ H R I h => ?_⟩
  refine thn (hl.run pins s σ H _ I h) fun v s1 ⟨x, H1, I1, r1, q1⟩ => ?_
  obtain ⟨a, e, q1⟩ := q1
  subst e
  cases r1
  rcases q1 with ⟨⟨xs, hq⟩, q⟩ | ⟨⟨xs, hq⟩, q⟩
  · obtain ⟨its, rv, p, hz⟩ := I1.list hq
    refine wpAny_pyIter_list p.isList ?_
    refine ⟨s1.heap.objs.size, [s1.heap.objs.size], _, _, H1, rfl, I1.kept (t' := s1.toks) fun b o e => Heap.get?_push_of_some _ e, turn_list a _, ⟨_, Heap.get?_push_size _ rfl, rfl, rfl⟩, fun b hb => ?_, q⟩
    have e : b = s1.heap.objs.size := by simpa using hb
    subst e
    exact I1.fpOk (Nat.le_refl _) (I1.hok.fresh (Nat.le_refl _))
  · obtain ⟨its, rv, p, hz⟩ := I1.tuple hq
    refine wpAny_pyIter_tuple (show s1.heap.IsTuple a its.toArray from p) ?_
    refine ⟨s1.heap.objs.size, [s1.heap.objs.size], _, _, H1, rfl, I1.kept (t' := s1.toks) fun b o e => Heap.get?_push_of_some _ e, turn_tuple a _, ⟨_, Heap.get?_push_size _ rfl, rfl, rfl⟩, fun b hb => ?_, q⟩
    have e : b = s1.heap.objs.size := by simpa using hb
    subst e
    exact I1.fpOk (Nat.le_refl _) (I1.hok.fresh (Nat.le_refl _))
def aISeq (e : AE) : AI := fun ρ k => e ρ fun x ρ1 => match x with
  | .im (.lst ds) => k ds ρ1
  | .im (.tup ds) => k ds ρ1
  | _ => False
theorem lk_iSeq {K : PySem.W.Frag} {te : TE} {e : AE} (he : LkE K te e) : LkI K (iSeq K te) (aISeq e) := by
  intro ρ k hk σ F H O s R hq
  refine he ρ _ hk σ F H O s _ fun v x ρ1 F1 H1 k1 s1 r1 h1 => ?_
  split at h1
  · rename_i ds
    cases (show Rp K F1 v (.lst ds) from r1) with
    | lst a1 a2 => exact ⟨_, rfl, .inl ⟨⟨_, SqL.of (s1.ex _ _ a1)⟩, hq _ ds ρ1 F1 H1 k1 s1 (walks_lst (SqL.of a1) a2) h1⟩⟩
  · rename_i ds
    cases (show Rp K F1 v (.tup ds) from r1) with
    | tup a1 a2 => exact ⟨_, rfl, .inr ⟨⟨_, s1.ex.t a1⟩, hq _ ds ρ1 F1 H1 k1 s1 (walks_tup a1 a2) h1⟩⟩
  · exact h1.elim
theorem gi_seq {X : Cx} {tg e : Expr} {te : TE} {a : AE} (he : GE X e te a) : GI X tg e (iSeq X.K te) (aISeq a) := ⟨pi_seq he.pe, lk_iSeq he.lk⟩

/-! ### a, b = .. : each side plain or a new list -/
inductive MV where
  | im (d : D) | fr (ds : List D) | fd (ks vs : List D)
abbrev AM := AR → (MV → AR → Prop) → Prop
def RpM (K : PySem.W.Frag) (F' H' : Hp) (O : Addr → Prop) (H : Hp) (v : V) : MV → Prop
  | .im d => Rp K F' v d
  | .fr ds => ∃ p xs, v = .ref p ∧ H' p = some (.lst xs) ∧ F' p = none ∧ ¬ O p ∧ H p = none ∧ RpA K F' xs ds
  | .fd ks vs => ∃ p, v = .ref p ∧ DicAt K F' H' p ks vs ∧ F' p = none ∧ ¬ O p ∧ H p = none
def LkM (K : PySem.W.Frag) (te : TE) (am : AM) : Prop := ∀ (ρ : AR) (k : MV → AR → Prop), am ρ k → ∀ (σ : St) (F H : Hp) (O : Addr → Prop), Sl K F H ρ σ O → ∀ Q : VK,
  (∀ v m ρ' F' H', Kp O F H O F' H' → Sl K F' H' ρ' σ O → RpM K F' H' O H v m → k m ρ' → Q v H') → te σ H Q
structure GM (X : Cx) (e : Expr) (te : TE) (am : AM) : Prop where
  pe : PE X e te
  lk : LkM X.K te am
def aMIm (a : AE) : AM := fun ρ k => a ρ fun x ρ1 => match x with
  | .im d => k (.im d) ρ1
  | _ => False
def aMFr (l : AL) : AM := fun ρ k => l ρ fun ds ρ1 => k (.fr ds) ρ1
theorem GE.m {X : Cx} {e : Expr} {te : TE} {a : AE} (g : GE X e te a) : GM X e te (aMIm a) := ⟨g.pe, fun ρ k hk σ F H O s Q hq => g.lk ρ _ hk σ F H O s _ fun v x ρ1 F1 H1 k1 s1 r1 h1 => by
  split at h1
  · rename_i d
    exact hq v (.im d) ρ1 F1 H1 k1 s1 r1 h1
  · exact h1.elim⟩
theorem GL.m {X : Cx} {e : Expr} {te : TE} {l : AL} (g : GL X e te l) : GM X e te (aMFr l) := ⟨g.pe, fun ρ k hk σ F H O s Q hq => g.lk ρ _ hk σ F H O s _ fun p xs ds ρ1 F1 H1 k1 s1 hp fp nO h0 r h1 => hq _ (.fr ds) ρ1 F1 H1 k1 s1 ⟨p, xs, rfl, hp, fp, nO, h0, r⟩ h1⟩
def svM : MV → SV
  | .im d => .im d
  | .fr ds => .ow (.ol ds)
  | .fd ks vs => .ow (.od ks vs)
section
variable {K : PySem.W.Frag} {F H F' H' : Hp} {ρ : AR} {σ : St} {O O' : Addr → Prop}
theorem RpM.mono {H0 : Hp} {v : V} {m : MV} (r : RpM K F H O H0 v m) (k : Kp O F H O F' H') (e : Ex F' H') : RpM K F' H' O H0 v m := by
  cases m with
  | im d => exact Rp.mono k.h2 r
  | fr ds =>
    obtain ⟨p, xs, rfl, hp, fp, nO, h0, ra⟩ := r
    refine ⟨p, xs, rfl, k.h1 p _ hp nO, ?_, nO, h0, ra.mono k.h2⟩
    cases q : F' p with
    | none => rfl
    | some u =>
      rcases k.h3 p u q with z | z | z
      · rw [fp] at z; cases z
      · exact (nO z).elim
      · rw [hp] at z; cases z
  | fd ks vs =>
    obtain ⟨p, rfl, hd, fp, nO, h0⟩ := r
    obtain ⟨es, ep, xs, ys, hp, _⟩ := id hd
    refine ⟨p, rfl, hd.mono k.h2 ((k.h1 p _ hp nO).trans hp.symm), ?_, nO, h0⟩
    cases q : F' p with
    | none => rfl
    | some u =>
      rcases k.h3 p u q with z | z | z
      · rw [fp] at z; cases z
      · exact (nO z).elim
      · rw [hp] at z; cases z
def isNew : MV → Prop
  | .im _ => False
  | _ => True
/-- the place of a new object, if it is one -/
def newAt (v : V) (m : MV) (a : Addr) : Prop := isNew m ∧ v = .ref a
theorem Sl.setM {H0 : Hp} {v : V} {m : MV} (s : Sl K F H ρ σ O) (r : RpM K F H O' H0 v m) (i : Nat) (hn : ∀ a, newAt v m a → ¬ O a) : Sl K F H (ρ.set i (svM m)) (σ.set i (some v)) (fun a => O a ∨ newAt v m a) := by
  cases m with
  | im d =>
    have q := s.setIm (show Rp K F v d from r) i
    refine ⟨q.len, q.im, fun j c e => ?_, q.ap, q.ex, fun a h => ?_⟩
    · obtain ⟨p, h1, h2, h3⟩ := q.ow j c e
      exact ⟨p, h1, .inl h2, h3⟩
    · rcases h with h | ⟨e, _⟩
      · exact q.fo a h
      · exact e.elim
  | fr ds =>
    obtain ⟨p, xs, rfl, hp, fp, nO, h0, ra⟩ := r
    have nO2 : ¬ O p := hn p ⟨True.intro, rfl⟩
    have q := s.setOw (c := .ol ds) ⟨xs, hp, ra⟩ fp nO2 i
    refine ⟨q.len, q.im, fun j c e => ?_, q.ap, q.ex, fun a h => ?_⟩
    · obtain ⟨p', h1, h2, h3⟩ := q.ow j c e
      refine ⟨p', h1, ?_, h3⟩
      rcases h2 with h2 | h2
      · exact .inl h2
      · exact .inr ⟨True.intro, by rw [h2]⟩
    · rcases h with h | ⟨_, e⟩
      · exact s.fo a h
      · cases e
        exact ⟨fp, _, hp⟩
  | fd ks vs =>
    obtain ⟨p, rfl, hd, fp, nO, h0⟩ := r
    have nO2 : ¬ O p := hn p ⟨True.intro, rfl⟩
    have q := s.setOw (c := .od ks vs) hd fp nO2 i
    refine ⟨q.len, q.im, fun j c e => ?_, q.ap, q.ex, fun a h => ?_⟩
    · obtain ⟨p', h1, h2, h3⟩ := q.ow j c e
      refine ⟨p', h1, ?_, h3⟩
      rcases h2 with h2 | h2
      · exact .inl h2
      · exact .inr ⟨True.intro, by rw [h2]⟩
    · rcases h with h | ⟨_, e⟩
      · exact s.fo a h
      · cases e
        obtain ⟨es, ep, xs, ys, hp, _⟩ := hd
        exact ⟨fp, _, hp⟩
def aPar (i j : Nat) (a b : AM) : AS := fun A ρ => a ρ fun m ρ1 => b ρ1 fun n ρ2 => A.nx ((ρ2.set i (svM m)).set j (svM n))
theorem newAt_fr {H0 : Hp} {v : V} {m : MV} (r : RpM K F H O H0 v m) {a : Addr} (h : newAt v m a) : ∃ o, H a = some o ∧ F a = none ∧ ¬ O a ∧ H0 a = none := by
  obtain ⟨hm, rfl⟩ := h
  cases m with
  | im d => exact hm.elim
  | fr ds =>
    obtain ⟨p, xs, e, hp, fp, nO, h0, ra⟩ := r
    cases e
    exact ⟨_, hp, fp, nO, h0⟩
  | fd ks vs =>
    obtain ⟨p, e, ⟨es, ep, xs, ys, hp, _⟩, fp, nO, h0⟩ := r
    cases e
    exact ⟨_, hp, fp, nO, h0⟩
theorem lk_par {W : WX'} {i j : Nat} {ta tb : TE} {a b : AM} (ha : LkM K ta a) (hb : LkM K tb b) : LkS K W (tPar i j (tCons ta (tCons tb tNil))) (aPar i j a b) [i, j] := by
  intro A ρ h σ F H O s B' Dn hB bd
  refine ha ρ _ h σ F H O s _ fun v m ρ1 F1 H1 k1 s1 r1 h1 => ?_
  refine hb ρ1 _ h1 σ F1 H1 O s1 _ fun u n ρ2 F2 H2 k2 s2 r2 h2 => ?_
  refine ⟨v, u, rfl, ?_⟩
  have r1' := r1.mono k2 s2.ex
  have q1 := s2.setM r1' i fun a h => (newAt_fr r1' h).choose_spec.2.2.1
  have q2 := q1.setM (O' := O) (H0 := H1) r2 j fun a h z => by
    obtain ⟨o2, b1, b2, b3, b4⟩ := newAt_fr r2 h
    rcases z with z | z
    · exact b3 z
    · obtain ⟨o1, c1, c2, c3, c4⟩ := newAt_fr r1 z
      rw [c1] at b4
      cases b4
  refine bd.nx _ _ F2 H2 _ ⟨(k1.trans k2).h1, (k1.trans k2).h2, (k1.trans k2).h3, fun a h => ?_⟩ q2 ((Keep.set (hB i (by simp))).trans (Keep.set (hB j (by simp)))) h2
  rcases h with (h | h) | h
  · exact .inl h
  · exact .inr (newAt_fr r1 h).choose_spec.2.2.2
  · obtain ⟨o2, b1, b2, b3, b4⟩ := newAt_fr r2 h
    exact .inr (k1.back b4 b3)
def aPar3 (i j l : Nat) (a b c : AM) : AS := fun A ρ => a ρ fun m ρ1 => b ρ1 fun n ρ2 => c ρ2 fun o ρ3 => A.nx (((ρ3.set i (svM m)).set j (svM n)).set l (svM o))
theorem lk_par3 {W : WX'} {i j l : Nat} {ta tb tc : TE} {a b c : AM} (ha : LkM K ta a) (hb : LkM K tb b) (hc : LkM K tc c) : LkS K W (tPar3 i j l (tCons ta (tCons tb (tCons tc tNil)))) (aPar3 i j l a b c) [i, j, l] := by
  intro A ρ h σ F H O s B' Dn hB bd
  refine ha ρ _ h σ F H O s _ fun v m ρ1 F1 H1 k1 s1 r1 h1 => ?_
  refine hb ρ1 _ h1 σ F1 H1 O s1 _ fun u n ρ2 F2 H2 k2 s2 r2 h2 => ?_
  refine hc ρ2 _ h2 σ F2 H2 O s2 _ fun w o ρ3 F3 H3 k3 s3 r3 h3 => ?_
  refine ⟨v, u, w, rfl, ?_⟩
  have r1' := r1.mono (k2.trans k3) s3.ex
  have r2' := r2.mono k3 s3.ex
  have q1 := s3.setM r1' i fun a h => (newAt_fr r1' h).choose_spec.2.2.1
  have q2 := q1.setM (O' := O) (H0 := H1) r2' j fun a h z => by
    obtain ⟨o2, b1, b2, b3, b4⟩ := newAt_fr r2 h
    rcases z with z | z
    · exact b3 z
    · obtain ⟨o1, c1, c2, c3, c4⟩ := newAt_fr r1 z
      rw [c1] at b4
      cases b4
  have q3 := q2.setM (O' := O) (H0 := H2) r3 l fun a h z => by
    obtain ⟨o3, b1, b2, b3, b4⟩ := newAt_fr r3 h
    rcases z with (z | z) | z
    · exact b3 z
    · obtain ⟨o1, c1, c2, c3, c4⟩ := newAt_fr (r1.mono k2 s2.ex) z
      rw [c1] at b4
      cases b4
    · obtain ⟨o1, c1, c2, c3, c4⟩ := newAt_fr r2 z
      rw [c1] at b4
      cases b4
  have kk := (k1.trans k2).trans k3
  refine bd.nx _ _ F3 H3 _ ⟨kk.h1, kk.h2, kk.h3, fun a h => ?_⟩ q3 (((Keep.set (hB i (by simp))).trans (Keep.set (hB j (by simp)))).trans (Keep.set (hB l (by simp)))) h3
  rcases h with ((h | h) | h) | h
  · exact .inl h
  · exact .inr (newAt_fr r1 h).choose_spec.2.2.2
  · obtain ⟨o2, b1, b2, b3, b4⟩ := newAt_fr r2 h
    exact .inr (k1.back b4 b3)
  · obtain ⟨o2, b1, b2, b3, b4⟩ := newAt_fr r3 h
    exact .inr ((k1.trans k2).back b4 b3)
end
section
variable {X : Cx} {W : WX'}
theorem gs_par {i j : Nat} {x y : Str} {a b : Expr} {ta tb : TE} {ma mb : AM} {px py pt pos : Pos} {kt k2 pt2} (hc : X.calm = true) (hN : X.N.Nodup) (ha : GM X a ta ma) (hb : GM X b tb mb)
    (hi : X.N[i]? = some x := by rfl) (hj : X.N[j]? = some y := by rfl) (hij : i ≠ j := by decide) (hx : X.env.scope.names.lookup x = some .local := by rfl) (hy : X.env.scope.names.lookup y = some .local := by rfl)
    (hw : swappedStores [.Tuple [.Name x px, .Name y py] kt pt] (.Tuple [a, b] k2 pt2) X.env = pure (some [x, y]) := by rfl)
    (hs : swapsWithSole [.Tuple [.Name x px, .Name y py] kt pt] (.Tuple [a, b] k2 pt2) pos.line X.env = pure false := by rfl)
    (h1 : starEach (a :: [b]) X.env = (false, eval a X.env) :: starEach [b] X.env := by rfl) (h2 : starEach (b :: []) X.env = (false, eval b X.env) :: starEach [] X.env := by rfl) :
    GS X W (.Assign [.Tuple [.Name x px, .Name y py] kt pt] (.Tuple [a, b] k2 pt2) pos) (tPar i j (tCons ta (tCons tb tNil))) (aPar i j ma mb) [i, j] :=
  ⟨ps_par hc hN hi hj hij hx hy (pa_cons ha.pe (pa_cons hb.pe pa_nil h2) h1) hw hs, lk_par ha.lk hb.lk⟩
theorem gs_par3 {i j l : Nat} {x y z : Str} {a b c : Expr} {ta tb tc : TE} {ma mb mc : AM} {px py pz pt pos : Pos} {kt k2 pt2} (hc : X.calm = true) (hN : X.N.Nodup) (ha : GM X a ta ma) (hb : GM X b tb mb) (hd : GM X c tc mc)
    (hi : X.N[i]? = some x := by rfl) (hj : X.N[j]? = some y := by rfl) (hl : X.N[l]? = some z := by rfl) (hij : i ≠ j := by decide) (hil : i ≠ l := by decide) (hjl : j ≠ l := by decide) (hx : X.env.scope.names.lookup x = some .local := by rfl) (hy : X.env.scope.names.lookup y = some .local := by rfl) (hz : X.env.scope.names.lookup z = some .local := by rfl)
    (hw : swappedStores [.Tuple [.Name x px, .Name y py, .Name z pz] kt pt] (.Tuple [a, b, c] k2 pt2) X.env = pure (some [x, y, z]) := by rfl)
    (hs : swapsWithSole [.Tuple [.Name x px, .Name y py, .Name z pz] kt pt] (.Tuple [a, b, c] k2 pt2) pos.line X.env = pure false := by rfl)
    (h1 : starEach (a :: [b, c]) X.env = (false, eval a X.env) :: starEach [b, c] X.env := by rfl) (h2 : starEach (b :: [c]) X.env = (false, eval b X.env) :: starEach [c] X.env := by rfl) (h3 : starEach (c :: []) X.env = (false, eval c X.env) :: starEach [] X.env := by rfl) :
    GS X W (.Assign [.Tuple [.Name x px, .Name y py, .Name z pz] kt pt] (.Tuple [a, b, c] k2 pt2) pos) (tPar3 i j l (tCons ta (tCons tb (tCons tc tNil)))) (aPar3 i j l ma mb mc) [i, j, l] :=
  ⟨ps_par3 hc hN hi hj hl hij hil hjl hx hy hz (pa_cons ha.pe (pa_cons hb.pe (pa_cons hd.pe pa_nil h3) h2) h1) hw hs, lk_par3 ha.lk hb.lk hd.lk⟩
end

/-! ### xs[i] = e, xs += ys, n += e, xs.pop() -/
def aSetI (j : Nat) (a : AE) : AG := fun d ρ k => isOw ρ j = true ∧ a ρ fun x ρ1 => match x, ρ1[j]? with
  | .im (.int n), some (.ow (.ol ds)) => ∃ m, ixN ds.length n = some m ∧ k (ρ1.set j (.ow (.ol (ds.set m d))))
  | _, _ => False
theorem lk_setI {K : PySem.W.Frag} {ti : TE} {a : AE} {j : Nat} (ha : LkE K ti a) : LkG K (gSub (tVar j) ti rSetL) (aSetI j a) [] := by
  intro d ρ k hk v σ F H O s r B' hB Q hq
  obtain ⟨ho, hk⟩ := hk
  obtain ⟨c, hc⟩ := isOw_get ho
  obtain ⟨p, h1, h2, h3⟩ := s.ow j c hc
  refine ⟨.ref p, h1, ?_⟩
  refine ha ρ _ hk σ F H O s _ fun u x ρ1 F1 H1 k1 s1 r1 hk1 => ?_
  split at hk1
  · rename_i n ds q
    obtain ⟨m, hm, hk1⟩ := hk1
    cases (show Rp K F1 u (.int n) from r1)
    obtain ⟨p', g1, g2, xs, g3, g4⟩ := s1.ow j _ q
    rw [h1] at g1
    cases g1
    refine ⟨p, xs, n, m, rfl, rfl, g3, by rw [g4.length]; exact hm, ?_⟩
    exact hq _ σ F1 _ (k1.trans (Kp.write g2)) (s1.write (c' := .ol (ds.set m d)) q h1 ⟨xs.set m v, upd_same, g4.set (r.mono k1.h2) m⟩) Keep.refl hk1
  · exact hk1.elim
theorem gg_setI {X : Cx} {x : Str} {xp pos : Pos} {i : Expr} {ti : TE} {a : AE} (j : Nat) (hi : GE X i ti a) (hN : X.N[j]? = some x := by rfl) (hv : Vis X.env.scope x := by first | exact Or.inl rfl | exact Or.inr (Or.inl rfl) | exact Or.inr (Or.inr rfl)) (hd : (x == ("__debug__" : Str)) = false := by decide)
    (hcd : (x == ("__classdict__" : Str)) = false := by decide) (ha : ∀ v, assign (.Subscript (.Name x xp) i pos) X.env v = (do
      let ov ← holding [v] (eval (.Name x xp) X.env)
      let iv ← holding [v, ov] (eval i X.env)
      standAt pos
      holding [v, ov, iv] (setItem ov iv v)
      release [v, ov, iv] []) := by intro _; rfl) : GG X (.Subscript (.Name x xp) i pos) (gSub (tVar j) ti rSetL) (aSetI j a) [] :=
  ⟨pg_sub (pe_var hN hv hd hcd) hi.pe set_list ha, lk_setI hi.lk⟩
/-- n += e (numbers), xs += ys (lists) -/
abbrev rAug : R2 := fun x y H Q => (rI0 fun i j => .int (i + j)) x y H Q ∨ rExt2 x y H Q
def aAug (i : Nat) (a : AE) : AS := fun A ρ => match ρ[i]? with
  | some (.im (.int n)) => a ρ fun x ρ1 => match x with
    | .im (.int m) => A.nx (ρ1.set i (.im (.int (n + m))))
    | _ => False
  | some (.ow _) => a ρ fun x ρ1 => match res ρ1 x, ρ1[i]? with
    | some (.lst es), some (.ow (.ol ds)) => ds.length + es.length ≤ 1000000 ∧ A.nx (ρ1.set i (.ow (.ol (ds ++ es))))
    | _, _ => False
  | _ => False
theorem lk_aug {K : PySem.W.Frag} {W : WX'} {te : TE} {a : AE} {i : Nat} (ha : LkE K te a) : LkS K W (tAug i te rAug) (aAug i a) [i] := by
  intro A ρ h σ F H O s B' Dn hB bd
  unfold aAug at h
  split at h
  · rename_i n q
    obtain ⟨v, h1, h2⟩ := s.im i _ q
    cases h2
    refine ⟨.int n, h1, ?_⟩
    refine ha ρ _ h σ F H O s _ fun u x ρ1 F1 H1 k1 s1 r1 hk1 => ?_
    split at hk1
    · rename_i m
      cases (show Rp K F1 u (.int m) from r1)
      exact .inl ⟨n, m, rfl, rfl, bd.nx _ _ F1 H1 O k1 (s1.setIm (.int _) i) (Keep.set (hB i List.mem_cons_self)) hk1⟩
    · exact hk1.elim
  · rename_i c q
    obtain ⟨p, h1, h2, h3⟩ := s.ow i _ q
    refine ⟨.ref p, h1, ?_⟩
    refine ha ρ _ h σ F H O s _ fun u x ρ1 F1 H1 k1 s1 r1 hk1 => ?_
    split at hk1
    · rename_i es ds q1 q2
      obtain ⟨hz, hk1⟩ := hk1
      obtain ⟨b, ys, rfl, g1, g2⟩ := (res_ok s1 r1 q1).lst s1.ex rfl
      obtain ⟨p', a1, a2, xs, a3, a4⟩ := s1.ow i _ q2
      rw [h1] at a1
      cases a1
      refine .inr ⟨p, b, xs, ys, rfl, rfl, a3, g1, by rw [a4.length, g2.length]; exact sz hz, ?_⟩
      have sw := s1.write (o := .lst (xs ++ ys)) (c' := .ol (ds ++ es)) q2 h1 ⟨xs ++ ys, upd_same, a4.append g2⟩
      have eσ : σ.set i (some (.ref p)) = σ := by
        apply List.ext_getElem?
        intro j
        by_cases e : i = j
        · subst e
          rw [List.getElem?_set_self (get_lt h1), h1]
        · rw [List.getElem?_set_ne e]
      refine bd.nx _ _ F1 _ O (k1.trans (Kp.write a2)) ?_ (Keep.set (hB i List.mem_cons_self)) hk1
      rw [eσ]
      exact sw
    · exact hk1.elim
  · exact h.elim
theorem gs_aug {X : Cx} {W : WX'} {i : Nat} {x : Str} {e : Expr} {te : TE} {a : AE} {pos pos' : Pos} (hN : X.N.Nodup) (he : GE X e te a) (hi : X.N[i]? = some x := by rfl) (hx : Loc X.env.scope x := by first | exact .inl rfl | exact .inr rfl) (hf : X.fn x = true ∨ X.env.scope.names.lookup x = some .local := by first | exact .inl rfl | exact .inr rfl | assumption) :
    GS X W (.AugAssign (.Name x pos') .Add e pos) (tAug i te rAug) (aAug i a) [i] := ⟨ps_aug hN hi hx he.pe (opr_or iop_add iop_ext) hf, lk_aug he.lk⟩
def aPop (i : Nat) : AE := fun ρ k => match ρ[i]? with
  | some (.ow (.ol ds)) => ∃ d, ds[ds.length - 1]? = some d ∧ k (.im d) (ρ.set i (.ow (.ol ds.dropLast)))
  | _ => False
theorem RpA.dropLast {K : PySem.W.Frag} {F : Hp} {xs : List V} {ds : List D} (r : RpA K F xs ds) : RpA K F xs.dropLast ds.dropLast := by
  rw [List.dropLast_eq_take, List.dropLast_eq_take, r.length]
  exact r.take _
theorem lk_pop {K : PySem.W.Frag} {i : Nat} : LkE K (tBM0 K "list" rPop (tVar i)) (aPop i) := by
  intro ρ k hk σ F H O s Q hq
  unfold aPop at hk
  split at hk
  · rename_i ds q
    obtain ⟨d, hd, hk⟩ := hk
    obtain ⟨p, h1, h2, xs, h3, h4⟩ := s.ow i _ q
    obtain ⟨v, hv, rv⟩ := h4.get hd
    refine ⟨.ref p, h1, .inl ⟨rfl, xs, SqL.of h3⟩, p, xs, v, rfl, rfl, h3, by rw [h4.length]; exact hv, ?_⟩
    exact hq v (.im d) _ F _ (Kp.write h2) (s.write (c' := .ol ds.dropLast) q h1 ⟨xs.dropLast, upd_same, h4.dropLast⟩) rv hk
  · exact hk.elim
theorem ge_pop {X : Cx} {x : Str} {xp apos cpos : Pos} (i : Nat) (hN : X.N[i]? = some x := by rfl) (hv : Vis X.env.scope x := by first | exact Or.inl rfl | exact Or.inr (Or.inl rfl) | exact Or.inr (Or.inr rfl)) (hd : (x == ("__debug__" : Str)) = false := by decide)
    (hcd : (x == ("__classdict__" : Str)) = false := by decide) (hbase : attributeBase (.Name x xp) "pop" X.env (eval (.Name x xp) X.env) = eval (.Name x xp) X.env := by rfl) (hline : (apos.endLine == cpos.line) = true := by rfl) :
    GE X (.Call (.Attribute (.Name x xp) "pop" apos) [] [] cpos) (tBM0 X.K "list" rPop (tVar i)) (aPop i) :=
  ⟨pe_bm0 PySem.F.plainAttrs_list PySem.F.slot_list_pop PySem.F.type_list_pop mt_pop (pe_var hN hv hd hcd) hbase hline, lk_pop⟩
theorem hu65 {k : Nat} {A : Around} (hr : Room k A) : A.units + 65 < cLine := by have := hr.un; omega
end DL
namespace DL
open PySem PySem.Spec L2
open PyProof.Rows hiding St
/-- a module's whole number -/
def IsInt (mg : Str → Option Value) (x : Str) (n : Int) : Prop := ∃ t, mg x = some (.int n t)
theorem ge_gint {X : Cx} {x : Str} {n : Int} {pos : Pos} (h : IsInt X.mg x n) (hg : Gl X x := by rfl) (hd : (x == ("__debug__" : Str)) = false := by decide) : GE X (.Name x pos) (tC (.int n)) (aC (.int n)) := by
  obtain ⟨t, h⟩ := h
  exact ge_glob h ⟨t, rfl⟩ (fun _ => .int n) hg hd
/-- neither an address nor the script -/
def val : D → Bool
  | .adr _ => false
  | .scr _ => false
  | .dic _ _ => false
  | _ => true
end DL

namespace DL
open PySem PySem.Spec L2
open PyProof.Rows hiding St

/-! ### comprehensions that change nothing -/
theorem mem_of_get {α : Type} {l : List α} {i : Nat} {x : α} (h : l[i]? = some x) : x ∈ l := List.mem_of_getElem? h
theorem take_more {α : Type} {l : List α} {i : Nat} {x : α} (h : l[i]? = some x) : l.take (i + 1) = l.take i ++ [x] := by
  rw [List.take_add_one, h]; rfl
theorem aLc_pure {ai : AI} {g : AG} {at_ : AT} {ae : AE} {vs : List Nat} {ρ : AR} {k : List D → AR → Prop} (ds : List D) (p : D → Bool) (f : D → D) (hai : ∀ k' : List D → AR → Prop, k' ds ρ → ai ρ k') (hn : noOw ρ vs = true) (hz : ds.length ≤ 1000000)
    (ht : ∀ d ∈ ds, ∀ (Wy : D → AR → Prop) (Wn : AR → Prop), (p d = true → Wy (f d) ρ) → (p d = false → Wn ρ) → g d (wipeA ρ vs) fun ρ2 => at_ ρ2 fun b ρ3 => if b = true then ae ρ3 fun x ρ4 => ∃ y, x = .im y ∧ Wy y (mrg vs ρ ρ4) else Wn (mrg vs ρ ρ3))
    (hk : k ((ds.filter p).map f) ρ) : aLc ai g at_ ae vs ρ k := by
  unfold aLc
  refine hai _ ⟨fun i acc ρ' => acc = ((ds.take i).filter p).map f ∧ ρ' = ρ, ⟨by simp, rfl⟩, ?_, ?_⟩
  · rintro i d acc ρ' hd ⟨rfl, rfl⟩
    refine ⟨hn, ht d (mem_of_get hd) (fun y ρ'' => (((ds.take i).filter p).map f).length < 1000000 ∧ ((((ds.take i).filter p).map f) ++ [y] = ((ds.take (i + 1)).filter p).map f ∧ ρ'' = ρ')) (fun ρ'' => ((ds.take i).filter p).map f = ((ds.take (i + 1)).filter p).map f ∧ ρ'' = ρ') (fun hp => ⟨?_, ?_, rfl⟩) fun hp => ⟨?_, rfl⟩⟩
    · rw [List.length_map]
      have h1 := List.length_filter_le p (ds.take i)
      have h2 := get_lt hd
      rw [List.length_take] at h1
      omega
    · rw [take_more hd, List.filter_append, List.map_append, List.filter_cons, if_pos hp]; rfl
    · rw [take_more hd, List.filter_append, List.map_append, List.filter_cons, if_neg (by rw [hp]; decide)]
      simp
  · rintro acc ρ' ⟨rfl, rfl⟩
    rw [List.take_length]
    exact hk
theorem aLc_map {ai : AI} {g : AG} {ae : AE} {vs : List Nat} {ρ : AR} {k : List D → AR → Prop} (ds : List D) (f : D → D) (hai : ∀ k' : List D → AR → Prop, k' ds ρ → ai ρ k') (hn : noOw ρ vs = true) (hz : ds.length ≤ 1000000)
    (ht : ∀ d ∈ ds, ∀ (Wy : D → AR → Prop), Wy (f d) ρ → g d (wipeA ρ vs) fun ρ2 => ae ρ2 fun x ρ4 => ∃ y, x = .im y ∧ Wy y (mrg vs ρ ρ4))
    (hk : k (ds.map f) ρ) : aLc ai g aYes ae vs ρ k := by
  refine aLc_pure ds (fun _ => true) f hai hn hz (fun d hd Wy Wn h1 h2 => ?_) ?_
  · exact ht d hd Wy (h1 rfl)
  · rw [List.filter_eq_self.mpr (fun _ _ => rfl)]
    exact hk
/-- by an invariant over what is made so far (a turn may change what is owned) -/
theorem aLc_inv {ai : AI} {g : AG} {ae : AE} {vs : List Nat} {ρ : AR} {k : List D → AR → Prop} (ds : List D) (I : List D → AR → Prop) (hai : ∀ k' : List D → AR → Prop, k' ds ρ → ai ρ k') (hz : ds.length ≤ 1000000) (h0 : I [] ρ)
    (ht : ∀ d ∈ ds, ∀ acc ρ', I acc ρ' → noOw ρ' vs = true ∧ ∀ Wy : D → AR → Prop, (∀ y ρ'', I (acc ++ [y]) ρ'' → Wy y ρ'') → g d (wipeA ρ' vs) fun ρ2 => ae ρ2 fun x ρ4 => ∃ y, x = .im y ∧ Wy y (mrg vs ρ' ρ4))
    (hk : ∀ acc ρ', acc.length = ds.length → I acc ρ' → k acc ρ') : aLc ai g aYes ae vs ρ k := by
  unfold aLc
  refine hai _ ⟨fun i acc ρ' => acc.length = i ∧ I acc ρ', ⟨rfl, h0⟩, ?_, ?_⟩
  · rintro i d acc ρ' hd ⟨hl, hI⟩
    obtain ⟨hn, ht⟩ := ht d (mem_of_get hd) acc ρ' hI
    refine ⟨hn, ?_⟩
    have hi := get_lt hd
    exact ht (fun y ρ'' => acc.length < 1000000 ∧ ((acc ++ [y]).length = i + 1 ∧ I (acc ++ [y]) ρ'')) fun y ρ'' h => ⟨by omega, by rw [List.length_append, hl]; rfl, h⟩
  · rintro acc ρ' ⟨hl, hI⟩
    exact hk acc ρ' hl hI
/-- a for over what is walked, by an invariant over what is taken so far -/
theorem aFor_inv {ai : AI} {g : AG} {b : AS} {A : AEnds} {ρ : AR} (ds : List D) (I : List D → AR → Prop) (hai : ∀ k' : List D → AR → Prop, k' ds ρ → ai ρ k') (h0 : I [] ρ)
    (ht : ∀ (pre : List D) (d : D) (post : List D) (ρ' : AR), ds = pre ++ d :: post → I pre ρ' → ∀ N : AR → Prop, (∀ ρ'', I (pre ++ [d]) ρ'' → N ρ'') → g d ρ' fun ρ'' => b { A with nx := N, ct := N, bk := A.nx } ρ'')
    (hk : ∀ ρ', I ds ρ' → A.nx ρ') : aFor ai g b A ρ := by
  unfold aFor
  refine hai _ ⟨fun i ρ' => I (ds.take i) ρ', by simpa using h0, fun i d ρ' hd hI => ?_, fun ρ' hI => hk ρ' (by have hI' : I (ds.take ds.length) ρ' := hI; rw [List.take_length] at hI'; exact hI')⟩
  have hi := get_lt hd
  have e : ds = ds.take i ++ d :: ds.drop (i + 1) := by
    have h2 : ds[i] = d := Option.some.inj ((List.getElem?_eq_getElem hi).symm.trans hd)
    rw [← h2]
    simp
  refine ht (ds.take i) d (ds.drop (i + 1)) ρ' e hI (fun ρ'' => I (ds.take (i + 1)) ρ'') fun ρ'' h => ?_
  rw [take_more hd]
  exact h
end DL

/-! the rules that speak of the written part K, with K given by name (a comprehension's block has its own context) -/
namespace DL
open PySem PySem.Spec L2
open PyProof.Rows hiding St
section
variable {X : Cx} {K : PySem.W.Frag} {a b e : Expr} {es : List Expr} {pos p : Pos} {ta tb te : TE} {aa ab ae : AE} {tas : TA} {aas : AA}
theorem ge_plus (ha : GE X a ta aa) (hb : GE X b tb ab) (hK : X.K = K := by rfl) : GE X (.BinOp a .Add b pos) (tOp (rPlus K) ta tb) (aOp fPlus aa ab) := by
  subst hK
  exact ge_op op_plus lk_plus ha hb
theorem ge_eq (hu : X.A.units + 64 < cLine) (ha : GE X a ta aa) (hb : GE X b tb ab) (hm : behindInMarks .Eq b = false) (hK : X.K = K := by rfl) : GE X (.Compare a [.Eq] [b] pos) (tOp (rEqD K) ta tb) (aOp fEq aa ab) := by
  subst hK
  exact ge_cmp (op_eqD hu) lk_eq ha hb hm
theorem gt_eq (hu : X.A.units + 64 < cLine) (ha : GE X a ta aa) (hb : GE X b tb ab) (hm : behindInMarks .Eq b = false) (hK : X.K = K := by rfl) : GT X (.Compare a [.Eq] [b] pos) (tTest (tOp (rEqD K) ta tb)) (aTest (aOp fEq aa ab)) := by
  subst hK
  exact gt_cmp (op_eqD hu) lk_eq ha hb hm
theorem ge_ne (hu : X.A.units + 64 < cLine) (ha : GE X a ta aa) (hb : GE X b tb ab) (hm : behindInMarks .NotEq b = false) (hK : X.K = K := by rfl) : GE X (.Compare a [.NotEq] [b] pos) (tOp (rNeD K) ta tb) (aOp fNe aa ab) := by
  subst hK
  exact ge_cmp (op_neD hu) lk_ne ha hb hm
theorem gt_ne (hu : X.A.units + 64 < cLine) (ha : GE X a ta aa) (hb : GE X b tb ab) (hm : behindInMarks .NotEq b = false) (hK : X.K = K := by rfl) : GT X (.Compare a [.NotEq] [b] pos) (tTest (tOp (rNeD K) ta tb)) (aTest (aOp fNe aa ab)) := by
  subst hK
  exact gt_cmp (op_neD hu) lk_ne ha hb hm
theorem ge_in (hu : X.A.units + 65 < cLine) (ha : GE X a ta aa) (hb : GE X b tb ab) (hm : behindInMarks .In b = false) (hK : X.K = K := by rfl) : GE X (.Compare a [.In] [b] pos) (tOp (rInA K false) ta tb) (aOp (fIn false) aa ab) := by
  subst hK
  exact ge_cmp (op_inA hu) lk_in ha hb hm
theorem gt_in (hu : X.A.units + 65 < cLine) (ha : GE X a ta aa) (hb : GE X b tb ab) (hm : behindInMarks .In b = false) (hK : X.K = K := by rfl) : GT X (.Compare a [.In] [b] pos) (tTest (tOp (rInA K false) ta tb)) (aTest (aOp (fIn false) aa ab)) := by
  subst hK
  exact gt_cmp (op_inA hu) lk_in ha hb hm
theorem ge_nin (hu : X.A.units + 65 < cLine) (ha : GE X a ta aa) (hb : GE X b tb ab) (hm : behindInMarks .NotIn b = false) (hK : X.K = K := by rfl) : GE X (.Compare a [.NotIn] [b] pos) (tOp (rInA K true) ta tb) (aOp (fIn true) aa ab) := by
  subst hK
  exact ge_cmp (op_notInA hu) lk_in ha hb hm
theorem gt_nin (hu : X.A.units + 65 < cLine) (ha : GE X a ta aa) (hb : GE X b tb ab) (hm : behindInMarks .NotIn b = false) (hK : X.K = K := by rfl) : GT X (.Compare a [.NotIn] [b] pos) (tTest (tOp (rInA K true) ta tb)) (aTest (aOp (fIn true) aa ab)) := by
  subst hK
  exact gt_cmp (op_notInA hu) lk_in ha hb hm
theorem ge_ixK (ha : GE X a ta aa) (hb : GE X b tb ab) (hs : PlainIx b := by exact fun _ _ => rfl) (hK : X.K = K := by rfl) : GE X (.Subscript a b pos) (tOp (rIx K) ta tb) (aOp fIx aa ab) := by
  subst hK
  exact ge_ix ha hb hs
theorem ge_slK {lo hi : Option Expr} {tl th : TO} {l h : AO} {p2 : Pos} (he : GE X e te ae) (hl : GO X lo tl l) (hh : GO X hi th h) (hK : X.K = K := by rfl) : GE X (.Subscript e (.Slice lo hi none p2) pos) (tSl (rSl K) te tl th) (aSl ae l h) := by
  subst hK
  exact ge_sl he hl hh
theorem ge_isiK {q : Pos} {y : Str} (T : Ty) (hm : X.mg "isinstance" = none) (hy : X.mg y = none) (ha : GE X e te ae) (hv : bootBuiltins y = some (.type T.nm) := by decide +kernel) (hg : Gl X "isinstance" := by rfl) (hg2 : Gl X y := by rfl) (hn : y ≠ "__name__" := by decide) (hdb : (y == ("__debug__" : Str)) = false := by decide) (hcd : (y == ("__classdict__" : Str)) = false := by decide)
    (he : starEach (e :: [.Name y q]) X.env = (false, eval e X.env) :: starEach [.Name y q] X.env := by rfl) (he2 : starEach (.Name y q :: []) X.env = (false, eval (.Name y q) X.env) :: starEach [] X.env := by rfl) (hpl : (backTo pos (starEach [.Name y q] X.env)).any (·.1) = false := by rfl) (hK : X.K = K := by rfl) :
    GE X (.Call (.Name "isinstance" p) [e, .Name y q] [] pos) (tCB (rIsi K) (tCons te (tCons (tC (.ty T.nm)) tNil))) (aIsi T ae) := by
  subst hK
  exact ge_isi T hm hy ha hv hg hg2 hn hdb hcd he he2 hpl
theorem ge_lenK (B : Bt X.mg) (ha : GA X (e :: es) tas aas) (hg : Gl X "len" := by rfl) (he : starEach (e :: es) X.env = (false, eval e X.env) :: starEach es X.env := by rfl) (hpl : (backTo pos (starEach es X.env)).any (·.1) = false := by rfl) (hK : X.K = K := by rfl) : GE X (.Call (.Name "len" p) (e :: es) [] pos) (tCB (rLen K) tas) (aCB fLen aas) := by
  subst hK
  exact ge_len B ha hg he hpl
theorem ge_maxK (hc : X.calm = true) (B : Bt X.mg) (ha : GA X (e :: es) tas aas) (hg : Gl X "max" := by rfl) (he : starEach (e :: es) X.env = (false, eval e X.env) :: starEach es X.env := by rfl) (hpl : (backTo pos (starEach es X.env)).any (·.1) = false := by rfl) (hK : X.K = K := by rfl) : GE X (.Call (.Name "max" p) (e :: es) [] pos) (tCB (rMax K) tas) (aCB fMax aas) := by
  subst hK
  exact ge_max hc B ha hg he hpl
theorem ge_minK (hc : X.calm = true) (B : Bt X.mg) (ha : GA X (e :: es) tas aas) (hg : Gl X "min" := by rfl) (he : starEach (e :: es) X.env = (false, eval e X.env) :: starEach es X.env := by rfl) (hpl : (backTo pos (starEach es X.env)).any (·.1) = false := by rfl) (hK : X.K = K := by rfl) : GE X (.Call (.Name "min" p) (e :: es) [] pos) (tCB (rMin K) tas) (aCB fMin aas) := by
  subst hK
  exact ge_min hc B ha hg he hpl
theorem ge_sumK (hc : X.calm = true) (B : Bt X.mg) (ha : GA X (e :: es) tas aas) (hg : Gl X "sum" := by rfl) (he : starEach (e :: es) X.env = (false, eval e X.env) :: starEach es X.env := by rfl) (hpl : (backTo pos (starEach es X.env)).any (·.1) = false := by rfl) (hK : X.K = K := by rfl) : GE X (.Call (.Name "sum" p) (e :: es) [] pos) (tCB (rSum K) tas) (aCB fSum aas) := by
  subst hK
  exact ge_sum hc B ha hg he hpl
theorem ge_allK (hc : X.calm = true) (B : Bt X.mg) (ha : GA X (e :: es) tas aas) (hg : Gl X "all" := by rfl) (he : starEach (e :: es) X.env = (false, eval e X.env) :: starEach es X.env := by rfl) (hpl : (backTo pos (starEach es X.env)).any (·.1) = false := by rfl) (hK : X.K = K := by rfl) : GE X (.Call (.Name "all" p) (e :: es) [] pos) (tCB (rAll K) tas) (aCB fAll aas) := by
  subst hK
  exact ge_all hc B ha hg he hpl
theorem ge_tupleK (B : Bt X.mg) (ha : GA X (e :: es) tas aas) (hg : Gl X "tuple" := by rfl) (he : starEach (e :: es) X.env = (false, eval e X.env) :: starEach es X.env := by rfl) (hpl : (backTo pos (starEach es X.env)).any (·.1) = false := by rfl) (hK : X.K = K := by rfl) : GE X (.Call (.Name "tuple" p) (e :: es) [] pos) (tCB (rTup1 K) tas) (aCB fTuple aas) := by
  subst hK
  exact ge_tuple B ha hg he hpl
theorem gl_listK (hm : X.mg "list" = none) (ha : GA X (e :: es) tas aas) (hg : Gl X "list" := by rfl)
    (he : starEach (e :: es) X.env = (false, eval e X.env) :: starEach es X.env := by rfl) (hpl : (backTo pos (starEach es X.env)).any (·.1) = false := by rfl) (hK : X.K = K := by rfl) : GL X (.Call (.Name "list" p) (e :: es) [] pos) (tCB (fun xs H Q => ∃ p ys, xs = [.ref p] ∧ (SqL K H p ys ∨ SqT K H p ys) ∧ ∀ l, H l = none → Q (.ref l) (upd H l (.lst ys))) tas) (aList aas) := by
  subst hK
  exact gl_list hm ha hg he hpl
theorem ge_appK {x : Str} {xp apos cpos : Pos} (i : Nat) (ha : GE X e te ae) (hN : X.N[i]? = some x := by rfl) (hv : Vis X.env.scope x := by first | exact Or.inl rfl | exact Or.inr (Or.inl rfl) | exact Or.inr (Or.inr rfl)) (hd : (x == ("__debug__" : Str)) = false := by decide)
    (hcd : (x == ("__classdict__" : Str)) = false := by decide) (hbase : attributeBase (.Name x xp) "append" X.env (eval (.Name x xp) X.env) = eval (.Name x xp) X.env := by rfl)
    (hfew : ((backTo cpos (starEach [e] X.env)).all (fun x => !x.1) && (backToKw cpos (keywordEach [] X.env)).all (fun x => x.1.isSome)
      && decide ([e].length + ([] : List Keyword).length + (if ([] : List Keyword).isEmpty then 0 else 1) < 30)) = true := by rfl)
    (hline : (apos.endLine == cpos.line) = true := by rfl) (hs : starEach (e :: []) X.env = (false, eval e X.env) :: starEach [] X.env := by rfl) (hplain : (backTo cpos (starEach [] X.env)).any (·.1) = false := by rfl) (hK : X.K = K := by rfl) :
    GE X (.Call (.Attribute (.Name x xp) "append" apos) [e] [] cpos) (tBM K "list" rAppend (tVar i) (tCons te tNil)) (aApp i ae) := by
  subst hK
  exact ge_app i ha hN hv hd hcd hbase hfew hline hs hplain
theorem ge_popK {x : Str} {xp apos cpos : Pos} (i : Nat) (hN : X.N[i]? = some x := by rfl) (hv : Vis X.env.scope x := by first | exact Or.inl rfl | exact Or.inr (Or.inl rfl) | exact Or.inr (Or.inr rfl)) (hd : (x == ("__debug__" : Str)) = false := by decide)
    (hcd : (x == ("__classdict__" : Str)) = false := by decide) (hbase : attributeBase (.Name x xp) "pop" X.env (eval (.Name x xp) X.env) = eval (.Name x xp) X.env := by rfl) (hline : (apos.endLine == cpos.line) = true := by rfl) (hK : X.K = K := by rfl) :
    GE X (.Call (.Attribute (.Name x xp) "pop" apos) [] [] cpos) (tBM0 K "list" rPop (tVar i)) (aPop i) := by
  subst hK
  exact ge_pop i hN hv hd hcd hbase hline
theorem gi_seqK {tg : Expr} (he : GE X e te ae) (hK : X.K = K := by rfl) : GI X tg e (iSeq K te) (aISeq ae) := by
  subst hK
  exact gi_seq he
theorem gg_tupK {es : List Expr} {k : Nat} {t : TGs} {a : AGs} {B : List Nat} {n : Nat} {pos : Pos} (hc : X.calm = true) (h : GGs X es t a B)
    (hn : (assignEach es X.env).length = n := by rfl) (hst : (assignEach es X.env).findIdx? (·.1) = none := by rfl) (hK : X.K = K := by rfl) : GG X (.Tuple es k pos) (gTup K n t) (aGTup n a) B := by
  subst hK
  exact gg_tup hc h hn hst
theorem ge_dfK {P : Program} {w : World} {mg : Str → Option Value} {base : Heap} {j k : Nat} {af : AF} {x : Str} (d : Df P w K mg base k x af) (hr : Room j X.A) (ha : GA X (e :: es) tas aas) (hk : k ≤ j := by decide) (hg : Gl X x := by rfl)
    (he : starEach (e :: es) X.env = (false, eval e X.env) :: starEach es X.env := by rfl) (hpl : (backTo pos (starEach es X.env)).any (·.1) = false := by rfl) (hdb : (x == ("__debug__" : Str)) = false := by decide) (hK : X.K = K := by rfl) (hP : X.prog = P := by rfl) (hw : X.w = w := by rfl) (hm : X.mg = mg := by rfl) (hb : X.base = base := by rfl) :
    GE X (.Call (.Name x p) (e :: es) [] pos) (tCall (SpF K af) [] E0 tas) (aCall af aas) := by
  subst hK hP hw hm hb
  exact ge_df d hr ha hk hg he hpl hdb
theorem gl_dfK {P : Program} {w : World} {mg : Str → Option Value} {base : Heap} {j k : Nat} {af : AFL} {x : Str} (d : DfL P w K mg base k x af) (hr : Room j X.A) (ha : GA X (e :: es) tas aas) (hk : k ≤ j := by decide) (hg : Gl X x := by rfl)
    (he : starEach (e :: es) X.env = (false, eval e X.env) :: starEach es X.env := by rfl) (hpl : (backTo pos (starEach es X.env)).any (·.1) = false := by rfl) (hdb : (x == ("__debug__" : Str)) = false := by decide) (hK : X.K = K := by rfl) (hP : X.prog = P := by rfl) (hw : X.w = w := by rfl) (hm : X.mg = mg := by rfl) (hb : X.base = base := by rfl) :
    GL X (.Call (.Name x p) (e :: es) [] pos) (tCall (SpL K af) [] E0 tas) (aCallL af aas) := by
  subst hK hP hw hm hb
  exact gl_df d hr ha hk hg he hpl hdb
end
end DL

namespace DL
open PySem PySem.Spec L2
open PyProof.Rows hiding St

/-! ### over what is told by a list of plain things -/
theorem split_map {α : Type} {f : α → D} : ∀ {xs : List α} {pre post : List D} {d : D}, xs.map f = pre ++ d :: post → ∃ p x q, xs = p ++ x :: q ∧ pre = p.map f ∧ d = f x ∧ post = q.map f
  | [], pre, post, d, h => by cases pre <;> cases h
  | y :: xs, [], post, d, h => by
    simp only [List.map_cons, List.nil_append, List.cons.injEq] at h
    exact ⟨[], y, xs, rfl, rfl, h.1.symm, h.2.symm⟩
  | y :: xs, e :: pre, post, d, h => by
    simp only [List.map_cons, List.cons_append, List.cons.injEq] at h
    obtain ⟨p, x, q, h1, h2, h3, h4⟩ := split_map h.2
    exact ⟨y :: p, x, q, by rw [h1]; rfl, by rw [h2, ← h.1]; rfl, h3, h4⟩
theorem map_inj_take {α : Type} {f : α → D} (hf : ∀ x y, f x = f y → x = y) : ∀ {xs ys : List α}, xs.map f = ys.map f → xs = ys
  | [], [], _ => rfl
  | [], _ :: _, h => by cases h
  | _ :: _, [], h => by cases h
  | x :: xs, y :: ys, h => by
    simp only [List.map_cons, List.cons.injEq] at h
    rw [hf _ _ h.1, map_inj_take hf h.2]
theorem aFor_map {α : Type} {ai : AI} {g : AG} {b : AS} {A : AEnds} {ρ : AR} (xs : List α) (f : α → D) (I : List α → AR → Prop) (hai : ∀ k' : List D → AR → Prop, k' (xs.map f) ρ → ai ρ k') (h0 : I [] ρ)
    (ht : ∀ (pre : List α) (x : α) (post : List α) (ρ' : AR), xs = pre ++ x :: post → I pre ρ' → ∀ N : AR → Prop, (∀ ρ'', I (pre ++ [x]) ρ'' → N ρ'') → g (f x) ρ' fun ρ'' => b { A with nx := N, ct := N, bk := A.nx } ρ'')
    (hk : ∀ ρ', I xs ρ' → A.nx ρ') : aFor ai g b A ρ := by
  unfold aFor
  refine hai _ ⟨fun i ρ' => I (xs.take i) ρ', by simpa using h0, fun i d ρ' hd hI => ?_, fun ρ' hI => hk ρ' (by have hI' : I (xs.take (xs.map f).length) ρ' := hI; rw [List.length_map, List.take_length] at hI'; exact hI')⟩
  have hi := get_lt hd
  rw [List.length_map] at hi
  rw [List.getElem?_map, List.getElem?_eq_getElem hi] at hd
  cases hd
  refine ht (xs.take i) xs[i] (xs.drop (i + 1)) ρ' (by simp) hI (fun ρ'' => I (xs.take (i + 1)) ρ'') fun ρ'' h => ?_
  rw [take_more (List.getElem?_eq_getElem hi)]
  exact h
theorem aLc_mapM {α : Type} {ai : AI} {g : AG} {ae : AE} {vs : List Nat} {ρ : AR} {k : List D → AR → Prop} (xs : List α) (f h : α → D) (hai : ∀ k' : List D → AR → Prop, k' (xs.map f) ρ → ai ρ k') (hn : noOw ρ vs = true) (hz : xs.length ≤ 1000000)
    (ht : ∀ x ∈ xs, ∀ (Wy : D → AR → Prop), Wy (h x) ρ → g (f x) (wipeA ρ vs) fun ρ2 => ae ρ2 fun y ρ4 => ∃ z, y = .im z ∧ Wy z (mrg vs ρ ρ4))
    (hk : k (xs.map h) ρ) : aLc ai g aYes ae vs ρ k := by
  unfold aLc
  refine hai _ ⟨fun i acc ρ' => acc = (xs.take i).map h ∧ ρ' = ρ, ⟨by simp, rfl⟩, ?_, ?_⟩
  · rintro i d acc ρ' hd ⟨rfl, rfl⟩
    have hi := get_lt hd
    rw [List.length_map] at hi
    rw [List.getElem?_map, List.getElem?_eq_getElem hi] at hd
    cases hd
    refine ⟨hn, ht xs[i] (List.getElem_mem hi) (fun y ρ'' => ((xs.take i).map h).length < 1000000 ∧ (((xs.take i).map h) ++ [y] = (xs.take (i + 1)).map h ∧ ρ'' = ρ')) ⟨?_, ?_, rfl⟩⟩
    · rw [List.length_map, List.length_take]; omega
    · rw [take_more (List.getElem?_eq_getElem hi), List.map_append]; rfl
  · rintro acc ρ' ⟨rfl, rfl⟩
    rw [List.length_map, List.take_length]
    exact hk
theorem aLc_pureM {α : Type} {ai : AI} {g : AG} {at_ : AT} {ae : AE} {vs : List Nat} {ρ : AR} {k : List D → AR → Prop} (xs : List α) (f : α → D) (p : α → Bool) (h : α → D) (hai : ∀ k' : List D → AR → Prop, k' (xs.map f) ρ → ai ρ k') (hn : noOw ρ vs = true) (hz : xs.length ≤ 1000000)
    (ht : ∀ x ∈ xs, ∀ (Wy : D → AR → Prop) (Wn : AR → Prop), (p x = true → Wy (h x) ρ) → (p x = false → Wn ρ) → g (f x) (wipeA ρ vs) fun ρ2 => at_ ρ2 fun b ρ3 => if b = true then ae ρ3 fun y ρ4 => ∃ z, y = .im z ∧ Wy z (mrg vs ρ ρ4) else Wn (mrg vs ρ ρ3))
    (hk : k ((xs.filter p).map h) ρ) : aLc ai g at_ ae vs ρ k := by
  unfold aLc
  refine hai _ ⟨fun i acc ρ' => acc = ((xs.take i).filter p).map h ∧ ρ' = ρ, ⟨by simp, rfl⟩, ?_, ?_⟩
  · rintro i d acc ρ' hd ⟨rfl, rfl⟩
    have hi := get_lt hd
    rw [List.length_map] at hi
    rw [List.getElem?_map, List.getElem?_eq_getElem hi] at hd
    cases hd
    have ht' := take_more (List.getElem?_eq_getElem hi)
    refine ⟨hn, ht xs[i] (List.getElem_mem hi) (fun y ρ'' => (((xs.take i).filter p).map h).length < 1000000 ∧ ((((xs.take i).filter p).map h) ++ [y] = ((xs.take (i + 1)).filter p).map h ∧ ρ'' = ρ')) (fun ρ'' => ((xs.take i).filter p).map h = ((xs.take (i + 1)).filter p).map h ∧ ρ'' = ρ') (fun hp => ⟨?_, ?_, rfl⟩) fun hp => ⟨?_, rfl⟩⟩
    · rw [List.length_map]
      have h1 := List.length_filter_le p (xs.take i)
      rw [List.length_take] at h1
      omega
    · rw [ht', List.filter_append, List.map_append, List.filter_cons, if_pos hp]; rfl
    · rw [ht', List.filter_append, List.map_append, List.filter_cons, if_neg (by rw [hp]; decide)]
      simp
  · rintro acc ρ' ⟨rfl, rfl⟩
    rw [List.length_map, List.take_length]
    exact hk
/-- by an invariant over what is taken so far (a turn may change what is owned) -/
theorem aLc_invM {α : Type} {ai : AI} {g : AG} {ae : AE} {vs : List Nat} {ρ : AR} {k : List D → AR → Prop} (xs : List α) (f : α → D) (I : List D → AR → Prop) (hai : ∀ k' : List D → AR → Prop, k' (xs.map f) ρ → ai ρ k') (hz : xs.length ≤ 1000000) (h0 : I [] ρ)
    (ht : ∀ x ∈ xs, ∀ acc ρ', I acc ρ' → noOw ρ' vs = true ∧ ∀ Wy : D → AR → Prop, (∀ y ρ'', I (acc ++ [y]) ρ'' → Wy y ρ'') → g (f x) (wipeA ρ' vs) fun ρ2 => ae ρ2 fun x ρ4 => ∃ y, x = .im y ∧ Wy y (mrg vs ρ' ρ4))
    (hk : ∀ acc ρ', acc.length = xs.length → I acc ρ' → k acc ρ') : aLc ai g aYes ae vs ρ k := by
  refine aLc_inv (xs.map f) I hai (by rw [List.length_map]; exact hz) h0 (fun d hd acc ρ' hI => ?_) fun acc ρ' hl hI => hk acc ρ' (by rw [hl, List.length_map]) hI
  obtain ⟨x, hx, rfl⟩ := List.mem_map.mp hd
  exact ht x hx acc ρ' hI

/-- a, a + 1, .. ahead of b -/
def rgI (a b : Int) : List Int := (List.range (b - a).toNat).map fun i => a + (i : Nat)
theorem rng_rgI (a b : Int) : rng a (b - a).toNat = (rgI a b).map D.int := by
  unfold rng rgI
  rw [List.map_map]; rfl
theorem rng_rgI0 (b : Int) : rng 0 b.toNat = (rgI 0 b).map D.int := by
  rw [← rng_rgI, Int.sub_zero]
theorem rgI_len (a b : Int) : (rgI a b).length = (b - a).toNat := by unfold rgI; rw [List.length_map, List.length_range]
theorem rgI_mem {a b i : Int} : i ∈ rgI a b ↔ a ≤ i ∧ i < b := by
  unfold rgI
  constructor
  · intro h
    obtain ⟨j, hj, rfl⟩ := List.mem_map.mp h
    have := List.mem_range.mp hj
    omega
  · rintro ⟨h1, h2⟩
    exact List.mem_map.mpr ⟨(i - a).toNat, List.mem_range.mpr (by omega), by omega⟩
theorem rgI_pre {a b i : Int} {pre post : List Int} (h : rgI a b = pre ++ i :: post) : pre = rgI a i ∧ i = a + (pre.length : Nat) ∧ a ≤ i ∧ i < b := by
  have hl : (rgI a b).length = pre.length + (post.length + 1) := by rw [h, List.length_append, List.length_cons]
  rw [rgI_len] at hl
  have hi : i = a + (pre.length : Nat) := by
    have h1 : (rgI a b)[pre.length]? = some i := by
      rw [h, List.getElem?_append_right (Nat.le_refl _), Nat.sub_self]; rfl
    unfold rgI at h1
    rw [List.getElem?_map, List.getElem?_range (by omega)] at h1
    exact (Option.some.inj h1).symm
  refine ⟨?_, hi, by omega, by omega⟩
  have h2 : pre = (rgI a b).take pre.length := by rw [h]; simp
  rw [h2]
  unfold rgI
  rw [← List.map_take, List.take_range, hi]
  congr 2
  omega
theorem atI_nat {xs : List D} {i : Int} {d : D} (h0 : 0 ≤ i) (h : xs[i.toNat]? = some d) : atI xs i = some d := by
  have hl := get_lt h
  have hi : i < (xs.length : Int) := by omega
  unfold atI ixN
  simp only [h0, hi, if_true, and_self, Option.bind_some]
  exact h
theorem gt_truthK {X : Cx} {K : PySem.W.Frag} {e : Expr} {te : TE} {a : AE} (h : GE X e te a) (he : ∀ whole, isTrue e X.env whole = (do let v ← whole; standAt e.pos; holding [v] (truthy v)) := by intro _; rfl) (hK : X.K = K := by rfl) : GT X e (fun σ H Q => te σ H fun x H' => ∃ k, TruV K x H' k ∧ Q k H') (aTru a) := by
  subst hK
  exact gt_truth h he
/-- one statement at a time: what stands between -/
theorem aSeq_cut {x r : AS} {A : AEnds} {ρ : AR} (R : AR → Prop) (h2 : ∀ N : AR → Prop, (∀ ρ', R ρ' → N ρ') → x { A with nx := N } ρ) (h1 : ∀ ρ', R ρ' → r A ρ') : aSeq x r A ρ := h2 _ h1
/-- THE RULE for a def at its place -/
theorem df_okE {P : Program} {w : World} {K : PySem.W.Frag} {mg : Str → Option Value} {base : Heap} {x : Str} {st : Stmt} {N ps : List Str} {k : Nat} {af : AF} {f : Addr} {fd : FuncData} (Fn : Fun K x x st f fd) (S : FnScope N ps (defScope st)) (us : List SV) (hlen : ∀ ρ kk, af ρ kk → ρ.length = ps.length)
    (hbody : ∀ (f : Addr) (cdv : Value) (A : Around) (outer : List Env) (s : Shared) (H : Hp) (E : XK), Room k (A.deeper (envOfC x (defScope st) s.heap.objs.size f cdv)) →
      ∃ t as B, GSs (cxOf CX0 P w K mg base N x (defScope st) f cdv A outer s H E).nox W0 (defBody st) t as B ∧
        ∀ ρ kk, af ρ kk → bpin ρ B = true ∧ as { nx := fun ρ' => still ρ ρ' = true ∧ kk .non (retA ρ ρ'), rt := fun d ρ' => still ρ ρ' = true ∧ kk d (retA ρ ρ') } (ρ ++ us)) (hus : List.replicate (N.length - ps.length) .un = us := by rfl) :
    FnOk P w K mg base CX0 (k + 1) f fd ps (SpF K af) := by
  subst hus
  exact fn_ok Fn S hlen (hbody f)
end DL

namespace DL
open PySem PySem.Spec L2
open PyProof.Rows hiding St

/-! ### zip of two, of three lists or tuples -/
inductive Src where
  | L (a : Addr) | T (a : Addr)
def Src.at : Src → Addr
  | .L a => a
  | .T a => a
def SqS (K : PySem.W.Frag) (H : Hp) : Src → List V → Prop
  | .L a, xs => SqL K H a xs
  | .T a, xs => SqT K H a xs
def IsS (h : Heap) : Src → Array Value → Prop
  | .L a, its => h.IsList a its
  | .T a, its => h.IsTuple a its
def ItS (h : Heap) (it : Addr) (i : Nat) : Src → Prop
  | .L a => h.IsListIter it a i
  | .T a => h.IsTupleIter it a i
def obS (i : Nat) : Src → Obj
  | .L a => { cls := .type "list_iterator", data := .fields #[.ref a, .int i 0] }
  | .T a => { cls := .type "tuple_iterator", data := .fields #[.ref a, .int i 0] }
theorem itS_of {h : Heap} {it : Addr} {i : Nat} {S : Src} (e : h.get? it = some (obS i S)) : ItS h it i S := by
  cases S with
  | L a => exact ⟨_, e, rfl, rfl⟩
  | T a => exact ⟨_, e, rfl, rfl⟩
theorem itS_live {h : Heap} {it : Addr} {i : Nat} {S : Src} (e : ItS h it i S) : ∃ o, h.get? it = some o ∧ ∀ v, o.data ≠ .cell v := by
  cases S with
  | L a => obtain ⟨o, e1, _, d1⟩ := e; exact ⟨o, e1, fun v q => by rw [d1] at q; cases q⟩
  | T a => obtain ⟨o, e1, _, d1⟩ := e; exact ⟨o, e1, fun v q => by rw [d1] at q; cases q⟩
theorem itS_keep {h h' : Heap} {it : Addr} {i : Nat} {S : Src} (e : ItS h it i S) (k : ∀ o, h.get? it = some o → h'.get? it = some o) : ItS h' it i S := by
  cases S with
  | L a => exact Heap.IsListIter.at e k
  | T a => exact Heap.IsTupleIter.at e k
theorem draws_S {prog : Program} {w : World} {A : Around} (hh : A.handled = none) (it : Addr) (S : Src) (hne : S.at ≠ it) (its : Array Value) :
    Draws prog w A it [it, S.at] its.size (fun i v => its[i]? = some v) (fun i h => ItS h it i S ∧ IsS h S its) := by
  cases S with
  | L a => exact Draws.list hh it a hne its
  | T a => exact Draws.tuple hh it a hne its
theorem begins_S (S : Src) (its : Array Value) : Begins (.ref S.at) (obS 0 S) fun h => IsS h S its := by
  cases S with
  | L a => exact begins_list a its
  | T a => exact begins_tuple a its
theorem inv_S {X : Cx} {pins : List (Addr × Obj)} {σ : L2.St} {H : Hp} {s : Shared} (I : Inv X pins σ H s) {S : Src} {xs : List V} (h : SqS X.K H S xs) : ∃ its : List Value, Vals xs its ∧ IsS s.heap S its.toArray ∧ S.at < s.heap.objs.size := by
  cases S with
  | L a => obtain ⟨its, r, p, _⟩ := I.list h; exact ⟨its, r, p.isList, p.lt⟩
  | T a =>
    obtain ⟨its, r, p, _⟩ := I.tuple h
    obtain ⟨o, ho, _⟩ := id p
    exact ⟨its, r, p, Heap.lt_size ho⟩
theorem inj_S {X : Cx} {pins : List (Addr × Obj)} {σ : L2.St} {H : Hp} {s : Shared} (I : Inv X pins σ H s) {S : Src} {xs ys : List V} (h : SqS X.K H S xs) (h' : SqS X.K H S ys) : xs = ys := by
  cases S with
  | L a => exact I.list_inj h h'
  | T a => exact I.tuple_inj h h'

/-- the sources as they stand at each turn, the items in new triples -/
def ItZ3 (K : PySem.W.Frag) (a b c : Src) : It :=
  ⟨fun i H => ∃ (xs ys zs : List V) (x y z : V), SqS K H a xs ∧ SqS K H b ys ∧ SqS K H c zs ∧ xs[i]? = some x ∧ ys[i]? = some y ∧ zs[i]? = some z,
    fun i H v H' => ∃ T x y z, v = .ref T ∧ H T = none ∧ H' = upd H T (.tup [x, y, z]) ∧ (∀ xs, SqS K H a xs → xs[i]? = some x) ∧ (∀ ys, SqS K H b ys → ys[i]? = some y) ∧ ∀ zs, SqS K H c zs → zs[i]? = some z,
    fun i H => ∃ xs ys zs : List V, SqS K H a xs ∧ SqS K H b ys ∧ SqS K H c zs ∧ i ≤ xs.length ∧ i ≤ ys.length ∧ i ≤ zs.length ∧ (i = xs.length ∨ i = ys.length ∨ i = zs.length)⟩
def tnZ3 (z TI TO i1 i2 i3 : Addr) (a b c : Src) (i : Nat) (h : Heap) : Prop :=
  IsZip h z TI TO .none ∧ IsTupOf3 h TI (.ref i1) (.ref i2) (.ref i3) ∧ (∃ x y u, IsTupOf3 h TO x y u) ∧ ItS h i1 i a ∧ ItS h i2 i b ∧ ItS h i3 i c
theorem turn_z3 {P : Program} {w : World} {K : PySem.W.Frag} {elts : List Expr} {kk : Nat} {tpos : Pos} {a b c : Src} {z TI TO i1 i2 i3 : Addr} (D : ZipSep3 z TI TO i1 i2 i3 [i1, a.at] [i2, b.at] [i3, c.at]) (n1 : a.at ≠ i1) (n2 : b.at ≠ i2) (n3 : c.at ≠ i3) :
    Turn P w K (.Tuple elts kk tpos) (ItZ3 K a b c) [z, TI, TO, i1, i2, i3] z (tnZ3 z TI TO i1 i2 i3 a b c) where
  mem := by simp
  obj := fun i h st e he => by
    obtain ⟨hz, hTI, ⟨x, y, u, hTO⟩, h1, h2, h3⟩ := st
    have e' : e = z ∨ e = TI ∨ e = TO ∨ e = i1 ∨ e = i2 ∨ e = i3 := by simpa using he
    rcases e' with q | q | q | q | q | q
    · rw [q]; exact ⟨_, hz, fun v q => nomatch q⟩
    · rw [q]; exact ⟨_, hTI, fun v q => nomatch q⟩
    · rw [q]; exact ⟨_, hTO, fun v q => nomatch q⟩
    · rw [q]; exact itS_live h1
    · rw [q]; exact itS_live h2
    · rw [q]; exact itS_live h3
  keep := fun i h h' st k => by
    obtain ⟨hz, hTI, ⟨x, y, u, hTO⟩, h1, h2, h3⟩ := st
    exact ⟨k z (by simp) _ hz, k TI (by simp) _ hTI, ⟨x, y, u, k TO (by simp) _ hTO⟩, itS_keep h1 fun o q => k i1 (by simp) o q, itS_keep h2 fun o q => k i2 (by simp) o q, itS_keep h3 fun o q => k i3 (by simp) o q⟩
  item := by
    intro X hP hw hK hc i pins s σ H E I hf st hg
    subst hP hw hK
    obtain ⟨hz, hTI, hTO, h1, h2, h3⟩ := st
    obtain ⟨xs, ys, zs, x, y, u, hqx, hqy, hqz, hx, hy, hu⟩ := hg
    obtain ⟨it1, r1, p1, _⟩ := inv_S I hqx
    obtain ⟨it2, r2, p2, _⟩ := inv_S I hqy
    obtain ⟨it3, r3, p3, _⟩ := inv_S I hqz
    have hd := I.ok.hd hc
    have G := GoesN.zip3 (elts := elts) (x1 := kk) (pos := tpos) (prog := X.prog) (w := X.w) (A := X.A) D (draws_S (prog := X.prog) (w := X.w) (A := X.A.in1) hd i1 a n1 it1.toArray) (draws_S (prog := X.prog) (w := X.w) (A := X.A.in1) hd i2 b n2 it2.toArray) (draws_S (prog := X.prog) (w := X.w) (A := X.A.in1) hd i3 c n3 it3.toArray)
    obtain ⟨v1, hv1, rv1⟩ := r1.get hx
    obtain ⟨v2, hv2, rv2⟩ := r2.get hy
    obtain ⟨v3, hv3, rv3⟩ := r3.get hu
    have l1 : i < it1.length := (List.getElem?_eq_some_iff.mp hv1).1
    have l2 : i < it2.length := (List.getElem?_eq_some_iff.mp hv2).1
    have l3 : i < it3.length := (List.getElem?_eq_some_iff.mp hv3).1
    refine G.goes i s (fun u s2 => ∃ x H', Inv X pins σ H' s2 ∧ RelV x u ∧ (ItZ3 X.K a b c).yld i H x H' ∧ tnZ3 z TI TO i1 i2 i3 a b c (i + 1) s2.heap ∧ ∀ b ∈ [z, TI, TO, i1, i2, i3], H' b = none) E (by simp; omega) ⟨hz, hTI, hTO, ⟨h1, p1⟩, ⟨h2, p2⟩, ⟨h3, p3⟩⟩ fun v h' tk hy' st' k htk => ?_
    obtain ⟨T, y1, y2, y3, rfl, hT, q1, q2, q3, hTup⟩ := hy'
    obtain ⟨hz', hTI', hTO', g1, g2, g3⟩ := st'
    have e1 : y1 = v1 := by simpa [hv1] using q1.symm
    have e2 : y2 = v2 := by simpa [hv2] using q2.symm
    have e3 : y3 = v3 := by simpa [hv3] using q3.symm
    subst e1 e2 e3
    have new : ObjOk X.prog X.w (upd H T (.tup [x, y, u])) h' T (.tup [x, y, u]) :=
      ⟨by show 3 ≤ sizeLine; decide, [y1, y2, y3], .cons rv1 (.cons rv2 (.cons rv3 .nil)), hTup⟩
    have hsub : ∀ b ∈ [z, TO, i1, i2, i3], FpOk X pins H b := fun b hb => hf b (by
      have e' : b = z ∨ b = TO ∨ b = i1 ∨ b = i2 ∨ b = i3 := by simpa using hb
      rcases e' with q | q | q | q | q <;> subst q <;> simp)
    have I1 : Inv X pins σ (upd H T (.tup [x, y, u])) { s with heap := h', toks := tk } := I.turnedNew (t' := tk) (ch := [z, TO, i1, i2, i3]) k hsub hT new
    refine ⟨.ref T, _, I1, rfl, ⟨T, x, y, u, rfl, I.hok.fresh hT, rfl, fun l hl => by rw [inj_S I hl hqx]; exact hx, fun l hl => by rw [inj_S I hl hqy]; exact hy, fun l hl => by rw [inj_S I hl hqz]; exact hu⟩, ⟨hz', hTI', hTO', g1.1, g2.1, g3.1⟩, fun e hem => ?_⟩
    have hlt : e < s.heap.objs.size := by
      obtain ⟨a1, a2, a3, hTO⟩ := hTO
      have e' : e = z ∨ e = TI ∨ e = TO ∨ e = i1 ∨ e = i2 ∨ e = i3 := by simpa using hem
      rcases e' with q | q | q | q | q | q
      · rw [q]; exact Heap.lt_size hz
      · rw [q]; exact Heap.lt_size hTI
      · rw [q]; exact Heap.lt_size hTO
      · rw [q]; obtain ⟨_, e1, _⟩ := itS_live h1; exact Heap.lt_size e1
      · rw [q]; obtain ⟨_, e1, _⟩ := itS_live h2; exact Heap.lt_size e1
      · rw [q]; obtain ⟨_, e1, _⟩ := itS_live h3; exact Heap.lt_size e1
    rw [upd_ne (Nat.ne_of_lt (Nat.lt_of_lt_of_le hlt hT))]
    exact (hf e hem).1
  done := by
    intro X hP hw hK hc i pins s σ H E I hf st hg
    subst hP hw hK
    obtain ⟨hz, hTI, ⟨a1, a2, a3, hTO⟩, h1, h2, h3⟩ := st
    obtain ⟨xs, ys, zs, hqx, hqy, hqz, g1, g2, g3, hend⟩ := hg
    obtain ⟨it1, r1, p1, _⟩ := inv_S I hqx
    obtain ⟨it2, r2, p2, _⟩ := inv_S I hqy
    obtain ⟨it3, r3, p3, _⟩ := inv_S I hqz
    have l1 := r1.length
    have l2 := r2.length
    have l3 := r3.length
    have hd := I.ok.hd hc
    have hsub : ∀ b ∈ [z, TO, i1, i2, i3], FpOk X pins H b := fun b hb => hf b (by
      have e' : b = z ∨ b = TO ∨ b = i1 ∨ b = i2 ∨ b = i3 := by simpa using hb
      rcases e' with q | q | q | q | q <;> subst q <;> simp)
    refine wpAny_pyNext_zipD3_end (i := i) D (draws_S (prog := X.prog) (w := X.w) (A := X.A.in1) hd i1 a n1 it1.toArray) (draws_S (prog := X.prog) (w := X.w) (A := X.A.in1) hd i2 b n2 it2.toArray) (draws_S (prog := X.prog) (w := X.w) (A := X.A.in1) hd i3 c n3 it3.toArray) hz hTI hTO ⟨h1, p1⟩ ⟨h2, p2⟩ ⟨h3, p3⟩ (by simp; omega) (by simp; omega) (by simp; omega) (by simp; omega) fun h' tk hk => ⟨rfl, I.turnedL (t' := tk) (ch := [z, TO, i1, i2, i3]) (fun e o hb q => ?_) hsub⟩
    exact hk e o (fun q' => hb (by simp [q'])) (fun q' => hb (by simp [q'])) (fun q' => hb (by simp [q'])) (fun q' => hb (by simp [q'])) (fun q' => hb (by simp [q'])) q
  self := fun A i s Q E st h => wpAny_pyIter_zip st.1 h
end DL

namespace DL
open PySem PySem.Spec L2
open PyProof.Rows hiding St

/-! ### many known objects tracked at once -/
def KO (a : Addr) (o : Obj) : HO := .ext fun h => h.get? a = some o
theorem ko_ok {P : Program} {w : World} {H : Hp} {h : Heap} {a : Addr} {o : Obj} (e : h.get? a = some o) : ObjOk P w H h a (KO a o) := ⟨e, ⟨_, e⟩, fun h1 h2 q k => k _ q⟩
def updKs (H : Hp) : List (Addr × Obj) → Hp
  | [] => H
  | p :: l => upd (updKs H l) p.1 (KO p.1 p.2)
theorem updKs_out {H : Hp} {b : Addr} : ∀ {l : List (Addr × Obj)}, (∀ p ∈ l, p.1 ≠ b) → updKs H l b = H b
  | [], _ => rfl
  | p :: l, h => by
    unfold updKs
    rw [upd_ne (Ne.symm (h p List.mem_cons_self)), updKs_out fun q hq => h q (List.mem_cons_of_mem _ hq)]
theorem updKs_in {H : Hp} {b : Addr} {u : HO} : ∀ {l : List (Addr × Obj)}, updKs H l b = some u → (∃ o, (b, o) ∈ l ∧ u = KO b o) ∨ H b = some u
  | [], h => .inr h
  | p :: l, h => by
    unfold updKs at h
    by_cases e : b = p.1
    · rw [e, upd_same] at h
      cases h
      exact .inl ⟨p.2, by rw [e]; exact List.mem_cons_self, by rw [e]⟩
    · rw [upd_ne e] at h
      rcases updKs_in h with ⟨o, h1, h2⟩ | h1
      · exact .inl ⟨o, List.mem_cons_of_mem _ h1, h2⟩
      · exact .inr h1
theorem updKs_get {H : Hp} {l : List (Addr × Obj)} (hn : (l.map Prod.fst).Nodup) : ∀ p ∈ l, updKs H l p.1 = some (KO p.1 p.2) := by
  induction l with
  | nil => intro p hp; cases hp
  | cons q l ih =>
    intro p hp
    rw [List.map_cons, List.nodup_cons] at hn
    show upd (updKs H l) q.1 (KO q.1 q.2) p.1 = _
    rcases List.mem_cons.mp hp with e | hp'
    · subst e
      exact upd_same
    · rw [upd_ne (fun z => hn.1 (by rw [← z]; exact List.mem_map_of_mem hp'))]
      exact ih hn.2 p hp'
def dropKs (H : Hp) : List (Addr × Obj) → Hp
  | [] => H
  | p :: l => dropKs (ItX.dropH H p.1) l
theorem dropKs_upd {H : Hp} : ∀ {l : List (Addr × Obj)}, (∀ p ∈ l, H p.1 = none) → (l.map Prod.fst).Nodup → dropKs (updKs H l) l = H
  | [], _, _ => rfl
  | p :: l, h, hn => by
    rw [List.map_cons, List.nodup_cons] at hn
    unfold dropKs updKs
    rw [ItX.dropH_upd (by rw [updKs_out fun q hq z => hn.1 (by rw [← z]; exact List.mem_map_of_mem hq)]; exact h p List.mem_cons_self)]
    exact dropKs_upd (fun q hq => h q (List.mem_cons_of_mem _ hq)) hn.2
theorem dropKs_out {b : Addr} : ∀ {H : Hp} {l : List (Addr × Obj)}, (∀ p ∈ l, p.1 ≠ b) → dropKs H l b = H b
  | _, [], _ => rfl
  | H, p :: l, h => by
    unfold dropKs
    rw [dropKs_out fun q hq => h q (List.mem_cons_of_mem _ hq), ItX.dropH_ne (Ne.symm (h p List.mem_cons_self))]
theorem dropKs_in {b : Addr} : ∀ {H : Hp} {l : List (Addr × Obj)}, H b = none ∨ (∃ p ∈ l, p.1 = b) → dropKs H l b = none
  | H, [], h => by
    rcases h with h | ⟨p, hp, _⟩
    · exact h
    · cases hp
  | H, p :: l, h => by
    unfold dropKs
    refine dropKs_in ?_
    rcases h with h | ⟨q, hq, e⟩
    · by_cases z : b = p.1
      · left; rw [z, ItX.dropH_same]
      · left; rw [ItX.dropH_ne z]; exact h
    · rcases List.mem_cons.mp hq with z | hq
      · left; rw [← e, z, ItX.dropH_same]
      · exact .inr ⟨q, hq, e⟩
section
variable {X : Cx} {pins : List (Addr × Obj)} {σ : L2.St} {H : Hp} {s : Shared}
theorem inv_laids {h' : Heap} {t' : Nat} {l : List (Addr × Obj)} (I : Inv X pins σ H s) (k : ∀ b u, s.heap.get? b = some u → h'.get? b = some u) (hl : ∀ p ∈ l, s.heap.objs.size ≤ p.1 ∧ h'.get? p.1 = some p.2) :
    Inv X pins σ (updKs H l) { s with heap := h', toks := t' } := by
  have ne : ∀ b u, s.heap.get? b = some u → ∀ p ∈ l, p.1 ≠ b := fun b u e p hp z => absurd (Heap.lt_size e) (Nat.not_lt.mpr (by rw [← z]; exact (hl p hp).1))
  have neH : ∀ b u, H b = some u → ∀ p ∈ l, p.1 ≠ b := fun b u e p hp z => by
    have q := I.hok.fresh (hl p hp).1
    rw [z, e] at q
    cases q
  have out : ∀ b u, H b = some u → updKs H l b = some u := fun b u e => by rw [updKs_out (neH b u e)]; exact e
  refine I.un ⟨fun b u q _ _ _ => k b u q, fun b u q _ _ _ => ⟨u.slots, k b u q⟩, fun b u q n _ => by rw [updKs_out (ne b u q)]; exact n, fun b u q _ => ⟨u, k b u q⟩, fun b xs q => out b _ q, fun b o u q => out b _ q, fun b ps q => ⟨#[], by rw [out b _ q]; simp⟩⟩ ?_
  intro b u e
  rcases updKs_in e with ⟨o, h1, rfl⟩ | h1
  · exact ko_ok (hl _ h1).2
  · exact (I.hok b u h1).stay (fun c v _ q => k c v q) (fun c q => out c _ q) fun c xs q => out c _ q
theorem inv_drops : ∀ {l : List (Addr × Obj)} {H : Hp}, Inv X pins σ H s → (∀ p ∈ l, H p.1 = some (KO p.1 p.2)) → (l.map Prod.fst).Nodup → Inv X pins σ (dropKs H l) s
  | [], _, I, _, _ => I
  | p :: l, H, I, h, hn => by
    rw [List.map_cons, List.nodup_cons] at hn
    unfold dropKs
    refine inv_drops (ItX.inv_drop I (h p List.mem_cons_self)) (fun q hq => ?_) hn.2
    rw [ItX.dropH_ne fun z => hn.1 (by rw [← z]; exact List.mem_map_of_mem hq)]
    exact h q (List.mem_cons_of_mem _ hq)
theorem fpOk_of {a : Addr} {u : HO} {H' : Hp} (I : Inv X pins σ H s) (h : H a = some u) (hn : X.s_0.heap.objs.size ≤ a) (h' : H' a = none) : FpOk X pins H' a :=
  ⟨h', (ItX.inv_fp I h hn).2⟩
theorem ko_get {a : Addr} {o : Obj} (I : Inv X pins σ H s) (h : H a = some (KO a o)) : s.heap.get? a = some o := (I.hok a _ h).1
end

/-! ### zip(a, b, c): walked, kept in a name -/
def zpO (TI TO : Addr) : Obj := { cls := .type "zip", dict := none, data := .fields #[.none, .bool false, .bool false, .ref TI, .ref TO], slots := #[] }
def t3O (a b c : Value) : Obj := { cls := .type "tuple", data := .seq #[a, b, c] }
def zl (N : Addr) (a b c : Src) : List (Addr × Obj) := [((N + 5 : Nat), zpO (N + 3 : Nat) (N + 4 : Nat)), ((N + 3 : Nat), t3O (.ref N) (.ref (N + 1 : Nat)) (.ref (N + 2 : Nat))), ((N + 4 : Nat), t3O .none .none .none), (N, obS 0 a), ((N + 1 : Nat), obS 0 b), ((N + 2 : Nat), obS 0 c)]
theorem zl_nodup (N : Addr) (a b c : Src) : ((zl N a b c).map Prod.fst).Nodup := by
  show ([(N + 5 : Nat), (N + 3 : Nat), (N + 4 : Nat), (N : Nat), (N + 1 : Nat), (N + 2 : Nat)] : List Nat).Nodup
  simp only [List.nodup_cons, List.mem_cons, List.not_mem_nil, or_false, not_or, List.nodup_nil, and_true, not_false_eq_true]
  refine ⟨⟨?_, ?_, ?_, ?_, ?_⟩, ⟨?_, ?_, ?_, ?_⟩, ⟨?_, ?_, ?_⟩, ⟨?_, ?_⟩, ?_⟩ <;> exact fun z => by have z' : (_ : Nat) = _ := z; omega
theorem zl_le {N : Addr} {a b c : Src} : ∀ p ∈ zl N a b c, N ≤ p.1 := fun p hp => by
  simp only [zl, List.mem_cons, List.not_mem_nil, or_false] at hp
  rcases hp with rfl | rfl | rfl | rfl | rfl | rfl
  · exact Nat.le_add_right N 5
  · exact Nat.le_add_right N 3
  · exact Nat.le_add_right N 4
  · exact Nat.le_refl N
  · exact Nat.le_add_right N 1
  · exact Nat.le_add_right N 2
theorem zl_sep {N : Addr} {a b c : Src} (h1 : a.at < N) (h2 : b.at < N) (h3 : c.at < N) : ZipSep3 (N + 5 : Nat) (N + 3 : Nat) (N + 4 : Nat) N (N + 1 : Nat) (N + 2 : Nat) [N, a.at] [(N + 1 : Nat), b.at] [(N + 2 : Nat), c.at] :=
  zip_sep3 (N := N) (fp1 := [a.at]) (fp2 := [b.at]) (fp3 := [c.at]) (fun q hq => by rw [List.mem_singleton.mp hq]; exact h1) (fun q hq => by rw [List.mem_singleton.mp hq]; exact h2) (fun q hq => by rw [List.mem_singleton.mp hq]; exact h3)
theorem zl_turn {P : Program} {w : World} {K : PySem.W.Frag} {elts : List Expr} {kk : Nat} {tpos : Pos} {N : Addr} {a b c : Src} (h1 : a.at < N) (h2 : b.at < N) (h3 : c.at < N) :
    Turn P w K (.Tuple elts kk tpos) (ItZ3 K a b c) [(N + 5 : Nat), (N + 3 : Nat), (N + 4 : Nat), N, (N + 1 : Nat), (N + 2 : Nat)] (N + 5 : Nat) (tnZ3 (N + 5 : Nat) (N + 3 : Nat) (N + 4 : Nat) N (N + 1 : Nat) (N + 2 : Nat) a b c) :=
  turn_z3 (zl_sep h1 h2 h3) (Nat.ne_of_lt h1) (Nat.ne_of_lt (Nat.lt_of_lt_of_le h2 (Nat.le_add_right _ _))) (Nat.ne_of_lt (Nat.lt_of_lt_of_le h3 (Nat.le_add_right _ _)))
theorem zl_tn {h : Heap} {N : Addr} {a b c : Src} (g : ∀ p ∈ zl N a b c, h.get? p.1 = some p.2) : tnZ3 (N + 5 : Nat) (N + 3 : Nat) (N + 4 : Nat) N (N + 1 : Nat) (N + 2 : Nat) a b c 0 h :=
  ⟨g ((N + 5 : Nat), zpO (N + 3 : Nat) (N + 4 : Nat)) (by simp [zl]), g ((N + 3 : Nat), t3O (.ref N) (.ref (N + 1 : Nat)) (.ref (N + 2 : Nat))) (by simp [zl]), ⟨_, _, _, g ((N + 4 : Nat), t3O .none .none .none) (by simp [zl])⟩,
    itS_of (g (N, obS 0 a) (by simp [zl])), itS_of (g ((N + 1 : Nat), obS 0 b) (by simp [zl])), itS_of (g ((N + 2 : Nat), obS 0 c) (by simp [zl]))⟩
def three (K : PySem.W.Frag) (vs : List V) (H : Hp) (a b c : Src) : Prop := ∃ xs ys zs : List V, vs = [.ref a.at, .ref b.at, .ref c.at] ∧ SqS K H a xs ∧ SqS K H b ys ∧ SqS K H c zs
def iZip3 (K : PySem.W.Frag) (ta : TA) : TI := fun σ H R => ta σ H fun vs H1 => ∃ a b c, three K vs H1 a b c ∧ R (ItZ3 K a b c) H1
def tZipV (K : PySem.W.Frag) (n : Nat) (ta : TA) : TE := fun σ H Q => ta σ H fun vs H1 => ∃ a b c, three K vs H1 a b c ∧ ∀ N : Addr, (∀ p ∈ zl N a b c, H1 p.1 = none) → n ≤ N → a.at < N → b.at < N → c.at < N → Q (.ref (N + 5 : Nat)) (updKs H1 (zl N a b c))
def iZv (K : PySem.W.Frag) (n k : Nat) : TI := fun σ H R => ∃ (N : Addr) (a b c : Src), σ[k]? = some (some (.ref (N + 5 : Nat))) ∧ (∀ p ∈ zl N a b c, H p.1 = some (KO p.1 p.2)) ∧ n ≤ N ∧ a.at < N ∧ b.at < N ∧ c.at < N ∧ R (ItZ3 K a b c) (dropKs H (zl N a b c))
section
variable {X : Cx} {e1 e2 e3 : Expr} {ta : TA} {p pos tpos : Pos} {elts : List Expr} {kk : Nat}
theorem zip_core {pins : List (Addr × Obj)} {σ : L2.St} {H1 : Hp} {s1 : Shared} {us : List Value} {vs : List V} {a b c : Src} (I1 : Inv X pins σ H1 s1) (r1 : Vals vs us) (q : three X.K vs H1 a b c) {A : Around} {E : Value → Shared → Prop} {Q : Value → Shared → Prop}
    (h : ∀ h' : Heap, (∀ p ∈ zl s1.heap.objs.size a b c, h'.get? p.1 = some p.2) → (∀ c o, s1.heap.get? c = some o → h'.get? c = some o) → a.at < s1.heap.objs.size → b.at < s1.heap.objs.size → c.at < s1.heap.objs.size → Q (.ref (s1.heap.objs.size + 5 : Nat)) { s1 with heap := h' }) :
    wpAny (model X.prog X.w) A (call (.type "zip") us) Q E s1 := by
  obtain ⟨xs, ys, zs, rfl, hx, hy, hz⟩ := q
  cases r1 with
  | cons r1 rr =>
    cases rr with
    | cons r2 rr =>
      cases rr with
      | cons r3 rr =>
        cases rr
        cases r1
        cases r2
        cases r3
        obtain ⟨i1, _, p1, l1⟩ := inv_S I1 hx
        obtain ⟨i2, _, p2, l2⟩ := inv_S I1 hy
        obtain ⟨i3, _, p3, l3⟩ := inv_S I1 hz
        refine zip_begins3 (begins_S a i1.toArray) (begins_S b i2.toArray) (begins_S c i3.toArray) p1 p2 p3 fun h' hz hTI hTO g1 g2 g3 hsz hk => ?_
        refine h h' (fun q hq => ?_) hk l1 l2 l3
        simp only [zl, List.mem_cons, List.not_mem_nil, or_false] at hq
        rcases hq with rfl | rfl | rfl | rfl | rfl | rfl
        · exact hz
        · exact hTI
        · exact hTO
        · exact g1
        · exact g2
        · exact g3
theorem pi_zip3 (hg : Gl X "zip") (hm : X.mg "zip" = none) (ha : PA X [e1, e2, e3] ta)
    (hs : starEach [e1, e2, e3] X.env = (false, eval e1 X.env) :: starEach [e2, e3] X.env := by rfl) (hpl : (backTo pos (starEach [e2, e3] X.env)).any (·.1) = false := by rfl) :
    PI X (.Tuple elts kk tpos) (.Call (.Name "zip" p) [e1, e2, e3] [] pos) (iZip3 X.K ta) := by
  refine ⟨fun pins s σ H R I h => ?_⟩
  refine Call_ (ld_blt I hg hm PyProof.Rows.boot_zip (PyProof.Rows.callWith_type1 (thn (ha.run pos pins s σ H _ I h) fun us s1 ⟨vs, H1, I1, r1, q1⟩ => ?_) hs hpl))
  obtain ⟨a, b, c, q1, q⟩ := q1
  refine zip_core I1 r1 q1 fun h' g hk l1 l2 l3 => ?_
  have st := zl_tn g
  refine wpAny_pyIter_zip st.1 ?_
  refine ⟨_, [(s1.heap.objs.size + 5 : Nat), (s1.heap.objs.size + 3 : Nat), (s1.heap.objs.size + 4 : Nat), s1.heap.objs.size, (s1.heap.objs.size + 1 : Nat), (s1.heap.objs.size + 2 : Nat)], _, _, H1, rfl, I1.kept (t' := s1.toks) hk, zl_turn l1 l2 l3, st, fun d hd => ?_, q⟩
  have hle : s1.heap.objs.size ≤ d := by
    have e' : d = s1.heap.objs.size + 5 ∨ d = s1.heap.objs.size + 3 ∨ d = s1.heap.objs.size + 4 ∨ d = s1.heap.objs.size ∨ d = s1.heap.objs.size + 1 ∨ d = s1.heap.objs.size + 2 := by simpa using hd
    rcases e' with z | z | z | z | z | z
    · rw [z]; exact Nat.le_add_right _ _
    · rw [z]; exact Nat.le_add_right _ _
    · rw [z]; exact Nat.le_add_right _ _
    · rw [z]; exact Nat.le_refl _
    · rw [z]; exact Nat.le_add_right _ _
    · rw [z]; exact Nat.le_add_right _ _
  exact I1.fpOk hle (I1.hok.fresh hle)
theorem pe_zipV (hg : Gl X "zip") (hm : X.mg "zip" = none) (ha : PA X [e1, e2, e3] ta)
    (hs : starEach [e1, e2, e3] X.env = (false, eval e1 X.env) :: starEach [e2, e3] X.env := by rfl) (hpl : (backTo pos (starEach [e2, e3] X.env)).any (·.1) = false := by rfl) :
    PE X (.Call (.Name "zip" p) [e1, e2, e3] [] pos) (tZipV X.K X.s_0.heap.objs.size ta) := by
  refine ⟨fun pins s σ H R I h => ?_⟩
  refine Call_ (ld_blt I hg hm PyProof.Rows.boot_zip (PyProof.Rows.callWith_type1 (thn (ha.run pos pins s σ H _ I h) fun us s1 ⟨vs, H1, I1, r1, q1⟩ => ?_) hs hpl))
  obtain ⟨a, b, c, q1, q⟩ := q1
  refine zip_core I1 r1 q1 fun h' g hk l1 l2 l3 => ?_
  exact ⟨.ref _, _, inv_laids (t' := s1.toks) I1 hk fun p hp => ⟨zl_le p hp, g p hp⟩, rfl, q _ (fun p hp => I1.hok.fresh (zl_le p hp)) I1.sz l1 l2 l3⟩
theorem pi_zv {k : Nat} {x : Str} (hN : X.N[k]? = some x) (hv : Vis X.env.scope x) (hd : (x == ("__debug__" : Str)) = false := by decide) (hcd : (x == ("__classdict__" : Str)) = false := by decide) : PI X (.Tuple elts kk tpos) (.Name x p) (iZv X.K X.s_0.heap.objs.size k) := by
  refine ⟨fun pins s σ H R I h => ?_⟩
  obtain ⟨N, a, b, c, hs, hi, hn, l1, l2, l3, q⟩ := h
  refine thn ((pe_var (pos := p) (i := k) hN hv hd hcd).run pins s σ H (fun v H1 => v = .ref (N + 5 : Nat) ∧ H1 = H) I ⟨.ref _, hs, rfl, rfl⟩) fun u s1 ⟨v, H1, I1, r1, ev, eH⟩ => ?_
  subst ev
  rw [eH] at I1
  cases r1
  have st := zl_tn (h := s1.heap) (N := N) (a := a) (b := b) (c := c) fun p hp => ko_get I1 (hi p hp)
  refine wpAny_pyIter_zip st.1 ?_
  refine ⟨_, [(N + 5 : Nat), (N + 3 : Nat), (N + 4 : Nat), N, (N + 1 : Nat), (N + 2 : Nat)], _, _, _, rfl, inv_drops I1 hi (zl_nodup N a b c), zl_turn l1 l2 l3, st, fun d hd => ?_, q⟩
  have hm : ∃ p ∈ zl N a b c, p.1 = d := by
    have e' : d = N + 5 ∨ d = N + 3 ∨ d = N + 4 ∨ d = N ∨ d = N + 1 ∨ d = N + 2 := by simpa using hd
    rcases e' with z | z | z | z | z | z <;> rw [z] <;> simp [zl]
  obtain ⟨p, hp, rfl⟩ := hm
  exact fpOk_of I1 (hi p hp) (Nat.le_trans hn (zl_le p hp)) (dropKs_in (.inr ⟨p, hp, rfl⟩))
end
end DL

namespace DL
open PySem PySem.Spec L2
open PyProof.Rows hiding St

def zip3D : List D → List D → List D → List D
  | d :: ds, e :: es, f :: fs => .tup [d, e, f] :: zip3D ds es fs
  | _, _, _ => []
theorem zip3D_get : ∀ {ds es fs : List D} {i : Nat} {x : D}, (zip3D ds es fs)[i]? = some x → ∃ d e f, ds[i]? = some d ∧ es[i]? = some e ∧ fs[i]? = some f ∧ x = .tup [d, e, f]
  | d :: ds, e :: es, f :: fs, 0, x, h => by
    unfold zip3D at h
    simp at h
    exact ⟨d, e, f, rfl, rfl, rfl, h.symm⟩
  | d :: ds, e :: es, f :: fs, i + 1, x, h => by
    unfold zip3D at h
    simp only [List.getElem?_cons_succ] at h ⊢
    exact zip3D_get h
  | [], _, _, _, _, h => by unfold zip3D at h; simp at h
  | _ :: _, [], _, _, _, h => by unfold zip3D at h; simp at h
  | _ :: _, _ :: _, [], _, _, h => by unfold zip3D at h; simp at h
theorem zip3D_len : ∀ (ds es fs : List D), (zip3D ds es fs).length ≤ ds.length ∧ (zip3D ds es fs).length ≤ es.length ∧ (zip3D ds es fs).length ≤ fs.length ∧ ((zip3D ds es fs).length = ds.length ∨ (zip3D ds es fs).length = es.length ∨ (zip3D ds es fs).length = fs.length)
  | d :: ds, e :: es, f :: fs => by
    unfold zip3D
    have := zip3D_len ds es fs
    simp only [List.length_cons]
    omega
  | [], _, _ => by unfold zip3D; simp
  | _ :: _, [], _ => by unfold zip3D; simp
  | _ :: _, _ :: _, [] => by unfold zip3D; simp
def seqD : AV → Option (List D)
  | .im (.lst ds) => some ds
  | .im (.tup ds) => some ds
  | _ => none
section
variable {K : PySem.W.Frag} {F H : Hp}
theorem Ex.s {S : Src} {xs : List V} (e : Ex F H) (h : SqS K F S xs) : SqS K H S xs := by
  cases S with
  | L a => exact e.l h
  | T a => exact e.t h
theorem seqD_src {σ : L2.St} {v : V} {x : AV} {ds : List D} (r : RpV K F σ v x) (h : seqD x = some ds) : ∃ S xs, v = .ref S.at ∧ SqS K F S xs ∧ RpA K F xs ds := by
  unfold seqD at h
  split at h
  · cases h
    cases (show Rp K F v (.lst ds) from r) with
    | lst h1 h2 => exact ⟨.L _, _, rfl, SqL.of h1, h2⟩
  · cases h
    cases (show Rp K F v (.tup ds) from r) with
    | tup h1 h2 => exact ⟨.T _, _, rfl, h1, h2⟩
  · cases h
theorem walks_z3 {a b c : Src} {xs ys zs : List V} {ds es fs : List D} (h1 : SqS K F a xs) (h2 : SqS K F b ys) (h3 : SqS K F c zs) (r1 : RpA K F xs ds) (r2 : RpA K F ys es) (r3 : RpA K F zs fs) : Walks K (ItZ3 K a b c) F (zip3D ds es fs) where
  go := fun i H hi e => by
    obtain ⟨d, e', f, g1, g2, g3, _⟩ := zip3D_get (List.getElem?_eq_getElem hi)
    obtain ⟨x, hx, _⟩ := r1.get g1
    obtain ⟨y, hy, _⟩ := r2.get g2
    obtain ⟨z, hz, _⟩ := r3.get g3
    exact ⟨xs, ys, zs, x, y, z, e.s h1, e.s h2, e.s h3, hx, hy, hz⟩
  yld := fun i H x H' d hd e y F1 e1 e2 => by
    obtain ⟨T, x', y', z', rfl, hT, rfl, q1, q2, q3⟩ := y
    obtain ⟨dd, ee, ff, g1, g2, g3, rfl⟩ := zip3D_get hd
    obtain ⟨x2, hx, rx⟩ := r1.get g1
    obtain ⟨y2, hy, ry⟩ := r2.get g2
    obtain ⟨z2, hz, rz⟩ := r3.get g3
    have p1 := q1 xs (e.s h1)
    have p2 := q2 ys (e.s h2)
    have p3 := q3 zs (e.s h3)
    rw [hx] at p1
    rw [hy] at p2
    rw [hz] at p3
    cases p1
    cases p2
    cases p3
    have kf := KF.put (o := .tup [x', y', z']) e2 hT
    refine ⟨_, kf, .tup (.inl (Rd.of upd_same)) (.cons ?_ (.cons ?_ (.cons ?_ .nil)))⟩
    · exact (rx.mono e1).mono kf.f
    · exact (ry.mono e1).mono kf.f
    · exact (rz.mono e1).mono kf.f
  stop := fun H e => by
    have l := zip3D_len ds es fs
    have l1 := r1.length
    have l2 := r2.length
    have l3 := r3.length
    exact ⟨xs, ys, zs, e.s h1, e.s h2, e.s h3, by omega, by omega, by omega, by omega⟩
def aZ3 (as : List AV) : Option (List D) := match as with
  | [x, y, z] => match seqD x, seqD y, seqD z with
    | some ds, some es, some fs => some (zip3D ds es fs)
    | _, _, _ => none
  | _ => none
def aZip3 (aa : AA) : AI := fun ρ k => aa ρ fun as ρ1 => match aZ3 as with
  | some zs => k zs ρ1
  | none => False
theorem aZ3_ok {σ : L2.St} {vs : List V} {as : List AV} {zs : List D} (ex : Ex F H) (r : RpVs K F σ vs as) (h : aZ3 as = some zs) : ∃ a b c, three K vs H a b c ∧ Walks K (ItZ3 K a b c) F zs := by
  unfold aZ3 at h
  split at h
  · rename_i x y z
    split at h
    · rename_i ds es fs e1 e2 e3
      cases h
      match vs, r with
      | [v1, v2, v3], r =>
        obtain ⟨r1, r2, r3, _⟩ := r
        obtain ⟨a, xs, rfl, h1, g1⟩ := seqD_src r1 e1
        obtain ⟨b, ys, rfl, h2, g2⟩ := seqD_src r2 e2
        obtain ⟨c, zs, rfl, h3, g3⟩ := seqD_src r3 e3
        exact ⟨a, b, c, ⟨xs, ys, zs, rfl, ex.s h1, ex.s h2, ex.s h3⟩, walks_z3 h1 h2 h3 g1 g2 g3⟩
      | [], r => exact r.elim
      | [_], r => exact r.2.elim
      | [_, _], r => exact r.2.2.elim
      | _ :: _ :: _ :: _ :: _, r => exact r.2.2.2.elim
    · cases h
  · cases h
theorem lk_zip3 {ta : TA} {aa : AA} (ha : LkA K ta aa) : LkI K (iZip3 K ta) (aZip3 aa) := by
  intro ρ k hk σ F H O s R hq
  refine ha ρ _ hk σ F H O s _ fun vs as ρ1 F1 H1 k1 s1 r1 h1 => ?_
  split at h1
  · rename_i zs q
    obtain ⟨a, b, c, t, wk⟩ := aZ3_ok s1.ex r1 q
    exact ⟨a, b, c, t, hq _ zs ρ1 F1 H1 k1 s1 wk h1⟩
  · exact h1.elim

/-! pairs = zip(a, b, c); xs.append(tuple([.. for .. in pairs])) -/
abbrev zE (K : PySem.W.Frag) (j : Nat) (wi : TI) (g : TG) (tt : TT) (te : TE) (vs : List Nat) : TE := tBM K "list" rAppend (tVar j) (tCons (tCB (rTup1 K) (tCons (tLc wi g tt te vs) tNil)) tNil)
def aZipTwo (aa : AA) (k j : Nat) (ag : AG) (at_ : AT) (ae : AE) (vs : List Nat) : AS := fun A ρ => isOw ρ k = false ∧ isOl ρ j = true ∧ aa ρ fun as ρ1 => match aZ3 as with
  | some zs => k < ρ1.length ∧ isOl (ρ1.set k .un) j = true ∧ aLc (fun ρ kk => kk zs ρ) ag at_ ae vs (ρ1.set k .un) fun ds ρ2 => match ρ2[j]? with
    | some (.ow (.ol xs)) => xs.length < 1000000 ∧ A.nx (ρ2.set j (.ow (.ol (xs ++ [.tup ds]))))
    | _ => False
  | none => False
theorem Sl.setUn {ρ : AR} {σ : L2.St} {O : Addr → Prop} (s : Sl K F H ρ σ O) (k : Nat) (v : V) : Sl K F H (ρ.set k .un) (σ.set k (some v)) O where
  len := by rw [List.length_set, List.length_set, s.len]
  im := fun i d h => by
    rcases set_get h with ⟨_, q⟩ | ⟨n, q⟩
    · cases q
    · obtain ⟨u, h1, h2⟩ := s.im i d q
      exact ⟨u, by rw [List.getElem?_set_ne (Ne.symm n)]; exact h1, h2⟩
  ow := fun i c h => by
    rcases set_get h with ⟨_, q⟩ | ⟨n, q⟩
    · cases q
    · obtain ⟨p, h1, h2⟩ := s.ow i c q
      exact ⟨p, by rw [List.getElem?_set_ne (Ne.symm n)]; exact h1, h2⟩
  ap := fun i j c c' p hij h h' g g' => by
    rcases set_get h with ⟨_, q⟩ | ⟨n, q⟩
    · cases q
    · rcases set_get h' with ⟨_, q'⟩ | ⟨n', q'⟩
      · cases q'
      · rw [List.getElem?_set_ne (Ne.symm n)] at g
        rw [List.getElem?_set_ne (Ne.symm n')] at g'
        exact s.ap i j c c' p hij q q' g g'
  ex := s.ex
  fo := s.fo
theorem updKs_ex {l : List (Addr × Obj)} (h : ∀ p ∈ l, H p.1 = none) : Ex H (updKs H l) := fun a o e => by
  rw [updKs_out fun p hp z => by rw [← z, h p hp] at e; cases e]
  exact e
theorem lk_zipTwo {W : WX'} {n k j : Nat} {ta : TA} {aa : AA} {g : TG} {ag : AG} {tt : TT} {at_ : AT} {te : TE} {ae : AE} {vs B : List Nat} (ha : LkA K ta aa) (hg : LkG K g ag B) (ht : LkT K tt at_) (he : LkE K te ae) (hB : ∀ i ∈ B, i ∈ vs) :
    LkS K W (tSeq (tAsg (tZipV K n ta) (gName k)) (tDrop (zE K j (iZv K n k) g tt te vs))) (aZipTwo aa k j ag at_ ae vs) [k] := by
  intro A ρ h σ F H O s B' Dn hBk bd
  obtain ⟨hno, hoj, h⟩ := h
  refine ha ρ _ h σ F H O s _ fun us as ρ1 F1 H1 k1 s1 r1 h1 => ?_
  split at h1
  · rename_i zs q
    obtain ⟨hno1, hoj1, h1⟩ := h1
    obtain ⟨a, b, c, t3, wk⟩ := aZ3_ok s1.ex r1 q
    refine ⟨a, b, c, t3, fun N hN hn l1 l2 l3 => ?_⟩
    have su := s1.setUn k (.ref (N + 5 : Nat))
    obtain ⟨dj, hcj⟩ := isOl_get hoj1
    obtain ⟨pj, g1, g2, xsj, g3', _⟩ := su.ow j _ hcj
    have hk : k < σ.length := by rw [← s1.len]; exact hno1
    have exU := updKs_ex hN
    refine ⟨.ref pj, g1, .inl ⟨rfl, xsj, exU.l (SqL.of g3')⟩, ?_⟩
    refine ⟨N, a, b, c, List.getElem?_set_self hk, updKs_get (zl_nodup N a b c), hn, l1, l2, l3, ?_⟩
    rw [dropKs_upd hN (zl_nodup N a b c)]
    have go : tLc (fun _ H R => R (ItZ3 K a b c) H) g tt te vs (σ.set k (some (.ref (N + 5 : Nat)))) H1 (fun y H2 => rTup1 K [y] H2 fun x H3 => rAppend (.ref pj) [x] H3 fun _ H4 => Dn.nx (σ.set k (some (.ref (N + 5 : Nat)))) H4) := ?_
    · exact go
    refine lc_at hg ht he hB su wk h1 _ fun p xs ds ρ2 F2 H2 k2 s2 hp fp nO h0 rd h2 => ?_
    refine ⟨p, xs, rfl, .inl ⟨SqL.of hp, fun l hl => ?_⟩⟩
    split at h2
    · rename_i xs0 q2
      obtain ⟨hz, h2⟩ := h2
      have kf : KF F2 H2 (upd F2 l (.tup xs)) (upd H2 l (.tup xs)) := KF.put s2.ex hl
      have s3 := s2.kf kf
      obtain ⟨p', e1, e2, ys, e3, e4⟩ := s3.ow j _ q2
      rw [g1] at e1
      cases e1
      have rt : Rp K (upd F2 l (.tup xs)) (.ref l) (.tup ds) := .tup (.inl (.inl upd_same)) (rd.mono kf.f)
      refine ⟨pj, ys, .ref l, rfl, rfl, e3, by rw [e4.length]; exact szl hz, ?_⟩
      refine bd.nx _ _ _ _ O (((k1.trans k2).trans kf.kp).trans (Kp.write e2)) (s3.write (c' := .ol (xs0 ++ [.tup ds])) q2 g1 ⟨ys ++ [.ref l], upd_same, e4.append (.cons rt .nil)⟩) (Keep.set (hBk k List.mem_cons_self)) h2
    · exact h2.elim
  · exact h1.elim
end
section
variable {X : Cx} {K : PySem.W.Frag} {W : WX'}
theorem gi_zip3 {e1 e2 e3 : Expr} {ta : TA} {aa : AA} {p pos tpos : Pos} {elts : List Expr} {kk : Nat} (Bn : Bt X.mg) (ha : GA X [e1, e2, e3] ta aa) (hg : Gl X "zip" := by rfl)
    (hs : starEach [e1, e2, e3] X.env = (false, eval e1 X.env) :: starEach [e2, e3] X.env := by rfl) (hpl : (backTo pos (starEach [e2, e3] X.env)).any (·.1) = false := by rfl) (hK : X.K = K := by rfl) :
    GI X (.Tuple elts kk tpos) (.Call (.Name "zip" p) [e1, e2, e3] [] pos) (iZip3 K ta) (aZip3 aa) := by
  subst hK
  exact ⟨pi_zip3 hg Bn.zip ha.pa hs hpl, lk_zip3 ha.lk⟩
theorem gss_zip2e {e1 e2 e3 : Expr} {ta : TA} {aa : AA} {zp zpos : Pos} {k j : Nat} {y x : Str} {py py2 : Pos} {spos : Pos} {xp apos cpos tp tcp spos2 : Pos} {elt : Expr} {ifs : List Expr} {scope : Scope} {own : List (Str × Nat)} {lpos : Pos} {elts : List Expr} {kk : Nat} {tpos : Pos}
    {g : TG} {ag : AG} {tt : TT} {at_ : AT} {te : TE} {ae : AE} {B : List Nat} (hc : X.calm = true) (hN : X.N.Nodup) (Bn : Bt X.mg) (ha : GA X [e1, e2, e3] ta aa) (ok : BlkOk X.N X.env.scope scope own)
    (hg : ∀ (s : Shared) (H : Hp) (C : Addr) (cl : List (Str × Addr)) (fp : List Addr), GG (X.blk s H scope (compEnvC scope cl C X.env) fp) (.Tuple elts kk tpos) g ag B) (ht : ∀ (s : Shared) (H : Hp) (C : Addr) (cl : List (Str × Addr)) (fp : List Addr), GTs (X.blk s H scope (compEnvC scope cl C X.env) fp) ifs tt at_)
    (he : ∀ (s : Shared) (H : Hp) (C : Addr) (cl : List (Str × Addr)) (fp : List Addr), GE (X.blk s H scope (compEnvC scope cl C X.env) fp) elt te ae) (hB : ∀ i ∈ B, i ∈ own.map (·.2) := by decide) (hs : ∀ x, foldedSetIterable (.Name y py2) X.env x = pure x := by intro _; rfl)
    (hgz : Gl X "zip" := by rfl) (hsz : starEach [e1, e2, e3] X.env = (false, eval e1 X.env) :: starEach [e2, e3] X.env := by rfl) (hplz : (backTo zpos (starEach [e2, e3] X.env)).any (·.1) = false := by rfl)
    (hi : X.N[k]? = some y := by rfl) (hx : Loc X.env.scope y := by first | exact .inl rfl | exact .inr rfl) (hsw : swapsWith (.Call (.Name "zip" zp) [e1, e2, e3] [] zpos) (some (.Name y py)) spos.line X.env = pure false := by rfl) (hf : X.fn y = true ∨ X.env.scope.names.lookup y = some .local := by first | exact .inl rfl | exact .inr rfl | assumption)
    (hvy : Vis X.env.scope y := by first | exact Or.inl rfl | exact Or.inr (Or.inl rfl) | exact Or.inr (Or.inr rfl)) (hdy : (y == ("__debug__" : Str)) = false := by decide) (hcy : (y == ("__classdict__" : Str)) = false := by decide)
    (hgt : Gl X "tuple" := by rfl) (hst : starEach (.ListComp elt [⟨.Tuple elts kk tpos, .Name y py2, ifs, 0⟩] scope lpos :: []) X.env = (false, eval (.ListComp elt [⟨.Tuple elts kk tpos, .Name y py2, ifs, 0⟩] scope lpos) X.env) :: starEach [] X.env := by rfl) (hplt : (backTo tcp (starEach [] X.env)).any (·.1) = false := by rfl)
    (hj : X.N[j]? = some x := by rfl) (hv : Vis X.env.scope x := by first | exact Or.inl rfl | exact Or.inr (Or.inl rfl) | exact Or.inr (Or.inr rfl)) (hd : (x == ("__debug__" : Str)) = false := by decide) (hcd : (x == ("__classdict__" : Str)) = false := by decide)
    (hbase : attributeBase (.Name x xp) "append" X.env (eval (.Name x xp) X.env) = eval (.Name x xp) X.env := by rfl)
    (hfew : ((backTo cpos (starEach [Expr.Call (.Name "tuple" tp) [.ListComp elt [⟨.Tuple elts kk tpos, .Name y py2, ifs, 0⟩] scope lpos] [] tcp] X.env)).all (fun x => !x.1) && (backToKw cpos (keywordEach [] X.env)).all (fun x => x.1.isSome)
      && decide ([Expr.Call (.Name "tuple" tp) [.ListComp elt [⟨.Tuple elts kk tpos, .Name y py2, ifs, 0⟩] scope lpos] [] tcp].length + ([] : List Keyword).length + (if ([] : List Keyword).isEmpty then 0 else 1) < 30)) = true := by rfl)
    (hline : (apos.endLine == cpos.line) = true := by rfl) (hsa : starEach (Expr.Call (.Name "tuple" tp) [.ListComp elt [⟨.Tuple elts kk tpos, .Name y py2, ifs, 0⟩] scope lpos] [] tcp :: []) X.env = (false, eval (Expr.Call (.Name "tuple" tp) [.ListComp elt [⟨.Tuple elts kk tpos, .Name y py2, ifs, 0⟩] scope lpos] [] tcp) X.env) :: starEach [] X.env := by rfl) (hpla : (backTo cpos (starEach [] X.env)).any (·.1) = false := by rfl)
    (hsx : swapsWith (.Call (.Attribute (.Name x xp) "append" apos) [Expr.Call (.Name "tuple" tp) [.ListComp elt [⟨.Tuple elts kk tpos, .Name y py2, ifs, 0⟩] scope lpos] [] tcp] [] cpos) none spos2.line X.env = pure false := by rfl) :
    GSs X W [.Assign [.Name y py] (.Call (.Name "zip" zp) [e1, e2, e3] [] zpos) spos, .Expr (.Call (.Attribute (.Name x xp) "append" apos) [.Call (.Name "tuple" tp) [.ListComp elt [⟨.Tuple elts kk tpos, .Name y py2, ifs, 0⟩] scope lpos] [] tcp] [] cpos) spos2]
      (tSeq (tAsg (tZipV X.K X.s_0.heap.objs.size ta) (gName k)) (tDrop (zE X.K j (iZv X.K X.s_0.heap.objs.size k) g tt te (own.map (·.2))))) (aZipTwo aa k j ag at_ ae (own.map (·.2))) [k] := by
  have p1 := ps_set (pos := spos) (pos' := py) hN hi hx (pe_zipV (p := zp) (pos := zpos) hgz Bn.zip ha.pa hsz hplz) hsw hf
  have pl := pe_lc (pos := lpos) hc hN (pi_zv (p := py2) (elts := elts) (kk := kk) (tpos := tpos) hi hvy hdy hcy) ok (fun s H C cl fp => (hg s H C cl fp).pg) (fun s H C cl fp => (ht s H C cl fp).pt) (fun s H C cl fp => (he s H C cl fp).pe) hs
  have pt := pe_callTy (pos := tcp) (p := tp) call_tuple_of hgt Bn.tuple (by decide +kernel) (pa_cons pl pa_nil hst) (by decide) (by decide) hst hplt
  have p2 := ps_expr (pos := spos2) (pe_bm PySem.F.plainAttrs_list PySem.F.slot_list_append PySem.F.type_list_append mt_append (pe_var hj hv hd hcd) (pa_cons pt pa_nil hsa) hbase hfew hline hsa hpla) hsx
  exact ⟨pss_cons p1 (pss_one p2), lk_zipTwo ha.lk (hg {} (fun _ => none) 0 [] []).lk (ht {} (fun _ => none) 0 [] []).lk (he {} (fun _ => none) 0 [] []).lk hB⟩
end
end DL

namespace DL
open PySem PySem.Spec L2
open PyProof.Rows hiding St
/-! ### a list of lists made row by row, one cell written again, frozen then -/
structure Nst (K : PySem.W.Frag) (F H : Hp) (O : Addr → Prop) (p : Addr) (qs : List Addr) (g : List (List D)) : Prop where
  hp : H p = some (.lst (qs.map V.ref))
  fp : F p = none
  np : ¬ O p
  len : qs.length = g.length
  nd : qs.Nodup
  pq : p ∉ qs
  q : ∀ q ∈ qs, F q = none ∧ ¬ O q
  row : ∀ (n : Nat) (q : Addr) (ds : List D), qs[n]? = some q → g[n]? = some ds → ∃ xs, H q = some (.lst xs) ∧ RpA K F xs ds
section
variable {K : PySem.W.Frag} {F H F' H' : Hp} {O O' : Addr → Prop} {p : Addr} {qs : List Addr} {g : List (List D)}
theorem kp_none {a : Addr} {o : HO} (k : Kp O F H O' F' H') (h : H a = some o) (fa : F a = none) (na : ¬ O a) : H' a = some o ∧ F' a = none ∧ ¬ O' a := by
  refine ⟨k.h1 a o h na, ?_, fun z => ?_⟩
  · cases e : F' a with
    | none => rfl
    | some u =>
      rcases k.h3 a u e with z | z | z
      · rw [fa] at z; cases z
      · exact (na z).elim
      · rw [h] at z; cases z
  · rcases k.h4 a z with z | z
    · exact na z
    · rw [h] at z; cases z
theorem Nst.kp (t : Nst K F H O p qs g) (k : Kp O F H O' F' H') : Nst K F' H' O' p qs g := by
  obtain ⟨a1, a2, a3⟩ := kp_none k t.hp t.fp t.np
  have qq : ∀ (n : Nat) (q : Addr), qs[n]? = some q → ∃ ds xs, g[n]? = some ds ∧ H q = some (.lst xs) ∧ RpA K F xs ds ∧ H' q = some (.lst xs) ∧ F' q = none ∧ ¬ O' q := fun n q hq => by
    have hn : n < g.length := by rw [← t.len]; exact get_lt hq
    obtain ⟨xs, e1, e2⟩ := t.row n q g[n] hq (List.getElem?_eq_getElem hn)
    obtain ⟨f1, f2⟩ := t.q q (List.mem_of_getElem? hq)
    obtain ⟨b1, b2, b3⟩ := kp_none k e1 f1 f2
    exact ⟨_, xs, List.getElem?_eq_getElem hn, e1, e2, b1, b2, b3⟩
  refine ⟨a1, a2, a3, t.len, t.nd, t.pq, fun q hq => ?_, fun n q ds hq hd => ?_⟩
  · obtain ⟨n, hn⟩ := List.mem_iff_getElem?.mp hq
    obtain ⟨_, _, _, _, _, _, b2, b3⟩ := qq n q hn
    exact ⟨b2, b3⟩
  · obtain ⟨ds', xs, e0, _, e2, b1, _, _⟩ := qq n q hq
    rw [hd] at e0
    cases e0
    exact ⟨xs, b1, e2.mono k.h2⟩
theorem Kp.wr {a : Addr} {o : HO} (k : Kp O F H O' F' H') (h : O a ∨ H a = none) : Kp O F H O' F' (upd H' a o) :=
  ⟨fun b u e n => by
    rw [upd_ne (show b ≠ a from fun z => by
      subst z
      rcases h with h | h
      · exact n h
      · rw [h] at e; cases e)]
    exact k.h1 b u e n, k.h2, k.h3, k.h4⟩
theorem RpA.of_get : ∀ {vs : List V} {ds : List D}, vs.length = ds.length → (∀ (n : Nat) (v : V) (d : D), vs[n]? = some v → ds[n]? = some d → Rp K F v d) → RpA K F vs ds
  | [], [], _, _ => .nil
  | v :: vs, d :: ds, hl, h => .cons (h 0 v d rfl rfl) (RpA.of_get (by simpa using hl) fun n v' d' h1 h2 => h (n + 1) v' d' (by simpa using h1) (by simpa using h2))
  | [], _ :: _, hl, _ => by cases hl
  | _ :: _, [], hl, _ => by cases hl
theorem Sl.grow {ρ : AR} {σ : L2.St} (s : Sl K F H ρ σ O) (e : Ex F F') (x : Ex F' H) (fo : ∀ a, O a → F' a = none) : Sl K F' H ρ σ O where
  len := s.len
  im := fun i d h => by
    obtain ⟨v, h1, h2⟩ := s.im i d h
    exact ⟨v, h1, h2.mono e⟩
  ow := fun i c h => by
    obtain ⟨q, h1, h2, h3⟩ := s.ow i c h
    exact ⟨q, h1, h2, h3.mono e rfl⟩
  ap := s.ap
  ex := x
  fo := fun a h => ⟨fo a h, (s.fo a h).2⟩
/-- all of it frozen -/
theorem Nst.freeze {ρ : AR} {σ : L2.St} (t : Nst K F H O p qs g) (s : Sl K F H ρ σ O) : ∃ F2, Sl K F2 H ρ σ O ∧ Ex F F2 ∧ (∀ a o, F2 a = some o → F a = some o ∨ a = p ∨ a ∈ qs) ∧ Rp K F2 (.ref p) (.lst (g.map D.lst)) := by
  let F2 : Hp := fun a => if a = p then some (.lst (qs.map V.ref)) else if a ∈ qs then H a else F a
  have f1 : F2 p = some (.lst (qs.map V.ref)) := if_pos rfl
  have f2 : ∀ a ∈ qs, F2 a = H a := fun a ha => by
    show (if a = p then _ else _) = _
    rw [if_neg (fun z => t.pq (by rw [← z]; exact ha)), if_pos ha]
  have f3 : ∀ a, a ≠ p → a ∉ qs → F2 a = F a := fun a h1 h2 => by
    show (if a = p then _ else _) = _
    rw [if_neg h1, if_neg h2]
  have e : Ex F F2 := fun a o h => by
    rw [f3 a (fun z => by rw [z, t.fp] at h; cases h) (fun z => by rw [(t.q a z).1] at h; cases h)]
    exact h
  refine ⟨F2, s.grow e (fun a o h => ?_) (fun a h => ?_), e, fun a o h => ?_, .lst f1 (RpA.of_get (by rw [List.length_map, List.length_map, t.len]) fun n v d h1 h2 => ?_)⟩
  · by_cases z : a = p
    · rw [z, f1] at h; rw [z, t.hp]; exact h
    · by_cases z' : a ∈ qs
      · rw [f2 a z'] at h; exact h
      · rw [f3 a z z'] at h; exact s.ex a o h
  · rw [f3 a (fun z => t.np (by rw [← z]; exact h)) (fun z => (t.q a z).2 h)]
    exact (s.fo a h).1
  · by_cases z : a = p
    · exact .inr (.inl z)
    · by_cases z' : a ∈ qs
      · exact .inr (.inr z')
      · rw [f3 a z z'] at h; exact .inl h
  · rw [List.getElem?_map] at h1 h2
    cases hq : qs[n]? with
    | none => rw [hq] at h1; cases h1
    | some q =>
      cases hd : g[n]? with
      | none => rw [hd] at h2; cases h2
      | some ds =>
        rw [hq] at h1
        rw [hd] at h2
        cases h1
        cases h2
        obtain ⟨xs, e1, e2⟩ := t.row n q ds hq hd
        exact .lst (by rw [f2 q (List.mem_of_getElem? hq)]; exact e1) (e2.mono e)
/-- a row more -/
theorem Nst.push {q : Addr} {xs : List V} {ds : List D} {O2 : Addr → Prop} (t : Nst K F H O p qs g) (hO : O q) (fq : F q = none) (hq : H q = some (.lst xs)) (r : RpA K F xs ds) (hO2 : ∀ a, O2 a → O a ∧ a ≠ q) :
    Nst K F (upd H p (.lst (qs.map V.ref ++ [.ref q]))) O2 p (qs ++ [q]) (g ++ [ds]) := by
  have qp : q ≠ p := fun z => t.np (by rw [← z]; exact hO)
  have qn : q ∉ qs := fun z => (t.q q z).2 hO
  refine ⟨?_, t.fp, fun z => t.np (hO2 p z).1, ?_, ?_, ?_, fun a ha => ?_, fun n a es ha hd => ?_⟩
  · rw [upd_same, List.map_append]; rfl
  · rw [List.length_append, List.length_append, t.len]; rfl
  · rw [List.nodup_append]
    refine ⟨t.nd, by simp, fun a ha b hb z => ?_⟩
    rw [List.mem_singleton.mp hb] at z
    exact qn (by rw [← z]; exact ha)
  · intro z
    rcases List.mem_append.mp z with z | z
    · exact t.pq z
    · exact qp (List.mem_singleton.mp z).symm
  · rcases List.mem_append.mp ha with ha | ha
    · exact ⟨(t.q a ha).1, fun z => (t.q a ha).2 (hO2 a z).1⟩
    · rw [List.mem_singleton.mp ha]
      exact ⟨fq, fun z => (hO2 q z).2 rfl⟩
  · by_cases hn : n < qs.length
    · rw [List.getElem?_append_left hn] at ha
      rw [List.getElem?_append_left (by rw [← t.len]; exact hn)] at hd
      have : a ≠ p := fun z => t.pq (by rw [← z]; exact List.mem_of_getElem? ha)
      rw [upd_ne this]
      exact t.row n a es ha hd
    · have hn' : n = qs.length := by
        have := get_lt ha
        rw [List.length_append] at this
        simp only [List.length_cons, List.length_nil] at this
        omega
      rw [hn', List.getElem?_append_right (Nat.le_refl _), Nat.sub_self] at ha
      rw [hn', t.len, List.getElem?_append_right (Nat.le_refl _), Nat.sub_self] at hd
      cases ha
      cases hd
      rw [upd_ne qp]
      exact ⟨xs, hq, r⟩
/-- a cell written -/
theorem Nst.write {n m : Nat} {q : Addr} {xs : List V} {ds : List D} {v : V} {d : D} (t : Nst K F H O p qs g) (hq : qs[n]? = some q) (hg : g[n]? = some ds) (hx : H q = some (.lst xs)) (r : RpA K F xs ds) (rv : Rp K F v d) :
    Nst K F (upd H q (.lst (xs.set m v))) O p qs (g.set n (ds.set m d)) := by
  have qm := List.mem_of_getElem? hq
  have qp : p ≠ q := fun z => t.pq (by rw [z]; exact qm)
  refine ⟨by rw [upd_ne qp]; exact t.hp, t.fp, t.np, by rw [List.length_set]; exact t.len, t.nd, t.pq, t.q, fun k a es ha hd => ?_⟩
  by_cases z : n = k
  · subst z
    rw [hq] at ha
    cases ha
    rw [List.getElem?_set_self (get_lt hg)] at hd
    cases hd
    exact ⟨_, upd_same, r.set rv m⟩
  · rw [List.getElem?_set_ne z] at hd
    have : a ≠ q := fun y => by
      subst y
      have h1 := get_lt hq
      have h2 := get_lt ha
      have e1 : qs[n] = a := Option.some.inj ((List.getElem?_eq_getElem h1).symm.trans hq)
      have e2 : qs[k] = a := Option.some.inj ((List.getElem?_eq_getElem h2).symm.trans ha)
      have pw := List.pairwise_iff_getElem.mp t.nd
      rcases Nat.lt_or_gt_of_ne z with lt | lt
      · exact pw n k h1 h2 lt (e1.trans e2.symm)
      · exact pw k n h2 h1 lt (e2.trans e1.symm)
    rw [upd_ne this]
    exact t.row k a es ha hd
end
section
variable {K : PySem.W.Frag} {W : WX'}
def noEnds (N : AR → Prop) : AEnds := { nx := N, rt := fun _ _ => False }
/-- rows = []; for ..: {..; rows.append(line)}; if ..: {..; rows[r][c] = ..}; the rest, with the rows known -/
def aNest (R L r c : Nat) (ai : AI) (ag : AG) (al : AS) (at_ : AT) (ap : AS) (ae : AE) (a4 : AS) : AS := fun A ρ => R < ρ.length ∧ isOw ρ R = false ∧
  ai (ρ.set R .un) fun ds ρ1 => ∃ Wa : Nat → List (List D) → AR → Prop, Wa 0 [] ρ1 ∧
    (∀ (i : Nat) (d : D) (g : List (List D)) (ρ' : AR), ds[i]? = some d → Wa i g ρ' → ag d ρ' fun ρ'' => al (noEnds fun ρ2 => g.length < 1000000 ∧ ∃ xs, ρ2[L]? = some (.ow (.ol xs)) ∧ Wa (i + 1) (g ++ [xs]) (ρ2.set L .un)) ρ'') ∧
    ∀ (g : List (List D)) (ρ' : AR), Wa ds.length g ρ' → at_ ρ' fun b ρ2 => if b = true then
      ap (noEnds fun ρ3 => ae ρ3 fun x ρ4 => ∃ d i j n m row, x = .im d ∧ ρ4[r]? = some (.im (.int i)) ∧ ρ4[c]? = some (.im (.int j)) ∧ ixN g.length i = some n ∧ g[n]? = some row ∧ ixN row.length j = some m ∧
        a4 A (ρ4.set R (.im (.lst ((g.set n (row.set m d)).map .lst))))) ρ2
      else a4 A (ρ2.set R (.im (.lst (g.map .lst))))
theorem Sl.moved {F H : Hp} {O : Addr → Prop} {ρ : AR} {σ : L2.St} {L : Nat} {cc : OC} {q : Addr} (s : Sl K F H ρ σ O) (h : ρ[L]? = some (.ow cc)) (e : σ[L]? = some (some (.ref q))) : Sl K F H (ρ.set L .un) σ (fun a => O a ∧ a ≠ q) where
  len := by rw [List.length_set, s.len]
  im := fun i d h' => by
    rcases set_get h' with ⟨_, z⟩ | ⟨_, z⟩
    · cases z
    · exact s.im i d z
  ow := fun i c' h' => by
    rcases set_get h' with ⟨_, z⟩ | ⟨n, z⟩
    · cases z
    · obtain ⟨p', g1, g2, g3⟩ := s.ow i c' z
      exact ⟨p', g1, ⟨g2, fun y => by subst y; exact s.ap i L c' cc p' n z h g1 e⟩, g3⟩
  ap := fun i j c1 c2 p' hij h1 h2 g1 g2 => by
    rcases set_get h1 with ⟨_, z⟩ | ⟨_, z1⟩
    · cases z
    · rcases set_get h2 with ⟨_, z⟩ | ⟨_, z2⟩
      · cases z
      · exact s.ap i j c1 c2 p' hij z1 z2 g1 g2
  ex := s.ex
  fo := fun a h' => s.fo a h'.1
theorem lk_nest {R L r c : Nat} {wi : TI} {ai : AI} {g : TG} {ag : AG} {tl : TS} {al : AS} {tt : TT} {at_ : AT} {tp : TS} {ap : AS} {te : TE} {ae : AE} {t4 : TS} {a4 : AS} {B1 B2 B3 B4 : List Nat} (hi : LkI K wi ai) (hg : LkG K g ag B1) (hl : LkS K W tl al B2) (ht : LkT K tt at_) (hp : LkS K W tp ap B3) (he : LkE K te ae) (h4 : LkS K W t4 a4 B4)
    (n1 : R ∉ B1) (n2 : R ∉ B2) (n3 : R ∉ B3) :
    LkS K W (tSeq (tAsg (tLst tNil) (gName R)) (tSeq (tFor wi g (tSeq tl (tDrop (tBM K "list" rAppend (tVar R) (tCons (tVar L) tNil))))) (tSeq (tIfS tt (tSeq tp (tAsg te (gSub (tOp (rIx K) (tVar R) (tVar r)) (tVar c) rSetL))) tNext) t4)))
      (aNest R L r c ai ag al at_ ap ae a4) (R :: (B1 ++ B2 ++ B3 ++ B4)) := by
  intro A ρ h σ F H O s B' Dn hB bd
  obtain ⟨hR, hno, h⟩ := h
  have hRσ : R < σ.length := by rw [← s.len]; exact hR
  refine ⟨by decide, fun p hp0 => ?_⟩
  -- the new list
  have nOp : ¬ O p := s.notO hp0
  have fp : F p = none := s.notF hp0
  have s0 : Sl K F (upd H p (.lst [])) (ρ.set R .un) (σ.set R (some (.ref p))) O := (s.setUn R (.ref p)).other fp nOp
  have k0 : Kp O F H O F (upd H p (.lst [])) := Kp.refl.at_ hp0
  have e0 : Keep B' σ (σ.set R (some (.ref p))) := Keep.set (hB R List.mem_cons_self)
  refine hi _ _ h _ F _ O s0 _ fun J ds ρ1 F1 H1 k1 s1 wk h1 => ?_
  obtain ⟨Wa, w0, turn, done⟩ := h1
  have t0 : Nst K F1 H1 O p [] [] := Nst.kp (K := K) (F := F) (H := upd H p (.lst [])) (O := O) ⟨upd_same, fp, nOp, rfl, List.nodup_nil, (fun z => by cases z), (fun _ z => by cases z), (fun n q ds z => by simp at z)⟩ k1
  let Inv : Nat → L2.St → Hp → Prop := fun i σ' H' => ∃ ρ' F' O' qs gg, Kp O F H O' F' H' ∧ Sl K F' H' ρ' σ' O' ∧ Keep B' σ σ' ∧ σ'[R]? = some (some (.ref p)) ∧ Ex F1 F' ∧ Nst K F' H' O' p qs gg ∧ (∀ q ∈ qs, O q ∨ H q = none) ∧ Wa i gg ρ'
  refine ⟨fun i m σ' H' => m = ds.length - i ∧ i ≤ ds.length ∧ Inv i σ' H', ⟨ds.length, by simp, Nat.zero_le _, ρ1, F1, O, [], [], k0.trans k1, s1, e0, List.getElem?_set_self hRσ, Ex.refl _, t0, (fun _ z => by cases z), w0⟩, ?_⟩
  rintro i mm σ' H' ⟨rfl, hle, ρ', F', O', qs, gg, k2, s2, e2, hr2, x2, t2, q2, w2⟩
  have exF : Ex F1 H' := x2.trans s2.ex
  have inB1 : ∀ i ∈ B1, i ∈ B1 := fun _ z => z
  by_cases hlt : i < ds.length
  · refine .inr ⟨wk.go i H' hlt exF, Inv (i + 1), fun σ3 H3 q => ⟨ds.length - (i + 1), by omega, rfl, hlt, q⟩, fun x H3 y => ?_⟩
    obtain ⟨F3, kf, rx⟩ := wk.yld i H' x H3 ds[i] (List.getElem?_eq_getElem hlt) exF y F' x2 s2.ex
    have s3 := s2.kf kf
    refine hg ds[i] ρ' _ (turn i ds[i] gg ρ' (List.getElem?_eq_getElem hlt) w2) x σ' F3 H3 O' s3 rx B1 inB1 _ fun ρ4 σ4 F4 H4 k4 s4 e4 h4' => ?_
    have kk : Kp O' F' H' O' F4 H4 := kf.kp.trans k4
    refine hl _ ρ4 h4' σ4 F4 H4 O' s4 B2 _ (fun _ z => z) ⟨fun ρ5 σ5 F5 H5 O5 k5 s5 e5 w5 => ?_, fun _ _ _ _ _ _ _ _ _ _ _ z => z.elim, fun _ _ _ _ _ _ _ _ z => z.elim, fun _ _ _ _ _ _ _ _ z => z.elim, fun _ _ _ _ _ _ _ _ _ _ _ _ z => z.elim, fun _ _ _ _ _ _ _ _ _ _ _ _ _ _ _ _ z => z.elim⟩
    obtain ⟨hz, xs, hx, w5⟩ := w5
    have kA : Kp O' F' H' O5 F5 H5 := kk.trans k5
    have t5 := t2.kp kA
    have r5 : σ5[R]? = some (some (.ref p)) := by rw [e5.at_ R n2, e4.at_ R n1]; exact hr2
    obtain ⟨q, g1, g2, vs, g3, g4⟩ := s5.ow L _ hx
    have e5' : Keep B' σ σ5 := e2.trans ⟨e5.ln.trans e4.ln, fun j hj => by
      rw [e5.at_ j (fun z => hj (hB j (by simp [z]))), e4.at_ j (fun z => hj (hB j (by simp [z])))]⟩
    refine ⟨.ref p, r5, .inl ⟨rfl, _, SqL.of t5.hp⟩, .ref q, g1, p, _, .ref q, rfl, rfl, t5.hp, by rw [List.length_map, t5.len]; exact szl hz, ?_⟩
    have s6 := s5.moved hx g1
    have t6 := t5.push g2 (s5.fo q g2).1 g3 g4 (O2 := fun a => O5 a ∧ a ≠ q) fun a z => z
    have kO : Kp O F H O5 F5 H5 := k2.trans kA
    have kO2 : Kp O F H (fun a => O5 a ∧ a ≠ q) F5 (upd H5 p (.lst (qs.map V.ref ++ [.ref q]))) := Kp.wr ⟨kO.h1, kO.h2, kO.h3, fun a z => kO.h4 a z.1⟩ (.inr hp0)
    refine ⟨_, F5, _, qs ++ [q], gg ++ [xs], kO2, s6.other t5.fp (fun z => t5.np z.1), e5', r5, x2.trans kA.h2, t6, fun a ha => ?_, w5⟩
    rcases List.mem_append.mp ha with ha | ha
    · exact q2 a ha
    · rw [List.mem_singleton.mp ha]
      exact kO.h4 q g2
  · have e : i = ds.length := by omega
    subst e
    refine .inl ⟨wk.stop H' exF, ?_⟩
    -- what stands behind the loop
    have last : ∀ (ρ6 : AR) (σ6 : L2.St) (F6 H6 : Hp) (O6 : Addr → Prop) (gg : List (List D)), Kp O F H O6 F6 H6 → Sl K F6 H6 ρ6 σ6 O6 → Keep B' σ σ6 → σ6[R]? = some (some (.ref p)) → Nst K F6 H6 O6 p qs gg → a4 A (ρ6.set R (.im (.lst (gg.map .lst)))) → t4 Dn σ6 H6 := fun ρ6 σ6 F6 H6 O6 gg k6 s6 e6 r6 t6 h6 => by
      obtain ⟨F7, s7, x7, n7, rp7⟩ := t6.freeze s6
      have s8 := s7.setIm rp7 R
      have eσ : σ6.set R (some (.ref p)) = σ6 := by
        apply List.ext_getElem?
        intro j
        by_cases z : R = j
        · subst z; rw [List.getElem?_set_self (get_lt r6), r6]
        · rw [List.getElem?_set_ne z]
      rw [eσ] at s8
      have k7 : Kp O F H O6 F7 H6 := ⟨k6.h1, k6.h2.trans x7, fun a o z => by
        rcases n7 a o z with z | z | z
        · exact k6.h3 a o z
        · subst z; exact .inr (.inr hp0)
        · exact .inr (q2 a z), k6.h4⟩
      exact h4 A _ h6 σ6 F7 H6 O6 s8 B' Dn (fun j hj => hB j (by simp [hj])) (bd.shift k7 e6)
    refine ht ρ' _ (done gg ρ' w2) σ' F' H' O' s2 _ fun b ρ3 F3 H3 k3 s3 h3 => ?_
    have t3 := t2.kp k3
    cases b with
    | false =>
      rw [if_neg Bool.false_ne_true] at h3 ⊢
      exact last ρ3 σ' F3 H3 O' gg (k2.trans k3) s3 e2 hr2 t3 h3
    | true =>
      rw [if_pos rfl] at h3 ⊢
      refine hp _ ρ3 h3 σ' F3 H3 O' s3 B3 _ (fun _ z => z) ⟨fun ρ4 σ4 F4 H4 O4 k4 s4 e4 w4 => ?_, fun _ _ _ _ _ _ _ _ _ _ _ z => z.elim, fun _ _ _ _ _ _ _ _ z => z.elim, fun _ _ _ _ _ _ _ _ z => z.elim, fun _ _ _ _ _ _ _ _ _ _ _ _ z => z.elim, fun _ _ _ _ _ _ _ _ _ _ _ _ _ _ _ _ z => z.elim⟩
      refine he ρ4 _ w4 σ4 F4 H4 O4 s4 _ fun v x ρ5 F5 H5 k5 s5 rv h5 => ?_
      obtain ⟨d, i5, j5, n5, m5, row, rfl, hr5, hc5, hn5, hg5, hm5, h5⟩ := h5
      have r4 : σ4[R]? = some (some (.ref p)) := by rw [e4.at_ R n3]; exact hr2
      have t5 := (t3.kp k4).kp k5
      obtain ⟨v1, a1, b1⟩ := s5.im r _ hr5
      obtain ⟨v2, a2, b2⟩ := s5.im c _ hc5
      cases b1
      cases b2
      have hnl : n5 < qs.length := by rw [t5.len]; exact get_lt hg5
      obtain ⟨xs, hx, rx⟩ := t5.row n5 qs[n5] row (List.getElem?_eq_getElem hnl) hg5
      have hat : atI (qs.map V.ref) i5 = some (.ref qs[n5]) := by
        unfold atI
        rw [List.length_map, t5.len, hn5]
        show (qs.map V.ref)[n5]? = _
        rw [List.getElem?_map, List.getElem?_eq_getElem hnl]; rfl
      refine ⟨.ref p, r4, .int i5, a1, .inl ⟨p, _, i5, .ref qs[n5], rfl, rfl, SqL.of t5.hp, hat, .int j5, a2, qs[n5], xs, j5, m5, rfl, rfl, hx, by rw [rx.length]; exact hm5, ?_⟩⟩
      have qm : qs[n5] ∈ qs := List.getElem_mem hnl
      have t6 := t5.write (m := m5) (List.getElem?_eq_getElem hnl) hg5 hx rx rv
      have k6 : Kp O F H O4 F5 (upd H5 qs[n5] (.lst (xs.set m5 v))) := Kp.wr (((k2.trans k3).trans k4).trans k5) (q2 _ qm)
      have e6 : Keep B' σ σ4 := e2.trans ⟨e4.ln, fun j hj => e4.at_ j fun z => hj (hB j (by simp [z]))⟩
      exact last ρ5 σ4 F5 _ O4 _ k6 (s5.other (t5.q _ qm).1 (t5.q _ qm).2) e6 r4 t6 h5
end
section
variable {X : Cx} {K : PySem.W.Frag} {W : WX'}
theorem gss_nest {R L r c : Nat} {st1 sl1 sl2 sa sp st4 : Stmt} {tg iter test e tg2 : Expr} {fpos ipos apos : Pos} {wi : TI} {ai : AI} {g : TG} {ag : AG} {tl1 tl2 : TS} {al1 al2 : AS} {tt : TT} {at_ : AT} {tp : TS} {ap : AS} {te : TE} {ae : AE} {t4 : TS} {a4 : AS} {B1 C1 C2 B3 B4 : List Nat}
    (hpo : PassesOwn (model X.prog X.w) X.A X.env X.xe) (hc : X.calm = true) (h1 : PS X st1 (tAsg (tLst tNil) (gName R))) (hi : GI X tg iter wi ai) (hg : GG X tg g ag B1) (hl1 : GS X W sl1 tl1 al1 C1) (hl2 : GS X W sl2 tl2 al2 C2) (ha : PS X sa (tDrop (tBM X.K "list" rAppend (tVar R) (tCons (tVar L) tNil))))
    (ht : GT X test tt at_) (hp : GS X W sp tp ap B3) (he : GE X e te ae) (hs : PG X tg2 (gSub (tOp (rIx X.K) (tVar R) (tVar r)) (tVar c) rSetL)) (h4 : GS X W st4 t4 a4 B4) (n1 : R ∉ B1 := by decide) (n2 : R ∉ C1 ++ C2 := by decide) (n3 : R ∉ B3 := by decide) (hf : ∀ x, foldedSetIterable iter X.env x = pure x := by intro _; rfl)
    (a1 : swapsWithSole [tg2] e apos.line X.env = pure false := by rfl) (a2 : swappedStores [tg2] e X.env = pure none := by rfl) (a3 : (assignEach [tg2] X.env).map (·.2) = [assign tg2 X.env] := by rfl) :
    GSs X W [st1, .For tg iter [sl1, sl2, sa] [] fpos, .If test [sp, .Assign [tg2] e apos] [] ipos, st4]
      (tSeq (tAsg (tLst tNil) (gName R)) (tSeq (tFor wi g (tSeq (tSeq tl1 tl2) (tDrop (tBM X.K "list" rAppend (tVar R) (tCons (tVar L) tNil))))) (tSeq (tIfS tt (tSeq tp (tAsg te (gSub (tOp (rIx X.K) (tVar R) (tVar r)) (tVar c) rSetL))) tNext) t4)))
      (aNest R L r c ai ag (aSeq al1 al2) at_ ap ae a4) (R :: (B1 ++ (C1 ++ C2) ++ B3 ++ B4)) := by
  have pb : PSs X [sl1, sl2, sa] (tSeq (tSeq tl1 tl2) (tDrop (tBM X.K "list" rAppend (tVar R) (tCons (tVar L) tNil)))) := by
    have q : PSs X [sl1, sl2, sa] (tSeq tl1 (tSeq tl2 (tDrop (tBM X.K "list" rAppend (tVar R) (tCons (tVar L) tNil))))) := pss_cons hl1.ps (pss_cons hl2.ps (pss_one ha))
    exact q
  exact ⟨pss_cons h1 (pss_cons (ps_for hpo hc hi.pi hg.pg pb hf) (pss_cons (ps_if ht.pt (pss_cons hp.ps (pss_one (ps_asg he.pe hs a1 a2 a3))) pss_nil) (pss_one h4.ps))), lk_nest hi.lk hg.lk (lk_seq hl1.lk hl2.lk) ht.lk hp.lk he.lk h4.lk n1 n2 n3⟩
end
end DL

/-! DL17: zip of two, enumerate, over lists and tuples alike, walked. -/
namespace DL
open PySem PySem.Spec L2
open PyProof.Rows hiding St

/-! ### zip of two -/
def ItZ2 (K : PySem.W.Frag) (a b : Src) : It :=
  ⟨fun i H => ∃ (xs ys : List V) (x y : V), SqS K H a xs ∧ SqS K H b ys ∧ xs[i]? = some x ∧ ys[i]? = some y,
    fun i H v H' => ∃ T x y, v = .ref T ∧ H T = none ∧ H' = upd H T (.tup [x, y]) ∧ (∀ xs, SqS K H a xs → xs[i]? = some x) ∧ (∀ ys, SqS K H b ys → ys[i]? = some y),
    fun i H => ∃ xs ys : List V, SqS K H a xs ∧ SqS K H b ys ∧ i ≤ xs.length ∧ i ≤ ys.length ∧ (i = xs.length ∨ i = ys.length)⟩
def tnZ2 (z TI TO i1 i2 : Addr) (a b : Src) (i : Nat) (h : Heap) : Prop :=
  IsZip h z TI TO .none ∧ IsTupOf2 h TI (.ref i1) (.ref i2) ∧ (∃ x y, IsTupOf2 h TO x y) ∧ ItS h i1 i a ∧ ItS h i2 i b
theorem turn_z2 {P : Program} {w : World} {K : PySem.W.Frag} {elts : List Expr} {kk : Nat} {tpos : Pos} {a b : Src} {z TI TO i1 i2 : Addr} (D : ZipSep2 z TI TO i1 i2 [i1, a.at] [i2, b.at]) (n1 : a.at ≠ i1) (n2 : b.at ≠ i2) :
    Turn P w K (.Tuple elts kk tpos) (ItZ2 K a b) [z, TI, TO, i1, i2] z (tnZ2 z TI TO i1 i2 a b) where
  mem := by simp
  obj := fun i h st e he => by
    obtain ⟨hz, hTI, ⟨x, y, hTO⟩, h1, h2⟩ := st
    have e' : e = z ∨ e = TI ∨ e = TO ∨ e = i1 ∨ e = i2 := by simpa using he
    rcases e' with q | q | q | q | q
    · rw [q]; exact ⟨_, hz, fun v q => nomatch q⟩
    · rw [q]; exact ⟨_, hTI, fun v q => nomatch q⟩
    · rw [q]; exact ⟨_, hTO, fun v q => nomatch q⟩
    · rw [q]; exact itS_live h1
    · rw [q]; exact itS_live h2
  keep := fun i h h' st k => by
    obtain ⟨hz, hTI, ⟨x, y, hTO⟩, h1, h2⟩ := st
    exact ⟨k z (by simp) _ hz, k TI (by simp) _ hTI, ⟨x, y, k TO (by simp) _ hTO⟩, itS_keep h1 fun o q => k i1 (by simp) o q, itS_keep h2 fun o q => k i2 (by simp) o q⟩
  item := by
    intro X hP hw hK hc i pins s σ H E I hf st hg
    subst hP hw hK
    obtain ⟨hz, hTI, hTO, h1, h2⟩ := st
    obtain ⟨xs, ys, x, y, hqx, hqy, hx, hy⟩ := hg
    obtain ⟨it1, r1, p1, _⟩ := inv_S I hqx
    obtain ⟨it2, r2, p2, _⟩ := inv_S I hqy
    have hd := I.ok.hd hc
    have G := GoesN.zip2 (elts := elts) (x1 := kk) (pos := tpos) (prog := X.prog) (w := X.w) (A := X.A) D (draws_S (prog := X.prog) (w := X.w) (A := X.A.in1) hd i1 a n1 it1.toArray) (draws_S (prog := X.prog) (w := X.w) (A := X.A.in1) hd i2 b n2 it2.toArray)
    obtain ⟨v1, hv1, rv1⟩ := r1.get hx
    obtain ⟨v2, hv2, rv2⟩ := r2.get hy
    have l1 : i < it1.length := (List.getElem?_eq_some_iff.mp hv1).1
    have l2 : i < it2.length := (List.getElem?_eq_some_iff.mp hv2).1
    refine G.goes i s (fun u s2 => ∃ x H', Inv X pins σ H' s2 ∧ RelV x u ∧ (ItZ2 X.K a b).yld i H x H' ∧ tnZ2 z TI TO i1 i2 a b (i + 1) s2.heap ∧ ∀ b ∈ [z, TI, TO, i1, i2], H' b = none) E (by simp; omega) ⟨hz, hTI, hTO, ⟨h1, p1⟩, ⟨h2, p2⟩⟩ fun v h' tk hy' st' k htk => ?_
    obtain ⟨T, y1, y2, rfl, hT, q1, q2, hTup⟩ := hy'
    obtain ⟨hz', hTI', hTO', g1, g2⟩ := st'
    have e1 : y1 = v1 := by simpa [hv1] using q1.symm
    have e2 : y2 = v2 := by simpa [hv2] using q2.symm
    subst e1 e2
    have new : ObjOk X.prog X.w (upd H T (.tup [x, y])) h' T (.tup [x, y]) :=
      ⟨by show 2 ≤ sizeLine; decide, [y1, y2], .cons rv1 (.cons rv2 .nil), hTup⟩
    have hsub : ∀ b ∈ [z, TO, i1, i2], FpOk X pins H b := fun b hb => hf b (by
      have e' : b = z ∨ b = TO ∨ b = i1 ∨ b = i2 := by simpa using hb
      rcases e' with q | q | q | q <;> subst q <;> simp)
    have I1 : Inv X pins σ (upd H T (.tup [x, y])) { s with heap := h', toks := tk } := I.turnedNew (t' := tk) (ch := [z, TO, i1, i2]) k hsub hT new
    refine ⟨.ref T, _, I1, rfl, ⟨T, x, y, rfl, I.hok.fresh hT, rfl, fun l hl => by rw [inj_S I hl hqx]; exact hx, fun l hl => by rw [inj_S I hl hqy]; exact hy⟩, ⟨hz', hTI', hTO', g1.1, g2.1⟩, fun e hem => ?_⟩
    have hlt : e < s.heap.objs.size := by
      obtain ⟨a1, a2, hTO⟩ := hTO
      have e' : e = z ∨ e = TI ∨ e = TO ∨ e = i1 ∨ e = i2 := by simpa using hem
      rcases e' with q | q | q | q | q
      · rw [q]; exact Heap.lt_size hz
      · rw [q]; exact Heap.lt_size hTI
      · rw [q]; exact Heap.lt_size hTO
      · rw [q]; obtain ⟨_, e1, _⟩ := itS_live h1; exact Heap.lt_size e1
      · rw [q]; obtain ⟨_, e1, _⟩ := itS_live h2; exact Heap.lt_size e1
    rw [upd_ne (Nat.ne_of_lt (Nat.lt_of_lt_of_le hlt hT))]
    exact (hf e hem).1
  done := by
    intro X hP hw hK hc i pins s σ H E I hf st hg
    subst hP hw hK
    obtain ⟨hz, hTI, ⟨a1, a2, hTO⟩, h1, h2⟩ := st
    obtain ⟨xs, ys, hqx, hqy, g1, g2, hend⟩ := hg
    obtain ⟨it1, r1, p1, _⟩ := inv_S I hqx
    obtain ⟨it2, r2, p2, _⟩ := inv_S I hqy
    have l1 := r1.length
    have l2 := r2.length
    have hd := I.ok.hd hc
    have hsub : ∀ b ∈ [z, TO, i1, i2], FpOk X pins H b := fun b hb => hf b (by
      have e' : b = z ∨ b = TO ∨ b = i1 ∨ b = i2 := by simpa using hb
      rcases e' with q | q | q | q <;> subst q <;> simp)
    refine wpAny_pyNext_zipD2_end (i := i) D (draws_S (prog := X.prog) (w := X.w) (A := X.A.in1) hd i1 a n1 it1.toArray) (draws_S (prog := X.prog) (w := X.w) (A := X.A.in1) hd i2 b n2 it2.toArray) hz hTI hTO ⟨h1, p1⟩ ⟨h2, p2⟩ (by simp; omega) (by simp; omega) (by simp; omega) fun h' tk hk => ⟨rfl, I.turnedL (t' := tk) (ch := [z, TO, i1, i2]) (fun e o hb q => ?_) hsub⟩
    exact hk e o (fun q' => hb (by simp [q'])) (fun q' => hb (by simp [q'])) (fun q' => hb (by simp [q'])) (fun q' => hb (by simp [q'])) q
  self := fun A i s Q E st h => wpAny_pyIter_zip st.1 h

def two (K : PySem.W.Frag) (vs : List V) (H : Hp) (a b : Src) : Prop := ∃ xs ys : List V, vs = [.ref a.at, .ref b.at] ∧ SqS K H a xs ∧ SqS K H b ys
def iZip2S (K : PySem.W.Frag) (ta : TA) : TI := fun σ H R => ta σ H fun vs H1 => ∃ a b, two K vs H1 a b ∧ R (ItZ2 K a b) H1
section
variable {X : Cx} {e1 e2 : Expr} {ta : TA} {p pos tpos : Pos} {elts : List Expr} {kk : Nat}
theorem pi_zip2S (hg : Gl X "zip") (hm : X.mg "zip" = none) (ha : PA X [e1, e2] ta)
    (hs : starEach [e1, e2] X.env = (false, eval e1 X.env) :: starEach [e2] X.env := by rfl) (hpl : (backTo pos (starEach [e2] X.env)).any (·.1) = false := by rfl) :
    PI X (.Tuple elts kk tpos) (.Call (.Name "zip" p) [e1, e2] [] pos) (iZip2S X.K ta) := by
  refine ⟨fun pins s σ H R I h => ?_⟩
  refine Call_ (ld_blt I hg hm PyProof.Rows.boot_zip (PyProof.Rows.callWith_type1 (thn (ha.run pos pins s σ H _ I h) fun us s1 ⟨vs, H1, I1, r1, q1⟩ => ?_) hs hpl))
  obtain ⟨a, b, ⟨xs, ys, rfl, hx, hy⟩, q⟩ := q1
  cases r1 with
  | cons r1 rr =>
    cases rr with
    | cons r2 rr =>
      cases rr
      cases r1
      cases r2
      obtain ⟨i1, _, p1, l1⟩ := inv_S I1 hx
      obtain ⟨i2, _, p2, l2⟩ := inv_S I1 hy
      refine zip_begins2 (begins_S a i1.toArray) (begins_S b i2.toArray) p1 p2 fun h' hz hTI hTO g1 g2 hsz hk => ?_
      refine wpAny_pyIter_zip hz ?_
      have sep : ZipSep2 (s1.heap.objs.size + 4 : Nat) (s1.heap.objs.size + 2 : Nat) (s1.heap.objs.size + 3 : Nat) s1.heap.objs.size (s1.heap.objs.size + 1 : Nat) [s1.heap.objs.size, a.at] [(s1.heap.objs.size + 1 : Nat), b.at] :=
        zip_sep2 (N := s1.heap.objs.size) (fp1 := [a.at]) (fp2 := [b.at]) (fun q hq => by rw [List.mem_singleton.mp hq]; exact l1) (fun q hq => by rw [List.mem_singleton.mp hq]; exact l2)
      refine ⟨_, [(s1.heap.objs.size + 4 : Nat), (s1.heap.objs.size + 2 : Nat), (s1.heap.objs.size + 3 : Nat), s1.heap.objs.size, (s1.heap.objs.size + 1 : Nat)], _, _, H1, rfl, I1.kept (t' := s1.toks) hk, turn_z2 sep (Nat.ne_of_lt l1) (Nat.ne_of_lt (Nat.lt_of_lt_of_le l2 (Nat.le_add_right _ _))),
        ⟨hz, hTI, ⟨_, _, hTO⟩, itS_of g1, itS_of g2⟩, fun d hd => ?_, q⟩
      have hle : s1.heap.objs.size ≤ d := by
        have e' : d = s1.heap.objs.size + 4 ∨ d = s1.heap.objs.size + 2 ∨ d = s1.heap.objs.size + 3 ∨ d = s1.heap.objs.size ∨ d = s1.heap.objs.size + 1 := by simpa using hd
        rcases e' with z | z | z | z | z
        · rw [z]; exact Nat.le_add_right _ _
        · rw [z]; exact Nat.le_add_right _ _
        · rw [z]; exact Nat.le_add_right _ _
        · rw [z]; exact Nat.le_refl _
        · rw [z]; exact Nat.le_add_right _ _
      exact I1.fpOk hle (I1.hok.fresh hle)
end
def zip2D : List D → List D → List D
  | d :: ds, e :: es => .tup [d, e] :: zip2D ds es
  | _, _ => []
theorem zip2D_get : ∀ {ds es : List D} {i : Nat} {x : D}, (zip2D ds es)[i]? = some x → ∃ d e, ds[i]? = some d ∧ es[i]? = some e ∧ x = .tup [d, e]
  | d :: ds, e :: es, 0, x, h => by
    unfold zip2D at h
    simp at h
    exact ⟨d, e, rfl, rfl, h.symm⟩
  | d :: ds, e :: es, i + 1, x, h => by
    unfold zip2D at h
    simp only [List.getElem?_cons_succ] at h ⊢
    exact zip2D_get h
  | [], _, _, _, h => by unfold zip2D at h; simp at h
  | _ :: _, [], _, _, h => by unfold zip2D at h; simp at h
theorem zip2D_len : ∀ (ds es : List D), (zip2D ds es).length ≤ ds.length ∧ (zip2D ds es).length ≤ es.length ∧ ((zip2D ds es).length = ds.length ∨ (zip2D ds es).length = es.length)
  | d :: ds, e :: es => by
    unfold zip2D
    have := zip2D_len ds es
    simp only [List.length_cons]
    omega
  | [], _ => by unfold zip2D; simp
  | _ :: _, [] => by unfold zip2D; simp
section
variable {K : PySem.W.Frag} {F H : Hp}
theorem walks_z2 {a b : Src} {xs ys : List V} {ds es : List D} (h1 : SqS K F a xs) (h2 : SqS K F b ys) (r1 : RpA K F xs ds) (r2 : RpA K F ys es) : Walks K (ItZ2 K a b) F (zip2D ds es) where
  go := fun i H hi e => by
    obtain ⟨d, e', g1, g2, _⟩ := zip2D_get (List.getElem?_eq_getElem hi)
    obtain ⟨x, hx, _⟩ := r1.get g1
    obtain ⟨y, hy, _⟩ := r2.get g2
    exact ⟨xs, ys, x, y, e.s h1, e.s h2, hx, hy⟩
  yld := fun i H x H' d hd e y F1 e1 e2 => by
    obtain ⟨T, x', y', rfl, hT, rfl, q1, q2⟩ := y
    obtain ⟨dd, ee, g1, g2, rfl⟩ := zip2D_get hd
    obtain ⟨x2, hx, rx⟩ := r1.get g1
    obtain ⟨y2, hy, ry⟩ := r2.get g2
    have p1 := q1 xs (e.s h1)
    have p2 := q2 ys (e.s h2)
    rw [hx] at p1
    rw [hy] at p2
    cases p1
    cases p2
    have kf := KF.put (o := .tup [x', y']) e2 hT
    refine ⟨_, kf, .tup (.inl (Rd.of upd_same)) (.cons ?_ (.cons ?_ .nil))⟩
    · exact (rx.mono e1).mono kf.f
    · exact (ry.mono e1).mono kf.f
  stop := fun H e => by
    have l := zip2D_len ds es
    have l1 := r1.length
    have l2 := r2.length
    exact ⟨xs, ys, e.s h1, e.s h2, by omega, by omega, by omega⟩
def aZ2 (as : List AV) : Option (List D) := match as with
  | [x, y] => match seqD x, seqD y with
    | some ds, some es => some (zip2D ds es)
    | _, _ => none
  | _ => none
def aZip2 (aa : AA) : AI := fun ρ k => aa ρ fun as ρ1 => match aZ2 as with
  | some zs => k zs ρ1
  | none => False
theorem aZ2_ok {σ : L2.St} {vs : List V} {as : List AV} {zs : List D} (ex : Ex F H) (r : RpVs K F σ vs as) (h : aZ2 as = some zs) : ∃ a b, two K vs H a b ∧ Walks K (ItZ2 K a b) F zs := by
  unfold aZ2 at h
  split at h
  · rename_i x y
    split at h
    · rename_i ds es e1 e2
      cases h
      match vs, r with
      | [v1, v2], r =>
        obtain ⟨r1, r2, _⟩ := r
        obtain ⟨a, xs, rfl, h1, g1⟩ := seqD_src r1 e1
        obtain ⟨b, ys, rfl, h2, g2⟩ := seqD_src r2 e2
        exact ⟨a, b, ⟨xs, ys, rfl, ex.s h1, ex.s h2⟩, walks_z2 h1 h2 g1 g2⟩
      | [], r => exact r.elim
      | [_], r => exact r.2.elim
      | _ :: _ :: _ :: _, r => exact r.2.2.elim
    · cases h
  · cases h
theorem lk_zip2 {ta : TA} {aa : AA} (ha : LkA K ta aa) : LkI K (iZip2S K ta) (aZip2 aa) := by
  intro ρ k hk σ F H O s R hq
  refine ha ρ _ hk σ F H O s _ fun vs as ρ1 F1 H1 k1 s1 r1 h1 => ?_
  split at h1
  · rename_i zs q
    obtain ⟨a, b, t, wk⟩ := aZ2_ok s1.ex r1 q
    exact ⟨a, b, t, hq _ zs ρ1 F1 H1 k1 s1 wk h1⟩
  · exact h1.elim
end
theorem gi_zip2 {X : Cx} {K : PySem.W.Frag} {e1 e2 : Expr} {ta : TA} {aa : AA} {p pos tpos : Pos} {elts : List Expr} {kk : Nat} (Bn : Bt X.mg) (ha : GA X [e1, e2] ta aa) (hg : Gl X "zip" := by rfl)
    (hs : starEach [e1, e2] X.env = (false, eval e1 X.env) :: starEach [e2] X.env := by rfl) (hpl : (backTo pos (starEach [e2] X.env)).any (·.1) = false := by rfl) (hK : X.K = K := by rfl) :
    GI X (.Tuple elts kk tpos) (.Call (.Name "zip" p) [e1, e2] [] pos) (iZip2S K ta) (aZip2 aa) := by
  subst hK
  exact ⟨pi_zip2S hg Bn.zip ha.pa hs hpl, lk_zip2 ha.lk⟩

/-! ### enumerate -/
def ItE (K : PySem.W.Frag) (a : Src) : It :=
  ⟨fun i H => ∃ (xs : List V) (x : V), SqS K H a xs ∧ xs[i]? = some x,
    fun i H v H' => ∃ T x, v = .ref T ∧ H T = none ∧ H' = upd H T (.tup [.int (i : Nat), x]) ∧ (∀ xs, SqS K H a xs → xs[i]? = some x),
    fun i H => ∃ xs : List V, SqS K H a xs ∧ i = xs.length⟩
def tnE (e it : Addr) (a : Src) (i : Nat) (h : Heap) : Prop := (∃ old, IsEnum h e it ((0 : Int) + (i : Int)) old) ∧ ItS h it i a
theorem turn_e {P : Program} {w : World} {K : PySem.W.Frag} {elts : List Expr} {kk : Nat} {tpos : Pos} {a : Src} {e it : Addr} (n1 : a.at ≠ it) (n2 : e ≠ it) (n3 : e ≠ a.at) :
    Turn P w K (.Tuple elts kk tpos) (ItE K a) [e, it] e (tnE e it a) where
  mem := by simp
  obj := fun i h st c hc => by
    obtain ⟨⟨old, he⟩, h1⟩ := st
    have e' : c = e ∨ c = it := by simpa using hc
    rcases e' with q | q
    · rw [q]; exact ⟨_, he, fun v q => nomatch q⟩
    · rw [q]; exact itS_live h1
  keep := fun i h h' st k => by
    obtain ⟨⟨old, he⟩, h1⟩ := st
    exact ⟨⟨old, k e (by simp) _ he⟩, itS_keep h1 fun o q => k it (by simp) o q⟩
  item := by
    intro X hP hw hK hc i pins s σ H E I hf st hg
    subst hP hw hK
    obtain ⟨he, h1⟩ := st
    obtain ⟨xs, x, hqx, hx⟩ := hg
    obtain ⟨it1, r1, p1, _⟩ := inv_S I hqx
    have hd := I.ok.hd hc
    have G := GoesN.enumFrom (elts := elts) (x1 := kk) (pos := tpos) (prog := X.prog) (w := X.w) (A := X.A) 0 (draws_S (prog := X.prog) (w := X.w) (A := X.A.in1) hd it a n1 it1.toArray) e n2 (by simp; exact ⟨n2, n3⟩) (by simp)
    obtain ⟨v1, hv1, rv1⟩ := r1.get hx
    have l1 : i < it1.length := (List.getElem?_eq_some_iff.mp hv1).1
    refine G.goes i s (fun u s2 => ∃ x H', Inv X pins σ H' s2 ∧ RelV x u ∧ (ItE X.K a).yld i H x H' ∧ tnE e it a (i + 1) s2.heap ∧ ∀ b ∈ [e, it], H' b = none) E (by simp; omega) ⟨he, h1, p1⟩ fun v h' tk hy' st' k htk => ?_
    obtain ⟨T, t, y1, rfl, hT, q1, hTup⟩ := hy'
    obtain ⟨he', g1⟩ := st'
    have e1 : y1 = v1 := by simpa [hv1] using q1.symm
    subst e1
    have new : ObjOk X.prog X.w (upd H T (.tup [.int (i : Nat), x])) h' T (.tup [.int (i : Nat), x]) :=
      ⟨by show 2 ≤ sizeLine; decide, [_, y1], .cons ⟨_, by rw [Int.zero_add]⟩ (.cons rv1 .nil), hTup⟩
    have I1 : Inv X pins σ (upd H T (.tup [.int (i : Nat), x])) { s with heap := h', toks := tk } := I.turnedNew (t' := tk) (ch := [e, it]) k hf hT new
    refine ⟨.ref T, _, I1, rfl, ⟨T, x, rfl, I.hok.fresh hT, rfl, fun l hl => by rw [inj_S I hl hqx]; exact hx⟩, ⟨he', g1.1⟩, fun c hem => ?_⟩
    have hlt : c < s.heap.objs.size := by
      obtain ⟨old, he⟩ := he
      have e' : c = e ∨ c = it := by simpa using hem
      rcases e' with q | q
      · rw [q]; exact Heap.lt_size he
      · rw [q]; obtain ⟨_, e1, _⟩ := itS_live h1; exact Heap.lt_size e1
    rw [upd_ne (Nat.ne_of_lt (Nat.lt_of_lt_of_le hlt hT))]
    exact (hf c hem).1
  done := by
    intro X hP hw hK hc i pins s σ H E I hf st hg
    subst hP hw hK
    obtain ⟨⟨old, he⟩, h1⟩ := st
    obtain ⟨xs, hqx, hend⟩ := hg
    obtain ⟨it1, r1, p1, _⟩ := inv_S I hqx
    have l1 := r1.length
    have hd := I.ok.hd hc
    have en : i = it1.toArray.size := by simp; omega
    subst en
    refine wpAny_pyNext_enum_endD (draws_S (prog := X.prog) (w := X.w) (A := X.A.in1) hd it a n1 it1.toArray) he ⟨h1, p1⟩ fun h' hk => ⟨rfl, I.turnedL (t' := s.toks) (ch := [e, it]) (fun c o hb q => ?_) hf⟩
    exact hk c o (fun q' => hb (by simp [q'])) q
  self := fun A i s Q E st h => let ⟨⟨_, he⟩, _⟩ := st; wpAny_pyIter_enum he h
theorem meets_enumerate_new1 {v : Value} {o : Obj} {H : Heap → Prop} (B : Begins v o H) :
    Meets (Builtin.«enumerate.__new__» ⟨[.type "enumerate", v], []⟩) (fun _ R s => H s.heap ∧
      R (.ok (.ret (.ref (s.heap.push o).objs.size))) { s with heap := (s.heap.push o).push { cls := .type "enumerate", data := .fields #[.none, .bool false, .ref s.heap.objs.size, rawInt 0, .none, .none] } }) :=
  .of_wp fun prog w A R s h => by
    obtain ⟨hp, g, d, tk, os⟩ := s; obtain ⟨h1, h⟩ := h
    have hsub := sub_enumerate
    have q1 : ∀ {A' : Around} {E : Value → Shared → Prop} {Q : Value → Shared → Prop}, Q (.ref hp.objs.size) ⟨hp.push o, g, d, tk, os⟩ → wpAny (model prog w) A' (pyIter v) Q E ⟨hp, g, d, tk, os⟩ :=
      fun q => B.iter prog w _ _ ⟨hp, g, d, tk, os⟩ _ h1 q
    wp_walk using q1
    refine wpAny_stack_any fun st => wpAny_pure ?_
    split
    · rename_i c _ _ _ _ _
      cases (c == Value.type "enumerate")
      · wp_walk using q1
        exact ⟨_, rfl, h⟩
      · wp_walk using q1
        exact ⟨_, rfl, h⟩
    · wp_walk using q1
      exact ⟨_, rfl, h⟩
section
variable {prog : Program} {w : World} {A : Around} {E : Value → Shared → Prop} {s : Shared}
theorem enum_begins1 {v : Value} {o : Obj} {H : Heap → Prop} {Q : Value → Shared → Prop} (B : Begins v o H) (h1 : H s.heap)
    (h : ∀ h', IsEnum h' (s.heap.objs.size + 1) s.heap.objs.size 0 .none → h'.get? s.heap.objs.size = some o → h'.objs.size = s.heap.objs.size + 2 →
      (∀ b o, s.heap.get? b = some o → h'.get? b = some o) → Q (.ref (s.heap.objs.size + 1)) { s with heap := h' }) :
    wpAny (model prog w) A (call (.type "enumerate") [v]) Q E s := by
  refine callType_new F.called_enumerate (by decide) (F.typeCall_enumerate_1 _) (F.newCall_enumerate_1 _) (fun obj => F.args_object_init_2 obj _) F.entry_enumerate_new
    (meets_enumerate_new1 B) ⟨h1, ?_⟩
  have hz : (s.heap.push o).objs.size = s.heap.objs.size + 1 := Heap.size_push ..
  show _ ∧ _
  rw [hz]
  have he : IsEnum ((s.heap.push o).push { cls := .type "enumerate", data := .fields #[.none, .bool false, .ref s.heap.objs.size, rawInt 0, .none, .none] }) (s.heap.objs.size + 1) s.heap.objs.size 0 .none := by
    have := Heap.get?_push_size (s.heap.push o) (o := { cls := .type "enumerate", data := .fields #[.none, .bool false, .ref s.heap.objs.size, rawInt 0, .none, .none] }) rfl
    rw [hz] at this; exact this
  refine ⟨⟨_, he, rfl⟩, h _ he (Heap.get?_push_of_some _ (Heap.get?_push_size _ B.free)) (by rw [Heap.size_push, hz]) fun b o x => Heap.get?_push_of_some _ (Heap.get?_push_of_some _ x)⟩
end
def one' (K : PySem.W.Frag) (vs : List V) (H : Hp) (a : Src) : Prop := ∃ xs : List V, vs = [.ref a.at] ∧ SqS K H a xs
def iEnumS (K : PySem.W.Frag) (ta : TA) : TI := fun σ H R => ta σ H fun vs H1 => ∃ a, one' K vs H1 a ∧ R (ItE K a) H1
section
variable {X : Cx} {e1 : Expr} {ta : TA} {p pos tpos : Pos} {elts : List Expr} {kk : Nat}
theorem pi_enumS (hg : Gl X "enumerate") (hm : X.mg "enumerate" = none) (ha : PA X [e1] ta) (hs : starEach [e1] X.env = [(false, eval e1 X.env)] := by rfl) :
    PI X (.Tuple elts kk tpos) (.Call (.Name "enumerate" p) [e1] [] pos) (iEnumS X.K ta) := by
  refine ⟨fun pins s σ H R I h => ?_⟩
  refine Call_ (ld_blt I hg hm boot_enumerate (PyProof.Rows.callWith_type1 (thn (ha.run pos pins s σ H _ I h) fun us s1 ⟨vs, H1, I1, r1, q1⟩ => ?_) hs rfl))
  obtain ⟨a, ⟨xs, rfl, hx⟩, q⟩ := q1
  cases r1 with
  | cons r1 rr =>
    cases rr
    cases r1
    obtain ⟨i1, _, p1, l1⟩ := inv_S I1 hx
    refine enum_begins1 (begins_S a i1.toArray) p1 fun h' he g1 hsz hk => ?_
    refine wpAny_pyIter_enum he ?_
    refine ⟨_, [(s1.heap.objs.size + 1 : Nat), s1.heap.objs.size], _, _, H1, rfl, I1.kept (t' := s1.toks) hk, turn_e (Nat.ne_of_lt l1) (Nat.succ_ne_self _) (Nat.ne_of_gt (Nat.lt_succ_of_lt l1)), ⟨⟨_, he⟩, itS_of g1⟩, fun d hd => ?_, q⟩
    have hle : s1.heap.objs.size ≤ d := by
      have e' : d = s1.heap.objs.size + 1 ∨ d = s1.heap.objs.size := by simpa using hd
      rcases e' with z | z
      · rw [z]; exact Nat.le_add_right _ _
      · rw [z]; exact Nat.le_refl _
    exact I1.fpOk hle (I1.hok.fresh hle)
end
def enumFrom (n : Nat) : List D → List D
  | [] => []
  | d :: ds => .tup [.int (n : Nat), d] :: enumFrom (n + 1) ds
theorem enumFrom_get : ∀ {ds : List D} {n i : Nat}, (enumFrom n ds)[i]? = (ds[i]?).map fun d => .tup [.int ((n + i : Nat) : Int), d]
  | [], n, i => by unfold enumFrom; simp
  | d :: ds, n, 0 => by unfold enumFrom; simp
  | d :: ds, n, i + 1 => by
    unfold enumFrom
    rw [List.getElem?_cons_succ, List.getElem?_cons_succ, enumFrom_get, show n + 1 + i = n + (i + 1) from by omega]
theorem enumFrom_len : ∀ (ds : List D) (n : Nat), (enumFrom n ds).length = ds.length
  | [], n => rfl
  | d :: ds, n => by unfold enumFrom; rw [List.length_cons, List.length_cons, enumFrom_len ds]
section
variable {K : PySem.W.Frag} {F H : Hp}
theorem walks_e {a : Src} {xs : List V} {ds : List D} (h1 : SqS K F a xs) (r1 : RpA K F xs ds) : Walks K (ItE K a) F (enumFrom 0 ds) where
  go := fun i H hi e => by
    rw [enumFrom_len] at hi
    obtain ⟨x, hx, _⟩ := r1.get (List.getElem?_eq_getElem hi)
    exact ⟨xs, x, e.s h1, hx⟩
  yld := fun i H x H' d hd e y F1 e1 e2 => by
    obtain ⟨T, x', rfl, hT, rfl, q1⟩ := y
    rw [enumFrom_get] at hd
    cases g1 : ds[i]? with
    | none => rw [g1] at hd; cases hd
    | some dd =>
      rw [g1] at hd
      obtain ⟨x2, hx, rx⟩ := r1.get g1
      have p1 := q1 xs (e.s h1)
      rw [hx] at p1
      cases p1
      cases hd
      have kf := KF.put (o := .tup [.int (i : Nat), x']) e2 hT
      refine ⟨_, kf, .tup (.inl (Rd.of upd_same)) (.cons ?_ (.cons ?_ .nil))⟩
      · rw [Nat.zero_add]; exact .int _
      · exact (rx.mono e1).mono kf.f
  stop := fun H e => ⟨xs, e.s h1, by rw [enumFrom_len, r1.length]⟩
def aEnum (aa : AA) : AI := fun ρ k => aa ρ fun as ρ1 => match as with
  | [x] => match seqD x with
    | some ds => k (enumFrom 0 ds) ρ1
    | none => False
  | _ => False
theorem lk_enum {ta : TA} {aa : AA} (ha : LkA K ta aa) : LkI K (iEnumS K ta) (aEnum aa) := by
  intro ρ k hk σ F H O s R hq
  refine ha ρ _ hk σ F H O s _ fun vs as ρ1 F1 H1 k1 s1 r1 h1 => ?_
  split at h1
  · rename_i x
    split at h1
    · rename_i ds q
      match vs, r1 with
      | [v1], r =>
        obtain ⟨a, xs, rfl, g1, g2⟩ := seqD_src r.1 q
        exact ⟨a, ⟨xs, rfl, s1.ex.s g1⟩, hq _ _ ρ1 F1 H1 k1 s1 (walks_e g1 g2) h1⟩
      | [], r => exact r.elim
      | _ :: _ :: _, r => exact r.2.elim
    · exact h1.elim
  · exact h1.elim
end
theorem gi_enum {X : Cx} {K : PySem.W.Frag} {e1 : Expr} {ta : TA} {aa : AA} {p pos tpos : Pos} {elts : List Expr} {kk : Nat} (Bn : Bt X.mg) (ha : GA X [e1] ta aa) (hg : Gl X "enumerate" := by rfl)
    (hs : starEach [e1] X.env = [(false, eval e1 X.env)] := by rfl) (hK : X.K = K := by rfl) :
    GI X (.Tuple elts kk tpos) (.Call (.Name "enumerate" p) [e1] [] pos) (iEnumS K ta) (aEnum aa) := by
  subst hK
  exact ⟨pi_enumS hg Bn.enumerate ha.pa hs, lk_enum ha.lk⟩
end DL

/-! DL18: sorted(xs) for lists and tuples of data of any length. -/
namespace DL
open PySem PySem.Spec L2
open PyProof.Rows hiding St
open PySem.W PySem.Calls

section
variable {prog : Program} {w : World} {A : Around} {E : Value → Shared → Prop} {s : Shared}
/-- what list(x) adds to the new list: vs -/
def Extends (prog : Program) (w : World) (r : Value) (vs : List Value) (s : Shared) : Prop :=
  ∀ (A : Around) (R : Result → Shared → Prop), A.handled = none →
    (∀ h' tk acc c, (∀ b o, b ≠ s.heap.objs.size → s.heap.get? b = some o → h'.get? b = some o) → h'.get? s.heap.objs.size = some { cls := .type "list", data := .seq acc c } → acc.toList = vs → R (.ok (.ret (.ref s.heap.objs.size))) { s with heap := h', toks := tk }) →
    wpAny (model prog w) A.in1 (Builtin.List.listExtendWith (.ref s.heap.objs.size) r (.ref s.heap.objs.size))
      (fun fin s' => match fin with | .done f => R (.ok f) s' | .again c' => c'.quiet = true ∧ codeAny (model prog w) A c' R s') (fun e s' => R (.error e) s') { s with heap := s.heap.push { cls := .type "list", data := .seq #[] } }
theorem collect_by {r : Value} {vs : List Value} {Q : List Value → Shared → Prop} (hx : Extends prog w r vs s) (hh : A.handled = none)
    (h : ∀ h' tk, (∀ b o, s.heap.get? b = some o → h'.get? b = some o) → s.heap.objs.size < h'.objs.size → Q vs { s with heap := h', toks := tk }) : wpAny (model prog w) A (collect r) Q E s := by
  unfold collect
  refine wpAny_bind (wpAny_runValue (codeAny_builtin entry_proto_collect' ?_))
  rw [Around.under_plainId PySem.F.plain_proto_collect _]
  show wpAny _ A.in1 (newList [] >>= fun l => again (.builtin "list.__iadd__" ⟨[l, r], []⟩)) _ _ s
  refine wpAny_bind (wpAny_newObj_type (wpAny_pure ⟨plainId_quiet PySem.F.plain_list_iadd _, codeAny_builtin entry_list_iadd' ?_⟩))
  rw [Around.under_plainId PySem.F.plain_list_iadd _]
  have fin' : ∀ h' tk acc c, (∀ b o, b ≠ s.heap.objs.size → s.heap.get? b = some o → h'.get? b = some o) → h'.get? s.heap.objs.size = some { cls := .type "list", data := .seq acc c } → acc.toList = vs →
      wpAny (model prog w) A (load s.heap.objs.size >>= fun o => match o.data with
          | Data.seq xs _ => pure xs.toList
          | _ => unsupported "internal:collect") Q E { s with heap := h', toks := tk } := fun h' tk acc c k1 k2 k3 => by
    refine wpAny_bind (wpAny_load k2 ?_)
    subst k3
    refine wpAny_pure (h h' tk (fun b o q => k1 b o (Nat.ne_of_lt (Heap.lt_size q)) q) (Heap.lt_size k2))
  refine wpAny_mono (hx A (fun q s' => ∃ h' tk acc c, q = .ok (.ret (.ref s.heap.objs.size)) ∧ s' = { s with heap := h', toks := tk } ∧ (∀ b o, b ≠ s.heap.objs.size → s.heap.get? b = some o → h'.get? b = some o) ∧
    h'.get? s.heap.objs.size = some { cls := .type "list", data := .seq acc c } ∧ acc.toList = vs) hh fun h' tk acc c k1 k2 k3 => ⟨h', tk, acc, c, rfl, rfl, k1, k2, k3⟩) (fun fin s' x => ?_) fun e s' x => ?_
  · cases fin with
    | done f =>
      obtain ⟨h', tk, acc, c, e, rfl, k1, k2, k3⟩ := x
      cases e
      exact fin' h' tk acc c k1 k2 k3
    | again c₁ =>
      refine ⟨x.1, codeAny_mono x.2 fun q s₂ y => ?_⟩
      obtain ⟨h', tk, acc, c, rfl, rfl, k1, k2, k3⟩ := y
      exact fin' h' tk acc c k1 k2 k3
  · obtain ⟨_, _, _, _, e', _⟩ := x
    cases e'
theorem extends_seq {it : Addr} {T : String} {o : Obj} {items : Array Value} {n : Nat} (hT : T = "list" ∨ T = "tuple") (ho : s.heap.get? it = some o) (hc : o.cls = .type T) (hd : o.data = .seq items n) (hz : items.size ≤ sizeLine) : Extends prog w (.ref it) items.toList s := by
  intro A R hh h
  have hS : (s.heap.push { cls := .type "list", data := .seq #[] }).get? s.heap.objs.size = some { cls := .type "list", data := .seq #[] 0 } := Heap.get?_push_size _ rfl
  obtain ⟨c, hc2⟩ : ∃ c, ((s.heap.push { cls := .type "list", data := .seq #[] }).update s.heap.objs.size (Obj.mapSeq (· ++ items))).get? s.heap.objs.size = some { cls := .type "list", data := .seq (#[] ++ items) c } :=
    ⟨_, get?_update_seq hS fun xs => xs ++ items⟩
  refine wpAny_extend_seq (s := { s with heap := s.heap.push { cls := .type "list", data := .seq #[] } }) (hsz := hz) s.heap.objs.size it _ 0 hT hS (Heap.get?_push_of_some _ ho) hc hd (h _ s.toks _ c (fun b u hb q => ?_) hc2 (by simp))
  rw [Heap.get?_update_ne _ _ _ _ hb]
  exact Heap.get?_push_of_some _ q
variable {β : Type} {vs : List Value} {bs : List β} {enc : β → PyData} {R : Value → β → Prop}
/-- sorted(x), x a thing whose items are collected as vs -/
theorem sorted_of {r : Value} {Q : Value → Shared → Prop} (hx : Extends prog w r vs s) (hh : A.handled = none)
    (e : EachIs R vs bs) (er : EachIs (fun v b => ∃ as, Reads s.heap v (enc b) as) vs bs) (hal : AllAlike (bs.map enc)) (hk : Sortable (bs.map enc)) (hL : bs.length ≤ sizeLine) (hu : ∀ b, b ∈ bs → A.units + 2 + (enc b).depth < cLine)
    (h : ∀ (out : List Value) (h' : Heap) (tk c : Nat) (D : Addr), (∀ b o, s.heap.get? b = some o → h'.get? b = some o) → s.heap.objs.size ≤ D → h'.get? D = some (seqObj "list" out.toArray c) → out.length = bs.length → EachIs R out (bs.mergeSort (dataLe false enc)) →
      Q (.ref D) { s with heap := h', toks := tk }) :
    wpAny (model prog w) A (call (.builtin "sorted") [r]) Q E s := by
  have hv : vs.length ≤ sizeLine := by rw [e.length]; exact hL
  refine call_function_entry kind_sorted plain_sorted entry_sorted (args_sorted1 _) ?_
  unfold Builtin.«sorted»
  refine wpAny_bind (m := checkCount "sorted" 1 1 _) (wpAny_pure ?_)
  refine wpAny_bind (collect_by hx hh fun h1 tk keep1 hlt => ?_)
  refine wpAny_bind (wpAny_newList ?_ hv)
  generalize eN : h1.objs.size = N at hlt
  have at1 : (h1.push (seqObj "list" vs.toArray 0)).get? N = some (seqObj "list" vs.toArray 0) := by rw [← eN]; exact Heap.get?_push_size _ rfl
  have old1 : ∀ b o, s.heap.get? b = some o → (h1.push (seqObj "list" vs.toArray 0)).get? b = some o := fun b o q => Heap.get?_push_of_some _ (keep1 b o q)
  have ne : ∀ b o, s.heap.get? b = some o → b ≠ N := fun b o q => Nat.ne_of_lt (Nat.lt_trans (Heap.lt_size q) hlt)
  have er' : EachIs (fun v b => ∃ as, Reads (sortingHeap (h1.push (seqObj "list" vs.toArray 0)) N vs) v (enc b) as) vs bs := er.mono fun _ _ ⟨as, q⟩ => ⟨as, PyProof.Rows.Reads.keeps (fun b o z => sortingHeap_old (ne b o z) (old1 b o z)) q⟩
  refine wpAny_bind (wpAny_holding (wpAny_call_entry slot_list_sort ⟨_, at1, rfl⟩ entry_list_sort ?_ (args_list_sort _)))
  refine list_sort_vals (κ := dataKind (sortingHeap (h1.push (seqObj "list" vs.toArray 0)) N vs) (bs.map enc)) (s := { s with heap := h1.push (seqObj "list" vs.toArray 0), toks := tk }) at1
    (SortsAt.data (s := { s with heap := sortingHeap (h1.push (seqObj "list" vs.toArray 0)) N vs, toks := tk }) (each_map (R := fun v d => ∃ as, Reads (sortingHeap (h1.push (seqObj "list" vs.toArray 0)) N vs) v d as) enc er') hal hk (bound_map hu)) hv ⟨.none, rfl, ?_⟩
  refine wpAny_pure ⟨_, rfl, ?_⟩
  obtain ⟨c, hc⟩ := sortedHeap_at (vs := vs) (out := (sortVals (dataKind (sortingHeap (h1.push (seqObj "list" vs.toArray 0)) N vs) (bs.map enc)) false vs vs).toArray) at1
  refine h _ _ tk c N (fun b o q => (sortedHeap_old (ne b o q) (Heap.lt_size (old1 b o q))).trans (old1 b o q)) (Nat.le_of_lt hlt) hc ?_ (sortVals_data false e er' hal)
  rw [sortVals_length false rfl]
  exact e.length
end

/-! ### as a rule -/
def rSortD (K : PySem.W.Frag) : List V → Hp → VK → Prop := fun vs H Q => ∃ (S : Src) (bs : List (V × D)), vs = [.ref S.at] ∧ SqS K H S (bs.map Prod.fst) ∧ (∀ b ∈ bs, Dp K H b.1 (toP b.2)) ∧ AllAlike (bs.map fun b => toP b.2) ∧ Sortable (bs.map fun b => toP b.2) ∧
  bs.length ≤ sizeLine ∧ (∀ b ∈ bs, deep b.2 ≤ 16) ∧ ∀ p, H p = none → Q (.ref p) (upd H p (.lst ((bs.mergeSort (dataLe false fun b => toP b.2)).map Prod.fst)))
theorem each_vals {X : Cx} {pins : List (Addr × Obj)} {σ : L2.St} {H : Hp} {s : Shared} (I : Inv X pins σ H s) : ∀ {bs : List (V × D)} {its : List Value}, Vals (bs.map Prod.fst) its → (∀ b ∈ bs, Dp X.K H b.1 (toP b.2)) →
    EachIs (fun (v : Value) (b : V × D) => RelV b.1 v) its bs ∧ EachIs (fun v b => ∃ as, Reads s.heap v (toP b.2) as) its bs
  | [], _, r, _ => by cases r; exact ⟨.nil, .nil⟩
  | b :: bs, _, r, h => by
    cases r with
    | cons r1 r2 =>
      obtain ⟨h1, h2⟩ := each_vals I r2 fun c hc => h c (List.mem_cons_of_mem _ hc)
      exact ⟨.cons r1 h1, .cons (Dp.reads I _ _ _ (h b List.mem_cons_self) r1) h2⟩
theorem vals_each : ∀ {bs : List (V × D)} {its : List Value}, EachIs (fun (v : Value) (b : V × D) => RelV b.1 v) its bs → Vals (bs.map Prod.fst) its
  | _, _, .nil => .nil
  | _, _, .cons h t => .cons h (vals_each t)
section
variable {X : Cx}
theorem cr_sortD (hc : X.calm = true) (hu : X.A.units + 65 < cLine) : CallR X (.builtin "sorted") (rSortD X.K) := by
  intro pins s σ H vs us Q I r h
  obtain ⟨S, bs, rfl, hs, hd, hal, hk, hz, hdp, q⟩ := h
  obtain ⟨its, rv, hit, hlt⟩ := inv_S I hs
  obtain ⟨u, rfl, ru⟩ := vals1 r
  obtain rfl : u = Value.ref S.at := ru
  obtain ⟨e1, e2⟩ := each_vals I rv hd
  have hl : its.length = bs.length := e1.length
  have ex : Extends X.prog X.w (.ref S.at) its s := by
    cases S with
    | L a =>
      obtain ⟨o, ho, hcl, n, hdt⟩ := hit
      exact extends_seq (items := its.toArray) (.inl rfl) ho hcl hdt (by simpa [hl] using hz)
    | T a =>
      obtain ⟨o, ho, hcl, n, hdt⟩ := hit
      exact extends_seq (items := its.toArray) (.inr rfl) ho hcl hdt (by simpa [hl] using hz)
  refine sorted_of (enc := fun b : V × D => toP b.2) ex (I.ok.hd hc) e1 e2 hal hk hz (fun b hb => by rw [depth_of]; have := hdp b hb; omega) fun out h' tk c Dn keep hle hD hol eo => ?_
  refine ⟨.ref Dn, _, I.laid (t' := tk) (o := .lst ((bs.mergeSort (dataLe false fun b => toP b.2)).map Prod.fst)) keep hle ⟨?_, out, c, vals_each eo, hD⟩, rfl, q Dn (I.hok.fresh hle)⟩
  rw [List.length_map, List.length_mergeSort]
  exact hz
end
def srtOk (ds : List D) : Prop := plains ds = true ∧ AllAlike (ds.map toP) ∧ Sortable (ds.map toP) ∧ ds.length ≤ 1000000 ∧ deeps ds ≤ 16
def srt (ds : List D) : List D := ds.mergeSort (dataLe false toP)
def aSrt (aa : AA) : AL := fun ρ k => aa ρ fun as ρ1 => match resAll ρ1 as with
  | some [.lst ds] => srtOk ds ∧ k (srt ds) ρ1
  | some [.tup ds] => srtOk ds ∧ k (srt ds) ρ1
  | _ => False
section
variable {K : PySem.W.Frag}
theorem rpa_zip {F : Hp} : ∀ {xs : List V} {ds : List D}, RpA K F xs ds → (xs.zip ds).map Prod.fst = xs ∧ (xs.zip ds).map Prod.snd = ds ∧ ∀ b ∈ xs.zip ds, Rp K F b.1 b.2
  | _, _, .nil => ⟨rfl, rfl, fun b h => by cases h⟩
  | _, _, .cons r t => by
    obtain ⟨h1, h2, h3⟩ := rpa_zip t
    refine ⟨by rw [List.zip_cons_cons, List.map_cons, h1], by rw [List.zip_cons_cons, List.map_cons, h2], fun b hb => ?_⟩
    rw [List.zip_cons_cons] at hb
    rcases List.mem_cons.mp hb with rfl | hb
    · exact r
    · exact h3 b hb
theorem rpa_of {F : Hp} : ∀ {bs : List (V × D)}, (∀ b ∈ bs, Rp K F b.1 b.2) → RpA K F (bs.map Prod.fst) (bs.map Prod.snd)
  | [], _ => .nil
  | b :: bs, h => .cons (h b List.mem_cons_self) (rpa_of fun c hc => h c (List.mem_cons_of_mem _ hc))
theorem plains_mem : ∀ {ds : List D} {d : D}, plains ds = true → d ∈ ds → plain d = true
  | e :: ds, d, h, m => by
    unfold plains at h
    simp only [Bool.and_eq_true] at h
    rcases List.mem_cons.mp m with rfl | m
    · exact h.1
    · exact plains_mem h.2 m
theorem deeps_mem : ∀ {ds : List D} {d : D}, d ∈ ds → deep d ≤ deeps ds
  | e :: ds, d, m => by
    unfold deeps
    rcases List.mem_cons.mp m with rfl | m
    · exact Nat.le_max_left _ _
    · exact Nat.le_trans (deeps_mem m) (Nat.le_max_right _ _)
theorem lk_srt {ta : TA} {aa : AA} (ha : LkA K ta aa) : LkL K (tCB (rSortD K) ta) (aSrt aa) := by
  intro ρ k hk σ F H O s Q hq
  refine ha ρ _ hk σ F H O s _ fun vs as ρ1 F1 H1 k1 s1 r1 h1 => ?_
  have go : ∀ (S : Src) (xs : List V) (ds : List D), vs = [.ref S.at] → SqS K H1 S xs → RpA K F1 xs ds → srtOk ds → k (srt ds) ρ1 → rSortD K vs H1 Q := fun S xs ds ev hs hr ok hk' => by
    obtain ⟨o1, o2, o3, o4, o5⟩ := ok
    obtain ⟨z1, z2, z3⟩ := rpa_zip hr
    have em : (xs.zip ds).map (fun b => toP b.2) = ds.map toP := by rw [show (fun b : V × D => toP b.2) = toP ∘ Prod.snd from rfl, ← List.map_map, z2]
    have hm : ∀ b ∈ xs.zip ds, b.2 ∈ ds := fun b hb => by
      have := List.mem_map_of_mem (f := Prod.snd) hb
      rw [z2] at this
      exact this
    have hlz : (xs.zip ds).length = ds.length := by rw [List.length_zip, hr.length]; exact Nat.min_self _
    refine ⟨S, xs.zip ds, ev, by rw [z1]; exact hs, fun b hb => dp_of _ _ (plains_mem o1 (hm b hb)) ((z3 b hb).mono s1.ex), by rw [em]; exact o2, by rw [em]; exact o3, by rw [hlz]; exact sz o4, fun b hb => Nat.le_trans (deeps_mem (hm b hb)) o5, fun p hp => ?_⟩
    have fp := s1.notF hp
    have nO := s1.notO hp
    have s2 : Sl K F1 (upd H1 p (.lst (((xs.zip ds).mergeSort (dataLe false fun b => toP b.2)).map Prod.fst))) ρ1 σ O := s1.kf ⟨Ex.refl _, Ex.new hp, s1.ex.trans (Ex.new hp), fun _ _ h => .inl h⟩
    have e3 : ((xs.zip ds).mergeSort (dataLe false fun b => toP b.2)).map Prod.snd = srt ds := by
      unfold srt
      rw [← z2, ← List.map_mergeSort (r := dataLe false fun b : V × D => toP b.2) (s := dataLe false toP) (f := Prod.snd) (fun a _ b _ => rfl), z2]
    refine hq p _ (srt ds) ρ1 F1 _ (k1.trans ⟨fun a o h _ => Ex.new hp a o h, Ex.refl _, fun _ _ h => .inl h, fun _ h => .inl h⟩) s2 upd_same fp nO (k1.back hp nO) ?_ hk'
    rw [← e3]
    exact rpa_of fun b hb => z3 b (List.mem_mergeSort.mp hb)
  split at h1
  · rename_i ds q
    obtain ⟨v, ev, r2⟩ := rprs1 (resAll_ok s1 r1 q)
    obtain ⟨p, ys, ep, g1, g2⟩ := r2.lst s1.ex rfl
    exact go (.L p) ys ds (by rw [ev, ep]; rfl) (SqL.of g1) g2 h1.1 h1.2
  · rename_i ds q
    obtain ⟨v, ev, r2⟩ := rprs1 (resAll_ok s1 r1 q)
    obtain ⟨p, ys, ep, g1, g2⟩ := r2.tup s1.ex rfl
    exact go (.T p) ys ds (by rw [ev, ep]; rfl) g1 g2 h1.1 h1.2
  · exact h1.elim
end
theorem gl_sorted {X : Cx} {K : PySem.W.Frag} {p pos : Pos} {e : Expr} {es : List Expr} {ta : TA} {aa : AA} (hc : X.calm = true) (hu : X.A.units + 65 < cLine) (Bn : Bt X.mg) (ha : GA X (e :: es) ta aa) (hg : Gl X "sorted" := by rfl)
    (he : starEach (e :: es) X.env = (false, eval e X.env) :: starEach es X.env := by rfl) (hpl : (backTo pos (starEach es X.env)).any (·.1) = false := by rfl) (hK : X.K = K := by rfl) :
    GL X (.Call (.Name "sorted" p) (e :: es) [] pos) (tCB (rSortD K) ta) (aSrt aa) := by
  subst hK
  exact ⟨pe_callB (cr_sortD hc hu) hg Bn.sorted (by decide +kernel) ha.pa (by decide) (by decide) he hpl, lk_srt ha.lk⟩
end DL

/-! DL19: dicts whose keys are tuples (nested too) of whole numbers, truth values, None. -/
namespace DL
open PySem PySem.Spec L2
open PyProof.Rows hiding St

/-! ### keys -/
section
variable {X : Cx} {pins : List (Addr × Obj)} {σ : L2.St} {H : Hp} {s : Shared}
mutual
theorem nis_of (I : Inv X pins σ H s) : ∀ (d : D) (v : V) (u : Value) (k : NestedKey), keyN d = some k → Rp X.K H v d → RelV v u → NestedIs s.heap k u
  | .non, v, u, k, hk, r, ru => by
    unfold keyN at hk
    cases hk; cases r; cases ru
    exact .none
  | .bl b, v, u, k, hk, r, ru => by
    unfold keyN at hk
    cases hk; cases r; cases ru
    exact .bool rfl
  | .int i, v, u, k, hk, r, ru => by
    unfold keyN at hk
    cases hk; cases r
    obtain ⟨t, rfl⟩ := ru
    exact .int i t
  | .tup ds, v, u, k, hk, r, ru => by
    unfold keyN at hk
    cases e : keysN ds with
    | none => rw [e] at hk; cases hk
    | some ks =>
      rw [e] at hk
      cases hk
      cases r with
      | tup h1 h2 =>
        obtain rfl : u = Value.ref _ := ru
        obtain ⟨its, rv, p, _⟩ := I.tuple h1
        obtain ⟨o, ho, hc, n, hd⟩ := p
        exact .tup ho hc hd (by simpa using nisA_of I ds _ _ ks e h2 rv)
  | .str x, v, u, k, hk, r, ru => by unfold keyN at hk; cases hk
  | .lst x, v, u, k, hk, r, ru => by unfold keyN at hk; cases hk
  | .adr x, v, u, k, hk, r, ru => by unfold keyN at hk; cases hk
  | .scr x, v, u, k, hk, r, ru => by unfold keyN at hk; cases hk
  | .dic x y, v, u, k, hk, r, ru => by unfold keyN at hk; cases hk
theorem nisA_of (I : Inv X pins σ H s) : ∀ (ds : List D) (vs : List V) (us : List Value) (ks : List NestedKey), keysN ds = some ks → RpA X.K H vs ds → Vals vs us → NestedAll s.heap ks us
  | [], _, _, ks, hk, r, ru => by
    unfold keysN at hk
    cases hk; cases r; cases ru
    exact .nil
  | d :: ds, _, _, ks, hk, r, ru => by
    unfold keysN at hk
    cases e1 : keyN d with
    | none => rw [e1] at hk; cases hk
    | some k =>
      cases e2 : keysN ds with
      | none => rw [e1, e2] at hk; cases hk
      | some ks' =>
        rw [e1, e2] at hk
        cases hk
        cases r with
        | cons h1 h2 =>
          cases ru with
          | cons u1 u2 => exact .cons (nis_of I d _ _ k e1 h1 u1) (nisA_of I ds _ _ ks' e2 h2 u2)
end
end
mutual
theorem hash_key (w w' : World) : ∀ (d : D) (k : NestedKey), keyN d = some k → k.hash w = k.hash w'
  | .non, k, h => by unfold keyN at h; cases h; rfl
  | .bl b, k, h => by unfold keyN at h; cases h; rfl
  | .int i, k, h => by unfold keyN at h; cases h; rfl
  | .tup ds, k, h => by
    unfold keyN at h
    cases e : keysN ds with
    | none => rw [e] at h; cases h
    | some ks =>
      rw [e] at h
      cases h
      unfold NestedKey.hash
      rw [hash_keys w w' ds ks e]
  | .str x, k, h => by unfold keyN at h; cases h
  | .lst x, k, h => by unfold keyN at h; cases h
  | .adr x, k, h => by unfold keyN at h; cases h
  | .scr x, k, h => by unfold keyN at h; cases h
  | .dic x y, k, h => by unfold keyN at h; cases h
theorem hash_keys (w w' : World) : ∀ (ds : List D) (ks : List NestedKey), keysN ds = some ks → NestedKey.hashes w ks = NestedKey.hashes w' ks
  | [], ks, h => by unfold keysN at h; cases h; rfl
  | d :: ds, ks, h => by
    unfold keysN at h
    cases e1 : keyN d with
    | none => rw [e1] at h; cases h
    | some k =>
      cases e2 : keysN ds with
      | none => rw [e1, e2] at h; cases h
      | some ks' =>
        rw [e1, e2] at h
        cases h
        unfold NestedKey.hashes
        rw [hash_key w w' d k e1, hash_keys w w' ds ks' e2]
end
mutual
theorem depth_key : ∀ (d : D) (k : NestedKey), keyN d = some k → k.depth = deep d
  | .non, k, h => by unfold keyN at h; cases h; rfl
  | .bl b, k, h => by unfold keyN at h; cases h; rfl
  | .int i, k, h => by unfold keyN at h; cases h; rfl
  | .tup ds, k, h => by
    unfold keyN at h
    cases e : keysN ds with
    | none => rw [e] at h; cases h
    | some ks =>
      rw [e] at h
      cases h
      unfold NestedKey.depth deep
      rw [depth_keys ds ks e]
  | .str x, k, h => by unfold keyN at h; cases h
  | .lst x, k, h => by unfold keyN at h; cases h
  | .adr x, k, h => by unfold keyN at h; cases h
  | .scr x, k, h => by unfold keyN at h; cases h
  | .dic x y, k, h => by unfold keyN at h; cases h
theorem depth_keys : ∀ (ds : List D) (ks : List NestedKey), keysN ds = some ks → NestedKey.depthAll ks = deeps ds
  | [], ks, h => by unfold keysN at h; cases h; rfl
  | d :: ds, ks, h => by
    unfold keysN at h
    cases e1 : keyN d with
    | none => rw [e1] at h; cases h
    | some k =>
      cases e2 : keysN ds with
      | none => rw [e1, e2] at h; cases h
      | some ks' =>
        rw [e1, e2] at h
        cases h
        unfold NestedKey.depthAll deeps
        rw [depth_key d k e1, depth_keys ds ks' e2]
end
/-- may be a key -/
def isTupD : D → Bool
  | .tup _ => true
  | _ => false
def keyOk (d : D) : Bool := isTupD d && (keyN d).isSome && decide (deep d ≤ 8)
theorem keyOk_of {d : D} (h : keyOk d = true) : ∃ ds k, d = .tup ds ∧ keyN d = some k ∧ k.depth ≤ 8 := by
  unfold keyOk at h
  simp only [Bool.and_eq_true, decide_eq_true_eq] at h
  obtain ⟨⟨h1, h2⟩, h3⟩ := h
  obtain ⟨k, hk⟩ := Option.isSome_iff_exists.mp h2
  cases d with
  | tup ds => exact ⟨ds, k, rfl, hk, by rw [depth_key _ k hk]; exact h3⟩
  | _ => cases h1

/-! ### a dict as it stands -/
section
variable {K : PySem.W.Frag} {F H : Hp}
/-- the key at j -/
theorem dic_keys : ∀ {xs : List (NestedKey × Addr × Value)} {ks : List D}, ks.map keyN = xs.map (fun x => some x.1) → RpA K F (xs.map fun x => V.ref x.2.1) ks → ∀ x ∈ xs, ∃ d, keyN d = some x.1 ∧ Rp K F (.ref x.2.1) d
  | [], _, _, _, x, h => by cases h
  | y :: xs, [], e, r, x, h => by cases e
  | y :: xs, k :: ks, e, r, x, h => by
    rw [List.map_cons, List.map_cons] at e
    cases r with
    | cons r1 r2 =>
      rcases List.mem_cons.mp h with rfl | h
      · exact ⟨k, (List.cons.inj e).1, r1⟩
      · exact dic_keys (List.cons.inj e).2 r2 x h
end
section
variable {X : Cx} {pins : List (Addr × Obj)} {σ : L2.St} {F H : Hp} {s : Shared} {p : Addr} {ks vs : List D}
theorem dic_heap (I : Inv X pins σ H s) (ex : Ex F H) {es : Array DictEntry} {ep : Nat} {xs : List (NestedKey × Addr × Value)} (h1 : H p = some (NH p es ep)) (h2 : DEnt p es xs) (h4 : ks.map keyN = xs.map (fun x => some x.1)) (h5 : RpA X.K F (xs.map fun x => V.ref x.2.1) ks) :
    s.heap.DictOfH (nestedKind X.prog X.w) p xs := by
  obtain ⟨⟨o, ho, hx, hd⟩, _⟩ := I.hok _ _ h1
  refine ⟨o, es, ep, ho, hx, hd, h2.ent X.w, fun x hx => ?_, h2.nd⟩
  obtain ⟨d, e1, e2⟩ := dic_keys h4 h5 x hx
  exact ⟨nis_of I d _ _ _ e1 (e2.mono ex) rfl, h2.dp x hx⟩
theorem key_heap (I : Inv X pins σ H s) (ex : Ex F H) {d : D} {k : NestedKey} {v : V} {u : Value} (hk : keyN d = some k) (hz : k.depth ≤ 8) (r : Rp X.K F v d) (ru : RelV v u) {b : Addr} (hu : u = .ref b) : (nestedKind X.prog X.w).is s.heap k b := by
  subst hu
  exact ⟨nis_of I d _ _ _ hk (r.mono ex) ru, hz⟩
end
/-- what stands at a key -/
def dgetK (kk : Option NestedKey) : List D → List D → Option D
  | k :: ks, v :: vs => if keyN k = kk then some v else dgetK kk ks vs
  | _, _ => none
/-- .. replaced -/
def dsetK (kk : Option NestedKey) (d : D) : List D → List D → List D
  | k :: ks, v :: vs => if keyN k = kk then d :: dsetK kk d ks vs else v :: dsetK kk d ks vs
  | _, vs => vs
def dget (ks vs : List D) (k : D) : Option D := dgetK (keyN k) ks vs
def dput (ks vs : List D) (k d : D) : List D × List D := match dget ks vs k with
  | some _ => (ks, dsetK (keyN k) d ks vs)
  | none => (ks ++ [k], vs ++ [d])
section
variable {K : PySem.W.Frag} {F H : Hp}
theorem atKey_dget {k : NestedKey} : ∀ {xs : List (NestedKey × Addr × Value)} {ys : List V} {ks vs : List D}, Vals ys (xs.map fun x => x.2.2) → ks.map keyN = xs.map (fun x => some x.1) → RpA K F ys vs →
    (dgetK (some k) ks vs = none → atKey xs k = none) ∧ ∀ d, dgetK (some k) ks vs = some d → ∃ p v, atKey xs k = some p ∧ RelV v p.2 ∧ Rp K F v d
  | [], _, [], _, _, _, _ => ⟨fun _ => rfl, fun d h => by unfold dgetK at h; cases h⟩
  | [], _, _ :: _, _, _, e, _ => by cases e
  | x :: xs, _, [], _, _, e, _ => by cases e
  | x :: xs, _, k' :: ks, vs, r, e, rp => by
    rw [List.map_cons] at r
    rw [List.map_cons, List.map_cons] at e
    cases r with
    | cons r1 r2 =>
      cases rp with
      | cons p1 p2 =>
        obtain ⟨e1, e2⟩ := List.cons.inj e
        have ih := atKey_dget (k := k) r2 e2 p2
        unfold dgetK
        by_cases hk : x.1 = k
        · rw [if_pos (by rw [e1, hk])]
          refine ⟨(fun z => by cases z), fun d z => ?_⟩
          cases z
          exact ⟨x.2, _, by unfold atKey; rw [List.find?_cons_of_pos (by simpa using hk)]; rfl, r1, p1⟩
        · rw [if_neg (by rw [e1]; intro z; exact hk (Option.some.inj z))]
          have q : atKey (x :: xs) k = atKey xs k := by unfold atKey; rw [List.find?_cons_of_neg (by simpa using hk)]
          rw [q]
          exact ih
theorem dset_keep {kk : Option NestedKey} {d : D} : ∀ {ks vs : List D}, (dsetK kk d ks vs).length = vs.length
  | [], vs => by unfold dsetK; rfl
  | _ :: _, [] => by unfold dsetK; rfl
  | k :: ks, v :: vs => by
    unfold dsetK
    split <;> rw [List.length_cons, List.length_cons, dset_keep]
/-- the values behind a store at a key that is there -/
theorem put_old {k : NestedKey} {u : Value} {v : V} {d : D} (ru : RelV v u) (rd : Rp K F v d) : ∀ {xs : List (NestedKey × Addr × Value)} {ys : List V} {ks vs : List D}, Vals ys (xs.map fun x => x.2.2) → ks.map keyN = xs.map (fun x => some x.1) → RpA K F ys vs →
    ∃ ys', Vals ys' ((xs.map (putAt k u)).map fun x => x.2.2) ∧ RpA K F ys' (dsetK (some k) d ks vs)
  | [], _, [], _, r, _, rp => by
    cases r
    cases rp
    exact ⟨[], .nil, .nil⟩
  | [], _, _ :: _, _, _, e, _ => by cases e
  | x :: xs, _, [], _, _, e, _ => by cases e
  | x :: xs, _, k' :: ks, vs, r, e, rp => by
    rw [List.map_cons] at r
    rw [List.map_cons, List.map_cons] at e
    cases r with
    | cons r1 r2 =>
      cases rp with
      | cons p1 p2 =>
        obtain ⟨e1, e2⟩ := List.cons.inj e
        obtain ⟨ys', h1, h2⟩ := put_old ru rd r2 e2 p2
        rw [List.map_cons, List.map_cons]
        unfold dsetK
        by_cases hk : x.1 = k
        · rw [if_pos (by rw [e1, hk])]
          refine ⟨v :: ys', .cons ?_ h1, .cons rd h2⟩
          unfold putAt
          rw [if_pos hk]
          exact ru
        · rw [if_neg (by rw [e1]; intro z; exact hk (Option.some.inj z))]
          refine ⟨_ :: ys', .cons ?_ h1, .cons p1 h2⟩
          unfold putAt
          rw [if_neg hk]
          exact r1
theorem put_addr {k : NestedKey} {u : Value} (xs : List (NestedKey × Addr × Value)) : (xs.map (putAt k u)).map (fun x => V.ref x.2.1) = xs.map (fun x => V.ref x.2.1) ∧ (xs.map (putAt k u)).map (fun x => some x.1) = xs.map (fun x => some x.1) := by
  refine ⟨?_, ?_⟩
  · rw [List.map_map]
    refine List.map_congr_left fun x _ => ?_
    show V.ref (putAt k u x).2.1 = _
    unfold putAt
    split <;> rfl
  · rw [List.map_map]
    refine List.map_congr_left fun x _ => ?_
    show some (putAt k u x).1 = _
    unfold putAt
    split <;> rfl
end
end DL

/-! DL20: dicts made, asked, stored to. -/
namespace DL
open PySem PySem.Spec L2
open PyProof.Rows hiding St

/-! ### by values -/
def rIxN (K : PySem.W.Frag) : R2 := fun x y H Q => ∃ (F : Hp) (a b : Addr) (ks vs : List D) (d e : D), Ex F H ∧ x = .ref a ∧ DicAt K F H a ks vs ∧ y = .ref b ∧ keyOk d = true ∧ Rp K F y d ∧ dget ks vs d = some e ∧ ∀ v, Rp K F v e → Q v H
def rInN (K : PySem.W.Frag) (neg : Bool) : R2 := fun y x H Q => ∃ (F : Hp) (a b : Addr) (ks vs : List D) (d : D), Ex F H ∧ x = .ref a ∧ DicAt K F H a ks vs ∧ y = .ref b ∧ keyOk d = true ∧ Rp K F y d ∧ Q (.bl (neg != (dget ks vs d).isSome)) H
def rSetN (K : PySem.W.Frag) : TSet := fun o y v H Q => ∃ (F : Hp) (a b : Addr) (ks vs : List D) (d e : D), Ex F H ∧ F a = none ∧ o = .ref a ∧ DicAt K F H a ks vs ∧ y = .ref b ∧ keyOk d = true ∧ Rp K F y d ∧ Rp K F v e ∧ ks.length < 1000000 ∧
  ∀ es ep, DicAt K F (upd H a (NH a es ep)) a (dput ks vs d e).1 (dput ks vs d e).2 → Q (upd H a (NH a es ep))
section
variable {X : Cx}
theorem nh_ok {P : Program} {w : World} {H' : Hp} {h : Heap} {a : Addr} {es : Array DictEntry} {ep : Nat} (x : h.DictRaw a es ep) : ObjOk P w H' h a (NH a es ep) :=
  ⟨x, let ⟨o, ho, _⟩ := x; ⟨o, ho⟩, fun h1 h2 q k => q.at k⟩
theorem ix_dicN (hu : X.A.units + 65 < cLine) : IxR X (rIxN X.K) := by
  intro value slice pins s σ H x y v u Q I rx ry h hs
  obtain ⟨F, a, b, ks, vs, d, e, ex, rfl, ⟨es, ep, xs, ys, h1, h2, h3, h4, h5, h6⟩, rfl, hk, rd, hg, q⟩ := h
  obtain rfl : v = Value.ref a := rx
  obtain rfl : u = Value.ref b := ry
  obtain ⟨ds, k, rfl, kd, kz⟩ := keyOk_of hk
  have dd := dic_heap I ex h1 h2 h4 h5
  unfold dget at hg
  rw [kd] at hg
  obtain ⟨p, z, hp, rz, rp⟩ := (atKey_dget h3 h4 h6).2 e hg
  refine tail_any dd.typeIs PySem.F.slot_dict_getitem.lookup (wpAny_getItem_heap (knd := nestedKind X.prog X.w) (show X.A.in1.units + 8 < cLine by show X.A.units + 1 + 8 < cLine; omega) (key_heap I ex kd kz rd rfl rfl) dd hp ⟨z, H, I.tok _, rz, q z rp⟩) hs
theorem op_inN (hu : X.A.units + 65 < cLine) : OpR X (compareOp .In) (rInN X.K false) := by
  intro pins s σ H y x u v Q I ry rx h
  obtain ⟨F, a, b, ks, vs, d, ex, rfl, ⟨es, ep, xs, ys, h1, h2, h3, h4, h5, h6⟩, rfl, hk, rd, q⟩ := h
  obtain rfl : v = Value.ref a := rx
  obtain rfl : u = Value.ref b := ry
  obtain ⟨ds, k, rfl, kd, kz⟩ := keyOk_of hk
  have dd := dic_heap I ex h1 h2 h4 h5
  refine wpAny_in_heap (knd := nestedKind X.prog X.w) (show X.A.in1.units + 8 < cLine by show X.A.units + 1 + 8 < cLine; omega) (key_heap I ex kd kz rd rfl rfl) h2.low dd ⟨.bl _, H, I.tok _, rfl, ?_⟩
  unfold dget at q
  rw [kd] at q
  have := atKey_dget (k := k) h3 h4 h6
  cases g : dgetK (some k) ks vs with
  | none =>
    rw [g] at q
    rw [this.1 g]
    exact q
  | some e =>
    rw [g] at q
    obtain ⟨p, _, hp, _⟩ := this.2 e g
    rw [hp]
    exact q
theorem op_notInN (hu : X.A.units + 65 < cLine) : OpR X (compareOp .NotIn) (rInN X.K true) := by
  intro pins s σ H y x u v Q I ry rx h
  obtain ⟨F, a, b, ks, vs, d, ex, rfl, ⟨es, ep, xs, ys, h1, h2, h3, h4, h5, h6⟩, rfl, hk, rd, q⟩ := h
  obtain rfl : v = Value.ref a := rx
  obtain rfl : u = Value.ref b := ry
  obtain ⟨ds, k, rfl, kd, kz⟩ := keyOk_of hk
  have dd := dic_heap I ex h1 h2 h4 h5
  refine wpAny_notIn_heap (knd := nestedKind X.prog X.w) (show X.A.in1.units + 8 < cLine by show X.A.units + 1 + 8 < cLine; omega) (key_heap I ex kd kz rd rfl rfl) h2.low dd ⟨.bl _, H, I.tok _, rfl, ?_⟩
  unfold dget at q
  rw [kd] at q
  have := atKey_dget (k := k) h3 h4 h6
  cases g : dgetK (some k) ks vs with
  | none =>
    rw [g] at q
    rw [this.1 g]
    exact q
  | some e =>
    rw [g] at q
    obtain ⟨p, _, hp, _⟩ := this.2 e g
    rw [hp]
    exact q
theorem map_len {α β γ : Type} {f : α → γ} {g : β → γ} {l : List α} {m : List β} (h : l.map f = m.map g) : l.length = m.length := by
  have := congrArg List.length h
  simpa using this
theorem nodup_snoc {α : Type} {l : List α} {x : α} (h : l.Nodup) (hx : x ∉ l) : (l ++ [x]).Nodup := by
  rw [List.nodup_append]
  refine ⟨h, by simp, fun a ha b hb z => ?_⟩
  rw [List.mem_singleton] at hb
  subst hb
  exact hx (z ▸ ha)
theorem atKey_notmem {xs : List (NestedKey × Addr × Value)} {k : NestedKey} (h : atKey xs k = none) : k ∉ xs.map (·.1) := fun hm => by
  obtain ⟨x, hx, rfl⟩ := List.mem_map.mp hm
  unfold atKey at h
  rw [Option.map_eq_none_iff, List.find?_eq_none] at h
  exact h x hx (by simp)
theorem vals_snoc {ys : List V} {us : List Value} {v : V} {u : Value} (r : Vals ys us) (h : RelV v u) : Vals (ys ++ [v]) (us ++ [u]) := by
  induction r with
  | nil => exact .cons h .nil
  | cons a _ ih => exact .cons a ih
theorem set_dicN (hu : X.A.units + 65 < cLine) : PSet X (rSetN X.K) := by
  intro pins s σ H o y v ov yu vu Q I ro ry rv h
  obtain ⟨F, a, b, ks, vs, d, e, ex, fa, rfl, ⟨es, ep, xs, ys, h1, h2, h3, h4, h5, h6⟩, rfl, hk, rd, re, hz, q⟩ := h
  obtain rfl : ov = Value.ref a := ro
  obtain rfl : yu = Value.ref b := ry
  obtain ⟨ds, k, rfl, kd, kz⟩ := keyOk_of hk
  have dd := dic_heap I ex h1 h2 h4 h5
  have hl : ks.length = xs.length := map_len h4
  refine wpAny_setItem_heap (knd := nestedKind X.prog X.w) (hsz := by rw [← hl]; exact sz (Nat.le_of_lt hz)) (show X.A.in1.units + 8 < cLine by show X.A.units + 1 + 8 < cLine; omega) (key_heap I ex kd kz rd rfl rfl) dd fun h' dd' hs => ?_
  obtain ⟨o2, es2, ep2, g1, g2, g3, g4, _, g5⟩ := dd'
  have raw : h'.DictRaw a es2 ep2 := ⟨o2, g1, g2, g3⟩
  refine ⟨upd H a (NH a es2 ep2), d_write (t' := _) I (by rw [h1]; exact True.intro) hs ⟨o2, g1⟩ (nh_ok raw), q es2 ep2 ?_⟩
  have ent : ∀ w : World, es2.toList = (storedH xs k b vu).map (entN w) := fun w => by
    rw [g4]
    refine List.map_congr_left fun x hx => ?_
    have hw : x.1.hash X.w = x.1.hash w := by
      have : ∃ d, keyN d = some x.1 := by
        unfold storedH at hx
        split at hx
        · obtain ⟨x0, hx0, rfl⟩ := List.mem_map.mp hx
          obtain ⟨d0, e0, _⟩ := dic_keys h4 h5 x0 hx0
          refine ⟨d0, ?_⟩
          unfold putAt
          split <;> exact e0
        · rcases List.mem_append.mp hx with hx | hx
          · obtain ⟨d0, e0, _⟩ := dic_keys h4 h5 x hx
            exact ⟨d0, e0⟩
          · rw [List.mem_singleton.mp hx]
            exact ⟨_, kd⟩
      obtain ⟨d0, e0⟩ := this
      exact hash_key X.w w d0 _ e0
    show (⟨x.1.hash X.w, _, _⟩ : DictEntry) = ⟨x.1.hash w, _, _⟩
    rw [hw]
  have dp : ∀ x ∈ storedH xs k b vu, x.1.depth ≤ 8 := fun x hx => by
    unfold storedH at hx
    split at hx
    · obtain ⟨x0, hx0, rfl⟩ := List.mem_map.mp hx
      have := h2.dp x0 hx0
      unfold putAt
      split <;> exact this
    · rcases List.mem_append.mp hx with hx | hx
      · exact h2.dp x hx
      · rw [List.mem_singleton.mp hx]; exact kz
  have de : DEnt a es2 (storedH xs k b vu) := ⟨h2.low, ent, g5, dp⟩
  have ak := atKey_dget (k := k) h3 h4 h6
  unfold dput dget
  rw [kd]
  cases g : dgetK (some k) ks vs with
  | none =>
    have hn := ak.1 g
    rw [storedH_new hn] at de
    refine ⟨es2, ep2, xs ++ [(k, b, vu)], ys ++ [v], upd_same, de, ?_, ?_, ?_, h6.append (.cons re .nil)⟩
    · rw [List.map_append]
      exact vals_snoc h3 rv
    · rw [List.map_append, List.map_append, h4, List.map_cons, List.map_nil, List.map_cons, List.map_nil, kd]
    · rw [List.map_append]
      exact h5.append (.cons rd .nil)
  | some e0 =>
    obtain ⟨p, _, hp, _⟩ := ak.2 e0 g
    rw [storedH_old hp] at de
    obtain ⟨ys', z1, z2⟩ := put_old (k := k) rv re h3 h4 h6
    obtain ⟨a1, a2⟩ := put_addr (k := k) (u := vu) xs
    exact ⟨es2, ep2, _, ys', upd_same, de, z1, by rw [a2]; exact h4, by rw [a1]; exact h5, z2⟩
def rLenN (K : PySem.W.Frag) : List V → Hp → VK → Prop := fun xs H Q => ∃ (F : Hp) (a : Addr) (ks vs : List D), Ex F H ∧ xs = [.ref a] ∧ DicAt K F H a ks vs ∧ ks.length ≤ 1000000 ∧ Q (.int ks.length) H
theorem call_lenN : CallR X (.builtin "len") (rLenN X.K) := by
  intro pins s σ H xs us Q I r h
  obtain ⟨F, a, ks, vs, ex, rfl, ⟨es, ep, xs, ys, h1, h2, h3, h4, h5, h6⟩, hz, q⟩ := h
  obtain ⟨u, rfl, ru⟩ := vals1 r
  obtain rfl : u = Value.ref a := ru
  have dd := dic_heap I ex h1 h2 h4 h5
  have hl : ks.length = xs.length := map_len h4
  refine PySem.call_len_dictH (knd := nestedKind X.prog X.w) h2.low dd (by omega) ⟨.int ks.length, H, I.tok _, ⟨_, by rw [hl]⟩, q⟩
/-- {} -/
def tDNewN : TE := fun _ H Q => ∀ p, H p = none → (p == sysModules) = false → Q (.ref p) (upd H p (NH p #[] 0))
theorem pe_dnewN {pos : Pos} : PE X (.Dict [] [] pos) tDNewN := ⟨fun pins s σ H Q I h => by
  have raw : (s.heap.push { cls := .type "dict", data := .dict #[] }).DictRaw s.heap.objs.size #[] 0 := ⟨_, Heap.get?_push_size _ rfl, ⟨rfl, rfl, rfl⟩, rfl⟩
  have low : (s.heap.objs.size == sysModules) = false := by
    have := I.big
    rw [beq_eq_false_iff_ne]
    exact Nat.ne_of_gt this
  exact wpAny_Dict_empty ⟨.ref s.heap.objs.size, _, I.laid (a := s.heap.objs.size) (o := NH s.heap.objs.size #[] 0) (t' := s.toks) (fun _ _ q => Heap.get?_push_of_some _ q) (Nat.le_refl _) (nh_ok raw), rfl, h _ (I.hok.fresh (Nat.le_refl _)) low⟩⟩
end
end DL

/-! DL21: dicts over data. -/
namespace DL
open PySem PySem.Spec L2
open PyProof.Rows hiding St

def fIxN : R2D := fun d e k => match d with
  | .dic ks vs => keyOk e = true ∧ ∃ x, dget ks vs e = some x ∧ k x
  | _ => False
def fInN (neg : Bool) : R2D := fun e d k => match d with
  | .dic ks vs => keyOk e = true ∧ k (.bl (neg != (dget ks vs e).isSome))
  | _ => False
def fLenN : RCD := fun ds k => match ds with
  | [.dic ks _] => ks.length ≤ 1000000 ∧ k (.int ks.length)
  | _ => False
section
variable {K : PySem.W.Frag}
theorem key_rp {F H : Hp} {u : V} {e : D} (h : keyOk e = true) (r : RpR K F H u e) : Rp K F u e ∧ ∃ b, u = .ref b := by
  obtain ⟨ds, k, rfl, _, _⟩ := keyOk_of h
  rcases r with r | ⟨_, _, q⟩
  · refine ⟨r, ?_⟩
    cases r with
    | tup a b => exact ⟨_, rfl⟩
  · exact q.elim
theorem lk_ixN : LkR K (rIxN K) fIxN := by
  intro d e k hk F H v u ex rv ru Q hq
  unfold fIxN at hk
  split at hk
  · rename_i ks vs
    obtain ⟨ko, x, hx, hk⟩ := hk
    obtain ⟨p, rfl, da⟩ := rv.dic ex rfl
    obtain ⟨re, b, rfl⟩ := key_rp ko ru
    exact ⟨F, p, b, ks, vs, e, x, ex, rfl, da, rfl, ko, re, hx, fun v r => hq v x F H (KF.refl ex) r hk⟩
  · exact hk.elim
theorem lk_inN {neg : Bool} : LkR K (rInN K neg) (fInN neg) := by
  intro e d k hk F H u v ex ru rv Q hq
  unfold fInN at hk
  split at hk
  · rename_i ks vs
    obtain ⟨ko, hk⟩ := hk
    obtain ⟨p, rfl, da⟩ := rv.dic ex rfl
    obtain ⟨re, b, rfl⟩ := key_rp ko ru
    exact ⟨F, p, b, ks, vs, e, ex, rfl, da, rfl, ko, re, hq _ _ F H (KF.refl ex) (.bl _) hk⟩
  · exact hk.elim
theorem lk_lenN : LkC K (rLenN K) fLenN := by
  intro ds k hk F H vs ex r Q hq
  unfold fLenN at hk
  split at hk
  · rename_i ks ws
    obtain ⟨hz, hk⟩ := hk
    obtain ⟨v, rfl, r1⟩ := rprs1 r
    obtain ⟨p, rfl, da⟩ := r1.dic ex rfl
    exact ⟨F, p, ks, ws, ex, rfl, da, hz, hq _ _ F H (KF.refl ex) (.int _) hk⟩
  · exact hk.elim
end
section
variable {X : Cx} {K : PySem.W.Frag} {a b : Expr} {pos : Pos} {ta tb : TE} {aa ab : AE}
theorem ge_ixN (hu : X.A.units + 65 < cLine) (ha : GE X a ta aa) (hb : GE X b tb ab) (hs : PlainIx b := by exact fun _ _ => rfl) (hK : X.K = K := by rfl) : GE X (.Subscript a b pos) (tOp (rIxN K) ta tb) (aOp fIxN aa ab) := by
  subst hK
  exact ⟨pe_ix (ix_dicN hu) ha.pe hb.pe hs, lk_op lk_ixN ha.lk hb.lk⟩
theorem ge_inN (hu : X.A.units + 65 < cLine) (ha : GE X a ta aa) (hb : GE X b tb ab) (hm : behindInMarks .In b = false) (hK : X.K = K := by rfl) : GE X (.Compare a [.In] [b] pos) (tOp (rInN K false) ta tb) (aOp (fInN false) aa ab) := by
  subst hK
  exact ge_cmp (op_inN hu) lk_inN ha hb hm
theorem gt_inN (hu : X.A.units + 65 < cLine) (ha : GE X a ta aa) (hb : GE X b tb ab) (hm : behindInMarks .In b = false) (hK : X.K = K := by rfl) : GT X (.Compare a [.In] [b] pos) (tTest (tOp (rInN K false) ta tb)) (aTest (aOp (fInN false) aa ab)) := by
  subst hK
  exact gt_cmp (op_inN hu) lk_inN ha hb hm
theorem ge_ninN (hu : X.A.units + 65 < cLine) (ha : GE X a ta aa) (hb : GE X b tb ab) (hm : behindInMarks .NotIn b = false) (hK : X.K = K := by rfl) : GE X (.Compare a [.NotIn] [b] pos) (tOp (rInN K true) ta tb) (aOp (fInN true) aa ab) := by
  subst hK
  exact ge_cmp (op_notInN hu) lk_inN ha hb hm
theorem gt_ninN (hu : X.A.units + 65 < cLine) (ha : GE X a ta aa) (hb : GE X b tb ab) (hm : behindInMarks .NotIn b = false) (hK : X.K = K := by rfl) : GT X (.Compare a [.NotIn] [b] pos) (tTest (tOp (rInN K true) ta tb)) (aTest (aOp (fInN true) aa ab)) := by
  subst hK
  exact gt_cmp (op_notInN hu) lk_inN ha hb hm
theorem ge_lenN {p : Pos} {e : Expr} {es : List Expr} {tas : TA} {aas : AA} (B : Bt X.mg) (ha : GA X (e :: es) tas aas) (hg : Gl X "len" := by rfl) (he : starEach (e :: es) X.env = (false, eval e X.env) :: starEach es X.env := by rfl) (hpl : (backTo pos (starEach es X.env)).any (·.1) = false := by rfl) (hK : X.K = K := by rfl) :
    GE X (.Call (.Name "len" p) (e :: es) [] pos) (tCB (rLenN K) tas) (aCB fLenN aas) := by
  subst hK
  exact ge_callB call_lenN lk_lenN B.len PySem.boot_len ha hg (by decide) (by decide) he hpl
end

/-! ### d[k] = v -/
def aSetN (j : Nat) (a : AE) : AG := fun d ρ k => isOd ρ j = true ∧ a ρ fun x ρ1 => match x, ρ1[j]? with
  | .im e, some (.ow (.od ks vs)) => keyOk e = true ∧ ks.length < 1000000 ∧ k (ρ1.set j (.ow (.od (dput ks vs e d).1 (dput ks vs e d).2)))
  | _, _ => False
theorem lk_setN {K : PySem.W.Frag} {ti : TE} {a : AE} {j : Nat} (ha : LkE K ti a) : LkG K (gSub (tVar j) ti (rSetN K)) (aSetN j a) [] := by
  intro d ρ k hk v σ F H O s r B' hB Q hq
  obtain ⟨ho, hk⟩ := hk
  obtain ⟨ks0, vs0, hc⟩ := isOd_get ho
  obtain ⟨p, h1, h2, h3⟩ := s.ow j _ hc
  refine ⟨.ref p, h1, ?_⟩
  refine ha ρ _ hk σ F H O s _ fun u x ρ1 F1 H1 k1 s1 r1 hk1 => ?_
  split at hk1
  · rename_i e ks vs q
    obtain ⟨ko, hz, hk1⟩ := hk1
    obtain ⟨p', g1, g2, g3⟩ := s1.ow j _ q
    rw [h1] at g1
    cases g1
    have re : Rp K F1 u e := r1
    obtain ⟨_, b, rfl⟩ := key_rp (F := F1) (H := H1) ko (.inl re)
    refine ⟨F1, p, b, ks, vs, e, d, s1.ex, (s1.fo p g2).1, rfl, g3, rfl, ko, re, r.mono k1.h2, hz, fun es ep da => ?_⟩
    exact hq _ σ F1 _ (k1.trans (Kp.write g2)) (s1.write (c' := .od _ _) q h1 da) Keep.refl hk1
  · exact hk1.elim
theorem gg_setN {X : Cx} {K : PySem.W.Frag} {x : Str} {xp pos : Pos} {i : Expr} {ti : TE} {a : AE} (hu : X.A.units + 65 < cLine) (j : Nat) (hi : GE X i ti a) (hN : X.N[j]? = some x := by rfl) (hv : Vis X.env.scope x := by first | exact Or.inl rfl | exact Or.inr (Or.inl rfl) | exact Or.inr (Or.inr rfl)) (hd : (x == ("__debug__" : Str)) = false := by decide)
    (hcd : (x == ("__classdict__" : Str)) = false := by decide) (ha : ∀ v, assign (.Subscript (.Name x xp) i pos) X.env v = (do
      let ov ← holding [v] (eval (.Name x xp) X.env)
      let iv ← holding [v, ov] (eval i X.env)
      standAt pos
      holding [v, ov, iv] (setItem ov iv v)
      release [v, ov, iv] []) := by intro _; rfl) (hK : X.K = K := by rfl) : GG X (.Subscript (.Name x xp) i pos) (gSub (tVar j) ti (rSetN K)) (aSetN j a) [] := by
  subst hK
  exact ⟨pg_sub (pe_var hN hv hd hcd) hi.pe (set_dicN hu) ha, lk_setN hi.lk⟩

/-! ### new dicts -/
abbrev AN := AR → (List D → List D → AR → Prop) → Prop
def LkN (K : PySem.W.Frag) (te : TE) (an : AN) : Prop := ∀ (ρ : AR) (k : List D → List D → AR → Prop), an ρ k → ∀ (σ : L2.St) (F H : Hp) (O : Addr → Prop), Sl K F H ρ σ O → ∀ Q : VK,
  (∀ p ks vs ρ' F' H', Kp O F H O F' H' → Sl K F' H' ρ' σ O → DicAt K F' H' p ks vs → F' p = none → ¬ O p → H p = none → k ks vs ρ' → Q (.ref p) H') → te σ H Q
structure GN (X : Cx) (e : Expr) (te : TE) (an : AN) : Prop where
  pe : PE X e te
  lk : LkN X.K te an
def aDNew : AN := fun ρ k => k [] [] ρ
section
variable {K : PySem.W.Frag}
theorem dic_empty {F H : Hp} {p : Addr} (low : (p == sysModules) = false) : DicAt K F (upd H p (NH p #[] 0)) p [] [] :=
  ⟨#[], 0, [], [], upd_same, ⟨low, fun _ => rfl, List.Pairwise.nil, fun x h => by cases h⟩, .nil, rfl, .nil, .nil⟩
theorem lk_dnew : LkN K tDNewN aDNew := by
  intro ρ k hk σ F H O s Q hq p hp low
  have s2 : Sl K F (upd H p (NH p #[] 0)) ρ σ O := s.kf ⟨Ex.refl _, Ex.new hp, s.ex.trans (Ex.new hp), fun _ _ h => .inl h⟩
  exact hq p [] [] ρ F _ ⟨fun a o h _ => Ex.new hp a o h, Ex.refl _, fun _ _ h => .inl h, fun _ h => .inl h⟩ s2 (dic_empty low) (s.notF hp) (s.notO hp) hp hk
def aMFd (an : AN) : AM := fun ρ k => an ρ fun ks vs ρ1 => k (.fd ks vs) ρ1
def aAsgN (an : AN) (i : Nat) : AS := fun A ρ => an ρ fun ks vs ρ1 => A.nx (ρ1.set i (.ow (.od ks vs)))
def aOfN (an : AN) : AE := fun ρ k => an ρ fun ks vs ρ1 => k (.im (.dic ks vs)) ρ1
theorem lk_asgN {W : WX'} {te : TE} {an : AN} (hl : LkN K te an) (i : Nat) : LkS K W (tAsg te (gName i)) (aAsgN an i) [i] := by
  intro A ρ h σ F H O s B' Dn hB bd
  refine hl ρ _ h σ F H O s _ fun p ks vs ρ1 F1 H1 k1 s1 da fp nO h0 h1 => ?_
  refine bd.nx (ρ1.set i (.ow (.od ks vs))) (σ.set i (some (.ref p))) F1 H1 (fun a => O a ∨ a = p) ⟨k1.h1, k1.h2, k1.h3, fun a ha => ?_⟩ (s1.setOw (c := .od ks vs) da fp nO i) (Keep.set (hB i List.mem_cons_self)) h1
  rcases ha with ha | rfl
  · exact .inl ha
  · exact .inr h0
theorem LkN.toE {te : TE} {an : AN} (h : LkN K te an) : LkE K te (aOfN an) := by
  intro ρ k hk σ F H O s Q hq
  refine h ρ _ hk σ F H O s Q fun p ks vs ρ' F' H' kp s' da fp nO h0 hk' => ?_
  obtain ⟨es, ep, xs, ys, g1, g2, g3, g4, g5, g6⟩ := da
  have fr := Ex.new (o := NH p es ep) fp
  exact hq (.ref p) (.im (.dic ks vs)) ρ' (upd F' p (NH p es ep)) H' (kp.freeze fp (.inr h0)) (s'.freeze g1 fp nO) (.dic upd_same g2 g3 g4 (g5.mono fr) (g6.mono fr)) hk'
end
section
variable {X : Cx} {ex : Expr} {te : TE} {an : AN}
theorem gn_dnew {pos : Pos} : GN X (.Dict [] [] pos) tDNewN aDNew := ⟨pe_dnewN, lk_dnew⟩
theorem GN.m (g : GN X ex te an) : GM X ex te (aMFd an) := ⟨g.pe, fun ρ k hk σ F H O s Q hq => g.lk ρ _ hk σ F H O s _ fun p ks vs ρ1 F1 H1 k1 s1 da fp nO h0 h1 => hq _ (.fd ks vs) ρ1 F1 H1 k1 s1 ⟨p, rfl, da, fp, nO, h0⟩ h1⟩
theorem GN.e (g : GN X ex te an) : GE X ex te (aOfN an) := ⟨g.pe, g.lk.toE⟩
theorem gs_setN {W : WX'} {i : Nat} {x : Str} {pos' pos : Pos} (hN : X.N.Nodup) (he : GN X ex te an) (hi : X.N[i]? = some x := by rfl) (hx : Loc X.env.scope x := by first | exact .inl rfl | exact .inr rfl) (hs : swapsWith ex (some (.Name x pos')) pos.line X.env = pure false := by rfl) (hf : X.fn x = true ∨ X.env.scope.names.lookup x = some .local := by first | exact .inl rfl | exact .inr rfl | assumption) :
    GS X W (.Assign [.Name x pos'] ex pos) (tAsg te (gName i)) (aAsgN an i) [i] := ⟨ps_set hN hi hx he.pe hs hf, lk_asgN he.lk i⟩
end
end DL

/-! DL22: the tables of sets of up to 1200 tuples of whole numbers (the masks 7 .. 2047): what a search meets, what a new layout is. -/
namespace BS
open PySem PySem.Spec PyProof.Rows L2

/-! ### the round of a mask -/
def sawBits (m : Nat) : Nat → Nat → Nat → Nat
  | 0, _, b => b
  | n + 1, i, b => sawBits m n ((i * 5 + 1) % (m + 1)) (b ||| 2 ^ i)
theorem lcg_front (m : Nat) (i : Nat) : ∀ k, lcgI m i (k + 1) = lcgI m ((i * 5 + 1) % (m + 1)) k
  | 0 => rfl
  | k + 1 => congrArg (fun z => (z * 5 + 1) % (m + 1)) (lcg_front m i k)
theorem lcg_then (m : Nat) (i a : Nat) : ∀ k, lcgI m (lcgI m i a) k = lcgI m i (a + k)
  | 0 => rfl
  | k + 1 => congrArg (fun z => (z * 5 + 1) % (m + 1)) (lcg_then m i a k)
theorem saw_of {m j : Nat} : ∀ (n i b : Nat), (sawBits m n i b).testBit j = true → b.testBit j = true ∨ ∃ k, k < n ∧ lcgI m i k = j
  | 0, _, _, h => .inl h
  | n + 1, i, b, h => by
    rcases saw_of n _ _ h with h | ⟨k, hk, e⟩
    · rw [Nat.testBit_or, Bool.or_eq_true, Nat.testBit_two_pow, decide_eq_true_eq] at h
      rcases h with h | h
      · exact .inl h
      · exact .inr ⟨0, Nat.succ_pos _, h⟩
    · exact .inr ⟨k + 1, Nat.succ_lt_succ hk, by rw [lcg_front]; exact e⟩
/-- the masks of sets of up to 1228 things -/
def Mk (m : Nat) : Prop := m = 7 ∨ m = 31 ∨ m = 127 ∨ m = 511 ∨ m = 2047
theorem whole7 : sawBits 7 8 0 0 = 2 ^ 8 - 1 ∧ lcgI 7 0 8 = 0 := by decide +kernel
theorem whole31 : sawBits 31 32 0 0 = 2 ^ 32 - 1 ∧ lcgI 31 0 32 = 0 := by decide +kernel
theorem whole127 : sawBits 127 128 0 0 = 2 ^ 128 - 1 ∧ lcgI 127 0 128 = 0 := by decide +kernel
theorem whole511 : sawBits 511 512 0 0 = 2 ^ 512 - 1 ∧ lcgI 511 0 512 = 0 := by decide +kernel
theorem whole2047 : sawBits 2047 2048 0 0 = 2 ^ 2048 - 1 ∧ lcgI 2047 0 2048 = 0 := by decide +kernel
theorem Mk.whole {m : Nat} (h : Mk m) : sawBits m (m + 1) 0 0 = 2 ^ (m + 1) - 1 ∧ lcgI m 0 (m + 1) = 0 := by
  rcases h with rfl | rfl | rfl | rfl | rfl
  · exact whole7
  · exact whole31
  · exact whole127
  · exact whole511
  · exact whole2047
theorem Mk.odd {m : Nat} (h : Mk m) : m % 2 = 1 := by rcases h with rfl | rfl | rfl | rfl | rfl <;> rfl
theorem Mk.le {m : Nat} (h : Mk m) : m ≤ 2047 := by rcases h with rfl | rfl | rfl | rfl | rfl <;> decide
theorem Mk.from0 {m : Nat} (h : Mk m) {j : Nat} (hj : j ≤ m) : ∃ k, k ≤ m ∧ lcgI m 0 k = j := by
  have b : (sawBits m (m + 1) 0 0).testBit j = true := by
    rw [h.whole.1, Nat.testBit_two_pow_sub_one, decide_eq_true_eq]
    omega
  rcases saw_of _ _ _ b with z | ⟨k, hk, e⟩
  · rw [Nat.zero_testBit] at z
    cases z
  · exact ⟨k, by omega, e⟩
theorem Mk.trip {m : Nat} (h : Mk m) {i j : Nat} (hi : i ≤ m) (hj : j ≤ m) : ∃ k, k ≤ m ∧ lcgI m i k = j := by
  obtain ⟨a, ha, ea⟩ := h.from0 hi
  obtain ⟨b, hb, eb⟩ := h.from0 hj
  subst ea
  by_cases c : a ≤ b
  · exact ⟨b - a, by omega, by rw [lcg_then, Nat.add_sub_cancel' c]; exact eb⟩
  · refine ⟨m + 1 + b - a, by omega, ?_⟩
    rw [lcg_then, show a + (m + 1 + b - a) = (m + 1) + b by omega, ← lcg_then, h.whole.2]
    exact eb

/-! ### where a search stands -/
abbrev stand (m : Nat) (h : Int) (c : Nat) : SetTable.Probe := nth m (runAt m (SetTable.bits h % (m + 1)) (SetTable.bits h)) c
theorem stand_add (m : Nat) (h : Int) (c q : Nat) : nth m (stand m h c) q = stand m h (c + q) := (nth_add m c _ q).symm
theorem stand_way (m : Nat) (h : Int) (c q : Nat) : (nth m (stand m h c) q).j = way m h (c + q) := congrArg SetTable.Probe.j (stand_add m h c q)
theorem nth_plain (m : Nat) : ∀ (n : Nat) (p : SetTable.Probe), p.dummy = none → (nth m p n).dummy = none
  | 0, _, h => h
  | n + 1, p, h => nth_plain m n (adv m p) (by unfold adv; split <;> exact h)
theorem way_in (m : Nat) (h : Int) (k : Nat) : way m h k ≤ m := by
  have b : SetTable.bits h % (m + 1) ≤ m := Nat.le_of_lt_succ (Nat.mod_lt _ (Nat.succ_pos m))
  have e := runEnd_bd b
  have q := nth_in (m := m) k (runAt m (SetTable.bits h % (m + 1)) (SetTable.bits h)) (show SetTable.bits h % (m + 1) + (SetTable.runEnd m (SetTable.bits h % (m + 1)) - SetTable.bits h % (m + 1)) ≤ m by omega)
  exact Nat.le_trans (Nat.le_add_right _ _) q
/-- every slot begins a run, soon enough -/
theorem Mk.run {m : Nat} (hm : Mk m) (h : Int) {j : Nat} (hj : j ≤ m) : ∃ n, n ≤ m + 12 ∧ runI m (SetTable.bits h) n = j := by
  obtain ⟨k, hk, e⟩ := hm.trip (runI_le m (SetTable.bits h) 12) hj
  exact ⟨12 + k, Nat.add_comm 12 m ▸ Nat.add_le_add_left hk 12, (runI_tail (bits_lt h) k).trans e⟩
theorem Mk.met {m : Nat} (hm : Mk m) (h : Int) {j : Nat} (hj : j ≤ m) : ∃ k, k < 10 * SetTable.turns m ∧ way m h k = j := by
  obtain ⟨n, hn, e⟩ := hm.run h hj
  obtain ⟨k, hk, e'⟩ := run_nth m (SetTable.bits h) n
  refine ⟨k, ?_, ?_⟩
  · show k < 10 * (m + 15)
    omega
  · exact (congrArg SetTable.Probe.j e').trans e

/-! ### a table in order -/
/-- every hash's slot is met from the hash, and before it no free slot -/
structure Tab (t : SetTable) (hs : List Int) : Prop where
  up : Ris t.place.toList
  clean : t.dummies = #[]
  many : t.place.size = hs.length
  msk : Mk t.mask
  within : ∀ x ∈ t.place.toList, x ≤ t.mask
  road : ∀ (i : Nat) (h : Int) (j : Nat), hs[i]? = some h → t.place.toList[i]? = some j → ∃ k, way t.mask h k = j ∧ ∀ q, q < k → way t.mask h q ∈ t.place.toList
/-- K: where the search for h finds a free slot -/
def Gap (t : SetTable) (h : Int) (K : Nat) : Prop := way t.mask h K ∉ t.place.toList ∧ ∀ k, k < K → way t.mask h k ∈ t.place.toList
theorem Tab.gap {t : SetTable} {hs : List Int} (T : Tab t hs) (hl : hs.length ≤ t.mask) (h : Int) : ∃ K, K < 10 * SetTable.turns t.mask ∧ Gap t h K := by
  obtain ⟨j, hj, hn⟩ := st_missing t.place.toList (t.mask + 1) (by have := T.many; rw [Array.length_toList]; omega)
  obtain ⟨k, hk, e⟩ := T.msk.met h (Nat.le_of_lt_succ hj)
  obtain ⟨K, b1, b2, b3⟩ := st_least (p := fun k => way t.mask h k ∉ t.place.toList) k (by rw [← e] at hn; exact hn)
  exact ⟨K, Nat.lt_of_le_of_lt b1 hk, b2, fun q hq => Classical.byContradiction fun z => b3 q hq z⟩
theorem Tab.ahead {t : SetTable} {hs : List Int} (T : Tab t hs) {h : Int} {K i j : Nat} (g : Gap t h K) (hi : hs[i]? = some h) (hj : t.place.toList[i]? = some j) : ∃ k, k < K ∧ way t.mask h k = j := by
  obtain ⟨k, e, b⟩ := T.road i h j hi hj
  refine ⟨k, Classical.byContradiction fun z => ?_, e⟩
  rcases Nat.eq_or_lt_of_le (Nat.le_of_not_lt z) with c | c
  · exact g.1 (by rw [c, e]; exact List.mem_of_getElem? hj)
  · exact g.1 (b K c)
theorem Tab.put {t : SetTable} {hs : List Int} (T : Tab t hs) {h : Int} {K : Nat} (g : Gap t h K) : ∃ p, p = SetTable.below t.place (way t.mask h K) ∧ p ≤ hs.length ∧
    Tab (t.put (way t.mask h K)).1 (hs.take p ++ h :: hs.drop p) ∧ (t.put (way t.mask h K)).1.fill = hs.length + 1 := by
  refine ⟨_, rfl, ?_⟩
  have hj := way_in t.mask h K
  obtain ⟨g1, g2⟩ := g
  obtain ⟨j, ej⟩ : ∃ j, way t.mask h K = j := ⟨_, rfl⟩
  rw [ej] at g1 hj ⊢
  have c := (below_cut T.up j).1
  have ll : t.place.toList.length = hs.length := T.many
  have pl : SetTable.below t.place j ≤ t.place.toList.length := c
  have ph : SetTable.below t.place j ≤ hs.length := ll ▸ pl
  have new := put_place t j
  have cnt : (t.put j).1.place.size = hs.length + 1 := by
    rw [← Array.length_toList, new, len_ins _ pl, ll]
  have more : ∀ {x : Nat}, x ∈ t.place.toList → x ∈ (t.put j).1.place.toList := fun hx => new ▸ mem_ins.2 (.inr hx)
  have nj : t.place[SetTable.below t.place j]? ≠ some j := fun z => g1 (List.mem_of_getElem? ((Array.getElem?_toList ..).trans z))
  refine ⟨ph, { up := ris_insert T.up nj, clean := put_dm T.clean j, many := ?_, msk := T.msk, within := ?_, road := ?_ }, ?_⟩
  · rw [len_ins _ ph]
    exact cnt
  · intro x hx
    rw [new] at hx
    exact (mem_ins.1 hx).elim (fun z => z ▸ hj) (T.within x)
  · intro i h' j' a b
    rw [new, tins_get _ pl] at b
    rw [tins_get hs ph] at a
    have old : ∀ i, hs[i]? = some h' → t.place.toList[i]? = some j' → ∃ k, way t.mask h' k = j' ∧ ∀ q, q < k → way t.mask h' q ∈ (t.put j).1.place.toList := fun i a b =>
      let ⟨k, e, z⟩ := T.road i h' j' a b
      ⟨k, e, fun q hq => more (z q hq)⟩
    rcases Nat.lt_trichotomy i (SetTable.below t.place j) with l | l | l
    · rw [if_pos l] at a b
      exact old i a b
    · rw [if_neg (by omega), if_pos l] at a b
      cases a
      cases b
      exact ⟨K, ej, fun q hq => more (g2 q hq)⟩
    · rw [if_neg (by omega), if_neg (by omega)] at a b
      exact old _ a b
  · show (t.put j).1.place.size + (t.put j).1.dummies.size = hs.length + 1
    rw [put_dm T.clean j, cnt]
    rfl
/-- what a search from its c-th stand on finds -/
theorem Tab.probe {t : SetTable} {hs : List Int} (T : Tab t hs) (hashAt : Nat → Int) {h : Int} {K c : Nat} (hf : K < 10 * SetTable.turns t.mask) (g : Gap t h K) (hc : c ≤ K) :
    (∃ q i, c ≤ q ∧ q < K ∧ t.place.toList[i]? = some (way t.mask h q) ∧ (∀ q' i', c ≤ q' → q' < q → t.place.toList[i']? = some (way t.mask h q') → hashAt i' ≠ h) ∧
      t.probe hashAt h (stand t.mask h c) = some (.candidate (way t.mask h q) i (stand t.mask h (q + 1)))) ∨
    ((∀ q' i', c ≤ q' → q' < K → t.place.toList[i']? = some (way t.mask h q') → hashAt i' ≠ h) ∧ t.probe hashAt h (stand t.mask h c) = some (.empty (way t.mask h K) none)) := by
  have back : ∀ q', c ≤ q' → way t.mask h q' = (nth t.mask (stand t.mask h c) (q' - c)).j := fun q' l => by rw [stand_way, Nat.add_sub_cancel' l]
  have r := go_spec t T.up T.clean hashAt h (10 * SetTable.turns t.mask) (K - c) (stand t.mask h c) (nth_plain _ _ _ rfl) (by omega)
    (fun q hq => by rw [stand_way]; exact g.2 _ (by omega)) (by rw [← back K hc]; exact g.1)
  rcases r with ⟨q, i, a1, a2, a3, a4, a5⟩ | ⟨a1, a2⟩
  · refine .inl ⟨c + q, i, Nat.le_add_right c q, by omega, by rw [stand_way] at a2; exact a2, fun q' i' l1 l2 e => a4 (q' - c) i' (by omega) (by rw [← back q' l1]; exact e), ?_⟩
    rw [stand_way, stand_add] at a5
    exact a5
  · refine .inr ⟨fun q' i' l1 l2 e => a1 (q' - c) i' (by omega) (by rw [← back q' l1]; exact e), ?_⟩
    rw [back K hc]
    exact a2

/-! ### a new layout -/
theorem Mk.free {m : Nat} (hm : Mk m) (owner : Array (Option Nat)) (h : Int) {j : Nat} (hj : j ≤ m) (hf : oAt owner j = none) :
    ∃ K, SetTable.layClean.free m owner (SetTable.turns m) (SetTable.bits h % (m + 1)) (SetTable.bits h) = some (way m h K) ∧ oAt owner (way m h K) = none ∧ ∀ k, k < K → oAt owner (way m h k) ≠ none := by
  obtain ⟨n, hn, e⟩ := hm.run h hj
  obtain ⟨N, eN⟩ : ∃ N, N = off m (SetTable.bits h % (m + 1)) (SetTable.bits h) n := ⟨_, rfl⟩
  have there : oAt owner (way m h N) = none := by
    rw [show way m h N = j by subst eN; show (nth m (runAt m _ _) (off m _ _ n)).j = j; rw [nth_off, itL_run]; exact e]
    exact hf
  obtain ⟨K, b1, b2, b3⟩ := st_least (p := fun k => oAt owner (way m h k) = none) N there
  refine ⟨K, free_spec m owner (SetTable.turns m) n _ _ K (by show n < m + 15; omega) (by rw [← eN]; exact b1) (fun q hq => ?_) (by show (oAt owner (way m h K)).isNone = true; rw [b2]; rfl), b2, b3⟩
  cases z : oAt owner (way m h q) with
  | none => exact absurd z (b3 q hq)
  | some x => rfl
theorem Mk.lay1 {m : Nat} (hm : Mk m) {done : List Int} {owner : Array (Option Nat)} (W : Own m done owner) (hl : done.length ≤ m) (h : Int) :
    ∃ owner', stepF m (some (owner, done.length)) h = some (owner', (done ++ [h]).length) ∧ Own m (done ++ [h]) owner' := by
  obtain ⟨ps, lp, pin⟩ := W.ps
  obtain ⟨j0, l0, n0⟩ := st_missing ps (m + 1) (by omega)
  have f0 : oAt owner j0 = none := Classical.byContradiction fun z => n0 (pin j0 (by omega) z)
  obtain ⟨K, e1, e2, e3⟩ := hm.free owner h (Nat.le_of_lt_succ l0) f0
  have lw := way_in m h K
  have bw : way m h K < owner.size := by have := W.sz; omega
  refine ⟨owner.setIfInBounds (way m h K) (some done.length), by rw [stepF_some e1, List.length_append]; rfl, ?_⟩
  have self := oAt_set_self (some done.length) bw
  have keep : ∀ {i : Nat}, oAt owner i ≠ none → oAt (owner.setIfInBounds (way m h K) (some done.length)) i ≠ none := fun {i} hi => by
    by_cases c : i = way m h K
    · subst c
      exact absurd e2 hi
    · rw [oAt_set_ne _ c]
      exact hi
  constructor
  · rw [Array.size_setIfInBounds]
    exact W.sz
  · intro j k hj e
    by_cases c : j = way m h K
    · subst c
      rw [self] at e
      cases e
      exact ⟨h, K, List.getElem?_concat_length, rfl, fun q hq => keep (e3 q hq)⟩
    · rw [oAt_set_ne _ c] at e
      obtain ⟨h', K', a, b, d⟩ := W.at_ j k hj e
      exact ⟨h', K', by rw [List.getElem?_append_left (List.getElem?_eq_some_iff.mp a).1]; exact a, b, fun q hq => keep (d q hq)⟩
  · intro k hk
    rw [List.length_append] at hk
    rcases Nat.lt_succ_iff_lt_or_eq.mp hk with c | c
    · obtain ⟨j, a, b⟩ := W.all k c
      refine ⟨j, a, ?_⟩
      rw [oAt_set_ne _ (fun z => by subst z; rw [e2] at b; cases b)]
      exact b
    · exact ⟨_, lw, by rw [c]; exact self⟩
  · refine ⟨way m h K :: ps, by rw [List.length_cons, lp, List.length_append]; rfl, fun j hj e => ?_⟩
    by_cases c : j = way m h K
    · exact c ▸ List.mem_cons_self
    · rw [oAt_set_ne _ c] at e
      exact List.mem_cons_of_mem _ (pin j hj e)
theorem Mk.layAll {m : Nat} (hm : Mk m) : ∀ (rest done : List Int) (owner : Array (Option Nat)), Own m done owner → done.length + rest.length ≤ m →
    ∃ owner', rest.foldl (stepF m) (some (owner, done.length)) = some (owner', (done ++ rest).length) ∧ Own m (done ++ rest) owner'
  | [], done, owner, W, _ => ⟨owner, by rw [List.append_nil]; rfl, (List.append_nil done).symm ▸ W⟩
  | h :: rest, done, owner, W, hl => by
    obtain ⟨o1, e1, W1⟩ := hm.lay1 W (by rw [List.length_cons] at hl; omega) h
    obtain ⟨o2, e2, W2⟩ := hm.layAll rest (done ++ [h]) o1 W1 (by rw [List.length_cons] at hl; rw [List.length_append, List.length_singleton]; omega)
    rw [List.append_assoc] at e2 W2
    exact ⟨o2, by rw [List.foldl_cons, e1]; exact e2, W2⟩
theorem Mk.lay {m : Nat} (hm : Mk m) {hs : Array Int} (hn : hs.size ≤ m) : ∃ owner, SetTable.layClean m hs = some owner ∧ Own m hs.toList owner := by
  obtain ⟨o, e, W⟩ := hm.layAll hs.toList [] _ (Own.init m) (by rw [Array.length_toList]; show 0 + hs.size ≤ m; omega)
  rw [List.nil_append] at W
  have e' : hs.toList.foldl (stepF m) (some (Array.replicate (m + 1) none, 0)) = some (o, ([] ++ hs.toList).length) := e
  exact ⟨o, by rw [layClean_eq, e']; rfl, W⟩
/-- all laid anew -/
theorem Mk.relaid (t : SetTable) {hs : Array Int} {wanted M : Nat} (hw : SetTable.sizeAbove wanted - 1 = M) (hM : Mk M) (hn : hs.size ≤ M) :
    ∃ t' order, t.relaid hs wanted = some (t', order) ∧ order.toList.Perm (List.range hs.size) ∧ Tab t' (order.toList.map fun i => hs.getD i 0) ∧ t'.mask = M ∧ t'.led = t.led ∧ t'.plain = t.plain := by
  obtain ⟨o, e, W⟩ := hM.lay hn
  obtain ⟨l, el⟩ : ∃ l, l = liveOf M o := ⟨_, rfl⟩
  have inl : ∀ {j k : Nat}, (j, k) ∈ l ↔ j ≤ M ∧ oAt o j = some k := fun {j k} => el ▸ mem_live W.sz
  obtain ⟨r1, r2⟩ : Ris (l.map (·.1)) ∧ ∀ x ∈ l.map (·.1), x ∈ List.range (M + 1) := el ▸ ris_live (fun j => o.getD j none) (List.range (M + 1)) (by unfold Ris; first | exact List.pairwise_lt_range | exact List.pairwise_lt_range _)
  have all : ∀ k, k < hs.size → k ∈ l.map (·.2) := fun k hk =>
    let ⟨j, a, b⟩ := W.all k hk
    List.mem_map.mpr ⟨(j, k), inl.2 ⟨a, b⟩, rfl⟩
  have len : l.length = hs.size := by
    obtain ⟨ps, lp, pin⟩ := W.ps
    have nd : (l.map (·.1)).Nodup := List.Pairwise.imp (R := fun a b : Nat => a < b) (fun h => Nat.ne_of_lt h) r1
    have up := nat_nodup_len (l.map (·.1)) ps nd fun x hx => by
      obtain ⟨⟨y, k⟩, hq, rfl⟩ := List.mem_map.mp hx
      obtain ⟨a, b⟩ := inl.1 hq
      exact pin y a (by rw [b]; exact fun z => nomatch z)
    have dn := nat_nodup_len (List.range hs.size) (l.map (·.2)) List.nodup_range fun k hk => all k (List.mem_range.mp hk)
    rw [List.length_map] at up dn
    rw [List.length_range] at dn
    have lz : hs.toList.length = hs.size := rfl
    omega
  refine ⟨tabOf t M o, (l.map (·.2)).toArray, by rw [relaid_eq, hw, e, el]; rfl, perm_range hs.size _ (by show (l.map (·.2)).length = _; rw [List.length_map, len]) all, ?_, rfl, rfl, rfl⟩
  have pe : (tabOf t M o).place.toList = l.map (·.1) := by rw [el]; rfl
  constructor
  · rw [pe]
    exact r1
  · rfl
  · show (tabOf t M o).place.toList.length = _
    rw [pe]
    show (l.map (·.1)).length = ((l.map (·.2)).map fun i => hs.getD i 0).length
    rw [List.length_map, List.length_map, List.length_map]
  · exact hM
  · intro x hx
    rw [pe] at hx
    exact Nat.le_of_lt_succ (List.mem_range.mp (r2 x hx))
  · intro i h j a b
    rw [pe] at b ⊢
    have a' : ((l.map (·.2)).map fun i => hs.getD i 0)[i]? = some h := a
    rw [List.getElem?_map] at b
    rw [List.getElem?_map, List.getElem?_map] at a'
    cases hq : l[i]? with
    | none => rw [hq] at b; cases b
    | some q =>
      obtain ⟨y, k⟩ := q
      rw [hq] at a' b
      cases b
      obtain ⟨b1, b2⟩ := inl.1 (List.mem_of_getElem? hq)
      obtain ⟨h0, K, c1, c2, c3⟩ := W.at_ y k b1 b2
      have eh : hs.getD k 0 = h := Option.some.inj a'
      have e0 : hs.getD k 0 = h0 := by
        rw [Array.getD_eq_getD_getElem?, ← Array.getElem?_toList, c1]
        rfl
      obtain rfl : h0 = h := e0.symm.trans eh
      refine ⟨K, c2, fun q hq => ?_⟩
      obtain ⟨k2, z⟩ := Option.ne_none_iff_exists'.mp (c3 q hq)
      exact List.mem_map.mpr ⟨(way M h0 q, k2), inl.2 ⟨way_in M h0 q, z⟩, rfl⟩
end BS

/-! DL23: set(xs) for a list or tuple of up to 1200 tuples of whole numbers. -/
namespace BS
open PySem PySem.Spec PyProof.Rows L2

section
variable {P : Program} {w : World} {A : Around} {E : Value → Shared → Prop} {s : Shared}
/-- at a: the set of the tuples L (addresses and numbers), in the table t -/
structure Held (P : Program) (w : World) (h : Heap) (a : Addr) (L : List (Addr × List Int)) (es : Array (Int × Value)) (ep : Nat) (t : SetTable) : Prop where
  obj : ∃ o, h.get? a = some o ∧ o.ExactSet ∧ o.data = .set es ep t
  rows : es.toList = rowsOf P w L
  tab : Tab t (L.map fun p => thash P w p.2)
  nd : (L.map (·.2)).Nodup
  tup : ∀ p ∈ L, IsT P w h p.2 p.1
  pln : t.plain = true
  led : w.params.followText "set-order" = true ∨ t.led = true
  room : L.length * 5 < t.mask * 3
variable {a : Addr} {L : List (Addr × List Int)} {es : Array (Int × Value)} {ep : Nat} {t : SetTable}
theorem rows_len {es : Array (Int × Value)} {L : List (Addr × List Int)} (h : es.toList = rowsOf P w L) : es.size = L.length := by
  rw [← Array.length_toList, h]
  exact List.length_map ..
theorem fits_of {es : Array (Int × Value)} (h1 : t.place.size = es.size) (h2 : t.dummies = #[]) (h3 : es.size ≤ t.mask) : t.fits es.size = true := by
  unfold SetTable.fits SetTable.fill
  rw [h2, h1, beq_self_eq_true, Bool.true_and, decide_eq_true_eq]
  exact h3
theorem Held.cnt (R : Held P w s.heap a L es ep t) : t.place.size = es.size ∧ es.size = L.length := by
  have e := R.tab.many
  rw [List.length_map] at e
  exact ⟨e.trans (rows_len R.rows).symm, rows_len R.rows⟩
theorem Held.fits (R : Held P w s.heap a L es ep t) : t.fits es.size = true := by
  obtain ⟨c1, c2⟩ := R.cnt
  have r := R.room
  exact fits_of c1 R.tab.clean (by omega)
theorem Held.row (R : Held P w s.heap a L es ep t) {i : Nat} {p : Addr × List Int} (h : L[i]? = some p) : es[i]? = some (thash P w p.2, Value.ref p.1) := by
  rw [← Array.getElem?_toList, R.rows, rowsOf, List.getElem?_map, h]
  rfl
theorem Held.keep {h h' : Heap} (R : Held P w h a L es ep t) (ha : ∀ o, h.get? a = some o → h'.get? a = some o) (ht : ∀ p ∈ L, IsT P w h' p.2 p.1) : Held P w h' a L es ep t :=
  let ⟨o, ho, r⟩ := R.obj
  ⟨⟨o, ha o ho, r⟩, R.rows, R.tab, R.nd, ht, R.pln, R.led, R.room⟩
theorem not_gave (T : Tab t (L.map fun p => thash P w p.2)) : ¬ t.gaveWay = true := by
  unfold SetTable.gaveWay
  rw [T.msk.odd]
  decide

/-- the search for the tuple x of k, from its c-th stand on -/
theorem find_on (R : Held P w s.heap a L es ep t) {x : Addr} {k : List Int} (hx : IsT P w s.heap k x) (hu : A.units < cLine) {K : Nat} (hf : K < 10 * SetTable.turns t.mask) (g : Gap t (thash P w k) K)
    {Q : SetFound → Shared → Prop} (yes : k ∈ L.map (·.2) → Q (.there none) s) (no : k ∉ L.map (·.2) → Q (.free (way t.mask (thash P w k) K) false) s) :
    ∀ (n c : Nat) (st : Option SetTable.Probe), st.getD (t.probeStart (thash P w k)) = stand t.mask (thash P w k) c → c ≤ K → K < c + n →
      (∀ p ∈ L, p.2 = k → ∃ c' i : Nat, c ≤ c' ∧ c' < K ∧ L[i]? = some p ∧ t.place.toList[i]? = some (way t.mask (thash P w k) c')) →
      wpAny (model P w) A (setSearchFrom a (.ref x) (thash P w k) true n st) Q E s := by
  intro n
  induction n with
  | zero => intro c st _ h1 h2; omega
  | succ n ih =>
    intro c st hst hc hn hre
    obtain ⟨o, ho, hex, hd⟩ := R.obj
    have ha : ∀ {i : Nat} {p : Addr × List Int}, L[i]? = some p → ((es[i]?.map (·.1)).getD 0) = thash P w p.2 := fun {i p} e => by rw [R.row e]; rfl
    rw [setSearchFrom_succ]
    refine wpAny_bind (wpAny_setState_of ho hd R.fits ?_)
    dsimp only
    refine wp_if_neg (not_gave R.tab) ?_
    try refine wpAny_bind (wpAny_pure ?_)
    rw [hst]
    rcases R.tab.probe (fun i => (es[i]?.map (·.1)).getD 0) hf g hc with ⟨q, i, l1, l2, hi, hno, e⟩ | ⟨hno, e⟩
    · rw [e]
      dsimp only
      obtain ⟨p, hp⟩ : ∃ p, L[i]? = some p := by
        have b := (List.getElem?_eq_some_iff.mp hi).1
        have c2 := R.cnt
        rw [Array.length_toList] at b
        exact ⟨_, List.getElem?_eq_getElem (show i < L.length by omega)⟩
      have hm : p ∈ L := List.mem_of_getElem? hp
      have live : t.slot (way t.mask (thash P w k) q) = .live i := slot_live R.tab.up hi
      have body : wpAny (model P w) A (searchRest a (.ref x) (thash P w k) true n es t (way t.mask (thash P w k) q) i (stand t.mask (thash P w k) (q + 1))) Q E s := by
        unfold searchRest
        rw [R.row hp]
        dsimp only
        refine wpAny_bind (wpAny_holding (wpAny_eqBool_tuple hu (R.tup p hm) hx ?_))
        refine wpAny_bind (wpAny_setState_of ho hd R.fits ?_)
        dsimp only
        by_cases same : p.2 = k
        · exact wp_if_pos (by simp [same]) (wpAny_pure (yes (List.mem_map.mpr ⟨p, hm, same⟩)))
        refine wp_if_neg (by simp [same]) ?_
        try refine wpAny_bind (wpAny_pure ?_)
        rw [sameMem]
        dsimp only
        simp only [if_true, live, R.row hp]
        refine wpAny_bind (wpAny_isSame_ref_self (wpAny_bind (wpAny_pure ?_)))
        simp only [if_true]
        refine wp_if_neg (by simp [same]) ?_
        refine ih (q + 1) _ rfl (by omega) (by omega) fun p0 m0 e0 => ?_
        obtain ⟨c', i0, b1, b2, b3, b4⟩ := hre p0 m0 e0
        refine ⟨c', i0, ?_, b2, b3, b4⟩
        rcases Nat.lt_trichotomy c' q with z | z | z
        · exact absurd ((ha b3).trans (congrArg (thash P w) e0)) (hno c' i0 b1 z b4)
        · subst z
          have e1 := slot_live R.tab.up b4
          rw [live] at e1
          injection e1 with e1
          subst e1
          rw [hp] at b3
          exact absurd (Option.some.inj b3 ▸ e0) same
        · exact z
      by_cases hl : t.led = true
      · refine wp_if_neg (by simp [hl]) ?_
        try refine wpAny_bind (wpAny_pure ?_)
        exact body
      · refine wp_if_pos (by simp [hl]) ?_
        refine wpAny_bind (seen_tup hx (fun y hy => ?_) ?_)
        · obtain ⟨r, hr, er⟩ := List.mem_map.mp hy
          have m1 : r ∈ es ∧ r.1 = thash P w k := by simpa using hr
          have m2 : r ∈ es.toList := by simpa using m1.1
          rw [R.rows] at m2
          obtain ⟨p2, q1, q2⟩ := List.mem_map.mp m2
          exact ⟨p2.2, p2.1, by rw [← er, ← q2], R.tup p2 q1⟩
        · refine wp_if_neg (by decide) ?_
          try refine wpAny_bind (wpAny_pure ?_)
          exact body
    · rw [e]
      dsimp only
      refine wpAny_pure (no fun hm => ?_)
      obtain ⟨p0, m0, e0⟩ := List.mem_map.mp hm
      obtain ⟨c', i0, b1, b2, b3, b4⟩ := hre p0 m0 e0
      exact hno c' i0 b1 b2 b4 ((ha b3).trans (congrArg (thash P w) e0))
/-- the search that adding makes -/
theorem find_add (R : Held P w s.heap a L es ep t) {x : Addr} {k : List Int} (hx : IsT P w s.heap k x) (hu : A.units < cLine) {Q : SetFound → Shared → Prop}
    (yes : k ∈ L.map (·.2) → Q (.there none) s) (no : ∀ K, k ∉ L.map (·.2) → Gap t (thash P w k) K → Q (.free (way t.mask (thash P w k) K) false) s) :
    wpAny (model P w) A (setSearch a (.ref x) (thash P w k) true) Q E s := by
  have r := R.room
  obtain ⟨K, hf, g⟩ := R.tab.gap (by rw [List.length_map]; omega) (thash P w k)
  have few : K < 100000 := by
    have l := R.tab.msk.le
    have hf' : K < 10 * (t.mask + 15) := hf
    omega
  unfold setSearch
  refine find_on R hx hu hf g yes (fun n => no K n g) 100000 0 none rfl (Nat.zero_le _) (by omega) fun p hp e => ?_
  obtain ⟨i, hi⟩ := List.getElem?_of_mem hp
  have b : (L.map fun p => thash P w p.2)[i]? = some (thash P w k) := by rw [List.getElem?_map, hi, ← e]; rfl
  have hl : i < t.place.toList.length := by
    have b1 := (List.getElem?_eq_some_iff.mp hi).1
    have c := R.cnt
    rw [Array.length_toList]
    omega
  obtain ⟨c, hc, ec⟩ := R.tab.ahead g b (List.getElem?_eq_getElem hl)
  exact ⟨c, i, Nat.zero_le _, hc, hi, by rw [ec]; exact List.getElem?_eq_getElem hl⟩
/-- the table made larger -/
theorem regrow {o : Obj} (ho : s.heap.get? a = some o) (hex : o.ExactSet) (hd : o.data = .set es ep t) (hr : es.toList = rowsOf P w L) (hsz : t.place.size = es.size) (hdm : t.dummies = #[]) (hfl : es.size ≤ t.mask)
    (nd : (L.map (·.2)).Nodup) (tup : ∀ p ∈ L, IsT P w s.heap p.2 p.1) (pl : t.plain = true) (ld : w.params.followText "set-order" = true ∨ t.led = true) {wanted M : Nat}
    (hw : SetTable.sizeAbove wanted - 1 = M) (hM : Mk M) (hn : L.length * 5 < M * 3) {Q : Unit → Shared → Prop}
    (hQ : ∀ h' L' es' ep' t', Heap.SameBut a s.heap h' → Held P w h' a L' es' ep' t' → L'.Perm L → Q () { s with heap := h' }) : wpAny (model P w) A (setRelay a wanted) Q E s := by
  have c := rows_len hr
  have ml := hM.le
  obtain ⟨t', order, e, pm, T, em, el, epl⟩ := hM.relaid t (hs := es.map (·.1)) hw (by rw [Array.size_map]; omega)
  rw [Array.size_map, c] at pm
  obtain ⟨L2, r1, r2, r3⟩ := order_rows L es order hr pm
  rw [← r3] at T
  have c2 : (order.filterMap (es[·]?)).size = es.size := (rows_len r1).trans (r2.length_eq.trans c.symm)
  rw [setRelay_eq]
  refine wpAny_bind (wpAny_setState_of ho hd (fits_of hsz hdm hfl) ?_)
  dsimp only
  refine wp_if_neg (by rw [sizeLine_eq]; omega) ?_
  try refine wpAny_bind (wpAny_pure ?_)
  rw [e]
  dsimp only
  refine wpAny_bind (wp_if_neg (by rw [c2]; simp) ?_)
  try refine wpAny_bind (wpAny_pure ?_)
  refine wpAny_pure ?_
  dsimp only
  refine wpAny_storeSet_of ho hd ?_ (by rw [c2, sizeLine_eq]; omega)
  have sb : Heap.SameBut a s.heap (s.heap.update a (Obj.putSet (order.filterMap (es[·]?)) t')) := Heap.SameBut.update ..
  refine hQ _ L2 (order.filterMap (es[·]?)) (ep + 1) t' sb { obj := ⟨_, store_at ho hd, ⟨hex.1, hex.2.1, hex.2.2⟩, rfl⟩, rows := r1, tab := T, nd := (r2.map (·.2)).nodup_iff.mpr nd, tup := fun p hp => isT_same (tup p (r2.mem_iff.mp hp)) ho hd sb, pln := epl.trans pl, led := el ▸ ld, room := ?_ } r2
  rw [em, r2.length_eq]
  exact hn
theorem big5 : SetTable.sizeAbove (SetTable.grown 5) = 32 := by decide +kernel
theorem big19 : SetTable.sizeAbove (SetTable.grown 19) = 128 := by decide +kernel
theorem big77 : SetTable.sizeAbove (SetTable.grown 77) = 512 := by decide +kernel
theorem big307 : SetTable.sizeAbove (SetTable.grown 307) = 2048 := by decide +kernel
/-- the mask that comes next -/
theorem Mk.next {m n : Nat} (h : Mk m) (h1 : n * 5 < m * 3) (h2 : m * 3 ≤ (n + 1) * 5) (h3 : n + 1 ≤ 1200) : ∃ M, SetTable.sizeAbove (SetTable.grown (n + 1)) - 1 = M ∧ Mk M ∧ (n + 1) * 5 < M * 3 ∧ n + 1 ≤ m := by
  rcases h with rfl | rfl | rfl | rfl | rfl
  · obtain rfl : n = 4 := by omega
    exact ⟨31, by rw [big5], .inr (.inl rfl), by decide, by decide⟩
  · obtain rfl : n = 18 := by omega
    exact ⟨127, by rw [big19], .inr (.inr (.inl rfl)), by decide, by decide⟩
  · obtain rfl : n = 76 := by omega
    exact ⟨511, by rw [big77], .inr (.inr (.inr (.inl rfl))), by decide, by decide⟩
  · obtain rfl : n = 306 := by omega
    exact ⟨2047, by rw [big307], .inr (.inr (.inr (.inr rfl))), by decide, by decide⟩
  · omega
/-- one tuple added -/
theorem put_in (R : Held P w s.heap a L es ep t) {x : Addr} {k : List Int} (hx : IsT P w s.heap k x) (hu : A.units < cLine) (hfew : L.length + 1 ≤ 1200) {Q : Bool → Shared → Prop}
    (hQ : ∀ b h' L' es' ep' t', Heap.SameBut a s.heap h' → Held P w h' a L' es' ep' t' → (k ∈ L.map (·.2) ∧ L' = L ∨ k ∉ L.map (·.2) ∧ L'.Perm ((x, k) :: L)) → Q b { s with heap := h' }) :
    wpAny (model P w) A (setAddHashed a (.ref x) (thash P w k)) Q E s := by
  obtain ⟨o, ho, hex, hd⟩ := R.obj
  have cs := R.cnt
  unfold setAddHashed
  refine wpAny_holding ?_
  rw [show (100000 : Nat) = 99999 + 1 from rfl, setAddHashedIn_succ]
  refine wpAny_bind (wpAny_setState_of ho hd R.fits ?_)
  dsimp only
  refine wp_if_neg (by simp [byScan, Value.scannable]) ?_
  try refine wpAny_bind (wpAny_pure ?_)
  refine wpAny_bind (find_add R hx hu (fun hm => wpAny_pure (hQ false s.heap L es ep t (Heap.SameBut.refl a s.heap) R (.inl ⟨hm, rfl⟩))) fun K hm g => ?_)
  dsimp only
  refine wpAny_bind (wpAny_setState_of ho hd R.fits ?_)
  dsimp only
  obtain ⟨p, ep0, hp, T1, fl1⟩ := R.tab.put g
  obtain ⟨t1, e1⟩ : ∃ t1, t1 = (t.put (way t.mask (thash P w k) K)).1 := ⟨_, rfl⟩
  have em1 : t1.mask = t.mask := by rw [e1]; rfl
  have ld1 : w.params.followText "set-order" = true ∨ t1.led = true := by rw [e1]; exact R.led
  have pl1 : t1.plain = true := by rw [e1]; exact R.pln
  have ept : t.put (way t.mask (thash P w k) K) = (t1, p) := by rw [e1, ep0]; rfl
  rw [← e1] at T1 fl1
  rw [ept]
  dsimp only
  first
    | (refine wpAny_bind ?_; refine wp_if_pos pl1 ?_; refine hashBy_tup hx ?_)
    | refine wp_if_pos pl1 (wpAny_bind (hashBy_tup hx ?_))
  simp only [if_true]
  obtain ⟨L1, eL⟩ : ∃ L1, L1 = L.take p ++ (x, k) :: L.drop p := ⟨_, rfl⟩
  obtain ⟨es1, ees⟩ : ∃ es1, es1 = SetTable.insertAt es p (thash P w k, Value.ref x) := ⟨_, rfl⟩
  have rows1 : es1.toList = rowsOf P w L1 := by rw [ees, eL, SetTable.toList_insertAt, rows_put, R.rows]
  have pm : L1.Perm ((x, k) :: L) := eL ▸ put_perm L p (x, k)
  have len1 : L1.length = L.length + 1 := pm.length_eq
  have T2 : Tab t1 (L1.map fun p => thash P w p.2) := by
    rw [eL, List.map_append, List.map_cons, List.map_take, List.map_drop]
    exact T1
  have nd1 : (L1.map (·.2)).Nodup := (pm.map (·.2)).nodup_iff.mpr (List.nodup_cons.mpr ⟨hm, R.nd⟩)
  rw [← ees]
  have cn1 : es1.size = L.length + 1 := (rows_len rows1).trans len1
  clear eL ees
  refine wpAny_bind (wpAny_storeSet_of ho hd ?_ (by rw [cn1, sizeLine_eq]; omega))
  have sb : Heap.SameBut a s.heap (s.heap.update a (Obj.putSet es1 t1)) := Heap.SameBut.update ..
  have ho1 := store_at (es' := es1) (t' := t1) ho hd
  generalize s.heap.update a (Obj.putSet es1 t1) = h1 at sb ho1 ⊢
  have tup1 : ∀ q ∈ L1, IsT P w h1 q.2 q.1 := fun q hq => (List.mem_cons.mp (pm.mem_iff.mp hq)).elim (fun e => e ▸ isT_same hx ho hd sb) fun hq => isT_same (R.tup q hq) ho hd sb
  have rm := R.room
  have full : t1.tooFull = true ↔ t.mask * 3 ≤ (L.length + 1) * 5 := by
    unfold SetTable.tooFull
    rw [decide_eq_true_eq, fl1, List.length_map, em1]
  by_cases hf : t1.tooFull = true
  · obtain ⟨M, n1, n2, n3, n4⟩ := Mk.next R.tab.msk rm (full.mp hf) hfew
    first
      | (refine wpAny_bind ?_; refine wp_if_pos (by simp [hf]) ?_)
      | (refine wp_if_pos (by simp [hf]) ?_; refine wpAny_bind ?_)
    rw [cs.2]
    refine regrow (s := { s with heap := h1 }) ho1 ⟨hex.1, hex.2.1, hex.2.2⟩ rfl rows1 ?_ T2.clean (by rw [cn1, em1]; exact n4) nd1 tup1 pl1 ld1 n1 n2 (by rw [len1]; exact n3) fun h2 L2 es2 ep2 t2 sb2 R2 pm2 => ?_
    · have z := T2.many
      rw [List.length_map, len1] at z
      rw [z, cn1]
    · exact wpAny_pure (hQ true h2 L2 es2 ep2 t2 (sb.trans sb2) R2 (.inr ⟨hm, pm2.trans pm⟩))
  · first
      | refine wp_if_neg (by simp [hf]) ?_
      | (refine wpAny_bind ?_; refine wp_if_neg (by simp [hf]) ?_; refine wpAny_pure ?_)
    have nf : ¬ t.mask * 3 ≤ (L.length + 1) * 5 := fun z => hf (full.mpr z)
    exact wpAny_pure (hQ true h1 L1 es1 (ep + 1) t1 sb ⟨⟨_, ho1, ⟨hex.1, hex.2.1, hex.2.2⟩, rfl⟩, rows1, T2, nd1, tup1, pl1, ld1, by rw [len1, em1]; omega⟩ (.inr ⟨hm, pm⟩))

/-! ### all of a walk -/
/-- what is in behind the first i -/
def In (ks : List (Addr × List Int)) (i : Nat) (L : List (Addr × List Int)) : Prop := (∀ p ∈ L, p ∈ ks.take i) ∧ (∀ p ∈ ks.take i, p.2 ∈ L.map (·.2)) ∧ L.length ≤ i
theorem In.next {ks L L' : List (Addr × List Int)} {i : Nat} {x : Addr × List Int} (g : In ks i L) (h : ks[i]? = some x) (c : x.2 ∈ L.map (·.2) ∧ L' = L ∨ x.2 ∉ L.map (·.2) ∧ L'.Perm (x :: L)) : In ks (i + 1) L' := by
  obtain ⟨g1, g2, g3⟩ := g
  unfold In
  rw [take_next h]
  rcases c with ⟨c, rfl⟩ | ⟨_, pm⟩
  · exact ⟨fun p hp => List.mem_append_left _ (g1 p hp), fun p hp => (List.mem_append.mp hp).elim (g2 p) fun z => List.mem_singleton.mp z ▸ c, Nat.le_succ_of_le g3⟩
  · have m : ∀ q, q ∈ L' ↔ q = x ∨ q ∈ L := fun q => pm.mem_iff.trans List.mem_cons
    have m2 : ∀ q, q ∈ L'.map (·.2) ↔ q = x.2 ∨ q ∈ L.map (·.2) := fun q => (pm.map (·.2)).mem_iff.trans List.mem_cons
    refine ⟨fun p hp => ?_, fun p hp => (m2 _).mpr ?_, by rw [pm.length_eq]; exact Nat.succ_le_succ g3⟩
    · rcases (m p).mp hp with rfl | z
      · exact List.mem_append_right _ (List.mem_singleton.mpr rfl)
      · exact List.mem_append_left _ (g1 p z)
    · rcases List.mem_append.mp hp with z | z
      · exact .inr (g2 p z)
      · exact .inl (by rw [List.mem_singleton.mp z])
theorem fill_all {I : Addr} {fp wr : List Addr} {G : Array GenState → Array GenState → Prop} {n : Nat} {Pv : Nat → Value → Prop} {St : Nat → Shared → Prop} {R : Result → Shared → Prop}
    (W : WalksS P w A.in1 I fp wr G n Pv St) (S : Addr) (hSf : S ∉ fp) (ks : List (Addr × List Int)) (hn : n = ks.length) (hfew : ks.length ≤ 1200) (hval : ∀ i v, Pv i v → ∃ p, ks[i]? = some p ∧ v = .ref p.1)
    (h0 : Heap) (hk : ∀ p ∈ ks, IsT P w h0 p.2 p.1) (hS0 : h0.get? S = none) (hw0 : ∀ b ∈ wr, h0.get? b = none) (hu : A.in1.units < cLine) :
    ∀ (j i : Nat) (s : Shared), i + j = n → St i s → (∀ b o, h0.get? b = some o → s.heap.get? b = some o) → (∃ L es ep t, Held P w s.heap S L es ep t ∧ In ks i L) →
      (∀ s' L es ep t, Moved (S :: wr) G s s' → Held P w s'.heap S L es ep t → In ks n L → (∀ b o, h0.get? b = some o → s'.heap.get? b = some o) → R (.ok (.ret .none)) s') →
      codeAny (model P w) A (.builtin "set.update.loop" ⟨[.ref S, .ref I], []⟩) R s := by
  have hSw : S ∉ wr := fun h => hSf (W.sub _ h)
  have mv : ∀ {s s' : Shared}, Moved wr G s s' → Moved (S :: wr) G s s' := fun h => h.mono fun b hb => List.mem_cons_of_mem _ hb
  have kp : ∀ {s s' : Shared}, Moved wr G s s' → (∀ b o, h0.get? b = some o → s.heap.get? b = some o) → ∀ b o, h0.get? b = some o → s'.heap.get? b = some o := fun hm z b o e =>
    hm.heap b o (fun hb => by have := hw0 b hb; rw [e] at this; cases this) (z b o e)
  intro j
  induction j with
  | zero =>
    rintro i s hi hst hkp ⟨L, es, ep, t, hS, g⟩ hR
    obtain rfl : i = n := hi
    refine codeAny_builtin F.entry_set_update_loop ?_
    rw [Around.under_plainId F.plain_set_update_loop _]
    show wpAny _ A.in1 (pyNext (.ref I) >>= _) _ _ s
    refine wpAny_bind (W.done s _ _ hst fun s' hm => ?_)
    have k' := kp hm hkp
    exact wpAny_pure (hR s' L es ep t (mv hm) (hS.keep (fun o e => hm.heap S o hSw e) fun p hp => isT_keep (hk p (List.mem_of_mem_take (g.1 p hp))) k') g k')
  | succ j ih =>
    rintro i s hi hst hkp ⟨L, es, ep, t, hS, g⟩ hR
    refine codeAny_builtin F.entry_set_update_loop ?_
    rw [Around.under_plainId F.plain_set_update_loop _]
    show wpAny _ A.in1 (pyNext (.ref I) >>= _) _ _ s
    refine wpAny_bind (W.item i s _ _ (by omega) hst fun v s' hP hst' hm => ?_)
    obtain ⟨p, hp, rfl⟩ := hval i v hP
    have k' := kp hm hkp
    have hS' : Held P w s'.heap S L es ep t := hS.keep (fun o e => hm.heap S o hSw e) fun q hq => isT_keep (hk q (List.mem_of_mem_take (g.1 q hq))) k'
    have hx : IsT P w s'.heap p.2 p.1 := isT_keep (hk p (List.mem_of_getElem? hp)) k'
    show wpAny _ A.in1 (holding [Value.ref p.1] (setAdd S (.ref p.1)) >>= _) _ _ s'
    refine wpAny_bind (wpAny_holding ?_)
    unfold setAdd
    refine wpAny_holding (wpAny_bind (wpAny_pyHash_tuple hu hx ?_))
    refine put_in (s := { s' with toks := s'.toks + (p.2.length + 1) }) hS' hx hu (by have := g.2.2; have := (List.getElem?_eq_some_iff.mp hp).1; omega) fun b h' L' es' ep' t' hsb hS2 c => ?_
    have k2 : ∀ b o, h0.get? b = some o → h'.get? b = some o := fun b o e => (hsb.2 b (fun z => by rw [z, hS0] at e; cases e)).trans (k' b o e)
    refine wpAny_pure ⟨plainId_quiet F.plain_set_update_loop _, ih (i + 1) _ (by omega) (W.frame _ s' _ _ hst' (Nat.le_add_right _ _) fun b hb o e => (hsb.2 b fun z => hSf (z ▸ hb)).trans e) k2 ⟨L', es', ep', t', hS2, g.next hp c⟩ fun s'' L2 es2 ep2 t2 hm2 hS3 g2 k3 => ?_⟩
    exact hR s'' L2 es2 ep2 t2 (Moved.trans W.gtrans ((mv hm).then_heap (Nat.le_add_right _ _) fun b o hb e => (hsb.2 b fun z => hb (z ▸ List.mem_cons_self)).trans e) hm2) hS3 g2 k3

abbrev newSet (w : World) : Obj := { cls := .type "set", dict := none, data := .set #[] 0 (.fresh 0 0 (!w.params.followText "set-order")) }
theorem held_new {h : Heap} {a : Addr} (ho : h.get? a = some (newSet w)) : Held P w h a [] #[] 0 (.fresh 0 0 (!w.params.followText "set-order")) where
  obj := ⟨_, ho, ⟨rfl, rfl, rfl⟩, rfl⟩
  rows := rfl
  tab := ⟨List.Pairwise.nil, rfl, rfl, .inl rfl, fun x hx => (by cases hx), fun i h j hi => (by simp at hi)⟩
  nd := List.nodup_nil
  tup := fun p hp => nomatch hp
  pln := rfl
  led := by
    show _ ∨ (!w.params.followText "set-order") = true
    cases w.params.followText "set-order" <;> simp
  room := by
    show 0 * 5 < 7 * 3
    decide
/-- set.__init__ of the new set at the heap's end -/
theorem init_from {l : Addr} {T : String} {o : Obj} {items : Array Value} {n : Nat} (ks : List (Addr × List Int)) {Z : Fin → Shared → Prop} (hT : T = "list" ∨ T = "tuple") (hh : A.handled = none) (hu : A.units + 2 < cLine)
    (ho : s.heap.get? l = some o) (hc : o.cls = .type T) (hd : o.data = .seq items n) (hit : items.toList = ks.map fun p => Value.ref p.1) (hk : ∀ p ∈ ks, IsT P w s.heap p.2 p.1) (hfew : ks.length ≤ 1200)
    (h : ∀ h' tk L es ep t, Held P w h' s.heap.objs.size L es ep t → In ks ks.length L → (∀ b o, s.heap.get? b = some o → h'.get? b = some o) → Z (.done (.ret .none)) { s with heap := h', toks := tk }) :
    wpAny (model P w) A (Builtin.«set.__init__» ⟨[.ref s.heap.objs.size, .ref l], []⟩) Z E { s with heap := s.heap.push (newSet w) } := by
  have hsz : items.size = ks.length := by rw [← Array.length_toList, hit, List.length_map]
  have hlS : l < s.heap.objs.size := Heap.lt_size ho
  have hv : ∀ (i : Nat) (v : Value), items[i]? = some v → ∃ p, ks[i]? = some p ∧ v = .ref p.1 := fun i v e => by
    rw [← Array.getElem?_toList, hit, List.getElem?_map] at e
    obtain ⟨p, e1, e2⟩ := Option.map_eq_some_iff.mp e
    exact ⟨p, e1, e2.symm⟩
  have no : ∀ b, s.heap.objs.size ≤ b → s.heap.get? b = none := fun b hb => Classical.byContradiction fun z => by
    obtain ⟨o', e⟩ := Option.ne_none_iff_exists'.mp z
    exact absurd (Heap.lt_size e) (Nat.not_lt.mpr hb)
  have hS : (s.heap.push (newSet w)).get? s.heap.objs.size = some (newSet w) := Heap.get?_push_size _ rfl
  have ho1 : (s.heap.push (newSet w)).get? l = some o := Heap.get?_push_of_some _ ho
  obtain ⟨N, eN⟩ : ∃ N : Nat, N = (s.heap.push (newSet w)).objs.size := ⟨_, rfl⟩
  have eN' : N = s.heap.objs.size + 1 := by rw [eN, Heap.size_push]
  have neI : l ≠ N := Nat.ne_of_lt (by rw [eN']; exact Nat.lt_succ_of_lt hlS)
  have outS : s.heap.objs.size ∉ [N, l] := by
    simp only [List.mem_cons, List.not_mem_nil, or_false, not_or]
    exact ⟨Nat.ne_of_lt (by rw [eN']; exact Nat.lt_succ_self _), Nat.ne_of_gt hlS⟩
  have out : ∀ (R : Result → Shared → Prop) (A' : Around) (St : Nat → Shared → Prop) (it : Obj) (W : WalksS P w A'.in1 N [N, l] [N] (fun a b => b = a) items.size (fun i v => items[i]? = some v) St) (hu' : A'.in1.units < cLine),
      St 0 { s with heap := (s.heap.push (newSet w)).push it } →
      (∀ h' tk L es ep t, Held P w h' s.heap.objs.size L es ep t → In ks ks.length L → (∀ b o, s.heap.get? b = some o → h'.get? b = some o) → R (.ok (.ret .none)) { s with heap := h', toks := tk }) →
      codeAny (model P w) A' (.builtin "set.update.loop" ⟨[.ref s.heap.objs.size, .ref N], []⟩) R { s with heap := (s.heap.push (newSet w)).push it } := fun R A' St it W hu' h0 hR => by
    refine fill_all W s.heap.objs.size outS ks hsz hfew hv s.heap hk (no _ (Nat.le_refl _)) (fun b hb => no b (by rw [List.mem_singleton.mp hb]; omega)) hu' items.size 0 _ (Nat.zero_add _) h0 (fun b o e => Heap.get?_push_of_some _ (Heap.get?_push_of_some _ e)) ⟨[], #[], 0, _, held_new (Heap.get?_push_of_some _ hS), fun p hp => (by cases hp), fun p hp => (by simp at hp), Nat.zero_le _⟩ fun s' L es ep t hm hS' g k => ?_
    obtain ⟨h', g2, d', tk', os'⟩ := s'
    obtain rfl : g2 = s.gens := hm.gens
    obtain rfl : d' = s.drawn := hm.drawn
    obtain rfl : os' = s.os := hm.os
    rw [hsz] at g
    exact hR h' tk' L es ep t hS' g k
  obtain ⟨cls, dct, dat, sl⟩ := o
  simp only at hc hd
  subst hc
  subst hd
  have hh2 : A.in1.handled = none := by simp [hh]
  have hu2 : A.in1.units < cLine := by
    show A.units + 1 < cLine
    omega
  rcases hT with rfl | rfl
  · have q1 := F.sub_list_set
    have q2 := F.sub_list_frozenset
    have q3 : (Value.type "list" == Value.type "dict") = false := by decide
    have li : (s.heap.push (newSet w)).IsList l items := ⟨_, ho1, rfl, n, rfl⟩
    unfold Builtin.«set.__init__» noKeywords Builtin.Frozenset.updateFrom
    generalize hPI : pyIter = PI
    wp_walk
    subst hPI
    refine wpAny_pyIter_list li (wpAny_bind (wpAny_runValue ?_))
    rw [← eN]
    refine out _ _ _ _ ((Walks.list hh2 N l neI items).toS) hu2 ⟨by rw [eN]; exact ⟨_, Heap.get?_push_size _ rfl, rfl, rfl⟩, li.push _⟩ fun h' tk L es ep t a b c => ?_
    exact wpAny_pure (wpAny_pure (h h' tk L es ep t a b c))
  · have q1 := F.sub_tuple_set
    have q2 := F.sub_tuple_frozenset
    have q3 : (Value.type "tuple" == Value.type "dict") = false := by decide
    have li : (s.heap.push (newSet w)).IsTuple l items := ⟨_, ho1, rfl, n, rfl⟩
    unfold Builtin.«set.__init__» noKeywords Builtin.Frozenset.updateFrom
    generalize hPI : pyIter = PI
    wp_walk
    subst hPI
    refine wpAny_pyIter_tuple li (wpAny_bind (wpAny_runValue ?_))
    rw [← eN]
    refine out _ _ _ _ ((Walks.tuple hh2 N l neI items).toS) hu2 ⟨by rw [eN]; exact ⟨_, Heap.get?_push_size _ rfl, rfl, rfl⟩, li.push _⟩ fun h' tk L es ep t a b c => ?_
    exact wpAny_pure (wpAny_pure (h h' tk L es ep t a b c))
/-- set(xs) -/
theorem set_of {l : Addr} {T : String} {o : Obj} {items : Array Value} {n : Nat} (ks : List (Addr × List Int)) {Q : Value → Shared → Prop} (hT : T = "list" ∨ T = "tuple") (hh : A.handled = none) (hu : A.units + 5 < cLine)
    (ho : s.heap.get? l = some o) (hc : o.cls = .type T) (hd : o.data = .seq items n) (hit : items.toList = ks.map fun p => Value.ref p.1) (hk : ∀ p ∈ ks, IsT P w s.heap p.2 p.1) (hfew : ks.length ≤ 1200)
    (h : ∀ h' tk L es ep t, Held P w h' s.heap.objs.size L es ep t → In ks ks.length L → (∀ b o, s.heap.get? b = some o → h'.get? b = some o) → Q (.ref s.heap.objs.size) { s with heap := h', toks := tk }) :
    wpAny (model P w) A (call (.type "set") [.ref l]) Q E s := by
  obtain ⟨c, tl, g1⟩ := F.called_set.mro
  have g2 := F.called_set.made
  have g3 := F.called_set.sub
  have g4 := F.called_set.notType
  have g5 := F.called_set.canCreate
  have g6 := F.typeCall_set_1 (.ref l)
  refine wpAny_call (codeAny_of_tree ?_)
  show wpAny _ _ (callAny (.type "set") _) _ _ _
  refine wpAny_pure ⟨Code.quiet_builtin _ (by decide +kernel), codeAny_builtin F.entry_type_call ?_⟩
  rw [Around.under_plain (weight_type_call_type "set" [.ref l] []) rfl]
  repeat (any_goals (first | assumption | wp_step))
  refine codeAny_mono (code_set_led1 (.ref l) (E := E) (Q₁ := fun v s₁ => v = .ref s.heap.objs.size ∧ s₁ = { s with heap := s.heap.push (newSet w) }) ⟨rfl, rfl⟩) fun r s₁ hr => ?_
  cases r with
  | error e => exact hr
  | ok fl =>
    cases fl with
    | ret v =>
      obtain ⟨rfl, rfl⟩ := hr
      have hTy : Shared.TypeIs { s with heap := s.heap.push (newSet w) } (.ref s.heap.objs.size) "set" := ⟨_, Heap.get?_push_size _ rfl, rfl⟩
      have g7 := F.called_set.init.lookup
      have g8 := F.called_set.init.bind (.ref s.heap.objs.size)
      repeat (any_goals (first | assumption | wp_step))
      refine codeAny_mono (codeAny_call_builtin (R := wants (fun r s₂ => r = .none ∧ ∃ h' tk L es ep t, s₂ = { s with heap := h', toks := tk } ∧ Held P w h' s.heap.objs.size L es ep t ∧ In ks ks.length L ∧ ∀ b o, s.heap.get? b = some o → h'.get? b = some o) E)
        F.called_set.init.plain F.entry_set_init (check_set_init_1 hTy ?_)) fun r₂ s₂ hr₂ => ?_
      · refine init_from ks hT (by simp [hh]) (by show A.units + 1 + 1 + 2 < cLine; omega) ho hc hd hit hk hfew fun h' tk L es ep t a b c => ?_
        exact ⟨rfl, h', tk, L, es, ep, t, rfl, a, b, c⟩
      · cases r₂ with
        | error e => exact hr₂
        | ok fl₂ =>
          cases fl₂ with
          | ret r =>
            obtain ⟨rfl, h', tk, L, es, ep, t, rfl, a, b, c⟩ := hr₂
            repeat (any_goals (first | assumption | wp_step))
            exact h h' tk L es ep t a b c
          | _ => exact hr₂.elim
    | _ => exact hr.elim
end
end BS

/-! DL24: len(set(xs)), xs a list or tuple of tuples of whole numbers. -/
namespace DL
open PySem PySem.Spec L2
open PyProof.Rows hiding St

/-- the whole numbers of a flat tuple -/
def intOf : D → Option Int
  | .int i => some i
  | _ => none
def intsOf : List D → Option (List Int)
  | [] => some []
  | d :: ds => match intOf d, intsOf ds with
    | some i, some is => some (i :: is)
    | _, _ => none
def flat : D → Option (List Int)
  | .tup ds => intsOf ds
  | _ => none
def flats : List D → Option (List (List Int))
  | [] => some []
  | d :: ds => match flat d, flats ds with
    | some k, some ks => some (k :: ks)
    | _, _ => none
/-- how many different -/
def nub : List (List Int) → List (List Int)
  | [] => []
  | x :: xs => if x ∈ xs then nub xs else x :: nub xs
def kinds (ks : List (List Int)) : Nat := (nub ks).length
theorem mem_nub {x : List Int} : ∀ {ks : List (List Int)}, x ∈ nub ks ↔ x ∈ ks
  | [] => Iff.rfl
  | y :: ks => by
    unfold nub
    split
    · rename_i h
      rw [mem_nub, List.mem_cons]
      exact ⟨.inr, fun z => z.elim (fun e => e ▸ h) id⟩
    · rw [List.mem_cons, List.mem_cons, mem_nub]
theorem nodup_nub : ∀ {ks : List (List Int)}, (nub ks).Nodup
  | [] => List.nodup_nil
  | y :: ks => by
    unfold nub
    split
    · exact nodup_nub
    · rename_i h
      exact List.nodup_cons.mpr ⟨fun z => h (mem_nub.mp z), nodup_nub⟩
theorem kinds_nodup : ∀ {ks : List (List Int)}, ks.Nodup → kinds ks = ks.length
  | [], _ => rfl
  | y :: ks, h => by
    obtain ⟨h1, h2⟩ := List.nodup_cons.mp h
    unfold kinds nub
    rw [if_neg h1, List.length_cons, List.length_cons]
    exact congrArg (· + 1) (kinds_nodup h2)
theorem kinds_le : ∀ (ks : List (List Int)), kinds ks ≤ ks.length
  | [] => Nat.le_refl _
  | y :: ks => by
    have ih := kinds_le ks
    unfold kinds at ih ⊢
    unfold nub
    split <;> simp only [List.length_cons] <;> omega
theorem nodup_kinds : ∀ {ks : List (List Int)}, kinds ks = ks.length → ks.Nodup
  | [], _ => List.nodup_nil
  | y :: ks, h => by
    have le := kinds_le ks
    unfold kinds at h le
    unfold nub at h
    split at h
    · rw [List.length_cons] at h
      omega
    · rename_i hn
      rw [List.length_cons, List.length_cons] at h
      exact List.nodup_cons.mpr ⟨hn, nodup_kinds (by unfold kinds; omega)⟩
theorem flats_len : ∀ {ds : List D} {ks : List (List Int)}, flats ds = some ks → ks.length = ds.length
  | [], _, h => by unfold flats at h; cases h; rfl
  | d :: ds, ks, h => by
    unfold flats at h
    split at h
    · rename_i k ks' h1 h2
      cases h
      rw [List.length_cons, List.length_cons, flats_len h2]
    · cases h
section
variable {K : PySem.W.Frag} {F : Hp}
theorem rpa_intsOf : ∀ {vs : List V} {ds : List D} {is : List Int}, RpA K F vs ds → intsOf ds = some is → vs = is.map V.int
  | _, _, _, .nil, h => by unfold intsOf at h; cases h; rfl
  | _, _, _, .cons (d := d) r t, h => by
    unfold intsOf at h
    split at h
    · rename_i i is' h1 h2
      cases h
      cases d with
      | int j =>
        unfold intOf at h1
        cases h1
        cases r
        rw [rpa_intsOf t h2]
        rfl
      | _ => unfold intOf at h1; cases h1
    · cases h
theorem rp_flat {v : V} {d : D} {is : List Int} (r : Rp K F v d) (h : flat d = some is) : ∃ a, v = .ref a ∧ SqT K F a (is.map V.int) := by
  cases d with
  | tup ds =>
    cases r with
    | tup h1 h2 => exact ⟨_, rfl, by rw [← rpa_intsOf h2 h]; exact h1⟩
  | _ => unfold flat at h; cases h
theorem rpa_flats : ∀ {vs : List V} {ds : List D} {ks : List (List Int)}, RpA K F vs ds → flats ds = some ks → ∃ ps : List (Addr × List Int), vs = ps.map (fun p => V.ref p.1) ∧ ps.map (·.2) = ks ∧ ∀ p ∈ ps, SqT K F p.1 (p.2.map V.int)
  | _, _, _, .nil, h => by unfold flats at h; cases h; exact ⟨[], rfl, rfl, fun p hp => (by cases hp)⟩
  | _, _, _, .cons r t, h => by
    unfold flats at h
    split at h
    · rename_i k ks' h1 h2
      cases h
      obtain ⟨a, rfl, s⟩ := rp_flat r h1
      obtain ⟨ps, rfl, e, hs⟩ := rpa_flats t h2
      refine ⟨(a, k) :: ps, rfl, by rw [List.map_cons, e], fun p hp => ?_⟩
      rcases List.mem_cons.mp hp with rfl | hp
      · exact s
      · exact hs p hp
    · cases h
end
/-- two lists without repeats, of the same things -/
theorem nodup_len_eq {α : Type} [DecidableEq α] : ∀ {l m : List α}, l.Nodup → m.Nodup → (∀ x, x ∈ l ↔ x ∈ m) → l.length = m.length := fun {l m} h1 h2 h => ((List.perm_ext_iff_of_nodup h1 h2).mpr h).length_eq
theorem kinds_of {ks L : List (List Int)} (h1 : L.Nodup) (h2 : ∀ x, x ∈ L ↔ x ∈ ks) : L.length = kinds ks := by
  unfold kinds
  exact nodup_len_eq h1 nodup_nub fun x => (h2 x).trans mem_nub.symm

def rLenSet (K : PySem.W.Frag) : List V → Hp → VK → Prop := fun vs H Q => ∃ (S : Src) (ps : List (Addr × List Int)), vs = [.ref S.at] ∧ SqS K H S (ps.map fun p => V.ref p.1) ∧ (∀ p ∈ ps, SqT K H p.1 (p.2.map V.int)) ∧ ps.length ≤ 1200 ∧ Q (.int (kinds (ps.map (·.2)))) H
def tLenSet (K : PySem.W.Frag) (ta : TA) : TE := fun σ H Q => ta σ H fun vs H1 => rLenSet K vs H1 Q
section
variable {X : Cx} {p p2 q pos : Pos} {a : Expr}
theorem pe_lenSet {ta : TA} (hc : X.calm = true) (hu : X.A.units + 65 < cLine) (hg : Gl X "len") (hm : X.mg "len" = none) (hg2 : Gl X "set") (hm2 : X.mg "set" = none) (ha : PA X [a] ta)
    (na : starEach [a] X.env = [(false, eval a X.env)] := by rfl) : PE X (.Call (.Name "len" p) [.Call (.Name "set" p2) [a] [] q] [] pos) (tLenSet X.K ta) := by
  refine ⟨fun pins s σ H Q I h => ?_⟩
  refine Call_ (ld_blt I hg hm boot_len ?_)
  refine PyProof.Rows.callWith_builtin1 (PyProof.Rows.args_cons ?_ rfl) rfl rfl
  refine Call_ (ld_blt I hg2 hm2 boot_set ?_)
  refine PyProof.Rows.callWith_type1 (thn (ha.run q pins s σ H _ I h) fun us s1 ⟨vs, H1, I1, r1, q1⟩ => ?_) na rfl
  obtain ⟨S, ps, rfl, hs, ht, hf, hQ⟩ := q1
  obtain ⟨its, rv, hit, hz⟩ := inv_S I1 hs
  obtain ⟨u, rfl, ru⟩ := vals1 r1
  obtain rfl : u = Value.ref S.at := ru
  have e := refs_of_vals rv
  have hk : ∀ p ∈ ps, IsT X.prog X.w s1.heap p.2 p.1 := fun p hp => I1.isT (ht p hp)
  have fin : ∀ h' tk L es ep t, BS.Held X.prog X.w h' s1.heap.objs.size L es ep t → BS.In ps ps.length L → (∀ b o, s1.heap.get? b = some o → h'.get? b = some o) →
      wpAny (model X.prog X.w) X.A (spliced (backTo pos (starEach [] X.env))) (fun vs s₂ => wpAny (model X.prog X.w) X.A (call (.builtin "len") (Value.ref s1.heap.objs.size :: vs)) (EP X pins σ Q) X.xe s₂) X.xe { s1 with heap := h', toks := tk } := fun h' tk L es ep t R g k => by
    refine PyProof.Rows.args_nil ?_
    have R' : BS.Held X.prog X.w ({ s1 with heap := h', toks := tk } : Shared).heap s1.heap.objs.size L es ep t := R
    obtain ⟨o, ho, hex, hd⟩ := R.obj
    have cn := BS.Held.cnt R'
    have ft := BS.Held.fits R'
    have ne : es.size = kinds (ps.map (·.2)) := by
      rw [cn.2, ← List.length_map (f := (·.2)) (as := L)]
      refine kinds_of R.nd fun x => ⟨fun hx => ?_, fun hx => ?_⟩
      · obtain ⟨p, hp, rfl⟩ := List.mem_map.mp hx
        exact List.mem_map_of_mem (List.mem_of_mem_take (g.1 p hp))
      · obtain ⟨p, hp, rfl⟩ := List.mem_map.mp hx
        exact g.2.1 p (by rw [List.take_length]; exact hp)
    have I2 : Inv X pins σ H1 { s1 with heap := h', toks := tk } := I1.kept k
    have few := g.2.2
    refine call_len_set (s := { s1 with heap := h', toks := tk }) ho hex hd ft (by have := cn.2; omega) ⟨.int es.size, H1, I2.tok _, ⟨_, rfl⟩, ?_⟩
    rw [ne]
    exact hQ
  cases S with
  | L l =>
    obtain ⟨o, ho, hc2, n, hd⟩ := hit
    exact BS.set_of ps (.inl rfl) (I1.ok.hd hc) (by omega) ho hc2 hd (by simpa using e) hk hf fin
  | T l =>
    obtain ⟨o, ho, hc2, n, hd⟩ := hit
    exact BS.set_of ps (.inr rfl) (I1.ok.hd hc) (by omega) ho hc2 hd (by simpa using e) hk hf fin
end
def aLenSet (aa : AA) : AE := fun ρ k => aa ρ fun as ρ1 => match resAll ρ1 as with
  | some [.lst ds] => (flats ds).isSome = true ∧ ds.length ≤ 1200 ∧ k (.im (.int (kinds ((flats ds).getD [])))) ρ1
  | some [.tup ds] => (flats ds).isSome = true ∧ ds.length ≤ 1200 ∧ k (.im (.int (kinds ((flats ds).getD [])))) ρ1
  | _ => False
theorem lk_lenSet {K : PySem.W.Frag} {ta : TA} {aa : AA} (ha : LkA K ta aa) : LkE K (tLenSet K ta) (aLenSet aa) := by
  intro ρ k hk σ F H O s Q hq
  refine ha ρ _ hk σ F H O s _ fun vs as ρ1 F1 H1 k1 s1 r1 h1 => ?_
  have go : ∀ (S : Src) (xs : List V) (ds : List D), vs = [.ref S.at] → SqS K H1 S xs → RpA K F1 xs ds → (flats ds).isSome = true → ds.length ≤ 1200 → k (.im (.int (kinds ((flats ds).getD [])))) ρ1 → rLenSet K vs H1 Q := fun S xs ds ev hs hr hf hz hk' => by
    obtain ⟨ks, ek⟩ := Option.isSome_iff_exists.mp hf
    obtain ⟨ps, e1, e2, e3⟩ := rpa_flats hr ek
    rw [ek] at hk'
    refine ⟨S, ps, ev, e1 ▸ hs, fun p hp => s1.ex.t (e3 p hp), ?_, ?_⟩
    · rw [← List.length_map (f := (·.2)) (as := ps), e2, flats_len ek]
      exact hz
    · rw [e2]
      exact hq _ (.im (.int (kinds ks))) ρ1 F1 H1 k1 s1 (.int _) hk'
  split at h1
  · rename_i ds q
    obtain ⟨v, ev, r2⟩ := rprs1 (resAll_ok s1 r1 q)
    obtain ⟨p, ys, ep, g1, g2⟩ := r2.lst s1.ex rfl
    exact go (.L p) ys ds (by rw [ev, ep]; rfl) (SqL.of g1) g2 h1.1 h1.2.1 h1.2.2
  · rename_i ds q
    obtain ⟨v, ev, r2⟩ := rprs1 (resAll_ok s1 r1 q)
    obtain ⟨p, ys, ep, g1, g2⟩ := r2.tup s1.ex rfl
    exact go (.T p) ys ds (by rw [ev, ep]; rfl) g1 g2 h1.1 h1.2.1 h1.2.2
  · exact h1.elim
theorem ge_lenSet {X : Cx} {K : PySem.W.Frag} {p p2 q pos : Pos} {a : Expr} {ta : TA} {aa : AA} (hc : X.calm = true) (hu : X.A.units + 65 < cLine) (Bn : Bt X.mg) (ha : GA X [a] ta aa) (hg : Gl X "len" := by rfl) (hg2 : Gl X "set" := by rfl)
    (na : starEach [a] X.env = [(false, eval a X.env)] := by rfl) (hK : X.K = K := by rfl) : GE X (.Call (.Name "len" p) [.Call (.Name "set" p2) [a] [] q] [] pos) (tLenSet K ta) (aLenSet aa) := by
  subst hK
  exact ⟨pe_lenSet hc hu hg Bn.len hg2 Bn.set ha.pa na, lk_lenSet ha.lk⟩
end DL

/-! DL25: sorted(xs, key=f), f a def that keeps a promise over data. -/
namespace DL
open PySem PySem.Spec L2
open PyProof.Rows hiding St
open PySem.W PySem.Calls

abbrev no : Addr → Prop := fun _ => False
def srtBy (g : D → D) (ds : List D) : List D := ds.mergeSort (dataLe false fun d => toP (g d))
/-- f is a def that keeps af -/
def KeyFn (X : Cx) (f : Addr) (af : AF) : Prop := ∃ (fd : FuncData) (ps : List Str) (k : Nat), FnOk X.prog X.w X.K X.mg X.base CX0 k f fd ps (SpF X.K af) ∧ Room k X.A.in1.in1 ∧ Binds X.K fd ps []
section
variable {X : Cx} {pins : List (Addr × Obj)} {σ : L2.St} {s : Shared}
theorem key_call {F H : Hp} {f : Addr} {af : AF} {v : V} {u : Value} {d g : D} (I : Inv X pins σ H s) (kf : KeyFn X f af) (ex : Ex F H) (r : Rp X.K F v d) (ru : RelV v u) (h : af [.im d] fun r _ => r = g) :
    wpAny (model X.prog X.w) X.A.in1.in1 (call (.ref f) [u]) (fun w' s' => ∃ v' F' H', Inv X pins σ H' s' ∧ RelV v' w' ∧ Kp no F H no F' H' ∧ Ex F' H' ∧ Rp X.K F' v' g) (fun _ _ => False) s := by
  obtain ⟨fd, ps, k, Fo, hr, hb⟩ := kf
  have o0 : own [.im d] ([v].map some) = no := funext fun a => propext ⟨fun ⟨i, c, h1, _⟩ => (by
    cases i with
    | zero => cases h1
    | succ i => cases h1), False.elim⟩
  have sl : Sl X.K F H [.im d] ([v].map some) no := by
    refine ⟨rfl, fun i d' e => ?_, fun i c e => ?_, fun i j c c' p _ e => ?_, ex, fun a z => z.elim⟩
    · cases i with
      | zero => cases e; exact ⟨v, rfl, r⟩
      | succ i => cases e
    · cases i with
      | zero => cases e
      | succ i => cases e
    · cases i with
      | zero => cases e
      | succ i => cases e
  have sp : ∀ E : XK, SpF X.K af [v] H (fun v' H' => ∃ F', Kp no F H no F' H' ∧ Ex F' H' ∧ Rp X.K F' v' g) E := fun E => by
    unfold SpF
    refine ⟨[.im d], F, fun r _ => r = g, ?_, h, ?_⟩
    · rw [o0]
      exact sl
    · rw [o0]
      intro v' d' ρ' F' H' kp s' rd e
      subst e
      exact ⟨F', kp, s'.ex, rd⟩
  have hl : ([u] ++ []).length = ps.length := Fo.len _ _ _ E0 (sp E0)
  refine wpAny_call (codeAny_mono (Fo.run X.A.in1.in1 X.stack s H ⟨[u], []⟩ [u] [v] _ E0 hr I.env0.in1.in1 (hb s [u] I.kIn hl) (.cons ru .nil) (sp E0)) fun r s' hq => ?_)
  cases r with
  | error e => exact hq.elim
  | ok fl =>
    cases fl with
    | ret w' =>
      obtain ⟨v', H', I', r', F', kp, ex', rd⟩ := I.after hq
      exact ⟨v', F', H', I', r', kp, ex', rd⟩
    | next => exact False.elim hq
    | brk => exact False.elim hq
    | cont => exact False.elim hq

/-- what stands between two calls of the key -/
structure KI (X : Cx) (pins : List (Addr × Obj)) (σ : L2.St) (a kS : Addr) (e1 : Nat) (g : D → D) (ds : List D) (F0 H0 : Hp) (i : Nat) (F1 H1 : Hp) (kA : Array Value) (s : Shared) : Prop where
  inv : Inv X pins σ H1 s
  keys : ∃ e, s.heap.get? kS = some (seqObj "list" kA e)
  dest : s.heap.get? a = some (seqObj "list" #[] e1)
  nk : H1 kS = none
  na : H1 a = none
  kp : Kp no F0 H0 no F1 H1
  ex : Ex F1 H1
  rp : ∃ kvs, Vals kvs kA.toList ∧ RpA X.K F1 kvs ((ds.take i).map g)
theorem rpa_snoc {K : PySem.W.Frag} {F : Hp} {xs : List V} {ds : List D} {v : V} {d : D} (h : RpA K F xs ds) (r : Rp K F v d) : RpA K F (xs ++ [v]) (ds ++ [d]) := h.append (.cons r .nil)
theorem key_turn {a kS : Addr} {e1 : Nat} {g : D → D} {ds : List D} {F0 H0 F1 H1 : Hp} {i : Nat} {kA : Array Value} {f : Addr} {af : AF} {v : V} {u : Value} {d : D} (hka : kS ≠ a) (fk : ∀ H : Hp, H kS = none → FpOk X pins H kS) (fa : ∀ H : Hp, H a = none → FpOk X pins H a)
    (kf : KeyFn X f af) (k : KI X pins σ a kS e1 g ds F0 H0 i F1 H1 kA s) (hd : ds[i]? = some d) (r : Rp X.K F0 v d) (ru : RelV v u) (h : af [.im d] fun r _ => r = g d) :
    wpAny (model X.prog X.w) X.A.in1.in1 (call (.ref f) [u]) (fun w' s2 => ∀ t, ∃ F2 H2, (∃ e, s2.heap.get? kS = some (seqObj "list" kA e)) ∧ KI X pins σ a kS e1 g ds F0 H0 (i + 1) F2 H2 (kA.push w') { s2 with heap := s2.heap.update kS (Obj.mapSeq (·.push w')), toks := t }) (fun _ _ => False) s := by
  obtain ⟨e, hk⟩ := k.keys
  have I1 : Inv X (pins ++ [(kS, seqObj "list" kA e), (a, seqObj "list" #[] e1)]) σ H1 s := k.inv.pins_of fun p hp => by
    rcases List.mem_append.mp hp with hp | hp
    · exact k.inv.pin p (List.mem_append_right _ hp)
    rcases List.mem_cons.mp hp with rfl | hp
    · obtain ⟨f0, f1, f2, _⟩ := fk H1 k.nk
      exact ⟨hk, f0, f1, f2, fun _ z => nomatch z⟩
    · obtain rfl := List.mem_singleton.mp hp
      obtain ⟨f0, f1, f2, _⟩ := fa H1 k.na
      exact ⟨k.dest, f0, f1, f2, fun _ z => nomatch z⟩
  refine thn (key_call I1 kf k.ex (r.mono k.kp.h2) ru h) fun w' s2 ⟨v', F2, H2, I2, rv', kp2, ex2, rd2⟩ t => ?_
  obtain ⟨q1, q2, _⟩ := I2.pin (kS, seqObj "list" kA e) (List.mem_append_right _ (List.mem_append_right _ List.mem_cons_self))
  obtain ⟨p1, p2, _⟩ := I2.pin (a, seqObj "list" #[] e1) (List.mem_append_right _ (List.mem_append_right _ (List.mem_cons_of_mem _ List.mem_cons_self)))
  dsimp only at q1 q2 p1 p2
  have sb := Heap.SameBut.update s2.heap kS (Obj.mapSeq (·.push w'))
  obtain ⟨_, g1, g2, g3, g4, g5⟩ := fk H2 q2
  obtain ⟨kvs, r1, r2⟩ := k.rp
  refine ⟨F2, H2, ⟨e, q1⟩, I2.unpinned.turned (fun b o hb e => (sb.2 b hb).trans e) q2 g1 g3 g4 g5, ⟨_, get?_update_seq q1 (·.push w')⟩, (sb.2 a hka.symm).trans p1, q2, p2, k.kp.trans kp2, ex2, kvs ++ [v'], ?_, ?_⟩
  · rw [Array.toList_push]
    exact r1.append (.cons rv' .nil)
  · rw [List.take_add_one, hd, List.map_append]
    exact rpa_snoc (r2.mono kp2.h2) rd2

theorem each_rel : ∀ {bs : List (V × D)} {its : List Value}, Vals (bs.map Prod.fst) its → EachIs (fun (v : Value) (b : V × D) => RelV b.1 v) its bs
  | [], _, r => by cases r; exact .nil
  | b :: bs, _, r => by
    cases r with
    | cons r1 r2 => exact .cons r1 (each_rel r2)
/-- the list with its key list behind the calls: sorted, written back -/
theorem key_fin {a kS : Addr} {e1 : Nat} {g : D → D} {ds : List D} {F0 H0 F1 H1 : Hp} {kA : Array Value} {xs : List V} {vs : List Value} {E : Value → Shared → Prop} {P : PySem.Fin → Shared → Prop} (hka : kS ≠ a) (fk : ∀ H : Hp, H kS = none → FpOk X pins H kS) (fa : ∀ H : Hp, H a = none → FpOk X pins H a)
    (k : KI X pins σ a kS e1 g ds F0 H0 ds.length F1 H1 kA s) (rv : Vals xs vs) (rd : RpA X.K F0 xs ds) (hp : plains (ds.map g) = true) (hal : AllAlike ((ds.map g).map toP)) (hs : Sortable ((ds.map g).map toP)) (hz : ds.length ≤ sizeLine) (hd : deeps (ds.map g) ≤ 16) (hu : X.A.units + 65 < cLine)
    (h : ∀ h' tk F' H' ys, Inv X pins σ H' { s with heap := h', toks := tk } → Kp no F0 H0 no F' H' → Ex F' H' → H' a = some (.lst ys) → F' a = none → RpA X.K F' ys (srtBy g ds) → P (.done (.ret .none)) { s with heap := h', toks := tk }) :
    wpAny (model X.prog X.w) X.A.in1.in1 (ksk_end a false vs.toArray e1 (.ref kS) kA) P E s := by
  obtain ⟨e, hk⟩ := k.keys
  obtain ⟨kvs, r1, r2⟩ := k.rp
  rw [List.take_length] at r2
  obtain ⟨z1, z2, z3⟩ := rpa_zip r2
  obtain ⟨y1, y2, y3⟩ := rpa_zip rd
  have lv : vs.length = ds.length := by rw [← rv.length, rd.length]
  have lk : kA.size = vs.length := by rw [← Array.length_toList, ← r1.length, r2.length, List.length_map, lv]
  have em : (kvs.zip (ds.map g)).map (fun b => toP b.2) = (ds.map g).map toP := by rw [show (fun b : V × D => toP b.2) = toP ∘ Prod.snd from rfl, ← List.map_map, z2]
  have e2 := (each_vals k.inv (bs := kvs.zip (ds.map g)) (by rw [z1]; exact r1) fun b hb => dp_of _ _ (plains_mem hp (by have := List.mem_map_of_mem (f := Prod.snd) hb; rw [z2] at this; exact this)) ((z3 b hb).mono k.ex)).2
  have e3 : EachIs (fun v d => ∃ as, Reads s.heap v d as) kA.toList ((ds.map g).map toP) := by
    rw [← em]
    exact each_map (R := fun v d => ∃ as, Reads s.heap v d as) (fun b : V × D => toP b.2) e2
  have hdp : ∀ d ∈ (ds.map g).map toP, X.A.in1.in1.units + d.depth < cLine := fun d hd' => by
    obtain ⟨c, hc, rfl⟩ := List.mem_map.mp hd'
    have := deeps_mem hc
    rw [depth_of]
    show X.A.units + 1 + 1 + _ < _
    omega
  obtain ⟨G, g1, g2⟩ := restrict s.heap fun b => decide (b ≠ kS)
  have kp : KeepsBut a G s.heap := fun b o _ e => by
    by_cases c : b = kS
    · rw [c, g2 kS (by simp)] at e
      cases e
    · rw [g1 b (by simpa using c)] at e
      exact e
  refine keyH_end (κ := dataKind s.heap ((ds.map g).map toP)) (h₁ := G) kp (g2 kS (by simp)) hk k.dest hka (SortsAt.data e3 hal hs hdp) lk (by omega) fun h' tk c kb hc => ?_
  have old : ∀ b o, b ≠ kS → b ≠ a → s.heap.get? b = some o → h'.get? b = some o := fun b o n1 n2 q => kb b o n2 ((g1 b (by simpa using n1)).trans q)
  have oldH : ∀ b o, (∃ u, H1 b = some u) → s.heap.get? b = some o → h'.get? b = some o := fun b o ⟨u, hu'⟩ q => old b o (fun z => by rw [z, k.nk] at hu'; cases hu') (fun z => by rw [z, k.na] at hu'; cases hu') q
  have oldC : ∀ b o, b ∉ [kS, a] → s.heap.get? b = some o → h'.get? b = some o := fun b o n q => by
    simp only [List.mem_cons, List.not_mem_nil, or_false, not_or] at n
    exact old b o n.1 n.2 q
  have I2 : Inv X pins σ H1 { s with heap := h', toks := tk } := by
    refine k.inv.call (ch := [kS, a]) (g' := s.gens) (d' := s.drawn) (t' := tk) ⟨fun b o q _ _ n => oldC b o n q, fun b o q _ _ n => ⟨o.slots, oldC b o n q⟩, fun b o q n _ => n, fun b o q n => ⟨o, oldC b o n q⟩, fun _ _ z => z, fun _ _ _ z => z, fun b ps z => ⟨#[], by rw [z]; simp⟩⟩ (fun b o q => ?_) k.inv.bare fun b hb => ?_
    · refine (k.inv.hok b o q).stay (fun b' u hb' hu' => oldH b' u ?_ hu') (fun _ z => z) fun _ _ z => z
      rcases hb' with rfl | hb'
      · exact ⟨o, q⟩
      · exact ⟨_, hb'⟩
    · rcases List.mem_cons.mp hb with rfl | hb
      · obtain ⟨_, f1, f2, f3, f4, f5⟩ := fk H1 k.nk
        exact ⟨f3, f1, f4, f5⟩
      · obtain rfl := List.mem_singleton.mp hb
        obtain ⟨_, f1, f2, f3, f4, f5⟩ := fa H1 k.na
        exact ⟨f3, f1, f4, f5⟩
  -- the items in their new order
  obtain ⟨bs, eb⟩ : ∃ bs, bs = xs.zip ds := ⟨_, rfl⟩
  rw [← eb] at y1 y2 y3
  have ekz : (ds.map g).map toP = bs.map fun b => toP (g b.2) := by
    rw [← y2, List.map_map, List.map_map]
    rfl
  have hR : EachIs (fun (v : Value) (b : V × D) => RelV b.1 v) vs bs := by
    exact each_rel (by rw [y1]; exact rv)
  have out := keyedOut_each (rev := false) (fun b : V × D => toP (g b.2)) (vs := vs) (out := sortVals (dataKind s.heap ((ds.map g).map toP)) false kA.toList vs) ⟨s.heap, kA.toList, by rw [← ekz]; exact hal, by rw [← ekz], by rw [← ekz]; exact e3⟩ hR
  have nF : F1 a = none := by
    cases z : F1 a with
    | none => rfl
    | some u => have := k.ex a u z; rw [k.na] at this; cases this
  have H2n := k.na
  refine h h' tk F1 (upd H1 a (.lst ((bs.mergeSort (dataLe false fun b => toP (g b.2))).map Prod.fst))) ((bs.mergeSort (dataLe false fun b => toP (g b.2))).map Prod.fst) ?_ ?_ (k.ex.trans (Ex.new k.na)) upd_same nF ?_
  · refine I2.take (h' := h') (t' := tk) (fun _ _ _ q => q) (fa H1 k.na) ⟨?_, _, c, vals_each out, hc⟩
    rw [List.length_map, List.length_mergeSort, ← List.length_map (f := Prod.snd) (as := bs), y2]
    exact hz
  · exact k.kp.trans ⟨fun x o q _ => Ex.new k.na x o q, Ex.refl _, fun _ _ q => .inl q, fun _ q => .inl q⟩
  · have : srtBy g ds = (bs.mergeSort (dataLe false fun b => toP (g b.2))).map Prod.snd := by
      unfold srtBy
      rw [← y2, ← List.map_mergeSort (r := dataLe false fun b : V × D => toP (g b.2)) (s := dataLe false fun d => toP (g d)) (f := Prod.snd) (fun a _ b _ => rfl)]
    rw [this]
    exact (rpa_of fun b hb => y3 b (List.mem_mergeSort.mp hb)).mono k.kp.h2
/-- all the calls, then the sorting -/
theorem key_all {a kS : Addr} {e1 : Nat} {g : D → D} {ds : List D} {F0 H0 : Hp} {f : Addr} {af : AF} {xs : List V} {vs : List Value} {E : Value → Shared → Prop} {P : PySem.Fin → Shared → Prop} (hka : kS ≠ a) (fk : ∀ H : Hp, H kS = none → FpOk X pins H kS) (fa : ∀ H : Hp, H a = none → FpOk X pins H a)
    (kf : KeyFn X f af) (k : KI X pins σ a kS e1 g ds F0 H0 0 F0 H0 #[] s) (rv : Vals xs vs) (rd : RpA X.K F0 xs ds) (hg : ∀ d ∈ ds, af [.im d] fun r _ => r = g d)
    (hp : plains (ds.map g) = true) (hal : AllAlike ((ds.map g).map toP)) (hs : Sortable ((ds.map g).map toP)) (hz : ds.length ≤ sizeLine) (hd : deeps (ds.map g) ≤ 16) (hu : X.A.units + 65 < cLine)
    (h : ∀ s' F' H' ys, Inv X pins σ H' s' → Kp no F0 H0 no F' H' → Ex F' H' → H' a = some (.lst ys) → F' a = none → RpA X.K F' ys (srtBy g ds) → P (.done (.ret .none)) s') :
    wpAny (model X.prog X.w) X.A.in1.in1 (ksk_rest a (.ref f) false vs.toArray e1 (.ref kS)) P E s := by
  have lv : vs.length = ds.length := by rw [← rv.length, rd.length]
  unfold ksk_rest
  refine wpAny_bind (wpAny_rule ?_)
  first
    | rw [List.forIn_toArray]
    | (rw [← Array.forIn_toList]; simp only [List.toList_toArray])
    | rw [← Array.forIn_toList]
  refine wpAny_bind (ksk_fold (fun i s' => ∃ F1 H1 kA, KI X pins σ a kS e1 g ds F0 H0 i F1 H1 kA s') vs 0 s ⟨F0, H0, #[], k⟩ (fun j x s' hx ⟨F1, H1, kA, k1⟩ => ?_) fun s' ⟨F1, H1, kA, k1⟩ => ?_)
  · rw [Nat.zero_add] at k1 ⊢
    have hj : j < ds.length := by have := (List.getElem?_eq_some_iff.mp hx).1; omega
    have hdj := List.getElem?_eq_getElem hj
    obtain ⟨v, hv, rj⟩ := rd.get hdj
    obtain ⟨u, hu', ru⟩ := rv.get hv
    rw [hx] at hu'
    cases hu'
    obtain ⟨kvs, q1, q2⟩ := k1.rp
    have kz : kA.size ≤ ds.length := by
      rw [← Array.length_toList, ← q1.length, q2.length, List.length_map, List.length_take]
      exact Nat.min_le_right _ _
    refine wpAny_bind (wpAny_attempt (wpAny_mono (key_turn hka fk fa kf k1 hdj rj ru (hg _ (List.getElem_mem hj))) (fun w' s2 he => ?_) fun _ _ hF => hF.elim))
    obtain ⟨F2, H2, ⟨e, q3⟩, k2⟩ := he s2.toks
    refine wpAny_bind (listUpdate_at q3 rfl ?_ (Nat.le_trans kz hz) (Nat.le_trans (Nat.le_of_eq (Array.size_push ..)) (Nat.succ_le_succ (Nat.le_trans kz hz))))
    exact wpAny_pure ⟨rfl, F2, H2, _, k2⟩
  · rw [Nat.zero_add, lv] at k1
    obtain ⟨e, hk⟩ := k1.keys
    refine wpAny_bind (listItems_at hk rfl ?_)
    exact key_fin hka fk fa k1 rv rd hp hal hs hz hd hu fun h' tk F' H' ys I' q1 q2 q3 q4 q5 => h _ F' H' ys I' q1 q2 q3 q4 q5
/-- sorted(xs, key=f) -/
theorem sorted_key {l f : Addr} {af : AF} {g : D → D} {ds : List D} {xs : List V} {F H : Hp} {Q : VK} (I : Inv X pins σ H s) (hl : SqL X.K H l xs) (ex : Ex F H) (rd : RpA X.K F xs ds) (kf : KeyFn X f af) (hg : ∀ d ∈ ds, af [.im d] fun r _ => r = g d)
    (hp : plains (ds.map g) = true) (hal : AllAlike ((ds.map g).map toP)) (hs : Sortable ((ds.map g).map toP)) (hz : ds.length ≤ sizeLine) (hd : deeps (ds.map g) ≤ 16) (hu : X.A.units + 65 < cLine)
    (h : ∀ p F' H' ys, Kp no F H no F' H' → Ex F' H' → H' p = some (.lst ys) → F' p = none → H p = none → RpA X.K F' ys (srtBy g ds) → Q (.ref p) H') :
    wpAny (model X.prog X.w) X.A (call (.builtin "sorted") [.ref l] [(Str.ofString "key", .ref f)]) (EP X pins σ Q) X.xe s := by
  obtain ⟨its, rv, hl', hz'⟩ := I.list hl
  have lv : its.length = ds.length := by rw [← rv.length, rd.length]
  obtain ⟨a, ea⟩ : ∃ a : Nat, a = s.heap.objs.size + 1 := ⟨_, rfl⟩
  refine sorted_of_sort hl'.isList (by omega) (PyProof.Rows.ksk_s1 _ _) (fun _ => PyProof.Rows.ksk_l1 _ _) fun E' => ?_
  rw [ksk_t1, ← ea]
  have ho : (copyHeap s.heap its).get? a = some (seqObj "list" its.toArray 0) := by rw [ea]; exact copyHeap_at s.heap its
  have hlt := Heap.lt_size ho
  obtain ⟨e1, ho1⟩ : ∃ e1, ((copyHeap s.heap its).update a (Obj.mapSeq fun _ => (#[] : Array Value))).get? a = some (seqObj "list" #[] e1) := ⟨_, get?_update_seq ho fun _ => #[]⟩
  have hkS : (((copyHeap s.heap its).update a (Obj.mapSeq fun _ => (#[] : Array Value))).push (seqObj "tuple" its.toArray 0)).objs.size = (copyHeap s.heap its).objs.size + 1 := by rw [size_push', Heap.size_update]
  obtain ⟨kS, ek⟩ : ∃ kS : Nat, kS = (((copyHeap s.heap its).update a (Obj.mapSeq fun _ => (#[] : Array Value))).push (seqObj "tuple" its.toArray 0)).objs.size := ⟨_, rfl⟩
  have lk : a < kS := by rw [ek, hkS]; exact Nat.lt_succ_of_lt hlt
  have sa : s.heap.objs.size ≤ a := by rw [ea]; exact Nat.le_succ _
  have sk : s.heap.objs.size ≤ kS := Nat.le_trans sa (Nat.le_of_lt lk)
  unfold ksk_tree
  refine wpAny_bind (listItems_at ho rfl ?_)
  refine wpAny_bind (listUpdate_at ho rfl ?_ (by rw [List.size_toArray]; omega) (Nat.zero_le _))
  refine wpAny_bind (seqEpoch_at ho1 rfl ?_)
  refine wpAny_bind (wpAny_newTuple ?_ (by show its.length ≤ _; omega))
  refine wpAny_bind (wpAny_newList ?_ (Nat.zero_le _))
  refine wpAny_holding ?_
  have I1 : Inv X pins σ H { s with heap := sortingHeap (copyHeap s.heap its) a its } := I.kept fun b o q => by
    rw [ea]
    exact sorting_copy_old q
  have gl : wpAny (model X.prog X.w) X.A.in1.in1 (ksk_rest a (.ref f) false its.toArray e1 (.ref kS)) (fun f s' => f = .done (.ret .none) ∧ EP X pins σ Q (.ref a) s') E' { s with heap := sortingHeap (copyHeap s.heap its) a its } :=
    key_all (s := { s with heap := sortingHeap (copyHeap s.heap its) a its }) (kS := kS) (Nat.ne_of_gt lk) (fun H' n => I.fpOk sk n) (fun H' n => I.fpOk sa n) kf ⟨I1, ⟨0, by rw [ek]; exact Heap.get?_push_size _ rfl⟩, Heap.get?_push_of_some _ (Heap.get?_push_of_some _ ho1), I.hok.fresh sk, I.hok.fresh sa, Kp.refl, ex, [], .nil, .nil⟩ rv rd hg hp hal hs hz hd hu fun s' F' H' ys I' q1 q2 q3 q4 q5 => ⟨rfl, .ref a, H', I', rfl, h a F' H' ys q1 q2 q3 q4 (I.hok.fresh sa) q5⟩
  rw [ek] at gl
  exact gl
end
end DL

/-! DL26: keys = {"a": f, "b": g, "c": h}; return sorted(xs, key=keys[kind]). -/
namespace DL
open PySem PySem.Spec L2
open PyProof.Rows hiding St
open PySem.W PySem.Calls

def srtByOk (g : D → D) (ds : List D) : Prop := plains (ds.map g) = true ∧ AllAlike ((ds.map g).map toP) ∧ Sortable ((ds.map g).map toP) ∧ ds.length ≤ 1000000 ∧ deeps (ds.map g) ≤ 16
def rSortK (X : Cx) : List V → List V → Hp → VK → Prop := fun vs zs H Q => ∃ (l f : Addr) (af : AF) (g : D → D) (ds : List D) (xs : List V) (F : Hp), vs = [.ref l] ∧ zs = [.ref f] ∧ SqL X.K H l xs ∧ Ex F H ∧ RpA X.K F xs ds ∧ KeyFn X f af ∧ (∀ d ∈ ds, af [.im d] fun r _ => r = g d) ∧ srtByOk g ds ∧
  ∀ p F' H' ys, Kp no F H no F' H' → Ex F' H' → H' p = some (.lst ys) → F' p = none → H p = none → RpA X.K F' ys (srtBy g ds) → Q (.ref p) H'
section
variable {X : Cx}
theorem cr_sortK (hu : X.A.units + 65 < cLine) : CallRK X (.builtin "sorted") [Str.ofString "key"] (rSortK X) := by
  intro pins s σ H vs zs us ws Q I r rz h
  obtain ⟨l, f, af, g, ds, xs, F, rfl, rfl, hl, ex, rd, kf, hg, ⟨o1, o2, o3, o4, o5⟩, q⟩ := h
  obtain rfl := Vals.ref1 r
  obtain ⟨w1, rfl, e1⟩ := vals1 rz
  obtain rfl : w1 = Value.ref f := e1
  exact sorted_key I hl ex rd kf hg o1 o2 o3 (sz o4) o5 hu q
end
def aKeyed (j i : Nat) (aa : AA) (tab : List (Str × AF)) (g : Str → D → D) : AS := fun A ρ => isOw ρ j = false ∧ j < ρ.length ∧ ∃ x af, ρ[i]? = some (.im (.str x)) ∧ i ≠ j ∧ tab.lookup x = some af ∧ aa (ρ.set j .un) fun as ρ2 => match resAll ρ2 as with
  | some [.lst ds] => (∀ d ∈ ds, af [.im d] fun r _ => r = g x d) ∧ srtByOk (g x) ds ∧ A.rl (srtBy (g x) ds) ρ2
  | _ => False
abbrev tab3 (x1 x2 x3 : Str) (f1 f2 f3 : Addr) : List (Key × V) := [(.inr x1, .ref f1), (.inr x2, .ref f2), (.inr x3, .ref f3)]
theorem tab3_get {x1 x2 x3 x : Str} {f1 f2 f3 : Addr} {a1 a2 a3 af : AF} (h12 : x1 ≠ x2) (h13 : x1 ≠ x3) (h23 : x2 ≠ x3) (h : [(x1, a1), (x2, a2), (x3, a3)].lookup x = some af) :
    ∃ f, valV (mergeK [] (tab3 x1 x2 x3 f1 f2 f3)) (.inr x : Key) = some (.ref f) ∧ ((f = f1 ∧ af = a1) ∨ (f = f2 ∧ af = a2) ∨ (f = f3 ∧ af = a3)) := by
  have em : mergeK [] (tab3 x1 x2 x3 f1 f2 f3) = tab3 x1 x2 x3 f1 f2 f3 := by
    simp [mergeK, putK, tab3, h12, h13, h23]
  rw [em]
  unfold valV
  by_cases c1 : x = x1
  · subst c1
    refine ⟨f1, by simp [tab3], .inl ⟨rfl, ?_⟩⟩
    simpa using h.symm
  by_cases c2 : x = x2
  · subst c2
    refine ⟨f2, by simp [tab3, h12], .inr (.inl ⟨rfl, ?_⟩)⟩
    have hb : (x == x1) = false := by simpa using c1
    simp [List.lookup, hb] at h
    exact h.symm
  by_cases c3 : x = x3
  · subst c3
    refine ⟨f3, by simp [tab3, h13, h23], .inr (.inr ⟨rfl, ?_⟩)⟩
    have hb : (x == x1) = false := by simpa using c1
    have hb2 : (x == x2) = false := by simpa using c2
    simp [List.lookup, hb, hb2] at h
    exact h.symm
  · have hb : (x == x1) = false := by simpa using c1
    have hb2 : (x == x2) = false := by simpa using c2
    have hb3 : (x == x3) = false := by simpa using c3
    simp [List.lookup, hb, hb2, hb3] at h
theorem lk_keyed3 {X : Cx} {W : WX'} {j i : Nat} {ta : TA} {aa : AA} {x1 x2 x3 : Str} {f1 f2 f3 : Addr} {a1 a2 a3 : AF} {g : Str → D → D} (h12 : x1 ≠ x2) (h13 : x1 ≠ x3) (h23 : x2 ≠ x3) (k1 : KeyFn X f1 a1) (k2 : KeyFn X f2 a2) (k3 : KeyFn X f3 a3) (ha : LkA X.K ta aa) :
    LkS X.K W (tSeq (tAsg (tDisp [(tC (.str x1), tC (.ref f1)), (tC (.str x2), tC (.ref f2)), (tC (.str x3), tC (.ref f3))]) (gName j)) (tRet (tCKw (rSortK X) ta (tCons (tDGet (tVar j) (tVar i)) tNil)))) (aKeyed j i aa [(x1, a1), (x2, a2), (x3, a3)] g) [j] := by
  intro A ρ h σ F H O s B' Dn hB bd
  obtain ⟨hj, hjl, x, af, hx, hij, hl, h⟩ := h
  intro p hp
  refine ⟨by rw [upd_same], tab3 x1 x2 x3 f1 f2 f3, rfl, by show 3 ≤ 15; decide, ?_⟩
  have e : upd (upd H p (.dK [])) p (.dK (mergeK [] (tab3 x1 x2 x3 f1 f2 f3))) = upd H p (.dK (mergeK [] (tab3 x1 x2 x3 f1 f2 f3))) := by
    funext b
    unfold upd
    split <;> rfl
  rw [e]
  show tRet (tCKw (rSortK X) ta (tCons (tDGet (tVar j) (tVar i)) tNil)) { Dn with nx := tRet (tCKw (rSortK X) ta (tCons (tDGet (tVar j) (tVar i)) tNil)) Dn } (σ.set j (some (.ref p))) (upd H p (.dK (mergeK [] (tab3 x1 x2 x3 f1 f2 f3))))
  generalize eD : mergeK [] (tab3 x1 x2 x3 f1 f2 f3) = kvs
  have nO := s.notO hp
  have kp0 : Kp O F H O F (upd H p (.dK kvs)) := ⟨fun a o q _ => Ex.new hp a o q, Ex.refl _, fun _ _ q => .inl q, fun _ q => .inl q⟩
  have s0 : Sl X.K F (upd H p (.dK kvs)) ρ σ O := s.kf ⟨Ex.refl _, Ex.new hp, s.ex.trans (Ex.new hp), fun _ _ q => .inl q⟩
  have su := s0.setUn j (.ref p)
  have hjs : j < σ.length := by rw [← s.len]; exact hjl
  obtain ⟨v, hv, rx⟩ := s.im i _ hx
  cases rx
  refine ha _ _ h _ F _ O su _ fun vs as ρ2 F2 H2 kp2 s2 r2 h2 => ?_
  refine ⟨_, List.getElem?_set_self hjs, _, by rw [List.getElem?_set_ne (Ne.symm hij)]; exact hv, ?_⟩
  split at h2
  · rename_i ds q
    obtain ⟨hg, ok, h2⟩ := h2
    obtain ⟨u, eu, ru⟩ := rprs1 (resAll_ok s2 r2 q)
    obtain ⟨l, ys, el, g1, g2⟩ := ru.lst s2.ex rfl
    subst eu el
    obtain ⟨f, hf, which⟩ := tab3_get (f1 := f1) (f2 := f2) (f3 := f3) h12 h13 h23 hl
    rw [eD] at hf
    have hH : H2 p = some (.dK kvs) := kp2.h1 p _ upd_same nO
    have kf : KeyFn X f af := by
      rcases which with ⟨rfl, rfl⟩ | ⟨rfl, rfl⟩ | ⟨rfl, rfl⟩
      · exact k1
      · exact k2
      · exact k3
    refine ⟨p, .ref f, rfl, .inl ⟨kvs, .inr x, .inl hH, rfl, hf.symm⟩, ?_⟩
    refine ⟨l, f, af, g x, ds, ys, F2, rfl, rfl, SqL.of g1, s2.ex, g2, kf, hg, ok, fun p' F' H' zs kp' ex' hp' fp' hn' rd' => ?_⟩
    have kpO : Kp O F2 H2 O F' H' := ⟨fun a o q _ => kp'.h1 a o q id, kp'.h2, fun a o q => (kp'.h3 a o q).elim .inl fun z => z.elim (fun z => z.elim) fun z => .inr (.inr z), fun a q => .inl q⟩
    have s3 : Sl X.K F' H' ρ2 (σ.set j (some (.ref p))) O := s2.kf ⟨kp'.h2, fun a o q => kp'.h1 a o q id, ex', fun a o q => (kp'.h3 a o q).elim .inl fun z => z.elim (fun z => z.elim) .inr⟩
    have nO' : ¬ O p' := s2.notO hn'
    exact bd.rl p' zs (srtBy (g x) ds) ρ2 _ F' H' O ((kp0.trans kp2).trans kpO) s3 (Keep.set (hB j List.mem_cons_self)) hp' fp' nO' (.inr ((kp0.trans kp2).back hn' nO')) rd' h2
  · exact h2.elim
theorem keyFn_of {X : Cx} {k j : Nat} {x : Str} {af : AF} (d : Df X.prog X.w X.K X.mg X.base k x af) (hr : Room (j + 2) X.A) (hk : k ≤ j) : ∃ f, KeyFn X f af ∧ X.mg x = some (.ref f) ∧ PySem.W.keepIn X.K (.ref f) = true := by
  obtain ⟨f, fd, ps, F, hm, hk', hb⟩ := d
  exact ⟨f, ⟨fd, ps, k, F, (hr.mono (Nat.add_le_add_right hk 2)).in1.in1, hb⟩, hm, hk'⟩
section
variable {X : Cx} {K : PySem.W.Frag} {W : WX'}
theorem gss_keyed3 {P : Program} {w : World} {mg : Str → Option Value} {base : Heap} {k1 k2 k3 r : Nat} {n1 n2 n3 x1 x2 x3 y z : Str} {a1 a2 a3 : AF} (g : Str → D → D) {j i : Nat} {e : Expr} {ta : TA} {aa : AA} {spos py q1 q2 q3 p1 p2 p3 dpos rpos p pos kpos ppos yp zp : Pos} {c1 c2 c3 : Nat}
    (d1 : Df P w K mg base k1 n1 a1) (d2 : Df P w K mg base k2 n2 a2) (d3 : Df P w K mg base k3 n3 a3) (hr : Room (r + 2) X.A) (ha : GA X [e] ta aa) (hN : X.N.Nodup) (Bn : Bt X.mg)
    (hx12 : x1 ≠ x2 := by decide) (hx13 : x1 ≠ x3 := by decide) (hx23 : x2 ≠ x3 := by decide) (l1 : k1 ≤ r := by decide) (l2 : k2 ≤ r := by decide) (l3 : k3 ≤ r := by decide)
    (g1 : Gl X n1 := by rfl) (g2 : Gl X n2 := by rfl) (g3 : Gl X n3 := by rfl) (b1 : (n1 == ("__debug__" : Str)) = false := by decide) (b2 : (n2 == ("__debug__" : Str)) = false := by decide) (b3 : (n3 == ("__debug__" : Str)) = false := by decide)
    (hj : X.N[j]? = some y := by rfl) (hl : Loc X.env.scope y := by first | exact .inl rfl | exact .inr rfl) (hi : X.N[i]? = some z := by rfl)
    (hf : X.fn y = true ∨ X.env.scope.names.lookup y = some .local := by first | exact .inl rfl | exact .inr rfl)
    (vy : Vis X.env.scope y := by first | exact Or.inl rfl | exact Or.inr (Or.inl rfl) | exact Or.inr (Or.inr rfl)) (vz : Vis X.env.scope z := by first | exact Or.inl rfl | exact Or.inr (Or.inl rfl) | exact Or.inr (Or.inr rfl))
    (dy : (y == ("__debug__" : Str)) = false := by decide) (cy : (y == ("__classdict__" : Str)) = false := by decide) (dz : (z == ("__debug__" : Str)) = false := by decide) (cz : (z == ("__classdict__" : Str)) = false := by decide)
    (hs : NoSl (.Name z zp) := by exact fun _ _ => rfl) (gs : Gl X "sorted" := by rfl)
    (hsw : swapsWith (.Dict [some (.Constant (.str x1) c1 q1), some (.Constant (.str x2) c2 q2), some (.Constant (.str x3) c3 q3)] [.Name n1 p1, .Name n2 p2, .Name n3 p3] dpos) (some (.Name y py)) spos.line X.env = pure false := by rfl)
    (he : backTo pos (starEach (e :: []) X.env) = (false, eval e X.env) :: backTo pos (starEach [] X.env) := by rfl) (hpl : (backTo pos (starEach (e :: []) X.env)).any (·.1) = false := by rfl)
    (hall : (backToKw pos (keywordEach [⟨some "key", .Subscript (.Name y yp) (.Name z zp) ppos, kpos⟩] X.env)).all (·.1.isSome) = true := by rfl) (hnone : (backToKw pos (keywordEach [⟨some "key", .Subscript (.Name y yp) (.Name z zp) ppos, kpos⟩] X.env)).any (·.1.isNone) = false := by rfl)
    (hks : (backToKw pos (keywordEach [⟨some "key", .Subscript (.Name y yp) (.Name z zp) ppos, kpos⟩] X.env)).filterMap (·.1) = [Str.ofString "key"] := by rfl)
    (hK : X.K = K := by rfl) (hP : X.prog = P := by rfl) (hw : X.w = w := by rfl) (hm : X.mg = mg := by rfl) (hb : X.base = base := by rfl) :
    ∃ t, GSs X W [.Assign [.Name y py] (.Dict [some (.Constant (.str x1) c1 q1), some (.Constant (.str x2) c2 q2), some (.Constant (.str x3) c3 q3)] [.Name n1 p1, .Name n2 p2, .Name n3 p3] dpos) spos,
      .Return (some (.Call (.Name "sorted" p) [e] [⟨some "key", .Subscript (.Name y yp) (.Name z zp) ppos, kpos⟩] pos)) rpos] t (aKeyed j i aa [(x1, a1), (x2, a2), (x3, a3)] g) [j] := by
  subst hK hP hw hm hb
  obtain ⟨f1, k1', m1, _⟩ := keyFn_of d1 hr l1
  obtain ⟨f2, k2', m2, _⟩ := keyFn_of d2 hr l2
  obtain ⟨f3, k3', m3, _⟩ := keyFn_of d3 hr l3
  have u := hr.units
  have un := hr.un
  have pd := pe_disp (X := X) (pos := dpos) (pps_cons (pe_str (x := x1) (j := c1) (pos := q1)) (pe_glob (pos := p1) g1 m1 (v := .ref f1) rfl b1) (pps_cons (pe_str (x := x2) (j := c2) (pos := q2)) (pe_glob (pos := p2) g2 m2 (v := .ref f2) rfl b2) (pps_cons (pe_str (x := x3) (j := c3) (pos := q3)) (pe_glob (pos := p3) g3 m3 (v := .ref f3) rfl b3) pps_nil))) rfl rfl (by simp) (by simp)
  have s1 := ps_set (pos := spos) (pos' := py) hN hj hl pd hsw hf
  have pg := pe_dget (pos := ppos) (by omega) (pe_var (pos := yp) hj vy dy cy) (pe_var (pos := zp) hi vz dz cz) hs
  have pc := pe_callBK (p := p) (pos := pos) (cr_sortK (by omega)) gs Bn.sorted (by decide +kernel) ha.pa (pk_cons (nm := some "key") (kpos := kpos) pg pk_nil) (by decide) (by decide) he hpl hall hnone hks
  exact ⟨_, pss_cons s1 (pss_one (ps_ret pc)), lk_keyed3 hx12 hx13 hx23 k1' k2' k3' ha.lk⟩
end
end DL

/-! DL27: a module's tuple of texts; xs.index(x). -/
namespace DL
open PySem PySem.Spec L2
open PyProof.Rows hiding St

/-- the module's name x stands for a tuple of these texts -/
def IsTupS (K : PySem.W.Frag) (mg : Str → Option Value) (x : Str) (xs : List Str) : Prop := ∃ (a : Addr) (o : Obj) (its : Array Value) (n : Nat), mg x = some (.ref a) ∧ K.lookup a = some o ∧ o.cls = .type "tuple" ∧ o.data = .seq its n ∧ its.size ≤ sizeLine ∧ Vals (xs.map V.str) its.toList
def tGTup (mg : Str → Option Value) (x : Str) : TE := fun _ H Q => ∃ a, mg x = some (.ref a) ∧ Q (.ref a) H
theorem rpa_strs {K : PySem.W.Frag} {F : Hp} : ∀ {xs : List Str}, RpA K F (xs.map V.str) (xs.map D.str)
  | [] => .nil
  | x :: xs => .cons (.str x) rpa_strs
theorem ge_gtup {X : Cx} {x : Str} {xs : List Str} {pos : Pos} (h : IsTupS X.K X.mg x xs) (hg : Gl X x := by rfl) (hd : (x == ("__debug__" : Str)) = false := by decide) : GE X (.Name x pos) (tGTup X.mg x) (aC (.tup (xs.map D.str))) := by
  obtain ⟨a, o, its, n, hm, hl, hc, hdt, hz, rv⟩ := h
  refine ⟨⟨fun pins s σ H Q I q => ?_⟩, fun ρ k hk σ F H O s Q hq => ⟨a, hm, ?_⟩⟩
  · obtain ⟨b, hb, q⟩ := q
    exact (pe_glob (pos := pos) hg hb (v := .ref b) rfl hd).run pins s σ H Q I q
  · exact hq _ (.im (.tup (xs.map D.str))) ρ F H Kp.refl s (.tup (.inr ⟨o, its, n, hl, hc, hdt, hz, rv⟩) rpa_strs) hk

/-! ### index -/
def fIndex (ds : List D) (e : D) (k : D → Prop) : Prop := shp e = true ∧ shp (.lst ds) = true ∧ ∃ (j : Nat) (z : D), ds[j]? = some z ∧ eqv z e = true ∧ (∀ (m : Nat) (z' : D), m < j → ds[m]? = some z' → eqv z' e = false) ∧ k (.int (j : Nat))
def aIndex (a b : AE) : AE := fun ρ k => a ρ fun x ρ1 => match x with
  | .im (.lst ds) => b ρ1 fun y ρ2 => match y with
    | .im e => fIndex ds e fun d => k (.im d) ρ2
    | _ => False
  | _ => False
theorem toPs_get : ∀ {ds : List D} {j : Nat}, (toPs ds)[j]? = ds[j]?.map toP
  | [], _ => by unfold toPs; rfl
  | d :: ds, 0 => by unfold toPs; rfl
  | d :: ds, j + 1 => by unfold toPs; simp only [List.getElem?_cons_succ]; exact toPs_get
theorem lk_index {K : PySem.W.Frag} {ta tb : TE} {a b : AE} (ha : LkE K ta a) (hb : LkE K tb b) : LkE K (tBM K "list" (rIndexD K) ta (tCons tb tNil)) (aIndex a b) := by
  intro ρ k hk σ F H O s Q hq
  refine ha ρ _ hk σ F H O s _ fun v x ρ1 F1 H1 k1 s1 r1 h1 => ?_
  split at h1
  · rename_i ds
    have r1' : Rp K F1 v (.lst ds) := r1
    cases r1' with
    | @lst l ys _ g1 g2 =>
      refine ⟨.inl ⟨rfl, ys, SqL.of (s1.ex _ _ g1)⟩, ?_⟩
      refine hb ρ1 _ h1 σ F1 H1 O s1 _ fun u y ρ2 F2 H2 k2 s2 r2 h2 => ?_
      split at h2
      · rename_i e
        obtain ⟨se, sl, j, z, hz, he, hno, hk⟩ := h2
        have re : Rp K F2 u e := r2
        have rl : Rp K F2 (.ref l) (.lst ds) := (Rp.lst g1 g2).mono k2.h2
        have d1 := dp_of _ _ (shp_plain sl) (rl.mono s2.ex)
        have d2 := dp_of _ _ (shp_plain se) (re.mono s2.ex)
        have sh := shaped_of sl
        have pl := shp_plain sl
        unfold toP at d1 sh
        unfold plain at pl
        have mem : ∀ {m : Nat} {z' : D}, ds[m]? = some z' → plain z' = true := fun hm => plains_mem pl (List.mem_of_getElem? hm)
        refine ⟨l, u, toP e, toPs ds, j, toP z, rfl, rfl, d1, d2, sh, shaped_of se, by rw [toPs_get, hz]; rfl, by rw [eqv_of z e (mem hz) (shp_plain se)]; exact he, fun m z' hm e' => ?_, ?_⟩
        · rw [toPs_get] at e'
          obtain ⟨z2, hz2, rfl⟩ := Option.map_eq_some_iff.mp e'
          rw [eqv_of z2 e (mem hz2) (shp_plain se)]
          exact hno m z2 hm hz2
        · exact hq _ (.im (.int (j : Nat))) ρ2 F2 H2 (k1.trans k2) s2 (Rp.int _) hk
      · exact h2.elim
  · exact h1.elim
theorem ge_index {X : Cx} {K : PySem.W.Frag} {o e : Expr} {ta tb : TE} {a b : AE} {apos cpos : Pos} (hc : X.calm = true) (hu : X.A.units + 65 < cLine) (ho : GE X o ta a) (he : GE X e tb b) (hbase : attributeBase o "index" X.env (eval o X.env) = eval o X.env := by rfl)
    (hfew : ((backTo cpos (starEach [e] X.env)).all (fun x => !x.1) && (backToKw cpos (keywordEach [] X.env)).all (fun x => x.1.isSome)
      && decide ([e].length + ([] : List Keyword).length + (if ([] : List Keyword).isEmpty then 0 else 1) < 30)) = true := by rfl)
    (hline : (apos.endLine == cpos.line) = true := by rfl) (hs : starEach (e :: []) X.env = (false, eval e X.env) :: starEach [] X.env := by rfl) (hplain : (backTo cpos (starEach [] X.env)).any (·.1) = false := by rfl) (hK : X.K = K := by rfl) :
    GE X (.Call (.Attribute o "index" apos) [e] [] cpos) (tBM K "list" (rIndexD K) ta (tCons tb tNil)) (aIndex a b) := by
  subst hK
  exact ⟨pe_bm PySem.F.plainAttrs_list PySem.F.slot_list_index PySem.F.type_list_index (mt_indexD hu) ho.pe (pa_cons he.pe pa_nil hs) hbase hfew hline hs hplain, lk_index ho.lk he.lk⟩
end DL

/-! DL28: min(t), max(t) of a tuple of whole numbers. -/
namespace DL
open PySem PySem.Spec L2
open PyProof.Rows hiding St

def rMaxT (K : PySem.W.Frag) : List V → Hp → VK → Prop := fun vs H Q => ∃ (a : Addr) (ns : List Int), vs = [V.ref a] ∧ SqT K H a (ns.map V.int) ∧ 0 < ns.length ∧ ∀ m, m ∈ ns → (∀ y, y ∈ ns → y ≤ m) → Q (.int m) H
def rMinT (K : PySem.W.Frag) : List V → Hp → VK → Prop := fun vs H Q => ∃ (a : Addr) (ns : List Int), vs = [V.ref a] ∧ SqT K H a (ns.map V.int) ∧ 0 < ns.length ∧ ∀ m, m ∈ ns → (∀ y, y ∈ ns → m ≤ y) → Q (.int m) H
theorem val_at {ns : List Int} {its : List Value} (r : Vals (ns.map V.int) its) (i : Nat) (v : Value) (h : its.toArray[i]? = some v) : ∃ t, v = .int (ns.getD i 0) t := PyProof.Rows.IntsAre.int_at r.ints i v (by rw [← Array.getElem?_toList] at h; exact h)
section
variable {X : Cx}
theorem cr_maxT (hc : X.calm = true) : CallR X (.builtin "max") (rMaxT X.K) := by
  intro pins s σ H vs us Q I r h
  obtain ⟨a, ns, rfl, hs, hne, q⟩ := h
  obtain ⟨its, rv, hT, _⟩ := I.tuple hs
  rw [Vals.ref1 r]
  have hl : its.toArray.size = ns.length := by rw [List.size_toArray, ← rv.length, List.length_map]
  have lt : a < s.heap.objs.size := hT.lt
  refine call_max_walk (wpAny_pyIter_tuple hT ?_)
  refine ⟨_, _, _, _, _, _, _, rfl, Walks.tuple (A := X.A.in1) (I.ok.hd hc) s.heap.objs.size a (Nat.ne_of_lt lt) its.toArray, ⟨⟨_, Heap.get?_push_size _ rfl, rfl, rfl⟩, hT.push _⟩, fun b hb => ?_, by omega, CmpOf.ints_gt (fun i => ns.getD i 0) (val_at rv), fun v h' tk hP hk => ?_⟩
  · show b < (s.heap.push _).objs.size
    rw [size_push']
    rcases List.mem_cons.mp hb with z | z
    · rw [z]; exact Nat.lt_succ_self _
    · rw [List.mem_singleton.mp z]; exact Nat.lt_succ_of_lt lt
  · obtain ⟨t, rfl⟩ := val_at rv _ v hP
    obtain ⟨b1, b2⟩ := argBest_gt (fun i => ns.getD i 0) (its.toArray.size - 1)
    refine ⟨.int _, H, I.kept (t' := tk) fun b o e => hk b o (fun z => by rw [List.mem_singleton.mp z] at e; exact absurd (Heap.lt_size e) (Nat.lt_irrefl _)) (Heap.get?_push_of_some _ e), ⟨t, rfl⟩, q _ (PySem.getD_mem (by omega)) fun y hy => ?_⟩
    obtain ⟨j, hj, e⟩ := List.mem_iff_getElem.mp hy
    have z := b2 j (by omega)
    have e3 : ns.getD j 0 = y := by rw [List.getD_eq_getElem?_getD, List.getElem?_eq_getElem hj, ← e] <;> rfl
    rw [← e3]
    exact z
theorem cr_minT (hc : X.calm = true) : CallR X (.builtin "min") (rMinT X.K) := by
  intro pins s σ H vs us Q I r h
  obtain ⟨a, ns, rfl, hs, hne, q⟩ := h
  obtain ⟨its, rv, hT, _⟩ := I.tuple hs
  rw [Vals.ref1 r]
  have hl : its.toArray.size = ns.length := by rw [List.size_toArray, ← rv.length, List.length_map]
  have lt : a < s.heap.objs.size := hT.lt
  refine call_min_walk (wpAny_pyIter_tuple hT ?_)
  refine ⟨_, _, _, _, _, _, _, rfl, Walks.tuple (A := X.A.in1) (I.ok.hd hc) s.heap.objs.size a (Nat.ne_of_lt lt) its.toArray, ⟨⟨_, Heap.get?_push_size _ rfl, rfl, rfl⟩, hT.push _⟩, fun b hb => ?_, by omega, CmpOf.ints_lt (fun i => ns.getD i 0) (val_at rv), fun v h' tk hP hk => ?_⟩
  · show b < (s.heap.push _).objs.size
    rw [size_push']
    rcases List.mem_cons.mp hb with z | z
    · rw [z]; exact Nat.lt_succ_self _
    · rw [List.mem_singleton.mp z]; exact Nat.lt_succ_of_lt lt
  · obtain ⟨t, rfl⟩ := val_at rv _ v hP
    obtain ⟨b1, b2⟩ := argBest_lt (fun i => ns.getD i 0) (its.toArray.size - 1)
    refine ⟨.int _, H, I.kept (t' := tk) fun b o e => hk b o (fun z => by rw [List.mem_singleton.mp z] at e; exact absurd (Heap.lt_size e) (Nat.lt_irrefl _)) (Heap.get?_push_of_some _ e), ⟨t, rfl⟩, q _ (PySem.getD_mem (by omega)) fun y hy => ?_⟩
    obtain ⟨j, hj, e⟩ := List.mem_iff_getElem.mp hy
    have z := b2 j (by omega)
    have e3 : ns.getD j 0 = y := by rw [List.getD_eq_getElem?_getD, List.getElem?_eq_getElem hj, ← e] <;> rfl
    rw [← e3]
    exact z
end
def fMaxT : RCD := fun ds k => match ds with
  | [.tup xs] => ∃ ns, intsD xs = some ns ∧ 0 < ns.length ∧ ∀ m, m ∈ ns → (∀ y, y ∈ ns → y ≤ m) → k (.int m)
  | _ => False
def fMinT : RCD := fun ds k => match ds with
  | [.tup xs] => ∃ ns, intsD xs = some ns ∧ 0 < ns.length ∧ ∀ m, m ∈ ns → (∀ y, y ∈ ns → m ≤ y) → k (.int m)
  | _ => False
section
variable {K : PySem.W.Frag}
theorem lk_maxT : LkC K (rMaxT K) fMaxT := by
  intro ds k hk F H vs ex r Q hq
  unfold fMaxT at hk
  split at hk
  · rename_i xs
    obtain ⟨ns, e, hn, hk⟩ := hk
    obtain ⟨v, rfl, r1⟩ := rprs1 r
    obtain ⟨p, ys, rfl, h1, h2⟩ := r1.tup ex rfl
    rw [ints_eq e] at h2
    rw [h2.ofInts] at h1
    exact ⟨p, ns, rfl, h1, hn, fun m a b => hq _ _ F H (KF.refl ex) (.int _) (hk m a b)⟩
  · exact hk.elim
theorem lk_minT : LkC K (rMinT K) fMinT := by
  intro ds k hk F H vs ex r Q hq
  unfold fMinT at hk
  split at hk
  · rename_i xs
    obtain ⟨ns, e, hn, hk⟩ := hk
    obtain ⟨v, rfl, r1⟩ := rprs1 r
    obtain ⟨p, ys, rfl, h1, h2⟩ := r1.tup ex rfl
    rw [ints_eq e] at h2
    rw [h2.ofInts] at h1
    exact ⟨p, ns, rfl, h1, hn, fun m a b => hq _ _ F H (KF.refl ex) (.int _) (hk m a b)⟩
  · exact hk.elim
end
section
variable {X : Cx} {K : PySem.W.Frag} {p pos : Pos} {e : Expr} {es : List Expr} {ta : TA} {aa : AA}
theorem ge_maxT (hc : X.calm = true) (B : Bt X.mg) (ha : GA X (e :: es) ta aa) (hg : Gl X "max" := by rfl) (he : starEach (e :: es) X.env = (false, eval e X.env) :: starEach es X.env := by rfl) (hpl : (backTo pos (starEach es X.env)).any (·.1) = false := by rfl) (hK : X.K = K := by rfl) : GE X (.Call (.Name "max" p) (e :: es) [] pos) (tCB (rMaxT K) ta) (aCB fMaxT aa) := by
  subst hK
  exact ge_callB (cr_maxT hc) lk_maxT B.max (by decide +kernel) ha hg (by decide) (by decide) he hpl
theorem ge_minT (hc : X.calm = true) (B : Bt X.mg) (ha : GA X (e :: es) ta aa) (hg : Gl X "min" := by rfl) (he : starEach (e :: es) X.env = (false, eval e X.env) :: starEach es X.env := by rfl) (hpl : (backTo pos (starEach es X.env)).any (·.1) = false := by rfl) (hK : X.K = K := by rfl) : GE X (.Call (.Name "min" p) (e :: es) [] pos) (tCB (rMinT K) ta) (aCB fMinT aa) := by
  subst hK
  exact ge_callB (cr_minT hc) lk_minT B.min (by decide +kernel) ha hg (by decide) (by decide) he hpl
end
end DL

/-! DL29: range(i, j, -1); {k: v} of one pair, k a tuple; xs, a, b, c, d = [], .., .. -/
namespace DL
open PySem PySem.Spec L2
open PyProof.Rows hiding St

/-! ### downwards -/
def rgd (i j : Int) : List Int := (List.range (i - j).toNat).map fun k : Nat => i - (k : Int)
theorem rgd_len (i j : Int) : (rgd i j).length = (i - j).toNat := by unfold rgd; rw [List.length_map, List.length_range]
def aRg3d (aa : AA) : AI := fun ρ k => aa ρ fun as ρ1 => match as with
  | [.im (.int a), .im (.int b), .im (.int c)] => c = -1 ∧ (-1000000 ≤ a ∧ a ≤ 1000000 ∧ -1000000 ≤ b ∧ b ≤ 1000000) ∧ k ((rgd a b).map D.int) ρ1
  | _ => False
section
variable {K : PySem.W.Frag} {ta : TA} {aa : AA}
theorem walks_rgd {F : Hp} (a b : Int) : Walks K (Itc a (-1) (a - b).toNat) F ((rgd a b).map D.int) where
  go := fun i H hi _ => by
    rw [List.length_map, rgd_len] at hi
    exact hi
  yld := fun i H x H' d hd e y F1 e1 e2 => by
    obtain ⟨rfl, rfl⟩ := y
    unfold rgd at hd
    rw [List.getElem?_map, List.getElem?_map] at hd
    cases q : (List.range (a - b).toNat)[i]? with
    | none => rw [q] at hd; cases hd
    | some j =>
      rw [q] at hd
      obtain ⟨hl, hj⟩ := List.getElem?_eq_some_iff.mp q
      rw [List.getElem_range] at hj
      subst hj
      have e3 : D.int (a - (i : Int)) = d := Option.some.inj hd
      subst e3
      rw [show a + (i : Nat) * (-1) = a - (i : Int) by omega]
      exact ⟨F1, KF.refl e2, .int _⟩
  stop := fun H e => by
    rw [List.length_map, rgd_len]
    exact Nat.le_refl _
theorem lk_rg3d (ha : LkA K ta aa) : LkI K (iRng3 ta) (aRg3d aa) := by
  intro ρ k hk σ F H O s R hq
  refine ha ρ _ hk σ F H O s _ fun vs as ρ1 F1 H1 k1 s1 r1 h1 => ?_
  split at h1
  · rename_i a b c
    match vs, r1 with
    | [v, u, z], ⟨r, r', r'', _⟩ =>
      cases (show Rp K F1 v (.int a) from r)
      cases (show Rp K F1 u (.int b) from r')
      cases (show Rp K F1 z (.int c) from r'')
      obtain ⟨rfl, hb, h1⟩ := h1
      exact ⟨a, b, -1, (a - b).toNat, rfl, RgC.neg (by omega) (by omega) (by omega) (by omega), hq _ _ ρ1 F1 H1 k1 s1 (walks_rgd a b) h1⟩
  · exact h1.elim
end
theorem gi_rg3 {X : Cx} {tg x y z : Expr} {ta : TA} {aa : AA} {p pos : Pos} (B : Bt X.mg) (ha : GA X [x, y, z] ta aa) (hg : Gl X "range" := by rfl)
    (hs : starEach [x, y, z] X.env = (false, eval x X.env) :: starEach [y, z] X.env := by rfl) (hpl : (backTo pos (starEach [y, z] X.env)).any (·.1) = false := by rfl) : GI X tg (.Call (.Name "range" p) [x, y, z] [] pos) (iRng3 ta) (aRg3d aa) := ⟨pi_range3 hg B.range ha.pa hs hpl, lk_rg3d ha.lk⟩

/-! ### {k: v} -/
def tDisp1 (K : PySem.W.Frag) (tk tv : TE) : TE := fun σ H Q => ∀ p, H p = none → (p == sysModules) = false → tk σ (upd H p (NH p #[] 0)) fun x H1 => tv σ H1 fun y H2 => H2 p = some (NH p #[] 0) ∧
  ∃ (F : Hp) (b : Addr) (d e : D), Ex F H2 ∧ F p = none ∧ x = .ref b ∧ keyOk d = true ∧ Rp K F (.ref b) d ∧ Rp K F y e ∧ ∀ es ep, DicAt K F (upd H2 p (NH p es ep)) p [d] [e] → Q (.ref p) (upd H2 p (NH p es ep))
section
variable {X : Cx}
theorem pe_disp1 {pos : Pos} {k v : Expr} {tk tv : TE} (hu : X.A.units + 65 < cLine) (hk : PE X k tk) (hv : PE X v tv) : PE X (.Dict [some k] [v] pos) (tDisp1 X.K tk tv) := by
  refine ⟨fun pins s σ H Q I h => ?_⟩
  have raw : (s.heap.push { cls := .type "dict", data := .dict #[] }).DictRaw s.heap.objs.size #[] 0 := ⟨_, Heap.get?_push_size _ rfl, ⟨rfl, rfl, rfl⟩, rfl⟩
  have low : (s.heap.objs.size == sysModules) = false := by
    have := I.big
    rw [beq_eq_false_iff_ne]
    exact Nat.ne_of_gt this
  have I0 := I.laid (a := s.heap.objs.size) (o := NH s.heap.objs.size #[] 0) (h' := s.heap.push { cls := .type "dict", data := .dict #[] }) (t' := s.toks) (fun _ _ q => Heap.get?_push_of_some _ q) (Nat.le_refl _) (nh_ok raw)
  have q0 := h _ (I.hok.fresh (Nat.le_refl s.heap.objs.size)) low
  rw [arm_eval_Dict, zip_pairTrees [some k] [v] X.env pos rfl rfl, dictDisplay_pairs (pairTrees [some k] [v] X.env pos) (by intro z; cases z) (by show 1 < 17; decide)]
  refine wpAny_bind (wpAny_standAt (wpAny_bind (wpAny_subDictH (knd := nestedKind X.prog X.w) (Q := fun d s' => wpAny (model X.prog X.w) X.A (pure (Value.ref d)) (EP X pins σ Q) X.xe s') (show X.A.units + 8 < cLine by omega) (by show 1 ≤ 15; decide) ?_)))
  refine pairTrees_cons_walk (thn (hk.run pins _ σ _ _ I0 q0) fun u s1 ⟨x, H1, I1, rx, q1⟩ => thn (hv.run pins s1 σ H1 _ I1 q1) fun w2 s2 ⟨y, H2, I2, ry, q2⟩ => pairTrees_nil_walk ?_)
  obtain ⟨hp, F, b, d, e, ex, fp, rfl, kok, rd, re, q⟩ := q2
  obtain rfl : u = Value.ref b := rx
  obtain ⟨ds, kk, rfl, kd, kz⟩ := keyOk_of kok
  have dd : s2.heap.DictOfH (nestedKind X.prog X.w) s.heap.objs.size [] := dic_heap (ks := []) I2 ex hp ⟨low, fun _ => rfl, List.Pairwise.nil, fun x h => by cases h⟩ rfl .nil
  refine ⟨[(kk, b, w2)], ⟨rfl, rfl, key_heap I2 ex kd kz rd rfl rfl, trivial⟩, dd, fun h' tk dd' hs => wpAny_pure ?_⟩
  have e1 : storedAllH [] [(kk, b, w2)] = [(kk, b, w2)] := rfl
  rw [e1] at dd'
  obtain ⟨o2, es2, ep2, g1, g2, g3, g4, _, g5⟩ := dd'
  have raw2 : h'.DictRaw s.heap.objs.size es2 ep2 := ⟨o2, g1, g2, g3⟩
  have ent : ∀ w : World, es2.toList = [(kk, b, w2)].map (entN w) := fun w => by
    rw [g4]
    show [(⟨kk.hash X.w, _, _⟩ : DictEntry)] = [⟨kk.hash w, _, _⟩]
    rw [hash_key X.w w _ kk kd]
  refine ⟨.ref s.heap.objs.size, upd H2 s.heap.objs.size (NH s.heap.objs.size es2 ep2), d_write (t' := tk) I2 (by rw [hp]; exact True.intro) hs ⟨o2, g1⟩ (nh_ok raw2), rfl, q es2 ep2 ?_⟩
  exact ⟨es2, ep2, [(kk, b, w2)], [y], upd_same, ⟨low, ent, g5, fun x hx => by rw [List.mem_singleton.mp hx]; exact kz⟩, .cons ry .nil, by rw [List.map_cons, List.map_nil, kd]; rfl, .cons rd .nil, .cons re .nil⟩
end
def aDisp1 (a b : AE) : AN := fun ρ k => a ρ fun x ρ1 => b ρ1 fun y ρ2 => match x, y with
  | .im d, .im e => keyOk d = true ∧ k [d] [e] ρ2
  | _, _ => False
theorem lk_disp1 {K : PySem.W.Frag} {tk tv : TE} {a b : AE} (ha : LkE K tk a) (hb : LkE K tv b) : LkN K (tDisp1 K tk tv) (aDisp1 a b) := by
  intro ρ k hk σ F H O s Q hq p hp low
  have nO := s.notO hp
  have kp0 : Kp O F H O F (upd H p (NH p #[] 0)) := ⟨fun a o h _ => Ex.new hp a o h, Ex.refl _, fun _ _ h => .inl h, fun _ h => .inl h⟩
  have s0 : Sl K F (upd H p (NH p #[] 0)) ρ σ O := s.kf ⟨Ex.refl _, Ex.new hp, s.ex.trans (Ex.new hp), fun _ _ h => .inl h⟩
  refine ha ρ _ hk σ F _ O s0 _ fun u x ρ1 F1 H1 k1 s1 r1 h1 => ?_
  refine hb ρ1 _ h1 σ F1 H1 O s1 _ fun v y ρ2 F2 H2 k2 s2 r2 h2 => ?_
  have hp2 : H2 p = some (NH p #[] 0) := k2.h1 p _ (k1.h1 p _ upd_same nO) nO
  have fp2 : F2 p = none := by
    cases q : F2 p with
    | none => rfl
    | some o =>
      rcases (k1.trans k2).h3 p o q with z | z | z
      · have := s.ex p o z
        rw [hp] at this
        cases this
      · exact (nO z).elim
      · rw [upd_same] at z
        cases z
  split at h2
  · rename_i d e
    obtain ⟨kok, h2⟩ := h2
    have rd : Rp K F1 u d := r1
    have re : Rp K F2 v e := r2
    obtain ⟨_, b', rfl⟩ := key_rp (F := F1) (H := H1) kok (.inl rd)
    refine ⟨hp2, F2, b', d, e, s2.ex, fp2, rfl, kok, rd.mono k2.h2, re, fun es ep da => ?_⟩
    have kk := kp0.trans (k1.trans k2)
    refine hq p [d] [e] ρ2 F2 _ ⟨fun a o h n => ?_, kk.h2, kk.h3, kk.h4⟩ ?_ da fp2 nO hp h2
    · rw [upd_ne (ne_of_none h hp)]
      exact kk.h1 a o h n
    · refine ⟨s2.len, s2.im, fun i c q => ?_, s2.ap, fun a o h => ?_, fun a ha => ?_⟩
      · obtain ⟨p', g1, g2, g3⟩ := s2.ow i c q
        refine ⟨p', g1, g2, ?_⟩
        have ne : p' ≠ p := fun z => nO (by rw [← z]; exact g2)
        exact g3.mono (Ex.refl _) (by rw [upd_ne ne])
      · rw [upd_ne (fun z => by rw [z, fp2] at h; cases h)]
        exact s2.ex a o h
      · obtain ⟨g1, g2⟩ := s2.fo a ha
        refine ⟨g1, ?_⟩
        rw [upd_ne (fun z => nO (by rw [← z]; exact ha))]
        exact g2
  · exact h2.elim
theorem gn_disp1 {X : Cx} {K : PySem.W.Frag} {pos : Pos} {k v : Expr} {tk tv : TE} {a b : AE} (hu : X.A.units + 65 < cLine) (ha : GE X k tk a) (hb : GE X v tv b) (hK : X.K = K := by rfl) : GN X (.Dict [some k] [v] pos) (tDisp1 K tk tv) (aDisp1 a b) := by
  subst hK
  exact ⟨pe_disp1 hu ha.pe hb.pe, lk_disp1 ha.lk hb.lk⟩

/-! ### xs, a, b, c, d = [], .., .. -/
def aAsgNew (i n : Nat) (al : AL) (aa : AA) (gs : AGs) : AS := fun A ρ => al ρ fun ds ρ1 => aa ρ1 fun as ρ2 => match imAll as with
  | some es => es.length + 1 = n ∧ es.length ≤ 1000 ∧ gs es (ρ2.set i (.ow (.ol ds))) A.nx
  | none => False
theorem lk_asgNew {K : PySem.W.Frag} {W : WX'} {i n : Nat} {tl : TE} {ta : TA} {tg : TGs} {al : AL} {aa : AA} {gs : AGs} {B : List Nat} (ha : LkL K tl al) (hb : LkA K ta aa) (hg : LkGs K tg gs B) :
    LkS K W (tAsg (tTup (tCons tl ta)) (gTup K n (gCons (gName i) tg))) (aAsgNew i n al aa gs) (i :: B) := by
  intro A ρ h σ F H O s B' Dn hB bd
  refine ha ρ _ h σ F H O s _ fun p xs ds ρ1 F1 H1 k1 s1 hp fp nO h0 r1 h1 => ?_
  refine hb ρ1 _ h1 σ F1 H1 O s1 _ fun vs as ρ2 F2 H2 k2 s2 r2 h2 => ?_
  have hp2 : H2 p = some (.lst xs) := k2.h1 p _ hp nO
  have fp2 : F2 p = none := by
    cases q : F2 p with
    | none => rfl
    | some o =>
      rcases k2.h3 p o q with z | z | z
      · rw [fp] at z; cases z
      · exact (nO z).elim
      · rw [hp] at z; cases z
  split at h2
  · rename_i es q
    obtain ⟨hn, hl, h2⟩ := h2
    have re : RpA K F2 vs es := imAll_ok r2 q
    have lv : vs.length = es.length := re.length
    refine ⟨by rw [List.length_cons, lv, sizeLine_eq]; omega, fun T hT => ?_⟩
    have s3 : Sl K F2 (upd H2 T (.tup (.ref p :: vs))) ρ2 σ O := s2.kf ⟨Ex.refl _, Ex.new hT, s2.ex.trans (Ex.new hT), fun _ _ z => .inl z⟩
    have s4 := s3.setOw (c := .ol ds) ⟨xs, Ex.new hT p _ hp2, r1.mono k2.h2⟩ fp2 nO i
    refine ⟨T, .ref p :: vs, rfl, .inl (.inl upd_same), by rw [List.length_cons, lv]; exact hn, .ref p, vs, rfl, ?_⟩
    refine hg es _ _ h2 vs (σ.set i (some (.ref p))) F2 _ _ s4 re B' (fun j hj => hB j (List.mem_cons_of_mem _ hj)) _ fun ρ5 σ5 F5 H5 k5 s5 e5 h5 => ?_
    have k3 : Kp O F H (fun a => O a ∨ a = p) F2 (upd H2 T (.tup (.ref p :: vs))) := by
      have kk := k1.trans k2
      refine ⟨fun a o q n => Ex.new hT a o (kk.h1 a o q n), kk.h2, kk.h3, fun a z => z.imp id fun e => by rw [e]; exact h0⟩
    exact bd.nx ρ5 σ5 F5 H5 _ (k3.trans k5) s5 ((Keep.set (hB i List.mem_cons_self)).trans e5) h5
  · exact h2.elim
theorem gs_asgNew {X : Cx} {K : PySem.W.Frag} {W : WX'} {i : Nat} {x : Str} {e : Expr} {es ts : List Expr} {tl : TE} {ta : TA} {tg : TGs} {al : AL} {aa : AA} {gs : AGs} {B : List Nat} {px pt pos pt2 : Pos} {kt k2 n : Nat} (hc : X.calm = true) (hNd : X.N.Nodup) (ha : GL X e tl al) (hb : GA X es ta aa) (hg : GGs X ts tg gs B)
    (hi : X.N[i]? = some x := by rfl) (hx : Loc X.env.scope x := by first | exact .inl rfl | exact .inr rfl) (hf : X.fn x = true ∨ X.env.scope.names.lookup x = some .local := by first | exact .inl rfl | exact .inr rfl)
    (hs0 : (assignEach (.Name x px :: ts) X.env).map (·.2) = assign (.Name x px) X.env :: (assignEach ts X.env).map (·.2) := by rfl) (hn : (assignEach (.Name x px :: ts) X.env).length = n := by rfl) (hst : (assignEach (.Name x px :: ts) X.env).findIdx? (·.1) = none := by rfl)
    (hse : starEach (e :: es) X.env = (false, eval e X.env) :: starEach es X.env := by rfl)
    (hs : swapsWithSole [.Tuple (.Name x px :: ts) kt pt] (.Tuple (e :: es) k2 pt2) pos.line X.env = pure false := by rfl) (hw : swappedStores [.Tuple (.Name x px :: ts) kt pt] (.Tuple (e :: es) k2 pt2) X.env = pure none := by rfl)
    (h1 : (assignEach [.Tuple (.Name x px :: ts) kt pt] X.env).map (·.2) = [assign (.Tuple (.Name x px :: ts) kt pt) X.env] := by rfl) (hK : X.K = K := by rfl) :
    GS X W (.Assign [.Tuple (.Name x px :: ts) kt pt] (.Tuple (e :: es) k2 pt2) pos) (tAsg (tTup (tCons tl ta)) (gTup K n (gCons (gName i) tg))) (aAsgNew i n al aa gs) (i :: B) := by
  subst hK
  exact ⟨ps_asg (pe_tup (pa_cons ha.pe hb.pa hse)) (pg_tup hc (pgs_cons (pg_name hNd hi hx hf) hg.pg hs0) hn hst) hs hw h1, lk_asgNew ha.lk hb.lk hg.lk⟩
end DL

/-! DL30: as DL26, the list handed back frozen. -/
namespace DL
open PySem PySem.Spec L2
open PyProof.Rows hiding St
open PySem.W PySem.Calls
def aKeyedF (j i : Nat) (aa : AA) (tab : List (Str × AF)) (g : Str → D → D) : AS := fun A ρ => isOw ρ j = false ∧ j < ρ.length ∧ ∃ x af, ρ[i]? = some (.im (.str x)) ∧ i ≠ j ∧ tab.lookup x = some af ∧ aa (ρ.set j .un) fun as ρ2 => match resAll ρ2 as with
  | some [.lst ds] => (∀ d ∈ ds, af [.im d] fun r _ => r = g x d) ∧ srtByOk (g x) ds ∧ A.rt (.lst (srtBy (g x) ds)) ρ2
  | _ => False
theorem lk_keyed3F {X : Cx} {W : WX'} {j i : Nat} {ta : TA} {aa : AA} {x1 x2 x3 : Str} {f1 f2 f3 : Addr} {a1 a2 a3 : AF} {g : Str → D → D} (h12 : x1 ≠ x2) (h13 : x1 ≠ x3) (h23 : x2 ≠ x3) (k1 : KeyFn X f1 a1) (k2 : KeyFn X f2 a2) (k3 : KeyFn X f3 a3) (ha : LkA X.K ta aa) :
    LkS X.K W (tSeq (tAsg (tDisp [(tC (.str x1), tC (.ref f1)), (tC (.str x2), tC (.ref f2)), (tC (.str x3), tC (.ref f3))]) (gName j)) (tRet (tCKw (rSortK X) ta (tCons (tDGet (tVar j) (tVar i)) tNil)))) (aKeyedF j i aa [(x1, a1), (x2, a2), (x3, a3)] g) [j] := by
  intro A ρ h σ F H O s B' Dn hB bd
  obtain ⟨hj, hjl, x, af, hx, hij, hl, h⟩ := h
  intro p hp
  refine ⟨by rw [upd_same], tab3 x1 x2 x3 f1 f2 f3, rfl, by show 3 ≤ 15; decide, ?_⟩
  have e : upd (upd H p (.dK [])) p (.dK (mergeK [] (tab3 x1 x2 x3 f1 f2 f3))) = upd H p (.dK (mergeK [] (tab3 x1 x2 x3 f1 f2 f3))) := by
    funext b
    unfold upd
    split <;> rfl
  rw [e]
  show tRet (tCKw (rSortK X) ta (tCons (tDGet (tVar j) (tVar i)) tNil)) { Dn with nx := tRet (tCKw (rSortK X) ta (tCons (tDGet (tVar j) (tVar i)) tNil)) Dn } (σ.set j (some (.ref p))) (upd H p (.dK (mergeK [] (tab3 x1 x2 x3 f1 f2 f3))))
  generalize eD : mergeK [] (tab3 x1 x2 x3 f1 f2 f3) = kvs
  have nO := s.notO hp
  have kp0 : Kp O F H O F (upd H p (.dK kvs)) := ⟨fun a o q _ => Ex.new hp a o q, Ex.refl _, fun _ _ q => .inl q, fun _ q => .inl q⟩
  have s0 : Sl X.K F (upd H p (.dK kvs)) ρ σ O := s.kf ⟨Ex.refl _, Ex.new hp, s.ex.trans (Ex.new hp), fun _ _ q => .inl q⟩
  have su := s0.setUn j (.ref p)
  have hjs : j < σ.length := by rw [← s.len]; exact hjl
  obtain ⟨v, hv, rx⟩ := s.im i _ hx
  cases rx
  refine ha _ _ h _ F _ O su _ fun vs as ρ2 F2 H2 kp2 s2 r2 h2 => ?_
  refine ⟨_, List.getElem?_set_self hjs, _, by rw [List.getElem?_set_ne (Ne.symm hij)]; exact hv, ?_⟩
  split at h2
  · rename_i ds q
    obtain ⟨hg, ok, h2⟩ := h2
    obtain ⟨u, eu, ru⟩ := rprs1 (resAll_ok s2 r2 q)
    obtain ⟨l, ys, el, g1, g2⟩ := ru.lst s2.ex rfl
    subst eu el
    obtain ⟨f, hf, which⟩ := tab3_get (f1 := f1) (f2 := f2) (f3 := f3) h12 h13 h23 hl
    rw [eD] at hf
    have hH : H2 p = some (.dK kvs) := kp2.h1 p _ upd_same nO
    have kf : KeyFn X f af := by
      rcases which with ⟨rfl, rfl⟩ | ⟨rfl, rfl⟩ | ⟨rfl, rfl⟩
      · exact k1
      · exact k2
      · exact k3
    refine ⟨p, .ref f, rfl, .inl ⟨kvs, .inr x, .inl hH, rfl, hf.symm⟩, ?_⟩
    refine ⟨l, f, af, g x, ds, ys, F2, rfl, rfl, SqL.of g1, s2.ex, g2, kf, hg, ok, fun p' F' H' zs kp' ex' hp' fp' hn' rd' => ?_⟩
    have kpO : Kp O F2 H2 O F' H' := ⟨fun a o q _ => kp'.h1 a o q id, kp'.h2, fun a o q => (kp'.h3 a o q).elim .inl fun z => z.elim (fun z => z.elim) fun z => .inr (.inr z), fun a q => .inl q⟩
    have s3 : Sl X.K F' H' ρ2 (σ.set j (some (.ref p))) O := s2.kf ⟨kp'.h2, fun a o q => kp'.h1 a o q id, ex', fun a o q => (kp'.h3 a o q).elim .inl fun z => z.elim (fun z => z.elim) .inr⟩
    have nO' : ¬ O p' := s2.notO hn'
    exact bd.rt (.ref p') (.lst (srtBy (g x) ds)) ρ2 _ (upd F' p' (.lst zs)) H' O (((kp0.trans kp2).trans kpO).freeze fp' (.inr ((kp0.trans kp2).back hn' nO'))) (s3.freeze hp' fp' nO') (Keep.set (hB j List.mem_cons_self)) (.lst upd_same (rd'.mono (Ex.new fp'))) h2
  · exact h2.elim
section
variable {X : Cx} {K : PySem.W.Frag} {W : WX'}
theorem gss_keyed3F {P : Program} {w : World} {mg : Str → Option Value} {base : Heap} {k1 k2 k3 r : Nat} {n1 n2 n3 x1 x2 x3 y z : Str} {a1 a2 a3 : AF} (g : Str → D → D) {j i : Nat} {e : Expr} {ta : TA} {aa : AA} {spos py q1 q2 q3 p1 p2 p3 dpos rpos p pos kpos ppos yp zp : Pos} {c1 c2 c3 : Nat}
    (d1 : Df P w K mg base k1 n1 a1) (d2 : Df P w K mg base k2 n2 a2) (d3 : Df P w K mg base k3 n3 a3) (hr : Room (r + 2) X.A) (ha : GA X [e] ta aa) (hN : X.N.Nodup) (Bn : Bt X.mg)
    (hx12 : x1 ≠ x2 := by decide) (hx13 : x1 ≠ x3 := by decide) (hx23 : x2 ≠ x3 := by decide) (l1 : k1 ≤ r := by decide) (l2 : k2 ≤ r := by decide) (l3 : k3 ≤ r := by decide)
    (g1 : Gl X n1 := by rfl) (g2 : Gl X n2 := by rfl) (g3 : Gl X n3 := by rfl) (b1 : (n1 == ("__debug__" : Str)) = false := by decide) (b2 : (n2 == ("__debug__" : Str)) = false := by decide) (b3 : (n3 == ("__debug__" : Str)) = false := by decide)
    (hj : X.N[j]? = some y := by rfl) (hl : Loc X.env.scope y := by first | exact .inl rfl | exact .inr rfl) (hi : X.N[i]? = some z := by rfl)
    (hf : X.fn y = true ∨ X.env.scope.names.lookup y = some .local := by first | exact .inl rfl | exact .inr rfl)
    (vy : Vis X.env.scope y := by first | exact Or.inl rfl | exact Or.inr (Or.inl rfl) | exact Or.inr (Or.inr rfl)) (vz : Vis X.env.scope z := by first | exact Or.inl rfl | exact Or.inr (Or.inl rfl) | exact Or.inr (Or.inr rfl))
    (dy : (y == ("__debug__" : Str)) = false := by decide) (cy : (y == ("__classdict__" : Str)) = false := by decide) (dz : (z == ("__debug__" : Str)) = false := by decide) (cz : (z == ("__classdict__" : Str)) = false := by decide)
    (hs : NoSl (.Name z zp) := by exact fun _ _ => rfl) (gs : Gl X "sorted" := by rfl)
    (hsw : swapsWith (.Dict [some (.Constant (.str x1) c1 q1), some (.Constant (.str x2) c2 q2), some (.Constant (.str x3) c3 q3)] [.Name n1 p1, .Name n2 p2, .Name n3 p3] dpos) (some (.Name y py)) spos.line X.env = pure false := by rfl)
    (he : backTo pos (starEach (e :: []) X.env) = (false, eval e X.env) :: backTo pos (starEach [] X.env) := by rfl) (hpl : (backTo pos (starEach (e :: []) X.env)).any (·.1) = false := by rfl)
    (hall : (backToKw pos (keywordEach [⟨some "key", .Subscript (.Name y yp) (.Name z zp) ppos, kpos⟩] X.env)).all (·.1.isSome) = true := by rfl) (hnone : (backToKw pos (keywordEach [⟨some "key", .Subscript (.Name y yp) (.Name z zp) ppos, kpos⟩] X.env)).any (·.1.isNone) = false := by rfl)
    (hks : (backToKw pos (keywordEach [⟨some "key", .Subscript (.Name y yp) (.Name z zp) ppos, kpos⟩] X.env)).filterMap (·.1) = [Str.ofString "key"] := by rfl)
    (hK : X.K = K := by rfl) (hP : X.prog = P := by rfl) (hw : X.w = w := by rfl) (hm : X.mg = mg := by rfl) (hb : X.base = base := by rfl) :
    ∃ t, GSs X W [.Assign [.Name y py] (.Dict [some (.Constant (.str x1) c1 q1), some (.Constant (.str x2) c2 q2), some (.Constant (.str x3) c3 q3)] [.Name n1 p1, .Name n2 p2, .Name n3 p3] dpos) spos,
      .Return (some (.Call (.Name "sorted" p) [e] [⟨some "key", .Subscript (.Name y yp) (.Name z zp) ppos, kpos⟩] pos)) rpos] t (aKeyedF j i aa [(x1, a1), (x2, a2), (x3, a3)] g) [j] := by
  subst hK hP hw hm hb
  obtain ⟨f1, k1', m1, _⟩ := keyFn_of d1 hr l1
  obtain ⟨f2, k2', m2, _⟩ := keyFn_of d2 hr l2
  obtain ⟨f3, k3', m3, _⟩ := keyFn_of d3 hr l3
  have u := hr.units
  have un := hr.un
  have pd := pe_disp (X := X) (pos := dpos) (pps_cons (pe_str (x := x1) (j := c1) (pos := q1)) (pe_glob (pos := p1) g1 m1 (v := .ref f1) rfl b1) (pps_cons (pe_str (x := x2) (j := c2) (pos := q2)) (pe_glob (pos := p2) g2 m2 (v := .ref f2) rfl b2) (pps_cons (pe_str (x := x3) (j := c3) (pos := q3)) (pe_glob (pos := p3) g3 m3 (v := .ref f3) rfl b3) pps_nil))) rfl rfl (by simp) (by simp)
  have s1 := ps_set (pos := spos) (pos' := py) hN hj hl pd hsw hf
  have pg := pe_dget (pos := ppos) (by omega) (pe_var (pos := yp) hj vy dy cy) (pe_var (pos := zp) hi vz dz cz) hs
  have pc := pe_callBK (p := p) (pos := pos) (cr_sortK (by omega)) gs Bn.sorted (by decide +kernel) ha.pa (pk_cons (nm := some "key") (kpos := kpos) pg pk_nil) (by decide) (by decide) he hpl hall hnone hks
  exact ⟨_, pss_cons s1 (pss_one (ps_ret pc)), lk_keyed3F hx12 hx13 hx23 k1' k2' k3' ha.lk⟩
end
end DL

/-! DL31: xs.pop(i). -/
namespace DL
open PySem PySem.Spec L2
open PyProof.Rows hiding St
def aPopAt (i : Nat) (b : AE) : AE := fun ρ k => isOl ρ i = true ∧ b ρ fun y ρ1 => match y, ρ1[i]? with
  | .im (.int n), some (.ow (.ol ds)) => -1000000 ≤ n ∧ n ≤ 1000000 ∧ ∃ m d, ixN ds.length n = some m ∧ ds[m]? = some d ∧ k (.im d) (ρ1.set i (.ow (.ol (ds.eraseIdx m))))
  | _, _ => False
theorem RpA.eraseIdx {K : PySem.W.Frag} {F : Hp} {xs : List V} {ds : List D} (r : RpA K F xs ds) (m : Nat) : RpA K F (xs.eraseIdx m) (ds.eraseIdx m) := by
  rw [List.eraseIdx_eq_take_drop_succ, List.eraseIdx_eq_take_drop_succ]
  exact (r.take m).append (r.drop (m + 1))
theorem lk_popAt {K : PySem.W.Frag} {tb : TE} {b : AE} {i : Nat} (hb : LkE K tb b) : LkE K (tBM K "list" rPopAt (tVar i) (tCons tb tNil)) (aPopAt i b) := by
  intro ρ k hk σ F H O s Q hq
  obtain ⟨ho, hk⟩ := hk
  obtain ⟨ds0, hc⟩ := isOl_get ho
  obtain ⟨p, h1, h2, xs0, h4, h5⟩ := s.ow i _ hc
  refine ⟨.ref p, h1, .inl ⟨rfl, xs0, SqL.of h4⟩, ?_⟩
  refine hb ρ _ hk σ F H O s _ fun v x ρ1 F1 H1 k1 s1 r1 hk1 => ?_
  split at hk1
  · rename_i n ds q
    obtain ⟨n1, n2, m, d, hm, hd, hk1⟩ := hk1
    cases (show Rp K F1 v (.int n) from r1)
    obtain ⟨p', g1, g2, xs, g3, g4⟩ := s1.ow i _ q
    rw [h1] at g1
    cases g1
    obtain ⟨u, hu, ru⟩ := g4.get hd
    refine ⟨p, xs, n, m, u, rfl, rfl, g3, by omega, by omega, ?_, hu, ?_⟩
    · rw [g4.length]
      exact (ixN_seq hm).1
    · exact hq u (.im d) _ F1 _ (k1.trans (Kp.write g2)) (s1.write (c' := .ol (ds.eraseIdx m)) q h1 ⟨xs.eraseIdx m, upd_same, g4.eraseIdx m⟩) ru hk1
  · exact hk1.elim
theorem ge_popAt {X : Cx} {K : PySem.W.Frag} {x : Str} {xp apos cpos : Pos} {e : Expr} {te : TE} {a : AE} (i : Nat) (ha : GE X e te a) (hN : X.N[i]? = some x := by rfl) (hv : Vis X.env.scope x := by first | exact Or.inl rfl | exact Or.inr (Or.inl rfl) | exact Or.inr (Or.inr rfl)) (hd : (x == ("__debug__" : Str)) = false := by decide)
    (hcd : (x == ("__classdict__" : Str)) = false := by decide) (hbase : attributeBase (.Name x xp) "pop" X.env (eval (.Name x xp) X.env) = eval (.Name x xp) X.env := by rfl)
    (hfew : ((backTo cpos (starEach [e] X.env)).all (fun x => !x.1) && (backToKw cpos (keywordEach [] X.env)).all (fun x => x.1.isSome)
      && decide ([e].length + ([] : List Keyword).length + (if ([] : List Keyword).isEmpty then 0 else 1) < 30)) = true := by rfl)
    (hline : (apos.endLine == cpos.line) = true := by rfl) (hs : starEach (e :: []) X.env = (false, eval e X.env) :: starEach [] X.env := by rfl) (hplain : (backTo cpos (starEach [] X.env)).any (·.1) = false := by rfl) (hK : X.K = K := by rfl) :
    GE X (.Call (.Attribute (.Name x xp) "pop" apos) [e] [] cpos) (tBM K "list" rPopAt (tVar i) (tCons te tNil)) (aPopAt i a) := by
  subst hK
  exact ⟨pe_bm PySem.F.plainAttrs_list PySem.F.slot_list_pop PySem.F.type_list_pop mt_popAt (pe_var hN hv hd hcd) (pa_cons ha.pe pa_nil hs) hbase hfew hline hs hplain, lk_popAt ha.lk⟩
end DL

/-! DL32: t[::-1] of a tuple. -/
namespace DL
open PySem PySem.Spec L2 HT
open PyProof.Rows hiding St
section
variable {prog : Program} {w : World} {A : Around} {E : Value → Shared → Prop} {s : Shared}
theorem adjust_rev (n : Nat) : Builtin.Slice.sliceAdjust none none (-1) (n : Int) = ((n : Int) - 1, -1) := by
  unfold Builtin.Slice.sliceAdjust
  simp only [show ((-1 : Int) < 0) by decide, if_true]
theorem places_rev (n : Nat) : Builtin.Slice.slicePlaces ((n : Int) - 1) (-1) (-1) = n := by
  unfold Builtin.Slice.slicePlaces
  rw [if_neg (by decide)]
  by_cases h : (n : Int) - 1 > -1
  · rw [if_pos h, show ((n : Int) - 1 - -1 - 1) / (- -1) = (n : Int) - 1 by rw [show (- -1 : Int) = 1 by decide, Int.ediv_one]; omega]
    omega
  · rw [if_neg h]
    omega
theorem sliceApplied_rev {sl : Addr} {t : Tok} {n : Nat} {Q : Int × Int × Nat → Shared → Prop} (hs : s.heap.IsSliceOf sl .none .none (.int (-1) t)) (h : Q ((n : Int) - 1, -1, n) s) : wpAny (model prog w) A (Builtin.Slice.sliceApplied (.ref sl) (pure (n : Int))) Q E s := by
  obtain ⟨os, hos, hcs, hds⟩ := id hs
  unfold Builtin.Slice.sliceApplied Builtin.Slice.sliceFields
  refine wpAny_bind (wpAny_bind (wpAny_field hos hds (x := .none) rfl (wpAny_bind (wpAny_field hos hds (x := .none) rfl (wpAny_bind (wpAny_field hos hds (x := .int (-1) t) rfl (wpAny_pure ?_)))))))
  refine wpAny_bind (slicePart_int ?_)
  show wpAny _ _ (if ((-1 : Int) == 0) = true then _ else _) _ _ s
  rw [if_neg (by decide)]
  refine wpAny_bind (slicePart_none (wpAny_bind (slicePart_none (wpAny_bind (wpAny_pure ?_)))))
  show wpAny _ _ (match Builtin.Slice.sliceAdjust none none (-1) (n : Int) with | (lo, hi) => pure (lo, (-1 : Int), Builtin.Slice.slicePlaces lo hi (-1))) _ _ s
  rw [adjust_rev]
  show wpAny _ _ (pure ((n : Int) - 1, (-1 : Int), Builtin.Slice.slicePlaces ((n : Int) - 1) (-1) (-1))) _ _ s
  rw [places_rev]
  exact wpAny_pure h
theorem fm_congr {α β : Type} {f g : α → Option β} : ∀ {l : List α}, (∀ x ∈ l, f x = g x) → l.filterMap f = l.filterMap g
  | [], _ => rfl
  | x :: l, h => by
    rw [List.filterMap_cons, List.filterMap_cons, h x List.mem_cons_self, fm_congr fun y hy => h y (List.mem_cons_of_mem _ hy)]
theorem pick_rev (xs : Array Value) : ((List.range xs.size).filterMap fun (m : Nat) => xs[((xs.size : Int) - 1 + (m : Int) * -1).toNat]?).toArray = xs.toList.reverse.toArray := by
  have e : (List.range xs.size).filterMap (fun (m : Nat) => xs[((xs.size : Int) - 1 + (m : Int) * -1).toNat]?) = ((List.range xs.size).map fun k => xs.size - 1 - k).filterMap (xs[·]?) := by
    rw [List.filterMap_map]
    refine fm_congr fun m hm => ?_
    have := List.mem_range.mp hm
    show xs[((xs.size : Int) - 1 + (m : Int) * -1).toNat]? = xs[xs.size - 1 - m]?
    rw [show ((xs.size : Int) - 1 + (m : Int) * -1).toNat = xs.size - 1 - m by omega]
  rw [e, PySem.W.krv_range, List.filterMap_reverse, PySem.W.krv_all]
theorem getItem_tuple_rev {t sl : Addr} {items : Array Value} {tk : Tok} {Q : Value → Shared → Prop} (ht : IsTup s.heap t items) (hs : s.heap.IsSliceOf sl .none .none (.int (-1) tk))
    (h : Q (.ref s.heap.objs.size) { s with heap := s.heap.push { cls := .type "tuple", data := .seq items.toList.reverse.toArray } })
    (hsz : items.size ≤ sizeLine) : wpAny (model prog w) A (getItem (.ref t) (.ref sl)) Q E s := by
  have htake : sizeOk (.seq items.toList.reverse.toArray) := by
    show items.toList.reverse.toArray.size ≤ sizeLine
    rw [List.size_toArray, List.length_reverse, Array.length_toList]
    exact hsz
  obtain ⟨os, hos, hcs, hds⟩ := id hs
  have hTs : s.TypeIs (.ref sl) "slice" := ⟨os, hos, hcs⟩
  unfold getItem
  try with_reducible refine wpAny_holding ?_
  first | refine wpAny_bind (wpAny_pure ?_) | skip
  refine wpAny_bind (wpAny_sequenceKey ht.typeIs (by decide) ?_)
  refine wpAny_bind (wpAny_callSpecial?_slot (name := Str.ofString "__getitem__") ht.typeIs PyProof.Rows.slot_tuple_getitem
    (wpAny_call_entry PyProof.Rows.slot_tuple_getitem ht.typeIs entry_tuple_getitem ?_ (args_tuple_getitem _ _)))
  show wpAny _ _ (Builtin.Tuple.tupleItemsOf (.ref t) >>= _) _ _ s
  refine wpAny_bind (tupleItemsOf_ ht ?_)
  refine wpAny_bind (wpAny_typeOf hTs ?_)
  rw [if_pos (by decide)]
  refine wpAny_bind (sliceApplied_rev hs ?_)
  have hno : ¬ ((((items.size : Int) - 1 == 0) && ((-1 : Int) == 1) && (items.size == items.size)) = true) := by
    intro q
    rw [Bool.and_eq_true, Bool.and_eq_true] at q
    exact absurd q.1.2 (by decide)
  show wpAny _ _ (if (((items.size : Int) - 1 == 0) && ((-1 : Int) == 1) && (items.size == items.size)) = true then _ else _) _ _ s
  rw [if_neg hno, pick_rev]
  first
    | exact wpAny_bind (m := Builtin.Tuple.tupleExact _) (wpAny_newObj_type (wpAny_pure ⟨_, rfl, wpAny_pure h⟩) htake)
    | exact wpAny_bind (m := Builtin.Tuple.tupleExact _) (wpAny_newObj_type (wpAny_bind (wpAny_pure (wpAny_pure ⟨_, rfl, wpAny_pure h⟩))) htake)
    | exact wpAny_bind (wpAny_bind (m := Builtin.Tuple.tupleExact _) (wpAny_newObj_type (wpAny_pure (wpAny_pure ⟨_, rfl, wpAny_pure h⟩)) htake))
    | exact wpAny_bind (wpAny_bind (m := Builtin.Tuple.tupleExact _) (wpAny_newObj_type (wpAny_pure ⟨_, rfl, wpAny_pure h⟩) htake))
end
def tRev (K : PySem.W.Frag) (te ts : TE) : TE := fun σ H Q => te σ H fun x H1 => ts σ H1 fun y H2 => y = .int (-1) ∧ ∃ a xs, x = .ref a ∧ SqT K H2 a xs ∧ ∀ p, H2 p = none → Q (.ref p) (upd H2 p (.tup xs.reverse))
theorem pe_rev {X : Cx} {e st : Expr} {te ts : TE} {pos p2 : Pos} (he : PE X e te) (hst : PE X st ts) : PE X (.Subscript e (.Slice none none (some st) p2) pos) (tRev X.K te ts) := by
  refine ⟨fun pins s σ H Q I h => ?_⟩
  refine Subscript_ (thn (he.run pins s σ H _ I h) fun v s1 ⟨x, H1, I1, r1, q1⟩ => ?_)
  refine wpAny_Slice ?_
  rw [evalPart_none]
  refine wpAny_pure (wpAny_pure ?_)
  rw [evalPart_some]
  refine thn (hst.run pins s1 σ H1 _ I1 q1) fun u s3 ⟨y, H3, I3, r3, q3⟩ => ?_
  obtain ⟨rfl, a, xs, rfl, hx, q⟩ := q3
  obtain ⟨tk, rfl⟩ := r3
  cases r1
  have I4 : Inv X pins σ H3 { s3 with heap := s3.heap.push { cls := .type "slice", data := .fields #[.none, .none, .int (-1) tk] } } := I3.kept (t' := s3.toks) fun b ob q => Heap.get?_push_of_some _ q
  obtain ⟨its, r, ht, hz⟩ := I4.tuple hx
  have hlen : its.toArray.size = xs.length := by rw [List.size_toArray]; exact r.length.symm
  show wpAny (model X.prog X.w) X.A (subscriptTail e (.Slice none none (some st) p2) (.ref a) (.ref s3.heap.objs.size)) (EP X pins σ Q) X.xe { s3 with heap := s3.heap.push { cls := .type "slice", data := .fields #[.none, .none, .int (-1) tk] } }
  refine tail_any (ops := [.ref a, .ref s3.heap.objs.size]) ht.typeIs PyProof.Rows.slot_tuple_getitem.lookup (getItem_tuple_rev ht (Heap.IsSliceOf.new ..) ?_ (by rw [hlen]; exact hz)) (by with_unfolding_all rfl)
  refine ⟨.ref (s3.heap.push { cls := .type "slice", data := .fields #[.none, .none, .int (-1) tk] }).objs.size, _, I4.laid (t' := s3.toks) (o := .tup xs.reverse) (fun b ob q => Heap.get?_push_of_some _ q) (Nat.le_refl _) ?_, rfl, q _ (I4.hok.fresh (Nat.le_refl _))⟩
  exact ⟨by rw [List.length_reverse]; exact hz, _, r.reverse, IsTup.new _ _⟩
def aRev (a b : AE) : AE := fun ρ k => a ρ fun x ρ1 => b ρ1 fun y ρ2 => match y, res ρ2 x with
  | .im (.int n), some (.tup ds) => n = -1 ∧ k (.im (.tup ds.reverse)) ρ2
  | _, _ => False
theorem lk_rev {K : PySem.W.Frag} {te ts : TE} {a b : AE} (ha : LkE K te a) (hb : LkE K ts b) : LkE K (tRev K te ts) (aRev a b) := by
  intro ρ k hk σ F H O s Q hq
  refine ha ρ _ hk σ F H O s _ fun v x ρ1 F1 H1 k1 s1 r1 h1 => ?_
  refine hb ρ1 _ h1 σ F1 H1 O s1 _ fun u y ρ2 F2 H2 k2 s2 r2 h2 => ?_
  have kk : Kp O F H O F2 H2 := k1.trans k2
  have rx : RpV K F2 σ v x := r1.mono k2.h2
  split at h2
  · rename_i n ds q
    obtain ⟨rfl, h2⟩ := h2
    cases (show Rp K F2 u (.int (-1)) from r2)
    have rr := res_ok s2 rx q
    obtain ⟨p, vs, rfl, g1, g2⟩ := rr.tup s2.ex rfl
    refine ⟨rfl, p, vs, rfl, g1, fun l hl => ?_⟩
    have kf : KF F2 H2 (upd F2 l (.tup vs.reverse)) (upd H2 l (.tup vs.reverse)) := KF.put s2.ex hl
    exact hq _ (.im (.tup ds.reverse)) ρ2 _ _ (kk.trans kf.kp) (s2.kf kf) (Rp.tup (.inl (.inl upd_same)) (g2.mono kf.f).rev) h2
  · exact h2.elim
theorem ge_rev {X : Cx} {K : PySem.W.Frag} {e st : Expr} {te ts : TE} {a b : AE} {pos p2 : Pos} (he : GE X e te a) (hst : GE X st ts b) (hK : X.K = K := by rfl) : GE X (.Subscript e (.Slice none none (some st) p2) pos) (tRev K te ts) (aRev a b) := by
  subst hK
  exact ⟨pe_rev he.pe hst.pe, lk_rev he.lk hst.lk⟩
end DL

namespace K89
open PySem PySem.Spec L2 DL
open PyProof.Rows hiding St
def topS (i : Nat) : Stmt := PySem.Challenge.pw_cellhall_k89_whole_orders_of_boxes.main.body.getD i (.Pass ⟨0, 0, 0, 0⟩)
abbrev sFitsWhole : Stmt := topS 8
theorem scFitsWhole : FnScope ["value", "low", "high"] ["value", "low", "high"] (defScope sFitsWhole) := ⟨rfl, rfl, rfl, by decide +kernel, rfl, by decide +kernel, by decide +kernel⟩
abbrev sIsTupleOf : Stmt := topS 9
theorem scIsTupleOf : FnScope ["value", "least", "most"] ["value", "least", "most"] (defScope sIsTupleOf) := ⟨rfl, rfl, rfl, by decide +kernel, rfl, by decide +kernel, by decide +kernel⟩
abbrev sFitsCell : Stmt := topS 10
theorem scFitsCell : FnScope ["value", "place"] ["value"] (defScope sFitsCell) := ⟨rfl, rfl, rfl, by decide +kernel, rfl, by decide +kernel, by decide +kernel⟩
abbrev sBoxCells : Stmt := topS 14
theorem scBoxCells : FnScope ["rows", "columns", "found", "row", "column"] ["rows", "columns"] (defScope sBoxCells) := ⟨rfl, rfl, rfl, by decide +kernel, rfl, by decide +kernel, by decide +kernel⟩
abbrev sRowKey : Stmt := topS 15
theorem scRowKey : FnScope ["cell"] ["cell"] (defScope sRowKey) := ⟨rfl, rfl, rfl, by decide +kernel, rfl, by decide +kernel, by decide +kernel⟩
abbrev sSnakeKey : Stmt := topS 16
theorem scSnakeKey : FnScope ["cell", "row", "column"] ["cell"] (defScope sSnakeKey) := ⟨rfl, rfl, rfl, by decide +kernel, rfl, by decide +kernel, by decide +kernel⟩
abbrev sDiagonalKey : Stmt := topS 17
theorem scDiagonalKey : FnScope ["cell"] ["cell"] (defScope sDiagonalKey) := ⟨rfl, rfl, rfl, by decide +kernel, rfl, by decide +kernel, by decide +kernel⟩
abbrev sSpiralIn : Stmt := topS 18
theorem scSpiralIn : FnScope ["rows", "columns", "found", "top", "left", "bottom", "right", "column", "row"] ["rows", "columns"] (defScope sSpiralIn) := ⟨rfl, rfl, rfl, by decide +kernel, rfl, by decide +kernel, by decide +kernel⟩
abbrev sOrderIn : Stmt := topS 19
theorem scOrderIn : FnScope ["kind", "rows", "columns", "keys"] ["kind", "rows", "columns"] (defScope sOrderIn) := ⟨rfl, rfl, rfl, by decide +kernel, rfl, by decide +kernel, by decide +kernel⟩
abbrev sFitsOrder : Stmt := topS 20
theorem scFitsOrder : FnScope ["value", "cell"] ["value"] (defScope sFitsOrder) := ⟨rfl, rfl, rfl, by decide +kernel, rfl, by decide +kernel, by decide +kernel⟩
abbrev sNeedOrder : Stmt := topS 21
theorem scNeedOrder : FnScope ["order"] ["order"] (defScope sNeedOrder) := ⟨rfl, rfl, rfl, by decide +kernel, rfl, by decide +kernel, by decide +kernel⟩
abbrev sNeedBox : Stmt := topS 22
theorem scNeedBox : FnScope ["kind", "rows", "columns"] ["kind", "rows", "columns"] (defScope sNeedBox) := ⟨rfl, rfl, rfl, by decide +kernel, rfl, by decide +kernel, by decide +kernel⟩
abbrev sStepsBetween : Stmt := topS 23
theorem scStepsBetween : FnScope ["one", "other"] ["one", "other"] (defScope sStepsBetween) := ⟨rfl, rfl, rfl, by decide +kernel, rfl, by decide +kernel, by decide +kernel⟩
abbrev sIsOrder : Stmt := topS 24
theorem scIsOrder : FnScope ["value"] ["value"] (defScope sIsOrder) := ⟨rfl, rfl, rfl, by decide +kernel, rfl, by decide +kernel, by decide +kernel⟩
abbrev sBoxOrder : Stmt := topS 25
theorem scBoxOrder : FnScope ["kind", "rows", "columns"] ["kind", "rows", "columns"] (defScope sBoxOrder) := ⟨rfl, rfl, rfl, by decide +kernel, rfl, by decide +kernel, by decide +kernel⟩
abbrev sPlaceInBox : Stmt := topS 26
theorem scPlaceInBox : FnScope ["kind", "rows", "columns", "cell"] ["kind", "rows", "columns", "cell"] (defScope sPlaceInBox) := ⟨rfl, rfl, rfl, by decide +kernel, rfl, by decide +kernel, by decide +kernel⟩
abbrev sIsWalk : Stmt := topS 27
theorem scIsWalk : FnScope ["order", "one", "other"] ["order"] (defScope sIsWalk) := ⟨rfl, rfl, rfl, by decide +kernel, rfl, by decide +kernel, by decide +kernel⟩
abbrev sLawCup : Stmt := topS 29
theorem scLawCup : FnScope ["script", "cell"] ["script"] (defScope sLawCup) := ⟨rfl, rfl, rfl, by decide +kernel, rfl, by decide +kernel, by decide +kernel⟩
abbrev sLawRoll : Stmt := topS 30
theorem scLawRoll : FnScope ["cup", "many", "found", "deep"] ["cup", "many"] (defScope sLawRoll) := ⟨rfl, rfl, rfl, by decide +kernel, rfl, by decide +kernel, by decide +kernel⟩
abbrev sLawSome : Stmt := topS 31
theorem scLawSome : FnScope ["cup", "things"] ["cup", "things"] (defScope sLawSome) := ⟨rfl, rfl, rfl, by decide +kernel, rfl, by decide +kernel, by decide +kernel⟩
abbrev sLawSame : Stmt := topS 32
theorem scLawSame : FnScope ["told", "due", "at"] ["told", "due"] (defScope sLawSame) := ⟨rfl, rfl, rfl, by decide +kernel, rfl, by decide +kernel, by decide +kernel⟩
abbrev sLawBox : Stmt := topS 33
theorem scLawBox : FnScope ["rows", "columns", "found", "row", "column"] ["rows", "columns"] (defScope sLawBox) := ⟨rfl, rfl, rfl, by decide +kernel, rfl, by decide +kernel, by decide +kernel⟩
abbrev sLawSpiral : Stmt := topS 34
theorem scLawSpiral : FnScope ["rows", "columns", "found", "ways", "way", "met", "row", "column"] ["rows", "columns"] (defScope sLawSpiral) := ⟨rfl, rfl, rfl, by decide +kernel, rfl, by decide +kernel, by decide +kernel⟩
abbrev sLawOrder : Stmt := topS 35
theorem scLawOrder : FnScope ["kind", "rows", "columns", "box", "row", "column", "total"] ["kind", "rows", "columns"] (defScope sLawOrder) := ⟨rfl, rfl, rfl, by decide +kernel, rfl, by decide +kernel, by decide +kernel⟩
abbrev sLawSize : Stmt := topS 36
theorem scLawSize : FnScope ["cup", "rows"] ["cup"] (defScope sLawSize) := ⟨rfl, rfl, rfl, by decide +kernel, rfl, by decide +kernel, by decide +kernel⟩
abbrev sLawDrawn : Stmt := topS 37
theorem scLawDrawn : FnScope ["cup", "cells", "left", "found"] ["cup", "cells"] (defScope sLawDrawn) := ⟨rfl, rfl, rfl, by decide +kernel, rfl, by decide +kernel, by decide +kernel⟩
abbrev sLawIsOrder : Stmt := topS 38
theorem scLawIsOrder : FnScope ["value", "cell", "one"] ["value"] (defScope sLawIsOrder) := ⟨rfl, rfl, rfl, by decide +kernel, rfl, by decide +kernel, by decide +kernel⟩
abbrev sLaw : Stmt := topS 39
theorem scLaw : FnScope ["script", "cup", "turn", "rows", "columns", "kind", "due", "at", "told", "order", "odds", "values", "value", "odd", "many", "row", "column"] ["script"] (defScope sLaw) := ⟨rfl, rfl, rfl, by decide +kernel, rfl, by decide +kernel, by decide +kernel⟩

/-! ### plain functions -/
def fitsWhole : D → Int → Int → Bool
  | .int i, lo, hi => decide (lo ≤ i) && decide (i ≤ hi)
  | _, _, _ => false
def isTup : D → Int → Int → Bool
  | .tup ds, lo, hi => decide (lo ≤ (ds.length : Int)) && decide ((ds.length : Int) ≤ hi)
  | _, _, _ => false
abbrev Cl := Int × Int
def cD (c : Cl) : D := .tup [.int c.1, .int c.2]
def csD (l : List Cl) : List D := l.map cD
def okC (c : Cl) : Bool := decide (0 ≤ c.1) && decide (c.1 ≤ 59) && decide (0 ≤ c.2) && decide (c.2 ≤ 59)
theorem okC_iff {c : Cl} : okC c = true ↔ 0 ≤ c.1 ∧ c.1 ≤ 59 ∧ 0 ≤ c.2 ∧ c.2 ≤ 59 := by
  unfold okC
  simp only [Bool.and_eq_true, decide_eq_true_eq, and_assoc]
theorem flats_csD : ∀ l : List Cl, flats (csD l) = some (l.map fun c => [c.1, c.2])
  | [] => rfl
  | c :: l => by
    have e := flats_csD l
    unfold csD at e ⊢
    rw [List.map_cons]
    unfold flats
    rw [e]
    rfl
theorem kinds_csD {l : List Cl} (h : l.Nodup) : kinds (l.map fun c => [c.1, c.2]) = l.length := by
  rw [kinds_nodup, List.length_map]
  refine List.Pairwise.map _ (fun a b hab e => hab ?_) h
  have h1 := (List.cons.inj e).1
  have h2 := (List.cons.inj (List.cons.inj e).2).1
  exact Prod.ext h1 h2

section
variable {P : Program} {w : World} {K : PySem.W.Frag} {mg : Str → Option Value} {base : Heap}
def afFitsWhole : AF := fun ρ k => ∃ d lo hi, ρ = [.im d, .im (.int lo), .im (.int hi)] ∧ val d = true ∧ k (.bl (fitsWhole d lo hi)) ρ
theorem ok_fits_whole (Bn : Bt mg) (h : Here K mg "fits_whole" sFitsWhole ["value", "low", "high"]) : Df P w K mg base 1 "fits_whole" afFitsWhole := by
  refine df_ok h scFitsWhole [] (fun ρ kk h => by obtain ⟨_, _, _, rfl, _⟩ := h; rfl) (fun f cdv A outer s H E hr => ⟨_, _, _, (gss_one (gs_ret (ge_and (ge_isiK (K := K) .int Bn.isinstance Bn.int (gv 0)) (ge_and (ge_not (ge_isiK (K := K) .bool Bn.isinstance Bn.bool (gv 0))) (ge_one (ge_chain op_le lk_le op_le lk_le (gv 1) (gv 0) (gv 2))))))), fun ρ kk h => ?_⟩)
  obtain ⟨d, lo, hi, rfl, hv, hk⟩ := h
  refine ⟨rfl, ?_⟩
  cases d <;> try cases hv
  case int i =>
    try dsimp only [fAll, isOl, isOd, fSum, aRet, aRetN, aAndV, aOrV, aNotV, aIsi, aVar, aC, aChain, aOp, aUn, aTest, aTru, truD, aAnd, aOr, aNot, aIf, aCons, aNil, aTup, aLst, imAll, aCB, resAll, res, aCall, bok, isOw, bos, svOf, back, aNext, aSeq, aIfS, aAsg, aAsgO, aName, aGTup, aGCons, aGNil, aDrop, aFrz, frz, aOfL, fI0, fI, fNeg, fPlus, fLen, fTuple, fInt, fAbs, fMax2, fMin2, fIsN, fNotN, fIsB, fNotB, isNonD, isT, aApp, aAug, aPop, aSetI, aPar, aPar3, aMIm, aMFr, svM, aList, aSl, aPart, aNoPart, aISeq, aRg1, aRg2, aYes, wipeA, mrg, noOw, still, retA, Option.map, List.map, List.getElem?_cons_zero, List.getElem?_cons_succ, List.set_cons_zero, List.set_cons_succ, List.cons_append, List.nil_append, List.replicate, List.length_cons, List.length_nil, Bool.not_true, Bool.not_false, Bool.and_true, Bool.true_and, aZipTwo, aZip3, aZip2, aZ2, seqD, aEnum, aSrt, fIxN, fInN, fLenN, aSetN, aAsgN, aDNew, aMFd, aOfN, aLenSet, aIndex, aRg3d, aDisp1, aAsgNew, fMinT, fMaxT]
    dsimp only [fitsWhole] at hk
    by_cases h1 : lo ≤ i
    · simp only [h1, decide_true, Bool.true_and, if_true, true_and] at hk ⊢; exact hk
    · simp only [h1, decide_false, Bool.false_and, if_true, true_and] at hk ⊢; exact hk
  all_goals exact ⟨rfl, hk⟩
def afIsTupleOf : AF := fun ρ k => ∃ d lo hi, ρ = [.im d, .im (.int lo), .im (.int hi)] ∧ val d = true ∧ k (.bl (isTup d lo hi)) ρ
theorem ok_is_tuple_of (Bn : Bt mg) (h : Here K mg "is_tuple_of" sIsTupleOf ["value", "least", "most"]) : Df P w K mg base 1 "is_tuple_of" afIsTupleOf := by
  refine df_ok h scIsTupleOf [] (fun ρ kk h => by obtain ⟨_, _, _, rfl, _⟩ := h; rfl) (fun f cdv A outer s H E hr => ⟨_, _, _, (gss_one (gs_ret (ge_and (ge_isiK (K := K) .tuple Bn.isinstance Bn.tuple (gv 0)) (ge_one (ge_chain op_le lk_le op_le lk_le (gv 1) (ge_lenK (K := K) Bn (ga_cons (gv 0) ga_nil)) (gv 2)))))), fun ρ kk h => ?_⟩)
  obtain ⟨d, lo, hi, rfl, hv, hk⟩ := h
  refine ⟨rfl, ?_⟩
  cases d <;> try cases hv
  case tup ds =>
    try dsimp only [fAll, isOl, isOd, fSum, aRet, aRetN, aAndV, aOrV, aNotV, aIsi, aVar, aC, aChain, aOp, aUn, aTest, aTru, truD, aAnd, aOr, aNot, aIf, aCons, aNil, aTup, aLst, imAll, aCB, resAll, res, aCall, bok, isOw, bos, svOf, back, aNext, aSeq, aIfS, aAsg, aAsgO, aName, aGTup, aGCons, aGNil, aDrop, aFrz, frz, aOfL, fI0, fI, fNeg, fPlus, fLen, fTuple, fInt, fAbs, fMax2, fMin2, fIsN, fNotN, fIsB, fNotB, isNonD, isT, aApp, aAug, aPop, aSetI, aPar, aPar3, aMIm, aMFr, svM, aList, aSl, aPart, aNoPart, aISeq, aRg1, aRg2, aYes, wipeA, mrg, noOw, still, retA, Option.map, List.map, List.getElem?_cons_zero, List.getElem?_cons_succ, List.set_cons_zero, List.set_cons_succ, List.cons_append, List.nil_append, List.replicate, List.length_cons, List.length_nil, Bool.not_true, Bool.not_false, Bool.and_true, Bool.true_and, aZipTwo, aZip3, aZip2, aZ2, seqD, aEnum, aSrt, fIxN, fInN, fLenN, aSetN, aAsgN, aDNew, aMFd, aOfN, aLenSet, aIndex, aRg3d, aDisp1, aAsgNew, fMinT, fMaxT]
    dsimp only [isTup] at hk
    by_cases h1 : lo ≤ (ds.length : Int)
    · simp only [h1, decide_true, Bool.true_and, if_true, true_and] at hk ⊢; exact hk
    · simp only [h1, decide_false, Bool.false_and, if_true, true_and] at hk ⊢; exact hk
  all_goals exact ⟨rfl, hk⟩
theorem all_map_id {α : Type} (l : List α) (f : α → Bool) : (l.map f).all id = l.all f := by
  induction l with
  | nil => rfl
  | cons x l ih => simp only [List.map_cons, List.all_cons, ih, id]
theorem bls_fun {α : Type} (l : List α) (f : α → Bool) : bls (l.map fun x => D.bl (f x)) = some (l.map f) := by
  have := bls_map (l.map f)
  rw [List.map_map] at this
  exact this
theorem eqv_int (i j : Int) : eqv (.int i) (.int j) = (i == j) := by simp only [eqv]
theorem eqv_bl (a : Bool) : eqv (.bl a) (.bl a) = true := by simp [eqv]
end
mutual
/-- no address, no script, no dict within -/
def okd : D → Bool
  | .tup ds => okds ds
  | .lst ds => okds ds
  | .adr _ => false
  | .scr _ => false
  | .dic _ _ => false
  | _ => true
def okds : List D → Bool
  | [] => true
  | d :: ds => okd d && okds ds
end
theorem okd_val {d : D} (h : okd d = true) : val d = true := by
  cases d <;> first | rfl | (unfold okd at h; cases h)
theorem okds_mem : ∀ {ds : List D} {d : D}, okds ds = true → d ∈ ds → okd d = true
  | e :: ds, d, h, m => by
    unfold okds at h
    simp only [Bool.and_eq_true] at h
    rcases List.mem_cons.mp m with rfl | m
    · exact h.1
    · exact okds_mem h.2 m
def fc : D → Bool
  | .tup ds => decide (ds.length = 2) && ds.all fun x => fitsWhole x 0 59
  | _ => false
def fo : D → Bool
  | .tup ds => decide (1 ≤ ds.length) && decide (ds.length ≤ 400) && ds.all fc && decide (kinds ((flats ds).getD []) = ds.length)
  | _ => false
theorem fits_int {d : D} {lo hi : Int} (h : fitsWhole d lo hi = true) : ∃ i, d = .int i ∧ lo ≤ i ∧ i ≤ hi := by
  cases d with
  | int i =>
    simp only [fitsWhole, Bool.and_eq_true, decide_eq_true_eq] at h
    exact ⟨i, rfl, h⟩
  | _ => cases h
theorem fc_cell {d : D} (h : fc d = true) : ∃ c : Cl, d = cD c ∧ okC c = true := by
  cases d with
  | tup ds =>
    simp only [fc, Bool.and_eq_true, decide_eq_true_eq] at h
    obtain ⟨h1, h2⟩ := h
    match ds, h1, h2 with
    | [x, y], _, h2 =>
      simp only [List.all_cons, List.all_nil, Bool.and_true, Bool.and_eq_true] at h2
      obtain ⟨i, rfl, a1, a2⟩ := fits_int h2.1
      obtain ⟨j, rfl, b1, b2⟩ := fits_int h2.2
      exact ⟨(i, j), rfl, okC_iff.mpr ⟨a1, a2, b1, b2⟩⟩
  | _ => cases h
theorem fc_cD (c : Cl) : fc (cD c) = okC c := by
  unfold okC
  simp only [cD, fc, List.all_cons, List.all_nil, fitsWhole, List.length_cons, List.length_nil, Bool.and_true, Bool.and_assoc]
  rfl
theorem all_fc : ∀ {ds : List D}, (ds.all fc) = true → ∃ cs, ds = csD cs ∧ ∀ c ∈ cs, okC c = true
  | [], _ => ⟨[], rfl, fun c h => by cases h⟩
  | d :: ds, h => by
    rw [List.all_cons, Bool.and_eq_true] at h
    obtain ⟨c, rfl, hc⟩ := fc_cell h.1
    obtain ⟨cs, rfl, hs⟩ := all_fc h.2
    refine ⟨c :: cs, rfl, fun x hx => ?_⟩
    rcases List.mem_cons.mp hx with rfl | hx
    · exact hc
    · exact hs x hx
theorem fo_cs {cs : List Cl} (h : ∀ c ∈ cs, okC c = true) : fo (.tup (csD cs)) = (decide (1 ≤ cs.length) && decide (cs.length ≤ 400) && decide (kinds (cs.map fun c => [c.1, c.2]) = cs.length)) := by
  show (decide (1 ≤ (csD cs).length) && decide ((csD cs).length ≤ 400) && (csD cs).all fc && decide (kinds ((flats (csD cs)).getD []) = (csD cs).length)) = _
  rw [flats_csD, Option.getD_some, show (csD cs).length = cs.length from List.length_map .., show (csD cs).all fc = true from List.all_eq_true.mpr fun d hd => by
    obtain ⟨c, hc, rfl⟩ := List.mem_map.mp hd
    rw [fc_cD]; exact h c hc, Bool.and_true]
theorem fo_good {cs : List Cl} (h : ∀ c ∈ cs, okC c = true) (nd : cs.Nodup) (h1 : 1 ≤ cs.length) (h2 : cs.length ≤ 400) : fo (.tup (csD cs)) = true := by
  rw [fo_cs h, kinds_csD nd, decide_eq_true h1, decide_eq_true h2, decide_eq_true rfl]
  rfl
section
variable {P : Program} {w : World} {K : PySem.W.Frag} {mg : Str → Option Value} {base : Heap}
def afFitsCell : AF := fun ρ k => ∃ d, ρ = [.im d] ∧ okd d = true ∧ (∀ ds, d = .tup ds → ds.length ≤ 1000000) ∧ k (.bl (fc d)) ρ
theorem ok_fits_cell (Bn : Bt mg) (cSIDE : IsInt mg "SIDE" 60) (h : Here K mg "fits_cell" sFitsCell ["value"]) (d_fits_whole : Df P w K mg base 1 "fits_whole" afFitsWhole) (d_is_tuple_of : Df P w K mg base 1 "is_tuple_of" afIsTupleOf) : Df P w K mg base 2 "fits_cell" afFitsCell := by
  refine df_ok h scFitsCell [.un] (fun ρ kk h => by obtain ⟨_, rfl, _⟩ := h; rfl) (fun f cdv A outer s H E hr => ⟨_, _, _, (gss_one (gs_ret (ge_and (ge_dfK d_is_tuple_of hr (ga_cons (gv 0) (ga_cons ge_int (ga_cons ge_int ga_nil)))) (ge_one (ge_allK (K := K) rfl Bn (ga_cons (GL.e (gl_lc rfl scFitsCell.nd (blkOk_by (own := [("place", 1)]) (by kernel_rfl)) (gi_seqK (K := K) (gv 0)) (fun _ _ _ _ _ => (gg_name scFitsCell.nd (i := 1))) (fun _ _ _ _ _ => gts_nil) (fun _ _ _ _ _ => (ge_dfK d_fits_whole hr (ga_cons (gv 1) (ga_cons ge_int (ga_cons (ge_op op_sub lk_sub (ge_gint cSIDE) ge_int) ga_nil))))))) ga_nil)))))), fun ρ kk h => ?_⟩)
  obtain ⟨d, rfl, hv, hz, hk⟩ := h
  refine ⟨rfl, ?_⟩
  try dsimp only [fAll, isOl, isOd, fSum, aRet, aRetN, aAndV, aOrV, aNotV, aIsi, aVar, aC, aChain, aOp, aUn, aTest, aTru, truD, aAnd, aOr, aNot, aIf, aCons, aNil, aTup, aLst, imAll, aCB, resAll, res, aCall, bok, isOw, bos, svOf, back, aNext, aSeq, aIfS, aAsg, aAsgO, aName, aGTup, aGCons, aGNil, aDrop, aFrz, frz, aOfL, fI0, fI, fNeg, fPlus, fLen, fTuple, fInt, fAbs, fMax2, fMin2, fIsN, fNotN, fIsB, fNotB, isNonD, isT, aApp, aAug, aPop, aSetI, aPar, aPar3, aMIm, aMFr, svM, aList, aSl, aPart, aNoPart, aISeq, aRg1, aRg2, aYes, wipeA, mrg, noOw, still, retA, Option.map, List.map, List.getElem?_cons_zero, List.getElem?_cons_succ, List.set_cons_zero, List.set_cons_succ, List.cons_append, List.nil_append, List.replicate, List.length_cons, List.length_nil, Bool.not_true, Bool.not_false, Bool.and_true, Bool.true_and, aZipTwo, aZip3, aZip2, aZ2, seqD, aEnum, aSrt, fIxN, fInN, fLenN, aSetN, aAsgN, aDNew, aMFd, aOfN, aLenSet, aIndex, aRg3d, aDisp1, aAsgNew, fMinT, fMaxT]
  refine ⟨rfl, d, 2, 2, rfl, okd_val hv, ?_⟩
  try dsimp only [fAll, isOl, isOd, fSum, aRet, aRetN, aAndV, aOrV, aNotV, aIsi, aVar, aC, aChain, aOp, aUn, aTest, aTru, truD, aAnd, aOr, aNot, aIf, aCons, aNil, aTup, aLst, imAll, aCB, resAll, res, aCall, bok, isOw, bos, svOf, back, aNext, aSeq, aIfS, aAsg, aAsgO, aName, aGTup, aGCons, aGNil, aDrop, aFrz, frz, aOfL, fI0, fI, fNeg, fPlus, fLen, fTuple, fInt, fAbs, fMax2, fMin2, fIsN, fNotN, fIsB, fNotB, isNonD, isT, aApp, aAug, aPop, aSetI, aPar, aPar3, aMIm, aMFr, svM, aList, aSl, aPart, aNoPart, aISeq, aRg1, aRg2, aYes, wipeA, mrg, noOw, still, retA, Option.map, List.map, List.getElem?_cons_zero, List.getElem?_cons_succ, List.set_cons_zero, List.set_cons_succ, List.cons_append, List.nil_append, List.replicate, List.length_cons, List.length_nil, Bool.not_true, Bool.not_false, Bool.and_true, Bool.true_and, aZipTwo, aZip3, aZip2, aZ2, seqD, aEnum, aSrt, fIxN, fInN, fLenN, aSetN, aAsgN, aDNew, aMFd, aOfN, aLenSet, aIndex, aRg3d, aDisp1, aAsgNew, fMinT, fMaxT]
  cases h1 : isTup d 2 2 with
  | false =>
    have e : fc d = false := by
      cases d with
      | tup ds =>
        simp only [isTup] at h1
        simp only [fc]
        have : ¬ ds.length = 2 := fun z => by rw [z] at h1; simp at h1
        rw [decide_eq_false this, Bool.false_and]
      | _ => rfl
    rw [e] at hk
    exact ⟨rfl, hk⟩
  | true =>
    cases d with
    | tup ds =>
      have hl : ds.length = 2 := by
        simp only [isTup, Bool.and_eq_true, decide_eq_true_eq] at h1
        omega
      have hv' : okds ds = true := by unfold okd at hv; exact hv
      rw [if_pos rfl]
      refine aLc_map ds (fun x => .bl (fitsWhole x 0 59)) (fun _ h => h) rfl (hz ds rfl) (fun x hx Wy hW => ?_) ?_
      · try dsimp only [fAll, isOl, isOd, fSum, aRet, aRetN, aAndV, aOrV, aNotV, aIsi, aVar, aC, aChain, aOp, aUn, aTest, aTru, truD, aAnd, aOr, aNot, aIf, aCons, aNil, aTup, aLst, imAll, aCB, resAll, res, aCall, bok, isOw, bos, svOf, back, aNext, aSeq, aIfS, aAsg, aAsgO, aName, aGTup, aGCons, aGNil, aDrop, aFrz, frz, aOfL, fI0, fI, fNeg, fPlus, fLen, fTuple, fInt, fAbs, fMax2, fMin2, fIsN, fNotN, fIsB, fNotB, isNonD, isT, aApp, aAug, aPop, aSetI, aPar, aPar3, aMIm, aMFr, svM, aList, aSl, aPart, aNoPart, aISeq, aRg1, aRg2, aYes, wipeA, mrg, noOw, still, retA, Option.map, List.map, List.getElem?_cons_zero, List.getElem?_cons_succ, List.set_cons_zero, List.set_cons_succ, List.cons_append, List.nil_append, List.replicate, List.length_cons, List.length_nil, Bool.not_true, Bool.not_false, Bool.and_true, Bool.true_and, aZipTwo, aZip3, aZip2, aZ2, seqD, aEnum, aSrt, fIxN, fInN, fLenN, aSetN, aAsgN, aDNew, aMFd, aOfN, aLenSet, aIndex, aRg3d, aDisp1, aAsgNew, fMinT, fMaxT]
        exact ⟨rfl, x, 0, 59, rfl, okd_val (okds_mem hv' hx), _, rfl, hW⟩
      · try dsimp only [fAll, isOl, isOd, fSum, aRet, aRetN, aAndV, aOrV, aNotV, aIsi, aVar, aC, aChain, aOp, aUn, aTest, aTru, truD, aAnd, aOr, aNot, aIf, aCons, aNil, aTup, aLst, imAll, aCB, resAll, res, aCall, bok, isOw, bos, svOf, back, aNext, aSeq, aIfS, aAsg, aAsgO, aName, aGTup, aGCons, aGNil, aDrop, aFrz, frz, aOfL, fI0, fI, fNeg, fPlus, fLen, fTuple, fInt, fAbs, fMax2, fMin2, fIsN, fNotN, fIsB, fNotB, isNonD, isT, aApp, aAug, aPop, aSetI, aPar, aPar3, aMIm, aMFr, svM, aList, aSl, aPart, aNoPart, aISeq, aRg1, aRg2, aYes, wipeA, mrg, noOw, still, retA, Option.map, List.map, List.getElem?_cons_zero, List.getElem?_cons_succ, List.set_cons_zero, List.set_cons_succ, List.cons_append, List.nil_append, List.replicate, List.length_cons, List.length_nil, Bool.not_true, Bool.not_false, Bool.and_true, Bool.true_and, aZipTwo, aZip3, aZip2, aZ2, seqD, aEnum, aSrt, fIxN, fInN, fLenN, aSetN, aAsgN, aDNew, aMFd, aOfN, aLenSet, aIndex, aRg3d, aDisp1, aAsgNew, fMinT, fMaxT]
        refine ⟨_, bls_fun ds fun x => fitsWhole x 0 59, rfl, ?_⟩
        rw [all_map_id]
        simp only [fc] at hk
        rw [decide_eq_true hl, Bool.true_and] at hk
        exact hk
    | _ => cases h1
/-- small enough to be asked -/
def okO (d : D) : Prop := okd d = true ∧ ∀ ds, d = .tup ds → ds.length ≤ 1000000 ∧ ∀ c ∈ ds, ∀ es, c = .tup es → es.length ≤ 1000000
theorem okds_csD : ∀ cs : List Cl, okds (csD cs) = true
  | [] => rfl
  | c :: cs => by
    have ih := okds_csD cs
    unfold csD at ih ⊢
    rw [List.map_cons]
    unfold okds
    rw [ih]
    rfl
theorem okO_cs {cs : List Cl} (h : cs.length ≤ 1000000) : okO (.tup (csD cs)) := by
  refine ⟨by unfold okd; exact okds_csD cs, fun ds e => ?_⟩
  cases e
  refine ⟨by unfold csD; rw [List.length_map]; exact h, fun c hc es e => ?_⟩
  obtain ⟨p, _, rfl⟩ := List.mem_map.mp hc
  cases e
  show 2 ≤ 1000000
  decide
def afFitsOrder : AF := fun ρ k => ∃ d, ρ = [.im d] ∧ okO d ∧ k (.bl (fo d)) ρ
theorem ok_fits_order (Bn : Bt mg) (cCELLS : IsInt mg "CELLS" 400) (h : Here K mg "fits_order" sFitsOrder ["value"]) (d_is_tuple_of : Df P w K mg base 1 "is_tuple_of" afIsTupleOf) (d_fits_cell : Df P w K mg base 2 "fits_cell" afFitsCell) : Df P w K mg base 3 "fits_order" afFitsOrder := by
  refine df_ok h scFitsOrder [.un] (fun ρ kk h => by obtain ⟨_, rfl, _⟩ := h; rfl) (fun f cdv A outer s H E hr => ⟨_, _, _, (gss_cons (gs_if (GW.gt (gw_or (gt_not (gt_truthK (K := K) (ge_dfK d_is_tuple_of hr (ga_cons (gv 0) (ga_cons ge_int (ga_cons (ge_gint cCELLS) ga_nil)))))) (gw_or1 (gt_not (gt_truthK (K := K) (ge_allK (K := K) rfl Bn (ga_cons (GL.e (gl_lc rfl scFitsOrder.nd (blkOk_by (own := [("cell", 1)]) (by kernel_rfl)) (gi_seqK (K := K) (gv 0)) (fun _ _ _ _ _ => (gg_name scFitsOrder.nd (i := 1))) (fun _ _ _ _ _ => gts_nil) (fun _ _ _ _ _ => (ge_dfK d_fits_cell hr (ga_cons (gv 1) ga_nil))))) ga_nil))))))) (gss_one (gs_ret ge_bl)) gss_nil)
      (gss_one (gs_ret (ge_eq (K := K) hr.units (ge_lenSet (K := K) rfl (hu65 hr) Bn (ga_cons (gv 0) ga_nil)) (ge_lenK (K := K) Bn (ga_cons (gv 0) ga_nil)) (nomark _))))), fun ρ kk h => ?_⟩)
  obtain ⟨d, rfl, ⟨hv, hz⟩, hk⟩ := h
  refine ⟨rfl, ?_⟩
  try dsimp only [fAll, isOl, isOd, fSum, aRet, aRetN, aAndV, aOrV, aNotV, aIsi, aVar, aC, aChain, aOp, aUn, aTest, aTru, truD, aAnd, aOr, aNot, aIf, aCons, aNil, aTup, aLst, imAll, aCB, resAll, res, aCall, bok, isOw, bos, svOf, back, aNext, aSeq, aIfS, aAsg, aAsgO, aName, aGTup, aGCons, aGNil, aDrop, aFrz, frz, aOfL, fI0, fI, fNeg, fPlus, fLen, fTuple, fInt, fAbs, fMax2, fMin2, fIsN, fNotN, fIsB, fNotB, isNonD, isT, aApp, aAug, aPop, aSetI, aPar, aPar3, aMIm, aMFr, svM, aList, aSl, aPart, aNoPart, aISeq, aRg1, aRg2, aYes, wipeA, mrg, noOw, still, retA, Option.map, List.map, List.getElem?_cons_zero, List.getElem?_cons_succ, List.set_cons_zero, List.set_cons_succ, List.cons_append, List.nil_append, List.replicate, List.length_cons, List.length_nil, Bool.not_true, Bool.not_false, Bool.and_true, Bool.true_and, aZipTwo, aZip3, aZip2, aZ2, seqD, aEnum, aSrt, fIxN, fInN, fLenN, aSetN, aAsgN, aDNew, aMFd, aOfN, aLenSet, aIndex, aRg3d, aDisp1, aAsgNew, fMinT, fMaxT]
  refine ⟨rfl, d, 1, 400, rfl, okd_val hv, ?_⟩
  try dsimp only [fAll, isOl, isOd, fSum, aRet, aRetN, aAndV, aOrV, aNotV, aIsi, aVar, aC, aChain, aOp, aUn, aTest, aTru, truD, aAnd, aOr, aNot, aIf, aCons, aNil, aTup, aLst, imAll, aCB, resAll, res, aCall, bok, isOw, bos, svOf, back, aNext, aSeq, aIfS, aAsg, aAsgO, aName, aGTup, aGCons, aGNil, aDrop, aFrz, frz, aOfL, fI0, fI, fNeg, fPlus, fLen, fTuple, fInt, fAbs, fMax2, fMin2, fIsN, fNotN, fIsB, fNotB, isNonD, isT, aApp, aAug, aPop, aSetI, aPar, aPar3, aMIm, aMFr, svM, aList, aSl, aPart, aNoPart, aISeq, aRg1, aRg2, aYes, wipeA, mrg, noOw, still, retA, Option.map, List.map, List.getElem?_cons_zero, List.getElem?_cons_succ, List.set_cons_zero, List.set_cons_succ, List.cons_append, List.nil_append, List.replicate, List.length_cons, List.length_nil, Bool.not_true, Bool.not_false, Bool.and_true, Bool.true_and, aZipTwo, aZip3, aZip2, aZ2, seqD, aEnum, aSrt, fIxN, fInN, fLenN, aSetN, aAsgN, aDNew, aMFd, aOfN, aLenSet, aIndex, aRg3d, aDisp1, aAsgNew, fMinT, fMaxT]
  cases h1 : isTup d 1 400 with
  | false =>
    have e : fo d = false := by
      cases d with
      | tup ds =>
        simp only [isTup] at h1
        simp only [fo]
        have : (decide (1 ≤ ds.length) && decide (ds.length ≤ 400)) = false := by
          rw [← h1, Bool.eq_iff_iff]
          simp only [Bool.and_eq_true, decide_eq_true_eq]
          omega
        rw [this, Bool.false_and, Bool.false_and]
      | _ => rfl
    rw [e] at hk
    exact ⟨rfl, hk⟩
  | true =>
    simp only [Bool.not_true, Bool.false_eq_true, if_false]
    cases d with
    | tup ds =>
      have hl : 1 ≤ ds.length ∧ ds.length ≤ 400 := by
        simp only [isTup, Bool.and_eq_true, decide_eq_true_eq] at h1
        omega
      obtain ⟨z1, z2⟩ := hz ds rfl
      have hv' : okds ds = true := by unfold okd at hv; exact hv
      refine aLc_map ds (fun c => .bl (fc c)) (fun _ h => h) rfl z1 (fun c hc Wy hW => ?_) ?_
      · try dsimp only [fAll, isOl, isOd, fSum, aRet, aRetN, aAndV, aOrV, aNotV, aIsi, aVar, aC, aChain, aOp, aUn, aTest, aTru, truD, aAnd, aOr, aNot, aIf, aCons, aNil, aTup, aLst, imAll, aCB, resAll, res, aCall, bok, isOw, bos, svOf, back, aNext, aSeq, aIfS, aAsg, aAsgO, aName, aGTup, aGCons, aGNil, aDrop, aFrz, frz, aOfL, fI0, fI, fNeg, fPlus, fLen, fTuple, fInt, fAbs, fMax2, fMin2, fIsN, fNotN, fIsB, fNotB, isNonD, isT, aApp, aAug, aPop, aSetI, aPar, aPar3, aMIm, aMFr, svM, aList, aSl, aPart, aNoPart, aISeq, aRg1, aRg2, aYes, wipeA, mrg, noOw, still, retA, Option.map, List.map, List.getElem?_cons_zero, List.getElem?_cons_succ, List.set_cons_zero, List.set_cons_succ, List.cons_append, List.nil_append, List.replicate, List.length_cons, List.length_nil, Bool.not_true, Bool.not_false, Bool.and_true, Bool.true_and, aZipTwo, aZip3, aZip2, aZ2, seqD, aEnum, aSrt, fIxN, fInN, fLenN, aSetN, aAsgN, aDNew, aMFd, aOfN, aLenSet, aIndex, aRg3d, aDisp1, aAsgNew, fMinT, fMaxT]
        exact ⟨rfl, c, rfl, okds_mem hv' hc, z2 c hc, _, rfl, hW⟩
      · try dsimp only [fAll, isOl, isOd, fSum, aRet, aRetN, aAndV, aOrV, aNotV, aIsi, aVar, aC, aChain, aOp, aUn, aTest, aTru, truD, aAnd, aOr, aNot, aIf, aCons, aNil, aTup, aLst, imAll, aCB, resAll, res, aCall, bok, isOw, bos, svOf, back, aNext, aSeq, aIfS, aAsg, aAsgO, aName, aGTup, aGCons, aGNil, aDrop, aFrz, frz, aOfL, fI0, fI, fNeg, fPlus, fLen, fTuple, fInt, fAbs, fMax2, fMin2, fIsN, fNotN, fIsB, fNotB, isNonD, isT, aApp, aAug, aPop, aSetI, aPar, aPar3, aMIm, aMFr, svM, aList, aSl, aPart, aNoPart, aISeq, aRg1, aRg2, aYes, wipeA, mrg, noOw, still, retA, Option.map, List.map, List.getElem?_cons_zero, List.getElem?_cons_succ, List.set_cons_zero, List.set_cons_succ, List.cons_append, List.nil_append, List.replicate, List.length_cons, List.length_nil, Bool.not_true, Bool.not_false, Bool.and_true, Bool.true_and, aZipTwo, aZip3, aZip2, aZ2, seqD, aEnum, aSrt, fIxN, fInN, fLenN, aSetN, aAsgN, aDNew, aMFd, aOfN, aLenSet, aIndex, aRg3d, aDisp1, aAsgNew, fMinT, fMaxT]
        refine ⟨_, bls_fun ds fc, ?_⟩
        rw [all_map_id]
        try dsimp only [fAll, isOl, isOd, fSum, aRet, aRetN, aAndV, aOrV, aNotV, aIsi, aVar, aC, aChain, aOp, aUn, aTest, aTru, truD, aAnd, aOr, aNot, aIf, aCons, aNil, aTup, aLst, imAll, aCB, resAll, res, aCall, bok, isOw, bos, svOf, back, aNext, aSeq, aIfS, aAsg, aAsgO, aName, aGTup, aGCons, aGNil, aDrop, aFrz, frz, aOfL, fI0, fI, fNeg, fPlus, fLen, fTuple, fInt, fAbs, fMax2, fMin2, fIsN, fNotN, fIsB, fNotB, isNonD, isT, aApp, aAug, aPop, aSetI, aPar, aPar3, aMIm, aMFr, svM, aList, aSl, aPart, aNoPart, aISeq, aRg1, aRg2, aYes, wipeA, mrg, noOw, still, retA, Option.map, List.map, List.getElem?_cons_zero, List.getElem?_cons_succ, List.set_cons_zero, List.set_cons_succ, List.cons_append, List.nil_append, List.replicate, List.length_cons, List.length_nil, Bool.not_true, Bool.not_false, Bool.and_true, Bool.true_and, aZipTwo, aZip3, aZip2, aZ2, seqD, aEnum, aSrt, fIxN, fInN, fLenN, aSetN, aAsgN, aDNew, aMFd, aOfN, aLenSet, aIndex, aRg3d, aDisp1, aAsgNew, fMinT, fMaxT]
        cases h2 : ds.all fc with
        | false =>
          have e : fo (.tup ds) = false := by
            show (decide (1 ≤ ds.length) && decide (ds.length ≤ 400) && ds.all fc && _) = false
            rw [h2, Bool.and_false, Bool.false_and]
          rw [e] at hk
          exact ⟨rfl, hk⟩
        | true =>
          obtain ⟨cs, rfl, hok⟩ := all_fc h2
          have hlc : (csD cs).length = cs.length := List.length_map ..
          rw [fo_cs hok, decide_eq_true (by omega), decide_eq_true (by omega), Bool.true_and] at hk
          simp only [Bool.not_true, Bool.false_eq_true, if_false]
          refine ⟨by rw [flats_csD]; rfl, by omega, rfl, ?_⟩
          rw [flats_csD, Option.getD_some, hlc, eqv_int]
          refine ⟨rfl, trivial, ?_⟩
          have e : (((kinds (cs.map fun c => [c.1, c.2]) : Nat) : Int) == ((cs.length : Nat) : Int)) = decide (kinds (cs.map fun c => [c.1, c.2]) = cs.length) := by
            rw [Bool.eq_iff_iff, beq_iff_eq, decide_eq_true_eq]
            omega
          rw [e]
          exact hk
    | _ => cases h1
def afNeedOrder : AF := fun ρ k => ∃ cs, ρ = [.im (.tup (csD cs))] ∧ (∀ c ∈ cs, okC c = true) ∧ cs.Nodup ∧ 1 ≤ cs.length ∧ cs.length ≤ 400 ∧ k .non ρ
theorem ok_need_order (h : Here K mg "need_order" sNeedOrder ["order"]) (d_fits_order : Df P w K mg base 3 "fits_order" afFitsOrder) : Df P w K mg base 4 "need_order" afNeedOrder := by
  refine df_ok h scNeedOrder [] (fun ρ kk h => by obtain ⟨_, rfl, _⟩ := h; rfl) (fun f cdv A outer s H E hr => ⟨_, _, _, (gss_one (gs_if (gt_not (gt_truthK (K := K) (ge_dfK d_fits_order hr (ga_cons (gv 0) ga_nil)))) (gss_one gs_never) gss_nil)), fun ρ kk h => ?_⟩)
  obtain ⟨cs, rfl, hok, hnd, h1, h2, hk⟩ := h
  refine ⟨rfl, ?_⟩
  try dsimp only [fAll, isOl, isOd, fSum, aRet, aRetN, aAndV, aOrV, aNotV, aIsi, aVar, aC, aChain, aOp, aUn, aTest, aTru, truD, aAnd, aOr, aNot, aIf, aCons, aNil, aTup, aLst, imAll, aCB, resAll, res, aCall, bok, isOw, bos, svOf, back, aNext, aSeq, aIfS, aAsg, aAsgO, aName, aGTup, aGCons, aGNil, aDrop, aFrz, frz, aOfL, fI0, fI, fNeg, fPlus, fLen, fTuple, fInt, fAbs, fMax2, fMin2, fIsN, fNotN, fIsB, fNotB, isNonD, isT, aApp, aAug, aPop, aSetI, aPar, aPar3, aMIm, aMFr, svM, aList, aSl, aPart, aNoPart, aISeq, aRg1, aRg2, aYes, wipeA, mrg, noOw, still, retA, Option.map, List.map, List.getElem?_cons_zero, List.getElem?_cons_succ, List.set_cons_zero, List.set_cons_succ, List.cons_append, List.nil_append, List.replicate, List.length_cons, List.length_nil, Bool.not_true, Bool.not_false, Bool.and_true, Bool.true_and, aZipTwo, aZip3, aZip2, aZ2, seqD, aEnum, aSrt, fIxN, fInN, fLenN, aSetN, aAsgN, aDNew, aMFd, aOfN, aLenSet, aIndex, aRg3d, aDisp1, aAsgNew, fMinT, fMaxT]
  refine ⟨rfl, _, rfl, okO_cs (by omega), ?_⟩
  rw [fo_good hok hnd h1 h2]
  try dsimp only [fAll, isOl, isOd, fSum, aRet, aRetN, aAndV, aOrV, aNotV, aIsi, aVar, aC, aChain, aOp, aUn, aTest, aTru, truD, aAnd, aOr, aNot, aIf, aCons, aNil, aTup, aLst, imAll, aCB, resAll, res, aCall, bok, isOw, bos, svOf, back, aNext, aSeq, aIfS, aAsg, aAsgO, aName, aGTup, aGCons, aGNil, aDrop, aFrz, frz, aOfL, fI0, fI, fNeg, fPlus, fLen, fTuple, fInt, fAbs, fMax2, fMin2, fIsN, fNotN, fIsB, fNotB, isNonD, isT, aApp, aAug, aPop, aSetI, aPar, aPar3, aMIm, aMFr, svM, aList, aSl, aPart, aNoPart, aISeq, aRg1, aRg2, aYes, wipeA, mrg, noOw, still, retA, Option.map, List.map, List.getElem?_cons_zero, List.getElem?_cons_succ, List.set_cons_zero, List.set_cons_succ, List.cons_append, List.nil_append, List.replicate, List.length_cons, List.length_nil, Bool.not_true, Bool.not_false, Bool.and_true, Bool.true_and, aZipTwo, aZip3, aZip2, aZ2, seqD, aEnum, aSrt, fIxN, fInN, fLenN, aSetN, aAsgN, aDNew, aMFd, aOfN, aLenSet, aIndex, aRg3d, aDisp1, aAsgNew, fMinT, fMaxT]
  exact ⟨rfl, hk⟩
def afIsOrder : AF := fun ρ k => ∃ d, ρ = [.im d] ∧ okO d ∧ k (.bl (fo d)) ρ
theorem ok_is_order (h : Here K mg "is_order" sIsOrder ["value"]) (d_fits_order : Df P w K mg base 3 "fits_order" afFitsOrder) : Df P w K mg base 4 "is_order" afIsOrder := by
  refine df_ok h scIsOrder [] (fun ρ kk h => by obtain ⟨_, rfl, _⟩ := h; rfl) (fun f cdv A outer s H E hr => ⟨_, _, _, (gss_one (gs_ret (ge_dfK d_fits_order hr (ga_cons (gv 0) ga_nil)))), fun ρ kk h => ?_⟩)
  obtain ⟨d, rfl, ho, hk⟩ := h
  refine ⟨rfl, ?_⟩
  try dsimp only [fAll, isOl, isOd, fSum, aRet, aRetN, aAndV, aOrV, aNotV, aIsi, aVar, aC, aChain, aOp, aUn, aTest, aTru, truD, aAnd, aOr, aNot, aIf, aCons, aNil, aTup, aLst, imAll, aCB, resAll, res, aCall, bok, isOw, bos, svOf, back, aNext, aSeq, aIfS, aAsg, aAsgO, aName, aGTup, aGCons, aGNil, aDrop, aFrz, frz, aOfL, fI0, fI, fNeg, fPlus, fLen, fTuple, fInt, fAbs, fMax2, fMin2, fIsN, fNotN, fIsB, fNotB, isNonD, isT, aApp, aAug, aPop, aSetI, aPar, aPar3, aMIm, aMFr, svM, aList, aSl, aPart, aNoPart, aISeq, aRg1, aRg2, aYes, wipeA, mrg, noOw, still, retA, Option.map, List.map, List.getElem?_cons_zero, List.getElem?_cons_succ, List.set_cons_zero, List.set_cons_succ, List.cons_append, List.nil_append, List.replicate, List.length_cons, List.length_nil, Bool.not_true, Bool.not_false, Bool.and_true, Bool.true_and, aZipTwo, aZip3, aZip2, aZ2, seqD, aEnum, aSrt, fIxN, fInN, fLenN, aSetN, aAsgN, aDNew, aMFd, aOfN, aLenSet, aIndex, aRg3d, aDisp1, aAsgNew, fMinT, fMaxT]
  exact ⟨rfl, d, rfl, ho, rfl, hk⟩
end
end K89

namespace K89
open PySem PySem.Spec L2 DL
open PyProof.Rows hiding St
section
variable {P : Program} {w : World} {K : PySem.W.Frag} {mg : Str → Option Value} {base : Heap}
def KINDS : List Str := ["rows", "snake", "diagonals", "spiral"]
def CURVES : List Str := ["quarters", "folded"]
def afNeedBox : AF := fun ρ k => ∃ x r c, ρ = [.im (.str x), .im (.int r), .im (.int c)] ∧ x ∈ KINDS ∧ (1 ≤ r ∧ r ≤ 60 ∧ 1 ≤ c ∧ c ≤ 60 ∧ r * c ≤ 400) ∧ k .non ρ
theorem ok_need_box (Bn : Bt mg) (cSIDE : IsInt mg "SIDE" 60) (cCELLS : IsInt mg "CELLS" 400) (cKINDS : IsTupS K mg "KINDS" KINDS) (h : Here K mg "need_box" sNeedBox ["kind", "rows", "columns"]) (d_fits_whole : Df P w K mg base 1 "fits_whole" afFitsWhole) : Df P w K mg base 2 "need_box" afNeedBox := by
  refine df_ok h scNeedBox [] (fun ρ kk h => by obtain ⟨_, _, _, rfl, _⟩ := h; rfl) (fun f cdv A outer s H E hr => ⟨_, _, _, (gss_cons (gs_if (GW.gt (gw_or (gt_not (gt_truthK (K := K) (ge_isiK (K := K) .str Bn.isinstance Bn.str (gv 0)))) (gw_or1 (gt_nin (K := K) (hu65 hr) (gv 0) (ge_gtup cKINDS) (by rfl))))) (gss_one gs_never) gss_nil)
      (gss_cons (gs_if (GW.gt (gw_or (gt_not (gt_truthK (K := K) (ge_dfK d_fits_whole hr (ga_cons (gv 1) (ga_cons ge_int (ga_cons (ge_gint cSIDE) ga_nil)))))) (gw_or1 (gt_not (gt_truthK (K := K) (ge_dfK d_fits_whole hr (ga_cons (gv 2) (ga_cons ge_int (ga_cons (ge_gint cSIDE) ga_nil))))))))) (gss_one gs_never) gss_nil)
      (gss_one (gs_if (gt_cmp op_gt lk_gt (ge_op op_mul lk_mul (gv 1) (gv 2)) (ge_gint cCELLS) (nomark _)) (gss_one gs_never) gss_nil)))), fun ρ kk h => ?_⟩)
  obtain ⟨x, r, c, rfl, hx, hb, hk⟩ := h
  refine ⟨rfl, ?_⟩
  try dsimp only [fAll, isOl, isOd, fSum, aRet, aRetN, aAndV, aOrV, aNotV, aIsi, aVar, aC, aChain, aOp, aUn, aTest, aTru, truD, aAnd, aOr, aNot, aIf, aCons, aNil, aTup, aLst, imAll, aCB, resAll, res, aCall, bok, isOw, bos, svOf, back, aNext, aSeq, aIfS, aAsg, aAsgO, aName, aGTup, aGCons, aGNil, aDrop, aFrz, frz, aOfL, fI0, fI, fNeg, fPlus, fLen, fTuple, fInt, fAbs, fMax2, fMin2, fIsN, fNotN, fIsB, fNotB, isNonD, isT, aApp, aAug, aPop, aSetI, aPar, aPar3, aMIm, aMFr, svM, aList, aSl, aPart, aNoPart, aISeq, aRg1, aRg2, aYes, wipeA, mrg, noOw, still, retA, Option.map, List.map, List.getElem?_cons_zero, List.getElem?_cons_succ, List.set_cons_zero, List.set_cons_succ, List.cons_append, List.nil_append, List.replicate, List.length_cons, List.length_nil, Bool.not_true, Bool.not_false, Bool.and_true, Bool.true_and, aZipTwo, aZip3, aZip2, aZ2, seqD, aEnum, aSrt, fIxN, fInN, fLenN, aSetN, aAsgN, aDNew, aMFd, aOfN, aLenSet, aIndex, aRg3d, aDisp1, aAsgNew, fMinT, fMaxT]
  have hp : shp (.str x) = true ∧ ((KINDS.map D.str).any fun z => eqv z (.str x)) = true := by
    unfold KINDS at hx
    simp only [List.mem_cons, List.not_mem_nil, or_false] at hx
    rcases hx with rfl | rfl | rfl | rfl <;> exact ⟨by decide +kernel, by decide +kernel⟩
  rw [if_neg (by decide)]
  refine ⟨hp.1, by decide +kernel, ?_⟩
  rw [hp.2]
  try dsimp only [fAll, isOl, isOd, fSum, aRet, aRetN, aAndV, aOrV, aNotV, aIsi, aVar, aC, aChain, aOp, aUn, aTest, aTru, truD, aAnd, aOr, aNot, aIf, aCons, aNil, aTup, aLst, imAll, aCB, resAll, res, aCall, bok, isOw, bos, svOf, back, aNext, aSeq, aIfS, aAsg, aAsgO, aName, aGTup, aGCons, aGNil, aDrop, aFrz, frz, aOfL, fI0, fI, fNeg, fPlus, fLen, fTuple, fInt, fAbs, fMax2, fMin2, fIsN, fNotN, fIsB, fNotB, isNonD, isT, aApp, aAug, aPop, aSetI, aPar, aPar3, aMIm, aMFr, svM, aList, aSl, aPart, aNoPart, aISeq, aRg1, aRg2, aYes, wipeA, mrg, noOw, still, retA, Option.map, List.map, List.getElem?_cons_zero, List.getElem?_cons_succ, List.set_cons_zero, List.set_cons_succ, List.cons_append, List.nil_append, List.replicate, List.length_cons, List.length_nil, Bool.not_true, Bool.not_false, Bool.and_true, Bool.true_and, aZipTwo, aZip3, aZip2, aZ2, seqD, aEnum, aSrt, fIxN, fInN, fLenN, aSetN, aAsgN, aDNew, aMFd, aOfN, aLenSet, aIndex, aRg3d, aDisp1, aAsgNew, fMinT, fMaxT]
  rw [if_neg (by decide)]
  refine ⟨rfl, .int r, 1, 60, rfl, rfl, ?_⟩
  have e1 : fitsWhole (.int r) 1 60 = true := by
    simp only [fitsWhole, Bool.and_eq_true, decide_eq_true_eq]
    omega
  have e2 : fitsWhole (.int c) 1 60 = true := by
    simp only [fitsWhole, Bool.and_eq_true, decide_eq_true_eq]
    omega
  rw [e1]
  try dsimp only [fAll, isOl, isOd, fSum, aRet, aRetN, aAndV, aOrV, aNotV, aIsi, aVar, aC, aChain, aOp, aUn, aTest, aTru, truD, aAnd, aOr, aNot, aIf, aCons, aNil, aTup, aLst, imAll, aCB, resAll, res, aCall, bok, isOw, bos, svOf, back, aNext, aSeq, aIfS, aAsg, aAsgO, aName, aGTup, aGCons, aGNil, aDrop, aFrz, frz, aOfL, fI0, fI, fNeg, fPlus, fLen, fTuple, fInt, fAbs, fMax2, fMin2, fIsN, fNotN, fIsB, fNotB, isNonD, isT, aApp, aAug, aPop, aSetI, aPar, aPar3, aMIm, aMFr, svM, aList, aSl, aPart, aNoPart, aISeq, aRg1, aRg2, aYes, wipeA, mrg, noOw, still, retA, Option.map, List.map, List.getElem?_cons_zero, List.getElem?_cons_succ, List.set_cons_zero, List.set_cons_succ, List.cons_append, List.nil_append, List.replicate, List.length_cons, List.length_nil, Bool.not_true, Bool.not_false, Bool.and_true, Bool.true_and, aZipTwo, aZip3, aZip2, aZ2, seqD, aEnum, aSrt, fIxN, fInN, fLenN, aSetN, aAsgN, aDNew, aMFd, aOfN, aLenSet, aIndex, aRg3d, aDisp1, aAsgNew, fMinT, fMaxT]
  rw [if_neg (by decide)]
  refine ⟨rfl, .int c, 1, 60, rfl, rfl, ?_⟩
  rw [e2]
  try dsimp only [fAll, isOl, isOd, fSum, aRet, aRetN, aAndV, aOrV, aNotV, aIsi, aVar, aC, aChain, aOp, aUn, aTest, aTru, truD, aAnd, aOr, aNot, aIf, aCons, aNil, aTup, aLst, imAll, aCB, resAll, res, aCall, bok, isOw, bos, svOf, back, aNext, aSeq, aIfS, aAsg, aAsgO, aName, aGTup, aGCons, aGNil, aDrop, aFrz, frz, aOfL, fI0, fI, fNeg, fPlus, fLen, fTuple, fInt, fAbs, fMax2, fMin2, fIsN, fNotN, fIsB, fNotB, isNonD, isT, aApp, aAug, aPop, aSetI, aPar, aPar3, aMIm, aMFr, svM, aList, aSl, aPart, aNoPart, aISeq, aRg1, aRg2, aYes, wipeA, mrg, noOw, still, retA, Option.map, List.map, List.getElem?_cons_zero, List.getElem?_cons_succ, List.set_cons_zero, List.set_cons_succ, List.cons_append, List.nil_append, List.replicate, List.length_cons, List.length_nil, Bool.not_true, Bool.not_false, Bool.and_true, Bool.true_and, aZipTwo, aZip3, aZip2, aZ2, seqD, aEnum, aSrt, fIxN, fInN, fLenN, aSetN, aAsgN, aDNew, aMFd, aOfN, aLenSet, aIndex, aRg3d, aDisp1, aAsgNew, fMinT, fMaxT]
  rw [if_neg (by decide)]
  refine ⟨.inl ⟨by omega, by omega⟩, ?_⟩
  rw [if_neg (by simp only [decide_eq_true_eq]; omega)]
  exact ⟨rfl, hk⟩
def afSteps : AF := fun ρ k => ∃ a b, ρ = [.im (cD a), .im (cD b)] ∧ (okC a = true ∧ okC b = true) ∧ k (.int ((if a.1 - b.1 < 0 then -(a.1 - b.1) else a.1 - b.1) + (if a.2 - b.2 < 0 then -(a.2 - b.2) else a.2 - b.2))) ρ
theorem ok_steps_between (Bn : Bt mg) (h : Here K mg "steps_between" sStepsBetween ["one", "other"]) : Df P w K mg base 1 "steps_between" afSteps := by
  refine df_ok h scStepsBetween [] (fun ρ kk h => by obtain ⟨_, _, rfl, _⟩ := h; rfl) (fun f cdv A outer s H E hr => ⟨_, _, _, (gss_one (gs_ret (ge_plus (K := K) (ge_abs Bn (ga_cons (ge_op op_sub lk_sub (ge_ixK (K := K) (gv 0) ge_int) (ge_ixK (K := K) (gv 1) ge_int)) ga_nil)) (ge_abs Bn (ga_cons (ge_op op_sub lk_sub (ge_ixK (K := K) (gv 0) ge_int) (ge_ixK (K := K) (gv 1) ge_int)) ga_nil))))), fun ρ kk h => ?_⟩)
  obtain ⟨a, b, rfl, hb, hk⟩ := h
  refine ⟨rfl, ?_⟩
  unfold cD at hk ⊢
  try dsimp only [fAll, isOl, isOd, fSum, aRet, aRetN, aAndV, aOrV, aNotV, aIsi, aVar, aC, aChain, aOp, aUn, aTest, aTru, truD, aAnd, aOr, aNot, aIf, aCons, aNil, aTup, aLst, imAll, aCB, resAll, res, aCall, bok, isOw, bos, svOf, back, aNext, aSeq, aIfS, aAsg, aAsgO, aName, aGTup, aGCons, aGNil, aDrop, aFrz, frz, aOfL, fI0, fI, fNeg, fPlus, fLen, fTuple, fInt, fAbs, fMax2, fMin2, fIsN, fNotN, fIsB, fNotB, isNonD, isT, aApp, aAug, aPop, aSetI, aPar, aPar3, aMIm, aMFr, svM, aList, aSl, aPart, aNoPart, aISeq, aRg1, aRg2, aYes, wipeA, mrg, noOw, still, retA, Option.map, List.map, List.getElem?_cons_zero, List.getElem?_cons_succ, List.set_cons_zero, List.set_cons_succ, List.cons_append, List.nil_append, List.replicate, List.length_cons, List.length_nil, Bool.not_true, Bool.not_false, Bool.and_true, Bool.true_and, aZipTwo, aZip3, aZip2, aZ2, seqD, aEnum, aSrt, fIxN, fInN, fLenN, aSetN, aAsgN, aDNew, aMFd, aOfN, aLenSet, aIndex, aRg3d, aDisp1, aAsgNew, fMinT, fMaxT]
  refine ⟨_, rfl, _, rfl, ?_⟩
  try dsimp only [fAll, isOl, isOd, fSum, aRet, aRetN, aAndV, aOrV, aNotV, aIsi, aVar, aC, aChain, aOp, aUn, aTest, aTru, truD, aAnd, aOr, aNot, aIf, aCons, aNil, aTup, aLst, imAll, aCB, resAll, res, aCall, bok, isOw, bos, svOf, back, aNext, aSeq, aIfS, aAsg, aAsgO, aName, aGTup, aGCons, aGNil, aDrop, aFrz, frz, aOfL, fI0, fI, fNeg, fPlus, fLen, fTuple, fInt, fAbs, fMax2, fMin2, fIsN, fNotN, fIsB, fNotB, isNonD, isT, aApp, aAug, aPop, aSetI, aPar, aPar3, aMIm, aMFr, svM, aList, aSl, aPart, aNoPart, aISeq, aRg1, aRg2, aYes, wipeA, mrg, noOw, still, retA, Option.map, List.map, List.getElem?_cons_zero, List.getElem?_cons_succ, List.set_cons_zero, List.set_cons_succ, List.cons_append, List.nil_append, List.replicate, List.length_cons, List.length_nil, Bool.not_true, Bool.not_false, Bool.and_true, Bool.true_and, aZipTwo, aZip3, aZip2, aZ2, seqD, aEnum, aSrt, fIxN, fInN, fLenN, aSetN, aAsgN, aDNew, aMFd, aOfN, aLenSet, aIndex, aRg3d, aDisp1, aAsgNew, fMinT, fMaxT]
  refine ⟨_, rfl, _, rfl, ?_⟩
  try dsimp only [fAll, isOl, isOd, fSum, aRet, aRetN, aAndV, aOrV, aNotV, aIsi, aVar, aC, aChain, aOp, aUn, aTest, aTru, truD, aAnd, aOr, aNot, aIf, aCons, aNil, aTup, aLst, imAll, aCB, resAll, res, aCall, bok, isOw, bos, svOf, back, aNext, aSeq, aIfS, aAsg, aAsgO, aName, aGTup, aGCons, aGNil, aDrop, aFrz, frz, aOfL, fI0, fI, fNeg, fPlus, fLen, fTuple, fInt, fAbs, fMax2, fMin2, fIsN, fNotN, fIsB, fNotB, isNonD, isT, aApp, aAug, aPop, aSetI, aPar, aPar3, aMIm, aMFr, svM, aList, aSl, aPart, aNoPart, aISeq, aRg1, aRg2, aYes, wipeA, mrg, noOw, still, retA, Option.map, List.map, List.getElem?_cons_zero, List.getElem?_cons_succ, List.set_cons_zero, List.set_cons_succ, List.cons_append, List.nil_append, List.replicate, List.length_cons, List.length_nil, Bool.not_true, Bool.not_false, Bool.and_true, Bool.true_and, aZipTwo, aZip3, aZip2, aZ2, seqD, aEnum, aSrt, fIxN, fInN, fLenN, aSetN, aAsgN, aDNew, aMFd, aOfN, aLenSet, aIndex, aRg3d, aDisp1, aAsgNew, fMinT, fMaxT]
  exact ⟨rfl, hk⟩
def stp (a b : Cl) : Int := (if a.1 - b.1 < 0 then -(a.1 - b.1) else a.1 - b.1) + (if a.2 - b.2 < 0 then -(a.2 - b.2) else a.2 - b.2)

/-! box_cells, the keys, order_in -/
def boxC (r c : Int) : List Cl := (rgI 0 r).flatMap fun i => (rgI 0 c).map fun j => (i, j)
theorem boxp_len (c : Int) : ∀ pre : List Int, (pre.flatMap fun i => (rgI 0 c).map fun j => ((i, j) : Cl)).length = pre.length * c.toNat
  | [] => by simp
  | i :: pre => by
    rw [List.flatMap_cons, List.length_append, List.length_map, rgI_len, boxp_len c pre, List.length_cons, Nat.succ_mul, Int.sub_zero]
    omega
def afBoxCells : AF := fun ρ k => ∃ r c, ρ = [.im (.int r), .im (.int c)] ∧ (0 ≤ r ∧ r ≤ 60 ∧ 0 ≤ c ∧ c ≤ 60) ∧ k (.lst (csD (boxC r c))) ρ
theorem ok_box_cells (Bn : Bt mg) (h : Here K mg "box_cells" sBoxCells ["rows", "columns"]) : Df P w K mg base 1 "box_cells" afBoxCells := by
  refine df_ok h scBoxCells [.un, .un, .un] (fun ρ kk h => by obtain ⟨_, _, rfl, _⟩ := h; rfl) (fun f cdv A outer s H E hr => ⟨_, _, _, (gss_cons (gs_setO (i := 2) scBoxCells.nd (gl_lst ga_nil))
      (gss_cons (gs_for PassesOwn.never rfl (gi_rg1 Bn (ga_cons (gv 0) ga_nil)) (gg_name scBoxCells.nd (i := 3))
      (gss_one (gs_aug (i := 2) scBoxCells.nd (GL.e (gl_lc rfl scBoxCells.nd (blkOk_by (own := [("column", 4)]) (by kernel_rfl)) (gi_rg1 Bn (ga_cons (gv 1) ga_nil)) (fun _ _ _ _ _ => (gg_name scBoxCells.nd (i := 4))) (fun _ _ _ _ _ => gts_nil) (fun _ _ _ _ _ => (ge_tup (ga_cons (gv 3) (ga_cons (gv 4) ga_nil)))))))))
      (gss_one (gs_frz 2 (gs_ret (gv 2)))))), fun ρ kk h => ?_⟩)
  obtain ⟨r, c, rfl, hb, hk⟩ := h
  refine ⟨rfl, ?_⟩
  refine aSeq_cut (fun ρ' => ρ' = [.im (.int r), .im (.int c), .ow (.ol []), .un, .un]) (fun N hN => ?_) (fun ρ' h => ?_)
  · try dsimp only [fAll, isOl, isOd, fSum, aRet, aRetN, aAndV, aOrV, aNotV, aIsi, aVar, aC, aChain, aOp, aUn, aTest, aTru, truD, aAnd, aOr, aNot, aIf, aCons, aNil, aTup, aLst, imAll, aCB, resAll, res, aCall, bok, isOw, bos, svOf, back, aNext, aSeq, aIfS, aAsg, aAsgO, aName, aGTup, aGCons, aGNil, aDrop, aFrz, frz, aOfL, fI0, fI, fNeg, fPlus, fLen, fTuple, fInt, fAbs, fMax2, fMin2, fIsN, fNotN, fIsB, fNotB, isNonD, isT, aApp, aAug, aPop, aSetI, aPar, aPar3, aMIm, aMFr, svM, aList, aSl, aPart, aNoPart, aISeq, aRg1, aRg2, aYes, wipeA, mrg, noOw, still, retA, Option.map, List.map, List.getElem?_cons_zero, List.getElem?_cons_succ, List.set_cons_zero, List.set_cons_succ, List.cons_append, List.nil_append, List.replicate, List.length_cons, List.length_nil, Bool.not_true, Bool.not_false, Bool.and_true, Bool.true_and, aZipTwo, aZip3, aZip2, aZ2, seqD, aEnum, aSrt, fIxN, fInN, fLenN, aSetN, aAsgN, aDNew, aMFd, aOfN, aLenSet, aIndex, aRg3d, aDisp1, aAsgNew, fMinT, fMaxT]
    exact ⟨by decide, hN _ rfl⟩
  subst h
  refine aSeq_cut (fun ρ' => ∃ s3, ρ' = [.im (.int r), .im (.int c), .ow (.ol (csD (boxC r c))), s3, .un]) (fun N hN => ?_) (fun ρ' h => ?_)
  · refine aFor_map (rgI 0 r) D.int (fun pre ρ' => ∃ s3, ρ' = [.im (.int r), .im (.int c), .ow (.ol (csD (pre.flatMap fun i => (rgI 0 c).map fun j => (i, j)))), s3, .un]) (fun k' hk' => ?_) ⟨_, rfl⟩ (fun pre i post ρ' hx hI N' hN' => ?_) ?_
    · try dsimp only [fAll, isOl, isOd, fSum, aRet, aRetN, aAndV, aOrV, aNotV, aIsi, aVar, aC, aChain, aOp, aUn, aTest, aTru, truD, aAnd, aOr, aNot, aIf, aCons, aNil, aTup, aLst, imAll, aCB, resAll, res, aCall, bok, isOw, bos, svOf, back, aNext, aSeq, aIfS, aAsg, aAsgO, aName, aGTup, aGCons, aGNil, aDrop, aFrz, frz, aOfL, fI0, fI, fNeg, fPlus, fLen, fTuple, fInt, fAbs, fMax2, fMin2, fIsN, fNotN, fIsB, fNotB, isNonD, isT, aApp, aAug, aPop, aSetI, aPar, aPar3, aMIm, aMFr, svM, aList, aSl, aPart, aNoPart, aISeq, aRg1, aRg2, aYes, wipeA, mrg, noOw, still, retA, Option.map, List.map, List.getElem?_cons_zero, List.getElem?_cons_succ, List.set_cons_zero, List.set_cons_succ, List.cons_append, List.nil_append, List.replicate, List.length_cons, List.length_nil, Bool.not_true, Bool.not_false, Bool.and_true, Bool.true_and, aZipTwo, aZip3, aZip2, aZ2, seqD, aEnum, aSrt, fIxN, fInN, fLenN, aSetN, aAsgN, aDNew, aMFd, aOfN, aLenSet, aIndex, aRg3d, aDisp1, aAsgNew, fMinT, fMaxT]
      rw [rng_rgI0]
      exact ⟨by omega, hk'⟩
    · obtain ⟨s3, rfl⟩ := hI
      try dsimp only [fAll, isOl, isOd, fSum, aRet, aRetN, aAndV, aOrV, aNotV, aIsi, aVar, aC, aChain, aOp, aUn, aTest, aTru, truD, aAnd, aOr, aNot, aIf, aCons, aNil, aTup, aLst, imAll, aCB, resAll, res, aCall, bok, isOw, bos, svOf, back, aNext, aSeq, aIfS, aAsg, aAsgO, aName, aGTup, aGCons, aGNil, aDrop, aFrz, frz, aOfL, fI0, fI, fNeg, fPlus, fLen, fTuple, fInt, fAbs, fMax2, fMin2, fIsN, fNotN, fIsB, fNotB, isNonD, isT, aApp, aAug, aPop, aSetI, aPar, aPar3, aMIm, aMFr, svM, aList, aSl, aPart, aNoPart, aISeq, aRg1, aRg2, aYes, wipeA, mrg, noOw, still, retA, Option.map, List.map, List.getElem?_cons_zero, List.getElem?_cons_succ, List.set_cons_zero, List.set_cons_succ, List.cons_append, List.nil_append, List.replicate, List.length_cons, List.length_nil, Bool.not_true, Bool.not_false, Bool.and_true, Bool.true_and, aZipTwo, aZip3, aZip2, aZ2, seqD, aEnum, aSrt, fIxN, fInN, fLenN, aSetN, aAsgN, aDNew, aMFd, aOfN, aLenSet, aIndex, aRg3d, aDisp1, aAsgNew, fMinT, fMaxT]
      refine aLc_mapM (rgI 0 c) D.int (fun j => cD (i, j)) (fun k' hk' => ?_) rfl (by rw [rgI_len]; omega) (fun j hj Wy hW => ?_) ?_
      · try dsimp only [fAll, isOl, isOd, fSum, aRet, aRetN, aAndV, aOrV, aNotV, aIsi, aVar, aC, aChain, aOp, aUn, aTest, aTru, truD, aAnd, aOr, aNot, aIf, aCons, aNil, aTup, aLst, imAll, aCB, resAll, res, aCall, bok, isOw, bos, svOf, back, aNext, aSeq, aIfS, aAsg, aAsgO, aName, aGTup, aGCons, aGNil, aDrop, aFrz, frz, aOfL, fI0, fI, fNeg, fPlus, fLen, fTuple, fInt, fAbs, fMax2, fMin2, fIsN, fNotN, fIsB, fNotB, isNonD, isT, aApp, aAug, aPop, aSetI, aPar, aPar3, aMIm, aMFr, svM, aList, aSl, aPart, aNoPart, aISeq, aRg1, aRg2, aYes, wipeA, mrg, noOw, still, retA, Option.map, List.map, List.getElem?_cons_zero, List.getElem?_cons_succ, List.set_cons_zero, List.set_cons_succ, List.cons_append, List.nil_append, List.replicate, List.length_cons, List.length_nil, Bool.not_true, Bool.not_false, Bool.and_true, Bool.true_and, aZipTwo, aZip3, aZip2, aZ2, seqD, aEnum, aSrt, fIxN, fInN, fLenN, aSetN, aAsgN, aDNew, aMFd, aOfN, aLenSet, aIndex, aRg3d, aDisp1, aAsgNew, fMinT, fMaxT]
        rw [rng_rgI0]
        exact ⟨by omega, hk'⟩
      · try dsimp only [fAll, isOl, isOd, fSum, aRet, aRetN, aAndV, aOrV, aNotV, aIsi, aVar, aC, aChain, aOp, aUn, aTest, aTru, truD, aAnd, aOr, aNot, aIf, aCons, aNil, aTup, aLst, imAll, aCB, resAll, res, aCall, bok, isOw, bos, svOf, back, aNext, aSeq, aIfS, aAsg, aAsgO, aName, aGTup, aGCons, aGNil, aDrop, aFrz, frz, aOfL, fI0, fI, fNeg, fPlus, fLen, fTuple, fInt, fAbs, fMax2, fMin2, fIsN, fNotN, fIsB, fNotB, isNonD, isT, aApp, aAug, aPop, aSetI, aPar, aPar3, aMIm, aMFr, svM, aList, aSl, aPart, aNoPart, aISeq, aRg1, aRg2, aYes, wipeA, mrg, noOw, still, retA, Option.map, List.map, List.getElem?_cons_zero, List.getElem?_cons_succ, List.set_cons_zero, List.set_cons_succ, List.cons_append, List.nil_append, List.replicate, List.length_cons, List.length_nil, Bool.not_true, Bool.not_false, Bool.and_true, Bool.true_and, aZipTwo, aZip3, aZip2, aZ2, seqD, aEnum, aSrt, fIxN, fInN, fLenN, aSetN, aAsgN, aDNew, aMFd, aOfN, aLenSet, aIndex, aRg3d, aDisp1, aAsgNew, fMinT, fMaxT]
        exact ⟨by decide, _, rfl, hW⟩
      · obtain ⟨h1, h2, h3, h4⟩ := rgI_pre hx
        have hl : (csD (pre.flatMap fun i => (rgI 0 c).map fun j => (i, j))).length ≤ 3600 := by
          unfold csD
          rw [List.length_map, boxp_len, h1, rgI_len]
          have : (i - 0).toNat * c.toNat ≤ 60 * 60 := Nat.mul_le_mul (by omega) (by omega)
          omega
        try dsimp only [fAll, isOl, isOd, fSum, aRet, aRetN, aAndV, aOrV, aNotV, aIsi, aVar, aC, aChain, aOp, aUn, aTest, aTru, truD, aAnd, aOr, aNot, aIf, aCons, aNil, aTup, aLst, imAll, aCB, resAll, res, aCall, bok, isOw, bos, svOf, back, aNext, aSeq, aIfS, aAsg, aAsgO, aName, aGTup, aGCons, aGNil, aDrop, aFrz, frz, aOfL, fI0, fI, fNeg, fPlus, fLen, fTuple, fInt, fAbs, fMax2, fMin2, fIsN, fNotN, fIsB, fNotB, isNonD, isT, aApp, aAug, aPop, aSetI, aPar, aPar3, aMIm, aMFr, svM, aList, aSl, aPart, aNoPart, aISeq, aRg1, aRg2, aYes, wipeA, mrg, noOw, still, retA, Option.map, List.map, List.getElem?_cons_zero, List.getElem?_cons_succ, List.set_cons_zero, List.set_cons_succ, List.cons_append, List.nil_append, List.replicate, List.length_cons, List.length_nil, Bool.not_true, Bool.not_false, Bool.and_true, Bool.true_and, aZipTwo, aZip3, aZip2, aZ2, seqD, aEnum, aSrt, fIxN, fInN, fLenN, aSetN, aAsgN, aDNew, aMFd, aOfN, aLenSet, aIndex, aRg3d, aDisp1, aAsgNew, fMinT, fMaxT]
        refine ⟨by rw [List.length_map, rgI_len]; omega, ?_⟩
        refine hN' _ ⟨.im (.int i), ?_⟩
        unfold csD
        rw [List.flatMap_append, List.flatMap_cons, List.flatMap_nil, List.append_nil, List.map_append, List.map_map]
        rfl
    · rintro ρ' ⟨s3, rfl⟩
      exact hN _ ⟨s3, rfl⟩
  obtain ⟨s3, rfl⟩ := h
  try dsimp only [fAll, isOl, isOd, fSum, aRet, aRetN, aAndV, aOrV, aNotV, aIsi, aVar, aC, aChain, aOp, aUn, aTest, aTru, truD, aAnd, aOr, aNot, aIf, aCons, aNil, aTup, aLst, imAll, aCB, resAll, res, aCall, bok, isOw, bos, svOf, back, aNext, aSeq, aIfS, aAsg, aAsgO, aName, aGTup, aGCons, aGNil, aDrop, aFrz, frz, aOfL, fI0, fI, fNeg, fPlus, fLen, fTuple, fInt, fAbs, fMax2, fMin2, fIsN, fNotN, fIsB, fNotB, isNonD, isT, aApp, aAug, aPop, aSetI, aPar, aPar3, aMIm, aMFr, svM, aList, aSl, aPart, aNoPart, aISeq, aRg1, aRg2, aYes, wipeA, mrg, noOw, still, retA, Option.map, List.map, List.getElem?_cons_zero, List.getElem?_cons_succ, List.set_cons_zero, List.set_cons_succ, List.cons_append, List.nil_append, List.replicate, List.length_cons, List.length_nil, Bool.not_true, Bool.not_false, Bool.and_true, Bool.true_and, aZipTwo, aZip3, aZip2, aZ2, seqD, aEnum, aSrt, fIxN, fInN, fLenN, aSetN, aAsgN, aDNew, aMFd, aOfN, aLenSet, aIndex, aRg3d, aDisp1, aAsgNew, fMinT, fMaxT]
  exact ⟨rfl, hk⟩
end
end K89

namespace K89
open PySem PySem.Spec L2 DL
open PyProof.Rows hiding St
/-! the spiral, ring by ring -/
def ring (t l b r : Int) : List Cl := (rgI l (r + 1)).map (fun j => (t, j)) ++ (rgI (t + 1) (b + 1)).map (fun i => (i, r)) ++ (if t < b then (rgd (r - 1) (l - 1)).map fun j => (b, j) else []) ++ (if l < r then (rgd (b - 1) t).map fun i => (i, l) else [])
def spirA (R C : Int) : Nat → List Cl
  | 0 => []
  | k + 1 => spirA R C k ++ ring k k (R - 1 - k) (C - 1 - k)
def spirN (R C : Int) : Nat := ((min R C + 1) / 2).toNat
def spiralC (R C : Int) : List Cl := spirA R C (spirN R C)
theorem ring_len {t l b r : Int} (h : 0 ≤ t ∧ 0 ≤ l ∧ b ≤ 60 ∧ r ≤ 60) : (ring t l b r).length ≤ 244 := by
  unfold ring
  rw [List.length_append, List.length_append, List.length_append, List.length_map, List.length_map, rgI_len, rgI_len]
  have h1 : (if t < b then (rgd (r - 1) (l - 1)).map fun j => ((b, j) : Cl) else []).length ≤ 61 := by
    split
    · rw [List.length_map, rgd_len]; omega
    · exact Nat.zero_le _
  have h2 : (if l < r then (rgd (b - 1) t).map fun i => ((i, l) : Cl) else []).length ≤ 61 := by
    split
    · rw [List.length_map, rgd_len]; omega
    · exact Nat.zero_le _
  omega
theorem spirA_len {R C : Int} (h : R ≤ 60 ∧ C ≤ 60) : ∀ k : Nat, (spirA R C k).length ≤ 244 * k
  | 0 => Nat.le_refl _
  | k + 1 => by
    unfold spirA
    rw [List.length_append]
    have := spirA_len h k
    have := ring_len (t := k) (l := k) (b := R - 1 - k) (r := C - 1 - k) (by omega)
    omega
section
variable {P : Program} {w : World} {K : PySem.W.Frag} {mg : Str → Option Value} {base : Heap}
def afSpiralIn : AF := fun ρ k => ∃ r c, ρ = [.im (.int r), .im (.int c)] ∧ (1 ≤ r ∧ r ≤ 60 ∧ 1 ≤ c ∧ c ≤ 60) ∧ k (.lst (csD (spiralC r c))) ρ
theorem ok_spiral_in (Bn : Bt mg) (h : Here K mg "spiral_in" sSpiralIn ["rows", "columns"]) : Df P w K mg base 1 "spiral_in" afSpiralIn := by
  refine df_ok h scSpiralIn [.un, .un, .un, .un, .un, .un, .un] (fun ρ kk h => by obtain ⟨_, _, rfl, _⟩ := h; rfl) (fun f cdv A outer s H E hr => ⟨_, _, _, (gss_cons (gs_asgNew (K := K) (n := 5) (i := 2) rfl scSpiralIn.nd (gl_lst ga_nil) (ga_cons ge_int (ga_cons ge_int (ga_cons (ge_op op_sub lk_sub (gv 0) ge_int) (ga_cons (ge_op op_sub lk_sub (gv 1) ge_int) ga_nil)))) (ggs_cons (gg_name scSpiralIn.nd (i := 3)) (ggs_cons (gg_name scSpiralIn.nd (i := 4)) (ggs_cons (gg_name scSpiralIn.nd (i := 5)) (ggs_cons (gg_name scSpiralIn.nd (i := 6)) ggs_nil)))))
      (gss_cons (gs_while PassesOwn.never (GW.gt (gw_and (gt_cmp op_le lk_le (gv 3) (gv 5) (nomark _)) (gw_and1 (gt_cmp op_le lk_le (gv 4) (gv 6) (nomark _))))) (gss_cons (gs_aug (i := 2) scSpiralIn.nd (GL.e (gl_lc rfl scSpiralIn.nd (blkOk_by (own := [("column", 7)]) (by kernel_rfl)) (gi_rg2 Bn (ga_cons (gv 4) (ga_cons (ge_plus (K := K) (gv 6) ge_int) ga_nil))) (fun _ _ _ _ _ => (gg_name scSpiralIn.nd (i := 7))) (fun _ _ _ _ _ => gts_nil) (fun _ _ _ _ _ => (ge_tup (ga_cons (gv 3) (ga_cons (gv 7) ga_nil)))))))
      (gss_cons (gs_aug (i := 2) scSpiralIn.nd (GL.e (gl_lc rfl scSpiralIn.nd (blkOk_by (own := [("row", 8)]) (by kernel_rfl)) (gi_rg2 Bn (ga_cons (ge_plus (K := K) (gv 3) ge_int) (ga_cons (ge_plus (K := K) (gv 5) ge_int) ga_nil))) (fun _ _ _ _ _ => (gg_name scSpiralIn.nd (i := 8))) (fun _ _ _ _ _ => gts_nil) (fun _ _ _ _ _ => (ge_tup (ga_cons (gv 8) (ga_cons (gv 6) ga_nil)))))))
      (gss_cons (gs_if (gt_cmp op_lt lk_lt (gv 3) (gv 5) (nomark _)) (gss_one (gs_aug (i := 2) scSpiralIn.nd (GL.e (gl_lc rfl scSpiralIn.nd (blkOk_by (own := [("column", 7)]) (by kernel_rfl)) (gi_rg3 Bn (ga_cons (ge_op op_sub lk_sub (gv 6) ge_int) (ga_cons (ge_op op_sub lk_sub (gv 4) ge_int) (ga_cons (ge_un un_neg lk_neg ge_int) ga_nil)))) (fun _ _ _ _ _ => (gg_name scSpiralIn.nd (i := 7))) (fun _ _ _ _ _ => gts_nil) (fun _ _ _ _ _ => (ge_tup (ga_cons (gv 5) (ga_cons (gv 7) ga_nil)))))))) gss_nil)
      (gss_cons (gs_if (gt_cmp op_lt lk_lt (gv 4) (gv 6) (nomark _)) (gss_one (gs_aug (i := 2) scSpiralIn.nd (GL.e (gl_lc rfl scSpiralIn.nd (blkOk_by (own := [("row", 8)]) (by kernel_rfl)) (gi_rg3 Bn (ga_cons (ge_op op_sub lk_sub (gv 5) ge_int) (ga_cons (gv 3) (ga_cons (ge_un un_neg lk_neg ge_int) ga_nil)))) (fun _ _ _ _ _ => (gg_name scSpiralIn.nd (i := 8))) (fun _ _ _ _ _ => gts_nil) (fun _ _ _ _ _ => (ge_tup (ga_cons (gv 8) (ga_cons (gv 4) ga_nil)))))))) gss_nil)
      (gss_one (gs_asg (ge_tup (ga_cons (ge_plus (K := K) (gv 3) ge_int) (ga_cons (ge_plus (K := K) (gv 4) ge_int) (ga_cons (ge_op op_sub lk_sub (gv 5) ge_int) (ga_cons (ge_op op_sub lk_sub (gv 6) ge_int) ga_nil))))) (gg_tupK (K := K) (n := 4) rfl (ggs_cons (gg_name scSpiralIn.nd (i := 3)) (ggs_cons (gg_name scSpiralIn.nd (i := 4)) (ggs_cons (gg_name scSpiralIn.nd (i := 5)) (ggs_cons (gg_name scSpiralIn.nd (i := 6)) ggs_nil))))))))))))
      (gss_one (gs_frz 2 (gs_ret (gv 2)))))), fun ρ kk h => ?_⟩)
  obtain ⟨R, C, rfl, hb, hk⟩ := h
  refine ⟨rfl, ?_⟩
  refine aSeq_cut (fun ρ' => ρ' = [.im (.int R), .im (.int C), .ow (.ol []), .im (.int 0), .im (.int 0), .im (.int (R - 1)), .im (.int (C - 1)), .un, .un]) (fun N hN => ?_) (fun ρ' h => ?_)
  · try dsimp only [fAll, isOl, isOd, fSum, aRet, aRetN, aAndV, aOrV, aNotV, aIsi, aVar, aC, aChain, aOp, aUn, aTest, aTru, truD, aAnd, aOr, aNot, aIf, aCons, aNil, aTup, aLst, imAll, aCB, resAll, res, aCall, bok, isOw, bos, svOf, back, aNext, aSeq, aIfS, aAsg, aAsgO, aName, aGTup, aGCons, aGNil, aDrop, aFrz, frz, aOfL, fI0, fI, fNeg, fPlus, fLen, fTuple, fInt, fAbs, fMax2, fMin2, fIsN, fNotN, fIsB, fNotB, isNonD, isT, aApp, aAug, aPop, aSetI, aPar, aPar3, aMIm, aMFr, svM, aList, aSl, aPart, aNoPart, aISeq, aRg1, aRg2, aYes, wipeA, mrg, noOw, still, retA, Option.map, List.map, List.getElem?_cons_zero, List.getElem?_cons_succ, List.set_cons_zero, List.set_cons_succ, List.cons_append, List.nil_append, List.replicate, List.length_cons, List.length_nil, Bool.not_true, Bool.not_false, Bool.and_true, Bool.true_and, aZipTwo, aZip3, aZip2, aZ2, seqD, aEnum, aSrt, fIxN, fInN, fLenN, aSetN, aAsgN, aDNew, aMFd, aOfN, aLenSet, aIndex, aRg3d, aDisp1, aAsgNew, fMinT, fMaxT]
    exact ⟨by decide, rfl, by decide, rfl, hN _ rfl⟩
  subst h
  refine aSeq_cut (fun ρ' => ∃ s3 s4 s5 s6, ρ' = [.im (.int R), .im (.int C), .ow (.ol (csD (spiralC R C))), s3, s4, s5, s6, .un, .un]) (fun N hN => ?_) (fun ρ' h => ?_)
  · refine ⟨fun m ρ' => ∃ k : Nat, m = spirN R C - k ∧ k ≤ spirN R C ∧ ρ' = [.im (.int R), .im (.int C), .ow (.ol (csD (spirA R C k))), .im (.int k), .im (.int k), .im (.int (R - 1 - k)), .im (.int (C - 1 - k)), .un, .un], ⟨spirN R C, 0, rfl, Nat.zero_le _, ?_⟩, fun m ρ' hW => ?_⟩
    · rw [show R - 1 - ((0 : Nat) : Int) = R - 1 by omega, show C - 1 - ((0 : Nat) : Int) = C - 1 by omega]
      rfl
    obtain ⟨k, rfl, hkN, rfl⟩ := hW
    have hN2 : spirN R C = ((min R C + 1) / 2).toNat := rfl
    have hA := spirA_len (R := R) (C := C) (by omega) k
    have go : ¬ ((k : Int) ≤ R - 1 - k ∧ (k : Int) ≤ C - 1 - k) → N [.im (.int R), .im (.int C), .ow (.ol (csD (spirA R C k))), .im (.int k), .im (.int k), .im (.int (R - 1 - k)), .im (.int (C - 1 - k)), .un, .un] := fun hn => by
      have e : k = spirN R C := by omega
      subst e
      exact hN _ ⟨_, _, _, _, rfl⟩
    rcases Int.lt_or_le (R - 1 - (k : Int)) k with h1 | h1
    · try dsimp only [fAll, isOl, isOd, fSum, aRet, aRetN, aAndV, aOrV, aNotV, aIsi, aVar, aC, aChain, aOp, aUn, aTest, aTru, truD, aAnd, aOr, aNot, aIf, aCons, aNil, aTup, aLst, imAll, aCB, resAll, res, aCall, bok, isOw, bos, svOf, back, aNext, aSeq, aIfS, aAsg, aAsgO, aName, aGTup, aGCons, aGNil, aDrop, aFrz, frz, aOfL, fI0, fI, fNeg, fPlus, fLen, fTuple, fInt, fAbs, fMax2, fMin2, fIsN, fNotN, fIsB, fNotB, isNonD, isT, aApp, aAug, aPop, aSetI, aPar, aPar3, aMIm, aMFr, svM, aList, aSl, aPart, aNoPart, aISeq, aRg1, aRg2, aYes, wipeA, mrg, noOw, still, retA, Option.map, List.map, List.getElem?_cons_zero, List.getElem?_cons_succ, List.set_cons_zero, List.set_cons_succ, List.cons_append, List.nil_append, List.replicate, List.length_cons, List.length_nil, Bool.not_true, Bool.not_false, Bool.and_true, Bool.true_and, aZipTwo, aZip3, aZip2, aZ2, seqD, aEnum, aSrt, fIxN, fInN, fLenN, aSetN, aAsgN, aDNew, aMFd, aOfN, aLenSet, aIndex, aRg3d, aDisp1, aAsgNew, fMinT, fMaxT]
      rw [if_neg (by rw [decide_eq_true_eq]; omega)]
      exact go fun z => by omega
    rcases Int.lt_or_le (C - 1 - (k : Int)) k with h2 | h2
    · try dsimp only [fAll, isOl, isOd, fSum, aRet, aRetN, aAndV, aOrV, aNotV, aIsi, aVar, aC, aChain, aOp, aUn, aTest, aTru, truD, aAnd, aOr, aNot, aIf, aCons, aNil, aTup, aLst, imAll, aCB, resAll, res, aCall, bok, isOw, bos, svOf, back, aNext, aSeq, aIfS, aAsg, aAsgO, aName, aGTup, aGCons, aGNil, aDrop, aFrz, frz, aOfL, fI0, fI, fNeg, fPlus, fLen, fTuple, fInt, fAbs, fMax2, fMin2, fIsN, fNotN, fIsB, fNotB, isNonD, isT, aApp, aAug, aPop, aSetI, aPar, aPar3, aMIm, aMFr, svM, aList, aSl, aPart, aNoPart, aISeq, aRg1, aRg2, aYes, wipeA, mrg, noOw, still, retA, Option.map, List.map, List.getElem?_cons_zero, List.getElem?_cons_succ, List.set_cons_zero, List.set_cons_succ, List.cons_append, List.nil_append, List.replicate, List.length_cons, List.length_nil, Bool.not_true, Bool.not_false, Bool.and_true, Bool.true_and, aZipTwo, aZip3, aZip2, aZ2, seqD, aEnum, aSrt, fIxN, fInN, fLenN, aSetN, aAsgN, aDNew, aMFd, aOfN, aLenSet, aIndex, aRg3d, aDisp1, aAsgNew, fMinT, fMaxT]
      rw [if_pos (by rw [decide_eq_true_eq]; omega), if_neg (by rw [decide_eq_true_eq]; omega)]
      exact go fun z => by omega
    have k1 : k + 1 ≤ spirN R C := by omega
    have fin : ∀ ρ2 : AR, ρ2 = [.im (.int R), .im (.int C), .ow (.ol (csD (spirA R C (k + 1)))), .im (.int (k + 1)), .im (.int (k + 1)), .im (.int (R - 1 - k - 1)), .im (.int (C - 1 - k - 1)), .un, .un] → ∃ m', m' < spirN R C - k ∧ ∃ k' : Nat, m' = spirN R C - k' ∧ k' ≤ spirN R C ∧ ρ2 = [.im (.int R), .im (.int C), .ow (.ol (csD (spirA R C k'))), .im (.int k'), .im (.int k'), .im (.int (R - 1 - k')), .im (.int (C - 1 - k')), .un, .un] := fun ρ2 e => by
      refine ⟨spirN R C - (k + 1), by omega, k + 1, rfl, k1, ?_⟩
      rw [e, show ((k + 1 : Nat) : Int) = (k : Int) + 1 by omega, show R - 1 - ((k : Int) + 1) = R - 1 - k - 1 by omega, show C - 1 - ((k : Int) + 1) = C - 1 - k - 1 by omega]
    have ea : csD (spirA R C (k + 1)) = csD (spirA R C k) ++ (rgI k (C - 1 - k + 1)).map (fun j => cD (k, j)) ++ (rgI (k + 1) (R - 1 - k + 1)).map (fun i => cD (i, C - 1 - k)) ++ (if (k : Int) < R - 1 - k then (rgd (C - 1 - k - 1) (k - 1)).map fun j => cD (R - 1 - k, j) else []) ++ (if (k : Int) < C - 1 - k then (rgd (R - 1 - k - 1) k).map fun i => cD (i, k) else []) := by
      show csD (spirA R C k ++ ring k k (R - 1 - k) (C - 1 - k)) = _
      unfold csD ring
      by_cases c1 : (k : Int) < R - 1 - k <;> by_cases c2 : (k : Int) < C - 1 - k <;> simp only [c1, c2, if_true, if_false, List.map_append, List.map_map, List.append_assoc, List.map_nil, List.append_nil] <;> rfl
    rw [ea] at fin
    have la : (csD (spirA R C k)).length ≤ 244 * 31 := by
      unfold csD
      rw [List.length_map]
      have : k ≤ 31 := by omega
      omega
    generalize csD (spirA R C k) = acc at fin la
    clear ea go hA
    try dsimp only [aAnd, aOr, aNot, aTest, aTru, truD, aOp, aUn, aVar, aC, fI0, fI, res, aCB, resAll, aCons, aNil, fLen, List.getElem?_cons_zero, List.getElem?_cons_succ]
    rw [if_pos (by rw [decide_eq_true_eq]; omega), if_pos (by rw [decide_eq_true_eq]; omega)]
    generalize hB : R - 1 - (k : Int) = B at *
    generalize hE : C - 1 - (k : Int) = E at *
    have b1 : -1 ≤ B ∧ B ≤ 60 ∧ -1 ≤ E ∧ E ≤ 60 := by omega
    have k60 : (k : Int) ≤ 60 := by omega
    refine aSeq_cut (fun ρ' => ∃ acc2, acc2.length ≤ 244 * 31 + 100 ∧ acc ++ (rgI k (E + 1)).map (fun j => cD (k, j)) = acc2 ∧ ρ' = [.im (.int R), .im (.int C), .ow (.ol acc2), .im (.int k), .im (.int k), .im (.int B), .im (.int E), .un, .un]) (fun N hN => ?_) (fun ρ' h => ?_)
    · try dsimp only [fAll, isOl, isOd, fSum, aRet, aRetN, aAndV, aOrV, aNotV, aIsi, aVar, aC, aChain, aOp, aUn, aTest, aTru, truD, aAnd, aOr, aNot, aIf, aCons, aNil, aTup, aLst, imAll, aCB, resAll, res, aCall, bok, isOw, bos, svOf, back, aNext, aSeq, aIfS, aAsg, aAsgO, aName, aGTup, aGCons, aGNil, aDrop, aFrz, frz, aOfL, fI0, fI, fNeg, fPlus, fLen, fTuple, fInt, fAbs, fMax2, fMin2, fIsN, fNotN, fIsB, fNotB, isNonD, isT, aApp, aAug, aPop, aSetI, aPar, aPar3, aMIm, aMFr, svM, aList, aSl, aPart, aNoPart, aISeq, aRg1, aRg2, aYes, wipeA, mrg, noOw, still, retA, Option.map, List.map, List.getElem?_cons_zero, List.getElem?_cons_succ, List.set_cons_zero, List.set_cons_succ, List.cons_append, List.nil_append, List.replicate, List.length_cons, List.length_nil, Bool.not_true, Bool.not_false, Bool.and_true, Bool.true_and, aZipTwo, aZip3, aZip2, aZ2, seqD, aEnum, aSrt, fIxN, fInN, fLenN, aSetN, aAsgN, aDNew, aMFd, aOfN, aLenSet, aIndex, aRg3d, aDisp1, aAsgNew, fMinT, fMaxT]
      refine aLc_mapM (rgI k (E + 1)) D.int (fun j => cD (k, j)) (fun k' hk' => ?_) rfl (by rw [rgI_len]; omega) (fun j hj Wy hW => ?_) ?_
      · try dsimp only [fAll, isOl, isOd, fSum, aRet, aRetN, aAndV, aOrV, aNotV, aIsi, aVar, aC, aChain, aOp, aUn, aTest, aTru, truD, aAnd, aOr, aNot, aIf, aCons, aNil, aTup, aLst, imAll, aCB, resAll, res, aCall, bok, isOw, bos, svOf, back, aNext, aSeq, aIfS, aAsg, aAsgO, aName, aGTup, aGCons, aGNil, aDrop, aFrz, frz, aOfL, fI0, fI, fNeg, fPlus, fLen, fTuple, fInt, fAbs, fMax2, fMin2, fIsN, fNotN, fIsB, fNotB, isNonD, isT, aApp, aAug, aPop, aSetI, aPar, aPar3, aMIm, aMFr, svM, aList, aSl, aPart, aNoPart, aISeq, aRg1, aRg2, aYes, wipeA, mrg, noOw, still, retA, Option.map, List.map, List.getElem?_cons_zero, List.getElem?_cons_succ, List.set_cons_zero, List.set_cons_succ, List.cons_append, List.nil_append, List.replicate, List.length_cons, List.length_nil, Bool.not_true, Bool.not_false, Bool.and_true, Bool.true_and, aZipTwo, aZip3, aZip2, aZ2, seqD, aEnum, aSrt, fIxN, fInN, fLenN, aSetN, aAsgN, aDNew, aMFd, aOfN, aLenSet, aIndex, aRg3d, aDisp1, aAsgNew, fMinT, fMaxT]
        rw [← rng_rgI] at hk'
        exact ⟨by omega, hk'⟩
      · try dsimp only [fAll, isOl, isOd, fSum, aRet, aRetN, aAndV, aOrV, aNotV, aIsi, aVar, aC, aChain, aOp, aUn, aTest, aTru, truD, aAnd, aOr, aNot, aIf, aCons, aNil, aTup, aLst, imAll, aCB, resAll, res, aCall, bok, isOw, bos, svOf, back, aNext, aSeq, aIfS, aAsg, aAsgO, aName, aGTup, aGCons, aGNil, aDrop, aFrz, frz, aOfL, fI0, fI, fNeg, fPlus, fLen, fTuple, fInt, fAbs, fMax2, fMin2, fIsN, fNotN, fIsB, fNotB, isNonD, isT, aApp, aAug, aPop, aSetI, aPar, aPar3, aMIm, aMFr, svM, aList, aSl, aPart, aNoPart, aISeq, aRg1, aRg2, aYes, wipeA, mrg, noOw, still, retA, Option.map, List.map, List.getElem?_cons_zero, List.getElem?_cons_succ, List.set_cons_zero, List.set_cons_succ, List.cons_append, List.nil_append, List.replicate, List.length_cons, List.length_nil, Bool.not_true, Bool.not_false, Bool.and_true, Bool.true_and, aZipTwo, aZip3, aZip2, aZ2, seqD, aEnum, aSrt, fIxN, fInN, fLenN, aSetN, aAsgN, aDNew, aMFd, aOfN, aLenSet, aIndex, aRg3d, aDisp1, aAsgNew, fMinT, fMaxT]
        exact ⟨by decide, _, rfl, hW⟩
      try dsimp only [fAll, isOl, isOd, fSum, aRet, aRetN, aAndV, aOrV, aNotV, aIsi, aVar, aC, aChain, aOp, aUn, aTest, aTru, truD, aAnd, aOr, aNot, aIf, aCons, aNil, aTup, aLst, imAll, aCB, resAll, res, aCall, bok, isOw, bos, svOf, back, aNext, aSeq, aIfS, aAsg, aAsgO, aName, aGTup, aGCons, aGNil, aDrop, aFrz, frz, aOfL, fI0, fI, fNeg, fPlus, fLen, fTuple, fInt, fAbs, fMax2, fMin2, fIsN, fNotN, fIsB, fNotB, isNonD, isT, aApp, aAug, aPop, aSetI, aPar, aPar3, aMIm, aMFr, svM, aList, aSl, aPart, aNoPart, aISeq, aRg1, aRg2, aYes, wipeA, mrg, noOw, still, retA, Option.map, List.map, List.getElem?_cons_zero, List.getElem?_cons_succ, List.set_cons_zero, List.set_cons_succ, List.cons_append, List.nil_append, List.replicate, List.length_cons, List.length_nil, Bool.not_true, Bool.not_false, Bool.and_true, Bool.true_and, aZipTwo, aZip3, aZip2, aZ2, seqD, aEnum, aSrt, fIxN, fInN, fLenN, aSetN, aAsgN, aDNew, aMFd, aOfN, aLenSet, aIndex, aRg3d, aDisp1, aAsgNew, fMinT, fMaxT]
      exact ⟨by rw [List.length_map, rgI_len]; omega, hN _ ⟨_, by rw [List.length_append, List.length_map, rgI_len]; omega, rfl, rfl⟩⟩
    obtain ⟨acc2, l2, e2, rfl⟩ := h
    rw [e2] at fin
    refine aSeq_cut (fun ρ' => ∃ acc3, acc3.length ≤ 244 * 31 + 200 ∧ acc2 ++ (rgI (k + 1) (B + 1)).map (fun i => cD (i, E)) = acc3 ∧ ρ' = [.im (.int R), .im (.int C), .ow (.ol acc3), .im (.int k), .im (.int k), .im (.int B), .im (.int E), .un, .un]) (fun N hN => ?_) (fun ρ' h => ?_)
    · try dsimp only [fAll, isOl, isOd, fSum, aRet, aRetN, aAndV, aOrV, aNotV, aIsi, aVar, aC, aChain, aOp, aUn, aTest, aTru, truD, aAnd, aOr, aNot, aIf, aCons, aNil, aTup, aLst, imAll, aCB, resAll, res, aCall, bok, isOw, bos, svOf, back, aNext, aSeq, aIfS, aAsg, aAsgO, aName, aGTup, aGCons, aGNil, aDrop, aFrz, frz, aOfL, fI0, fI, fNeg, fPlus, fLen, fTuple, fInt, fAbs, fMax2, fMin2, fIsN, fNotN, fIsB, fNotB, isNonD, isT, aApp, aAug, aPop, aSetI, aPar, aPar3, aMIm, aMFr, svM, aList, aSl, aPart, aNoPart, aISeq, aRg1, aRg2, aYes, wipeA, mrg, noOw, still, retA, Option.map, List.map, List.getElem?_cons_zero, List.getElem?_cons_succ, List.set_cons_zero, List.set_cons_succ, List.cons_append, List.nil_append, List.replicate, List.length_cons, List.length_nil, Bool.not_true, Bool.not_false, Bool.and_true, Bool.true_and, aZipTwo, aZip3, aZip2, aZ2, seqD, aEnum, aSrt, fIxN, fInN, fLenN, aSetN, aAsgN, aDNew, aMFd, aOfN, aLenSet, aIndex, aRg3d, aDisp1, aAsgNew, fMinT, fMaxT]
      refine aLc_mapM (rgI (k + 1) (B + 1)) D.int (fun i => cD (i, E)) (fun k' hk' => ?_) rfl (by rw [rgI_len]; omega) (fun j hj Wy hW => ?_) ?_
      · try dsimp only [fAll, isOl, isOd, fSum, aRet, aRetN, aAndV, aOrV, aNotV, aIsi, aVar, aC, aChain, aOp, aUn, aTest, aTru, truD, aAnd, aOr, aNot, aIf, aCons, aNil, aTup, aLst, imAll, aCB, resAll, res, aCall, bok, isOw, bos, svOf, back, aNext, aSeq, aIfS, aAsg, aAsgO, aName, aGTup, aGCons, aGNil, aDrop, aFrz, frz, aOfL, fI0, fI, fNeg, fPlus, fLen, fTuple, fInt, fAbs, fMax2, fMin2, fIsN, fNotN, fIsB, fNotB, isNonD, isT, aApp, aAug, aPop, aSetI, aPar, aPar3, aMIm, aMFr, svM, aList, aSl, aPart, aNoPart, aISeq, aRg1, aRg2, aYes, wipeA, mrg, noOw, still, retA, Option.map, List.map, List.getElem?_cons_zero, List.getElem?_cons_succ, List.set_cons_zero, List.set_cons_succ, List.cons_append, List.nil_append, List.replicate, List.length_cons, List.length_nil, Bool.not_true, Bool.not_false, Bool.and_true, Bool.true_and, aZipTwo, aZip3, aZip2, aZ2, seqD, aEnum, aSrt, fIxN, fInN, fLenN, aSetN, aAsgN, aDNew, aMFd, aOfN, aLenSet, aIndex, aRg3d, aDisp1, aAsgNew, fMinT, fMaxT]
        rw [← rng_rgI] at hk'
        exact ⟨by omega, hk'⟩
      · try dsimp only [fAll, isOl, isOd, fSum, aRet, aRetN, aAndV, aOrV, aNotV, aIsi, aVar, aC, aChain, aOp, aUn, aTest, aTru, truD, aAnd, aOr, aNot, aIf, aCons, aNil, aTup, aLst, imAll, aCB, resAll, res, aCall, bok, isOw, bos, svOf, back, aNext, aSeq, aIfS, aAsg, aAsgO, aName, aGTup, aGCons, aGNil, aDrop, aFrz, frz, aOfL, fI0, fI, fNeg, fPlus, fLen, fTuple, fInt, fAbs, fMax2, fMin2, fIsN, fNotN, fIsB, fNotB, isNonD, isT, aApp, aAug, aPop, aSetI, aPar, aPar3, aMIm, aMFr, svM, aList, aSl, aPart, aNoPart, aISeq, aRg1, aRg2, aYes, wipeA, mrg, noOw, still, retA, Option.map, List.map, List.getElem?_cons_zero, List.getElem?_cons_succ, List.set_cons_zero, List.set_cons_succ, List.cons_append, List.nil_append, List.replicate, List.length_cons, List.length_nil, Bool.not_true, Bool.not_false, Bool.and_true, Bool.true_and, aZipTwo, aZip3, aZip2, aZ2, seqD, aEnum, aSrt, fIxN, fInN, fLenN, aSetN, aAsgN, aDNew, aMFd, aOfN, aLenSet, aIndex, aRg3d, aDisp1, aAsgNew, fMinT, fMaxT]
        exact ⟨by decide, _, rfl, hW⟩
      try dsimp only [fAll, isOl, isOd, fSum, aRet, aRetN, aAndV, aOrV, aNotV, aIsi, aVar, aC, aChain, aOp, aUn, aTest, aTru, truD, aAnd, aOr, aNot, aIf, aCons, aNil, aTup, aLst, imAll, aCB, resAll, res, aCall, bok, isOw, bos, svOf, back, aNext, aSeq, aIfS, aAsg, aAsgO, aName, aGTup, aGCons, aGNil, aDrop, aFrz, frz, aOfL, fI0, fI, fNeg, fPlus, fLen, fTuple, fInt, fAbs, fMax2, fMin2, fIsN, fNotN, fIsB, fNotB, isNonD, isT, aApp, aAug, aPop, aSetI, aPar, aPar3, aMIm, aMFr, svM, aList, aSl, aPart, aNoPart, aISeq, aRg1, aRg2, aYes, wipeA, mrg, noOw, still, retA, Option.map, List.map, List.getElem?_cons_zero, List.getElem?_cons_succ, List.set_cons_zero, List.set_cons_succ, List.cons_append, List.nil_append, List.replicate, List.length_cons, List.length_nil, Bool.not_true, Bool.not_false, Bool.and_true, Bool.true_and, aZipTwo, aZip3, aZip2, aZ2, seqD, aEnum, aSrt, fIxN, fInN, fLenN, aSetN, aAsgN, aDNew, aMFd, aOfN, aLenSet, aIndex, aRg3d, aDisp1, aAsgNew, fMinT, fMaxT]
      exact ⟨by rw [List.length_map, rgI_len]; omega, hN _ ⟨_, by rw [List.length_append, List.length_map, rgI_len]; omega, rfl, rfl⟩⟩
    obtain ⟨acc3, l3, e3, rfl⟩ := h
    rw [e3] at fin
    refine aSeq_cut (fun ρ' => ∃ acc4, acc4.length ≤ 244 * 31 + 300 ∧ acc3 ++ (if (k : Int) < B then (rgd (E - 1) (k - 1)).map fun j => cD (B, j) else []) = acc4 ∧ ρ' = [.im (.int R), .im (.int C), .ow (.ol acc4), .im (.int k), .im (.int k), .im (.int B), .im (.int E), .un, .un]) (fun N hN => ?_) (fun ρ' h => ?_)
    · try dsimp only [fAll, isOl, isOd, fSum, aRet, aRetN, aAndV, aOrV, aNotV, aIsi, aVar, aC, aChain, aOp, aUn, aTest, aTru, truD, aAnd, aOr, aNot, aIf, aCons, aNil, aTup, aLst, imAll, aCB, resAll, res, aCall, bok, isOw, bos, svOf, back, aNext, aSeq, aIfS, aAsg, aAsgO, aName, aGTup, aGCons, aGNil, aDrop, aFrz, frz, aOfL, fI0, fI, fNeg, fPlus, fLen, fTuple, fInt, fAbs, fMax2, fMin2, fIsN, fNotN, fIsB, fNotB, isNonD, isT, aApp, aAug, aPop, aSetI, aPar, aPar3, aMIm, aMFr, svM, aList, aSl, aPart, aNoPart, aISeq, aRg1, aRg2, aYes, wipeA, mrg, noOw, still, retA, Option.map, List.map, List.getElem?_cons_zero, List.getElem?_cons_succ, List.set_cons_zero, List.set_cons_succ, List.cons_append, List.nil_append, List.replicate, List.length_cons, List.length_nil, Bool.not_true, Bool.not_false, Bool.and_true, Bool.true_and, aZipTwo, aZip3, aZip2, aZ2, seqD, aEnum, aSrt, fIxN, fInN, fLenN, aSetN, aAsgN, aDNew, aMFd, aOfN, aLenSet, aIndex, aRg3d, aDisp1, aAsgNew, fMinT, fMaxT]
      by_cases c1 : (k : Int) < B
      · rw [if_pos (by rw [decide_eq_true_eq]; exact c1)]
        rw [if_pos c1] at hN
        refine aLc_mapM (rgd (E - 1) (k - 1)) D.int (fun j => cD (B, j)) (fun k' hk' => ?_) rfl (by rw [rgd_len]; omega) (fun j hj Wy hW => ?_) ?_
        · try dsimp only [fAll, isOl, isOd, fSum, aRet, aRetN, aAndV, aOrV, aNotV, aIsi, aVar, aC, aChain, aOp, aUn, aTest, aTru, truD, aAnd, aOr, aNot, aIf, aCons, aNil, aTup, aLst, imAll, aCB, resAll, res, aCall, bok, isOw, bos, svOf, back, aNext, aSeq, aIfS, aAsg, aAsgO, aName, aGTup, aGCons, aGNil, aDrop, aFrz, frz, aOfL, fI0, fI, fNeg, fPlus, fLen, fTuple, fInt, fAbs, fMax2, fMin2, fIsN, fNotN, fIsB, fNotB, isNonD, isT, aApp, aAug, aPop, aSetI, aPar, aPar3, aMIm, aMFr, svM, aList, aSl, aPart, aNoPart, aISeq, aRg1, aRg2, aYes, wipeA, mrg, noOw, still, retA, Option.map, List.map, List.getElem?_cons_zero, List.getElem?_cons_succ, List.set_cons_zero, List.set_cons_succ, List.cons_append, List.nil_append, List.replicate, List.length_cons, List.length_nil, Bool.not_true, Bool.not_false, Bool.and_true, Bool.true_and, aZipTwo, aZip3, aZip2, aZ2, seqD, aEnum, aSrt, fIxN, fInN, fLenN, aSetN, aAsgN, aDNew, aMFd, aOfN, aLenSet, aIndex, aRg3d, aDisp1, aAsgNew, fMinT, fMaxT]
          exact ⟨by decide, by omega, hk'⟩
        · try dsimp only [fAll, isOl, isOd, fSum, aRet, aRetN, aAndV, aOrV, aNotV, aIsi, aVar, aC, aChain, aOp, aUn, aTest, aTru, truD, aAnd, aOr, aNot, aIf, aCons, aNil, aTup, aLst, imAll, aCB, resAll, res, aCall, bok, isOw, bos, svOf, back, aNext, aSeq, aIfS, aAsg, aAsgO, aName, aGTup, aGCons, aGNil, aDrop, aFrz, frz, aOfL, fI0, fI, fNeg, fPlus, fLen, fTuple, fInt, fAbs, fMax2, fMin2, fIsN, fNotN, fIsB, fNotB, isNonD, isT, aApp, aAug, aPop, aSetI, aPar, aPar3, aMIm, aMFr, svM, aList, aSl, aPart, aNoPart, aISeq, aRg1, aRg2, aYes, wipeA, mrg, noOw, still, retA, Option.map, List.map, List.getElem?_cons_zero, List.getElem?_cons_succ, List.set_cons_zero, List.set_cons_succ, List.cons_append, List.nil_append, List.replicate, List.length_cons, List.length_nil, Bool.not_true, Bool.not_false, Bool.and_true, Bool.true_and, aZipTwo, aZip3, aZip2, aZ2, seqD, aEnum, aSrt, fIxN, fInN, fLenN, aSetN, aAsgN, aDNew, aMFd, aOfN, aLenSet, aIndex, aRg3d, aDisp1, aAsgNew, fMinT, fMaxT]
          exact ⟨by decide, _, rfl, hW⟩
        try dsimp only [fAll, isOl, isOd, fSum, aRet, aRetN, aAndV, aOrV, aNotV, aIsi, aVar, aC, aChain, aOp, aUn, aTest, aTru, truD, aAnd, aOr, aNot, aIf, aCons, aNil, aTup, aLst, imAll, aCB, resAll, res, aCall, bok, isOw, bos, svOf, back, aNext, aSeq, aIfS, aAsg, aAsgO, aName, aGTup, aGCons, aGNil, aDrop, aFrz, frz, aOfL, fI0, fI, fNeg, fPlus, fLen, fTuple, fInt, fAbs, fMax2, fMin2, fIsN, fNotN, fIsB, fNotB, isNonD, isT, aApp, aAug, aPop, aSetI, aPar, aPar3, aMIm, aMFr, svM, aList, aSl, aPart, aNoPart, aISeq, aRg1, aRg2, aYes, wipeA, mrg, noOw, still, retA, Option.map, List.map, List.getElem?_cons_zero, List.getElem?_cons_succ, List.set_cons_zero, List.set_cons_succ, List.cons_append, List.nil_append, List.replicate, List.length_cons, List.length_nil, Bool.not_true, Bool.not_false, Bool.and_true, Bool.true_and, aZipTwo, aZip3, aZip2, aZ2, seqD, aEnum, aSrt, fIxN, fInN, fLenN, aSetN, aAsgN, aDNew, aMFd, aOfN, aLenSet, aIndex, aRg3d, aDisp1, aAsgNew, fMinT, fMaxT]
        exact ⟨by rw [List.length_map, rgd_len]; omega, hN _ ⟨_, by rw [List.length_append, List.length_map, rgd_len]; omega, rfl, rfl⟩⟩
      · rw [if_neg (by rw [decide_eq_true_eq]; exact c1)]
        rw [if_neg c1] at hN
        exact hN _ ⟨acc3, by omega, List.append_nil _, rfl⟩
    obtain ⟨acc4, l4, e4, rfl⟩ := h
    rw [e4] at fin
    refine aSeq_cut (fun ρ' => ∃ acc5, acc4 ++ (if (k : Int) < E then (rgd (B - 1) k).map fun i => cD (i, k) else []) = acc5 ∧ ρ' = [.im (.int R), .im (.int C), .ow (.ol acc5), .im (.int k), .im (.int k), .im (.int B), .im (.int E), .un, .un]) (fun N hN => ?_) (fun ρ' h => ?_)
    · try dsimp only [fAll, isOl, isOd, fSum, aRet, aRetN, aAndV, aOrV, aNotV, aIsi, aVar, aC, aChain, aOp, aUn, aTest, aTru, truD, aAnd, aOr, aNot, aIf, aCons, aNil, aTup, aLst, imAll, aCB, resAll, res, aCall, bok, isOw, bos, svOf, back, aNext, aSeq, aIfS, aAsg, aAsgO, aName, aGTup, aGCons, aGNil, aDrop, aFrz, frz, aOfL, fI0, fI, fNeg, fPlus, fLen, fTuple, fInt, fAbs, fMax2, fMin2, fIsN, fNotN, fIsB, fNotB, isNonD, isT, aApp, aAug, aPop, aSetI, aPar, aPar3, aMIm, aMFr, svM, aList, aSl, aPart, aNoPart, aISeq, aRg1, aRg2, aYes, wipeA, mrg, noOw, still, retA, Option.map, List.map, List.getElem?_cons_zero, List.getElem?_cons_succ, List.set_cons_zero, List.set_cons_succ, List.cons_append, List.nil_append, List.replicate, List.length_cons, List.length_nil, Bool.not_true, Bool.not_false, Bool.and_true, Bool.true_and, aZipTwo, aZip3, aZip2, aZ2, seqD, aEnum, aSrt, fIxN, fInN, fLenN, aSetN, aAsgN, aDNew, aMFd, aOfN, aLenSet, aIndex, aRg3d, aDisp1, aAsgNew, fMinT, fMaxT]
      by_cases c1 : (k : Int) < E
      · rw [if_pos (by rw [decide_eq_true_eq]; exact c1)]
        rw [if_pos c1] at hN
        refine aLc_mapM (rgd (B - 1) k) D.int (fun i => cD (i, k)) (fun k' hk' => ?_) rfl (by rw [rgd_len]; omega) (fun j hj Wy hW => ?_) ?_
        · try dsimp only [fAll, isOl, isOd, fSum, aRet, aRetN, aAndV, aOrV, aNotV, aIsi, aVar, aC, aChain, aOp, aUn, aTest, aTru, truD, aAnd, aOr, aNot, aIf, aCons, aNil, aTup, aLst, imAll, aCB, resAll, res, aCall, bok, isOw, bos, svOf, back, aNext, aSeq, aIfS, aAsg, aAsgO, aName, aGTup, aGCons, aGNil, aDrop, aFrz, frz, aOfL, fI0, fI, fNeg, fPlus, fLen, fTuple, fInt, fAbs, fMax2, fMin2, fIsN, fNotN, fIsB, fNotB, isNonD, isT, aApp, aAug, aPop, aSetI, aPar, aPar3, aMIm, aMFr, svM, aList, aSl, aPart, aNoPart, aISeq, aRg1, aRg2, aYes, wipeA, mrg, noOw, still, retA, Option.map, List.map, List.getElem?_cons_zero, List.getElem?_cons_succ, List.set_cons_zero, List.set_cons_succ, List.cons_append, List.nil_append, List.replicate, List.length_cons, List.length_nil, Bool.not_true, Bool.not_false, Bool.and_true, Bool.true_and, aZipTwo, aZip3, aZip2, aZ2, seqD, aEnum, aSrt, fIxN, fInN, fLenN, aSetN, aAsgN, aDNew, aMFd, aOfN, aLenSet, aIndex, aRg3d, aDisp1, aAsgNew, fMinT, fMaxT]
          exact ⟨by decide, by omega, hk'⟩
        · try dsimp only [fAll, isOl, isOd, fSum, aRet, aRetN, aAndV, aOrV, aNotV, aIsi, aVar, aC, aChain, aOp, aUn, aTest, aTru, truD, aAnd, aOr, aNot, aIf, aCons, aNil, aTup, aLst, imAll, aCB, resAll, res, aCall, bok, isOw, bos, svOf, back, aNext, aSeq, aIfS, aAsg, aAsgO, aName, aGTup, aGCons, aGNil, aDrop, aFrz, frz, aOfL, fI0, fI, fNeg, fPlus, fLen, fTuple, fInt, fAbs, fMax2, fMin2, fIsN, fNotN, fIsB, fNotB, isNonD, isT, aApp, aAug, aPop, aSetI, aPar, aPar3, aMIm, aMFr, svM, aList, aSl, aPart, aNoPart, aISeq, aRg1, aRg2, aYes, wipeA, mrg, noOw, still, retA, Option.map, List.map, List.getElem?_cons_zero, List.getElem?_cons_succ, List.set_cons_zero, List.set_cons_succ, List.cons_append, List.nil_append, List.replicate, List.length_cons, List.length_nil, Bool.not_true, Bool.not_false, Bool.and_true, Bool.true_and, aZipTwo, aZip3, aZip2, aZ2, seqD, aEnum, aSrt, fIxN, fInN, fLenN, aSetN, aAsgN, aDNew, aMFd, aOfN, aLenSet, aIndex, aRg3d, aDisp1, aAsgNew, fMinT, fMaxT]
          exact ⟨by decide, _, rfl, hW⟩
        try dsimp only [fAll, isOl, isOd, fSum, aRet, aRetN, aAndV, aOrV, aNotV, aIsi, aVar, aC, aChain, aOp, aUn, aTest, aTru, truD, aAnd, aOr, aNot, aIf, aCons, aNil, aTup, aLst, imAll, aCB, resAll, res, aCall, bok, isOw, bos, svOf, back, aNext, aSeq, aIfS, aAsg, aAsgO, aName, aGTup, aGCons, aGNil, aDrop, aFrz, frz, aOfL, fI0, fI, fNeg, fPlus, fLen, fTuple, fInt, fAbs, fMax2, fMin2, fIsN, fNotN, fIsB, fNotB, isNonD, isT, aApp, aAug, aPop, aSetI, aPar, aPar3, aMIm, aMFr, svM, aList, aSl, aPart, aNoPart, aISeq, aRg1, aRg2, aYes, wipeA, mrg, noOw, still, retA, Option.map, List.map, List.getElem?_cons_zero, List.getElem?_cons_succ, List.set_cons_zero, List.set_cons_succ, List.cons_append, List.nil_append, List.replicate, List.length_cons, List.length_nil, Bool.not_true, Bool.not_false, Bool.and_true, Bool.true_and, aZipTwo, aZip3, aZip2, aZ2, seqD, aEnum, aSrt, fIxN, fInN, fLenN, aSetN, aAsgN, aDNew, aMFd, aOfN, aLenSet, aIndex, aRg3d, aDisp1, aAsgNew, fMinT, fMaxT]
        exact ⟨by rw [List.length_map, rgd_len]; omega, hN _ ⟨_, rfl, rfl⟩⟩
      · rw [if_neg (by rw [decide_eq_true_eq]; exact c1)]
        rw [if_neg c1] at hN
        exact hN _ ⟨_, List.append_nil _, rfl⟩
    obtain ⟨acc5, e5, rfl⟩ := h
    rw [e5] at fin
    try dsimp only [fAll, isOl, isOd, fSum, aRet, aRetN, aAndV, aOrV, aNotV, aIsi, aVar, aC, aChain, aOp, aUn, aTest, aTru, truD, aAnd, aOr, aNot, aIf, aCons, aNil, aTup, aLst, imAll, aCB, resAll, res, aCall, bok, isOw, bos, svOf, back, aNext, aSeq, aIfS, aAsg, aAsgO, aName, aGTup, aGCons, aGNil, aDrop, aFrz, frz, aOfL, fI0, fI, fNeg, fPlus, fLen, fTuple, fInt, fAbs, fMax2, fMin2, fIsN, fNotN, fIsB, fNotB, isNonD, isT, aApp, aAug, aPop, aSetI, aPar, aPar3, aMIm, aMFr, svM, aList, aSl, aPart, aNoPart, aISeq, aRg1, aRg2, aYes, wipeA, mrg, noOw, still, retA, Option.map, List.map, List.getElem?_cons_zero, List.getElem?_cons_succ, List.set_cons_zero, List.set_cons_succ, List.cons_append, List.nil_append, List.replicate, List.length_cons, List.length_nil, Bool.not_true, Bool.not_false, Bool.and_true, Bool.true_and, aZipTwo, aZip3, aZip2, aZ2, seqD, aEnum, aSrt, fIxN, fInN, fLenN, aSetN, aAsgN, aDNew, aMFd, aOfN, aLenSet, aIndex, aRg3d, aDisp1, aAsgNew, fMinT, fMaxT]
    exact ⟨by decide, rfl, rfl, fin _ rfl⟩
  obtain ⟨s3, s4, s5, s6, rfl⟩ := h
  try dsimp only [fAll, isOl, isOd, fSum, aRet, aRetN, aAndV, aOrV, aNotV, aIsi, aVar, aC, aChain, aOp, aUn, aTest, aTru, truD, aAnd, aOr, aNot, aIf, aCons, aNil, aTup, aLst, imAll, aCB, resAll, res, aCall, bok, isOw, bos, svOf, back, aNext, aSeq, aIfS, aAsg, aAsgO, aName, aGTup, aGCons, aGNil, aDrop, aFrz, frz, aOfL, fI0, fI, fNeg, fPlus, fLen, fTuple, fInt, fAbs, fMax2, fMin2, fIsN, fNotN, fIsB, fNotB, isNonD, isT, aApp, aAug, aPop, aSetI, aPar, aPar3, aMIm, aMFr, svM, aList, aSl, aPart, aNoPart, aISeq, aRg1, aRg2, aYes, wipeA, mrg, noOw, still, retA, Option.map, List.map, List.getElem?_cons_zero, List.getElem?_cons_succ, List.set_cons_zero, List.set_cons_succ, List.cons_append, List.nil_append, List.replicate, List.length_cons, List.length_nil, Bool.not_true, Bool.not_false, Bool.and_true, Bool.true_and, aZipTwo, aZip3, aZip2, aZ2, seqD, aEnum, aSrt, fIxN, fInN, fLenN, aSetN, aAsgN, aDNew, aMFd, aOfN, aLenSet, aIndex, aRg3d, aDisp1, aAsgNew, fMinT, fMaxT]
  exact ⟨rfl, hk⟩
end
end K89

namespace K89
open PySem PySem.Spec L2 DL
open PyProof.Rows hiding St
section
variable {P : Program} {w : World} {K : PySem.W.Frag} {mg : Str → Option Value} {base : Heap}
def afRowKey : AF := fun ρ k => ∃ c, ρ = [.im (cD c)] ∧ k (cD c) ρ
theorem ok_row_key (h : Here K mg "row_key" sRowKey ["cell"]) : Df P w K mg base 1 "row_key" afRowKey := by
  refine df_ok h scRowKey [] (fun ρ kk h => by obtain ⟨_, rfl, _⟩ := h; rfl) (fun f cdv A outer s H E hr => ⟨_, _, _, (gss_one (gs_ret (gv 0))), fun ρ kk h => ?_⟩)
  obtain ⟨c, rfl, hk⟩ := h
  refine ⟨rfl, ?_⟩
  try dsimp only [fAll, isOl, isOd, fSum, aRet, aRetN, aAndV, aOrV, aNotV, aIsi, aVar, aC, aChain, aOp, aUn, aTest, aTru, truD, aAnd, aOr, aNot, aIf, aCons, aNil, aTup, aLst, imAll, aCB, resAll, res, aCall, bok, isOw, bos, svOf, back, aNext, aSeq, aIfS, aAsg, aAsgO, aName, aGTup, aGCons, aGNil, aDrop, aFrz, frz, aOfL, fI0, fI, fNeg, fPlus, fLen, fTuple, fInt, fAbs, fMax2, fMin2, fIsN, fNotN, fIsB, fNotB, isNonD, isT, aApp, aAug, aPop, aSetI, aPar, aPar3, aMIm, aMFr, svM, aList, aSl, aPart, aNoPart, aISeq, aRg1, aRg2, aYes, wipeA, mrg, noOw, still, retA, Option.map, List.map, List.getElem?_cons_zero, List.getElem?_cons_succ, List.set_cons_zero, List.set_cons_succ, List.cons_append, List.nil_append, List.replicate, List.length_cons, List.length_nil, Bool.not_true, Bool.not_false, Bool.and_true, Bool.true_and, aZipTwo, aZip3, aZip2, aZ2, seqD, aEnum, aSrt, fIxN, fInN, fLenN, aSetN, aAsgN, aDNew, aMFd, aOfN, aLenSet, aIndex, aRg3d, aDisp1, aAsgNew, fMinT, fMaxT]
  exact ⟨rfl, hk⟩
def snk (c : Cl) : Cl := (c.1, if c.1 / 2 * 2 = c.1 then c.2 else -c.2)
def dia (c : Cl) : Cl := (c.1 + c.2, -c.1)
def afSnakeKey : AF := fun ρ k => ∃ c, ρ = [.im (cD c)] ∧ okC c = true ∧ k (cD (snk c)) ρ
theorem ok_snake_key (h : Here K mg "snake_key" sSnakeKey ["cell"]) : Df P w K mg base 1 "snake_key" afSnakeKey := by
  refine df_ok h scSnakeKey [.un, .un] (fun ρ kk h => by obtain ⟨_, rfl, _⟩ := h; rfl) (fun f cdv A outer s H E hr => ⟨_, _, _, (gss_cons (gs_asg (gv 0) (gg_tupK (K := K) (n := 2) rfl (ggs_cons (gg_name scSnakeKey.nd (i := 1)) (ggs_cons (gg_name scSnakeKey.nd (i := 2)) ggs_nil))))
      (gss_one (gs_ret (ge_tup (ga_cons (gv 1) (ga_cons (ge_if (gt_eq (K := K) hr.units (ge_op op_mul lk_mul (ge_op op_fdivW lk_fdivW (gv 1) ge_int) ge_int) (gv 1) (nomark _)) (gv 2) (ge_un un_neg lk_neg (gv 2))) ga_nil)))))), fun ρ kk h => ?_⟩)
  obtain ⟨c, rfl, hb, hk⟩ := h
  have hb' := okC_iff.mp hb
  refine ⟨rfl, ?_⟩
  unfold snk at hk
  unfold cD at hk ⊢
  try dsimp only [fAll, isOl, isOd, fSum, aRet, aRetN, aAndV, aOrV, aNotV, aIsi, aVar, aC, aChain, aOp, aUn, aTest, aTru, truD, aAnd, aOr, aNot, aIf, aCons, aNil, aTup, aLst, imAll, aCB, resAll, res, aCall, bok, isOw, bos, svOf, back, aNext, aSeq, aIfS, aAsg, aAsgO, aName, aGTup, aGCons, aGNil, aDrop, aFrz, frz, aOfL, fI0, fI, fNeg, fPlus, fLen, fTuple, fInt, fAbs, fMax2, fMin2, fIsN, fNotN, fIsB, fNotB, isNonD, isT, aApp, aAug, aPop, aSetI, aPar, aPar3, aMIm, aMFr, svM, aList, aSl, aPart, aNoPart, aISeq, aRg1, aRg2, aYes, wipeA, mrg, noOw, still, retA, Option.map, List.map, List.getElem?_cons_zero, List.getElem?_cons_succ, List.set_cons_zero, List.set_cons_succ, List.cons_append, List.nil_append, List.replicate, List.length_cons, List.length_nil, Bool.not_true, Bool.not_false, Bool.and_true, Bool.true_and, aZipTwo, aZip3, aZip2, aZ2, seqD, aEnum, aSrt, fIxN, fInN, fLenN, aSetN, aAsgN, aDNew, aMFd, aOfN, aLenSet, aIndex, aRg3d, aDisp1, aAsgNew, fMinT, fMaxT]
  refine ⟨rfl, rfl, ⟨by decide, by decide +kernel⟩, .inl ⟨by omega, by omega⟩, rfl, rfl, ?_⟩
  rw [eqv_int]
  by_cases e : c.1 / 2 * 2 = c.1
  · rw [if_pos e] at hk
    rw [e, beq_self_eq_true]
    exact ⟨by decide, rfl, hk⟩
  · rw [if_neg e] at hk
    rw [show (c.1 / 2 * 2 == c.1) = false from beq_eq_false_iff_ne.mpr e]
    exact ⟨by decide, rfl, hk⟩
def afDiagKey : AF := fun ρ k => ∃ c, ρ = [.im (cD c)] ∧ k (cD (dia c)) ρ
theorem ok_diagonal_key (h : Here K mg "diagonal_key" sDiagonalKey ["cell"]) : Df P w K mg base 1 "diagonal_key" afDiagKey := by
  refine df_ok h scDiagonalKey [] (fun ρ kk h => by obtain ⟨_, rfl, _⟩ := h; rfl) (fun f cdv A outer s H E hr => ⟨_, _, _, (gss_one (gs_ret (ge_tup (ga_cons (ge_plus (K := K) (ge_ixK (K := K) (gv 0) ge_int) (ge_ixK (K := K) (gv 0) ge_int)) (ga_cons (ge_un un_neg lk_neg (ge_ixK (K := K) (gv 0) ge_int)) ga_nil))))), fun ρ kk h => ?_⟩)
  obtain ⟨c, rfl, hk⟩ := h
  refine ⟨rfl, ?_⟩
  unfold dia at hk
  unfold cD at hk ⊢
  try dsimp only [fAll, isOl, isOd, fSum, aRet, aRetN, aAndV, aOrV, aNotV, aIsi, aVar, aC, aChain, aOp, aUn, aTest, aTru, truD, aAnd, aOr, aNot, aIf, aCons, aNil, aTup, aLst, imAll, aCB, resAll, res, aCall, bok, isOw, bos, svOf, back, aNext, aSeq, aIfS, aAsg, aAsgO, aName, aGTup, aGCons, aGNil, aDrop, aFrz, frz, aOfL, fI0, fI, fNeg, fPlus, fLen, fTuple, fInt, fAbs, fMax2, fMin2, fIsN, fNotN, fIsB, fNotB, isNonD, isT, aApp, aAug, aPop, aSetI, aPar, aPar3, aMIm, aMFr, svM, aList, aSl, aPart, aNoPart, aISeq, aRg1, aRg2, aYes, wipeA, mrg, noOw, still, retA, Option.map, List.map, List.getElem?_cons_zero, List.getElem?_cons_succ, List.set_cons_zero, List.set_cons_succ, List.cons_append, List.nil_append, List.replicate, List.length_cons, List.length_nil, Bool.not_true, Bool.not_false, Bool.and_true, Bool.true_and, aZipTwo, aZip3, aZip2, aZ2, seqD, aEnum, aSrt, fIxN, fInN, fLenN, aSetN, aAsgN, aDNew, aMFd, aOfN, aLenSet, aIndex, aRg3d, aDisp1, aAsgNew, fMinT, fMaxT]
  refine ⟨_, rfl, _, rfl, ?_⟩
  try dsimp only [fAll, isOl, isOd, fSum, aRet, aRetN, aAndV, aOrV, aNotV, aIsi, aVar, aC, aChain, aOp, aUn, aTest, aTru, truD, aAnd, aOr, aNot, aIf, aCons, aNil, aTup, aLst, imAll, aCB, resAll, res, aCall, bok, isOw, bos, svOf, back, aNext, aSeq, aIfS, aAsg, aAsgO, aName, aGTup, aGCons, aGNil, aDrop, aFrz, frz, aOfL, fI0, fI, fNeg, fPlus, fLen, fTuple, fInt, fAbs, fMax2, fMin2, fIsN, fNotN, fIsB, fNotB, isNonD, isT, aApp, aAug, aPop, aSetI, aPar, aPar3, aMIm, aMFr, svM, aList, aSl, aPart, aNoPart, aISeq, aRg1, aRg2, aYes, wipeA, mrg, noOw, still, retA, Option.map, List.map, List.getElem?_cons_zero, List.getElem?_cons_succ, List.set_cons_zero, List.set_cons_succ, List.cons_append, List.nil_append, List.replicate, List.length_cons, List.length_nil, Bool.not_true, Bool.not_false, Bool.and_true, Bool.true_and, aZipTwo, aZip3, aZip2, aZ2, seqD, aEnum, aSrt, fIxN, fInN, fLenN, aSetN, aAsgN, aDNew, aMFd, aOfN, aLenSet, aIndex, aRg3d, aDisp1, aAsgNew, fMinT, fMaxT]
  refine ⟨_, rfl, ?_⟩
  try dsimp only [fAll, isOl, isOd, fSum, aRet, aRetN, aAndV, aOrV, aNotV, aIsi, aVar, aC, aChain, aOp, aUn, aTest, aTru, truD, aAnd, aOr, aNot, aIf, aCons, aNil, aTup, aLst, imAll, aCB, resAll, res, aCall, bok, isOw, bos, svOf, back, aNext, aSeq, aIfS, aAsg, aAsgO, aName, aGTup, aGCons, aGNil, aDrop, aFrz, frz, aOfL, fI0, fI, fNeg, fPlus, fLen, fTuple, fInt, fAbs, fMax2, fMin2, fIsN, fNotN, fIsB, fNotB, isNonD, isT, aApp, aAug, aPop, aSetI, aPar, aPar3, aMIm, aMFr, svM, aList, aSl, aPart, aNoPart, aISeq, aRg1, aRg2, aYes, wipeA, mrg, noOw, still, retA, Option.map, List.map, List.getElem?_cons_zero, List.getElem?_cons_succ, List.set_cons_zero, List.set_cons_succ, List.cons_append, List.nil_append, List.replicate, List.length_cons, List.length_nil, Bool.not_true, Bool.not_false, Bool.and_true, Bool.true_and, aZipTwo, aZip3, aZip2, aZ2, seqD, aEnum, aSrt, fIxN, fInN, fLenN, aSetN, aAsgN, aDNew, aMFd, aOfN, aLenSet, aIndex, aRg3d, aDisp1, aAsgNew, fMinT, fMaxT]
  exact ⟨by decide, rfl, hk⟩

/-! the sorting -/
def lex (x y : Cl → Int) (p q : Cl) : Bool := decide (x p < x q ∨ (x p = x q ∧ y p ≤ y q))
theorem srtBy_cells {g : D → D} (x y : Cl → Int) (hg : ∀ c, toP (g (cD c)) = .tuple [.int (x c), .int (y c)]) (l : List Cl) : srtBy g (csD l) = csD (l.mergeSort (lex x y)) := by
  unfold srtBy csD
  have e : ∀ a b : Cl, lex x y a b = PySem.W.dataLe false (fun d => toP (g d)) (cD a) (cD b) := fun a b => by
    have h1 := congrFun (congrFun (PySem.W.dataLe_ii x y) a) b
    have h2 : PySem.W.dataLe false (fun d => toP (g d)) (cD a) (cD b) = PySem.W.dataLe false (fun c : Cl => toP (g (cD c))) a b := rfl
    rw [h2, show (fun c : Cl => toP (g (cD c))) = fun c => PyData.tuple [.int (x c), .int (y c)] from funext hg, h1]
    rfl
  exact (List.map_mergeSort (f := cD) fun a _ b _ => e a b).symm
theorem pairs_ok {g : D → D} (x y : Cl → Int) (hg : ∀ c, g (cD c) = .tup [.int (x c), .int (y c)]) (l : List Cl) (hl : l.length ≤ 1000000) : srtByOk g (csD l) := by
  have e : (csD l).map g = l.map fun c => D.tup [.int (x c), .int (y c)] := by
    unfold csD
    rw [List.map_map]
    exact List.map_congr_left fun c _ => hg c
  have m : ∀ d ∈ ((csD l).map g).map toP, ∃ c, d = .tuple [.int (x c), .int (y c)] := fun d hd => by
    rw [e, List.map_map] at hd
    obtain ⟨c, _, rfl⟩ := List.mem_map.mp hd
    exact ⟨c, rfl⟩
  refine ⟨?_, fun d hd d' hd' => ?_, .inl fun d hd => ?_, by unfold csD; rw [List.length_map]; exact hl, ?_⟩
  · rw [e]
    clear e m hl
    induction l with
    | nil => rfl
    | cons c l ih => rw [List.map_cons]; unfold plains; rw [ih]; rfl
  · obtain ⟨c, rfl⟩ := m d hd
    obtain ⟨c', rfl⟩ := m d' hd'
    rfl
  · obtain ⟨c, rfl⟩ := m d hd
    exact ⟨_, _, rfl⟩
  · rw [e]
    clear e m hl
    induction l with
    | nil => exact Nat.zero_le _
    | cons c l ih => rw [List.map_cons]; unfold deeps; exact Nat.max_le.mpr ⟨by show 1 ≤ 16; decide, ih⟩
def keyG (x : Str) : D → D
  | .tup [.int r, .int c] => if x = "rows" then .tup [.int r, .int c] else if x = "snake" then cD (snk (r, c)) else cD (dia (r, c))
  | d => d
def keyX (x : Str) (c : Cl) : Cl := if x = "rows" then c else if x = "snake" then snk c else dia c
theorem keyG_cD (x : Str) (c : Cl) : keyG x (cD c) = cD (keyX x c) := by
  unfold keyX
  show (if x = "rows" then _ else if x = "snake" then _ else _) = _
  by_cases h1 : x = "rows"
  · rw [if_pos h1, if_pos h1]; rfl
  · rw [if_neg h1, if_neg h1]
    by_cases h2 : x = "snake"
    · rw [if_pos h2, if_pos h2]
    · rw [if_neg h2, if_neg h2]
theorem keyX_r (c : Cl) : keyX "rows" c = c := by unfold keyX; rw [if_pos rfl]
theorem keyX_s (c : Cl) : keyX "snake" c = snk c := by unfold keyX; rw [if_neg (by decide), if_pos rfl]
theorem keyX_d (c : Cl) : keyX "diagonals" c = dia c := by unfold keyX; rw [if_neg (by decide), if_neg (by decide)]
def ordC (x : Str) (r c : Int) : List Cl := (boxC r c).mergeSort (lex (fun p => (keyX x p).1) fun p => (keyX x p).2)
theorem boxC_len (r c : Int) : (boxC r c).length = r.toNat * c.toNat := by
  unfold boxC
  rw [boxp_len, rgI_len, Int.sub_zero]
theorem boxC_mem {r c : Int} {p : Cl} : p ∈ boxC r c ↔ (0 ≤ p.1 ∧ p.1 < r) ∧ 0 ≤ p.2 ∧ p.2 < c := by
  unfold boxC
  rw [List.mem_flatMap]
  constructor
  · rintro ⟨i, hi, hp⟩
    obtain ⟨j, hj, rfl⟩ := List.mem_map.mp hp
    exact ⟨rgI_mem.mp hi, rgI_mem.mp hj⟩
  · rintro ⟨h1, h2⟩
    exact ⟨p.1, rgI_mem.mpr h1, List.mem_map.mpr ⟨p.2, rgI_mem.mpr h2, rfl⟩⟩
def ordX (x : Str) (r c : Int) : List Cl := if x = "spiral" then spiralC r c else ordC x r c
def afOrderIn : AF := fun ρ k => ∃ x r c, ρ = [.im (.str x), .im (.int r), .im (.int c)] ∧ x ∈ KINDS ∧ (1 ≤ r ∧ r ≤ 60 ∧ 1 ≤ c ∧ c ≤ 60 ∧ r * c ≤ 400) ∧ k (.lst (csD (ordX x r c))) ρ
theorem ok_order_in (Bn : Bt mg) (h : Here K mg "order_in" sOrderIn ["kind", "rows", "columns"]) (d1 : Df P w K mg base 1 "row_key" afRowKey) (d2 : Df P w K mg base 1 "snake_key" afSnakeKey) (d3 : Df P w K mg base 1 "diagonal_key" afDiagKey) (d_box_cells : Df P w K mg base 1 "box_cells" afBoxCells) (d_spiral_in : Df P w K mg base 1 "spiral_in" afSpiralIn) : Df P w K mg base 4 "order_in" afOrderIn := by
  refine df_ok h scOrderIn [.un] (fun ρ kk h => by obtain ⟨_, _, _, rfl, _⟩ := h; rfl) (fun f cdv A outer s H E hr => ?_)
  obtain ⟨t, hk⟩ := gss_keyed3F (x1 := "rows") (x2 := "snake") (x3 := "diagonals") (X := (cxOf CX0 P w K mg base ["kind", "rows", "columns", "keys"] "order_in" (defScope sOrderIn) f cdv A outer s H E).nox) (K := K) (W := W0) (j := 3) (i := 0) keyG d1 d2 d3 (r := 1) hr (ga_cons (ge_dfK d_box_cells hr (ga_cons (gv 1) (ga_cons (gv 2) ga_nil))) ga_nil) scOrderIn.nd Bn
  refine ⟨_, _, _, gss_cons (gs_if (gt_eq (K := K) hr.units (gv 0) ge_str (nomark _)) (gss_one (gs_ret (ge_dfK d_spiral_in hr (ga_cons (gv 1) (ga_cons (gv 2) ga_nil))))) gss_nil) hk, fun ρ kk h => ?_⟩
  obtain ⟨x, r, c, rfl, hx, hb, hk⟩ := h
  refine ⟨rfl, ?_⟩
  try dsimp only [fAll, isOl, isOd, fSum, aRet, aRetN, aAndV, aOrV, aNotV, aIsi, aVar, aC, aChain, aOp, aUn, aTest, aTru, truD, aAnd, aOr, aNot, aIf, aCons, aNil, aTup, aLst, imAll, aCB, resAll, res, aCall, bok, isOw, bos, svOf, back, aNext, aSeq, aIfS, aAsg, aAsgO, aName, aGTup, aGCons, aGNil, aDrop, aFrz, frz, aOfL, fI0, fI, fNeg, fPlus, fLen, fTuple, fInt, fAbs, fMax2, fMin2, fIsN, fNotN, fIsB, fNotB, isNonD, isT, aApp, aAug, aPop, aSetI, aPar, aPar3, aMIm, aMFr, svM, aList, aSl, aPart, aNoPart, aISeq, aRg1, aRg2, aYes, wipeA, mrg, noOw, still, retA, Option.map, List.map, List.getElem?_cons_zero, List.getElem?_cons_succ, List.set_cons_zero, List.set_cons_succ, List.cons_append, List.nil_append, List.replicate, List.length_cons, List.length_nil, Bool.not_true, Bool.not_false, Bool.and_true, Bool.true_and, aZipTwo, aZip3, aZip2, aZ2, seqD, aEnum, aSrt, fIxN, fInN, fLenN, aSetN, aAsgN, aDNew, aMFd, aOfN, aLenSet, aIndex, aRg3d, aDisp1, aAsgNew, fMinT, fMaxT]
  have hx0 : x = "rows" ∨ x = "snake" ∨ x = "diagonals" ∨ x = "spiral" := by
    unfold KINDS at hx
    simpa only [List.mem_cons, List.not_mem_nil, or_false] using hx
  by_cases hsp : x = "spiral"
  · subst hsp
    refine ⟨by decide +kernel, by decide +kernel, ?_⟩
    rw [show eqv (.str "spiral") (.str "spiral") = true by decide +kernel]
    try dsimp only [fAll, isOl, isOd, fSum, aRet, aRetN, aAndV, aOrV, aNotV, aIsi, aVar, aC, aChain, aOp, aUn, aTest, aTru, truD, aAnd, aOr, aNot, aIf, aCons, aNil, aTup, aLst, imAll, aCB, resAll, res, aCall, bok, isOw, bos, svOf, back, aNext, aSeq, aIfS, aAsg, aAsgO, aName, aGTup, aGCons, aGNil, aDrop, aFrz, frz, aOfL, fI0, fI, fNeg, fPlus, fLen, fTuple, fInt, fAbs, fMax2, fMin2, fIsN, fNotN, fIsB, fNotB, isNonD, isT, aApp, aAug, aPop, aSetI, aPar, aPar3, aMIm, aMFr, svM, aList, aSl, aPart, aNoPart, aISeq, aRg1, aRg2, aYes, wipeA, mrg, noOw, still, retA, Option.map, List.map, List.getElem?_cons_zero, List.getElem?_cons_succ, List.set_cons_zero, List.set_cons_succ, List.cons_append, List.nil_append, List.replicate, List.length_cons, List.length_nil, Bool.not_true, Bool.not_false, Bool.and_true, Bool.true_and, aZipTwo, aZip3, aZip2, aZ2, seqD, aEnum, aSrt, fIxN, fInN, fLenN, aSetN, aAsgN, aDNew, aMFd, aOfN, aLenSet, aIndex, aRg3d, aDisp1, aAsgNew, fMinT, fMaxT]
    unfold ordX at hk
    rw [if_pos rfl] at hk ⊢
    exact ⟨rfl, r, c, rfl, by omega, rfl, hk⟩
  have hx : x = "rows" ∨ x = "snake" ∨ x = "diagonals" := by
    rcases hx0 with h | h | h | h
    · exact .inl h
    · exact .inr (.inl h)
    · exact .inr (.inr h)
    · exact (hsp h).elim
  unfold ordX at hk
  rw [if_neg hsp] at hk
  have hx' : shp (.str x) = true ∧ eqv (.str x) (.str "spiral") = false := by
    rcases hx with rfl | rfl | rfl <;> exact ⟨by decide +kernel, by decide +kernel⟩
  refine ⟨hx'.1, by decide +kernel, ?_⟩
  rw [hx'.2]
  try dsimp only [fAll, isOl, isOd, fSum, aRet, aRetN, aAndV, aOrV, aNotV, aIsi, aVar, aC, aChain, aOp, aUn, aTest, aTru, truD, aAnd, aOr, aNot, aIf, aCons, aNil, aTup, aLst, imAll, aCB, resAll, res, aCall, bok, isOw, bos, svOf, back, aNext, aSeq, aIfS, aAsg, aAsgO, aName, aGTup, aGCons, aGNil, aDrop, aFrz, frz, aOfL, fI0, fI, fNeg, fPlus, fLen, fTuple, fInt, fAbs, fMax2, fMin2, fIsN, fNotN, fIsB, fNotB, isNonD, isT, aApp, aAug, aPop, aSetI, aPar, aPar3, aMIm, aMFr, svM, aList, aSl, aPart, aNoPart, aISeq, aRg1, aRg2, aYes, wipeA, mrg, noOw, still, retA, Option.map, List.map, List.getElem?_cons_zero, List.getElem?_cons_succ, List.set_cons_zero, List.set_cons_succ, List.cons_append, List.nil_append, List.replicate, List.length_cons, List.length_nil, Bool.not_true, Bool.not_false, Bool.and_true, Bool.true_and, aZipTwo, aZip3, aZip2, aZ2, seqD, aEnum, aSrt, fIxN, fInN, fLenN, aSetN, aAsgN, aDNew, aMFd, aOfN, aLenSet, aIndex, aRg3d, aDisp1, aAsgNew, fMinT, fMaxT]
  rw [if_neg (by decide)]
  have hbl : (boxC r c).length ≤ 3600 := by
    rw [boxC_len]
    exact Nat.le_trans (Nat.mul_le_mul (show r.toNat ≤ 60 by omega) (show c.toNat ≤ 60 by omega)) (by decide)
  have hok := pairs_ok (g := keyG x) (fun p => (keyX x p).1) (fun p => (keyX x p).2) (keyG_cD x) (boxC r c) (by omega)
  have hsr := srtBy_cells (g := keyG x) (fun p => (keyX x p).1) (fun p => (keyX x p).2) (fun p => by rw [keyG_cD]; rfl) (boxC r c)
  have okm : ∀ p ∈ boxC r c, okC p = true := fun p hp => by
    have := boxC_mem.mp hp
    exact okC_iff.mpr (by omega)
  have fin : ∀ af : AF, (∀ d ∈ csD (boxC r c), af [.im d] fun r _ => r = keyG x d) → aCons (aCall afBoxCells (aCons (aVar 1) (aCons (aVar 2) aNil))) aNil ([.im (.str x), .im (.int r), .im (.int c), .un].set 3 .un) (fun as ρ2 => match resAll ρ2 as with
      | some [.lst ds] => (∀ d ∈ ds, af [.im d] fun r _ => r = keyG x d) ∧ srtByOk (keyG x) ds ∧ (still [.im (.str x), .im (.int r), .im (.int c)] ρ2 = true ∧ kk (.lst (srtBy (keyG x) ds)) (retA [.im (.str x), .im (.int r), .im (.int c)] ρ2))
      | _ => False) := fun af haf => by
    try dsimp only [fAll, isOl, isOd, fSum, aRet, aRetN, aAndV, aOrV, aNotV, aIsi, aVar, aC, aChain, aOp, aUn, aTest, aTru, truD, aAnd, aOr, aNot, aIf, aCons, aNil, aTup, aLst, imAll, aCB, resAll, res, aCall, bok, isOw, bos, svOf, back, aNext, aSeq, aIfS, aAsg, aAsgO, aName, aGTup, aGCons, aGNil, aDrop, aFrz, frz, aOfL, fI0, fI, fNeg, fPlus, fLen, fTuple, fInt, fAbs, fMax2, fMin2, fIsN, fNotN, fIsB, fNotB, isNonD, isT, aApp, aAug, aPop, aSetI, aPar, aPar3, aMIm, aMFr, svM, aList, aSl, aPart, aNoPart, aISeq, aRg1, aRg2, aYes, wipeA, mrg, noOw, still, retA, Option.map, List.map, List.getElem?_cons_zero, List.getElem?_cons_succ, List.set_cons_zero, List.set_cons_succ, List.cons_append, List.nil_append, List.replicate, List.length_cons, List.length_nil, Bool.not_true, Bool.not_false, Bool.and_true, Bool.true_and, aZipTwo, aZip3, aZip2, aZ2, seqD, aEnum, aSrt, fIxN, fInN, fLenN, aSetN, aAsgN, aDNew, aMFd, aOfN, aLenSet, aIndex, aRg3d, aDisp1, aAsgNew, fMinT, fMaxT]
    refine ⟨rfl, r, c, rfl, by omega, ?_⟩
    refine ⟨haf, hok, rfl, ?_⟩
    rw [hsr]
    exact hk
  unfold aKeyedF
  rcases hx with rfl | rfl | rfl
  · refine ⟨rfl, by show 3 < 4; decide, _, afRowKey, rfl, by decide, rfl, fin afRowKey fun d hd => ?_⟩
    obtain ⟨p, hp, rfl⟩ := List.mem_map.mp hd
    exact ⟨p, rfl, show cD p = _ by rw [keyG_cD, keyX_r]⟩
  · refine ⟨rfl, by show 3 < 4; decide, _, afSnakeKey, rfl, by decide, rfl, fin afSnakeKey fun d hd => ?_⟩
    obtain ⟨p, hp, rfl⟩ := List.mem_map.mp hd
    exact ⟨p, rfl, okm p hp, show cD (snk p) = _ by rw [keyG_cD, keyX_s]⟩
  · refine ⟨rfl, by show 3 < 4; decide, _, afDiagKey, rfl, by decide, rfl, fin afDiagKey fun d hd => ?_⟩
    obtain ⟨p, hp, rfl⟩ := List.mem_map.mp hd
    exact ⟨p, rfl, show cD (dia p) = _ by rw [keyG_cD, keyX_d]⟩
end
end K89

namespace K89
open PySem PySem.Spec L2 DL
open PyProof.Rows hiding St

/-! ### plain -/
def pairs (cs : List Cl) : List (Cl × Cl) := cs.zip (cs.drop 1)
def ppD (p : Cl × Cl) : D := .tup [cD p.1, cD p.2]
theorem zip2_csD : ∀ (cs ds : List Cl), zip2D (csD cs) (csD ds) = (cs.zip ds).map ppD
  | [], _ => by unfold csD; rw [List.map_nil, List.zip_nil_left]; unfold zip2D; rfl
  | c :: cs, [] => by unfold csD; rw [List.map_nil, List.zip_nil_right, List.map_cons]; unfold zip2D; rfl
  | c :: cs, d :: ds => by
    have ih := zip2_csD cs ds
    unfold csD at ih ⊢
    rw [List.map_cons, List.map_cons, List.zip_cons_cons, List.map_cons]
    unfold zip2D
    rw [ih]
    rfl
theorem cut1 (xs : List D) : DL.cutD xs (some 1) none = xs.drop 1 := by
  unfold DL.cutD
  rw [HT.sIx_none, show HT.sIx xs.length 0 (some 1) = min 1 xs.length from HT.sIx_nat xs.length 0 1]
  cases xs with
  | nil => rfl
  | cons x xs =>
    rw [show min 1 (x :: xs).length = 1 by rw [List.length_cons]; omega]
    exact List.take_of_length_le (by rw [List.length_drop]; omega)
theorem pairs_ok2 {cs : List Cl} (h : ∀ c ∈ cs, okC c = true) : ∀ p ∈ pairs cs, okC p.1 = true ∧ okC p.2 = true := fun p hp => by
  unfold pairs at hp
  exact ⟨h _ (List.of_mem_zip hp).1, h _ (List.mem_of_mem_drop (List.of_mem_zip hp).2)⟩
theorem pairs_len (cs : List Cl) : (pairs cs).length ≤ cs.length := by
  unfold pairs
  rw [List.length_zip]
  exact Nat.min_le_left _ _
def leaps (cs : List Cl) : List Int := (pairs cs).map (fun p => stp p.1 p.2) ++ [0]
theorem intsD_map {α : Type} (f : α → Int) : ∀ l : List α, intsD (l.map fun x => D.int (f x)) = some (l.map f)
  | [] => rfl
  | x :: l => by
    rw [List.map_cons, List.map_cons]
    unfold intsD
    rw [intsD_map f l]
    rfl
theorem plains_csD : ∀ l : List Cl, plains (csD l) = true ∧ deeps (csD l) ≤ 1
  | [] => ⟨rfl, Nat.zero_le _⟩
  | c :: l => by
    obtain ⟨h1, h2⟩ := plains_csD l
    unfold csD at h1 h2 ⊢
    rw [List.map_cons]
    unfold plains deeps
    exact ⟨by rw [h1]; rfl, Nat.max_le.mpr ⟨Nat.le_refl 1, h2⟩⟩
theorem shp_csD (l : List Cl) : shp (.lst (csD l)) = true := by
  obtain ⟨h1, h2⟩ := plains_csD l
  unfold shp
  simp only [Bool.and_eq_true, decide_eq_true_eq]
  unfold DL.plain deep
  exact ⟨h1, by omega⟩
theorem eqv_cD (p q : Cl) : eqv (cD p) (cD q) = (p == q) := by
  simp only [cD, eqv, eqvs, Bool.and_true]
  rfl
theorem csD_len (l : List Cl) : (csD l).length = l.length := List.length_map ..
section
variable {P : Program} {w : World} {K : PySem.W.Frag} {mg : Str → Option Value} {base : Heap}
def afPlace : AF := fun ρ k => ∃ x r c p, ∃ j : Nat, ρ = [.im (.str x), .im (.int r), .im (.int c), .im (cD p)] ∧ x ∈ KINDS ∧ (1 ≤ r ∧ r ≤ 60 ∧ 1 ≤ c ∧ c ≤ 60 ∧ r * c ≤ 400) ∧ (0 ≤ p.1 ∧ p.1 < r ∧ 0 ≤ p.2 ∧ p.2 < c) ∧ (ordX x r c)[j]? = some p ∧ (∀ m, m < j → (ordX x r c)[m]? ≠ some p) ∧ k (.int j) ρ
theorem ok_place_in_box (h : Here K mg "place_in_box" sPlaceInBox ["kind", "rows", "columns", "cell"]) (d_need_box : Df P w K mg base 2 "need_box" afNeedBox) (d_fits_cell : Df P w K mg base 2 "fits_cell" afFitsCell) (d_order_in : Df P w K mg base 4 "order_in" afOrderIn) : Df P w K mg base 5 "place_in_box" afPlace := by
  refine df_ok h scPlaceInBox [] (fun ρ kk h => by obtain ⟨_, _, _, _, _, rfl, _⟩ := h; rfl) (fun f cdv A outer s H E hr => ⟨_, _, _, (gss_cons (gs_expr (ge_dfK d_need_box hr (ga_cons (gv 0) (ga_cons (gv 1) (ga_cons (gv 2) ga_nil)))))
      (gss_cons (gs_if (GW.gt (gw_or (gt_not (gt_truthK (K := K) (ge_dfK d_fits_cell hr (ga_cons (gv 3) ga_nil)))) (gw_or (gt_cmp op_ge lk_ge (ge_ixK (K := K) (gv 3) ge_int) (gv 1) (nomark _)) (gw_or1 (gt_cmp op_ge lk_ge (ge_ixK (K := K) (gv 3) ge_int) (gv 2) (nomark _)))))) (gss_one gs_never) gss_nil)
      (gss_one (gs_ret (ge_index (K := K) rfl (hu65 hr) (ge_dfK d_order_in hr (ga_cons (gv 0) (ga_cons (gv 1) (ga_cons (gv 2) ga_nil)))) (gv 3)))))), fun ρ kk h => ?_⟩)
  obtain ⟨x, r, c, p, j, rfl, hx, hb, hp, hj, hno, hk⟩ := h
  have okp : okC p = true := okC_iff.mpr (by omega)
  refine ⟨rfl, ?_⟩
  try dsimp only [fAll, isOl, isOd, fSum, aRet, aRetN, aAndV, aOrV, aNotV, aIsi, aVar, aC, aChain, aOp, aUn, aTest, aTru, truD, aAnd, aOr, aNot, aIf, aCons, aNil, aTup, aLst, imAll, aCB, resAll, res, aCall, bok, isOw, bos, svOf, back, aNext, aSeq, aIfS, aAsg, aAsgO, aName, aGTup, aGCons, aGNil, aDrop, aFrz, frz, aOfL, fI0, fI, fNeg, fPlus, fLen, fTuple, fInt, fAbs, fMax2, fMin2, fIsN, fNotN, fIsB, fNotB, isNonD, isT, aApp, aAug, aPop, aSetI, aPar, aPar3, aMIm, aMFr, svM, aList, aSl, aPart, aNoPart, aISeq, aRg1, aRg2, aYes, wipeA, mrg, noOw, still, retA, Option.map, List.map, List.getElem?_cons_zero, List.getElem?_cons_succ, List.set_cons_zero, List.set_cons_succ, List.cons_append, List.nil_append, List.replicate, List.length_cons, List.length_nil, Bool.not_true, Bool.not_false, Bool.and_true, Bool.true_and, aZipTwo, aZip3, aZip2, aZ2, seqD, aEnum, aSrt, fIxN, fInN, fLenN, aSetN, aAsgN, aDNew, aMFd, aOfN, aLenSet, aIndex, aRg3d, aDisp1, aAsgNew, fMinT, fMaxT]
  refine ⟨rfl, x, r, c, rfl, hx, hb, ?_⟩
  try dsimp only [fAll, isOl, isOd, fSum, aRet, aRetN, aAndV, aOrV, aNotV, aIsi, aVar, aC, aChain, aOp, aUn, aTest, aTru, truD, aAnd, aOr, aNot, aIf, aCons, aNil, aTup, aLst, imAll, aCB, resAll, res, aCall, bok, isOw, bos, svOf, back, aNext, aSeq, aIfS, aAsg, aAsgO, aName, aGTup, aGCons, aGNil, aDrop, aFrz, frz, aOfL, fI0, fI, fNeg, fPlus, fLen, fTuple, fInt, fAbs, fMax2, fMin2, fIsN, fNotN, fIsB, fNotB, isNonD, isT, aApp, aAug, aPop, aSetI, aPar, aPar3, aMIm, aMFr, svM, aList, aSl, aPart, aNoPart, aISeq, aRg1, aRg2, aYes, wipeA, mrg, noOw, still, retA, Option.map, List.map, List.getElem?_cons_zero, List.getElem?_cons_succ, List.set_cons_zero, List.set_cons_succ, List.cons_append, List.nil_append, List.replicate, List.length_cons, List.length_nil, Bool.not_true, Bool.not_false, Bool.and_true, Bool.true_and, aZipTwo, aZip3, aZip2, aZ2, seqD, aEnum, aSrt, fIxN, fInN, fLenN, aSetN, aAsgN, aDNew, aMFd, aOfN, aLenSet, aIndex, aRg3d, aDisp1, aAsgNew, fMinT, fMaxT]
  refine ⟨rfl, cD p, rfl, rfl, fun ds e => by cases e; show 2 ≤ 1000000; decide, ?_⟩
  rw [fc_cD, okp]
  try dsimp only [fAll, isOl, isOd, fSum, aRet, aRetN, aAndV, aOrV, aNotV, aIsi, aVar, aC, aChain, aOp, aUn, aTest, aTru, truD, aAnd, aOr, aNot, aIf, aCons, aNil, aTup, aLst, imAll, aCB, resAll, res, aCall, bok, isOw, bos, svOf, back, aNext, aSeq, aIfS, aAsg, aAsgO, aName, aGTup, aGCons, aGNil, aDrop, aFrz, frz, aOfL, fI0, fI, fNeg, fPlus, fLen, fTuple, fInt, fAbs, fMax2, fMin2, fIsN, fNotN, fIsB, fNotB, isNonD, isT, aApp, aAug, aPop, aSetI, aPar, aPar3, aMIm, aMFr, svM, aList, aSl, aPart, aNoPart, aISeq, aRg1, aRg2, aYes, wipeA, mrg, noOw, still, retA, Option.map, List.map, List.getElem?_cons_zero, List.getElem?_cons_succ, List.set_cons_zero, List.set_cons_succ, List.cons_append, List.nil_append, List.replicate, List.length_cons, List.length_nil, Bool.not_true, Bool.not_false, Bool.and_true, Bool.true_and, aZipTwo, aZip3, aZip2, aZ2, seqD, aEnum, aSrt, fIxN, fInN, fLenN, aSetN, aAsgN, aDNew, aMFd, aOfN, aLenSet, aIndex, aRg3d, aDisp1, aAsgNew, fMinT, fMaxT]
  rw [if_neg (by decide)]
  refine ⟨.int p.1, rfl, ?_⟩
  try dsimp only [fAll, isOl, isOd, fSum, aRet, aRetN, aAndV, aOrV, aNotV, aIsi, aVar, aC, aChain, aOp, aUn, aTest, aTru, truD, aAnd, aOr, aNot, aIf, aCons, aNil, aTup, aLst, imAll, aCB, resAll, res, aCall, bok, isOw, bos, svOf, back, aNext, aSeq, aIfS, aAsg, aAsgO, aName, aGTup, aGCons, aGNil, aDrop, aFrz, frz, aOfL, fI0, fI, fNeg, fPlus, fLen, fTuple, fInt, fAbs, fMax2, fMin2, fIsN, fNotN, fIsB, fNotB, isNonD, isT, aApp, aAug, aPop, aSetI, aPar, aPar3, aMIm, aMFr, svM, aList, aSl, aPart, aNoPart, aISeq, aRg1, aRg2, aYes, wipeA, mrg, noOw, still, retA, Option.map, List.map, List.getElem?_cons_zero, List.getElem?_cons_succ, List.set_cons_zero, List.set_cons_succ, List.cons_append, List.nil_append, List.replicate, List.length_cons, List.length_nil, Bool.not_true, Bool.not_false, Bool.and_true, Bool.true_and, aZipTwo, aZip3, aZip2, aZ2, seqD, aEnum, aSrt, fIxN, fInN, fLenN, aSetN, aAsgN, aDNew, aMFd, aOfN, aLenSet, aIndex, aRg3d, aDisp1, aAsgNew, fMinT, fMaxT]
  rw [if_neg (by simp only [decide_eq_true_eq]; omega)]
  refine ⟨.int p.2, rfl, ?_⟩
  try dsimp only [fAll, isOl, isOd, fSum, aRet, aRetN, aAndV, aOrV, aNotV, aIsi, aVar, aC, aChain, aOp, aUn, aTest, aTru, truD, aAnd, aOr, aNot, aIf, aCons, aNil, aTup, aLst, imAll, aCB, resAll, res, aCall, bok, isOw, bos, svOf, back, aNext, aSeq, aIfS, aAsg, aAsgO, aName, aGTup, aGCons, aGNil, aDrop, aFrz, frz, aOfL, fI0, fI, fNeg, fPlus, fLen, fTuple, fInt, fAbs, fMax2, fMin2, fIsN, fNotN, fIsB, fNotB, isNonD, isT, aApp, aAug, aPop, aSetI, aPar, aPar3, aMIm, aMFr, svM, aList, aSl, aPart, aNoPart, aISeq, aRg1, aRg2, aYes, wipeA, mrg, noOw, still, retA, Option.map, List.map, List.getElem?_cons_zero, List.getElem?_cons_succ, List.set_cons_zero, List.set_cons_succ, List.cons_append, List.nil_append, List.replicate, List.length_cons, List.length_nil, Bool.not_true, Bool.not_false, Bool.and_true, Bool.true_and, aZipTwo, aZip3, aZip2, aZ2, seqD, aEnum, aSrt, fIxN, fInN, fLenN, aSetN, aAsgN, aDNew, aMFd, aOfN, aLenSet, aIndex, aRg3d, aDisp1, aAsgNew, fMinT, fMaxT]
  rw [if_neg (by simp only [decide_eq_true_eq]; omega)]
  refine ⟨rfl, x, r, c, rfl, hx, hb, ?_⟩
  try dsimp only [fAll, isOl, isOd, fSum, aRet, aRetN, aAndV, aOrV, aNotV, aIsi, aVar, aC, aChain, aOp, aUn, aTest, aTru, truD, aAnd, aOr, aNot, aIf, aCons, aNil, aTup, aLst, imAll, aCB, resAll, res, aCall, bok, isOw, bos, svOf, back, aNext, aSeq, aIfS, aAsg, aAsgO, aName, aGTup, aGCons, aGNil, aDrop, aFrz, frz, aOfL, fI0, fI, fNeg, fPlus, fLen, fTuple, fInt, fAbs, fMax2, fMin2, fIsN, fNotN, fIsB, fNotB, isNonD, isT, aApp, aAug, aPop, aSetI, aPar, aPar3, aMIm, aMFr, svM, aList, aSl, aPart, aNoPart, aISeq, aRg1, aRg2, aYes, wipeA, mrg, noOw, still, retA, Option.map, List.map, List.getElem?_cons_zero, List.getElem?_cons_succ, List.set_cons_zero, List.set_cons_succ, List.cons_append, List.nil_append, List.replicate, List.length_cons, List.length_nil, Bool.not_true, Bool.not_false, Bool.and_true, Bool.true_and, aZipTwo, aZip3, aZip2, aZ2, seqD, aEnum, aSrt, fIxN, fInN, fLenN, aSetN, aAsgN, aDNew, aMFd, aOfN, aLenSet, aIndex, aRg3d, aDisp1, aAsgNew, fMinT, fMaxT]
  have g : ∀ m : Nat, (csD (ordX x r c))[m]? = ((ordX x r c)[m]?).map cD := fun m => by unfold csD; rw [List.getElem?_map]
  refine ⟨rfl, shp_csD _, j, cD p, by rw [g, hj]; rfl, by rw [eqv_cD, beq_self_eq_true], fun m z hm e => ?_, rfl, hk⟩
  rw [g] at e
  obtain ⟨q, hq, rfl⟩ := Option.map_eq_some_iff.mp e
  rw [eqv_cD, beq_eq_false_iff_ne]
  rintro rfl
  exact hno m hm hq
def afBoxOrder : AF := fun ρ k => ∃ x r c, ρ = [.im (.str x), .im (.int r), .im (.int c)] ∧ x ∈ KINDS ∧ (1 ≤ r ∧ r ≤ 60 ∧ 1 ≤ c ∧ c ≤ 60 ∧ r * c ≤ 400) ∧ k (.tup (csD (ordX x r c))) ρ
theorem ok_box_order (Bn : Bt mg) (h : Here K mg "box_order" sBoxOrder ["kind", "rows", "columns"]) (d_need_box : Df P w K mg base 2 "need_box" afNeedBox) (d_order_in : Df P w K mg base 4 "order_in" afOrderIn) : Df P w K mg base 5 "box_order" afBoxOrder := by
  refine df_ok h scBoxOrder [] (fun ρ kk h => by obtain ⟨_, _, _, rfl, _⟩ := h; rfl) (fun f cdv A outer s H E hr => ⟨_, _, _, (gss_cons (gs_expr (ge_dfK d_need_box hr (ga_cons (gv 0) (ga_cons (gv 1) (ga_cons (gv 2) ga_nil)))))
      (gss_one (gs_ret (ge_tupleK (K := K) Bn (ga_cons (ge_dfK d_order_in hr (ga_cons (gv 0) (ga_cons (gv 1) (ga_cons (gv 2) ga_nil)))) ga_nil))))), fun ρ kk h => ?_⟩)
  obtain ⟨x, r, c, rfl, hx, hb, hk⟩ := h
  refine ⟨rfl, ?_⟩
  try dsimp only [fAll, isOl, isOd, fSum, aRet, aRetN, aAndV, aOrV, aNotV, aIsi, aVar, aC, aChain, aOp, aUn, aTest, aTru, truD, aAnd, aOr, aNot, aIf, aCons, aNil, aTup, aLst, imAll, aCB, resAll, res, aCall, bok, isOw, bos, svOf, back, aNext, aSeq, aIfS, aAsg, aAsgO, aName, aGTup, aGCons, aGNil, aDrop, aFrz, frz, aOfL, fI0, fI, fNeg, fPlus, fLen, fTuple, fInt, fAbs, fMax2, fMin2, fIsN, fNotN, fIsB, fNotB, isNonD, isT, aApp, aAug, aPop, aSetI, aPar, aPar3, aMIm, aMFr, svM, aList, aSl, aPart, aNoPart, aISeq, aRg1, aRg2, aYes, wipeA, mrg, noOw, still, retA, Option.map, List.map, List.getElem?_cons_zero, List.getElem?_cons_succ, List.set_cons_zero, List.set_cons_succ, List.cons_append, List.nil_append, List.replicate, List.length_cons, List.length_nil, Bool.not_true, Bool.not_false, Bool.and_true, Bool.true_and, aZipTwo, aZip3, aZip2, aZ2, seqD, aEnum, aSrt, fIxN, fInN, fLenN, aSetN, aAsgN, aDNew, aMFd, aOfN, aLenSet, aIndex, aRg3d, aDisp1, aAsgNew, fMinT, fMaxT]
  refine ⟨rfl, x, r, c, rfl, hx, hb, ?_⟩
  try dsimp only [fAll, isOl, isOd, fSum, aRet, aRetN, aAndV, aOrV, aNotV, aIsi, aVar, aC, aChain, aOp, aUn, aTest, aTru, truD, aAnd, aOr, aNot, aIf, aCons, aNil, aTup, aLst, imAll, aCB, resAll, res, aCall, bok, isOw, bos, svOf, back, aNext, aSeq, aIfS, aAsg, aAsgO, aName, aGTup, aGCons, aGNil, aDrop, aFrz, frz, aOfL, fI0, fI, fNeg, fPlus, fLen, fTuple, fInt, fAbs, fMax2, fMin2, fIsN, fNotN, fIsB, fNotB, isNonD, isT, aApp, aAug, aPop, aSetI, aPar, aPar3, aMIm, aMFr, svM, aList, aSl, aPart, aNoPart, aISeq, aRg1, aRg2, aYes, wipeA, mrg, noOw, still, retA, Option.map, List.map, List.getElem?_cons_zero, List.getElem?_cons_succ, List.set_cons_zero, List.set_cons_succ, List.cons_append, List.nil_append, List.replicate, List.length_cons, List.length_nil, Bool.not_true, Bool.not_false, Bool.and_true, Bool.true_and, aZipTwo, aZip3, aZip2, aZ2, seqD, aEnum, aSrt, fIxN, fInN, fLenN, aSetN, aAsgN, aDNew, aMFd, aOfN, aLenSet, aIndex, aRg3d, aDisp1, aAsgNew, fMinT, fMaxT]
  refine ⟨rfl, x, r, c, rfl, hx, hb, ?_⟩
  try dsimp only [fAll, isOl, isOd, fSum, aRet, aRetN, aAndV, aOrV, aNotV, aIsi, aVar, aC, aChain, aOp, aUn, aTest, aTru, truD, aAnd, aOr, aNot, aIf, aCons, aNil, aTup, aLst, imAll, aCB, resAll, res, aCall, bok, isOw, bos, svOf, back, aNext, aSeq, aIfS, aAsg, aAsgO, aName, aGTup, aGCons, aGNil, aDrop, aFrz, frz, aOfL, fI0, fI, fNeg, fPlus, fLen, fTuple, fInt, fAbs, fMax2, fMin2, fIsN, fNotN, fIsB, fNotB, isNonD, isT, aApp, aAug, aPop, aSetI, aPar, aPar3, aMIm, aMFr, svM, aList, aSl, aPart, aNoPart, aISeq, aRg1, aRg2, aYes, wipeA, mrg, noOw, still, retA, Option.map, List.map, List.getElem?_cons_zero, List.getElem?_cons_succ, List.set_cons_zero, List.set_cons_succ, List.cons_append, List.nil_append, List.replicate, List.length_cons, List.length_nil, Bool.not_true, Bool.not_false, Bool.and_true, Bool.true_and, aZipTwo, aZip3, aZip2, aZ2, seqD, aEnum, aSrt, fIxN, fInN, fLenN, aSetN, aAsgN, aDNew, aMFd, aOfN, aLenSet, aIndex, aRg3d, aDisp1, aAsgNew, fMinT, fMaxT]
  exact ⟨rfl, hk⟩
def afIsWalk : AF := fun ρ k => ∃ cs, ρ = [.im (.tup (csD cs))] ∧ (∀ c ∈ cs, okC c = true) ∧ cs.Nodup ∧ (1 ≤ cs.length ∧ cs.length ≤ 400) ∧ k (.bl ((pairs cs).all fun p => stp p.1 p.2 == 1)) ρ
theorem ok_is_walk (Bn : Bt mg) (h : Here K mg "is_walk" sIsWalk ["order"]) (d_need_order : Df P w K mg base 4 "need_order" afNeedOrder) (d_steps_between : Df P w K mg base 1 "steps_between" afSteps) : Df P w K mg base 5 "is_walk" afIsWalk := by
  refine df_ok h scIsWalk [.un, .un] (fun ρ kk h => by obtain ⟨_, rfl, _⟩ := h; rfl) (fun f cdv A outer s H E hr => ⟨_, _, _, (gss_cons (gs_expr (ge_dfK d_need_order hr (ga_cons (gv 0) ga_nil)))
      (gss_one (gs_ret (ge_allK (K := K) rfl Bn (ga_cons (GL.e (gl_lc rfl scIsWalk.nd (blkOk_by (own := [("one", 1), ("other", 2)]) (by kernel_rfl)) (gi_zip2 (K := K) Bn (ga_cons (gv 0) (ga_cons (ge_slK (K := K) (gv 0) (go_some ge_int) go_none) ga_nil))) (fun _ _ _ _ _ => (gg_tupK (K := K) (n := 2) rfl (ggs_cons (gg_name scIsWalk.nd (i := 1)) (ggs_cons (gg_name scIsWalk.nd (i := 2)) ggs_nil)))) (fun _ _ _ _ _ => gts_nil) (fun _ _ _ _ _ => (ge_eq (K := K) hr.units (ge_dfK d_steps_between hr (ga_cons (gv 1) (ga_cons (gv 2) ga_nil))) ge_int (nomark _))))) ga_nil))))), fun ρ kk h => ?_⟩)
  obtain ⟨cs, rfl, ok, nd, ⟨l1, l2⟩, hk⟩ := h
  refine ⟨rfl, ?_⟩
  try dsimp only [fAll, isOl, isOd, fSum, aRet, aRetN, aAndV, aOrV, aNotV, aIsi, aVar, aC, aChain, aOp, aUn, aTest, aTru, truD, aAnd, aOr, aNot, aIf, aCons, aNil, aTup, aLst, imAll, aCB, resAll, res, aCall, bok, isOw, bos, svOf, back, aNext, aSeq, aIfS, aAsg, aAsgO, aName, aGTup, aGCons, aGNil, aDrop, aFrz, frz, aOfL, fI0, fI, fNeg, fPlus, fLen, fTuple, fInt, fAbs, fMax2, fMin2, fIsN, fNotN, fIsB, fNotB, isNonD, isT, aApp, aAug, aPop, aSetI, aPar, aPar3, aMIm, aMFr, svM, aList, aSl, aPart, aNoPart, aISeq, aRg1, aRg2, aYes, wipeA, mrg, noOw, still, retA, Option.map, List.map, List.getElem?_cons_zero, List.getElem?_cons_succ, List.set_cons_zero, List.set_cons_succ, List.cons_append, List.nil_append, List.replicate, List.length_cons, List.length_nil, Bool.not_true, Bool.not_false, Bool.and_true, Bool.true_and, aZipTwo, aZip3, aZip2, aZ2, seqD, aEnum, aSrt, fIxN, fInN, fLenN, aSetN, aAsgN, aDNew, aMFd, aOfN, aLenSet, aIndex, aRg3d, aDisp1, aAsgNew, fMinT, fMaxT]
  refine ⟨rfl, cs, rfl, ok, nd, l1, l2, ?_⟩
  have pl := pairs_len cs
  refine aLc_mapM (pairs cs) ppD (fun p => .bl (stp p.1 p.2 == 1)) (fun k' hk' => ?_) rfl (by omega) (fun p hp Wy hW => ?_) ?_
  · try dsimp only [fAll, isOl, isOd, fSum, aRet, aRetN, aAndV, aOrV, aNotV, aIsi, aVar, aC, aChain, aOp, aUn, aTest, aTru, truD, aAnd, aOr, aNot, aIf, aCons, aNil, aTup, aLst, imAll, aCB, resAll, res, aCall, bok, isOw, bos, svOf, back, aNext, aSeq, aIfS, aAsg, aAsgO, aName, aGTup, aGCons, aGNil, aDrop, aFrz, frz, aOfL, fI0, fI, fNeg, fPlus, fLen, fTuple, fInt, fAbs, fMax2, fMin2, fIsN, fNotN, fIsB, fNotB, isNonD, isT, aApp, aAug, aPop, aSetI, aPar, aPar3, aMIm, aMFr, svM, aList, aSl, aPart, aNoPart, aISeq, aRg1, aRg2, aYes, wipeA, mrg, noOw, still, retA, Option.map, List.map, List.getElem?_cons_zero, List.getElem?_cons_succ, List.set_cons_zero, List.set_cons_succ, List.cons_append, List.nil_append, List.replicate, List.length_cons, List.length_nil, Bool.not_true, Bool.not_false, Bool.and_true, Bool.true_and, aZipTwo, aZip3, aZip2, aZ2, seqD, aEnum, aSrt, fIxN, fInN, fLenN, aSetN, aAsgN, aDNew, aMFd, aOfN, aLenSet, aIndex, aRg3d, aDisp1, aAsgNew, fMinT, fMaxT]
    rw [cut1, show (csD cs).drop 1 = csD (cs.drop 1) from (List.map_drop ..).symm, zip2_csD]
    exact hk'
  · have := pairs_ok2 ok p hp
    unfold ppD
    try dsimp only [fAll, isOl, isOd, fSum, aRet, aRetN, aAndV, aOrV, aNotV, aIsi, aVar, aC, aChain, aOp, aUn, aTest, aTru, truD, aAnd, aOr, aNot, aIf, aCons, aNil, aTup, aLst, imAll, aCB, resAll, res, aCall, bok, isOw, bos, svOf, back, aNext, aSeq, aIfS, aAsg, aAsgO, aName, aGTup, aGCons, aGNil, aDrop, aFrz, frz, aOfL, fI0, fI, fNeg, fPlus, fLen, fTuple, fInt, fAbs, fMax2, fMin2, fIsN, fNotN, fIsB, fNotB, isNonD, isT, aApp, aAug, aPop, aSetI, aPar, aPar3, aMIm, aMFr, svM, aList, aSl, aPart, aNoPart, aISeq, aRg1, aRg2, aYes, wipeA, mrg, noOw, still, retA, Option.map, List.map, List.getElem?_cons_zero, List.getElem?_cons_succ, List.set_cons_zero, List.set_cons_succ, List.cons_append, List.nil_append, List.replicate, List.length_cons, List.length_nil, Bool.not_true, Bool.not_false, Bool.and_true, Bool.true_and, aZipTwo, aZip3, aZip2, aZ2, seqD, aEnum, aSrt, fIxN, fInN, fLenN, aSetN, aAsgN, aDNew, aMFd, aOfN, aLenSet, aIndex, aRg3d, aDisp1, aAsgNew, fMinT, fMaxT]
    refine ⟨rfl, rfl, rfl, _, _, rfl, this, ?_⟩
    refine ⟨rfl, rfl, ?_⟩
    rw [eqv_int]
    exact ⟨_, rfl, hW⟩
  · try dsimp only [fAll, isOl, isOd, fSum, aRet, aRetN, aAndV, aOrV, aNotV, aIsi, aVar, aC, aChain, aOp, aUn, aTest, aTru, truD, aAnd, aOr, aNot, aIf, aCons, aNil, aTup, aLst, imAll, aCB, resAll, res, aCall, bok, isOw, bos, svOf, back, aNext, aSeq, aIfS, aAsg, aAsgO, aName, aGTup, aGCons, aGNil, aDrop, aFrz, frz, aOfL, fI0, fI, fNeg, fPlus, fLen, fTuple, fInt, fAbs, fMax2, fMin2, fIsN, fNotN, fIsB, fNotB, isNonD, isT, aApp, aAug, aPop, aSetI, aPar, aPar3, aMIm, aMFr, svM, aList, aSl, aPart, aNoPart, aISeq, aRg1, aRg2, aYes, wipeA, mrg, noOw, still, retA, Option.map, List.map, List.getElem?_cons_zero, List.getElem?_cons_succ, List.set_cons_zero, List.set_cons_succ, List.cons_append, List.nil_append, List.replicate, List.length_cons, List.length_nil, Bool.not_true, Bool.not_false, Bool.and_true, Bool.true_and, aZipTwo, aZip3, aZip2, aZ2, seqD, aEnum, aSrt, fIxN, fInN, fLenN, aSetN, aAsgN, aDNew, aMFd, aOfN, aLenSet, aIndex, aRg3d, aDisp1, aAsgNew, fMinT, fMaxT]
    refine ⟨_, bls_fun (pairs cs) fun p => stp p.1 p.2 == 1, rfl, ?_⟩
    rw [all_map_id]
    exact hk
end
end K89

namespace K89
open PySem PySem.Spec L2 DL
open PyProof.Rows hiding St
mutual
/-- none, truth values, whole numbers, tuples and lists of them -/
def numd : D → Bool
  | .non => true
  | .bl _ => true
  | .int _ => true
  | .tup ds => numds ds
  | .lst ds => numds ds
  | _ => false
def numds : List D → Bool
  | [] => true
  | d :: ds => numd d && numds ds
end
theorem numds_mem : ∀ {ds : List D} {d : D}, numds ds = true → d ∈ ds → numd d = true
  | e :: ds, d, h, m => by
    unfold numds at h
    simp only [Bool.and_eq_true] at h
    rcases List.mem_cons.mp m with rfl | m
    · exact h.1
    · exact numds_mem h.2 m
mutual
/-- no list or tuple longer than a million -/
def small : D → Bool
  | .tup ds => decide (ds.length ≤ 1000000) && smalls ds
  | .lst ds => decide (ds.length ≤ 1000000) && smalls ds
  | _ => true
def smalls : List D → Bool
  | [] => true
  | d :: ds => small d && smalls ds
end
theorem smalls_mem : ∀ {ds : List D} {d : D}, smalls ds = true → d ∈ ds → small d = true
  | e :: ds, d, h, m => by
    unfold smalls at h
    simp only [Bool.and_eq_true] at h
    rcases List.mem_cons.mp m with rfl | m
    · exact h.1
    · exact smalls_mem h.2 m
section
variable {P : Program} {w : World} {K : PySem.W.Frag} {mg : Str → Option Value} {base : Heap}
abbrev cupS (a b : Int) : SV := .ow (.ol [.int a, .int b])
def afCup : AFL := fun ρ k => ∃ ns, ρ = [.im (.scr ns)] ∧ ns.length ≤ 999999 ∧ ∀ a b, k [.int a, .int b] ρ
theorem ok_law_cup (Bn : Bt mg) (h : Here K mg "_law_cup" sLawCup ["script"]) : DfL P w K mg base 1 "_law_cup" afCup := by
  refine dfL_ok h scLawCup [.un] (fun ρ kk h => by obtain ⟨_, rfl, _⟩ := h; rfl) (fun f cdv A outer s H E hr => ⟨_, _, _, (gss_cons (gs_set (i := 1) scLawCup.nd (ge_abs Bn (ga_cons (ge_ixK (K := K) (ge_plus (K := K) (GL.e (gl_listK (K := K) Bn.list (ga_cons (gv 0) ga_nil))) (GL.e (gl_lst (ga_cons ge_int ga_nil)))) ge_int) ga_nil)))
      (gss_one (gs_retL (gl_lst (ga_cons (ge_if (gt_cmp op_ge lk_ge (gv 1) (ge_op op_pow lk_pow ge_int ge_int) (nomark _)) (ge_op op_fdivW lk_fdivW (gv 1) ge_int) ge_int) (ga_cons (ge_plus (K := K) (ge_op op_mod lk_mod (ge_int1 Bn (ga_cons (ge_plus (K := K) (ge_op op_mul lk_mul (gv 1) ge_int) ge_int) ga_nil)) ge_int) ge_int) ga_nil)))))), fun ρ kk h => ?_⟩)
  obtain ⟨ns, rfl, hl, hk⟩ := h
  refine ⟨rfl, ?_⟩
  try dsimp only [fAll, isOl, isOd, fSum, aRet, aRetN, aAndV, aOrV, aNotV, aIsi, aVar, aC, aChain, aOp, aUn, aTest, aTru, truD, aAnd, aOr, aNot, aIf, aCons, aNil, aTup, aLst, imAll, aCB, resAll, res, aCall, bok, isOw, bos, svOf, back, aNext, aSeq, aIfS, aAsg, aAsgO, aName, aGTup, aGCons, aGNil, aDrop, aFrz, frz, aOfL, fI0, fI, fNeg, fPlus, fLen, fTuple, fInt, fAbs, fMax2, fMin2, fIsN, fNotN, fIsB, fNotB, isNonD, isT, aApp, aAug, aPop, aSetI, aPar, aPar3, aMIm, aMFr, svM, aList, aSl, aPart, aNoPart, aISeq, aRg1, aRg2, aYes, wipeA, mrg, noOw, still, retA, Option.map, List.map, List.getElem?_cons_zero, List.getElem?_cons_succ, List.set_cons_zero, List.set_cons_succ, List.cons_append, List.nil_append, List.replicate, List.length_cons, List.length_nil, Bool.not_true, Bool.not_false, Bool.and_true, Bool.true_and, aZipTwo, aZip3, aZip2, aZ2, seqD, aEnum, aSrt, fIxN, fInN, fLenN, aSetN, aAsgN, aDNew, aMFd, aOfN, aLenSet, aIndex, aRg3d, aDisp1, aAsgNew, fMinT, fMaxT]
  refine ⟨by decide, by rw [List.length_map]; omega, ?_⟩
  have hc : ∀ c : Int, True := fun _ => trivial
  have go : ∃ c : Int, atI (ns.map D.int ++ [D.int 0]) 0 = some (.int c) := by
    cases ns with
    | nil => exact ⟨0, rfl⟩
    | cons n ns => exact ⟨n, atI_nat (by decide) rfl⟩
  obtain ⟨c, hc⟩ := go
  refine ⟨_, hc, ?_⟩
  try dsimp only [fAll, isOl, isOd, fSum, aRet, aRetN, aAndV, aOrV, aNotV, aIsi, aVar, aC, aChain, aOp, aUn, aTest, aTru, truD, aAnd, aOr, aNot, aIf, aCons, aNil, aTup, aLst, imAll, aCB, resAll, res, aCall, bok, isOw, bos, svOf, back, aNext, aSeq, aIfS, aAsg, aAsgO, aName, aGTup, aGCons, aGNil, aDrop, aFrz, frz, aOfL, fI0, fI, fNeg, fPlus, fLen, fTuple, fInt, fAbs, fMax2, fMin2, fIsN, fNotN, fIsB, fNotB, isNonD, isT, aApp, aAug, aPop, aSetI, aPar, aPar3, aMIm, aMFr, svM, aList, aSl, aPart, aNoPart, aISeq, aRg1, aRg2, aYes, wipeA, mrg, noOw, still, retA, Option.map, List.map, List.getElem?_cons_zero, List.getElem?_cons_succ, List.set_cons_zero, List.set_cons_succ, List.cons_append, List.nil_append, List.replicate, List.length_cons, List.length_nil, Bool.not_true, Bool.not_false, Bool.and_true, Bool.true_and, aZipTwo, aZip3, aZip2, aZ2, seqD, aEnum, aSrt, fIxN, fInN, fLenN, aSetN, aAsgN, aDNew, aMFd, aOfN, aLenSet, aIndex, aRg3d, aDisp1, aAsgNew, fMinT, fMaxT]
  have h1 : CPow (10 : Int) 18 := by refine ⟨by decide, by decide, by decide⟩
  have h2 : ∀ i : Int, CDivW i 1549 := fun i => ⟨by decide, by decide +kernel⟩
  have h3 : ∀ i : Int, CMul i 1643 := fun i => .inr ⟨by decide, by decide⟩
  generalize (if c < 0 then -c else c) = e
  refine ⟨h1, ?_⟩
  try dsimp only [fAll, isOl, isOd, fSum, aRet, aRetN, aAndV, aOrV, aNotV, aIsi, aVar, aC, aChain, aOp, aUn, aTest, aTru, truD, aAnd, aOr, aNot, aIf, aCons, aNil, aTup, aLst, imAll, aCB, resAll, res, aCall, bok, isOw, bos, svOf, back, aNext, aSeq, aIfS, aAsg, aAsgO, aName, aGTup, aGCons, aGNil, aDrop, aFrz, frz, aOfL, fI0, fI, fNeg, fPlus, fLen, fTuple, fInt, fAbs, fMax2, fMin2, fIsN, fNotN, fIsB, fNotB, isNonD, isT, aApp, aAug, aPop, aSetI, aPar, aPar3, aMIm, aMFr, svM, aList, aSl, aPart, aNoPart, aISeq, aRg1, aRg2, aYes, wipeA, mrg, noOw, still, retA, Option.map, List.map, List.getElem?_cons_zero, List.getElem?_cons_succ, List.set_cons_zero, List.set_cons_succ, List.cons_append, List.nil_append, List.replicate, List.length_cons, List.length_nil, Bool.not_true, Bool.not_false, Bool.and_true, Bool.true_and, aZipTwo, aZip3, aZip2, aZ2, seqD, aEnum, aSrt, fIxN, fInN, fLenN, aSetN, aAsgN, aDNew, aMFd, aOfN, aLenSet, aIndex, aRg3d, aDisp1, aAsgNew, fMinT, fMaxT]
  by_cases h4 : decide ((10 : Int) ^ (18 : Int).toNat ≤ e) = true
  · rw [if_pos h4]
    exact ⟨h2 _, h3 _, by decide, by decide, rfl, hk _ _⟩
  · rw [if_neg h4]
    exact ⟨h3 _, by decide, by decide, rfl, hk _ _⟩
def afRoll : AF := fun ρ k => ∃ a b n, ρ = [cupS a b, .im (.int n)] ∧ (1 ≤ n ∧ n ≤ 8000) ∧ ∀ v a' b', 0 ≤ v → v < n → k (.int v) [cupS a' b', .im (.int n)]
theorem ok_law_roll (Bn : Bt mg) (h : Here K mg "_law_roll" sLawRoll ["cup", "many"]) : Df P w K mg base 1 "_law_roll" afRoll := by
  refine df_ok h scLawRoll [.un, .un] (fun ρ kk h => by obtain ⟨_, _, _, rfl, _⟩ := h; rfl) (fun f cdv A outer s H E hr => ⟨_, _, _, (gss_cons (gs_if (gt_cmp op_gt lk_gt (ge_ixK (K := K) (gv 0) ge_int) ge_int (nomark _)) (gss_cons (gs_set (i := 2) scLawRoll.nd (ge_op op_mod lk_mod (ge_int1 Bn (ga_cons (ge_ixK (K := K) (gv 0) ge_int) ga_nil)) (gv 1)))
      (gss_cons (gs_asg (ge_op op_fdivW lk_fdivW (ge_ixK (K := K) (gv 0) ge_int) (gv 1)) (gg_setI 0 ge_int))
      (gss_one (gs_ret (gv 2))))) gss_nil)
      (gss_cons (gs_asg (ge_op op_mod lk_mod (ge_int1 Bn (ga_cons (ge_plus (K := K) (ge_op op_mul lk_mul (ge_ixK (K := K) (gv 0) ge_int) ge_int) ge_int) ga_nil)) ge_int) (gg_setI 0 ge_int))
      (gss_cons (gs_set (i := 3) scLawRoll.nd (ge_op op_mod lk_mod (ge_int1 Bn (ga_cons (ge_op op_mul lk_mul (ge_ixK (K := K) (gv 0) ge_int) (ge_plus (K := K) (ge_ixK (K := K) (gv 0) ge_int) ge_int)) ga_nil)) ge_int))
      (gss_one (gs_ret (ge_op op_mod lk_mod (ge_int1 Bn (ga_cons (ge_op op_fdivW lk_fdivW (gv 3) ge_int) ga_nil)) (gv 1))))))), fun ρ kk h => ?_⟩)
  obtain ⟨a, b, n, rfl, hn, hk⟩ := h
  refine ⟨rfl, ?_⟩
  try dsimp only [fAll, isOl, isOd, fSum, aRet, aRetN, aAndV, aOrV, aNotV, aIsi, aVar, aC, aChain, aOp, aUn, aTest, aTru, truD, aAnd, aOr, aNot, aIf, aCons, aNil, aTup, aLst, imAll, aCB, resAll, res, aCall, bok, isOw, bos, svOf, back, aNext, aSeq, aIfS, aAsg, aAsgO, aName, aGTup, aGCons, aGNil, aDrop, aFrz, frz, aOfL, fI0, fI, fNeg, fPlus, fLen, fTuple, fInt, fAbs, fMax2, fMin2, fIsN, fNotN, fIsB, fNotB, isNonD, isT, aApp, aAug, aPop, aSetI, aPar, aPar3, aMIm, aMFr, svM, aList, aSl, aPart, aNoPart, aISeq, aRg1, aRg2, aYes, wipeA, mrg, noOw, still, retA, Option.map, List.map, List.getElem?_cons_zero, List.getElem?_cons_succ, List.set_cons_zero, List.set_cons_succ, List.cons_append, List.nil_append, List.replicate, List.length_cons, List.length_nil, Bool.not_true, Bool.not_false, Bool.and_true, Bool.true_and, aZipTwo, aZip3, aZip2, aZ2, seqD, aEnum, aSrt, fIxN, fInN, fLenN, aSetN, aAsgN, aDNew, aMFd, aOfN, aLenSet, aIndex, aRg3d, aDisp1, aAsgNew, fMinT, fMaxT]
  refine ⟨_, rfl, ?_⟩
  try dsimp only [fAll, isOl, isOd, fSum, aRet, aRetN, aAndV, aOrV, aNotV, aIsi, aVar, aC, aChain, aOp, aUn, aTest, aTru, truD, aAnd, aOr, aNot, aIf, aCons, aNil, aTup, aLst, imAll, aCB, resAll, res, aCall, bok, isOw, bos, svOf, back, aNext, aSeq, aIfS, aAsg, aAsgO, aName, aGTup, aGCons, aGNil, aDrop, aFrz, frz, aOfL, fI0, fI, fNeg, fPlus, fLen, fTuple, fInt, fAbs, fMax2, fMin2, fIsN, fNotN, fIsB, fNotB, isNonD, isT, aApp, aAug, aPop, aSetI, aPar, aPar3, aMIm, aMFr, svM, aList, aSl, aPart, aNoPart, aISeq, aRg1, aRg2, aYes, wipeA, mrg, noOw, still, retA, Option.map, List.map, List.getElem?_cons_zero, List.getElem?_cons_succ, List.set_cons_zero, List.set_cons_succ, List.cons_append, List.nil_append, List.replicate, List.length_cons, List.length_nil, Bool.not_true, Bool.not_false, Bool.and_true, Bool.true_and, aZipTwo, aZip3, aZip2, aZ2, seqD, aEnum, aSrt, fIxN, fInN, fLenN, aSetN, aAsgN, aDNew, aMFd, aOfN, aLenSet, aIndex, aRg3d, aDisp1, aAsgNew, fMinT, fMaxT]
  have hn8 : CDivW a n := ⟨by omega, by have := Nat.log2_le_self n.natAbs; omega⟩
  by_cases h0 : 0 < a
  · rw [if_pos (by simpa using h0)]
    refine ⟨_, rfl, ?_⟩
    try dsimp only [fAll, isOl, isOd, fSum, aRet, aRetN, aAndV, aOrV, aNotV, aIsi, aVar, aC, aChain, aOp, aUn, aTest, aTru, truD, aAnd, aOr, aNot, aIf, aCons, aNil, aTup, aLst, imAll, aCB, resAll, res, aCall, bok, isOw, bos, svOf, back, aNext, aSeq, aIfS, aAsg, aAsgO, aName, aGTup, aGCons, aGNil, aDrop, aFrz, frz, aOfL, fI0, fI, fNeg, fPlus, fLen, fTuple, fInt, fAbs, fMax2, fMin2, fIsN, fNotN, fIsB, fNotB, isNonD, isT, aApp, aAug, aPop, aSetI, aPar, aPar3, aMIm, aMFr, svM, aList, aSl, aPart, aNoPart, aISeq, aRg1, aRg2, aYes, wipeA, mrg, noOw, still, retA, Option.map, List.map, List.getElem?_cons_zero, List.getElem?_cons_succ, List.set_cons_zero, List.set_cons_succ, List.cons_append, List.nil_append, List.replicate, List.length_cons, List.length_nil, Bool.not_true, Bool.not_false, Bool.and_true, Bool.true_and, aZipTwo, aZip3, aZip2, aZ2, seqD, aEnum, aSrt, fIxN, fInN, fLenN, aSetN, aAsgN, aDNew, aMFd, aOfN, aLenSet, aIndex, aRg3d, aDisp1, aAsgNew, fMinT, fMaxT]
    refine ⟨by omega, _, rfl, ?_⟩
    try dsimp only [fAll, isOl, isOd, fSum, aRet, aRetN, aAndV, aOrV, aNotV, aIsi, aVar, aC, aChain, aOp, aUn, aTest, aTru, truD, aAnd, aOr, aNot, aIf, aCons, aNil, aTup, aLst, imAll, aCB, resAll, res, aCall, bok, isOw, bos, svOf, back, aNext, aSeq, aIfS, aAsg, aAsgO, aName, aGTup, aGCons, aGNil, aDrop, aFrz, frz, aOfL, fI0, fI, fNeg, fPlus, fLen, fTuple, fInt, fAbs, fMax2, fMin2, fIsN, fNotN, fIsB, fNotB, isNonD, isT, aApp, aAug, aPop, aSetI, aPar, aPar3, aMIm, aMFr, svM, aList, aSl, aPart, aNoPart, aISeq, aRg1, aRg2, aYes, wipeA, mrg, noOw, still, retA, Option.map, List.map, List.getElem?_cons_zero, List.getElem?_cons_succ, List.set_cons_zero, List.set_cons_succ, List.cons_append, List.nil_append, List.replicate, List.length_cons, List.length_nil, Bool.not_true, Bool.not_false, Bool.and_true, Bool.true_and, aZipTwo, aZip3, aZip2, aZ2, seqD, aEnum, aSrt, fIxN, fInN, fLenN, aSetN, aAsgN, aDNew, aMFd, aOfN, aLenSet, aIndex, aRg3d, aDisp1, aAsgNew, fMinT, fMaxT]
    exact ⟨hn8, rfl, 0, rfl, rfl, hk _ _ _ (Int.emod_nonneg _ (by omega)) (Int.emod_lt_of_pos _ (by omega))⟩
  · rw [if_neg (by simpa using h0)]
    refine ⟨_, rfl, ?_⟩
    try dsimp only [fAll, isOl, isOd, fSum, aRet, aRetN, aAndV, aOrV, aNotV, aIsi, aVar, aC, aChain, aOp, aUn, aTest, aTru, truD, aAnd, aOr, aNot, aIf, aCons, aNil, aTup, aLst, imAll, aCB, resAll, res, aCall, bok, isOw, bos, svOf, back, aNext, aSeq, aIfS, aAsg, aAsgO, aName, aGTup, aGCons, aGNil, aDrop, aFrz, frz, aOfL, fI0, fI, fNeg, fPlus, fLen, fTuple, fInt, fAbs, fMax2, fMin2, fIsN, fNotN, fIsB, fNotB, isNonD, isT, aApp, aAug, aPop, aSetI, aPar, aPar3, aMIm, aMFr, svM, aList, aSl, aPart, aNoPart, aISeq, aRg1, aRg2, aYes, wipeA, mrg, noOw, still, retA, Option.map, List.map, List.getElem?_cons_zero, List.getElem?_cons_succ, List.set_cons_zero, List.set_cons_succ, List.cons_append, List.nil_append, List.replicate, List.length_cons, List.length_nil, Bool.not_true, Bool.not_false, Bool.and_true, Bool.true_and, aZipTwo, aZip3, aZip2, aZ2, seqD, aEnum, aSrt, fIxN, fInN, fLenN, aSetN, aAsgN, aDNew, aMFd, aOfN, aLenSet, aIndex, aRg3d, aDisp1, aAsgNew, fMinT, fMaxT]
    generalize hx : (b * 37021 + 12025) % 2147483423 = x
    have x0 : 0 ≤ x := by omega
    have x1 : x < 2147483423 := by omega
    refine ⟨.inr ⟨by decide, by decide⟩, by decide, rfl, 1, rfl, _, rfl, _, rfl, ?_⟩
    try dsimp only [fAll, isOl, isOd, fSum, aRet, aRetN, aAndV, aOrV, aNotV, aIsi, aVar, aC, aChain, aOp, aUn, aTest, aTru, truD, aAnd, aOr, aNot, aIf, aCons, aNil, aTup, aLst, imAll, aCB, resAll, res, aCall, bok, isOw, bos, svOf, back, aNext, aSeq, aIfS, aAsg, aAsgO, aName, aGTup, aGCons, aGNil, aDrop, aFrz, frz, aOfL, fI0, fI, fNeg, fPlus, fLen, fTuple, fInt, fAbs, fMax2, fMin2, fIsN, fNotN, fIsB, fNotB, isNonD, isT, aApp, aAug, aPop, aSetI, aPar, aPar3, aMIm, aMFr, svM, aList, aSl, aPart, aNoPart, aISeq, aRg1, aRg2, aYes, wipeA, mrg, noOw, still, retA, Option.map, List.map, List.getElem?_cons_zero, List.getElem?_cons_succ, List.set_cons_zero, List.set_cons_succ, List.cons_append, List.nil_append, List.replicate, List.length_cons, List.length_nil, Bool.not_true, Bool.not_false, Bool.and_true, Bool.true_and, aZipTwo, aZip3, aZip2, aZ2, seqD, aEnum, aSrt, fIxN, fInN, fLenN, aSetN, aAsgN, aDNew, aMFd, aOfN, aLenSet, aIndex, aRg3d, aDisp1, aAsgNew, fMinT, fMaxT]
    refine ⟨.inl ⟨by omega, by omega⟩, by decide, ⟨by decide, by decide +kernel⟩, by omega, rfl, ?_⟩
    exact hk _ _ _ (Int.emod_nonneg _ (by omega)) (Int.emod_lt_of_pos _ (by omega))
def afSome : AF := fun ρ k => ∃ a b ds, ρ = [cupS a b, .im (.lst ds)] ∧ ds ≠ [] ∧ ds.length ≤ 1000 ∧ ∀ d ∈ ds, ∀ a' b', k d [cupS a' b', .im (.lst ds)]
theorem ok_law_some (Bn : Bt mg) (h : Here K mg "_law_some" sLawSome ["cup", "things"]) (d_law_roll : Df P w K mg base 1 "_law_roll" afRoll) : Df P w K mg base 2 "_law_some" afSome := by
  refine df_ok h scLawSome [] (fun ρ kk h => by obtain ⟨_, _, _, rfl, _⟩ := h; rfl) (fun f cdv A outer s H E hr => ⟨_, _, _, (gss_one (gs_ret (ge_ixK (K := K) (gv 1) (ge_dfK d_law_roll hr (ga_cons (gv 0) (ga_cons (ge_lenK (K := K) Bn (ga_cons (gv 1) ga_nil)) ga_nil)))))), fun ρ kk h => ?_⟩)
  obtain ⟨a, b, ds, rfl, hn, hl, hk⟩ := h
  refine ⟨rfl, ?_⟩
  try dsimp only [fAll, isOl, isOd, fSum, aRet, aRetN, aAndV, aOrV, aNotV, aIsi, aVar, aC, aChain, aOp, aUn, aTest, aTru, truD, aAnd, aOr, aNot, aIf, aCons, aNil, aTup, aLst, imAll, aCB, resAll, res, aCall, bok, isOw, bos, svOf, back, aNext, aSeq, aIfS, aAsg, aAsgO, aName, aGTup, aGCons, aGNil, aDrop, aFrz, frz, aOfL, fI0, fI, fNeg, fPlus, fLen, fTuple, fInt, fAbs, fMax2, fMin2, fIsN, fNotN, fIsB, fNotB, isNonD, isT, aApp, aAug, aPop, aSetI, aPar, aPar3, aMIm, aMFr, svM, aList, aSl, aPart, aNoPart, aISeq, aRg1, aRg2, aYes, wipeA, mrg, noOw, still, retA, Option.map, List.map, List.getElem?_cons_zero, List.getElem?_cons_succ, List.set_cons_zero, List.set_cons_succ, List.cons_append, List.nil_append, List.replicate, List.length_cons, List.length_nil, Bool.not_true, Bool.not_false, Bool.and_true, Bool.true_and, aZipTwo, aZip3, aZip2, aZ2, seqD, aEnum, aSrt, fIxN, fInN, fLenN, aSetN, aAsgN, aDNew, aMFd, aOfN, aLenSet, aIndex, aRg3d, aDisp1, aAsgNew, fMinT, fMaxT]
  have hpos : 0 < ds.length := List.length_pos_iff.mpr hn
  refine ⟨rfl, a, b, ds.length, rfl, ⟨by omega, by omega⟩, fun v a' b' v0 v1 => ?_⟩
  have hv : v.toNat < ds.length := by omega
  refine ⟨_, atI_nat v0 (List.getElem?_eq_getElem hv), rfl, ?_⟩
  exact hk _ (List.getElem_mem hv) a' b'
def afSame (n : Nat) : AF := fun ρ k => ∃ d, ρ = [.im d, .im d] ∧ numd d = true ∧ small d = true ∧ deep d < n ∧ k (.bl true) ρ
theorem ok_law_same0 (Bn : Bt mg) (h : Here K mg "_law_same" sLawSame ["told", "due"]) : Df P w K mg base 0 "_law_same" (afSame 0) := by
  obtain ⟨f, fd, Fn, hm, hb⟩ := h
  have no : ∀ vs H Q E, ¬ SpF K (afSame 0) vs H Q E := fun vs H Q E z => by
    obtain ⟨ρ, F, k, _, ⟨d, _, _, _, z, _⟩, _⟩ := z
    exact absurd z (Nat.not_lt_zero _)
  exact ⟨f, fd, _, ⟨fun vs H Q E z => (no _ _ _ _ z).elim, fun _ _ _ _ _ _ _ _ _ _ _ _ _ z => (no _ _ _ _ z).elim⟩, hm, Fn.kp, hb⟩
theorem ok_law_same (Bn : Bt mg) (h : Here K mg "_law_same" sLawSame ["told", "due"]) : ∀ n : Nat, Df P w K mg base n "_law_same" (afSame n)
  | 0 => ok_law_same0 Bn h
  | n + 1 => by
    have d_law_same := ok_law_same Bn h n
    refine df_ok h scLawSame [.un] (fun ρ kk h => by obtain ⟨_, rfl, _⟩ := h; rfl) (fun f cdv A outer s H E hr => ⟨_, _, _, (gss_cons (gs_if (GW.gt (gw_or (gt_truthK (K := K) (ge_isiK (K := K) .tuple Bn.isinstance Bn.tuple (gv 1))) (gw_or1 (gt_truthK (K := K) (ge_isiK (K := K) .list Bn.isinstance Bn.list (gv 1)))))) (gss_cons (gs_if (GW.gt (gw_or (gt_ne (K := K) hr.units (ge_isiK (K := K) .tuple Bn.isinstance Bn.tuple (gv 0)) (ge_isiK (K := K) .tuple Bn.isinstance Bn.tuple (gv 1)) (nomark _)) (gw_or (gt_ne (K := K) hr.units (ge_isiK (K := K) .list Bn.isinstance Bn.list (gv 0)) (ge_isiK (K := K) .list Bn.isinstance Bn.list (gv 1)) (nomark _)) (gw_or1 (gt_ne (K := K) hr.units (ge_lenK (K := K) Bn (ga_cons (gv 0) ga_nil)) (ge_lenK (K := K) Bn (ga_cons (gv 1) ga_nil)) (nomark _)))))) (gss_one (gs_ret ge_bl)) gss_nil)
      (gss_one (gs_ret (ge_eq (K := K) hr.units (GL.e (gl_lc rfl scLawSame.nd (blkOk_by (own := [("at", 2)]) (by kernel_rfl)) (gi_rg1 Bn (ga_cons (ge_lenK (K := K) Bn (ga_cons (gv 1) ga_nil)) ga_nil)) (fun _ _ _ _ _ => (gg_name scLawSame.nd (i := 2))) (fun _ _ _ _ _ => (gts_one (gt_not (gt_truthK (K := K) (ge_dfK d_law_same hr (ga_cons (ge_ixK (K := K) (gv 0) (gv 2)) (ga_cons (ge_ixK (K := K) (gv 1) (gv 2)) ga_nil)) (hk := Nat.le_refl _)))))) (fun _ _ _ _ _ => ge_int))) (GL.e (gl_lst ga_nil)) (nomark _))))) gss_nil)
      (gss_cons (gs_if (gt_cmp op_isN lk_isN (gv 1) ge_non (nomark _)) (gss_one (gs_ret (ge_cmp op_isN lk_isN (gv 0) ge_non (nomark _)))) gss_nil)
      (gss_cons (gs_if (gt_truthK (K := K) (ge_isiK (K := K) .bool Bn.isinstance Bn.bool (gv 1))) (gss_one (gs_ret (ge_if (gt_truthK (K := K) (gv 1)) (ge_cmp op_isBl lk_isB (gv 0) ge_bl (nomark _)) (ge_cmp op_isBl lk_isB (gv 0) ge_bl (nomark _))))) gss_nil)
      (gss_cons (gs_if (gt_truthK (K := K) (ge_isiK (K := K) .int Bn.isinstance Bn.int (gv 1))) (gss_one (gs_ret (ge_and (ge_isiK (K := K) .int Bn.isinstance Bn.int (gv 0)) (ge_and (ge_not (ge_isiK (K := K) .bool Bn.isinstance Bn.bool (gv 0))) (ge_one (ge_eq (K := K) hr.units (ge_int1 Bn (ga_cons (gv 0) ga_nil)) (gv 1) (nomark _))))))) gss_nil)
      (gss_one gs_never))))), fun ρ kk h => ?_⟩)
    obtain ⟨d, rfl, hn, hs, hd, hk⟩ := h
    refine ⟨rfl, ?_⟩
    cases d with
    | non => exact ⟨rfl, hk⟩
    | bl b => cases b <;> exact ⟨rfl, hk⟩
    | int i =>
      try dsimp only [fAll, isOl, isOd, fSum, aRet, aRetN, aAndV, aOrV, aNotV, aIsi, aVar, aC, aChain, aOp, aUn, aTest, aTru, truD, aAnd, aOr, aNot, aIf, aCons, aNil, aTup, aLst, imAll, aCB, resAll, res, aCall, bok, isOw, bos, svOf, back, aNext, aSeq, aIfS, aAsg, aAsgO, aName, aGTup, aGCons, aGNil, aDrop, aFrz, frz, aOfL, fI0, fI, fNeg, fPlus, fLen, fTuple, fInt, fAbs, fMax2, fMin2, fIsN, fNotN, fIsB, fNotB, isNonD, isT, aApp, aAug, aPop, aSetI, aPar, aPar3, aMIm, aMFr, svM, aList, aSl, aPart, aNoPart, aISeq, aRg1, aRg2, aYes, wipeA, mrg, noOw, still, retA, Option.map, List.map, List.getElem?_cons_zero, List.getElem?_cons_succ, List.set_cons_zero, List.set_cons_succ, List.cons_append, List.nil_append, List.replicate, List.length_cons, List.length_nil, Bool.not_true, Bool.not_false, Bool.and_true, Bool.true_and, aZipTwo, aZip3, aZip2, aZ2, seqD, aEnum, aSrt, fIxN, fInN, fLenN, aSetN, aAsgN, aDNew, aMFd, aOfN, aLenSet, aIndex, aRg3d, aDisp1, aAsgNew, fMinT, fMaxT]
      refine ⟨rfl, rfl, rfl, ?_⟩
      rw [eqv_int, beq_self_eq_true]
      exact hk
    | tup ds =>
      try dsimp only [fAll, isOl, isOd, fSum, aRet, aRetN, aAndV, aOrV, aNotV, aIsi, aVar, aC, aChain, aOp, aUn, aTest, aTru, truD, aAnd, aOr, aNot, aIf, aCons, aNil, aTup, aLst, imAll, aCB, resAll, res, aCall, bok, isOw, bos, svOf, back, aNext, aSeq, aIfS, aAsg, aAsgO, aName, aGTup, aGCons, aGNil, aDrop, aFrz, frz, aOfL, fI0, fI, fNeg, fPlus, fLen, fTuple, fInt, fAbs, fMax2, fMin2, fIsN, fNotN, fIsB, fNotB, isNonD, isT, aApp, aAug, aPop, aSetI, aPar, aPar3, aMIm, aMFr, svM, aList, aSl, aPart, aNoPart, aISeq, aRg1, aRg2, aYes, wipeA, mrg, noOw, still, retA, Option.map, List.map, List.getElem?_cons_zero, List.getElem?_cons_succ, List.set_cons_zero, List.set_cons_succ, List.cons_append, List.nil_append, List.replicate, List.length_cons, List.length_nil, Bool.not_true, Bool.not_false, Bool.and_true, Bool.true_and, aZipTwo, aZip3, aZip2, aZ2, seqD, aEnum, aSrt, fIxN, fInN, fLenN, aSetN, aAsgN, aDNew, aMFd, aOfN, aLenSet, aIndex, aRg3d, aDisp1, aAsgNew, fMinT, fMaxT]
      refine ⟨rfl, rfl, ?_⟩
      rw [eqv_bl]
      refine ⟨rfl, rfl, ?_⟩
      rw [eqv_bl]
      refine ⟨rfl, rfl, ?_⟩
      rw [eqv_int, beq_self_eq_true]
      simp only [Bool.not_true, Bool.false_eq_true, if_false]
      unfold numd at hn
      unfold small at hs
      unfold deep at hd
      simp only [Bool.and_eq_true, decide_eq_true_eq] at hs
      refine aLc_pureM (rgI 0 (ds.length : Int)) D.int (fun _ => false) (fun _ => .int 1) (fun k' hk' => ?_) rfl (by rw [rgI_len]; omega) (fun x hx Wy Wn hy hn' => ?_) ?_
      · try dsimp only [fAll, isOl, isOd, fSum, aRet, aRetN, aAndV, aOrV, aNotV, aIsi, aVar, aC, aChain, aOp, aUn, aTest, aTru, truD, aAnd, aOr, aNot, aIf, aCons, aNil, aTup, aLst, imAll, aCB, resAll, res, aCall, bok, isOw, bos, svOf, back, aNext, aSeq, aIfS, aAsg, aAsgO, aName, aGTup, aGCons, aGNil, aDrop, aFrz, frz, aOfL, fI0, fI, fNeg, fPlus, fLen, fTuple, fInt, fAbs, fMax2, fMin2, fIsN, fNotN, fIsB, fNotB, isNonD, isT, aApp, aAug, aPop, aSetI, aPar, aPar3, aMIm, aMFr, svM, aList, aSl, aPart, aNoPart, aISeq, aRg1, aRg2, aYes, wipeA, mrg, noOw, still, retA, Option.map, List.map, List.getElem?_cons_zero, List.getElem?_cons_succ, List.set_cons_zero, List.set_cons_succ, List.cons_append, List.nil_append, List.replicate, List.length_cons, List.length_nil, Bool.not_true, Bool.not_false, Bool.and_true, Bool.true_and, aZipTwo, aZip3, aZip2, aZ2, seqD, aEnum, aSrt, fIxN, fInN, fLenN, aSetN, aAsgN, aDNew, aMFd, aOfN, aLenSet, aIndex, aRg3d, aDisp1, aAsgNew, fMinT, fMaxT]
        rw [rng_rgI0]
        exact ⟨by omega, hk'⟩
      · obtain ⟨x0, x1⟩ := rgI_mem.mp hx
        have hxl : x.toNat < ds.length := by omega
        have hm := List.getElem_mem hxl
        have ha := atI_nat x0 (List.getElem?_eq_getElem hxl)
        try dsimp only [fAll, isOl, isOd, fSum, aRet, aRetN, aAndV, aOrV, aNotV, aIsi, aVar, aC, aChain, aOp, aUn, aTest, aTru, truD, aAnd, aOr, aNot, aIf, aCons, aNil, aTup, aLst, imAll, aCB, resAll, res, aCall, bok, isOw, bos, svOf, back, aNext, aSeq, aIfS, aAsg, aAsgO, aName, aGTup, aGCons, aGNil, aDrop, aFrz, frz, aOfL, fI0, fI, fNeg, fPlus, fLen, fTuple, fInt, fAbs, fMax2, fMin2, fIsN, fNotN, fIsB, fNotB, isNonD, isT, aApp, aAug, aPop, aSetI, aPar, aPar3, aMIm, aMFr, svM, aList, aSl, aPart, aNoPart, aISeq, aRg1, aRg2, aYes, wipeA, mrg, noOw, still, retA, Option.map, List.map, List.getElem?_cons_zero, List.getElem?_cons_succ, List.set_cons_zero, List.set_cons_succ, List.cons_append, List.nil_append, List.replicate, List.length_cons, List.length_nil, Bool.not_true, Bool.not_false, Bool.and_true, Bool.true_and, aZipTwo, aZip3, aZip2, aZ2, seqD, aEnum, aSrt, fIxN, fInN, fLenN, aSetN, aAsgN, aDNew, aMFd, aOfN, aLenSet, aIndex, aRg3d, aDisp1, aAsgNew, fMinT, fMaxT]
        refine ⟨_, ha, _, ha, rfl, ds[x.toNat], rfl, numds_mem hn hm, smalls_mem hs.2 hm, ?_, ?_⟩
        · have := deeps_mem hm
          omega
        · exact hn' rfl
      · rw [show ((rgI 0 (ds.length : Int)).filter fun _ => false) = [] from List.filter_eq_nil_iff.mpr fun _ _ => by decide]
        try dsimp only [fAll, isOl, isOd, fSum, aRet, aRetN, aAndV, aOrV, aNotV, aIsi, aVar, aC, aChain, aOp, aUn, aTest, aTru, truD, aAnd, aOr, aNot, aIf, aCons, aNil, aTup, aLst, imAll, aCB, resAll, res, aCall, bok, isOw, bos, svOf, back, aNext, aSeq, aIfS, aAsg, aAsgO, aName, aGTup, aGCons, aGNil, aDrop, aFrz, frz, aOfL, fI0, fI, fNeg, fPlus, fLen, fTuple, fInt, fAbs, fMax2, fMin2, fIsN, fNotN, fIsB, fNotB, isNonD, isT, aApp, aAug, aPop, aSetI, aPar, aPar3, aMIm, aMFr, svM, aList, aSl, aPart, aNoPart, aISeq, aRg1, aRg2, aYes, wipeA, mrg, noOw, still, retA, Option.map, List.map, List.getElem?_cons_zero, List.getElem?_cons_succ, List.set_cons_zero, List.set_cons_succ, List.cons_append, List.nil_append, List.replicate, List.length_cons, List.length_nil, Bool.not_true, Bool.not_false, Bool.and_true, Bool.true_and, aZipTwo, aZip3, aZip2, aZ2, seqD, aEnum, aSrt, fIxN, fInN, fLenN, aSetN, aAsgN, aDNew, aMFd, aOfN, aLenSet, aIndex, aRg3d, aDisp1, aAsgNew, fMinT, fMaxT]
        refine ⟨by decide, rfl, rfl, rfl, ?_⟩
        rw [show eqv (.lst []) (.lst []) = true by simp [eqv, eqvs]]
        exact hk
    | lst ds =>
      try dsimp only [fAll, isOl, isOd, fSum, aRet, aRetN, aAndV, aOrV, aNotV, aIsi, aVar, aC, aChain, aOp, aUn, aTest, aTru, truD, aAnd, aOr, aNot, aIf, aCons, aNil, aTup, aLst, imAll, aCB, resAll, res, aCall, bok, isOw, bos, svOf, back, aNext, aSeq, aIfS, aAsg, aAsgO, aName, aGTup, aGCons, aGNil, aDrop, aFrz, frz, aOfL, fI0, fI, fNeg, fPlus, fLen, fTuple, fInt, fAbs, fMax2, fMin2, fIsN, fNotN, fIsB, fNotB, isNonD, isT, aApp, aAug, aPop, aSetI, aPar, aPar3, aMIm, aMFr, svM, aList, aSl, aPart, aNoPart, aISeq, aRg1, aRg2, aYes, wipeA, mrg, noOw, still, retA, Option.map, List.map, List.getElem?_cons_zero, List.getElem?_cons_succ, List.set_cons_zero, List.set_cons_succ, List.cons_append, List.nil_append, List.replicate, List.length_cons, List.length_nil, Bool.not_true, Bool.not_false, Bool.and_true, Bool.true_and, aZipTwo, aZip3, aZip2, aZ2, seqD, aEnum, aSrt, fIxN, fInN, fLenN, aSetN, aAsgN, aDNew, aMFd, aOfN, aLenSet, aIndex, aRg3d, aDisp1, aAsgNew, fMinT, fMaxT]
      refine ⟨rfl, rfl, ?_⟩
      rw [eqv_bl]
      refine ⟨rfl, rfl, ?_⟩
      rw [eqv_bl]
      refine ⟨rfl, rfl, ?_⟩
      rw [eqv_int, beq_self_eq_true]
      simp only [Bool.not_true, Bool.false_eq_true, if_false]
      unfold numd at hn
      unfold small at hs
      unfold deep at hd
      simp only [Bool.and_eq_true, decide_eq_true_eq] at hs
      refine aLc_pureM (rgI 0 (ds.length : Int)) D.int (fun _ => false) (fun _ => .int 1) (fun k' hk' => ?_) rfl (by rw [rgI_len]; omega) (fun x hx Wy Wn hy hn' => ?_) ?_
      · try dsimp only [fAll, isOl, isOd, fSum, aRet, aRetN, aAndV, aOrV, aNotV, aIsi, aVar, aC, aChain, aOp, aUn, aTest, aTru, truD, aAnd, aOr, aNot, aIf, aCons, aNil, aTup, aLst, imAll, aCB, resAll, res, aCall, bok, isOw, bos, svOf, back, aNext, aSeq, aIfS, aAsg, aAsgO, aName, aGTup, aGCons, aGNil, aDrop, aFrz, frz, aOfL, fI0, fI, fNeg, fPlus, fLen, fTuple, fInt, fAbs, fMax2, fMin2, fIsN, fNotN, fIsB, fNotB, isNonD, isT, aApp, aAug, aPop, aSetI, aPar, aPar3, aMIm, aMFr, svM, aList, aSl, aPart, aNoPart, aISeq, aRg1, aRg2, aYes, wipeA, mrg, noOw, still, retA, Option.map, List.map, List.getElem?_cons_zero, List.getElem?_cons_succ, List.set_cons_zero, List.set_cons_succ, List.cons_append, List.nil_append, List.replicate, List.length_cons, List.length_nil, Bool.not_true, Bool.not_false, Bool.and_true, Bool.true_and, aZipTwo, aZip3, aZip2, aZ2, seqD, aEnum, aSrt, fIxN, fInN, fLenN, aSetN, aAsgN, aDNew, aMFd, aOfN, aLenSet, aIndex, aRg3d, aDisp1, aAsgNew, fMinT, fMaxT]
        rw [rng_rgI0]
        exact ⟨by omega, hk'⟩
      · obtain ⟨x0, x1⟩ := rgI_mem.mp hx
        have hxl : x.toNat < ds.length := by omega
        have hm := List.getElem_mem hxl
        have ha := atI_nat x0 (List.getElem?_eq_getElem hxl)
        try dsimp only [fAll, isOl, isOd, fSum, aRet, aRetN, aAndV, aOrV, aNotV, aIsi, aVar, aC, aChain, aOp, aUn, aTest, aTru, truD, aAnd, aOr, aNot, aIf, aCons, aNil, aTup, aLst, imAll, aCB, resAll, res, aCall, bok, isOw, bos, svOf, back, aNext, aSeq, aIfS, aAsg, aAsgO, aName, aGTup, aGCons, aGNil, aDrop, aFrz, frz, aOfL, fI0, fI, fNeg, fPlus, fLen, fTuple, fInt, fAbs, fMax2, fMin2, fIsN, fNotN, fIsB, fNotB, isNonD, isT, aApp, aAug, aPop, aSetI, aPar, aPar3, aMIm, aMFr, svM, aList, aSl, aPart, aNoPart, aISeq, aRg1, aRg2, aYes, wipeA, mrg, noOw, still, retA, Option.map, List.map, List.getElem?_cons_zero, List.getElem?_cons_succ, List.set_cons_zero, List.set_cons_succ, List.cons_append, List.nil_append, List.replicate, List.length_cons, List.length_nil, Bool.not_true, Bool.not_false, Bool.and_true, Bool.true_and, aZipTwo, aZip3, aZip2, aZ2, seqD, aEnum, aSrt, fIxN, fInN, fLenN, aSetN, aAsgN, aDNew, aMFd, aOfN, aLenSet, aIndex, aRg3d, aDisp1, aAsgNew, fMinT, fMaxT]
        refine ⟨_, ha, _, ha, rfl, ds[x.toNat], rfl, numds_mem hn hm, smalls_mem hs.2 hm, ?_, ?_⟩
        · have := deeps_mem hm
          omega
        · exact hn' rfl
      · rw [show ((rgI 0 (ds.length : Int)).filter fun _ => false) = [] from List.filter_eq_nil_iff.mpr fun _ _ => by decide]
        try dsimp only [fAll, isOl, isOd, fSum, aRet, aRetN, aAndV, aOrV, aNotV, aIsi, aVar, aC, aChain, aOp, aUn, aTest, aTru, truD, aAnd, aOr, aNot, aIf, aCons, aNil, aTup, aLst, imAll, aCB, resAll, res, aCall, bok, isOw, bos, svOf, back, aNext, aSeq, aIfS, aAsg, aAsgO, aName, aGTup, aGCons, aGNil, aDrop, aFrz, frz, aOfL, fI0, fI, fNeg, fPlus, fLen, fTuple, fInt, fAbs, fMax2, fMin2, fIsN, fNotN, fIsB, fNotB, isNonD, isT, aApp, aAug, aPop, aSetI, aPar, aPar3, aMIm, aMFr, svM, aList, aSl, aPart, aNoPart, aISeq, aRg1, aRg2, aYes, wipeA, mrg, noOw, still, retA, Option.map, List.map, List.getElem?_cons_zero, List.getElem?_cons_succ, List.set_cons_zero, List.set_cons_succ, List.cons_append, List.nil_append, List.replicate, List.length_cons, List.length_nil, Bool.not_true, Bool.not_false, Bool.and_true, Bool.true_and, aZipTwo, aZip3, aZip2, aZ2, seqD, aEnum, aSrt, fIxN, fInN, fLenN, aSetN, aAsgN, aDNew, aMFd, aOfN, aLenSet, aIndex, aRg3d, aDisp1, aAsgNew, fMinT, fMaxT]
        refine ⟨by decide, rfl, rfl, rfl, ?_⟩
        rw [show eqv (.lst []) (.lst []) = true by simp [eqv, eqvs]]
        exact hk
    | _ => cases hn

end
end K89

namespace K89
open PySem PySem.Spec L2 DL
open PyProof.Rows hiding St
section
variable {P : Program} {w : World} {K : PySem.W.Frag} {mg : Str → Option Value} {base : Heap}
def afLawBox : AF := fun ρ k => ∃ r c, ρ = [.im (.int r), .im (.int c)] ∧ (0 ≤ r ∧ r ≤ 60 ∧ 0 ≤ c ∧ c ≤ 60) ∧ k (.lst (csD (boxC r c))) ρ
theorem ok_law_box (Bn : Bt mg) (h : Here K mg "_law_box" sLawBox ["rows", "columns"]) : Df P w K mg base 1 "_law_box" afLawBox := by
  refine df_ok h scLawBox [.un, .un, .un] (fun ρ kk h => by obtain ⟨_, _, rfl, _⟩ := h; rfl) (fun f cdv A outer s H E hr => ⟨_, _, _, (gss_cons (gs_set (i := 2) scLawBox.nd (GL.e (gl_lst ga_nil)))
      (gss_cons (gs_for PassesOwn.never rfl (gi_rg1 Bn (ga_cons (gv 0) ga_nil)) (gg_name scLawBox.nd (i := 3))
      (gss_one (gs_set (i := 2) scLawBox.nd (ge_plus (K := K) (gv 2) (GL.e (gl_lc rfl scLawBox.nd (blkOk_by (own := [("column", 4)]) (by kernel_rfl)) (gi_rg1 Bn (ga_cons (gv 1) ga_nil)) (fun _ _ _ _ _ => (gg_name scLawBox.nd (i := 4))) (fun _ _ _ _ _ => gts_nil) (fun _ _ _ _ _ => (ge_tup (ga_cons (gv 3) (ga_cons (gv 4) ga_nil))))))))))
      (gss_one (gs_ret (gv 2))))), fun ρ kk h => ?_⟩)
  obtain ⟨r, c, rfl, hb, hk⟩ := h
  refine ⟨rfl, ?_⟩
  refine aSeq_cut (fun ρ' => ρ' = [.im (.int r), .im (.int c), .im (.lst []), .un, .un]) (fun N hN => ?_) (fun ρ' h => ?_)
  · try dsimp only [fAll, isOl, isOd, fSum, aRet, aRetN, aAndV, aOrV, aNotV, aIsi, aVar, aC, aChain, aOp, aUn, aTest, aTru, truD, aAnd, aOr, aNot, aIf, aCons, aNil, aTup, aLst, imAll, aCB, resAll, res, aCall, bok, isOw, bos, svOf, back, aNext, aSeq, aIfS, aAsg, aAsgO, aName, aGTup, aGCons, aGNil, aDrop, aFrz, frz, aOfL, fI0, fI, fNeg, fPlus, fLen, fTuple, fInt, fAbs, fMax2, fMin2, fIsN, fNotN, fIsB, fNotB, isNonD, isT, aApp, aAug, aPop, aSetI, aPar, aPar3, aMIm, aMFr, svM, aList, aSl, aPart, aNoPart, aISeq, aRg1, aRg2, aYes, wipeA, mrg, noOw, still, retA, Option.map, List.map, List.getElem?_cons_zero, List.getElem?_cons_succ, List.set_cons_zero, List.set_cons_succ, List.cons_append, List.nil_append, List.replicate, List.length_cons, List.length_nil, Bool.not_true, Bool.not_false, Bool.and_true, Bool.true_and, aZipTwo, aZip3, aZip2, aZ2, seqD, aEnum, aSrt, fIxN, fInN, fLenN, aSetN, aAsgN, aDNew, aMFd, aOfN, aLenSet, aIndex, aRg3d, aDisp1, aAsgNew, fMinT, fMaxT, aPopAt]
    exact ⟨by decide, hN _ rfl⟩
  subst h
  refine aSeq_cut (fun ρ' => ∃ s3, ρ' = [.im (.int r), .im (.int c), .im (.lst (csD (boxC r c))), s3, .un]) (fun N hN => ?_) (fun ρ' h => ?_)
  · refine aFor_map (rgI 0 r) D.int (fun pre ρ' => ∃ s3, ρ' = [.im (.int r), .im (.int c), .im (.lst (csD (pre.flatMap fun i => (rgI 0 c).map fun j => (i, j)))), s3, .un]) (fun k' hk' => ?_) ⟨_, rfl⟩ (fun pre i post ρ' hx hI N' hN' => ?_) ?_
    · try dsimp only [fAll, isOl, isOd, fSum, aRet, aRetN, aAndV, aOrV, aNotV, aIsi, aVar, aC, aChain, aOp, aUn, aTest, aTru, truD, aAnd, aOr, aNot, aIf, aCons, aNil, aTup, aLst, imAll, aCB, resAll, res, aCall, bok, isOw, bos, svOf, back, aNext, aSeq, aIfS, aAsg, aAsgO, aName, aGTup, aGCons, aGNil, aDrop, aFrz, frz, aOfL, fI0, fI, fNeg, fPlus, fLen, fTuple, fInt, fAbs, fMax2, fMin2, fIsN, fNotN, fIsB, fNotB, isNonD, isT, aApp, aAug, aPop, aSetI, aPar, aPar3, aMIm, aMFr, svM, aList, aSl, aPart, aNoPart, aISeq, aRg1, aRg2, aYes, wipeA, mrg, noOw, still, retA, Option.map, List.map, List.getElem?_cons_zero, List.getElem?_cons_succ, List.set_cons_zero, List.set_cons_succ, List.cons_append, List.nil_append, List.replicate, List.length_cons, List.length_nil, Bool.not_true, Bool.not_false, Bool.and_true, Bool.true_and, aZipTwo, aZip3, aZip2, aZ2, seqD, aEnum, aSrt, fIxN, fInN, fLenN, aSetN, aAsgN, aDNew, aMFd, aOfN, aLenSet, aIndex, aRg3d, aDisp1, aAsgNew, fMinT, fMaxT, aPopAt]
      rw [rng_rgI0]
      exact ⟨by omega, hk'⟩
    · obtain ⟨s3, rfl⟩ := hI
      try dsimp only [fAll, isOl, isOd, fSum, aRet, aRetN, aAndV, aOrV, aNotV, aIsi, aVar, aC, aChain, aOp, aUn, aTest, aTru, truD, aAnd, aOr, aNot, aIf, aCons, aNil, aTup, aLst, imAll, aCB, resAll, res, aCall, bok, isOw, bos, svOf, back, aNext, aSeq, aIfS, aAsg, aAsgO, aName, aGTup, aGCons, aGNil, aDrop, aFrz, frz, aOfL, fI0, fI, fNeg, fPlus, fLen, fTuple, fInt, fAbs, fMax2, fMin2, fIsN, fNotN, fIsB, fNotB, isNonD, isT, aApp, aAug, aPop, aSetI, aPar, aPar3, aMIm, aMFr, svM, aList, aSl, aPart, aNoPart, aISeq, aRg1, aRg2, aYes, wipeA, mrg, noOw, still, retA, Option.map, List.map, List.getElem?_cons_zero, List.getElem?_cons_succ, List.set_cons_zero, List.set_cons_succ, List.cons_append, List.nil_append, List.replicate, List.length_cons, List.length_nil, Bool.not_true, Bool.not_false, Bool.and_true, Bool.true_and, aZipTwo, aZip3, aZip2, aZ2, seqD, aEnum, aSrt, fIxN, fInN, fLenN, aSetN, aAsgN, aDNew, aMFd, aOfN, aLenSet, aIndex, aRg3d, aDisp1, aAsgNew, fMinT, fMaxT, aPopAt]
      refine aLc_mapM (rgI 0 c) D.int (fun j => cD (i, j)) (fun k' hk' => ?_) rfl (by rw [rgI_len]; omega) (fun j hj Wy hW => ?_) ?_
      · try dsimp only [fAll, isOl, isOd, fSum, aRet, aRetN, aAndV, aOrV, aNotV, aIsi, aVar, aC, aChain, aOp, aUn, aTest, aTru, truD, aAnd, aOr, aNot, aIf, aCons, aNil, aTup, aLst, imAll, aCB, resAll, res, aCall, bok, isOw, bos, svOf, back, aNext, aSeq, aIfS, aAsg, aAsgO, aName, aGTup, aGCons, aGNil, aDrop, aFrz, frz, aOfL, fI0, fI, fNeg, fPlus, fLen, fTuple, fInt, fAbs, fMax2, fMin2, fIsN, fNotN, fIsB, fNotB, isNonD, isT, aApp, aAug, aPop, aSetI, aPar, aPar3, aMIm, aMFr, svM, aList, aSl, aPart, aNoPart, aISeq, aRg1, aRg2, aYes, wipeA, mrg, noOw, still, retA, Option.map, List.map, List.getElem?_cons_zero, List.getElem?_cons_succ, List.set_cons_zero, List.set_cons_succ, List.cons_append, List.nil_append, List.replicate, List.length_cons, List.length_nil, Bool.not_true, Bool.not_false, Bool.and_true, Bool.true_and, aZipTwo, aZip3, aZip2, aZ2, seqD, aEnum, aSrt, fIxN, fInN, fLenN, aSetN, aAsgN, aDNew, aMFd, aOfN, aLenSet, aIndex, aRg3d, aDisp1, aAsgNew, fMinT, fMaxT, aPopAt]
        rw [rng_rgI0]
        exact ⟨by omega, hk'⟩
      · try dsimp only [fAll, isOl, isOd, fSum, aRet, aRetN, aAndV, aOrV, aNotV, aIsi, aVar, aC, aChain, aOp, aUn, aTest, aTru, truD, aAnd, aOr, aNot, aIf, aCons, aNil, aTup, aLst, imAll, aCB, resAll, res, aCall, bok, isOw, bos, svOf, back, aNext, aSeq, aIfS, aAsg, aAsgO, aName, aGTup, aGCons, aGNil, aDrop, aFrz, frz, aOfL, fI0, fI, fNeg, fPlus, fLen, fTuple, fInt, fAbs, fMax2, fMin2, fIsN, fNotN, fIsB, fNotB, isNonD, isT, aApp, aAug, aPop, aSetI, aPar, aPar3, aMIm, aMFr, svM, aList, aSl, aPart, aNoPart, aISeq, aRg1, aRg2, aYes, wipeA, mrg, noOw, still, retA, Option.map, List.map, List.getElem?_cons_zero, List.getElem?_cons_succ, List.set_cons_zero, List.set_cons_succ, List.cons_append, List.nil_append, List.replicate, List.length_cons, List.length_nil, Bool.not_true, Bool.not_false, Bool.and_true, Bool.true_and, aZipTwo, aZip3, aZip2, aZ2, seqD, aEnum, aSrt, fIxN, fInN, fLenN, aSetN, aAsgN, aDNew, aMFd, aOfN, aLenSet, aIndex, aRg3d, aDisp1, aAsgNew, fMinT, fMaxT, aPopAt]
        exact ⟨by decide, _, rfl, hW⟩
      · obtain ⟨h1, h2, h3, h4⟩ := rgI_pre hx
        have hl : (csD (pre.flatMap fun i => (rgI 0 c).map fun j => (i, j))).length ≤ 3600 := by
          rw [csD_len, boxp_len, h1, rgI_len]
          have : (i - 0).toNat * c.toNat ≤ 60 * 60 := Nat.mul_le_mul (by omega) (by omega)
          omega
        try dsimp only [fAll, isOl, isOd, fSum, aRet, aRetN, aAndV, aOrV, aNotV, aIsi, aVar, aC, aChain, aOp, aUn, aTest, aTru, truD, aAnd, aOr, aNot, aIf, aCons, aNil, aTup, aLst, imAll, aCB, resAll, res, aCall, bok, isOw, bos, svOf, back, aNext, aSeq, aIfS, aAsg, aAsgO, aName, aGTup, aGCons, aGNil, aDrop, aFrz, frz, aOfL, fI0, fI, fNeg, fPlus, fLen, fTuple, fInt, fAbs, fMax2, fMin2, fIsN, fNotN, fIsB, fNotB, isNonD, isT, aApp, aAug, aPop, aSetI, aPar, aPar3, aMIm, aMFr, svM, aList, aSl, aPart, aNoPart, aISeq, aRg1, aRg2, aYes, wipeA, mrg, noOw, still, retA, Option.map, List.map, List.getElem?_cons_zero, List.getElem?_cons_succ, List.set_cons_zero, List.set_cons_succ, List.cons_append, List.nil_append, List.replicate, List.length_cons, List.length_nil, Bool.not_true, Bool.not_false, Bool.and_true, Bool.true_and, aZipTwo, aZip3, aZip2, aZ2, seqD, aEnum, aSrt, fIxN, fInN, fLenN, aSetN, aAsgN, aDNew, aMFd, aOfN, aLenSet, aIndex, aRg3d, aDisp1, aAsgNew, fMinT, fMaxT, aPopAt]
        refine ⟨by rw [List.length_map, rgI_len]; omega, ?_⟩
        refine hN' _ ⟨.im (.int i), ?_⟩
        unfold csD
        rw [List.flatMap_append, List.flatMap_cons, List.flatMap_nil, List.append_nil, List.map_append, List.map_map]
        rfl
    · rintro ρ' ⟨s3, rfl⟩
      exact hN _ ⟨s3, rfl⟩
  obtain ⟨s3, rfl⟩ := h
  try dsimp only [fAll, isOl, isOd, fSum, aRet, aRetN, aAndV, aOrV, aNotV, aIsi, aVar, aC, aChain, aOp, aUn, aTest, aTru, truD, aAnd, aOr, aNot, aIf, aCons, aNil, aTup, aLst, imAll, aCB, resAll, res, aCall, bok, isOw, bos, svOf, back, aNext, aSeq, aIfS, aAsg, aAsgO, aName, aGTup, aGCons, aGNil, aDrop, aFrz, frz, aOfL, fI0, fI, fNeg, fPlus, fLen, fTuple, fInt, fAbs, fMax2, fMin2, fIsN, fNotN, fIsB, fNotB, isNonD, isT, aApp, aAug, aPop, aSetI, aPar, aPar3, aMIm, aMFr, svM, aList, aSl, aPart, aNoPart, aISeq, aRg1, aRg2, aYes, wipeA, mrg, noOw, still, retA, Option.map, List.map, List.getElem?_cons_zero, List.getElem?_cons_succ, List.set_cons_zero, List.set_cons_succ, List.cons_append, List.nil_append, List.replicate, List.length_cons, List.length_nil, Bool.not_true, Bool.not_false, Bool.and_true, Bool.true_and, aZipTwo, aZip3, aZip2, aZ2, seqD, aEnum, aSrt, fIxN, fInN, fLenN, aSetN, aAsgN, aDNew, aMFd, aOfN, aLenSet, aIndex, aRg3d, aDisp1, aAsgNew, fMinT, fMaxT, aPopAt]
  exact ⟨rfl, hk⟩
def afLawSize : AF := fun ρ k => ∃ a b, ρ = [cupS a b] ∧ ∀ r c a' b', (1 ≤ r ∧ r ≤ 60 ∧ 1 ≤ c ∧ c ≤ 60 ∧ r * c ≤ 400) → k (.tup [.int r, .int c]) [cupS a' b']
theorem ok_law_size (Bn : Bt mg) (h : Here K mg "_law_size" sLawSize ["cup"]) (d_law_roll : Df P w K mg base 1 "_law_roll" afRoll) (d_law_some : Df P w K mg base 2 "_law_some" afSome) : Df P w K mg base 3 "_law_size" afLawSize := by
  refine df_ok h scLawSize [.un] (fun ρ kk h => by obtain ⟨_, _, rfl, _⟩ := h; rfl) (fun f cdv A outer s H E hr => ⟨_, _, _, (gss_cons (gs_set (i := 1) scLawSize.nd (ge_plus (K := K) ge_int (ge_dfK d_law_roll hr (ga_cons (gv 0) (ga_cons (ge_dfK d_law_some hr (ga_cons (gv 0) (ga_cons (GL.e (gl_lst (ga_cons ge_int (ga_cons ge_int (ga_cons ge_int ga_nil))))) ga_nil))) ga_nil)))))
      (gss_one (gs_ret (ge_tup (ga_cons (gv 1) (ga_cons (ge_plus (K := K) ge_int (ge_dfK d_law_roll hr (ga_cons (gv 0) (ga_cons (ge_min2 rfl Bn (ga_cons ge_int (ga_cons (ge_int1 Bn (ga_cons (ge_op op_fdivW lk_fdivW ge_int (gv 1)) ga_nil)) ga_nil))) ga_nil)))) ga_nil)))))), fun ρ kk h => ?_⟩)
  obtain ⟨a, b, rfl, hk⟩ := h
  refine ⟨rfl, ?_⟩
  try dsimp only [fAll, isOl, isOd, fSum, aRet, aRetN, aAndV, aOrV, aNotV, aIsi, aVar, aC, aChain, aOp, aUn, aTest, aTru, truD, aAnd, aOr, aNot, aIf, aCons, aNil, aTup, aLst, imAll, aCB, resAll, res, aCall, bok, isOw, bos, svOf, back, aNext, aSeq, aIfS, aAsg, aAsgO, aName, aGTup, aGCons, aGNil, aDrop, aFrz, frz, aOfL, fI0, fI, fNeg, fPlus, fLen, fTuple, fInt, fAbs, fMax2, fMin2, fIsN, fNotN, fIsB, fNotB, isNonD, isT, aApp, aAug, aPop, aSetI, aPar, aPar3, aMIm, aMFr, svM, aList, aSl, aPart, aNoPart, aISeq, aRg1, aRg2, aYes, wipeA, mrg, noOw, still, retA, Option.map, List.map, List.getElem?_cons_zero, List.getElem?_cons_succ, List.set_cons_zero, List.set_cons_succ, List.cons_append, List.nil_append, List.replicate, List.length_cons, List.length_nil, Bool.not_true, Bool.not_false, Bool.and_true, Bool.true_and, aZipTwo, aZip3, aZip2, aZ2, seqD, aEnum, aSrt, fIxN, fInN, fLenN, aSetN, aAsgN, aDNew, aMFd, aOfN, aLenSet, aIndex, aRg3d, aDisp1, aAsgNew, fMinT, fMaxT, aPopAt]
  refine ⟨by decide, rfl, a, b, _, rfl, List.cons_ne_nil _ _, Nat.le_of_ble_eq_true rfl, fun d hd a b => ?_⟩
  obtain ⟨n, rfl, n1, n2⟩ : ∃ n, d = .int n ∧ 1 ≤ n ∧ n ≤ 60 := by
    simp only [List.mem_cons, List.not_mem_nil, or_false] at hd
    rcases hd with rfl | rfl | rfl
    · exact ⟨_, rfl, by decide, by decide⟩
    · exact ⟨_, rfl, by decide, by decide⟩
    · exact ⟨_, rfl, by decide, by decide⟩
  clear hd
  try dsimp only [fAll, isOl, isOd, fSum, aRet, aRetN, aAndV, aOrV, aNotV, aIsi, aVar, aC, aChain, aOp, aUn, aTest, aTru, truD, aAnd, aOr, aNot, aIf, aCons, aNil, aTup, aLst, imAll, aCB, resAll, res, aCall, bok, isOw, bos, svOf, back, aNext, aSeq, aIfS, aAsg, aAsgO, aName, aGTup, aGCons, aGNil, aDrop, aFrz, frz, aOfL, fI0, fI, fNeg, fPlus, fLen, fTuple, fInt, fAbs, fMax2, fMin2, fIsN, fNotN, fIsB, fNotB, isNonD, isT, aApp, aAug, aPop, aSetI, aPar, aPar3, aMIm, aMFr, svM, aList, aSl, aPart, aNoPart, aISeq, aRg1, aRg2, aYes, wipeA, mrg, noOw, still, retA, Option.map, List.map, List.getElem?_cons_zero, List.getElem?_cons_succ, List.set_cons_zero, List.set_cons_succ, List.cons_append, List.nil_append, List.replicate, List.length_cons, List.length_nil, Bool.not_true, Bool.not_false, Bool.and_true, Bool.true_and, aZipTwo, aZip3, aZip2, aZ2, seqD, aEnum, aSrt, fIxN, fInN, fLenN, aSetN, aAsgN, aDNew, aMFd, aOfN, aLenSet, aIndex, aRg3d, aDisp1, aAsgNew, fMinT, fMaxT, aPopAt]
  refine ⟨rfl, a, b, n, rfl, ⟨by omega, by omega⟩, fun v a b v0 v1 => ?_⟩
  have e0 : 6 ≤ 400 / (1 + v) := by
    have : (1 + v) * 6 ≤ 400 := by omega
    exact (Int.le_ediv_iff_mul_le (by omega)).mpr (by omega)
  have e1 : (1 + v) * (400 / (1 + v)) ≤ 400 := Int.mul_ediv_self_le (by omega)
  refine ⟨⟨by omega, by have := Nat.log2_le_self (1 + v).natAbs; omega⟩, rfl, a, b, _, rfl, ⟨by split <;> omega, by split <;> omega⟩, fun v2 a b w0 w1 => ?_⟩
  have hc : 1 + v2 ≤ 60 ∧ 1 + v2 ≤ 400 / (1 + v) := by
    by_cases c : 400 / (1 + v) < 60
    · rw [if_pos c] at w1; omega
    · rw [if_neg c] at w1; omega
  have hm : (1 + v) * (1 + v2) ≤ (1 + v) * (400 / (1 + v)) := Int.mul_le_mul_of_nonneg_left hc.2 (by omega)
  exact ⟨by decide, rfl, hk _ _ _ _ ⟨by omega, by omega, by omega, hc.1, by omega⟩⟩
theorem erase_perm {α : Type} {l : List α} {i : Nat} (h : i < l.length) : (l[i] :: l.eraseIdx i).Perm l := by
  rw [List.eraseIdx_eq_take_drop_succ]
  refine List.perm_middle.symm.trans ?_
  rw [← List.drop_eq_getElem_cons h, List.take_append_drop]
def afLawDrawn : AF := fun ρ k => ∃ a b cs, ρ = [cupS a b, .im (.tup (csD cs))] ∧ cs.length ≤ 7000 ∧ ∀ es a' b', es.Perm cs → k (.tup (csD es)) [cupS a' b', .im (.tup (csD cs))]
theorem ok_law_drawn (Bn : Bt mg) (h : Here K mg "_law_drawn" sLawDrawn ["cup", "cells"]) (d_law_roll : Df P w K mg base 1 "_law_roll" afRoll) : Df P w K mg base 2 "_law_drawn" afLawDrawn := by
  refine df_ok h scLawDrawn [.un, .un] (fun ρ kk h => by obtain ⟨_, _, _, rfl, _⟩ := h; rfl) (fun f cdv A outer s H E hr => ⟨_, _, _, (gss_cons (gs_par (i := 2) (j := 3) rfl scLawDrawn.nd (GL.m (gl_listK (K := K) Bn.list (ga_cons (gv 1) ga_nil))) (GL.m (gl_lst ga_nil)))
      (gss_cons (gs_while PassesOwn.never (gt_ne (K := K) hr.units (gv 2) (GL.e (gl_lst ga_nil)) (nomark _)) (gss_one (gs_expr (ge_appK (K := K) 3 (ge_popAt (K := K) 2 (ge_dfK d_law_roll hr (ga_cons (gv 0) (ga_cons (ge_lenK (K := K) Bn (ga_cons (gv 2) ga_nil)) ga_nil))))))))
      (gss_one (gs_ret (ge_tupleK (K := K) Bn (ga_cons (gv 3) ga_nil)))))), fun ρ kk h => ?_⟩)
  obtain ⟨a, b, cs, rfl, hl, hk⟩ := h
  refine ⟨rfl, ?_⟩
  refine aSeq_cut (fun ρ' => ρ' = [cupS a b, .im (.tup (csD cs)), .ow (.ol (csD cs)), .ow (.ol [])]) (fun N hN => ?_) (fun ρ' h => ?_)
  · try dsimp only [fAll, isOl, isOd, fSum, aRet, aRetN, aAndV, aOrV, aNotV, aIsi, aVar, aC, aChain, aOp, aUn, aTest, aTru, truD, aAnd, aOr, aNot, aIf, aCons, aNil, aTup, aLst, imAll, aCB, resAll, res, aCall, bok, isOw, bos, svOf, back, aNext, aSeq, aIfS, aAsg, aAsgO, aName, aGTup, aGCons, aGNil, aDrop, aFrz, frz, aOfL, fI0, fI, fNeg, fPlus, fLen, fTuple, fInt, fAbs, fMax2, fMin2, fIsN, fNotN, fIsB, fNotB, isNonD, isT, aApp, aAug, aPop, aSetI, aPar, aPar3, aMIm, aMFr, svM, aList, aSl, aPart, aNoPart, aISeq, aRg1, aRg2, aYes, wipeA, mrg, noOw, still, retA, Option.map, List.map, List.getElem?_cons_zero, List.getElem?_cons_succ, List.set_cons_zero, List.set_cons_succ, List.cons_append, List.nil_append, List.replicate, List.length_cons, List.length_nil, Bool.not_true, Bool.not_false, Bool.and_true, Bool.true_and, aZipTwo, aZip3, aZip2, aZ2, seqD, aEnum, aSrt, fIxN, fInN, fLenN, aSetN, aAsgN, aDNew, aMFd, aOfN, aLenSet, aIndex, aRg3d, aDisp1, aAsgNew, fMinT, fMaxT, aPopAt]
    exact ⟨Nat.zero_le _, hN _ rfl⟩
  subst h
  refine aSeq_cut (fun ρ' => ∃ a b s2 es, es.Perm cs ∧ ρ' = [cupS a b, .im (.tup (csD cs)), s2, .ow (.ol (csD es))]) (fun N hN => ?_) (fun ρ' h => ?_)
  · refine ⟨fun m ρ' => ∃ a b ls es, m = ls.length ∧ (es ++ ls).Perm cs ∧ ρ' = [cupS a b, .im (.tup (csD cs)), .ow (.ol (csD ls)), .ow (.ol (csD es))], ⟨_, a, b, cs, [], rfl, List.Perm.refl _, rfl⟩, fun m ρ' hW => ?_⟩
    obtain ⟨a, b, ls, es, rfl, hp, rfl⟩ := hW
    have lls : ls.length ≤ 7000 := by
      have := hp.length_eq
      rw [List.length_append] at this
      omega
    have les : es.length ≤ 7000 := by
      have := hp.length_eq
      rw [List.length_append] at this
      omega
    try dsimp only [fAll, isOl, isOd, fSum, aRet, aRetN, aAndV, aOrV, aNotV, aIsi, aVar, aC, aChain, aOp, aUn, aTest, aTru, truD, aAnd, aOr, aNot, aIf, aCons, aNil, aTup, aLst, imAll, aCB, resAll, res, aCall, bok, isOw, bos, svOf, back, aNext, aSeq, aIfS, aAsg, aAsgO, aName, aGTup, aGCons, aGNil, aDrop, aFrz, frz, aOfL, fI0, fI, fNeg, fPlus, fLen, fTuple, fInt, fAbs, fMax2, fMin2, fIsN, fNotN, fIsB, fNotB, isNonD, isT, aApp, aAug, aPop, aSetI, aPar, aPar3, aMIm, aMFr, svM, aList, aSl, aPart, aNoPart, aISeq, aRg1, aRg2, aYes, wipeA, mrg, noOw, still, retA, Option.map, List.map, List.getElem?_cons_zero, List.getElem?_cons_succ, List.set_cons_zero, List.set_cons_succ, List.cons_append, List.nil_append, List.replicate, List.length_cons, List.length_nil, Bool.not_true, Bool.not_false, Bool.and_true, Bool.true_and, aZipTwo, aZip3, aZip2, aZ2, seqD, aEnum, aSrt, fIxN, fInN, fLenN, aSetN, aAsgN, aDNew, aMFd, aOfN, aLenSet, aIndex, aRg3d, aDisp1, aAsgNew, fMinT, fMaxT, aPopAt]
    refine ⟨Nat.zero_le _, shp_csD _, rfl, ?_⟩
    cases e : ls with
    | nil =>
      subst e
      rw [show eqv (.lst (csD [])) (.lst []) = true by unfold csD; simp [eqv, eqvs]]
      rw [List.append_nil] at hp
      exact hN _ ⟨a, b, _, es, hp, rfl⟩
    | cons c ls' =>
      rw [← e]
      have h0 : 0 < ls.length := by rw [e]; exact Nat.succ_pos _
      rw [show eqv (.lst (csD ls)) (.lst []) = false by rw [e]; unfold csD; simp [eqv, eqvs]]
      try dsimp only [fAll, isOl, isOd, fSum, aRet, aRetN, aAndV, aOrV, aNotV, aIsi, aVar, aC, aChain, aOp, aUn, aTest, aTru, truD, aAnd, aOr, aNot, aIf, aCons, aNil, aTup, aLst, imAll, aCB, resAll, res, aCall, bok, isOw, bos, svOf, back, aNext, aSeq, aIfS, aAsg, aAsgO, aName, aGTup, aGCons, aGNil, aDrop, aFrz, frz, aOfL, fI0, fI, fNeg, fPlus, fLen, fTuple, fInt, fAbs, fMax2, fMin2, fIsN, fNotN, fIsB, fNotB, isNonD, isT, aApp, aAug, aPop, aSetI, aPar, aPar3, aMIm, aMFr, svM, aList, aSl, aPart, aNoPart, aISeq, aRg1, aRg2, aYes, wipeA, mrg, noOw, still, retA, Option.map, List.map, List.getElem?_cons_zero, List.getElem?_cons_succ, List.set_cons_zero, List.set_cons_succ, List.cons_append, List.nil_append, List.replicate, List.length_cons, List.length_nil, Bool.not_true, Bool.not_false, Bool.and_true, Bool.true_and, aZipTwo, aZip3, aZip2, aZ2, seqD, aEnum, aSrt, fIxN, fInN, fLenN, aSetN, aAsgN, aDNew, aMFd, aOfN, aLenSet, aIndex, aRg3d, aDisp1, aAsgNew, fMinT, fMaxT, aPopAt]
      rw [if_pos (by decide)]
      refine ⟨rfl, rfl, rfl, a, b, _, rfl, by rw [csD_len]; omega, fun v a b v0 v1 => ?_⟩
      rw [csD_len] at v1
      have hv : v.toNat < ls.length := by omega
      try dsimp only [fAll, isOl, isOd, fSum, aRet, aRetN, aAndV, aOrV, aNotV, aIsi, aVar, aC, aChain, aOp, aUn, aTest, aTru, truD, aAnd, aOr, aNot, aIf, aCons, aNil, aTup, aLst, imAll, aCB, resAll, res, aCall, bok, isOw, bos, svOf, back, aNext, aSeq, aIfS, aAsg, aAsgO, aName, aGTup, aGCons, aGNil, aDrop, aFrz, frz, aOfL, fI0, fI, fNeg, fPlus, fLen, fTuple, fInt, fAbs, fMax2, fMin2, fIsN, fNotN, fIsB, fNotB, isNonD, isT, aApp, aAug, aPop, aSetI, aPar, aPar3, aMIm, aMFr, svM, aList, aSl, aPart, aNoPart, aISeq, aRg1, aRg2, aYes, wipeA, mrg, noOw, still, retA, Option.map, List.map, List.getElem?_cons_zero, List.getElem?_cons_succ, List.set_cons_zero, List.set_cons_succ, List.cons_append, List.nil_append, List.replicate, List.length_cons, List.length_nil, Bool.not_true, Bool.not_false, Bool.and_true, Bool.true_and, aZipTwo, aZip3, aZip2, aZ2, seqD, aEnum, aSrt, fIxN, fInN, fLenN, aSetN, aAsgN, aDNew, aMFd, aOfN, aLenSet, aIndex, aRg3d, aDisp1, aAsgNew, fMinT, fMaxT, aPopAt]
      refine ⟨by omega, by omega, v.toNat, cD ls[v.toNat], ?_, ?_, ?_⟩
      · unfold ixN
        rw [csD_len, if_pos v0, if_pos v1]
      · unfold csD
        rw [List.getElem?_map, List.getElem?_eq_getElem hv]
        rfl
      · refine ⟨by rw [csD_len]; omega, (ls.eraseIdx v.toNat).length, by rw [List.length_eraseIdx_of_lt hv]; omega, a, b, ls.eraseIdx v.toNat, es ++ [ls[v.toNat]], rfl, ?_, ?_⟩
        · rw [List.append_assoc]
          exact ((erase_perm hv).append_left es).trans hp
        · have e1 : csD (ls.eraseIdx v.toNat) = (csD ls).eraseIdx v.toNat := by
            unfold csD
            rw [List.eraseIdx_eq_take_drop_succ, List.eraseIdx_eq_take_drop_succ, List.map_append, List.map_take, List.map_drop]
          rw [e1]
          unfold csD
          rw [List.map_append]
          rfl
  obtain ⟨a, b, s2, es, hp, rfl⟩ := h
  try dsimp only [fAll, isOl, isOd, fSum, aRet, aRetN, aAndV, aOrV, aNotV, aIsi, aVar, aC, aChain, aOp, aUn, aTest, aTru, truD, aAnd, aOr, aNot, aIf, aCons, aNil, aTup, aLst, imAll, aCB, resAll, res, aCall, bok, isOw, bos, svOf, back, aNext, aSeq, aIfS, aAsg, aAsgO, aName, aGTup, aGCons, aGNil, aDrop, aFrz, frz, aOfL, fI0, fI, fNeg, fPlus, fLen, fTuple, fInt, fAbs, fMax2, fMin2, fIsN, fNotN, fIsB, fNotB, isNonD, isT, aApp, aAug, aPop, aSetI, aPar, aPar3, aMIm, aMFr, svM, aList, aSl, aPart, aNoPart, aISeq, aRg1, aRg2, aYes, wipeA, mrg, noOw, still, retA, Option.map, List.map, List.getElem?_cons_zero, List.getElem?_cons_succ, List.set_cons_zero, List.set_cons_succ, List.cons_append, List.nil_append, List.replicate, List.length_cons, List.length_nil, Bool.not_true, Bool.not_false, Bool.and_true, Bool.true_and, aZipTwo, aZip3, aZip2, aZ2, seqD, aEnum, aSrt, fIxN, fInN, fLenN, aSetN, aAsgN, aDNew, aMFd, aOfN, aLenSet, aIndex, aRg3d, aDisp1, aAsgNew, fMinT, fMaxT, aPopAt]
  exact ⟨rfl, hk _ _ _ hp⟩
end
end K89

namespace K89
open PySem PySem.Spec L2 DL
open PyProof.Rows hiding St

/-! ### sorted boxes -/
def lt2 (p q : Cl) : Prop := p.1 < q.1 ∨ (p.1 = q.1 ∧ p.2 < q.2)
theorem rgI_lt (a b : Int) : (rgI a b).Pairwise (· < ·) := by
  unfold rgI
  refine List.Pairwise.map _ (fun i j h => ?_) (List.pairwise_lt_range (n := (b - a).toNat))
  omega
theorem boxC_lt (r c : Int) : (boxC r c).Pairwise lt2 := by
  unfold boxC
  rw [List.pairwise_flatMap]
  refine ⟨fun i _ => ?_, (rgI_lt 0 r).imp fun {i j} h x hx y hy => ?_⟩
  · exact List.Pairwise.map _ (fun j k h => .inr ⟨rfl, h⟩) (rgI_lt 0 c)
  · obtain ⟨_, _, rfl⟩ := List.mem_map.mp hx
    obtain ⟨_, _, rfl⟩ := List.mem_map.mp hy
    exact .inl h
abbrev le2 : Cl → Cl → Bool := lex (fun p => p.1) fun p => p.2
theorem le2_iff {p q : Cl} : le2 p q = true ↔ p.1 < q.1 ∨ (p.1 = q.1 ∧ p.2 ≤ q.2) := by
  unfold le2 lex
  rw [decide_eq_true_eq]
theorem boxC_le (r c : Int) : (boxC r c).Pairwise fun p q => le2 p q = true := (boxC_lt r c).imp fun {p q} h => le2_iff.mpr (by unfold lt2 at h; omega)
theorem boxC_nodup (r c : Int) : (boxC r c).Nodup := (boxC_lt r c).imp fun {p q} h e => by
  subst e
  unfold lt2 at h
  omega
theorem ordC_rows (r c : Int) : ordC "rows" r c = boxC r c := by
  unfold ordC
  have e1 : (fun p : Cl => (keyX "rows" p).1) = fun p => p.1 := funext fun p => by rw [keyX_r]
  have e2 : (fun p : Cl => (keyX "rows" p).2) = fun p => p.2 := funext fun p => by rw [keyX_r]
  rw [e1, e2]
  exact List.mergeSort_of_pairwise (boxC_le r c)
theorem le2_anti {l m : List Cl} (p : l.Perm m) (h1 : l.Pairwise fun p q => le2 p q = true) (h2 : m.Pairwise fun p q => le2 p q = true) : l = m := by
  refine List.Perm.eq_of_pairwise (le := fun p q => le2 p q = true) (fun a b _ _ h1 h2 => ?_) h1 h2 p
  rw [le2_iff] at h1 h2
  exact Prod.ext (by omega) (by omega)
theorem le2_sorted (l : List Cl) : (l.mergeSort le2).Pairwise fun p q => le2 p q = true := by
  refine List.pairwise_mergeSort (fun a b c h1 h2 => ?_) (fun a b => ?_) l
  · rw [le2_iff] at h1 h2 ⊢
    omega
  · rw [Bool.or_eq_true, le2_iff, le2_iff]
    omega
theorem sort_box {l : List Cl} {r c : Int} (h : l.Perm (boxC r c)) : l.mergeSort le2 = boxC r c := le2_anti ((List.mergeSort_perm l le2).trans h) (le2_sorted l) (boxC_le r c)
theorem srt_cells (l : List Cl) : srt (csD l) = csD (l.mergeSort le2) := srtBy_cells (g := id) (fun p => p.1) (fun p => p.2) (fun c => rfl) l
theorem srt_ok (l : List Cl) (hl : l.length ≤ 1000000) : srtOk (csD l) := by
  have h := pairs_ok (g := id) (fun p => p.1) (fun p => p.2) (fun c => rfl) l hl
  unfold srtByOk at h
  rw [List.map_id] at h
  exact h
theorem first_at {l : List Cl} {p : Cl} {j : Nat} (h : l.Nodup) (hj : l[j]? = some p) : ∀ m, m < j → l[m]? ≠ some p := fun m hm e => by
  obtain ⟨l1, e1⟩ := List.getElem?_eq_some_iff.mp hj
  obtain ⟨l2, e2⟩ := List.getElem?_eq_some_iff.mp e
  exact List.pairwise_iff_getElem.mp h m j l2 l1 hm (e2.trans e1.symm)
theorem ordC_keys (x : Str) (r c : Int) : (ordC x r c).map (keyX x) = ((boxC r c).map (keyX x)).mergeSort le2 := by
  unfold ordC
  exact List.map_mergeSort (f := keyX x) fun a _ b _ => rfl
theorem ordC_perm (x : Str) (r c : Int) : (ordC x r c).Perm (boxC r c) := List.mergeSort_perm _ _
/-! ### the walk of the spiral -/
def mv (p : Cl) (w : Nat) : Cl := match w with
  | 0 => (p.1, p.2 + 1)
  | 1 => (p.1 + 1, p.2)
  | 2 => (p.1, p.2 - 1)
  | _ => (p.1 - 1, p.2)
def Good : (Cl → Prop) → Cl → Nat → List Cl → Prop
  | _, _, _, [] => True
  | S, p, w, q :: rest => (q = mv p w ∧ ¬ S q ∧ Good (fun x => S x ∨ x = q) q w rest) ∨ (S (mv p w) ∧ q = mv p ((w + 1) % 4) ∧ ¬ S q ∧ Good (fun x => S x ∨ x = q) q ((w + 1) % 4) rest)
def ln (p : Cl) (w : Nat) : Nat → List Cl
  | 0 => []
  | n + 1 => mv p w :: ln (mv p w) w n
def adv (p : Cl) (w : Nat) : Nat → Cl
  | 0 => p
  | n + 1 => adv (mv p w) w n
def onL (p : Cl) (w : Nat) (n : Nat) (x : Cl) : Prop := match w with
  | 0 => x.1 = p.1 ∧ p.2 < x.2 ∧ x.2 ≤ p.2 + n
  | 1 => x.2 = p.2 ∧ p.1 < x.1 ∧ x.1 ≤ p.1 + n
  | 2 => x.1 = p.1 ∧ x.2 < p.2 ∧ p.2 - n ≤ x.2
  | _ => x.2 = p.2 ∧ x.1 < p.1 ∧ p.1 - n ≤ x.1
theorem ln_mem {x : Cl} (w : Nat) : ∀ (n : Nat) (p : Cl), x ∈ ln p w n ↔ onL p w n x
  | 0, p => by
    unfold ln onL
    split <;> (simp only [List.not_mem_nil, false_iff]; omega)
  | n + 1, p => by
    unfold ln
    rw [List.mem_cons, ln_mem w n]
    unfold onL mv
    split <;> (constructor <;> (intro h; simp only [Prod.ext_iff] at h ⊢; omega))
theorem adv_eq (w : Nat) : ∀ (n : Nat) (p : Cl), adv p w n = match w with
    | 0 => (p.1, p.2 + n)
    | 1 => (p.1 + n, p.2)
    | 2 => (p.1, p.2 - n)
    | _ => (p.1 - n, p.2)
  | 0, p => by
    unfold adv
    split <;> simp
  | n + 1, p => by
    unfold adv
    rw [adv_eq w n]
    unfold mv
    split <;> (refine Prod.ext ?_ ?_ <;> simp only <;> omega)
theorem good_line {w : Nat} {rest : List Cl} : ∀ (n : Nat) (S : Cl → Prop) (p : Cl), (∀ q, onL p w n q → ¬ S q) → Good (fun x => S x ∨ onL p w n x) (adv p w n) w rest → Good S p w (ln p w n ++ rest)
  | 0, S, p, _, h => by
    have e : (fun x => S x ∨ onL p w 0 x) = S := funext fun x => propext ⟨fun z => z.elim id fun z => by
      have := (ln_mem w 0 p).mpr z
      exact (List.not_mem_nil this).elim, .inl⟩
    rw [e] at h
    exact h
  | n + 1, S, p, hf, h => by
    have hm : ∀ x, onL p w (n + 1) x ↔ x = mv p w ∨ onL (mv p w) w n x := fun x => by
      rw [← ln_mem, ← ln_mem]
      exact List.mem_cons
    refine .inl ⟨rfl, hf _ ((hm _).mpr (.inl rfl)), ?_⟩
    refine good_line n _ _ (fun q hq hs => ?_) ?_
    · rcases hs with hs | rfl
      · exact hf _ ((hm _).mpr (.inr hq)) hs
      · revert hq
        unfold onL mv
        split <;> (simp only; omega)
    · have e : (fun x => S x ∨ onL p w (n + 1) x) = fun x => (S x ∨ x = mv p w) ∨ onL (mv p w) w n x := funext fun x => propext (by rw [hm, or_assoc])
      rw [e] at h
      exact h
theorem good_turn {w : Nat} {rest : List Cl} {n : Nat} {S : Cl → Prop} {p : Cl} (hn : 0 < n) (hs : S (mv p w)) (hf : ∀ q, onL p ((w + 1) % 4) n q → ¬ S q) (h : Good (fun x => S x ∨ onL p ((w + 1) % 4) n x) (adv p ((w + 1) % 4) n) ((w + 1) % 4) rest) : Good S p w (ln p ((w + 1) % 4) n ++ rest) := by
  have g := good_line n S p hf h
  cases n with
  | zero => omega
  | succ n =>
    rcases g with g | ⟨g1, g2, g3, _⟩
    · exact .inr ⟨hs, g⟩
    · exact (g3 g1).elim
theorem good_free {S : Cl → Prop} {p : Cl} {w : Nat} : ∀ {l : List Cl}, Good S p w l → (∀ q ∈ l, ¬ S q) ∧ l.Nodup
  | [], _ => ⟨fun _ h => (List.not_mem_nil h).elim, List.Pairwise.nil⟩
  | q :: l, h => by
    have k : ¬ S q ∧ ((∀ x ∈ l, ¬ (S x ∨ x = q)) ∧ l.Nodup) := by
      rcases h with ⟨_, h1, h2⟩ | ⟨_, _, h1, h2⟩
      · exact ⟨h1, good_free h2⟩
      · exact ⟨h1, good_free h2⟩
    refine ⟨fun x hx => ?_, List.nodup_cons.mpr ⟨fun z => k.2.1 q z (.inr rfl), k.2.2⟩⟩
    rcases List.mem_cons.mp hx with rfl | hx
    · exact k.1
    · exact fun z => k.2.1 x hx (.inl z)
theorem stp_mv (p : Cl) (w : Nat) : stp p (mv p w) = 1 := by
  unfold stp mv
  split <;> (simp only; split <;> split <;> omega)
theorem good_walk {S : Cl → Prop} {p : Cl} {w : Nat} : ∀ {l : List Cl}, Good S p w l → ((pairs (p :: l)).all fun p => stp p.1 p.2 == 1) = true
  | [], _ => rfl
  | q :: l, h => by
    have k : stp p q = 1 ∧ ((pairs (q :: l)).all fun p => stp p.1 p.2 == 1) = true := by
      rcases h with ⟨rfl, _, h2⟩ | ⟨_, rfl, h1, h2⟩
      · exact ⟨stp_mv _ _, good_walk h2⟩
      · exact ⟨stp_mv _ _, good_walk h2⟩
    show ((p, q) :: pairs (q :: l)).all _ = true
    rw [List.all_cons, k.2, k.1]
    rfl
theorem ln0 (p : Cl) (n : Nat) : ln p 0 n = (List.range n).map fun i : Nat => ((p.1, p.2 + 1 + (i : Int)) : Cl) := by
  induction n generalizing p with
  | zero => rfl
  | succ n ih =>
    rw [List.range_succ_eq_map, List.map_cons, List.map_map]
    unfold ln
    rw [ih]
    refine congr (congrArg _ ?_) (List.map_congr_left fun i _ => ?_)
    · simp [mv]
    · refine Prod.ext ?_ ?_ <;> simp only [mv, Function.comp] <;> omega
theorem ln1 (p : Cl) (n : Nat) : ln p 1 n = (List.range n).map fun i : Nat => ((p.1 + 1 + (i : Int), p.2) : Cl) := by
  induction n generalizing p with
  | zero => rfl
  | succ n ih =>
    rw [List.range_succ_eq_map, List.map_cons, List.map_map]
    unfold ln
    rw [ih]
    refine congr (congrArg _ ?_) (List.map_congr_left fun i _ => ?_)
    · simp [mv]
    · refine Prod.ext ?_ ?_ <;> simp only [mv, Function.comp] <;> omega
theorem ln2 (p : Cl) (n : Nat) : ln p 2 n = (List.range n).map fun i : Nat => ((p.1, p.2 - 1 - (i : Int)) : Cl) := by
  induction n generalizing p with
  | zero => rfl
  | succ n ih =>
    rw [List.range_succ_eq_map, List.map_cons, List.map_map]
    unfold ln
    rw [ih]
    refine congr (congrArg _ ?_) (List.map_congr_left fun i _ => ?_)
    · simp [mv]
    · refine Prod.ext ?_ ?_ <;> simp only [mv, Function.comp] <;> omega
theorem ln3 (p : Cl) (n : Nat) : ln p 3 n = (List.range n).map fun i : Nat => ((p.1 - 1 - (i : Int), p.2) : Cl) := by
  induction n generalizing p with
  | zero => rfl
  | succ n ih =>
    rw [List.range_succ_eq_map, List.map_cons, List.map_map]
    unfold ln
    rw [ih]
    refine congr (congrArg _ ?_) (List.map_congr_left fun i _ => ?_)
    · simp [mv]
    · refine Prod.ext ?_ ?_ <;> simp only [mv, Function.comp] <;> omega
end K89

namespace K89
open PySem PySem.Spec L2 DL
open PyProof.Rows hiding St
theorem seg0 (t l r : Int) : (rgI l (r + 1)).map (fun j => ((t, j) : Cl)) = ln (t, l - 1) 0 (r + 1 - l).toNat := by
  rw [ln0]
  unfold rgI
  rw [List.map_map]
  refine List.map_congr_left fun i _ => ?_
  refine Prod.ext ?_ ?_ <;> simp only [Function.comp] <;> omega
theorem seg1 (t b r : Int) : (rgI (t + 1) (b + 1)).map (fun i => ((i, r) : Cl)) = ln (t, r) 1 (b - t).toNat := by
  rw [ln1]
  unfold rgI
  rw [List.map_map, show b + 1 - (t + 1) = b - t by omega]
  exact List.map_congr_left fun i _ => rfl
theorem seg2 (l b r : Int) : (rgd (r - 1) (l - 1)).map (fun j => ((b, j) : Cl)) = ln (b, r) 2 (r - l).toNat := by
  rw [ln2]
  unfold rgd
  rw [List.map_map, show r - 1 - (l - 1) = r - l by omega]
  exact List.map_congr_left fun i _ => rfl
theorem seg3 (t l b : Int) : (rgd (b - 1) t).map (fun i => ((i, l) : Cl)) = ln (b, l) 3 (b - 1 - t).toNat := by
  rw [ln3]
  unfold rgd
  rw [List.map_map]
  exact List.map_congr_left fun i _ => rfl
theorem ring_eq (t l b r : Int) : ring t l b r = ln (t, l - 1) 0 (r + 1 - l).toNat ++ ln (t, r) 1 (b - t).toNat ++ (if t < b then ln (b, r) 2 (r - l).toNat else []) ++ (if l < r then ln (b, l) 3 (b - 1 - t).toNat else []) := by
  unfold ring
  rw [seg0, seg1, seg2, seg3]
def inR (t l b r : Int) (x : Cl) : Prop := (t ≤ x.1 ∧ x.1 ≤ b) ∧ l ≤ x.2 ∧ x.2 ≤ r
theorem ring_good {t l b r : Int} {S : Cl → Prop} {w : Nat} {rest : List Cl} (h : t ≤ b ∧ l ≤ r) (hS : ∀ q, S q ↔ ¬ inR t l b r q) (hw : w = 0 ∨ w = 3 ∧ S (mv (t, l - 1) 3))
    (hr : ∀ S' : Cl → Prop, (∀ q, S' q ↔ ¬ inR (t + 1) (l + 1) (b - 1) (r - 1) q) → t + 1 ≤ b - 1 → l + 1 ≤ r - 1 → Good S' (t + 1, l) 3 rest) (h0 : ¬ (t + 1 ≤ b - 1 ∧ l + 1 ≤ r - 1) → rest = []) : Good S (t, l - 1) w (ring t l b r ++ rest) := by
  rw [ring_eq]
  -- the first side
  have first : ∀ tail, Good (fun x => S x ∨ onL (t, l - 1) 0 (r + 1 - l).toNat x) (t, r) 0 tail → Good S (t, l - 1) w (ln (t, l - 1) 0 (r + 1 - l).toNat ++ tail) := fun tail g => by
    have ha : adv (t, l - 1) 0 (r + 1 - l).toNat = (t, r) := by
      rw [adv_eq]
      refine Prod.ext ?_ ?_ <;> simp only <;> omega
    have hf : ∀ q, onL (t, l - 1) 0 (r + 1 - l).toNat q → ¬ S q := fun q hq => by
      rw [hS]
      unfold onL at hq
      unfold inR
      simp only at hq
      omega
    rcases hw with rfl | ⟨rfl, hs⟩
    · exact good_line _ _ _ hf (by rw [ha]; exact g)
    · exact good_turn (w := 3) (by omega) hs hf (by show Good _ (adv (t, l - 1) 0 _) 0 _; rw [ha]; exact g)
  by_cases c1 : t = b
  · subst c1
    have e0 : rest = [] := h0 (by omega)
    subst e0
    have e1 : (t - t).toNat = 0 := by omega
    have e2 : (t - 1 - t).toNat = 0 := by omega
    rw [e1, e2, if_neg (by omega)]
    have e3 : (if l < r then ln (t, l) 3 0 else []) = [] := by split <;> rfl
    rw [e3]
    have := first [] trivial
    rw [show ln (t, r) 1 0 = [] from rfl, List.append_nil, List.append_nil, List.append_nil]
    exact this
  rw [if_pos (by omega)]
  have n2 : 0 < (b - t).toNat := by omega
  -- the second
  have second : ∀ tail, Good (fun x => (S x ∨ onL (t, l - 1) 0 (r + 1 - l).toNat x) ∨ onL (t, r) 1 (b - t).toNat x) (b, r) 1 tail → Good (fun x => S x ∨ onL (t, l - 1) 0 (r + 1 - l).toNat x) (t, r) 0 (ln (t, r) 1 (b - t).toNat ++ tail) := fun tail g => by
    have ha : adv (t, r) 1 (b - t).toNat = (b, r) := by
      rw [adv_eq]
      refine Prod.ext ?_ ?_ <;> simp only <;> omega
    refine good_turn (w := 0) n2 (.inl ((hS _).mpr ?_)) (fun q hq => ?_) (by show Good _ (adv (t, r) 1 _) 1 _; rw [ha]; exact g)
    · unfold inR mv
      simp only
      omega
    · rw [hS]
      unfold onL at hq ⊢
      unfold inR
      simp only at hq ⊢
      omega
  by_cases c2 : l = r
  · subst c2
    have e0 : rest = [] := h0 (by omega)
    subst e0
    have e1 : (l - l).toNat = 0 := by omega
    rw [e1, if_neg (by omega), show ln (b, l) 2 0 = [] from rfl, List.append_nil, List.append_nil, List.append_nil]
    refine first _ ?_
    have := second [] trivial
    rw [List.append_nil] at this
    exact this
  rw [if_pos (by omega)]
  have n3 : 0 < (r - l).toNat := by omega
  -- the third
  have third : ∀ tail, Good (fun x => ((S x ∨ onL (t, l - 1) 0 (r + 1 - l).toNat x) ∨ onL (t, r) 1 (b - t).toNat x) ∨ onL (b, r) 2 (r - l).toNat x) (b, l) 2 tail → Good (fun x => (S x ∨ onL (t, l - 1) 0 (r + 1 - l).toNat x) ∨ onL (t, r) 1 (b - t).toNat x) (b, r) 1 (ln (b, r) 2 (r - l).toNat ++ tail) := fun tail g => by
    have ha : adv (b, r) 2 (r - l).toNat = (b, l) := by
      rw [adv_eq]
      refine Prod.ext ?_ ?_ <;> simp only <;> omega
    refine good_turn (w := 1) n3 (.inl (.inl ((hS _).mpr ?_))) (fun q hq => ?_) (by show Good _ (adv (b, r) 2 _) 2 _; rw [ha]; exact g)
    · unfold inR mv
      simp only
      omega
    · rw [hS]
      unfold onL at hq ⊢
      unfold inR
      simp only at hq ⊢
      omega
  rw [List.append_assoc, List.append_assoc, List.append_assoc]
  refine first _ (second _ (third _ ?_))
  by_cases c3 : b = t + 1
  · have e0 : rest = [] := h0 (by omega)
    subst e0
    rw [show (b - 1 - t).toNat = 0 by omega]
    trivial
  have n4 : 0 < (b - 1 - t).toNat := by omega
  have ha : adv (b, l) 3 (b - 1 - t).toNat = (t + 1, l) := by
    rw [adv_eq]
    refine Prod.ext ?_ ?_ <;> simp only <;> omega
  refine good_turn (w := 2) n4 (.inl (.inl (.inl ((hS _).mpr ?_)))) (fun q hq => ?_) ?_
  · unfold inR mv
    simp only
    omega
  · rw [hS]
    unfold onL at hq ⊢
    unfold inR
    simp only at hq ⊢
    omega
  · show Good _ (adv (b, l) 3 _) 3 _
    rw [ha]
    by_cases c4 : l + 1 ≤ r - 1
    · refine hr _ (fun q => ?_) (by omega) c4
      rw [hS]
      unfold onL inR
      simp only
      omega
    · rw [h0 fun z => c4 z.2]
      trivial
theorem ring_all {t l b r : Int} (h : t ≤ b ∧ l ≤ r) {q : Cl} (hq : inR t l b r q) : q ∈ ring t l b r ∨ inR (t + 1) (l + 1) (b - 1) (r - 1) q := by
  rw [ring_eq, List.mem_append, List.mem_append, List.mem_append, ln_mem, ln_mem]
  have e2 : q ∈ (if t < b then ln (b, r) 2 (r - l).toNat else []) ↔ t < b ∧ onL (b, r) 2 (r - l).toNat q := by
    split
    · rw [ln_mem]; exact ⟨fun z => ⟨by assumption, z⟩, fun z => z.2⟩
    · exact ⟨fun z => (List.not_mem_nil z).elim, fun z => absurd z.1 (by assumption)⟩
  have e3 : q ∈ (if l < r then ln (b, l) 3 (b - 1 - t).toNat else []) ↔ l < r ∧ onL (b, l) 3 (b - 1 - t).toNat q := by
    split
    · rw [ln_mem]; exact ⟨fun z => ⟨by assumption, z⟩, fun z => z.2⟩
    · exact ⟨fun z => (List.not_mem_nil z).elim, fun z => absurd z.1 (by assumption)⟩
  rw [e2, e3]
  unfold inR at hq ⊢
  unfold onL
  simp only
  omega
def spirR (R C : Int) : Nat → Nat → List Cl
  | _, 0 => []
  | k, n + 1 => ring k k (R - 1 - k) (C - 1 - k) ++ spirR R C (k + 1) n
theorem spirA_R (R C : Int) : ∀ n k : Nat, spirA R C k ++ spirR R C k n = spirA R C (k + n)
  | 0, k => List.append_nil _
  | n + 1, k => by
    unfold spirR
    rw [← List.append_assoc, show spirA R C k ++ ring k k (R - 1 - k) (C - 1 - k) = spirA R C (k + 1) from rfl, spirA_R R C n (k + 1), show k + 1 + n = k + (n + 1) by omega]
theorem spiralC_R (R C : Int) : spiralC R C = spirR R C 0 (spirN R C) := by
  have := spirA_R R C (spirN R C) 0
  rw [show 0 + spirN R C = spirN R C by omega] at this
  exact this.symm
theorem spirR_good {R C : Int} (hb : 1 ≤ R ∧ 1 ≤ C) : ∀ (n k : Nat) (S : Cl → Prop) (w : Nat), k + n = spirN R C → (∀ q, S q ↔ ¬ inR k k (R - 1 - k) (C - 1 - k) q) → (w = 0 ∨ w = 3 ∧ S (mv (k, k - 1) 3)) → Good S (k, k - 1) w (spirR R C k n)
  | 0, k, S, w, _, _, _ => trivial
  | n + 1, k, S, w, hk, hS, hw => by
    have hN : spirN R C = ((min R C + 1) / 2).toNat := rfl
    unfold spirR
    refine ring_good (by omega) hS hw (fun S' hS' h1 h2 => ?_) (fun h => ?_)
    · have ih := spirR_good hb n (k + 1) S' 3 (by omega)
      rw [show ((k + 1 : Nat) : Int) = (k : Int) + 1 by omega, show R - 1 - ((k : Int) + 1) = R - 1 - k - 1 by omega, show C - 1 - ((k : Int) + 1) = C - 1 - k - 1 by omega, show (k : Int) + 1 - 1 = k by omega] at ih
      refine ih hS' (.inr ⟨rfl, ?_⟩)
      rw [hS']
      unfold inR mv
      simp only
      omega
    · cases n with
      | zero => rfl
      | succ n => exact absurd (by omega) h
theorem spirR_all {R C : Int} {q : Cl} : ∀ (n k : Nat), k + n = spirN R C → inR k k (R - 1 - k) (C - 1 - k) q → q ∈ spirR R C k n
  | 0, k, hk, h => by
    have hN : spirN R C = ((min R C + 1) / 2).toNat := rfl
    unfold inR at h
    omega
  | n + 1, k, hk, h => by
    have hN : spirN R C = ((min R C + 1) / 2).toNat := rfl
    unfold spirR
    have hh := h
    unfold inR at hh
    rcases ring_all (by omega) h with g | g
    · exact List.mem_append_left _ g
    · refine List.mem_append_right _ (spirR_all n (k + 1) (by omega) ?_)
      rw [show ((k + 1 : Nat) : Int) = (k : Int) + 1 by omega, show R - 1 - ((k : Int) + 1) = R - 1 - k - 1 by omega, show C - 1 - ((k : Int) + 1) = C - 1 - k - 1 by omega]
      exact g
def outB (R C : Int) (x : Cl) : Prop := ¬ ((0 ≤ x.1 ∧ x.1 < R) ∧ 0 ≤ x.2 ∧ x.2 < C)
theorem spiral_good {R C : Int} (hb : 1 ≤ R ∧ 1 ≤ C) : Good (outB R C) (0, -1) 0 (spiralC R C) := by
  rw [spiralC_R]
  refine spirR_good hb _ 0 _ 0 (by omega) (fun q => ?_) (.inl rfl)
  unfold outB inR
  omega
theorem spiral_perm {R C : Int} (hb : 1 ≤ R ∧ 1 ≤ C) : (spiralC R C).Perm (boxC R C) := by
  have g := good_free (spiral_good hb)
  refine (List.perm_ext_iff_of_nodup g.2 (boxC_nodup R C)).mpr fun q => ⟨fun h => ?_, fun h => ?_⟩
  · have := g.1 q h
    unfold outB at this
    rw [boxC_mem]
    exact Classical.not_not.mp this
  · rw [boxC_mem] at h
    rw [spiralC_R]
    refine spirR_all _ 0 (by omega) ?_
    unfold inR
    omega
theorem spiral_start {R C : Int} (hb : 1 ≤ R ∧ 1 ≤ C) : ∃ rest, spiralC R C = (0, 0) :: rest ∧ Good (fun x => outB R C x ∨ x = (0, 0)) (0, 0) 0 rest := by
  have g := spiral_good hb
  cases e : spiralC R C with
  | nil =>
    have h : ((0, 0) : Cl) ∈ spiralC R C := (spiral_perm hb).mem_iff.mpr (boxC_mem.mpr (by simp only; omega))
    rw [e] at h
    cases h
  | cons q rest =>
    rw [e] at g
    rcases g with ⟨h1, _, h2⟩ | ⟨h1, _⟩
    · have : q = (0, 0) := h1
      subst this
      exact ⟨rest, rfl, h2⟩
    · exfalso
      unfold outB mv at h1
      simp only at h1
      omega
theorem spiral_walk {R C : Int} (hb : 1 ≤ R ∧ 1 ≤ C) : ((pairs (spiralC R C)).all fun p => stp p.1 p.2 == 1) = true := by
  obtain ⟨rest, e, g⟩ := spiral_start hb
  rw [e]
  exact good_walk g
end K89

namespace K89
open PySem PySem.Spec L2 DL
open PyProof.Rows hiding St
def WAYS : List D := [cD (0, 1), cD (1, 0), cD (0, -1), cD (-1, 0)]
theorem atI_last {xs : List D} {d : D} (h : xs[xs.length - 1]? = some d) : atI xs (-1) = some d := by
  have hl := (List.getElem?_eq_some_iff.mp h).1
  have h0 : 0 < xs.length := by omega
  unfold atI ixN
  rw [if_neg (by decide), if_pos (by omega), show (-1 + (xs.length : Int)).toNat = xs.length - 1 by omega]
  exact h
def dx : Nat → Int
  | 0 => 0
  | 1 => 1
  | 2 => 0
  | _ => -1
def dy : Nat → Int
  | 0 => 1
  | 1 => 0
  | 2 => -1
  | _ => 0
theorem ways_at {w : Nat} (h : w < 4) : atI WAYS w = some (cD (dx w, dy w)) := by
  have : w = 0 ∨ w = 1 ∨ w = 2 ∨ w = 3 := by omega
  rcases this with rfl | rfl | rfl | rfl <;> rfl
theorem mv_d {w : Nat} (h : w < 4) (p : Cl) : p.1 + dx w = (mv p w).1 ∧ p.2 + dy w = (mv p w).2 := by
  have : w = 0 ∨ w = 1 ∨ w = 2 ∨ w = 3 := by omega
  rcases this with rfl | rfl | rfl | rfl
  · show p.1 + 0 = p.1 ∧ p.2 + 1 = p.2 + 1; omega
  · show p.1 + 1 = p.1 + 1 ∧ p.2 + 0 = p.2; omega
  · show p.1 + 0 = p.1 ∧ p.2 + -1 = p.2 - 1; omega
  · show p.1 + -1 = p.1 - 1 ∧ p.2 + 0 = p.2; omega
theorem keyN_cD (a : Cl) : keyN (cD a) = some (.tup [.num a.1, .num a.2]) := rfl
theorem keyN_inj {a b : Cl} : keyN (cD a) = keyN (cD b) ↔ a = b := by
  rw [keyN_cD, keyN_cD]
  constructor
  · intro h
    simp only [Option.some.injEq, NestedKey.tup.injEq, List.cons.injEq, NestedKey.num.injEq, and_true] at h
    exact Prod.ext h.1 h.2
  · rintro rfl
    rfl
def yes (l : List Cl) : List D := l.map fun _ => .bl true
theorem dgetK_cs (q : Cl) : ∀ l : List Cl, dgetK (keyN (cD q)) (csD l) (yes l) = if q ∈ l then some (.bl true) else none
  | [] => rfl
  | c :: l => by
    have ih := dgetK_cs q l
    unfold csD yes at ih ⊢
    rw [List.map_cons, List.map_cons]
    unfold dgetK
    by_cases e : c = q
    · subst e
      rw [if_pos rfl, if_pos List.mem_cons_self]
    · rw [if_neg fun z => e (keyN_inj.mp z), ih]
      by_cases m : q ∈ l
      · rw [if_pos m, if_pos (List.mem_cons_of_mem _ m)]
      · rw [if_neg m, if_neg fun z => (List.mem_cons.mp z).elim (fun z => e z.symm) m]
theorem dget_cs (l : List Cl) (q : Cl) : dget (csD l) (yes l) (cD q) = if q ∈ l then some (.bl true) else none := dgetK_cs q l
theorem dput_cs {l : List Cl} {q : Cl} (h : q ∉ l) : dput (csD l) (yes l) (cD q) (.bl true) = (csD (l ++ [q]), yes (l ++ [q])) := by
  unfold dput
  rw [dget_cs, if_neg h]
  unfold csD yes
  rw [List.map_append, List.map_append]
  rfl
def due (p : Cl) (w : Nat) (rest : List Cl) : Nat := if rest.head? = some (mv p w) then 0 else 1
def spI (R C : Int) (m : Nat) (ρ' : AR) : Prop := ∃ vis p w rest, vis ++ p :: rest = spiralC R C ∧ w < 4 ∧ Good (fun x => outB R C x ∨ x ∈ vis ++ [p]) p w rest ∧ m = 2 * rest.length + due p w rest ∧ ∃ s6 s7, ρ' = [.im (.int R), .im (.int C), .ow (.ol (csD (vis ++ [p]))), .im (.lst WAYS), .im (.int w), .ow (.od (csD (vis ++ [p])) (yes (vis ++ [p]))), s6, s7]
theorem due_le (p : Cl) (w : Nat) (rest : List Cl) : due p w rest ≤ 1 := by
  unfold due
  split <;> omega
section
variable {P : Program} {w : World} {K : PySem.W.Frag} {mg : Str → Option Value} {base : Heap}
def afLawSpiral : AF := fun ρ k => ∃ r c, ρ = [.im (.int r), .im (.int c)] ∧ (1 ≤ r ∧ r ≤ 60 ∧ 1 ≤ c ∧ c ≤ 60) ∧ k (.lst (csD (spiralC r c))) ρ
theorem ok_law_spiral (Bn : Bt mg) (h : Here K mg "_law_spiral" sLawSpiral ["rows", "columns"]) : Df P w K mg base 1 "_law_spiral" afLawSpiral := by
  refine df_ok h scLawSpiral [.un, .un, .un, .un, .un, .un] (fun ρ kk h => by obtain ⟨_, _, rfl, _⟩ := h; rfl) (fun f cdv A outer s H E hr => ⟨_, _, _, (gss_cons (gs_par3 (i := 2) (j := 3) (l := 4) rfl scLawSpiral.nd (GL.m (gl_lst (ga_cons (ge_tup (ga_cons ge_int (ga_cons ge_int ga_nil))) ga_nil))) (GE.m (GL.e (gl_lst (ga_cons (ge_tup (ga_cons ge_int (ga_cons ge_int ga_nil))) (ga_cons (ge_tup (ga_cons ge_int (ga_cons ge_int ga_nil))) (ga_cons (ge_tup (ga_cons ge_int (ga_cons (ge_un un_neg lk_neg ge_int) ga_nil))) (ga_cons (ge_tup (ga_cons (ge_un un_neg lk_neg ge_int) (ga_cons ge_int ga_nil))) ga_nil))))))) (GE.m ge_int))
      (gss_cons (gs_setN (i := 5) scLawSpiral.nd (gn_disp1 (K := K) (hu65 hr) (ge_tup (ga_cons ge_int (ga_cons ge_int ga_nil))) ge_bl))
      (gss_cons (gs_while PassesOwn.never (gt_cmp op_lt lk_lt (ge_lenK (K := K) Bn (ga_cons (gv 2) ga_nil)) (ge_op op_mul lk_mul (gv 0) (gv 1)) (nomark _)) (gss_cons (gs_par (i := 6) (j := 7) rfl scLawSpiral.nd (GE.m (ge_plus (K := K) (ge_ixK (K := K) (ge_ixK (K := K) (gv 2) (ge_un un_neg lk_neg ge_int)) ge_int) (ge_ixK (K := K) (ge_ixK (K := K) (gv 3) (gv 4)) ge_int))) (GE.m (ge_plus (K := K) (ge_ixK (K := K) (ge_ixK (K := K) (gv 2) (ge_un un_neg lk_neg ge_int)) ge_int) (ge_ixK (K := K) (ge_ixK (K := K) (gv 3) (gv 4)) ge_int))))
      (gss_one (gs_if (GW.gt (gw_and (gt_chain op_le lk_le op_lt lk_lt ge_int (gv 6) (gv 0)) (gw_and (gt_chain op_le lk_le op_lt lk_lt ge_int (gv 7) (gv 1)) (gw_and1 (gt_ninN (K := K) (hu65 hr) (ge_tup (ga_cons (gv 6) (ga_cons (gv 7) ga_nil))) (gv 5) (by rfl)))))) (gss_cons (gs_expr (ge_appK (K := K) 2 (ge_tup (ga_cons (gv 6) (ga_cons (gv 7) ga_nil)))))
      (gss_one (gs_asg ge_bl (gg_setN (hu65 hr) 5 (ge_tup (ga_cons (gv 6) (ga_cons (gv 7) ga_nil))))))) (gss_one (gs_set (i := 4) scLawSpiral.nd (ge_op op_mod lk_mod (ge_int1 Bn (ga_cons (ge_plus (K := K) (gv 4) ge_int) ga_nil)) ge_int)))))))
      (gss_one (gs_frz 2 (gs_ret (gv 2))))))), fun ρ kk h => ?_⟩)
  obtain ⟨R, C, rfl, hb, hk⟩ := h
  refine ⟨rfl, ?_⟩
  obtain ⟨rest, eL, g⟩ := spiral_start (R := R) (C := C) (by omega)
  refine aSeq_cut (fun ρ' => ρ' = [.im (.int R), .im (.int C), .ow (.ol [cD (0, 0)]), .im (.lst WAYS), .im (.int 0), .un, .un, .un]) (fun N hN => ?_) (fun ρ' h => ?_)
  · try dsimp only [fAll, isOl, isOd, fSum, aRet, aRetN, aAndV, aOrV, aNotV, aIsi, aVar, aC, aChain, aOp, aUn, aTest, aTru, truD, aAnd, aOr, aNot, aIf, aCons, aNil, aTup, aLst, imAll, aCB, resAll, res, aCall, bok, isOw, bos, svOf, back, aNext, aSeq, aIfS, aAsg, aAsgO, aName, aGTup, aGCons, aGNil, aDrop, aFrz, frz, aOfL, fI0, fI, fNeg, fPlus, fLen, fTuple, fInt, fAbs, fMax2, fMin2, fIsN, fNotN, fIsB, fNotB, isNonD, isT, aApp, aAug, aPop, aSetI, aPar, aPar3, aMIm, aMFr, svM, aList, aSl, aPart, aNoPart, aISeq, aRg1, aRg2, aYes, wipeA, mrg, noOw, still, retA, Option.map, List.map, List.getElem?_cons_zero, List.getElem?_cons_succ, List.set_cons_zero, List.set_cons_succ, List.cons_append, List.nil_append, List.replicate, List.length_cons, List.length_nil, Bool.not_true, Bool.not_false, Bool.and_true, Bool.true_and, aZipTwo, aZip3, aZip2, aZ2, seqD, aEnum, aSrt, fIxN, fInN, fLenN, aSetN, aAsgN, aDNew, aMFd, aOfN, aLenSet, aIndex, aRg3d, aDisp1, aAsgNew, fMinT, fMaxT, aPopAt]
    exact ⟨by decide, by decide, by decide, by decide, by decide, by decide, by decide, hN _ rfl⟩
  subst h
  refine aSeq_cut (fun ρ' => ρ' = [.im (.int R), .im (.int C), .ow (.ol [cD (0, 0)]), .im (.lst WAYS), .im (.int 0), .ow (.od [cD (0, 0)] [.bl true]), .un, .un]) (fun N hN => ?_) (fun ρ' h => ?_)
  · try dsimp only [fAll, isOl, isOd, fSum, aRet, aRetN, aAndV, aOrV, aNotV, aIsi, aVar, aC, aChain, aOp, aUn, aTest, aTru, truD, aAnd, aOr, aNot, aIf, aCons, aNil, aTup, aLst, imAll, aCB, resAll, res, aCall, bok, isOw, bos, svOf, back, aNext, aSeq, aIfS, aAsg, aAsgO, aName, aGTup, aGCons, aGNil, aDrop, aFrz, frz, aOfL, fI0, fI, fNeg, fPlus, fLen, fTuple, fInt, fAbs, fMax2, fMin2, fIsN, fNotN, fIsB, fNotB, isNonD, isT, aApp, aAug, aPop, aSetI, aPar, aPar3, aMIm, aMFr, svM, aList, aSl, aPart, aNoPart, aISeq, aRg1, aRg2, aYes, wipeA, mrg, noOw, still, retA, Option.map, List.map, List.getElem?_cons_zero, List.getElem?_cons_succ, List.set_cons_zero, List.set_cons_succ, List.cons_append, List.nil_append, List.replicate, List.length_cons, List.length_nil, Bool.not_true, Bool.not_false, Bool.and_true, Bool.true_and, aZipTwo, aZip3, aZip2, aZ2, seqD, aEnum, aSrt, fIxN, fInN, fLenN, aSetN, aAsgN, aDNew, aMFd, aOfN, aLenSet, aIndex, aRg3d, aDisp1, aAsgNew, fMinT, fMaxT, aPopAt]
    exact ⟨by decide, by decide, hN _ rfl⟩
  subst h
  have hbl : (spiralC R C).length = R.toNat * C.toNat := (spiral_perm (R := R) (C := C) (by omega)).length_eq.trans (boxC_len R C)
  have hRC : ((R.toNat * C.toNat : Nat) : Int) = R * C := by rw [Int.natCast_mul, Int.toNat_of_nonneg (by omega), Int.toNat_of_nonneg (by omega)]
  have hle : R.toNat * C.toNat ≤ 3600 := Nat.mul_le_mul (show R.toNat ≤ 60 by omega) (show C.toNat ≤ 60 by omega)
  refine aSeq_cut (fun ρ' => ∃ s4 s5 s6 s7, ρ' = [.im (.int R), .im (.int C), .ow (.ol (csD (spiralC R C))), .im (.lst WAYS), s4, s5, s6, s7]) (fun N hN => ?_) (fun ρ' h => ?_)
  · refine ⟨spI R C, ⟨_, [], (0, 0), 0, rest, eL.symm, by decide, ?_, rfl, _, _, rfl⟩, fun m ρ' hW => ?_⟩
    · have e : (fun x => outB R C x ∨ x ∈ [] ++ [((0, 0) : Cl)]) = fun x => outB R C x ∨ x = (0, 0) := funext fun x => by rw [List.nil_append, List.mem_singleton]
      rw [e]
      exact g
    clear g eL rest
    obtain ⟨vis, p, w, rest, eL, hw, g, rfl, s6, s7, rfl⟩ := hW
    have hl : (vis ++ [p]).length + rest.length = R.toNat * C.toNat := by
      have e := congrArg List.length eL
      simp only [List.length_append, List.length_cons, List.length_nil] at e ⊢
      omega
    try dsimp only [fAll, isOl, isOd, fSum, aRet, aRetN, aAndV, aOrV, aNotV, aIsi, aVar, aC, aChain, aOp, aUn, aTest, aTru, truD, aAnd, aOr, aNot, aIf, aCons, aNil, aTup, aLst, imAll, aCB, resAll, res, aCall, bok, isOw, bos, svOf, back, aNext, aSeq, aIfS, aAsg, aAsgO, aName, aGTup, aGCons, aGNil, aDrop, aFrz, frz, aOfL, fI0, fI, fNeg, fPlus, fLen, fTuple, fInt, fAbs, fMax2, fMin2, fIsN, fNotN, fIsB, fNotB, isNonD, isT, aApp, aAug, aPop, aSetI, aPar, aPar3, aMIm, aMFr, svM, aList, aSl, aPart, aNoPart, aISeq, aRg1, aRg2, aYes, wipeA, mrg, noOw, still, retA, Option.map, List.map, List.getElem?_cons_zero, List.getElem?_cons_succ, List.set_cons_zero, List.set_cons_succ, List.cons_append, List.nil_append, List.replicate, List.length_cons, List.length_nil, Bool.not_true, Bool.not_false, Bool.and_true, Bool.true_and, aZipTwo, aZip3, aZip2, aZ2, seqD, aEnum, aSrt, fIxN, fInN, fLenN, aSetN, aAsgN, aDNew, aMFd, aOfN, aLenSet, aIndex, aRg3d, aDisp1, aAsgNew, fMinT, fMaxT, aPopAt]
    refine ⟨.inl ⟨by omega, by omega⟩, ?_⟩
    rw [csD_len]
    cases rest with
    | nil =>
      rw [List.length_nil] at hl
      rw [if_neg (by rw [decide_eq_true_eq]; omega)]
      rw [eL] at *
      exact hN _ ⟨_, _, _, _, rfl⟩
    | cons q rest =>
      rw [List.length_cons] at hl
      rw [if_pos (by rw [decide_eq_true_eq]; omega)]
      have el : (csD (vis ++ [p]))[(csD (vis ++ [p])).length - 1]? = some (cD p) := by
        rw [csD_len]
        unfold csD
        rw [List.getElem?_map, List.length_append, List.length_singleton, show vis.length + 1 - 1 = vis.length by omega, List.getElem?_append_right (Nat.le_refl _), Nat.sub_self]
        rfl
      obtain ⟨q1, q2⟩ := mv_d hw p
      refine ⟨_, atI_last el, ?_⟩
      refine ⟨.int p.1, rfl, ?_⟩
      refine ⟨_, ways_at hw, ?_⟩
      refine ⟨.int (dx w), rfl, ?_⟩
      refine ⟨_, atI_last el, ?_⟩
      refine ⟨.int p.2, rfl, ?_⟩
      refine ⟨_, ways_at hw, ?_⟩
      refine ⟨.int (dy w), rfl, ?_⟩
      try dsimp only [fAll, isOl, isOd, fSum, aRet, aRetN, aAndV, aOrV, aNotV, aIsi, aVar, aC, aChain, aOp, aUn, aTest, aTru, truD, aAnd, aOr, aNot, aIf, aCons, aNil, aTup, aLst, imAll, aCB, resAll, res, aCall, bok, isOw, bos, svOf, back, aNext, aSeq, aIfS, aAsg, aAsgO, aName, aGTup, aGCons, aGNil, aDrop, aFrz, frz, aOfL, fI0, fI, fNeg, fPlus, fLen, fTuple, fInt, fAbs, fMax2, fMin2, fIsN, fNotN, fIsB, fNotB, isNonD, isT, aApp, aAug, aPop, aSetI, aPar, aPar3, aMIm, aMFr, svM, aList, aSl, aPart, aNoPart, aISeq, aRg1, aRg2, aYes, wipeA, mrg, noOw, still, retA, Option.map, List.map, List.getElem?_cons_zero, List.getElem?_cons_succ, List.set_cons_zero, List.set_cons_succ, List.cons_append, List.nil_append, List.replicate, List.length_cons, List.length_nil, Bool.not_true, Bool.not_false, Bool.and_true, Bool.true_and, aZipTwo, aZip3, aZip2, aZ2, seqD, aEnum, aSrt, fIxN, fInN, fLenN, aSetN, aAsgN, aDNew, aMFd, aOfN, aLenSet, aIndex, aRg3d, aDisp1, aAsgNew, fMinT, fMaxT, aPopAt]
      rw [q1, q2]
      have turn : (outB R C (mv p w) ∨ mv p w ∈ vis ++ [p]) → ∀ ρ2 : AR, ρ2 = [.im (.int R), .im (.int C), .ow (.ol (csD (vis ++ [p]))), .im (.lst WAYS), .im (.int (((w : Int) + 1) % 4)), .ow (.od (csD (vis ++ [p])) (yes (vis ++ [p]))), .im (.int (mv p w).1), .im (.int (mv p w).2)] → ∃ m', m' < 2 * (q :: rest).length + due p w (q :: rest) ∧ spI R C m' ρ2 := fun hs ρ2 e => by
        rcases g with ⟨rfl, h1, _⟩ | ⟨_, h2, h3, h4⟩
        · exact (h1 hs).elim
        · have d1 : due p w (q :: rest) = 1 := by
            unfold due
            rw [List.head?_cons, if_neg]
            intro z
            cases z
            exact h3 hs
          have d2 : due p ((w + 1) % 4) (q :: rest) = 0 := by
            unfold due
            rw [List.head?_cons, h2, if_pos rfl]
          refine ⟨2 * (q :: rest).length, by omega, vis, p, (w + 1) % 4, q :: rest, eL, by omega, .inl ⟨h2, h3, h4⟩, by omega, .im (.int (mv p w).1), .im (.int (mv p w).2), ?_⟩
          rw [e, show (((w + 1) % 4 : Nat) : Int) = ((w : Int) + 1) % 4 by omega]
      have go : ¬ (outB R C (mv p w) ∨ mv p w ∈ vis ++ [p]) → ∀ ρ2 : AR, ρ2 = [.im (.int R), .im (.int C), .ow (.ol (csD ((vis ++ [p]) ++ [mv p w]))), .im (.lst WAYS), .im (.int w), .ow (.od (csD ((vis ++ [p]) ++ [mv p w])) (yes ((vis ++ [p]) ++ [mv p w]))), .im (.int (mv p w).1), .im (.int (mv p w).2)] → ∃ m', m' < 2 * (q :: rest).length + due p w (q :: rest) ∧ spI R C m' ρ2 := fun hs ρ2 e => by
        rcases g with ⟨rfl, h1, h2⟩ | ⟨h1, _⟩
        · have d2 := due_le (mv p w) w rest
          refine ⟨2 * rest.length + due (mv p w) w rest, by rw [List.length_cons]; omega, vis ++ [p], mv p w, w, rest, by rw [← eL, List.append_assoc]; rfl, hw, ?_, rfl, _, _, e⟩
          have ee : (fun x => outB R C x ∨ x ∈ (vis ++ [p]) ++ [mv p w]) = fun x => (outB R C x ∨ x ∈ vis ++ [p]) ∨ x = mv p w := funext fun x => by rw [List.mem_append (s := vis ++ [p]), List.mem_singleton, or_assoc]
          rw [ee]
          exact h2
        · exact (hs h1).elim
      have lv : (vis ++ [p]).length ≤ 3600 := by omega
      have kq : keyOk (cD (mv p w)) = true := rfl
      generalize mv p w = z at *
      generalize vis ++ [p] = vs at *
      generalize 2 * (q :: rest).length + due p w (q :: rest) = big at *
      by_cases c1 : 0 ≤ z.1
      · rw [if_pos (by rw [decide_eq_true_eq]; exact c1)]
        by_cases c2 : z.1 < R
        · rw [if_pos (by rw [decide_eq_true_eq]; exact c2)]
          by_cases c3 : 0 ≤ z.2
          · rw [if_pos (by rw [decide_eq_true_eq]; exact c3)]
            by_cases c4 : z.2 < C
            · rw [if_pos (by rw [decide_eq_true_eq]; exact c4)]
              refine ⟨by decide, kq, ?_⟩
              rw [show D.tup [.int z.1, .int z.2] = cD z from rfl, dget_cs]
              by_cases hz : z ∈ vs
              · rw [if_pos hz, if_neg (by decide)]
                exact ⟨by decide, turn (.inr hz) _ rfl⟩
              · rw [if_neg hz, if_pos (by decide), dput_cs hz]
                refine ⟨rfl, by decide, by omega, rfl, by decide, kq, by omega, go (fun h => h.elim (fun h => h ⟨⟨c1, c2⟩, c3, c4⟩) hz) _ ?_⟩
                rw [show csD vs ++ [cD z] = csD (vs ++ [z]) by unfold csD; rw [List.map_append]; rfl]
            · rw [if_neg (by rw [decide_eq_true_eq]; exact c4)]
              repeat rw [if_neg Bool.false_ne_true]
              exact ⟨by decide, turn (.inl fun h => c4 h.2.2) _ rfl⟩
          · rw [if_neg (by rw [decide_eq_true_eq]; exact c3)]
            repeat rw [if_neg Bool.false_ne_true]
            exact ⟨by decide, turn (.inl fun h => c3 h.2.1) _ rfl⟩
        · rw [if_neg (by rw [decide_eq_true_eq]; exact c2)]
          repeat rw [if_neg Bool.false_ne_true]
          exact ⟨by decide, turn (.inl fun h => c2 h.1.2) _ rfl⟩
      · rw [if_neg (by rw [decide_eq_true_eq]; exact c1)]
        repeat rw [if_neg Bool.false_ne_true]
        exact ⟨by decide, turn (.inl fun h => c1 h.1.1) _ rfl⟩
  obtain ⟨s4, s5, s6, s7, rfl⟩ := h
  try dsimp only [fAll, isOl, isOd, fSum, aRet, aRetN, aAndV, aOrV, aNotV, aIsi, aVar, aC, aChain, aOp, aUn, aTest, aTru, truD, aAnd, aOr, aNot, aIf, aCons, aNil, aTup, aLst, imAll, aCB, resAll, res, aCall, bok, isOw, bos, svOf, back, aNext, aSeq, aIfS, aAsg, aAsgO, aName, aGTup, aGCons, aGNil, aDrop, aFrz, frz, aOfL, fI0, fI, fNeg, fPlus, fLen, fTuple, fInt, fAbs, fMax2, fMin2, fIsN, fNotN, fIsB, fNotB, isNonD, isT, aApp, aAug, aPop, aSetI, aPar, aPar3, aMIm, aMFr, svM, aList, aSl, aPart, aNoPart, aISeq, aRg1, aRg2, aYes, wipeA, mrg, noOw, still, retA, Option.map, List.map, List.getElem?_cons_zero, List.getElem?_cons_succ, List.set_cons_zero, List.set_cons_succ, List.cons_append, List.nil_append, List.replicate, List.length_cons, List.length_nil, Bool.not_true, Bool.not_false, Bool.and_true, Bool.true_and, aZipTwo, aZip3, aZip2, aZ2, seqD, aEnum, aSrt, fIxN, fInN, fLenN, aSetN, aAsgN, aDNew, aMFd, aOfN, aLenSet, aIndex, aRg3d, aDisp1, aAsgNew, fMinT, fMaxT, aPopAt]
  exact ⟨rfl, hk⟩
end
end K89

namespace K89
open PySem PySem.Spec L2 DL
open PyProof.Rows hiding St
section
variable {P : Program} {w : World} {K : PySem.W.Frag} {mg : Str → Option Value} {base : Heap}
def afLawOrder : AF := fun ρ k => ∃ x r c, ρ = [.im (.str x), .im (.int r), .im (.int c)] ∧ x ∈ KINDS ∧ (1 ≤ r ∧ r ≤ 60 ∧ 1 ≤ c ∧ c ≤ 60) ∧ k (.tup (csD (ordX x r c))) ρ
theorem ok_law_order (Bn : Bt mg) (h : Here K mg "_law_order" sLawOrder ["kind", "rows", "columns"]) (d_law_spiral : Df P w K mg base 1 "_law_spiral" afLawSpiral) (d_law_box : Df P w K mg base 1 "_law_box" afLawBox) : Df P w K mg base 2 "_law_order" afLawOrder := by
  refine df_ok h scLawOrder [.un, .un, .un, .un] (fun ρ kk h => by obtain ⟨_, _, _, rfl, _⟩ := h; rfl) (fun f cdv A outer s H E hr => ⟨_, _, _, (gss_cons (gs_if (gt_eq (K := K) hr.units (gv 0) ge_str (nomark _)) (gss_one (gs_ret (ge_tupleK (K := K) Bn (ga_cons (ge_dfK d_law_spiral hr (ga_cons (gv 1) (ga_cons (gv 2) ga_nil))) ga_nil)))) gss_nil)
      (gss_cons (gs_set (i := 3) scLawOrder.nd (ge_dfK d_law_box hr (ga_cons (gv 1) (ga_cons (gv 2) ga_nil))))
      (gss_cons (gs_if (gt_eq (K := K) hr.units (gv 0) ge_str (nomark _)) (gss_cons (gs_set (i := 3) scLawOrder.nd (GL.e (gl_sorted rfl (hu65 hr) (K := K) Bn (ga_cons (GL.e (gl_lc rfl scLawOrder.nd (blkOk_by (own := [("row", 4), ("column", 5)]) (by kernel_rfl)) (gi_seqK (K := K) (gv 3)) (fun _ _ _ _ _ => (gg_tupK (K := K) (n := 2) rfl (ggs_cons (gg_name scLawOrder.nd (i := 4)) (ggs_cons (gg_name scLawOrder.nd (i := 5)) ggs_nil)))) (fun _ _ _ _ _ => gts_nil) (fun _ _ _ _ _ => (ge_tup (ga_cons (gv 4) (ga_cons (ge_if (gt_eq (K := K) hr.units (ge_op op_mod lk_mod (ge_int1 Bn (ga_cons (gv 4) ga_nil)) ge_int) ge_int (nomark _)) (gv 5) (ge_un un_neg lk_neg (gv 5))) ga_nil)))))) ga_nil))))
      (gss_one (gs_ret (ge_tupleK (K := K) Bn (ga_cons (GL.e (gl_lc rfl scLawOrder.nd (blkOk_by (own := [("row", 4), ("column", 5)]) (by kernel_rfl)) (gi_seqK (K := K) (gv 3)) (fun _ _ _ _ _ => (gg_tupK (K := K) (n := 2) rfl (ggs_cons (gg_name scLawOrder.nd (i := 4)) (ggs_cons (gg_name scLawOrder.nd (i := 5)) ggs_nil)))) (fun _ _ _ _ _ => gts_nil) (fun _ _ _ _ _ => (ge_tup (ga_cons (gv 4) (ga_cons (ge_max2 rfl Bn (ga_cons (gv 5) (ga_cons (ge_un un_neg lk_neg (gv 5)) ga_nil))) ga_nil)))))) ga_nil))))) gss_nil)
      (gss_cons (gs_if (gt_eq (K := K) hr.units (gv 0) ge_str (nomark _)) (gss_one (gs_ret (ge_tupleK (K := K) Bn (ga_cons (GL.e (gl_lc rfl scLawOrder.nd (blkOk_by (own := [("total", 6), ("row", 4)]) (by kernel_rfl)) (gi_seqK (K := K) (GL.e (gl_sorted rfl (hu65 hr) (K := K) Bn (ga_cons (GL.e (gl_lc rfl scLawOrder.nd (blkOk_by (own := [("row", 4), ("column", 5)]) (by kernel_rfl)) (gi_seqK (K := K) (gv 3)) (fun _ _ _ _ _ => (gg_tupK (K := K) (n := 2) rfl (ggs_cons (gg_name scLawOrder.nd (i := 4)) (ggs_cons (gg_name scLawOrder.nd (i := 5)) ggs_nil)))) (fun _ _ _ _ _ => gts_nil) (fun _ _ _ _ _ => (ge_tup (ga_cons (ge_plus (K := K) (gv 4) (gv 5)) (ga_cons (ge_un un_neg lk_neg (gv 4)) ga_nil)))))) ga_nil)))) (fun _ _ _ _ _ => (gg_tupK (K := K) (n := 2) rfl (ggs_cons (gg_name scLawOrder.nd (i := 6)) (ggs_cons (gg_name scLawOrder.nd (i := 4)) ggs_nil)))) (fun _ _ _ _ _ => gts_nil) (fun _ _ _ _ _ => (ge_tup (ga_cons (ge_un un_neg lk_neg (gv 4)) (ga_cons (ge_plus (K := K) (gv 6) (gv 4)) ga_nil)))))) ga_nil)))) gss_nil)
      (gss_one (gs_ret (ge_tupleK (K := K) Bn (ga_cons (gv 3) ga_nil)))))))), fun ρ kk h => ?_⟩)
  obtain ⟨x, r, c, rfl, hx, hb, hk⟩ := h
  refine ⟨rfl, ?_⟩
  have hbl : (boxC r c).length ≤ 3600 := by
    rw [boxC_len]
    exact Nat.mul_le_mul (show r.toNat ≤ 60 by omega) (show c.toNat ≤ 60 by omega)
  unfold KINDS at hx
  simp only [List.mem_cons, List.not_mem_nil, or_false] at hx
  have okm : ∀ p ∈ ordC x r c, okC p = true := fun p hp => by
    have := boxC_mem.mp ((ordC_perm x r c).mem_iff.mp hp)
    exact okC_iff.mpr (by omega)
  have okb : ∀ p ∈ boxC r c, okC p = true := fun p hp => by
    have := boxC_mem.mp hp
    exact okC_iff.mpr (by omega)
  have lo : (ordC x r c).length = (boxC r c).length := (ordC_perm x r c).length_eq
  have hkeys := ordC_keys x r c
  unfold ordX at hk
  rcases hx with rfl | rfl | rfl | rfl
  · rw [if_neg (by decide), ordC_rows] at hk
    try dsimp only [fAll, isOl, isOd, fSum, aRet, aRetN, aAndV, aOrV, aNotV, aIsi, aVar, aC, aChain, aOp, aUn, aTest, aTru, truD, aAnd, aOr, aNot, aIf, aCons, aNil, aTup, aLst, imAll, aCB, resAll, res, aCall, bok, isOw, bos, svOf, back, aNext, aSeq, aIfS, aAsg, aAsgO, aName, aGTup, aGCons, aGNil, aDrop, aFrz, frz, aOfL, fI0, fI, fNeg, fPlus, fLen, fTuple, fInt, fAbs, fMax2, fMin2, fIsN, fNotN, fIsB, fNotB, isNonD, isT, aApp, aAug, aPop, aSetI, aPar, aPar3, aMIm, aMFr, svM, aList, aSl, aPart, aNoPart, aISeq, aRg1, aRg2, aYes, wipeA, mrg, noOw, still, retA, Option.map, List.map, List.getElem?_cons_zero, List.getElem?_cons_succ, List.set_cons_zero, List.set_cons_succ, List.cons_append, List.nil_append, List.replicate, List.length_cons, List.length_nil, Bool.not_true, Bool.not_false, Bool.and_true, Bool.true_and, aZipTwo, aZip3, aZip2, aZ2, seqD, aEnum, aSrt, fIxN, fInN, fLenN, aSetN, aAsgN, aDNew, aMFd, aOfN, aLenSet, aIndex, aRg3d, aDisp1, aAsgNew, fMinT, fMaxT, aPopAt]
    refine ⟨by decide +kernel, by decide +kernel, ?_⟩
    rw [show eqv (.str "rows") (.str "spiral") = false by decide +kernel]
    try dsimp only [fAll, isOl, isOd, fSum, aRet, aRetN, aAndV, aOrV, aNotV, aIsi, aVar, aC, aChain, aOp, aUn, aTest, aTru, truD, aAnd, aOr, aNot, aIf, aCons, aNil, aTup, aLst, imAll, aCB, resAll, res, aCall, bok, isOw, bos, svOf, back, aNext, aSeq, aIfS, aAsg, aAsgO, aName, aGTup, aGCons, aGNil, aDrop, aFrz, frz, aOfL, fI0, fI, fNeg, fPlus, fLen, fTuple, fInt, fAbs, fMax2, fMin2, fIsN, fNotN, fIsB, fNotB, isNonD, isT, aApp, aAug, aPop, aSetI, aPar, aPar3, aMIm, aMFr, svM, aList, aSl, aPart, aNoPart, aISeq, aRg1, aRg2, aYes, wipeA, mrg, noOw, still, retA, Option.map, List.map, List.getElem?_cons_zero, List.getElem?_cons_succ, List.set_cons_zero, List.set_cons_succ, List.cons_append, List.nil_append, List.replicate, List.length_cons, List.length_nil, Bool.not_true, Bool.not_false, Bool.and_true, Bool.true_and, aZipTwo, aZip3, aZip2, aZ2, seqD, aEnum, aSrt, fIxN, fInN, fLenN, aSetN, aAsgN, aDNew, aMFd, aOfN, aLenSet, aIndex, aRg3d, aDisp1, aAsgNew, fMinT, fMaxT, aPopAt]
    rw [if_neg (by decide)]
    refine ⟨rfl, r, c, rfl, by omega, ?_⟩
    try dsimp only [fAll, isOl, isOd, fSum, aRet, aRetN, aAndV, aOrV, aNotV, aIsi, aVar, aC, aChain, aOp, aUn, aTest, aTru, truD, aAnd, aOr, aNot, aIf, aCons, aNil, aTup, aLst, imAll, aCB, resAll, res, aCall, bok, isOw, bos, svOf, back, aNext, aSeq, aIfS, aAsg, aAsgO, aName, aGTup, aGCons, aGNil, aDrop, aFrz, frz, aOfL, fI0, fI, fNeg, fPlus, fLen, fTuple, fInt, fAbs, fMax2, fMin2, fIsN, fNotN, fIsB, fNotB, isNonD, isT, aApp, aAug, aPop, aSetI, aPar, aPar3, aMIm, aMFr, svM, aList, aSl, aPart, aNoPart, aISeq, aRg1, aRg2, aYes, wipeA, mrg, noOw, still, retA, Option.map, List.map, List.getElem?_cons_zero, List.getElem?_cons_succ, List.set_cons_zero, List.set_cons_succ, List.cons_append, List.nil_append, List.replicate, List.length_cons, List.length_nil, Bool.not_true, Bool.not_false, Bool.and_true, Bool.true_and, aZipTwo, aZip3, aZip2, aZ2, seqD, aEnum, aSrt, fIxN, fInN, fLenN, aSetN, aAsgN, aDNew, aMFd, aOfN, aLenSet, aIndex, aRg3d, aDisp1, aAsgNew, fMinT, fMaxT, aPopAt]
    refine ⟨by decide +kernel, by decide +kernel, ?_⟩
    rw [show eqv (.str "rows") (.str "snake") = false by decide +kernel]
    try dsimp only [fAll, isOl, isOd, fSum, aRet, aRetN, aAndV, aOrV, aNotV, aIsi, aVar, aC, aChain, aOp, aUn, aTest, aTru, truD, aAnd, aOr, aNot, aIf, aCons, aNil, aTup, aLst, imAll, aCB, resAll, res, aCall, bok, isOw, bos, svOf, back, aNext, aSeq, aIfS, aAsg, aAsgO, aName, aGTup, aGCons, aGNil, aDrop, aFrz, frz, aOfL, fI0, fI, fNeg, fPlus, fLen, fTuple, fInt, fAbs, fMax2, fMin2, fIsN, fNotN, fIsB, fNotB, isNonD, isT, aApp, aAug, aPop, aSetI, aPar, aPar3, aMIm, aMFr, svM, aList, aSl, aPart, aNoPart, aISeq, aRg1, aRg2, aYes, wipeA, mrg, noOw, still, retA, Option.map, List.map, List.getElem?_cons_zero, List.getElem?_cons_succ, List.set_cons_zero, List.set_cons_succ, List.cons_append, List.nil_append, List.replicate, List.length_cons, List.length_nil, Bool.not_true, Bool.not_false, Bool.and_true, Bool.true_and, aZipTwo, aZip3, aZip2, aZ2, seqD, aEnum, aSrt, fIxN, fInN, fLenN, aSetN, aAsgN, aDNew, aMFd, aOfN, aLenSet, aIndex, aRg3d, aDisp1, aAsgNew, fMinT, fMaxT, aPopAt]
    rw [if_neg (by decide)]
    refine ⟨by decide +kernel, by decide +kernel, ?_⟩
    rw [show eqv (.str "rows") (.str "diagonals") = false by decide +kernel]
    try dsimp only [fAll, isOl, isOd, fSum, aRet, aRetN, aAndV, aOrV, aNotV, aIsi, aVar, aC, aChain, aOp, aUn, aTest, aTru, truD, aAnd, aOr, aNot, aIf, aCons, aNil, aTup, aLst, imAll, aCB, resAll, res, aCall, bok, isOw, bos, svOf, back, aNext, aSeq, aIfS, aAsg, aAsgO, aName, aGTup, aGCons, aGNil, aDrop, aFrz, frz, aOfL, fI0, fI, fNeg, fPlus, fLen, fTuple, fInt, fAbs, fMax2, fMin2, fIsN, fNotN, fIsB, fNotB, isNonD, isT, aApp, aAug, aPop, aSetI, aPar, aPar3, aMIm, aMFr, svM, aList, aSl, aPart, aNoPart, aISeq, aRg1, aRg2, aYes, wipeA, mrg, noOw, still, retA, Option.map, List.map, List.getElem?_cons_zero, List.getElem?_cons_succ, List.set_cons_zero, List.set_cons_succ, List.cons_append, List.nil_append, List.replicate, List.length_cons, List.length_nil, Bool.not_true, Bool.not_false, Bool.and_true, Bool.true_and, aZipTwo, aZip3, aZip2, aZ2, seqD, aEnum, aSrt, fIxN, fInN, fLenN, aSetN, aAsgN, aDNew, aMFd, aOfN, aLenSet, aIndex, aRg3d, aDisp1, aAsgNew, fMinT, fMaxT, aPopAt]
    rw [if_neg (by decide)]
    exact ⟨rfl, hk⟩
  · rw [if_neg (by decide)] at hk
    try dsimp only [fAll, isOl, isOd, fSum, aRet, aRetN, aAndV, aOrV, aNotV, aIsi, aVar, aC, aChain, aOp, aUn, aTest, aTru, truD, aAnd, aOr, aNot, aIf, aCons, aNil, aTup, aLst, imAll, aCB, resAll, res, aCall, bok, isOw, bos, svOf, back, aNext, aSeq, aIfS, aAsg, aAsgO, aName, aGTup, aGCons, aGNil, aDrop, aFrz, frz, aOfL, fI0, fI, fNeg, fPlus, fLen, fTuple, fInt, fAbs, fMax2, fMin2, fIsN, fNotN, fIsB, fNotB, isNonD, isT, aApp, aAug, aPop, aSetI, aPar, aPar3, aMIm, aMFr, svM, aList, aSl, aPart, aNoPart, aISeq, aRg1, aRg2, aYes, wipeA, mrg, noOw, still, retA, Option.map, List.map, List.getElem?_cons_zero, List.getElem?_cons_succ, List.set_cons_zero, List.set_cons_succ, List.cons_append, List.nil_append, List.replicate, List.length_cons, List.length_nil, Bool.not_true, Bool.not_false, Bool.and_true, Bool.true_and, aZipTwo, aZip3, aZip2, aZ2, seqD, aEnum, aSrt, fIxN, fInN, fLenN, aSetN, aAsgN, aDNew, aMFd, aOfN, aLenSet, aIndex, aRg3d, aDisp1, aAsgNew, fMinT, fMaxT, aPopAt]
    refine ⟨by decide +kernel, by decide +kernel, ?_⟩
    rw [show eqv (.str "snake") (.str "spiral") = false by decide +kernel]
    try dsimp only [fAll, isOl, isOd, fSum, aRet, aRetN, aAndV, aOrV, aNotV, aIsi, aVar, aC, aChain, aOp, aUn, aTest, aTru, truD, aAnd, aOr, aNot, aIf, aCons, aNil, aTup, aLst, imAll, aCB, resAll, res, aCall, bok, isOw, bos, svOf, back, aNext, aSeq, aIfS, aAsg, aAsgO, aName, aGTup, aGCons, aGNil, aDrop, aFrz, frz, aOfL, fI0, fI, fNeg, fPlus, fLen, fTuple, fInt, fAbs, fMax2, fMin2, fIsN, fNotN, fIsB, fNotB, isNonD, isT, aApp, aAug, aPop, aSetI, aPar, aPar3, aMIm, aMFr, svM, aList, aSl, aPart, aNoPart, aISeq, aRg1, aRg2, aYes, wipeA, mrg, noOw, still, retA, Option.map, List.map, List.getElem?_cons_zero, List.getElem?_cons_succ, List.set_cons_zero, List.set_cons_succ, List.cons_append, List.nil_append, List.replicate, List.length_cons, List.length_nil, Bool.not_true, Bool.not_false, Bool.and_true, Bool.true_and, aZipTwo, aZip3, aZip2, aZ2, seqD, aEnum, aSrt, fIxN, fInN, fLenN, aSetN, aAsgN, aDNew, aMFd, aOfN, aLenSet, aIndex, aRg3d, aDisp1, aAsgNew, fMinT, fMaxT, aPopAt]
    rw [if_neg (by decide)]
    refine ⟨rfl, r, c, rfl, by omega, ?_⟩
    try dsimp only [fAll, isOl, isOd, fSum, aRet, aRetN, aAndV, aOrV, aNotV, aIsi, aVar, aC, aChain, aOp, aUn, aTest, aTru, truD, aAnd, aOr, aNot, aIf, aCons, aNil, aTup, aLst, imAll, aCB, resAll, res, aCall, bok, isOw, bos, svOf, back, aNext, aSeq, aIfS, aAsg, aAsgO, aName, aGTup, aGCons, aGNil, aDrop, aFrz, frz, aOfL, fI0, fI, fNeg, fPlus, fLen, fTuple, fInt, fAbs, fMax2, fMin2, fIsN, fNotN, fIsB, fNotB, isNonD, isT, aApp, aAug, aPop, aSetI, aPar, aPar3, aMIm, aMFr, svM, aList, aSl, aPart, aNoPart, aISeq, aRg1, aRg2, aYes, wipeA, mrg, noOw, still, retA, Option.map, List.map, List.getElem?_cons_zero, List.getElem?_cons_succ, List.set_cons_zero, List.set_cons_succ, List.cons_append, List.nil_append, List.replicate, List.length_cons, List.length_nil, Bool.not_true, Bool.not_false, Bool.and_true, Bool.true_and, aZipTwo, aZip3, aZip2, aZ2, seqD, aEnum, aSrt, fIxN, fInN, fLenN, aSetN, aAsgN, aDNew, aMFd, aOfN, aLenSet, aIndex, aRg3d, aDisp1, aAsgNew, fMinT, fMaxT, aPopAt]
    refine ⟨by decide +kernel, by decide +kernel, ?_⟩
    rw [show eqv (.str "snake") (.str "snake") = true by decide +kernel]
    try dsimp only [fAll, isOl, isOd, fSum, aRet, aRetN, aAndV, aOrV, aNotV, aIsi, aVar, aC, aChain, aOp, aUn, aTest, aTru, truD, aAnd, aOr, aNot, aIf, aCons, aNil, aTup, aLst, imAll, aCB, resAll, res, aCall, bok, isOw, bos, svOf, back, aNext, aSeq, aIfS, aAsg, aAsgO, aName, aGTup, aGCons, aGNil, aDrop, aFrz, frz, aOfL, fI0, fI, fNeg, fPlus, fLen, fTuple, fInt, fAbs, fMax2, fMin2, fIsN, fNotN, fIsB, fNotB, isNonD, isT, aApp, aAug, aPop, aSetI, aPar, aPar3, aMIm, aMFr, svM, aList, aSl, aPart, aNoPart, aISeq, aRg1, aRg2, aYes, wipeA, mrg, noOw, still, retA, Option.map, List.map, List.getElem?_cons_zero, List.getElem?_cons_succ, List.set_cons_zero, List.set_cons_succ, List.cons_append, List.nil_append, List.replicate, List.length_cons, List.length_nil, Bool.not_true, Bool.not_false, Bool.and_true, Bool.true_and, aZipTwo, aZip3, aZip2, aZ2, seqD, aEnum, aSrt, fIxN, fInN, fLenN, aSetN, aAsgN, aDNew, aMFd, aOfN, aLenSet, aIndex, aRg3d, aDisp1, aAsgNew, fMinT, fMaxT, aPopAt]
    rw [if_pos rfl]
    refine aLc_mapM (boxC r c) cD (fun p => cD (snk p)) (fun k' hk' => ?_) rfl (by omega) (fun p hp Wy hW => ?_) ?_
    · try dsimp only [fAll, isOl, isOd, fSum, aRet, aRetN, aAndV, aOrV, aNotV, aIsi, aVar, aC, aChain, aOp, aUn, aTest, aTru, truD, aAnd, aOr, aNot, aIf, aCons, aNil, aTup, aLst, imAll, aCB, resAll, res, aCall, bok, isOw, bos, svOf, back, aNext, aSeq, aIfS, aAsg, aAsgO, aName, aGTup, aGCons, aGNil, aDrop, aFrz, frz, aOfL, fI0, fI, fNeg, fPlus, fLen, fTuple, fInt, fAbs, fMax2, fMin2, fIsN, fNotN, fIsB, fNotB, isNonD, isT, aApp, aAug, aPop, aSetI, aPar, aPar3, aMIm, aMFr, svM, aList, aSl, aPart, aNoPart, aISeq, aRg1, aRg2, aYes, wipeA, mrg, noOw, still, retA, Option.map, List.map, List.getElem?_cons_zero, List.getElem?_cons_succ, List.set_cons_zero, List.set_cons_succ, List.cons_append, List.nil_append, List.replicate, List.length_cons, List.length_nil, Bool.not_true, Bool.not_false, Bool.and_true, Bool.true_and, aZipTwo, aZip3, aZip2, aZ2, seqD, aEnum, aSrt, fIxN, fInN, fLenN, aSetN, aAsgN, aDNew, aMFd, aOfN, aLenSet, aIndex, aRg3d, aDisp1, aAsgNew, fMinT, fMaxT, aPopAt]
      exact hk'
    · have := okC_iff.mp (okb p hp)
      unfold snk at hW
      unfold cD at hW ⊢
      try dsimp only [fAll, isOl, isOd, fSum, aRet, aRetN, aAndV, aOrV, aNotV, aIsi, aVar, aC, aChain, aOp, aUn, aTest, aTru, truD, aAnd, aOr, aNot, aIf, aCons, aNil, aTup, aLst, imAll, aCB, resAll, res, aCall, bok, isOw, bos, svOf, back, aNext, aSeq, aIfS, aAsg, aAsgO, aName, aGTup, aGCons, aGNil, aDrop, aFrz, frz, aOfL, fI0, fI, fNeg, fPlus, fLen, fTuple, fInt, fAbs, fMax2, fMin2, fIsN, fNotN, fIsB, fNotB, isNonD, isT, aApp, aAug, aPop, aSetI, aPar, aPar3, aMIm, aMFr, svM, aList, aSl, aPart, aNoPart, aISeq, aRg1, aRg2, aYes, wipeA, mrg, noOw, still, retA, Option.map, List.map, List.getElem?_cons_zero, List.getElem?_cons_succ, List.set_cons_zero, List.set_cons_succ, List.cons_append, List.nil_append, List.replicate, List.length_cons, List.length_nil, Bool.not_true, Bool.not_false, Bool.and_true, Bool.true_and, aZipTwo, aZip3, aZip2, aZ2, seqD, aEnum, aSrt, fIxN, fInN, fLenN, aSetN, aAsgN, aDNew, aMFd, aOfN, aLenSet, aIndex, aRg3d, aDisp1, aAsgNew, fMinT, fMaxT, aPopAt]
      refine ⟨rfl, rfl, by decide, rfl, rfl, ?_⟩
      rw [eqv_int]
      by_cases e : p.1 / 2 * 2 = p.1
      · rw [if_pos e] at hW
        rw [show (p.1 % 2 == 0) = true from beq_iff_eq.mpr (by omega)]
        exact ⟨by decide, _, rfl, hW⟩
      · rw [if_neg e] at hW
        rw [show (p.1 % 2 == 0) = false from beq_eq_false_iff_ne.mpr (by omega)]
        exact ⟨by decide, _, rfl, hW⟩
    · have e1 : (boxC r c).map (fun p => cD (snk p)) = csD ((boxC r c).map snk) := by unfold csD; rw [List.map_map]; rfl
      have e2 : ((boxC r c).map snk).mergeSort le2 = (ordC "snake" r c).map snk := by
        have : keyX "snake" = snk := funext keyX_s
        rw [this] at hkeys
        exact hkeys.symm
      rw [e1]
      refine ⟨srt_ok _ (by rw [List.length_map]; omega), ?_⟩
      rw [srt_cells, e2]
      generalize hBX : csD ((ordC "snake" r c).map snk) = BX
      have hB : (ordC "snake" r c).map (fun p => cD (snk p)) = BX := by
        rw [← hBX]
        unfold csD
        rw [List.map_map]
        rfl
      refine aLc_mapM (ordC "snake" r c) (fun p => cD (snk p)) cD (fun k' hk' => ?_) rfl (by omega) (fun p hp Wy hW => ?_) ?_
      · try dsimp only [fAll, isOl, isOd, fSum, aRet, aRetN, aAndV, aOrV, aNotV, aIsi, aVar, aC, aChain, aOp, aUn, aTest, aTru, truD, aAnd, aOr, aNot, aIf, aCons, aNil, aTup, aLst, imAll, aCB, resAll, res, aCall, bok, isOw, bos, svOf, back, aNext, aSeq, aIfS, aAsg, aAsgO, aName, aGTup, aGCons, aGNil, aDrop, aFrz, frz, aOfL, fI0, fI, fNeg, fPlus, fLen, fTuple, fInt, fAbs, fMax2, fMin2, fIsN, fNotN, fIsB, fNotB, isNonD, isT, aApp, aAug, aPop, aSetI, aPar, aPar3, aMIm, aMFr, svM, aList, aSl, aPart, aNoPart, aISeq, aRg1, aRg2, aYes, wipeA, mrg, noOw, still, retA, Option.map, List.map, List.getElem?_cons_zero, List.getElem?_cons_succ, List.set_cons_zero, List.set_cons_succ, List.cons_append, List.nil_append, List.replicate, List.length_cons, List.length_nil, Bool.not_true, Bool.not_false, Bool.and_true, Bool.true_and, aZipTwo, aZip3, aZip2, aZ2, seqD, aEnum, aSrt, fIxN, fInN, fLenN, aSetN, aAsgN, aDNew, aMFd, aOfN, aLenSet, aIndex, aRg3d, aDisp1, aAsgNew, fMinT, fMaxT, aPopAt]
        rw [hB] at hk'
        exact hk'
      · have := okC_iff.mp (okm p hp)
        unfold snk
        unfold cD at hW ⊢
        try dsimp only [fAll, isOl, isOd, fSum, aRet, aRetN, aAndV, aOrV, aNotV, aIsi, aVar, aC, aChain, aOp, aUn, aTest, aTru, truD, aAnd, aOr, aNot, aIf, aCons, aNil, aTup, aLst, imAll, aCB, resAll, res, aCall, bok, isOw, bos, svOf, back, aNext, aSeq, aIfS, aAsg, aAsgO, aName, aGTup, aGCons, aGNil, aDrop, aFrz, frz, aOfL, fI0, fI, fNeg, fPlus, fLen, fTuple, fInt, fAbs, fMax2, fMin2, fIsN, fNotN, fIsB, fNotB, isNonD, isT, aApp, aAug, aPop, aSetI, aPar, aPar3, aMIm, aMFr, svM, aList, aSl, aPart, aNoPart, aISeq, aRg1, aRg2, aYes, wipeA, mrg, noOw, still, retA, Option.map, List.map, List.getElem?_cons_zero, List.getElem?_cons_succ, List.set_cons_zero, List.set_cons_succ, List.cons_append, List.nil_append, List.replicate, List.length_cons, List.length_nil, Bool.not_true, Bool.not_false, Bool.and_true, Bool.true_and, aZipTwo, aZip3, aZip2, aZ2, seqD, aEnum, aSrt, fIxN, fInN, fLenN, aSetN, aAsgN, aDNew, aMFd, aOfN, aLenSet, aIndex, aRg3d, aDisp1, aAsgNew, fMinT, fMaxT, aPopAt]
        refine ⟨rfl, rfl, by decide, cD p, ?_, hW⟩
        refine congrArg (fun z : Int => AV.im (.tup [.int p.1, .int z])) ?_
        by_cases e : p.1 / 2 * 2 = p.1
        · rw [if_pos e]; split <;> omega
        · rw [if_neg e]; split <;> omega
      · try dsimp only [fAll, isOl, isOd, fSum, aRet, aRetN, aAndV, aOrV, aNotV, aIsi, aVar, aC, aChain, aOp, aUn, aTest, aTru, truD, aAnd, aOr, aNot, aIf, aCons, aNil, aTup, aLst, imAll, aCB, resAll, res, aCall, bok, isOw, bos, svOf, back, aNext, aSeq, aIfS, aAsg, aAsgO, aName, aGTup, aGCons, aGNil, aDrop, aFrz, frz, aOfL, fI0, fI, fNeg, fPlus, fLen, fTuple, fInt, fAbs, fMax2, fMin2, fIsN, fNotN, fIsB, fNotB, isNonD, isT, aApp, aAug, aPop, aSetI, aPar, aPar3, aMIm, aMFr, svM, aList, aSl, aPart, aNoPart, aISeq, aRg1, aRg2, aYes, wipeA, mrg, noOw, still, retA, Option.map, List.map, List.getElem?_cons_zero, List.getElem?_cons_succ, List.set_cons_zero, List.set_cons_succ, List.cons_append, List.nil_append, List.replicate, List.length_cons, List.length_nil, Bool.not_true, Bool.not_false, Bool.and_true, Bool.true_and, aZipTwo, aZip3, aZip2, aZ2, seqD, aEnum, aSrt, fIxN, fInN, fLenN, aSetN, aAsgN, aDNew, aMFd, aOfN, aLenSet, aIndex, aRg3d, aDisp1, aAsgNew, fMinT, fMaxT, aPopAt]
        exact ⟨rfl, hk⟩
  · rw [if_neg (by decide)] at hk
    try dsimp only [fAll, isOl, isOd, fSum, aRet, aRetN, aAndV, aOrV, aNotV, aIsi, aVar, aC, aChain, aOp, aUn, aTest, aTru, truD, aAnd, aOr, aNot, aIf, aCons, aNil, aTup, aLst, imAll, aCB, resAll, res, aCall, bok, isOw, bos, svOf, back, aNext, aSeq, aIfS, aAsg, aAsgO, aName, aGTup, aGCons, aGNil, aDrop, aFrz, frz, aOfL, fI0, fI, fNeg, fPlus, fLen, fTuple, fInt, fAbs, fMax2, fMin2, fIsN, fNotN, fIsB, fNotB, isNonD, isT, aApp, aAug, aPop, aSetI, aPar, aPar3, aMIm, aMFr, svM, aList, aSl, aPart, aNoPart, aISeq, aRg1, aRg2, aYes, wipeA, mrg, noOw, still, retA, Option.map, List.map, List.getElem?_cons_zero, List.getElem?_cons_succ, List.set_cons_zero, List.set_cons_succ, List.cons_append, List.nil_append, List.replicate, List.length_cons, List.length_nil, Bool.not_true, Bool.not_false, Bool.and_true, Bool.true_and, aZipTwo, aZip3, aZip2, aZ2, seqD, aEnum, aSrt, fIxN, fInN, fLenN, aSetN, aAsgN, aDNew, aMFd, aOfN, aLenSet, aIndex, aRg3d, aDisp1, aAsgNew, fMinT, fMaxT, aPopAt]
    refine ⟨by decide +kernel, by decide +kernel, ?_⟩
    rw [show eqv (.str "diagonals") (.str "spiral") = false by decide +kernel]
    try dsimp only [fAll, isOl, isOd, fSum, aRet, aRetN, aAndV, aOrV, aNotV, aIsi, aVar, aC, aChain, aOp, aUn, aTest, aTru, truD, aAnd, aOr, aNot, aIf, aCons, aNil, aTup, aLst, imAll, aCB, resAll, res, aCall, bok, isOw, bos, svOf, back, aNext, aSeq, aIfS, aAsg, aAsgO, aName, aGTup, aGCons, aGNil, aDrop, aFrz, frz, aOfL, fI0, fI, fNeg, fPlus, fLen, fTuple, fInt, fAbs, fMax2, fMin2, fIsN, fNotN, fIsB, fNotB, isNonD, isT, aApp, aAug, aPop, aSetI, aPar, aPar3, aMIm, aMFr, svM, aList, aSl, aPart, aNoPart, aISeq, aRg1, aRg2, aYes, wipeA, mrg, noOw, still, retA, Option.map, List.map, List.getElem?_cons_zero, List.getElem?_cons_succ, List.set_cons_zero, List.set_cons_succ, List.cons_append, List.nil_append, List.replicate, List.length_cons, List.length_nil, Bool.not_true, Bool.not_false, Bool.and_true, Bool.true_and, aZipTwo, aZip3, aZip2, aZ2, seqD, aEnum, aSrt, fIxN, fInN, fLenN, aSetN, aAsgN, aDNew, aMFd, aOfN, aLenSet, aIndex, aRg3d, aDisp1, aAsgNew, fMinT, fMaxT, aPopAt]
    rw [if_neg (by decide)]
    refine ⟨rfl, r, c, rfl, by omega, ?_⟩
    try dsimp only [fAll, isOl, isOd, fSum, aRet, aRetN, aAndV, aOrV, aNotV, aIsi, aVar, aC, aChain, aOp, aUn, aTest, aTru, truD, aAnd, aOr, aNot, aIf, aCons, aNil, aTup, aLst, imAll, aCB, resAll, res, aCall, bok, isOw, bos, svOf, back, aNext, aSeq, aIfS, aAsg, aAsgO, aName, aGTup, aGCons, aGNil, aDrop, aFrz, frz, aOfL, fI0, fI, fNeg, fPlus, fLen, fTuple, fInt, fAbs, fMax2, fMin2, fIsN, fNotN, fIsB, fNotB, isNonD, isT, aApp, aAug, aPop, aSetI, aPar, aPar3, aMIm, aMFr, svM, aList, aSl, aPart, aNoPart, aISeq, aRg1, aRg2, aYes, wipeA, mrg, noOw, still, retA, Option.map, List.map, List.getElem?_cons_zero, List.getElem?_cons_succ, List.set_cons_zero, List.set_cons_succ, List.cons_append, List.nil_append, List.replicate, List.length_cons, List.length_nil, Bool.not_true, Bool.not_false, Bool.and_true, Bool.true_and, aZipTwo, aZip3, aZip2, aZ2, seqD, aEnum, aSrt, fIxN, fInN, fLenN, aSetN, aAsgN, aDNew, aMFd, aOfN, aLenSet, aIndex, aRg3d, aDisp1, aAsgNew, fMinT, fMaxT, aPopAt]
    refine ⟨by decide +kernel, by decide +kernel, ?_⟩
    rw [show eqv (.str "diagonals") (.str "snake") = false by decide +kernel]
    try dsimp only [fAll, isOl, isOd, fSum, aRet, aRetN, aAndV, aOrV, aNotV, aIsi, aVar, aC, aChain, aOp, aUn, aTest, aTru, truD, aAnd, aOr, aNot, aIf, aCons, aNil, aTup, aLst, imAll, aCB, resAll, res, aCall, bok, isOw, bos, svOf, back, aNext, aSeq, aIfS, aAsg, aAsgO, aName, aGTup, aGCons, aGNil, aDrop, aFrz, frz, aOfL, fI0, fI, fNeg, fPlus, fLen, fTuple, fInt, fAbs, fMax2, fMin2, fIsN, fNotN, fIsB, fNotB, isNonD, isT, aApp, aAug, aPop, aSetI, aPar, aPar3, aMIm, aMFr, svM, aList, aSl, aPart, aNoPart, aISeq, aRg1, aRg2, aYes, wipeA, mrg, noOw, still, retA, Option.map, List.map, List.getElem?_cons_zero, List.getElem?_cons_succ, List.set_cons_zero, List.set_cons_succ, List.cons_append, List.nil_append, List.replicate, List.length_cons, List.length_nil, Bool.not_true, Bool.not_false, Bool.and_true, Bool.true_and, aZipTwo, aZip3, aZip2, aZ2, seqD, aEnum, aSrt, fIxN, fInN, fLenN, aSetN, aAsgN, aDNew, aMFd, aOfN, aLenSet, aIndex, aRg3d, aDisp1, aAsgNew, fMinT, fMaxT, aPopAt]
    rw [if_neg (by decide)]
    refine ⟨by decide +kernel, by decide +kernel, ?_⟩
    rw [show eqv (.str "diagonals") (.str "diagonals") = true by decide +kernel]
    try dsimp only [fAll, isOl, isOd, fSum, aRet, aRetN, aAndV, aOrV, aNotV, aIsi, aVar, aC, aChain, aOp, aUn, aTest, aTru, truD, aAnd, aOr, aNot, aIf, aCons, aNil, aTup, aLst, imAll, aCB, resAll, res, aCall, bok, isOw, bos, svOf, back, aNext, aSeq, aIfS, aAsg, aAsgO, aName, aGTup, aGCons, aGNil, aDrop, aFrz, frz, aOfL, fI0, fI, fNeg, fPlus, fLen, fTuple, fInt, fAbs, fMax2, fMin2, fIsN, fNotN, fIsB, fNotB, isNonD, isT, aApp, aAug, aPop, aSetI, aPar, aPar3, aMIm, aMFr, svM, aList, aSl, aPart, aNoPart, aISeq, aRg1, aRg2, aYes, wipeA, mrg, noOw, still, retA, Option.map, List.map, List.getElem?_cons_zero, List.getElem?_cons_succ, List.set_cons_zero, List.set_cons_succ, List.cons_append, List.nil_append, List.replicate, List.length_cons, List.length_nil, Bool.not_true, Bool.not_false, Bool.and_true, Bool.true_and, aZipTwo, aZip3, aZip2, aZ2, seqD, aEnum, aSrt, fIxN, fInN, fLenN, aSetN, aAsgN, aDNew, aMFd, aOfN, aLenSet, aIndex, aRg3d, aDisp1, aAsgNew, fMinT, fMaxT, aPopAt]
    rw [if_pos rfl]
    have e1 : (boxC r c).map (fun p => cD (dia p)) = csD ((boxC r c).map dia) := by unfold csD; rw [List.map_map]; rfl
    have e2 : ((boxC r c).map dia).mergeSort le2 = (ordC "diagonals" r c).map dia := by
      have : keyX "diagonals" = dia := funext keyX_d
      rw [this] at hkeys
      exact hkeys.symm
    refine aLc_mapM (ordC "diagonals" r c) (fun p => cD (dia p)) cD (fun k' hk' => ?_) rfl (by omega) (fun p hp Wy hW => ?_) ?_
    · try dsimp only [fAll, isOl, isOd, fSum, aRet, aRetN, aAndV, aOrV, aNotV, aIsi, aVar, aC, aChain, aOp, aUn, aTest, aTru, truD, aAnd, aOr, aNot, aIf, aCons, aNil, aTup, aLst, imAll, aCB, resAll, res, aCall, bok, isOw, bos, svOf, back, aNext, aSeq, aIfS, aAsg, aAsgO, aName, aGTup, aGCons, aGNil, aDrop, aFrz, frz, aOfL, fI0, fI, fNeg, fPlus, fLen, fTuple, fInt, fAbs, fMax2, fMin2, fIsN, fNotN, fIsB, fNotB, isNonD, isT, aApp, aAug, aPop, aSetI, aPar, aPar3, aMIm, aMFr, svM, aList, aSl, aPart, aNoPart, aISeq, aRg1, aRg2, aYes, wipeA, mrg, noOw, still, retA, Option.map, List.map, List.getElem?_cons_zero, List.getElem?_cons_succ, List.set_cons_zero, List.set_cons_succ, List.cons_append, List.nil_append, List.replicate, List.length_cons, List.length_nil, Bool.not_true, Bool.not_false, Bool.and_true, Bool.true_and, aZipTwo, aZip3, aZip2, aZ2, seqD, aEnum, aSrt, fIxN, fInN, fLenN, aSetN, aAsgN, aDNew, aMFd, aOfN, aLenSet, aIndex, aRg3d, aDisp1, aAsgNew, fMinT, fMaxT, aPopAt]
      refine aLc_mapM (boxC r c) cD (fun p => cD (dia p)) (fun k2 hk2 => ?_) rfl (by omega) (fun p hp Wy hW => ?_) ?_
      · try dsimp only [fAll, isOl, isOd, fSum, aRet, aRetN, aAndV, aOrV, aNotV, aIsi, aVar, aC, aChain, aOp, aUn, aTest, aTru, truD, aAnd, aOr, aNot, aIf, aCons, aNil, aTup, aLst, imAll, aCB, resAll, res, aCall, bok, isOw, bos, svOf, back, aNext, aSeq, aIfS, aAsg, aAsgO, aName, aGTup, aGCons, aGNil, aDrop, aFrz, frz, aOfL, fI0, fI, fNeg, fPlus, fLen, fTuple, fInt, fAbs, fMax2, fMin2, fIsN, fNotN, fIsB, fNotB, isNonD, isT, aApp, aAug, aPop, aSetI, aPar, aPar3, aMIm, aMFr, svM, aList, aSl, aPart, aNoPart, aISeq, aRg1, aRg2, aYes, wipeA, mrg, noOw, still, retA, Option.map, List.map, List.getElem?_cons_zero, List.getElem?_cons_succ, List.set_cons_zero, List.set_cons_succ, List.cons_append, List.nil_append, List.replicate, List.length_cons, List.length_nil, Bool.not_true, Bool.not_false, Bool.and_true, Bool.true_and, aZipTwo, aZip3, aZip2, aZ2, seqD, aEnum, aSrt, fIxN, fInN, fLenN, aSetN, aAsgN, aDNew, aMFd, aOfN, aLenSet, aIndex, aRg3d, aDisp1, aAsgNew, fMinT, fMaxT, aPopAt]
        exact hk2
      · unfold dia at hW
        unfold cD at hW ⊢
        try dsimp only [fAll, isOl, isOd, fSum, aRet, aRetN, aAndV, aOrV, aNotV, aIsi, aVar, aC, aChain, aOp, aUn, aTest, aTru, truD, aAnd, aOr, aNot, aIf, aCons, aNil, aTup, aLst, imAll, aCB, resAll, res, aCall, bok, isOw, bos, svOf, back, aNext, aSeq, aIfS, aAsg, aAsgO, aName, aGTup, aGCons, aGNil, aDrop, aFrz, frz, aOfL, fI0, fI, fNeg, fPlus, fLen, fTuple, fInt, fAbs, fMax2, fMin2, fIsN, fNotN, fIsB, fNotB, isNonD, isT, aApp, aAug, aPop, aSetI, aPar, aPar3, aMIm, aMFr, svM, aList, aSl, aPart, aNoPart, aISeq, aRg1, aRg2, aYes, wipeA, mrg, noOw, still, retA, Option.map, List.map, List.getElem?_cons_zero, List.getElem?_cons_succ, List.set_cons_zero, List.set_cons_succ, List.cons_append, List.nil_append, List.replicate, List.length_cons, List.length_nil, Bool.not_true, Bool.not_false, Bool.and_true, Bool.true_and, aZipTwo, aZip3, aZip2, aZ2, seqD, aEnum, aSrt, fIxN, fInN, fLenN, aSetN, aAsgN, aDNew, aMFd, aOfN, aLenSet, aIndex, aRg3d, aDisp1, aAsgNew, fMinT, fMaxT, aPopAt]
        exact ⟨rfl, rfl, by decide, _, rfl, hW⟩
      · try dsimp only [fAll, isOl, isOd, fSum, aRet, aRetN, aAndV, aOrV, aNotV, aIsi, aVar, aC, aChain, aOp, aUn, aTest, aTru, truD, aAnd, aOr, aNot, aIf, aCons, aNil, aTup, aLst, imAll, aCB, resAll, res, aCall, bok, isOw, bos, svOf, back, aNext, aSeq, aIfS, aAsg, aAsgO, aName, aGTup, aGCons, aGNil, aDrop, aFrz, frz, aOfL, fI0, fI, fNeg, fPlus, fLen, fTuple, fInt, fAbs, fMax2, fMin2, fIsN, fNotN, fIsB, fNotB, isNonD, isT, aApp, aAug, aPop, aSetI, aPar, aPar3, aMIm, aMFr, svM, aList, aSl, aPart, aNoPart, aISeq, aRg1, aRg2, aYes, wipeA, mrg, noOw, still, retA, Option.map, List.map, List.getElem?_cons_zero, List.getElem?_cons_succ, List.set_cons_zero, List.set_cons_succ, List.cons_append, List.nil_append, List.replicate, List.length_cons, List.length_nil, Bool.not_true, Bool.not_false, Bool.and_true, Bool.true_and, aZipTwo, aZip3, aZip2, aZ2, seqD, aEnum, aSrt, fIxN, fInN, fLenN, aSetN, aAsgN, aDNew, aMFd, aOfN, aLenSet, aIndex, aRg3d, aDisp1, aAsgNew, fMinT, fMaxT, aPopAt]
        rw [e1]
        refine ⟨srt_ok _ (by rw [List.length_map]; omega), ?_⟩
        rw [srt_cells, e2]
        unfold csD
        rw [List.map_map]
        exact hk'
    · unfold dia
      unfold cD at hW ⊢
      try dsimp only [fAll, isOl, isOd, fSum, aRet, aRetN, aAndV, aOrV, aNotV, aIsi, aVar, aC, aChain, aOp, aUn, aTest, aTru, truD, aAnd, aOr, aNot, aIf, aCons, aNil, aTup, aLst, imAll, aCB, resAll, res, aCall, bok, isOw, bos, svOf, back, aNext, aSeq, aIfS, aAsg, aAsgO, aName, aGTup, aGCons, aGNil, aDrop, aFrz, frz, aOfL, fI0, fI, fNeg, fPlus, fLen, fTuple, fInt, fAbs, fMax2, fMin2, fIsN, fNotN, fIsB, fNotB, isNonD, isT, aApp, aAug, aPop, aSetI, aPar, aPar3, aMIm, aMFr, svM, aList, aSl, aPart, aNoPart, aISeq, aRg1, aRg2, aYes, wipeA, mrg, noOw, still, retA, Option.map, List.map, List.getElem?_cons_zero, List.getElem?_cons_succ, List.set_cons_zero, List.set_cons_succ, List.cons_append, List.nil_append, List.replicate, List.length_cons, List.length_nil, Bool.not_true, Bool.not_false, Bool.and_true, Bool.true_and, aZipTwo, aZip3, aZip2, aZ2, seqD, aEnum, aSrt, fIxN, fInN, fLenN, aSetN, aAsgN, aDNew, aMFd, aOfN, aLenSet, aIndex, aRg3d, aDisp1, aAsgNew, fMinT, fMaxT, aPopAt]
      refine ⟨rfl, rfl, by decide, cD p, ?_, hW⟩
      rw [show - -p.1 = p.1 by omega, show p.1 + p.2 + -p.1 = p.2 by omega]
      rfl
    · try dsimp only [fAll, isOl, isOd, fSum, aRet, aRetN, aAndV, aOrV, aNotV, aIsi, aVar, aC, aChain, aOp, aUn, aTest, aTru, truD, aAnd, aOr, aNot, aIf, aCons, aNil, aTup, aLst, imAll, aCB, resAll, res, aCall, bok, isOw, bos, svOf, back, aNext, aSeq, aIfS, aAsg, aAsgO, aName, aGTup, aGCons, aGNil, aDrop, aFrz, frz, aOfL, fI0, fI, fNeg, fPlus, fLen, fTuple, fInt, fAbs, fMax2, fMin2, fIsN, fNotN, fIsB, fNotB, isNonD, isT, aApp, aAug, aPop, aSetI, aPar, aPar3, aMIm, aMFr, svM, aList, aSl, aPart, aNoPart, aISeq, aRg1, aRg2, aYes, wipeA, mrg, noOw, still, retA, Option.map, List.map, List.getElem?_cons_zero, List.getElem?_cons_succ, List.set_cons_zero, List.set_cons_succ, List.cons_append, List.nil_append, List.replicate, List.length_cons, List.length_nil, Bool.not_true, Bool.not_false, Bool.and_true, Bool.true_and, aZipTwo, aZip3, aZip2, aZ2, seqD, aEnum, aSrt, fIxN, fInN, fLenN, aSetN, aAsgN, aDNew, aMFd, aOfN, aLenSet, aIndex, aRg3d, aDisp1, aAsgNew, fMinT, fMaxT, aPopAt]
      exact ⟨rfl, hk⟩
  · rw [if_pos rfl] at hk
    try dsimp only [fAll, isOl, isOd, fSum, aRet, aRetN, aAndV, aOrV, aNotV, aIsi, aVar, aC, aChain, aOp, aUn, aTest, aTru, truD, aAnd, aOr, aNot, aIf, aCons, aNil, aTup, aLst, imAll, aCB, resAll, res, aCall, bok, isOw, bos, svOf, back, aNext, aSeq, aIfS, aAsg, aAsgO, aName, aGTup, aGCons, aGNil, aDrop, aFrz, frz, aOfL, fI0, fI, fNeg, fPlus, fLen, fTuple, fInt, fAbs, fMax2, fMin2, fIsN, fNotN, fIsB, fNotB, isNonD, isT, aApp, aAug, aPop, aSetI, aPar, aPar3, aMIm, aMFr, svM, aList, aSl, aPart, aNoPart, aISeq, aRg1, aRg2, aYes, wipeA, mrg, noOw, still, retA, Option.map, List.map, List.getElem?_cons_zero, List.getElem?_cons_succ, List.set_cons_zero, List.set_cons_succ, List.cons_append, List.nil_append, List.replicate, List.length_cons, List.length_nil, Bool.not_true, Bool.not_false, Bool.and_true, Bool.true_and, aZipTwo, aZip3, aZip2, aZ2, seqD, aEnum, aSrt, fIxN, fInN, fLenN, aSetN, aAsgN, aDNew, aMFd, aOfN, aLenSet, aIndex, aRg3d, aDisp1, aAsgNew, fMinT, fMaxT, aPopAt]
    refine ⟨by decide +kernel, by decide +kernel, ?_⟩
    rw [show eqv (.str "spiral") (.str "spiral") = true by decide +kernel]
    try dsimp only [fAll, isOl, isOd, fSum, aRet, aRetN, aAndV, aOrV, aNotV, aIsi, aVar, aC, aChain, aOp, aUn, aTest, aTru, truD, aAnd, aOr, aNot, aIf, aCons, aNil, aTup, aLst, imAll, aCB, resAll, res, aCall, bok, isOw, bos, svOf, back, aNext, aSeq, aIfS, aAsg, aAsgO, aName, aGTup, aGCons, aGNil, aDrop, aFrz, frz, aOfL, fI0, fI, fNeg, fPlus, fLen, fTuple, fInt, fAbs, fMax2, fMin2, fIsN, fNotN, fIsB, fNotB, isNonD, isT, aApp, aAug, aPop, aSetI, aPar, aPar3, aMIm, aMFr, svM, aList, aSl, aPart, aNoPart, aISeq, aRg1, aRg2, aYes, wipeA, mrg, noOw, still, retA, Option.map, List.map, List.getElem?_cons_zero, List.getElem?_cons_succ, List.set_cons_zero, List.set_cons_succ, List.cons_append, List.nil_append, List.replicate, List.length_cons, List.length_nil, Bool.not_true, Bool.not_false, Bool.and_true, Bool.true_and, aZipTwo, aZip3, aZip2, aZ2, seqD, aEnum, aSrt, fIxN, fInN, fLenN, aSetN, aAsgN, aDNew, aMFd, aOfN, aLenSet, aIndex, aRg3d, aDisp1, aAsgNew, fMinT, fMaxT, aPopAt]
    refine ⟨rfl, r, c, rfl, by omega, ?_⟩
    try dsimp only [fAll, isOl, isOd, fSum, aRet, aRetN, aAndV, aOrV, aNotV, aIsi, aVar, aC, aChain, aOp, aUn, aTest, aTru, truD, aAnd, aOr, aNot, aIf, aCons, aNil, aTup, aLst, imAll, aCB, resAll, res, aCall, bok, isOw, bos, svOf, back, aNext, aSeq, aIfS, aAsg, aAsgO, aName, aGTup, aGCons, aGNil, aDrop, aFrz, frz, aOfL, fI0, fI, fNeg, fPlus, fLen, fTuple, fInt, fAbs, fMax2, fMin2, fIsN, fNotN, fIsB, fNotB, isNonD, isT, aApp, aAug, aPop, aSetI, aPar, aPar3, aMIm, aMFr, svM, aList, aSl, aPart, aNoPart, aISeq, aRg1, aRg2, aYes, wipeA, mrg, noOw, still, retA, Option.map, List.map, List.getElem?_cons_zero, List.getElem?_cons_succ, List.set_cons_zero, List.set_cons_succ, List.cons_append, List.nil_append, List.replicate, List.length_cons, List.length_nil, Bool.not_true, Bool.not_false, Bool.and_true, Bool.true_and, aZipTwo, aZip3, aZip2, aZ2, seqD, aEnum, aSrt, fIxN, fInN, fLenN, aSetN, aAsgN, aDNew, aMFd, aOfN, aLenSet, aIndex, aRg3d, aDisp1, aAsgNew, fMinT, fMaxT, aPopAt]
    exact ⟨rfl, hk⟩
end
end K89

namespace K89
open PySem PySem.Spec L2 DL
open PyProof.Rows hiding St
def sim : D → Bool
  | .int _ => true
  | .bl _ => true
  | .str x => PySem.PyData.canLay0 (.str x)
  | _ => false
/-- as law asks -/
def okL (d : D) : Prop := okO d ∧ ∀ ds, d = .tup ds → ∀ c ∈ ds, ∀ es, c = .tup es → es.all sim = true
def notI : D → Bool
  | .int _ => false
  | _ => true
theorem sim_plain {d : D} (h : sim d = true) : DL.plain d = true ∧ deep d = 0 := by
  cases d <;> first | exact ⟨h, rfl⟩ | cases h
theorem sims_plain {ds : List D} (h : ds.all sim = true) : plains ds = true ∧ deeps ds = 0 := by
  induction ds with
  | nil => exact ⟨rfl, rfl⟩
  | cons d ds ih =>
    rw [List.all_cons, Bool.and_eq_true] at h
    obtain ⟨a, b⟩ := ih h.2
    obtain ⟨a', b'⟩ := sim_plain h.1
    unfold plains deeps
    rw [a, b, a', b']
    exact ⟨rfl, rfl⟩
theorem sims_shp {ds : List D} (h : ds.all sim = true) : shp (.lst ds) = true := by
  obtain ⟨a, b⟩ := sims_plain h
  unfold shp DL.plain deep
  rw [a, b]
  rfl
theorem eqv_nil (ds : List D) : eqv (.lst ds) (.lst []) = ds.isEmpty := by
  cases ds <;> simp [eqv, eqvs]
section
variable {P : Program} {w : World} {K : PySem.W.Frag} {mg : Str → Option Value} {base : Heap}
def afLawIsOrder : AF := fun ρ k => ∃ d, ρ = [.im d] ∧ okL d ∧ k (.bl (fo d)) ρ
theorem ok_law_is_order (Bn : Bt mg) (h : Here K mg "_law_is_order" sLawIsOrder ["value"]) : Df P w K mg base 1 "_law_is_order" afLawIsOrder := by
  refine df_ok h scLawIsOrder [.un, .un] (fun ρ kk h => by obtain ⟨_, rfl, _⟩ := h; rfl) (fun f cdv A outer s H E hr => ⟨_, _, _, (gss_cons (gs_if (GW.gt (gw_or (gt_not (gt_truthK (K := K) (ge_isiK (K := K) .tuple Bn.isinstance Bn.tuple (gv 0)))) (gw_or1 (gt_not (gt_chain op_le lk_le op_le lk_le ge_int (ge_lenK (K := K) Bn (ga_cons (gv 0) ga_nil)) ge_int))))) (gss_one (gs_ret ge_bl)) gss_nil)
      (gss_cons (gs_for PassesOwn.never rfl (gi_seqK (K := K) (gv 0)) (gg_name scLawIsOrder.nd (i := 1))
      (gss_cons (gs_if (GW.gt (gw_or (gt_not (gt_truthK (K := K) (ge_isiK (K := K) .tuple Bn.isinstance Bn.tuple (gv 1)))) (gw_or (gt_ne (K := K) hr.units (ge_lenK (K := K) Bn (ga_cons (gv 1) ga_nil)) ge_int (nomark _)) (gw_or1 (gt_ne (K := K) hr.units (GL.e (gl_lc rfl scLawIsOrder.nd (blkOk_by (own := [("one", 2)]) (by kernel_rfl)) (gi_seqK (K := K) (gv 1)) (fun _ _ _ _ _ => (gg_name scLawIsOrder.nd (i := 2))) (fun _ _ _ _ _ => (gts_one (GW.gt (gw_or (gt_truthK (K := K) (ge_isiK (K := K) .bool Bn.isinstance Bn.bool (gv 2))) (gw_or1 (gt_not (gt_truthK (K := K) (ge_isiK (K := K) .int Bn.isinstance Bn.int (gv 2))))))))) (fun _ _ _ _ _ => (gv 2)))) (GL.e (gl_lst ga_nil)) (nomark _)))))) (gss_one (gs_ret ge_bl)) gss_nil)
      (gss_one (gs_if (GW.gt (gw_or (gt_not (gt_cmp op_le lk_le ge_int (ge_minT (K := K) rfl Bn (ga_cons (gv 1) ga_nil)) (nomark _))) (gw_or1 (gt_cmp op_gt lk_gt (ge_maxT (K := K) rfl Bn (ga_cons (gv 1) ga_nil)) ge_int (nomark _))))) (gss_one (gs_ret ge_bl)) gss_nil))))
      (gss_one (gs_ret (ge_eq (K := K) hr.units (ge_lenSet (K := K) rfl (hu65 hr) Bn (ga_cons (gv 0) ga_nil)) (ge_lenK (K := K) Bn (ga_cons (gv 0) ga_nil)) (nomark _)))))), fun ρ kk h => ?_⟩)
  obtain ⟨d, rfl, ⟨⟨hv, hz⟩, hs⟩, hk⟩ := h
  refine ⟨rfl, ?_⟩
  refine aSeq_cut (fun ρ' => ρ' = [.im d, .un, .un] ∧ ∃ ds, d = .tup ds ∧ 1 ≤ ds.length ∧ ds.length ≤ 400) (fun N hN => ?_) (fun ρ' h => ?_)
  · cases d with
    | tup ds =>
      have e1 : ∀ b, (decide (1 ≤ ds.length) && decide (ds.length ≤ 400)) = b → b = false → fo (.tup ds) = false := fun b e eb => by
        simp only [fo]
        rw [e, eb, Bool.false_and, Bool.false_and]
      try dsimp only [fAll, isOl, isOd, fSum, aRet, aRetN, aAndV, aOrV, aNotV, aIsi, aVar, aC, aChain, aOp, aUn, aTest, aTru, truD, aAnd, aOr, aNot, aIf, aCons, aNil, aTup, aLst, imAll, aCB, resAll, res, aCall, bok, isOw, bos, svOf, back, aNext, aSeq, aIfS, aAsg, aAsgO, aName, aGTup, aGCons, aGNil, aDrop, aFrz, frz, aOfL, fI0, fI, fNeg, fPlus, fLen, fTuple, fInt, fAbs, fMax2, fMin2, fIsN, fNotN, fIsB, fNotB, isNonD, isT, aApp, aAug, aPop, aSetI, aPar, aPar3, aMIm, aMFr, svM, aList, aSl, aPart, aNoPart, aISeq, aRg1, aRg2, aYes, wipeA, mrg, noOw, still, retA, Option.map, List.map, List.getElem?_cons_zero, List.getElem?_cons_succ, List.set_cons_zero, List.set_cons_succ, List.cons_append, List.nil_append, List.replicate, List.length_cons, List.length_nil, Bool.not_true, Bool.not_false, Bool.and_true, Bool.true_and, aZipTwo, aZip3, aZip2, aZ2, seqD, aEnum, aSrt, fIxN, fInN, fLenN, aSetN, aAsgN, aDNew, aMFd, aOfN, aLenSet, aIndex, aRg3d, aDisp1, aAsgNew, fMinT, fMaxT, aPopAt]
      rw [if_neg (by decide)]
      by_cases c1 : 1 ≤ ds.length
      · rw [if_pos (by rw [decide_eq_true_eq]; omega)]
        by_cases c2 : ds.length ≤ 400
        · rw [show decide ((ds.length : Int) ≤ 400) = true from decide_eq_true (by omega), if_neg (by decide)]
          exact hN _ ⟨rfl, ds, rfl, c1, c2⟩
        · rw [show decide ((ds.length : Int) ≤ 400) = false from decide_eq_false (by omega), if_pos (by decide)]
          rw [e1 _ rfl (by rw [decide_eq_false c2, Bool.and_false])] at hk
          exact ⟨rfl, hk⟩
      · rw [if_neg (by rw [decide_eq_true_eq]; omega), if_pos (by decide)]
        rw [e1 _ rfl (by rw [decide_eq_false c1, Bool.false_and])] at hk
        exact ⟨rfl, hk⟩
    | adr _ => unfold okd at hv; cases hv
    | scr _ => unfold okd at hv; cases hv
    | dic _ _ => unfold okd at hv; cases hv
    | _ => try dsimp only [fAll, isOl, isOd, fSum, aRet, aRetN, aAndV, aOrV, aNotV, aIsi, aVar, aC, aChain, aOp, aUn, aTest, aTru, truD, aAnd, aOr, aNot, aIf, aCons, aNil, aTup, aLst, imAll, aCB, resAll, res, aCall, bok, isOw, bos, svOf, back, aNext, aSeq, aIfS, aAsg, aAsgO, aName, aGTup, aGCons, aGNil, aDrop, aFrz, frz, aOfL, fI0, fI, fNeg, fPlus, fLen, fTuple, fInt, fAbs, fMax2, fMin2, fIsN, fNotN, fIsB, fNotB, isNonD, isT, aApp, aAug, aPop, aSetI, aPar, aPar3, aMIm, aMFr, svM, aList, aSl, aPart, aNoPart, aISeq, aRg1, aRg2, aYes, wipeA, mrg, noOw, still, retA, Option.map, List.map, List.getElem?_cons_zero, List.getElem?_cons_succ, List.set_cons_zero, List.set_cons_succ, List.cons_append, List.nil_append, List.replicate, List.length_cons, List.length_nil, Bool.not_true, Bool.not_false, Bool.and_true, Bool.true_and, aZipTwo, aZip3, aZip2, aZ2, seqD, aEnum, aSrt, fIxN, fInN, fLenN, aSetN, aAsgN, aDNew, aMFd, aOfN, aLenSet, aIndex, aRg3d, aDisp1, aAsgNew, fMinT, fMaxT, aPopAt]; exact ⟨rfl, hk⟩
  obtain ⟨rfl, ds, rfl, l1, l2⟩ := h
  have bad : ∀ c ∈ ds, fc c = false → kk (.bl false) [.im (.tup ds)] := fun c hc hf => by
    have : fo (.tup ds) = false := by
      simp only [fo]
      have e2 : ds.all fc = false := Bool.eq_false_iff.mpr fun z => by
        have := List.all_eq_true.mp z c hc
        rw [hf] at this
        cases this
      rw [e2, Bool.and_false, Bool.false_and]
    rw [this] at hk
    exact hk
  refine aSeq_cut (fun ρ' => ds.all fc = true ∧ ∃ s1, ρ' = [.im (.tup ds), s1, .un]) (fun N hN => ?_) (fun ρ' h => ?_)
  · refine aFor_inv ds (fun pre ρ' => pre.all fc = true ∧ ∃ s1, ρ' = [.im (.tup ds), s1, .un]) (fun k' hk' => ?_) ⟨rfl, _, rfl⟩ (fun pre c post ρ' hx hI N' hN' => ?_) ?_
    · try dsimp only [fAll, isOl, isOd, fSum, aRet, aRetN, aAndV, aOrV, aNotV, aIsi, aVar, aC, aChain, aOp, aUn, aTest, aTru, truD, aAnd, aOr, aNot, aIf, aCons, aNil, aTup, aLst, imAll, aCB, resAll, res, aCall, bok, isOw, bos, svOf, back, aNext, aSeq, aIfS, aAsg, aAsgO, aName, aGTup, aGCons, aGNil, aDrop, aFrz, frz, aOfL, fI0, fI, fNeg, fPlus, fLen, fTuple, fInt, fAbs, fMax2, fMin2, fIsN, fNotN, fIsB, fNotB, isNonD, isT, aApp, aAug, aPop, aSetI, aPar, aPar3, aMIm, aMFr, svM, aList, aSl, aPart, aNoPart, aISeq, aRg1, aRg2, aYes, wipeA, mrg, noOw, still, retA, Option.map, List.map, List.getElem?_cons_zero, List.getElem?_cons_succ, List.set_cons_zero, List.set_cons_succ, List.cons_append, List.nil_append, List.replicate, List.length_cons, List.length_nil, Bool.not_true, Bool.not_false, Bool.and_true, Bool.true_and, aZipTwo, aZip3, aZip2, aZ2, seqD, aEnum, aSrt, fIxN, fInN, fLenN, aSetN, aAsgN, aDNew, aMFd, aOfN, aLenSet, aIndex, aRg3d, aDisp1, aAsgNew, fMinT, fMaxT, aPopAt]
      exact hk'
    · obtain ⟨ha, s1, rfl⟩ := hI
      have hc : c ∈ ds := by rw [hx]; exact List.mem_append_right _ List.mem_cons_self
      cases c with
      | tup es =>
        have hsim := hs ds rfl _ hc es rfl
        have hlen := (hz ds rfl).2 _ hc es rfl
        show aSeq _ _ _ _
        refine aSeq_cut (fun ρ' => ρ' = [.im (.tup ds), .im (.tup es), .un] ∧ ∃ i j, es = [.int i, .int j]) (fun N2 hN2 => ?_) (fun ρ' h => ?_)
        · by_cases c1 : es.length = 2
          · try dsimp only [fAll, isOl, isOd, fSum, aRet, aRetN, aAndV, aOrV, aNotV, aIsi, aVar, aC, aChain, aOp, aUn, aTest, aTru, truD, aAnd, aOr, aNot, aIf, aCons, aNil, aTup, aLst, imAll, aCB, resAll, res, aCall, bok, isOw, bos, svOf, back, aNext, aSeq, aIfS, aAsg, aAsgO, aName, aGTup, aGCons, aGNil, aDrop, aFrz, frz, aOfL, fI0, fI, fNeg, fPlus, fLen, fTuple, fInt, fAbs, fMax2, fMin2, fIsN, fNotN, fIsB, fNotB, isNonD, isT, aApp, aAug, aPop, aSetI, aPar, aPar3, aMIm, aMFr, svM, aList, aSl, aPart, aNoPart, aISeq, aRg1, aRg2, aYes, wipeA, mrg, noOw, still, retA, Option.map, List.map, List.getElem?_cons_zero, List.getElem?_cons_succ, List.set_cons_zero, List.set_cons_succ, List.cons_append, List.nil_append, List.replicate, List.length_cons, List.length_nil, Bool.not_true, Bool.not_false, Bool.and_true, Bool.true_and, aZipTwo, aZip3, aZip2, aZ2, seqD, aEnum, aSrt, fIxN, fInN, fLenN, aSetN, aAsgN, aDNew, aMFd, aOfN, aLenSet, aIndex, aRg3d, aDisp1, aAsgNew, fMinT, fMaxT, aPopAt]
            rw [if_neg (by decide)]
            refine ⟨rfl, rfl, ?_⟩
            rw [show eqv (.int (es.length : Int)) (.int 2) = true by rw [eqv_int, c1]; rfl]
            try dsimp only [fAll, isOl, isOd, fSum, aRet, aRetN, aAndV, aOrV, aNotV, aIsi, aVar, aC, aChain, aOp, aUn, aTest, aTru, truD, aAnd, aOr, aNot, aIf, aCons, aNil, aTup, aLst, imAll, aCB, resAll, res, aCall, bok, isOw, bos, svOf, back, aNext, aSeq, aIfS, aAsg, aAsgO, aName, aGTup, aGCons, aGNil, aDrop, aFrz, frz, aOfL, fI0, fI, fNeg, fPlus, fLen, fTuple, fInt, fAbs, fMax2, fMin2, fIsN, fNotN, fIsB, fNotB, isNonD, isT, aApp, aAug, aPop, aSetI, aPar, aPar3, aMIm, aMFr, svM, aList, aSl, aPart, aNoPart, aISeq, aRg1, aRg2, aYes, wipeA, mrg, noOw, still, retA, Option.map, List.map, List.getElem?_cons_zero, List.getElem?_cons_succ, List.set_cons_zero, List.set_cons_succ, List.cons_append, List.nil_append, List.replicate, List.length_cons, List.length_nil, Bool.not_true, Bool.not_false, Bool.and_true, Bool.true_and, aZipTwo, aZip3, aZip2, aZ2, seqD, aEnum, aSrt, fIxN, fInN, fLenN, aSetN, aAsgN, aDNew, aMFd, aOfN, aLenSet, aIndex, aRg3d, aDisp1, aAsgNew, fMinT, fMaxT, aPopAt]
            rw [if_neg (show ¬ (!true) = true by decide)]
            refine aLc_pure es notI id (fun k' hk' => ?_) rfl hlen (fun x hx2 Wy Wn h1 h2 => ?_) ?_
            · try dsimp only [fAll, isOl, isOd, fSum, aRet, aRetN, aAndV, aOrV, aNotV, aIsi, aVar, aC, aChain, aOp, aUn, aTest, aTru, truD, aAnd, aOr, aNot, aIf, aCons, aNil, aTup, aLst, imAll, aCB, resAll, res, aCall, bok, isOw, bos, svOf, back, aNext, aSeq, aIfS, aAsg, aAsgO, aName, aGTup, aGCons, aGNil, aDrop, aFrz, frz, aOfL, fI0, fI, fNeg, fPlus, fLen, fTuple, fInt, fAbs, fMax2, fMin2, fIsN, fNotN, fIsB, fNotB, isNonD, isT, aApp, aAug, aPop, aSetI, aPar, aPar3, aMIm, aMFr, svM, aList, aSl, aPart, aNoPart, aISeq, aRg1, aRg2, aYes, wipeA, mrg, noOw, still, retA, Option.map, List.map, List.getElem?_cons_zero, List.getElem?_cons_succ, List.set_cons_zero, List.set_cons_succ, List.cons_append, List.nil_append, List.replicate, List.length_cons, List.length_nil, Bool.not_true, Bool.not_false, Bool.and_true, Bool.true_and, aZipTwo, aZip3, aZip2, aZ2, seqD, aEnum, aSrt, fIxN, fInN, fLenN, aSetN, aAsgN, aDNew, aMFd, aOfN, aLenSet, aIndex, aRg3d, aDisp1, aAsgNew, fMinT, fMaxT, aPopAt]
              exact hk'
            · have hs1 := List.all_eq_true.mp hsim x hx2
              cases x with
              | int n =>
                try dsimp only [fAll, isOl, isOd, fSum, aRet, aRetN, aAndV, aOrV, aNotV, aIsi, aVar, aC, aChain, aOp, aUn, aTest, aTru, truD, aAnd, aOr, aNot, aIf, aCons, aNil, aTup, aLst, imAll, aCB, resAll, res, aCall, bok, isOw, bos, svOf, back, aNext, aSeq, aIfS, aAsg, aAsgO, aName, aGTup, aGCons, aGNil, aDrop, aFrz, frz, aOfL, fI0, fI, fNeg, fPlus, fLen, fTuple, fInt, fAbs, fMax2, fMin2, fIsN, fNotN, fIsB, fNotB, isNonD, isT, aApp, aAug, aPop, aSetI, aPar, aPar3, aMIm, aMFr, svM, aList, aSl, aPart, aNoPart, aISeq, aRg1, aRg2, aYes, wipeA, mrg, noOw, still, retA, Option.map, List.map, List.getElem?_cons_zero, List.getElem?_cons_succ, List.set_cons_zero, List.set_cons_succ, List.cons_append, List.nil_append, List.replicate, List.length_cons, List.length_nil, Bool.not_true, Bool.not_false, Bool.and_true, Bool.true_and, aZipTwo, aZip3, aZip2, aZ2, seqD, aEnum, aSrt, fIxN, fInN, fLenN, aSetN, aAsgN, aDNew, aMFd, aOfN, aLenSet, aIndex, aRg3d, aDisp1, aAsgNew, fMinT, fMaxT, aPopAt]
                exact h2 rfl
              | bl b =>
                try dsimp only [fAll, isOl, isOd, fSum, aRet, aRetN, aAndV, aOrV, aNotV, aIsi, aVar, aC, aChain, aOp, aUn, aTest, aTru, truD, aAnd, aOr, aNot, aIf, aCons, aNil, aTup, aLst, imAll, aCB, resAll, res, aCall, bok, isOw, bos, svOf, back, aNext, aSeq, aIfS, aAsg, aAsgO, aName, aGTup, aGCons, aGNil, aDrop, aFrz, frz, aOfL, fI0, fI, fNeg, fPlus, fLen, fTuple, fInt, fAbs, fMax2, fMin2, fIsN, fNotN, fIsB, fNotB, isNonD, isT, aApp, aAug, aPop, aSetI, aPar, aPar3, aMIm, aMFr, svM, aList, aSl, aPart, aNoPart, aISeq, aRg1, aRg2, aYes, wipeA, mrg, noOw, still, retA, Option.map, List.map, List.getElem?_cons_zero, List.getElem?_cons_succ, List.set_cons_zero, List.set_cons_succ, List.cons_append, List.nil_append, List.replicate, List.length_cons, List.length_nil, Bool.not_true, Bool.not_false, Bool.and_true, Bool.true_and, aZipTwo, aZip3, aZip2, aZ2, seqD, aEnum, aSrt, fIxN, fInN, fLenN, aSetN, aAsgN, aDNew, aMFd, aOfN, aLenSet, aIndex, aRg3d, aDisp1, aAsgNew, fMinT, fMaxT, aPopAt]
                exact ⟨_, rfl, h1 rfl⟩
              | str b =>
                try dsimp only [fAll, isOl, isOd, fSum, aRet, aRetN, aAndV, aOrV, aNotV, aIsi, aVar, aC, aChain, aOp, aUn, aTest, aTru, truD, aAnd, aOr, aNot, aIf, aCons, aNil, aTup, aLst, imAll, aCB, resAll, res, aCall, bok, isOw, bos, svOf, back, aNext, aSeq, aIfS, aAsg, aAsgO, aName, aGTup, aGCons, aGNil, aDrop, aFrz, frz, aOfL, fI0, fI, fNeg, fPlus, fLen, fTuple, fInt, fAbs, fMax2, fMin2, fIsN, fNotN, fIsB, fNotB, isNonD, isT, aApp, aAug, aPop, aSetI, aPar, aPar3, aMIm, aMFr, svM, aList, aSl, aPart, aNoPart, aISeq, aRg1, aRg2, aYes, wipeA, mrg, noOw, still, retA, Option.map, List.map, List.getElem?_cons_zero, List.getElem?_cons_succ, List.set_cons_zero, List.set_cons_succ, List.cons_append, List.nil_append, List.replicate, List.length_cons, List.length_nil, Bool.not_true, Bool.not_false, Bool.and_true, Bool.true_and, aZipTwo, aZip3, aZip2, aZ2, seqD, aEnum, aSrt, fIxN, fInN, fLenN, aSetN, aAsgN, aDNew, aMFd, aOfN, aLenSet, aIndex, aRg3d, aDisp1, aAsgNew, fMinT, fMaxT, aPopAt]
                exact ⟨_, rfl, h1 rfl⟩
              | _ => cases hs1
            · try dsimp only [fAll, isOl, isOd, fSum, aRet, aRetN, aAndV, aOrV, aNotV, aIsi, aVar, aC, aChain, aOp, aUn, aTest, aTru, truD, aAnd, aOr, aNot, aIf, aCons, aNil, aTup, aLst, imAll, aCB, resAll, res, aCall, bok, isOw, bos, svOf, back, aNext, aSeq, aIfS, aAsg, aAsgO, aName, aGTup, aGCons, aGNil, aDrop, aFrz, frz, aOfL, fI0, fI, fNeg, fPlus, fLen, fTuple, fInt, fAbs, fMax2, fMin2, fIsN, fNotN, fIsB, fNotB, isNonD, isT, aApp, aAug, aPop, aSetI, aPar, aPar3, aMIm, aMFr, svM, aList, aSl, aPart, aNoPart, aISeq, aRg1, aRg2, aYes, wipeA, mrg, noOw, still, retA, Option.map, List.map, List.getElem?_cons_zero, List.getElem?_cons_succ, List.set_cons_zero, List.set_cons_succ, List.cons_append, List.nil_append, List.replicate, List.length_cons, List.length_nil, Bool.not_true, Bool.not_false, Bool.and_true, Bool.true_and, aZipTwo, aZip3, aZip2, aZ2, seqD, aEnum, aSrt, fIxN, fInN, fLenN, aSetN, aAsgN, aDNew, aMFd, aOfN, aLenSet, aIndex, aRg3d, aDisp1, aAsgNew, fMinT, fMaxT, aPopAt]
              rw [List.map_id]
              refine ⟨Nat.zero_le _, sims_shp (List.all_eq_true.mpr fun x hx => List.all_eq_true.mp hsim x (List.mem_filter.mp hx).1), rfl, ?_⟩
              rw [eqv_nil]
              match es, c1, hsim with
              | [x, y], _, hsim =>
                have nots : ∀ z, z ∈ [x, y] → notI z = true → (!([x, y].filter notI).isEmpty) = true ∧ fc (.tup [x, y]) = false := fun z hz1 hz2 => by
                  have m : z ∈ [x, y].filter notI := List.mem_filter.mpr ⟨hz1, hz2⟩
                  refine ⟨?_, Bool.eq_false_iff.mpr fun e => ?_⟩
                  · cases e : [x, y].filter notI with
                    | nil => rw [e] at m; cases m
                    | cons _ _ => rfl
                  · simp only [fc, Bool.and_eq_true] at e
                    obtain ⟨i, rfl, _⟩ := fits_int (List.all_eq_true.mp e.2 z hz1)
                    cases hz2
                have out : ∀ z, z ∈ [x, y] → notI z = true → (if (!([x, y].filter notI).isEmpty) = true then true = true ∧ kk (.bl false) [.im (.tup ds)] else N2 [.im (.tup ds), .im (.tup [x, y]), .un]) := fun z hz1 hz2 => by
                  obtain ⟨n1, n2⟩ := nots z hz1 hz2
                  rw [if_pos n1]
                  exact ⟨rfl, bad _ hc n2⟩
                show if (!([x, y].filter notI).isEmpty) = true then true = true ∧ kk (.bl false) [.im (.tup ds)] else N2 [.im (.tup ds), .im (.tup [x, y]), .un]
                cases hx3 : notI x with
                | true => exact out x List.mem_cons_self hx3
                | false =>
                  cases hy3 : notI y with
                  | true => exact out y (List.mem_cons_of_mem _ List.mem_cons_self) hy3
                  | false =>
                    cases x <;> try cases hx3
                    cases y <;> try cases hy3
                    show if (!true) = true then _ else _
                    rw [if_neg (show ¬ (!true) = true by decide)]
                    exact hN2 _ ⟨rfl, _, _, rfl⟩
          · have hf : fc (.tup es) = false := by
              simp only [fc]
              rw [decide_eq_false c1, Bool.false_and]
            try dsimp only [fAll, isOl, isOd, fSum, aRet, aRetN, aAndV, aOrV, aNotV, aIsi, aVar, aC, aChain, aOp, aUn, aTest, aTru, truD, aAnd, aOr, aNot, aIf, aCons, aNil, aTup, aLst, imAll, aCB, resAll, res, aCall, bok, isOw, bos, svOf, back, aNext, aSeq, aIfS, aAsg, aAsgO, aName, aGTup, aGCons, aGNil, aDrop, aFrz, frz, aOfL, fI0, fI, fNeg, fPlus, fLen, fTuple, fInt, fAbs, fMax2, fMin2, fIsN, fNotN, fIsB, fNotB, isNonD, isT, aApp, aAug, aPop, aSetI, aPar, aPar3, aMIm, aMFr, svM, aList, aSl, aPart, aNoPart, aISeq, aRg1, aRg2, aYes, wipeA, mrg, noOw, still, retA, Option.map, List.map, List.getElem?_cons_zero, List.getElem?_cons_succ, List.set_cons_zero, List.set_cons_succ, List.cons_append, List.nil_append, List.replicate, List.length_cons, List.length_nil, Bool.not_true, Bool.not_false, Bool.and_true, Bool.true_and, aZipTwo, aZip3, aZip2, aZ2, seqD, aEnum, aSrt, fIxN, fInN, fLenN, aSetN, aAsgN, aDNew, aMFd, aOfN, aLenSet, aIndex, aRg3d, aDisp1, aAsgNew, fMinT, fMaxT, aPopAt]
            rw [if_neg (by decide)]
            refine ⟨rfl, rfl, ?_⟩
            rw [show eqv (.int (es.length : Int)) (.int 2) = false by rw [eqv_int]; exact beq_eq_false_iff_ne.mpr (by omega)]
            try dsimp only [fAll, isOl, isOd, fSum, aRet, aRetN, aAndV, aOrV, aNotV, aIsi, aVar, aC, aChain, aOp, aUn, aTest, aTru, truD, aAnd, aOr, aNot, aIf, aCons, aNil, aTup, aLst, imAll, aCB, resAll, res, aCall, bok, isOw, bos, svOf, back, aNext, aSeq, aIfS, aAsg, aAsgO, aName, aGTup, aGCons, aGNil, aDrop, aFrz, frz, aOfL, fI0, fI, fNeg, fPlus, fLen, fTuple, fInt, fAbs, fMax2, fMin2, fIsN, fNotN, fIsB, fNotB, isNonD, isT, aApp, aAug, aPop, aSetI, aPar, aPar3, aMIm, aMFr, svM, aList, aSl, aPart, aNoPart, aISeq, aRg1, aRg2, aYes, wipeA, mrg, noOw, still, retA, Option.map, List.map, List.getElem?_cons_zero, List.getElem?_cons_succ, List.set_cons_zero, List.set_cons_succ, List.cons_append, List.nil_append, List.replicate, List.length_cons, List.length_nil, Bool.not_true, Bool.not_false, Bool.and_true, Bool.true_and, aZipTwo, aZip3, aZip2, aZ2, seqD, aEnum, aSrt, fIxN, fInN, fLenN, aSetN, aAsgN, aDNew, aMFd, aOfN, aLenSet, aIndex, aRg3d, aDisp1, aAsgNew, fMinT, fMaxT, aPopAt]
            rw [if_pos (show (!false) = true by decide), if_pos rfl]
            exact ⟨rfl, bad _ hc hf⟩
        obtain ⟨rfl, i, j, rfl⟩ := h
        have hfc : fc (.tup [.int i, .int j]) = okC (i, j) := fc_cD (i, j)
        try dsimp only [fAll, isOl, isOd, fSum, aRet, aRetN, aAndV, aOrV, aNotV, aIsi, aVar, aC, aChain, aOp, aUn, aTest, aTru, truD, aAnd, aOr, aNot, aIf, aCons, aNil, aTup, aLst, imAll, aCB, resAll, res, aCall, bok, isOw, bos, svOf, back, aNext, aSeq, aIfS, aAsg, aAsgO, aName, aGTup, aGCons, aGNil, aDrop, aFrz, frz, aOfL, fI0, fI, fNeg, fPlus, fLen, fTuple, fInt, fAbs, fMax2, fMin2, fIsN, fNotN, fIsB, fNotB, isNonD, isT, aApp, aAug, aPop, aSetI, aPar, aPar3, aMIm, aMFr, svM, aList, aSl, aPart, aNoPart, aISeq, aRg1, aRg2, aYes, wipeA, mrg, noOw, still, retA, Option.map, List.map, List.getElem?_cons_zero, List.getElem?_cons_succ, List.set_cons_zero, List.set_cons_succ, List.cons_append, List.nil_append, List.replicate, List.length_cons, List.length_nil, Bool.not_true, Bool.not_false, Bool.and_true, Bool.true_and, aZipTwo, aZip3, aZip2, aZ2, seqD, aEnum, aSrt, fIxN, fInN, fLenN, aSetN, aAsgN, aDNew, aMFd, aOfN, aLenSet, aIndex, aRg3d, aDisp1, aAsgNew, fMinT, fMaxT, aPopAt]
        refine ⟨[i, j], rfl, Nat.succ_pos _, fun m hm hx1 => ?_⟩
        have m1 := hx1 i List.mem_cons_self
        have m2 := hx1 j (List.mem_cons_of_mem _ List.mem_cons_self)
        have m3 : m = i ∨ m = j := by simpa using hm
        by_cases c1 : 0 ≤ m
        · rw [decide_eq_true c1, if_neg (show ¬ (!true) = true by decide)]
          refine ⟨[i, j], rfl, Nat.succ_pos _, fun M hM hx2 => ?_⟩
          have M1 := hx2 i List.mem_cons_self
          have M2 := hx2 j (List.mem_cons_of_mem _ List.mem_cons_self)
          have M3 : M = i ∨ M = j := by simpa using hM
          by_cases c2 : 59 < M
          · rw [if_pos (by rw [decide_eq_true_eq]; exact c2)]
            refine ⟨rfl, bad _ hc ?_⟩
            rw [hfc]
            exact Bool.eq_false_iff.mpr fun z => by
              have := okC_iff.mp z
              simp only at this
              omega
          · rw [if_neg (by rw [decide_eq_true_eq]; exact c2)]
            refine hN' _ ⟨?_, _, rfl⟩
            rw [List.all_append, ha, List.all_cons, hfc, show okC (i, j) = true from okC_iff.mpr (by simp only; omega)]
            rfl
        · rw [decide_eq_false c1, if_pos (show (!false) = true by decide), if_pos rfl]
          refine ⟨rfl, bad _ hc ?_⟩
          rw [hfc]
          exact Bool.eq_false_iff.mpr fun z => by
            have := okC_iff.mp z
            simp only at this
            omega
      | adr _ =>
        have z := okds_mem (by unfold okd at hv; exact hv) hc
        unfold okd at z
        cases z
      | scr _ =>
        have z := okds_mem (by unfold okd at hv; exact hv) hc
        unfold okd at z
        cases z
      | dic _ _ =>
        have z := okds_mem (by unfold okd at hv; exact hv) hc
        unfold okd at z
        cases z
      | _ => try dsimp only [fAll, isOl, isOd, fSum, aRet, aRetN, aAndV, aOrV, aNotV, aIsi, aVar, aC, aChain, aOp, aUn, aTest, aTru, truD, aAnd, aOr, aNot, aIf, aCons, aNil, aTup, aLst, imAll, aCB, resAll, res, aCall, bok, isOw, bos, svOf, back, aNext, aSeq, aIfS, aAsg, aAsgO, aName, aGTup, aGCons, aGNil, aDrop, aFrz, frz, aOfL, fI0, fI, fNeg, fPlus, fLen, fTuple, fInt, fAbs, fMax2, fMin2, fIsN, fNotN, fIsB, fNotB, isNonD, isT, aApp, aAug, aPop, aSetI, aPar, aPar3, aMIm, aMFr, svM, aList, aSl, aPart, aNoPart, aISeq, aRg1, aRg2, aYes, wipeA, mrg, noOw, still, retA, Option.map, List.map, List.getElem?_cons_zero, List.getElem?_cons_succ, List.set_cons_zero, List.set_cons_succ, List.cons_append, List.nil_append, List.replicate, List.length_cons, List.length_nil, Bool.not_true, Bool.not_false, Bool.and_true, Bool.true_and, aZipTwo, aZip3, aZip2, aZ2, seqD, aEnum, aSrt, fIxN, fInN, fLenN, aSetN, aAsgN, aDNew, aMFd, aOfN, aLenSet, aIndex, aRg3d, aDisp1, aAsgNew, fMinT, fMaxT, aPopAt]; exact ⟨rfl, bad _ hc rfl⟩
    · rintro ρ' ⟨ha, s1, rfl⟩
      exact hN _ ⟨ha, s1, rfl⟩
  obtain ⟨ha, s1, rfl⟩ := h
  obtain ⟨cs, rfl, ok⟩ := all_fc ha
  rw [csD_len] at l1 l2
  try dsimp only [fAll, isOl, isOd, fSum, aRet, aRetN, aAndV, aOrV, aNotV, aIsi, aVar, aC, aChain, aOp, aUn, aTest, aTru, truD, aAnd, aOr, aNot, aIf, aCons, aNil, aTup, aLst, imAll, aCB, resAll, res, aCall, bok, isOw, bos, svOf, back, aNext, aSeq, aIfS, aAsg, aAsgO, aName, aGTup, aGCons, aGNil, aDrop, aFrz, frz, aOfL, fI0, fI, fNeg, fPlus, fLen, fTuple, fInt, fAbs, fMax2, fMin2, fIsN, fNotN, fIsB, fNotB, isNonD, isT, aApp, aAug, aPop, aSetI, aPar, aPar3, aMIm, aMFr, svM, aList, aSl, aPart, aNoPart, aISeq, aRg1, aRg2, aYes, wipeA, mrg, noOw, still, retA, Option.map, List.map, List.getElem?_cons_zero, List.getElem?_cons_succ, List.set_cons_zero, List.set_cons_succ, List.cons_append, List.nil_append, List.replicate, List.length_cons, List.length_nil, Bool.not_true, Bool.not_false, Bool.and_true, Bool.true_and, aZipTwo, aZip3, aZip2, aZ2, seqD, aEnum, aSrt, fIxN, fInN, fLenN, aSetN, aAsgN, aDNew, aMFd, aOfN, aLenSet, aIndex, aRg3d, aDisp1, aAsgNew, fMinT, fMaxT, aPopAt]
  rw [csD_len, flats_csD]
  refine ⟨rfl, by omega, rfl, rfl, rfl, ?_⟩
  rw [fo_cs ok, decide_eq_true l1, decide_eq_true l2] at hk
  have e : eqv (.int (kinds ((some (cs.map fun c => [c.1, c.2])).getD []) : Nat)) (.int (cs.length : Nat)) = (true && true && decide (kinds (cs.map fun c => [c.1, c.2]) = cs.length)) := by
    rw [eqv_int, Option.getD_some]
    generalize kinds (cs.map fun c => [c.1, c.2]) = kk2
    show decide ((kk2 : Int) = (cs.length : Int)) = decide (kk2 = cs.length)
    exact decide_eq_decide.mpr (by omega)
  rw [e]
  exact hk
end
end K89

namespace K89
open PySem PySem.Spec L2 DL
open PyProof.Rows hiding St
/-! ### the snake is a walk -/
def wk : Cl → List Cl → Bool
  | _, [] => true
  | p, q :: l => (stp p q == 1) && wk q l
theorem pairs_wk : ∀ (l : List Cl) (p : Cl), ((pairs (p :: l)).all fun p => stp p.1 p.2 == 1) = wk p l
  | [], _ => rfl
  | q :: l, p => by
    show ((p, q) :: pairs (q :: l)).all _ = _
    rw [List.all_cons, pairs_wk l q]
    rfl
theorem wk_append : ∀ (l m : List Cl) (p : Cl), wk p (l ++ m) = (wk p l && wk (l.getLastD p) m)
  | [], m, p => rfl
  | q :: l, m, p => by
    show ((stp p q == 1) && wk q (l ++ m)) = ((stp p q == 1) && wk q l && wk ((q :: l).getLastD p) m)
    rw [wk_append l m q, List.getLastD_cons, Bool.and_assoc]
theorem wk_ln (w : Nat) : ∀ (n : Nat) (p : Cl), wk p (ln p w n) = true ∧ (ln p w n).getLastD p = adv p w n
  | 0, p => ⟨rfl, rfl⟩
  | n + 1, p => by
    obtain ⟨a, b⟩ := wk_ln w n (mv p w)
    unfold ln adv
    rw [List.getLastD_cons, b]
    refine ⟨?_, rfl⟩
    show ((stp p (mv p w) == 1) && wk (mv p w) _) = true
    rw [a, stp_mv]
    rfl
def ent (c : Int) (k : Nat) : Cl := if k % 2 = 0 then (k, 0) else (k, c - 1)
def dirr (k : Nat) : Nat := if k % 2 = 0 then 0 else 2
def row (c : Int) (k : Nat) : List Cl := ent c k :: ln (ent c k) (dirr k) (c - 1).toNat
def snkR (c : Int) : Nat → List Cl
  | 0 => []
  | k + 1 => snkR c k ++ row c k
theorem row_mem {c : Int} (hc : 1 ≤ c) {k : Nat} {p : Cl} : p ∈ row c k ↔ p.1 = k ∧ 0 ≤ p.2 ∧ p.2 < c := by
  unfold row
  rw [List.mem_cons, ln_mem]
  unfold ent dirr onL
  by_cases e : k % 2 = 0
  · rw [if_pos e, if_pos e]
    simp only [Prod.ext_iff]
    omega
  · rw [if_neg e, if_neg e]
    simp only [Prod.ext_iff]
    omega
theorem snkR_mem {c : Int} (hc : 1 ≤ c) {p : Cl} : ∀ {k : Nat}, p ∈ snkR c k ↔ (0 ≤ p.1 ∧ p.1 < k) ∧ 0 ≤ p.2 ∧ p.2 < c
  | 0 => by
    unfold snkR
    simp only [List.not_mem_nil, false_iff]
    omega
  | k + 1 => by
    unfold snkR
    rw [List.mem_append, snkR_mem hc, row_mem hc]
    omega
theorem snk_of (p : Cl) : snk p = (p.1, if p.1 % 2 = 0 then p.2 else -p.2) := by
  unfold snk
  by_cases e : p.1 % 2 = 0
  · rw [if_pos (by omega), if_pos e]
  · rw [if_neg (by omega), if_neg e]
theorem ln_pw0 : ∀ (n : Nat) (p : Cl), (ln p 0 n).Pairwise fun a b => a.1 = b.1 ∧ a.2 < b.2
  | 0, _ => List.Pairwise.nil
  | n + 1, p => by
    unfold ln
    refine List.pairwise_cons.mpr ⟨fun x hx => ?_, ln_pw0 n _⟩
    rw [ln_mem] at hx
    unfold onL at hx
    exact ⟨hx.1.symm, hx.2.1⟩
theorem ln_pw2 : ∀ (n : Nat) (p : Cl), (ln p 2 n).Pairwise fun a b => a.1 = b.1 ∧ b.2 < a.2
  | 0, _ => List.Pairwise.nil
  | n + 1, p => by
    unfold ln
    refine List.pairwise_cons.mpr ⟨fun x hx => ?_, ln_pw2 n _⟩
    rw [ln_mem] at hx
    unfold onL at hx
    exact ⟨hx.1.symm, hx.2.1⟩
theorem row_pw {c : Int} (k : Nat) : (row c k).Pairwise fun a b => lt2 (snk a) (snk b) := by
  unfold row ent dirr
  by_cases e : k % 2 = 0
  · rw [if_pos e, if_pos e]
    have h1 : ∀ p ∈ ln ((k : Int), (0 : Int)) 0 (c - 1).toNat, p.1 = k ∧ 0 < p.2 := fun p hp => by
      rw [ln_mem] at hp
      unfold onL at hp
      exact ⟨hp.1, hp.2.1⟩
    refine List.pairwise_cons.mpr ⟨fun x hx => ?_, List.Pairwise.imp_of_mem (fun {a b} ha hb h => ?_) (ln_pw0 _ _)⟩
    · have := h1 x hx
      rw [snk_of, snk_of, if_pos (by simp only; omega), if_pos (by omega)]
      exact .inr ⟨this.1.symm, this.2⟩
    · have := h1 a ha
      have := h1 b hb
      rw [snk_of, snk_of, if_pos (by omega), if_pos (by omega)]
      exact .inr h
  · rw [if_neg e, if_neg e]
    have h1 : ∀ p ∈ ln ((k : Int), c - 1) 2 (c - 1).toNat, p.1 = k ∧ p.2 < c - 1 := fun p hp => by
      rw [ln_mem] at hp
      unfold onL at hp
      exact ⟨hp.1, hp.2.1⟩
    refine List.pairwise_cons.mpr ⟨fun x hx => ?_, List.Pairwise.imp_of_mem (fun {a b} ha hb h => ?_) (ln_pw2 _ _)⟩
    · have := h1 x hx
      rw [snk_of, snk_of, if_neg (by simp only; omega), if_neg (by omega)]
      exact .inr ⟨this.1.symm, by simp only; omega⟩
    · have := h1 a ha
      have := h1 b hb
      rw [snk_of, snk_of, if_neg (by omega), if_neg (by omega)]
      exact .inr ⟨h.1, by simp only; omega⟩
theorem snkR_pw {c : Int} (hc : 1 ≤ c) : ∀ k : Nat, (snkR c k).Pairwise fun a b => lt2 (snk a) (snk b)
  | 0 => List.Pairwise.nil
  | k + 1 => by
    unfold snkR
    refine List.pairwise_append.mpr ⟨snkR_pw hc k, row_pw k, fun a ha b hb => .inl ?_⟩
    have h1 := (snkR_mem hc).mp ha
    have h2 := (row_mem hc).mp hb
    show a.1 < b.1
    omega
theorem snk_inj {a b : Cl} (h : snk a = snk b) : a = b := by
  rw [snk_of, snk_of] at h
  have h1 := congrArg Prod.fst h
  have h2 := congrArg Prod.snd h
  simp only at h1 h2
  rw [h1] at h2
  refine Prod.ext h1 ?_
  split at h2 <;> omega
theorem snake_eq {r c : Int} (hb : 1 ≤ r ∧ 1 ≤ c) : ordC "snake" r c = snkR c r.toNat := by
  have pw := snkR_pw hb.2 r.toNat
  have nd : (snkR c r.toNat).Nodup := pw.imp fun {a b} h e => by
    subst e
    unfold lt2 at h
    omega
  have pm : (snkR c r.toNat).Perm (boxC r c) := (List.perm_ext_iff_of_nodup nd (boxC_nodup r c)).mpr fun q => by
    rw [snkR_mem hb.2, boxC_mem]
    omega
  have e := ordC_keys "snake" r c
  rw [show keyX "snake" = snk from funext keyX_s] at e
  have e2 : ((boxC r c).map snk).mergeSort le2 = (snkR c r.toNat).map snk := by
    refine le2_anti ((List.mergeSort_perm _ _).trans (pm.symm.map snk)) (le2_sorted _) ?_
    rw [List.pairwise_map]
    exact pw.imp fun {a b} h => le2_iff.mpr (by unfold lt2 at h; omega)
  rw [e2] at e
  exact (List.map_inj_right (fun x y h => snk_inj h)).mp e
def ext (c : Int) : Nat → Cl
  | 0 => (-1, 0)
  | k + 1 => if k % 2 = 0 then (k, c - 1) else (k, 0)
theorem ext_succ (c : Int) (k : Nat) : ext c (k + 1) = if k % 2 = 0 then ((k : Int), c - 1) else ((k : Int), 0) := rfl
theorem lastD_append : ∀ (l m : List Cl) (p : Cl), (l ++ m).getLastD p = m.getLastD (l.getLastD p)
  | [], m, p => rfl
  | q :: l, m, p => by
    rw [List.cons_append, List.getLastD_cons, List.getLastD_cons, lastD_append l m q]
theorem snkR_wk {c : Int} (hc : 1 ≤ c) : ∀ k : Nat, wk (-1, 0) (snkR c k) = true ∧ (snkR c k).getLastD (-1, 0) = ext c k
  | 0 => ⟨rfl, rfl⟩
  | k + 1 => by
    obtain ⟨a, b⟩ := snkR_wk hc k
    obtain ⟨a2, b2⟩ := wk_ln (dirr k) (c - 1).toNat (ent c k)
    have e1 : ent c k = mv (ext c k) 1 := by
      unfold ent
      cases k with
      | zero => rfl
      | succ k =>
        rw [show mv (ext c (k + 1)) 1 = ((ext c (k + 1)).1 + 1, (ext c (k + 1)).2) from rfl, ext_succ]
        by_cases e : k % 2 = 0
        · rw [if_pos e, if_neg (by omega)]
          refine Prod.ext ?_ ?_ <;> simp only <;> omega
        · rw [if_neg e, if_pos (by omega)]
          refine Prod.ext ?_ ?_ <;> simp only <;> omega
    have e2 : adv (ent c k) (dirr k) (c - 1).toNat = ext c (k + 1) := by
      rw [adv_eq, ext_succ]
      unfold ent dirr
      by_cases e : k % 2 = 0
      · rw [if_pos e, if_pos e, if_pos e]
        refine Prod.ext ?_ ?_ <;> simp only <;> omega
      · rw [if_neg e, if_neg e, if_neg e]
        refine Prod.ext ?_ ?_ <;> simp only <;> omega
    unfold snkR row
    refine ⟨?_, ?_⟩
    · rw [wk_append, a, b]
      show (true && ((stp (ext c k) (ent c k) == 1) && wk (ent c k) _)) = true
      rw [a2, e1, stp_mv]
      rfl
    · rw [← e2, ← b2, lastD_append, List.getLastD_cons]
theorem snake_walk {r c : Int} (hb : 1 ≤ r ∧ 1 ≤ c) : ((pairs (ordC "snake" r c)).all fun p => stp p.1 p.2 == 1) = true := by
  rw [snake_eq hb]
  have h := (snkR_wk hb.2 r.toNat).1
  cases e : snkR c r.toNat with
  | nil => rfl
  | cons q l =>
    rw [e] at h
    rw [pairs_wk]
    unfold wk at h
    exact (Bool.and_eq_true_iff.mp h).2
end K89

namespace K89
open PySem PySem.Spec L2 DL
open PyProof.Rows hiding St
theorem nice_csD : ∀ l : List Cl, numds (csD l) = true ∧ smalls (csD l) = true
  | [] => ⟨rfl, rfl⟩
  | c :: l => by
    obtain ⟨h1, h2⟩ := nice_csD l
    unfold csD at h1 h2 ⊢
    rw [List.map_cons]
    unfold numds smalls
    rw [h1, h2]
    exact ⟨rfl, rfl⟩
theorem nice_tup {l : List Cl} (h : l.length ≤ 1000000) : numd (.tup (csD l)) = true ∧ small (.tup (csD l)) = true ∧ deep (.tup (csD l)) ≤ 2 := by
  obtain ⟨h1, h2⟩ := nice_csD l
  have h3 := (plains_csD l).2
  unfold numd small deep
  rw [csD_len, h2, decide_eq_true h]
  exact ⟨h1, rfl, by omega⟩
theorem eqvs_csD : ∀ l : List Cl, eqvs (csD l) (csD l) = true
  | [] => by unfold csD eqvs; rfl
  | c :: l => by
    have ih := eqvs_csD l
    unfold csD at ih ⊢
    rw [List.map_cons]
    unfold eqvs
    rw [ih, eqv_cD, beq_self_eq_true]
    rfl
theorem ordX_perm {x : Str} {r c : Int} (h : 1 ≤ r ∧ 1 ≤ c) : (ordX x r c).Perm (boxC r c) := by
  unfold ordX
  split
  · exact spiral_perm h
  · exact ordC_perm x r c
theorem ordX_len {x : Str} {r c : Int} (h : 1 ≤ r ∧ 1 ≤ c) : ((ordX x r c).length : Int) = r * c := by
  rw [(ordX_perm h).length_eq, boxC_len, Int.natCast_mul, Int.toNat_of_nonneg (by omega), Int.toNat_of_nonneg (by omega)]
theorem ordX_ok {x : Str} {r c : Int} (h : 1 ≤ r ∧ 1 ≤ c) (h2 : r ≤ 60 ∧ c ≤ 60) : ∀ p ∈ ordX x r c, okC p = true := fun p hp => by
  have := boxC_mem.mp ((ordX_perm h).mem_iff.mp hp)
  exact okC_iff.mpr (by omega)
theorem ordX_nd {x : Str} {r c : Int} (h : 1 ≤ r ∧ 1 ≤ c) : (ordX x r c).Nodup := (ordX_perm h).nodup_iff.mpr (boxC_nodup r c)
theorem cut_to (xs : List D) (n : Nat) : DL.cutD xs none (some (n : Int)) = xs.take n := by
  unfold DL.cutD
  rw [HT.sIx_none, HT.sIx_nat, List.drop_zero, Nat.sub_zero]
  rcases Nat.le_total n xs.length with h | h
  · rw [Nat.min_eq_left h]
  · rw [Nat.min_eq_right h, List.take_length, List.take_of_length_le h]
theorem cut_from (xs : List D) (n : Nat) : DL.cutD xs (some (n : Int)) none = xs.drop n := by
  unfold DL.cutD
  rw [HT.sIx_none, HT.sIx_nat]
  rcases Nat.le_total n xs.length with h | h
  · rw [Nat.min_eq_left h]
    exact List.take_of_length_le (by rw [List.length_drop]; omega)
  · rw [Nat.min_eq_right h, List.drop_of_length_le h, List.drop_of_length_le (Nat.le_refl _), List.take_nil]
theorem csD_take (l : List Cl) (n : Nat) : (csD l).take n = csD (l.take n) := List.map_take.symm
theorem csD_drop (l : List Cl) (n : Nat) : (csD l).drop n = csD (l.drop n) := List.map_drop.symm
theorem csD_append (l m : List Cl) : csD l ++ csD m = csD (l ++ m) := List.map_append.symm
theorem csD_rev (l : List Cl) : (csD l).reverse = csD l.reverse := List.map_reverse.symm
theorem at_cs {l : List Cl} {v : Int} (h0 : 0 ≤ v) (h1 : v < l.length) : ∃ p ∈ l, l[v.toNat]? = some p ∧ atI (csD l) v = some (cD p) := by
  have hv : v.toNat < l.length := by omega
  refine ⟨l[v.toNat], List.getElem_mem hv, List.getElem?_eq_getElem hv, ?_⟩
  unfold atI ixN
  rw [csD_len, if_pos h0, if_pos h1]
  unfold csD
  rw [Option.bind_some, List.getElem?_map, List.getElem?_eq_getElem hv]
  rfl
/-- what stands in a value -/
def okE (c : D) : Prop := okd c = true ∧ ∀ es, c = .tup es → es.length ≤ 1000000 ∧ es.all sim = true
theorem okds_all {ds : List D} (h : ∀ c ∈ ds, okd c = true) : okds ds = true := by
  induction ds with
  | nil => rfl
  | cons d ds ih =>
    unfold okds
    rw [h d List.mem_cons_self, ih fun c hc => h c (List.mem_cons_of_mem _ hc)]
    rfl
theorem okL_tup {ds : List D} (h : ∀ c ∈ ds, okE c) (hl : ds.length ≤ 1000000) : okL (.tup ds) := by
  refine ⟨⟨by unfold okd; exact okds_all fun c hc => (h c hc).1, fun es e => ?_⟩, fun es e c hc fs e2 => ?_⟩
  · cases e
    exact ⟨hl, fun c hc fs e2 => ((h c hc).2 fs e2).1⟩
  · cases e
    exact ((h c hc).2 fs e2).2
theorem okE_cD (p : Cl) : okE (cD p) := ⟨rfl, fun es e => by cases e; exact ⟨by show 2 ≤ 1000000; decide, rfl⟩⟩
theorem okE_cs (l : List Cl) : ∀ c ∈ csD l, okE c := fun c hc => by
  obtain ⟨p, _, rfl⟩ := List.mem_map.mp hc
  exact okE_cD p
theorem okL_cs {l : List Cl} (h : l.length ≤ 1000000) : okL (.tup (csD l)) := okL_tup (okE_cs l) (by rw [csD_len]; exact h)
theorem okE_t {fs : List D} (h : okds fs = true) (hl : fs.length ≤ 1000000) (hs : fs.all sim = true) : okE (.tup fs) := ⟨by unfold okd; exact h, fun es e => by cases e; exact ⟨hl, hs⟩⟩
theorem okE_o {d : D} (h : okd d = true) (hn : isTupD d = false) : okE d := ⟨h, fun es e => by subst e; cases hn⟩
theorem okL_o {d : D} (h : okd d = true) (hn : isTupD d = false) : okL d := ⟨⟨h, fun _ e => by subst e; cases hn⟩, fun _ e => by subst e; cases hn⟩
theorem okL_lst {ds : List D} (h : okds ds = true) : okL (.lst ds) := ⟨⟨by unfold okd; exact h, fun _ e => by cases e⟩, fun _ e => by cases e⟩
section
variable {P : Program} {w : World} {K : PySem.W.Frag} {mg : Str → Option Value} {base : Heap}
def afLaw : AF := fun ρ k => ∃ ns, ρ = [.im (.scr ns)] ∧ ns.length ≤ 999999 ∧ k (.bl true) ρ
theorem ok_law {f : Addr} {fd : FuncData} (Bn : Bt mg) (h : Fun K "law" "law" sLaw f fd) (d_law_cup : DfL P w K mg base 1 "_law_cup" afCup) (d_law_roll : Df P w K mg base 1 "_law_roll" afRoll) (d_law_same : Df P w K mg base 6 "_law_same" (afSame 6)) (d_law_size : Df P w K mg base 3 "_law_size" afLawSize) (d_law_order : Df P w K mg base 2 "_law_order" afLawOrder) (d_law_drawn : Df P w K mg base 2 "_law_drawn" afLawDrawn)
    (d_law_is_order : Df P w K mg base 1 "_law_is_order" afLawIsOrder) (d_is_order : Df P w K mg base 4 "is_order" afIsOrder) (d_law_box : Df P w K mg base 1 "_law_box" afLawBox) (d_is_walk : Df P w K mg base 5 "is_walk" afIsWalk) (d_place_in_box : Df P w K mg base 5 "place_in_box" afPlace) (d_box_order : Df P w K mg base 5 "box_order" afBoxOrder) : FnOk P w K mg base CX0 7 f fd ["script"] (SpF K afLaw) := by
  refine df_okE h scLaw [.un, .un, .un, .un, .un, .un, .un, .un, .un, .un, .un, .un, .un, .un, .un, .un] (fun ρ kk h => by obtain ⟨_, rfl, _⟩ := h; rfl) (fun f cdv A outer s H E hr => ⟨_, _, _, (gss_cons (gs_setO (i := 1) scLaw.nd (gl_dfK d_law_cup hr (ga_cons (gv 0) ga_nil)))
      (gss_cons (gs_for PassesOwn.never rfl (gi_rg1 Bn (ga_cons ge_int ga_nil)) (gg_name scLaw.nd (i := 2))
      (gss_cons (gs_asg (ge_dfK d_law_size hr (ga_cons (gv 1) ga_nil)) (gg_tupK (K := K) (n := 2) rfl (ggs_cons (gg_name scLaw.nd (i := 3)) (ggs_cons (gg_name scLaw.nd (i := 4)) ggs_nil))))
      (gss_cons (gs_for PassesOwn.never rfl (gi_seqK (K := K) (ge_tup (ga_cons ge_str (ga_cons ge_str (ga_cons ge_str (ga_cons ge_str ga_nil)))))) (gg_name scLaw.nd (i := 5))
      (gss_cons (gs_set (i := 6) scLaw.nd (ge_dfK d_law_order hr (ga_cons (gv 5) (ga_cons (gv 3) (ga_cons (gv 4) ga_nil)))))
      (gss_cons (gs_set (i := 7) scLaw.nd (ge_dfK d_law_roll hr (ga_cons (gv 1) (ga_cons (ge_lenK (K := K) Bn (ga_cons (gv 6) ga_nil)) ga_nil))))
      (gss_cons (gs_set (i := 8) scLaw.nd (ge_tup (ga_cons (ge_dfK d_box_order hr (ga_cons (gv 5) (ga_cons (gv 3) (ga_cons (gv 4) ga_nil)))) (ga_cons (ge_dfK d_place_in_box hr (ga_cons (gv 5) (ga_cons (gv 3) (ga_cons (gv 4) (ga_cons (ge_ixK (K := K) (gv 6) (gv 7)) ga_nil))))) ga_nil))))
      (gss_cons (gs_if (GW.gt (gw_or (gt_not (gt_truthK (K := K) (ge_dfK d_law_same hr (ga_cons (gv 8) (ga_cons (ge_tup (ga_cons (gv 6) (ga_cons (gv 7) ga_nil))) ga_nil))))) (gw_or1 (gt_ne (K := K) hr.units (GL.e (gl_sorted rfl (hu65 hr) (K := K) Bn (ga_cons (gv 6) ga_nil))) (ge_dfK d_law_box hr (ga_cons (gv 3) (ga_cons (gv 4) ga_nil))) (nomark _))))) (gss_one (gs_ret ge_bl)) gss_nil)
      (gss_one (gs_if (GW.gt (gw_and (gt_in (K := K) (hu65 hr) (gv 5) (ge_tup (ga_cons ge_str (ga_cons ge_str ga_nil))) (by rfl)) (gw_and1 (gt_cmp op_notBl lk_notB (ge_dfK d_is_walk hr (ga_cons (gv 6) ga_nil)) ge_bl (nomark _))))) (gss_one (gs_ret ge_bl)) gss_nil)))))))
      (gss_cons (gs_set (i := 9) scLaw.nd (ge_dfK d_law_drawn hr (ga_cons (gv 1) (ga_cons (ge_slK (K := K) (gv 6) go_none (go_some ge_int)) ga_nil))))
      (gss_cons (gs_set (i := 7) scLaw.nd (ge_dfK d_law_roll hr (ga_cons (gv 1) (ga_cons (ge_lenK (K := K) Bn (ga_cons (gv 9) ga_nil)) ga_nil))))
      (gss_cons (gs_set (i := 10) scLaw.nd (GL.e (gl_lst (ga_cons ge_non (ga_cons (GL.e (gl_listK (K := K) Bn.list (ga_cons (ge_ixK (K := K) (gv 9) (gv 7)) ga_nil))) (ga_cons (ge_slK (K := K) (ge_ixK (K := K) (gv 9) (gv 7)) go_none (go_some ge_int)) (ga_cons (ge_plus (K := K) (ge_ixK (K := K) (gv 9) (gv 7)) (ge_tup (ga_cons ge_int ga_nil))) (ga_cons (ge_tup (ga_cons (ge_un un_neg lk_neg ge_int) (ga_cons ge_int ga_nil))) (ga_cons (ge_tup (ga_cons ge_int (ga_cons ge_int ga_nil))) (ga_cons (ge_tup (ga_cons ge_bl (ga_cons ge_int ga_nil))) (ga_cons (ge_tup (ga_cons ge_str (ga_cons ge_int ga_nil))) (ga_cons ge_int (ga_cons (ge_ixK (K := K) (gv 9) ge_int) (ga_cons (ge_tup (ga_cons ge_int (ga_cons ge_int ga_nil))) ga_nil))))))))))))))
      (gss_cons (gs_set (i := 11) scLaw.nd (GL.e (gl_lst (ga_cons (gv 9) (ga_cons (gv 6) (ga_cons (ge_plus (K := K) (gv 9) (ge_slK (K := K) (gv 9) go_none (go_some ge_int))) (ga_cons (ge_rev (K := K) (gv 9) (ge_un un_neg lk_neg ge_int)) (ga_cons (GL.e (gl_listK (K := K) Bn.list (ga_cons (gv 9) ga_nil))) (ga_cons (ge_tup ga_nil) (ga_cons ge_non (ga_cons ge_int (ga_cons (ge_ixK (K := K) (gv 9) (gv 7)) (ga_cons ge_str ga_nil)))))))))))))
      (gss_one (gs_for PassesOwn.never rfl (gi_seqK (K := K) (ge_plus (K := K) (gv 11) (GL.e (gl_lc rfl scLaw.nd (blkOk_by (own := [("odd", 13)]) (by kernel_rfl)) (gi_seqK (K := K) (gv 10)) (fun _ _ _ _ _ => (gg_name scLaw.nd (i := 13))) (fun _ _ _ _ _ => gts_nil) (fun _ _ _ _ _ => (ge_plus (K := K) (ge_plus (K := K) (ge_slK (K := K) (gv 9) go_none (go_some (gv 7))) (ge_tup (ga_cons (gv 13) ga_nil))) (ge_slK (K := K) (gv 9) (go_some (ge_plus (K := K) (gv 7) ge_int)) go_none))))))) (gg_name scLaw.nd (i := 12))
      (gss_one (gs_if (gt_not (gt_truthK (K := K) (ge_dfK d_law_same hr (ga_cons (ge_dfK d_is_order hr (ga_cons (gv 12) ga_nil)) (ga_cons (ge_dfK d_law_is_order hr (ga_cons (gv 12) ga_nil)) ga_nil))))) (gss_one (gs_ret ge_bl)) gss_nil)))))))))))
      (gss_cons (gs_set (i := 14) scLaw.nd (ge_tupleK (K := K) Bn (ga_cons (GL.e (gl_lc rfl scLaw.nd (blkOk_by (own := [("row", 15), ("column", 16)]) (by kernel_rfl)) (gi_seqK (K := K) (ge_dfK d_law_box hr (ga_cons ge_int (ga_cons ge_int ga_nil)))) (fun _ _ _ _ _ => (gg_tupK (K := K) (n := 2) rfl (ggs_cons (gg_name scLaw.nd (i := 15)) (ggs_cons (gg_name scLaw.nd (i := 16)) ggs_nil)))) (fun _ _ _ _ _ => gts_nil) (fun _ _ _ _ _ => (ge_tup (ga_cons (gv 15) (ga_cons (gv 16) ga_nil)))))) ga_nil)))
      (gss_cons (gs_set (i := 8) scLaw.nd (ge_tup (ga_cons (ge_dfK d_box_order hr (ga_cons ge_str (ga_cons ge_int (ga_cons ge_int ga_nil)))) (ga_cons (ge_dfK d_box_order hr (ga_cons ge_str (ga_cons ge_int (ga_cons ge_int ga_nil)))) (ga_cons (ge_lenK (K := K) Bn (ga_cons (ge_dfK d_box_order hr (ga_cons ge_str (ga_cons ge_int (ga_cons ge_int ga_nil)))) ga_nil)) (ga_cons (ge_dfK d_is_order hr (ga_cons (ge_slK (K := K) (gv 14) go_none (go_some ge_int)) ga_nil)) (ga_cons (ge_dfK d_is_order hr (ga_cons (ge_slK (K := K) (gv 14) go_none (go_some ge_int)) ga_nil)) ga_nil)))))))
      (gss_one (gs_ret (ge_dfK d_law_same hr (ga_cons (gv 8) (ga_cons (ge_tup (ga_cons (ge_tupleK (K := K) Bn (ga_cons (ge_dfK d_law_box hr (ga_cons ge_int (ga_cons ge_int ga_nil))) ga_nil)) (ga_cons (ge_tupleK (K := K) Bn (ga_cons (ge_dfK d_law_box hr (ga_cons ge_int (ga_cons ge_int ga_nil))) ga_nil)) (ga_cons ge_int (ga_cons ge_bl (ga_cons ge_bl ga_nil)))))) ga_nil))))))))), fun ρ kk h => ?_⟩)
  obtain ⟨ns, rfl, hl, hk⟩ := h
  refine ⟨rfl, ?_⟩
  refine aSeq_cut (fun ρ' => ∃ a b, ρ' = [.im (.scr ns), cupS a b, .un, .un, .un, .un, .un, .un, .un, .un, .un, .un, .un, .un, .un, .un, .un]) (fun N hN => ?_) (fun ρ' h => ?_)
  · try dsimp only [fAll, isOl, isOd, fSum, aRet, aRetN, aAndV, aOrV, aNotV, aIsi, aVar, aC, aChain, aOp, aUn, aTest, aTru, truD, aAnd, aOr, aNot, aIf, aCons, aNil, aTup, aLst, imAll, aCB, resAll, res, aCall, bok, isOw, bos, svOf, back, aNext, aSeq, aIfS, aAsg, aAsgO, aName, aGTup, aGCons, aGNil, aDrop, aFrz, frz, aOfL, fI0, fI, fNeg, fPlus, fLen, fTuple, fInt, fAbs, fMax2, fMin2, fIsN, fNotN, fIsB, fNotB, isNonD, isT, aApp, aAug, aPop, aSetI, aPar, aPar3, aMIm, aMFr, svM, aList, aSl, aPart, aNoPart, aISeq, aRg1, aRg2, aYes, wipeA, mrg, noOw, still, retA, Option.map, List.map, List.getElem?_cons_zero, List.getElem?_cons_succ, List.set_cons_zero, List.set_cons_succ, List.cons_append, List.nil_append, List.replicate, List.length_cons, List.length_nil, Bool.not_true, Bool.not_false, Bool.and_true, Bool.true_and, aZipTwo, aZip3, aZip2, aZ2, seqD, aEnum, aSrt, fIxN, fInN, fLenN, aSetN, aAsgN, aDNew, aMFd, aOfN, aLenSet, aIndex, aRg3d, aDisp1, aAsgNew, fMinT, fMaxT, aPopAt, aRev]
    exact ⟨rfl, ns, rfl, hl, fun a0 b0 => hN _ ⟨_, _, rfl⟩⟩
  obtain ⟨a0, b0, rfl⟩ := h
  refine aSeq_cut (fun ρ' => ∃ a b s2 s3 s4 s5 s6 s7 s8 s9 s10 s11 s12, ρ' = [.im (.scr ns), cupS a b, s2, s3, s4, s5, s6, s7, s8, s9, s10, s11, s12, .un, .un, .un, .un]) (fun N hN => ?_) (fun ρ' h => ?_)
  · refine aFor_map (rgI 0 4) D.int (fun _ ρ' => ∃ a b s2 s3 s4 s5 s6 s7 s8 s9 s10 s11 s12, ρ' = [.im (.scr ns), cupS a b, s2, s3, s4, s5, s6, s7, s8, s9, s10, s11, s12, .un, .un, .un, .un]) (fun k' hk' => ?_) ⟨_, _, _, _, _, _, _, _, _, _, _, _, _, rfl⟩ (fun pre n post ρ' hx hI N' hN' => ?_) ?_
    · try dsimp only [fAll, isOl, isOd, fSum, aRet, aRetN, aAndV, aOrV, aNotV, aIsi, aVar, aC, aChain, aOp, aUn, aTest, aTru, truD, aAnd, aOr, aNot, aIf, aCons, aNil, aTup, aLst, imAll, aCB, resAll, res, aCall, bok, isOw, bos, svOf, back, aNext, aSeq, aIfS, aAsg, aAsgO, aName, aGTup, aGCons, aGNil, aDrop, aFrz, frz, aOfL, fI0, fI, fNeg, fPlus, fLen, fTuple, fInt, fAbs, fMax2, fMin2, fIsN, fNotN, fIsB, fNotB, isNonD, isT, aApp, aAug, aPop, aSetI, aPar, aPar3, aMIm, aMFr, svM, aList, aSl, aPart, aNoPart, aISeq, aRg1, aRg2, aYes, wipeA, mrg, noOw, still, retA, Option.map, List.map, List.getElem?_cons_zero, List.getElem?_cons_succ, List.set_cons_zero, List.set_cons_succ, List.cons_append, List.nil_append, List.replicate, List.length_cons, List.length_nil, Bool.not_true, Bool.not_false, Bool.and_true, Bool.true_and, aZipTwo, aZip3, aZip2, aZ2, seqD, aEnum, aSrt, fIxN, fInN, fLenN, aSetN, aAsgN, aDNew, aMFd, aOfN, aLenSet, aIndex, aRg3d, aDisp1, aAsgNew, fMinT, fMaxT, aPopAt, aRev]
      rw [show rng 0 (4 : Int).toNat = (rgI 0 4).map D.int from rng_rgI0 4]
      exact ⟨by decide, hk'⟩
    · obtain ⟨a, b, s2, s3, s4, s5, s6, s7, s8, s9, s10, s11, s12, rfl⟩ := hI
      clear hx a0 b0
      show aSeq _ _ _ _
      -- rows, columns
      refine aSeq_cut (fun ρ' => ∃ a b r c, (1 ≤ r ∧ r ≤ 60 ∧ 1 ≤ c ∧ c ≤ 60 ∧ r * c ≤ 400) ∧ ρ' = [.im (.scr ns), cupS a b, .im (.int n), .im (.int r), .im (.int c), s5, s6, s7, s8, s9, s10, s11, s12, .un, .un, .un, .un]) (fun N hN => ?_) (fun ρ' h => ?_)
      · try dsimp only [fAll, isOl, isOd, fSum, aRet, aRetN, aAndV, aOrV, aNotV, aIsi, aVar, aC, aChain, aOp, aUn, aTest, aTru, truD, aAnd, aOr, aNot, aIf, aCons, aNil, aTup, aLst, imAll, aCB, resAll, res, aCall, bok, isOw, bos, svOf, back, aNext, aSeq, aIfS, aAsg, aAsgO, aName, aGTup, aGCons, aGNil, aDrop, aFrz, frz, aOfL, fI0, fI, fNeg, fPlus, fLen, fTuple, fInt, fAbs, fMax2, fMin2, fIsN, fNotN, fIsB, fNotB, isNonD, isT, aApp, aAug, aPop, aSetI, aPar, aPar3, aMIm, aMFr, svM, aList, aSl, aPart, aNoPart, aISeq, aRg1, aRg2, aYes, wipeA, mrg, noOw, still, retA, Option.map, List.map, List.getElem?_cons_zero, List.getElem?_cons_succ, List.set_cons_zero, List.set_cons_succ, List.cons_append, List.nil_append, List.replicate, List.length_cons, List.length_nil, Bool.not_true, Bool.not_false, Bool.and_true, Bool.true_and, aZipTwo, aZip3, aZip2, aZ2, seqD, aEnum, aSrt, fIxN, fInN, fLenN, aSetN, aAsgN, aDNew, aMFd, aOfN, aLenSet, aIndex, aRg3d, aDisp1, aAsgNew, fMinT, fMaxT, aPopAt, aRev]
        refine ⟨rfl, a, b, rfl, fun r c a b hb => ?_⟩
        try dsimp only [fAll, isOl, isOd, fSum, aRet, aRetN, aAndV, aOrV, aNotV, aIsi, aVar, aC, aChain, aOp, aUn, aTest, aTru, truD, aAnd, aOr, aNot, aIf, aCons, aNil, aTup, aLst, imAll, aCB, resAll, res, aCall, bok, isOw, bos, svOf, back, aNext, aSeq, aIfS, aAsg, aAsgO, aName, aGTup, aGCons, aGNil, aDrop, aFrz, frz, aOfL, fI0, fI, fNeg, fPlus, fLen, fTuple, fInt, fAbs, fMax2, fMin2, fIsN, fNotN, fIsB, fNotB, isNonD, isT, aApp, aAug, aPop, aSetI, aPar, aPar3, aMIm, aMFr, svM, aList, aSl, aPart, aNoPart, aISeq, aRg1, aRg2, aYes, wipeA, mrg, noOw, still, retA, Option.map, List.map, List.getElem?_cons_zero, List.getElem?_cons_succ, List.set_cons_zero, List.set_cons_succ, List.cons_append, List.nil_append, List.replicate, List.length_cons, List.length_nil, Bool.not_true, Bool.not_false, Bool.and_true, Bool.true_and, aZipTwo, aZip3, aZip2, aZ2, seqD, aEnum, aSrt, fIxN, fInN, fLenN, aSetN, aAsgN, aDNew, aMFd, aOfN, aLenSet, aIndex, aRg3d, aDisp1, aAsgNew, fMinT, fMaxT, aPopAt, aRev]
        exact ⟨rfl, rfl, hN _ ⟨a, b, r, c, hb, rfl⟩⟩
      obtain ⟨a, b, r, c, hb, rfl⟩ := h
      have b1 : 1 ≤ r ∧ 1 ≤ c := by omega
      have b2 : r ≤ 60 ∧ c ≤ 60 := by omega
      have b0 : 1 ≤ r * c := Int.mul_pos (by omega) (by omega)
      -- the kinds
      refine aSeq_cut (fun ρ' => ∃ a b s5 s7 s8, ∃ x ∈ KINDS, ρ' = [.im (.scr ns), cupS a b, .im (.int n), .im (.int r), .im (.int c), s5, .im (.tup (csD (ordX x r c))), s7, s8, s9, s10, s11, s12, .un, .un, .un, .un]) (fun N hN => ?_) (fun ρ' h => ?_)
      · refine aFor_map KINDS D.str (fun pre ρ' => ∃ a b s5 s6 s7 s8, (pre ≠ [] → ∃ x ∈ KINDS, s6 = .im (.tup (csD (ordX x r c)))) ∧ ρ' = [.im (.scr ns), cupS a b, .im (.int n), .im (.int r), .im (.int c), s5, s6, s7, s8, s9, s10, s11, s12, .un, .un, .un, .un]) (fun k' hk' => ?_) ⟨_, _, _, _, _, _, fun z => (z rfl).elim, rfl⟩ (fun pre x post ρ' hx hI N2 hN2 => ?_) ?_
        · try dsimp only [fAll, isOl, isOd, fSum, aRet, aRetN, aAndV, aOrV, aNotV, aIsi, aVar, aC, aChain, aOp, aUn, aTest, aTru, truD, aAnd, aOr, aNot, aIf, aCons, aNil, aTup, aLst, imAll, aCB, resAll, res, aCall, bok, isOw, bos, svOf, back, aNext, aSeq, aIfS, aAsg, aAsgO, aName, aGTup, aGCons, aGNil, aDrop, aFrz, frz, aOfL, fI0, fI, fNeg, fPlus, fLen, fTuple, fInt, fAbs, fMax2, fMin2, fIsN, fNotN, fIsB, fNotB, isNonD, isT, aApp, aAug, aPop, aSetI, aPar, aPar3, aMIm, aMFr, svM, aList, aSl, aPart, aNoPart, aISeq, aRg1, aRg2, aYes, wipeA, mrg, noOw, still, retA, Option.map, List.map, List.getElem?_cons_zero, List.getElem?_cons_succ, List.set_cons_zero, List.set_cons_succ, List.cons_append, List.nil_append, List.replicate, List.length_cons, List.length_nil, Bool.not_true, Bool.not_false, Bool.and_true, Bool.true_and, aZipTwo, aZip3, aZip2, aZ2, seqD, aEnum, aSrt, fIxN, fInN, fLenN, aSetN, aAsgN, aDNew, aMFd, aOfN, aLenSet, aIndex, aRg3d, aDisp1, aAsgNew, fMinT, fMaxT, aPopAt, aRev]
          exact ⟨by decide, hk'⟩
        · obtain ⟨a, b, s5, s6, s7, s8, _, rfl⟩ := hI
          have hxK : x ∈ KINDS := by rw [hx]; exact List.mem_append_right _ List.mem_cons_self
          have done : ∀ ρ2 : AR, (∃ a b s7 s8, ρ2 = [.im (.scr ns), cupS a b, .im (.int n), .im (.int r), .im (.int c), .im (.str x), .im (.tup (csD (ordX x r c))), s7, s8, s9, s10, s11, s12, .un, .un, .un, .un]) → N2 ρ2 := fun ρ2 ⟨a, b, s7, s8, e⟩ => hN2 _ ⟨a, b, _, _, s7, s8, fun _ => ⟨x, hxK, rfl⟩, e⟩
          clear hN2 hx
          have hlen := ordX_len (x := x) b1
          have hok := ordX_ok (x := x) b1 b2
          have hnd := ordX_nd (x := x) b1
          have hpm := ordX_perm (x := x) b1
          have hwalk : x = "snake" ∨ x = "spiral" → ((pairs (ordX x r c)).all fun p => stp p.1 p.2 == 1) = true := fun h => by
            rcases h with rfl | rfl
            · unfold ordX
              rw [if_neg (by decide)]
              exact snake_walk b1
            · unfold ordX
              rw [if_pos rfl]
              exact spiral_walk b1
          show aSeq _ _ _ _
          -- due
          refine aSeq_cut (fun ρ' => ρ' = [.im (.scr ns), cupS a b, .im (.int n), .im (.int r), .im (.int c), .im (.str x), .im (.tup (csD (ordX x r c))), s7, s8, s9, s10, s11, s12, .un, .un, .un, .un]) (fun N hN => ?_) (fun ρ' h => ?_)
          · try dsimp only [fAll, isOl, isOd, fSum, aRet, aRetN, aAndV, aOrV, aNotV, aIsi, aVar, aC, aChain, aOp, aUn, aTest, aTru, truD, aAnd, aOr, aNot, aIf, aCons, aNil, aTup, aLst, imAll, aCB, resAll, res, aCall, bok, isOw, bos, svOf, back, aNext, aSeq, aIfS, aAsg, aAsgO, aName, aGTup, aGCons, aGNil, aDrop, aFrz, frz, aOfL, fI0, fI, fNeg, fPlus, fLen, fTuple, fInt, fAbs, fMax2, fMin2, fIsN, fNotN, fIsB, fNotB, isNonD, isT, aApp, aAug, aPop, aSetI, aPar, aPar3, aMIm, aMFr, svM, aList, aSl, aPart, aNoPart, aISeq, aRg1, aRg2, aYes, wipeA, mrg, noOw, still, retA, Option.map, List.map, List.getElem?_cons_zero, List.getElem?_cons_succ, List.set_cons_zero, List.set_cons_succ, List.cons_append, List.nil_append, List.replicate, List.length_cons, List.length_nil, Bool.not_true, Bool.not_false, Bool.and_true, Bool.true_and, aZipTwo, aZip3, aZip2, aZ2, seqD, aEnum, aSrt, fIxN, fInN, fLenN, aSetN, aAsgN, aDNew, aMFd, aOfN, aLenSet, aIndex, aRg3d, aDisp1, aAsgNew, fMinT, fMaxT, aPopAt, aRev]
            refine ⟨rfl, x, r, c, rfl, hxK, by omega, ?_⟩
            exact hN _ rfl
          subst h
          generalize hL : ordX x r c = L at *
          -- at
          refine aSeq_cut (fun ρ' => ∃ a b, ∃ v : Int, (0 ≤ v ∧ v < L.length) ∧ ρ' = [.im (.scr ns), cupS a b, .im (.int n), .im (.int r), .im (.int c), .im (.str x), .im (.tup (csD L)), .im (.int v), s8, s9, s10, s11, s12, .un, .un, .un, .un]) (fun N hN => ?_) (fun ρ' h => ?_)
          · try dsimp only [fAll, isOl, isOd, fSum, aRet, aRetN, aAndV, aOrV, aNotV, aIsi, aVar, aC, aChain, aOp, aUn, aTest, aTru, truD, aAnd, aOr, aNot, aIf, aCons, aNil, aTup, aLst, imAll, aCB, resAll, res, aCall, bok, isOw, bos, svOf, back, aNext, aSeq, aIfS, aAsg, aAsgO, aName, aGTup, aGCons, aGNil, aDrop, aFrz, frz, aOfL, fI0, fI, fNeg, fPlus, fLen, fTuple, fInt, fAbs, fMax2, fMin2, fIsN, fNotN, fIsB, fNotB, isNonD, isT, aApp, aAug, aPop, aSetI, aPar, aPar3, aMIm, aMFr, svM, aList, aSl, aPart, aNoPart, aISeq, aRg1, aRg2, aYes, wipeA, mrg, noOw, still, retA, Option.map, List.map, List.getElem?_cons_zero, List.getElem?_cons_succ, List.set_cons_zero, List.set_cons_succ, List.cons_append, List.nil_append, List.replicate, List.length_cons, List.length_nil, Bool.not_true, Bool.not_false, Bool.and_true, Bool.true_and, aZipTwo, aZip3, aZip2, aZ2, seqD, aEnum, aSrt, fIxN, fInN, fLenN, aSetN, aAsgN, aDNew, aMFd, aOfN, aLenSet, aIndex, aRg3d, aDisp1, aAsgNew, fMinT, fMaxT, aPopAt, aRev]
            refine ⟨rfl, a, b, _, rfl, by rw [csD_len]; omega, fun v a b v0 v1 => ?_⟩
            rw [csD_len] at v1
            exact hN _ ⟨a, b, v, ⟨v0, v1⟩, rfl⟩
          obtain ⟨a, b, v, hv, rfl⟩ := h
          obtain ⟨p, hp, hpv, hat⟩ := at_cs hv.1 hv.2
          have hin := boxC_mem.mp (hpm.mem_iff.mp hp)
          -- told
          refine aSeq_cut (fun ρ' => ρ' = [.im (.scr ns), cupS a b, .im (.int n), .im (.int r), .im (.int c), .im (.str x), .im (.tup (csD L)), .im (.int v), .im (.tup [.tup (csD L), .int v]), s9, s10, s11, s12, .un, .un, .un, .un]) (fun N hN => ?_) (fun ρ' h => ?_)
          · try dsimp only [fAll, isOl, isOd, fSum, aRet, aRetN, aAndV, aOrV, aNotV, aIsi, aVar, aC, aChain, aOp, aUn, aTest, aTru, truD, aAnd, aOr, aNot, aIf, aCons, aNil, aTup, aLst, imAll, aCB, resAll, res, aCall, bok, isOw, bos, svOf, back, aNext, aSeq, aIfS, aAsg, aAsgO, aName, aGTup, aGCons, aGNil, aDrop, aFrz, frz, aOfL, fI0, fI, fNeg, fPlus, fLen, fTuple, fInt, fAbs, fMax2, fMin2, fIsN, fNotN, fIsB, fNotB, isNonD, isT, aApp, aAug, aPop, aSetI, aPar, aPar3, aMIm, aMFr, svM, aList, aSl, aPart, aNoPart, aISeq, aRg1, aRg2, aYes, wipeA, mrg, noOw, still, retA, Option.map, List.map, List.getElem?_cons_zero, List.getElem?_cons_succ, List.set_cons_zero, List.set_cons_succ, List.cons_append, List.nil_append, List.replicate, List.length_cons, List.length_nil, Bool.not_true, Bool.not_false, Bool.and_true, Bool.true_and, aZipTwo, aZip3, aZip2, aZ2, seqD, aEnum, aSrt, fIxN, fInN, fLenN, aSetN, aAsgN, aDNew, aMFd, aOfN, aLenSet, aIndex, aRg3d, aDisp1, aAsgNew, fMinT, fMaxT, aPopAt, aRev]
            refine ⟨rfl, x, r, c, rfl, hxK, hb, ?_⟩
            try dsimp only [fAll, isOl, isOd, fSum, aRet, aRetN, aAndV, aOrV, aNotV, aIsi, aVar, aC, aChain, aOp, aUn, aTest, aTru, truD, aAnd, aOr, aNot, aIf, aCons, aNil, aTup, aLst, imAll, aCB, resAll, res, aCall, bok, isOw, bos, svOf, back, aNext, aSeq, aIfS, aAsg, aAsgO, aName, aGTup, aGCons, aGNil, aDrop, aFrz, frz, aOfL, fI0, fI, fNeg, fPlus, fLen, fTuple, fInt, fAbs, fMax2, fMin2, fIsN, fNotN, fIsB, fNotB, isNonD, isT, aApp, aAug, aPop, aSetI, aPar, aPar3, aMIm, aMFr, svM, aList, aSl, aPart, aNoPart, aISeq, aRg1, aRg2, aYes, wipeA, mrg, noOw, still, retA, Option.map, List.map, List.getElem?_cons_zero, List.getElem?_cons_succ, List.set_cons_zero, List.set_cons_succ, List.cons_append, List.nil_append, List.replicate, List.length_cons, List.length_nil, Bool.not_true, Bool.not_false, Bool.and_true, Bool.true_and, aZipTwo, aZip3, aZip2, aZ2, seqD, aEnum, aSrt, fIxN, fInN, fLenN, aSetN, aAsgN, aDNew, aMFd, aOfN, aLenSet, aIndex, aRg3d, aDisp1, aAsgNew, fMinT, fMaxT, aPopAt, aRev]
            refine ⟨_, hat, ?_⟩
            refine ⟨rfl, x, r, c, p, v.toNat, rfl, hxK, hb, by omega, by rw [hL]; exact hpv, by rw [hL]; exact first_at hnd hpv, ?_⟩
            try dsimp only [fAll, isOl, isOd, fSum, aRet, aRetN, aAndV, aOrV, aNotV, aIsi, aVar, aC, aChain, aOp, aUn, aTest, aTru, truD, aAnd, aOr, aNot, aIf, aCons, aNil, aTup, aLst, imAll, aCB, resAll, res, aCall, bok, isOw, bos, svOf, back, aNext, aSeq, aIfS, aAsg, aAsgO, aName, aGTup, aGCons, aGNil, aDrop, aFrz, frz, aOfL, fI0, fI, fNeg, fPlus, fLen, fTuple, fInt, fAbs, fMax2, fMin2, fIsN, fNotN, fIsB, fNotB, isNonD, isT, aApp, aAug, aPop, aSetI, aPar, aPar3, aMIm, aMFr, svM, aList, aSl, aPart, aNoPart, aISeq, aRg1, aRg2, aYes, wipeA, mrg, noOw, still, retA, Option.map, List.map, List.getElem?_cons_zero, List.getElem?_cons_succ, List.set_cons_zero, List.set_cons_succ, List.cons_append, List.nil_append, List.replicate, List.length_cons, List.length_nil, Bool.not_true, Bool.not_false, Bool.and_true, Bool.true_and, aZipTwo, aZip3, aZip2, aZ2, seqD, aEnum, aSrt, fIxN, fInN, fLenN, aSetN, aAsgN, aDNew, aMFd, aOfN, aLenSet, aIndex, aRg3d, aDisp1, aAsgNew, fMinT, fMaxT, aPopAt, aRev]
            refine ⟨by decide, hN _ ?_⟩
            rw [hL, show ((v.toNat : Nat) : Int) = v by omega]
          subst h
          -- told is due; sorted
          refine aSeq_cut (fun ρ' => ρ' = [.im (.scr ns), cupS a b, .im (.int n), .im (.int r), .im (.int c), .im (.str x), .im (.tup (csD L)), .im (.int v), .im (.tup [.tup (csD L), .int v]), s9, s10, s11, s12, .un, .un, .un, .un]) (fun N hN => ?_) (fun ρ' h => ?_)
          · have e1 : srt (csD L) = csD (boxC r c) := by rw [srt_cells, sort_box hpm]
            have m1 := nice_tup (l := L) (by omega)
            try dsimp only [fAll, isOl, isOd, fSum, aRet, aRetN, aAndV, aOrV, aNotV, aIsi, aVar, aC, aChain, aOp, aUn, aTest, aTru, truD, aAnd, aOr, aNot, aIf, aCons, aNil, aTup, aLst, imAll, aCB, resAll, res, aCall, bok, isOw, bos, svOf, back, aNext, aSeq, aIfS, aAsg, aAsgO, aName, aGTup, aGCons, aGNil, aDrop, aFrz, frz, aOfL, fI0, fI, fNeg, fPlus, fLen, fTuple, fInt, fAbs, fMax2, fMin2, fIsN, fNotN, fIsB, fNotB, isNonD, isT, aApp, aAug, aPop, aSetI, aPar, aPar3, aMIm, aMFr, svM, aList, aSl, aPart, aNoPart, aISeq, aRg1, aRg2, aYes, wipeA, mrg, noOw, still, retA, Option.map, List.map, List.getElem?_cons_zero, List.getElem?_cons_succ, List.set_cons_zero, List.set_cons_succ, List.cons_append, List.nil_append, List.replicate, List.length_cons, List.length_nil, Bool.not_true, Bool.not_false, Bool.and_true, Bool.true_and, aZipTwo, aZip3, aZip2, aZ2, seqD, aEnum, aSrt, fIxN, fInN, fLenN, aSetN, aAsgN, aDNew, aMFd, aOfN, aLenSet, aIndex, aRg3d, aDisp1, aAsgNew, fMinT, fMaxT, aPopAt, aRev]
            refine ⟨by decide, rfl, _, rfl, ?_, ?_, ?_, ?_⟩
            · unfold numd numds numds numds
              rw [m1.1]; rfl
            · unfold small smalls smalls smalls
              rw [m1.2.1]; rfl
            · unfold deep deeps deeps deeps
              have := m1.2.2
              unfold deep at this ⊢
              omega
            try dsimp only [fAll, isOl, isOd, fSum, aRet, aRetN, aAndV, aOrV, aNotV, aIsi, aVar, aC, aChain, aOp, aUn, aTest, aTru, truD, aAnd, aOr, aNot, aIf, aCons, aNil, aTup, aLst, imAll, aCB, resAll, res, aCall, bok, isOw, bos, svOf, back, aNext, aSeq, aIfS, aAsg, aAsgO, aName, aGTup, aGCons, aGNil, aDrop, aFrz, frz, aOfL, fI0, fI, fNeg, fPlus, fLen, fTuple, fInt, fAbs, fMax2, fMin2, fIsN, fNotN, fIsB, fNotB, isNonD, isT, aApp, aAug, aPop, aSetI, aPar, aPar3, aMIm, aMFr, svM, aList, aSl, aPart, aNoPart, aISeq, aRg1, aRg2, aYes, wipeA, mrg, noOw, still, retA, Option.map, List.map, List.getElem?_cons_zero, List.getElem?_cons_succ, List.set_cons_zero, List.set_cons_succ, List.cons_append, List.nil_append, List.replicate, List.length_cons, List.length_nil, Bool.not_true, Bool.not_false, Bool.and_true, Bool.true_and, aZipTwo, aZip3, aZip2, aZ2, seqD, aEnum, aSrt, fIxN, fInN, fLenN, aSetN, aAsgN, aDNew, aMFd, aOfN, aLenSet, aIndex, aRg3d, aDisp1, aAsgNew, fMinT, fMaxT, aPopAt, aRev]
            rw [if_neg (show ¬ (!true) = true by decide)]
            refine ⟨srt_ok _ (by omega), rfl, _, _, rfl, by omega, ?_⟩
            rw [e1]
            refine ⟨shp_csD _, shp_csD _, ?_⟩
            rw [show eqv (.lst (csD (boxC r c))) (.lst (csD (boxC r c))) = true by unfold eqv; exact eqvs_csD _]
            try dsimp only [fAll, isOl, isOd, fSum, aRet, aRetN, aAndV, aOrV, aNotV, aIsi, aVar, aC, aChain, aOp, aUn, aTest, aTru, truD, aAnd, aOr, aNot, aIf, aCons, aNil, aTup, aLst, imAll, aCB, resAll, res, aCall, bok, isOw, bos, svOf, back, aNext, aSeq, aIfS, aAsg, aAsgO, aName, aGTup, aGCons, aGNil, aDrop, aFrz, frz, aOfL, fI0, fI, fNeg, fPlus, fLen, fTuple, fInt, fAbs, fMax2, fMin2, fIsN, fNotN, fIsB, fNotB, isNonD, isT, aApp, aAug, aPop, aSetI, aPar, aPar3, aMIm, aMFr, svM, aList, aSl, aPart, aNoPart, aISeq, aRg1, aRg2, aYes, wipeA, mrg, noOw, still, retA, Option.map, List.map, List.getElem?_cons_zero, List.getElem?_cons_succ, List.set_cons_zero, List.set_cons_succ, List.cons_append, List.nil_append, List.replicate, List.length_cons, List.length_nil, Bool.not_true, Bool.not_false, Bool.and_true, Bool.true_and, aZipTwo, aZip3, aZip2, aZ2, seqD, aEnum, aSrt, fIxN, fInN, fLenN, aSetN, aAsgN, aDNew, aMFd, aOfN, aLenSet, aIndex, aRg3d, aDisp1, aAsgNew, fMinT, fMaxT, aPopAt, aRev]
            exact hN _ rfl
          subst h
          -- a walk
          have hx0 : x = "rows" ∨ x = "snake" ∨ x = "diagonals" ∨ x = "spiral" := by
            unfold KINDS at hxK
            simpa only [List.mem_cons, List.not_mem_nil, or_false] using hxK
          have yes : x = "snake" ∨ x = "spiral" → [D.str "snake", D.str "spiral"].any (fun z => eqv z (.str x)) = true ∧ shp (.str x) = true := fun h => by
            rcases h with rfl | rfl <;> exact ⟨by decide +kernel, by decide +kernel⟩
          have no : x = "rows" ∨ x = "diagonals" → [D.str "snake", D.str "spiral"].any (fun z => eqv z (.str x)) = false ∧ shp (.str x) = true := fun h => by
            rcases h with rfl | rfl <;> exact ⟨by decide +kernel, by decide +kernel⟩
          have hcase : (x = "snake" ∨ x = "spiral") ∨ (x = "rows" ∨ x = "diagonals") := by
            rcases hx0 with h | h | h | h
            · exact .inr (.inl h)
            · exact .inl (.inl h)
            · exact .inr (.inr h)
            · exact .inl (.inr h)
          try dsimp only [fAll, isOl, isOd, fSum, aRet, aRetN, aAndV, aOrV, aNotV, aIsi, aVar, aC, aChain, aOp, aUn, aTest, aTru, truD, aAnd, aOr, aNot, aIf, aCons, aNil, aTup, aLst, imAll, aCB, resAll, res, aCall, bok, isOw, bos, svOf, back, aNext, aSeq, aIfS, aAsg, aAsgO, aName, aGTup, aGCons, aGNil, aDrop, aFrz, frz, aOfL, fI0, fI, fNeg, fPlus, fLen, fTuple, fInt, fAbs, fMax2, fMin2, fIsN, fNotN, fIsB, fNotB, isNonD, isT, aApp, aAug, aPop, aSetI, aPar, aPar3, aMIm, aMFr, svM, aList, aSl, aPart, aNoPart, aISeq, aRg1, aRg2, aYes, wipeA, mrg, noOw, still, retA, Option.map, List.map, List.getElem?_cons_zero, List.getElem?_cons_succ, List.set_cons_zero, List.set_cons_succ, List.cons_append, List.nil_append, List.replicate, List.length_cons, List.length_nil, Bool.not_true, Bool.not_false, Bool.and_true, Bool.true_and, aZipTwo, aZip3, aZip2, aZ2, seqD, aEnum, aSrt, fIxN, fInN, fLenN, aSetN, aAsgN, aDNew, aMFd, aOfN, aLenSet, aIndex, aRg3d, aDisp1, aAsgNew, fMinT, fMaxT, aPopAt, aRev]
          rcases hcase with h | h
          · obtain ⟨y1, y2⟩ := yes h
            refine ⟨by decide, y2, by decide +kernel, ?_⟩
            rw [y1]
            try dsimp only [fAll, isOl, isOd, fSum, aRet, aRetN, aAndV, aOrV, aNotV, aIsi, aVar, aC, aChain, aOp, aUn, aTest, aTru, truD, aAnd, aOr, aNot, aIf, aCons, aNil, aTup, aLst, imAll, aCB, resAll, res, aCall, bok, isOw, bos, svOf, back, aNext, aSeq, aIfS, aAsg, aAsgO, aName, aGTup, aGCons, aGNil, aDrop, aFrz, frz, aOfL, fI0, fI, fNeg, fPlus, fLen, fTuple, fInt, fAbs, fMax2, fMin2, fIsN, fNotN, fIsB, fNotB, isNonD, isT, aApp, aAug, aPop, aSetI, aPar, aPar3, aMIm, aMFr, svM, aList, aSl, aPart, aNoPart, aISeq, aRg1, aRg2, aYes, wipeA, mrg, noOw, still, retA, Option.map, List.map, List.getElem?_cons_zero, List.getElem?_cons_succ, List.set_cons_zero, List.set_cons_succ, List.cons_append, List.nil_append, List.replicate, List.length_cons, List.length_nil, Bool.not_true, Bool.not_false, Bool.and_true, Bool.true_and, aZipTwo, aZip3, aZip2, aZ2, seqD, aEnum, aSrt, fIxN, fInN, fLenN, aSetN, aAsgN, aDNew, aMFd, aOfN, aLenSet, aIndex, aRg3d, aDisp1, aAsgNew, fMinT, fMaxT, aPopAt, aRev]
            rw [if_pos (show (false != true) = true by decide)]
            refine ⟨rfl, L, rfl, hok, hnd, ⟨by omega, by omega⟩, ?_⟩
            rw [hwalk h]
            try dsimp only [fAll, isOl, isOd, fSum, aRet, aRetN, aAndV, aOrV, aNotV, aIsi, aVar, aC, aChain, aOp, aUn, aTest, aTru, truD, aAnd, aOr, aNot, aIf, aCons, aNil, aTup, aLst, imAll, aCB, resAll, res, aCall, bok, isOw, bos, svOf, back, aNext, aSeq, aIfS, aAsg, aAsgO, aName, aGTup, aGCons, aGNil, aDrop, aFrz, frz, aOfL, fI0, fI, fNeg, fPlus, fLen, fTuple, fInt, fAbs, fMax2, fMin2, fIsN, fNotN, fIsB, fNotB, isNonD, isT, aApp, aAug, aPop, aSetI, aPar, aPar3, aMIm, aMFr, svM, aList, aSl, aPart, aNoPart, aISeq, aRg1, aRg2, aYes, wipeA, mrg, noOw, still, retA, Option.map, List.map, List.getElem?_cons_zero, List.getElem?_cons_succ, List.set_cons_zero, List.set_cons_succ, List.cons_append, List.nil_append, List.replicate, List.length_cons, List.length_nil, Bool.not_true, Bool.not_false, Bool.and_true, Bool.true_and, aZipTwo, aZip3, aZip2, aZ2, seqD, aEnum, aSrt, fIxN, fInN, fLenN, aSetN, aAsgN, aDNew, aMFd, aOfN, aLenSet, aIndex, aRg3d, aDisp1, aAsgNew, fMinT, fMaxT, aPopAt, aRev]
            rw [if_neg (by decide)]
            exact done _ ⟨a, b, _, _, rfl⟩
          · obtain ⟨y1, y2⟩ := no h
            refine ⟨by decide, y2, by decide +kernel, ?_⟩
            rw [y1]
            try dsimp only [fAll, isOl, isOd, fSum, aRet, aRetN, aAndV, aOrV, aNotV, aIsi, aVar, aC, aChain, aOp, aUn, aTest, aTru, truD, aAnd, aOr, aNot, aIf, aCons, aNil, aTup, aLst, imAll, aCB, resAll, res, aCall, bok, isOw, bos, svOf, back, aNext, aSeq, aIfS, aAsg, aAsgO, aName, aGTup, aGCons, aGNil, aDrop, aFrz, frz, aOfL, fI0, fI, fNeg, fPlus, fLen, fTuple, fInt, fAbs, fMax2, fMin2, fIsN, fNotN, fIsB, fNotB, isNonD, isT, aApp, aAug, aPop, aSetI, aPar, aPar3, aMIm, aMFr, svM, aList, aSl, aPart, aNoPart, aISeq, aRg1, aRg2, aYes, wipeA, mrg, noOw, still, retA, Option.map, List.map, List.getElem?_cons_zero, List.getElem?_cons_succ, List.set_cons_zero, List.set_cons_succ, List.cons_append, List.nil_append, List.replicate, List.length_cons, List.length_nil, Bool.not_true, Bool.not_false, Bool.and_true, Bool.true_and, aZipTwo, aZip3, aZip2, aZ2, seqD, aEnum, aSrt, fIxN, fInN, fLenN, aSetN, aAsgN, aDNew, aMFd, aOfN, aLenSet, aIndex, aRg3d, aDisp1, aAsgNew, fMinT, fMaxT, aPopAt, aRev]
            rw [if_neg (show ¬ (false != false) = true by decide), if_neg Bool.false_ne_true]
            exact done _ ⟨a, b, _, _, rfl⟩
        · rintro ρ' ⟨a, b, s5, s6, s7, s8, h6, rfl⟩
          obtain ⟨x, hx, rfl⟩ := h6 (by decide)
          exact hN _ ⟨a, b, s5, s7, s8, x, hx, rfl⟩
      obtain ⟨a, b, s5, s7, s8, x, hx, rfl⟩ := h
      have hlen := ordX_len (x := x) b1
      have hok := ordX_ok (x := x) b1 b2
      have hnd := ordX_nd (x := x) b1
      generalize ordX x r c = L at *
      -- order
      refine aSeq_cut (fun ρ' => ∃ a b es, es.Perm (L.take 30) ∧ ρ' = [.im (.scr ns), cupS a b, .im (.int n), .im (.int r), .im (.int c), s5, .im (.tup (csD L)), s7, s8, .im (.tup (csD es)), s10, s11, s12, .un, .un, .un, .un]) (fun N hN => ?_) (fun ρ' h => ?_)
      · try dsimp only [fAll, isOl, isOd, fSum, aRet, aRetN, aAndV, aOrV, aNotV, aIsi, aVar, aC, aChain, aOp, aUn, aTest, aTru, truD, aAnd, aOr, aNot, aIf, aCons, aNil, aTup, aLst, imAll, aCB, resAll, res, aCall, bok, isOw, bos, svOf, back, aNext, aSeq, aIfS, aAsg, aAsgO, aName, aGTup, aGCons, aGNil, aDrop, aFrz, frz, aOfL, fI0, fI, fNeg, fPlus, fLen, fTuple, fInt, fAbs, fMax2, fMin2, fIsN, fNotN, fIsB, fNotB, isNonD, isT, aApp, aAug, aPop, aSetI, aPar, aPar3, aMIm, aMFr, svM, aList, aSl, aPart, aNoPart, aISeq, aRg1, aRg2, aYes, wipeA, mrg, noOw, still, retA, Option.map, List.map, List.getElem?_cons_zero, List.getElem?_cons_succ, List.set_cons_zero, List.set_cons_succ, List.cons_append, List.nil_append, List.replicate, List.length_cons, List.length_nil, Bool.not_true, Bool.not_false, Bool.and_true, Bool.true_and, aZipTwo, aZip3, aZip2, aZ2, seqD, aEnum, aSrt, fIxN, fInN, fLenN, aSetN, aAsgN, aDNew, aMFd, aOfN, aLenSet, aIndex, aRg3d, aDisp1, aAsgNew, fMinT, fMaxT, aPopAt, aRev]
        rw [show DL.cutD (csD L) none (some 30) = csD (L.take 30) from (cut_to (csD L) 30).trans (csD_take L 30)]
        refine ⟨rfl, a, b, L.take 30, rfl, by rw [List.length_take]; omega, fun es a b hp => ?_⟩
        exact hN _ ⟨a, b, es, hp, rfl⟩
      obtain ⟨a, b, es, hpe, rfl⟩ := h
      have le : es.length = min 30 L.length := by rw [hpe.length_eq, List.length_take]
      have oke : ∀ p ∈ es, okC p = true := fun p hp => hok p (List.mem_of_mem_take (hpe.mem_iff.mp hp))
      have e1 : 1 ≤ es.length := by omega
      have e30 : es.length ≤ 30 := by omega
      -- at
      refine aSeq_cut (fun ρ' => ∃ a b, ∃ v : Nat, v < es.length ∧ ρ' = [.im (.scr ns), cupS a b, .im (.int n), .im (.int r), .im (.int c), s5, .im (.tup (csD L)), .im (.int v), s8, .im (.tup (csD es)), s10, s11, s12, .un, .un, .un, .un]) (fun N hN => ?_) (fun ρ' h => ?_)
      · try dsimp only [fAll, isOl, isOd, fSum, aRet, aRetN, aAndV, aOrV, aNotV, aIsi, aVar, aC, aChain, aOp, aUn, aTest, aTru, truD, aAnd, aOr, aNot, aIf, aCons, aNil, aTup, aLst, imAll, aCB, resAll, res, aCall, bok, isOw, bos, svOf, back, aNext, aSeq, aIfS, aAsg, aAsgO, aName, aGTup, aGCons, aGNil, aDrop, aFrz, frz, aOfL, fI0, fI, fNeg, fPlus, fLen, fTuple, fInt, fAbs, fMax2, fMin2, fIsN, fNotN, fIsB, fNotB, isNonD, isT, aApp, aAug, aPop, aSetI, aPar, aPar3, aMIm, aMFr, svM, aList, aSl, aPart, aNoPart, aISeq, aRg1, aRg2, aYes, wipeA, mrg, noOw, still, retA, Option.map, List.map, List.getElem?_cons_zero, List.getElem?_cons_succ, List.set_cons_zero, List.set_cons_succ, List.cons_append, List.nil_append, List.replicate, List.length_cons, List.length_nil, Bool.not_true, Bool.not_false, Bool.and_true, Bool.true_and, aZipTwo, aZip3, aZip2, aZ2, seqD, aEnum, aSrt, fIxN, fInN, fLenN, aSetN, aAsgN, aDNew, aMFd, aOfN, aLenSet, aIndex, aRg3d, aDisp1, aAsgNew, fMinT, fMaxT, aPopAt, aRev]
        refine ⟨rfl, a, b, _, rfl, by rw [csD_len]; omega, fun v a b v0 v1 => ?_⟩
        rw [csD_len] at v1
        refine hN _ ⟨a, b, v.toNat, by omega, ?_⟩
        rw [show ((v.toNat : Nat) : Int) = v by omega]
        rfl
      obtain ⟨a, b, v, hv, rfl⟩ := h
      obtain ⟨p, hp, hpv, hat⟩ := at_cs (l := es) (v := v) (by omega) (by omega)
      obtain ⟨q, hq, hqv, hat0⟩ := at_cs (l := es) (v := 0) (by omega) (by omega)
      -- odds
      refine aSeq_cut (fun ρ' => ∃ odds, (∀ d ∈ odds, okE d) ∧ odds.length ≤ 1000 ∧ ρ' = [.im (.scr ns), cupS a b, .im (.int n), .im (.int r), .im (.int c), s5, .im (.tup (csD L)), .im (.int v), s8, .im (.tup (csD es)), .im (.lst odds), s11, s12, .un, .un, .un, .un]) (fun N hN => ?_) (fun ρ' h => ?_)
      · have hat' : atI (csD es) v = some (.tup [.int p.1, .int p.2]) := hat
        try dsimp only [fAll, isOl, isOd, fSum, aRet, aRetN, aAndV, aOrV, aNotV, aIsi, aVar, aC, aChain, aOp, aUn, aTest, aTru, truD, aAnd, aOr, aNot, aIf, aCons, aNil, aTup, aLst, imAll, aCB, resAll, res, aCall, bok, isOw, bos, svOf, back, aNext, aSeq, aIfS, aAsg, aAsgO, aName, aGTup, aGCons, aGNil, aDrop, aFrz, frz, aOfL, fI0, fI, fNeg, fPlus, fLen, fTuple, fInt, fAbs, fMax2, fMin2, fIsN, fNotN, fIsB, fNotB, isNonD, isT, aApp, aAug, aPop, aSetI, aPar, aPar3, aMIm, aMFr, svM, aList, aSl, aPart, aNoPart, aISeq, aRg1, aRg2, aYes, wipeA, mrg, noOw, still, retA, Option.map, List.map, List.getElem?_cons_zero, List.getElem?_cons_succ, List.set_cons_zero, List.set_cons_succ, List.cons_append, List.nil_append, List.replicate, List.length_cons, List.length_nil, Bool.not_true, Bool.not_false, Bool.and_true, Bool.true_and, aZipTwo, aZip3, aZip2, aZ2, seqD, aEnum, aSrt, fIxN, fInN, fLenN, aSetN, aAsgN, aDNew, aMFd, aOfN, aLenSet, aIndex, aRg3d, aDisp1, aAsgNew, fMinT, fMaxT, aPopAt, aRev]
        refine ⟨_, hat', ?_⟩
        try dsimp only [fAll, isOl, isOd, fSum, aRet, aRetN, aAndV, aOrV, aNotV, aIsi, aVar, aC, aChain, aOp, aUn, aTest, aTru, truD, aAnd, aOr, aNot, aIf, aCons, aNil, aTup, aLst, imAll, aCB, resAll, res, aCall, bok, isOw, bos, svOf, back, aNext, aSeq, aIfS, aAsg, aAsgO, aName, aGTup, aGCons, aGNil, aDrop, aFrz, frz, aOfL, fI0, fI, fNeg, fPlus, fLen, fTuple, fInt, fAbs, fMax2, fMin2, fIsN, fNotN, fIsB, fNotB, isNonD, isT, aApp, aAug, aPop, aSetI, aPar, aPar3, aMIm, aMFr, svM, aList, aSl, aPart, aNoPart, aISeq, aRg1, aRg2, aYes, wipeA, mrg, noOw, still, retA, Option.map, List.map, List.getElem?_cons_zero, List.getElem?_cons_succ, List.set_cons_zero, List.set_cons_succ, List.cons_append, List.nil_append, List.replicate, List.length_cons, List.length_nil, Bool.not_true, Bool.not_false, Bool.and_true, Bool.true_and, aZipTwo, aZip3, aZip2, aZ2, seqD, aEnum, aSrt, fIxN, fInN, fLenN, aSetN, aAsgN, aDNew, aMFd, aOfN, aLenSet, aIndex, aRg3d, aDisp1, aAsgNew, fMinT, fMaxT, aPopAt, aRev]
        refine ⟨_, hat', ?_⟩
        try dsimp only [fAll, isOl, isOd, fSum, aRet, aRetN, aAndV, aOrV, aNotV, aIsi, aVar, aC, aChain, aOp, aUn, aTest, aTru, truD, aAnd, aOr, aNot, aIf, aCons, aNil, aTup, aLst, imAll, aCB, resAll, res, aCall, bok, isOw, bos, svOf, back, aNext, aSeq, aIfS, aAsg, aAsgO, aName, aGTup, aGCons, aGNil, aDrop, aFrz, frz, aOfL, fI0, fI, fNeg, fPlus, fLen, fTuple, fInt, fAbs, fMax2, fMin2, fIsN, fNotN, fIsB, fNotB, isNonD, isT, aApp, aAug, aPop, aSetI, aPar, aPar3, aMIm, aMFr, svM, aList, aSl, aPart, aNoPart, aISeq, aRg1, aRg2, aYes, wipeA, mrg, noOw, still, retA, Option.map, List.map, List.getElem?_cons_zero, List.getElem?_cons_succ, List.set_cons_zero, List.set_cons_succ, List.cons_append, List.nil_append, List.replicate, List.length_cons, List.length_nil, Bool.not_true, Bool.not_false, Bool.and_true, Bool.true_and, aZipTwo, aZip3, aZip2, aZ2, seqD, aEnum, aSrt, fIxN, fInN, fLenN, aSetN, aAsgN, aDNew, aMFd, aOfN, aLenSet, aIndex, aRg3d, aDisp1, aAsgNew, fMinT, fMaxT, aPopAt, aRev]
        refine ⟨_, hat', ?_⟩
        try dsimp only [fAll, isOl, isOd, fSum, aRet, aRetN, aAndV, aOrV, aNotV, aIsi, aVar, aC, aChain, aOp, aUn, aTest, aTru, truD, aAnd, aOr, aNot, aIf, aCons, aNil, aTup, aLst, imAll, aCB, resAll, res, aCall, bok, isOw, bos, svOf, back, aNext, aSeq, aIfS, aAsg, aAsgO, aName, aGTup, aGCons, aGNil, aDrop, aFrz, frz, aOfL, fI0, fI, fNeg, fPlus, fLen, fTuple, fInt, fAbs, fMax2, fMin2, fIsN, fNotN, fIsB, fNotB, isNonD, isT, aApp, aAug, aPop, aSetI, aPar, aPar3, aMIm, aMFr, svM, aList, aSl, aPart, aNoPart, aISeq, aRg1, aRg2, aYes, wipeA, mrg, noOw, still, retA, Option.map, List.map, List.getElem?_cons_zero, List.getElem?_cons_succ, List.set_cons_zero, List.set_cons_succ, List.cons_append, List.nil_append, List.replicate, List.length_cons, List.length_nil, Bool.not_true, Bool.not_false, Bool.and_true, Bool.true_and, aZipTwo, aZip3, aZip2, aZ2, seqD, aEnum, aSrt, fIxN, fInN, fLenN, aSetN, aAsgN, aDNew, aMFd, aOfN, aLenSet, aIndex, aRg3d, aDisp1, aAsgNew, fMinT, fMaxT, aPopAt, aRev]
        refine ⟨by decide, Nat.le_of_ble_eq_true rfl, by decide, by decide, by decide, by decide, ?_⟩
        refine ⟨_, hat0, ?_⟩
        rw [show DL.cutD [.int p.1, .int p.2] none (some 1) = [D.int p.1] from rfl]
        refine ⟨by decide, by decide, hN _ ⟨_, fun d hd => ?_, by show 11 ≤ 1000; decide, rfl⟩⟩
        simp only [List.mem_cons, List.not_mem_nil, or_false] at hd
        rcases hd with rfl | rfl | rfl | rfl | rfl | rfl | rfl | rfl | rfl | rfl | rfl
        · exact okE_o rfl rfl
        · exact okE_o rfl rfl
        · exact okE_t rfl (Nat.le_of_ble_eq_true rfl) rfl
        · exact okE_t rfl (Nat.le_of_ble_eq_true rfl) rfl
        · exact okE_t rfl (Nat.le_of_ble_eq_true rfl) rfl
        · exact okE_t rfl (Nat.le_of_ble_eq_true rfl) rfl
        · exact okE_t rfl (Nat.le_of_ble_eq_true rfl) rfl
        · exact okE_t rfl (Nat.le_of_ble_eq_true rfl) (by decide +kernel)
        · exact okE_o rfl rfl
        · exact okE_cD _
        · exact okE_t rfl (Nat.le_of_ble_eq_true rfl) rfl
      obtain ⟨odds, hodds, lodds, rfl⟩ := h
      -- values
      refine aSeq_cut (fun ρ' => ∃ vals, (∀ d ∈ vals, okL d) ∧ vals.length ≤ 1000 ∧ ρ' = [.im (.scr ns), cupS a b, .im (.int n), .im (.int r), .im (.int c), s5, .im (.tup (csD L)), .im (.int v), s8, .im (.tup (csD es)), .im (.lst odds), .im (.lst vals), s12, .un, .un, .un, .un]) (fun N hN => ?_) (fun ρ' h => ?_)
      · have c1 : DL.cutD (csD es) none (some 1) = csD (es.take 1) := (cut_to (csD es) 1).trans (csD_take es 1)
        try dsimp only [fAll, isOl, isOd, fSum, aRet, aRetN, aAndV, aOrV, aNotV, aIsi, aVar, aC, aChain, aOp, aUn, aTest, aTru, truD, aAnd, aOr, aNot, aIf, aCons, aNil, aTup, aLst, imAll, aCB, resAll, res, aCall, bok, isOw, bos, svOf, back, aNext, aSeq, aIfS, aAsg, aAsgO, aName, aGTup, aGCons, aGNil, aDrop, aFrz, frz, aOfL, fI0, fI, fNeg, fPlus, fLen, fTuple, fInt, fAbs, fMax2, fMin2, fIsN, fNotN, fIsB, fNotB, isNonD, isT, aApp, aAug, aPop, aSetI, aPar, aPar3, aMIm, aMFr, svM, aList, aSl, aPart, aNoPart, aISeq, aRg1, aRg2, aYes, wipeA, mrg, noOw, still, retA, Option.map, List.map, List.getElem?_cons_zero, List.getElem?_cons_succ, List.set_cons_zero, List.set_cons_succ, List.cons_append, List.nil_append, List.replicate, List.length_cons, List.length_nil, Bool.not_true, Bool.not_false, Bool.and_true, Bool.true_and, aZipTwo, aZip3, aZip2, aZ2, seqD, aEnum, aSrt, fIxN, fInN, fLenN, aSetN, aAsgN, aDNew, aMFd, aOfN, aLenSet, aIndex, aRg3d, aDisp1, aAsgNew, fMinT, fMaxT, aPopAt, aRev]
        rw [c1, csD_append, csD_rev]
        refine ⟨by rw [csD_len, csD_len, List.length_take]; omega, ?_⟩
        refine ⟨rfl, Nat.zero_le _, ?_⟩
        refine ⟨_, hat, ?_⟩
        refine ⟨by decide, hN _ ⟨_, fun d hd => ?_, by show 10 ≤ 1000; decide, rfl⟩⟩
        simp only [List.mem_cons, List.not_mem_nil, or_false] at hd
        rcases hd with rfl | rfl | rfl | rfl | rfl | rfl | rfl | rfl | rfl | rfl
        · exact okL_cs (by omega)
        · exact okL_cs (by omega)
        · exact okL_cs (by rw [List.length_append, List.length_take]; omega)
        · exact okL_cs (by rw [List.length_reverse]; omega)
        · exact okL_lst (okds_csD es)
        · exact okL_tup (fun c hc => (List.not_mem_nil hc).elim) (Nat.zero_le _)
        · exact okL_o rfl rfl
        · exact okL_o rfl rfl
        · refine okL_tup (fun c hc => ?_) (Nat.le_of_ble_eq_true rfl)
          simp only [List.mem_cons, List.not_mem_nil, or_false] at hc
          rcases hc with rfl | rfl <;> exact okE_o rfl rfl
        · exact okL_o rfl rfl
      obtain ⟨vals, hvals, lvals, rfl⟩ := h
      have hG : ∀ d ∈ vals ++ odds.map (fun d => D.tup (csD (es.take v) ++ [d] ++ csD (es.drop (v + 1)))), okL d := fun d hd => by
        rcases List.mem_append.mp hd with hd | hd
        · exact hvals d hd
        · obtain ⟨o, ho, rfl⟩ := List.mem_map.mp hd
          refine okL_tup (fun c hc => ?_) ?_
          · rcases List.mem_append.mp hc with hc | hc
            · rcases List.mem_append.mp hc with hc | hc
              · exact okE_cs _ c hc
              · rw [List.mem_singleton] at hc
                subst hc
                exact hodds c ho
            · exact okE_cs _ c hc
          · rw [List.length_append, List.length_append, csD_len, csD_len, List.length_take, List.length_drop, List.length_singleton]
            omega
      refine aFor_map (vals ++ odds.map (fun d => D.tup (csD (es.take v) ++ [d] ++ csD (es.drop (v + 1))))) id (fun _ ρ' => ∃ s12, ρ' = [.im (.scr ns), cupS a b, .im (.int n), .im (.int r), .im (.int c), s5, .im (.tup (csD L)), .im (.int v), s8, .im (.tup (csD es)), .im (.lst odds), .im (.lst vals), s12, .un, .un, .un, .un]) (fun k' hk' => ?_) ⟨_, rfl⟩ (fun pre d post ρ' hx hI N3 hN3 => ?_) ?_
      · try dsimp only [fAll, isOl, isOd, fSum, aRet, aRetN, aAndV, aOrV, aNotV, aIsi, aVar, aC, aChain, aOp, aUn, aTest, aTru, truD, aAnd, aOr, aNot, aIf, aCons, aNil, aTup, aLst, imAll, aCB, resAll, res, aCall, bok, isOw, bos, svOf, back, aNext, aSeq, aIfS, aAsg, aAsgO, aName, aGTup, aGCons, aGNil, aDrop, aFrz, frz, aOfL, fI0, fI, fNeg, fPlus, fLen, fTuple, fInt, fAbs, fMax2, fMin2, fIsN, fNotN, fIsB, fNotB, isNonD, isT, aApp, aAug, aPop, aSetI, aPar, aPar3, aMIm, aMFr, svM, aList, aSl, aPart, aNoPart, aISeq, aRg1, aRg2, aYes, wipeA, mrg, noOw, still, retA, Option.map, List.map, List.getElem?_cons_zero, List.getElem?_cons_succ, List.set_cons_zero, List.set_cons_succ, List.cons_append, List.nil_append, List.replicate, List.length_cons, List.length_nil, Bool.not_true, Bool.not_false, Bool.and_true, Bool.true_and, aZipTwo, aZip3, aZip2, aZ2, seqD, aEnum, aSrt, fIxN, fInN, fLenN, aSetN, aAsgN, aDNew, aMFd, aOfN, aLenSet, aIndex, aRg3d, aDisp1, aAsgNew, fMinT, fMaxT, aPopAt, aRev]
        refine aLc_map odds (fun d => D.tup (csD (es.take v) ++ [d] ++ csD (es.drop (v + 1)))) (fun k2 hk2 => ?_) rfl (by omega) (fun d hd Wy hW => ?_) ?_
        · try dsimp only [fAll, isOl, isOd, fSum, aRet, aRetN, aAndV, aOrV, aNotV, aIsi, aVar, aC, aChain, aOp, aUn, aTest, aTru, truD, aAnd, aOr, aNot, aIf, aCons, aNil, aTup, aLst, imAll, aCB, resAll, res, aCall, bok, isOw, bos, svOf, back, aNext, aSeq, aIfS, aAsg, aAsgO, aName, aGTup, aGCons, aGNil, aDrop, aFrz, frz, aOfL, fI0, fI, fNeg, fPlus, fLen, fTuple, fInt, fAbs, fMax2, fMin2, fIsN, fNotN, fIsB, fNotB, isNonD, isT, aApp, aAug, aPop, aSetI, aPar, aPar3, aMIm, aMFr, svM, aList, aSl, aPart, aNoPart, aISeq, aRg1, aRg2, aYes, wipeA, mrg, noOw, still, retA, Option.map, List.map, List.getElem?_cons_zero, List.getElem?_cons_succ, List.set_cons_zero, List.set_cons_succ, List.cons_append, List.nil_append, List.replicate, List.length_cons, List.length_nil, Bool.not_true, Bool.not_false, Bool.and_true, Bool.true_and, aZipTwo, aZip3, aZip2, aZ2, seqD, aEnum, aSrt, fIxN, fInN, fLenN, aSetN, aAsgN, aDNew, aMFd, aOfN, aLenSet, aIndex, aRg3d, aDisp1, aAsgNew, fMinT, fMaxT, aPopAt, aRev]
          exact hk2
        · have c1 : DL.cutD (csD es) none (some (v : Int)) = csD (es.take v) := (cut_to _ _).trans (csD_take _ _)
          have c2 : DL.cutD (csD es) (some ((v : Int) + 1)) none = csD (es.drop (v + 1)) := (cut_from _ (v + 1)).trans (csD_drop _ _)
          try dsimp only [fAll, isOl, isOd, fSum, aRet, aRetN, aAndV, aOrV, aNotV, aIsi, aVar, aC, aChain, aOp, aUn, aTest, aTru, truD, aAnd, aOr, aNot, aIf, aCons, aNil, aTup, aLst, imAll, aCB, resAll, res, aCall, bok, isOw, bos, svOf, back, aNext, aSeq, aIfS, aAsg, aAsgO, aName, aGTup, aGCons, aGNil, aDrop, aFrz, frz, aOfL, fI0, fI, fNeg, fPlus, fLen, fTuple, fInt, fAbs, fMax2, fMin2, fIsN, fNotN, fIsB, fNotB, isNonD, isT, aApp, aAug, aPop, aSetI, aPar, aPar3, aMIm, aMFr, svM, aList, aSl, aPart, aNoPart, aISeq, aRg1, aRg2, aYes, wipeA, mrg, noOw, still, retA, Option.map, List.map, List.getElem?_cons_zero, List.getElem?_cons_succ, List.set_cons_zero, List.set_cons_succ, List.cons_append, List.nil_append, List.replicate, List.length_cons, List.length_nil, Bool.not_true, Bool.not_false, Bool.and_true, Bool.true_and, aZipTwo, aZip3, aZip2, aZ2, seqD, aEnum, aSrt, fIxN, fInN, fLenN, aSetN, aAsgN, aDNew, aMFd, aOfN, aLenSet, aIndex, aRg3d, aDisp1, aAsgNew, fMinT, fMaxT, aPopAt, aRev]
          rw [c1, c2]
          refine ⟨by decide, ?_, ?_, _, rfl, hW⟩
          · rw [csD_len, List.length_take]; omega
          · rw [List.length_append, csD_len, csD_len, List.length_take, List.length_drop, List.length_singleton]; omega
        · rw [List.map_id] at hk'
          try dsimp only [fAll, isOl, isOd, fSum, aRet, aRetN, aAndV, aOrV, aNotV, aIsi, aVar, aC, aChain, aOp, aUn, aTest, aTru, truD, aAnd, aOr, aNot, aIf, aCons, aNil, aTup, aLst, imAll, aCB, resAll, res, aCall, bok, isOw, bos, svOf, back, aNext, aSeq, aIfS, aAsg, aAsgO, aName, aGTup, aGCons, aGNil, aDrop, aFrz, frz, aOfL, fI0, fI, fNeg, fPlus, fLen, fTuple, fInt, fAbs, fMax2, fMin2, fIsN, fNotN, fIsB, fNotB, isNonD, isT, aApp, aAug, aPop, aSetI, aPar, aPar3, aMIm, aMFr, svM, aList, aSl, aPart, aNoPart, aISeq, aRg1, aRg2, aYes, wipeA, mrg, noOw, still, retA, Option.map, List.map, List.getElem?_cons_zero, List.getElem?_cons_succ, List.set_cons_zero, List.set_cons_succ, List.cons_append, List.nil_append, List.replicate, List.length_cons, List.length_nil, Bool.not_true, Bool.not_false, Bool.and_true, Bool.true_and, aZipTwo, aZip3, aZip2, aZ2, seqD, aEnum, aSrt, fIxN, fInN, fLenN, aSetN, aAsgN, aDNew, aMFd, aOfN, aLenSet, aIndex, aRg3d, aDisp1, aAsgNew, fMinT, fMaxT, aPopAt, aRev]
          exact ⟨by rw [List.length_map]; omega, hk'⟩
      · obtain ⟨s12, rfl⟩ := hI
        have hd : okL d := hG d (by rw [hx]; exact List.mem_append_right _ List.mem_cons_self)
        try dsimp only [fAll, isOl, isOd, fSum, aRet, aRetN, aAndV, aOrV, aNotV, aIsi, aVar, aC, aChain, aOp, aUn, aTest, aTru, truD, aAnd, aOr, aNot, aIf, aCons, aNil, aTup, aLst, imAll, aCB, resAll, res, aCall, bok, isOw, bos, svOf, back, aNext, aSeq, aIfS, aAsg, aAsgO, aName, aGTup, aGCons, aGNil, aDrop, aFrz, frz, aOfL, fI0, fI, fNeg, fPlus, fLen, fTuple, fInt, fAbs, fMax2, fMin2, fIsN, fNotN, fIsB, fNotB, isNonD, isT, aApp, aAug, aPop, aSetI, aPar, aPar3, aMIm, aMFr, svM, aList, aSl, aPart, aNoPart, aISeq, aRg1, aRg2, aYes, wipeA, mrg, noOw, still, retA, Option.map, List.map, List.getElem?_cons_zero, List.getElem?_cons_succ, List.set_cons_zero, List.set_cons_succ, List.cons_append, List.nil_append, List.replicate, List.length_cons, List.length_nil, Bool.not_true, Bool.not_false, Bool.and_true, Bool.true_and, aZipTwo, aZip3, aZip2, aZ2, seqD, aEnum, aSrt, fIxN, fInN, fLenN, aSetN, aAsgN, aDNew, aMFd, aOfN, aLenSet, aIndex, aRg3d, aDisp1, aAsgNew, fMinT, fMaxT, aPopAt, aRev]
        refine ⟨rfl, d, rfl, hd.1, ?_⟩
        try dsimp only [fAll, isOl, isOd, fSum, aRet, aRetN, aAndV, aOrV, aNotV, aIsi, aVar, aC, aChain, aOp, aUn, aTest, aTru, truD, aAnd, aOr, aNot, aIf, aCons, aNil, aTup, aLst, imAll, aCB, resAll, res, aCall, bok, isOw, bos, svOf, back, aNext, aSeq, aIfS, aAsg, aAsgO, aName, aGTup, aGCons, aGNil, aDrop, aFrz, frz, aOfL, fI0, fI, fNeg, fPlus, fLen, fTuple, fInt, fAbs, fMax2, fMin2, fIsN, fNotN, fIsB, fNotB, isNonD, isT, aApp, aAug, aPop, aSetI, aPar, aPar3, aMIm, aMFr, svM, aList, aSl, aPart, aNoPart, aISeq, aRg1, aRg2, aYes, wipeA, mrg, noOw, still, retA, Option.map, List.map, List.getElem?_cons_zero, List.getElem?_cons_succ, List.set_cons_zero, List.set_cons_succ, List.cons_append, List.nil_append, List.replicate, List.length_cons, List.length_nil, Bool.not_true, Bool.not_false, Bool.and_true, Bool.true_and, aZipTwo, aZip3, aZip2, aZ2, seqD, aEnum, aSrt, fIxN, fInN, fLenN, aSetN, aAsgN, aDNew, aMFd, aOfN, aLenSet, aIndex, aRg3d, aDisp1, aAsgNew, fMinT, fMaxT, aPopAt, aRev]
        refine ⟨rfl, d, rfl, hd, ?_⟩
        try dsimp only [fAll, isOl, isOd, fSum, aRet, aRetN, aAndV, aOrV, aNotV, aIsi, aVar, aC, aChain, aOp, aUn, aTest, aTru, truD, aAnd, aOr, aNot, aIf, aCons, aNil, aTup, aLst, imAll, aCB, resAll, res, aCall, bok, isOw, bos, svOf, back, aNext, aSeq, aIfS, aAsg, aAsgO, aName, aGTup, aGCons, aGNil, aDrop, aFrz, frz, aOfL, fI0, fI, fNeg, fPlus, fLen, fTuple, fInt, fAbs, fMax2, fMin2, fIsN, fNotN, fIsB, fNotB, isNonD, isT, aApp, aAug, aPop, aSetI, aPar, aPar3, aMIm, aMFr, svM, aList, aSl, aPart, aNoPart, aISeq, aRg1, aRg2, aYes, wipeA, mrg, noOw, still, retA, Option.map, List.map, List.getElem?_cons_zero, List.getElem?_cons_succ, List.set_cons_zero, List.set_cons_succ, List.cons_append, List.nil_append, List.replicate, List.length_cons, List.length_nil, Bool.not_true, Bool.not_false, Bool.and_true, Bool.true_and, aZipTwo, aZip3, aZip2, aZ2, seqD, aEnum, aSrt, fIxN, fInN, fLenN, aSetN, aAsgN, aDNew, aMFd, aOfN, aLenSet, aIndex, aRg3d, aDisp1, aAsgNew, fMinT, fMaxT, aPopAt, aRev]
        refine ⟨rfl, .bl (fo d), rfl, rfl, rfl, by show 0 < 6; decide, ?_⟩
        exact hN3 _ ⟨_, rfl⟩
      · rintro ρ' ⟨s12, rfl⟩
        exact hN' _ ⟨_, _, _, _, _, _, _, _, _, _, _, _, _, rfl⟩
    · rintro ρ' ⟨a, b, s2, s3, s4, s5, s6, s7, s8, s9, s10, s11, s12, rfl⟩
      exact hN _ ⟨a, b, s2, s3, s4, s5, s6, s7, s8, s9, s10, s11, s12, rfl⟩
  obtain ⟨a, b, s2, s3, s4, s5, s6, s7, s8, s9, s10, s11, s12, rfl⟩ := h
  -- many
  refine aSeq_cut (fun ρ' => ρ' = [.im (.scr ns), cupS a b, s2, s3, s4, s5, s6, s7, s8, s9, s10, s11, s12, .un, .im (.tup (csD (boxC 20 21))), .un, .un]) (fun N hN => ?_) (fun ρ' h => ?_)
  · try dsimp only [fAll, isOl, isOd, fSum, aRet, aRetN, aAndV, aOrV, aNotV, aIsi, aVar, aC, aChain, aOp, aUn, aTest, aTru, truD, aAnd, aOr, aNot, aIf, aCons, aNil, aTup, aLst, imAll, aCB, resAll, res, aCall, bok, isOw, bos, svOf, back, aNext, aSeq, aIfS, aAsg, aAsgO, aName, aGTup, aGCons, aGNil, aDrop, aFrz, frz, aOfL, fI0, fI, fNeg, fPlus, fLen, fTuple, fInt, fAbs, fMax2, fMin2, fIsN, fNotN, fIsB, fNotB, isNonD, isT, aApp, aAug, aPop, aSetI, aPar, aPar3, aMIm, aMFr, svM, aList, aSl, aPart, aNoPart, aISeq, aRg1, aRg2, aYes, wipeA, mrg, noOw, still, retA, Option.map, List.map, List.getElem?_cons_zero, List.getElem?_cons_succ, List.set_cons_zero, List.set_cons_succ, List.cons_append, List.nil_append, List.replicate, List.length_cons, List.length_nil, Bool.not_true, Bool.not_false, Bool.and_true, Bool.true_and, aZipTwo, aZip3, aZip2, aZ2, seqD, aEnum, aSrt, fIxN, fInN, fLenN, aSetN, aAsgN, aDNew, aMFd, aOfN, aLenSet, aIndex, aRg3d, aDisp1, aAsgNew, fMinT, fMaxT, aPopAt, aRev]
    refine aLc_mapM (boxC 20 21) cD cD (fun k' hk' => ?_) rfl (by rw [boxC_len]; decide) (fun c hc Wy hW => ?_) ?_
    · try dsimp only [fAll, isOl, isOd, fSum, aRet, aRetN, aAndV, aOrV, aNotV, aIsi, aVar, aC, aChain, aOp, aUn, aTest, aTru, truD, aAnd, aOr, aNot, aIf, aCons, aNil, aTup, aLst, imAll, aCB, resAll, res, aCall, bok, isOw, bos, svOf, back, aNext, aSeq, aIfS, aAsg, aAsgO, aName, aGTup, aGCons, aGNil, aDrop, aFrz, frz, aOfL, fI0, fI, fNeg, fPlus, fLen, fTuple, fInt, fAbs, fMax2, fMin2, fIsN, fNotN, fIsB, fNotB, isNonD, isT, aApp, aAug, aPop, aSetI, aPar, aPar3, aMIm, aMFr, svM, aList, aSl, aPart, aNoPart, aISeq, aRg1, aRg2, aYes, wipeA, mrg, noOw, still, retA, Option.map, List.map, List.getElem?_cons_zero, List.getElem?_cons_succ, List.set_cons_zero, List.set_cons_succ, List.cons_append, List.nil_append, List.replicate, List.length_cons, List.length_nil, Bool.not_true, Bool.not_false, Bool.and_true, Bool.true_and, aZipTwo, aZip3, aZip2, aZ2, seqD, aEnum, aSrt, fIxN, fInN, fLenN, aSetN, aAsgN, aDNew, aMFd, aOfN, aLenSet, aIndex, aRg3d, aDisp1, aAsgNew, fMinT, fMaxT, aPopAt, aRev]
      exact ⟨rfl, 20, 21, rfl, by decide, hk'⟩
    · unfold cD at hW ⊢
      try dsimp only [fAll, isOl, isOd, fSum, aRet, aRetN, aAndV, aOrV, aNotV, aIsi, aVar, aC, aChain, aOp, aUn, aTest, aTru, truD, aAnd, aOr, aNot, aIf, aCons, aNil, aTup, aLst, imAll, aCB, resAll, res, aCall, bok, isOw, bos, svOf, back, aNext, aSeq, aIfS, aAsg, aAsgO, aName, aGTup, aGCons, aGNil, aDrop, aFrz, frz, aOfL, fI0, fI, fNeg, fPlus, fLen, fTuple, fInt, fAbs, fMax2, fMin2, fIsN, fNotN, fIsB, fNotB, isNonD, isT, aApp, aAug, aPop, aSetI, aPar, aPar3, aMIm, aMFr, svM, aList, aSl, aPart, aNoPart, aISeq, aRg1, aRg2, aYes, wipeA, mrg, noOw, still, retA, Option.map, List.map, List.getElem?_cons_zero, List.getElem?_cons_succ, List.set_cons_zero, List.set_cons_succ, List.cons_append, List.nil_append, List.replicate, List.length_cons, List.length_nil, Bool.not_true, Bool.not_false, Bool.and_true, Bool.true_and, aZipTwo, aZip3, aZip2, aZ2, seqD, aEnum, aSrt, fIxN, fInN, fLenN, aSetN, aAsgN, aDNew, aMFd, aOfN, aLenSet, aIndex, aRg3d, aDisp1, aAsgNew, fMinT, fMaxT, aPopAt, aRev]
      exact ⟨rfl, rfl, by decide, _, rfl, hW⟩
    · try dsimp only [fAll, isOl, isOd, fSum, aRet, aRetN, aAndV, aOrV, aNotV, aIsi, aVar, aC, aChain, aOp, aUn, aTest, aTru, truD, aAnd, aOr, aNot, aIf, aCons, aNil, aTup, aLst, imAll, aCB, resAll, res, aCall, bok, isOw, bos, svOf, back, aNext, aSeq, aIfS, aAsg, aAsgO, aName, aGTup, aGCons, aGNil, aDrop, aFrz, frz, aOfL, fI0, fI, fNeg, fPlus, fLen, fTuple, fInt, fAbs, fMax2, fMin2, fIsN, fNotN, fIsB, fNotB, isNonD, isT, aApp, aAug, aPop, aSetI, aPar, aPar3, aMIm, aMFr, svM, aList, aSl, aPart, aNoPart, aISeq, aRg1, aRg2, aYes, wipeA, mrg, noOw, still, retA, Option.map, List.map, List.getElem?_cons_zero, List.getElem?_cons_succ, List.set_cons_zero, List.set_cons_succ, List.cons_append, List.nil_append, List.replicate, List.length_cons, List.length_nil, Bool.not_true, Bool.not_false, Bool.and_true, Bool.true_and, aZipTwo, aZip3, aZip2, aZ2, seqD, aEnum, aSrt, fIxN, fInN, fLenN, aSetN, aAsgN, aDNew, aMFd, aOfN, aLenSet, aIndex, aRg3d, aDisp1, aAsgNew, fMinT, fMaxT, aPopAt, aRev]
      exact hN _ rfl
  subst h
  generalize hbx : boxC 20 21 = B at *
  have lB : B.length = 420 := by rw [← hbx, boxC_len]; decide
  have okB : ∀ p ∈ B, okC p = true := fun p hp => by
    rw [← hbx] at hp
    have := boxC_mem.mp hp
    exact okC_iff.mpr (by omega)
  have ndB : B.Nodup := by rw [← hbx]; exact boxC_nodup 20 21
  have f1 : fo (.tup (csD (B.take 400))) = true := fo_good (fun p hp => okB p (List.mem_of_mem_take hp)) ((List.take_sublist 400 B).nodup ndB) (by rw [List.length_take]; omega) (by rw [List.length_take]; omega)
  have f2 : fo (.tup (csD (B.take 401))) = false := by
    rw [fo_cs fun p hp => okB p (List.mem_of_mem_take hp), show decide ((B.take 401).length ≤ 400) = false from decide_eq_false (by rw [List.length_take]; omega), Bool.and_false, Bool.false_and]
  have r1 : ordX "rows" 60 1 = boxC 60 1 := by
    unfold ordX
    rw [if_neg (by decide)]
    exact ordC_rows 60 1
  have r2 : ordX "snake" 1 60 = boxC 1 60 := by
    unfold ordX
    rw [if_neg (by decide), snake_eq (by decide)]
    decide +kernel
  have r3 : (csD (ordX "spiral" 20 20)).length = 400 := by
    have := ordX_len (x := "spiral") (r := 20) (c := 20) (by decide)
    rw [csD_len]
    omega
  have t1 : DL.cutD (csD B) none (some 400) = csD (B.take 400) := (cut_to _ 400).trans (csD_take _ _)
  have t2 : DL.cutD (csD B) none (some 401) = csD (B.take 401) := (cut_to _ 401).trans (csD_take _ _)
  refine aSeq_cut (fun ρ' => ρ' = [.im (.scr ns), cupS a b, s2, s3, s4, s5, s6, s7, .im (.tup [.tup (csD (boxC 60 1)), .tup (csD (boxC 1 60)), .int 400, .bl true, .bl false]), s9, s10, s11, s12, .un, .im (.tup (csD B)), .un, .un]) (fun N hN => ?_) (fun ρ' h => ?_)
  · try dsimp only [fAll, isOl, isOd, fSum, aRet, aRetN, aAndV, aOrV, aNotV, aIsi, aVar, aC, aChain, aOp, aUn, aTest, aTru, truD, aAnd, aOr, aNot, aIf, aCons, aNil, aTup, aLst, imAll, aCB, resAll, res, aCall, bok, isOw, bos, svOf, back, aNext, aSeq, aIfS, aAsg, aAsgO, aName, aGTup, aGCons, aGNil, aDrop, aFrz, frz, aOfL, fI0, fI, fNeg, fPlus, fLen, fTuple, fInt, fAbs, fMax2, fMin2, fIsN, fNotN, fIsB, fNotB, isNonD, isT, aApp, aAug, aPop, aSetI, aPar, aPar3, aMIm, aMFr, svM, aList, aSl, aPart, aNoPart, aISeq, aRg1, aRg2, aYes, wipeA, mrg, noOw, still, retA, Option.map, List.map, List.getElem?_cons_zero, List.getElem?_cons_succ, List.set_cons_zero, List.set_cons_succ, List.cons_append, List.nil_append, List.replicate, List.length_cons, List.length_nil, Bool.not_true, Bool.not_false, Bool.and_true, Bool.true_and, aZipTwo, aZip3, aZip2, aZ2, seqD, aEnum, aSrt, fIxN, fInN, fLenN, aSetN, aAsgN, aDNew, aMFd, aOfN, aLenSet, aIndex, aRg3d, aDisp1, aAsgNew, fMinT, fMaxT, aPopAt, aRev]
    refine ⟨rfl, "rows", 60, 1, rfl, by decide, by decide, ?_⟩
    try dsimp only [fAll, isOl, isOd, fSum, aRet, aRetN, aAndV, aOrV, aNotV, aIsi, aVar, aC, aChain, aOp, aUn, aTest, aTru, truD, aAnd, aOr, aNot, aIf, aCons, aNil, aTup, aLst, imAll, aCB, resAll, res, aCall, bok, isOw, bos, svOf, back, aNext, aSeq, aIfS, aAsg, aAsgO, aName, aGTup, aGCons, aGNil, aDrop, aFrz, frz, aOfL, fI0, fI, fNeg, fPlus, fLen, fTuple, fInt, fAbs, fMax2, fMin2, fIsN, fNotN, fIsB, fNotB, isNonD, isT, aApp, aAug, aPop, aSetI, aPar, aPar3, aMIm, aMFr, svM, aList, aSl, aPart, aNoPart, aISeq, aRg1, aRg2, aYes, wipeA, mrg, noOw, still, retA, Option.map, List.map, List.getElem?_cons_zero, List.getElem?_cons_succ, List.set_cons_zero, List.set_cons_succ, List.cons_append, List.nil_append, List.replicate, List.length_cons, List.length_nil, Bool.not_true, Bool.not_false, Bool.and_true, Bool.true_and, aZipTwo, aZip3, aZip2, aZ2, seqD, aEnum, aSrt, fIxN, fInN, fLenN, aSetN, aAsgN, aDNew, aMFd, aOfN, aLenSet, aIndex, aRg3d, aDisp1, aAsgNew, fMinT, fMaxT, aPopAt, aRev]
    refine ⟨rfl, "snake", 1, 60, rfl, by decide, by decide, ?_⟩
    try dsimp only [fAll, isOl, isOd, fSum, aRet, aRetN, aAndV, aOrV, aNotV, aIsi, aVar, aC, aChain, aOp, aUn, aTest, aTru, truD, aAnd, aOr, aNot, aIf, aCons, aNil, aTup, aLst, imAll, aCB, resAll, res, aCall, bok, isOw, bos, svOf, back, aNext, aSeq, aIfS, aAsg, aAsgO, aName, aGTup, aGCons, aGNil, aDrop, aFrz, frz, aOfL, fI0, fI, fNeg, fPlus, fLen, fTuple, fInt, fAbs, fMax2, fMin2, fIsN, fNotN, fIsB, fNotB, isNonD, isT, aApp, aAug, aPop, aSetI, aPar, aPar3, aMIm, aMFr, svM, aList, aSl, aPart, aNoPart, aISeq, aRg1, aRg2, aYes, wipeA, mrg, noOw, still, retA, Option.map, List.map, List.getElem?_cons_zero, List.getElem?_cons_succ, List.set_cons_zero, List.set_cons_succ, List.cons_append, List.nil_append, List.replicate, List.length_cons, List.length_nil, Bool.not_true, Bool.not_false, Bool.and_true, Bool.true_and, aZipTwo, aZip3, aZip2, aZ2, seqD, aEnum, aSrt, fIxN, fInN, fLenN, aSetN, aAsgN, aDNew, aMFd, aOfN, aLenSet, aIndex, aRg3d, aDisp1, aAsgNew, fMinT, fMaxT, aPopAt, aRev]
    refine ⟨rfl, "spiral", 20, 20, rfl, by decide, by decide, ?_⟩
    try dsimp only [fAll, isOl, isOd, fSum, aRet, aRetN, aAndV, aOrV, aNotV, aIsi, aVar, aC, aChain, aOp, aUn, aTest, aTru, truD, aAnd, aOr, aNot, aIf, aCons, aNil, aTup, aLst, imAll, aCB, resAll, res, aCall, bok, isOw, bos, svOf, back, aNext, aSeq, aIfS, aAsg, aAsgO, aName, aGTup, aGCons, aGNil, aDrop, aFrz, frz, aOfL, fI0, fI, fNeg, fPlus, fLen, fTuple, fInt, fAbs, fMax2, fMin2, fIsN, fNotN, fIsB, fNotB, isNonD, isT, aApp, aAug, aPop, aSetI, aPar, aPar3, aMIm, aMFr, svM, aList, aSl, aPart, aNoPart, aISeq, aRg1, aRg2, aYes, wipeA, mrg, noOw, still, retA, Option.map, List.map, List.getElem?_cons_zero, List.getElem?_cons_succ, List.set_cons_zero, List.set_cons_succ, List.cons_append, List.nil_append, List.replicate, List.length_cons, List.length_nil, Bool.not_true, Bool.not_false, Bool.and_true, Bool.true_and, aZipTwo, aZip3, aZip2, aZ2, seqD, aEnum, aSrt, fIxN, fInN, fLenN, aSetN, aAsgN, aDNew, aMFd, aOfN, aLenSet, aIndex, aRg3d, aDisp1, aAsgNew, fMinT, fMaxT, aPopAt, aRev]
    rw [t1]
    refine ⟨rfl, _, rfl, okO_cs (by rw [List.length_take]; omega), ?_⟩
    try dsimp only [fAll, isOl, isOd, fSum, aRet, aRetN, aAndV, aOrV, aNotV, aIsi, aVar, aC, aChain, aOp, aUn, aTest, aTru, truD, aAnd, aOr, aNot, aIf, aCons, aNil, aTup, aLst, imAll, aCB, resAll, res, aCall, bok, isOw, bos, svOf, back, aNext, aSeq, aIfS, aAsg, aAsgO, aName, aGTup, aGCons, aGNil, aDrop, aFrz, frz, aOfL, fI0, fI, fNeg, fPlus, fLen, fTuple, fInt, fAbs, fMax2, fMin2, fIsN, fNotN, fIsB, fNotB, isNonD, isT, aApp, aAug, aPop, aSetI, aPar, aPar3, aMIm, aMFr, svM, aList, aSl, aPart, aNoPart, aISeq, aRg1, aRg2, aYes, wipeA, mrg, noOw, still, retA, Option.map, List.map, List.getElem?_cons_zero, List.getElem?_cons_succ, List.set_cons_zero, List.set_cons_succ, List.cons_append, List.nil_append, List.replicate, List.length_cons, List.length_nil, Bool.not_true, Bool.not_false, Bool.and_true, Bool.true_and, aZipTwo, aZip3, aZip2, aZ2, seqD, aEnum, aSrt, fIxN, fInN, fLenN, aSetN, aAsgN, aDNew, aMFd, aOfN, aLenSet, aIndex, aRg3d, aDisp1, aAsgNew, fMinT, fMaxT, aPopAt, aRev]
    rw [t2]
    refine ⟨rfl, _, rfl, okO_cs (by rw [List.length_take]; omega), ?_⟩
    try dsimp only [fAll, isOl, isOd, fSum, aRet, aRetN, aAndV, aOrV, aNotV, aIsi, aVar, aC, aChain, aOp, aUn, aTest, aTru, truD, aAnd, aOr, aNot, aIf, aCons, aNil, aTup, aLst, imAll, aCB, resAll, res, aCall, bok, isOw, bos, svOf, back, aNext, aSeq, aIfS, aAsg, aAsgO, aName, aGTup, aGCons, aGNil, aDrop, aFrz, frz, aOfL, fI0, fI, fNeg, fPlus, fLen, fTuple, fInt, fAbs, fMax2, fMin2, fIsN, fNotN, fIsB, fNotB, isNonD, isT, aApp, aAug, aPop, aSetI, aPar, aPar3, aMIm, aMFr, svM, aList, aSl, aPart, aNoPart, aISeq, aRg1, aRg2, aYes, wipeA, mrg, noOw, still, retA, Option.map, List.map, List.getElem?_cons_zero, List.getElem?_cons_succ, List.set_cons_zero, List.set_cons_succ, List.cons_append, List.nil_append, List.replicate, List.length_cons, List.length_nil, Bool.not_true, Bool.not_false, Bool.and_true, Bool.true_and, aZipTwo, aZip3, aZip2, aZ2, seqD, aEnum, aSrt, fIxN, fInN, fLenN, aSetN, aAsgN, aDNew, aMFd, aOfN, aLenSet, aIndex, aRg3d, aDisp1, aAsgNew, fMinT, fMaxT, aPopAt, aRev]
    rw [f1, f2, r1, r2, r3]
    exact ⟨by decide, hN _ rfl⟩
  subst h
  have n1 := nice_tup (l := boxC 60 1) (by rw [boxC_len]; decide)
  have n2 := nice_tup (l := boxC 1 60) (by rw [boxC_len]; decide)
  generalize hX1 : boxC 60 1 = X1 at *
  generalize hX2 : boxC 1 60 = X2 at *
  try dsimp only [fAll, isOl, isOd, fSum, aRet, aRetN, aAndV, aOrV, aNotV, aIsi, aVar, aC, aChain, aOp, aUn, aTest, aTru, truD, aAnd, aOr, aNot, aIf, aCons, aNil, aTup, aLst, imAll, aCB, resAll, res, aCall, bok, isOw, bos, svOf, back, aNext, aSeq, aIfS, aAsg, aAsgO, aName, aGTup, aGCons, aGNil, aDrop, aFrz, frz, aOfL, fI0, fI, fNeg, fPlus, fLen, fTuple, fInt, fAbs, fMax2, fMin2, fIsN, fNotN, fIsB, fNotB, isNonD, isT, aApp, aAug, aPop, aSetI, aPar, aPar3, aMIm, aMFr, svM, aList, aSl, aPart, aNoPart, aISeq, aRg1, aRg2, aYes, wipeA, mrg, noOw, still, retA, Option.map, List.map, List.getElem?_cons_zero, List.getElem?_cons_succ, List.set_cons_zero, List.set_cons_succ, List.cons_append, List.nil_append, List.replicate, List.length_cons, List.length_nil, Bool.not_true, Bool.not_false, Bool.and_true, Bool.true_and, aZipTwo, aZip3, aZip2, aZ2, seqD, aEnum, aSrt, fIxN, fInN, fLenN, aSetN, aAsgN, aDNew, aMFd, aOfN, aLenSet, aIndex, aRg3d, aDisp1, aAsgNew, fMinT, fMaxT, aPopAt, aRev]
  refine ⟨rfl, 60, 1, rfl, by decide, ?_⟩
  rw [hX1]
  try dsimp only [fAll, isOl, isOd, fSum, aRet, aRetN, aAndV, aOrV, aNotV, aIsi, aVar, aC, aChain, aOp, aUn, aTest, aTru, truD, aAnd, aOr, aNot, aIf, aCons, aNil, aTup, aLst, imAll, aCB, resAll, res, aCall, bok, isOw, bos, svOf, back, aNext, aSeq, aIfS, aAsg, aAsgO, aName, aGTup, aGCons, aGNil, aDrop, aFrz, frz, aOfL, fI0, fI, fNeg, fPlus, fLen, fTuple, fInt, fAbs, fMax2, fMin2, fIsN, fNotN, fIsB, fNotB, isNonD, isT, aApp, aAug, aPop, aSetI, aPar, aPar3, aMIm, aMFr, svM, aList, aSl, aPart, aNoPart, aISeq, aRg1, aRg2, aYes, wipeA, mrg, noOw, still, retA, Option.map, List.map, List.getElem?_cons_zero, List.getElem?_cons_succ, List.set_cons_zero, List.set_cons_succ, List.cons_append, List.nil_append, List.replicate, List.length_cons, List.length_nil, Bool.not_true, Bool.not_false, Bool.and_true, Bool.true_and, aZipTwo, aZip3, aZip2, aZ2, seqD, aEnum, aSrt, fIxN, fInN, fLenN, aSetN, aAsgN, aDNew, aMFd, aOfN, aLenSet, aIndex, aRg3d, aDisp1, aAsgNew, fMinT, fMaxT, aPopAt, aRev]
  refine ⟨rfl, 1, 60, rfl, by decide, ?_⟩
  rw [hX2]
  try dsimp only [fAll, isOl, isOd, fSum, aRet, aRetN, aAndV, aOrV, aNotV, aIsi, aVar, aC, aChain, aOp, aUn, aTest, aTru, truD, aAnd, aOr, aNot, aIf, aCons, aNil, aTup, aLst, imAll, aCB, resAll, res, aCall, bok, isOw, bos, svOf, back, aNext, aSeq, aIfS, aAsg, aAsgO, aName, aGTup, aGCons, aGNil, aDrop, aFrz, frz, aOfL, fI0, fI, fNeg, fPlus, fLen, fTuple, fInt, fAbs, fMax2, fMin2, fIsN, fNotN, fIsB, fNotB, isNonD, isT, aApp, aAug, aPop, aSetI, aPar, aPar3, aMIm, aMFr, svM, aList, aSl, aPart, aNoPart, aISeq, aRg1, aRg2, aYes, wipeA, mrg, noOw, still, retA, Option.map, List.map, List.getElem?_cons_zero, List.getElem?_cons_succ, List.set_cons_zero, List.set_cons_succ, List.cons_append, List.nil_append, List.replicate, List.length_cons, List.length_nil, Bool.not_true, Bool.not_false, Bool.and_true, Bool.true_and, aZipTwo, aZip3, aZip2, aZ2, seqD, aEnum, aSrt, fIxN, fInN, fLenN, aSetN, aAsgN, aDNew, aMFd, aOfN, aLenSet, aIndex, aRg3d, aDisp1, aAsgNew, fMinT, fMaxT, aPopAt, aRev]
  refine ⟨by decide, rfl, _, rfl, ?_, ?_, ?_, ?_⟩
  · unfold numd numds numds numds numds numds numds
    rw [n1.1, n2.1]; rfl
  · unfold small smalls smalls smalls smalls smalls smalls
    rw [n1.2.1, n2.2.1]; rfl
  · unfold deep deeps deeps deeps deeps deeps deeps
    have d1 := n1.2.2
    have d2 := n2.2.2
    unfold deep at d1 d2 ⊢
    omega
  · exact ⟨rfl, hk⟩
end
end K89

namespace K89
open PySem PySem.Spec L2 DL
open PyProof.Rows hiding St
theorem hereFitsWhole {K : PySem.W.Frag} {h : Heap} {mg : Str → Option Value} {f : Addr} {od an : Option Addr} {sl : Array (Option Value)} {oc kV dc pm cd ct : Value} (X : K.In h) (G : h.Ns mainGlobals mg) (a : PySem.W.nsIn K mainGlobals "fits_whole" = some (some (.ref f)))
    (l : K.lookup f = some ⟨oc, od, .func (PySem.W.fnOf "fits_whole" "fits_whole" (defArgs sFitsWhole) (defBody sFitsWhole) (defScope sFitsWhole) .none kV dc pm an cd ct), sl⟩) (c : PySem.W.codeIn K cd "fits_whole" = true) (k : PySem.W.keepIn K (.ref f) = true) : Here K mg "fits_whole" sFitsWhole ["value", "low", "high"] :=
  ⟨_, _, fun_mk (st := sFitsWhole) l c k, PySem.W.mg_of X G a, (fun_mk (st := sFitsWhole) l c k).binds (ps := ["value", "low", "high"]) fun _ _ _ _ _ _ us hl => match us, hl with | [_, _, _], _ => rfl⟩
theorem hereIsTupleOf {K : PySem.W.Frag} {h : Heap} {mg : Str → Option Value} {f : Addr} {od an : Option Addr} {sl : Array (Option Value)} {oc kV dc pm cd ct : Value} (X : K.In h) (G : h.Ns mainGlobals mg) (a : PySem.W.nsIn K mainGlobals "is_tuple_of" = some (some (.ref f)))
    (l : K.lookup f = some ⟨oc, od, .func (PySem.W.fnOf "is_tuple_of" "is_tuple_of" (defArgs sIsTupleOf) (defBody sIsTupleOf) (defScope sIsTupleOf) .none kV dc pm an cd ct), sl⟩) (c : PySem.W.codeIn K cd "is_tuple_of" = true) (k : PySem.W.keepIn K (.ref f) = true) : Here K mg "is_tuple_of" sIsTupleOf ["value", "least", "most"] :=
  ⟨_, _, fun_mk (st := sIsTupleOf) l c k, PySem.W.mg_of X G a, (fun_mk (st := sIsTupleOf) l c k).binds (ps := ["value", "least", "most"]) fun _ _ _ _ _ _ us hl => match us, hl with | [_, _, _], _ => rfl⟩
theorem hereFitsCell {K : PySem.W.Frag} {h : Heap} {mg : Str → Option Value} {f : Addr} {od an : Option Addr} {sl : Array (Option Value)} {oc kV dc pm cd ct : Value} (X : K.In h) (G : h.Ns mainGlobals mg) (a : PySem.W.nsIn K mainGlobals "fits_cell" = some (some (.ref f)))
    (l : K.lookup f = some ⟨oc, od, .func (PySem.W.fnOf "fits_cell" "fits_cell" (defArgs sFitsCell) (defBody sFitsCell) (defScope sFitsCell) .none kV dc pm an cd ct), sl⟩) (c : PySem.W.codeIn K cd "fits_cell" = true) (k : PySem.W.keepIn K (.ref f) = true) : Here K mg "fits_cell" sFitsCell ["value"] :=
  ⟨_, _, fun_mk (st := sFitsCell) l c k, PySem.W.mg_of X G a, (fun_mk (st := sFitsCell) l c k).binds (ps := ["value"]) fun _ _ _ _ _ _ us hl => match us, hl with | [_], _ => rfl⟩
theorem hereBoxCells {K : PySem.W.Frag} {h : Heap} {mg : Str → Option Value} {f : Addr} {od an : Option Addr} {sl : Array (Option Value)} {oc kV dc pm cd ct : Value} (X : K.In h) (G : h.Ns mainGlobals mg) (a : PySem.W.nsIn K mainGlobals "box_cells" = some (some (.ref f)))
    (l : K.lookup f = some ⟨oc, od, .func (PySem.W.fnOf "box_cells" "box_cells" (defArgs sBoxCells) (defBody sBoxCells) (defScope sBoxCells) .none kV dc pm an cd ct), sl⟩) (c : PySem.W.codeIn K cd "box_cells" = true) (k : PySem.W.keepIn K (.ref f) = true) : Here K mg "box_cells" sBoxCells ["rows", "columns"] :=
  ⟨_, _, fun_mk (st := sBoxCells) l c k, PySem.W.mg_of X G a, (fun_mk (st := sBoxCells) l c k).binds (ps := ["rows", "columns"]) fun _ _ _ _ _ _ us hl => match us, hl with | [_, _], _ => rfl⟩
theorem hereRowKey {K : PySem.W.Frag} {h : Heap} {mg : Str → Option Value} {f : Addr} {od an : Option Addr} {sl : Array (Option Value)} {oc kV dc pm cd ct : Value} (X : K.In h) (G : h.Ns mainGlobals mg) (a : PySem.W.nsIn K mainGlobals "row_key" = some (some (.ref f)))
    (l : K.lookup f = some ⟨oc, od, .func (PySem.W.fnOf "row_key" "row_key" (defArgs sRowKey) (defBody sRowKey) (defScope sRowKey) .none kV dc pm an cd ct), sl⟩) (c : PySem.W.codeIn K cd "row_key" = true) (k : PySem.W.keepIn K (.ref f) = true) : Here K mg "row_key" sRowKey ["cell"] :=
  ⟨_, _, fun_mk (st := sRowKey) l c k, PySem.W.mg_of X G a, (fun_mk (st := sRowKey) l c k).binds (ps := ["cell"]) fun _ _ _ _ _ _ us hl => match us, hl with | [_], _ => rfl⟩
theorem hereSnakeKey {K : PySem.W.Frag} {h : Heap} {mg : Str → Option Value} {f : Addr} {od an : Option Addr} {sl : Array (Option Value)} {oc kV dc pm cd ct : Value} (X : K.In h) (G : h.Ns mainGlobals mg) (a : PySem.W.nsIn K mainGlobals "snake_key" = some (some (.ref f)))
    (l : K.lookup f = some ⟨oc, od, .func (PySem.W.fnOf "snake_key" "snake_key" (defArgs sSnakeKey) (defBody sSnakeKey) (defScope sSnakeKey) .none kV dc pm an cd ct), sl⟩) (c : PySem.W.codeIn K cd "snake_key" = true) (k : PySem.W.keepIn K (.ref f) = true) : Here K mg "snake_key" sSnakeKey ["cell"] :=
  ⟨_, _, fun_mk (st := sSnakeKey) l c k, PySem.W.mg_of X G a, (fun_mk (st := sSnakeKey) l c k).binds (ps := ["cell"]) fun _ _ _ _ _ _ us hl => match us, hl with | [_], _ => rfl⟩
theorem hereDiagonalKey {K : PySem.W.Frag} {h : Heap} {mg : Str → Option Value} {f : Addr} {od an : Option Addr} {sl : Array (Option Value)} {oc kV dc pm cd ct : Value} (X : K.In h) (G : h.Ns mainGlobals mg) (a : PySem.W.nsIn K mainGlobals "diagonal_key" = some (some (.ref f)))
    (l : K.lookup f = some ⟨oc, od, .func (PySem.W.fnOf "diagonal_key" "diagonal_key" (defArgs sDiagonalKey) (defBody sDiagonalKey) (defScope sDiagonalKey) .none kV dc pm an cd ct), sl⟩) (c : PySem.W.codeIn K cd "diagonal_key" = true) (k : PySem.W.keepIn K (.ref f) = true) : Here K mg "diagonal_key" sDiagonalKey ["cell"] :=
  ⟨_, _, fun_mk (st := sDiagonalKey) l c k, PySem.W.mg_of X G a, (fun_mk (st := sDiagonalKey) l c k).binds (ps := ["cell"]) fun _ _ _ _ _ _ us hl => match us, hl with | [_], _ => rfl⟩
theorem hereSpiralIn {K : PySem.W.Frag} {h : Heap} {mg : Str → Option Value} {f : Addr} {od an : Option Addr} {sl : Array (Option Value)} {oc kV dc pm cd ct : Value} (X : K.In h) (G : h.Ns mainGlobals mg) (a : PySem.W.nsIn K mainGlobals "spiral_in" = some (some (.ref f)))
    (l : K.lookup f = some ⟨oc, od, .func (PySem.W.fnOf "spiral_in" "spiral_in" (defArgs sSpiralIn) (defBody sSpiralIn) (defScope sSpiralIn) .none kV dc pm an cd ct), sl⟩) (c : PySem.W.codeIn K cd "spiral_in" = true) (k : PySem.W.keepIn K (.ref f) = true) : Here K mg "spiral_in" sSpiralIn ["rows", "columns"] :=
  ⟨_, _, fun_mk (st := sSpiralIn) l c k, PySem.W.mg_of X G a, (fun_mk (st := sSpiralIn) l c k).binds (ps := ["rows", "columns"]) fun _ _ _ _ _ _ us hl => match us, hl with | [_, _], _ => rfl⟩
theorem hereOrderIn {K : PySem.W.Frag} {h : Heap} {mg : Str → Option Value} {f : Addr} {od an : Option Addr} {sl : Array (Option Value)} {oc kV dc pm cd ct : Value} (X : K.In h) (G : h.Ns mainGlobals mg) (a : PySem.W.nsIn K mainGlobals "order_in" = some (some (.ref f)))
    (l : K.lookup f = some ⟨oc, od, .func (PySem.W.fnOf "order_in" "order_in" (defArgs sOrderIn) (defBody sOrderIn) (defScope sOrderIn) .none kV dc pm an cd ct), sl⟩) (c : PySem.W.codeIn K cd "order_in" = true) (k : PySem.W.keepIn K (.ref f) = true) : Here K mg "order_in" sOrderIn ["kind", "rows", "columns"] :=
  ⟨_, _, fun_mk (st := sOrderIn) l c k, PySem.W.mg_of X G a, (fun_mk (st := sOrderIn) l c k).binds (ps := ["kind", "rows", "columns"]) fun _ _ _ _ _ _ us hl => match us, hl with | [_, _, _], _ => rfl⟩
theorem hereFitsOrder {K : PySem.W.Frag} {h : Heap} {mg : Str → Option Value} {f : Addr} {od an : Option Addr} {sl : Array (Option Value)} {oc kV dc pm cd ct : Value} (X : K.In h) (G : h.Ns mainGlobals mg) (a : PySem.W.nsIn K mainGlobals "fits_order" = some (some (.ref f)))
    (l : K.lookup f = some ⟨oc, od, .func (PySem.W.fnOf "fits_order" "fits_order" (defArgs sFitsOrder) (defBody sFitsOrder) (defScope sFitsOrder) .none kV dc pm an cd ct), sl⟩) (c : PySem.W.codeIn K cd "fits_order" = true) (k : PySem.W.keepIn K (.ref f) = true) : Here K mg "fits_order" sFitsOrder ["value"] :=
  ⟨_, _, fun_mk (st := sFitsOrder) l c k, PySem.W.mg_of X G a, (fun_mk (st := sFitsOrder) l c k).binds (ps := ["value"]) fun _ _ _ _ _ _ us hl => match us, hl with | [_], _ => rfl⟩
theorem hereNeedOrder {K : PySem.W.Frag} {h : Heap} {mg : Str → Option Value} {f : Addr} {od an : Option Addr} {sl : Array (Option Value)} {oc kV dc pm cd ct : Value} (X : K.In h) (G : h.Ns mainGlobals mg) (a : PySem.W.nsIn K mainGlobals "need_order" = some (some (.ref f)))
    (l : K.lookup f = some ⟨oc, od, .func (PySem.W.fnOf "need_order" "need_order" (defArgs sNeedOrder) (defBody sNeedOrder) (defScope sNeedOrder) .none kV dc pm an cd ct), sl⟩) (c : PySem.W.codeIn K cd "need_order" = true) (k : PySem.W.keepIn K (.ref f) = true) : Here K mg "need_order" sNeedOrder ["order"] :=
  ⟨_, _, fun_mk (st := sNeedOrder) l c k, PySem.W.mg_of X G a, (fun_mk (st := sNeedOrder) l c k).binds (ps := ["order"]) fun _ _ _ _ _ _ us hl => match us, hl with | [_], _ => rfl⟩
theorem hereNeedBox {K : PySem.W.Frag} {h : Heap} {mg : Str → Option Value} {f : Addr} {od an : Option Addr} {sl : Array (Option Value)} {oc kV dc pm cd ct : Value} (X : K.In h) (G : h.Ns mainGlobals mg) (a : PySem.W.nsIn K mainGlobals "need_box" = some (some (.ref f)))
    (l : K.lookup f = some ⟨oc, od, .func (PySem.W.fnOf "need_box" "need_box" (defArgs sNeedBox) (defBody sNeedBox) (defScope sNeedBox) .none kV dc pm an cd ct), sl⟩) (c : PySem.W.codeIn K cd "need_box" = true) (k : PySem.W.keepIn K (.ref f) = true) : Here K mg "need_box" sNeedBox ["kind", "rows", "columns"] :=
  ⟨_, _, fun_mk (st := sNeedBox) l c k, PySem.W.mg_of X G a, (fun_mk (st := sNeedBox) l c k).binds (ps := ["kind", "rows", "columns"]) fun _ _ _ _ _ _ us hl => match us, hl with | [_, _, _], _ => rfl⟩
theorem hereStepsBetween {K : PySem.W.Frag} {h : Heap} {mg : Str → Option Value} {f : Addr} {od an : Option Addr} {sl : Array (Option Value)} {oc kV dc pm cd ct : Value} (X : K.In h) (G : h.Ns mainGlobals mg) (a : PySem.W.nsIn K mainGlobals "steps_between" = some (some (.ref f)))
    (l : K.lookup f = some ⟨oc, od, .func (PySem.W.fnOf "steps_between" "steps_between" (defArgs sStepsBetween) (defBody sStepsBetween) (defScope sStepsBetween) .none kV dc pm an cd ct), sl⟩) (c : PySem.W.codeIn K cd "steps_between" = true) (k : PySem.W.keepIn K (.ref f) = true) : Here K mg "steps_between" sStepsBetween ["one", "other"] :=
  ⟨_, _, fun_mk (st := sStepsBetween) l c k, PySem.W.mg_of X G a, (fun_mk (st := sStepsBetween) l c k).binds (ps := ["one", "other"]) fun _ _ _ _ _ _ us hl => match us, hl with | [_, _], _ => rfl⟩
theorem hereIsOrder {K : PySem.W.Frag} {h : Heap} {mg : Str → Option Value} {f : Addr} {od an : Option Addr} {sl : Array (Option Value)} {oc kV dc pm cd ct : Value} (X : K.In h) (G : h.Ns mainGlobals mg) (a : PySem.W.nsIn K mainGlobals "is_order" = some (some (.ref f)))
    (l : K.lookup f = some ⟨oc, od, .func (PySem.W.fnOf "is_order" "is_order" (defArgs sIsOrder) (defBody sIsOrder) (defScope sIsOrder) .none kV dc pm an cd ct), sl⟩) (c : PySem.W.codeIn K cd "is_order" = true) (k : PySem.W.keepIn K (.ref f) = true) : Here K mg "is_order" sIsOrder ["value"] :=
  ⟨_, _, fun_mk (st := sIsOrder) l c k, PySem.W.mg_of X G a, (fun_mk (st := sIsOrder) l c k).binds (ps := ["value"]) fun _ _ _ _ _ _ us hl => match us, hl with | [_], _ => rfl⟩
theorem hereBoxOrder {K : PySem.W.Frag} {h : Heap} {mg : Str → Option Value} {f : Addr} {od an : Option Addr} {sl : Array (Option Value)} {oc kV dc pm cd ct : Value} (X : K.In h) (G : h.Ns mainGlobals mg) (a : PySem.W.nsIn K mainGlobals "box_order" = some (some (.ref f)))
    (l : K.lookup f = some ⟨oc, od, .func (PySem.W.fnOf "box_order" "box_order" (defArgs sBoxOrder) (defBody sBoxOrder) (defScope sBoxOrder) .none kV dc pm an cd ct), sl⟩) (c : PySem.W.codeIn K cd "box_order" = true) (k : PySem.W.keepIn K (.ref f) = true) : Here K mg "box_order" sBoxOrder ["kind", "rows", "columns"] :=
  ⟨_, _, fun_mk (st := sBoxOrder) l c k, PySem.W.mg_of X G a, (fun_mk (st := sBoxOrder) l c k).binds (ps := ["kind", "rows", "columns"]) fun _ _ _ _ _ _ us hl => match us, hl with | [_, _, _], _ => rfl⟩
theorem herePlaceInBox {K : PySem.W.Frag} {h : Heap} {mg : Str → Option Value} {f : Addr} {od an : Option Addr} {sl : Array (Option Value)} {oc kV dc pm cd ct : Value} (X : K.In h) (G : h.Ns mainGlobals mg) (a : PySem.W.nsIn K mainGlobals "place_in_box" = some (some (.ref f)))
    (l : K.lookup f = some ⟨oc, od, .func (PySem.W.fnOf "place_in_box" "place_in_box" (defArgs sPlaceInBox) (defBody sPlaceInBox) (defScope sPlaceInBox) .none kV dc pm an cd ct), sl⟩) (c : PySem.W.codeIn K cd "place_in_box" = true) (k : PySem.W.keepIn K (.ref f) = true) : Here K mg "place_in_box" sPlaceInBox ["kind", "rows", "columns", "cell"] :=
  ⟨_, _, fun_mk (st := sPlaceInBox) l c k, PySem.W.mg_of X G a, (fun_mk (st := sPlaceInBox) l c k).binds (ps := ["kind", "rows", "columns", "cell"]) fun _ _ _ _ _ _ us hl => match us, hl with | [_, _, _, _], _ => rfl⟩
theorem hereIsWalk {K : PySem.W.Frag} {h : Heap} {mg : Str → Option Value} {f : Addr} {od an : Option Addr} {sl : Array (Option Value)} {oc kV dc pm cd ct : Value} (X : K.In h) (G : h.Ns mainGlobals mg) (a : PySem.W.nsIn K mainGlobals "is_walk" = some (some (.ref f)))
    (l : K.lookup f = some ⟨oc, od, .func (PySem.W.fnOf "is_walk" "is_walk" (defArgs sIsWalk) (defBody sIsWalk) (defScope sIsWalk) .none kV dc pm an cd ct), sl⟩) (c : PySem.W.codeIn K cd "is_walk" = true) (k : PySem.W.keepIn K (.ref f) = true) : Here K mg "is_walk" sIsWalk ["order"] :=
  ⟨_, _, fun_mk (st := sIsWalk) l c k, PySem.W.mg_of X G a, (fun_mk (st := sIsWalk) l c k).binds (ps := ["order"]) fun _ _ _ _ _ _ us hl => match us, hl with | [_], _ => rfl⟩
theorem hereLawCup {K : PySem.W.Frag} {h : Heap} {mg : Str → Option Value} {f : Addr} {od an : Option Addr} {sl : Array (Option Value)} {oc kV dc pm cd ct : Value} (X : K.In h) (G : h.Ns mainGlobals mg) (a : PySem.W.nsIn K mainGlobals "_law_cup" = some (some (.ref f)))
    (l : K.lookup f = some ⟨oc, od, .func (PySem.W.fnOf "_law_cup" "_law_cup" (defArgs sLawCup) (defBody sLawCup) (defScope sLawCup) .none kV dc pm an cd ct), sl⟩) (c : PySem.W.codeIn K cd "_law_cup" = true) (k : PySem.W.keepIn K (.ref f) = true) : Here K mg "_law_cup" sLawCup ["script"] :=
  ⟨_, _, fun_mk (st := sLawCup) l c k, PySem.W.mg_of X G a, (fun_mk (st := sLawCup) l c k).binds (ps := ["script"]) fun _ _ _ _ _ _ us hl => match us, hl with | [_], _ => rfl⟩
theorem hereLawRoll {K : PySem.W.Frag} {h : Heap} {mg : Str → Option Value} {f : Addr} {od an : Option Addr} {sl : Array (Option Value)} {oc kV dc pm cd ct : Value} (X : K.In h) (G : h.Ns mainGlobals mg) (a : PySem.W.nsIn K mainGlobals "_law_roll" = some (some (.ref f)))
    (l : K.lookup f = some ⟨oc, od, .func (PySem.W.fnOf "_law_roll" "_law_roll" (defArgs sLawRoll) (defBody sLawRoll) (defScope sLawRoll) .none kV dc pm an cd ct), sl⟩) (c : PySem.W.codeIn K cd "_law_roll" = true) (k : PySem.W.keepIn K (.ref f) = true) : Here K mg "_law_roll" sLawRoll ["cup", "many"] :=
  ⟨_, _, fun_mk (st := sLawRoll) l c k, PySem.W.mg_of X G a, (fun_mk (st := sLawRoll) l c k).binds (ps := ["cup", "many"]) fun _ _ _ _ _ _ us hl => match us, hl with | [_, _], _ => rfl⟩
theorem hereLawSome {K : PySem.W.Frag} {h : Heap} {mg : Str → Option Value} {f : Addr} {od an : Option Addr} {sl : Array (Option Value)} {oc kV dc pm cd ct : Value} (X : K.In h) (G : h.Ns mainGlobals mg) (a : PySem.W.nsIn K mainGlobals "_law_some" = some (some (.ref f)))
    (l : K.lookup f = some ⟨oc, od, .func (PySem.W.fnOf "_law_some" "_law_some" (defArgs sLawSome) (defBody sLawSome) (defScope sLawSome) .none kV dc pm an cd ct), sl⟩) (c : PySem.W.codeIn K cd "_law_some" = true) (k : PySem.W.keepIn K (.ref f) = true) : Here K mg "_law_some" sLawSome ["cup", "things"] :=
  ⟨_, _, fun_mk (st := sLawSome) l c k, PySem.W.mg_of X G a, (fun_mk (st := sLawSome) l c k).binds (ps := ["cup", "things"]) fun _ _ _ _ _ _ us hl => match us, hl with | [_, _], _ => rfl⟩
theorem hereLawSame {K : PySem.W.Frag} {h : Heap} {mg : Str → Option Value} {f : Addr} {od an : Option Addr} {sl : Array (Option Value)} {oc kV dc pm cd ct : Value} (X : K.In h) (G : h.Ns mainGlobals mg) (a : PySem.W.nsIn K mainGlobals "_law_same" = some (some (.ref f)))
    (l : K.lookup f = some ⟨oc, od, .func (PySem.W.fnOf "_law_same" "_law_same" (defArgs sLawSame) (defBody sLawSame) (defScope sLawSame) .none kV dc pm an cd ct), sl⟩) (c : PySem.W.codeIn K cd "_law_same" = true) (k : PySem.W.keepIn K (.ref f) = true) : Here K mg "_law_same" sLawSame ["told", "due"] :=
  ⟨_, _, fun_mk (st := sLawSame) l c k, PySem.W.mg_of X G a, (fun_mk (st := sLawSame) l c k).binds (ps := ["told", "due"]) fun _ _ _ _ _ _ us hl => match us, hl with | [_, _], _ => rfl⟩
theorem hereLawBox {K : PySem.W.Frag} {h : Heap} {mg : Str → Option Value} {f : Addr} {od an : Option Addr} {sl : Array (Option Value)} {oc kV dc pm cd ct : Value} (X : K.In h) (G : h.Ns mainGlobals mg) (a : PySem.W.nsIn K mainGlobals "_law_box" = some (some (.ref f)))
    (l : K.lookup f = some ⟨oc, od, .func (PySem.W.fnOf "_law_box" "_law_box" (defArgs sLawBox) (defBody sLawBox) (defScope sLawBox) .none kV dc pm an cd ct), sl⟩) (c : PySem.W.codeIn K cd "_law_box" = true) (k : PySem.W.keepIn K (.ref f) = true) : Here K mg "_law_box" sLawBox ["rows", "columns"] :=
  ⟨_, _, fun_mk (st := sLawBox) l c k, PySem.W.mg_of X G a, (fun_mk (st := sLawBox) l c k).binds (ps := ["rows", "columns"]) fun _ _ _ _ _ _ us hl => match us, hl with | [_, _], _ => rfl⟩
theorem hereLawSpiral {K : PySem.W.Frag} {h : Heap} {mg : Str → Option Value} {f : Addr} {od an : Option Addr} {sl : Array (Option Value)} {oc kV dc pm cd ct : Value} (X : K.In h) (G : h.Ns mainGlobals mg) (a : PySem.W.nsIn K mainGlobals "_law_spiral" = some (some (.ref f)))
    (l : K.lookup f = some ⟨oc, od, .func (PySem.W.fnOf "_law_spiral" "_law_spiral" (defArgs sLawSpiral) (defBody sLawSpiral) (defScope sLawSpiral) .none kV dc pm an cd ct), sl⟩) (c : PySem.W.codeIn K cd "_law_spiral" = true) (k : PySem.W.keepIn K (.ref f) = true) : Here K mg "_law_spiral" sLawSpiral ["rows", "columns"] :=
  ⟨_, _, fun_mk (st := sLawSpiral) l c k, PySem.W.mg_of X G a, (fun_mk (st := sLawSpiral) l c k).binds (ps := ["rows", "columns"]) fun _ _ _ _ _ _ us hl => match us, hl with | [_, _], _ => rfl⟩
theorem hereLawOrder {K : PySem.W.Frag} {h : Heap} {mg : Str → Option Value} {f : Addr} {od an : Option Addr} {sl : Array (Option Value)} {oc kV dc pm cd ct : Value} (X : K.In h) (G : h.Ns mainGlobals mg) (a : PySem.W.nsIn K mainGlobals "_law_order" = some (some (.ref f)))
    (l : K.lookup f = some ⟨oc, od, .func (PySem.W.fnOf "_law_order" "_law_order" (defArgs sLawOrder) (defBody sLawOrder) (defScope sLawOrder) .none kV dc pm an cd ct), sl⟩) (c : PySem.W.codeIn K cd "_law_order" = true) (k : PySem.W.keepIn K (.ref f) = true) : Here K mg "_law_order" sLawOrder ["kind", "rows", "columns"] :=
  ⟨_, _, fun_mk (st := sLawOrder) l c k, PySem.W.mg_of X G a, (fun_mk (st := sLawOrder) l c k).binds (ps := ["kind", "rows", "columns"]) fun _ _ _ _ _ _ us hl => match us, hl with | [_, _, _], _ => rfl⟩
theorem hereLawSize {K : PySem.W.Frag} {h : Heap} {mg : Str → Option Value} {f : Addr} {od an : Option Addr} {sl : Array (Option Value)} {oc kV dc pm cd ct : Value} (X : K.In h) (G : h.Ns mainGlobals mg) (a : PySem.W.nsIn K mainGlobals "_law_size" = some (some (.ref f)))
    (l : K.lookup f = some ⟨oc, od, .func (PySem.W.fnOf "_law_size" "_law_size" (defArgs sLawSize) (defBody sLawSize) (defScope sLawSize) .none kV dc pm an cd ct), sl⟩) (c : PySem.W.codeIn K cd "_law_size" = true) (k : PySem.W.keepIn K (.ref f) = true) : Here K mg "_law_size" sLawSize ["cup"] :=
  ⟨_, _, fun_mk (st := sLawSize) l c k, PySem.W.mg_of X G a, (fun_mk (st := sLawSize) l c k).binds (ps := ["cup"]) fun _ _ _ _ _ _ us hl => match us, hl with | [_], _ => rfl⟩
theorem hereLawDrawn {K : PySem.W.Frag} {h : Heap} {mg : Str → Option Value} {f : Addr} {od an : Option Addr} {sl : Array (Option Value)} {oc kV dc pm cd ct : Value} (X : K.In h) (G : h.Ns mainGlobals mg) (a : PySem.W.nsIn K mainGlobals "_law_drawn" = some (some (.ref f)))
    (l : K.lookup f = some ⟨oc, od, .func (PySem.W.fnOf "_law_drawn" "_law_drawn" (defArgs sLawDrawn) (defBody sLawDrawn) (defScope sLawDrawn) .none kV dc pm an cd ct), sl⟩) (c : PySem.W.codeIn K cd "_law_drawn" = true) (k : PySem.W.keepIn K (.ref f) = true) : Here K mg "_law_drawn" sLawDrawn ["cup", "cells"] :=
  ⟨_, _, fun_mk (st := sLawDrawn) l c k, PySem.W.mg_of X G a, (fun_mk (st := sLawDrawn) l c k).binds (ps := ["cup", "cells"]) fun _ _ _ _ _ _ us hl => match us, hl with | [_, _], _ => rfl⟩
theorem hereLawIsOrder {K : PySem.W.Frag} {h : Heap} {mg : Str → Option Value} {f : Addr} {od an : Option Addr} {sl : Array (Option Value)} {oc kV dc pm cd ct : Value} (X : K.In h) (G : h.Ns mainGlobals mg) (a : PySem.W.nsIn K mainGlobals "_law_is_order" = some (some (.ref f)))
    (l : K.lookup f = some ⟨oc, od, .func (PySem.W.fnOf "_law_is_order" "_law_is_order" (defArgs sLawIsOrder) (defBody sLawIsOrder) (defScope sLawIsOrder) .none kV dc pm an cd ct), sl⟩) (c : PySem.W.codeIn K cd "_law_is_order" = true) (k : PySem.W.keepIn K (.ref f) = true) : Here K mg "_law_is_order" sLawIsOrder ["value"] :=
  ⟨_, _, fun_mk (st := sLawIsOrder) l c k, PySem.W.mg_of X G a, (fun_mk (st := sLawIsOrder) l c k).binds (ps := ["value"]) fun _ _ _ _ _ _ us hl => match us, hl with | [_], _ => rfl⟩
theorem hereLaw {K : PySem.W.Frag} {h : Heap} {mg : Str → Option Value} {f : Addr} {od an : Option Addr} {sl : Array (Option Value)} {oc kV dc pm cd ct : Value} (X : K.In h) (G : h.Ns mainGlobals mg) (a : PySem.W.nsIn K mainGlobals "law" = some (some (.ref f)))
    (l : K.lookup f = some ⟨oc, od, .func (PySem.W.fnOf "law" "law" (defArgs sLaw) (defBody sLaw) (defScope sLaw) .none kV dc pm an cd ct), sl⟩) (c : PySem.W.codeIn K cd "law" = true) (k : PySem.W.keepIn K (.ref f) = true) : Here K mg "law" sLaw ["script"] :=
  ⟨_, _, fun_mk (st := sLaw) l c k, PySem.W.mg_of X G a, (fun_mk (st := sLaw) l c k).binds (ps := ["script"]) fun _ _ _ _ _ _ us hl => match us, hl with | [_], _ => rfl⟩
theorem isInt_mk {K : PySem.W.Frag} {h : Heap} {mg : Str → Option Value} {x : Str} {n : Int} {t : Tok} (X : K.In h) (G : h.Ns mainGlobals mg) (a : PySem.W.nsIn K mainGlobals x = some (some (.int n t))) : IsInt mg x n := ⟨t, PySem.W.mg_of X G a⟩
theorem isTupS_mk {K : PySem.W.Frag} {h : Heap} {mg : Str → Option Value} {x : Str} {xs : List Str} {p : Addr} {od : Option Addr} {its : Array Value} {n : Nat} {sl : Array (Option Value)} (X : K.In h) (G : h.Ns mainGlobals mg) (a : PySem.W.nsIn K mainGlobals x = some (some (.ref p)))
    (l : K.lookup p = some ⟨.type "tuple", od, .seq its n, sl⟩) (z : its.size ≤ sizeLine) (r : Vals (xs.map V.str) its.toList) : IsTupS K mg x xs := ⟨p, _, its, n, PySem.W.mg_of X G a, l, rfl, rfl, z, r⟩
def spLaw (K : PySem.W.Frag) : Sp := fun vs H Q _ => ∃ (a : Addr) (ns : List Int), vs = [.ref a] ∧ SqL K H a (ns.map V.int) ∧ ns.length ≤ 63 ∧ ∀ H', Q (.bl true) H'
theorem law_sp {K : PySem.W.Frag} {vs : List V} {H : Hp} {Q : VK} {E : XK} (h : spLaw K vs H Q E) : SpF K afLaw vs H Q E := by
  obtain ⟨a, ns, rfl, hs, hl, hq⟩ := h
  have s : Sl K H H [.im (.scr ns)] ([V.ref a].map some) (own [.im (.scr ns)] ([V.ref a].map some)) := by
    refine ⟨rfl, fun i d e => ?_, fun i c e => ?_, fun i j c c' p _ e => ?_, Ex.refl H, fun x z => ?_⟩
    · match i, e with
      | 0, e => cases e; exact ⟨_, rfl, .scr hs⟩
    · match i, e with
      | 0, e => cases e
    · match i, e with
      | 0, e => cases e
    · obtain ⟨i, c, e, _⟩ := z
      match i, e with
      | 0, e => cases e
  refine ⟨[.im (.scr ns)], H, fun d _ => d = .bl true, s, ⟨ns, rfl, by omega, rfl⟩, fun v d ρ' F' H' _ _ r e => ?_⟩
  subst e
  cases r
  exact hq H'
theorem all_mk {l : PySem.W.OpenLaw} {w : World} {K : PySem.W.Frag} {mg : Str → Option Value} {fa : Addr} (hfa : mg "law" = some (.ref fa)) (Bn : Bt mg) (cSIDE : IsInt mg "SIDE" 60) (cCELLS : IsInt mg "CELLS" 400) (cKINDS : IsTupS K mg "KINDS" KINDS)
    (h_fits_whole : Here K mg "fits_whole" sFitsWhole ["value", "low", "high"]) (h_is_tuple_of : Here K mg "is_tuple_of" sIsTupleOf ["value", "least", "most"]) (h_fits_cell : Here K mg "fits_cell" sFitsCell ["value"]) (h_fits_order : Here K mg "fits_order" sFitsOrder ["value"]) (h_need_order : Here K mg "need_order" sNeedOrder ["order"]) (h_is_order : Here K mg "is_order" sIsOrder ["value"]) (h_need_box : Here K mg "need_box" sNeedBox ["kind", "rows", "columns"]) (h_steps_between : Here K mg "steps_between" sStepsBetween ["one", "other"]) (h_box_cells : Here K mg "box_cells" sBoxCells ["rows", "columns"]) (h_spiral_in : Here K mg "spiral_in" sSpiralIn ["rows", "columns"]) (h_row_key : Here K mg "row_key" sRowKey ["cell"]) (h_snake_key : Here K mg "snake_key" sSnakeKey ["cell"]) (h_diagonal_key : Here K mg "diagonal_key" sDiagonalKey ["cell"]) (h_order_in : Here K mg "order_in" sOrderIn ["kind", "rows", "columns"]) (h_place_in_box : Here K mg "place_in_box" sPlaceInBox ["kind", "rows", "columns", "cell"]) (h_box_order : Here K mg "box_order" sBoxOrder ["kind", "rows", "columns"]) (h_is_walk : Here K mg "is_walk" sIsWalk ["order"]) (h_law_cup : Here K mg "_law_cup" sLawCup ["script"]) (h_law_roll : Here K mg "_law_roll" sLawRoll ["cup", "many"]) (h_law_some : Here K mg "_law_some" sLawSome ["cup", "things"]) (h_law_same : Here K mg "_law_same" sLawSame ["told", "due"]) (h_law_box : Here K mg "_law_box" sLawBox ["rows", "columns"]) (h_law_size : Here K mg "_law_size" sLawSize ["cup"]) (h_law_drawn : Here K mg "_law_drawn" sLawDrawn ["cup", "cells"]) (h_law_spiral : Here K mg "_law_spiral" sLawSpiral ["rows", "columns"]) (h_law_order : Here K mg "_law_order" sLawOrder ["kind", "rows", "columns"]) (h_law_is_order : Here K mg "_law_is_order" sLawIsOrder ["value"]) (h_law : Here K mg "law" sLaw ["script"]) :
    ∃ fd : FuncData, (∀ (s : Shared) (v : Value), BindsTo s fd ⟨[v], []⟩ [("script", v)]) ∧ ∀ base : Heap, K.In base → base.Ns mainGlobals mg → FnOk l.prog w K mg base CX0 7 fa fd ["script"] (spLaw K) := by
  obtain ⟨f, fd, Fn, hm, hb⟩ := h_law
  have e := hfa.symm.trans hm
  cases e
  have go : ∀ base : Heap, FnOk l.prog w K mg base CX0 7 fa fd ["script"] (SpF K afLaw) := fun base => by
    have d_fits_whole := ok_fits_whole (P := l.prog) (w := w) (base := base) Bn h_fits_whole
    have d_is_tuple_of := ok_is_tuple_of (P := l.prog) (w := w) (base := base) Bn h_is_tuple_of
    have d_fits_cell := ok_fits_cell (P := l.prog) (w := w) (base := base) Bn cSIDE h_fits_cell d_fits_whole d_is_tuple_of
    have d_fits_order := ok_fits_order (P := l.prog) (w := w) (base := base) Bn cCELLS h_fits_order d_is_tuple_of d_fits_cell
    have d_need_order := ok_need_order (P := l.prog) (w := w) (base := base) h_need_order d_fits_order
    have d_is_order := ok_is_order (P := l.prog) (w := w) (base := base) h_is_order d_fits_order
    have d_need_box := ok_need_box (P := l.prog) (w := w) (base := base) Bn cSIDE cCELLS cKINDS h_need_box d_fits_whole
    have d_steps_between := ok_steps_between (P := l.prog) (w := w) (base := base) Bn h_steps_between
    have d_box_cells := ok_box_cells (P := l.prog) (w := w) (base := base) Bn h_box_cells
    have d_spiral_in := ok_spiral_in (P := l.prog) (w := w) (base := base) Bn h_spiral_in
    have d_row_key := ok_row_key (P := l.prog) (w := w) (base := base) h_row_key
    have d_snake_key := ok_snake_key (P := l.prog) (w := w) (base := base) h_snake_key
    have d_diagonal_key := ok_diagonal_key (P := l.prog) (w := w) (base := base) h_diagonal_key
    have d_order_in := ok_order_in (P := l.prog) (w := w) (base := base) Bn h_order_in d_row_key d_snake_key d_diagonal_key d_box_cells d_spiral_in
    have d_place_in_box := ok_place_in_box (P := l.prog) (w := w) (base := base) h_place_in_box d_need_box d_fits_cell d_order_in
    have d_box_order := ok_box_order (P := l.prog) (w := w) (base := base) Bn h_box_order d_need_box d_order_in
    have d_is_walk := ok_is_walk (P := l.prog) (w := w) (base := base) Bn h_is_walk d_need_order d_steps_between
    have d_law_cup := ok_law_cup (P := l.prog) (w := w) (base := base) Bn h_law_cup
    have d_law_roll := ok_law_roll (P := l.prog) (w := w) (base := base) Bn h_law_roll
    have d_law_some := ok_law_some (P := l.prog) (w := w) (base := base) Bn h_law_some d_law_roll
    have d_law_same := ok_law_same (P := l.prog) (w := w) (base := base) Bn h_law_same 6
    have d_law_box := ok_law_box (P := l.prog) (w := w) (base := base) Bn h_law_box
    have d_law_size := ok_law_size (P := l.prog) (w := w) (base := base) Bn h_law_size d_law_roll d_law_some
    have d_law_drawn := ok_law_drawn (P := l.prog) (w := w) (base := base) Bn h_law_drawn d_law_roll
    have d_law_spiral := ok_law_spiral (P := l.prog) (w := w) (base := base) Bn h_law_spiral
    have d_law_order := ok_law_order (P := l.prog) (w := w) (base := base) Bn h_law_order d_law_spiral d_law_box
    have d_law_is_order := ok_law_is_order (P := l.prog) (w := w) (base := base) Bn h_law_is_order
    exact ok_law Bn Fn d_law_cup d_law_roll d_law_same d_law_size d_law_order d_law_drawn d_law_is_order d_is_order d_law_box d_is_walk d_place_in_box d_box_order
  obtain ⟨⟨oc, od, kV, doc, pm, an, cdv, ct, osl, rfl, l, c⟩, k⟩ := Fn
  exact ⟨_, fun s v => .of_eq rfl, fun base _ _ => (go base).imp fun vs H Q E => law_sp⟩
end K89

open PySem PySem.W PyProof.Rows
theorem PySem.Challenge.cw_cellhall_k89_whole_orders_of_boxes_holds : PySem.Challenge.rw_cellhall_k89_whole_orders_of_boxes.Holds := by
  w_on; o_law; k_head; (case hw => w_witness2)
  k_fill
  refine L2.walk_of (l := PySem.Challenge.rw_cellhall_k89_whole_orders_of_boxes) (n := 63) (k := 7) (x := "script") (CX := fun _ => L2.CX0) (sp := fun w => K89.spLaw _) rfl (by decide) rfl ⟨rfl, by decide, by decide⟩ (fun w h Y => PySem.W.kIn_of Y) ?F (fun _ _ a ns hl _ hS => ⟨a, ns, rfl, hS, hl, fun _ => rfl⟩) (fun _ _ _ _ _ h => h)
  case F =>
    intro w mg fa h KX G hmg
    refine' K89.all_mk hmg ⟨PySem.W.mg_none_of KX G ?z_abs, PySem.W.mg_none_of KX G ?z_all, PySem.W.mg_none_of KX G ?z_any, PySem.W.mg_none_of KX G ?z_bool, PySem.W.mg_none_of KX G ?z_dict, PySem.W.mg_none_of KX G ?z_enumerate, PySem.W.mg_none_of KX G ?z_int, PySem.W.mg_none_of KX G ?z_isinstance, PySem.W.mg_none_of KX G ?z_len, PySem.W.mg_none_of KX G ?z_list, PySem.W.mg_none_of KX G ?z_max, PySem.W.mg_none_of KX G ?z_min, PySem.W.mg_none_of KX G ?z_range, PySem.W.mg_none_of KX G ?z_set, PySem.W.mg_none_of KX G ?z_sorted, PySem.W.mg_none_of KX G ?z_str, PySem.W.mg_none_of KX G ?z_sum, PySem.W.mg_none_of KX G ?z_tuple, PySem.W.mg_none_of KX G ?z_zip⟩ (K89.isInt_mk KX G ?g_SIDE) (K89.isInt_mk KX G ?g_CELLS) (K89.isTupS_mk KX G ?g_KINDS ?gl_KINDS ?gz_KINDS ?gr_KINDS) 
      (K89.hereFitsWhole KX G ?a_FitsWhole ?l_FitsWhole ?c_FitsWhole ?k_FitsWhole)
      (K89.hereIsTupleOf KX G ?a_IsTupleOf ?l_IsTupleOf ?c_IsTupleOf ?k_IsTupleOf)
      (K89.hereFitsCell KX G ?a_FitsCell ?l_FitsCell ?c_FitsCell ?k_FitsCell)
      (K89.hereFitsOrder KX G ?a_FitsOrder ?l_FitsOrder ?c_FitsOrder ?k_FitsOrder)
      (K89.hereNeedOrder KX G ?a_NeedOrder ?l_NeedOrder ?c_NeedOrder ?k_NeedOrder)
      (K89.hereIsOrder KX G ?a_IsOrder ?l_IsOrder ?c_IsOrder ?k_IsOrder)
      (K89.hereNeedBox KX G ?a_NeedBox ?l_NeedBox ?c_NeedBox ?k_NeedBox)
      (K89.hereStepsBetween KX G ?a_StepsBetween ?l_StepsBetween ?c_StepsBetween ?k_StepsBetween)
      (K89.hereBoxCells KX G ?a_BoxCells ?l_BoxCells ?c_BoxCells ?k_BoxCells)
      (K89.hereSpiralIn KX G ?a_SpiralIn ?l_SpiralIn ?c_SpiralIn ?k_SpiralIn)
      (K89.hereRowKey KX G ?a_RowKey ?l_RowKey ?c_RowKey ?k_RowKey)
      (K89.hereSnakeKey KX G ?a_SnakeKey ?l_SnakeKey ?c_SnakeKey ?k_SnakeKey)
      (K89.hereDiagonalKey KX G ?a_DiagonalKey ?l_DiagonalKey ?c_DiagonalKey ?k_DiagonalKey)
      (K89.hereOrderIn KX G ?a_OrderIn ?l_OrderIn ?c_OrderIn ?k_OrderIn)
      (K89.herePlaceInBox KX G ?a_PlaceInBox ?l_PlaceInBox ?c_PlaceInBox ?k_PlaceInBox)
      (K89.hereBoxOrder KX G ?a_BoxOrder ?l_BoxOrder ?c_BoxOrder ?k_BoxOrder)
      (K89.hereIsWalk KX G ?a_IsWalk ?l_IsWalk ?c_IsWalk ?k_IsWalk)
      (K89.hereLawCup KX G ?a_LawCup ?l_LawCup ?c_LawCup ?k_LawCup)
      (K89.hereLawRoll KX G ?a_LawRoll ?l_LawRoll ?c_LawRoll ?k_LawRoll)
      (K89.hereLawSome KX G ?a_LawSome ?l_LawSome ?c_LawSome ?k_LawSome)
      (K89.hereLawSame KX G ?a_LawSame ?l_LawSame ?c_LawSame ?k_LawSame)
      (K89.hereLawBox KX G ?a_LawBox ?l_LawBox ?c_LawBox ?k_LawBox)
      (K89.hereLawSize KX G ?a_LawSize ?l_LawSize ?c_LawSize ?k_LawSize)
      (K89.hereLawDrawn KX G ?a_LawDrawn ?l_LawDrawn ?c_LawDrawn ?k_LawDrawn)
      (K89.hereLawSpiral KX G ?a_LawSpiral ?l_LawSpiral ?c_LawSpiral ?k_LawSpiral)
      (K89.hereLawOrder KX G ?a_LawOrder ?l_LawOrder ?c_LawOrder ?k_LawOrder)
      (K89.hereLawIsOrder KX G ?a_LawIsOrder ?l_LawIsOrder ?c_LawIsOrder ?k_LawIsOrder)
      (K89.hereLaw KX G ?a_Law ?l_Law ?c_Law ?k_Law)
    (case z_abs => k_is)
    (case z_all => k_is)
    (case z_any => k_is)
    (case z_bool => k_is)
    (case z_dict => k_is)
    (case z_enumerate => k_is)
    (case z_int => k_is)
    (case z_isinstance => k_is)
    (case z_len => k_is)
    (case z_list => k_is)
    (case z_max => k_is)
    (case z_min => k_is)
    (case z_range => k_is)
    (case z_set => k_is)
    (case z_sorted => k_is)
    (case z_str => k_is)
    (case z_sum => k_is)
    (case z_tuple => k_is)
    (case z_zip => k_is)
    (case g_SIDE => k_is)
    (case g_CELLS => k_is)
    (case g_KINDS => k_is)
    (case gl_KINDS => k_is)
    (case gz_KINDS => (rw [PySem.sizeLine_eq]; decide))
    (case gr_KINDS => (repeat (first | exact .nil | refine' .cons ⟨_, rfl⟩ ?_)))
    (case a_FitsWhole => k_is)
    (case l_FitsWhole => k_is)
    (case c_FitsWhole => k_is)
    (case k_FitsWhole => k_is)
    (case a_IsTupleOf => k_is)
    (case l_IsTupleOf => k_is)
    (case c_IsTupleOf => k_is)
    (case k_IsTupleOf => k_is)
    (case a_FitsCell => k_is)
    (case l_FitsCell => k_is)
    (case c_FitsCell => k_is)
    (case k_FitsCell => k_is)
    (case a_FitsOrder => k_is)
    (case l_FitsOrder => k_is)
    (case c_FitsOrder => k_is)
    (case k_FitsOrder => k_is)
    (case a_NeedOrder => k_is)
    (case l_NeedOrder => k_is)
    (case c_NeedOrder => k_is)
    (case k_NeedOrder => k_is)
    (case a_IsOrder => k_is)
    (case l_IsOrder => k_is)
    (case c_IsOrder => k_is)
    (case k_IsOrder => k_is)
    (case a_NeedBox => k_is)
    (case l_NeedBox => k_is)
    (case c_NeedBox => k_is)
    (case k_NeedBox => k_is)
    (case a_StepsBetween => k_is)
    (case l_StepsBetween => k_is)
    (case c_StepsBetween => k_is)
    (case k_StepsBetween => k_is)
    (case a_BoxCells => k_is)
    (case l_BoxCells => k_is)
    (case c_BoxCells => k_is)
    (case k_BoxCells => k_is)
    (case a_SpiralIn => k_is)
    (case l_SpiralIn => k_is)
    (case c_SpiralIn => k_is)
    (case k_SpiralIn => k_is)
    (case a_RowKey => k_is)
    (case l_RowKey => k_is)
    (case c_RowKey => k_is)
    (case k_RowKey => k_is)
    (case a_SnakeKey => k_is)
    (case l_SnakeKey => k_is)
    (case c_SnakeKey => k_is)
    (case k_SnakeKey => k_is)
    (case a_DiagonalKey => k_is)
    (case l_DiagonalKey => k_is)
    (case c_DiagonalKey => k_is)
    (case k_DiagonalKey => k_is)
    (case a_OrderIn => k_is)
    (case l_OrderIn => k_is)
    (case c_OrderIn => k_is)
    (case k_OrderIn => k_is)
    (case a_PlaceInBox => k_is)
    (case l_PlaceInBox => k_is)
    (case c_PlaceInBox => k_is)
    (case k_PlaceInBox => k_is)
    (case a_BoxOrder => k_is)
    (case l_BoxOrder => k_is)
    (case c_BoxOrder => k_is)
    (case k_BoxOrder => k_is)
    (case a_IsWalk => k_is)
    (case l_IsWalk => k_is)
    (case c_IsWalk => k_is)
    (case k_IsWalk => k_is)
    (case a_LawCup => k_is)
    (case l_LawCup => k_is)
    (case c_LawCup => k_is)
    (case k_LawCup => k_is)
    (case a_LawRoll => k_is)
    (case l_LawRoll => k_is)
    (case c_LawRoll => k_is)
    (case k_LawRoll => k_is)
    (case a_LawSome => k_is)
    (case l_LawSome => k_is)
    (case c_LawSome => k_is)
    (case k_LawSome => k_is)
    (case a_LawSame => k_is)
    (case l_LawSame => k_is)
    (case c_LawSame => k_is)
    (case k_LawSame => k_is)
    (case a_LawBox => k_is)
    (case l_LawBox => k_is)
    (case c_LawBox => k_is)
    (case k_LawBox => k_is)
    (case a_LawSize => k_is)
    (case l_LawSize => k_is)
    (case c_LawSize => k_is)
    (case k_LawSize => k_is)
    (case a_LawDrawn => k_is)
    (case l_LawDrawn => k_is)
    (case c_LawDrawn => k_is)
    (case k_LawDrawn => k_is)
    (case a_LawSpiral => k_is)
    (case l_LawSpiral => k_is)
    (case c_LawSpiral => k_is)
    (case k_LawSpiral => k_is)
    (case a_LawOrder => k_is)
    (case l_LawOrder => k_is)
    (case c_LawOrder => k_is)
    (case k_LawOrder => k_is)
    (case a_LawIsOrder => k_is)
    (case l_LawIsOrder => k_is)
    (case c_LawIsOrder => k_is)
    (case k_LawIsOrder => k_is)
    (case a_Law => k_is)
    (case l_Law => k_is)
    (case c_Law => k_is)
    (case k_Law => k_is)
