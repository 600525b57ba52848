import PyProof.Rows.All
import Wide.All
import OpenK.AllK
import Wide.FinOn
import HandS.ForMost
import HandS.Exc
import HandS.ExcOwn
import HandS.WordsExc
import HandS.CallSlots
import HandS.Defaults
import HandS.Evl
import HandS.Wide
import HandS.Flow
import HandS.Text
import KE.GoesNew
import HandS.More
import HandS.Sort
import HandS.SortInts
import HandS.Property
import HandS.MakeKwOnly
import HandS.Conv
import HandS.Style
import HandS.List
import PyProof.StrLawsIn
import HandS.SortRule
import KE.KSortAsk
import HandS.Iter
import HandS.Dict
import PyProof.ListStr
import HandS.Head0
import HandS.Head1
import HandS.Head2
import HandS.HeadEnd
import HandS.HeadHook1
import HandS.HeadHook2
import PySem.Challenge.RW_wordhulls_k61_room_and_fillings
set_option Elab.async false
set_option linter.all false
set_option maxRecDepth 100000
set_option maxHeartbeats 4000000
/-! Dl: the data level. Frozen data D, mutable objects MO, what represents what. -/
namespace Dl
open PySem PySem.Spec PyProof.Rows L2 Evl
/-! ### data -/
inductive D where
  | non | bl (b : Bool) | int (i : Int) | str (x : Str) | ty (n : String)
  | lst (xs : List D) | tup (xs : List D)
  | ins (C : Addr) (ns : List Str) (xs : List D)
  | dK (ks : List Key) (xs : List D) | dT (ks : List (List Key)) (xs : List D)
  | scr (ns : List Int)
  | ptr (a : Addr)
mutual
inductive Rep (K : PySem.W.Frag) (G : Hp) : D → V → Prop
  | non : Rep K G .non .non
  | bl (b : Bool) : Rep K G (.bl b) (.bl b)
  | int (i : Int) : Rep K G (.int i) (.int i)
  | str (x : Str) : Rep K G (.str x) (.str x)
  | ty (n : String) : Rep K G (.ty n) (.ty n)
  | lst {a : Addr} {vs : List V} {ds : List D} : G a = some (.lst vs) → Reps K G ds vs → Rep K G (.lst ds) (.ref a)
  | tup {a : Addr} {vs : List V} {ds : List D} : G a = some (.tup vs) → Reps K G ds vs → Rep K G (.tup ds) (.ref a)
  | ins {a C dx : Addr} {fs : List (Str × V)} {ns : List Str} {ds : List D} : G a = some (.ins C dx fs) → fs.map (·.1) = ns → Reps K G ds (fs.map (·.2)) → Rep K G (.ins C ns ds) (.ref a)
  | dK {a : Addr} {kvs : List (Key × V)} {ks : List Key} {ds : List D} : G a = some (.dK kvs) → kvs.map (·.1) = ks → Reps K G ds (kvs.map (·.2)) → Rep K G (.dK ks ds) (.ref a)
  | dT {a : Addr} {kvs : List (List Key × V)} {ks : List (List Key)} {ds : List D} : G a = some (.dT kvs) → kvs.map (·.1) = ks → Reps K G ds (kvs.map (·.2)) → Rep K G (.dT ks ds) (.ref a)
  | scr {a : Addr} {ns : List Int} : SqL K G a (ns.map V.int) → Rep K G (.scr ns) (.ref a)
  | ptr (a : Addr) : Rep K G (.ptr a) (.ref a)
inductive Reps (K : PySem.W.Frag) (G : Hp) : List D → List V → Prop
  | nil : Reps K G [] []
  | cons {d : D} {v : V} {ds : List D} {vs : List V} : Rep K G d v → Reps K G ds vs → Reps K G (d :: ds) (v :: vs)
end
section
variable {K : PySem.W.Frag} {G G' H H' : Hp}
mutual
theorem Rep.mono (e : Ex G G') : ∀ {d : D} {v : V}, Rep K G d v → Rep K G' d v
  | _, _, .non => .non
  | _, _, .bl b => .bl b
  | _, _, .int i => .int i
  | _, _, .str x => .str x
  | _, _, .ty n => .ty n
  | _, _, .lst h r => .lst (e _ _ h) (Reps.mono e r)
  | _, _, .tup h r => .tup (e _ _ h) (Reps.mono e r)
  | _, _, .ins h hn r => .ins (e _ _ h) hn (Reps.mono e r)
  | _, _, .dK h hn r => .dK (e _ _ h) hn (Reps.mono e r)
  | _, _, .dT h hn r => .dT (e _ _ h) hn (Reps.mono e r)
  | _, _, .scr h => .scr (ex_l e h)
  | _, _, .ptr a => .ptr a
theorem Reps.mono (e : Ex G G') : ∀ {ds : List D} {vs : List V}, Reps K G ds vs → Reps K G' ds vs
  | _, _, .nil => .nil
  | _, _, .cons h r => .cons (Rep.mono e h) (Reps.mono e r)
end
theorem Reps.length : ∀ {ds : List D} {vs : List V}, Reps K G ds vs → ds.length = vs.length
  | _, _, .nil => rfl
  | _, _, .cons _ r => by rw [List.length_cons, List.length_cons, r.length]
theorem Reps.get : ∀ {ds : List D} {vs : List V} {i : Nat} {d : D}, Reps K G ds vs → ds[i]? = some d → ∃ v, vs[i]? = some v ∧ Rep K G d v
  | _, _, _, _, .nil, e => by simp at e
  | _, _, 0, _, .cons r _, e => by simp at e; subst e; exact ⟨_, rfl, r⟩
  | _, _, i + 1, d, .cons _ t, e => by
    obtain ⟨v, h1, h2⟩ := Reps.get (i := i) (d := d) t (by simpa using e)
    exact ⟨v, by simpa using h1, h2⟩
theorem Reps.get' : ∀ {ds : List D} {vs : List V} {i : Nat} {v : V}, Reps K G ds vs → vs[i]? = some v → ∃ d, ds[i]? = some d ∧ Rep K G d v
  | _, _, _, _, .nil, e => by simp at e
  | _, _, 0, _, .cons r _, e => by simp at e; subst e; exact ⟨_, rfl, r⟩
  | _, _, i + 1, v, .cons _ t, e => by
    obtain ⟨d, h1, h2⟩ := Reps.get' (i := i) (v := v) t (by simpa using e)
    exact ⟨d, by simpa using h1, h2⟩
theorem Reps.append : ∀ {ds es : List D} {vs ws : List V}, Reps K G ds vs → Reps K G es ws → Reps K G (ds ++ es) (vs ++ ws)
  | _, _, _, _, .nil, s => s
  | _, _, _, _, .cons r t, s => .cons r (Reps.append t s)
theorem Reps.one {d : D} {v : V} (r : Rep K G d v) : Reps K G [d] [v] := .cons r .nil
theorem Reps.set {d : D} {v : V} (r : Rep K G d v) : ∀ {ds : List D} {vs : List V} (i : Nat), Reps K G ds vs → Reps K G (ds.set i d) (vs.set i v)
  | _, _, _, .nil => .nil
  | _, _, 0, .cons _ t => .cons r t
  | _, _, i + 1, .cons q t => .cons q (Reps.set r i t)
theorem Reps.take : ∀ {ds : List D} {vs : List V} (n : Nat), Reps K G ds vs → Reps K G (ds.take n) (vs.take n)
  | _, _, 0, _ => .nil
  | _, _, _ + 1, .nil => .nil
  | _, _, n + 1, .cons r t => .cons r (Reps.take n t)
theorem Reps.drop : ∀ {ds : List D} {vs : List V} (n : Nat), Reps K G ds vs → Reps K G (ds.drop n) (vs.drop n)
  | _, _, 0, r => r
  | _, _, _ + 1, .nil => .nil
  | _, _, n + 1, .cons _ t => Reps.drop n t
theorem Reps.reverse {ds : List D} {vs : List V} (r : Reps K G ds vs) : Reps K G ds.reverse vs.reverse := by
  induction ds generalizing vs with
  | nil => cases r; exact .nil
  | cons d ds ih =>
    cases r with
    | cons h t =>
      rw [List.reverse_cons, List.reverse_cons]
      exact (ih t).append (.one h)
theorem Reps.strs : ∀ {xs : List Str} {vs : List V}, Reps K G (xs.map D.str) vs → vs = xs.map V.str
  | [], _, r => by cases r; rfl
  | x :: xs, _, r => by
    cases r with
    | cons h t =>
      cases h
      rw [Reps.strs t]; rfl
theorem Reps.of_strs : ∀ (xs : List Str), Reps K G (xs.map D.str) (xs.map V.str)
  | [] => .nil
  | x :: xs => .cons (.str x) (Reps.of_strs xs)
theorem Reps.ints : ∀ {xs : List Int} {vs : List V}, Reps K G (xs.map D.int) vs → vs = xs.map V.int
  | [], _, r => by cases r; rfl
  | x :: xs, _, r => by
    cases r with
    | cons h t =>
      cases h
      rw [Reps.ints t]; rfl
theorem Reps.of_ints : ∀ (xs : List Int), Reps K G (xs.map D.int) (xs.map V.int)
  | [] => .nil
  | x :: xs => .cons (.int x) (Reps.of_ints xs)
theorem Reps.bls : ∀ {xs : List Bool} {vs : List V}, Reps K G (xs.map D.bl) vs → vs = xs.map V.bl
  | [], _, r => by cases r; rfl
  | x :: xs, _, r => by
    cases r with
    | cons h t =>
      cases h
      rw [Reps.bls t]; rfl
end
/-! ### mutable objects -/
inductive MO where
  | lst (ds : List D)
  | ins (C dx : Addr) (fs : List (Str × D))
  | dK (kvs : List (Key × D))
  | dT (kvs : List (List Key × D))
  | lkK (od : Obj) (vs : List (Key × V)) (kvs : List (Key × D))
  | lkT (od : Obj) (vs : List (List Key × V)) (kvs : List (List Key × D))
abbrev Mem := Addr → Option MO
def updM (M : Mem) (a : Addr) (o : MO) : Mem := fun b => if b = a then some o else M b
theorem updM_same {M : Mem} {a : Addr} {o : MO} : updM M a o a = some o := if_pos rfl
theorem updM_ne {M : Mem} {a b : Addr} {o : MO} (h : b ≠ a) : updM M a o b = M b := if_neg h
theorem updM_upd {M : Mem} {a : Addr} {o u : MO} : updM (updM M a o) a u = updM M a u := by
  funext b; unfold updM; split <;> rfl
theorem updM_self {M : Mem} {a : Addr} {o : MO} (h : M a = some o) : updM M a o = M := by
  funext b; unfold updM; split
  · rename_i e; rw [e, h]
  · rfl
theorem neM {M : Mem} {a b : Addr} {o : MO} (h : M a = some o) (h' : M b = none) : a ≠ b := by
  intro e; subst e; rw [h] at h'; cases h'
/-- keyed values -/
def RepKV {κ : Type} (K : PySem.W.Frag) (G : Hp) : List (κ × D) → List (κ × V) → Prop := Paired fun p q => p.1 = q.1 ∧ Rep K G p.2 q.2
def RepO (K : PySem.W.Frag) (G : Hp) : MO → HO → Prop
  | .lst ds, o => ∃ vs, o = .lst vs ∧ Reps K G ds vs
  | .ins C dx fs, o => ∃ vs, o = .ins C dx vs ∧ RepKV K G fs vs
  | .dK kvs, o => ∃ vs, o = .dK vs ∧ RepKV K G kvs vs
  | .dT kvs, o => ∃ vs, o = .dT vs ∧ RepKV K G kvs vs
  | .lkK od vs kvs, o => ∃ _u : Unit, o = .frz od (.dK vs) ∧ RepKV K G kvs vs
  | .lkT od vs kvs, o => ∃ _u : Unit, o = .frz od (.dT vs) ∧ RepKV K G kvs vs
theorem RepKV.mono {κ : Type} {K : PySem.W.Frag} {G G' : Hp} (e : Ex G G') {l : List (κ × D)} {m : List (κ × V)} (h : RepKV K G l m) : RepKV K G' l m := Paired.mapP h fun _ _ z => ⟨z.1, z.2.mono e⟩
theorem RepO.mono {K : PySem.W.Frag} {G G' : Hp} (e : Ex G G') : ∀ {m : MO} {o : HO}, RepO K G m o → RepO K G' m o
  | .lst _, _, ⟨vs, q, h⟩ => ⟨vs, q, Reps.mono e h⟩
  | .ins _ _ _, _, ⟨vs, q, h⟩ => ⟨vs, q, RepKV.mono e h⟩
  | .dK _, _, ⟨vs, q, h⟩ => ⟨vs, q, RepKV.mono e h⟩
  | .dT _, _, ⟨vs, q, h⟩ => ⟨vs, q, RepKV.mono e h⟩
  | .lkK _ _ _, _, ⟨vs, q, h⟩ => ⟨vs, q, RepKV.mono e h⟩
  | .lkT _ _ _, _, ⟨vs, q, h⟩ => ⟨vs, q, RepKV.mono e h⟩
/-- the frozen heap G and the mutable objects M lie in H -/
structure Wd (K : PySem.W.Frag) (G : Hp) (M : Mem) (H : Hp) : Prop where
  ex : Ex G H
  mem : ∀ a mo, M a = some mo → G a = none ∧ ∃ o, H a = some o ∧ RepO K G mo o
abbrev Rho := List (Option D)
def RepE (K : PySem.W.Frag) (G : Hp) : Option D → Option V → Prop
  | none, _ => True
  | some d, some v => Rep K G d v
  | some _, none => False
theorem RepE.mono {K : PySem.W.Frag} {G G' : Hp} (e : Ex G G') : ∀ {d : Option D} {v : Option V}, RepE K G d v → RepE K G' d v
  | none, _, _ => trivial
  | some _, some _, h => Rep.mono e h
abbrev RepR (K : PySem.W.Frag) (G : Hp) : Rho → L2.St → Prop := Paired (RepE K G)
section
variable {K : PySem.W.Frag} {G G' H H' : Hp} {M M' : Mem}
theorem RepR.mono (e : Ex G G') {ρ : Rho} {σ : L2.St} (h : RepR K G ρ σ) : RepR K G' ρ σ := Paired.mapP h fun _ _ z => z.mono e
theorem RepR.get : ∀ {ρ : Rho} {σ : L2.St} {i : Nat} {d : D}, RepR K G ρ σ → ρ[i]? = some (some d) → ∃ v, σ[i]? = some (some v) ∧ Rep K G d v
  | _, _, _, _, .nil, e => by simp at e
  | _, _, 0, d, .cons (a := x) (b := y) r _, e => by
    have e' : x = some d := by simpa using e
    subst e'
    cases y with
    | none => exact r.elim
    | some v => exact ⟨v, rfl, r⟩
  | _, _, i + 1, d, .cons _ t, e => by
    obtain ⟨v, h1, h2⟩ := RepR.get (i := i) (d := d) t (by simpa using e)
    exact ⟨v, by simpa using h1, h2⟩
theorem RepR.set {d : D} {v : V} (r : Rep K G d v) : ∀ {ρ : Rho} {σ : L2.St} (i : Nat), RepR K G ρ σ → RepR K G (ρ.set i (some d)) (σ.set i (some v))
  | _, _, _, .nil => .nil
  | _, _, 0, .cons _ t => .cons r t
  | _, _, i + 1, .cons q t => .cons q (RepR.set r i t)
theorem RepR.setN {x : Option V} : ∀ {ρ : Rho} {σ : L2.St} (i : Nat), RepR K G ρ σ → RepR K G (ρ.set i none) (σ.set i x)
  | _, _, _, .nil => .nil
  | _, _, 0, .cons _ t => .cons trivial t
  | _, _, i + 1, .cons q t => .cons q (RepR.setN i t)
theorem RepR.length : ∀ {ρ : Rho} {σ : L2.St}, RepR K G ρ σ → ρ.length = σ.length
  | _, _, .nil => rfl
  | _, _, .cons _ r => by rw [List.length_cons, List.length_cons, RepR.length r]
theorem Wd.frozen (h : Wd K G M H) {a : Addr} {o : HO} (e : G a = some o) : M a = none := by
  cases q : M a with
  | none => rfl
  | some mo => rw [(h.mem a mo q).1] at e; cases e
/-- a new frozen object -/
theorem Wd.newF (h : Wd K G M H) {p : Addr} {o : HO} (hp : H p = none) : Ex G (upd G p o) ∧ Wd K (upd G p o) M (upd H p o) := by
  have gp : G p = none := fresh_back h.ex hp
  refine ⟨Ex.new gp, ⟨fun a u e => ?_, fun a mo e => ?_⟩⟩
  · by_cases hb : a = p
    · subst hb; rw [upd_same] at e ⊢; exact e
    · rw [upd_ne hb] at e ⊢; exact h.ex a u e
  · obtain ⟨g, ob, ho, r⟩ := h.mem a mo e
    have ne : a ≠ p := ne_of_none ho hp
    exact ⟨by rw [upd_ne ne]; exact g, ob, by rw [upd_ne ne]; exact ho, RepO.mono (Ex.new gp) r⟩
/-- a new mutable object -/
theorem Wd.newM (h : Wd K G M H) {p : Addr} {o : HO} {mo : MO} (hp : H p = none) (r : RepO K G mo o) : M p = none ∧ Wd K G (updM M p mo) (upd H p o) := by
  have mp : M p = none := by
    cases q : M p with
    | none => rfl
    | some m => obtain ⟨_, ob, ho, _⟩ := h.mem p m q; rw [hp] at ho; cases ho
  refine ⟨mp, ⟨Ex.mut h.ex (fresh_back h.ex hp), fun a m e => ?_⟩⟩
  by_cases hb : a = p
  · subst hb; rw [updM_same] at e; cases e
    exact ⟨fresh_back h.ex hp, o, upd_same, r⟩
  · rw [updM_ne hb] at e
    obtain ⟨g, ob, ho, r'⟩ := h.mem a m e
    exact ⟨g, ob, by rw [upd_ne hb]; exact ho, r'⟩
/-- a mutable object written -/
theorem Wd.put (h : Wd K G M H) {p : Addr} {o : HO} {m0 mo : MO} (hp : M p = some m0) (r : RepO K G mo o) : Wd K G (updM M p mo) (upd H p o) := by
  have gp := (h.mem p m0 hp).1
  refine ⟨Ex.mut h.ex gp, fun a m e => ?_⟩
  by_cases hb : a = p
  · subst hb; rw [updM_same] at e; cases e
    exact ⟨gp, o, upd_same, r⟩
  · rw [updM_ne hb] at e
    obtain ⟨g, ob, ho, r'⟩ := h.mem a m e
    exact ⟨g, ob, by rw [upd_ne hb]; exact ho, r'⟩
theorem Wd.lst (h : Wd K G M H) {p : Addr} {ds : List D} (hp : M p = some (.lst ds)) : ∃ vs, H p = some (.lst vs) ∧ Reps K G ds vs := by
  obtain ⟨_, o, ho, vs, rfl, r⟩ := h.mem p _ hp
  exact ⟨vs, ho, r⟩
theorem Wd.dKo (h : Wd K G M H) {p : Addr} {kvs : List (Key × D)} (hp : M p = some (.dK kvs)) : ∃ vs, H p = some (.dK vs) ∧ RepKV K G kvs vs := by
  obtain ⟨_, o, ho, vs, rfl, r⟩ := h.mem p _ hp
  exact ⟨vs, ho, r⟩
theorem Wd.dTo (h : Wd K G M H) {p : Addr} {kvs : List (List Key × D)} (hp : M p = some (.dT kvs)) : ∃ vs, H p = some (.dT vs) ∧ RepKV K G kvs vs := by
  obtain ⟨_, o, ho, vs, rfl, r⟩ := h.mem p _ hp
  exact ⟨vs, ho, r⟩
theorem Wd.inso (h : Wd K G M H) {p C dx : Addr} {fs : List (Str × D)} (hp : M p = some (.ins C dx fs)) : ∃ vs, H p = some (.ins C dx vs) ∧ RepKV K G fs vs := by
  obtain ⟨_, o, ho, vs, rfl, r⟩ := h.mem p _ hp
  exact ⟨vs, ho, r⟩
/-- fewer mutable objects -/
theorem Wd.less (h : Wd K G M H) (hm : ∀ a mo, M' a = some mo → M a = some mo) : Wd K G M' H := ⟨h.ex, fun a mo e => h.mem a mo (hm a mo e)⟩
end
/-- how the world goes on: what is frozen stays, what nobody knows here stays -/
structure Go (G : Hp) (M : Mem) (H : Hp) (G' : Hp) (M' : Mem) (H' : Hp) : Prop where
  ex : Ex G G'
  fk : ∀ b o, (∀ xs, o ≠ .tup xs) → H b = some o → M b = none → G b = none → G' b = none ∧ M' b = none ∧ H' b = some o
theorem Go.refl (G : Hp) (M : Mem) (H : Hp) : Go G M H G M H := ⟨Ex.refl G, fun _ _ _ h m g => ⟨g, m, h⟩⟩
theorem Go.trans {G G1 G2 H H1 H2 : Hp} {M M1 M2 : Mem} (a : Go G M H G1 M1 H1) (b : Go G1 M1 H1 G2 M2 H2) : Go G M H G2 M2 H2 :=
  ⟨a.ex.trans b.ex, fun c o nt h m g => by
    obtain ⟨g1, m1, h1⟩ := a.fk c o nt h m g
    exact b.fk c o nt h1 m1 g1⟩
section
variable {K : PySem.W.Frag} {G H : Hp} {M : Mem}
theorem Wd.goF (h : Wd K G M H) {p : Addr} {o : HO} (hp : H p = none) : Go G M H (upd G p o) M (upd H p o) :=
  ⟨(h.newF hp).1, fun b u nt e m g => by
    have ne := ne_of_none e hp
    exact ⟨by rw [upd_ne ne]; exact g, m, by rw [upd_ne ne]; exact e⟩⟩
theorem Wd.goM (h : Wd K G M H) {p : Addr} {o : HO} {mo : MO} (hp : H p = none) : Go G M H G (updM M p mo) (upd H p o) :=
  ⟨Ex.refl G, fun b u nt e m g => by
    have ne := ne_of_none e hp
    exact ⟨g, by rw [updM_ne ne]; exact m, by rw [upd_ne ne]; exact e⟩⟩
theorem Wd.goP (h : Wd K G M H) {p : Addr} {o : HO} {m0 mo : MO} (hp : M p = some m0) : Go G M H G (updM M p mo) (upd H p o) :=
  ⟨Ex.refl G, fun b u nt e m g => by
    have ne : b ≠ p := fun z => by rw [z, hp] at m; cases m
    exact ⟨g, by rw [updM_ne ne]; exact m, by rw [upd_ne ne]; exact e⟩⟩
end
/-- tuples that stand are frozen -/
def gTup (G H : Hp) : Hp := fun a => match H a with
  | some (.tup xs) => some (.tup xs)
  | _ => G a
theorem gTup_ex {K : PySem.W.Frag} {G H : Hp} {M : Mem} (h : Wd K G M H) : Ex G (gTup G H) := fun a o e => by
  have e2 := h.ex a o e
  unfold gTup
  split
  · rename_i xs q
    rw [e2] at q
    exact q.symm
  · exact e
theorem gTup_at {G H : Hp} {a : Addr} {xs : List V} (e : H a = some (.tup xs)) : gTup G H a = some (.tup xs) := by
  unfold gTup
  rw [e]
theorem gTup_no {G H : Hp} {a : Addr} (e : ∀ xs, H a ≠ some (.tup xs)) : gTup G H a = G a := by
  unfold gTup
  split
  · rename_i xs q; exact absurd q (e xs)
  · rfl
theorem Wd.tups {K : PySem.W.Frag} {G H : Hp} {M : Mem} (h : Wd K G M H) : Wd K (gTup G H) M H ∧ Go G M H (gTup G H) M H := by
  have nt : ∀ a mo, M a = some mo → ∀ xs, H a ≠ some (.tup xs) := fun a mo e xs q => by
    obtain ⟨_, o, ho, r⟩ := h.mem a mo e
    rw [ho] at q
    cases q
    cases mo <;> (obtain ⟨_, z, _⟩ := r; cases z)
  refine ⟨⟨fun a o e => ?_, fun a mo e => ?_⟩, ⟨gTup_ex h, fun b o nb e m g => ⟨?_, m, e⟩⟩⟩
  · unfold gTup at e
    split at e
    · rename_i xs q; cases e; exact q
    · exact h.ex a o e
  · obtain ⟨g, o, ho, r⟩ := h.mem a mo e
    exact ⟨by rw [gTup_no (nt a mo e)]; exact g, o, ho, RepO.mono (gTup_ex h) r⟩
  · rw [gTup_no]
    · exact g
    · intro xs q
      rw [e] at q
      exact nb xs (Option.some.inj q)
/-! ### settling: some mutable objects are forgotten, data that names them is frozen -/
mutual
/-- d, which names objects of M that M' does not have, seen frozen as d' -/
inductive Frz (M M' : Mem) : D → D → Prop
  | refl (d : D) : Frz M M' d d
  | lst {a : Addr} {ds es : List D} : M a = some (.lst ds) → M' a = none → Frzs M M' ds es → Frz M M' (.ptr a) (.lst es)
  | ins {a C dx : Addr} {fs : List (Str × D)} {ns : List Str} {es : List D} : M a = some (.ins C dx fs) → M' a = none → fs.map (·.1) = ns → Frzs M M' (fs.map (·.2)) es → Frz M M' (.ptr a) (.ins C ns es)
  | dK {a : Addr} {kvs : List (Key × D)} {ks : List Key} {es : List D} : M a = some (.dK kvs) → M' a = none → kvs.map (·.1) = ks → Frzs M M' (kvs.map (·.2)) es → Frz M M' (.ptr a) (.dK ks es)
  | dT {a : Addr} {kvs : List (List Key × D)} {ks : List (List Key)} {es : List D} : M a = some (.dT kvs) → M' a = none → kvs.map (·.1) = ks → Frzs M M' (kvs.map (·.2)) es → Frz M M' (.ptr a) (.dT ks es)
  | dl {ds es : List D} : Frzs M M' ds es → Frz M M' (.lst ds) (.lst es)
  | dt {ds es : List D} : Frzs M M' ds es → Frz M M' (.tup ds) (.tup es)
  | di {C : Addr} {ns : List Str} {ds es : List D} : Frzs M M' ds es → Frz M M' (.ins C ns ds) (.ins C ns es)
inductive Frzs (M M' : Mem) : List D → List D → Prop
  | nil : Frzs M M' [] []
  | cons {d e : D} {ds es : List D} : Frz M M' d e → Frzs M M' ds es → Frzs M M' (d :: ds) (e :: es)
end
theorem Frzs.refl {M M' : Mem} : ∀ ds : List D, Frzs M M' ds ds
  | [] => .nil
  | d :: ds => .cons (.refl d) (Frzs.refl ds)
/-- the frozen heap behind -/
def gFrz (M M' : Mem) (G H : Hp) : Hp := fun a => if (M a).isSome && (M' a).isNone then H a else G a
section
variable {K : PySem.W.Frag} {G H : Hp} {M M' : Mem}
theorem gFrz_ex (h : Wd K G M H) : Ex G (gFrz M M' G H) := fun a o e => by
  unfold gFrz
  rw [h.frozen e]
  exact e
theorem gFrz_at {a : Addr} {mo : MO} (e : M a = some mo) (e' : M' a = none) : gFrz M M' G H a = H a := by
  unfold gFrz
  rw [e, e'] <;> rfl
theorem Wd.settle (h : Wd K G M H) (hm : ∀ a mo, M' a = some mo → M a = some mo) : Wd K (gFrz M M' G H) M' H := by
  refine ⟨fun a o e => ?_, fun a mo e => ?_⟩
  · unfold gFrz at e
    split at e
    · exact e
    · exact h.ex a o e
  · obtain ⟨g, o, ho, r⟩ := h.mem a mo (hm a mo e)
    refine ⟨?_, o, ho, RepO.mono (gFrz_ex h) r⟩
    unfold gFrz
    rw [e]
    simpa using g
theorem Wd.goZ {G0 H0 : Hp} {M0 : Mem} (h : Wd K G M H) (g : Go G0 M0 H0 G M H) (hm : ∀ a mo, M' a = some mo → M a = some mo) : Go G0 M0 H0 (gFrz M M' G H) M' H :=
  ⟨g.ex.trans (gFrz_ex h), fun b o nt e m gg => by
    obtain ⟨g1, m1, h1⟩ := g.fk b o nt e m gg
    refine ⟨?_, ?_, h1⟩
    · unfold gFrz
      rw [m1]
      simpa using g1
    · cases q : M' b with
      | none => rfl
      | some mo => rw [hm b mo q] at m1; cases m1⟩
theorem RepKV.fst {κ : Type} : ∀ {l : List (κ × D)} {m : List (κ × V)}, RepKV K G l m → m.map (·.1) = l.map (·.1)
  | _, _, .nil => rfl
  | _, _, .cons h t => by rw [List.map_cons, List.map_cons, h.1, RepKV.fst t]
theorem RepKV.snd {κ : Type} : ∀ {l : List (κ × D)} {m : List (κ × V)}, RepKV K G l m → Reps K G (l.map (·.2)) (m.map (·.2))
  | _, _, .nil => .nil
  | _, _, .cons h t => .cons h.2 (RepKV.snd t)
mutual
theorem Frz.rep (h : Wd K G M H) : ∀ {d e : D} {v : V}, Frz M M' d e → Rep K G d v → Rep K (gFrz M M' G H) e v
  | _, _, _, .refl d, r => r.mono (gFrz_ex h)
  | _, _, _, .lst e e' q, r => by
    cases r
    obtain ⟨vs, hv, r⟩ := h.lst e
    exact .lst (by rw [gFrz_at e e']; exact hv) (Frzs.reps h q r)
  | _, _, _, .ins e e' hn q, r => by
    cases r
    obtain ⟨vs, hv, r⟩ := h.inso e
    exact .ins (by rw [gFrz_at e e']; exact hv) (r.fst.trans hn) (Frzs.reps h q r.snd)
  | _, _, _, .dK e e' hn q, r => by
    cases r
    obtain ⟨vs, hv, r⟩ := h.dKo e
    exact .dK (by rw [gFrz_at e e']; exact hv) (r.fst.trans hn) (Frzs.reps h q r.snd)
  | _, _, _, .dT e e' hn q, r => by
    cases r
    obtain ⟨vs, hv, r⟩ := h.dTo e
    exact .dT (by rw [gFrz_at e e']; exact hv) (r.fst.trans hn) (Frzs.reps h q r.snd)
  | _, _, _, .dl q, r => by
    cases r with
    | lst hg r => exact .lst (gFrz_ex h _ _ hg) (Frzs.reps h q r)
  | _, _, _, .dt q, r => by
    cases r with
    | tup hg r => exact .tup (gFrz_ex h _ _ hg) (Frzs.reps h q r)
  | _, _, _, .di q, r => by
    cases r with
    | ins hg hn r => exact .ins (gFrz_ex h _ _ hg) hn (Frzs.reps h q r)
theorem Frzs.reps (h : Wd K G M H) : ∀ {ds es : List D} {vs : List V}, Frzs M M' ds es → Reps K G ds vs → Reps K (gFrz M M' G H) es vs
  | _, _, _, .nil, r => by cases r; exact .nil
  | _, _, _, .cons f fs, r => by
    cases r with
    | cons r rs => exact .cons (Frz.rep h f r) (Frzs.reps h fs rs)
end
end
end Dl
noncomputable section
namespace Dl
open PySem PySem.Spec PyProof.Rows L2 Evl
/-! ### judgements -/
abbrev KD := D → Mem → Prop
abbrev FE := Rho → Mem → KD → Prop
abbrev FT := Rho → Mem → (Bool → Mem → Prop) → Prop
abbrev FA := Rho → Mem → (List D → Mem → Prop) → Prop
structure KS where
  nx : Rho → Mem → Prop
  rt : KD
  bk : Rho → Mem → Prop := fun _ _ => False
  ct : Rho → Mem → Prop := fun _ _ => False
abbrev FSt := KS → Rho → Mem → Prop
/-- what a context wants of exceptions, told by data -/
structure Yx where
  X : Cx
  G0 : Hp
  M0 : Mem
  H0 : Hp
  E : L2.St → XK
  pass : ∀ σ, PassesAt (L2.CX X.prog X.w) X σ (E σ)
  KX : Addr → D → Rho → Mem → Prop
  link : ∀ (ρ : Rho) (M : Mem) (G : Hp) (σ : L2.St) (H : Hp) (C dx : Addr) (d : D) (v : V), Go G0 M0 H0 G M H → Wd X.K G M H → RepR X.K G ρ σ → H dx = some (.xd [("value", v)]) → Rep X.K G d v → KX C d ρ M → E σ (.ref C) (some dx) H
/-- the state of a context -/
structure At (Y : Yx) (G : Hp) (ρ : Rho) (M : Mem) (σ : L2.St) (H : Hp) : Prop where
  go : Go Y.G0 Y.M0 Y.H0 G M H
  wd : Wd Y.X.K G M H
  rr : RepR Y.X.K G ρ σ
/-- what follows an expression -/
abbrev Kon (K : PySem.W.Frag) (G : Hp) (M : Mem) (H : Hp) (Kp : KD) (Q : VK) : Prop := ∀ d M' G' H' v, Go G M H G' M' H' → Wd K G' M' H' → Rep K G' d v → Kp d M' → Q v H'
def SimE (Y : Yx) (t : TE) (φ : FE) : Prop := ∀ ρ M Kp G σ H Q, At Y G ρ M σ H → φ ρ M Kp → Kon Y.X.K G M H Kp Q → t σ H Q
def SimT (Y : Yx) (t : TT) (φ : FT) : Prop := ∀ ρ M Kp G σ H (Q : Bool → Hp → Prop), At Y G ρ M σ H → φ ρ M Kp → (∀ b M' G' H', Go G M H G' M' H' → Wd Y.X.K G' M' H' → Kp b M' → Q b H') → t σ H Q
def SimA (Y : Yx) (t : TA) (φ : FA) : Prop := ∀ ρ M Kp G σ H (Q : List V → Hp → Prop), At Y G ρ M σ H → φ ρ M Kp → (∀ ds M' G' H' vs, Go G M H G' M' H' → Wd Y.X.K G' M' H' → Reps Y.X.K G' ds vs → Kp ds M' → Q vs H') → t σ H Q
abbrev KonS (Y : Yx) (G : Hp) (M : Mem) (H : Hp) (Kp : Rho → Mem → Prop) (Q : L2.St → Hp → Prop) : Prop := ∀ ρ' M' G' σ' H', Go G M H G' M' H' → Wd Y.X.K G' M' H' → RepR Y.X.K G' ρ' σ' → Kp ρ' M' → Q σ' H'
structure KOk (Y : Yx) (G : Hp) (M : Mem) (H : Hp) (KK : KS) (E : Ends) : Prop where
  nx : KonS Y G M H KK.nx E.nx
  rt : Kon Y.X.K G M H KK.rt E.rt
  bk : KonS Y G M H KK.bk E.bk
  ct : KonS Y G M H KK.ct E.ct
theorem KOk.mono {Y : Yx} {G G' H H' : Hp} {M M' : Mem} {KK : KS} {E : Ends} (k : KOk Y G M H KK E) (e : Go G M H G' M' H') : KOk Y G' M' H' KK E :=
  ⟨fun ρ M G2 σ H e2 => k.nx ρ M G2 σ H (e.trans e2), fun d M G2 H v e2 => k.rt d M G2 H v (e.trans e2), fun ρ M G2 σ H e2 => k.bk ρ M G2 σ H (e.trans e2), fun ρ M G2 σ H e2 => k.ct ρ M G2 σ H (e.trans e2)⟩
theorem At.step {Y : Yx} {G G' H H' : Hp} {M M' : Mem} {ρ : Rho} {σ : L2.St} (a : At Y G ρ M σ H) (g : Go G M H G' M' H') (w : Wd Y.X.K G' M' H') : At Y G' ρ M' σ H' := ⟨a.go.trans g, w, a.rr.mono g.ex⟩
theorem At.stepS {Y : Yx} {G G' H H' : Hp} {M M' : Mem} {ρ ρ' : Rho} {σ σ' : L2.St} (a : At Y G ρ M σ H) (g : Go G M H G' M' H') (w : Wd Y.X.K G' M' H') (r : RepR Y.X.K G' ρ' σ') : At Y G' ρ' M' σ' H' := ⟨a.go.trans g, w, r⟩
def SimS (Y : Yx) (t : TS) (φ : FSt) : Prop := ∀ ρ M KK G σ H E, At Y G ρ M σ H → φ KK ρ M → KOk Y G M H KK E → t E σ H
structure DE (Y : Yx) (e : Expr) (φ : FE) where
  t : TE
  p : PE Y.X e t
  s : SimE Y t φ
structure DT (Y : Yx) (e : Expr) (φ : FT) where
  t : TT
  p : PT Y.X e t
  s : SimT Y t φ
structure DW (Y : Yx) (e : Expr) (φ : FT) where
  t : TT
  p : PW Y.X e t
  s : SimT Y t φ
structure DA (Y : Yx) (es : List Expr) (φ : FA) where
  t : TA
  p : PA Y.X es t
  s : SimA Y t φ
structure DS (Y : Yx) (st : Stmt) (φ : FSt) where
  t : TS
  p : PS Y.X st t
  s : SimS Y t φ
structure DSs (Y : Yx) (st : List Stmt) (φ : FSt) where
  t : TS
  p : PSs Y.X st t
  s : SimS Y t φ
/-! ### names, constants -/
section
variable {Y : Yx} {pos : Pos}
def dVar (i : Nat) : FE := fun ρ M Kp => match ρ[i]? with
  | some (some d) => Kp d M
  | _ => False
def dC (d : D) : FE := fun _ M Kp => Kp d M
theorem simC {v : V} {d : D} (h : ∀ G, Rep Y.X.K G d v) : SimE Y (tC v) (dC d) := fun ρ M Kp G σ H Q a h' k => k d M G H v (Go.refl G M H) a.wd (h G) h'
def de_var (i : Nat) {x : Str} (hN : Y.X.N[i]? = some x := by rfl) (hv : Vis Y.X.env.scope x := by first | exact Or.inl rfl | exact Or.inr (Or.inl rfl) | exact Or.inr (Or.inr rfl)) (hd : (x == ("__debug__" : Str)) = false := by decide)
    (hcd : (x == ("__classdict__" : Str)) = false := by decide) : DE Y (.Name x pos) (dVar i) := by
  refine ⟨tVar i, pe_var hN hv hd hcd, fun ρ M Kp G σ H Q a h k => ?_⟩
  unfold dVar at h
  split at h
  · rename_i d e
    obtain ⟨v, e1, r1⟩ := a.rr.get e
    exact ⟨v, e1, k d M G H v (Go.refl G M H) a.wd r1 h⟩
  · exact h.elim
def de_int {i : Int} {j} : DE Y (.Constant (.int i) j pos) (dC (.int i)) := ⟨_, pe_int, simC fun _ => .int i⟩
def de_bl {b : Bool} {j} : DE Y (.Constant (.bool b) j pos) (dC (.bl b)) := ⟨_, pe_bl, simC fun _ => .bl b⟩
def de_non {j} : DE Y (.Constant .none j pos) (dC .non) := ⟨_, pe_non, simC fun _ => .non⟩
def de_str {x : Str} {j} : DE Y (.Constant (.str x) j pos) (dC (.str x)) := ⟨_, pe_str, simC fun _ => .str x⟩
def de_glob {x : Str} {v : V} {u : Value} {d : D} (hg : Gl Y.X x) (hm : Y.X.mg x = some u) (r : RelV v u) (hd : ∀ G, Rep Y.X.K G d v) (hdb : (x == ("__debug__" : Str)) = false := by decide) : DE Y (.Name x pos) (dC d) := ⟨_, pe_glob hg hm r hdb, simC hd⟩
end
/-! ### operators -/
abbrev F2 := D → D → Mem → KD → Prop
def Lift2 (K : PySem.W.Frag) (r : R2) (δ : F2) : Prop := ∀ x y M Kp G H vx vy Q, Wd K G M H → Rep K G x vx → Rep K G y vy → δ x y M Kp → Kon K G M H Kp Q → r vx vy H Q
abbrev F1 := D → Mem → KD → Prop
def Lift1 (K : PySem.W.Frag) (r : V → Hp → VK → Prop) (δ : F1) : Prop := ∀ x M Kp G H vx Q, Wd K G M H → Rep K G x vx → δ x M Kp → Kon K G M H Kp Q → r vx H Q
abbrev FN := List D → Mem → KD → Prop
def LiftN (K : PySem.W.Frag) (r : List V → Hp → VK → Prop) (δ : FN) : Prop := ∀ xs M Kp G H vs Q, Wd K G M H → Reps K G xs vs → δ xs M Kp → Kon K G M H Kp Q → r vs H Q
def dOp (δ : F2) (φ ψ : FE) : FE := fun ρ M Kp => φ ρ M fun x M1 => ψ ρ M1 fun y M2 => δ x y M2 Kp
def dUn (δ : F1) (φ : FE) : FE := fun ρ M Kp => φ ρ M fun x M1 => δ x M1 Kp
theorem Kon.mono {K : PySem.W.Frag} {G G' H H' : Hp} {M M' : Mem} {Kp : KD} {Q : VK} (k : Kon K G M H Kp Q) (g : Go G M H G' M' H') : Kon K G' M' H' Kp Q := fun d M2 G2 H2 v e => k d M2 G2 H2 v (g.trans e)
section
variable {Y : Yx} {pos : Pos} {a b c : Expr} {φ ψ χ : FE} {δ δ' : F2}
theorem simOp {r : R2} {ta tb : TE} (hl : Lift2 Y.X.K r δ) (ha : SimE Y ta φ) (hb : SimE Y tb ψ) : SimE Y (tOp r ta tb) (dOp δ φ ψ) := fun ρ M Kp G σ H Q a h k =>
  ha ρ M _ G σ H _ a h fun x M1 G1 H1 vx e1 w1 r1 h1 => hb ρ M1 _ G1 σ H1 _ (a.step e1 w1) h1 fun y M2 G2 H2 vy e2 w2 r2 h2 =>
    hl x y M2 Kp G2 H2 vx vy Q w2 (r1.mono e2.ex) r2 h2 (Kon.mono (Kon.mono k e1) e2)
theorem simUn {r : V → Hp → VK → Prop} {ta : TE} {δ : F1} (hl : Lift1 Y.X.K r δ) (ha : SimE Y ta φ) : SimE Y (tUn r ta) (dUn δ φ) := fun ρ M Kp G σ H Q a h k =>
  ha ρ M _ G σ H _ a h fun x M1 G1 H1 vx e1 w1 r1 h1 => hl x M1 Kp G1 H1 vx Q w1 r1 h1 (Kon.mono k e1)
def de_op {op : Operator} {r : R2} (ho : OpR Y.X (binaryOp op) r) (hl : Lift2 Y.X.K r δ) (ha : DE Y a φ) (hb : DE Y b ψ) : DE Y (.BinOp a op b pos) (dOp δ φ ψ) := by
  obtain ⟨ta, pa, sa⟩ := ha
  obtain ⟨tb, pb, sb⟩ := hb
  exact ⟨_, pe_op ho pa pb, simOp hl sa sb⟩
def de_un {op : UnaryOp} {r : V → Hp → VK → Prop} {δ : F1} (ho : UnR Y.X (unaryOp op) r) (hl : Lift1 Y.X.K r δ) (ha : DE Y a φ) : DE Y (.UnaryOp op a pos) (dUn δ φ) := by
  obtain ⟨ta, pa, sa⟩ := ha
  exact ⟨_, pe_un ho pa, simUn hl sa⟩
def de_cmp {op : CmpOp} {r : R2} (ho : OpR Y.X (compareOp op) r) (hl : Lift2 Y.X.K r δ) (ha : DE Y a φ) (hb : DE Y b ψ) (hm : behindInMarks op b = false) : DE Y (.Compare a [op] [b] pos) (dOp δ φ ψ) := by
  obtain ⟨ta, pa, sa⟩ := ha
  obtain ⟨tb, pb, sb⟩ := hb
  exact ⟨_, pe_cmpR ho pa pb hm, simOp hl sa sb⟩
def kTest (Kp : Bool → Mem → Prop) : KD := fun d M1 => match d with
  | .bl b => Kp b M1
  | _ => False
def dTest (φ : FE) : FT := fun ρ M Kp => φ ρ M (kTest Kp)
theorem simTest {t : TE} (h : SimE Y t φ) : SimT Y (tTest t) (dTest φ) := fun ρ M Kp G σ H Q a hh k =>
  h ρ M _ G σ H _ a hh fun d M' G' H' v e w' r q => by
    cases d with
    | bl b => cases r; exact ⟨b, rfl, k b M' G' H' e w' q⟩
    | _ => exact q.elim
def dt_cmp {op : CmpOp} {r : R2} (ho : OpR Y.X (compareOp op) r) (hl : Lift2 Y.X.K r δ) (ha : DE Y a φ) (hb : DE Y b ψ) (hm : behindInMarks op b = false) : DT Y (.Compare a [op] [b] pos) (dTest (dOp δ φ ψ)) := by
  obtain ⟨ta, pa, sa⟩ := ha
  obtain ⟨tb, pb, sb⟩ := hb
  exact ⟨_, pt_cmpR ho pa pb hm, simTest (simOp hl sa sb)⟩
/-- an expression whose value is a bool, as a test -/
def dt_val (h : DE Y a φ) (he : ∀ whole, isTrue a Y.X.env whole = (do let v ← whole; standAt a.pos; holding [v] (truthy v)) := by intro _; rfl) : DT Y a (dTest φ) := by
  obtain ⟨t, p, s⟩ := h
  exact ⟨_, pt_val p he, simTest s⟩
/-! #### chains -/
def kChain (δ' : F2) (χ : FE) (ρ : Rho) (y : D) (Kp : KD) : KD := fun z M3 => match z with
  | .bl true => χ ρ M3 fun u M4 => δ' y u M4 Kp
  | .bl false => Kp (.bl false) M3
  | _ => False
def dChain (δ δ' : F2) (φ ψ χ : FE) : FE := fun ρ M Kp => φ ρ M fun x M1 => ψ ρ M1 fun y M2 => δ x y M2 (kChain δ' χ ρ y Kp)
theorem simChain {r r' : R2} {ta tb tc : TE} (hl : Lift2 Y.X.K r δ) (hl' : Lift2 Y.X.K r' δ') (ha : SimE Y ta φ) (hb : SimE Y tb ψ) (hc : SimE Y tc χ) : SimE Y (tChain r r' ta tb tc) (dChain δ δ' φ ψ χ) := fun ρ M Kp G σ H Q a h k =>
  ha ρ M _ G σ H _ a h fun x M1 G1 H1 vx e1 w1 r1 h1 => hb ρ M1 _ G1 σ H1 _ (a.step e1 w1) h1 fun y M2 G2 H2 vy e2 w2 r2 h2 =>
    hl x y M2 _ G2 H2 vx vy _ w2 (r1.mono e2.ex) r2 h2 fun z M3 G3 H3 vz e3 w3 r3 h3 => by
      have e13 := (e1.trans e2).trans e3
      cases z with
      | bl t =>
        cases r3
        refine ⟨t, rfl, ?_⟩
        cases t with
        | true =>
          refine iteT ?_
          exact hc ρ M3 _ G3 σ H3 _ (a.step e13 w3) h3 fun u M4 G4 H4 vu e4 w4 r4 h4 => hl' y u M4 Kp G4 H4 vy vu Q w4 (r2.mono (e3.trans e4).ex) r4 h4 (Kon.mono k (e13.trans e4))
        | false =>
          refine iteF ?_
          exact k (.bl false) M3 G3 H3 _ e13 w3 (.bl false) h3
      | _ => exact h3.elim
def de_chain {op op' : CmpOp} {r r' : R2} (ho : OpR Y.X (compareOp op) r) (hl : Lift2 Y.X.K r δ) (ho' : OpR Y.X (compareOp op') r') (hl' : Lift2 Y.X.K r' δ') (ha : DE Y a φ) (hb : DE Y b ψ) (hc : DE Y c χ)
    (hm : lastMarks [op, op'] [b, c] = false := by with_unfolding_all rfl) : DE Y (.Compare a [op, op'] [b, c] pos) (dChain δ δ' φ ψ χ) := by
  obtain ⟨ta, pa, sa⟩ := ha
  obtain ⟨tb, pb, sb⟩ := hb
  obtain ⟨tc, pc, sc⟩ := hc
  exact ⟨_, pe_chain ho ho' pa pb pc hm, simChain hl hl' sa sb sc⟩
def dt_chain {op op' : CmpOp} {r r' : R2} (ho : OpR Y.X (compareOp op) r) (hl : Lift2 Y.X.K r δ) (ho' : OpR Y.X (compareOp op') r') (hl' : Lift2 Y.X.K r' δ') (ha : DE Y a φ) (hb : DE Y b ψ) (hc : DE Y c χ)
    (hm : lastMarks [op, op'] [b, c] = false := by with_unfolding_all rfl) : DT Y (.Compare a [op, op'] [b, c] pos) (dTest (dChain δ δ' φ ψ χ)) := by
  obtain ⟨ta, pa, sa⟩ := ha
  obtain ⟨tb, pb, sb⟩ := hb
  obtain ⟨tc, pc, sc⟩ := hc
  exact ⟨_, pt_chain ho ho' pa pb pc hm, simTest (simChain hl hl' sa sb sc)⟩
end
/-! ### views -/
def viewL (M : Mem) : D → Option (List D)
  | .lst ds => some ds
  | .ptr a => (match M a with
    | some (.lst ds) => some ds
    | _ => none)
  | _ => none
theorem Wd.viewL {K : PySem.W.Frag} {G H : Hp} {M : Mem} (h : Wd K G M H) {d : D} {v : V} {ds : List D} (r : Rep K G d v) (e : Dl.viewL M d = some ds) : ∃ a vs, v = .ref a ∧ H a = some (.lst vs) ∧ Reps K G ds vs := by
  unfold Dl.viewL at e
  split at e
  · cases e
    cases r with
    | lst hg r => exact ⟨_, _, rfl, h.ex _ _ hg, r⟩
  · rename_i a
    cases r
    split at e
    · rename_i ds' hm
      cases e
      obtain ⟨vs, hv, r⟩ := h.lst hm
      exact ⟨_, _, rfl, hv, r⟩
    · cases e
  · cases e
theorem viewL_new {M : Mem} {p : Addr} {mo : MO} {d : D} {ds : List D} (hp : M p = none) (e : viewL M d = some ds) : viewL (updM M p mo) d = some ds := by
  unfold viewL at e ⊢
  split at e
  · exact e
  · rename_i a
    have ne : a ≠ p := fun z => by subst z; rw [hp] at e; cases e
    rw [updM_ne ne]
    exact e
  · cases e
/-- a new list, to be changed later (m) or not -/
def newL (m : Bool) (ds : List D) (M : Mem) (Kp : KD) : Prop := match m with
  | true => ∀ p, M p = none → Kp (.ptr p) (updM M p (.lst ds))
  | false => Kp (.lst ds) M
theorem newL_ok {K : PySem.W.Frag} {G H : Hp} {M : Mem} {m : Bool} {ds : List D} {vs : List V} {Kp : KD} {Q : VK} {p : Addr} (w : Wd K G M H) (hp : H p = none) (r : Reps K G ds vs) (h : newL m ds M Kp) (k : Kon K G M H Kp Q) : Q (.ref p) (upd H p (.lst vs)) := by
  cases m with
  | true =>
    obtain ⟨mp, w'⟩ := w.newM (mo := .lst ds) hp ⟨vs, rfl, r⟩
    exact k (.ptr p) _ G _ _ (w.goM hp) w' (.ptr p) (h p mp)
  | false =>
    obtain ⟨e, w'⟩ := w.newF (o := .lst vs) hp
    exact k (.lst ds) M _ _ _ (w.goF hp) w' (.lst upd_same (r.mono e)) h
end Dl
end
noncomputable section
namespace Dl
open PySem PySem.Spec PyProof.Rows L2 Evl
/-! ### arithmetic -/
def δAdd (m : Bool) : F2 := fun x y M Kp => match x with
  | .int i => (match y with | .int j => Kp (.int (i + j)) M | _ => False)
  | .str i => (match y with | .str j => i.length + j.length ≤ sizeLine ∧ Kp (.str (i ++ j)) M | _ => False)
  | x => ∃ a b, viewL M x = some a ∧ viewL M y = some b ∧ a.length + b.length ≤ sizeLine ∧ newL m (a ++ b) M Kp
def δI (C : Int → Int → Prop) (g : Int → Int → D) : F2 := fun x y M Kp => match x with
  | .int i => (match y with | .int j => C i j ∧ Kp (g i j) M | _ => False)
  | _ => False
def δI0 (g : Int → Int → D) : F2 := fun x y M Kp => match x with
  | .int i => (match y with | .int j => Kp (g i j) M | _ => False)
  | _ => False
section
variable {K : PySem.W.Frag} {X : Cx}
abbrev rAddAny : R2 := fun x y H Q => (∃ i j, x = .int i ∧ y = .int j ∧ Q (.int (i + j)) H) ∨ (∃ i j, x = .str i ∧ y = .str j ∧ i.length + j.length ≤ sizeLine ∧ Q (.str (i ++ j)) H) ∨ rCat x y H Q
theorem op_addAny : OpR X (binaryOp .Add) rAddAny := op_add.or (op_add_str.or op_cat)
theorem add_list {m : Bool} {x y : D} {M : Mem} {Kp : KD} {G H : Hp} {vx vy : V} {Q : VK} (w : Wd K G M H) (rx : Rep K G x vx) (ry : Rep K G y vy)
    (h : ∃ a b, viewL M x = some a ∧ viewL M y = some b ∧ a.length + b.length ≤ sizeLine ∧ newL m (a ++ b) M Kp) (k : Kon K G M H Kp Q) : rCat vx vy H Q := by
  obtain ⟨a, b, h1, h2, hz, h⟩ := h
  obtain ⟨p, vs, rfl, hp, r1⟩ := w.viewL rx h1
  obtain ⟨q, ws, rfl, hq, r2⟩ := w.viewL ry h2
  refine ⟨p, q, vs, ws, rfl, rfl, hp, hq, by rw [← r1.length, ← r2.length]; exact hz, fun n hn => newL_ok w hn (r1.append r2) h k⟩
theorem lift_add (m : Bool) : Lift2 K rAddAny (δAdd m) := by
  intro x y M Kp G H vx vy Q w rx ry h k
  cases x with
  | int i =>
    cases y with
    | int j => cases rx; cases ry; exact .inl ⟨i, j, rfl, rfl, k (.int (i + j)) M G H _ (Go.refl _ _ _) w (.int _) h⟩
    | _ => exact h.elim
  | str i =>
    cases y with
    | str j => cases rx; cases ry; exact .inr (.inl ⟨i, j, rfl, rfl, h.1, k (.str (i ++ j)) M G H _ (Go.refl _ _ _) w (.str _) h.2⟩)
    | _ => exact h.elim
  | _ => exact .inr (.inr (add_list w rx ry h k))
theorem lift_I {C : Int → Int → Prop} {g : Int → Int → V} {g' : Int → Int → D} (hg : ∀ G i j, Rep K G (g' i j) (g i j)) : Lift2 K (rI C g) (δI C g') := by
  intro x y M Kp G H vx vy Q w rx ry h k
  cases x with
  | int i =>
    cases y with
    | int j => cases rx; cases ry; exact ⟨i, j, rfl, rfl, h.1, k _ M G H _ (Go.refl _ _ _) w (hg G i j) h.2⟩
    | _ => exact h.elim
  | _ => exact h.elim
theorem lift_I0 {g : Int → Int → V} {g' : Int → Int → D} (hg : ∀ G i j, Rep K G (g' i j) (g i j)) : Lift2 K (rI0 g) (δI0 g') := by
  intro x y M Kp G H vx vy Q w rx ry h k
  cases x with
  | int i =>
    cases y with
    | int j => cases rx; cases ry; exact ⟨i, j, rfl, rfl, k _ M G H _ (Go.refl _ _ _) w (hg G i j) h⟩
    | _ => exact h.elim
  | _ => exact h.elim
def CPowB (i j : Int) : Prop := 0 ≤ j ∧ (Builtin.Int.intBits i : Int) * j ≤ 2 ^ 27
theorem op_powB : OpR X (binaryOp .Pow) (rI CPowB fun i j => .int (i ^ j.toNat)) := opI fun _ _ _ _ _ _ _ hc q => pow_int hc.1 hc.2 q
end
section
variable {Y : Yx} {pos : Pos} {a b : Expr} {φ ψ : FE}
def de_add (m : Bool) (ha : DE Y a φ) (hb : DE Y b ψ) : DE Y (.BinOp a .Add b pos) (dOp (δAdd m) φ ψ) := de_op op_addAny (lift_add m) ha hb
abbrev δSub : F2 := δI0 fun i j => .int (i - j)
def de_sub (ha : DE Y a φ) (hb : DE Y b ψ) : DE Y (.BinOp a .Sub b pos) (dOp δSub φ ψ) := de_op op_sub (lift_I0 fun _ _ _ => .int _) ha hb
abbrev δMul : F2 := δI CMulW fun i j => .int (i * j)
def de_mul (ha : DE Y a φ) (hb : DE Y b ψ) : DE Y (.BinOp a .Mult b pos) (dOp δMul φ ψ) := de_op op_mulW (lift_I fun _ _ _ => .int _) ha hb
abbrev δMod : F2 := δI (fun _ j => j ≠ 0) fun i j => .int (i.fmod j)
def de_mod (ha : DE Y a φ) (hb : DE Y b ψ) : DE Y (.BinOp a .Mod b pos) (dOp δMod φ ψ) := de_op op_modN (lift_I fun _ _ _ => .int _) ha hb
abbrev δDiv : F2 := δI CDivW fun i j => .int (i / j)
def de_div (ha : DE Y a φ) (hb : DE Y b ψ) : DE Y (.BinOp a .FloorDiv b pos) (dOp δDiv φ ψ) := de_op op_fdivW (lift_I fun _ _ _ => .int _) ha hb
abbrev δPow : F2 := δI CPowB fun i j => .int (i ^ j.toNat)
def de_pow (ha : DE Y a φ) (hb : DE Y b ψ) : DE Y (.BinOp a .Pow b pos) (dOp δPow φ ψ) := de_op op_powB (lift_I fun _ _ _ => .int _) ha hb
def δNeg : F1 := fun x M Kp => match x with
  | .int i => Kp (.int (-i)) M
  | _ => False
theorem lift_neg {K : PySem.W.Frag} : Lift1 K (rU fun i => .int (-i)) δNeg := by
  intro x M Kp G H vx Q w rx h k
  cases x with
  | int i => cases rx; exact ⟨i, rfl, k _ M G H _ (Go.refl _ _ _) w (.int _) h⟩
  | _ => exact h.elim
def de_neg (ha : DE Y a φ) : DE Y (.UnaryOp .USub a pos) (dUn δNeg φ) := de_un un_neg lift_neg ha
end
/-! ### order -/
def δOrd (p : Int → Int → Bool) (q : Str → Str → Bool) : F2 := fun x y M Kp => match x with
  | .int i => (match y with | .int j => Kp (.bl (p i j)) M | _ => False)
  | .str i => (match y with | .str j => Kp (.bl (q i j)) M | _ => False)
  | _ => False
theorem lift_ord {K : PySem.W.Frag} {p : Int → Int → Bool} {q : Str → Str → Bool} : Lift2 K (fun x y H Q => (∃ i j, x = .int i ∧ y = .int j ∧ Q (.bl (p i j)) H) ∨ ∃ i j, x = .str i ∧ y = .str j ∧ Q (.bl (q i j)) H) (δOrd p q) := by
  intro x y M Kp G H vx vy Q w rx ry h k
  cases x with
  | int i =>
    cases y with
    | int j => cases rx; cases ry; exact .inl ⟨i, j, rfl, rfl, k _ M G H _ (Go.refl _ _ _) w (.bl _) h⟩
    | _ => exact h.elim
  | str i =>
    cases y with
    | str j => cases rx; cases ry; exact .inr ⟨i, j, rfl, rfl, k _ M G H _ (Go.refl _ _ _) w (.bl _) h⟩
    | _ => exact h.elim
  | _ => exact h.elim
abbrev δLt : F2 := δOrd (fun i j => decide (i < j)) fun i j => decide (i.cps.toList < j.cps.toList)
abbrev δLe : F2 := δOrd (fun i j => decide (i ≤ j)) fun i j => !decide (j.cps.toList < i.cps.toList)
abbrev δGt : F2 := δOrd (fun i j => decide (j < i)) fun i j => decide (j.cps.toList < i.cps.toList)
abbrev δGe : F2 := δOrd (fun i j => decide (j ≤ i)) fun i j => !decide (i.cps.toList < j.cps.toList)
/-! ### data as plain data -/
mutual
def py : D → Option PyData
  | .non => some .none
  | .bl b => some (.bool b)
  | .int i => some (.int i)
  | .str x => some (.str x)
  | .lst ds => (pys ds).map PyData.list
  | .tup ds => (pys ds).map PyData.tuple
  | _ => none
def pys : List D → Option (List PyData)
  | [] => some []
  | d :: ds => (py d).bind fun a => (pys ds).map fun b => a :: b
end
mutual
theorem py_rep {K : PySem.W.Frag} {G H : Hp} (e : Ex G H) : ∀ {d : D} {v : V} {p : PyData}, Rep K G d v → py d = some p → Dp K H v p
  | _, _, _, .non, h => by cases (Option.some.inj (show some PyData.none = some _ from h)); exact .non
  | _, _, _, .bl b, h => by cases (Option.some.inj (show some (PyData.bool b) = some _ from h)); exact .bl b
  | _, _, _, .int b, h => by cases (Option.some.inj (show some (PyData.int b) = some _ from h)); exact .int b
  | _, _, _, .str b, h => by cases (Option.some.inj (show some (PyData.str b) = some _ from h)); exact .str b
  | _, _, _, .lst (ds := ds) hg r, h => by
    have h2 : (pys ds).map PyData.list = some _ := h
    cases q : pys ds with
    | none => rw [q] at h2; cases h2
    | some ps =>
      rw [q] at h2
      cases h2
      exact .lst (.inl (.inl (e _ _ hg))) (pys_reps e r q)
  | _, _, _, .tup (ds := ds) hg r, h => by
    have h2 : (pys ds).map PyData.tuple = some _ := h
    cases q : pys ds with
    | none => rw [q] at h2; cases h2
    | some ps =>
      rw [q] at h2
      cases h2
      exact .tup (SqT.of (e _ _ hg)) (pys_reps e r q)
  | _, _, _, .ty _, h => by cases h
  | _, _, _, .ins _ _ _, h => by cases h
  | _, _, _, .dK _ _ _, h => by cases h
  | _, _, _, .dT _ _ _, h => by cases h
  | _, _, _, .scr _, h => by cases h
  | _, _, _, .ptr _, h => by cases h
theorem pys_reps {K : PySem.W.Frag} {G H : Hp} (e : Ex G H) : ∀ {ds : List D} {vs : List V} {ps : List PyData}, Reps K G ds vs → pys ds = some ps → DpAll K H vs ps
  | _, _, _, .nil, h => by cases (Option.some.inj (show some [] = some _ from h)); exact .nil
  | _, _, _, .cons (d := d) (ds := ds) r rs, h => by
    have h2 : (py d).bind (fun a => (pys ds).map fun b => a :: b) = some _ := h
    cases q : py d with
    | none => rw [q] at h2; cases h2
    | some a =>
      rw [q] at h2
      cases q2 : pys ds with
      | none => rw [q2] at h2; cases h2
      | some b =>
        rw [q2] at h2
        cases h2
        exact .cons (py_rep e r q) (pys_reps e rs q2)
end
def pyM (M : Mem) : D → Option PyData
  | .ptr a => (match M a with
    | some (.lst ds) => (pys ds).map PyData.list
    | _ => none)
  | d => py d
theorem pyM_rep {K : PySem.W.Frag} {G H : Hp} {M : Mem} (w : Wd K G M H) {d : D} {v : V} {p : PyData} (r : Rep K G d v) (h : pyM M d = some p) : Dp K H v p := by
  unfold pyM at h
  split at h
  · cases r
    split at h
    · rename_i ds hm
      obtain ⟨vs, hv, r⟩ := w.lst hm
      cases q : pys ds with
      | none => rw [q] at h; cases h
      | some ps =>
        rw [q] at h
        cases h
        exact .lst (.inl (.inl hv)) (pys_reps w.ex r q)
    · cases h
  · exact py_rep w.ex r h
/-! ### equality -/
def nB (neg b : Bool) : D := .bl (match neg with | true => !b | false => b)
def eqGen (neg : Bool) : F2 := fun x y M Kp => ∃ p q, pyM M x = some p ∧ pyM M y = some q ∧ SeqAt.shaped p = true ∧ SeqAt.shaped q = true ∧ Kp (nB neg (PyData.eqv p q)) M
def isNon : D → Bool
  | .non => true | .int _ => false | .str _ => false | .bl _ => false | _ => false
def δEq (neg : Bool) : F2 := fun x y M Kp => match x with
  | .int i => (match y with | .int j => Kp (nB neg (decide (i = j))) M | .non => Kp (nB neg false) M | .str _ => Kp (nB neg false) M | y => eqGen neg (.int i) y M Kp)
  | .str i => (match y with | .str j => Kp (nB neg (decide (i = j))) M | .non => Kp (nB neg false) M | .int _ => Kp (nB neg false) M | .bl _ => Kp (nB neg false) M | y => eqGen neg (.str i) y M Kp)
  | .bl i => (match y with | .bl j => Kp (nB neg (decide (i = j))) M | .non => Kp (nB neg false) M | .str _ => Kp (nB neg false) M | y => eqGen neg (.bl i) y M Kp)
  | .non => (match y with | .non => Kp (nB neg true) M | .int _ => Kp (nB neg false) M | .str _ => Kp (nB neg false) M | .bl _ => Kp (nB neg false) M | y => eqGen neg .non y M Kp)
  | x => eqGen neg x y M Kp
def rEqX (K : PySem.W.Frag) (neg : Bool) : R2 := fun x y H Q => (scal x y = true ∧ Q (.bl (match neg with | true => !decide (x = y) | false => decide (x = y))) H) ∨
  ∃ d e, Dp K H x d ∧ Dp K H y e ∧ SeqAt.shaped d = true ∧ SeqAt.shaped e = true ∧ Q (.bl (match neg with | true => !PyData.eqv d e | false => PyData.eqv d e)) H
theorem op_eqX {X : Cx} (hu : X.A.units + 64 < cLine) : OpR X (compareOp .Eq) (rEqX X.K false) := op_eq.or (op_eqD hu)
theorem op_neX {X : Cx} (hu : X.A.units + 64 < cLine) : OpR X (compareOp .NotEq) (rEqX X.K true) := op_ne.or (op_neD hu)
theorem rep_nB {K : PySem.W.Frag} {G : Hp} (neg b : Bool) : Rep K G (nB neg b) (.bl (match neg with | true => !b | false => b)) := .bl _
theorem eqGen_ok {K : PySem.W.Frag} {neg : Bool} {x y : D} {M : Mem} {Kp : KD} {G H : Hp} {vx vy : V} {Q : VK} (w : Wd K G M H) (rx : Rep K G x vx) (ry : Rep K G y vy) (h : eqGen neg x y M Kp) (k : Kon K G M H Kp Q) : rEqX K neg vx vy H Q := by
  obtain ⟨p, q, h1, h2, h3, h4, h⟩ := h
  exact .inr ⟨p, q, pyM_rep w rx h1, pyM_rep w ry h2, h3, h4, k _ M G H _ (Go.refl _ _ _) w (rep_nB neg _) h⟩
theorem eqSc {K : PySem.W.Frag} {neg b : Bool} {vx vy : V} {M : Mem} {Kp : KD} {G H : Hp} {Q : VK} (w : Wd K G M H) (hs : scal vx vy = true) (hb : decide (vx = vy) = b) (h : Kp (nB neg b) M) (k : Kon K G M H Kp Q) : rEqX K neg vx vy H Q :=
  .inl ⟨hs, by rw [hb]; exact k _ M G H _ (Go.refl _ _ _) w (rep_nB neg b) h⟩
theorem dV_int (i j : Int) : decide (V.int i = V.int j) = decide (i = j) := by rw [dec_int, Bool.beq_eq_decide_eq]
theorem dV_str (i j : Str) : decide (V.str i = V.str j) = decide (i = j) := by rw [dec_str, Bool.beq_eq_decide_eq]
theorem dV_bl (i j : Bool) : decide (V.bl i = V.bl j) = decide (i = j) := by rw [dec_bl, Bool.beq_eq_decide_eq]
theorem lift_eq {K : PySem.W.Frag} (neg : Bool) : Lift2 K (rEqX K neg) (δEq neg) := by
  intro x y M Kp G H vx vy Q w rx ry h k
  cases x with
  | int i =>
    cases y with
    | int j => cases rx; cases ry; exact eqSc w rfl (dV_int i j) h k
    | non => cases rx; cases ry; exact eqSc w rfl rfl h k
    | str _ => cases rx; cases ry; exact eqSc w rfl rfl h k
    | _ => exact eqGen_ok w rx ry h k
  | str i =>
    cases y with
    | str j => cases rx; cases ry; exact eqSc w rfl (dV_str i j) h k
    | non => cases rx; cases ry; exact eqSc w rfl rfl h k
    | int _ => cases rx; cases ry; exact eqSc w rfl rfl h k
    | bl _ => cases rx; cases ry; exact eqSc w rfl rfl h k
    | _ => exact eqGen_ok w rx ry h k
  | bl i =>
    cases y with
    | bl j => cases rx; cases ry; exact eqSc w rfl (dV_bl i j) h k
    | non => cases rx; cases ry; exact eqSc w rfl rfl h k
    | str _ => cases rx; cases ry; exact eqSc w rfl rfl h k
    | _ => exact eqGen_ok w rx ry h k
  | non =>
    cases y with
    | non => cases rx; cases ry; exact eqSc w rfl rfl h k
    | int _ => cases rx; cases ry; exact eqSc w rfl rfl h k
    | str _ => cases rx; cases ry; exact eqSc w rfl rfl h k
    | bl _ => cases rx; cases ry; exact eqSc w rfl rfl h k
    | _ => exact eqGen_ok w rx ry h k
  | _ => exact eqGen_ok w rx ry h k
/-! ### in -/
def inS (i j : Str) : Bool := !(Builtin.Str.occurrences j i 0 j.length 1).isEmpty
def viewT : D → Option (List D)
  | .tup ds => some ds
  | _ => none
def flatD : D → Bool
  | .non => true | .bl _ => true | .int _ => true | .str _ => true | _ => false
def eqDf : D → D → Bool
  | .non, .non => true
  | .bl a, .bl b => a == b
  | .bl a, .int b => (if a then 1 else 0) == b
  | .int a, .bl b => a == (if b then 1 else 0)
  | .int a, .int b => a == b
  | .str a, .str b => a == b
  | _, _ => false
def inGen (neg : Bool) : F2 := fun x y M Kp => ∃ ds, (viewL M y = some ds ∨ viewT y = some ds) ∧ flatD x = true ∧ ds.all flatD = true ∧ Kp (nB neg (ds.any fun d => eqDf d x)) M
def δIn (neg : Bool) : F2 := fun x y M Kp => match y with
  | .str j => (match x with | .str i => Kp (nB neg (inS i j)) M | _ => False)
  | y => inGen neg x y M Kp
def rInX (K : PySem.W.Frag) (neg : Bool) : R2 := fun x y H Q => (∃ i j, x = .str i ∧ y = .str j ∧ Q (.bl (match neg with | true => !inS i j | false => inS i j)) H) ∨ rIn K neg x y H Q
theorem op_inX {X : Cx} : OpR X (compareOp .In) (rInX X.K false) := op_in_str.or op_in_seq
theorem op_notInX {X : Cx} : OpR X (compareOp .NotIn) (rInX X.K true) := L2.op_notIn_str.or op_notIn_seq
theorem flat_rep {K : PySem.W.Frag} {G : Hp} {d : D} {v : V} (r : Rep K G d v) (h : flatD d = true) : flatV v = true ∧ (∀ {e : D} {u : V}, Rep K G e u → flatD e = true → eqV v u = eqDf d e) := by
  cases r with
  | non => exact ⟨rfl, fun r2 h2 => by cases r2 <;> first | rfl | cases h2⟩
  | bl b => exact ⟨rfl, fun r2 h2 => by cases r2 <;> first | rfl | cases h2⟩
  | int b => exact ⟨rfl, fun r2 h2 => by cases r2 <;> first | rfl | cases h2⟩
  | str b => exact ⟨rfl, fun r2 h2 => by cases r2 <;> first | rfl | cases h2⟩
  | _ => cases h
theorem flat_reps {K : PySem.W.Frag} {G : Hp} {x : D} {vx : V} (rx : Rep K G x vx) (hx : flatD x = true) : ∀ {ds : List D} {vs : List V}, Reps K G ds vs → ds.all flatD = true → vs.all flatV = true ∧ inV vx vs = ds.any fun d => eqDf d x
  | _, _, .nil, _ => ⟨rfl, rfl⟩
  | _, _, .cons (d := d) (v := v) (ds := ds) (vs := vs) r rs, h => by
    obtain ⟨h1, h2⟩ := Bool.and_eq_true_iff.mp (show (flatD d && ds.all flatD) = true from h)
    obtain ⟨i1, i2⟩ := flat_reps rx hx rs h2
    obtain ⟨f1, f2⟩ := flat_rep r h1
    refine ⟨by rw [List.all_cons, f1, i1]; rfl, ?_⟩
    show (eqV v vx || inV vx vs) = (eqDf d x || ds.any fun d => eqDf d x)
    rw [i2, f2 rx hx]
theorem inGen_ok {K : PySem.W.Frag} {neg : Bool} {x y : D} {M : Mem} {Kp : KD} {G H : Hp} {vx vy : V} {Q : VK} (w : Wd K G M H) (rx : Rep K G x vx) (ry : Rep K G y vy) (h : inGen neg x y M Kp) (k : Kon K G M H Kp Q) : rIn K neg vx vy H Q := by
  obtain ⟨ds, hv, hx, ha, h⟩ := h
  have go : ∀ {p : Addr} {vs : List V}, vy = .ref p → (SqL K H p vs ∨ SqT K H p vs) → Reps K G ds vs → rIn K neg vx vy H Q := fun {p vs} e1 e2 r => by
    obtain ⟨f1, f2⟩ := flat_reps rx hx r ha
    refine ⟨p, vs, e1, e2, (flat_rep rx hx).1, f1, ?_⟩
    rw [f2]
    have hk := k _ M G H _ (Go.refl _ _ _) w (rep_nB neg _) h
    cases neg <;> exact hk
  rcases hv with hv | hv
  · obtain ⟨p, vs, e1, hp, r⟩ := w.viewL ry hv
    exact go e1 (.inl (SqL.of hp)) r
  · unfold viewT at hv
    split at hv
    · cases hv
      cases ry with
      | tup hg r => exact go rfl (.inr (SqT.of (w.ex _ _ hg))) r
    · cases hv
theorem lift_in {K : PySem.W.Frag} (neg : Bool) : Lift2 K (rInX K neg) (δIn neg) := by
  intro x y M Kp G H vx vy Q w rx ry h k
  cases y with
  | str j =>
    cases x with
    | str i => cases rx; cases ry; exact .inl ⟨i, j, rfl, rfl, k _ M G H _ (Go.refl _ _ _) w (rep_nB neg _) h⟩
    | _ => exact h.elim
  | _ => exact .inr (inGen_ok w rx ry h k)
/-! ### is None -/
def δIsN (neg : Bool) : F2 := fun x y M Kp => match y with
  | .non => (match x with | .non => Kp (nB neg true) M | .bl _ => Kp (nB neg false) M | .int _ => Kp (nB neg false) M | .str _ => Kp (nB neg false) M | .lst _ => Kp (nB neg false) M | .tup _ => Kp (nB neg false) M | .ins _ _ _ => Kp (nB neg false) M | .ptr _ => Kp (nB neg false) M | _ => False)
  | _ => False
theorem lift_isN {K : PySem.W.Frag} : Lift2 K (fun x y H Q => y = .non ∧ Q (.bl (decide (x = .non))) H) (δIsN false) := by
  intro x y M Kp G H vx vy Q w rx ry h k
  cases y with
  | non =>
    cases ry
    cases x <;> first | exact h.elim | (cases rx; exact ⟨rfl, k _ M G H _ (Go.refl _ _ _) w (.bl _) h⟩)
  | _ => exact h.elim
theorem lift_notN {K : PySem.W.Frag} : Lift2 K (fun x y H Q => y = .non ∧ Q (.bl (!decide (x = .non))) H) (δIsN true) := by
  intro x y M Kp G H vx vy Q w rx ry h k
  cases y with
  | non =>
    cases ry
    cases x <;> first | exact h.elim | (cases rx; exact ⟨rfl, k _ M G H _ (Go.refl _ _ _) w (.bl _) h⟩)
  | _ => exact h.elim
end Dl
end
noncomputable section
namespace Dl
open PySem PySem.Spec PyProof.Rows L2 Evl
section
variable {Y : Yx} {pos : Pos} {a b c e : Expr} {es rest : List Expr} {φ ψ χ : FE} {α β : FT} {m : Bool}
/-! ### tests -/
def dAnd (α β : FT) : FT := fun ρ M Kp => α ρ M fun c M1 => match c with
  | true => β ρ M1 Kp
  | false => Kp false M1
def dOr (α β : FT) : FT := fun ρ M Kp => α ρ M fun c M1 => match c with
  | true => Kp true M1
  | false => β ρ M1 Kp
def dNot (α : FT) : FT := fun ρ M Kp => α ρ M fun c M1 => Kp (!c) M1
theorem simAnd {t u : TT} (ha : SimT Y t α) (hb : SimT Y u β) : SimT Y (tAnd t u) (dAnd α β) := fun ρ M Kp G σ H Q a h k =>
  ha ρ M _ G σ H _ a h fun c M1 G1 H1 e1 w1 h1 => by
    cases c with
    | true => exact iteT (hb ρ M1 Kp G1 σ H1 Q (a.step e1 w1) h1 fun b M2 G2 H2 e2 => k b M2 G2 H2 (e1.trans e2))
    | false => exact iteF (k false M1 G1 H1 e1 w1 h1)
theorem simOr {t u : TT} (ha : SimT Y t α) (hb : SimT Y u β) : SimT Y (tOr t u) (dOr α β) := fun ρ M Kp G σ H Q a h k =>
  ha ρ M _ G σ H _ a h fun c M1 G1 H1 e1 w1 h1 => by
    cases c with
    | false => exact iteF (hb ρ M1 Kp G1 σ H1 Q (a.step e1 w1) h1 fun b M2 G2 H2 e2 => k b M2 G2 H2 (e1.trans e2))
    | true => exact iteT (k true M1 G1 H1 e1 w1 h1)
def dt_w (h : DW Y a α) : DT Y a α := by
  obtain ⟨t, p, s⟩ := h
  exact ⟨t, p.pt, s⟩
def dw_and1 (h : DT Y a α) : DW Y (.BoolOp .And [a] pos) α := by
  obtain ⟨t, p, s⟩ := h
  exact ⟨t, pw_and1 p, s⟩
def dw_or1 (h : DT Y a α) : DW Y (.BoolOp .Or [a] pos) α := by
  obtain ⟨t, p, s⟩ := h
  exact ⟨t, pw_or1 p, s⟩
def dw_and (ha : DT Y a α) (hb : DW Y (.BoolOp .And (b :: rest) pos) β) : DW Y (.BoolOp .And (a :: b :: rest) pos) (dAnd α β) := by
  obtain ⟨t, p, s⟩ := ha
  obtain ⟨u, q, r⟩ := hb
  exact ⟨_, pw_and p q, simAnd s r⟩
def dw_or (ha : DT Y a α) (hb : DW Y (.BoolOp .Or (b :: rest) pos) β) : DW Y (.BoolOp .Or (a :: b :: rest) pos) (dOr α β) := by
  obtain ⟨t, p, s⟩ := ha
  obtain ⟨u, q, r⟩ := hb
  exact ⟨_, pw_or p q, simOr s r⟩
def dt_not (ha : DT Y a α) : DT Y (.UnaryOp .Not a pos) (dNot α) := by
  obtain ⟨t, p, s⟩ := ha
  exact ⟨_, pt_not p, fun ρ M Kp G σ H Q a h k => s ρ M _ G σ H _ a h fun c M1 G1 H1 e1 w1 h1 => k (!c) M1 G1 H1 e1 w1 h1⟩
/-! ### truth of any value -/
def truD (M : Mem) : D → Option Bool
  | .non => some false
  | .bl b => some b
  | .int i => some (i != 0)
  | .str y => if y.length ≤ sizeLine then some ((y.length : Int) != 0) else none
  | .lst ds => some (!ds.isEmpty)
  | .tup ds => some (!ds.isEmpty)
  | .ptr a => (match M a with
    | some (.lst ds) => some (!ds.isEmpty)
    | _ => none)
  | _ => none
theorem Reps.isEmpty {K : PySem.W.Frag} {G : Hp} {ds : List D} {vs : List V} (r : Reps K G ds vs) : ds.isEmpty = vs.isEmpty := by cases r <;> rfl
theorem truD_ok {K : PySem.W.Frag} {G H : Hp} {M : Mem} (w : Wd K G M H) {d : D} {v : V} {b : Bool} (r : Rep K G d v) (h : truD M d = some b) : TruV K v H b := by
  cases r with
  | non => cases h; rfl
  | bl b => cases h; rfl
  | int i => cases h; rfl
  | str y =>
    have h2 : (if y.length ≤ sizeLine then some ((y.length : Int) != 0) else none) = some b := h
    split at h2
    · rename_i hz
      cases h2
      exact ⟨hz, rfl⟩
    · cases h2
  | lst hg rr => cases h; exact .inl ⟨_, SqL.of (w.ex _ _ hg), by rw [rr.isEmpty]⟩
  | tup hg rr => cases h; exact .inr (.inl ⟨_, SqT.of (w.ex _ _ hg), by rw [rr.isEmpty]⟩)
  | ptr a =>
    have h2 : (match M a with | some (.lst ds) => some (!ds.isEmpty) | _ => none) = some b := h
    split at h2
    · rename_i ds hm
      cases h2
      obtain ⟨vs, hv, rr⟩ := w.lst hm
      exact .inl ⟨_, SqL.of hv, by rw [rr.isEmpty]⟩
    · cases h2
  | _ => cases h
def dTru (φ : FE) : FT := fun ρ M Kp => φ ρ M fun d M1 => ∃ b, truD M1 d = some b ∧ Kp b M1
def dt_truth (ha : DE Y a φ) (he : ∀ whole, isTrue a Y.X.env whole = (do let v ← whole; standAt a.pos; holding [v] (truthy v)) := by intro _; rfl) : DT Y a (dTru φ) := by
  obtain ⟨t, p, s⟩ := ha
  refine ⟨_, pt_truth p he, fun ρ M Kp G σ H Q a h k => s ρ M _ G σ H _ a h fun d M1 G1 H1 v e1 w1 r1 h1 => ?_⟩
  obtain ⟨b, hb, h1⟩ := h1
  exact ⟨b, truD_ok w1 r1 hb, k b M1 G1 H1 e1 w1 h1⟩
/-! ### and, or, not as values -/
def dOrV (φ ψ : FE) : FE := fun ρ M Kp => φ ρ M fun d M1 => ∃ b, truD M1 d = some b ∧ match b with
  | true => Kp d M1
  | false => ψ ρ M1 Kp
def dAndV (φ ψ : FE) : FE := fun ρ M Kp => φ ρ M fun d M1 => ∃ b, truD M1 d = some b ∧ match b with
  | true => ψ ρ M1 Kp
  | false => Kp d M1
def dNotV (φ : FE) : FE := fun ρ M Kp => φ ρ M fun d M1 => ∃ b, truD M1 d = some b ∧ Kp (.bl (!b)) M1
def de_one {op} (h : DE Y a φ) : DE Y (.BoolOp op [a] pos) φ := by
  obtain ⟨t, p, s⟩ := h
  exact ⟨t, pe_one p, s⟩
def de_or (ha : DE Y a φ) (hb : DE Y (.BoolOp .Or (b :: rest) pos) ψ) : DE Y (.BoolOp .Or (a :: b :: rest) pos) (dOrV φ ψ) := by
  obtain ⟨t, p, s⟩ := ha
  obtain ⟨u, q, r⟩ := hb
  refine ⟨_, pe_orT p q, fun ρ M Kp G σ H Q a h k => s ρ M _ G σ H _ a h fun d M1 G1 H1 v e1 w1 r1 h1 => ?_⟩
  obtain ⟨b, hb, h1⟩ := h1
  refine ⟨b, truD_ok w1 r1 hb, ?_⟩
  cases b with
  | true => exact iteT (k d M1 G1 H1 v e1 w1 r1 h1)
  | false => exact iteF (r ρ M1 Kp G1 σ H1 Q (a.step e1 w1) h1 (Kon.mono k e1))
def de_and (ha : DE Y a φ) (hb : DE Y (.BoolOp .And (b :: rest) pos) ψ) : DE Y (.BoolOp .And (a :: b :: rest) pos) (dAndV φ ψ) := by
  obtain ⟨t, p, s⟩ := ha
  obtain ⟨u, q, r⟩ := hb
  refine ⟨_, pe_andT p q, fun ρ M Kp G σ H Q a h k => s ρ M _ G σ H _ a h fun d M1 G1 H1 v e1 w1 r1 h1 => ?_⟩
  obtain ⟨b, hb, h1⟩ := h1
  refine ⟨b, truD_ok w1 r1 hb, ?_⟩
  cases b with
  | false => exact iteF (k d M1 G1 H1 v e1 w1 r1 h1)
  | true => exact iteT (r ρ M1 Kp G1 σ H1 Q (a.step e1 w1) h1 (Kon.mono k e1))
def de_not (ha : DE Y a φ) : DE Y (.UnaryOp .Not a pos) (dNotV φ) := by
  obtain ⟨t, p, s⟩ := ha
  refine ⟨_, pe_notT p, fun ρ M Kp G σ H Q a h k => s ρ M _ G σ H _ a h fun d M1 G1 H1 v e1 w1 r1 h1 => ?_⟩
  obtain ⟨b, hb, h1⟩ := h1
  exact ⟨b, truD_ok w1 r1 hb, k (.bl (!b)) M1 G1 H1 _ e1 w1 (.bl _) h1⟩
def dIf (α : FT) (φ ψ : FE) : FE := fun ρ M Kp => α ρ M fun c M1 => match c with
  | true => φ ρ M1 Kp
  | false => ψ ρ M1 Kp
def de_if (hc : DT Y c α) (ha : DE Y a φ) (hb : DE Y b ψ) : DE Y (.IfExp c a b pos) (dIf α φ ψ) := by
  obtain ⟨t, p, s⟩ := hc
  obtain ⟨ta, pa, sa⟩ := ha
  obtain ⟨tb, pb, sb⟩ := hb
  refine ⟨_, pe_ifExp p pa pb, fun ρ M Kp G σ H Q a h k => s ρ M _ G σ H _ a h fun c M1 G1 H1 e1 w1 h1 => ?_⟩
  cases c with
  | true => exact iteT (sa ρ M1 Kp G1 σ H1 Q (a.step e1 w1) h1 (Kon.mono k e1))
  | false => exact iteF (sb ρ M1 Kp G1 σ H1 Q (a.step e1 w1) h1 (Kon.mono k e1))
/-! ### arguments, displays -/
def dNil : FA := fun _ M Kp => Kp [] M
def dCons (φ : FE) (η : FA) : FA := fun ρ M Kp => φ ρ M fun d M1 => η ρ M1 fun ds M2 => Kp (d :: ds) M2
def da_nil : DA Y [] dNil := ⟨_, pa_nil, fun ρ M Kp G σ H Q a h k => k [] M G H [] (Go.refl _ _ _) a.wd .nil h⟩
theorem simCons {t : TE} {u : TA} {η : FA} (s : SimE Y t φ) (r : SimA Y u η) : SimA Y (tCons t u) (dCons φ η) := fun ρ M Kp G σ H Q a h k =>
  s ρ M _ G σ H _ a h fun d M1 G1 H1 v e1 w1 r1 h1 => r ρ M1 _ G1 σ H1 _ (a.step e1 w1) h1 fun ds M2 G2 H2 vs e2 w2 r2 h2 => k (d :: ds) M2 G2 H2 (v :: vs) (e1.trans e2) w2 (.cons (r1.mono e2.ex) r2) h2
def da_cons {η : FA} (ha : DE Y e φ) (hb : DA Y es η) (hs : starEach (e :: es) Y.X.env = (false, eval e Y.X.env) :: starEach es Y.X.env := by rfl) : DA Y (e :: es) (dCons φ η) := by
  obtain ⟨t, p, s⟩ := ha
  obtain ⟨u, q, r⟩ := hb
  exact ⟨_, pa_cons p q hs, simCons s r⟩
def dTup (η : FA) : FE := fun ρ M Kp => η ρ M fun ds M1 => ds.length ≤ sizeLine ∧ Kp (.tup ds) M1
def dLst (m : Bool) (η : FA) : FE := fun ρ M Kp => η ρ M fun ds M1 => ds.length ≤ sizeLine ∧ newL m ds M1 Kp
def de_tup {x1} {η : FA} (h : DA Y es η) : DE Y (.Tuple es x1 pos) (dTup η) := by
  obtain ⟨t, p, s⟩ := h
  refine ⟨_, pe_tup p, fun ρ M Kp G σ H Q a h k => s ρ M _ G σ H _ a h fun ds M1 G1 H1 vs e1 w1 r1 h1 => ⟨by rw [← r1.length]; exact h1.1, fun q hq => ?_⟩⟩
  obtain ⟨e, w'⟩ := w1.newF (o := .tup vs) hq
  exact k (.tup ds) M1 _ _ _ (e1.trans (w1.goF hq)) w' (.tup upd_same (r1.mono e)) h1.2
def de_lst (m : Bool) {η : FA} (h : DA Y es η) : DE Y (.List es pos) (dLst m η) := by
  obtain ⟨t, p, s⟩ := h
  refine ⟨_, pe_lst p, fun ρ M Kp G σ H Q a h k => s ρ M _ G σ H _ a h fun ds M1 G1 H1 vs e1 w1 r1 h1 => ⟨by rw [← r1.length]; exact h1.1, fun q hq => newL_ok w1 hq r1 h1.2 (Kon.mono k e1)⟩⟩
end
/-! ### statements -/
section
variable {Y : Yx} {pos : Pos} {st : Stmt} {sts : List Stmt} {e c : Expr} {φ : FE} {α : FT} {β γ : FSt}
def dNext : FSt := fun KK ρ M => KK.nx ρ M
def dSeq (β γ : FSt) : FSt := fun KK ρ M => β { KK with nx := fun ρ' M' => γ KK ρ' M' } ρ M
def dRet (φ : FE) : FSt := fun KK ρ M => φ ρ M KK.rt
def dDrop (φ : FE) : FSt := fun KK ρ M => φ ρ M fun _ M1 => KK.nx ρ M1
def dIfS (α : FT) (β γ : FSt) : FSt := fun KK ρ M => α ρ M fun c M1 => match c with
  | true => β KK ρ M1
  | false => γ KK ρ M1
def dBreak : FSt := fun KK ρ M => KK.bk ρ M
def dCont : FSt := fun KK ρ M => KK.ct ρ M
def dNever : FSt := fun _ _ _ => False
theorem KOk.same {G H : Hp} {M : Mem} {ρ : Rho} {σ : L2.St} {KK : KS} {E : Ends} (k : KOk Y G M H KK E) (a : At Y G ρ M σ H) (h : KK.nx ρ M) : E.nx σ H := k.nx ρ M G σ H (Go.refl _ _ _) a.wd a.rr h
theorem simNext : SimS Y tNext dNext := fun ρ M KK G σ H E a h k => k.same a h
theorem simSeq {t u : TS} (s : SimS Y t β) (r : SimS Y u γ) : SimS Y (tSeq t u) (dSeq β γ) := fun ρ M KK G σ H E a h k =>
  s ρ M _ G σ H _ a h ⟨fun ρ' M' G' σ' H' e w rr h' => r ρ' M' KK G' σ' H' E (a.stepS e w rr) h' (k.mono e), k.rt, k.bk, k.ct⟩
def dss_nil : DSs Y [] dNext := ⟨_, pss_nil, simNext⟩
def dss_one (h : DS Y st β) : DSs Y [st] β := by
  obtain ⟨t, p, s⟩ := h
  exact ⟨t, pss_one p, s⟩
def dss_cons (h : DS Y st β) (h2 : DSs Y sts γ) : DSs Y (st :: sts) (dSeq β γ) := by
  obtain ⟨t, p, s⟩ := h
  obtain ⟨u, q, r⟩ := h2
  exact ⟨_, pss_cons p q, simSeq s r⟩
def ds_pass : DS Y (.Pass pos) dNext := ⟨_, ps_pass, simNext⟩
def ds_break : DS Y (.Break pos) dBreak := ⟨_, ps_break, fun ρ M KK G σ H E a h k => k.bk ρ M G σ H (Go.refl _ _ _) a.wd a.rr h⟩
def ds_continue : DS Y (.Continue pos) dCont := ⟨_, ps_continue, fun ρ M KK G σ H E a h k => k.ct ρ M G σ H (Go.refl _ _ _) a.wd a.rr h⟩
def ds_never : DS Y st dNever := ⟨_, ps_never, fun ρ M KK G σ H E a h k => h.elim⟩
def ds_ret (h : DE Y e φ) : DS Y (.Return (some e) pos) (dRet φ) := by
  obtain ⟨t, p, s⟩ := h
  exact ⟨_, ps_ret p, fun ρ M KK G σ H E a h k => s ρ M _ G σ H _ a h k.rt⟩
def dRetN : FSt := fun KK ρ M => KK.rt .non M
def ds_retN : DS Y (.Return none pos) dRetN := ⟨_, ps_retN, fun ρ M KK G σ H E a h k => k.rt .non M G H _ (Go.refl _ _ _) a.wd .non h⟩
def ds_expr (h : DE Y e φ) (hs : swapsWith e none pos.line Y.X.env = pure false := by rfl) : DS Y (.Expr e pos) (dDrop φ) := by
  obtain ⟨t, p, s⟩ := h
  exact ⟨_, ps_expr p hs, fun ρ M KK G σ H E a h k => s ρ M _ G σ H _ a h fun d M1 G1 H1 v e1 w1 r1 h1 => k.nx ρ M1 G1 σ H1 e1 w1 (a.rr.mono e1.ex) h1⟩
def ds_if {x y : List Stmt} (hc : DT Y c α) (ha : DSs Y x β) (hb : DSs Y y γ) : DS Y (.If c x y pos) (dIfS α β γ) := by
  obtain ⟨t, p, s⟩ := hc
  obtain ⟨ta, pa, sa⟩ := ha
  obtain ⟨tb, pb, sb⟩ := hb
  refine ⟨_, ps_if p pa pb, fun ρ M KK G σ H E a h k => s ρ M _ G σ H _ a h fun c M1 G1 H1 e1 w1 h1 => ?_⟩
  cases c with
  | true => exact iteT (sa ρ M1 KK G1 σ H1 E (a.step e1 w1) h1 (k.mono e1))
  | false => exact iteF (sb ρ M1 KK G1 σ H1 E (a.step e1 w1) h1 (k.mono e1))
end
/-! ### targets -/
abbrev FG := D → Rho → Mem → (Rho → Mem → Prop) → Prop
abbrev FGs := List D → Rho → Mem → (Rho → Mem → Prop) → Prop
/-- vs: the slots that may be set; SimG with: nothing else is -/
def SimG (Y : Yx) (t : TG) (γ : FG) : Prop := ∀ d v ρ M Kp G σ H (Q : L2.St → Hp → Prop), At Y G ρ M σ H → Rep Y.X.K G d v → γ d ρ M Kp → KonS Y G M H Kp Q → t v σ H Q
def SimGs (Y : Yx) (t : TGs) (γ : FGs) : Prop := ∀ ds vs ρ M Kp G σ H (Q : L2.St → Hp → Prop), At Y G ρ M σ H → Reps Y.X.K G ds vs → γ ds ρ M Kp → KonS Y G M H Kp Q → t vs σ H Q
def Keeps (σ σ2 : L2.St) (vs : List Nat) : Prop := σ2.length = σ.length ∧ ∀ j, j ∉ vs → σ2[j]? = σ[j]?
def OnlyG (t : TG) (vs : List Nat) : Prop := ∀ v σ H (Q Q' : L2.St → Hp → Prop), (∀ σ2 H2, Keeps σ σ2 vs → Q σ2 H2 → Q' σ2 H2) → t v σ H Q → t v σ H Q'
def OnlyGs (t : TGs) (vs : List Nat) : Prop := ∀ us σ H (Q Q' : L2.St → Hp → Prop), (∀ σ2 H2, Keeps σ σ2 vs → Q σ2 H2 → Q' σ2 H2) → t us σ H Q → t us σ H Q'
theorem Keeps.refl (σ : L2.St) (vs : List Nat) : Keeps σ σ vs := ⟨rfl, fun _ _ => rfl⟩
theorem Keeps.trans {σ σ1 σ2 : L2.St} {vs : List Nat} (a : Keeps σ σ1 vs) (b : Keeps σ1 σ2 vs) : Keeps σ σ2 vs := ⟨b.1.trans a.1, fun j h => (b.2 j h).trans (a.2 j h)⟩
structure DG (Y : Yx) (e : Expr) (γ : FG) where
  t : TG
  p : PG Y.X e t
  s : SimG Y t γ
/-- a target that sets no other slots than vs -/
structure DGo (Y : Yx) (e : Expr) (γ : FG) (vs : List Nat) where
  t : TG
  p : PG Y.X e t
  s : SimG Y t γ
  o : OnlyG t vs
structure DGos (Y : Yx) (es : List Expr) (γ : FGs) (vs : List Nat) where
  t : TGs
  p : PGs Y.X es t
  s : SimGs Y t γ
  o : OnlyGs t vs
section
variable {Y : Yx} {pos : Pos} {e : Expr} {es : List Expr} {vs : List Nat}
def DGo.dg {γ : FG} (h : DGo Y e γ vs) : DG Y e γ := by
  obtain ⟨t, p, s, _⟩ := h
  exact ⟨t, p, s⟩
def dName (i : Nat) : FG := fun d ρ M Kp => Kp (ρ.set i (some d)) M
def dg_name {i : Nat} {x : Str} (hN : Y.X.N.Nodup) (hi : Y.X.N[i]? = some x) (hx : Loc Y.X.env.scope x) (hm : i ∈ vs) (hf : Y.X.fn x = true ∨ Y.X.env.scope.names.lookup x = some .local := by first | exact .inl rfl | exact .inr rfl | assumption) : DGo Y (.Name x pos) (dName i) vs := by
  refine ⟨_, pg_name hN hi hx hf, fun d v ρ M Kp G σ H Q a r h k => k _ M G _ H (Go.refl _ _ _) a.wd (a.rr.set r i) h, fun v σ H Q Q' hq h => hq _ _ ⟨by rw [List.length_set], fun j hj => ?_⟩ h⟩
  rw [List.getElem?_set_ne]
  intro e
  exact hj (e ▸ hm)
def dGNil : FGs := fun ds ρ M Kp => match ds with
  | [] => Kp ρ M
  | _ :: _ => False
def dGCons (γ : FG) (η : FGs) : FGs := fun ds ρ M Kp => match ds with
  | [] => False
  | d :: ds => γ d ρ M fun ρ1 M1 => η ds ρ1 M1 Kp
def dgs_nil : DGos Y [] dGNil vs := by
  refine ⟨_, pgs_nil, fun ds us ρ M Kp G σ H Q a r h k => ?_, fun us σ H Q Q' hq h => ⟨h.1, hq _ _ (Keeps.refl _ _) h.2⟩⟩
  cases r with
  | nil => exact ⟨rfl, k ρ M G σ H (Go.refl _ _ _) a.wd a.rr h⟩
  | cons _ _ => exact h.elim
def dgs_cons {γ : FG} {η : FGs} (h1 : DGo Y e γ vs) (h2 : DGos Y es η vs)
    (hs : (assignEach (e :: es) Y.X.env).map (·.2) = assign e Y.X.env :: (assignEach es Y.X.env).map (·.2) := by rfl) : DGos Y (e :: es) (dGCons γ η) vs := by
  obtain ⟨t, p, s, o⟩ := h1
  obtain ⟨u, q, r, o2⟩ := h2
  refine ⟨_, pgs_cons p q hs, fun ds us ρ M Kp G σ H Q a rr h k => ?_, fun us σ H Q Q' hq h => ?_⟩
  · cases rr with
    | nil => exact h.elim
    | cons r1 r2 =>
      exact ⟨_, _, rfl, s _ _ ρ M _ G σ H _ a r1 h fun ρ1 M1 G1 σ1 H1 e1 w1 rr1 h1 => r _ _ ρ1 M1 Kp G1 σ1 H1 Q (a.stepS e1 w1 rr1) (r2.mono e1.ex) h1 fun ρ2 M2 G2 σ2 H2 e2 => k ρ2 M2 G2 σ2 H2 (e1.trans e2)⟩
  · obtain ⟨v, rest, e1, h⟩ := h
    exact ⟨v, rest, e1, o v σ H _ _ (fun σ2 H2 k2 h2 => o2 rest σ2 H2 _ _ (fun σ3 H3 k3 h3 => hq σ3 H3 (k2.trans k3) h3) h2) h⟩
def dGTup (n : Nat) (η : FGs) : FG := fun d ρ M Kp => match d with
  | .tup ds => ds.length = n ∧ η ds ρ M Kp
  | _ => False
def dg_tup {k : Nat} {n : Nat} {η : FGs} (hc : Y.X.calm = true) (h : DGos Y es η vs) (hn : (assignEach es Y.X.env).length = n := by rfl) (hst : (assignEach es Y.X.env).findIdx? (·.1) = none := by rfl) : DGo Y (.Tuple es k pos) (dGTup n η) vs := by
  obtain ⟨u, q, r, o⟩ := h
  refine ⟨_, pg_tup hc q hn hst, fun d v ρ M Kp G σ H Q a rr h k => ?_, fun us σ H Q Q' hq h => ?_⟩
  · cases d with
    | tup ds =>
      cases rr with
      | tup hg r2 => exact ⟨_, _, rfl, SqT.of (a.wd.ex _ _ hg), by rw [← r2.length]; exact h.1, r _ _ ρ M Kp G σ H Q a r2 h.2 k⟩
    | _ => exact h.elim
  · obtain ⟨b, xs, e1, e2, e3, h⟩ := h
    exact ⟨b, xs, e1, e2, e3, o xs σ H Q Q' hq h⟩
/-! ### assignments -/
def dAsg (φ : FE) (γ : FG) : FSt := fun KK ρ M => φ ρ M fun d M1 => γ d ρ M1 KK.nx
theorem simAsg {t : TE} {g : TG} {φ : FE} {γ : FG} (s : SimE Y t φ) (sg : SimG Y g γ) : SimS Y (tAsg t g) (dAsg φ γ) := fun ρ M KK G σ H E a h k =>
  s ρ M _ G σ H _ a h fun d M1 G1 H1 v e1 w1 r1 h1 => sg d v ρ M1 _ G1 σ H1 _ (a.step e1 w1) r1 h1 fun ρ2 M2 G2 σ2 H2 e2 => k.nx ρ2 M2 G2 σ2 H2 (e1.trans e2)
def ds_asg {tg e : Expr} {φ : FE} {γ : FG} (he : DE Y e φ) (hg : DG Y tg γ) (hs : swapsWithSole [tg] e pos.line Y.X.env = pure false := by rfl) (hw : swappedStores [tg] e Y.X.env = pure none := by rfl)
    (h1 : (assignEach [tg] Y.X.env).map (·.2) = [assign tg Y.X.env] := by rfl) : DS Y (.Assign [tg] e pos) (dAsg φ γ) := by
  obtain ⟨t, p, s⟩ := he
  obtain ⟨g, q, r⟩ := hg
  exact ⟨_, ps_asg p q hs hw h1, simAsg s r⟩
theorem simName (i : Nat) : SimG Y (gName i) (dName i) := fun d v ρ M Kp G σ H Q a r h k => k _ M G _ H (Go.refl _ _ _) a.wd (a.rr.set r i) h
def ds_set {i : Nat} {x : Str} {e : Expr} {φ : FE} {pos' : Pos} (hN : Y.X.N.Nodup) (hi : Y.X.N[i]? = some x) (hx : Loc Y.X.env.scope x) (he : DE Y e φ) (hs : swapsWith e (some (.Name x pos')) pos.line Y.X.env = pure false := by rfl) (hf : Y.X.fn x = true ∨ Y.X.env.scope.names.lookup x = some .local := by first | exact .inl rfl | exact .inr rfl | assumption) :
    DS Y (.Assign [.Name x pos'] e pos) (dAsg φ (dName i)) := by
  obtain ⟨t, p, s⟩ := he
  exact ⟨_, ps_set hN hi hx p hs hf, simAsg s (simName i)⟩
/-- a, b = x, y -/
def dPar (i j : Nat) (φ ψ : FE) : FSt := fun KK ρ M => φ ρ M fun x M1 => ψ ρ M1 fun y M2 => KK.nx ((ρ.set i (some x)).set j (some y)) M2
def ds_par {i j : Nat} {x y : Str} {a b : Expr} {φ ψ : FE} {px py pt : Pos} {kt k2 pt2} (hc : Y.X.calm = true) (hN : Y.X.N.Nodup) (hi : Y.X.N[i]? = some x) (hj : Y.X.N[j]? = some y) (hij : i ≠ j)
    (hx : Y.X.env.scope.names.lookup x = some .local) (hy : Y.X.env.scope.names.lookup y = some .local) (ha : DE Y a φ) (hb : DE Y b ψ)
    (hw : swappedStores [.Tuple [.Name x px, .Name y py] kt pt] (.Tuple [a, b] k2 pt2) Y.X.env = pure (some [x, y]))
    (h1 : starEach [a, b] Y.X.env = (false, eval a Y.X.env) :: starEach [b] Y.X.env := by rfl) (h2 : starEach [b] Y.X.env = (false, eval b Y.X.env) :: starEach [] Y.X.env := by rfl)
    (hs : swapsWithSole [.Tuple [.Name x px, .Name y py] kt pt] (.Tuple [a, b] k2 pt2) pos.line Y.X.env = pure false := by rfl) :
    DS Y (.Assign [.Tuple [.Name x px, .Name y py] kt pt] (.Tuple [a, b] k2 pt2) pos) (dPar i j φ ψ) := by
  obtain ⟨t, p, s⟩ := ha
  obtain ⟨u, q, r⟩ := hb
  refine ⟨_, ps_par hc hN hi hj hij hx hy (pa_cons p (pa_cons q pa_nil h2) h1) hw hs, fun ρ M KK G σ H E a h k => ?_⟩
  exact s ρ M _ G σ H _ a h fun d M1 G1 H1 v e1 w1 r1 h1 => r ρ M1 _ G1 σ H1 _ (a.step e1 w1) h1 fun d2 M2 G2 H2 v2 e2 w2 r2 h2 =>
    ⟨v, v2, rfl, k.nx _ M2 G2 _ H2 (e1.trans e2) w2 (((a.rr.mono (e1.trans e2).ex).set (r1.mono e2.ex) i).set r2 j) h2⟩
/-- o[i] = e -/
def δSetL : D → D → D → Mem → (Mem → Prop) → Prop := fun o i v M Kp => match o with
  | .ptr p => (match i with
    | .int k => ∃ ds j, M p = some (.lst ds) ∧ ixN ds.length k = some j ∧ Kp (updM M p (.lst (ds.set j v)))
    | _ => False)
  | _ => False
abbrev FSet := D → D → D → Mem → (Mem → Prop) → Prop
def LiftSet (K : PySem.W.Frag) (r : TSet) (δ : FSet) : Prop := ∀ o i v M Kp G H vo vi vv Q, Wd K G M H → Rep K G o vo → Rep K G i vi → Rep K G v vv → δ o i v M Kp → (∀ M' G' H', Go G M H G' M' H' → Wd K G' M' H' → Kp M' → Q H') → r vo vi vv H Q
theorem lift_setL {K : PySem.W.Frag} : LiftSet K rSetL δSetL := by
  intro o i v M Kp G H vo vi vv Q w ro ri rv h k
  cases o with
  | ptr p =>
    cases i with
    | int z =>
      obtain ⟨ds, j, hm, hj, h⟩ := h
      obtain ⟨vs, hv, rr⟩ := w.lst hm
      cases ro; cases ri
      exact ⟨p, vs, z, j, rfl, rfl, hv, by rw [← rr.length]; exact hj, k _ G _ (w.goP hm) (w.put (mo := .lst (ds.set j v)) hm ⟨_, rfl, rr.set rv j⟩) h⟩
    | _ => exact h.elim
  | _ => exact h.elim
def dGSub (φo φi : FE) (δ : FSet) : FG := fun d ρ M Kp => φo ρ M fun o M1 => φi ρ M1 fun i M2 => δ o i d M2 fun M3 => Kp ρ M3
def dg_sub {o i : Expr} {φo φi : FE} {δ : FSet} {r : TSet} (hr : PSet Y.X r) (hl : LiftSet Y.X.K r δ) (ho : DE Y o φo) (hi : DE Y i φi)
    (ha : ∀ v, assign (.Subscript o i pos) Y.X.env v = (do
      let ov ← holding [v] (eval o Y.X.env)
      let iv ← holding [v, ov] (eval i Y.X.env)
      standAt pos
      holding [v, ov, iv] (setItem ov iv v)
      release [v, ov, iv] []) := by intro _; rfl) : DG Y (.Subscript o i pos) (dGSub φo φi δ) := by
  obtain ⟨t, p, s⟩ := ho
  obtain ⟨u, q, sr⟩ := hi
  refine ⟨_, pg_sub p q hr ha, fun d v ρ M Kp G σ H Q a rr h k => ?_⟩
  exact s ρ M _ G σ H _ a h fun o M1 G1 H1 vo e1 w1 r1 h1 => sr ρ M1 _ G1 σ H1 _ (a.step e1 w1) h1 fun i M2 G2 H2 vi e2 w2 r2 h2 =>
    hl o i d M2 _ G2 H2 vo vi v _ w2 (r1.mono e2.ex) r2 (rr.mono (e1.trans e2).ex) h2 fun M3 G3 H3 e3 w3 h3 => k ρ M3 G3 σ H3 ((e1.trans e2).trans e3) w3 (a.rr.mono ((e1.trans e2).trans e3).ex) h3
/-- x op= e -/
def dAug (i : Nat) (φ : FE) (δ : F2) : FSt := fun KK ρ M => match ρ[i]? with
  | some (some x) => φ ρ M fun y M1 => δ x y M1 fun z M2 => KK.nx (ρ.set i (some z)) M2
  | _ => False
def ds_aug {i : Nat} {x : Str} {e : Expr} {φ : FE} {op : Operator} {ti : TIp} {δ : F2} {pos' : Pos} (hN : Y.X.N.Nodup) (hi : Y.X.N[i]? = some x) (hx : Loc Y.X.env.scope x) (he : DE Y e φ) (ho : PIp Y.X op ti) (hl : Lift2 Y.X.K ti δ) (hf : Y.X.fn x = true ∨ Y.X.env.scope.names.lookup x = some .local := by first | exact .inl rfl | exact .inr rfl | assumption) :
    DS Y (.AugAssign (.Name x pos') op e pos) (dAug i φ δ) := by
  obtain ⟨t, p, s⟩ := he
  refine ⟨_, ps_aug hN hi hx p ho hf, fun ρ M KK G σ H E a h k => ?_⟩
  unfold dAug at h
  split at h
  · rename_i d ed
    obtain ⟨v, e1, r1⟩ := a.rr.get ed
    refine ⟨v, e1, s ρ M _ G σ H _ a h fun y M1 G1 H1 vy e1 w1 ry h1 => ?_⟩
    exact hl d y M1 _ G1 H1 v vy _ w1 (r1.mono e1.ex) ry h1 fun z M2 G2 H2 vz e2 w2 rz h2 => k.nx _ M2 G2 _ H2 (e1.trans e2) w2 ((a.rr.mono (e1.trans e2).ex).set rz i) h2
  · exact h.elim
def ds_augAdd {i : Nat} {x : Str} {e : Expr} {φ : FE} {pos' : Pos} (hN : Y.X.N.Nodup) (hi : Y.X.N[i]? = some x) (hx : Loc Y.X.env.scope x) (he : DE Y e φ) (hf : Y.X.fn x = true ∨ Y.X.env.scope.names.lookup x = some .local := by first | exact .inl rfl | exact .inr rfl | assumption) : DS Y (.AugAssign (.Name x pos') .Add e pos) (dAug i φ (δI0 fun i j => .int (i + j))) :=
  ds_aug hN hi hx he ip_add (lift_I0 fun _ _ _ => .int _) hf
def ds_augSub {i : Nat} {x : Str} {e : Expr} {φ : FE} {pos' : Pos} (hN : Y.X.N.Nodup) (hi : Y.X.N[i]? = some x) (hx : Loc Y.X.env.scope x) (he : DE Y e φ) (hf : Y.X.fn x = true ∨ Y.X.env.scope.names.lookup x = some .local := by first | exact .inl rfl | exact .inr rfl | assumption) : DS Y (.AugAssign (.Name x pos') .Sub e pos) (dAug i φ (δI0 fun i j => .int (i - j))) :=
  ds_aug hN hi hx he ip_sub (lift_I0 fun _ _ _ => .int _) hf
end
end Dl
end
noncomputable section
namespace Dl
open PySem PySem.Spec PyProof.Rows L2 Evl
/-! ### what is walked -/
/-- the iterator J gives the items, while P holds of the mutable objects -/
structure Runs (K : PySem.W.Frag) (G : Hp) (J : It) (items : List D) (P : Mem → Prop) : Prop where
  go : ∀ i G' M H, i < items.length → Ex G G' → Wd K G' M H → P M → J.go i H ∧ ∀ x H', J.yld i H x H' → ∃ d G'', items[i]? = some d ∧ Go G' M H G'' M H' ∧ Wd K G'' M H' ∧ Rep K G'' d x
  stop : ∀ G' M H, Ex G G' → Wd K G' M H → P M → J.stop items.length H
theorem Runs.mono {K : PySem.W.Frag} {G G1 : Hp} {J : It} {items : List D} {P : Mem → Prop} (r : Runs K G J items P) (e : Ex G G1) : Runs K G1 J items P :=
  ⟨fun i G' M H hi e2 => r.go i G' M H hi (e.trans e2), fun G' M H e2 => r.stop G' M H (e.trans e2)⟩
abbrev FI := Rho → Mem → (List D → (Mem → Prop) → Mem → Prop) → Prop
def SimI (Y : Yx) (wi : TI) (ι : FI) : Prop := ∀ ρ M Kp G σ H (R : It → Hp → Prop), At Y G ρ M σ H → ι ρ M Kp →
  (∀ items P M' G' H' J, Go G M H G' M' H' → Wd Y.X.K G' M' H' → Runs Y.X.K G' J items P → Kp items P M' → R J H') → wi σ H R
structure DI (Y : Yx) (tg e : Expr) (ι : FI) where
  wi : TI
  p : PI Y.X tg e wi
  s : SimI Y wi ι
/-! ### for -/
def forD (P : Mem → Prop) (γ : FG) (β : FSt) (KK : KS) : List D → Rho → Mem → Prop
  | [], ρ, M => P M ∧ KK.nx ρ M
  | x :: xs, ρ, M => P M ∧ γ x ρ M fun ρ1 M1 => β { KK with nx := forD P γ β KK xs, ct := forD P γ β KK xs, bk := KK.nx } ρ1 M1
def dFor (ι : FI) (γ : FG) (β : FSt) : FSt := fun KK ρ M => ι ρ M fun items P M1 => forD P γ β KK items ρ M1
section
variable {Y : Yx} {pos : Pos} {tg iter : Expr} {ι : FI} {γ : FG} {β : FSt}
theorem simFor {wi : TI} {g : TG} {tb : TS} (si : SimI Y wi ι) (sg : SimG Y g γ) (sb : SimS Y tb β) : SimS Y (tFor wi g tb) (dFor ι γ β) := by
  intro ρ M KK G σ H E a h k
  refine si ρ M _ G σ H _ a h fun items P M1 G1 H1 J e1 w1 run h1 => ?_
  refine ⟨fun i m σ' H' => m = items.length - i ∧ i ≤ items.length ∧ ∃ ρ' M' G', Go G1 M1 H1 G' M' H' ∧ Wd Y.X.K G' M' H' ∧ RepR Y.X.K G' ρ' σ' ∧ forD P γ β KK (items.drop i) ρ' M',
    ⟨items.length, by simp, Nat.zero_le _, ρ, M1, G1, Go.refl _ _ _, w1, a.rr.mono e1.ex, by rw [List.drop_zero]; exact h1⟩, ?_⟩
  rintro i m σ' H' ⟨rfl, hi, ρ', M', G', e', w', r', h'⟩
  by_cases hlt : i < items.length
  · rw [List.drop_eq_getElem_cons hlt] at h'
    obtain ⟨hp, h'⟩ := h'
    obtain ⟨hgo, hy⟩ := run.go i G' M' H' hlt e'.ex w' hp
    refine .inr ⟨hgo, fun σ2 H2 => i + 1 ≤ items.length ∧ ∃ ρ2 M2 G2, Go G1 M1 H1 G2 M2 H2 ∧ Wd Y.X.K G2 M2 H2 ∧ RepR Y.X.K G2 ρ2 σ2 ∧ forD P γ β KK (items.drop (i + 1)) ρ2 M2,
      fun σ2 H2 q => ⟨items.length - (i + 1), by omega, rfl, q⟩, fun x H2 yld => ?_⟩
    obtain ⟨d, G2, hd, e2, w2, r2⟩ := hy x H2 yld
    have ed : items[i] = d := by
      rw [List.getElem?_eq_getElem hlt] at hd
      exact Option.some.inj hd
    rw [ed] at h'
    have a2 : At Y G2 ρ' M' σ' H2 := ⟨((a.go.trans e1).trans e').trans e2, w2, r'.mono e2.ex⟩
    refine sg d x ρ' M' _ G2 σ' H2 _ a2 r2 h' fun ρ3 M3 G3 σ3 H3 e3 w3 r3 h3 => ?_
    have e13 := ((e'.trans e2).trans e3)
    have k3 := k.mono (e1.trans e13)
    refine sb ρ3 M3 _ G3 σ3 H3 _ (a2.stepS e3 w3 r3) h3 ⟨fun ρ4 M4 G4 σ4 H4 e4 w4 r4 h4 => ⟨hlt, ρ4, M4, G4, e13.trans e4, w4, r4, h4⟩, k3.rt, k3.nx, fun ρ4 M4 G4 σ4 H4 e4 w4 r4 h4 => ⟨hlt, ρ4, M4, G4, e13.trans e4, w4, r4, h4⟩⟩
  · have e : i = items.length := by omega
    subst e
    rw [List.drop_length] at h'
    exact .inl ⟨run.stop G' M' H' e'.ex w' h'.1, k.nx ρ' M' G' σ' H' (e1.trans e') w' r' h'.2⟩
def ds_for {body : List Stmt} (hp : PassesOwn (model Y.X.prog Y.X.w) Y.X.A Y.X.env Y.X.xe) (hc : Y.X.calm = true) (hi : DI Y tg iter ι) (hg : DG Y tg γ) (hb : DSs Y body β)
    (hs : ∀ x, foldedSetIterable iter Y.X.env x = pure x := by intro _; rfl) : DS Y (.For tg iter body [] pos) (dFor ι γ β) := by
  obtain ⟨wi, p1, s1⟩ := hi
  obtain ⟨g, p2, s2⟩ := hg
  obtain ⟨tb, p3, s3⟩ := hb
  exact ⟨_, ps_for hp hc p1 p2 p3 hs, simFor s1 s2 s3⟩
/-! ### while -/
def dWhile (α : FT) (β : FSt) : FSt := fun KK ρ M => ∃ W : Nat → Rho → Mem → Prop, (∃ m, W m ρ M) ∧ ∀ m ρ M, W m ρ M → α ρ M fun b M1 => match b with
  | true => β { KK with nx := fun ρ' M' => ∃ m', m' < m ∧ W m' ρ' M', ct := fun ρ' M' => ∃ m', m' < m ∧ W m' ρ' M', bk := KK.nx } ρ M1
  | false => KK.nx ρ M1
def ds_while {c : Expr} {body : List Stmt} {α : FT} (hp : PassesOwn (model Y.X.prog Y.X.w) Y.X.A Y.X.env Y.X.xe) (hc : DT Y c α) (hb : DSs Y body β) : DS Y (.While c body [] pos) (dWhile α β) := by
  obtain ⟨t, p1, s1⟩ := hc
  obtain ⟨tb, p2, s2⟩ := hb
  refine ⟨_, ps_while hp p1 p2, fun ρ M KK G σ H E a h k => ?_⟩
  obtain ⟨W, ⟨m0, w0⟩, turn⟩ := h
  refine ⟨fun m σ' H' => ∃ ρ' M' G', Go G M H G' M' H' ∧ Wd Y.X.K G' M' H' ∧ RepR Y.X.K G' ρ' σ' ∧ W m ρ' M', ⟨m0, ρ, M, G, Go.refl _ _ _, a.wd, a.rr, w0⟩, ?_⟩
  rintro m σ' H' ⟨ρ', M', G', e', w', r', hw⟩
  have a' := a.stepS e' w' r'
  refine s1 ρ' M' _ G' σ' H' _ a' (turn m ρ' M' hw) fun b M1 G1 H1 e1 w1 h1 => ?_
  have k1 := k.mono (e'.trans e1)
  cases b with
  | true =>
    refine iteT ⟨fun σ2 H2 => ∃ m', m' < m ∧ ∃ ρ2 M2 G2, Go G M H G2 M2 H2 ∧ Wd Y.X.K G2 M2 H2 ∧ RepR Y.X.K G2 ρ2 σ2 ∧ W m' ρ2 M2, fun σ2 H2 q => q, ?_⟩
    have nn : KonS Y G1 M1 H1 (fun ρ' M' => ∃ m', m' < m ∧ W m' ρ' M') fun σ2 H2 => ∃ m', m' < m ∧ ∃ ρ2 M2 G2, Go G M H G2 M2 H2 ∧ Wd Y.X.K G2 M2 H2 ∧ RepR Y.X.K G2 ρ2 σ2 ∧ W m' ρ2 M2 := fun ρ2 M2 G2 σ2 H2 e2 w2 r2 ⟨m', hm, hw2⟩ => ⟨m', hm, ρ2, M2, G2, (e'.trans e1).trans e2, w2, r2, hw2⟩
    exact s2 ρ' M1 _ G1 σ' H1 _ (a'.step e1 w1) h1 ⟨nn, k1.rt, k1.nx, nn⟩
  | false =>
    exact iteF (k.nx ρ' M1 G1 σ' H1 (e'.trans e1) w1 (r'.mono e1.ex) h1)
end
/-! ### the things walked -/
section
variable {K : PySem.W.Frag}
theorem runs_list {G : Hp} {a : Addr} {vs : List V} {ds : List D} {P : Mem → Prop} (r : Reps K G ds vs) (h : ∀ G' M H, Ex G G' → Wd K G' M H → P M → SqL K H a vs) : Runs K G (Itl K a) ds P where
  go := fun i G' M H hi e w p => by
    have hq := h G' M H e w p
    have hi2 : i < vs.length := by rw [← r.length]; exact hi
    refine ⟨⟨vs, vs[i], hq, by simp [hi2]⟩, fun x H' y => ?_⟩
    obtain ⟨e1, y⟩ := y
    subst e1
    obtain ⟨d, hd, rd⟩ := r.get' (y vs hq)
    exact ⟨d, G', hd, Go.refl _ _ _, w, rd.mono e⟩
  stop := fun G' M H e w p => ⟨vs, h G' M H e w p, by rw [r.length]; exact Nat.le_refl _⟩
theorem runs_tup {G : Hp} {a : Addr} {vs : List V} {ds : List D} {P : Mem → Prop} (r : Reps K G ds vs) (h : ∀ G' M H, Ex G G' → Wd K G' M H → P M → SqT K H a vs) : Runs K G (Itt K a) ds P where
  go := fun i G' M H hi e w p => by
    have hq := h G' M H e w p
    have hi2 : i < vs.length := by rw [← r.length]; exact hi
    refine ⟨⟨vs, vs[i], hq, by simp [hi2]⟩, fun x H' y => ?_⟩
    obtain ⟨e1, y⟩ := y
    subst e1
    obtain ⟨d, hd, rd⟩ := r.get' (y vs hq)
    exact ⟨d, G', hd, Go.refl _ _ _, w, rd.mono e⟩
  stop := fun G' M H e w p => ⟨vs, h G' M H e w p, by rw [r.length]; exact Nat.le_refl _⟩
theorem Reps.scr {G : Hp} : ∀ ns : List Int, Reps K G (ns.map D.int) (ns.map V.int) := fun ns => Reps.of_ints ns
end
def yes : Mem → Prop := fun _ => True
/-- a list: frozen, or mutable and left as it is -/
def iterL (d : D) (M : Mem) (Kp : List D → (Mem → Prop) → Mem → Prop) : Prop := match d with
  | .lst ds => Kp ds yes M
  | .scr ns => Kp (ns.map D.int) yes M
  | .ptr p => ∃ ds, M p = some (.lst ds) ∧ Kp ds (fun M' => M' p = some (.lst ds)) M
  | _ => False
def dIL (φ : FE) : FI := fun ρ M Kp => φ ρ M fun d M1 => iterL d M1 Kp
def dIT (φ : FE) : FI := fun ρ M Kp => φ ρ M fun d M1 => match d with
  | .tup ds => Kp ds yes M1
  | _ => False
section
variable {Y : Yx} {pos : Pos} {tg e : Expr} {φ : FE}
theorem simIL {t : TE} (s : SimE Y t φ) : SimI Y (iList Y.X.K t) (dIL φ) := fun ρ M Kp G σ H R a h k => s ρ M _ G σ H _ a h fun d M1 G1 H1 v e1 w1 r1 h1 => by
  cases d with
  | lst ds =>
    cases r1 with
    | lst hg r => exact ⟨_, rfl, ⟨_, SqL.of (w1.ex _ _ hg)⟩, k ds yes M1 G1 H1 _ e1 w1 (runs_list r fun G' M' H' e w _ => SqL.of (w.ex _ _ (e _ _ hg))) h1⟩
  | scr ns =>
    cases r1 with
    | scr hg => exact ⟨_, rfl, ⟨_, ex_l w1.ex hg⟩, k _ yes M1 G1 H1 _ e1 w1 (runs_list (Reps.of_ints ns) fun G' M' H' e w _ => ex_l w.ex (ex_l e hg)) h1⟩
  | ptr p =>
    cases r1
    obtain ⟨ds, hm, h1⟩ := h1
    obtain ⟨vs, hv, r⟩ := w1.lst hm
    refine ⟨p, rfl, ⟨vs, SqL.of hv⟩, k ds _ M1 G1 H1 _ e1 w1 ⟨fun i G' M' H' hi e w hp => ?_, fun G' M' H' e w hp => ?_⟩ h1⟩
    · obtain ⟨vs', hv', r'⟩ := w.lst hp
      have hi2 : i < vs'.length := by rw [← r'.length]; exact hi
      refine ⟨⟨vs', vs'[i], SqL.of hv', by simp [hi2]⟩, fun x H2 y => ?_⟩
      obtain ⟨e2, y⟩ := y
      subst e2
      obtain ⟨d, hd, rd⟩ := r'.get' (y vs' (SqL.of hv'))
      exact ⟨d, G', hd, Go.refl _ _ _, w, rd⟩
    · obtain ⟨vs', hv', r'⟩ := w.lst hp
      exact ⟨vs', SqL.of hv', by rw [r'.length]; exact Nat.le_refl _⟩
  | _ => exact h1.elim
def di_list (h : DE Y e φ) : DI Y tg e (dIL φ) := by
  obtain ⟨t, p, s⟩ := h
  exact ⟨_, pi_list p, simIL s⟩
def di_tup (h : DE Y e φ) : DI Y tg e (dIT φ) := by
  obtain ⟨t, p, s⟩ := h
  refine ⟨_, pi_tup p, fun ρ M Kp G σ H R a h k => s ρ M _ G σ H _ a h fun d M1 G1 H1 v e1 w1 r1 h1 => ?_⟩
  cases d with
  | tup ds =>
    cases r1 with
    | tup hg r => exact ⟨_, rfl, ⟨_, SqT.of (w1.ex _ _ hg)⟩, k ds yes M1 G1 H1 _ e1 w1 (runs_tup r fun G' M' H' e w _ => SqT.of (w.ex _ _ (e _ _ hg))) h1⟩
  | _ => exact h1.elim
/-- the signs of a text -/
def signsD (x : Str) : List D := x.cps.toList.map fun c => .str ⟨#[c]⟩
def dIS (φ : FE) : FI := fun ρ M Kp => φ ρ M fun d M1 => match d with
  | .str x => Kp (signsD x) yes M1
  | _ => False
def di_str (h : DE Y e φ) : DI Y tg e (dIS φ) := by
  obtain ⟨t, p, s⟩ := h
  refine ⟨_, pi_str p, fun ρ M Kp G σ H R a h k => s ρ M _ G σ H _ a h fun d M1 G1 H1 v e1 w1 r1 h1 => ?_⟩
  cases d with
  | str x =>
    cases r1
    have hl : (signsD x).length = x.cps.size := by unfold signsD; rw [List.length_map, Array.length_toList]
    refine ⟨x, rfl, k _ yes M1 G1 H1 _ e1 w1 ⟨fun i G' M' H' hi e w _ => ⟨by show i < x.cps.size; rw [← hl]; exact hi, fun v H2 y => ?_⟩, fun G' M' H' e w _ => by show x.cps.size ≤ _; rw [hl]; exact Nat.le_refl _⟩ h1⟩
    obtain ⟨e2, c, hc, e3⟩ := y
    subst e2 e3
    refine ⟨.str ⟨#[c]⟩, G', ?_, Go.refl _ _ _, w, .str _⟩
    unfold signsD
    rw [List.getElem?_map, Array.getElem?_toList, hc] <;> rfl
  | _ => exact h1.elim
/-- lo, lo + 1, .. -/
def rangeD (lo : Int) (n : Nat) : List D := (List.range n).map fun (i : Nat) => .int (lo + (i : Int))
def dIR1 (η : FA) : FI := fun ρ M Kp => η ρ M fun ds M1 => match ds with
  | [.int j] => -(2 ^ 62) ≤ j ∧ j < 2 ^ 62 ∧ Kp (rangeD 0 j.toNat) yes M1
  | _ => False
def dIR2 (η : FA) : FI := fun ρ M Kp => η ρ M fun ds M1 => match ds with
  | [.int i, .int j] => (-(2 ^ 62) ≤ i ∧ i < 2 ^ 62 ∧ -(2 ^ 62) ≤ j ∧ j < 2 ^ 62) ∧ Kp (rangeD i (j - i).toNat) yes M1
  | _ => False
theorem runs_range {K : PySem.W.Frag} {G : Hp} (lo : Int) (n : Nat) : Runs K G (Itr lo n) (rangeD lo n) yes where
  go := fun i G' M H hi e w _ => by
    have hn : i < n := by unfold rangeD at hi; simpa using hi
    refine ⟨hn, fun x H' y => ?_⟩
    obtain ⟨e1, e2⟩ := y
    subst e1 e2
    refine ⟨.int (lo + (i : Int)), G', ?_, Go.refl _ _ _, w, .int _⟩
    unfold rangeD
    rw [List.getElem?_map, List.getElem?_range hn] <;> rfl
  stop := fun G' M H e w _ => by
    show n ≤ _
    unfold rangeD
    simp
def di_range1 {a : Expr} {η : FA} {p : Pos} (hg : Gl Y.X "range") (hm : Y.X.mg "range" = none) (ha : DA Y [a] η) (hs : starEach [a] Y.X.env = [(false, eval a Y.X.env)] := by rfl) : DI Y tg (.Call (.Name "range" p) [a] [] pos) (dIR1 η) := by
  obtain ⟨t, q, s⟩ := ha
  refine ⟨_, pi_range1 hg hm q hs, fun ρ M Kp G σ H R a h k => s ρ M _ G σ H _ a h fun ds M1 G1 H1 vs e1 w1 r1 h1 => ?_⟩
  split at h1
  · rename_i j
    cases r1 with
    | cons r rr =>
      cases rr
      cases r
      exact ⟨j, rfl, h1.1, h1.2.1, k _ yes M1 G1 H1 _ e1 w1 (runs_range 0 j.toNat) h1.2.2⟩
  · exact h1.elim
def di_range2 {a b : Expr} {η : FA} {p : Pos} (hg : Gl Y.X "range") (hm : Y.X.mg "range" = none) (ha : DA Y [a, b] η) (hs : starEach [a, b] Y.X.env = [(false, eval a Y.X.env), (false, eval b Y.X.env)] := by rfl) (hs2 : starEach [b] Y.X.env = [(false, eval b Y.X.env)] := by rfl) : DI Y tg (.Call (.Name "range" p) [a, b] [] pos) (dIR2 η) := by
  obtain ⟨t, q, s⟩ := ha
  refine ⟨_, pi_range2 hg hm q hs hs2, fun ρ M Kp G σ H R a h k => s ρ M _ G σ H _ a h fun ds M1 G1 H1 vs e1 w1 r1 h1 => ?_⟩
  split at h1
  · rename_i i j
    cases r1 with
    | cons r rr =>
      cases rr with
      | cons r' rr =>
        cases rr
        cases r
        cases r'
        exact ⟨i, j, rfl, h1.1, k _ yes M1 G1 H1 _ e1 w1 (runs_range i (j - i).toNat) h1.2⟩
  · exact h1.elim
end
/-! ### list comprehensions -/
/-- the block's slots forgotten -/
def wipeR (ρ : Rho) : List Nat → Rho
  | [] => ρ
  | v :: vs => (wipeR ρ vs).set v none
theorem RepR.wipe {K : PySem.W.Frag} {G : Hp} {ρ : Rho} {σ : L2.St} (r : RepR K G ρ σ) : ∀ vs : List Nat, RepR K G (wipeR ρ vs) (wipe σ vs)
  | [] => r
  | v :: vs => (RepR.wipe r vs).setN v
theorem wipe_in {σ : L2.St} {i : Nat} : ∀ {vs : List Nat}, i ∈ vs → i < σ.length → (wipe σ vs)[i]? = some none
  | v :: vs, h, hl => by
    unfold wipe
    by_cases e : v = i
    · subst e
      rw [List.getElem?_set_self (by rw [wipe_length]; exact hl)]
    · rw [List.getElem?_set_ne e]
      exact wipe_in ((List.mem_cons.mp h).resolve_left fun z => e z.symm) hl
theorem keeps_wipe {σ σ2 : L2.St} {vs : List Nat} (k : Keeps (wipe σ vs) σ2 vs) : wipe σ2 vs = wipe σ vs := by
  have hl : σ2.length = σ.length := by rw [k.1, wipe_length]
  refine List.ext_getElem? fun i => ?_
  by_cases hi : i ∈ vs
  · by_cases hlt : i < σ.length
    · rw [wipe_in hi hlt, wipe_in hi (by rw [hl]; exact hlt)]
    · rw [List.getElem?_eq_none (by rw [wipe_length, hl]; omega), List.getElem?_eq_none (by rw [wipe_length]; omega)]
  · rw [wipe_out hi, k.2 i hi]
def lcD (P : Mem → Prop) (γ : FG) (α : FT) (φ : FE) (ρ : Rho) : List D → List D → Mem → (List D → Mem → Prop) → Prop
  | [], acc, M, Kp => P M ∧ Kp acc M
  | x :: xs, acc, M, Kp => P M ∧ γ x ρ M fun ρ1 M1 => α ρ1 M1 fun b M2 => match b with
    | true => φ ρ1 M2 fun d M3 => acc.length < sizeLine ∧ lcD P γ α φ ρ xs (acc ++ [d]) M3 Kp
    | false => lcD P γ α φ ρ xs acc M2 Kp
def dLc (m : Bool) (ι : FI) (γ : FG) (α : FT) (φ : FE) (vs : List Nat) : FE := fun ρ M Kp => ι ρ M fun items P M1 => lcD P γ α φ (wipeR ρ vs) items [] M1 fun acc M2 => newL m acc M2 Kp
structure DTs (Y : Yx) (ifs : List Expr) (α : FT) where
  t : TT
  p : PTs Y.X ifs t
  s : SimT Y t α
def dYes : FT := fun _ M Kp => Kp true M
theorem simYes {Y : Yx} : SimT Y tYes dYes := fun ρ M Kp G σ H Q a h k => k true M G H (Go.refl _ _ _) a.wd h
/-- a new list that was hidden is told -/
theorem land {K : PySem.W.Frag} {G1 G' H1 H' : Hp} {M1 M' : Mem} {L : Addr} {us : List V} {acc : List D} {m : Bool} {Kp : KD} {Q : VK} (e : Go G1 M1 H1 G' M' H') (hL : H1 L = none) (w : Wd K G' M' H') (g : G' L = none) (mL : M' L = none) (hl : H' L = some (.lst us)) (r : Reps K G' acc us)
    (h : newL m acc M' Kp) (k : Kon K G1 M1 H1 Kp Q) : Q (.ref L) H' := by
  have ne : ∀ b o, H1 b = some o → b ≠ L := fun b o q => ne_of_none q hL
  have nm : ∀ b mo, M' b = some mo → b ≠ L := fun b mo q z => by rw [z, mL] at q; cases q
  cases m with
  | false =>
    refine k (.lst acc) M' (upd G' L (.lst us)) H' _ ⟨e.ex.trans (Ex.new g), fun b o nt q mm gg => ?_⟩ ⟨fun b o q => ?_, fun b mo q => ?_⟩ (.lst upd_same (r.mono (Ex.new g))) h
    · obtain ⟨q1, q2, q3⟩ := e.fk b o nt q mm gg
      exact ⟨by rw [upd_ne (ne b o q)]; exact q1, q2, q3⟩
    · by_cases z : b = L
      · subst z; rw [upd_same] at q; cases q; exact hl
      · rw [upd_ne z] at q; exact w.ex b o q
    · obtain ⟨q1, o, q2, q3⟩ := w.mem b mo q
      exact ⟨by rw [upd_ne (nm b mo q)]; exact q1, o, q2, RepO.mono (Ex.new g) q3⟩
  | true =>
    refine k (.ptr L) (updM M' L (.lst acc)) G' H' _ ⟨e.ex, fun b o nt q mm gg => ?_⟩ ⟨w.ex, fun b mo q => ?_⟩ (.ptr L) (h L mL)
    · obtain ⟨q1, q2, q3⟩ := e.fk b o nt q mm gg
      exact ⟨q1, by rw [updM_ne (ne b o q)]; exact q2, q3⟩
    · by_cases z : b = L
      · subst z; rw [updM_same] at q; cases q; exact ⟨g, _, hl, us, rfl, r⟩
      · rw [updM_ne z] at q; exact w.mem b mo q
section
variable {Y : Yx} {ι : FI} {γ : FG} {α : FT} {φ : FE} {vs : List Nat}
theorem simLc (m : Bool) {wi : TI} {g : TG} {tt : TT} {te : TE} (si : SimI Y wi ι) (sg : SimG Y g γ) (og : OnlyG g vs) (st : SimT Y tt α) (se : SimE Y te φ) : SimE Y (tLc wi g tt te vs) (dLc m ι γ α φ vs) := by
  intro ρ M Kp G σ H Q a h k
  refine si ρ M _ G σ H _ a h fun items P M1 G1 H1 J e1 w1 run h1 => ?_
  intro L hL
  have a1 := a.step e1 w1
  -- the new list stands at L, unknown to G and M
  have gL : G1 L = none := fresh_back w1.ex hL
  have mL : M1 L = none := by
    cases q : M1 L with
    | none => rfl
    | some mo => obtain ⟨_, o, ho, _⟩ := w1.mem L mo q; rw [hL] at ho; cases ho
  have ne : ∀ b o, H1 b = some o → b ≠ L := fun b o q => ne_of_none q hL
  have start : Go G1 M1 H1 G1 M1 (upd H1 L (.lst [])) := ⟨Ex.refl _, fun b o _ e m g => ⟨g, m, by rw [upd_ne (ne b o e)]; exact e⟩⟩
  have wst : Wd Y.X.K G1 M1 (upd H1 L (.lst [])) := ⟨Ex.mut w1.ex gL, fun b mo e => by
    obtain ⟨g, o, ho, r⟩ := w1.mem b mo e
    exact ⟨g, o, by rw [upd_ne (ne_of_none ho hL)]; exact ho, r⟩⟩
  refine ⟨fun i n H' => n = items.length - i ∧ i ≤ items.length ∧ ∃ acc M' G' us, Go G1 M1 H1 G' M' H' ∧ Wd Y.X.K G' M' H' ∧ G' L = none ∧ M' L = none ∧ H' L = some (.lst us) ∧ Reps Y.X.K G' acc us ∧ lcD P γ α φ (wipeR ρ vs) (items.drop i) acc M' fun acc M2 => newL m acc M2 Kp,
    ⟨items.length, by simp, Nat.zero_le _, [], M1, G1, [], start, wst, gL, mL, upd_same, .nil, by rw [List.drop_zero]; exact h1⟩, ?_⟩
  rintro i n H' ⟨rfl, hi, acc, M', G', us, e', w', g', m', hl', r', h'⟩
  by_cases hlt : i < items.length
  · rw [List.drop_eq_getElem_cons hlt] at h'
    obtain ⟨hp, h'⟩ := h'
    obtain ⟨hgo, hy⟩ := run.go i G' M' H' hlt e'.ex w' hp
    refine .inr ⟨hgo, fun H2 => i + 1 ≤ items.length ∧ ∃ acc M' G' us, Go G1 M1 H1 G' M' H2 ∧ Wd Y.X.K G' M' H2 ∧ G' L = none ∧ M' L = none ∧ H2 L = some (.lst us) ∧ Reps Y.X.K G' acc us ∧ lcD P γ α φ (wipeR ρ vs) (items.drop (i + 1)) acc M' fun acc M2 => newL m acc M2 Kp,
      fun H2 q => ⟨items.length - (i + 1), by omega, rfl, q⟩, fun x H2 yld => ?_⟩
    obtain ⟨d, G2, hd, e2, w2, r2⟩ := hy x H2 yld
    have ed : items[i] = d := by
      rw [List.getElem?_eq_getElem hlt] at hd
      exact Option.some.inj hd
    rw [ed] at h'
    have a2 : At Y G2 (wipeR ρ vs) M' (wipe σ vs) H2 := ⟨((a.go.trans e1).trans e').trans e2, w2, (a.rr.mono ((e1.trans e').trans e2).ex).wipe vs⟩
    have f2 := e2.fk L _ (fun _ z => by cases z) hl' m' g'
    refine og x (wipe σ vs) H2 _ _ (fun σ3 H3 kp q => ⟨keeps_wipe kp, q⟩) ?_
    refine sg d x (wipeR ρ vs) M' _ G2 (wipe σ vs) H2 _ a2 r2 h' fun ρ3 M3 G3 σ3 H3 e3 w3 r3 h3 => ?_
    have a3 := a2.stepS e3 w3 r3
    refine st ρ3 M3 _ G3 σ3 H3 _ a3 h3 fun b M4 G4 H4 e4 w4 h4 => ?_
    have f4 := (e3.trans e4).fk L _ (fun _ z => by cases z) f2.2.2 f2.2.1 f2.1
    cases b with
    | true =>
      refine iteT ?_
      refine se ρ3 M4 _ G4 σ3 H4 _ (a3.step e4 w4) h4 fun y M5 G5 H5 v5 e5 w5 r5 h5 => ?_
      have f5 := e5.fk L _ (fun _ z => by cases z) f4.2.2 f4.2.1 f4.1
      have e25 := (e2.trans (e3.trans e4)).trans e5
      refine ⟨us, f5.2.2, by rw [← r'.length]; exact h5.1, hlt, acc ++ [y], M5, G5, us ++ [v5], ?_, ?_, f5.1, f5.2.1, upd_same, (r'.mono e25.ex).append (.one r5), h5.2⟩
      · refine ⟨(e'.trans e25).ex, fun b o nt e m g => ?_⟩
        obtain ⟨q1, q2, q3⟩ := (e'.trans e25).fk b o nt e m g
        exact ⟨q1, q2, by rw [upd_ne (ne b o e)]; exact q3⟩
      · exact ⟨Ex.mut w5.ex f5.1, fun b mo e => by
          obtain ⟨g, o, ho, r⟩ := w5.mem b mo e
          have ne : b ≠ L := fun z => by rw [z, f5.2.1] at e; cases e
          exact ⟨g, o, by rw [upd_ne ne]; exact ho, r⟩⟩
    | false =>
      refine iteF ?_
      exact ⟨hlt, acc, M4, G4, us, e'.trans (e2.trans (e3.trans e4)), w4, f4.1, f4.2.1, f4.2.2, r'.mono (e2.trans (e3.trans e4)).ex, h4⟩
  · have e : i = items.length := by omega
    subst e
    rw [List.drop_length] at h'
    obtain ⟨hp, h'⟩ := h'
    exact .inl ⟨run.stop G' M' H' e'.ex w' hp, land e' hL w' g' m' hl' r' h' (Kon.mono k e1)⟩
end
end Dl
end
noncomputable section
namespace Dl
open PySem PySem.Spec PyProof.Rows L2 Evl
/-! ### comprehensions, told in their block's context -/
def Yx.blk (Y : Yx) (s : Shared) (H : Hp) (scope : Scope) (cenv : Env) (fp : List Addr) : Yx where
  X := Y.X.blk s H scope cenv fp
  G0 := Y.G0
  M0 := Y.M0
  H0 := Y.H0
  E := fun _ => E0
  pass := fun σ pins H s e s' I c => by
    obtain ⟨_, _, _, _, _, _, _, _, _, _, _, _, z⟩ := c
    exact z.elim
  KX := fun _ _ _ _ => False
  link := fun _ _ _ _ _ _ _ _ _ _ _ _ _ _ h => h.elim
section
variable {Y : Yx} {s0 : Shared} {H0 : Hp} {scope : Scope} {cenv : Env} {fp : List Addr}
theorem SimE.unblk {t : TE} {φ : FE} (h : SimE (Y.blk s0 H0 scope cenv fp) t φ) : SimE Y t φ := fun ρ M Kp G σ H Q a => h ρ M Kp G σ H Q ⟨a.go, a.wd, a.rr⟩
theorem SimT.unblk {t : TT} {φ : FT} (h : SimT (Y.blk s0 H0 scope cenv fp) t φ) : SimT Y t φ := fun ρ M Kp G σ H Q a => h ρ M Kp G σ H Q ⟨a.go, a.wd, a.rr⟩
theorem SimG.unblk {t : TG} {γ : FG} (h : SimG (Y.blk s0 H0 scope cenv fp) t γ) : SimG Y t γ := fun d v ρ M Kp G σ H Q a => h d v ρ M Kp G σ H Q ⟨a.go, a.wd, a.rr⟩
theorem SimI.unblk {t : TI} {ι : FI} (h : SimI (Y.blk s0 H0 scope cenv fp) t ι) : SimI Y t ι := fun ρ M Kp G σ H R a => h ρ M Kp G σ H R ⟨a.go, a.wd, a.rr⟩
end
section
variable {Y : Yx} {pos spos : Pos} {elt tg iter tg1 iter1 : Expr} {ifs ifs1 : List Expr} {scope : Scope} {own : List (Str × Nat)} {ι ι1 : FI} {γ γ1 : FG} {α α1 : FT} {φ : FE}
def dts_nil : DTs Y [] dYes := ⟨_, pts_nil, simYes⟩
def dts_one {c : Expr} (h : DT Y c α) : DTs Y [c] α := ⟨_, pts_one h.p, h.s⟩
abbrev Blk (Y : Yx) (scope : Scope) (F : Yx → Type) : Type := ∀ (s : Shared) (H : Hp) (C : Addr) (cl : List (Str × Addr)) (fp : List Addr), F (Y.blk s H scope (compEnvC scope cl C Y.X.env) fp)
abbrev Blk.at0 {F : Yx → Type} (h : Blk Y scope F) : F (Y.blk Y.X.s_0 Y.X.H_0 scope (compEnvC scope [] 0 Y.X.env) []) := h Y.X.s_0 Y.X.H_0 0 [] []
def de_lc (m : Bool) (hc : Y.X.calm = true) (hN : Y.X.N.Nodup) (hi : DI Y tg iter ι) (ok : BlkOk Y.X.N Y.X.env.scope scope own)
    (hg : Blk Y scope fun Z => DGo Z tg γ (own.map (·.2))) (ht : Blk Y scope fun Z => DTs Z ifs α) (he : Blk Y scope fun Z => DE Z elt φ)
    (ug : ∀ s H C cl fp, (hg s H C cl fp).t = (hg Y.X.s_0 Y.X.H_0 0 [] []).t := by intros; rfl) (ut : ∀ s H C cl fp, (ht s H C cl fp).t = (ht Y.X.s_0 Y.X.H_0 0 [] []).t := by intros; rfl)
    (ue : ∀ s H C cl fp, (he s H C cl fp).t = (he Y.X.s_0 Y.X.H_0 0 [] []).t := by intros; rfl) (hs : ∀ x, foldedSetIterable iter Y.X.env x = pure x := by intro _; rfl) :
    DE Y (.ListComp elt [⟨tg, iter, ifs, 0⟩] scope pos) (dLc m ι γ α φ (own.map (·.2))) :=
  ⟨_, pe_lc hc hN hi.p ok (g := (hg Y.X.s_0 Y.X.H_0 0 [] []).t) (tt := (ht Y.X.s_0 Y.X.H_0 0 [] []).t) (te := (he Y.X.s_0 Y.X.H_0 0 [] []).t) (fun s H C cl fp => by rw [← ug s H C cl fp]; exact (hg s H C cl fp).p) (fun s H C cl fp => by rw [← ut s H C cl fp]; exact (ht s H C cl fp).p)
    (fun s H C cl fp => by rw [← ue s H C cl fp]; exact (he s H C cl fp).p) hs, simLc m hi.s (hg Y.X.s_0 Y.X.H_0 0 [] []).s.unblk (hg Y.X.s_0 Y.X.H_0 0 [] []).o (ht Y.X.s_0 Y.X.H_0 0 [] []).s.unblk (he Y.X.s_0 Y.X.H_0 0 [] []).s.unblk⟩
def ds_setLc (m : Bool) {i : Nat} {y : Str} {py : Pos} (hc : Y.X.calm = true) (hN : Y.X.N.Nodup) (hy : Y.X.N[i]? = some y) (hyl : Y.X.env.scope.names.lookup y = some .local)
    (hsw : swapsWith (.ListComp elt [⟨tg, iter, ifs, 0⟩] scope pos) (some (.Name y py)) spos.line Y.X.env = pure true) (hi : DI Y tg iter ι) (ok : BlkOk Y.X.N Y.X.env.scope scope own)
    (hg : Blk Y scope fun Z => DGo Z tg γ (own.map (·.2))) (ht : Blk Y scope fun Z => DTs Z ifs α) (he : Blk Y scope fun Z => DE Z elt φ)
    (ug : ∀ s H C cl fp, (hg s H C cl fp).t = (hg Y.X.s_0 Y.X.H_0 0 [] []).t := by intros; rfl) (ut : ∀ s H C cl fp, (ht s H C cl fp).t = (ht Y.X.s_0 Y.X.H_0 0 [] []).t := by intros; rfl)
    (ue : ∀ s H C cl fp, (he s H C cl fp).t = (he Y.X.s_0 Y.X.H_0 0 [] []).t := by intros; rfl) (hs : ∀ x, foldedSetIterable iter Y.X.env x = pure x := by intro _; rfl) :
    DS Y (.Assign [.Name y py] (.ListComp elt [⟨tg, iter, ifs, 0⟩] scope pos) spos) (dAsg (dLc m ι γ α φ (own.map (·.2))) (dName i)) :=
  ⟨_, ps_setLc hc hN hy hyl hsw hi.p ok (g := (hg Y.X.s_0 Y.X.H_0 0 [] []).t) (tt := (ht Y.X.s_0 Y.X.H_0 0 [] []).t) (te := (he Y.X.s_0 Y.X.H_0 0 [] []).t) (fun s H C cl fp => by rw [← ug s H C cl fp]; exact (hg s H C cl fp).p) (fun s H C cl fp => by rw [← ut s H C cl fp]; exact (ht s H C cl fp).p)
    (fun s H C cl fp => by rw [← ue s H C cl fp]; exact (he s H C cl fp).p) hs, simAsg (simLc m hi.s (hg Y.X.s_0 Y.X.H_0 0 [] []).s.unblk (hg Y.X.s_0 Y.X.H_0 0 [] []).o (ht Y.X.s_0 Y.X.H_0 0 [] []).s.unblk (he Y.X.s_0 Y.X.H_0 0 [] []).s.unblk) (simName i)⟩
end
/-! ### calls of built-ins -/
def dCB (δ : FN) (η : FA) : FE := fun ρ M Kp => η ρ M fun ds M1 => δ ds M1 Kp
section
variable {Y : Yx} {pos : Pos} {e : Expr} {es : List Expr} {η : FA} {δ : FN}
theorem simCB {r : List V → Hp → VK → Prop} {t : TA} (hl : LiftN Y.X.K r δ) (s : SimA Y t η) : SimE Y (tCB r t) (dCB δ η) := fun ρ M Kp G σ H Q a h k =>
  s ρ M _ G σ H _ a h fun ds M1 G1 H1 vs e1 w1 r1 h1 => hl ds M1 Kp G1 H1 vs Q w1 r1 h1 (Kon.mono k e1)
def de_callB {x : Str} {p : Pos} {id : String} {r : List V → Hp → VK → Prop} (hc : CallR Y.X (.builtin id) r) (hl : LiftN Y.X.K r δ) (hg : Gl Y.X x) (hm : Y.X.mg x = none) (hv : bootBuiltins x = some (.builtin id)) (ha : DA Y (e :: es) η) (hn : x ≠ "__name__" := by decide) (hdb : (x == ("__debug__" : Str)) = false := by decide)
    (he : starEach (e :: es) Y.X.env = (false, eval e Y.X.env) :: starEach es Y.X.env := by rfl) (hpl : (backTo pos (starEach es Y.X.env)).any (·.1) = false := by rfl) : DE Y (.Call (.Name x p) (e :: es) [] pos) (dCB δ η) :=
  ⟨_, pe_callB hc hg hm hv ha.p hn hdb he hpl, simCB hl ha.s⟩
def de_callTy {x : Str} {p : Pos} {T : String} {r : List V → Hp → VK → Prop} (hc : CallR Y.X (.type T) r) (hl : LiftN Y.X.K r δ) (hg : Gl Y.X x) (hm : Y.X.mg x = none) (hv : bootBuiltins x = some (.type T)) (ha : DA Y (e :: es) η) (hn : x ≠ "__name__" := by decide) (hdb : (x == ("__debug__" : Str)) = false := by decide)
    (he : starEach (e :: es) Y.X.env = (false, eval e Y.X.env) :: starEach es Y.X.env := by rfl) (hpl : (backTo pos (starEach es Y.X.env)).any (·.1) = false := by rfl) : DE Y (.Call (.Name x p) (e :: es) [] pos) (dCB δ η) :=
  ⟨_, pe_callTy hc hg hm hv ha.p hn hdb he hpl, simCB hl ha.s⟩
end
/-! #### len -/
def lenD (M : Mem) : D → Option Nat
  | .str y => if y.length ≤ sizeLine then some y.length else none
  | .lst ds => some ds.length
  | .tup ds => some ds.length
  | .scr ns => some ns.length
  | .dK ks ds => none
  | .ptr a => (match M a with
    | some (.lst ds) => some ds.length
    | _ => none)
  | _ => none
def δLen : FN := fun xs M Kp => match xs with
  | [x] => ∃ n, lenD M x = some n ∧ Kp (.int (n : Int)) M
  | _ => False
end Dl
end
noncomputable section
namespace Dl
open PySem PySem.Spec PyProof.Rows L2 Evl
end Dl
namespace PySem
open Sem (wp)
theorem meets_enum1 {v : Value} {o : Obj} {H : Heap → Prop} (B : Begins v o H) :
    Meets (Builtin.«enumerate.__new__» ⟨[.type "enumerate", v], []⟩) (fun _ R s => H s.heap ∧
      R (.ok (.ret (.ref (s.heap.push o).objs.size))) { s with heap := (s.heap.push o).push { cls := .type "enumerate", data := .fields #[.none, .bool false, .ref s.heap.objs.size, rawInt 0, .none, .none] } }) :=
  .of_wp fun prog w A R s h => by
    obtain ⟨hp, g, d, tk, os⟩ := s; obtain ⟨h1, h⟩ := h
    have hsub := sub_enumerate
    have q1 : ∀ {A' : Around} {E : Value → Shared → Prop} {Q : Value → Shared → Prop}, Q (.ref hp.objs.size) ⟨hp.push o, g, d, tk, os⟩ → wpAny (model prog w) A' (pyIter v) Q E ⟨hp, g, d, tk, os⟩ :=
      fun q => B.iter prog w _ _ ⟨hp, g, d, tk, os⟩ _ h1 q
    wp_walk using q1
    refine wpAny_stack_any fun st => wpAny_pure ?_
    split
    · rename_i c _ _ _ _ _
      cases (c == Value.type "enumerate")
      · wp_walk using q1
        exact ⟨_, rfl, h⟩
      · wp_walk using q1
        exact ⟨_, rfl, h⟩
    · wp_walk using q1
      exact ⟨_, rfl, h⟩
theorem enum_begins1 {prog : Program} {w : World} {A : Around} {E : Value → Shared → Prop} {s : Shared} {v : Value} {o : Obj} {H : Heap → Prop} {Q : Value → Shared → Prop} (B : Begins v o H) (h1 : H s.heap)
    (h : ∀ h', IsEnum h' (s.heap.objs.size + 1) s.heap.objs.size 0 .none → h'.get? s.heap.objs.size = some o → h'.objs.size = s.heap.objs.size + 2 →
      (∀ b o, s.heap.get? b = some o → h'.get? b = some o) → Q (.ref (s.heap.objs.size + 1)) { s with heap := h' }) :
    wpAny (model prog w) A (call (.type "enumerate") [v]) Q E s := by
  refine callType_new F.called_enumerate (by decide) (F.typeCall_enumerate_1 _) (F.newCall_enumerate_1 _) (fun obj => F.args_object_init_2 obj _) F.entry_enumerate_new
    (meets_enum1 B) ⟨h1, ?_⟩
  have hz : (s.heap.push o).objs.size = s.heap.objs.size + 1 := Heap.size_push ..
  show _ ∧ _
  rw [hz]
  have he : IsEnum ((s.heap.push o).push { cls := .type "enumerate", data := .fields #[.none, .bool false, .ref s.heap.objs.size, rawInt 0, .none, .none] }) (s.heap.objs.size + 1) s.heap.objs.size 0 .none := by
    have := Heap.get?_push_size (s.heap.push o) (o := { cls := .type "enumerate", data := .fields #[.none, .bool false, .ref s.heap.objs.size, rawInt 0, .none, .none] }) rfl
    rw [hz] at this; exact this
  refine ⟨⟨_, he, rfl⟩, h _ he (Heap.get?_push_of_some _ (Heap.get?_push_size _ B.free)) (by rw [Heap.size_push, hz]) fun b o x => Heap.get?_push_of_some _ (Heap.get?_push_of_some _ x)⟩
end PySem
namespace Dl
open PySem PySem.Spec PyProof.Rows L2 Evl
/-! ### enumerate of a tuple, of a text -/
/-- pairs of the turn's number and the i-th of f -/
def Iten (n : Nat) (f : Nat → V → Hp → Prop) (g : Hp → Prop) : It :=
  ⟨fun i H => i < n ∧ g H, fun i H v H' => ∃ T x, v = .ref T ∧ H T = none ∧ H' = upd H T (.tup [.int (i : Nat), x]) ∧ f i x H, fun i H => i = n ∧ g H⟩
/-- a source whose iterator stands at it: D draws from it, while the tracked thing that Z tells of is there -/
theorem turn_enumD {P : Program} {w : World} {K : PySem.W.Frag} {elts : List Expr} {kk : Nat} {tpos : Pos} {e it : Addr} {n : Nat} {st : Nat → Heap → Prop} {f : Nat → V → Hp → Prop} {g : Hp → Prop}
    (hz : ∀ (X : Cx) (pins : List (Addr × Obj)) (σ : L2.St) (H : Hp) (s : Shared), X.prog = P → X.w = w → X.K = K → Inv X pins σ H s → g H → ∃ (Pv : Nat → Value → Prop) (Z : Heap → Prop) (tr : List Addr), e ∉ tr ∧ Z s.heap ∧
      (∀ A : Around, A.handled = none → Draws P w A it (it :: tr) n Pv (fun i h => st i h ∧ Z h)) ∧ ∀ i v, Pv i v → ∃ x, RelV x v ∧ f i x H)
    (hst : ∀ i h, st i h → ∃ o, h.get? it = some o ∧ ∀ v, o.data ≠ .cell v) (hkeep : ∀ i h h', st i h → (∀ o, h.get? it = some o → h'.get? it = some o) → st i h') :
    Turn P w K (.Tuple elts kk tpos) (Iten n f g) [e, it] e (fun i h => (∃ old, IsEnum h e it ((i : Nat) : Int) old) ∧ st i h ∧ e ≠ it) where
  mem := by simp
  obj := fun i h q b hb => by
    obtain ⟨⟨old, he⟩, hs, _⟩ := q
    have e' : b = e ∨ b = it := by simpa using hb
    rcases e' with z | z
    · rw [z]; exact ⟨_, he, fun v q => nomatch q⟩
    · rw [z]; exact hst i h hs
  keep := fun i h h' q k => let ⟨⟨old, he⟩, hi, hne⟩ := q; ⟨⟨old, k e (by simp) _ he⟩, hkeep i h h' hi fun o q => k it (by simp) o q, hne⟩
  item := by
    intro X hP hw hK hc i pins s σ H E I hf q hg
    obtain ⟨⟨old, he⟩, hit, hne⟩ := q
    obtain ⟨hin, hgH⟩ := hg
    obtain ⟨Pv, Z, tr, htr, zz, D, hv⟩ := hz X pins σ H s hP hw hK I hgH
    subst hP hw hK
    have hh : X.A.handled = none := I.ok.hd hc
    have hel : e < s.heap.objs.size := Heap.lt_size he
    have hil : it < s.heap.objs.size := by obtain ⟨_, q, _⟩ := hst i _ hit; exact Heap.lt_size q
    have W := GoesN.enumFrom (A := X.A) (elts := elts) (x1 := kk) (pos := tpos) 0 (D X.A.in1 hh) e hne (by simp [hne, htr]) (by simp)
    have he0 : IsEnum s.heap e it (0 + (i : Int)) old := by rw [Int.zero_add]; exact he
    refine wpAny_mono (W.goes i s (fun v s2 => ∃ x H', Inv X pins σ H' s2 ∧ RelV x v ∧ (Iten n f g).yld i H x H' ∧ ((∃ old, IsEnum s2.heap e it ((i + 1 : Nat) : Int) old) ∧ st (i + 1) s2.heap ∧ e ≠ it) ∧ ∀ b ∈ [e, it], H' b = none) E hin ⟨⟨old, he0⟩, hit, zz⟩ fun v h' tk hY hst' hk htk => ?_) (fun r s1 ⟨v, hr, q⟩ => ⟨v, hr, q⟩) fun _ _ z => z
    obtain ⟨T, t, x, ev, hT, hx, hTup⟩ := hY
    subst ev
    obtain ⟨y, ry, fy⟩ := hv i x hx
    obtain ⟨⟨old', he'⟩, hit', zz'⟩ := hst'
    have e0 : (0 : Int) + (i : Int) = ((i : Nat) : Int) := Int.zero_add _
    rw [e0] at hTup
    have new : ObjOk X.prog X.w (upd H T (.tup [.int (i : Nat), y])) h' T (.tup [.int (i : Nat), y]) :=
      ⟨by show 2 ≤ sizeLine; decide, [.int i t, x], .cons ⟨_, rfl⟩ (.cons ry .nil), hTup⟩
    have I1 : Inv X pins σ (upd H T (.tup [.int (i : Nat), y])) { s with heap := h', toks := tk } :=
      I.turnedNew (ch := [e, it]) (fun b ob hb q => hk b ob hb q) hf hT new
    refine ⟨.ref T, _, I1, rfl, ⟨T, y, rfl, I.hok.fresh hT, rfl, fy⟩, ⟨⟨old', ?_⟩, hit', hne⟩, fun b hb => ?_⟩
    · have e1 : (0 : Int) + ((i + 1 : Nat) : Int) = ((i + 1 : Nat) : Int) := Int.zero_add _
      rw [e1] at he'
      exact he'
    · have hb' : b < s.heap.objs.size := by
        have e' : b = e ∨ b = it := by simpa using hb
        rcases e' with z | z
        · rw [z]; exact hel
        · rw [z]; exact hil
      rw [upd_ne (Nat.ne_of_lt (Nat.lt_of_lt_of_le hb' hT))]
      exact (hf b hb).1
  done := by
    intro X hP hw hK hc i pins s σ H E I hf q hg
    obtain ⟨⟨old, he⟩, hit, hne⟩ := q
    obtain ⟨hin, hgH⟩ := hg
    obtain ⟨Pv, Z, tr, htr, zz, D, hv⟩ := hz X pins σ H s hP hw hK I hgH
    subst hP hw hK hin
    have hh : X.A.handled = none := I.ok.hd hc
    have W := GoesN.enumFrom (A := X.A) (elts := elts) (x1 := kk) (pos := tpos) 0 (D X.A.in1 hh) e hne (by simp [hne, htr]) (by simp)
    have he0 : IsEnum s.heap e it (0 + (i : Int)) old := by rw [Int.zero_add]; exact he
    exact W.stops s (fun s1 => Inv X pins σ H s1) E ⟨⟨old, he0⟩, hit, zz⟩ fun h' tk hk _ => I.turnedL (ch := [e, it]) (fun b o hb q => hk b o hb q) hf
  self := fun A i s Q E q h => let ⟨⟨_, he⟩, _⟩ := q; wpAny_pyIter_enum he h
section
variable {K : PySem.W.Frag}
/-- the pairs of an enumeration -/
def enumD (ds : List D) : List D := (List.range ds.length).map fun (i : Nat) => .tup [.int (i : Int), ds.getD i .non]
theorem enumD_length (ds : List D) : (enumD ds).length = ds.length := by unfold enumD; simp
theorem enumD_get {ds : List D} {i : Nat} {d : D} (h : ds[i]? = some d) : (enumD ds)[i]? = some (.tup [.int (i : Int), d]) := by
  obtain ⟨hi, e⟩ := List.getElem?_eq_some_iff.mp h
  unfold enumD
  rw [List.getElem?_map, List.getElem?_range hi]
  simp [List.getD, h]
/-- an enumeration whose source stays -/
theorem runs_pairs {G : Hp} {J : It} {ds : List D} {P : Mem → Prop} (hgo : ∀ i G' M H, i < ds.length → Ex G G' → Wd K G' M H → P M → J.go i H ∧ ∀ x H', J.yld i H x H' → ∃ T y d, x = .ref T ∧ H T = none ∧ H' = upd H T (.tup [.int (i : Nat), y]) ∧ ds[i]? = some d ∧ Rep K G' d y)
    (hstop : ∀ G' M H, Ex G G' → Wd K G' M H → P M → J.stop ds.length H) : Runs K G J (enumD ds) P where
  go := fun i G' M H hi e w p => by
    rw [enumD_length] at hi
    obtain ⟨h1, h2⟩ := hgo i G' M H hi e w p
    refine ⟨h1, fun x H' y => ?_⟩
    obtain ⟨T, z, d, rfl, hT, rfl, hd, r⟩ := h2 x H' y
    obtain ⟨ex, w'⟩ := w.newF (o := .tup [.int (i : Nat), z]) hT
    exact ⟨_, _, enumD_get hd, w.goF hT, w', .tup upd_same (.cons (.int _) (.cons (r.mono ex) .nil))⟩
  stop := fun G' M H e w p => by rw [enumD_length]; exact hstop G' M H e w p
end
/-- enumerate(x) of a list (frozen or left as it is), a tuple, a text -/
def iterE (d : D) (M : Mem) (Kp : List D → (Mem → Prop) → Mem → Prop) : Prop := match d with
  | .lst ds => Kp (enumD ds) yes M
  | .ptr p => ∃ ds, M p = some (.lst ds) ∧ Kp (enumD ds) (fun M' => M' p = some (.lst ds)) M
  | _ => False
section
variable {Y : Yx} {pos tpos : Pos} {e : Expr} {η : FA} {elts : List Expr} {kk : Nat} {p : Pos}
def dIEL (η : FA) : FI := fun ρ M Kp => η ρ M fun ds M1 => match ds with
  | [d] => iterE d M1 Kp
  | _ => False
theorem runs_enumL {K : PySem.W.Frag} {G : Hp} {a : Addr} {ds : List D} {P : Mem → Prop} (h : ∀ G' M H, Ex G G' → Wd K G' M H → P M → ∃ vs, SqL K H a vs ∧ Reps K G' ds vs) : Runs K G (Ite K a) (enumD ds) P := by
  refine runs_pairs (fun i G' M H hi e w p => ?_) fun G' M H e w p => ?_
  · obtain ⟨vs, hq, r⟩ := h G' M H e w p
    have hi2 : i < vs.length := by rw [← r.length]; exact hi
    refine ⟨⟨vs, vs[i], hq, by simp [hi2]⟩, fun x H' y => ?_⟩
    obtain ⟨T, y, e1, e2, e3, e4⟩ := y
    obtain ⟨d, hd, rd⟩ := r.get' (e4 vs hq)
    exact ⟨T, y, d, e1, e2, e3, hd, rd⟩
  · obtain ⟨vs, hq, r⟩ := h G' M H e w p
    exact ⟨vs, hq, by rw [r.length]; exact Nat.le_refl _⟩
def di_enumL (hg : Gl Y.X "enumerate") (hm : Y.X.mg "enumerate" = none) (ha : DA Y [e] η) (hs : starEach [e] Y.X.env = [(false, eval e Y.X.env)] := by rfl) : DI Y (.Tuple elts kk tpos) (.Call (.Name "enumerate" p) [e] [] pos) (dIEL η) := by
  refine ⟨_, pi_enum hg hm ha.p hs, fun ρ M Kp G σ H R a h k => ha.s ρ M _ G σ H _ a h fun ds M1 G1 H1 vs e1 w1 r1 h1 => ?_⟩
  split at h1
  · rename_i d
    cases r1 with
    | cons r rr =>
      cases rr
      cases d with
      | lst ds =>
        cases r with
        | lst hg r => exact ⟨_, _, rfl, SqL.of (w1.ex _ _ hg), k _ yes M1 G1 H1 _ e1 w1 (runs_enumL fun G' M' H' e w _ => ⟨_, SqL.of (w.ex _ _ (e _ _ hg)), r.mono e⟩) h1⟩
      | ptr q =>
        cases r
        obtain ⟨ds, hm', h1⟩ := h1
        obtain ⟨us, hu, r⟩ := w1.lst hm'
        refine ⟨_, _, rfl, SqL.of hu, k _ _ M1 G1 H1 _ e1 w1 (runs_enumL fun G' M' H' e w hp => ?_) h1⟩
        obtain ⟨us', hu', r'⟩ := w.lst hp
        exact ⟨us', SqL.of hu', r'⟩
      | _ => exact h1.elim
  · exact h1.elim
/-! #### of a tuple -/
theorem turn_enumT {P : Program} {w : World} {K : PySem.W.Frag} (a e it : Addr) (vs : List V) (hae : e ≠ a) (hai : a ≠ it) :
    Turn P w K (.Tuple elts kk tpos) (Iten vs.length (fun i x _ => vs[i]? = some x) (fun H => SqT K H a vs)) [e, it] e (fun i h => (∃ old, IsEnum h e it ((i : Nat) : Int) old) ∧ h.IsTupleIter it a i ∧ e ≠ it) := by
  refine turn_enumD (st := fun i h => h.IsTupleIter it a i) (fun X pins σ H s hP hw hK I hg => ?_) (fun i h st => ?_) (fun i h h' st k => st.at fun o e => k o e)
  · subst hP hw hK
    obtain ⟨its, rv, p, hz⟩ := I.tuple hg
    refine ⟨fun i v => its[i]? = some v, fun h => h.IsTuple a its.toArray, [a], by simpa using hae, p, fun A hh => ?_, fun i v h => ?_⟩
    · have := Draws.tuple (prog := X.prog) (w := X.w) hh it a hai its.toArray
      simpa [rv.length] using this
    · have hi := (List.getElem?_eq_some_iff.mp h).1
      have hi2 : i < vs.length := by rw [rv.length]; exact hi
      obtain ⟨u, hu, ru⟩ := rv.get (x := vs[i]) (i := i) (by simp [hi2])
      rw [h] at hu
      cases hu
      exact ⟨_, ru, by simp [hi2]⟩
  · obtain ⟨o, e, c, d⟩ := st
    exact ⟨o, e, fun v z => by rw [d] at z; cases z⟩
def iEnumT (K : PySem.W.Frag) (ta : TA) : TI := fun σ H R => ta σ H fun us H1 => ∃ a vs, us = [.ref a] ∧ SqT K H1 a vs ∧ R (Iten vs.length (fun i x _ => vs[i]? = some x) (fun H => SqT K H a vs)) H1
theorem pi_enumT {X : Cx} {e : Expr} {ta : TA} {p pos tpos : Pos} {elts : List Expr} {kk : Nat} (hg : Gl X "enumerate") (hm : X.mg "enumerate" = none) (ha : PA X [e] ta) (hs : starEach [e] X.env = [(false, eval e X.env)] := by rfl) :
    PI X (.Tuple elts kk tpos) (.Call (.Name "enumerate" p) [e] [] pos) (iEnumT X.K ta) := by
  refine ⟨fun pins s σ H R I h => ?_⟩
  refine Call_ (ld_blt I hg hm boot_enumerate (PyProof.Rows.callWith_type1 (thn (ha.run pos pins s σ H _ I h) fun us s1 ⟨vs, H1, I1, r1, q1⟩ => ?_) hs rfl))
  obtain ⟨a, xs, ex, hq, q⟩ := q1
  subst ex
  cases r1 with
  | cons r rr =>
    cases rr
    cases r
    obtain ⟨its, rv, p', hz⟩ := I1.tuple hq
    have hal : a < s1.heap.objs.size := p'.lt
    refine enum_begins1 (begins_tuple a its.toArray) (show s1.heap.IsTuple a its.toArray from p') fun h' he hit hsz hk => wpAny_pyIter_enum he ?_
    have I2 : Inv X pins σ H1 { s1 with heap := h' } := I1.kept (t' := s1.toks) hk
    refine ⟨s1.heap.objs.size + 1, [s1.heap.objs.size + 1, s1.heap.objs.size], _, _, H1, rfl, I2, turn_enumT a (s1.heap.objs.size + 1) s1.heap.objs.size xs (Nat.ne_of_gt (Nat.lt_succ_of_lt hal)) (Nat.ne_of_lt hal), ⟨⟨.none, he⟩, ⟨_, hit, rfl, rfl⟩, Nat.succ_ne_self _⟩, fun b hb => ?_, q⟩
    have e' : b = s1.heap.objs.size + 1 ∨ b = s1.heap.objs.size := by simpa using hb
    have hle : s1.heap.objs.size ≤ b := by
      rcases e' with z | z
      · rw [z]; exact Nat.le_add_right _ _
      · rw [z]; exact Nat.le_refl _
    exact I1.fpOk hle (I1.hok.fresh hle)
def dIET (η : FA) : FI := fun ρ M Kp => η ρ M fun ds M1 => match ds with
  | [.tup ds] => Kp (enumD ds) yes M1
  | _ => False
def di_enumT (hg : Gl Y.X "enumerate") (hm : Y.X.mg "enumerate" = none) (ha : DA Y [e] η) (hs : starEach [e] Y.X.env = [(false, eval e Y.X.env)] := by rfl) : DI Y (.Tuple elts kk tpos) (.Call (.Name "enumerate" p) [e] [] pos) (dIET η) := by
  refine ⟨_, pi_enumT hg hm ha.p hs, fun ρ M Kp G σ H R a h k => ha.s ρ M _ G σ H _ a h fun ds M1 G1 H1 vs e1 w1 r1 h1 => ?_⟩
  split at h1
  · rename_i ds
    cases r1 with
    | cons r rr =>
      cases rr
      cases r with
      | tup hg r =>
        refine ⟨_, _, rfl, SqT.of (w1.ex _ _ hg), k _ yes M1 G1 H1 _ e1 w1 (runs_pairs (fun i G' M H hi e w _ => ?_) fun G' M H e w _ => ⟨r.length, SqT.of (w.ex _ _ (e _ _ hg))⟩) h1⟩
        refine ⟨⟨by rw [← r.length]; exact hi, SqT.of (w.ex _ _ (e _ _ hg))⟩, fun x H' y => ?_⟩
        obtain ⟨T, y, e1, e2, e3, e4⟩ := y
        obtain ⟨d, hd, rd⟩ := r.get' e4
        exact ⟨T, y, d, e1, e2, e3, hd, rd.mono e⟩
  · exact h1.elim
/-! #### of a text -/
theorem turn_enumS {P : Program} {w : World} {K : PySem.W.Frag} (e it : Addr) (z : Str) (t : Tok) :
    Turn P w K (.Tuple elts kk tpos) (Iten z.cps.size (fun i x _ => ∃ c, z.cps[i]? = some c ∧ x = .str ⟨#[c]⟩) (fun _ => True)) [e, it] e (fun i h => (∃ old, IsEnum h e it ((i : Nat) : Int) old) ∧ h.IsStrIter it (strIterType z) z t i ∧ e ≠ it) := by
  refine turn_enumD (st := fun i h => h.IsStrIter it (strIterType z) z t i) (fun X pins σ H s hP hw hK I hg => ?_) (fun i h st => ?_) (fun i h h' st k => let ⟨o, ho, c, d⟩ := st; ⟨o, k o ho, c, d⟩)
  · subst hP hw hK
    refine ⟨fun i v => ∃ c u, z.cps[i]? = some c ∧ v = .str ⟨#[c]⟩ u, fun _ => True, [], by simp, trivial, fun A hh => ?_, fun i v h => ?_⟩
    · have := Draws.text (prog := X.prog) (w := X.w) hh it z t
      simpa using this
    · obtain ⟨c, u, h1, h2⟩ := h
      exact ⟨.str ⟨#[c]⟩, ⟨u, h2⟩, c, h1, rfl⟩
  · obtain ⟨o, e, c, d⟩ := st
    exact ⟨o, e, fun v z => by rw [d] at z; cases z⟩
def iEnumS (ta : TA) : TI := fun σ H R => ta σ H fun us H1 => ∃ z, us = [.str z] ∧ R (Iten z.cps.size (fun i x _ => ∃ c, z.cps[i]? = some c ∧ x = .str ⟨#[c]⟩) (fun _ => True)) H1
theorem pi_enumS {X : Cx} {e : Expr} {ta : TA} {p pos tpos : Pos} {elts : List Expr} {kk : Nat} (hg : Gl X "enumerate") (hm : X.mg "enumerate" = none) (ha : PA X [e] ta) (hs : starEach [e] X.env = [(false, eval e X.env)] := by rfl) :
    PI X (.Tuple elts kk tpos) (.Call (.Name "enumerate" p) [e] [] pos) (iEnumS ta) := by
  refine ⟨fun pins s σ H R I h => ?_⟩
  refine Call_ (ld_blt I hg hm boot_enumerate (PyProof.Rows.callWith_type1 (thn (ha.run pos pins s σ H _ I h) fun us s1 ⟨vs, H1, I1, r1, q1⟩ => ?_) hs rfl))
  obtain ⟨z, ex, q⟩ := q1
  subst ex
  cases r1 with
  | cons r rr =>
    cases rr
    obtain ⟨t, rfl⟩ := r
    refine enum_begins1 (begins_text z t) trivial fun h' he hit hsz hk => wpAny_pyIter_enum he ?_
    have I2 : Inv X pins σ H1 { s1 with heap := h' } := I1.kept (t' := s1.toks) hk
    refine ⟨s1.heap.objs.size + 1, [s1.heap.objs.size + 1, s1.heap.objs.size], _, _, H1, rfl, I2, turn_enumS (s1.heap.objs.size + 1) s1.heap.objs.size z t, ⟨⟨.none, he⟩, ⟨_, hit, rfl, rfl⟩, Nat.succ_ne_self _⟩, fun b hb => ?_, q⟩
    have e' : b = s1.heap.objs.size + 1 ∨ b = s1.heap.objs.size := by simpa using hb
    have hle : s1.heap.objs.size ≤ b := by
      rcases e' with z | z
      · rw [z]; exact Nat.le_add_right _ _
      · rw [z]; exact Nat.le_refl _
    exact I1.fpOk hle (I1.hok.fresh hle)
def dIES (η : FA) : FI := fun ρ M Kp => η ρ M fun ds M1 => match ds with
  | [.str z] => Kp (enumD (signsD z)) yes M1
  | _ => False
def di_enumS (hg : Gl Y.X "enumerate") (hm : Y.X.mg "enumerate" = none) (ha : DA Y [e] η) (hs : starEach [e] Y.X.env = [(false, eval e Y.X.env)] := by rfl) : DI Y (.Tuple elts kk tpos) (.Call (.Name "enumerate" p) [e] [] pos) (dIES η) := by
  refine ⟨_, pi_enumS hg hm ha.p hs, fun ρ M Kp G σ H R a h k => ha.s ρ M _ G σ H _ a h fun ds M1 G1 H1 vs e1 w1 r1 h1 => ?_⟩
  split at h1
  · rename_i z
    cases r1 with
    | cons r rr =>
      cases rr
      cases r
      have hl : (signsD z).length = z.cps.size := by unfold signsD; rw [List.length_map, Array.length_toList]
      refine ⟨_, rfl, k _ yes M1 G1 H1 _ e1 w1 (runs_pairs (fun i G' M H hi e w _ => ⟨⟨by rw [← hl]; exact hi, trivial⟩, fun x H' y => ?_⟩) fun G' M H e w _ => ⟨hl, trivial⟩) h1⟩
      obtain ⟨T, y, e1, e2, e3, c, hc, e4⟩ := y
      subst e4
      refine ⟨T, _, .str ⟨#[c]⟩, e1, e2, e3, ?_, .str _⟩
      unfold signsD
      rw [List.getElem?_map, Array.getElem?_toList, hc] <;> rfl
  · exact h1.elim
end
end Dl
end
noncomputable section
namespace Dl
open PySem PySem.Spec PyProof.Rows L2 Evl
/-! ### built-in functions -/
abbrev rLen (K : PySem.W.Frag) : List V → Hp → VK → Prop := fun xs H Q => ∃ x n, xs = [x] ∧ LenV K x H n ∧ Q (.int n) H
section
variable {K : PySem.W.Frag}
theorem lenD_ok {G H : Hp} {M : Mem} (w : Wd K G M H) {d : D} {v : V} {n : Nat} (r : Rep K G d v) (h : lenD M d = some n) : LenV K v H n := by
  cases r with
  | str y =>
    have h2 : (if y.length ≤ sizeLine then some y.length else none) = some n := h
    split at h2
    · rename_i hz; cases h2; exact ⟨hz, rfl⟩
    · cases h2
  | lst hg rr => cases h; exact .inl ⟨_, SqL.of (w.ex _ _ hg), rr.length⟩
  | tup hg rr => cases h; exact .inr ⟨_, SqT.of (w.ex _ _ hg), rr.length⟩
  | scr hg => cases h; exact .inl ⟨_, ex_l w.ex hg, by rw [List.length_map]⟩
  | ptr a =>
    have h2 : (match M a with | some (.lst ds) => some ds.length | _ => none) = some n := h
    split at h2
    · rename_i ds hm
      cases h2
      obtain ⟨vs, hv, rr⟩ := w.lst hm
      exact .inl ⟨_, SqL.of hv, rr.length⟩
    · cases h2
  | _ => cases h
theorem Reps.one_inv {G : Hp} {d : D} {vs : List V} (r : Reps K G [d] vs) : ∃ v, vs = [v] ∧ Rep K G d v := by
  cases r with
  | cons r rr => cases rr; exact ⟨_, rfl, r⟩
theorem Reps.two_inv {G : Hp} {d e : D} {vs : List V} (r : Reps K G [d, e] vs) : ∃ v u, vs = [v, u] ∧ Rep K G d v ∧ Rep K G e u := by
  cases r with
  | cons r rr =>
    obtain ⟨u, rfl, r2⟩ := rr.one_inv
    exact ⟨_, u, rfl, r, r2⟩
theorem lift_len : LiftN K (rLen K) δLen := by
  intro xs M Kp G H vs Q w r h k
  unfold δLen at h
  split at h
  · obtain ⟨n, hn, h⟩ := h
    obtain ⟨v, rfl, rv⟩ := r.one_inv
    exact ⟨v, n, rfl, lenD_ok w rv hn, k (.int (n : Int)) M G H _ (Go.refl _ _ _) w (.int _) h⟩
  · exact h.elim
def δMax2 : FN := fun xs M Kp => match xs with
  | [.int i, .int j] => Kp (.int (if j > i then j else i)) M
  | _ => False
def δMin2 : FN := fun xs M Kp => match xs with
  | [.int i, .int j] => Kp (.int (if j < i then j else i)) M
  | _ => False
theorem lift_max2 : LiftN K (fun xs H Q => ∃ i j, xs = [.int i, .int j] ∧ Q (.int (if j > i then j else i)) H) δMax2 := by
  intro xs M Kp G H vs Q w r h k
  unfold δMax2 at h
  split at h
  · obtain ⟨v, u, rfl, r1, r2⟩ := r.two_inv
    cases r1; cases r2
    exact ⟨_, _, rfl, k _ M G H _ (Go.refl _ _ _) w (.int _) h⟩
  · exact h.elim
theorem lift_min2 : LiftN K (fun xs H Q => ∃ i j, xs = [.int i, .int j] ∧ Q (.int (if j < i then j else i)) H) δMin2 := by
  intro xs M Kp G H vs Q w r h k
  unfold δMin2 at h
  split at h
  · obtain ⟨v, u, rfl, r1, r2⟩ := r.two_inv
    cases r1; cases r2
    exact ⟨_, _, rfl, k _ M G H _ (Go.refl _ _ _) w (.int _) h⟩
  · exact h.elim
def δAbs : FN := fun xs M Kp => match xs with
  | [.int i] => Kp (.int (if i < 0 then -i else i)) M
  | _ => False
theorem lift_abs : LiftN K (fun xs H Q => ∃ i, xs = [.int i] ∧ Q (.int (if i < 0 then -i else i)) H) δAbs := by
  intro xs M Kp G H vs Q w r h k
  unfold δAbs at h
  split at h
  · obtain ⟨v, rfl, r1⟩ := r.one_inv
    cases r1
    exact ⟨_, rfl, k _ M G H _ (Go.refl _ _ _) w (.int _) h⟩
  · exact h.elim
def δInt : FN := fun xs M Kp => match xs with
  | [.int i] => Kp (.int i) M
  | [.bl b] => Kp (.int (if b then 1 else 0)) M
  | _ => False
theorem lift_int : LiftN K (fun xs H Q => (∃ i, xs = [.int i] ∧ Q (.int i) H) ∨ ∃ k, xs = [.bl k] ∧ Q (.int (if k then 1 else 0)) H) δInt := by
  intro xs M Kp G H vs Q w r h k
  unfold δInt at h
  split at h
  · obtain ⟨v, rfl, r1⟩ := r.one_inv
    cases r1
    exact .inl ⟨_, rfl, k _ M G H _ (Go.refl _ _ _) w (.int _) h⟩
  · obtain ⟨v, rfl, r1⟩ := r.one_inv
    cases r1
    exact .inr ⟨_, rfl, k _ M G H _ (Go.refl _ _ _) w (.int _) h⟩
  · exact h.elim
/-- all items of a list, told by a function -/
def intsD : List D → Option (List Int)
  | [] => some []
  | .int i :: r => (intsD r).map (i :: ·)
  | _ => none
def blsD : List D → Option (List Bool)
  | [] => some []
  | .bl i :: r => (blsD r).map (i :: ·)
  | _ => none
def strsD : List D → Option (List Str)
  | [] => some []
  | .str i :: r => (strsD r).map (i :: ·)
  | _ => none
theorem ints_eq : ∀ {ds : List D} {ns : List Int}, intsD ds = some ns → ds = ns.map D.int
  | [], ns, h => by cases h; rfl
  | d :: r, ns, h => by
    unfold intsD at h
    split at h
    · rename_i e; cases e
    · rename_i i r' e
      cases e
      cases q : intsD r with
      | none => rw [q] at h; cases h
      | some ms => rw [q] at h; cases h; rw [ints_eq q]; rfl
    · cases h
theorem ints_map : ∀ ns : List Int, intsD (ns.map D.int) = some ns
  | [] => rfl
  | n :: ns => by show (intsD (ns.map D.int)).map (n :: ·) = _; rw [ints_map ns]; rfl
theorem bls_eq : ∀ {ds : List D} {ns : List Bool}, blsD ds = some ns → ds = ns.map D.bl
  | [], ns, h => by cases h; rfl
  | d :: r, ns, h => by
    unfold blsD at h
    split at h
    · rename_i e; cases e
    · rename_i i r' e
      cases e
      cases q : blsD r with
      | none => rw [q] at h; cases h
      | some ms => rw [q] at h; cases h; rw [bls_eq q]; rfl
    · cases h
theorem bls_map : ∀ ns : List Bool, blsD (ns.map D.bl) = some ns
  | [] => rfl
  | n :: ns => by show (blsD (ns.map D.bl)).map (n :: ·) = _; rw [bls_map ns]; rfl
theorem strs_eq : ∀ {ds : List D} {ns : List Str}, strsD ds = some ns → ds = ns.map D.str
  | [], ns, h => by cases h; rfl
  | d :: r, ns, h => by
    unfold strsD at h
    split at h
    · rename_i e; cases e
    · rename_i i r' e
      cases e
      cases q : strsD r with
      | none => rw [q] at h; cases h
      | some ms => rw [q] at h; cases h; rw [strs_eq q]; rfl
    · cases h
theorem strs_map : ∀ ns : List Str, strsD (ns.map D.str) = some ns
  | [] => rfl
  | n :: ns => by show (strsD (ns.map D.str)).map (n :: ·) = _; rw [strs_map ns]; rfl
def δSum : FN := fun xs M Kp => match xs with
  | [x] => ∃ ds ns, viewL M x = some ds ∧ intsD ds = some ns ∧ Kp (.int ns.sum) M
  | _ => False
theorem lift_sum : LiftN K (rSum K) δSum := by
  intro xs M Kp G H vs Q w r h k
  unfold δSum at h
  split at h
  · obtain ⟨ds, ns, hv, hi, h⟩ := h
    obtain ⟨v, rfl, r1⟩ := r.one_inv
    obtain ⟨a, us, rfl, hu, r2⟩ := w.viewL r1 hv
    rw [ints_eq hi] at r2
    rw [r2.ints] at hu
    exact ⟨a, ns, rfl, SqL.of hu, k _ M G H _ (Go.refl _ _ _) w (.int _) h⟩
  · exact h.elim
def δAll : FN := fun xs M Kp => match xs with
  | [x] => ∃ ds ns, viewL M x = some ds ∧ blsD ds = some ns ∧ Kp (.bl (ns.all id)) M
  | _ => False
theorem lift_all : LiftN K (rAll K) δAll := by
  intro xs M Kp G H vs Q w r h k
  unfold δAll at h
  split at h
  · obtain ⟨ds, ns, hv, hi, h⟩ := h
    obtain ⟨v, rfl, r1⟩ := r.one_inv
    obtain ⟨a, us, rfl, hu, r2⟩ := w.viewL r1 hv
    rw [bls_eq hi] at r2
    rw [r2.bls] at hu
    exact ⟨a, ns, rfl, SqL.of hu, k _ M G H _ (Go.refl _ _ _) w (.bl _) h⟩
  · exact h.elim
/-- max of a list of intsD -/
def δMaxL : FN := fun xs M Kp => match xs with
  | [x] => ∃ ds ns, viewL M x = some ds ∧ intsD ds = some ns ∧ 0 < ns.length ∧ ∀ m, m ∈ ns → (∀ y, y ∈ ns → y ≤ m) → Kp (.int m) M
  | _ => False
theorem lift_maxL : LiftN K (rMax K) δMaxL := by
  intro xs M Kp G H vs Q w r h k
  unfold δMaxL at h
  split at h
  · obtain ⟨ds, ns, hv, hi, hl, h⟩ := h
    obtain ⟨v, rfl, r1⟩ := r.one_inv
    obtain ⟨a, us, rfl, hu, r2⟩ := w.viewL r1 hv
    rw [ints_eq hi] at r2
    rw [r2.ints] at hu
    exact ⟨a, ns, rfl, SqL.of hu, hl, fun m h1 h2 => k _ M G H _ (Go.refl _ _ _) w (.int _) (h m h1 h2)⟩
  · exact h.elim
def δMinL : FN := fun xs M Kp => match xs with
  | [x] => ∃ ds ns, viewL M x = some ds ∧ intsD ds = some ns ∧ 0 < ns.length ∧ ∀ m, m ∈ ns → (∀ y, y ∈ ns → m ≤ y) → Kp (.int m) M
  | _ => False
theorem lift_minL : LiftN K (rMin K) δMinL := by
  intro xs M Kp G H vs Q w r h k
  unfold δMinL at h
  split at h
  · obtain ⟨ds, ns, hv, hi, hl, h⟩ := h
    obtain ⟨v, rfl, r1⟩ := r.one_inv
    obtain ⟨a, us, rfl, hu, r2⟩ := w.viewL r1 hv
    rw [ints_eq hi] at r2
    rw [r2.ints] at hu
    exact ⟨a, ns, rfl, SqL.of hu, hl, fun m h1 h2 => k _ M G H _ (Go.refl _ _ _) w (.int _) (h m h1 h2)⟩
  · exact h.elim
/-- a list, a tuple, as items -/
def viewQ (M : Mem) (d : D) : Option (List D) := match d with
  | .tup ds => some ds
  | d => viewL M d
def δList (m : Bool) : FN := fun xs M Kp => match xs with
  | [x] => ∃ ds, viewQ M x = some ds ∧ newL m ds M Kp
  | _ => False
theorem lift_list (m : Bool) : LiftN K (fun xs H Q => ∃ p ys, xs = [.ref p] ∧ (SqL K H p ys ∨ SqT K H p ys) ∧ ∀ l, H l = none → Q (.ref l) (upd H l (.lst ys))) (δList m) := by
  intro xs M Kp G H vs Q w r h k
  unfold δList at h
  split at h
  · obtain ⟨ds, hv, h⟩ := h
    obtain ⟨v, rfl, r1⟩ := r.one_inv
    unfold viewQ at hv
    split at hv
    · cases hv
      cases r1 with
      | tup hg r2 => exact ⟨_, _, rfl, .inr (SqT.of (w.ex _ _ hg)), fun l hl => newL_ok w hl r2 h k⟩
    · obtain ⟨a, us, rfl, hu, r2⟩ := w.viewL r1 hv
      exact ⟨a, us, rfl, .inl (SqL.of hu), fun l hl => newL_ok w hl r2 h k⟩
  · exact h.elim
def δTuple : FN := fun xs M Kp => match xs with
  | [.tup ds] => Kp (.tup ds) M
  | [x] => ∃ ds, viewL M x = some ds ∧ Kp (.tup ds) M
  | _ => False
theorem lift_tuple : LiftN K (fun xs H Q => ∃ p ys, xs = [.ref p] ∧ ((SqL K H p ys ∧ ∀ l, H l = none → Q (.ref l) (upd H l (.tup ys))) ∨ (SqT K H p ys ∧ Q (.ref p) H))) δTuple := by
  intro xs M Kp G H vs Q w r h k
  unfold δTuple at h
  split at h
  · obtain ⟨v, rfl, r1⟩ := r.one_inv
    cases r1 with
    | tup hg r2 => exact ⟨_, _, rfl, .inr ⟨SqT.of (w.ex _ _ hg), k _ M G H _ (Go.refl _ _ _) w (.tup hg r2) h⟩⟩
  · obtain ⟨ds, hv, h⟩ := h
    obtain ⟨v, rfl, r1⟩ := r.one_inv
    obtain ⟨a, us, rfl, hu, r2⟩ := w.viewL r1 hv
    refine ⟨a, us, rfl, .inl ⟨SqL.of hu, fun l hl => ?_⟩⟩
    obtain ⟨e, w'⟩ := w.newF (o := .tup us) hl
    exact k (.tup ds) M _ _ _ (w.goF hl) w' (.tup upd_same (r2.mono e)) h
  · exact h.elim
/-! ### subscripts -/
def δIx : F2 := fun x y M Kp => match y with
  | .int i => (match x with
    | .str z => ∃ c, z.length ≤ sizeLine ∧ atI z.cps.toList i = some c ∧ Kp (.str ⟨#[c]⟩) M
    | .tup ds => ∃ d, atI ds i = some d ∧ Kp d M
    | .scr ns => ∃ n, atI ns i = some n ∧ Kp (.int n) M
    | x => ∃ ds d, viewL M x = some ds ∧ atI ds i = some d ∧ Kp d M)
  | _ => False
theorem Reps.atI {G : Hp} {ds : List D} {vs : List V} {i : Int} {d : D} (r : Reps K G ds vs) (h : L2.atI ds i = some d) : ∃ v, L2.atI vs i = some v ∧ Rep K G d v := by
  unfold L2.atI at h ⊢
  rw [← r.length]
  cases q : ixN ds.length i with
  | none => rw [q] at h; cases h
  | some j =>
    rw [q] at h
    obtain ⟨v, hv, rv⟩ := r.get h
    exact ⟨v, hv, rv⟩
theorem lift_ix : Lift2 K (L2.rIx K) δIx := by
  intro x y M Kp G H vx vy Q w rx ry h k
  cases y with
  | int i =>
    cases ry
    have viaL : (∃ ds d, viewL M x = some ds ∧ L2.atI ds i = some d ∧ Kp d M) → L2.rIx K vx (.int i) H Q := by
      rintro ⟨ds, d, hv, ha, h⟩
      obtain ⟨a, us, rfl, hu, r2⟩ := w.viewL rx hv
      obtain ⟨v, hva, rv⟩ := r2.atI ha
      exact .inl ⟨a, us, i, v, rfl, rfl, SqL.of hu, hva, k d M G H _ (Go.refl _ _ _) w rv h⟩
    cases x with
    | str z =>
      obtain ⟨c, hz, hc, h⟩ := h
      cases rx
      exact .inr (.inr ⟨z, i, c, rfl, rfl, hz, hc, k _ M G H _ (Go.refl _ _ _) w (.str _) h⟩)
    | tup ds =>
      obtain ⟨d, ha, h⟩ := h
      cases rx with
      | tup hg r =>
        obtain ⟨v, hva, rv⟩ := r.atI ha
        exact .inr (.inl ⟨_, _, i, v, rfl, rfl, SqT.of (w.ex _ _ hg), hva, k d M G H _ (Go.refl _ _ _) w rv h⟩)
    | scr ns =>
      obtain ⟨n, ha, h⟩ := h
      cases rx with
      | scr hg =>
        refine .inl ⟨_, _, i, .int n, rfl, rfl, ex_l w.ex hg, ?_, k _ M G H _ (Go.refl _ _ _) w (.int _) h⟩
        unfold L2.atI at ha ⊢
        rw [List.length_map]
        cases q : ixN ns.length i with
        | none => rw [q] at ha; cases ha
        | some j =>
          rw [q] at ha
          have e : ns[j]? = some n := ha
          show (ns.map V.int)[j]? = _
          rw [List.getElem?_map, e] <;> rfl
    | _ => exact viaL h
  | _ => exact h.elim
end
section
variable {Y : Yx} {pos : Pos} {a b : Expr} {φ ψ : FE}
def de_ix (ha : DE Y a φ) (hb : DE Y b ψ) (hs : PlainIx b := by exact fun _ _ => rfl) : DE Y (.Subscript a b pos) (dOp δIx φ ψ) := ⟨_, pe_ix ix_seq ha.p hb.p hs, simOp lift_ix ha.s hb.s⟩
/-! #### slices -/
abbrev FO := Rho → Mem → (Option Int → Mem → Prop) → Prop
def SimO (Y : Yx) (t : TO) (φ : FO) : Prop := ∀ ρ M Kp G σ H (Q : Option Int → Hp → Prop), At Y G ρ M σ H → φ ρ M Kp → (∀ b M' G' H', Go G M H G' M' H' → Wd Y.X.K G' M' H' → Kp b M' → Q b H') → t σ H Q
structure DO (Y : Yx) (e : Option Expr) (φ : FO) where
  t : TO
  p : PO Y.X e t
  s : SimO Y t φ
def dON : FO := fun _ M Kp => Kp none M
def dOS (φ : FE) : FO := fun ρ M Kp => φ ρ M fun d M1 => match d with
  | .int i => Kp (some i) M1
  | _ => False
def do_none : DO Y none dON := ⟨_, po_none, fun ρ M Kp G σ H Q a h k => k none M G H (Go.refl _ _ _) a.wd h⟩
def do_some (ha : DE Y a φ) : DO Y (some a) (dOS φ) := by
  refine ⟨_, po_some ha.p, fun ρ M Kp G σ H Q at_ h k => ha.s ρ M _ G σ H _ at_ h fun d M1 G1 H1 v e1 w1 r1 h1 => ?_⟩
  cases d with
  | int i => cases r1; exact ⟨i, rfl, k (some i) M1 G1 H1 e1 w1 h1⟩
  | _ => exact h1.elim
def cutD (xs : List D) (lo hi : Option Int) : List D := (xs.drop (HT.sIx xs.length 0 lo)).take (HT.sIx xs.length xs.length hi - HT.sIx xs.length 0 lo)
theorem Reps.cut {K : PySem.W.Frag} {G : Hp} {ds : List D} {vs : List V} (r : Reps K G ds vs) (lo hi : Option Int) : Reps K G (cutD ds lo hi) (cutV vs lo hi) := by
  unfold cutD cutV
  rw [r.length]
  exact (r.drop _).take _
def δSl (m : Bool) (x : D) (lo hi : Option Int) (M : Mem) (Kp : KD) : Prop := match x with
  | .str z => z.length ≤ sizeLine ∧ Kp (.str (cutS z lo hi)) M
  | .tup ds => ¬ (HT.sIx ds.length 0 lo = 0 ∧ HT.sIx ds.length ds.length hi = ds.length) ∧ Kp (.tup (cutD ds lo hi)) M
  | x => ∃ ds, viewL M x = some ds ∧ newL m (cutD ds lo hi) M Kp
def dSl (m : Bool) (φ : FE) (l u : FO) : FE := fun ρ M Kp => φ ρ M fun x M1 => l ρ M1 fun lo M2 => u ρ M2 fun hi M3 => δSl m x lo hi M3 Kp
abbrev rSlX (K : PySem.W.Frag) : V → Option Int → Option Int → Hp → VK → Prop := fun x lo hi H Q => rSlL K x lo hi H Q ∨ rSlT K x lo hi H Q ∨ rSlS x lo hi H Q
theorem sl_any {X : Cx} : SlR X (rSlX X.K) := sl_list.or (sl_tup.or sl_str)
theorem slx_ok {K : PySem.W.Frag} {m : Bool} {x : D} {lo hi : Option Int} {M : Mem} {Kp : KD} {G H : Hp} {vx : V} {Q : VK} (w : Wd K G M H) (rx : Rep K G x vx) (h : δSl m x lo hi M Kp) (k : Kon K G M H Kp Q) : rSlX K vx lo hi H Q := by
  have viaL : (∃ ds, viewL M x = some ds ∧ newL m (cutD ds lo hi) M Kp) → rSlX K vx lo hi H Q := by
    rintro ⟨ds, hv, h⟩
    obtain ⟨a, us, rfl, hu, r2⟩ := w.viewL rx hv
    exact .inl ⟨a, us, rfl, SqL.of hu, fun p hp => newL_ok w hp (r2.cut lo hi) h k⟩
  cases x with
  | str z => cases rx; exact .inr (.inr ⟨z, rfl, h.1, k _ M G H _ (Go.refl _ _ _) w (.str _) h.2⟩)
  | tup ds =>
    cases rx with
    | tup hg r =>
      refine .inr (.inl ⟨_, _, rfl, SqT.of (w.ex _ _ hg), by rw [← r.length]; exact h.1, fun p hp => ?_⟩)
      obtain ⟨e, w'⟩ := w.newF (o := .tup _) hp
      exact k (.tup (cutD ds lo hi)) M _ _ _ (w.goF hp) w' (.tup upd_same ((r.cut lo hi).mono e)) h.2
  | _ => exact viaL h
def de_slice (m : Bool) {lo hi : Option Expr} {p2 : Pos} {l u : FO} (ha : DE Y a φ) (hl : DO Y lo l) (hu : DO Y hi u) : DE Y (.Subscript a (.Slice lo hi none p2) pos) (dSl m φ l u) := by
  refine ⟨_, pe_slice sl_any ha.p hl.p hu.p, fun ρ M Kp G σ H Q at_ h k => ha.s ρ M _ G σ H _ at_ h fun x M1 G1 H1 v e1 w1 r1 h1 => ?_⟩
  refine hl.s ρ M1 _ G1 σ H1 _ (at_.step e1 w1) h1 fun lo M2 G2 H2 e2 w2 h2 => hu.s ρ M2 _ G2 σ H2 _ (at_.step (e1.trans e2) w2) h2 fun hi M3 G3 H3 e3 w3 h3 => ?_
  exact slx_ok w3 (r1.mono (e2.trans e3).ex) h3 (Kon.mono k ((e1.trans e2).trans e3))
/-! ### methods of built-in types -/
abbrev FM := D → List D → Mem → KD → Prop
def LiftM (K : PySem.W.Frag) (r : V → List V → Hp → VK → Prop) (δ : FM) : Prop := ∀ x xs M Kp G H vx vs Q, Wd K G M H → Rep K G x vx → Reps K G xs vs → δ x xs M Kp → Kon K G M H Kp Q → r vx vs H Q
/-- the value's type, as data tells it -/
def tyD (T : String) (M : Mem) : D → Prop
  | .str _ => T = "str"
  | .lst _ => T = "list"
  | .ptr a => (match M a with
    | some (.lst _) => T = "list"
    | some (.dK _) => T = "dict"
    | some (.dT _) => T = "dict"
    | _ => False)
  | .dK _ _ => T = "dict"
  | .dT _ _ => T = "dict"
  | _ => False
end
end Dl
end
noncomputable section
namespace Dl
open PySem PySem.Spec PyProof.Rows L2 Evl
/-! ### promises of defs, by data -/
abbrev KXt := Addr → D → Mem → Prop
abbrev FS := List D → Mem → KD → KXt → Prop
def spOf (K : PySem.W.Frag) (n : Nat) (fs : FS) : Sp := fun vs H Q E => vs.length = n ∧ ∃ G M ds Kp KE, Wd K G M H ∧ Reps K G ds vs ∧ fs ds M Kp KE ∧ Kon K G M H Kp Q ∧
  ∀ C d M' G' H' dx v, Go G M H G' M' H' → Wd K G' M' H' → H' dx = some (.xd [("value", v)]) → Rep K G' d v → KE C d M' → E (.ref C) (some dx) H'
/-- local objects are forgotten or frozen at the end -/
def kSet (Kp : KD) : KD := fun d M => ∃ d2 M2, (∀ a mo, M2 a = some mo → M a = some mo) ∧ Frz M M2 d d2 ∧ Kp d2 M2
theorem kSet_same {Kp : KD} {d : D} {M : Mem} (h : Kp d M) : kSet Kp d M := ⟨d, M, fun _ _ h => h, .refl d, h⟩
theorem kSet_less {Kp : KD} {d : D} {M M2 : Mem} (hm : ∀ a mo, M2 a = some mo → M a = some mo) (h : Kp d M2) : kSet Kp d M := ⟨d, M2, hm, .refl d, h⟩
theorem kSet_lst {Kp : KD} {a : Addr} {ds : List D} {M M2 : Mem} (hm : ∀ a mo, M2 a = some mo → M a = some mo) (e : M a = some (.lst ds)) (e2 : M2 a = none) (h : Kp (.lst ds) M2) : kSet Kp (.ptr a) M := ⟨.lst ds, M2, hm, .lst e e2 (Frzs.refl ds), h⟩
theorem kon_set {K : PySem.W.Frag} {G H : Hp} {M : Mem} {Kp : KD} {Q : VK} (k : Kon K G M H Kp Q) : Kon K G M H (kSet Kp) Q := by
  intro d M' G' H' v g w r h
  obtain ⟨d2, M2, hm, f, h⟩ := h
  exact k d2 M2 _ H' v (w.goZ g hm) (w.settle hm) (f.rep w r) h
def startD (N : List Str) (ds : List D) : Rho := ds.map some ++ List.replicate (N.length - ds.length) none
theorem repR_start {K : PySem.W.Frag} {G : Hp} {ds : List D} {vs : List V} (r : Reps K G ds vs) (N : List Str) : RepR K G (startD N ds) (L2.start N vs) := by
  unfold startD L2.start
  rw [r.length]
  have h2 : ∀ n : Nat, RepR K G (List.replicate n none) (List.replicate n none) := by
    intro n
    induction n with
    | zero => exact .nil
    | succ n ih => exact .cons trivial ih
  have h1 : ∀ {ds : List D} {vs : List V}, Reps K G ds vs → ∀ {ρ : Rho} {σ : L2.St}, RepR K G ρ σ → RepR K G (ds.map some ++ ρ) (vs.map some ++ σ) := by
    intro ds
    induction ds with
    | nil => intro vs r ρ σ h; cases r; exact h
    | cons d ds ih =>
      intro vs r ρ σ h
      cases r with
      | cons r rr => exact .cons r (ih rr h)
  exact h1 r (h2 _)
abbrev KXr := Addr → D → Rho → Mem → Prop
/-- the context of a def's body -/
def Yf (P : Program) (w : World) (K : PySem.W.Frag) (mg : Str → Option Value) (base : Heap) (N : List Str) (qual : Str) (scope : Scope) (f : Addr) (cd : Value) (A : Around) (outer : List Env) (s : Shared) (H : Hp) (E : XK) (G0 : Hp) (M0 : Mem) (kx : KXr)
    (hl : ∀ (ρ : Rho) (M : Mem) (G : Hp) (σ : L2.St) (H1 : Hp) (C dx : Addr) (d : D) (v : V), Go G0 M0 H G M H1 → Wd K G M H1 → RepR K G ρ σ → H1 dx = some (.xd [("value", v)]) → Rep K G d v → kx C d ρ M → E (.ref C) (some dx) H1) : Yx where
  X := cxOf (L2.CX P w) P w K mg base N qual scope f cd A outer s H E
  G0 := G0
  M0 := M0
  H0 := H
  E := fun _ => E
  pass := fun σ => passAt (W := fun cls d _ H => E cls d H) (takes_of rfl rfl rfl rfl) σ
  KX := kx
  link := hl
def kxOf (KE : KXt) : KXr := fun C d _ M => kSet (KE C) d M
def ksOf (Kp : KD) : KS := { nx := fun _ M => kSet Kp .non M, rt := kSet Kp }
/-- THE RULE for a def -/
theorem fn_ok {P : Program} {w : World} {K : PySem.W.Frag} {mg : Str → Option Value} {base : Heap} {x qual : Str} {params : Arguments} {body : List Stmt} {scope : Scope} {f : Addr} {fd : FuncData} {N ps : List Str} {k n : Nat} {fs : FS} {φ : KXr → FSt}
    (F : FunD K x qual params body scope [] [] f fd) (S : FnScope N ps scope) (hn : ps.length = n)
    (der : ∀ (cdv : Value) (A : Around) (outer : List Env) (s : Shared) (H : Hp) (E : XK) (G : Hp) (M : Mem) (kx : KXr) hl, Room k (A.deeper (envOfC qual scope s.heap.objs.size f cdv)) → DSs (Yf P w K mg base N qual scope f cdv A outer s H E G M kx hl) body (φ kx))
    (dat : ∀ ds M Kp KE, ds.length = n → fs ds M Kp KE → φ (kxOf KE) (ksOf Kp) (startD N ds) M) : FnOk P w K mg base (L2.CX P w) (k + 1) f fd ps (spOf K n fs) := by
  refine F.ok S (fun vs H Q E h => h.1.trans hn.symm) (fun cdv A outer s H vs Q E hr h => ?_)
  obtain ⟨hv, G, M, ds, Kp, KE, wd, r, h, kk, kE⟩ := h
  have hl : ∀ (ρ : Rho) (M1 : Mem) (G1 : Hp) (σ : L2.St) (H1 : Hp) (C dx : Addr) (d : D) (v : V), Go G M H G1 M1 H1 → Wd K G1 M1 H1 → RepR K G1 ρ σ → H1 dx = some (.xd [("value", v)]) → Rep K G1 d v → kxOf KE C d ρ M1 → E (.ref C) (some dx) H1 := by
    intro ρ M1 G1 σ H1 C dx d v g w1 _ hd rd hk
    obtain ⟨d2, M2, hm, fr, hk⟩ := hk
    exact kE C d2 M2 _ H1 dx v (w1.goZ g hm) (w1.settle hm) hd (fr.rep w1 rd) hk
  have d := der cdv A outer s H E G M (kxOf KE) hl hr
  refine ⟨d.t, d.p, ?_⟩
  refine d.s (startD N ds) M (ksOf Kp) G (L2.start N vs) H _ ⟨Go.refl _ _ _, wd, repR_start r N⟩ (dat ds M Kp KE (r.length.trans hv) h) ⟨?_, kon_set kk, fun _ _ _ _ _ _ _ _ h => h.elim, fun _ _ _ _ _ _ _ _ h => h.elim⟩
  intro ρ' M' G' σ' H' g w1 _ h'
  exact kon_set kk .non M' G' H' .non g w1 .non h'
/-! ### calls of defs -/
def dCall (kx : KXr) (fs : FS) (η : FA) : FE := fun ρ M Kp => η ρ M fun ds M1 => fs ds M1 Kp fun C d M' => kx C d ρ M'
section
variable {Y : Yx} {k n : Nat} {f C : Addr} {fd : FuncData} {ps : List Str} {fs : FS} {x m : Str} {p pos apos : Pos} {e o : Expr} {es : List Expr} {η : FA} {kx : KXr}
theorem Reps.refl_append {vs : List V} : vs ++ [] = vs := List.append_nil vs
theorem sp_of {G H : Hp} {M : Mem} {ρ : Rho} {σ : L2.St} {ds : List D} {vs : List V} {Kp : KD} {Q : VK} (hn : ds.length = n) (a : At Y G ρ M σ H) (r : Reps Y.X.K G ds vs) (h : fs ds M Kp fun C d M' => Y.KX C d ρ M') (k : Kon Y.X.K G M H Kp Q) : spOf Y.X.K n fs vs H Q (Y.E σ) :=
  ⟨r.length.symm.trans hn, G, M, ds, Kp, _, a.wd, r, h, k, fun C d M' G' H' dx v g w hd rd hk => Y.link ρ M' G' σ H' C dx d v (a.go.trans g) w (a.rr.mono g.ex) hd rd hk⟩
/-- the number of data that arguments give -/
def LenA (η : FA) (n : Nat) : Prop := ∀ ρ M Kp, η ρ M Kp → η ρ M fun ds M' => ds.length = n ∧ Kp ds M'
def dCallN (n : Nat) (kx : KXr) (fs : FS) (η : FA) : FE := fun ρ M Kp => η ρ M fun ds M1 => ds.length = n ∧ fs ds M1 Kp fun C d M' => kx C d ρ M'
def de_call (F : FnOk Y.X.prog Y.X.w Y.X.K Y.X.mg Y.X.base (L2.CX Y.X.prog Y.X.w) k f fd ps (spOf Y.X.K n fs)) (hr : Room k Y.X.A) (hg : Gl Y.X x) (hm : Y.X.mg x = some (.ref f)) (hk : PySem.W.keepIn Y.X.K (.ref f) = true) (hb : Binds Y.X.K fd ps []) (hkx : Y.KX = kx) (ha : DA Y (e :: es) η)
    (hdb : (x == ("__debug__" : Str)) = false := by decide) (he : starEach (e :: es) Y.X.env = (false, eval e Y.X.env) :: starEach es Y.X.env := by rfl) (hpl : (backTo pos (starEach es Y.X.env)).any (·.1) = false := by rfl) :
    DE Y (.Call (.Name x p) (e :: es) [] pos) (dCallN n kx fs η) := by
  refine ⟨_, pe_callSD (E := Y.E) F hr hg hm hk hb .nil Y.pass ha.p hdb he hpl, fun ρ M Kp G σ H Q a h k => ha.s ρ M _ G σ H _ a h fun ds M1 G1 H1 vs e1 w1 r1 h1 => ?_⟩
  rw [List.append_nil]
  subst hkx
  exact sp_of h1.1 (a.step e1 w1) r1 h1.2 (Kon.mono k e1)
end
end Dl
end
noncomputable section
namespace Dl
open PySem PySem.Spec PyProof.Rows L2 Evl
/-! ### calls by keywords -/
structure DK (Y : Yx) (kws : List Keyword) (η : FA) where
  t : TA
  p : PK Y.X kws t
  s : SimA Y t η
section
variable {Y : Yx} {k n : Nat} {f C : Addr} {fd : FuncData} {ps ks : List Str} {fs : FS} {x m : Str} {p pos apos kpos : Pos} {e o : Expr} {es : List Expr} {kws : List Keyword} {η ζ : FA} {kx : KXr} {nm : Option Str} {φ : FE}
def dk_nil : DK Y [] dNil := ⟨_, pk_nil, fun ρ M Kp G σ H Q a h k => k [] M G H [] (Go.refl _ _ _) a.wd .nil h⟩
def dk_cons (ha : DE Y e φ) (hr : DK Y kws ζ) : DK Y (⟨nm, e, kpos⟩ :: kws) (dCons φ ζ) := ⟨_, pk_cons ha.p hr.p, simCons ha.s hr.s⟩
/-- positional values, then the keywords' values, in the parameters' order -/
abbrev KB (K : PySem.W.Frag) (fd : FuncData) (ps : List Str) (n : Nat) (ks : List Str) : Prop := KBn K fd ps n ks (fun us ws => us ++ ws) (fun vs zs => vs ++ zs)
theorem run_fnkSD {X : Cx} {CX : CXT} {sp : Sp} {pins : List (Addr × Obj)} {σ : L2.St} {H : Hp} {s : Shared} {Q : VK} {us ws : List Value} {vs zs : List V} {E : L2.St → XK} (F : FnOk X.prog X.w X.K X.mg X.base CX k f fd ps sp) (hr : Room k X.A) (hb : KB X.K fd ps n ks) (hx : PassesAt CX X σ (E σ))
    (I : Inv X pins σ H s) (r : Vals vs us) (rz : Vals zs ws) (l1 : vs.length = n) (l2 : zs.length = ks.length) (h : sp (vs ++ zs) H Q (E σ)) : wpAny (model X.prog X.w) X.A (call (.ref f) us (ks.zip ws)) (EP X pins σ Q) X.xe s := by
  have r2 := hb.rel r rz
  refine wpAny_call (codeAny_mono (F.run X.A X.stack s H ⟨us, ks.zip ws⟩ (us ++ ws) (vs ++ zs) Q (E σ) hr I.env0 (hb.to s us ws I.kIn (r.length.symm.trans l1) (rz.length.symm.trans l2)) r2 h) fun r s' hq => ?_)
  cases r with
  | error e => exact hx pins H s e s' I hq
  | ok fl =>
    cases fl with
    | ret u => exact I.after hq
    | next => exact False.elim hq
    | brk => exact False.elim hq
    | cont => exact False.elim hq
def tCallKD (n m : Nat) (sp : Sp) (E : L2.St → XK) (t tk : TA) : TE := fun σ H Q => t σ H fun vs H1 => tk σ H1 fun zs H2 => vs.length = n ∧ zs.length = m ∧ sp (vs ++ zs) H2 Q (E σ)
theorem pe_callKD {X : Cx} {CX : CXT} {sp : Sp} {E : L2.St → XK} {t tk : TA} (F : FnOk X.prog X.w X.K X.mg X.base CX k f fd ps sp) (hr : Room k X.A) (hg : Gl X x) (hm : X.mg x = some (.ref f)) (hk : PySem.W.keepIn X.K (.ref f) = true) (hb : KB X.K fd ps n ks) (hx : ∀ σ, PassesAt CX X σ (E σ))
    (ha : PA X (e :: es) t) (hkw : PK X kws tk) (hall : (backToKw pos (keywordEach kws X.env)).all (·.1.isSome) = true := by rfl) (hks : (backToKw pos (keywordEach kws X.env)).filterMap (·.1) = ks := by rfl)
    (hdb : (x == ("__debug__" : Str)) = false := by decide) (he : starEach (e :: es) X.env = (false, eval e X.env) :: starEach es X.env := by rfl)
    (hpl : ((backTo pos (starEach (e :: es) X.env)).any (·.1) || (backToKw pos (keywordEach kws X.env)).any (·.1.isNone)) = false := by rfl) :
    PE X (.Call (.Name x p) (e :: es) kws pos) (tCallKD n ks.length sp E t tk) := by
  refine ⟨fun pins s σ H Q I h => ?_⟩
  refine wpAny_Call_Name_kw (ld_glob I hg hm ?_ hdb)
  refine PySem.W.callWith_KW (h₀ := X.base) I.ok.mod.kin hk hall (thn (ha.run pos pins s σ H _ I h) fun us s1 ⟨vs, H1, I1, r, q⟩ => ?_) hpl he
  refine thn (hkw.run pos pins s1 σ H1 _ I1 q) fun ws s2 ⟨zs, H2, I2, rz, l1, l2, q2⟩ => ⟨I2.kIn, ?_⟩
  rw [hks]
  exact run_fnkSD F hr hb (hx σ) I2 r rz l1 l2 q2
theorem pe_callKD0 {X : Cx} {CX : CXT} {sp : Sp} {E : L2.St → XK} {tk : TA} (F : FnOk X.prog X.w X.K X.mg X.base CX k f fd ps sp) (hr : Room k X.A) (hg : Gl X x) (hm : X.mg x = some (.ref f)) (hk : PySem.W.keepIn X.K (.ref f) = true) (hb : KB X.K fd ps 0 ks) (hx : ∀ σ, PassesAt CX X σ (E σ))
    (hkw : PK X kws tk) (hall : (backToKw pos (keywordEach kws X.env)).all (·.1.isSome) = true := by rfl) (hks : (backToKw pos (keywordEach kws X.env)).filterMap (·.1) = ks := by rfl)
    (hdb : (x == ("__debug__" : Str)) = false := by decide)
    (hpl : ((backTo pos (starEach [] X.env)).any (·.1) || (backToKw pos (keywordEach kws X.env)).any (·.1.isNone)) = false := by rfl) :
    PE X (.Call (.Name x p) [] kws pos) (tCallKD 0 ks.length sp E tNil tk) := by
  refine ⟨fun pins s σ H Q I h => ?_⟩
  refine wpAny_Call_Name_kw (ld_glob I hg hm ?_ hdb)
  refine PySem.W.callWith_KW0 (h₀ := X.base) I.ok.mod.kin hk hall ?_ hpl
  refine thn (hkw.run pos pins s σ H _ I h) fun ws s2 ⟨zs, H2, I2, rz, l1, l2, q2⟩ => ⟨I2.kIn, ?_⟩
  rw [hks]
  exact run_fnkSD (us := []) (vs := []) F hr hb (hx σ) I2 .nil rz rfl l2 q2
def dCallK (n m : Nat) (kx : KXr) (fs : FS) (η ζ : FA) : FE := fun ρ M Kp => η ρ M fun ds M1 => ζ ρ M1 fun es M2 => ds.length = n ∧ es.length = m ∧ fs (ds ++ es) M2 Kp fun C d M' => kx C d ρ M'
theorem simCallK {N : Nat} {t tk : TA} (hN : n + ks.length = N) (sa : SimA Y t η) (sk : SimA Y tk ζ) (hkx : Y.KX = kx) : SimE Y (tCallKD n ks.length (spOf Y.X.K N fs) Y.E t tk) (dCallK n ks.length kx fs η ζ) := by
  subst hkx
  intro ρ M Kp G σ H Q a h k
  refine sa ρ M _ G σ H _ a h fun ds M1 G1 H1 vs e1 w1 r1 h1 => sk ρ M1 _ G1 σ H1 _ (a.step e1 w1) h1 fun es M2 G2 H2 zs e2 w2 r2 h2 => ?_
  obtain ⟨l1, l2, h2⟩ := h2
  exact ⟨r1.length.symm.trans l1, r2.length.symm.trans l2, sp_of (by rw [List.length_append, l1, l2, hN]) (a.step (e1.trans e2) w2) ((r1.mono e2.ex).append r2) h2 (Kon.mono (Kon.mono k e1) e2)⟩
def de_callK {N : Nat} (F : FnOk Y.X.prog Y.X.w Y.X.K Y.X.mg Y.X.base (L2.CX Y.X.prog Y.X.w) k f fd ps (spOf Y.X.K N fs)) (hr : Room k Y.X.A) (hg : Gl Y.X x) (hm : Y.X.mg x = some (.ref f)) (hk : PySem.W.keepIn Y.X.K (.ref f) = true) (hb : KB Y.X.K fd ps n ks) (hkx : Y.KX = kx)
    (ha : DA Y (e :: es) η) (hkw : DK Y kws ζ) (hN : n + ks.length = N := by rfl) (hall : (backToKw pos (keywordEach kws Y.X.env)).all (·.1.isSome) = true := by rfl) (hks : (backToKw pos (keywordEach kws Y.X.env)).filterMap (·.1) = ks := by rfl)
    (hdb : (x == ("__debug__" : Str)) = false := by decide) (he : starEach (e :: es) Y.X.env = (false, eval e Y.X.env) :: starEach es Y.X.env := by rfl)
    (hpl : ((backTo pos (starEach (e :: es) Y.X.env)).any (·.1) || (backToKw pos (keywordEach kws Y.X.env)).any (·.1.isNone)) = false := by rfl) :
    DE Y (.Call (.Name x p) (e :: es) kws pos) (dCallK n ks.length kx fs η ζ) := ⟨_, pe_callKD F hr hg hm hk hb Y.pass ha.p hkw.p hall hks hdb he hpl, simCallK hN ha.s hkw.s hkx⟩
def de_callK0 {N : Nat} (F : FnOk Y.X.prog Y.X.w Y.X.K Y.X.mg Y.X.base (L2.CX Y.X.prog Y.X.w) k f fd ps (spOf Y.X.K N fs)) (hr : Room k Y.X.A) (hg : Gl Y.X x) (hm : Y.X.mg x = some (.ref f)) (hk : PySem.W.keepIn Y.X.K (.ref f) = true) (hb : KB Y.X.K fd ps 0 ks) (hkx : Y.KX = kx)
    (hkw : DK Y kws ζ) (hN : 0 + ks.length = N := by rfl) (hall : (backToKw pos (keywordEach kws Y.X.env)).all (·.1.isSome) = true := by rfl) (hks : (backToKw pos (keywordEach kws Y.X.env)).filterMap (·.1) = ks := by rfl)
    (hdb : (x == ("__debug__" : Str)) = false := by decide)
    (hpl : ((backTo pos (starEach [] Y.X.env)).any (·.1) || (backToKw pos (keywordEach kws Y.X.env)).any (·.1.isNone)) = false := by rfl) :
    DE Y (.Call (.Name x p) [] kws pos) (dCallK 0 ks.length kx fs dNil ζ) := ⟨_, pe_callKD0 F hr hg hm hk hb Y.pass hkw.p hall hks hdb hpl, simCallK (t := tNil) hN (fun ρ M Kp G σ H Q a h k => k [] M G H [] (Go.refl _ _ _) a.wd .nil h) hkw.s hkx⟩
/-! ### a new instance -/
theorem run_makeSD {X : Cx} {CX : CXT} {sp : Sp} {E : L2.St → XK} {pins : List (Addr × Obj)} {σ : L2.St} {H : Hp} {s : Shared} {Q : VK} {us : List Value} {vs : List V} (M : Mk X.K C f) (F : FnOk X.prog X.w X.K X.mg X.base CX k f fd ps sp) (hr : Room (k + 1) X.A) (hb : Binds X.K fd ps [])
    (hx : PassesAt CX X σ (E σ)) (I : Inv X pins σ H s) (r : Vals vs us)
    (h : ∀ x dx, H x = none → H dx = none → dx ≠ x → sp (.ref x :: vs) (upd (upd H dx (.own x)) x (.ins C dx [])) (fun v H2 => v = .non ∧ Q (.ref x) H2) (E σ)) :
    wpAny (model X.prog X.w) X.A (call (.ref C) us) (EP X pins σ Q) X.xe s := by
  have hq := h (s.heap.objs.size + 1) s.heap.objs.size (I.hok.fresh (Nat.le_succ _)) (I.hok.fresh (Nat.le_refl _)) (Nat.ne_of_lt (Nat.lt_succ_self _))
  have I2 := Inv.made (C := C) I
  have r2 : Vals (V.ref (s.heap.objs.size + 1) :: vs) (Value.ref (s.heap.objs.size + 1) :: us) := .cons rfl r
  have hl : ((Value.ref (s.heap.objs.size + 1) :: us) ++ []).length = ps.length := by
    have e := r2.length
    rw [F.len _ _ _ _ hq] at e
    rw [List.append_nil]
    exact e.symm
  refine wpAny_call (make_map (f := f) I.kIn M.makes M.init (beq_iff_eq.mp M.fn) (codeAny_mono (F.run _ X.stack _ _ ⟨Value.ref (s.heap.objs.size + 1) :: us, []⟩ (Value.ref (s.heap.objs.size + 1) :: us) _ _ (E σ) (hr.make C us [])
    (I2.env0.make C us []) (by have := hb _ (Value.ref (s.heap.objs.size + 1) :: us) I2.kIn hl; rw [List.append_nil] at this; exact this) r2 hq) fun r s' hq' => ?_))
  cases r with
  | error e => exact hx pins _ _ e s' I2 hq'
  | ok fl =>
    cases fl with
    | ret u =>
      obtain ⟨v, H', I3, rv, ev, q3⟩ := I2.after hq'
      subst ev
      exact ⟨rv, ⟨V.ref (s.heap.objs.size + 1), H', I3, rfl, q3⟩⟩
    | next => exact False.elim hq'
    | brk => exact False.elim hq'
    | cont => exact False.elim hq'
def tMakeD (C : Addr) (sp : Sp) (E : L2.St → XK) (t : TA) : TE := fun σ H Q => t σ H fun vs H1 => ∀ x dx, H1 x = none → H1 dx = none → dx ≠ x →
  sp (.ref x :: vs) (upd (upd H1 dx (.own x)) x (.ins C dx [])) (fun v H2 => v = .non ∧ Q (.ref x) H2) (E σ)
theorem pe_makeD {X : Cx} {CX : CXT} {sp : Sp} {E : L2.St → XK} {t : TA} (M : Mk X.K C f) (F : FnOk X.prog X.w X.K X.mg X.base CX k f fd ps sp) (hr : Room (k + 1) X.A) (hg : Gl X x) (hm : X.mg x = some (.ref C)) (hb : Binds X.K fd ps []) (hx : ∀ σ, PassesAt CX X σ (E σ))
    (ha : PA X (e :: es) t) (hdb : (x == ("__debug__" : Str)) = false := by decide) (he : starEach (e :: es) X.env = (false, eval e X.env) :: starEach es X.env := by rfl) (hpl : (backTo pos (starEach es X.env)).any (·.1) = false := by rfl) :
    PE X (.Call (.Name x p) (e :: es) [] pos) (tMakeD C sp E t) := by
  refine ⟨fun pins s σ H Q I h => ?_⟩
  refine wpAny_Call_Name_kw (ld_glob I hg hm ?_ hdb)
  refine PySem.W.callWith_K (h₀ := X.base) I.ok.mod.kin M.kp (thn (ha.run pos pins s σ H _ I h) fun us s1 ⟨vs, H1, I1, r, q⟩ => ⟨I1.kIn, ?_⟩) he hpl
  exact run_makeSD M F hr hb (hx σ) I1 r q
theorem pe_makeD0 {X : Cx} {CX : CXT} {sp : Sp} {E : L2.St → XK} (M : Mk X.K C f) (F : FnOk X.prog X.w X.K X.mg X.base CX k f fd ps sp) (hr : Room (k + 1) X.A) (hg : Gl X x) (hm : X.mg x = some (.ref C)) (hb : Binds X.K fd ps []) (hx : ∀ σ, PassesAt CX X σ (E σ))
    (hdb : (x == ("__debug__" : Str)) = false := by decide) : PE X (.Call (.Name x p) [] [] pos) (tMakeD C sp E tNil) := by
  refine ⟨fun pins s σ H Q I h => ?_⟩
  refine wpAny_Call_Name_kw (ld_glob I hg hm ?_ hdb)
  exact PySem.W.callWith_K0 I.kIn M.kp (run_makeSD (us := []) M F hr hb (hx σ) I .nil h)
def delM (M : Mem) (a : Addr) : Mem := fun b => if b = a then none else M b
theorem delM_upd {M : Mem} {a : Addr} {o : MO} (h : M a = none) : delM (updM M a o) a = M := by
  funext b
  unfold delM updM
  split
  · rename_i e; rw [e, h]
  · rfl
theorem delM_sub {M : Mem} {x : Addr} : ∀ a mo, delM M x a = some mo → M a = some mo := fun a mo h => by
  unfold delM at h
  split at h
  · cases h
  · exact h
/-- a new instance at x, to be changed later (m) or not -/
def newI (m : Bool) (x : Addr) (M : Mem) (Kp : KD) : Prop := match m with
  | true => Kp (.ptr x) M
  | false => ∃ C dx fs, M x = some (.ins C dx fs) ∧ Kp (.ins C (fs.map (·.1)) (fs.map (·.2))) (delM M x)
theorem newI_ok {K : PySem.W.Frag} {G H : Hp} {M : Mem} {m : Bool} {x : Addr} {Kp : KD} {Q : VK} (w : Wd K G M H) (h : newI m x M Kp) (k : Kon K G M H Kp Q) : Q (.ref x) H := by
  cases m with
  | true => exact k (.ptr x) M G H _ (Go.refl _ _ _) w (.ptr x) h
  | false =>
    obtain ⟨C, dx, fs, hm, h⟩ := h
    have hx : delM M x x = none := if_pos rfl
    exact k _ _ _ H _ (w.goZ (Go.refl _ _ _) delM_sub) (w.settle delM_sub) (Frz.rep w (.ins hm hx rfl (Frzs.refl _)) (.ptr x)) h
def dMake (m : Bool) (n : Nat) (C : Addr) (kx : KXr) (fs : FS) (η : FA) : FE := fun ρ M Kp => η ρ M fun ds M1 => ds.length + 1 = n ∧ ∀ x dx, M1 x = none → fs (.ptr x :: ds) (updM M1 x (.ins C dx [])) (fun d M2 => d = .non ∧ newI m x M2 Kp) fun C d M' => kx C d ρ M'
theorem simMake (m : Bool) {N : Nat} {t : TA} (sa : SimA Y t η) (hkx : Y.KX = kx) : SimE Y (tMakeD C (spOf Y.X.K N fs) Y.E t) (dMake m N C kx fs η) := by
  subst hkx
  intro ρ M Kp G σ H Q a h k
  refine sa ρ M _ G σ H _ a h fun ds M1 G1 H1 vs e1 w1 r1 h1 => ?_
  intro x dx hx hd hne
  obtain ⟨l1, h1⟩ := h1
  have a1 := a.step e1 w1
  have m0 : ∀ {q : Addr}, H1 q = none → M1 q = none := fun {q} z => by
    cases e : M1 q with
    | none => rfl
    | some mo => obtain ⟨_, o, ho, _⟩ := w1.mem q mo e; rw [z] at ho; cases ho
  have hx2 : (upd H1 dx (.own x)) x = none := by rw [upd_ne (Ne.symm hne)]; exact hx
  have w2 : Wd Y.X.K G1 M1 (upd H1 dx (.own x)) := ⟨Ex.mut w1.ex (fresh_back w1.ex hd), fun b mo e => by
    obtain ⟨g, o, ho, r⟩ := w1.mem b mo e
    exact ⟨g, o, by rw [upd_ne (ne_of_none ho hd)]; exact ho, r⟩⟩
  have g2 : Go G1 M1 H1 G1 M1 (upd H1 dx (.own x)) := ⟨Ex.refl _, fun b o _ e m g => ⟨g, m, by rw [upd_ne (ne_of_none e hd)]; exact e⟩⟩
  obtain ⟨mx, w3⟩ := w2.newM (mo := .ins C dx []) (o := .ins C dx []) hx2 ⟨[], rfl, .nil⟩
  have g3 := g2.trans (w2.goM (o := .ins C dx []) (mo := .ins C dx []) hx2)
  refine sp_of (by rw [List.length_cons]; exact l1) (a1.step g3 w3) (.cons (.ptr x) r1) (h1 x dx mx) ?_
  intro d M' G' H' v g w r hk
  obtain ⟨rfl, hk⟩ := hk
  cases r
  exact ⟨rfl, newI_ok w hk (Kon.mono (Kon.mono (Kon.mono k e1) g3) g)⟩
def de_make (m : Bool) {N : Nat} (M : Mk Y.X.K C f) (F : FnOk Y.X.prog Y.X.w Y.X.K Y.X.mg Y.X.base (L2.CX Y.X.prog Y.X.w) k f fd ps (spOf Y.X.K N fs)) (hr : Room (k + 1) Y.X.A) (hg : Gl Y.X x) (hm : Y.X.mg x = some (.ref C)) (hb : Binds Y.X.K fd ps []) (hkx : Y.KX = kx) (ha : DA Y (e :: es) η)
    (hdb : (x == ("__debug__" : Str)) = false := by decide) (he : starEach (e :: es) Y.X.env = (false, eval e Y.X.env) :: starEach es Y.X.env := by rfl) (hpl : (backTo pos (starEach es Y.X.env)).any (·.1) = false := by rfl) :
    DE Y (.Call (.Name x p) (e :: es) [] pos) (dMake m N C kx fs η) := ⟨_, pe_makeD M F hr hg hm hb Y.pass ha.p hdb he hpl, simMake m ha.s hkx⟩
def de_make0 (m : Bool) {N : Nat} (M : Mk Y.X.K C f) (F : FnOk Y.X.prog Y.X.w Y.X.K Y.X.mg Y.X.base (L2.CX Y.X.prog Y.X.w) k f fd ps (spOf Y.X.K N fs)) (hr : Room (k + 1) Y.X.A) (hg : Gl Y.X x) (hm : Y.X.mg x = some (.ref C)) (hb : Binds Y.X.K fd ps []) (hkx : Y.KX = kx)
    (hdb : (x == ("__debug__" : Str)) = false := by decide) : DE Y (.Call (.Name x p) [] [] pos) (dMake m N C kx fs dNil) := ⟨_, pe_makeD0 M F hr hg hm hb Y.pass hdb, simMake m (t := tNil) (fun ρ M Kp G σ H Q a h k => k [] M G H [] (Go.refl _ _ _) a.wd .nil h) hkx⟩
/-! ### fields -/
def lookF : List Str → List D → Str → Option D
  | n :: ns, d :: ds, f => if f = n then some d else lookF ns ds f
  | _, _, _ => none
def lookP : List (Str × D) → Str → Option D
  | [], _ => none
  | p :: r, f => if f = p.1 then some p.2 else lookP r f
theorem lookF_ok {K : PySem.W.Frag} {G : Hp} {f : Str} : ∀ {fs : List (Str × V)} {ds : List D} {d : D}, Reps K G ds (fs.map (·.2)) → lookF (fs.map (·.1)) ds f = some d → ∃ v, fs.lookup f = some v ∧ Rep K G d v
  | [], _, _, r, h => by cases r; cases h
  | (n, v) :: fs, d :: ds, d', r, h => by
    cases r with
    | cons r rr =>
      have h2 : (if f = n then some d else lookF (fs.map (·.1)) ds f) = some d' := h
      by_cases e : f = n
      · rw [if_pos e] at h2
        cases h2
        exact ⟨v, by rw [List.lookup_cons, e, beq_self_eq_true], r⟩
      · rw [if_neg e] at h2
        obtain ⟨u, hu, ru⟩ := lookF_ok rr h2
        refine ⟨u, ?_, ru⟩
        rw [List.lookup_cons]
        have : (f == n) = false := by simp [e]
        rw [this]
        exact hu
theorem lookP_ok {K : PySem.W.Frag} {G : Hp} {f : Str} : ∀ {fs : List (Str × D)} {vs : List (Str × V)} {d : D}, RepKV K G fs vs → lookP fs f = some d → ∃ v, vs.lookup f = some v ∧ Rep K G d v
  | _, _, _, .nil, h => by cases h
  | _, _, d', .cons (a := p) (b := q) (l₁ := fs) (l₂ := vs) r rr, h => by
    have h2 : (if f = p.1 then some p.2 else lookP fs f) = some d' := h
    by_cases e : f = p.1
    · rw [if_pos e] at h2
      cases h2
      exact ⟨q.2, by rw [List.lookup_cons, e, r.1, beq_self_eq_true], r.2⟩
    · rw [if_neg e] at h2
      obtain ⟨u, hu, ru⟩ := lookP_ok rr h2
      refine ⟨u, ?_, ru⟩
      rw [List.lookup_cons]
      have : (f == q.1) = false := by rw [← r.1]; simp [e]
      rw [this]
      exact hu
theorem lookP_none {K : PySem.W.Frag} {G : Hp} {f : Str} : ∀ {fs : List (Str × D)} {vs : List (Str × V)}, RepKV K G fs vs → lookP fs f = none → vs.lookup f = none
  | _, _, .nil, h => rfl
  | _, _, .cons (a := p) (b := q) (l₁ := fs) (l₂ := vs) r rr, h => by
    have h2 : (if f = p.1 then some p.2 else lookP fs f) = none := h
    by_cases e : f = p.1
    · rw [if_pos e] at h2; cases h2
    · rw [if_neg e] at h2
      rw [List.lookup_cons]
      have : (f == q.1) = false := by rw [← r.1]; simp [e]
      rw [this]
      exact lookP_none rr h2
theorem lookF_none {f : Str} : ∀ {fs : List (Str × V)} {ds : List D}, ds.length = fs.length → lookF (fs.map (·.1)) ds f = none → fs.lookup f = none
  | [], _, _, _ => rfl
  | (n, v) :: fs, d :: ds, hl, h => by
    have h2 : (if f = n then some d else lookF (fs.map (·.1)) ds f) = none := h
    by_cases e : f = n
    · rw [if_pos e] at h2; cases h2
    · rw [if_neg e] at h2
      rw [List.lookup_cons]
      have : (f == n) = false := by simp [e]
      rw [this]
      exact lookF_none (by simpa using hl) h2
/-- an instance, frozen or mutable: its class, how its fields are looked up -/
def viewI (M : Mem) : D → Option (Addr × (Str → Option D))
  | .ins C ns ds => if ns.length = ds.length then some (C, lookF ns ds) else none
  | .ptr a => (match M a with
    | some (.ins C _ fs) => some (C, lookP fs)
    | _ => none)
  | _ => none
theorem Wd.viewI {K : PySem.W.Frag} {G H : Hp} {M : Mem} (w : Wd K G M H) {d : D} {v : V} {C : Addr} {l : Str → Option D} (r : Rep K G d v) (h : Dl.viewI M d = some (C, l)) :
    ∃ a dx fs, v = .ref a ∧ H a = some (.ins C dx fs) ∧ (∀ f d, l f = some d → ∃ v, fs.lookup f = some v ∧ Rep K G d v) ∧ ∀ f, l f = none → fs.lookup f = none := by
  unfold Dl.viewI at h
  split at h
  · rename_i C' ns ds
    split at h
    · rename_i hl
      cases h
      cases r with
      | ins hg hn rr =>
        subst hn
        exact ⟨_, _, _, rfl, w.ex _ _ hg, fun f d hf => lookF_ok rr hf, fun f hf => lookF_none (by simpa using hl.symm) hf⟩
    · cases h
  · split at h
    · rename_i C' dx fs hm
      cases h
      cases r
      obtain ⟨vs, hv, rr⟩ := w.inso hm
      exact ⟨_, _, _, rfl, hv, fun f d hf => lookP_ok rr hf, fun f hf => lookP_none rr hf⟩
    · cases h
  · cases h
/-- e.f, of an instance of a class of IC -/
def dFld (IC : Addr → Prop) (f : Str) (φ : FE) : FE := fun ρ M Kp => φ ρ M fun d M1 => ∃ C l v, viewI M1 d = some (C, l) ∧ IC C ∧ l f = some v ∧ Kp v M1
def de_fld {IC : Addr → Prop} {f : Str} (hc : ∀ C, IC C → Cls Y.X.K C ∧ NoAttr Y.X.K C f) (ha : DE Y e φ) (hb : attributeBase e f Y.X.env (eval e Y.X.env) = eval e Y.X.env := by rfl) : DE Y (.Attribute e f pos) (dFld IC f φ) := by
  refine ⟨_, pe_fld ha.p hb, fun ρ M Kp G σ H Q a h k => ha.s ρ M _ G σ H _ a h fun d M1 G1 H1 v e1 w1 r1 h1 => ?_⟩
  obtain ⟨C, l, d', hv, hi, hl, h1⟩ := h1
  obtain ⟨b, dx, fs, rfl, hb, hf, _⟩ := w1.viewI r1 hv
  obtain ⟨u, hu, ru⟩ := hf f d' hl
  exact ⟨b, C, dx, fs, u, rfl, hb, (hc C hi).1, (hc C hi).2, hu, k d' M1 G1 H1 u e1 w1 ru h1⟩
/-- o.f = e -/
def putP (f : Str) (d : D) : List (Str × D) → List (Str × D)
  | [] => [(f, d)]
  | p :: r => if p.1 = f then (f, d) :: r else p :: putP f d r
def dPutF (IC : Addr → Prop) (f : Str) (φ ψ : FE) : FSt := fun KK ρ M => ψ ρ M fun d M1 => φ ρ M1 fun o M2 => ∃ a C dx fs, o = .ptr a ∧ M2 a = some (.ins C dx fs) ∧ IC C ∧ fs.length < 1000 ∧ KK.nx ρ (updM M2 a (.ins C dx (putP f d fs)))
end
end Dl
end
noncomputable section
namespace Dl
open PySem PySem.Spec PyProof.Rows L2 Evl
/-! ### o.f = e -/
theorem RepKV.put {K : PySem.W.Frag} {G : Hp} {f : Str} {d : D} {v : V} (r : Rep K G d v) : ∀ {fs : List (Str × D)} {vs : List (Str × V)}, RepKV K G fs vs → RepKV K G (putP f d fs) (putF f v vs)
  | _, _, .nil => .cons ⟨rfl, r⟩ .nil
  | _, _, .cons (a := p) (b := q) (l₁ := fs) (l₂ := vs) h t => by
    obtain ⟨q1, q2⟩ := q
    show RepKV K G (if p.1 = f then (f, d) :: fs else p :: putP f d fs) (if q1 = f then (q1, v) :: vs else (q1, q2) :: putF f v vs)
    have e : p.1 = q1 := h.1
    by_cases z : p.1 = f
    · rw [if_pos z, if_pos (e ▸ z)]
      exact .cons ⟨(z ▸ e), r⟩ t
    · rw [if_neg z, if_neg (fun y => z (e.trans y))]
      exact .cons h (RepKV.put r t)
theorem RepKV.length {κ : Type} {K : PySem.W.Frag} {G : Hp} : ∀ {l : List (κ × D)} {m : List (κ × V)}, RepKV K G l m → l.length = m.length
  | _, _, .nil => rfl
  | _, _, .cons _ t => by rw [List.length_cons, List.length_cons, RepKV.length t]
section
variable {Y : Yx} {k n : Nat} {f : Addr} {C : Addr} {fd : FuncData} {ps ks : List Str} {fs : FS} {x m : Str} {p pos pos' apos kpos : Pos} {e o value : Expr} {es : List Expr} {η ζ : FA} {kx : KXr} {φ ψ : FE}
def ds_putF {IC : Addr → Prop} {fl : Str} (hc : ∀ C, IC C → Cls Y.X.K C ∧ NoAttr Y.X.K C fl) (ho : DE Y o φ) (hv : DE Y value ψ) (hs : swapsWith value (some (.Attribute o fl pos')) pos.line Y.X.env = pure false := by rfl) :
    DS Y (.Assign [.Attribute o fl pos'] value pos) (dPutF IC fl φ ψ) := by
  refine ⟨_, ps_fld ho.p hv.p hs, fun ρ M KK G σ H E a h k => hv.s ρ M _ G σ H _ a h fun d M1 G1 H1 v e1 w1 r1 h1 => ?_⟩
  refine ho.s ρ M1 _ G1 σ H1 _ (a.step e1 w1) h1 fun od M2 G2 H2 vo e2 w2 r2 h2 => ?_
  obtain ⟨b, C, dx, fs, rfl, hm, hi, hl, h2⟩ := h2
  cases r2
  obtain ⟨us, hu, ru⟩ := w2.inso hm
  refine ⟨b, C, dx, us, rfl, hu, (hc C hi).1, (hc C hi).2, by rw [← ru.length]; exact hl, ?_⟩
  have g := w2.goP (o := .ins C dx (putF fl v us)) (mo := .ins C dx (putP fl d fs)) hm
  exact k.nx ρ _ G2 σ _ ((e1.trans e2).trans g) (w2.put (mo := .ins C dx (putP fl d fs)) hm ⟨_, rfl, ru.put (r1.mono e2.ex)⟩) (a.rr.mono (e1.trans e2).ex) h2
/-! ### o.m(..), a def of its class -/
def tMethD (C : Addr) (m : Str) (sp : Sp) (E : L2.St → XK) (ta : TE) (t : TA) : TE := fun σ H Q => ta σ H fun x H1 => ∃ a dx fs, x = .ref a ∧ H1 a = some (.ins C dx fs) ∧ fs.lookup m = none ∧
  t σ H1 fun vs H2 => sp (x :: vs) H2 Q (E σ)
theorem run_fnD {X : Cx} {CX : CXT} {sp : Sp} {E : L2.St → XK} {pins : List (Addr × Obj)} {σ : L2.St} {H : Hp} {s : Shared} {Q : VK} {us : List Value} {vs : List V} (F : FnOk X.prog X.w X.K X.mg X.base CX k f fd ps sp) (hr : Room k X.A) (hb : Binds X.K fd ps []) (hx : PassesAt CX X σ (E σ))
    (I : Inv X pins σ H s) (r : Vals vs us) (h : sp vs H Q (E σ)) : wpAny (model X.prog X.w) X.A (call (.ref f) us) (EP X pins σ Q) X.xe s := by
  have := run_fnSD (dvs := []) (ds := []) F hr hb .nil hx I r (by rw [List.append_nil]; exact h)
  exact this
theorem pe_methD {X : Cx} {CX : CXT} {sp : Sp} {E : L2.St → XK} {ta : TE} {t : TA} {pl : Sem Bool} (he : PE X o ta) (c : Cls X.K C) (hm : Meth X.K C m f) (F : FnOk X.prog X.w X.K X.mg X.base CX k f fd ps sp) (hr : Room k X.A) (hb : Binds X.K fd ps []) (hx : ∀ σ, PassesAt CX X σ (E σ)) (ha : PA X (e :: es) t)
    (hst : starEach (e :: es) X.env = (false, eval e X.env) :: starEach es X.env := by rfl) (hpl : (backTo pos (starEach es X.env)).any (·.1) = false := by rfl)
    (ht : eval (.Call (.Attribute o m apos) (e :: es) [] pos) X.env = (do
      let ov ← eval o X.env
      standAt apos.atName
      let (f, first) ← holding [ov] (getMethod ov m pl)
      callWith pos f first (backTo pos (starEach (e :: es) X.env)) (backToKw pos (keywordEach [] X.env))) := by rfl) :
    PE X (.Call (.Attribute o m apos) (e :: es) [] pos) (tMethD C m sp E ta t) := by
  refine ⟨fun pins s σ H Q I h => ?_⟩
  refine PySem.W.methodCall_KW (pl := pl) (thn (he.run pins s σ H _ I h) fun u s1 ⟨x, H1, I1, rx, a, dx, fs, ex, ea, l, q⟩ => ?_) ht
  subst ex
  obtain rfl : u = Value.ref a := rx
  refine getmeth_ok I1 ea c hm l ?_
  refine PySem.W.callWith_K (first := [.ref a]) (h₀ := X.base) I.ok.mod.kin hm.kp (thn (ha.run pos pins s1 σ H1 _ I1 q) fun us s2 ⟨vs, H2, I2, r, q2⟩ => ⟨I2.kIn, ?_⟩) hst hpl
  exact run_fnD (us := .ref a :: us) (vs := .ref a :: vs) F hr hb (hx σ) I2 (.cons rfl r) q2
theorem pe_methD0 {X : Cx} {CX : CXT} {sp : Sp} {E : L2.St → XK} {ta : TE} {pl : Sem Bool} (he : PE X o ta) (c : Cls X.K C) (hm : Meth X.K C m f) (F : FnOk X.prog X.w X.K X.mg X.base CX k f fd ps sp) (hr : Room k X.A) (hb : Binds X.K fd ps []) (hx : ∀ σ, PassesAt CX X σ (E σ))
    (ht : eval (.Call (.Attribute o m apos) [] [] pos) X.env = (do
      let ov ← eval o X.env
      standAt apos.atName
      let (f, first) ← holding [ov] (getMethod ov m pl)
      callWith pos f first (backTo pos (starEach [] X.env)) (backToKw pos (keywordEach [] X.env))) := by rfl) :
    PE X (.Call (.Attribute o m apos) [] [] pos) (tMethD C m sp E ta tNil) := by
  refine ⟨fun pins s σ H Q I h => ?_⟩
  refine PySem.W.methodCall_KW (pl := pl) (thn (he.run pins s σ H _ I h) fun u s1 ⟨x, H1, I1, rx, a, dx, fs, ex, ea, l, q⟩ => ?_) ht
  subst ex
  obtain rfl : u = Value.ref a := rx
  refine getmeth_ok I1 ea c hm l ?_
  exact PySem.W.callWith_K0 (first := [.ref a]) I1.kIn hm.kp (run_fnD (us := [.ref a]) (vs := [.ref a]) F hr hb (hx σ) I1 (.cons rfl .nil) q)
def dMeth (n : Nat) (C : Addr) (m : Str) (kx : KXr) (fs : FS) (φ : FE) (η : FA) : FE := fun ρ M Kp => φ ρ M fun d M1 => ∃ l, viewI M1 d = some (C, l) ∧ l m = none ∧ η ρ M1 fun ds M2 => ds.length + 1 = n ∧ fs (d :: ds) M2 Kp fun C d M' => kx C d ρ M'
theorem simMeth {N : Nat} {ta : TE} {t : TA} (so : SimE Y ta φ) (sa : SimA Y t η) (hkx : Y.KX = kx) : SimE Y (tMethD C m (spOf Y.X.K N fs) Y.E ta t) (dMeth N C m kx fs φ η) := by
  subst hkx
  intro ρ M Kp G σ H Q a h k
  refine so ρ M _ G σ H _ a h fun d M1 G1 H1 v e1 w1 r1 h1 => ?_
  obtain ⟨l, hv, hl, h1⟩ := h1
  obtain ⟨b, dx, gs, rfl, hb, _, hn⟩ := w1.viewI r1 hv
  refine ⟨b, dx, gs, rfl, hb, hn m hl, ?_⟩
  refine sa ρ M1 _ G1 σ H1 _ (a.step e1 w1) h1 fun ds M2 G2 H2 vs e2 w2 r2 h2 => ?_
  exact sp_of (by rw [List.length_cons]; exact h2.1) (a.step (e1.trans e2) w2) (.cons (r1.mono e2.ex) r2) h2.2 (Kon.mono (Kon.mono k e1) e2)
def de_meth {N : Nat} {pl : Sem Bool} (he : DE Y o φ) (c : Cls Y.X.K C) (hm : Meth Y.X.K C m f) (F : FnOk Y.X.prog Y.X.w Y.X.K Y.X.mg Y.X.base (L2.CX Y.X.prog Y.X.w) k f fd ps (spOf Y.X.K N fs)) (hr : Room k Y.X.A) (hb : Binds Y.X.K fd ps []) (hkx : Y.KX = kx) (ha : DA Y (e :: es) η)
    (hst : starEach (e :: es) Y.X.env = (false, eval e Y.X.env) :: starEach es Y.X.env := by rfl) (hpl : (backTo pos (starEach es Y.X.env)).any (·.1) = false := by rfl)
    (ht : eval (.Call (.Attribute o m apos) (e :: es) [] pos) Y.X.env = (do
      let ov ← eval o Y.X.env
      standAt apos.atName
      let (f, first) ← holding [ov] (getMethod ov m pl)
      callWith pos f first (backTo pos (starEach (e :: es) Y.X.env)) (backToKw pos (keywordEach [] Y.X.env))) := by rfl) :
    DE Y (.Call (.Attribute o m apos) (e :: es) [] pos) (dMeth N C m kx fs φ η) := ⟨_, pe_methD (pl := pl) he.p c hm F hr hb Y.pass ha.p hst hpl ht, simMeth he.s ha.s hkx⟩
def de_meth0 {N : Nat} {pl : Sem Bool} (he : DE Y o φ) (c : Cls Y.X.K C) (hm : Meth Y.X.K C m f) (F : FnOk Y.X.prog Y.X.w Y.X.K Y.X.mg Y.X.base (L2.CX Y.X.prog Y.X.w) k f fd ps (spOf Y.X.K N fs)) (hr : Room k Y.X.A) (hb : Binds Y.X.K fd ps []) (hkx : Y.KX = kx)
    (ht : eval (.Call (.Attribute o m apos) [] [] pos) Y.X.env = (do
      let ov ← eval o Y.X.env
      standAt apos.atName
      let (f, first) ← holding [ov] (getMethod ov m pl)
      callWith pos f first (backTo pos (starEach [] Y.X.env)) (backToKw pos (keywordEach [] Y.X.env))) := by rfl) :
    DE Y (.Call (.Attribute o m apos) [] [] pos) (dMeth N C m kx fs φ dNil) := ⟨_, pe_methD0 (pl := pl) he.p c hm F hr hb Y.pass ht, simMeth (t := tNil) he.s (fun ρ M Kp G σ H Q a h k => k [] M G H [] (Go.refl _ _ _) a.wd .nil h) hkx⟩
end
/-! ### methods of built-in types -/
theorem tyD_ok {K : PySem.W.Frag} {G H : Hp} {M : Mem} {T : String} (w : Wd K G M H) {d : D} {v : V} (r : Rep K G d v) (h : tyD T M d) : tyV K T v H := by
  cases r with
  | str y => exact h
  | lst hg rr => exact .inl ⟨h, _, SqL.of (w.ex _ _ hg)⟩
  | dK hg _ _ => exact .inr (.inr (.inl ⟨h, .inl ⟨_, w.ex _ _ hg⟩⟩))
  | dT hg _ _ => exact .inr (.inr (.inl ⟨h, .inr ⟨_, w.ex _ _ hg⟩⟩))
  | ptr a =>
    have h2 : (match M a with | some (.lst _) => T = "list" | some (.dK _) => T = "dict" | some (.dT _) => T = "dict" | _ => False) := h
    split at h2
    · rename_i ds hm
      obtain ⟨vs, hv, rr⟩ := w.lst hm
      exact .inl ⟨h2, _, SqL.of hv⟩
    · rename_i ds hm
      obtain ⟨vs, hv, rr⟩ := w.dKo hm
      exact .inr (.inr (.inl ⟨h2, .inl ⟨_, hv⟩⟩))
    · rename_i ds hm
      obtain ⟨vs, hv, rr⟩ := w.dTo hm
      exact .inr (.inr (.inl ⟨h2, .inr ⟨_, hv⟩⟩))
    · exact h2.elim
  | _ => exact h.elim
section
variable {Y : Yx} {o e : Expr} {es : List Expr} {name : Str} {apos cpos : Pos} {T id : String} {r : V → List V → Hp → VK → Prop} {φ : FE} {η : FA} {δ : FM}
def dBM (T : String) (δ : FM) (φ : FE) (η : FA) : FE := fun ρ M Kp => φ ρ M fun x M1 => tyD T M1 x ∧ η ρ M1 fun xs M2 => δ x xs M2 Kp
def de_bm0 (pa : PlainAttrs T) (slot : Slot T name id) (hty : typeOf (.builtin id) = pure (.type "method_descriptor")) (hm : MtR Y.X id r) (hl : LiftM Y.X.K r δ) (ho : DE Y o φ)
    (hbase : attributeBase o name Y.X.env (eval o Y.X.env) = eval o Y.X.env := by rfl) (hline : (apos.endLine == cpos.line) = true := by rfl) : DE Y (.Call (.Attribute o name apos) [] [] cpos) (dBM T δ φ dNil) := by
  refine ⟨_, pe_bm0 pa slot hty hm ho.p hbase hline, fun ρ M Kp G σ H Q a h k => ho.s ρ M _ G σ H _ a h fun x M1 G1 H1 v e1 w1 r1 h1 => ?_⟩
  exact ⟨tyD_ok w1 r1 h1.1, hl x [] M1 Kp G1 H1 v [] Q w1 r1 .nil h1.2 (Kon.mono k e1)⟩
def de_bm (pa : PlainAttrs T) (slot : Slot T name id) (hty : typeOf (.builtin id) = pure (.type "method_descriptor")) (hm : MtR Y.X id r) (hl : LiftM Y.X.K r δ) (ho : DE Y o φ) (ha : DA Y (e :: es) η)
    (hbase : attributeBase o name Y.X.env (eval o Y.X.env) = eval o Y.X.env := by rfl)
    (hfew : ((backTo cpos (starEach (e :: es) Y.X.env)).all (fun x => !x.1) && (backToKw cpos (keywordEach [] Y.X.env)).all (fun x => x.1.isSome)
      && decide ((e :: es).length + ([] : List Keyword).length + (if ([] : List Keyword).isEmpty then 0 else 1) < 30)) = true := by rfl)
    (hline : (apos.endLine == cpos.line) = true := by rfl) (hs : starEach (e :: es) Y.X.env = (false, eval e Y.X.env) :: starEach es Y.X.env := by rfl) (hplain : (backTo cpos (starEach es Y.X.env)).any (·.1) = false := by rfl) :
    DE Y (.Call (.Attribute o name apos) (e :: es) [] cpos) (dBM T δ φ η) := by
  refine ⟨_, pe_bm pa slot hty hm ho.p ha.p hbase hfew hline hs hplain, fun ρ M Kp G σ H Q a h k => ho.s ρ M _ G σ H _ a h fun x M1 G1 H1 v e1 w1 r1 h1 => ?_⟩
  refine ⟨tyD_ok w1 r1 h1.1, ha.s ρ M1 _ G1 σ H1 _ (a.step e1 w1) h1.2 fun xs M2 G2 H2 vs e2 w2 r2 h2 => ?_⟩
  exact hl x xs M2 Kp G2 H2 v vs Q w2 (r1.mono e2.ex) r2 h2 (Kon.mono k (e1.trans e2))
end
/-! #### lists -/
section
variable {K : PySem.W.Frag}
def δAppend : FM := fun x xs M Kp => match x with
  | .ptr p => (match xs with
    | [d] => ∃ ds, M p = some (.lst ds) ∧ ds.length < sizeLine ∧ Kp .non (updM M p (.lst (ds ++ [d])))
    | _ => False)
  | _ => False
theorem lift_append : LiftM K rAppend δAppend := by
  intro x xs M Kp G H vx vs Q w rx rs h k
  unfold δAppend at h
  split at h
  · rename_i p
    split at h
    · rename_i d
      obtain ⟨ds, hm, hz, h⟩ := h
      cases rx
      obtain ⟨v, rfl, rv⟩ := rs.one_inv
      obtain ⟨us, hu, ru⟩ := w.lst hm
      exact ⟨p, us, v, rfl, rfl, hu, by rw [← ru.length]; exact hz, k .non _ G _ _ (w.goP hm) (w.put (mo := .lst (ds ++ [d])) hm ⟨_, rfl, ru.append (.one rv)⟩) .non h⟩
    · exact h.elim
  · exact h.elim
def δExtend : FM := fun x xs M Kp => match x with
  | .ptr p => (match xs with
    | [d] => ∃ ds es, M p = some (.lst ds) ∧ viewL M d = some es ∧ ds.length + es.length ≤ sizeLine ∧ Kp .non (updM M p (.lst (ds ++ es)))
    | _ => False)
  | _ => False
theorem lift_extend : LiftM K rExtend δExtend := by
  intro x xs M Kp G H vx vs Q w rx rs h k
  unfold δExtend at h
  split at h
  · rename_i p
    split at h
    · rename_i d
      obtain ⟨ds, es, hm, hv, hz, h⟩ := h
      cases rx
      obtain ⟨v, rfl, rv⟩ := rs.one_inv
      obtain ⟨us, hu, ru⟩ := w.lst hm
      obtain ⟨b, zs, rfl, hb, rb⟩ := w.viewL rv hv
      exact ⟨p, b, us, zs, rfl, rfl, hu, hb, by rw [← ru.length, ← rb.length]; exact hz, k .non _ G _ _ (w.goP hm) (w.put (mo := .lst (ds ++ es)) hm ⟨_, rfl, ru.append rb⟩) .non h⟩
    · exact h.elim
  · exact h.elim
theorem Reps.dropLast {G : Hp} {ds : List D} {vs : List V} (r : Reps K G ds vs) : Reps K G ds.dropLast vs.dropLast := by
  rw [List.dropLast_eq_take, List.dropLast_eq_take, r.length]
  exact r.take _
def δPop : FM := fun x xs M Kp => match x with
  | .ptr p => (match xs with
    | [] => ∃ ds d, M p = some (.lst ds) ∧ ds[ds.length - 1]? = some d ∧ Kp d (updM M p (.lst ds.dropLast))
    | _ => False)
  | _ => False
theorem lift_pop : LiftM K rPop δPop := by
  intro x xs M Kp G H vx vs Q w rx rs h k
  unfold δPop at h
  split at h
  · rename_i p
    split at h
    · skip
      obtain ⟨ds, d, hm, hd, h⟩ := h
      cases rx
      cases rs
      obtain ⟨us, hu, ru⟩ := w.lst hm
      obtain ⟨v, hv, rv⟩ := ru.get hd
      exact ⟨p, us, v, rfl, rfl, hu, by rw [← ru.length]; exact hv, k d _ G _ _ (w.goP hm) (w.put (mo := .lst ds.dropLast) hm ⟨_, rfl, ru.dropLast⟩) rv h⟩
    · exact h.elim
  · exact h.elim
/-! #### texts -/
def δJoin : FM := fun x xs M Kp => match x with
  | .str a => (match xs with
    | [d] => ∃ ds ys, viewQ M d = some ds ∧ strsD ds = some ys ∧ (ys.map (·.length)).sum + ys.length * a.length ≤ 16777216 ∧ Kp (.str (Txt.join a ys)) M
    | _ => False)
  | _ => False
theorem lift_join : LiftM K (fun x xs H Q => ∃ a p, ∃ ys : List Str, x = .str a ∧ xs = [.ref p] ∧ (SqL K H p (ys.map V.str) ∨ SqT K H p (ys.map V.str)) ∧
    (ys.map (·.length)).sum + ys.length * a.length ≤ 16777216 ∧ Q (.str (Txt.join a ys)) H) δJoin := by
  intro x xs M Kp G H vx vs Q w rx rs h k
  unfold δJoin at h
  split at h
  · rename_i a
    split at h
    · rename_i d
      obtain ⟨ds, ys, hv, hs, hz, h⟩ := h
      cases rx
      obtain ⟨v, rfl, rv⟩ := rs.one_inv
      have e := strs_eq hs
      subst e
      unfold viewQ at hv
      split at hv
      · cases hv
        cases rv with
        | tup hg r2 =>
          rw [r2.strs] at hg
          exact ⟨a, _, ys, rfl, rfl, .inr (SqT.of (w.ex _ _ hg)), hz, k _ M G H _ (Go.refl _ _ _) w (.str _) h⟩
      · obtain ⟨b, us, rfl, hu, r2⟩ := w.viewL rv hv
        rw [r2.strs] at hu
        exact ⟨a, b, ys, rfl, rfl, .inl (SqL.of hu), hz, k _ M G H _ (Go.refl _ _ _) w (.str _) h⟩
    · exact h.elim
  · exact h.elim
end
/-! ### dicts -/
section
variable {κ : Type} [DecidableEq κ] {K : PySem.W.Frag} {G : Hp}
def valD (kvs : List (κ × D)) (k : κ) : Option D := (kvs.find? fun kv => decide (kv.1 = k)).map (·.2)
def putD (kvs : List (κ × D)) (k : κ) (v : D) : List (κ × D) :=
  if (kvs.any fun kv => decide (kv.1 = k)) then kvs.map fun kv => if kv.1 = k then (kv.1, v) else kv else kvs ++ [(k, v)]
theorem valD_rep : ∀ {l : List (κ × D)} {m : List (κ × V)}, RepKV K G l m → ∀ k : κ, (∀ d, valD l k = some d → ∃ v, valV m k = some v ∧ Rep K G d v) ∧ (valD l k = none → valV m k = none)
  | _, _, .nil, k => ⟨fun d h => (by cases h), fun _ => rfl⟩
  | _, _, .cons (a := p) (b := q) (l₁ := l) (l₂ := m) h t, k => by
    by_cases e : p.1 = k
    · have e2 : q.1 = k := h.1 ▸ e
      have v1 : valD (p :: l) k = some p.2 := by simp [valD, List.find?_cons, e]
      have v2 : valV (q :: m) k = some q.2 := valV_pos e2
      rw [v1, v2]
      exact ⟨fun d hd => (by cases hd; exact ⟨q.2, rfl, h.2⟩), fun hd => (by cases hd)⟩
    · have e2 : ¬ q.1 = k := fun z => e (h.1.trans z)
      have v1 : valD (p :: l) k = valD l k := by simp [valD, List.find?_cons, e]
      have v2 : valV (q :: m) k = valV m k := valV_neg e2
      rw [v1, v2]
      exact valD_rep t k
theorem any_rep : ∀ {l : List (κ × D)} {m : List (κ × V)}, RepKV K G l m → ∀ k : κ, (l.any fun kv => decide (kv.1 = k)) = m.any fun kv => decide (kv.1 = k)
  | _, _, .nil, k => rfl
  | _, _, .cons h t, k => by rw [List.any_cons, List.any_cons, any_rep t k, h.1]
theorem repl_rep (k : κ) {d : D} {v : V} (rd : Rep K G d v) : ∀ {l : List (κ × D)} {m : List (κ × V)}, RepKV K G l m → RepKV K G (l.map fun kv => if kv.1 = k then (kv.1, d) else kv) (m.map fun kv => if kv.1 = k then (kv.1, v) else kv)
  | _, _, .nil => .nil
  | _, _, .cons (a := p) (b := q) h t => by
    refine .cons ?_ (repl_rep k rd t)
    show ((if p.1 = k then (p.1, d) else p) : κ × D).1 = ((if q.1 = k then (q.1, v) else q) : κ × V).1 ∧ Rep K G ((if p.1 = k then (p.1, d) else p) : κ × D).2 ((if q.1 = k then (q.1, v) else q) : κ × V).2
    by_cases e : p.1 = k
    · have e2 : q.1 = k := h.1 ▸ e
      rw [if_pos e, if_pos e2]
      exact ⟨h.1, rd⟩
    · have e2 : ¬ q.1 = k := fun z => e (h.1.trans z)
      rw [if_neg e, if_neg e2]
      exact h
theorem RepKV.snoc {p : κ × D} {q : κ × V} (h : p.1 = q.1 ∧ Rep K G p.2 q.2) : ∀ {l : List (κ × D)} {m : List (κ × V)}, RepKV K G l m → RepKV K G (l ++ [p]) (m ++ [q])
  | _, _, .nil => .cons h .nil
  | _, _, .cons h' t => .cons h' (RepKV.snoc h t)
theorem putD_rep {l : List (κ × D)} {m : List (κ × V)} (r : RepKV K G l m) (k : κ) {d : D} {v : V} (rd : Rep K G d v) : RepKV K G (putD l k d) (putK m k v) := by
  unfold putD putK
  rw [any_rep r k]
  split
  · exact repl_rep k rd r
  · exact r.snoc ⟨rfl, rd⟩
theorem putD_length (l : List (κ × D)) (k : κ) (d : D) : (putD l k d).length ≤ l.length + 1 := by
  unfold putD
  split
  · rw [List.length_map]; omega
  · rw [List.length_append]; exact Nat.le_refl _
end
/-- a key, seen as data: an int or a text; a tuple of these -/
def keyD : D → Option Key
  | .int i => some (.inl i)
  | .str x => some (.inr x)
  | _ => none
def keysD : List D → Option (List Key)
  | [] => some []
  | d :: ds => (keyD d).bind fun a => (keysD ds).map fun b => a :: b
theorem keyD_rep {K : PySem.W.Frag} {G : Hp} {d : D} {v : V} {k : Key} (r : Rep K G d v) (h : keyD d = some k) : v = kV k := by
  cases r with
  | int i => cases h; rfl
  | str x => cases h; rfl
  | _ => cases h
theorem keysD_rep {K : PySem.W.Frag} {G : Hp} : ∀ {ds : List D} {vs : List V} {ks : List Key}, Reps K G ds vs → keysD ds = some ks → vs = ks.map kV
  | _, _, _, .nil, h => by cases h; rfl
  | _, _, _, .cons (d := d) (ds := ds) r rs, h => by
    have h2 : (keyD d).bind (fun a => (keysD ds).map fun b => a :: b) = some _ := h
    cases q : keyD d with
    | none => rw [q] at h2; cases h2
    | some a =>
      rw [q] at h2
      cases q2 : keysD ds with
      | none => rw [q2] at h2; cases h2
      | some b =>
        rw [q2] at h2
        cases h2
        rw [keyD_rep r q, keysD_rep rs q2]
        rfl
def keyOf : Key → D
  | .inl i => .int i
  | .inr x => .str x
theorem keyOf_rep {K : PySem.W.Frag} {G : Hp} (k : Key) : Rep K G (keyOf k) (kV k) := by
  cases k with
  | inl i => exact .int i
  | inr x => exact .str x
theorem keysOf_rep {K : PySem.W.Frag} {G : Hp} : ∀ ks : List Key, Reps K G (ks.map keyOf) (ks.map kV)
  | [] => .nil
  | k :: ks => .cons (keyOf_rep k) (keysOf_rep ks)
/-- a dict with tuple keys at o; what it holds at the key y -/
def δDIn (neg : Bool) : F2 := fun y o M Kp => match o with
  | .ptr p => (match M p with
    | some (.dT kvs) => (match y with
      | .tup ks => ∃ k, keysD ks = some k ∧ Kp (nB neg (valD kvs k).isSome) M
      | _ => False)
    | some (.dK kvs) => ∃ k, keyD y = some k ∧ Kp (nB neg (valD kvs k).isSome) M
    | _ => False)
  | .dT ks ds => (match y with
      | .tup zs => ∃ k, keysD zs = some k ∧ ks.length = ds.length ∧ Kp (nB neg (valD (ks.zip ds) k).isSome) M
      | _ => False)
  | .dK ks ds => ∃ k, keyD y = some k ∧ ks.length = ds.length ∧ Kp (nB neg (valD (ks.zip ds) k).isSome) M
  | _ => False
/-- a mutable dict written -/
def δDPut : FSet := fun o y v M Kp => match o with
  | .ptr p => (match M p with
    | some (.dT kvs) => (match y with
      | .tup ks => ∃ k, keysD ks = some k ∧ kvs.length < sizeLine ∧ Kp (updM M p (.dT (putD kvs k v)))
      | _ => False)
    | some (.dK kvs) => ∃ k, keyD y = some k ∧ kvs.length < sizeLine ∧ Kp (updM M p (.dK (putD kvs k v)))
    | _ => False)
  | _ => False
def rDPut : TSet := fun o y v H Q => ∃ a H4, o = .ref a ∧ DPut H a y v H4 ∧ Q H4
theorem lift_dput {K : PySem.W.Frag} : LiftSet K rDPut δDPut := by
  intro o y v M Kp G H vo vy vv Q w ro ry rv h k
  unfold δDPut at h
  split at h
  · rename_i p
    cases ro
    split at h
    · rename_i kvs hm
      split at h
      · rename_i ks
        obtain ⟨k', hk, hz, h⟩ := h
        obtain ⟨ws, hw, rw'⟩ := w.dTo hm
        cases ry with
        | tup hg r =>
          rw [keysD_rep r hk] at hg
          exact ⟨p, _, rfl, DPut.t hw (w.ex _ _ hg) (by rw [← rw'.length]; exact hz), k _ G _ (w.goP hm) (w.put (mo := .dT (putD kvs k' v)) hm ⟨_, rfl, putD_rep rw' k' rv⟩) h⟩
      · exact h.elim
    · rename_i kvs hm
      obtain ⟨k', hk, hz, h⟩ := h
      obtain ⟨ws, hw, rw'⟩ := w.dKo hm
      rw [keyD_rep ry hk]
      exact ⟨p, _, rfl, DPut.k hw (by rw [← rw'.length]; exact hz), k _ G _ (w.goP hm) (w.put (mo := .dK (putD kvs k' v)) hm ⟨_, rfl, putD_rep rw' k' rv⟩) h⟩
    · exact h.elim
  · exact h.elim
section
variable {Y : Yx} {pos pos' : Pos} {o i value : Expr} {φo φi φ : FE}
def dDPut (φo φi φ : FE) : FSt := fun KK ρ M => φ ρ M fun v M1 => φo ρ M1 fun o M2 => φi ρ M2 fun y M3 => δDPut o y v M3 fun M4 => KK.nx ρ M4
def ds_dput (hu : Y.X.A.units + 1 < cLine) (ho : DE Y o φo) (hi : DE Y i φi) (hv : DE Y value φ) (hs : swapsWith value (some (.Subscript o i pos')) pos.line Y.X.env = pure false := by rfl) : DS Y (.Assign [.Subscript o i pos'] value pos) (dDPut φo φi φ) := by
  refine ⟨_, ps_dput hu ho.p hi.p hv.p hs, fun ρ M KK G σ H E a h k => hv.s ρ M _ G σ H _ a h fun v M1 G1 H1 vv e1 w1 r1 h1 => ?_⟩
  refine ho.s ρ M1 _ G1 σ H1 _ (a.step e1 w1) h1 fun ov M2 G2 H2 vo e2 w2 r2 h2 => hi.s ρ M2 _ G2 σ H2 _ (a.step (e1.trans e2) w2) h2 fun y M3 G3 H3 vy e3 w3 r3 h3 => ?_
  exact lift_dput ov y v M3 _ G3 H3 vo vy vv _ w3 (r2.mono e3.ex) r3 (r1.mono (e2.trans e3).ex) h3 fun M4 G4 H4 e4 w4 h4 => k.nx ρ M4 G4 σ H4 (((e1.trans e2).trans e3).trans e4) w4 (a.rr.mono (((e1.trans e2).trans e3).trans e4).ex) h4
def dDNew (T : Bool) : FE := fun ρ M Kp => match T with
  | true => ∀ p, M p = none → Kp (.ptr p) (updM M p (.dT []))
  | false => ∀ p, M p = none → Kp (.ptr p) (updM M p (.dK []))
def de_dnewT : DE Y (.Dict [] [] pos) (dDNew true) := ⟨_, pe_dnewT, fun ρ M Kp G σ H Q a h k => fun p hp => by
  obtain ⟨mp, w'⟩ := a.wd.newM (mo := .dT []) (o := .dT []) hp ⟨[], rfl, .nil⟩
  exact k (.ptr p) _ G _ _ (a.wd.goM hp) w' (.ptr p) (h p mp)⟩
def de_dnewK : DE Y (.Dict [] [] pos) (dDNew false) := ⟨_, pe_dnewK, fun ρ M Kp G σ H Q a h k => fun p hp => by
  obtain ⟨mp, w'⟩ := a.wd.newM (mo := .dK []) (o := .dK []) hp ⟨[], rfl, .nil⟩
  exact k (.ptr p) _ G _ _ (a.wd.goM hp) w' (.ptr p) (h p mp)⟩
end
/-- list(d) of a dict -/
def δListDT (m : Bool) : FN := fun xs M Kp => match xs with
  | [.ptr p] => ∃ kvs, M p = some (.dT kvs) ∧ newL m (kvs.map fun kv => .tup (kv.1.map keyOf)) M Kp
  | _ => False
theorem isKeys_reps {K : PySem.W.Frag} {G : Hp} {H : Hp} : ∀ {kvs : List (List Key × D)} {ws : List (List Key × V)} {bs : List Addr}, RepKV K G kvs ws → IsKeys H ws bs → Reps K (gTup G H) (kvs.map fun kv => .tup (kv.1.map keyOf)) (bs.map V.ref)
  | _, _, _, .nil, h => by cases h; exact .nil
  | _, _, _, .cons r t, h => by
    cases h with
    | cons h1 h2 =>
      refine .cons (.tup (gTup_at h1) ?_) (isKeys_reps t h2)
      rw [r.1]
      exact keysOf_rep _
theorem lift_listDT {K : PySem.W.Frag} (m : Bool) : LiftN K (fun xs H Q => ∃ d kvs, xs = [V.ref d] ∧ Rd H d (.dT kvs) ∧ ∀ p bs, H p = none → IsKeys H kvs bs → Q (.ref p) (upd H p (.lst (bs.map V.ref)))) (δListDT m) := by
  intro xs M Kp G H vs Q w r h k
  unfold δListDT at h
  split at h
  · rename_i p
    obtain ⟨kvs, hm, h⟩ := h
    obtain ⟨v, rfl, rv⟩ := r.one_inv
    cases rv
    obtain ⟨ws, hw, rw'⟩ := w.dTo hm
    refine ⟨p, ws, rfl, .inl hw, fun q bs hq hb => ?_⟩
    obtain ⟨w2, g2⟩ := w.tups
    exact newL_ok w2 hq (isKeys_reps rw' hb) h (Kon.mono k g2)
  · exact h.elim
end Dl
end
noncomputable section
namespace Dl
open PySem PySem.Spec PyProof.Rows L2 Evl
/-! ### list comprehensions with two clauses -/
def lcD2 (P : Mem → Prop) (γ : FG) (α : FT) (ι1 : FI) (γ1 : FG) (α1 : FT) (φ : FE) (vs1 : List Nat) (ρ : Rho) : List D → List D → Mem → (List D → Mem → Prop) → Prop
  | [], acc, M, Kp => P M ∧ Kp acc M
  | x :: xs, acc, M, Kp => P M ∧ γ x ρ M fun ρ1 M1 => α ρ1 M1 fun b M2 => match b with
    | true => ι1 ρ1 M2 fun items1 P1 M3 => lcD P1 γ1 α1 φ (wipeR ρ1 vs1) items1 acc M3 fun acc' M4 => lcD2 P γ α ι1 γ1 α1 φ vs1 ρ xs acc' M4 Kp
    | false => lcD2 P γ α ι1 γ1 α1 φ vs1 ρ xs acc M2 Kp
def dLc2 (m : Bool) (ι : FI) (γ : FG) (α : FT) (ι1 : FI) (γ1 : FG) (α1 : FT) (φ : FE) (vs vs1 : List Nat) : FE := fun ρ M Kp => ι ρ M fun items P M1 => lcD2 P γ α ι1 γ1 α1 φ vs1 (wipeR ρ vs) items [] M1 fun acc M2 => newL m acc M2 Kp
/-- a list grows at L, hidden from the data -/
structure Hid (K : PySem.W.Frag) (G1 : Hp) (M1 : Mem) (H1 : Hp) (L : Addr) (acc : List D) (M : Mem) (G H : Hp) : Prop where
  go : Go G1 M1 H1 G M H
  wd : Wd K G M H
  gn : G L = none
  mn : M L = none
  at_ : ∃ us, H L = some (.lst us) ∧ Reps K G acc us
section
variable {K : PySem.W.Frag} {G1 H1 G H G' H' : Hp} {M1 M M' : Mem} {L : Addr} {acc : List D}
theorem Hid.step (h : Hid K G1 M1 H1 L acc M G H) (g : Go G M H G' M' H') (w : Wd K G' M' H') : Hid K G1 M1 H1 L acc M' G' H' := by
  obtain ⟨us, hl, r⟩ := h.at_
  obtain ⟨q1, q2, q3⟩ := g.fk L _ (fun _ z => by cases z) hl h.mn h.gn
  exact ⟨h.go.trans g, w, q1, q2, us, q3, r.mono g.ex⟩
theorem Hid.push (h : Hid K G1 M1 H1 L acc M G H) (hL : H1 L = none) {d : D} {v : V} (r : Rep K G d v) : ∃ us, H L = some (.lst us) ∧ us.length = acc.length ∧ Hid K G1 M1 H1 L (acc ++ [d]) M G (upd H L (.lst (us ++ [v]))) := by
  obtain ⟨us, hl, ru⟩ := h.at_
  refine ⟨us, hl, ru.length.symm, ⟨h.go.ex, fun b o nt e m g => ?_⟩, ⟨Ex.mut h.wd.ex h.gn, fun b mo e => ?_⟩, h.gn, h.mn, _, upd_same, ru.append (.one r)⟩
  · obtain ⟨q1, q2, q3⟩ := h.go.fk b o nt e m g
    exact ⟨q1, q2, by rw [upd_ne (ne_of_none e hL)]; exact q3⟩
  · obtain ⟨g, o, ho, q⟩ := h.wd.mem b mo e
    have ne : b ≠ L := fun z => by rw [z, h.mn] at e; cases e
    exact ⟨g, o, by rw [upd_ne ne]; exact ho, q⟩
theorem Hid.first (w : Wd K G1 M1 H1) (hL : H1 L = none) : Hid K G1 M1 H1 L [] M1 G1 (upd H1 L (.lst [])) := by
  have gL : G1 L = none := fresh_back w.ex hL
  have mL : M1 L = none := by
    cases q : M1 L with
    | none => rfl
    | some mo => obtain ⟨_, o, ho, _⟩ := w.mem L mo q; rw [hL] at ho; cases ho
  exact ⟨⟨Ex.refl _, fun b o _ e m g => ⟨g, m, by rw [upd_ne (ne_of_none e hL)]; exact e⟩⟩, ⟨Ex.mut w.ex gL, fun b mo e => by
    obtain ⟨g, o, ho, r⟩ := w.mem b mo e
    exact ⟨g, o, by rw [upd_ne (ne_of_none ho hL)]; exact ho, r⟩⟩, gL, mL, [], upd_same, .nil⟩
theorem Hid.land (h : Hid K G1 M1 H1 L acc M G H) (hL : H1 L = none) {m : Bool} {Kp : KD} {Q : VK} (hn : newL m acc M Kp) (k : Kon K G1 M1 H1 Kp Q) : Q (.ref L) H := by
  obtain ⟨us, hl, r⟩ := h.at_
  exact Dl.land h.go hL h.wd h.gn h.mn hl r hn k
end
section
variable {Y : Yx} {ι ι1 : FI} {γ γ1 : FG} {α α1 : FT} {φ : FE} {vs vs1 : List Nat}
theorem simLc2 (m : Bool) {wi wi1 : TI} {g g1 : TG} {tt tt1 : TT} {te : TE} (si : SimI Y wi ι) (sg : SimG Y g γ) (og : OnlyG g vs) (st : SimT Y tt α) (si1 : SimI Y wi1 ι1) (sg1 : SimG Y g1 γ1) (og1 : OnlyG g1 vs1) (st1 : SimT Y tt1 α1) (se : SimE Y te φ) :
    SimE Y (tLc2 wi g tt wi1 g1 tt1 te vs vs1) (dLc2 m ι γ α ι1 γ1 α1 φ vs vs1) := by
  intro ρ M Kp G σ H Q a h k
  refine si ρ M _ G σ H _ a h fun items P M1 G1 H1 J e1 w1 run h1 => ?_
  intro L hL
  have a1 := a.step e1 w1
  refine ⟨fun i n H' => n = items.length - i ∧ i ≤ items.length ∧ ∃ acc M' G', Hid Y.X.K G1 M1 H1 L acc M' G' H' ∧ lcD2 P γ α ι1 γ1 α1 φ vs1 (wipeR ρ vs) (items.drop i) acc M' fun acc M2 => newL m acc M2 Kp,
    ⟨items.length, by simp, Nat.zero_le _, [], M1, G1, Hid.first w1 hL, by rw [List.drop_zero]; exact h1⟩, ?_⟩
  rintro i n H' ⟨rfl, hi, acc, M', G', hd', h'⟩
  by_cases hlt : i < items.length
  · rw [List.drop_eq_getElem_cons hlt] at h'
    obtain ⟨hp, h'⟩ := h'
    obtain ⟨hgo, hy⟩ := run.go i G' M' H' hlt hd'.go.ex hd'.wd hp
    refine .inr ⟨hgo, fun H2 => i + 1 ≤ items.length ∧ ∃ acc M' G', Hid Y.X.K G1 M1 H1 L acc M' G' H2 ∧ lcD2 P γ α ι1 γ1 α1 φ vs1 (wipeR ρ vs) (items.drop (i + 1)) acc M' fun acc M2 => newL m acc M2 Kp,
      fun H2 q => ⟨items.length - (i + 1), by omega, rfl, q⟩, fun x H2 yld => ?_⟩
    obtain ⟨d, G2, hd, e2, w2, r2⟩ := hy x H2 yld
    have ed : items[i] = d := by
      rw [List.getElem?_eq_getElem hlt] at hd
      exact Option.some.inj hd
    rw [ed] at h'
    have hd2 := hd'.step e2 w2
    have a2 : At Y G2 (wipeR ρ vs) M' (wipe σ vs) H2 := ⟨a1.go.trans hd2.go, w2, (a1.rr.mono hd2.go.ex).wipe vs⟩
    refine og x (wipe σ vs) H2 _ _ (fun σ3 H3 kp q => ⟨keeps_wipe kp, q⟩) ?_
    refine sg d x (wipeR ρ vs) M' _ G2 (wipe σ vs) H2 _ a2 r2 h' fun ρ3 M3 G3 σ3 H3 e3 w3 r3 h3 => ?_
    have a3 := a2.stepS e3 w3 r3
    have hd3 := hd2.step e3 w3
    refine st ρ3 M3 _ G3 σ3 H3 _ a3 h3 fun b M4 G4 H4 e4 w4 h4 => ?_
    have hd4 := hd3.step e4 w4
    have a4 := a3.step e4 w4
    cases b with
    | false => exact iteF ⟨hlt, acc, M4, G4, hd4, h4⟩
    | true =>
      refine iteT ?_
      refine si1 ρ3 M4 _ G4 σ3 H4 _ a4 h4 fun items1 P1 M5 G5 H5 J1 e5 w5 run1 h5 => ?_
      have hd5 := hd4.step e5 w5
      have a5 := a4.step e5 w5
      refine ⟨fun j n H' => n = items1.length - j ∧ j ≤ items1.length ∧ ∃ acc M' G', Ex G5 G' ∧ Hid Y.X.K G1 M1 H1 L acc M' G' H' ∧ lcD P1 γ1 α1 φ (wipeR ρ3 vs1) (items1.drop j) acc M' fun acc' M4 => lcD2 P γ α ι1 γ1 α1 φ vs1 (wipeR ρ vs) (items.drop (i + 1)) acc' M4 fun acc M2 => newL m acc M2 Kp,
        ⟨items1.length, by simp, Nat.zero_le _, acc, M5, G5, Ex.refl _, hd5, by rw [List.drop_zero]; exact h5⟩, ?_⟩
      rintro j n H6 ⟨rfl, hj, acc6, M6, G6, x6, hd6, h6⟩
      by_cases hlt1 : j < items1.length
      · rw [List.drop_eq_getElem_cons hlt1] at h6
        obtain ⟨hp1, h6⟩ := h6
        obtain ⟨hgo1, hy1⟩ := run1.go j G6 M6 H6 hlt1 x6 hd6.wd hp1
        refine .inr ⟨hgo1, fun H2 => j + 1 ≤ items1.length ∧ ∃ acc M' G', Ex G5 G' ∧ Hid Y.X.K G1 M1 H1 L acc M' G' H2 ∧ lcD P1 γ1 α1 φ (wipeR ρ3 vs1) (items1.drop (j + 1)) acc M' fun acc' M4 => lcD2 P γ α ι1 γ1 α1 φ vs1 (wipeR ρ vs) (items.drop (i + 1)) acc' M4 fun acc M2 => newL m acc M2 Kp,
          fun H2 q => ⟨items1.length - (j + 1), by omega, rfl, q⟩, fun x7 H7 yld7 => ?_⟩
        obtain ⟨d7, G7, hd7', e7, w7, r7⟩ := hy1 x7 H7 yld7
        have ed7 : items1[j] = d7 := by
          rw [List.getElem?_eq_getElem hlt1] at hd7'
          exact Option.some.inj hd7'
        rw [ed7] at h6
        have hd7 := hd6.step e7 w7
        have a7 : At Y G7 (wipeR ρ3 vs1) M6 (wipe σ3 vs1) H7 := ⟨a1.go.trans hd7.go, w7, (a5.rr.mono (x6.trans e7.ex)).wipe vs1⟩
        refine og1 x7 (wipe σ3 vs1) H7 _ _ (fun σ8 H8 kp q => ⟨keeps_wipe kp, q⟩) ?_
        refine sg1 d7 x7 (wipeR ρ3 vs1) M6 _ G7 (wipe σ3 vs1) H7 _ a7 r7 h6 fun ρ8 M8 G8 σ8 H8 e8 w8 r8 h8 => ?_
        have a8 := a7.stepS e8 w8 r8
        have hd8 := hd7.step e8 w8
        refine st1 ρ8 M8 _ G8 σ8 H8 _ a8 h8 fun b M9 G9 H9 e9 w9 h9 => ?_
        have hd9 := hd8.step e9 w9
        have x9 := ((x6.trans e7.ex).trans e8.ex).trans e9.ex
        cases b with
        | false => exact iteF ⟨hlt1, acc6, M9, G9, x9, hd9, h9⟩
        | true =>
          refine iteT ?_
          refine se ρ8 M9 _ G9 σ8 H9 _ (a8.step e9 w9) h9 fun y M10 G10 H10 v10 e10 w10 r10 h10 => ?_
          obtain ⟨us, hus, hlen, hd11⟩ := (hd9.step e10 w10).push hL r10
          exact ⟨us, hus, by rw [hlen]; exact h10.1, hlt1, acc6 ++ [y], M10, G10, x9.trans e10.ex, hd11, h10.2⟩
      · have e : j = items1.length := by omega
        subst e
        rw [List.drop_length] at h6
        obtain ⟨hp1, h6⟩ := h6
        exact .inl ⟨run1.stop G6 M6 H6 x6 hd6.wd hp1, hlt, acc6, M6, G6, hd6, h6⟩
  · have e : i = items.length := by omega
    subst e
    rw [List.drop_length] at h'
    obtain ⟨hp, h'⟩ := h'
    exact .inl ⟨run.stop G' M' H' hd'.go.ex hd'.wd hp, hd'.land hL h' (Kon.mono k e1)⟩
end
section
variable {Y : Yx} {pos spos : Pos} {elt tg iter tg1 iter1 : Expr} {ifs ifs1 : List Expr} {scope : Scope} {own : List (Str × Nat)} {ι ι1 : FI} {γ γ1 : FG} {α α1 : FT} {φ : FE} {vs1 : List Nat}
def de_lc2 (m : Bool) (hc : Y.X.calm = true) (hN : Y.X.N.Nodup) (hi : DI Y tg iter ι) (ok : BlkOk Y.X.N Y.X.env.scope scope own) (hv : ∀ i ∈ vs1, i ∈ own.map (·.2))
    (hg : Blk Y scope fun Z => DGo Z tg γ (own.map (·.2))) (ht : Blk Y scope fun Z => DTs Z ifs α) (hi1 : Blk Y scope fun Z => DI Z tg1 iter1 ι1) (hg1 : Blk Y scope fun Z => DGo Z tg1 γ1 vs1) (ht1 : Blk Y scope fun Z => DTs Z ifs1 α1) (he : Blk Y scope fun Z => DE Z elt φ)
    (ug : ∀ s H C cl fp, (hg s H C cl fp).t = (hg Y.X.s_0 Y.X.H_0 0 [] []).t := by intros; rfl) (ut : ∀ s H C cl fp, (ht s H C cl fp).t = (ht Y.X.s_0 Y.X.H_0 0 [] []).t := by intros; rfl) (ui : ∀ s H C cl fp, (hi1 s H C cl fp).wi = (hi1 Y.X.s_0 Y.X.H_0 0 [] []).wi := by intros; rfl)
    (ug1 : ∀ s H C cl fp, (hg1 s H C cl fp).t = (hg1 Y.X.s_0 Y.X.H_0 0 [] []).t := by intros; rfl) (ut1 : ∀ s H C cl fp, (ht1 s H C cl fp).t = (ht1 Y.X.s_0 Y.X.H_0 0 [] []).t := by intros; rfl)
    (ue : ∀ s H C cl fp, (he s H C cl fp).t = (he Y.X.s_0 Y.X.H_0 0 [] []).t := by intros; rfl) (hs : ∀ x, foldedSetIterable iter Y.X.env x = pure x := by intro _; rfl) (hs1 : ∀ env x, foldedSetIterable iter1 env x = pure x := by intro _ _; rfl) :
    DE Y (.ListComp elt [⟨tg, iter, ifs, 0⟩, ⟨tg1, iter1, ifs1, 0⟩] scope pos) (dLc2 m ι γ α ι1 γ1 α1 φ (own.map (·.2)) vs1) :=
  ⟨_, pe_lc2 hc hN hi.p ok hv (g := (hg Y.X.s_0 Y.X.H_0 0 [] []).t) (tt := (ht Y.X.s_0 Y.X.H_0 0 [] []).t) (wi1 := (hi1 Y.X.s_0 Y.X.H_0 0 [] []).wi) (g1 := (hg1 Y.X.s_0 Y.X.H_0 0 [] []).t) (tt1 := (ht1 Y.X.s_0 Y.X.H_0 0 [] []).t) (te := (he Y.X.s_0 Y.X.H_0 0 [] []).t) (fun s H C cl fp => by rw [← ug s H C cl fp]; exact (hg s H C cl fp).p) (fun s H C cl fp => by rw [← ut s H C cl fp]; exact (ht s H C cl fp).p) (fun s H C cl fp => by rw [← ui s H C cl fp]; exact (hi1 s H C cl fp).p) (fun s H C cl fp => by rw [← ug1 s H C cl fp]; exact (hg1 s H C cl fp).p) (fun s H C cl fp => by rw [← ut1 s H C cl fp]; exact (ht1 s H C cl fp).p) (fun s H C cl fp => by rw [← ue s H C cl fp]; exact (he s H C cl fp).p) hs hs1,
    simLc2 m hi.s (hg Y.X.s_0 Y.X.H_0 0 [] []).s.unblk (hg Y.X.s_0 Y.X.H_0 0 [] []).o (ht Y.X.s_0 Y.X.H_0 0 [] []).s.unblk (hi1 Y.X.s_0 Y.X.H_0 0 [] []).s.unblk (hg1 Y.X.s_0 Y.X.H_0 0 [] []).s.unblk (hg1 Y.X.s_0 Y.X.H_0 0 [] []).o (ht1 Y.X.s_0 Y.X.H_0 0 [] []).s.unblk (he Y.X.s_0 Y.X.H_0 0 [] []).s.unblk⟩
def ds_setLc2 (m : Bool) {i : Nat} {y : Str} {py : Pos} (hc : Y.X.calm = true) (hN : Y.X.N.Nodup) (hy : Y.X.N[i]? = some y) (hyl : Y.X.env.scope.names.lookup y = some .local)
    (hsw : swapsWith (.ListComp elt [⟨tg, iter, ifs, 0⟩, ⟨tg1, iter1, ifs1, 0⟩] scope pos) (some (.Name y py)) spos.line Y.X.env = pure true) (hi : DI Y tg iter ι) (ok : BlkOk Y.X.N Y.X.env.scope scope own) (hv : ∀ i ∈ vs1, i ∈ own.map (·.2))
    (hg : Blk Y scope fun Z => DGo Z tg γ (own.map (·.2))) (ht : Blk Y scope fun Z => DTs Z ifs α) (hi1 : Blk Y scope fun Z => DI Z tg1 iter1 ι1) (hg1 : Blk Y scope fun Z => DGo Z tg1 γ1 vs1) (ht1 : Blk Y scope fun Z => DTs Z ifs1 α1) (he : Blk Y scope fun Z => DE Z elt φ)
    (ug : ∀ s H C cl fp, (hg s H C cl fp).t = (hg Y.X.s_0 Y.X.H_0 0 [] []).t := by intros; rfl) (ut : ∀ s H C cl fp, (ht s H C cl fp).t = (ht Y.X.s_0 Y.X.H_0 0 [] []).t := by intros; rfl) (ui : ∀ s H C cl fp, (hi1 s H C cl fp).wi = (hi1 Y.X.s_0 Y.X.H_0 0 [] []).wi := by intros; rfl)
    (ug1 : ∀ s H C cl fp, (hg1 s H C cl fp).t = (hg1 Y.X.s_0 Y.X.H_0 0 [] []).t := by intros; rfl) (ut1 : ∀ s H C cl fp, (ht1 s H C cl fp).t = (ht1 Y.X.s_0 Y.X.H_0 0 [] []).t := by intros; rfl)
    (ue : ∀ s H C cl fp, (he s H C cl fp).t = (he Y.X.s_0 Y.X.H_0 0 [] []).t := by intros; rfl) (hs : ∀ x, foldedSetIterable iter Y.X.env x = pure x := by intro _; rfl) (hs1 : ∀ env x, foldedSetIterable iter1 env x = pure x := by intro _ _; rfl) :
    DS Y (.Assign [.Name y py] (.ListComp elt [⟨tg, iter, ifs, 0⟩, ⟨tg1, iter1, ifs1, 0⟩] scope pos) spos) (dAsg (dLc2 m ι γ α ι1 γ1 α1 φ (own.map (·.2)) vs1) (dName i)) :=
  ⟨_, ps_setLc2 hc hN hy hyl hsw hi.p ok hv (g := (hg Y.X.s_0 Y.X.H_0 0 [] []).t) (tt := (ht Y.X.s_0 Y.X.H_0 0 [] []).t) (wi1 := (hi1 Y.X.s_0 Y.X.H_0 0 [] []).wi) (g1 := (hg1 Y.X.s_0 Y.X.H_0 0 [] []).t) (tt1 := (ht1 Y.X.s_0 Y.X.H_0 0 [] []).t) (te := (he Y.X.s_0 Y.X.H_0 0 [] []).t) (fun s H C cl fp => by rw [← ug s H C cl fp]; exact (hg s H C cl fp).p) (fun s H C cl fp => by rw [← ut s H C cl fp]; exact (ht s H C cl fp).p) (fun s H C cl fp => by rw [← ui s H C cl fp]; exact (hi1 s H C cl fp).p) (fun s H C cl fp => by rw [← ug1 s H C cl fp]; exact (hg1 s H C cl fp).p) (fun s H C cl fp => by rw [← ut1 s H C cl fp]; exact (ht1 s H C cl fp).p) (fun s H C cl fp => by rw [← ue s H C cl fp]; exact (he s H C cl fp).p) hs hs1,
    simAsg (simLc2 m hi.s (hg Y.X.s_0 Y.X.H_0 0 [] []).s.unblk (hg Y.X.s_0 Y.X.H_0 0 [] []).o (ht Y.X.s_0 Y.X.H_0 0 [] []).s.unblk (hi1 Y.X.s_0 Y.X.H_0 0 [] []).s.unblk (hg1 Y.X.s_0 Y.X.H_0 0 [] []).s.unblk (hg1 Y.X.s_0 Y.X.H_0 0 [] []).o (ht1 Y.X.s_0 Y.X.H_0 0 [] []).s.unblk (he Y.X.s_0 Y.X.H_0 0 [] []).s.unblk) (simName i)⟩
end
end Dl
end
noncomputable section
namespace Dl
open PySem PySem.Spec PyProof.Rows L2 Evl
/-! ### is True, is False -/
def δIsB (neg : Bool) : F2 := fun x y M Kp => match x with
  | .bl a => (match y with | .bl b => Kp (nB neg (decide (a = b))) M | _ => False)
  | _ => False
theorem lift_isB {K : PySem.W.Frag} : Lift2 K (fun x y H Q => ∃ a b : Bool, x = .bl a ∧ y = .bl b ∧ Q (.bl (decide (a = b))) H) (δIsB false) := by
  intro x y M Kp G H vx vy Q w rx ry h k
  unfold δIsB at h
  split at h
  · split at h
    · cases rx; cases ry
      exact ⟨_, _, rfl, rfl, k _ M G H _ (Go.refl _ _ _) w (.bl _) h⟩
    · exact h.elim
  · exact h.elim
theorem lift_notB {K : PySem.W.Frag} : Lift2 K (fun x y H Q => ∃ a b : Bool, x = .bl a ∧ y = .bl b ∧ Q (.bl (!decide (a = b))) H) (δIsB true) := by
  intro x y M Kp G H vx vy Q w rx ry h k
  unfold δIsB at h
  split at h
  · split at h
    · cases rx; cases ry
      exact ⟨_, _, rfl, rfl, k _ M G H _ (Go.refl _ _ _) w (.bl _) h⟩
    · exact h.elim
  · exact h.elim
/-! ### a text, a list, some times -/
def repS (x : Str) (n : Nat) : Str := ⟨(List.replicate n x.cps.toList).flatten.toArray⟩
def rRepS : R2 := fun x y H Q => ∃ (i : Str) (k : Int), x = .str i ∧ y = .int k ∧ 2 ≤ k ∧ k ≤ 1000 ∧ 1 ≤ i.length ∧ i.length ≤ 1000 ∧ Q (.str (repS i k.toNat)) H
theorem fold_arr (a : Array Nat) : ∀ (n : Nat) (b : Array Nat), (List.replicate n a).foldl (· ++ ·) b = b ++ (List.replicate n a.toList).flatten.toArray
  | 0, b => by simp
  | n + 1, b => by
    rw [List.replicate_succ, List.foldl_cons, fold_arr a n, List.replicate_succ, List.flatten_cons, Array.append_assoc]
    congr 1
    apply Array.ext'
    simp
theorem op_repS {X : Cx} : OpR X (binaryOp .Mult) rRepS := by
  intro pins s σ H x y v u Q I rx ry h
  obtain ⟨i, k, rfl, rfl, h1, h2, h3, h4, q⟩ := h
  obtain ⟨t, rfl⟩ := rx
  obtain ⟨t', rfl⟩ := ry
  have hp : ¬ k < 1 := by omega
  have hq : (k == 1 || i.length == 0) = false := by
    have a1 : (k == 1) = false := by rw [beq_eq_false_iff_ne]; omega
    have a2 : (i.length == 0) = false := by rw [beq_eq_false_iff_ne]; omega
    rw [a1, a2]; rfl
  refine PySem.P.mul_str (x := i) ?_ (fun _ _ => ?_) (fun _ _ => ?_) ?_
  · rw [decide_eq_false (by omega), decide_eq_false (by omega)]; rfl
  · have : (2 ^ 63 - 1 : Int) / 1000 ≤ (2 ^ 63 - 1) / k := by
      refine (Int.le_ediv_iff_mul_le (by omega)).mpr ?_
      calc (2 ^ 63 - 1 : Int) / 1000 * k ≤ (2 ^ 63 - 1) / 1000 * 1000 := Int.mul_le_mul_of_nonneg_left h2 (by decide)
        _ ≤ _ := by decide
    have h0 : (1000 : Int) ≤ (2 ^ 63 - 1) / 1000 := by decide
    omega
  · have h5 : i.length * k.toNat ≤ 1000 * 1000 := Nat.mul_le_mul h4 (by omega)
    unfold Builtin.Str.tooLong
    exact decide_eq_false (by unfold sizeLine; omega)
  · rw [if_neg hp, hq, fold_arr]
    have e : (#[] : Array Nat) ++ (List.replicate k.toNat i.cps.toList).flatten.toArray = (List.replicate k.toNat i.cps.toList).flatten.toArray := by simp
    rw [e]
    rw [if_neg Bool.false_ne_true]
    refine ⟨?_, .str (repS i k.toNat), H, I.tok _, ⟨_, rfl⟩, q⟩
    have hl : (List.replicate k.toNat i.cps.toList).flatten.length = k.toNat * i.length := by
      rw [List.length_flatten, List.map_replicate, List.sum_replicate_nat]
      rfl
    have h5 : k.toNat * i.length ≤ 1000 * 1000 := Nat.mul_le_mul (by omega) h4
    show (List.replicate k.toNat i.cps.toList).flatten.toArray.size ≤ _
    rw [List.size_toArray, hl]
    unfold sizeLine
    omega
def δRep (m : Bool) : F2 := fun x y M Kp => match y with
  | .int k => (match x with
    | .str i => 2 ≤ k ∧ k ≤ 1000 ∧ 1 ≤ i.length ∧ i.length ≤ 1000 ∧ Kp (.str (repS i k.toNat)) M
    | x => ∃ ds, viewL M x = some ds ∧ -(2 ^ 63) ≤ k ∧ k < 2 ^ 63 ∧ ds.length * k.toNat ≤ sizeLine ∧ newL m (List.replicate k.toNat ds).flatten M Kp)
  | _ => False
theorem lift_rep {K : PySem.W.Frag} (m : Bool) : Lift2 K (fun x y H Q => rRepS x y H Q ∨ rRep x y H Q) (δRep m) := by
  intro x y M Kp G H vx vy Q w rx ry h k
  cases y with
  | int z =>
    have viaL : (∃ ds, viewL M x = some ds ∧ -(2 ^ 63) ≤ z ∧ z < 2 ^ 63 ∧ ds.length * z.toNat ≤ sizeLine ∧ newL m (List.replicate z.toNat ds).flatten M Kp) → rRepS vx vy H Q ∨ rRep vx vy H Q := by
      rintro ⟨ds, hv, h1, h2, h3, h⟩
      obtain ⟨a, us, rfl, hu, r2⟩ := w.viewL rx hv
      cases ry
      have rr : ∀ n : Nat, Reps K G (List.replicate n ds).flatten (List.replicate n us).flatten := by
        intro n
        induction n with
        | zero => exact .nil
        | succ n ih => rw [List.replicate_succ, List.flatten_cons, List.replicate_succ, List.flatten_cons]; exact r2.append ih
      exact .inr ⟨a, z, us, rfl, rfl, hu, h1, h2, by rw [← r2.length]; exact h3, fun p hp => newL_ok w hp (rr _) h k⟩
    cases x with
    | str i =>
      obtain ⟨h1, h2, h3, h4, h⟩ := h
      cases rx; cases ry
      exact .inl ⟨i, z, rfl, rfl, h1, h2, h3, h4, k _ M G H _ (Go.refl _ _ _) w (.str _) h⟩
    | _ => exact viaL h
  | _ => exact h.elim
theorem op_rep2 {X : Cx} : OpR X (binaryOp .Mult) (fun x y H Q => rRepS x y H Q ∨ rRep x y H Q) := op_repS.or op_rep
section
variable {Y : Yx} {pos : Pos} {a b : Expr} {φ ψ : FE}
def de_rep (m : Bool) (ha : DE Y a φ) (hb : DE Y b ψ) : DE Y (.BinOp a .Mult b pos) (dOp (δRep m) φ ψ) := de_op op_rep2 (lift_rep m) ha hb
end
end Dl
end
noncomputable section
namespace Dl
open PySem PySem.Spec PyProof.Rows L2 Evl
/-! ### the rules as the printer wants them -/
section
variable {Y : Yx} {pos p : Pos} {a b e : Expr} {es : List Expr} {φ ψ χ : FE} {η : FA} {α : FT}
/-- a call's plain arguments -/
structure Plain1 (Y : Yx) (pos : Pos) (e : Expr) (es : List Expr) : Prop where
  he : starEach (e :: es) Y.X.env = (false, eval e Y.X.env) :: starEach es Y.X.env
  hp : (backTo pos (starEach es Y.X.env)).any (·.1) = false
def de_len (hm : Y.X.mg "len" = none) (ha : DA Y (e :: es) η) (hp : Plain1 Y pos e es := by exact ⟨rfl, rfl⟩) (hg : Gl Y.X "len" := by rfl) : DE Y (.Call (.Name "len" p) (e :: es) [] pos) (dCB δLen η) :=
  de_callB call_len lift_len hg hm boot_len ha (he := hp.he) (hpl := hp.hp)
theorem boot_abs1 : bootBuiltins "abs" = some (.builtin "abs") := by decide +kernel
theorem boot_all1 : bootBuiltins "all" = some (.builtin "all") := by decide +kernel
theorem boot_sum1 : bootBuiltins "sum" = some (.builtin "sum") := by decide +kernel
theorem boot_max1 : bootBuiltins "max" = some (.builtin "max") := by decide +kernel
theorem boot_min1 : bootBuiltins "min" = some (.builtin "min") := by decide +kernel
theorem boot_int1 : bootBuiltins "int" = some (.type "int") := by decide +kernel
theorem boot_list1 : bootBuiltins "list" = some (.type "list") := by decide +kernel
theorem boot_tuple1 : bootBuiltins "tuple" = some (.type "tuple") := by decide +kernel
def de_abs (hm : Y.X.mg "abs" = none) (ha : DA Y (e :: es) η) (hp : Plain1 Y pos e es := by exact ⟨rfl, rfl⟩) (hg : Gl Y.X "abs" := by rfl) : DE Y (.Call (.Name "abs" p) (e :: es) [] pos) (dCB δAbs η) :=
  de_callB call_abs lift_abs hg hm boot_abs1 ha (he := hp.he) (hpl := hp.hp)
def de_max2 (hm : Y.X.mg "max" = none) (ha : DA Y (e :: es) η) (hp : Plain1 Y pos e es := by exact ⟨rfl, rfl⟩) (hg : Gl Y.X "max" := by rfl) (hc : Y.X.calm = true := by rfl) : DE Y (.Call (.Name "max" p) (e :: es) [] pos) (dCB δMax2 η) :=
  de_callB (call_max2 hc) lift_max2 hg hm boot_max1 ha (he := hp.he) (hpl := hp.hp)
def de_min2 (hm : Y.X.mg "min" = none) (ha : DA Y (e :: es) η) (hp : Plain1 Y pos e es := by exact ⟨rfl, rfl⟩) (hg : Gl Y.X "min" := by rfl) (hc : Y.X.calm = true := by rfl) : DE Y (.Call (.Name "min" p) (e :: es) [] pos) (dCB δMin2 η) :=
  de_callB (call_min2 hc) lift_min2 hg hm boot_min1 ha (he := hp.he) (hpl := hp.hp)
def de_maxL (hm : Y.X.mg "max" = none) (ha : DA Y (e :: es) η) (hp : Plain1 Y pos e es := by exact ⟨rfl, rfl⟩) (hg : Gl Y.X "max" := by rfl) (hc : Y.X.calm = true := by rfl) : DE Y (.Call (.Name "max" p) (e :: es) [] pos) (dCB δMaxL η) :=
  de_callB (cr_max hc) lift_maxL hg hm boot_max1 ha (he := hp.he) (hpl := hp.hp)
def de_minL (hm : Y.X.mg "min" = none) (ha : DA Y (e :: es) η) (hp : Plain1 Y pos e es := by exact ⟨rfl, rfl⟩) (hg : Gl Y.X "min" := by rfl) (hc : Y.X.calm = true := by rfl) : DE Y (.Call (.Name "min" p) (e :: es) [] pos) (dCB δMinL η) :=
  de_callB (cr_min hc) lift_minL hg hm boot_min1 ha (he := hp.he) (hpl := hp.hp)
def de_all (hm : Y.X.mg "all" = none) (ha : DA Y (e :: es) η) (hp : Plain1 Y pos e es := by exact ⟨rfl, rfl⟩) (hg : Gl Y.X "all" := by rfl) (hc : Y.X.calm = true := by rfl) : DE Y (.Call (.Name "all" p) (e :: es) [] pos) (dCB δAll η) :=
  de_callB (cr_all hc) lift_all hg hm boot_all1 ha (he := hp.he) (hpl := hp.hp)
def de_sum (hm : Y.X.mg "sum" = none) (ha : DA Y (e :: es) η) (hp : Plain1 Y pos e es := by exact ⟨rfl, rfl⟩) (hg : Gl Y.X "sum" := by rfl) (hc : Y.X.calm = true := by rfl) : DE Y (.Call (.Name "sum" p) (e :: es) [] pos) (dCB δSum η) :=
  de_callB (cr_sum hc) lift_sum hg hm boot_sum1 ha (he := hp.he) (hpl := hp.hp)
def de_intof (hm : Y.X.mg "int" = none) (ha : DA Y (e :: es) η) (hp : Plain1 Y pos e es := by exact ⟨rfl, rfl⟩) (hg : Gl Y.X "int" := by rfl) : DE Y (.Call (.Name "int" p) (e :: es) [] pos) (dCB δInt η) :=
  de_callTy call_int1 lift_int hg hm boot_int1 ha (he := hp.he) (hpl := hp.hp)
def de_listof (m : Bool) (hm : Y.X.mg "list" = none) (ha : DA Y (e :: es) η) (hp : Plain1 Y pos e es := by exact ⟨rfl, rfl⟩) (hg : Gl Y.X "list" := by rfl) : DE Y (.Call (.Name "list" p) (e :: es) [] pos) (dCB (δList m) η) :=
  de_callTy call_list_of (lift_list m) hg hm boot_list1 ha (he := hp.he) (hpl := hp.hp)
def de_listofD (m : Bool) (hm : Y.X.mg "list" = none) (ha : DA Y (e :: es) η) (hp : Plain1 Y pos e es := by exact ⟨rfl, rfl⟩) (hg : Gl Y.X "list" := by rfl) (hc : Y.X.calm = true := by rfl) : DE Y (.Call (.Name "list" p) (e :: es) [] pos) (dCB (δListDT m) η) :=
  de_callTy (call_list_dT hc) (lift_listDT m) hg hm boot_list1 ha (he := hp.he) (hpl := hp.hp)
def de_tupleof (hm : Y.X.mg "tuple" = none) (ha : DA Y (e :: es) η) (hp : Plain1 Y pos e es := by exact ⟨rfl, rfl⟩) (hg : Gl Y.X "tuple" := by rfl) : DE Y (.Call (.Name "tuple" p) (e :: es) [] pos) (dCB δTuple η) :=
  de_callTy call_tuple_of lift_tuple hg hm boot_tuple1 ha (he := hp.he) (hpl := hp.hp)
/-! comparisons -/
def de_lt (ha : DE Y a φ) (hb : DE Y b ψ) (hm : behindInMarks .Lt b = false := by rfl) : DE Y (.Compare a [.Lt] [b] pos) (dOp δLt φ ψ) := de_cmp (op_lt.or op_lt_str) lift_ord ha hb hm
def de_le (ha : DE Y a φ) (hb : DE Y b ψ) (hm : behindInMarks .LtE b = false := by rfl) : DE Y (.Compare a [.LtE] [b] pos) (dOp δLe φ ψ) := de_cmp (op_le.or op_le_str) lift_ord ha hb hm
def de_gt (ha : DE Y a φ) (hb : DE Y b ψ) (hm : behindInMarks .Gt b = false := by rfl) : DE Y (.Compare a [.Gt] [b] pos) (dOp δGt φ ψ) := de_cmp (op_gt.or op_gt_str) lift_ord ha hb hm
def de_ge (ha : DE Y a φ) (hb : DE Y b ψ) (hm : behindInMarks .GtE b = false := by rfl) : DE Y (.Compare a [.GtE] [b] pos) (dOp δGe φ ψ) := de_cmp (op_ge.or op_ge_str) lift_ord ha hb hm
end
end Dl
end
noncomputable section
namespace Dl
open PySem PySem.Spec PyProof.Rows L2 Evl Classical
/-! ### texts as lists of signs -/
def T (l : List Nat) : Str := ⟨l.toArray⟩
theorem T_eta (x : Str) : x = T x.cps.toList := by
  obtain ⟨a⟩ := x
  show (⟨a⟩ : Str) = ⟨a.toList.toArray⟩
  rw [Array.toArray_toList]
theorem T_cps (l : List Nat) : (T l).cps.toList = l := rfl
theorem T_len (l : List Nat) : (T l).length = l.length := by show l.toArray.size = _; rw [List.size_toArray]
theorem T_inj {a b : List Nat} : T a = T b ↔ a = b := ⟨fun h => by have := congrArg (fun x : Str => x.cps.toList) h; exact this, fun h => h ▸ rfl⟩
theorem T_dec (a b : List Nat) : decide (T a = T b) = decide (a = b) := by rw [decide_eq_decide]; exact T_inj
theorem T_app (a b : List Nat) : T a ++ T b = T (a ++ b) := by
  show (⟨a.toArray ++ b.toArray⟩ : Str) = ⟨(a ++ b).toArray⟩
  rw [List.append_toArray]
theorem signs_T (l : List Nat) : signsD (T l) = l.map fun c => .str (T [c]) := rfl
/-- what a slice takes -/
def cutL {α : Type} (l : List α) (lo hi : Option Int) : List α := (l.drop (HT.sIx l.length 0 lo)).take (HT.sIx l.length l.length hi - HT.sIx l.length 0 lo)
theorem cut_T (l : List Nat) (lo hi : Option Int) : cutS (T l) lo hi = T (cutL l lo hi) := by
  unfold cutS cutL
  rw [T_len] <;> rfl
theorem cutD_L (l : List D) (lo hi : Option Int) : cutD l lo hi = cutL l lo hi := rfl
theorem cutL_map {α β : Type} (f : α → β) (l : List α) (lo hi : Option Int) : cutL (l.map f) lo hi = (cutL l lo hi).map f := by
  unfold cutL
  rw [List.length_map, List.map_take, List.map_drop]
theorem rep_T (l : List Nat) (n : Nat) : repS (T l) n = T (List.replicate n l).flatten := rfl
theorem in_T1 (c : Nat) (l : List Nat) : inS (T [c]) (T l) = decide (c ∈ l) := StrLaws.found_one (T l) c
theorem sub_T (x y : List Nat) (i : Nat) : Builtin.Str.subAt (T x) (T y) i = true ↔ (x.drop i).take y.length = y := by
  rw [StrLaws.subAt_eq, T_len, T_cps, T_cps, beq_iff_eq]
/-- x in y -/
def inT (x y : List Nat) : Bool := decide (∃ i, i + x.length ≤ y.length ∧ (y.drop i).take x.length = x)
theorem in_T (x y : List Nat) : inS (T x) (T y) = inT x y := by
  unfold inS inT
  rw [Bool.eq_iff_iff, StrLaws.found_iff, decide_eq_true_eq]
  simp only [T_len, sub_T]
theorem atI_T (l : List Nat) (i : Int) : atI (T l).cps.toList i = atI l i := rfl
/-- texts joined -/
def joinT (s : List Nat) : List (List Nat) → List Nat
  | [] => []
  | [x] => x
  | x :: y :: r => x ++ s ++ joinT s (y :: r)
theorem join_T0 (s : List Nat) : ∀ ls : List (List Nat), Str.join (T s) (ls.map T) = T (joinT s ls)
  | [] => rfl
  | [x] => rfl
  | x :: y :: r => by
    have h : Str.join (T s) ((x :: y :: r).map T) = T x ++ T s ++ Str.join (T s) ((y :: r).map T) := rfl
    rw [h, join_T0 s (y :: r), T_app, T_app, joinT, List.append_assoc]
theorem join_T (s : List Nat) (ls : List (List Nat)) : Txt.join (T s) (ls.map T) = T (joinT s ls) := (StrLaws.glued_eq_join _ _).trans (join_T0 s ls)
theorem joinT_nil : ∀ ls : List (List Nat), joinT [] ls = ls.flatten
  | [] => rfl
  | [x] => by simp [joinT]
  | x :: y :: r => by rw [joinT, joinT_nil (y :: r)]; simp
/-! ### keywords that name the last parameters in their order -/
section
variable {K : PySem.W.Frag} {x qual : Str} {params : Arguments} {body : List Stmt} {scope : Scope} {f : Addr} {fd : FuncData} {ps ks : List Str} {n : Nat}
theorem kbN (F : FunD K x qual params body scope [] [] f fd)
    (h : ∀ (kV doc pm : Value) (an : Option Addr) (cdv ct : Value) (us ws : List Value), us.length = n → ws.length = ks.length → bindArgs (PySem.W.fnOf x qual params body scope .none kV doc pm an cdv ct) ⟨us, ks.zip ws⟩ = pure (ps.zip (us ++ ws))) : KB K fd ps n ks := by
  obtain ⟨_, _, _, kV, doc, pm, an, cdv, ct, _, rfl, _, _, hD, _⟩ := F.ex
  rcases hD with ⟨_, rfl⟩ | ⟨e, _⟩
  · exact ⟨fun s us ws _ h1 h2 => .of_eq (h kV doc pm an cdv ct us ws h1 h2), fun r z => r.append z⟩
  · exact absurd rfl e
end
end Dl
end
noncomputable section
namespace Dl
open PySem PySem.Spec PyProof.Rows L2 Evl
/-! ### loops, by what holds at each turn -/
theorem forD_inv {P : Mem → Prop} {γ : FG} {β : FSt} {KK : KS} (I : Nat → Rho → Mem → Prop) : ∀ (items : List D) (n : Nat) (ρ : Rho) (M : Mem), I n ρ M →
    (∀ i x ρ M (Nx : Rho → Mem → Prop), items[i]? = some x → I (n + i) ρ M → (∀ ρ' M', I (n + i + 1) ρ' M' → Nx ρ' M') → P M ∧ γ x ρ M fun ρ1 M1 => β { KK with nx := Nx, ct := Nx, bk := KK.nx } ρ1 M1) →
    (∀ ρ M, I (n + items.length) ρ M → P M ∧ KK.nx ρ M) → forD P γ β KK items ρ M
  | [], n, ρ, M, h, _, hE => hE ρ M h
  | x :: xs, n, ρ, M, h, hS, hE => hS 0 x ρ M _ rfl h fun ρ' M' h' => forD_inv I xs (n + 1) ρ' M' h' (fun i y ρ M Nx hy hI hN => hS (i + 1) y ρ M Nx hy (by rw [show n + (i + 1) = n + 1 + i by omega]; exact hI) fun ρ' M' h => hN ρ' M' (by rw [show n + 1 + i + 1 = n + (i + 1) + 1 by omega]; exact h))
      fun ρ M h => hE ρ M (by rw [List.length_cons, show n + (xs.length + 1) = n + 1 + xs.length by omega]; exact h)
theorem for_inv {P : Mem → Prop} {γ : FG} {β : FSt} {KK : KS} (I : Nat → Rho → Mem → Prop) {items : List D} {ρ : Rho} {M : Mem} (h0 : I 0 ρ M)
    (hS : ∀ i x ρ M (Nx : Rho → Mem → Prop), items[i]? = some x → I i ρ M → (∀ ρ' M', I (i + 1) ρ' M' → Nx ρ' M') → P M ∧ γ x ρ M fun ρ1 M1 => β { KK with nx := Nx, ct := Nx, bk := KK.nx } ρ1 M1)
    (hE : ∀ ρ M, I items.length ρ M → P M ∧ KK.nx ρ M) : forD P γ β KK items ρ M :=
  forD_inv I items 0 ρ M h0 (fun i x ρ M Nx hx hI hN => hS i x ρ M Nx hx (by rw [Nat.zero_add] at hI; exact hI) fun ρ' M' h => hN ρ' M' (by rw [Nat.zero_add]; exact h)) fun ρ M h => hE ρ M (by rw [Nat.zero_add] at h; exact h)
theorem lcD_inv {P : Mem → Prop} {γ : FG} {α : FT} {φ : FE} {ρ : Rho} {Kp : List D → Mem → Prop} (I : Nat → List D → Mem → Prop) : ∀ (items : List D) (n : Nat) (acc : List D) (M : Mem), I n acc M →
    (∀ i x acc M (Q : D → Mem → Prop) (R : Mem → Prop), items[i]? = some x → I (n + i) acc M → (∀ d M', I (n + i + 1) (acc ++ [d]) M' → Q d M') → (∀ M', I (n + i + 1) acc M' → R M') →
      P M ∧ acc.length < sizeLine ∧ γ x ρ M fun ρ1 M1 => α ρ1 M1 fun b M2 => match b with | true => φ ρ1 M2 Q | false => R M2) →
    (∀ acc M, I (n + items.length) acc M → P M ∧ Kp acc M) → lcD P γ α φ ρ items acc M Kp
  | [], n, acc, M, h, _, hE => hE acc M h
  | x :: xs, n, acc, M, h, hS, hE => by
    have go : ∀ acc' M', I (n + 0 + 1) acc' M' → lcD P γ α φ ρ xs acc' M' Kp := fun acc' M' h' => lcD_inv I xs (n + 1) acc' M' h' (fun i y acc M Q R hy hI hQ hR => hS (i + 1) y acc M Q R hy (by rw [show n + (i + 1) = n + 1 + i by omega]; exact hI)
        (fun d M' h => hQ d M' (by rw [show n + 1 + i + 1 = n + (i + 1) + 1 by omega]; exact h)) fun M' h => hR M' (by rw [show n + 1 + i + 1 = n + (i + 1) + 1 by omega]; exact h))
      fun acc M h => hE acc M (by rw [List.length_cons, show n + (xs.length + 1) = n + 1 + xs.length by omega]; exact h)
    have hl : acc.length < sizeLine := (hS 0 x acc M (fun _ _ => True) (fun _ => True) rfl h (fun _ _ _ => trivial) fun _ _ => trivial).2.1
    obtain ⟨h1, _, h2⟩ := hS 0 x acc M (fun d M3 => acc.length < sizeLine ∧ lcD P γ α φ ρ xs (acc ++ [d]) M3 Kp) (fun M2 => lcD P γ α φ ρ xs acc M2 Kp) rfl h (fun d M' h' => ⟨hl, go _ _ h'⟩) fun M' h' => go _ _ h'
    exact ⟨h1, h2⟩
theorem lc_inv {P : Mem → Prop} {γ : FG} {α : FT} {φ : FE} {ρ : Rho} {Kp : List D → Mem → Prop} (I : Nat → List D → Mem → Prop) {items acc : List D} {M : Mem} (h0 : I 0 acc M)
    (hS : ∀ i x acc M (Q : D → Mem → Prop) (R : Mem → Prop), items[i]? = some x → I i acc M → (∀ d M', I (i + 1) (acc ++ [d]) M' → Q d M') → (∀ M', I (i + 1) acc M' → R M') →
      P M ∧ acc.length < sizeLine ∧ γ x ρ M fun ρ1 M1 => α ρ1 M1 fun b M2 => match b with | true => φ ρ1 M2 Q | false => R M2)
    (hE : ∀ acc M, I items.length acc M → P M ∧ Kp acc M) : lcD P γ α φ ρ items acc M Kp :=
  lcD_inv I items 0 acc M h0 (fun i x acc M Q R hx hI hQ hR => hS i x acc M Q R hx (by rw [Nat.zero_add] at hI; exact hI) (fun d M' h => hQ d M' (by rw [Nat.zero_add]; exact h)) fun M' h => hR M' (by rw [Nat.zero_add]; exact h)) fun acc M h => hE acc M (by rw [Nat.zero_add] at h; exact h)
/-- every item gives its value, nothing is changed -/
theorem lc_map {P : Mem → Prop} {γ : FG} {α : FT} {φ : FE} {ρ : Rho} {Kp : List D → Mem → Prop} (f : D → D) (p : D → Bool) {M : Mem} (hP : P M) : ∀ (items acc : List D), acc.length + items.length ≤ sizeLine →
    (∀ x ∈ items, ∀ (Q : D → Mem → Prop) (R : Mem → Prop), (p x = true → Q (f x) M) → (p x = false → R M) → γ x ρ M fun ρ1 M1 => α ρ1 M1 fun b M2 => match b with | true => φ ρ1 M2 Q | false => R M2) →
    Kp (acc ++ (items.filter p).map f) M → lcD P γ α φ ρ items acc M Kp
  | [], acc, _, _, h => ⟨hP, by rw [List.filter_nil, List.map_nil, List.append_nil] at h; exact h⟩
  | x :: xs, acc, hl, hx, h => by
    rw [List.length_cons] at hl
    refine ⟨hP, hx x (List.mem_cons_self ..) _ _ (fun hp => ⟨by omega, lc_map f p hP xs _ (by rw [List.length_append]; simp; omega) (fun y hy => hx y (List.mem_cons_of_mem _ hy)) ?_⟩) fun hp => lc_map f p hP xs _ (by omega) (fun y hy => hx y (List.mem_cons_of_mem _ hy)) ?_⟩
    · rw [List.filter_cons_of_pos hp, List.map_cons] at h
      simpa using h
    · rw [List.filter_cons_of_neg (by simp [hp])] at h
      exact h
theorem filter_yes {α : Type} (l : List α) : l.filter (fun _ => true) = l := by induction l with | nil => rfl | cons x xs ih => rw [List.filter_cons_of_pos rfl, ih]
theorem lc_map1 {P : Mem → Prop} {γ : FG} {φ : FE} {ρ : Rho} {Kp : List D → Mem → Prop} (f : D → D) {items : List D} {M : Mem} (hP : P M) (hl : items.length ≤ sizeLine)
    (hx : ∀ x ∈ items, ∀ (Q : D → Mem → Prop), Q (f x) M → γ x ρ M fun ρ1 M1 => φ ρ1 M1 Q) (h : Kp (items.map f) M) : lcD P γ dYes φ ρ items [] M Kp :=
  lc_map f (fun _ => true) hP items [] (by simpa using hl) (fun x hx' Q R hQ _ => hx x hx' Q (hQ rfl)) (by rw [filter_yes]; exact h)
/-! ### stores that hold more -/
def Ext (M M' : Mem) : Prop := ∀ a mo, M a = some mo → M' a = some mo
theorem Ext.refl (M : Mem) : Ext M M := fun _ _ h => h
theorem Ext.trans {A B C : Mem} (h : Ext A B) (k : Ext B C) : Ext A C := fun a mo e => k a mo (h a mo e)
theorem Ext.new {M M' : Mem} (h : Ext M M') {p : Addr} {o : MO} (hp : M p = none) : Ext M (updM M' p o) := fun a mo e => by
  rw [updM_ne (neM e hp)]
  exact h a mo e
theorem Ext.none {M M' : Mem} (h : Ext M M') {p : Addr} (hp : M' p = none) : M p = none := by
  cases e : M p with
  | none => rfl
  | some mo => rw [h p mo e] at hp; cases hp
theorem Ext.put {M M' : Mem} {p : Addr} {o o' : MO} (h : Ext (updM M p o) M') : Ext (updM M p o') (updM M' p o') := fun a mo e => by
  by_cases z : a = p
  · subst z; rw [updM_same] at e ⊢; exact e
  · rw [updM_ne z] at e ⊢
    exact h a mo (by rw [updM_ne z]; exact e)
theorem Ext.at_ {M M' : Mem} {p : Addr} {o : MO} (h : Ext (updM M p o) M') : M' p = some o := h p o updM_same
theorem kSet_ext {Kp : KD} {d : D} {M M2 : Mem} (hm : Ext M2 M) (h : Kp d M2) : kSet Kp d M := kSet_less hm h
/-! ### the pool of a law -/
def PlO (n : Nat) (o : MO) : Prop := ∃ a b c : Int, o = .lst [.int a, .int b, .int c] ∧ 0 ≤ b ∧ b ≤ 2 ^ 62 ∧ 0 ≤ c ∧ c ≤ n
theorem PlO.mono {n m : Nat} {o : MO} (h : PlO n o) (hn : n ≤ m) : PlO m o := by
  obtain ⟨a, b, c, e, h1, h2, h3, h4⟩ := h
  exact ⟨a, b, c, e, h1, h2, h3, by omega⟩
end Dl
namespace Dl
open PySem PySem.Spec PyProof.Rows L2 Evl
theorem iterE_view {d : D} {ds : List D} {M : Mem} {Kp : List D → (Mem → Prop) → Mem → Prop} (h : viewL M d = some ds) (k : ∀ P : Mem → Prop, (∀ M', Ext M M' → P M') → Kp (enumD ds) P M) : iterE d M Kp := by
  unfold viewL at h
  split at h
  · cases h; exact k yes fun _ _ => trivial
  · split at h
    · rename_i hm; cases h; exact ⟨_, hm, k _ fun M' e => e _ _ hm⟩
    · cases h
  · cases h
theorem iterL_view {d : D} {ds : List D} {M : Mem} {Kp : List D → (Mem → Prop) → Mem → Prop} (h : viewL M d = some ds) (k : ∀ P : Mem → Prop, (∀ M', Ext M M' → P M') → Kp ds P M) : iterL d M Kp := by
  unfold viewL at h
  split at h
  · cases h; exact k yes fun _ _ => trivial
  · split at h
    · rename_i hm; cases h; exact ⟨_, hm, k _ fun M' e => e _ _ hm⟩
    · cases h
  · cases h
theorem enumD_inv {ds : List D} {i : Nat} {x : D} (h : (enumD ds)[i]? = some x) : ∃ d, ds[i]? = some d ∧ x = .tup [.int (i : Int), d] := by
  have hi : i < ds.length := by rw [← enumD_length ds]; exact (List.getElem?_eq_some_iff.mp h).1
  have e := enumD_get (ds := ds) (i := i) (d := ds[i]) (List.getElem?_eq_getElem hi)
  rw [e] at h
  exact ⟨_, List.getElem?_eq_getElem hi, (Option.some.inj h).symm⟩
theorem rangeD_inv {lo : Int} {n i : Nat} {x : D} (h : (rangeD lo n)[i]? = some x) : i < n ∧ x = .int (lo + (i : Int)) := by
  have hi : i < n := by have := (List.getElem?_eq_some_iff.mp h).1; unfold rangeD at this; simpa using this
  unfold rangeD at h
  rw [List.getElem?_map, List.getElem?_range hi] at h
  exact ⟨hi, (Option.some.inj h).symm⟩
theorem rangeD_length (lo : Int) (n : Nat) : (rangeD lo n).length = n := by unfold rangeD; simp
theorem len_T {w : List Nat} {M : Mem} {Kp : KD} (hl : w.length ≤ sizeLine) (h : Kp (.int (w.length : Int)) M) : δLen [.str (T w)] M Kp := by
  refine ⟨w.length, ?_, h⟩
  show (if (T w).length ≤ sizeLine then some (T w).length else none) = _
  rw [T_len, if_pos hl]
theorem len_view {d : D} {ds : List D} {M : Mem} {Kp : KD} (hv : viewL M d = some ds) (h : Kp (.int (ds.length : Int)) M) : δLen [d] M Kp := by
  refine ⟨ds.length, ?_, h⟩
  unfold viewL at hv
  split at hv
  · cases hv; rfl
  · split at hv
    · rename_i hm; cases hv; show (match M _ with | some (.lst ds) => some ds.length | _ => none) = _; rw [hm]
    · cases hv
  · cases hv
/-- a slice of a list from its start -/
theorem sIx_to (n : Nat) {i : Int} (h : 0 ≤ i) (hn : i ≤ n) (d : Nat) : HT.sIx n d (some i) = i.toNat := by
  show (if i < 0 then (i + (n : Int)).toNat else min i.toNat n) = _
  rw [if_neg (by omega)]
  omega
theorem cutL_to {α : Type} (l : List α) {i : Nat} (h : i ≤ l.length) : cutL l none (some (i : Int)) = l.take i := by
  unfold cutL
  rw [sIx_to _ (by omega) (by omega)]
  simp [HT.sIx]
theorem cutL_from {α : Type} (l : List α) {i : Nat} (h : i ≤ l.length) : cutL l (some (i : Int)) none = l.drop i := by
  unfold cutL
  rw [sIx_to _ (by omega) (by omega)]
  simp only [HT.sIx, Int.toNat_natCast]
  rw [List.take_of_length_le]
  rw [List.length_drop]
  omega
theorem cutL_mid {α : Type} (l : List α) {i j : Nat} (hi : i ≤ l.length) : cutL l (some (i : Int)) (some (j : Int)) = (l.drop i).take (j - i) := by
  unfold cutL
  have e : HT.sIx l.length l.length (some (j : Int)) = min j l.length := HT.sIx_nat _ _ _
  rw [sIx_to _ (i := (i : Int)) (by omega) (by omega), e, Int.toNat_natCast]
  by_cases h : j ≤ l.length
  · rw [Nat.min_eq_left h]
  · rw [Nat.min_eq_right (by omega), List.take_of_length_le (by rw [List.length_drop]; omega), List.take_of_length_le (by rw [List.length_drop]; omega)]
theorem slice_view {m : Bool} {d : D} {ds : List D} {lo hi : Option Int} {M : Mem} {Kp : KD} (hv : viewL M d = some ds) (h : newL m (cutL ds lo hi) M Kp) : δSl m d lo hi M Kp := by
  cases d with
  | str _ => cases hv
  | tup _ => cases hv
  | _ => exact ⟨ds, hv, h⟩
theorem in_view {neg : Bool} {x d : D} {ds : List D} {M : Mem} {Kp : KD} (hv : viewL M d = some ds) (hx : flatD x = true) (hf : ds.all flatD = true) (h : Kp (nB neg (ds.any fun d => eqDf d x)) M) : δIn neg x d M Kp := by
  cases d with
  | str _ => cases hv
  | _ => exact ⟨ds, .inl hv, hx, hf, h⟩
end Dl
namespace Dl
open PySem PySem.Spec PyProof.Rows L2 Evl
theorem lc2_map {P : Mem → Prop} {γ γ1 : FG} {α α1 : FT} {ι1 : FI} {φ : FE} {vs1 : List Nat} {ρ : Rho} {Kp : List D → Mem → Prop} (f : D → List D) {M : Mem} (hP : P M) : ∀ (items acc : List D),
    (∀ x ∈ items, ∀ (acc : List D) (Q : List D → Mem → Prop), acc.length + (f x).length ≤ sizeLine → Q (acc ++ f x) M →
      γ x ρ M fun ρ1 M1 => α ρ1 M1 fun b M2 => match b with | true => ι1 ρ1 M2 fun items1 P1 M3 => lcD P1 γ1 α1 φ (wipeR ρ1 vs1) items1 acc M3 Q | false => Q acc M2) →
    acc.length + (items.flatMap f).length ≤ sizeLine → Kp (acc ++ items.flatMap f) M → lcD2 P γ α ι1 γ1 α1 φ vs1 ρ items acc M Kp
  | [], acc, _, _, h => ⟨hP, by simpa using h⟩
  | x :: xs, acc, hx, hl, h => by
    rw [List.flatMap_cons, List.length_append] at hl
    refine ⟨hP, hx x (List.mem_cons_self ..) acc (fun acc' M4 => lcD2 P γ α ι1 γ1 α1 φ vs1 ρ xs acc' M4 Kp) (by omega) ?_⟩
    refine lc2_map f hP xs (acc ++ f x) (fun y hy => hx y (List.mem_cons_of_mem _ hy)) (by rw [List.length_append]; omega) ?_
    rw [List.flatMap_cons] at h
    rw [List.append_assoc]
    exact h
/-- the same, begun with some items already -/
theorem lc_map1a {P : Mem → Prop} {γ : FG} {φ : FE} {ρ : Rho} {Kp : List D → Mem → Prop} (f : D → D) {items acc : List D} {M : Mem} (hP : P M) (hl : acc.length + items.length ≤ sizeLine)
    (hx : ∀ x ∈ items, ∀ (Q : D → Mem → Prop), Q (f x) M → γ x ρ M fun ρ1 M1 => φ ρ1 M1 Q) (h : Kp (acc ++ items.map f) M) : lcD P γ dYes φ ρ items acc M Kp :=
  lc_map f (fun _ => true) hP items acc hl (fun x hx' Q R hQ _ => hx x hx' Q (hQ rfl)) (by rw [filter_yes]; exact h)
end Dl
namespace Dl
open PySem PySem.Spec PyProof.Rows L2 Evl
theorem ixN_nat {n i : Nat} (h : i < n) : ixN n (i : Int) = some i := by
  unfold ixN
  rw [if_pos (by omega), if_pos (by omega), Int.toNat_natCast]
theorem atI_nat {α : Type} {l : List α} {i : Nat} {x : α} (h : l[i]? = some x) : atI l (i : Int) = some x := by
  unfold atI
  rw [ixN_nat (List.getElem?_eq_some_iff.mp h).1]
  exact h
theorem ix_T {w : List Nat} {i c : Nat} {M : Mem} {Kp : KD} (h : w[i]? = some c) (hl : w.length ≤ sizeLine) (hk : Kp (.str (T [c])) M) : δIx (.str (T w)) (.int (i : Int)) M Kp :=
  ⟨c, by rw [T_len]; exact hl, atI_nat h, hk⟩
theorem ix_tup {ds : List D} {i : Nat} {d : D} {M : Mem} {Kp : KD} (h : ds[i]? = some d) (hk : Kp d M) : δIx (.tup ds) (.int (i : Int)) M Kp := ⟨d, atI_nat h, hk⟩
theorem ix_view {x : D} {ds : List D} {i : Nat} {d : D} {M : Mem} {Kp : KD} (hv : viewL M x = some ds) (h : ds[i]? = some d) (hk : Kp d M) : δIx x (.int (i : Int)) M Kp := by
  cases x with
  | str _ => cases hv
  | tup _ => cases hv
  | scr _ => cases hv
  | _ => exact ⟨ds, d, hv, atI_nat h, hk⟩
theorem ix_scr {ns : List Int} {i : Nat} {k : Int} {M : Mem} {Kp : KD} (h : ns[i]? = some k) (hk : Kp (.int k) M) : δIx (.scr ns) (.int (i : Int)) M Kp := ⟨k, atI_nat h, hk⟩
end Dl
namespace Dl
open PySem PySem.Spec PyProof.Rows L2 Evl
/-! ### what may be compared -/
def layD (k : Nat) (d : D) : Prop := ∃ p, py d = some p ∧ p.canLay0 = true ∧ p.depth ≤ k
theorem lay_int (k : Nat) (i : Int) : layD k (.int i) := ⟨.int i, rfl, rfl, Nat.zero_le _⟩
theorem lay_bl (k : Nat) (b : Bool) : layD k (.bl b) := ⟨.bool b, rfl, rfl, Nat.zero_le _⟩
theorem lay_non (k : Nat) : layD k .non := ⟨.none, rfl, rfl, Nat.zero_le _⟩
theorem lay_all {k : Nat} : ∀ {ds : List D}, (∀ d ∈ ds, layD k d) → ∃ ps, pys ds = some ps ∧ PyData.canLayAll0 ps = true ∧ PyData.depthAll ps ≤ k ∧ ps.length = ds.length
  | [], _ => ⟨[], rfl, rfl, Nat.zero_le _, rfl⟩
  | d :: ds, h => by
    obtain ⟨p, h1, h2, h3⟩ := h d (List.mem_cons_self ..)
    obtain ⟨ps, k1, k2, k3, k4⟩ := lay_all (ds := ds) fun x hx => h x (List.mem_cons_of_mem _ hx)
    refine ⟨p :: ps, ?_, ?_, ?_, ?_⟩
    · show (py d).bind (fun a => (pys ds).map fun b => a :: b) = _
      rw [h1, k1] <;> rfl
    · show (p.canLay0 && PyData.canLayAll0 ps) = true
      rw [h2, k2] <;> rfl
    · show max p.depth (PyData.depthAll ps) ≤ k
      exact Nat.max_le.mpr ⟨h3, k3⟩
    · rw [List.length_cons, List.length_cons, k4]
theorem lay_tup {k : Nat} {ds : List D} (h : ∀ d ∈ ds, layD k d) : layD (k + 1) (.tup ds) := by
  obtain ⟨ps, k1, k2, k3, k4⟩ := lay_all h
  refine ⟨.tuple ps, ?_, k2, Nat.succ_le_succ k3⟩
  show (pys ds).map PyData.tuple = _
  rw [k1] <;> rfl
theorem lay_lst {k : Nat} {ds : List D} (h : ∀ d ∈ ds, layD k d) : layD (k + 1) (.lst ds) := by
  obtain ⟨ps, k1, k2, k3, k4⟩ := lay_all h
  refine ⟨.list ps, ?_, k2, Nat.succ_le_succ k3⟩
  show (pys ds).map PyData.list = _
  rw [k1] <;> rfl
theorem pyM_view {M : Mem} {x : D} {ds : List D} (h : viewL M x = some ds) : pyM M x = (pys ds).map PyData.list := by
  unfold viewL at h
  split at h
  · cases h; rfl
  · split at h
    · rename_i a _ _ hm; cases h; show (match M a with | some (.lst ds) => _ | _ => _) = _; rw [hm]
    · cases h
  · cases h
theorem eq_gen {neg : Bool} {x y : D} {ds : List D} {M : Mem} {Kp : KD} (hv : viewL M x = some ds) (h : eqGen neg x y M Kp) : δEq neg x y M Kp := by
  cases x with
  | lst _ => exact h
  | ptr _ => exact h
  | _ => cases hv
theorem eq_nil {neg : Bool} {x : D} {ds : List D} {M : Mem} {Kp : KD} (hv : viewL M x = some ds) (hl : ∀ d ∈ ds, layD 60 d) (h : Kp (nB neg ds.isEmpty) M) : δEq neg x (.lst []) M Kp := by
  obtain ⟨ps, k1, k2, k3, k4⟩ := lay_all hl
  refine eq_gen hv ⟨.list ps, .list [], by rw [pyM_view hv, k1]; rfl, rfl, ?_, rfl, ?_⟩
  · show (PyData.canLayAll0 ps && decide (PyData.depthAll ps + 1 ≤ 64)) = true
    rw [k2, decide_eq_true (by omega)]
    rfl
  · have e : PyData.eqv (.list ps) (.list []) = ds.isEmpty := by
      cases ps with
      | nil =>
        cases ds with
        | nil => rfl
        | cons _ _ => simp at k4
      | cons _ _ =>
        cases ds with
        | nil => simp at k4
        | cons _ _ => rfl
    rw [e]
    exact h
end Dl
namespace Dl
open PySem PySem.Spec PyProof.Rows L2 Evl
theorem viewL_ptr {M : Mem} {p : Addr} {ds : List D} : viewL M (.ptr p) = some ds ↔ M p = some (.lst ds) := by
  show (match M p with | some (.lst ds) => some ds | _ => none) = some ds ↔ _
  constructor
  · intro h
    split at h
    · rename_i e; cases h; exact e
    · cases h
  · intro h
    rw [h]
theorem iterL_v {d : D} {ds : List D} {M : Mem} {Kp : List D → (Mem → Prop) → Mem → Prop} (h : viewL M d = some ds) (k : ∀ P : Mem → Prop, (∀ M', viewL M' d = some ds → P M') → Kp ds P M) : iterL d M Kp := by
  cases d with
  | lst xs => cases h; exact k yes fun _ _ => trivial
  | ptr p => exact ⟨ds, viewL_ptr.mp h, k _ fun M' e => viewL_ptr.mp e⟩
  | _ => cases h
theorem iterE_v {d : D} {ds : List D} {M : Mem} {Kp : List D → (Mem → Prop) → Mem → Prop} (h : viewL M d = some ds) (k : ∀ P : Mem → Prop, (∀ M', viewL M' d = some ds → P M') → Kp (enumD ds) P M) : iterE d M Kp := by
  cases d with
  | lst xs => cases h; exact k yes fun _ _ => trivial
  | ptr p => exact ⟨ds, viewL_ptr.mp h, k _ fun M' e => viewL_ptr.mp e⟩
  | _ => cases h
theorem tyD_lst {M : Mem} {a : Addr} {ds : List D} (h : M a = some (.lst ds)) : tyD "list" M (.ptr a) := by
  show (match M a with | some (.lst _) => "list" = "list" | some (.dK _) => "list" = "dict" | some (.dT _) => "list" = "dict" | _ => False)
  rw [h]
theorem sl_T {m : Bool} {w : List Nat} {lo hi : Option Int} {M : Mem} {Kp : KD} (hl : w.length ≤ sizeLine) (h : Kp (.str (T (cutL w lo hi))) M) : δSl m (.str (T w)) lo hi M Kp :=
  ⟨by rw [T_len]; exact hl, by rw [cut_T]; exact h⟩
theorem app_ptr {M : Mem} {p : Addr} {ds : List D} {d : D} {Kp : KD} (hm : M p = some (.lst ds)) (hl : ds.length < sizeLine) (h : Kp .non (updM M p (.lst (ds ++ [d])))) : δAppend (.ptr p) [d] M Kp := ⟨ds, hm, hl, h⟩
theorem cutL_to' {α : Type} (l : List α) (i : Nat) : cutL l none (some (i : Int)) = l.take i := by
  unfold cutL
  have e : HT.sIx l.length l.length (some (i : Int)) = min i l.length := HT.sIx_nat _ _ _
  rw [e]
  simp only [HT.sIx, Nat.sub_zero, List.drop_zero]
  by_cases h : i ≤ l.length
  · rw [Nat.min_eq_left h]
  · rw [Nat.min_eq_right (by omega), List.take_length, List.take_of_length_le (by omega)]
theorem cutL_last {α : Type} (l : List α) {i : Nat} (h : 1 ≤ i) : cutL l (some (-(i : Int))) none = l.drop (l.length - i) := by
  unfold cutL
  have e : HT.sIx l.length 0 (some (-(i : Int))) = l.length - i := by
    show (if -(i : Int) < 0 then (-(i : Int) + (l.length : Int)).toNat else _) = _
    rw [if_pos (by omega)]
    omega
  rw [e]
  simp only [HT.sIx]
  rw [List.take_of_length_le]
  rw [List.length_drop]
  omega
theorem set_ptr {M : Mem} {p : Addr} {ds : List D} {v : D} {i : Nat} {Kp : Mem → Prop} (hm : M p = some (.lst ds)) (hi : i < ds.length) (h : Kp (updM M p (.lst (ds.set i v)))) : δSetL (.ptr p) (.int (i : Int)) v M Kp := ⟨ds, i, hm, ixN_nat hi, h⟩
end Dl
namespace Dl
open PySem PySem.Spec PyProof.Rows L2 Evl
theorem viewL_ext {M M' : Mem} (e : Ext M M') {d : D} {ds : List D} (h : viewL M d = some ds) : viewL M' d = some ds := by
  cases d with
  | lst xs => exact h
  | ptr p => exact viewL_ptr.mpr (e _ _ (viewL_ptr.mp h))
  | _ => cases h
theorem ext_ptr {M : Mem} {p : Addr} {ds es : List D} {d : D} {Kp : KD} (hm : M p = some (.lst ds)) (hv : viewL M d = some es) (hl : ds.length + es.length ≤ sizeLine) (h : Kp .non (updM M p (.lst (ds ++ es)))) : δExtend (.ptr p) [d] M Kp := ⟨ds, es, hm, hv, hl, h⟩
theorem join_Tc {a : List Nat} {d : D} {ds : List D} {ws : List (List Nat)} {M : Mem} {Kp : KD} (hv : viewQ M d = some ds) (e : ds = ws.map fun w => .str (T w)) (hl : (ws.map (·.length)).sum + ws.length * a.length ≤ 16777216) (h : Kp (.str (T (joinT a ws))) M) : δJoin (.str (T a)) [d] M Kp := by
  subst e
  refine ⟨_, ws.map T, hv, by rw [← strs_map, List.map_map]; rfl, ?_, by rw [join_T]; exact h⟩
  rw [List.map_map, List.length_map, T_len]
  have : (ws.map ((fun x : Str => x.length) ∘ T)) = ws.map (·.length) := List.map_congr_left fun w _ => T_len w
  rw [this]
  exact hl
end Dl
namespace Dl
open PySem PySem.Spec PyProof.Rows L2 Evl
/-- a def that lets nothing out -/
theorem fn_calm {P : Program} {w : World} {K : PySem.W.Frag} {mg : Str → Option Value} {base : Heap} {f : Addr} {fd : FuncData} {ps : List Str} {sp : Sp} {k : Nat} (F : FnOk P w K mg base (L2.CX P w) k f fd ps sp) :
    FnOk P w K mg base CX0 k f fd ps fun vs H Q _ => sp vs H Q fun _ _ _ => False :=
  ⟨fun vs H Q E h => F.len vs H Q _ h, fun A outer s H args us vs Q E hr he hb hv hs => codeAny_mono (F.run A outer s H args us vs Q _ hr he hb hv hs) fun r s' h => by
    cases r with
    | ok fl => cases fl <;> exact h
    | error e =>
      obtain ⟨_, _, _, _, _, _, _, _, _, _, _, _, z⟩ := h
      exact z.elim⟩
end Dl
end
noncomputable section
namespace Dl
open PySem PySem.Spec PyProof.Rows L2 Evl
/-! ### sorted(xs), texts, any number of them -/
def txV : Value → List Nat
  | .str x _ => x.cps.toList
  | _ => []
def ltTx (v u : Value) : Bool := decide (txV v < txV u)
theorem swo_tx : SrtO.Swo ltTx := by
  refine ⟨fun x y h => ?_, fun x y z h1 h2 => ?_⟩
  · have h := of_decide_eq_true (p := txV x < txV y) h
    exact decide_eq_false (p := txV y < txV x) (List.not_lt.mpr (List.le_of_lt h))
  · have h1 := of_decide_eq_false (p := txV y < txV x) h1
    have h2 := of_decide_eq_false (p := txV z < txV y) h2
    exact decide_eq_false (p := txV z < txV x) (List.not_lt.mpr (List.le_trans (List.not_lt.mp h1) (List.not_lt.mp h2)))
def strV : Value → Str
  | .str x _ => x
  | _ => ⟨#[]⟩
theorem strs_back : ∀ {vs : List Value}, (∀ v ∈ vs, ∃ x t, v = Value.str x t) → StrsAre vs (vs.map strV)
  | [], _ => .nil
  | v :: vs, h => by
    obtain ⟨x, t, e⟩ := h v (List.mem_cons_self ..)
    subst e
    exact .cons x t (strs_back fun u hu => h u (List.mem_cons_of_mem _ hu))
theorem strs_fore : ∀ {vs : List Value} {ss : List Str}, StrsAre vs ss → vs.map strV = ss
  | _, _, .nil => rfl
  | _, _, .cons y t r => congrArg (y :: ·) (strs_fore r)
def rSortedTx (K : PySem.W.Frag) : List V → Hp → VK → Prop := fun vs H Q => ∃ (a : Addr) (xs : List Str), vs = [V.ref a] ∧ SqL K H a (xs.map V.str) ∧
  ∀ (ys : List Str) (p : Addr), ys.Perm xs → ys.Pairwise (fun a b => ¬ b.cps.toList < a.cps.toList) → H p = none → Q (.ref p) (upd H p (.lst (ys.map V.str)))
theorem cr_sortedTx {X : Cx} : CallR X (.builtin "sorted") (rSortedTx X.K) := by
  intro pins s σ H vs us Q I r h
  obtain ⟨a, xs, rfl, hs, q⟩ := h
  obtain ⟨its, rv, hl, hz⟩ := I.list hs
  rw [Vals.ref1 r]
  have hS := rv.strs
  have one : ∀ {A : Around} {s' : Shared} {a' : Addr}, 2 ≤ its.length → SrtO.SortableO X.prog X.w A s' a' its ltTx := fun h2 h' _ => by
    refine ⟨oneType', fun Q E hq => ?_, fun p q hm hm' => ?_⟩
    · match its, hS, h2 with
      | v1 :: v2 :: rest, hS, _ =>
        rw [keyKind_strs hS]
        exact wpAny_pure hq
      | [], _, h => exact absurd h (by decide)
      | [v], _, h => exact absurd h (by simp)
    · obtain ⟨x, t, e⟩ := hS.all _ hm
      obtain ⟨y, u, e'⟩ := hS.all _ hm'
      show wpAny (model X.prog X.w) _ (keyLt' oneType' p.1 q.1) (fun r s'' => s'' = _ ∧ r = ltTx p.1 q.1) (fun _ _ => False) _
      rw [e, e', keyLt'_oneType]
      exact oneLt_str ⟨rfl, rfl⟩
  refine SrtO.sorted_ord swo_tx hl.isList (by rw [← rv.length]; exact hz) (fun h2 h₁ a' _ _ => one h2) fun out h1 h2 => ?_
  have hout : StrsAre out (out.map strV) := strs_back fun v hv => hS.all v (h2.perm.mem_iff.mp hv)
  have hp : (out.map strV).Perm xs := by
    have k := h2.perm.map strV
    rw [strs_fore hS] at k
    exact k
  have ho : (out.map strV).Pairwise (fun a b => ¬ b.cps.toList < a.cps.toList) := by
    refine List.pairwise_map.mpr ?_
    have : ∀ v ∈ out, txV v = (strV v).cps.toList := fun v hv => by
      obtain ⟨x, t, e⟩ := hS.all v (h2.perm.mem_iff.mp hv)
      subst e
      rfl
    refine List.Pairwise.imp_of_mem ?_ h1
    intro v u hv hu z
    rw [← this v hv, ← this u hu]
    exact of_decide_eq_false (p := txV u < txV v) z
  obtain ⟨ep, he'⟩ := PyProof.Rows.sortedAll_at s.heap its out.toArray
  have hlen : ((out.map strV).map V.str).length ≤ sizeLine := by
    rw [List.length_map, hp.length_eq]
    rw [List.length_map] at hz
    exact hz
  exact ⟨.ref _, upd H (s.heap.objs.size + 1) (.lst ((out.map strV).map V.str)), I.laid (t' := s.toks) (fun _ _ => PyProof.Rows.sortedAll_old) (Nat.le_succ _) ⟨hlen, out, ep, vals_of_strs hout, he'⟩, rfl, q _ _ hp ho (I.hok.fresh (Nat.le_succ _))⟩
end Dl
namespace Dl
open PySem PySem.Spec PyProof.Rows L2 Evl
def txD (w : List Nat) : D := .str (T w)
def δSorted (m : Bool) : FN := fun xs M Kp => match xs with
  | [x] => ∃ ws : List (List Nat), viewL M x = some (ws.map txD) ∧ ∀ us : List (List Nat), us.Perm ws → us.Pairwise (fun a b => ¬ b < a) → newL m (us.map txD) M Kp
  | _ => False
theorem lift_sorted {K : PySem.W.Frag} (m : Bool) : LiftN K (rSortedTx K) (δSorted m) := by
  intro xs M Kp G H vs Q w r h k
  unfold δSorted at h
  split at h
  · obtain ⟨ws, hv, h⟩ := h
    obtain ⟨v, rfl, r1⟩ := r.one_inv
    have e : ws.map txD = (ws.map T).map D.str := by rw [List.map_map]; rfl
    rw [e] at hv
    have hl : ∃ a, v = .ref a ∧ SqL K H a ((ws.map T).map V.str) := by
      obtain ⟨a, us, rfl, hu, r2⟩ := w.viewL r1 hv
      rw [r2.strs] at hu
      exact ⟨a, rfl, SqL.of hu⟩
    obtain ⟨a, rfl, ha⟩ := hl
    refine ⟨a, ws.map T, rfl, ha, fun ys p hp ho hn => ?_⟩
    have ey : ys = (ys.map fun y => y.cps.toList).map T := by
      rw [List.map_map]
      have : ∀ l : List Str, l = l.map (T ∘ fun y => y.cps.toList) := fun l => by
        induction l with
        | nil => rfl
        | cons y l ih => rw [List.map_cons, ← ih]; exact congrArg (· :: l) (T_eta y)
      exact this ys
    have hp2 : (ys.map fun y => y.cps.toList).Perm ws := by
      have := hp.map fun y : Str => y.cps.toList
      rw [List.map_map] at this
      have e2 : ws.map ((fun y : Str => y.cps.toList) ∘ T) = ws := by
        have : ((fun y : Str => y.cps.toList) ∘ T) = id := rfl
        rw [this, List.map_id]
      rw [e2] at this
      exact this
    have ho2 : (ys.map fun y => y.cps.toList).Pairwise (fun a b => ¬ b < a) := List.pairwise_map.mpr ho
    refine newL_ok w hn ?_ (h _ hp2 ho2) k
    have e3 : (ys.map fun y => y.cps.toList).map txD = ys.map D.str := by
      conv => rhs; rw [ey]
      rw [List.map_map, List.map_map, List.map_map]
      rfl
    rw [e3]
    exact Reps.of_strs ys
  · exact h.elim
/-- sorted texts are told by their items -/
theorem sorted_eq {us ws : List (List Nat)} (h : us.Perm ws) (h1 : us.Pairwise (fun a b => ¬ b < a)) (h2 : ws.Pairwise (fun a b => ¬ b < a)) : us = ws :=
  h.eq_of_pairwise (le := fun a b : List Nat => ¬ b < a) (fun a b _ _ h1 h2 => List.le_antisymm (List.not_lt.mp h1) (List.not_lt.mp h2)) h1 h2
end Dl
end
noncomputable section
namespace Dl
open PySem PySem.Spec PyProof.Rows L2 Evl
/-! ### dicts seen -/
def viewK (M : Mem) : D → Option (List (Key × D))
  | .dK ks ds => if ks.length = ds.length then some (ks.zip ds) else none
  | .ptr a => (match M a with
    | some (.dK kvs) => some kvs
    | some (.lkK _ _ kvs) => some kvs
    | _ => none)
  | _ => none
def viewTk (M : Mem) : D → Option (List (List Key × D))
  | .dT ks ds => if ks.length = ds.length then some (ks.zip ds) else none
  | .ptr a => (match M a with
    | some (.dT kvs) => some kvs
    | some (.lkT _ _ kvs) => some kvs
    | _ => none)
  | _ => none
section
variable {K : PySem.W.Frag} {G H : Hp} {M : Mem}
theorem repKV_zip {κ : Type} : ∀ {kvs : List (κ × V)} {ds : List D}, Reps K G ds (kvs.map (·.2)) → RepKV K G ((kvs.map (·.1)).zip ds) kvs
  | [], [], _ => .nil
  | (k, v) :: kvs, d :: ds, r => by
    cases r with
    | cons r rr => exact .cons ⟨rfl, r⟩ (repKV_zip rr)
theorem Wd.viewK (w : Wd K G M H) {d : D} {v : V} {kvs : List (Key × D)} (r : Rep K G d v) (h : Dl.viewK M d = some kvs) : ∃ a vs, v = .ref a ∧ Rd H a (.dK vs) ∧ RepKV K G kvs vs := by
  unfold Dl.viewK at h
  split at h
  · split at h
    · cases h
      cases r with
      | dK hg hn rr =>
        subst hn
        exact ⟨_, _, rfl, .inl (w.ex _ _ hg), repKV_zip rr⟩
    · cases h
  · cases r
    split at h
    · rename_i hm
      cases h
      obtain ⟨vs, hv, rr⟩ := w.dKo hm
      exact ⟨_, vs, rfl, .inl hv, rr⟩
    · rename_i hm
      cases h
      obtain ⟨_, o, ho, _, rfl, rr⟩ := w.mem _ _ hm
      exact ⟨_, _, rfl, .inr ⟨_, ho⟩, rr⟩
    · cases h
  · cases h
theorem Wd.viewTk (w : Wd K G M H) {d : D} {v : V} {kvs : List (List Key × D)} (r : Rep K G d v) (h : Dl.viewTk M d = some kvs) : ∃ a vs, v = .ref a ∧ Rd H a (.dT vs) ∧ RepKV K G kvs vs := by
  unfold Dl.viewTk at h
  split at h
  · split at h
    · cases h
      cases r with
      | dT hg hn rr =>
        subst hn
        exact ⟨_, _, rfl, .inl (w.ex _ _ hg), repKV_zip rr⟩
    · cases h
  · cases r
    split at h
    · rename_i hm
      cases h
      obtain ⟨vs, hv, rr⟩ := w.dTo hm
      exact ⟨_, vs, rfl, .inl hv, rr⟩
    · rename_i hm
      cases h
      obtain ⟨_, o, ho, _, rfl, rr⟩ := w.mem _ _ hm
      exact ⟨_, _, rfl, .inr ⟨_, ho⟩, rr⟩
    · cases h
  · cases h
/-- what the dict x holds at y -/
def getK (x y : D) (M : Mem) (Kp : Option D → Prop) : Prop := match y with
  | .tup ys => ∃ kvs k, viewTk M x = some kvs ∧ keysD ys = some k ∧ Kp (valD kvs k)
  | y => ∃ kvs k, viewK M x = some kvs ∧ keyD y = some k ∧ Kp (valD kvs k)
theorem getK_ok (w : Wd K G M H) {x y : D} {vx vy : V} {Kp : Option D → Prop} (rx : Rep K G x vx) (ry : Rep K G y vy) (h : getK x y M Kp) : ∃ a o r, vx = .ref a ∧ DGet H a vy o ∧ Kp r ∧ (∀ d, r = some d → ∃ v, o = some v ∧ Rep K G d v) ∧ (r = none → o = none) := by
  have viaK : (∃ kvs k, viewK M x = some kvs ∧ keyD y = some k ∧ Kp (valD kvs k)) → ∃ a o r, vx = .ref a ∧ DGet H a vy o ∧ Kp r ∧ (∀ d, r = some d → ∃ v, o = some v ∧ Rep K G d v) ∧ (r = none → o = none) := by
    rintro ⟨kvs, k, hv, hk, h⟩
    obtain ⟨a, vs, rfl, hr, rr⟩ := w.viewK rx hv
    obtain ⟨q1, q2⟩ := valD_rep rr k
    rw [keyD_rep ry hk]
    exact ⟨a, valV vs k, valD kvs k, rfl, .inl ⟨vs, k, hr, rfl, rfl⟩, h, q1, q2⟩
  cases y with
  | tup ys =>
    obtain ⟨kvs, k, hv, hk, h⟩ := h
    obtain ⟨a, vs, rfl, hr, rr⟩ := w.viewTk rx hv
    obtain ⟨q1, q2⟩ := valD_rep rr k
    cases ry with
    | tup hg r =>
      rw [keysD_rep r hk] at hg
      exact ⟨a, valV vs k, valD kvs k, rfl, .inr ⟨vs, k, _, hr, rfl, w.ex _ _ hg, rfl⟩, h, q1, q2⟩
  | _ => exact viaK h
def δHas (neg : Bool) : F2 := fun y x M Kp => getK x y M fun r => Kp (nB neg r.isSome) M
def δDGet : F2 := fun x y M Kp => getK x y M fun r => match r with
  | some v => Kp v M
  | none => False
def rHas (neg : Bool) : R2 := fun y x H Q => ∃ a o, x = .ref a ∧ DGet H a y o ∧ Q (.bl (match neg with | true => !o.isSome | false => o.isSome)) H
theorem op_has {X : Cx} (hu : X.A.units + 1 < cLine) : OpR X (compareOp .In) (rHas false) := by
  intro pins s σ H y x u v Q I ry rx h
  obtain ⟨a, o, rfl, g, q⟩ := h
  cases rx
  exact d_in hu I g ry fun s' I' => ⟨.bl o.isSome, H, I', rfl, q⟩
theorem op_hasNot {X : Cx} (hu : X.A.units + 1 < cLine) : OpR X (compareOp .NotIn) (rHas true) := by
  intro pins s σ H y x u v Q I ry rx h
  obtain ⟨a, o, rfl, g, q⟩ := h
  cases rx
  exact d_notIn hu I g ry fun s' I' => ⟨.bl (!o.isSome), H, I', rfl, q⟩
theorem lift_has (neg : Bool) : Lift2 K (rHas neg) (δHas neg) := by
  intro y x M Kp G H vy vx Q w ry rx h k
  obtain ⟨a, o, r, rfl, g, hk, h1, h2⟩ := getK_ok w rx ry h
  refine ⟨a, o, rfl, g, ?_⟩
  have e : r.isSome = o.isSome := by
    cases r with
    | none => rw [h2 rfl]; rfl
    | some d => obtain ⟨v, e, _⟩ := h1 d rfl; rw [e]; rfl
  have := k _ M G H _ (Go.refl _ _ _) w (rep_nB neg _) hk
  rw [e] at this
  exact this
def rDGet : R2 := fun x y H Q => ∃ a v, x = .ref a ∧ DGet H a y (some v) ∧ Q v H
theorem lift_dget : Lift2 K rDGet δDGet := by
  intro x y M Kp G H vx vy Q w rx ry h k
  obtain ⟨a, o, r, rfl, g, hk, h1, h2⟩ := getK_ok w rx ry h
  cases r with
  | none => exact hk.elim
  | some d =>
    obtain ⟨v, rfl, rv⟩ := h1 d rfl
    exact ⟨a, v, rfl, g, k d M G H v (Go.refl _ _ _) w rv hk⟩
end
section
variable {Y : Yx} {pos : Pos} {o i e : Expr} {φ ψ : FE}
def de_dget (hu : Y.X.A.units + 1 < cLine) (ho : DE Y o φ) (hi : DE Y i ψ) (hs : NoSl i := by exact fun _ _ => rfl) : DE Y (.Subscript o i pos) (dOp δDGet φ ψ) := ⟨_, pe_dget hu ho.p hi.p hs, simOp (r := rDGet) lift_dget ho.s hi.s⟩
end
/-! ### a dict that is walked stands still -/
def lockS (p : Addr) (l u : MO) (KK : KS) : KS where
  nx := fun ρ M => M p = some l ∧ KK.nx ρ (updM M p u)
  rt := fun d M => M p = some l ∧ KK.rt d (updM M p u)
  bk := fun ρ M => M p = some l ∧ KK.bk ρ (updM M p u)
  ct := fun ρ M => M p = some l ∧ KK.ct ρ (updM M p u)
def dLockK (β : FSt) : FSt := fun KK ρ M => ∃ p kvs, M p = some (.dK kvs) ∧ ∀ od vs, β (lockS p (.lkK od vs kvs) (.dK kvs) KK) ρ (updM M p (.lkK od vs kvs))
def dLockT (β : FSt) : FSt := fun KK ρ M => ∃ p kvs, M p = some (.dT kvs) ∧ ∀ od vs, β (lockS p (.lkT od vs kvs) (.dT kvs) KK) ρ (updM M p (.lkT od vs kvs))
section
variable {Y : Yx} {st : Stmt} {β : FSt}
theorem unlockK {K : PySem.W.Frag} {G H : Hp} {M : Mem} {p : Addr} {od : Obj} {vs : List (Key × V)} {kvs : List (Key × D)} (w : Wd K G M H) (hp : M p = some (.lkK od vs kvs)) : H p = some (.frz od (.dK vs)) ∧ Wd K G (updM M p (.dK kvs)) (upd H p (.dK vs)) ∧ Go G M H G (updM M p (.dK kvs)) (upd H p (.dK vs)) := by
  obtain ⟨_, o, ho, _, rfl, r⟩ := w.mem p _ hp
  exact ⟨ho, w.put hp ⟨vs, rfl, r⟩, w.goP hp⟩
theorem unlockT {K : PySem.W.Frag} {G H : Hp} {M : Mem} {p : Addr} {od : Obj} {vs : List (List Key × V)} {kvs : List (List Key × D)} (w : Wd K G M H) (hp : M p = some (.lkT od vs kvs)) : H p = some (.frz od (.dT vs)) ∧ Wd K G (updM M p (.dT kvs)) (upd H p (.dT vs)) ∧ Go G M H G (updM M p (.dT kvs)) (upd H p (.dT vs)) := by
  obtain ⟨_, o, ho, _, rfl, r⟩ := w.mem p _ hp
  exact ⟨ho, w.put hp ⟨vs, rfl, r⟩, w.goP hp⟩
def ds_lockK (h : DS Y st β) : DS Y st (dLockK β) := by
  refine ⟨_, ps_lock h.p, fun ρ M KK G σ H E a hh k => ?_⟩
  obtain ⟨p, kvs, hp, hh⟩ := hh
  obtain ⟨vs, hv, r⟩ := a.wd.dKo hp
  refine ⟨p, .dK vs, hv, trivial, fun od => ?_⟩
  have g0 := a.wd.goP (o := .frz od (.dK vs)) (mo := .lkK od vs kvs) hp
  have w0 := a.wd.put (o := .frz od (.dK vs)) (mo := .lkK od vs kvs) hp ⟨(), rfl, r⟩
  refine h.s ρ _ _ G σ _ _ (a.step g0 w0) (hh od vs) ⟨?_, ?_, ?_, ?_⟩
  · intro ρ' M' G' σ' H' g w rr hk
    obtain ⟨q1, q2, q3⟩ := unlockK w hk.1
    exact ⟨q1, k.nx ρ' _ G' σ' _ ((g0.trans g).trans q3) q2 rr hk.2⟩
  · intro d M' G' H' v g w rr hk
    obtain ⟨q1, q2, q3⟩ := unlockK w hk.1
    exact ⟨q1, k.rt d _ G' _ v ((g0.trans g).trans q3) q2 rr hk.2⟩
  · intro ρ' M' G' σ' H' g w rr hk
    obtain ⟨q1, q2, q3⟩ := unlockK w hk.1
    exact ⟨q1, k.bk ρ' _ G' σ' _ ((g0.trans g).trans q3) q2 rr hk.2⟩
  · intro ρ' M' G' σ' H' g w rr hk
    obtain ⟨q1, q2, q3⟩ := unlockK w hk.1
    exact ⟨q1, k.ct ρ' _ G' σ' _ ((g0.trans g).trans q3) q2 rr hk.2⟩
def ds_lockT (h : DS Y st β) : DS Y st (dLockT β) := by
  refine ⟨_, ps_lock h.p, fun ρ M KK G σ H E a hh k => ?_⟩
  obtain ⟨p, kvs, hp, hh⟩ := hh
  obtain ⟨vs, hv, r⟩ := a.wd.dTo hp
  refine ⟨p, .dT vs, hv, trivial, fun od => ?_⟩
  have g0 := a.wd.goP (o := .frz od (.dT vs)) (mo := .lkT od vs kvs) hp
  have w0 := a.wd.put (o := .frz od (.dT vs)) (mo := .lkT od vs kvs) hp ⟨(), rfl, r⟩
  refine h.s ρ _ _ G σ _ _ (a.step g0 w0) (hh od vs) ⟨?_, ?_, ?_, ?_⟩
  · intro ρ' M' G' σ' H' g w rr hk
    obtain ⟨q1, q2, q3⟩ := unlockT w hk.1
    exact ⟨q1, k.nx ρ' _ G' σ' _ ((g0.trans g).trans q3) q2 rr hk.2⟩
  · intro d M' G' H' v g w rr hk
    obtain ⟨q1, q2, q3⟩ := unlockT w hk.1
    exact ⟨q1, k.rt d _ G' _ v ((g0.trans g).trans q3) q2 rr hk.2⟩
  · intro ρ' M' G' σ' H' g w rr hk
    obtain ⟨q1, q2, q3⟩ := unlockT w hk.1
    exact ⟨q1, k.bk ρ' _ G' σ' _ ((g0.trans g).trans q3) q2 rr hk.2⟩
  · intro ρ' M' G' σ' H' g w rr hk
    obtain ⟨q1, q2, q3⟩ := unlockT w hk.1
    exact ⟨q1, k.ct ρ' _ G' σ' _ ((g0.trans g).trans q3) q2 rr hk.2⟩
end
/-! ### the keys of a dict, walked -/
def dIKeys (φ : FE) : FI := fun ρ M Kp => φ ρ M fun d M1 => match d with
  | .ptr p => (match M1 p with
    | some (.lkK od vs kvs) => Kp (kvs.map fun kv => keyOf kv.1) (fun M' => M' p = some (.lkK od vs kvs)) M1
    | some (.lkT od vs kvs) => Kp (kvs.map fun kv => .tup (kv.1.map keyOf)) (fun M' => M' p = some (.lkT od vs kvs)) M1
    | _ => False)
  | _ => False
theorem repKV_keys {κ : Type} {K : PySem.W.Frag} {G : Hp} {kvs : List (κ × D)} {vs : List (κ × V)} (r : RepKV K G kvs vs) {i : Nat} {k : κ} {v : V} (h : vs[i]? = some (k, v)) : ∃ d, kvs[i]? = some (k, d) ∧ Rep K G d v := by
  induction r generalizing i with
  | nil => simp at h
  | @cons a b l m h1 t ih =>
    cases i with
    | zero =>
      have : b = (k, v) := by simpa using h
      subst this
      obtain ⟨k', d⟩ := a
      have e : k' = k := h1.1
      subst e
      exact ⟨d, rfl, h1.2⟩
    | succ i =>
      obtain ⟨d, e, rd⟩ := ih (i := i) (by simpa using h)
      exact ⟨d, by simpa using e, rd⟩
section
variable {Y : Yx} {tg e : Expr} {φ : FE}
def di_keys (h : DE Y e φ) : DI Y tg e (dIKeys φ) := by
  refine ⟨_, pi_keys h.p, fun ρ M Kp G σ H R a hh k => h.s ρ M _ G σ H _ a hh fun d M1 G1 H1 v e1 w1 r1 h1 => ?_⟩
  cases d with
  | ptr p =>
    cases r1
    have h2 : (match M1 p with
      | some (.lkK od vs kvs) => Kp (kvs.map fun kv => keyOf kv.1) (fun M' => M' p = some (.lkK od vs kvs)) M1
      | some (.lkT od vs kvs) => Kp (kvs.map fun kv => .tup (kv.1.map keyOf)) (fun M' => M' p = some (.lkT od vs kvs)) M1
      | _ => False) := h1
    split at h2
    · rename_i od vs kvs hm
      obtain ⟨_, o, ho, _, rfl, r⟩ := w1.mem p _ hm
      refine ⟨p, od, rfl, .inl ⟨vs, ho, k _ _ M1 G1 H1 _ e1 w1 ⟨fun i G' M' H' hi x w hp => ?_, fun G' M' H' x w hp => ?_⟩ h2⟩⟩
      · obtain ⟨_, o', ho', _, rfl, r'⟩ := w.mem p _ hp
        have hl : i < vs.length := by rw [← r'.length]; simpa using hi
        refine ⟨⟨ho', hl⟩, fun y H2 yd => ?_⟩
        obtain ⟨rfl, k', v', hk, rfl⟩ := yd
        obtain ⟨d, hd, _⟩ := repKV_keys r' hk
        exact ⟨keyOf k', G', by rw [List.getElem?_map, hd]; rfl, Go.refl _ _ _, w, keyOf_rep k'⟩
      · obtain ⟨_, o', ho', _, rfl, r'⟩ := w.mem p _ hp
        exact ⟨ho', by rw [List.length_map, r'.length]; exact Nat.le_refl _⟩
    · rename_i od vs kvs hm
      obtain ⟨_, o, ho, _, rfl, r⟩ := w1.mem p _ hm
      refine ⟨p, od, rfl, .inr ⟨vs, ho, k _ _ M1 G1 H1 _ e1 w1 ⟨fun i G' M' H' hi x w hp => ?_, fun G' M' H' x w hp => ?_⟩ h2⟩⟩
      · obtain ⟨_, o', ho', _, rfl, r'⟩ := w.mem p _ hp
        have hl : i < vs.length := by rw [← r'.length]; simpa using hi
        refine ⟨⟨ho', hl⟩, fun y H2 yd => ?_⟩
        obtain ⟨rfl, k', v', q, hk, rfl, hq⟩ := yd
        obtain ⟨d, hd, _⟩ := repKV_keys r' hk
        obtain ⟨w2, g2⟩ := w.tups
        exact ⟨.tup (k'.map keyOf), gTup G' _, by rw [List.getElem?_map, hd]; rfl, g2, w2, .tup (gTup_at hq) (keysOf_rep k')⟩
      · obtain ⟨_, o', ho', _, rfl, r'⟩ := w.mem p _ hp
        exact ⟨ho', by rw [List.length_map, r'.length]; exact Nat.le_refl _⟩
    · exact h2.elim
  | _ => exact h1.elim
end
end Dl
end
noncomputable section
namespace Dl
open PySem PySem.Spec PyProof.Rows L2 Evl
section
variable {Y : Yx} {pos p : Pos} {a b e : Expr} {es : List Expr} {φ ψ : FE} {η : FA}
theorem boot_sorted1 : bootBuiltins "sorted" = some (.builtin "sorted") := by decide +kernel
def de_sorted (m : Bool) (hm : Y.X.mg "sorted" = none) (ha : DA Y (e :: es) η) (hp : Plain1 Y pos e es := by exact ⟨rfl, rfl⟩) (hg : Gl Y.X "sorted" := by rfl) : DE Y (.Call (.Name "sorted" p) (e :: es) [] pos) (dCB (δSorted m) η) :=
  de_callB cr_sortedTx (lift_sorted m) hg hm boot_sorted1 ha (he := hp.he) (hpl := hp.hp)
/-! x *= e -/
def ds_augMul {i : Nat} {x : Str} {pos' : Pos} (hN : Y.X.N.Nodup) (hi : Y.X.N[i]? = some x) (hx : Loc Y.X.env.scope x) (he : DE Y e φ) (hf : Y.X.fn x = true ∨ Y.X.env.scope.names.lookup x = some .local := by first | exact .inl rfl | exact .inr rfl | assumption) :
    DS Y (.AugAssign (.Name x pos') .Mult e pos) (dAug i φ (δI CMul fun i j => .int (i * j))) :=
  ds_aug hN hi hx he (show PIp Y.X .Mult (rI CMul fun i j => .int (i * j)) from iop_mul) (lift_I fun _ _ _ => .int _) hf
/-! list(text) -/
def rListTx : List V → Hp → VK → Prop := fun xs H Q => ∃ x : Str, xs = [.str x] ∧ x.cps.size ≤ sizeLine ∧ ∀ p, H p = none → Q (.ref p) (upd H p (.lst (x.cps.toList.map fun c => V.str ⟨#[c]⟩)))
theorem call_listTx {X : Cx} (hc : X.calm = true) : CallR X (.type "list") rListTx := by
  intro pins s σ H xs us Q I r h
  obtain ⟨x, rfl, hz, q⟩ := h
  obtain ⟨u, rfl, rx⟩ := r.one
  obtain ⟨t, rfl⟩ := rx
  refine PySem.call_list_str (hn := hz) (I.ok.hd hc) x t fun h' tk acc c kp e it => ?_
  have hl : (x.cps.toList.map fun c => V.str ⟨#[c]⟩).length = acc.toList.length := by rw [List.length_map, Array.length_toList, Array.length_toList, it.1]
  have rv : Vals (x.cps.toList.map fun c => V.str ⟨#[c]⟩) acc.toList := by
    refine vals_of_at hl fun j y u hy hu => ?_
    rw [Array.getElem?_toList] at hu
    have hv := it.2 j u hu
    rw [List.getElem?_map, Array.getElem?_toList] at hy
    obtain ⟨c, t', hc', rfl⟩ := hv
    rw [hc'] at hy
    cases (Option.some.inj (show some (V.str ⟨#[c]⟩) = some y from hy))
    exact ⟨t', rfl⟩
  refine ⟨.ref s.heap.objs.size, _, I.laid (t' := tk) (o := .lst (x.cps.toList.map fun c => V.str ⟨#[c]⟩)) kp (Nat.le_refl _) ⟨by rw [List.length_map, Array.length_toList]; exact hz, acc.toList, c, rv, by rw [Array.toArray_toList]; exact e⟩, rfl, q _ (I.hok.fresh (Nat.le_refl _))⟩
def δListTx (m : Bool) : FN := fun xs M Kp => match xs with
  | [.str x] => x.length ≤ sizeLine ∧ newL m (signsD x) M Kp
  | _ => False
theorem lift_listTx {K : PySem.W.Frag} (m : Bool) : LiftN K rListTx (δListTx m) := by
  intro xs M Kp G H vs Q w r h k
  unfold δListTx at h
  split at h
  · obtain ⟨hz, h⟩ := h
    obtain ⟨v, rfl, r1⟩ := r.one_inv
    cases r1
    refine ⟨_, rfl, hz, fun q hq => newL_ok w hq ?_ h k⟩
    have : ∀ l : List Nat, Reps K G (l.map fun c => D.str ⟨#[c]⟩) (l.map fun c => V.str ⟨#[c]⟩) := fun l => by
      induction l with
      | nil => exact .nil
      | cons c l ih => exact .cons (.str _) ih
    exact this _
  · exact h.elim
def de_listofT (m : Bool) (hm : Y.X.mg "list" = none) (ha : DA Y (e :: es) η) (hp : Plain1 Y pos e es := by exact ⟨rfl, rfl⟩) (hg : Gl Y.X "list" := by rfl) (hc : Y.X.calm = true := by rfl) : DE Y (.Call (.Name "list" p) (e :: es) [] pos) (dCB (δListTx m) η) :=
  de_callTy (call_listTx hc) (lift_listTx m) hg hm boot_list1 ha (he := hp.he) (hpl := hp.hp)
/-! xs[::-1] -/
def dRev (m : Bool) (φ : FE) : FE := fun ρ M Kp => φ ρ M fun d M1 => ∃ ds, viewL M1 d = some ds ∧ newL m ds.reverse M1 Kp
def de_rev (m : Bool) {k : Nat} {p1 p2 p3 : Pos} (ha : DE Y a φ) : DE Y (.Subscript a (.Slice none none (some (.UnaryOp .USub (.Constant (.int 1) k p1) p2)) p3) pos) (dRev m φ) := by
  refine ⟨_, pe_revL ha.p, fun ρ M Kp G σ H Q at_ h k => ha.s ρ M _ G σ H _ at_ h fun d M1 G1 H1 v e1 w1 r1 h1 => ?_⟩
  obtain ⟨ds, hv, h1⟩ := h1
  obtain ⟨b, vs, rfl, hb, r⟩ := w1.viewL r1 hv
  exact ⟨b, vs, rfl, SqL.of hb, fun q hq => newL_ok w1 hq r.reverse h1 (Kon.mono k e1)⟩
/-! {k: v, ..} of few texts -/
structure DP (Y : Yx) (pos : Pos) (ks : List (Option Expr)) (vs : List Expr) (η : FA) where
  t : List (TE × TE)
  p : PPs Y.X pos ks vs t
  s : ∀ ρ M Kp G σ H (Q : List (V × V) → Hp → Prop), At Y G ρ M σ H → η ρ M Kp → (∀ ds M' G' H' ps, Go G M H G' M' H' → Wd Y.X.K G' M' H' → Reps Y.X.K G' ds (ps.flatMap fun q => [q.1, q.2]) → Kp ds M' → Q ps H') → tPairs t σ H Q
def dp_nil : DP Y pos [] [] dNil := ⟨_, pps_nil, fun ρ M Kp G σ H Q a h k => k [] M G H [] (Go.refl _ _ _) a.wd .nil h⟩
def dp_cons {ks : List (Option Expr)} {vs : List Expr} (hk : DE Y a φ) (hv : DE Y b ψ) (hr : DP Y pos ks vs η) : DP Y pos (some a :: ks) (b :: vs) (dCons φ (dCons ψ η)) := by
  refine ⟨_, pps_cons hk.p hv.p hr.p, fun ρ M Kp G σ H Q at_ h k => ?_⟩
  refine hk.s ρ M _ G σ H _ at_ h fun x M1 G1 H1 vx e1 w1 r1 h1 => hv.s ρ M1 _ G1 σ H1 _ (at_.step e1 w1) h1 fun y M2 G2 H2 vy e2 w2 r2 h2 => ?_
  refine hr.s ρ M2 _ G2 σ H2 _ (at_.step (e1.trans e2) w2) h2 fun ds M3 G3 H3 ps e3 w3 r3 h3 => ?_
  exact k _ M3 G3 H3 ((vx, vy) :: ps) ((e1.trans e2).trans e3) w3 (.cons (r1.mono (e2.trans e3).ex) (.cons (r2.mono e3.ex) r3)) h3
def dDisp (η : FA) : FE := fun ρ M Kp => η ρ M fun ds M1 => ∃ kvs : List (Key × D), ds = kvs.flatMap (fun kv => [keyOf kv.1, kv.2]) ∧ kvs.length ≤ 15 ∧ (kvs.map (·.1)).Nodup ∧ ∀ p, M1 p = none → Kp (.ptr p) (updM M1 p (.dK kvs))
theorem flat_pairs {K : PySem.W.Frag} {G : Hp} : ∀ {kvs : List (Key × D)} {ps : List (V × V)}, Reps K G (kvs.flatMap fun kv => [keyOf kv.1, kv.2]) (ps.flatMap fun q => [q.1, q.2]) → ∃ vs : List (Key × V), ps = vs.map (fun kv => (kV kv.1, kv.2)) ∧ RepKV K G kvs vs
  | [], [], _ => ⟨[], rfl, .nil⟩
  | [], (x, y) :: ps, r => by cases r
  | (k, d) :: kvs, [], r => by cases r
  | (k, d) :: kvs, (x, y) :: ps, r => by
    cases r with
    | cons r1 r2 =>
      cases r2 with
      | cons r3 r4 =>
        obtain ⟨vs, rfl, rr⟩ := flat_pairs r4
        have e : x = kV k := keyD_rep r1 (by cases k <;> rfl)
        exact ⟨(k, y) :: vs, by rw [e]; rfl, .cons ⟨rfl, r3⟩ rr⟩
theorem putK_app {κ : Type} [DecidableEq κ] {acc : List (κ × V)} {p : κ × V} (h : p.1 ∉ acc.map (·.1)) : putK acc p.1 p.2 = acc ++ [p] := by
  unfold putK
  rw [if_neg]
  intro z
  obtain ⟨q, hq, e⟩ := List.any_eq_true.mp z
  exact h (of_decide_eq_true e ▸ List.mem_map.mpr ⟨q, hq, rfl⟩)
theorem merge_nd : ∀ (kvs acc : List (Key × V)), ((acc ++ kvs).map (·.1)).Nodup → mergeK acc kvs = acc ++ kvs
  | [], acc, _ => by simp [mergeK]
  | p :: r, acc, h => by
    have h1 : p.1 ∉ acc.map (·.1) := fun z => by
      rw [List.map_append, List.nodup_append] at h
      exact h.2.2 _ z _ (List.mem_map.mpr ⟨p, List.mem_cons_self .., rfl⟩) rfl
    show mergeK (putK acc p.1 p.2) r = _
    rw [putK_app h1, merge_nd r (acc ++ [p]) (by rw [List.append_assoc]; exact h), List.append_assoc]
    rfl
def de_disp {ks : List (Option Expr)} {vs : List Expr} (h : DP Y pos ks vs η) (hall : ks.all (·.isSome) = true := by rfl) (hl : ks.length = vs.length := by rfl) (h0 : ks ≠ [] := by simp) (h15 : ks.length ≤ 15 := by decide) : DE Y (.Dict ks vs pos) (dDisp η) := by
  refine ⟨_, pe_disp h.p hall hl h0 h15, fun ρ M Kp G σ H Q a hh k => fun p hp => ?_⟩
  have gL : G p = none := fresh_back a.wd.ex hp
  have mL : M p = none := by
    cases q : M p with
    | none => rfl
    | some mo => obtain ⟨_, o, ho, _⟩ := a.wd.mem p mo q; rw [hp] at ho; cases ho
  have g0 : Go G M H G M (upd H p (.dK [])) := ⟨Ex.refl _, fun b o _ e m g => ⟨g, m, by rw [upd_ne (ne_of_none e hp)]; exact e⟩⟩
  have w0 : Wd Y.X.K G M (upd H p (.dK [])) := ⟨Ex.mut a.wd.ex gL, fun b mo e => by
    obtain ⟨g, o, ho, r⟩ := a.wd.mem b mo e
    exact ⟨g, o, by rw [upd_ne (ne_of_none ho hp)]; exact ho, r⟩⟩
  refine h.s ρ M _ G σ _ _ (a.step g0 w0) hh fun ds M1 G1 H1 ps e1 w1 r1 h1 => ?_
  obtain ⟨q1, q2, q3⟩ := e1.fk p _ (fun _ z => by cases z) upd_same mL gL
  obtain ⟨kvs, rfl, h15', nd, hk⟩ := h1
  obtain ⟨us, rfl, rr⟩ := flat_pairs r1
  refine ⟨q3, us, rfl, by rw [← rr.length]; exact h15', ?_⟩
  have em : mergeK [] us = us := merge_nd us [] (by rw [List.nil_append, rr.fst]; exact nd)
  rw [em]
  have ne : ∀ b o, H b = some o → b ≠ p := fun b o e => ne_of_none e hp
  refine k (.ptr p) (updM M1 p (.dK kvs)) G1 _ _ ⟨e1.ex, fun b o nt e m g => ?_⟩ ⟨Ex.mut w1.ex q1, fun b mo e => ?_⟩ (.ptr p) (hk p q2)
  · obtain ⟨z1, z2, z3⟩ := (g0.trans e1).fk b o nt e m g
    exact ⟨z1, by rw [updM_ne (ne b o e)]; exact z2, by rw [upd_ne (ne b o e)]; exact z3⟩
  · by_cases z : b = p
    · subst z
      rw [updM_same] at e
      cases e
      exact ⟨q1, _, upd_same, us, rfl, rr⟩
    · rw [updM_ne z] at e
      obtain ⟨z1, o, z2, z3⟩ := w1.mem b mo e
      exact ⟨z1, o, by rw [upd_ne z]; exact z2, z3⟩
end
end Dl
namespace Dl
open PySem PySem.Spec PyProof.Rows L2 Evl
section
variable {Y : Yx} {pos : Pos} {a b c : Expr} {η : FA}
/-- x, y, z = a, b, c -/
def dPar3 (i j l : Nat) (η : FA) : FSt := fun KK ρ M => η ρ M fun ds M1 => match ds with
  | [x, y, z] => KK.nx (((ρ.set i (some x)).set j (some y)).set l (some z)) M1
  | _ => False
def ds_par3 {i j l : Nat} {x y z : Str} {px py pz pt : Pos} {kt k2 pt2} (hc : Y.X.calm = true) (hN : Y.X.N.Nodup) (hi : Y.X.N[i]? = some x) (hj : Y.X.N[j]? = some y) (hl : Y.X.N[l]? = some z) (hij : i ≠ j) (hil : i ≠ l) (hjl : j ≠ l)
    (hx : Y.X.env.scope.names.lookup x = some .local) (hy : Y.X.env.scope.names.lookup y = some .local) (hz : Y.X.env.scope.names.lookup z = some .local) (ha : DA Y [a, b, c] η)
    (hw : swappedStores [.Tuple [.Name x px, .Name y py, .Name z pz] kt pt] (.Tuple [a, b, c] k2 pt2) Y.X.env = pure (some [x, y, z]))
    (hs : swapsWithSole [.Tuple [.Name x px, .Name y py, .Name z pz] kt pt] (.Tuple [a, b, c] k2 pt2) pos.line Y.X.env = pure false := by rfl) :
    DS Y (.Assign [.Tuple [.Name x px, .Name y py, .Name z pz] kt pt] (.Tuple [a, b, c] k2 pt2) pos) (dPar3 i j l η) := by
  refine ⟨_, ps_par3 hc hN hi hj hl hij hil hjl hx hy hz ha.p hw hs, fun ρ M KK G σ H E at_ h k => ha.s ρ M _ G σ H _ at_ h fun ds M1 G1 H1 vs e1 w1 r1 h1 => ?_⟩
  split at h1
  · cases r1 with
    | cons r1 r2 =>
      obtain ⟨v, u, rfl, r3, r4⟩ := r2.two_inv
      exact ⟨_, v, u, rfl, k.nx _ M1 G1 _ H1 e1 w1 ((((at_.rr.mono e1.ex).set r1 i).set r3 j).set r4 l) h1⟩
  · exact h1.elim
end
end Dl
end
noncomputable section
namespace Lw
open PySem PySem.Spec PyProof.Rows L2 Evl Dl
abbrev RWL : PySem.W.OpenLaw := PySem.Challenge.rw_wordhulls_k61_room_and_fillings
def top (i : Nat) : Stmt := RWL.prog.main.body.getD i (.Pass ⟨0, 0, 0, 0⟩)
abbrev prog : Program := RWL.prog
structure Ad where
  C_Stock : Addr
def IC_kept_words (A : Ad) : Addr → Prop := fun C => C = A.C_Stock
abbrev nm_check_letters : List Str := [("stock" : Str), ("letters" : Str), ("word" : Str), ("sign" : Str)]
abbrev pr_check_letters : List Str := [("stock" : Str), ("letters" : Str)]
abbrev ad_check_letters (K : PySem.W.Frag) : Addr := He.ga K "check_letters"
abbrev nm_starts_of : List Str := [("words" : Str), ("found" : Str), ("one" : Str), ("word" : Str), ("other" : Str), ("longer" : Str)]
abbrev pr_starts_of : List Str := [("words" : Str)]
abbrev ad_starts_of (K : PySem.W.Frag) : Addr := He.ga K "starts_of"
abbrev nm_steps_of : List Str := [("words" : Str), ("rest" : Str), ("found" : Str), ("number" : Str), ("word" : Str)]
abbrev pr_steps_of : List Str := [("words" : Str), ("rest" : Str)]
abbrev ad_steps_of (K : PySem.W.Frag) : Addr := He.ga K "steps_of"
abbrev nm_rests_from : List Str := [("words" : Str), ("waiting" : Str), ("one" : Str), ("other" : Str), ("rest" : Str), ("found" : Str), ("number" : Str), ("later" : Str), ("leads" : Str)]
abbrev pr_rests_from : List Str := [("words" : Str)]
abbrev ad_rests_from (K : PySem.W.Frag) : Addr := He.ga K "rests_from"
abbrev nm_is_one_way : List Str := [("stock" : Str)]
abbrev pr_is_one_way : List Str := [("stock" : Str)]
abbrev ad_is_one_way (K : PySem.W.Frag) : Addr := He.ga K "is_one_way"
abbrev nm_check_one_way : List Str := [("stock" : Str)]
abbrev pr_check_one_way : List Str := [("stock" : Str)]
abbrev ad_check_one_way (K : PySem.W.Frag) : Addr := He.ga K "check_one_way"
abbrev nm_power_of : List Str := [("number" : Str), ("times" : Str), ("found" : Str), ("turn" : Str)]
abbrev pr_power_of : List Str := [("number" : Str), ("times" : Str)]
abbrev ad_power_of (K : PySem.W.Frag) : Addr := He.ga K "power_of"
abbrev nm_lowest : List Str := [("top" : Str), ("bottom" : Str), ("left" : Str), ("right" : Str)]
abbrev pr_lowest : List Str := [("top" : Str), ("bottom" : Str)]
abbrev ad_lowest (K : PySem.W.Frag) : Addr := He.ga K "lowest"
abbrev nm_room_of : List Str := [("stock" : Str), ("letters" : Str), ("longest" : Str), ("word" : Str), ("top" : Str)]
abbrev pr_room_of : List Str := [("stock" : Str), ("letters" : Str)]
abbrev ad_room_of (K : PySem.W.Frag) : Addr := He.ga K "room_of"
abbrev nm_is_full : List Str := [("stock" : Str), ("letters" : Str)]
abbrev pr_is_full : List Str := [("stock" : Str), ("letters" : Str)]
abbrev ad_is_full (K : PySem.W.Frag) : Addr := He.ga K "is_full"
abbrev nm_is_row : List Str := [("signs" : Str), ("sign" : Str)]
abbrev pr_is_row : List Str := [("signs" : Str)]
abbrev ad_is_row (K : PySem.W.Frag) : Addr := He.ga K "is_row"
abbrev nm_check_words : List Str := [("words" : Str), ("index" : Str), ("word" : Str)]
abbrev pr_check_words : List Str := [("words" : Str)]
abbrev ad_check_words (K : PySem.W.Frag) : Addr := He.ga K "check_words"
abbrev nm_Stock___init__ : List Str := [("self" : Str), ("words" : Str)]
abbrev pr_Stock___init__ : List Str := [("self" : Str), ("words" : Str)]
abbrev ad_Stock___init__ (K : PySem.W.Frag) : Addr := He.ma K (He.ga K "Stock") "__init__"
abbrev nm__law_pool : List Str := [("script" : Str), ("spot" : Str), ("cell" : Str)]
abbrev pr__law_pool : List Str := [("script" : Str), ("spot" : Str)]
abbrev ad__law_pool (K : PySem.W.Frag) : Addr := He.ga K "_law_pool"
abbrev nm__law_draw : List Str := [("pool" : Str), ("span" : Str), ("drawn" : Str), ("mixed" : Str)]
abbrev pr__law_draw : List Str := [("pool" : Str), ("span" : Str)]
abbrev ad__law_draw (K : PySem.W.Frag) : Addr := He.ga K "_law_draw"
abbrev nm__law_word : List Str := [("pool" : Str), ("widest" : Str), ("signs" : Str), ("turn" : Str)]
abbrev pr__law_word : List Str := [("pool" : Str), ("widest" : Str), ("signs" : Str)]
abbrev ad__law_word (K : PySem.W.Frag) : Addr := He.ga K "_law_word"
abbrev nm__law_small_lot : List Str := [("pool" : Str), ("signs" : Str), ("widest" : Str), ("found" : Str), ("turn" : Str), ("fresh" : Str)]
abbrev pr__law_small_lot : List Str := [("pool" : Str), ("signs" : Str), ("widest" : Str)]
abbrev ad__law_small_lot (K : PySem.W.Frag) : Addr := He.ga K "_law_small_lot"
abbrev nm_room : List Str := [("stock" : Str), ("letters" : Str)]
abbrev pr_room : List Str := [("stock" : Str), ("letters" : Str)]
abbrev ad_room (K : PySem.W.Frag) : Addr := He.ga K "room"
abbrev nm__law_power : List Str := [("size" : Str), ("often" : Str), ("found" : Str), ("turn" : Str)]
abbrev pr__law_power : List Str := [("size" : Str), ("often" : Str)]
abbrev ad__law_power (K : PySem.W.Frag) : Addr := He.ga K "_law_power"
abbrev nm__law_low : List Str := [("top" : Str), ("bottom" : Str), ("left" : Str), ("right" : Str)]
abbrev pr__law_low : List Str := [("top" : Str), ("bottom" : Str)]
abbrev ad__law_low (K : PySem.W.Frag) : Addr := He.ga K "_law_low"
abbrev nm__law_room : List Str := [("lot" : Str), ("count_here" : Str), ("top" : Str), ("step" : Str)]
abbrev pr__law_room : List Str := [("lot" : Str), ("count_here" : Str)]
abbrev ad__law_room (K : PySem.W.Frag) : Addr := He.ga K "_law_room"
abbrev nm__law_rests : List Str := [("lot" : Str), ("waiting" : Str), ("found" : Str), ("is_alike" : Str), ("short" : Str), ("longer" : Str), ("rest" : Str), ("step" : Str)]
abbrev pr__law_rests : List Str := [("lot" : Str)]
abbrev ad__law_rests (K : PySem.W.Frag) : Addr := He.ga K "_law_rests"
abbrev nm__law_eased : List Str := [("lot" : Str), ("found" : Str), ("fresh" : Str)]
abbrev pr__law_eased : List Str := [("lot" : Str)]
abbrev ad__law_eased (K : PySem.W.Frag) : Addr := He.ga K "_law_eased"
abbrev nm__law_apart : List Str := [("lot" : Str), ("found" : Str), ("fresh" : Str), ("step" : Str)]
abbrev pr__law_apart : List Str := [("lot" : Str)]
abbrev ad__law_apart (K : PySem.W.Frag) : Addr := He.ga K "_law_apart"
abbrev nm__law_filling : List Str := [("lot" : Str), ("signs" : Str), ("found" : Str), ("level" : Str), ("longer" : Str), ("line" : Str), ("sign" : Str), ("fresh" : Str), ("step" : Str)]
abbrev pr__law_filling : List Str := [("lot" : Str), ("signs" : Str)]
abbrev ad__law_filling (K : PySem.W.Frag) : Addr := He.ga K "_law_filling"
abbrev nm_check_apart : List Str := [("stock" : Str), ("one" : Str), ("word" : Str), ("other" : Str), ("longer" : Str)]
abbrev pr_check_apart : List Str := [("stock" : Str)]
abbrev ad_check_apart (K : PySem.W.Frag) : Addr := He.ga K "check_apart"
abbrev nm_filling : List Str := [("stock" : Str), ("letters" : Str), ("begins" : Str), ("word" : Str), ("size" : Str), ("found" : Str), ("begin" : Str), ("sign" : Str)]
abbrev pr_filling : List Str := [("stock" : Str), ("letters" : Str)]
abbrev ad_filling (K : PySem.W.Frag) : Addr := He.ga K "filling"
abbrev nm__law_long_right : List Str := [("pool" : Str), ("step" : Str), ("turn" : Str), ("due" : Str), ("at" : Str)]
abbrev pr__law_long_right : List Str := [("pool" : Str)]
abbrev ad__law_long_right (K : PySem.W.Frag) : Addr := He.ga K "_law_long_right"
abbrev nm__law_right : List Str := [("pool" : Str), ("signs" : Str), ("lot" : Str), ("count_here" : Str), ("eased" : Str), ("split" : Str), ("due" : Str), ("both" : Str), ("step" : Str)]
abbrev pr__law_right : List Str := [("pool" : Str)]
abbrev ad__law_right (K : PySem.W.Frag) : Addr := He.ga K "_law_right"
abbrev nm_law : List Str := [("script" : Str), ("spot" : Str), ("pool" : Str), ("turn" : Str)]
abbrev pr_law : List Str := [("script" : Str)]
abbrev ad_law (K : PySem.W.Frag) : Addr := He.ga K "law"
def fa_ : List He.Fa := [.free "len", .free "abs", .free "all", .free "sum", .free "int", .free "tuple", .free "list", .free "max", .free "min", .free "range", .free "enumerate", .free "sorted", .glo "check_letters", .glo "starts_of", .glo "steps_of", .glo "rests_from", .glo "is_one_way", .glo "check_one_way", .glo "power_of", .glo "lowest", .glo "room_of", .glo "is_full", .glo "is_row", .glo "check_words", .glo "_law_pool", .glo "_law_draw", .glo "_law_word", .glo "_law_small_lot", .glo "room", .glo "_law_power", .glo "_law_low", .glo "_law_room", .glo "_law_rests", .glo "_law_eased", .glo "_law_apart", .glo "_law_filling", .glo "check_apart", .glo "filling", .glo "_law_long_right", .glo "_law_right", .glo "law", .str "LETTERS" "abcdefghijklmnopqrstuvwxyz", .int "MOST_LETTERS" 8, .int "MOST_WORDS" 8, .cls "Stock", .noat "Stock" "kept_words", .glo "Stock", .mkr "Stock"]
def fn_ : List He.DefD := [⟨("check_letters", none), "check_letters", "check_letters", defArgs (top 29), defBody (top 29), defScope (top 29), [], []⟩,
  ⟨("starts_of", none), "starts_of", "starts_of", defArgs (top 20), defBody (top 20), defScope (top 20), [], []⟩,
  ⟨("steps_of", none), "steps_of", "steps_of", defArgs (top 21), defBody (top 21), defScope (top 21), [], []⟩,
  ⟨("rests_from", none), "rests_from", "rests_from", defArgs (top 22), defBody (top 22), defScope (top 22), [], []⟩,
  ⟨("is_one_way", none), "is_one_way", "is_one_way", defArgs (top 23), defBody (top 23), defScope (top 23), [], []⟩,
  ⟨("check_one_way", none), "check_one_way", "check_one_way", defArgs (top 27), defBody (top 27), defScope (top 27), [], []⟩,
  ⟨("power_of", none), "power_of", "power_of", defArgs (top 30), defBody (top 30), defScope (top 30), [], []⟩,
  ⟨("lowest", none), "lowest", "lowest", defArgs (top 31), defBody (top 31), defScope (top 31), [], []⟩,
  ⟨("room_of", none), "room_of", "room_of", defArgs (top 32), defBody (top 32), defScope (top 32), [], []⟩,
  ⟨("is_full", none), "is_full", "is_full", defArgs (top 34), defBody (top 34), defScope (top 34), [], []⟩,
  ⟨("is_row", none), "is_row", "is_row", defArgs (top 11), defBody (top 11), defScope (top 11), [], []⟩,
  ⟨("check_words", none), "check_words", "check_words", defArgs (top 12), defBody (top 12), defScope (top 12), [], []⟩,
  ⟨("Stock", some "__init__"), "__init__", "Stock.__init__", defArgs (inClass (top 14) 0), defBody (inClass (top 14) 0), defScope (inClass (top 14) 0), [], []⟩,
  ⟨("_law_pool", none), "_law_pool", "_law_pool", defArgs (top 38), defBody (top 38), defScope (top 38), [], []⟩,
  ⟨("_law_draw", none), "_law_draw", "_law_draw", defArgs (top 39), defBody (top 39), defScope (top 39), [], []⟩,
  ⟨("_law_word", none), "_law_word", "_law_word", defArgs (top 40), defBody (top 40), defScope (top 40), [], []⟩,
  ⟨("_law_small_lot", none), "_law_small_lot", "_law_small_lot", defArgs (top 46), defBody (top 46), defScope (top 46), [], []⟩,
  ⟨("room", none), "room", "room", defArgs (top 33), defBody (top 33), defScope (top 33), [], []⟩,
  ⟨("_law_power", none), "_law_power", "_law_power", defArgs (top 44), defBody (top 44), defScope (top 44), [], []⟩,
  ⟨("_law_low", none), "_law_low", "_law_low", defArgs (top 43), defBody (top 43), defScope (top 43), [], []⟩,
  ⟨("_law_room", none), "_law_room", "_law_room", defArgs (top 45), defBody (top 45), defScope (top 45), [], []⟩,
  ⟨("_law_rests", none), "_law_rests", "_law_rests", defArgs (top 41), defBody (top 41), defScope (top 41), [], []⟩,
  ⟨("_law_eased", none), "_law_eased", "_law_eased", defArgs (top 42), defBody (top 42), defScope (top 42), [], []⟩,
  ⟨("_law_apart", none), "_law_apart", "_law_apart", defArgs (top 47), defBody (top 47), defScope (top 47), [], []⟩,
  ⟨("_law_filling", none), "_law_filling", "_law_filling", defArgs (top 48), defBody (top 48), defScope (top 48), [], []⟩,
  ⟨("check_apart", none), "check_apart", "check_apart", defArgs (top 35), defBody (top 35), defScope (top 35), [], []⟩,
  ⟨("filling", none), "filling", "filling", defArgs (top 36), defBody (top 36), defScope (top 36), [], []⟩,
  ⟨("_law_long_right", none), "_law_long_right", "_law_long_right", defArgs (top 49), defBody (top 49), defScope (top 49), [], []⟩,
  ⟨("_law_right", none), "_law_right", "_law_right", defArgs (top 50), defBody (top 50), defScope (top 50), [], []⟩,
  ⟨("law", none), "law", "law", defArgs (top 51), defBody (top 51), defScope (top 51), [], []⟩]
/-- what the head finds -/
structure Ev (w : World) (K : PySem.W.Frag) (mg : Str → Option Value) where
  n_len : mg "len" = none
  n_abs : mg "abs" = none
  n_all : mg "all" = none
  n_sum : mg "sum" = none
  n_int : mg "int" = none
  n_tuple : mg "tuple" = none
  n_list : mg "list" = none
  n_max : mg "max" = none
  n_min : mg "min" = none
  n_range : mg "range" = none
  n_enumerate : mg "enumerate" = none
  n_sorted : mg "sorted" = none
  d_check_letters : FuncData
  F_check_letters : FunD K "check_letters" "check_letters" (defArgs (top 29)) (defBody (top 29)) (defScope (top 29)) [] [] (ad_check_letters K) d_check_letters
  g_check_letters : mg "check_letters" = some (.ref (ad_check_letters K))
  b_check_letters : Binds K d_check_letters pr_check_letters []
  d_starts_of : FuncData
  F_starts_of : FunD K "starts_of" "starts_of" (defArgs (top 20)) (defBody (top 20)) (defScope (top 20)) [] [] (ad_starts_of K) d_starts_of
  g_starts_of : mg "starts_of" = some (.ref (ad_starts_of K))
  b_starts_of : Binds K d_starts_of pr_starts_of []
  d_steps_of : FuncData
  F_steps_of : FunD K "steps_of" "steps_of" (defArgs (top 21)) (defBody (top 21)) (defScope (top 21)) [] [] (ad_steps_of K) d_steps_of
  g_steps_of : mg "steps_of" = some (.ref (ad_steps_of K))
  b_steps_of : Binds K d_steps_of pr_steps_of []
  d_rests_from : FuncData
  F_rests_from : FunD K "rests_from" "rests_from" (defArgs (top 22)) (defBody (top 22)) (defScope (top 22)) [] [] (ad_rests_from K) d_rests_from
  g_rests_from : mg "rests_from" = some (.ref (ad_rests_from K))
  b_rests_from : Binds K d_rests_from pr_rests_from []
  d_is_one_way : FuncData
  F_is_one_way : FunD K "is_one_way" "is_one_way" (defArgs (top 23)) (defBody (top 23)) (defScope (top 23)) [] [] (ad_is_one_way K) d_is_one_way
  g_is_one_way : mg "is_one_way" = some (.ref (ad_is_one_way K))
  b_is_one_way : Binds K d_is_one_way pr_is_one_way []
  d_check_one_way : FuncData
  F_check_one_way : FunD K "check_one_way" "check_one_way" (defArgs (top 27)) (defBody (top 27)) (defScope (top 27)) [] [] (ad_check_one_way K) d_check_one_way
  g_check_one_way : mg "check_one_way" = some (.ref (ad_check_one_way K))
  b_check_one_way : Binds K d_check_one_way pr_check_one_way []
  d_power_of : FuncData
  F_power_of : FunD K "power_of" "power_of" (defArgs (top 30)) (defBody (top 30)) (defScope (top 30)) [] [] (ad_power_of K) d_power_of
  g_power_of : mg "power_of" = some (.ref (ad_power_of K))
  b_power_of : Binds K d_power_of pr_power_of []
  d_lowest : FuncData
  F_lowest : FunD K "lowest" "lowest" (defArgs (top 31)) (defBody (top 31)) (defScope (top 31)) [] [] (ad_lowest K) d_lowest
  g_lowest : mg "lowest" = some (.ref (ad_lowest K))
  b_lowest : Binds K d_lowest pr_lowest []
  d_room_of : FuncData
  F_room_of : FunD K "room_of" "room_of" (defArgs (top 32)) (defBody (top 32)) (defScope (top 32)) [] [] (ad_room_of K) d_room_of
  g_room_of : mg "room_of" = some (.ref (ad_room_of K))
  b_room_of : Binds K d_room_of pr_room_of []
  d_is_full : FuncData
  F_is_full : FunD K "is_full" "is_full" (defArgs (top 34)) (defBody (top 34)) (defScope (top 34)) [] [] (ad_is_full K) d_is_full
  g_is_full : mg "is_full" = some (.ref (ad_is_full K))
  b_is_full : Binds K d_is_full pr_is_full []
  d_is_row : FuncData
  F_is_row : FunD K "is_row" "is_row" (defArgs (top 11)) (defBody (top 11)) (defScope (top 11)) [] [] (ad_is_row K) d_is_row
  g_is_row : mg "is_row" = some (.ref (ad_is_row K))
  b_is_row : Binds K d_is_row pr_is_row []
  d_check_words : FuncData
  F_check_words : FunD K "check_words" "check_words" (defArgs (top 12)) (defBody (top 12)) (defScope (top 12)) [] [] (ad_check_words K) d_check_words
  g_check_words : mg "check_words" = some (.ref (ad_check_words K))
  b_check_words : Binds K d_check_words pr_check_words []
  d_Stock___init__ : FuncData
  F_Stock___init__ : FunD K "__init__" "Stock.__init__" (defArgs (inClass (top 14) 0)) (defBody (inClass (top 14) 0)) (defScope (inClass (top 14) 0)) [] [] (ad_Stock___init__ K) d_Stock___init__
  b_Stock___init__ : Binds K d_Stock___init__ pr_Stock___init__ []
  d__law_pool : FuncData
  F__law_pool : FunD K "_law_pool" "_law_pool" (defArgs (top 38)) (defBody (top 38)) (defScope (top 38)) [] [] (ad__law_pool K) d__law_pool
  g__law_pool : mg "_law_pool" = some (.ref (ad__law_pool K))
  b__law_pool : Binds K d__law_pool pr__law_pool []
  d__law_draw : FuncData
  F__law_draw : FunD K "_law_draw" "_law_draw" (defArgs (top 39)) (defBody (top 39)) (defScope (top 39)) [] [] (ad__law_draw K) d__law_draw
  g__law_draw : mg "_law_draw" = some (.ref (ad__law_draw K))
  b__law_draw : Binds K d__law_draw pr__law_draw []
  d__law_word : FuncData
  F__law_word : FunD K "_law_word" "_law_word" (defArgs (top 40)) (defBody (top 40)) (defScope (top 40)) [] [] (ad__law_word K) d__law_word
  g__law_word : mg "_law_word" = some (.ref (ad__law_word K))
  b__law_word : Binds K d__law_word pr__law_word []
  d__law_small_lot : FuncData
  F__law_small_lot : FunD K "_law_small_lot" "_law_small_lot" (defArgs (top 46)) (defBody (top 46)) (defScope (top 46)) [] [] (ad__law_small_lot K) d__law_small_lot
  g__law_small_lot : mg "_law_small_lot" = some (.ref (ad__law_small_lot K))
  b__law_small_lot : Binds K d__law_small_lot pr__law_small_lot []
  d_room : FuncData
  F_room : FunD K "room" "room" (defArgs (top 33)) (defBody (top 33)) (defScope (top 33)) [] [] (ad_room K) d_room
  g_room : mg "room" = some (.ref (ad_room K))
  b_room : Binds K d_room pr_room []
  d__law_power : FuncData
  F__law_power : FunD K "_law_power" "_law_power" (defArgs (top 44)) (defBody (top 44)) (defScope (top 44)) [] [] (ad__law_power K) d__law_power
  g__law_power : mg "_law_power" = some (.ref (ad__law_power K))
  b__law_power : Binds K d__law_power pr__law_power []
  d__law_low : FuncData
  F__law_low : FunD K "_law_low" "_law_low" (defArgs (top 43)) (defBody (top 43)) (defScope (top 43)) [] [] (ad__law_low K) d__law_low
  g__law_low : mg "_law_low" = some (.ref (ad__law_low K))
  b__law_low : Binds K d__law_low pr__law_low []
  d__law_room : FuncData
  F__law_room : FunD K "_law_room" "_law_room" (defArgs (top 45)) (defBody (top 45)) (defScope (top 45)) [] [] (ad__law_room K) d__law_room
  g__law_room : mg "_law_room" = some (.ref (ad__law_room K))
  b__law_room : Binds K d__law_room pr__law_room []
  d__law_rests : FuncData
  F__law_rests : FunD K "_law_rests" "_law_rests" (defArgs (top 41)) (defBody (top 41)) (defScope (top 41)) [] [] (ad__law_rests K) d__law_rests
  g__law_rests : mg "_law_rests" = some (.ref (ad__law_rests K))
  b__law_rests : Binds K d__law_rests pr__law_rests []
  d__law_eased : FuncData
  F__law_eased : FunD K "_law_eased" "_law_eased" (defArgs (top 42)) (defBody (top 42)) (defScope (top 42)) [] [] (ad__law_eased K) d__law_eased
  g__law_eased : mg "_law_eased" = some (.ref (ad__law_eased K))
  b__law_eased : Binds K d__law_eased pr__law_eased []
  d__law_apart : FuncData
  F__law_apart : FunD K "_law_apart" "_law_apart" (defArgs (top 47)) (defBody (top 47)) (defScope (top 47)) [] [] (ad__law_apart K) d__law_apart
  g__law_apart : mg "_law_apart" = some (.ref (ad__law_apart K))
  b__law_apart : Binds K d__law_apart pr__law_apart []
  d__law_filling : FuncData
  F__law_filling : FunD K "_law_filling" "_law_filling" (defArgs (top 48)) (defBody (top 48)) (defScope (top 48)) [] [] (ad__law_filling K) d__law_filling
  g__law_filling : mg "_law_filling" = some (.ref (ad__law_filling K))
  b__law_filling : Binds K d__law_filling pr__law_filling []
  d_check_apart : FuncData
  F_check_apart : FunD K "check_apart" "check_apart" (defArgs (top 35)) (defBody (top 35)) (defScope (top 35)) [] [] (ad_check_apart K) d_check_apart
  g_check_apart : mg "check_apart" = some (.ref (ad_check_apart K))
  b_check_apart : Binds K d_check_apart pr_check_apart []
  d_filling : FuncData
  F_filling : FunD K "filling" "filling" (defArgs (top 36)) (defBody (top 36)) (defScope (top 36)) [] [] (ad_filling K) d_filling
  g_filling : mg "filling" = some (.ref (ad_filling K))
  b_filling : Binds K d_filling pr_filling []
  d__law_long_right : FuncData
  F__law_long_right : FunD K "_law_long_right" "_law_long_right" (defArgs (top 49)) (defBody (top 49)) (defScope (top 49)) [] [] (ad__law_long_right K) d__law_long_right
  g__law_long_right : mg "_law_long_right" = some (.ref (ad__law_long_right K))
  b__law_long_right : Binds K d__law_long_right pr__law_long_right []
  d__law_right : FuncData
  F__law_right : FunD K "_law_right" "_law_right" (defArgs (top 50)) (defBody (top 50)) (defScope (top 50)) [] [] (ad__law_right K) d__law_right
  g__law_right : mg "_law_right" = some (.ref (ad__law_right K))
  b__law_right : Binds K d__law_right pr__law_right []
  d_law : FuncData
  F_law : FunD K "law" "law" (defArgs (top 51)) (defBody (top 51)) (defScope (top 51)) [] [] (ad_law K) d_law
  g_law : mg "law" = some (.ref (ad_law K))
  b_law : Binds K d_law pr_law []
  kb_room_0 : KB K d_room pr_room 0 [("stock" : Str), ("letters" : Str)]
  kb_is_full_0 : KB K d_is_full pr_is_full 0 [("stock" : Str), ("letters" : Str)]
  kb_filling_0 : KB K d_filling pr_filling 0 [("stock" : Str), ("letters" : Str)]
  t_LETTERS : Tok
  e_LETTERS : mg "LETTERS" = some (.str (T [97, 98, 99, 100, 101, 102, 103, 104, 105, 106, 107, 108, 109, 110, 111, 112, 113, 114, 115, 116, 117, 118, 119, 120, 121, 122]) t_LETTERS)
  t_MOST_LETTERS : Tok
  e_MOST_LETTERS : mg "MOST_LETTERS" = some (.int 8 t_MOST_LETTERS)
  t_MOST_WORDS : Tok
  e_MOST_WORDS : mg "MOST_WORDS" = some (.int 8 t_MOST_WORDS)
  c_Stock : Cls K (He.ga K "Stock")
  na_Stock_kept_words : NoAttr K (He.ga K "Stock") "kept_words"
  g_Stock : mg "Stock" = some (.ref (He.ga K "Stock"))
  mk_Stock : Mk K (He.ga K "Stock") (He.ma K (He.ga K "Stock") "__init__")
section
variable {w : World} {K : PySem.W.Frag} {mg : Str → Option Value} {base : Heap}
def Ev.A (V : Ev w K mg) : Ad := ⟨He.ga K "Stock"⟩
def Ev.q_LETTERS (V : Ev w K mg) {Y : Yx} {pos : Pos} (h : Y.X.mg = mg) (hg : Gl Y.X "LETTERS") : DE Y (.Name "LETTERS" pos) (dC (.str (T [97, 98, 99, 100, 101, 102, 103, 104, 105, 106, 107, 108, 109, 110, 111, 112, 113, 114, 115, 116, 117, 118, 119, 120, 121, 122]))) := de_glob (v := (.str (T [97, 98, 99, 100, 101, 102, 103, 104, 105, 106, 107, 108, 109, 110, 111, 112, 113, 114, 115, 116, 117, 118, 119, 120, 121, 122]))) hg (by rw [h]; exact V.e_LETTERS) ⟨V.t_LETTERS, rfl⟩ (fun _ => .str _)
def Ev.q_MOST_LETTERS (V : Ev w K mg) {Y : Yx} {pos : Pos} (h : Y.X.mg = mg) (hg : Gl Y.X "MOST_LETTERS") : DE Y (.Name "MOST_LETTERS" pos) (dC (.int 8)) := de_glob (v := (.int 8)) hg (by rw [h]; exact V.e_MOST_LETTERS) ⟨V.t_MOST_LETTERS, rfl⟩ (fun _ => .int _)
def Ev.q_MOST_WORDS (V : Ev w K mg) {Y : Yx} {pos : Pos} (h : Y.X.mg = mg) (hg : Gl Y.X "MOST_WORDS") : DE Y (.Name "MOST_WORDS" pos) (dC (.int 8)) := de_glob (v := (.int 8)) hg (by rw [h]; exact V.e_MOST_WORDS) ⟨V.t_MOST_WORDS, rfl⟩ (fun _ => .int _)
theorem Ev.ic_kept_words (V : Ev w K mg) : ∀ C, IC_kept_words V.A C → Cls K C ∧ NoAttr K C "kept_words" := fun C h => by
  rcases h with rfl
  · exact ⟨V.c_Stock, V.na_Stock_kept_words⟩
theorem mkEv {h : Heap} (X : K.In h) (G : h.Ns mainGlobals mg) (c : He.SaysD fa_ fn_ K) : Nonempty (Ev w K mg) := by
  obtain ⟨d_check_letters, F_check_letters⟩ := c.def_ 0 (d := fn_.getD 0 ⟨("", none), "", "", defArgs (top 0), [], defScope (top 0), [], []⟩) rfl
  obtain ⟨d_starts_of, F_starts_of⟩ := c.def_ 1 (d := fn_.getD 1 ⟨("", none), "", "", defArgs (top 0), [], defScope (top 0), [], []⟩) rfl
  obtain ⟨d_steps_of, F_steps_of⟩ := c.def_ 2 (d := fn_.getD 2 ⟨("", none), "", "", defArgs (top 0), [], defScope (top 0), [], []⟩) rfl
  obtain ⟨d_rests_from, F_rests_from⟩ := c.def_ 3 (d := fn_.getD 3 ⟨("", none), "", "", defArgs (top 0), [], defScope (top 0), [], []⟩) rfl
  obtain ⟨d_is_one_way, F_is_one_way⟩ := c.def_ 4 (d := fn_.getD 4 ⟨("", none), "", "", defArgs (top 0), [], defScope (top 0), [], []⟩) rfl
  obtain ⟨d_check_one_way, F_check_one_way⟩ := c.def_ 5 (d := fn_.getD 5 ⟨("", none), "", "", defArgs (top 0), [], defScope (top 0), [], []⟩) rfl
  obtain ⟨d_power_of, F_power_of⟩ := c.def_ 6 (d := fn_.getD 6 ⟨("", none), "", "", defArgs (top 0), [], defScope (top 0), [], []⟩) rfl
  obtain ⟨d_lowest, F_lowest⟩ := c.def_ 7 (d := fn_.getD 7 ⟨("", none), "", "", defArgs (top 0), [], defScope (top 0), [], []⟩) rfl
  obtain ⟨d_room_of, F_room_of⟩ := c.def_ 8 (d := fn_.getD 8 ⟨("", none), "", "", defArgs (top 0), [], defScope (top 0), [], []⟩) rfl
  obtain ⟨d_is_full, F_is_full⟩ := c.def_ 9 (d := fn_.getD 9 ⟨("", none), "", "", defArgs (top 0), [], defScope (top 0), [], []⟩) rfl
  obtain ⟨d_is_row, F_is_row⟩ := c.def_ 10 (d := fn_.getD 10 ⟨("", none), "", "", defArgs (top 0), [], defScope (top 0), [], []⟩) rfl
  obtain ⟨d_check_words, F_check_words⟩ := c.def_ 11 (d := fn_.getD 11 ⟨("", none), "", "", defArgs (top 0), [], defScope (top 0), [], []⟩) rfl
  obtain ⟨d_Stock___init__, F_Stock___init__⟩ := c.def_ 12 (d := fn_.getD 12 ⟨("", none), "", "", defArgs (top 0), [], defScope (top 0), [], []⟩) rfl
  obtain ⟨d__law_pool, F__law_pool⟩ := c.def_ 13 (d := fn_.getD 13 ⟨("", none), "", "", defArgs (top 0), [], defScope (top 0), [], []⟩) rfl
  obtain ⟨d__law_draw, F__law_draw⟩ := c.def_ 14 (d := fn_.getD 14 ⟨("", none), "", "", defArgs (top 0), [], defScope (top 0), [], []⟩) rfl
  obtain ⟨d__law_word, F__law_word⟩ := c.def_ 15 (d := fn_.getD 15 ⟨("", none), "", "", defArgs (top 0), [], defScope (top 0), [], []⟩) rfl
  obtain ⟨d__law_small_lot, F__law_small_lot⟩ := c.def_ 16 (d := fn_.getD 16 ⟨("", none), "", "", defArgs (top 0), [], defScope (top 0), [], []⟩) rfl
  obtain ⟨d_room, F_room⟩ := c.def_ 17 (d := fn_.getD 17 ⟨("", none), "", "", defArgs (top 0), [], defScope (top 0), [], []⟩) rfl
  obtain ⟨d__law_power, F__law_power⟩ := c.def_ 18 (d := fn_.getD 18 ⟨("", none), "", "", defArgs (top 0), [], defScope (top 0), [], []⟩) rfl
  obtain ⟨d__law_low, F__law_low⟩ := c.def_ 19 (d := fn_.getD 19 ⟨("", none), "", "", defArgs (top 0), [], defScope (top 0), [], []⟩) rfl
  obtain ⟨d__law_room, F__law_room⟩ := c.def_ 20 (d := fn_.getD 20 ⟨("", none), "", "", defArgs (top 0), [], defScope (top 0), [], []⟩) rfl
  obtain ⟨d__law_rests, F__law_rests⟩ := c.def_ 21 (d := fn_.getD 21 ⟨("", none), "", "", defArgs (top 0), [], defScope (top 0), [], []⟩) rfl
  obtain ⟨d__law_eased, F__law_eased⟩ := c.def_ 22 (d := fn_.getD 22 ⟨("", none), "", "", defArgs (top 0), [], defScope (top 0), [], []⟩) rfl
  obtain ⟨d__law_apart, F__law_apart⟩ := c.def_ 23 (d := fn_.getD 23 ⟨("", none), "", "", defArgs (top 0), [], defScope (top 0), [], []⟩) rfl
  obtain ⟨d__law_filling, F__law_filling⟩ := c.def_ 24 (d := fn_.getD 24 ⟨("", none), "", "", defArgs (top 0), [], defScope (top 0), [], []⟩) rfl
  obtain ⟨d_check_apart, F_check_apart⟩ := c.def_ 25 (d := fn_.getD 25 ⟨("", none), "", "", defArgs (top 0), [], defScope (top 0), [], []⟩) rfl
  obtain ⟨d_filling, F_filling⟩ := c.def_ 26 (d := fn_.getD 26 ⟨("", none), "", "", defArgs (top 0), [], defScope (top 0), [], []⟩) rfl
  obtain ⟨d__law_long_right, F__law_long_right⟩ := c.def_ 27 (d := fn_.getD 27 ⟨("", none), "", "", defArgs (top 0), [], defScope (top 0), [], []⟩) rfl
  obtain ⟨d__law_right, F__law_right⟩ := c.def_ 28 (d := fn_.getD 28 ⟨("", none), "", "", defArgs (top 0), [], defScope (top 0), [], []⟩) rfl
  obtain ⟨d_law, F_law⟩ := c.def_ 29 (d := fn_.getD 29 ⟨("", none), "", "", defArgs (top 0), [], defScope (top 0), [], []⟩) rfl
  obtain ⟨t_LETTERS, e_LETTERS⟩ := He.str_ok X G (c.fact 41 (f := .str "LETTERS" "abcdefghijklmnopqrstuvwxyz") rfl)
  obtain ⟨t_MOST_LETTERS, e_MOST_LETTERS⟩ := He.int_ok X G (c.fact 42 (f := .int "MOST_LETTERS" 8) rfl)
  obtain ⟨t_MOST_WORDS, e_MOST_WORDS⟩ := He.int_ok X G (c.fact 43 (f := .int "MOST_WORDS" 8) rfl)
  exact ⟨{
    n_len := (He.free_ok X G (c.fact 0 (f := .free "len") rfl)),
    n_abs := (He.free_ok X G (c.fact 1 (f := .free "abs") rfl)),
    n_all := (He.free_ok X G (c.fact 2 (f := .free "all") rfl)),
    n_sum := (He.free_ok X G (c.fact 3 (f := .free "sum") rfl)),
    n_int := (He.free_ok X G (c.fact 4 (f := .free "int") rfl)),
    n_tuple := (He.free_ok X G (c.fact 5 (f := .free "tuple") rfl)),
    n_list := (He.free_ok X G (c.fact 6 (f := .free "list") rfl)),
    n_max := (He.free_ok X G (c.fact 7 (f := .free "max") rfl)),
    n_min := (He.free_ok X G (c.fact 8 (f := .free "min") rfl)),
    n_range := (He.free_ok X G (c.fact 9 (f := .free "range") rfl)),
    n_enumerate := (He.free_ok X G (c.fact 10 (f := .free "enumerate") rfl)),
    n_sorted := (He.free_ok X G (c.fact 11 (f := .free "sorted") rfl)),
    d_check_letters := (d_check_letters),
    F_check_letters := (F_check_letters),
    g_check_letters := (He.glo_ok X G (c.fact 12 (f := .glo "check_letters") rfl)),
    b_check_letters := (FunD.bindsN F_check_letters fun _ _ _ _ _ _ us hl => match us, hl with | [_, _], _ => rfl),
    d_starts_of := (d_starts_of),
    F_starts_of := (F_starts_of),
    g_starts_of := (He.glo_ok X G (c.fact 13 (f := .glo "starts_of") rfl)),
    b_starts_of := (FunD.bindsN F_starts_of fun _ _ _ _ _ _ us hl => match us, hl with | [_], _ => rfl),
    d_steps_of := (d_steps_of),
    F_steps_of := (F_steps_of),
    g_steps_of := (He.glo_ok X G (c.fact 14 (f := .glo "steps_of") rfl)),
    b_steps_of := (FunD.bindsN F_steps_of fun _ _ _ _ _ _ us hl => match us, hl with | [_, _], _ => rfl),
    d_rests_from := (d_rests_from),
    F_rests_from := (F_rests_from),
    g_rests_from := (He.glo_ok X G (c.fact 15 (f := .glo "rests_from") rfl)),
    b_rests_from := (FunD.bindsN F_rests_from fun _ _ _ _ _ _ us hl => match us, hl with | [_], _ => rfl),
    d_is_one_way := (d_is_one_way),
    F_is_one_way := (F_is_one_way),
    g_is_one_way := (He.glo_ok X G (c.fact 16 (f := .glo "is_one_way") rfl)),
    b_is_one_way := (FunD.bindsN F_is_one_way fun _ _ _ _ _ _ us hl => match us, hl with | [_], _ => rfl),
    d_check_one_way := (d_check_one_way),
    F_check_one_way := (F_check_one_way),
    g_check_one_way := (He.glo_ok X G (c.fact 17 (f := .glo "check_one_way") rfl)),
    b_check_one_way := (FunD.bindsN F_check_one_way fun _ _ _ _ _ _ us hl => match us, hl with | [_], _ => rfl),
    d_power_of := (d_power_of),
    F_power_of := (F_power_of),
    g_power_of := (He.glo_ok X G (c.fact 18 (f := .glo "power_of") rfl)),
    b_power_of := (FunD.bindsN F_power_of fun _ _ _ _ _ _ us hl => match us, hl with | [_, _], _ => rfl),
    d_lowest := (d_lowest),
    F_lowest := (F_lowest),
    g_lowest := (He.glo_ok X G (c.fact 19 (f := .glo "lowest") rfl)),
    b_lowest := (FunD.bindsN F_lowest fun _ _ _ _ _ _ us hl => match us, hl with | [_, _], _ => rfl),
    d_room_of := (d_room_of),
    F_room_of := (F_room_of),
    g_room_of := (He.glo_ok X G (c.fact 20 (f := .glo "room_of") rfl)),
    b_room_of := (FunD.bindsN F_room_of fun _ _ _ _ _ _ us hl => match us, hl with | [_, _], _ => rfl),
    d_is_full := (d_is_full),
    F_is_full := (F_is_full),
    g_is_full := (He.glo_ok X G (c.fact 21 (f := .glo "is_full") rfl)),
    b_is_full := (FunD.bindsN F_is_full fun _ _ _ _ _ _ us hl => match us, hl with | [_, _], _ => rfl),
    d_is_row := (d_is_row),
    F_is_row := (F_is_row),
    g_is_row := (He.glo_ok X G (c.fact 22 (f := .glo "is_row") rfl)),
    b_is_row := (FunD.bindsN F_is_row fun _ _ _ _ _ _ us hl => match us, hl with | [_], _ => rfl),
    d_check_words := (d_check_words),
    F_check_words := (F_check_words),
    g_check_words := (He.glo_ok X G (c.fact 23 (f := .glo "check_words") rfl)),
    b_check_words := (FunD.bindsN F_check_words fun _ _ _ _ _ _ us hl => match us, hl with | [_], _ => rfl),
    d_Stock___init__ := (d_Stock___init__),
    F_Stock___init__ := (F_Stock___init__),
    b_Stock___init__ := (FunD.bindsN F_Stock___init__ fun _ _ _ _ _ _ us hl => match us, hl with | [_, _], _ => rfl),
    d__law_pool := (d__law_pool),
    F__law_pool := (F__law_pool),
    g__law_pool := (He.glo_ok X G (c.fact 24 (f := .glo "_law_pool") rfl)),
    b__law_pool := (FunD.bindsN F__law_pool fun _ _ _ _ _ _ us hl => match us, hl with | [_, _], _ => rfl),
    d__law_draw := (d__law_draw),
    F__law_draw := (F__law_draw),
    g__law_draw := (He.glo_ok X G (c.fact 25 (f := .glo "_law_draw") rfl)),
    b__law_draw := (FunD.bindsN F__law_draw fun _ _ _ _ _ _ us hl => match us, hl with | [_, _], _ => rfl),
    d__law_word := (d__law_word),
    F__law_word := (F__law_word),
    g__law_word := (He.glo_ok X G (c.fact 26 (f := .glo "_law_word") rfl)),
    b__law_word := (FunD.bindsN F__law_word fun _ _ _ _ _ _ us hl => match us, hl with | [_, _, _], _ => rfl),
    d__law_small_lot := (d__law_small_lot),
    F__law_small_lot := (F__law_small_lot),
    g__law_small_lot := (He.glo_ok X G (c.fact 27 (f := .glo "_law_small_lot") rfl)),
    b__law_small_lot := (FunD.bindsN F__law_small_lot fun _ _ _ _ _ _ us hl => match us, hl with | [_, _, _], _ => rfl),
    d_room := (d_room),
    F_room := (F_room),
    g_room := (He.glo_ok X G (c.fact 28 (f := .glo "room") rfl)),
    b_room := (FunD.bindsN F_room fun _ _ _ _ _ _ us hl => match us, hl with | [_, _], _ => rfl),
    d__law_power := (d__law_power),
    F__law_power := (F__law_power),
    g__law_power := (He.glo_ok X G (c.fact 29 (f := .glo "_law_power") rfl)),
    b__law_power := (FunD.bindsN F__law_power fun _ _ _ _ _ _ us hl => match us, hl with | [_, _], _ => rfl),
    d__law_low := (d__law_low),
    F__law_low := (F__law_low),
    g__law_low := (He.glo_ok X G (c.fact 30 (f := .glo "_law_low") rfl)),
    b__law_low := (FunD.bindsN F__law_low fun _ _ _ _ _ _ us hl => match us, hl with | [_, _], _ => rfl),
    d__law_room := (d__law_room),
    F__law_room := (F__law_room),
    g__law_room := (He.glo_ok X G (c.fact 31 (f := .glo "_law_room") rfl)),
    b__law_room := (FunD.bindsN F__law_room fun _ _ _ _ _ _ us hl => match us, hl with | [_, _], _ => rfl),
    d__law_rests := (d__law_rests),
    F__law_rests := (F__law_rests),
    g__law_rests := (He.glo_ok X G (c.fact 32 (f := .glo "_law_rests") rfl)),
    b__law_rests := (FunD.bindsN F__law_rests fun _ _ _ _ _ _ us hl => match us, hl with | [_], _ => rfl),
    d__law_eased := (d__law_eased),
    F__law_eased := (F__law_eased),
    g__law_eased := (He.glo_ok X G (c.fact 33 (f := .glo "_law_eased") rfl)),
    b__law_eased := (FunD.bindsN F__law_eased fun _ _ _ _ _ _ us hl => match us, hl with | [_], _ => rfl),
    d__law_apart := (d__law_apart),
    F__law_apart := (F__law_apart),
    g__law_apart := (He.glo_ok X G (c.fact 34 (f := .glo "_law_apart") rfl)),
    b__law_apart := (FunD.bindsN F__law_apart fun _ _ _ _ _ _ us hl => match us, hl with | [_], _ => rfl),
    d__law_filling := (d__law_filling),
    F__law_filling := (F__law_filling),
    g__law_filling := (He.glo_ok X G (c.fact 35 (f := .glo "_law_filling") rfl)),
    b__law_filling := (FunD.bindsN F__law_filling fun _ _ _ _ _ _ us hl => match us, hl with | [_, _], _ => rfl),
    d_check_apart := (d_check_apart),
    F_check_apart := (F_check_apart),
    g_check_apart := (He.glo_ok X G (c.fact 36 (f := .glo "check_apart") rfl)),
    b_check_apart := (FunD.bindsN F_check_apart fun _ _ _ _ _ _ us hl => match us, hl with | [_], _ => rfl),
    d_filling := (d_filling),
    F_filling := (F_filling),
    g_filling := (He.glo_ok X G (c.fact 37 (f := .glo "filling") rfl)),
    b_filling := (FunD.bindsN F_filling fun _ _ _ _ _ _ us hl => match us, hl with | [_, _], _ => rfl),
    d__law_long_right := (d__law_long_right),
    F__law_long_right := (F__law_long_right),
    g__law_long_right := (He.glo_ok X G (c.fact 38 (f := .glo "_law_long_right") rfl)),
    b__law_long_right := (FunD.bindsN F__law_long_right fun _ _ _ _ _ _ us hl => match us, hl with | [_], _ => rfl),
    d__law_right := (d__law_right),
    F__law_right := (F__law_right),
    g__law_right := (He.glo_ok X G (c.fact 39 (f := .glo "_law_right") rfl)),
    b__law_right := (FunD.bindsN F__law_right fun _ _ _ _ _ _ us hl => match us, hl with | [_], _ => rfl),
    d_law := (d_law),
    F_law := (F_law),
    g_law := (He.glo_ok X G (c.fact 40 (f := .glo "law") rfl)),
    b_law := (FunD.bindsN F_law fun _ _ _ _ _ _ us hl => match us, hl with | [_], _ => rfl),
    kb_room_0 := (kbN F_room fun _ _ _ _ _ _ us ws h1 h2 => match us, ws, h1, h2 with | [], [_, _], _, _ => rfl),
    kb_is_full_0 := (kbN F_is_full fun _ _ _ _ _ _ us ws h1 h2 => match us, ws, h1, h2 with | [], [_, _], _, _ => rfl),
    kb_filling_0 := (kbN F_filling fun _ _ _ _ _ _ us ws h1 h2 => match us, ws, h1, h2 with | [], [_, _], _, _ => rfl),
    t_LETTERS := (t_LETTERS),
    e_LETTERS := (e_LETTERS),
    t_MOST_LETTERS := (t_MOST_LETTERS),
    e_MOST_LETTERS := (e_MOST_LETTERS),
    t_MOST_WORDS := (t_MOST_WORDS),
    e_MOST_WORDS := (e_MOST_WORDS),
    c_Stock := (He.cls_ok (c.fact 44 (f := .cls "Stock") rfl)),
    na_Stock_kept_words := (He.noat_ok (c.fact 45 (f := .noat "Stock" "kept_words") rfl)),
    g_Stock := (He.glo_ok X G (c.fact 46 (f := .glo "Stock") rfl)),
    mk_Stock := (He.mkr_ok (c.fact 47 (f := .mkr "Stock") rfl)) }⟩
end
end Lw
end
noncomputable section
namespace Lw
open PySem PySem.Spec PyProof.Rows L2 Evl Dl Classical
abbrev LET : List Nat := [97, 98, 99, 100, 101, 102, 103, 104, 105, 106, 107, 108, 109, 110, 111, 112, 113, 114, 115, 116, 117, 118, 119, 120, 121, 122]
abbrev Wd1 : Type := List Nat
def tD (w : Wd1) : D := .str (T w)
def wsD (ws : List Wd1) : List D := ws.map tD
def Row (w : Wd1) : Prop := ∀ c ∈ w, c ∈ LET
/-- words that a stock may hold -/
structure Good (ws : List Wd1) : Prop where
  one : 1 ≤ ws.length
  few : ws.length ≤ 8
  len : ∀ w ∈ ws, 1 ≤ w.length ∧ w.length ≤ 8
  row : ∀ w ∈ ws, Row w
  nd : ws.Nodup
def stk (A : Ad) (ws : List Wd1) : D := .ins A.C_Stock [("kept_words" : Str)] [.tup (wsD ws)]
def fs_is_row (A : Ad) : FS := fun ds M Kp KE => ∃ w : Wd1, ds = [tD w] ∧ w.length ≤ sizeLine ∧ Kp (.bl (decide (Row w))) M
def fs_check_words (A : Ad) : FS := fun ds M Kp KE => ∃ d ws, ds = [d] ∧ viewL M d = some (wsD ws) ∧ Good ws ∧ Kp .non M
def fs_Stock___init__ (A : Ad) : FS := fun ds M Kp KE => ∃ x dx d ws, ds = [.ptr x, d] ∧ M x = some (.ins A.C_Stock dx []) ∧ viewL M d = some (wsD ws) ∧ Good ws ∧ Kp .non (updM M x (.ins A.C_Stock dx [(("kept_words" : Str), .tup (wsD ws))]))
def fs_check_letters (A : Ad) : FS := fun ds M Kp KE => ∃ ws, ∃ k : Nat, ds = [stk A ws, .int k] ∧ Good ws ∧ 1 ≤ k ∧ k ≤ 26 ∧ (∀ w ∈ ws, ∀ c ∈ w, c ∈ LET.take k) ∧ Kp .non M
def fs__law_pool (A : Ad) : FS := fun ds M Kp KE => ∃ ns, ∃ i : Nat, ds = [.scr ns, .int i] ∧ i ≤ 100 ∧ ∀ p o, M p = none → PlO 0 o → Kp (.ptr p) (updM M p o)
def fs__law_draw (A : Ad) : FS := fun ds M Kp KE => ∃ p o, ∃ n s : Nat, ds = [.ptr p, .int s] ∧ M p = some o ∧ PlO n o ∧ n ≤ 2 ^ 40 ∧ 0 < s ∧ s ≤ 2 ^ 20 ∧ ∀ o', ∀ d : Nat, PlO (n + 1) o' → d < s → Kp (.int d) (updM M p o')
def fs__law_word (A : Ad) : FS := fun ds M Kp KE => ∃ p o, ∃ n k : Nat, ∃ sg : Wd1, ds = [.ptr p, .int k, tD sg] ∧ M p = some o ∧ PlO n o ∧ n ≤ 2 ^ 39 ∧ 1 ≤ k ∧ k ≤ 100 ∧ 1 ≤ sg.length ∧ sg.length ≤ 100 ∧
  ∀ o', ∀ w : Wd1, PlO (n + 101) o' → 1 ≤ w.length → w.length ≤ k → (∀ c ∈ w, c ∈ sg) → Kp (tD w) (updM M p o')
/-! ### what is left of words -/
def startsL (ws : List Wd1) : List (Nat × Nat × Wd1) := (List.range ws.length).flatMap fun i => (List.range ws.length).flatMap fun j =>
  if i ≠ j ∧ (ws.getD j []).take (ws.getD i []).length = ws.getD i [] then [(i, j, (ws.getD j []).drop (ws.getD i []).length)] else []
def stepsL (ws : List Wd1) (r : Wd1) : List (Nat × Wd1 × Bool) := (List.range ws.length).flatMap fun n =>
  if r.take (ws.getD n []).length = ws.getD n [] then [(n, r.drop (ws.getD n []).length, true)]
  else if (ws.getD n []).take r.length = r then [(n, (ws.getD n []).drop r.length, false)] else []
def stD (x : Nat × Nat × Wd1) : D := .tup [.int (x.1 : Int), .int (x.2.1 : Int), tD x.2.2]
def spD (x : Nat × Wd1 × Bool) : D := .tup [.int (x.1 : Int), tD x.2.1, .bl x.2.2]
def fs_starts_of (A : Ad) : FS := fun ds M Kp KE => ∃ ws, ds = [.tup (wsD ws)] ∧ Good ws ∧ Kp (.lst ((startsL ws).map stD)) M
def fs_steps_of (A : Ad) : FS := fun ds M Kp KE => ∃ ws r, ds = [.tup (wsD ws), tD r] ∧ Good ws ∧ r.length ≤ 1000 ∧ Kp (.lst ((stepsL ws r).map spD)) M
def St0 (ws : List Wd1) (q : Wd1) : Prop := ∃ x ∈ startsL ws, x.2.2 = q
def St1 (ws : List Wd1) (r q : Wd1) : Prop := r ≠ [] ∧ ∃ x ∈ stepsL ws r, x.2.1 = q
/-- the closure of a start under steps -/
inductive Cl (S : Wd1 → Prop) (T : Wd1 → Wd1 → Prop) : Wd1 → Prop
  | base {q : Wd1} : S q → Cl S T q
  | step {r q : Wd1} : Cl S T r → T r q → Cl S T q
abbrev Rst (ws : List Wd1) : Wd1 → Prop := Cl (St0 ws) (St1 ws)
def fs_rests_from (A : Ad) : FS := fun ds M Kp KE => ∃ ws, ds = [.tup (wsD ws)] ∧ Good ws ∧ ∀ qs : List Wd1, qs.Nodup → (∀ q, q ∈ qs ↔ Rst ws q) → qs.Pairwise (fun a b => ¬ b < a) → Kp (.lst (wsD qs)) M
def OneWay (ws : List Wd1) : Prop := ¬ Rst ws []
def fs_is_one_way (A : Ad) : FS := fun ds M Kp KE => ∃ ws, ds = [stk A ws] ∧ Good ws ∧ Kp (.bl (decide (OneWay ws))) M
def fs_check_one_way (A : Ad) : FS := fun ds M Kp KE => ∃ ws, ds = [stk A ws] ∧ Good ws ∧ OneWay ws ∧ Kp .non M
/-- the law's own reading of a lot -/
def fs__law_rests (A : Ad) : FS := fun ds M Kp KE => ∃ d ws, ds = [d] ∧ viewL M d = some (wsD ws) ∧ Good ws ∧ ∀ qs : List Wd1, qs.Nodup → (∀ q, q ∈ qs ↔ Rst ws q ∧ q ≠ []) → Kp (.tup [.lst (wsD qs), .bl (decide (¬ OneWay ws))]) M
/-- the lot without what makes it read in two ways -/
def easedL : List Wd1 → List Wd1 → List Wd1
  | acc, [] => acc
  | acc, w :: r => easedL (if w ∉ acc ∧ OneWay (acc ++ [w]) then acc ++ [w] else acc) r
def fs__law_eased (A : Ad) : FS := fun ds M Kp KE => ∃ d ws, ds = [d] ∧ viewL M d = some (wsD ws) ∧ Good ws ∧ newL true (wsD (easedL [] ws)) M Kp
/-! ### room -/
def lowD (t b : Nat) : D := .tup [.int ((t / Nat.gcd t b : Nat) : Int), .int ((b / Nat.gcd t b : Nat) : Int)]
def fs_power_of (A : Ad) : FS := fun ds M Kp KE => ∃ k n : Nat, ds = [.int k, .int n] ∧ k ≤ 26 ∧ n ≤ 8 ∧ Kp (.int ((k ^ n : Nat) : Int)) M
def fs_lowest (A : Ad) : FS := fun ds M Kp KE => ∃ t b : Nat, ds = [.int t, .int b] ∧ 1 ≤ t ∧ 1 ≤ b ∧ t ≤ 2 ^ 50 ∧ b ≤ 2 ^ 50 ∧ Kp (lowD t b) M
/-- the words' room at k letters, of k ^ 8 -/
def roomN (ws : List Wd1) (k n : Nat) : Nat := (ws.map fun w => k ^ (n - w.length)).sum
def fs_room_of (A : Ad) : FS := fun ds M Kp KE => ∃ ws, ∃ k : Nat, ds = [stk A ws, .int k] ∧ Good ws ∧ 1 ≤ k ∧ k ≤ 26 ∧ Kp (lowD (roomN ws k 8) (k ^ 8)) M
def fs_room (A : Ad) : FS := fun ds M Kp KE => ∃ ws, ∃ k : Nat, ds = [stk A ws, .int k] ∧ Good ws ∧ 1 ≤ k ∧ k ≤ 26 ∧ (∀ w ∈ ws, ∀ c ∈ w, c ∈ LET.take k) ∧ Kp (lowD (roomN ws k 8) (k ^ 8)) M
def Full (ws : List Wd1) (k : Nat) : Prop := roomN ws k 8 = k ^ 8
def fs_is_full (A : Ad) : FS := fun ds M Kp KE => ∃ ws, ∃ k : Nat, ds = [stk A ws, .int k] ∧ Good ws ∧ OneWay ws ∧ 1 ≤ k ∧ k ≤ 26 ∧ (∀ w ∈ ws, ∀ c ∈ w, c ∈ LET.take k) ∧ Kp (.bl (decide (Full ws k))) M
def fs__law_power (A : Ad) : FS := fun ds M Kp KE => ∃ k n : Nat, ds = [.int k, .int n] ∧ k ≤ 26 ∧ n ≤ 8 ∧ Kp (.int ((k ^ n : Nat) : Int)) M
def fs__law_low (A : Ad) : FS := fun ds M Kp KE => ∃ t b : Nat, ds = [.int t, .int b] ∧ 1 ≤ t ∧ 1 ≤ b ∧ t ≤ 2 ^ 50 ∧ b ≤ 2 ^ 50 ∧ Kp (lowD t b) M
def fs__law_room (A : Ad) : FS := fun ds M Kp KE => ∃ d ws, ∃ k : Nat, ds = [d, .int k] ∧ viewL M d = some (wsD ws) ∧ Good ws ∧ 1 ≤ k ∧ k ≤ 26 ∧ Kp (lowD (roomN ws k 8) (k ^ 8)) M
/-! ### words none of which begins another -/
def Apart (ws : List Wd1) : Prop := ∀ a ∈ ws, ∀ b ∈ ws, a <+: b → a = b
def fs_check_apart (A : Ad) : FS := fun ds M Kp KE => ∃ ws, ds = [stk A ws] ∧ Good ws ∧ Apart ws ∧ Kp .non M
def apartL : List Wd1 → List Wd1 → List Wd1
  | acc, [] => acc
  | acc, w :: r => apartL (if ∃ s ∈ acc, w <+: s ∨ s <+: w then acc else acc ++ [w]) r
def fs__law_apart (A : Ad) : FS := fun ds M Kp KE => ∃ d ws, ds = [d] ∧ viewL M d = some (wsD ws) ∧ ws.length ≤ 100 ∧ (∀ w ∈ ws, w.length ≤ 100) ∧ newL true (wsD (apartL [] ws)) M Kp
/-- x fills: a letter behind a beginning that is no word, itself the beginning of none -/
def Fills (ws : List Wd1) (sg : Wd1) (x : Wd1) : Prop := ∃ b c, x = b ++ [c] ∧ c ∈ sg ∧ b ∉ ws ∧ (∃ w ∈ ws, b <+: w) ∧ ¬ ∃ w ∈ ws, x <+: w
def fs_filling (A : Ad) : FS := fun ds M Kp KE => ∃ ws, ∃ k : Nat, ds = [stk A ws, .int k] ∧ Good ws ∧ Apart ws ∧ 1 ≤ k ∧ k ≤ 26 ∧ (∀ w ∈ ws, ∀ c ∈ w, c ∈ LET.take k) ∧
  ∀ qs : List Wd1, qs.Nodup → (∀ q, q ∈ qs ↔ Fills ws (LET.take k) q) → qs.Pairwise (fun a b => ¬ b < a) → newL true (wsD qs) M Kp
def fs__law_filling (A : Ad) : FS := fun ds M Kp KE => ∃ d ws, ∃ sg : Wd1, ds = [d, tD sg] ∧ viewL M d = some (wsD ws) ∧ Good ws ∧ Apart ws ∧ sg.Nodup ∧ 1 ≤ sg.length ∧ sg.length ≤ 26 ∧ (∀ w ∈ ws, ∀ c ∈ w, c ∈ sg) ∧
  ∀ qs : List Wd1, qs.Nodup → (∀ q, q ∈ qs ↔ Fills ws sg q) → qs.Pairwise (fun a b => ¬ b < a) → Kp (.lst (wsD qs)) M
def fs__law_small_lot (A : Ad) : FS := fun ds M Kp KE => ∃ p o, ∃ n k : Nat, ∃ sg : Wd1, ds = [.ptr p, tD sg, .int k] ∧ M p = some o ∧ PlO n o ∧ n ≤ 2 ^ 38 ∧ 1 ≤ k ∧ k ≤ 8 ∧ 1 ≤ sg.length ∧ sg.length ≤ 26 ∧ Row sg ∧
  ∀ o' ws, PlO (n + 1000) o' → Good ws → ws.length ≤ 6 → (∀ w ∈ ws, w.length ≤ k ∧ ∀ c ∈ w, c ∈ sg) → newL true (wsD ws) (updM M p o') Kp
def fs__law_long_right (A : Ad) : FS := fun ds M Kp KE => ∃ p o, ∃ n : Nat, ds = [.ptr p] ∧ M p = some o ∧ PlO n o ∧ n ≤ 2 ^ 38 ∧ ∀ o', PlO (n + 10) o' → Kp (.bl true) (updM M p o')
def fs__law_right (A : Ad) : FS := fun ds M Kp KE => ∃ p o, ∃ n : Nat, ds = [.ptr p] ∧ M p = some o ∧ PlO n o ∧ n ≤ 2 ^ 37 ∧ ∀ o', PlO (n + 5000) o' → Kp (.bl true) (updM M p o')
def fs_law (A : Ad) : FS := fun ds M Kp KE => ∃ ns : List Int, ds = [.scr ns] ∧ ns.length ≤ 63 ∧ Kp (.bl true) M

end Lw
end
noncomputable section
namespace Lw
open PySem PySem.Spec PyProof.Rows L2 Evl Dl
def ph_check_letters (A : Ad) (kx : KXr) : FSt :=
  (dSeq (dIfS (dNot (dTest (dChain (δLe) (δLe) (dC (.int 1)) (dVar 1) (dCB δLen (dCons (dC (.str (T [97, 98, 99, 100, 101, 102, 103, 104, 105, 106, 107, 108, 109, 110, 111, 112, 113, 114, 115, 116, 117, 118, 119, 120, 121, 122]))) dNil)))))
  dNever
  dNext)
  (dIfS (dNot (dTru (dCB δAll (dCons (dLc2 false (dIT (dFld (IC_kept_words A) ("kept_words" : Str) (dVar 0))) (dName 2) dYes (dIS (dVar 2)) (dName 3) dYes (dOp (δIn false) (dVar 3) (dSl false (dC (.str (T [97, 98, 99, 100, 101, 102, 103, 104, 105, 106, 107, 108, 109, 110, 111, 112, 113, 114, 115, 116, 117, 118, 119, 120, 121, 122]))) dON (dOS (dVar 1)))) [2, 3] [3]) dNil))))
  dNever
  dNext))
def ph_starts_of (A : Ad) (kx : KXr) : FSt :=
  (dSeq (dAsg (dLst true dNil) (dName 1))
  (dSeq (dFor (dIET (dCons (dVar 0) dNil)) (dGTup 2 (dGCons (dName 2) (dGCons (dName 3) dGNil)))
  (dFor (dIET (dCons (dVar 0) dNil)) (dGTup 2 (dGCons (dName 4) (dGCons (dName 5) dGNil)))
  (dIfS (dAnd (dTest (dOp (δEq true) (dVar 2) (dVar 4))) (dTest (dOp (δEq false) (dSl false (dVar 5) dON (dOS (dCB δLen (dCons (dVar 3) dNil)))) (dVar 3))))
  (dDrop (dBM "list" δAppend (dVar 1) (dCons (dTup (dCons (dVar 2) (dCons (dVar 4) (dCons (dSl false (dVar 5) (dOS (dCB δLen (dCons (dVar 3) dNil))) dON) dNil)))) dNil)))
  dNext)))
  (dRet (dVar 1))))
def ph_steps_of (A : Ad) (kx : KXr) : FSt :=
  (dSeq (dAsg (dLst true dNil) (dName 2))
  (dSeq (dFor (dIET (dCons (dVar 0) dNil)) (dGTup 2 (dGCons (dName 3) (dGCons (dName 4) dGNil)))
  (dIfS (dTest (dOp (δEq false) (dSl false (dVar 1) dON (dOS (dCB δLen (dCons (dVar 4) dNil)))) (dVar 4)))
  (dDrop (dBM "list" δAppend (dVar 2) (dCons (dTup (dCons (dVar 3) (dCons (dSl false (dVar 1) (dOS (dCB δLen (dCons (dVar 4) dNil))) dON) (dCons (dC (.bl true)) dNil)))) dNil)))
  (dIfS (dTest (dOp (δEq false) (dSl false (dVar 4) dON (dOS (dCB δLen (dCons (dVar 1) dNil)))) (dVar 1)))
  (dDrop (dBM "list" δAppend (dVar 2) (dCons (dTup (dCons (dVar 3) (dCons (dSl false (dVar 4) (dOS (dCB δLen (dCons (dVar 1) dNil))) dON) (dCons (dC (.bl false)) dNil)))) dNil)))
  dNext)))
  (dRet (dVar 2))))
def ph_rests_from (A : Ad) (kx : KXr) : FSt :=
  (dSeq (dAsg (dLc true (dIL (dCallN 1 kx (fs_starts_of A) (dCons (dVar 0) dNil))) (dGTup 3 (dGCons (dName 2) (dGCons (dName 3) (dGCons (dName 4) dGNil)))) dYes (dVar 4) [2, 3, 4]) (dName 1))
  (dSeq (dAsg (dLst true dNil) (dName 5))
  (dSeq (dWhile (dTest (dOp (δEq true) (dVar 1) (dLst false dNil)))
  (dSeq (dAsg (dBM "list" δPop (dVar 1) dNil) (dName 4))
  (dIfS (dTest (dOp (δIn true) (dVar 4) (dVar 5)))
  (dSeq (dDrop (dBM "list" δAppend (dVar 5) (dCons (dVar 4) dNil)))
  (dIfS (dTest (dOp (δEq true) (dVar 4) (dC (.str (T [])))))
  (dAsg (dOp (δAdd true) (dVar 1) (dLc false (dIL (dCallN 2 kx (fs_steps_of A) (dCons (dVar 0) (dCons (dVar 4) dNil)))) (dGTup 3 (dGCons (dName 6) (dGCons (dName 7) (dGCons (dName 8) dGNil)))) dYes (dVar 7) [6, 7, 8])) (dName 1))
  dNext))
  dNext)))
  (dRet (dCB (δSorted false) (dCons (dVar 5) dNil))))))
def ph_is_one_way (A : Ad) (kx : KXr) : FSt :=
  (dRet (dOp (δIn true) (dC (.str (T []))) (dCallN 1 kx (fs_rests_from A) (dCons (dFld (IC_kept_words A) ("kept_words" : Str) (dVar 0)) dNil))))
def ph_check_one_way (A : Ad) (kx : KXr) : FSt :=
  (dIfS (dNot (dTru (dCallN 1 kx (fs_is_one_way A) (dCons (dVar 0) dNil))))
  dNever
  dNext)
def ph_power_of (A : Ad) (kx : KXr) : FSt :=
  (dSeq (dAsg (dC (.int 1)) (dName 2))
  (dSeq (dFor (dIR1 (dCons (dVar 1) dNil)) (dName 3)
  (dAug 2 (dVar 0) (δI CMul fun i j => .int (i * j))))
  (dRet (dVar 2))))
def ph_lowest (A : Ad) (kx : KXr) : FSt :=
  (dSeq (dPar 2 3 (dVar 0) (dVar 1))
  (dSeq (dWhile (dTest (dOp (δEq true) (dVar 3) (dC (.int 0))))
  (dPar 2 3 (dVar 3) (dOp δMod (dVar 2) (dVar 3))))
  (dRet (dTup (dCons (dOp δDiv (dVar 0) (dVar 2)) (dCons (dOp δDiv (dVar 1) (dVar 2)) dNil))))))
def ph_room_of (A : Ad) (kx : KXr) : FSt :=
  (dSeq (dAsg (dCB δMaxL (dCons (dLc false (dIT (dFld (IC_kept_words A) ("kept_words" : Str) (dVar 0))) (dName 3) dYes (dCB δLen (dCons (dVar 3) dNil)) [3]) dNil)) (dName 2))
  (dSeq (dAsg (dCB δSum (dCons (dLc false (dIT (dFld (IC_kept_words A) ("kept_words" : Str) (dVar 0))) (dName 3) dYes (dCallN 2 (fun _ _ _ _ => False) (fs_power_of A) (dCons (dVar 1) (dCons (dOp δSub (dVar 2) (dCB δLen (dCons (dVar 3) dNil))) dNil))) [3]) dNil)) (dName 4))
  (dRet (dCallN 2 kx (fs_lowest A) (dCons (dVar 4) (dCons (dCallN 2 kx (fs_power_of A) (dCons (dVar 1) (dCons (dVar 2) dNil))) dNil))))))
def ph_is_full (A : Ad) (kx : KXr) : FSt :=
  (dSeq (dDrop (dCallN 2 kx (fs_check_letters A) (dCons (dVar 0) (dCons (dVar 1) dNil))))
  (dSeq (dDrop (dCallN 1 kx (fs_check_one_way A) (dCons (dVar 0) dNil)))
  (dRet (dOp (δEq false) (dCallN 2 kx (fs_room_of A) (dCons (dVar 0) (dCons (dVar 1) dNil))) (dTup (dCons (dC (.int 1)) (dCons (dC (.int 1)) dNil)))))))
def ph_is_row (A : Ad) (kx : KXr) : FSt :=
  (dRet (dCB δAll (dCons (dLc false (dIS (dVar 0)) (dName 1) dYes (dOp (δIn false) (dVar 1) (dC (.str (T [97, 98, 99, 100, 101, 102, 103, 104, 105, 106, 107, 108, 109, 110, 111, 112, 113, 114, 115, 116, 117, 118, 119, 120, 121, 122])))) [1]) dNil)))
def ph_check_words (A : Ad) (kx : KXr) : FSt :=
  (dSeq (dFor (dIEL (dCons (dVar 0) dNil)) (dGTup 2 (dGCons (dName 1) (dGCons (dName 2) dGNil)))
  (dIfS (dOr (dNot (dTest (dChain (δLe) (δLe) (dC (.int 1)) (dCB δLen (dCons (dVar 2) dNil)) (dC (.int 8))))) (dOr (dNot (dTru (dCallN 1 kx (fs_is_row A) (dCons (dVar 2) dNil)))) (dTest (dOp (δIn false) (dVar 2) (dSl false (dVar 0) dON (dOS (dVar 1)))))))
  dNever
  dNext))
  (dIfS (dNot (dTest (dChain (δLe) (δLe) (dC (.int 1)) (dCB δLen (dCons (dVar 0) dNil)) (dC (.int 8)))))
  dNever
  dNext))
def ph_Stock___init__ (A : Ad) (kx : KXr) : FSt :=
  (dSeq (dDrop (dCallN 1 kx (fs_check_words A) (dCons (dVar 1) dNil)))
  (dPutF (IC_kept_words A) ("kept_words" : Str) (dVar 0) (dCB δTuple (dCons (dVar 1) dNil))))
def ph__law_pool (A : Ad) (kx : KXr) : FSt :=
  (dSeq (dAsg (dC (.int 0)) (dName 2))
  (dSeq (dIfS (dTest (dOp (δLt) (dVar 1) (dCB δLen (dCons (dVar 0) dNil))))
  (dAsg (dOp δIx (dVar 0) (dVar 1)) (dName 2))
  dNext)
  (dRet (dLst true (dCons (dCB δMax2 (dCons (dC (.int 0)) (dCons (dOp δSub (dCB δAbs (dCons (dVar 2) dNil)) (dOp δPow (dC (.int 10)) (dC (.int 18)))) dNil))) (dCons (dOp (δAdd false) (dOp δMod (dCB δInt (dCons (dVar 2) dNil)) (dC (.int 2305843009213693951))) (dOp δMul (dC (.int 7368787)) (dOp (δAdd false) (dVar 1) (dC (.int 1))))) (dCons (dC (.int 0)) dNil)))))))
def ph__law_draw (A : Ad) (kx : KXr) : FSt :=
  (dSeq (dIfS (dTest (dOp (δGt) (dOp δIx (dVar 0) (dC (.int 0))) (dC (.int 0))))
  (dSeq (dAsg (dOp δMod (dCB δInt (dCons (dOp δIx (dVar 0) (dC (.int 0))) dNil)) (dVar 1)) (dName 2))
  (dSeq (dAsg (dOp δDiv (dOp δIx (dVar 0) (dC (.int 0))) (dVar 1)) (dGSub (dVar 0) (dC (.int 0)) δSetL))
  (dRet (dVar 2))))
  dNext)
  (dSeq (dAsg (dOp (δAdd false) (dOp δIx (dVar 0) (dC (.int 2))) (dC (.int 1))) (dGSub (dVar 0) (dC (.int 2)) δSetL))
  (dSeq (dAsg (dOp δMod (dCB δInt (dCons (dOp δPow (dOp (δAdd false) (dOp δIx (dVar 0) (dC (.int 1))) (dOp δMul (dC (.int 15485863)) (dOp δIx (dVar 0) (dC (.int 2))))) (dC (.int 3))) dNil)) (dC (.int 162259276829213363391578010288127))) (dName 3))
  (dSeq (dAsg (dOp δMod (dCB δInt (dCons (dOp δPow (dOp (δAdd false) (dVar 3) (dOp δMul (dC (.int 32452843)) (dOp δIx (dVar 0) (dC (.int 2))))) (dC (.int 3))) dNil)) (dC (.int 170141183460469231731687303715884105727))) (dName 3))
  (dRet (dOp δMod (dCB δInt (dCons (dOp δDiv (dVar 3) (dC (.int 1048576))) dNil)) (dVar 1)))))))
def ph__law_word (A : Ad) (kx : KXr) : FSt :=
  (dRet (dBM "str" δJoin (dC (.str (T []))) (dCons (dLc false (dIR1 (dCons (dOp (δAdd false) (dC (.int 1)) (dCallN 2 kx (fs__law_draw A) (dCons (dVar 0) (dCons (dVar 1) dNil)))) dNil)) (dName 3) dYes (dOp δIx (dVar 2) (dCallN 2 (fun _ _ _ _ => False) (fs__law_draw A) (dCons (dVar 0) (dCons (dCB δLen (dCons (dVar 2) dNil)) dNil)))) [3]) dNil)))
def ph__law_small_lot (A : Ad) (kx : KXr) : FSt :=
  (dSeq (dAsg (dLst true dNil) (dName 3))
  (dSeq (dFor (dIR1 (dCons (dOp (δAdd false) (dC (.int 1)) (dCallN 2 kx (fs__law_draw A) (dCons (dVar 0) (dCons (dC (.int 6)) dNil)))) dNil)) (dName 4)
  (dSeq (dAsg (dCallN 3 kx (fs__law_word A) (dCons (dVar 0) (dCons (dVar 2) (dCons (dVar 1) dNil)))) (dName 5))
  (dIfS (dTest (dOp (δIn true) (dVar 5) (dVar 3)))
  (dDrop (dBM "list" δAppend (dVar 3) (dCons (dVar 5) dNil)))
  dNext)))
  (dRet (dVar 3))))
def ph_room (A : Ad) (kx : KXr) : FSt :=
  (dSeq (dDrop (dCallN 2 kx (fs_check_letters A) (dCons (dVar 0) (dCons (dVar 1) dNil))))
  (dRet (dCallN 2 kx (fs_room_of A) (dCons (dVar 0) (dCons (dVar 1) dNil)))))
def ph__law_power (A : Ad) (kx : KXr) : FSt :=
  (dSeq (dAsg (dC (.int 1)) (dName 2))
  (dSeq (dFor (dIR1 (dCons (dVar 1) dNil)) (dName 3)
  (dAsg (dOp δMul (dVar 2) (dVar 0)) (dName 2)))
  (dRet (dVar 2))))
def ph__law_low (A : Ad) (kx : KXr) : FSt :=
  (dSeq (dPar 2 3 (dVar 0) (dVar 1))
  (dSeq (dWhile (dTest (dOp (δEq true) (dVar 3) (dC (.int 0))))
  (dPar 2 3 (dVar 3) (dOp δMod (dCB δInt (dCons (dVar 2) dNil)) (dVar 3))))
  (dRet (dTup (dCons (dOp δDiv (dVar 0) (dVar 2)) (dCons (dOp δDiv (dVar 1) (dVar 2)) dNil))))))
def ph__law_room (A : Ad) (kx : KXr) : FSt :=
  (dSeq (dAsg (dCB δSum (dCons (dLc false (dIL (dVar 0)) (dName 3) dYes (dCallN 2 (fun _ _ _ _ => False) (fs__law_power A) (dCons (dVar 1) (dCons (dOp δSub (dC (.int 8)) (dCB δLen (dCons (dVar 3) dNil))) dNil))) [3]) dNil)) (dName 2))
  (dRet (dCallN 2 kx (fs__law_low A) (dCons (dVar 2) (dCons (dCallN 2 kx (fs__law_power A) (dCons (dVar 1) (dCons (dC (.int 8)) dNil))) dNil)))))
def ph__law_rests (A : Ad) (kx : KXr) : FSt :=
  (dSeq (dPar3 1 2 3 (dCons (dLst true dNil) (dCons (dLst true dNil) (dCons (dC (.bl false)) dNil))))
  (dSeq (dFor (dIL (dVar 0)) (dName 4)
  (dFor (dIL (dVar 0)) (dName 5)
  (dIfS (dAnd (dTest (dOp (δEq true) (dVar 5) (dVar 4))) (dTest (dOp (δEq false) (dSl false (dVar 5) dON (dOS (dCB δLen (dCons (dVar 4) dNil)))) (dVar 4))))
  (dDrop (dBM "list" δAppend (dVar 1) (dCons (dSl false (dVar 5) (dOS (dCB δLen (dCons (dVar 4) dNil))) dON) dNil)))
  dNext)))
  (dSeq (dWhile (dTest (dOp (δEq true) (dVar 1) (dLst false dNil)))
  (dSeq (dAsg (dBM "list" δPop (dVar 1) dNil) (dName 6))
  (dIfS (dTest (dOp (δIn true) (dVar 6) (dVar 2)))
  (dSeq (dDrop (dBM "list" δAppend (dVar 2) (dCons (dVar 6) dNil)))
  (dFor (dIL (dVar 0)) (dName 7)
  (dIfS (dTest (dOp (δEq false) (dVar 7) (dVar 6)))
  (dAsg (dC (.bl true)) (dName 3))
  (dIfS (dTest (dOp (δEq false) (dSl false (dVar 6) dON (dOS (dCB δLen (dCons (dVar 7) dNil)))) (dVar 7)))
  (dDrop (dBM "list" δAppend (dVar 1) (dCons (dSl false (dVar 6) (dOS (dCB δLen (dCons (dVar 7) dNil))) dON) dNil)))
  (dIfS (dTest (dOp (δEq false) (dSl false (dVar 7) dON (dOS (dCB δLen (dCons (dVar 6) dNil)))) (dVar 6)))
  (dDrop (dBM "list" δAppend (dVar 1) (dCons (dSl false (dVar 7) (dOS (dCB δLen (dCons (dVar 6) dNil))) dON) dNil)))
  dNext)))))
  dNext)))
  (dRet (dTup (dCons (dVar 2) (dCons (dVar 3) dNil)))))))
def ph__law_eased (A : Ad) (kx : KXr) : FSt :=
  (dSeq (dAsg (dLst true dNil) (dName 1))
  (dSeq (dFor (dIL (dVar 0)) (dName 2)
  (dIfS (dAnd (dTest (dOp (δIn true) (dVar 2) (dVar 1))) (dNot (dTru (dOp δIx (dCallN 1 kx (fs__law_rests A) (dCons (dOp (δAdd false) (dVar 1) (dLst false (dCons (dVar 2) dNil))) dNil)) (dC (.int 1))))))
  (dDrop (dBM "list" δAppend (dVar 1) (dCons (dVar 2) dNil)))
  dNext))
  (dRet (dVar 1))))
def ph__law_apart (A : Ad) (kx : KXr) : FSt :=
  (dSeq (dAsg (dLst true dNil) (dName 1))
  (dSeq (dFor (dIL (dVar 0)) (dName 2)
  (dIfS (dTest (dOp (δEq false) (dLc false (dIL (dVar 1)) (dName 3) (dOr (dTest (dOp (δEq false) (dSl false (dVar 3) dON (dOS (dCB δLen (dCons (dVar 2) dNil)))) (dVar 2))) (dTest (dOp (δEq false) (dSl false (dVar 2) dON (dOS (dCB δLen (dCons (dVar 3) dNil)))) (dVar 3)))) (dC (.int 1)) [3]) (dLst false dNil)))
  (dDrop (dBM "list" δAppend (dVar 1) (dCons (dVar 2) dNil)))
  dNext))
  (dRet (dVar 1))))
def ph__law_filling (A : Ad) (kx : KXr) : FSt :=
  (dSeq (dPar 2 3 (dLst true dNil) (dLst false (dCons (dC (.str (T []))) dNil)))
  (dSeq (dWhile (dTest (dOp (δEq true) (dVar 3) (dLst false dNil)))
  (dSeq (dAsg (dLst true dNil) (dName 4))
  (dSeq (dFor (dIL (dVar 3)) (dName 5)
  (dFor (dIS (dVar 1)) (dName 6)
  (dSeq (dAsg (dOp (δAdd false) (dVar 5) (dVar 6)) (dName 7))
  (dIfS (dTest (dOp (δEq true) (dLc false (dIL (dVar 0)) (dName 8) (dAnd (dTest (dOp (δEq false) (dSl false (dVar 8) dON (dOS (dCB δLen (dCons (dVar 7) dNil)))) (dVar 7))) (dTest (dOp (δEq true) (dVar 8) (dVar 7)))) (dC (.int 1)) [8]) (dLst false dNil)))
  (dDrop (dBM "list" δAppend (dVar 4) (dCons (dVar 7) dNil)))
  (dIfS (dTest (dOp (δIn true) (dVar 7) (dVar 0)))
  (dDrop (dBM "list" δAppend (dVar 2) (dCons (dVar 7) dNil)))
  dNext)))))
  (dAsg (dVar 4) (dName 3)))))
  (dRet (dCB (δSorted false) (dCons (dVar 2) dNil)))))
def ph_check_apart (A : Ad) (kx : KXr) : FSt :=
  (dFor (dIET (dCons (dFld (IC_kept_words A) ("kept_words" : Str) (dVar 0)) dNil)) (dGTup 2 (dGCons (dName 1) (dGCons (dName 2) dGNil)))
  (dFor (dIET (dCons (dFld (IC_kept_words A) ("kept_words" : Str) (dVar 0)) dNil)) (dGTup 2 (dGCons (dName 3) (dGCons (dName 4) dGNil)))
  (dIfS (dAnd (dTest (dOp (δEq true) (dVar 1) (dVar 3))) (dTest (dOp (δEq false) (dSl false (dVar 4) dON (dOS (dCB δLen (dCons (dVar 2) dNil)))) (dVar 2))))
  dNever
  dNext)))
def ph_filling (A : Ad) (kx : KXr) : FSt :=
  (dSeq (dDrop (dCallN 2 kx (fs_check_letters A) (dCons (dVar 0) (dCons (dVar 1) dNil))))
  (dSeq (dDrop (dCallN 1 kx (fs_check_apart A) (dCons (dVar 0) dNil)))
  (dSeq (dAsg (dDNew false) (dName 2))
  (dSeq (dFor (dIT (dFld (IC_kept_words A) ("kept_words" : Str) (dVar 0))) (dName 3)
  (dFor (dIR1 (dCons (dOp (δAdd false) (dCB δLen (dCons (dVar 3) dNil)) (dC (.int 1))) dNil)) (dName 4)
  (dDPut (dVar 2) (dSl false (dVar 3) dON (dOS (dVar 4))) (dC (.bl true)))))
  (dSeq (dAsg (dLst true dNil) (dName 5))
  (dSeq (dLockK (dFor (dIKeys (dVar 2)) (dName 6)
  (dIfS (dTest (dOp (δIn true) (dVar 6) (dFld (IC_kept_words A) ("kept_words" : Str) (dVar 0))))
  (dDrop (dBM "list" δExtend (dVar 5) (dCons (dLc false (dIS (dSl false (dC (.str (T [97, 98, 99, 100, 101, 102, 103, 104, 105, 106, 107, 108, 109, 110, 111, 112, 113, 114, 115, 116, 117, 118, 119, 120, 121, 122]))) dON (dOS (dVar 1)))) (dName 7) (dTest (dOp (δHas true) (dOp (δAdd false) (dVar 6) (dVar 7)) (dVar 2))) (dOp (δAdd false) (dVar 6) (dVar 7)) [7]) dNil)))
  dNext)))
  (dRet (dCB (δSorted true) (dCons (dVar 5) dNil)))))))))
def ph__law_long_right (A : Ad) (kx : KXr) : FSt :=
  (dSeq (dAsg (dBM "str" δJoin (dC (.str (T []))) (dCons (dLc false (dIR1 (dCons (dC (.int 8)) dNil)) (dName 2) dYes (dOp δIx (dC (.str (T [97, 98]))) (dCallN 2 (fun _ _ _ _ => False) (fs__law_draw A) (dCons (dVar 0) (dCons (dC (.int 2)) dNil)))) [2]) dNil)) (dName 1))
  (dSeq (dAsg (dCB (δSorted false) (dCons (dLc false (dIR1 (dCons (dC (.int 8)) dNil)) (dName 4) dYes (dOp (δAdd false) (dSl false (dVar 1) dON (dOS (dVar 4))) (dOp δDGet (dDisp (dCons (dC (.str (T [97]))) (dCons (dC (.str (T [98]))) (dCons (dC (.str (T [98]))) (dCons (dC (.str (T [97]))) dNil))))) (dOp δIx (dVar 1) (dVar 4)))) [4]) dNil)) (dName 3))
  (dRet (dAndV (dOp (δEq false) (dCallN 2 kx (fs_filling A) (dCons (dMake false 2 A.C_Stock kx (fs_Stock___init__ A) (dCons (dLst false (dCons (dVar 1) dNil)) dNil)) (dCons (dC (.int 2)) dNil))) (dVar 3)) (dOp (δEq false) (dCallN 2 kx (fs_room A) (dCons (dMake false 2 A.C_Stock kx (fs_Stock___init__ A) (dCons (dLst false (dCons (dVar 1) dNil)) dNil)) (dCons (dC (.int 2)) dNil))) (dTup (dCons (dC (.int 1)) (dCons (dC (.int 256)) dNil))))))))
def ph__law_right (A : Ad) (kx : KXr) : FSt :=
  (dSeq (dAsg (dOp δIx (dLst false (dCons (dC (.str (T [97, 98]))) (dCons (dC (.str (T [97, 98, 99]))) (dCons (dC (.str (T [97]))) dNil)))) (dCallN 2 kx (fs__law_draw A) (dCons (dVar 0) (dCons (dC (.int 3)) dNil)))) (dName 1))
  (dSeq (dAsg (dCallN 3 kx (fs__law_small_lot A) (dCons (dVar 0) (dCons (dVar 1) (dCons (dC (.int 5)) dNil)))) (dName 2))
  (dSeq (dFor (dIT (dTup (dCons (dCB δLen (dCons (dVar 1) dNil)) (dCons (dC (.int 3)) (dCons (dC (.int 26)) dNil))))) (dName 3)
  (dIfS (dTest (dOp (δEq true) (dCallK 0 2 kx (fs_room A) dNil (dCons (dMake false 2 A.C_Stock kx (fs_Stock___init__ A) (dCons (dVar 2) dNil)) (dCons (dVar 3) dNil))) (dCallN 2 kx (fs__law_room A) (dCons (dVar 2) (dCons (dVar 3) dNil)))))
  (dRet (dC (.bl false)))
  dNext))
  (dSeq (dAsg (dCallN 1 kx (fs__law_eased A) (dCons (dVar 2) dNil)) (dName 4))
  (dSeq (dIfS (dTest (dOp (δEq true) (dCallK 0 2 kx (fs_is_full A) dNil (dCons (dMake false 2 A.C_Stock kx (fs_Stock___init__ A) (dCons (dVar 4) dNil)) (dCons (dCB δLen (dCons (dVar 1) dNil)) dNil))) (dOp (δEq false) (dCallN 2 kx (fs__law_room A) (dCons (dVar 4) (dCons (dCB δLen (dCons (dVar 1) dNil)) dNil))) (dTup (dCons (dC (.int 1)) (dCons (dC (.int 1)) dNil))))))
  (dRet (dC (.bl false)))
  dNext)
  (dSeq (dPar 5 3 (dCallN 1 kx (fs__law_apart A) (dCons (dVar 2) dNil)) (dOp δIx (dLst false (dCons (dCB δLen (dCons (dVar 1) dNil)) (dCons (dC (.int 3)) dNil))) (dCallN 2 kx (fs__law_draw A) (dCons (dVar 0) (dCons (dC (.int 2)) dNil)))))
  (dSeq (dAsg (dCallN 2 kx (fs__law_filling A) (dCons (dVar 5) (dCons (dSl false (dC (.str (T [97, 98, 99]))) dON (dOS (dVar 3))) dNil))) (dName 6))
  (dSeq (dDrop (dBM "list" δAppend (dCallN 2 kx (fs_filling A) (dCons (dMake false 2 A.C_Stock kx (fs_Stock___init__ A) (dCons (dVar 5) dNil)) (dCons (dVar 3) dNil))) (dCons (dC (.str (T [113]))) dNil)))
  (dSeq (dIfS (dTest (dOp (δEq true) (dCallK 0 2 kx (fs_filling A) dNil (dCons (dMake false 2 A.C_Stock kx (fs_Stock___init__ A) (dCons (dVar 5) dNil)) (dCons (dVar 3) dNil))) (dVar 6)))
  (dRet (dC (.bl false)))
  dNext)
  (dSeq (dAsg (dOp (δAdd false) (dVar 5) (dVar 6)) (dName 7))
  (dSeq (dIfS (dAnd (dTest (dOp (δLt) (dCB δLen (dCons (dVar 7) dNil)) (dC (.int 9)))) (dTest (dOp (δLt) (dCB δMaxL (dCons (dLc false (dIL (dVar 7)) (dName 8) dYes (dCB δLen (dCons (dVar 8) dNil)) [8]) dNil)) (dC (.int 9)))))
  (dIfS (dOr (dAnd (dTest (dOp (δEq true) (dVar 6) (dLst false dNil))) (dNot (dTru (dCallN 2 kx (fs_is_full A) (dCons (dMake false 2 A.C_Stock kx (fs_Stock___init__ A) (dCons (dVar 7) dNil)) (dCons (dVar 3) dNil)))))) (dTest (dOp (δEq true) (dCallN 1 kx (fs__law_apart A) (dCons (dVar 7) dNil)) (dVar 7))))
  (dRet (dC (.bl false)))
  dNext)
  dNext)
  (dSeq (dIfS (dOr (dTest (dOp (δEq true) (dCallN 2 kx (fs_room A) (dCons (dMake false 2 A.C_Stock kx (fs_Stock___init__ A) (dCons (dLst false (dCons (dC (.str (T [97, 98, 99, 100, 101, 102, 103, 104]))) (dCons (dC (.str (T [122, 122]))) dNil))) dNil)) (dCons (dC (.int 26)) dNil))) (dCallN 2 kx (fs__law_room A) (dCons (dLst false (dCons (dC (.str (T [97, 98, 99, 100, 101, 102, 103, 104]))) (dCons (dC (.str (T [122, 122]))) dNil))) (dCons (dC (.int 26)) dNil))))) (dNot (dTru (dCallN 1 kx (fs__law_long_right A) (dCons (dVar 0) dNil)))))
  (dRet (dC (.bl false)))
  dNext)
  (dRet (dAndV (dOp (δEq false) (dCallN 2 kx (fs_filling A) (dCons (dMake false 2 A.C_Stock kx (fs_Stock___init__ A) (dCons (dLst false (dCons (dC (.str (T [98]))) (dCons (dC (.str (T [97]))) dNil))) dNil)) (dCons (dC (.int 2)) dNil))) (dLst false dNil)) (dAndV (dCallN 2 kx (fs_is_full A) (dCons (dMake false 2 A.C_Stock kx (fs_Stock___init__ A) (dCons (dLst false (dCons (dC (.str (T [97]))) dNil)) dNil)) (dCons (dC (.int 1)) dNil))) (dOp (δEq false) (dCallN 2 kx (fs_room A) (dCons (dMake false 2 A.C_Stock kx (fs_Stock___init__ A) (dCons (dLst false (dCons (dC (.str (T [122]))) dNil)) dNil)) (dCons (dC (.int 26)) dNil))) (dTup (dCons (dC (.int 1)) (dCons (dC (.int 26)) dNil)))))))))))))))))))
def ph_law (A : Ad) (kx : KXr) : FSt :=
  (dSeq (dIfS (dOr (dTest (dOp (δIsB true) (dCallN 2 kx (fs_is_full A) (dCons (dMake false 2 A.C_Stock kx (fs_Stock___init__ A) (dCons (dCB (δListTx false) (dCons (dC (.str (T [104, 103, 102, 101, 100, 99, 98, 97]))) dNil)) dNil)) (dCons (dC (.int 8)) dNil))) (dC (.bl true)))) (dTest (dOp (δIsB true) (dCallN 2 kx (fs_is_full A) (dCons (dMake false 2 A.C_Stock kx (fs_Stock___init__ A) (dCons (dCB (δListTx false) (dCons (dC (.str (T [97, 98, 99, 100, 101, 102, 103, 104]))) dNil)) dNil)) (dCons (dC (.int 9)) dNil))) (dC (.bl false)))))
  (dRet (dC (.bl false)))
  dNext)
  (dSeq (dFor (dIR1 (dCons (dCB δMax2 (dCons (dC (.int 1)) (dCons (dCB δMin2 (dCons (dC (.int 8)) (dCons (dCB δLen (dCons (dVar 0) dNil)) dNil))) dNil))) dNil)) (dName 1)
  (dSeq (dAsg (dCallN 2 kx (fs__law_pool A) (dCons (dVar 0) (dCons (dVar 1) dNil))) (dName 2))
  (dFor (dIR1 (dCons (dC (.int 2)) dNil)) (dName 3)
  (dIfS (dNot (dTru (dCallN 1 kx (fs__law_right A) (dCons (dVar 2) dNil))))
  (dRet (dC (.bl false)))
  dNext))))
  (dRet (dC (.bl true)))))
end Lw
end
noncomputable section
namespace Lw
open PySem PySem.Spec PyProof.Rows L2 Evl Dl Classical
variable (A : Ad)
abbrev Dat (n : Nat) (N : List Str) (fs : FS) (φ : KXr → FSt) : Prop := ∀ ds M Kp KE, ds.length = n → fs ds M Kp KE → φ (kxOf KE) (ksOf Kp) (startD N ds) M
theorem in_LET (c : Nat) (l : List Nat) : inS (T [c]) (T l) = decide (c ∈ l) := in_T1 c l
theorem all_row (w : Wd1) : (w.map fun c => inS (T [c]) (T LET)).all id = decide (Row w) := by
  rw [Bool.eq_iff_iff, decide_eq_true_eq]
  simp only [List.all_map, List.all_eq_true, Function.comp, id, in_T1, decide_eq_true_eq]
  exact Iff.rfl
theorem dat_is_row : Dat 1 nm_is_row (fs_is_row A) (ph_is_row A) := by
  rintro ds M Kp KE - ⟨w, rfl, hw, h⟩
  simp only [dRet, dCB, dCons, dNil, dLc, dLc2, dIS, dIL, dIT, dIR1, dIR2, dIEL, dIET, dIES, dVar, dC, dOp, dUn, dTest, kTest, dChain, kChain, dAnd, dOr, dNot, dTru, dSeq, dNext, dIfS, dFor, dAsg, dName, dGTup, dGCons, dGNil, dLst, dTup, dSl, dON, dOS, dOrV, dAndV, dNotV, dIf, dPar, dAug, dGSub, dRetN, dBreak, dCont, dDrop, dYes, dNever, startD, ksOf, wipeR, List.map_cons, List.map_nil, List.cons_append, List.nil_append, List.getElem?_cons_zero, List.getElem?_cons_succ, List.length_cons, List.length_nil, Nat.reduceAdd, Nat.reduceSub, List.reduceReplicate, List.set_cons_zero, List.set_cons_succ, nB, newL, decide_true, true_and, and_true, eq_self, reduceIte, List.length_map, Bool.not_true, Bool.not_false, ph_is_row, tD, signs_T]
  refine lc_map1 (fun x => match x with | .str y => .bl (inS y (T LET)) | x => x) trivial (by rw [List.length_map]; exact hw) (fun x hx Q hQ => ?_) ?_
  · obtain ⟨c, hc, rfl⟩ := List.mem_map.mp hx
    exact hQ
  · refine ⟨_, w.map fun c => inS (T [c]) (T LET), rfl, ?_, kSet_same ?_⟩
    · rw [← bls_map, List.map_map, List.map_map]; rfl
    · rw [all_row]; exact h
theorem good_flat (ws : List Wd1) : (wsD ws).all flatD = true := by
  simp only [wsD, List.all_map, List.all_eq_true, Function.comp]
  intro x _
  rfl
theorem any_in (w : Wd1) (ws : List Wd1) : ((wsD ws).any fun d => eqDf d (tD w)) = decide (w ∈ ws) := by
  rw [Bool.eq_iff_iff, decide_eq_true_eq]
  simp only [wsD, List.any_map, List.any_eq_true, Function.comp, tD, eqDf, beq_iff_eq, T_inj]
  exact ⟨fun ⟨x, h1, h2⟩ => h2 ▸ h1, fun h => ⟨w, h, rfl⟩⟩
theorem dat_check_words : Dat 1 nm_check_words (fs_check_words A) (ph_check_words A) := by
  rintro ds M Kp KE - ⟨d, ws, rfl, hv, g, h⟩
  simp only [dRet, dCB, dCons, dNil, dLc, dLc2, dIS, dIL, dIT, dIR1, dIR2, dIEL, dIET, dIES, dVar, dC, dOp, dUn, dTest, kTest, dChain, kChain, dAnd, dOr, dNot, dTru, dSeq, dNext, dIfS, dFor, dAsg, dName, dGTup, dGCons, dGNil, dLst, dTup, dSl, dON, dOS, dOrV, dAndV, dNotV, dIf, dPar, dAug, dGSub, dRetN, dBreak, dCont, dDrop, dYes, dNever, startD, ksOf, wipeR, List.map_cons, List.map_nil, List.cons_append, List.nil_append, List.getElem?_cons_zero, List.getElem?_cons_succ, List.length_cons, List.length_nil, Nat.reduceAdd, Nat.reduceSub, List.reduceReplicate, List.set_cons_zero, List.set_cons_succ, nB, newL, decide_true, true_and, and_true, eq_self, reduceIte, List.length_map, Bool.not_true, Bool.not_false, ph_check_words]
  have gl : (wsD ws).length = ws.length := List.length_map _
  refine iterE_view hv fun P hP => for_inv (fun i ρ M' => M' = M ∧ ∃ a b, ρ = [some d, a, b]) ⟨rfl, _, _, rfl⟩ ?_ ?_
  · rintro i x ρ M' Nx hx ⟨rfl, a, b, rfl⟩ hN
    refine ⟨hP _ (Ext.refl _), ?_⟩
    obtain ⟨y, hy, rfl⟩ := enumD_inv hx
    simp only [wsD, List.getElem?_map, Option.map_eq_some_iff] at hy
    obtain ⟨w, hw, rfl⟩ := hy
    have hm : w ∈ ws := List.mem_of_getElem? hw
    obtain ⟨l1, l2⟩ := g.len w hm
    have hb : w.length ≤ sizeLine := Nat.le_trans l2 (by unfold sizeLine; omega)
    have hi : i < ws.length := (List.getElem?_eq_some_iff.mp hw).1
    simp only [dRet, dCB, dCons, dNil, dLc, dLc2, dIS, dIL, dIT, dIR1, dIR2, dIEL, dIET, dIES, dVar, dC, dOp, dUn, dTest, kTest, dChain, kChain, dAnd, dOr, dNot, dTru, dSeq, dNext, dIfS, dFor, dAsg, dName, dGTup, dGCons, dGNil, dLst, dTup, dSl, dON, dOS, dOrV, dAndV, dNotV, dIf, dPar, dAug, dGSub, dRetN, dBreak, dCont, dDrop, dYes, dNever, startD, ksOf, wipeR, List.map_cons, List.map_nil, List.cons_append, List.nil_append, List.getElem?_cons_zero, List.getElem?_cons_succ, List.length_cons, List.length_nil, Nat.reduceAdd, Nat.reduceSub, List.reduceReplicate, List.set_cons_zero, List.set_cons_succ, nB, newL, decide_true, true_and, and_true, eq_self, reduceIte, List.length_map, Bool.not_true, Bool.not_false, dCallN]
    refine len_T hb ?_
    have e1 : decide ((1 : Int) ≤ (w.length : Int)) = true := decide_eq_true (by omega)
    have e2 : decide ((w.length : Int) ≤ 8) = true := decide_eq_true (by omega)
    simp only [dRet, dCB, dCons, dNil, dLc, dLc2, dIS, dIL, dIT, dIR1, dIR2, dIEL, dIET, dIES, dVar, dC, dOp, dUn, dTest, kTest, dChain, kChain, dAnd, dOr, dNot, dTru, dSeq, dNext, dIfS, dFor, dAsg, dName, dGTup, dGCons, dGNil, dLst, dTup, dSl, dON, dOS, dOrV, dAndV, dNotV, dIf, dPar, dAug, dGSub, dRetN, dBreak, dCont, dDrop, dYes, dNever, startD, ksOf, wipeR, List.map_cons, List.map_nil, List.cons_append, List.nil_append, List.getElem?_cons_zero, List.getElem?_cons_succ, List.length_cons, List.length_nil, Nat.reduceAdd, Nat.reduceSub, List.reduceReplicate, List.set_cons_zero, List.set_cons_succ, nB, newL, decide_true, true_and, and_true, eq_self, reduceIte, List.length_map, Bool.not_true, Bool.not_false, δLe, δOrd, e1, e2]
    refine ⟨w, rfl, hb, _, rfl, ?_⟩
    rw [decide_eq_true (g.row w hm)]
    refine slice_view hv ?_
    try simp only [dRet, dCB, dCons, dNil, dLc, dLc2, dIS, dIL, dIT, dIR1, dIR2, dIEL, dIET, dIES, dVar, dC, dOp, dUn, dTest, kTest, dChain, kChain, dAnd, dOr, dNot, dTru, dSeq, dNext, dIfS, dFor, dAsg, dName, dGTup, dGCons, dGNil, dLst, dTup, dSl, dON, dOS, dOrV, dAndV, dNotV, dIf, dPar, dAug, dGSub, dRetN, dBreak, dCont, dDrop, dYes, dNever, startD, ksOf, wipeR, List.map_cons, List.map_nil, List.cons_append, List.nil_append, List.getElem?_cons_zero, List.getElem?_cons_succ, List.length_cons, List.length_nil, Nat.reduceAdd, Nat.reduceSub, List.reduceReplicate, List.set_cons_zero, List.set_cons_succ, nB, newL, decide_true, true_and, and_true, eq_self, reduceIte, List.length_map, Bool.not_true, Bool.not_false]
    rw [cutL_to _ (by rw [gl]; omega)]
    refine in_view (ds := wsD (ws.take i)) (congrArg some (List.map_take).symm) rfl (good_flat _) ?_
    rw [any_in]
    have e3 : decide (w ∈ ws.take i) = false := decide_eq_false fun z => ?_
    · simp only [dRet, dCB, dCons, dNil, dLc, dLc2, dIS, dIL, dIT, dIR1, dIR2, dIEL, dIET, dIES, dVar, dC, dOp, dUn, dTest, kTest, dChain, kChain, dAnd, dOr, dNot, dTru, dSeq, dNext, dIfS, dFor, dAsg, dName, dGTup, dGCons, dGNil, dLst, dTup, dSl, dON, dOS, dOrV, dAndV, dNotV, dIf, dPar, dAug, dGSub, dRetN, dBreak, dCont, dDrop, dYes, dNever, startD, ksOf, wipeR, List.map_cons, List.map_nil, List.cons_append, List.nil_append, List.getElem?_cons_zero, List.getElem?_cons_succ, List.length_cons, List.length_nil, Nat.reduceAdd, Nat.reduceSub, List.reduceReplicate, List.set_cons_zero, List.set_cons_succ, nB, newL, decide_true, true_and, and_true, eq_self, reduceIte, List.length_map, Bool.not_true, Bool.not_false, e3]
      exact hN _ _ ⟨rfl, _, _, rfl⟩
    · obtain ⟨j, hj, e⟩ := List.mem_iff_getElem.mp z
      rw [List.getElem_take] at e
      have hj2 : j < i := by rw [List.length_take] at hj; omega
      have := (List.getElem_inj (h₀ := by omega) (h₁ := hi) g.nd).mp (e.trans (List.getElem?_eq_some_iff.mp hw).2.symm)
      omega
  · rintro ρ M' ⟨rfl, a, b, rfl⟩
    refine ⟨hP _ (Ext.refl _), ?_⟩
    try simp only [dRet, dCB, dCons, dNil, dLc, dLc2, dIS, dIL, dIT, dIR1, dIR2, dIEL, dIET, dIES, dVar, dC, dOp, dUn, dTest, kTest, dChain, kChain, dAnd, dOr, dNot, dTru, dSeq, dNext, dIfS, dFor, dAsg, dName, dGTup, dGCons, dGNil, dLst, dTup, dSl, dON, dOS, dOrV, dAndV, dNotV, dIf, dPar, dAug, dGSub, dRetN, dBreak, dCont, dDrop, dYes, dNever, startD, ksOf, wipeR, List.map_cons, List.map_nil, List.cons_append, List.nil_append, List.getElem?_cons_zero, List.getElem?_cons_succ, List.length_cons, List.length_nil, Nat.reduceAdd, Nat.reduceSub, List.reduceReplicate, List.set_cons_zero, List.set_cons_succ, nB, newL, decide_true, true_and, and_true, eq_self, reduceIte, List.length_map, Bool.not_true, Bool.not_false]
    refine len_view hv ?_
    rw [gl]
    have e1 : decide ((1 : Int) ≤ (ws.length : Int)) = true := decide_eq_true (by have := g.one; omega)
    have e2 : decide ((ws.length : Int) ≤ 8) = true := decide_eq_true (by have := g.few; omega)
    simp only [dRet, dCB, dCons, dNil, dLc, dLc2, dIS, dIL, dIT, dIR1, dIR2, dIEL, dIET, dIES, dVar, dC, dOp, dUn, dTest, kTest, dChain, kChain, dAnd, dOr, dNot, dTru, dSeq, dNext, dIfS, dFor, dAsg, dName, dGTup, dGCons, dGNil, dLst, dTup, dSl, dON, dOS, dOrV, dAndV, dNotV, dIf, dPar, dAug, dGSub, dRetN, dBreak, dCont, dDrop, dYes, dNever, startD, ksOf, wipeR, List.map_cons, List.map_nil, List.cons_append, List.nil_append, List.getElem?_cons_zero, List.getElem?_cons_succ, List.length_cons, List.length_nil, Nat.reduceAdd, Nat.reduceSub, List.reduceReplicate, List.set_cons_zero, List.set_cons_succ, nB, newL, decide_true, true_and, and_true, eq_self, reduceIte, List.length_map, Bool.not_true, Bool.not_false, δLe, δOrd, e1, e2]
    exact kSet_same h
theorem dat_Stock___init__ : Dat 2 nm_Stock___init__ (fs_Stock___init__ A) (ph_Stock___init__ A) := by
  rintro ds M Kp KE - ⟨x, dx, d, ws, rfl, hm, hv, g, h⟩
  simp only [dRet, dCB, dCons, dNil, dLc, dLc2, dIS, dIL, dIT, dIR1, dIR2, dIEL, dIET, dIES, dVar, dC, dOp, dUn, dTest, kTest, dChain, kChain, dAnd, dOr, dNot, dTru, dSeq, dNext, dIfS, dFor, dAsg, dName, dGTup, dGCons, dGNil, dLst, dTup, dSl, dON, dOS, dOrV, dAndV, dNotV, dIf, dPar, dAug, dGSub, dRetN, dBreak, dCont, dDrop, dYes, dNever, startD, ksOf, wipeR, List.map_cons, List.map_nil, List.cons_append, List.nil_append, List.getElem?_cons_zero, List.getElem?_cons_succ, List.length_cons, List.length_nil, Nat.reduceAdd, Nat.reduceSub, List.reduceReplicate, List.set_cons_zero, List.set_cons_succ, nB, newL, decide_true, true_and, and_true, eq_self, reduceIte, List.length_map, Bool.not_true, Bool.not_false, ph_Stock___init__, dCallN, dPutF]
  refine ⟨d, ws, rfl, hv, g, ?_⟩
  have ht : ∀ Kq : KD, Kq (.tup (wsD ws)) M → δTuple [d] M Kq := fun Kq hq => by
    cases d with
    | tup _ => cases hv
    | _ => exact ⟨_, hv, hq⟩
  refine ht _ ⟨x, A.C_Stock, dx, [], rfl, hm, rfl, by decide, kSet_same h⟩
theorem sum_le {l : List Nat} {k : Nat} (h : ∀ x ∈ l, x ≤ k) : l.sum ≤ l.length * k := by
  induction l with
  | nil => simp
  | cons a l ih =>
    rw [List.sum_cons, List.length_cons, Nat.succ_mul]
    have := h a (List.mem_cons_self ..)
    have := ih fun x hx => h x (List.mem_cons_of_mem _ hx)
    omega
/-- [1 for w in .. if pr w] != [] -/
theorem some_lc {P : Mem → Prop} {k : Nat} {α : FT} {ρ : Rho} {ws : List Wd1} {M : Mem} {Kq : KD} (pr : Wd1 → Bool) (hP : P M) (hl : ws.length ≤ 1000)
    (hc : ∀ w ∈ ws, ∀ Kc : Bool → Mem → Prop, Kc (pr w) M → α (ρ.set k (some (tD w))) M Kc) (h : Kq (.bl (decide (∃ w ∈ ws, pr w = true))) M) :
    lcD P (dName k) α (dC (.int 1)) ρ (wsD ws) [] M fun acc M2 => 0 ≤ sizeLine ∧ δEq true (.lst acc) (.lst []) M2 Kq := by
  refine lc_map (fun _ => .int 1) (fun x => match x with | .str y => pr y.cps.toList | _ => false) hP _ _ ?_ ?_ ?_
  · simp only [List.length_nil, wsD, List.length_map]; unfold sizeLine; omega
  · intro x hx Q R hQ hR
    obtain ⟨w, hw, rfl⟩ := List.mem_map.mp hx
    show α (ρ.set k (some (tD w))) M _
    refine hc w hw _ ?_
    cases e : pr w with
    | true => exact hQ e
    | false => exact hR e
  · refine ⟨Nat.zero_le _, eq_nil (ds := _) rfl (fun d hd => ?_) ?_⟩
    · rw [List.nil_append] at hd
      obtain ⟨_, _, rfl⟩ := List.mem_map.mp hd
      exact lay_int _ _
    · have e : (!(([] : List D) ++ ((wsD ws).filter fun x => match x with | .str y => pr y.cps.toList | _ => false).map fun _ => D.int 1).isEmpty) = decide (∃ w ∈ ws, pr w = true) := by
        rw [List.nil_append, Bool.eq_iff_iff, decide_eq_true_eq]
        simp only [Bool.not_eq_true', List.isEmpty_eq_false_iff, ne_eq, List.map_eq_nil_iff, List.filter_eq_nil_iff, wsD, List.mem_map, forall_exists_index, and_imp, forall_apply_eq_imp_iff₂]
        constructor
        · intro z
          refine Classical.byContradiction fun hn => z fun w hw hp => hn ⟨w, hw, hp⟩
        · rintro ⟨w, hw, hp⟩ z
          exact z w hw hp
      show Kq (.bl _) M
      rw [e]
      exact h
theorem dec_T {a b : Wd1} : decide (T a = T b) = decide (a = b) := T_dec a b
theorem dat_check_letters : Dat 2 nm_check_letters (fs_check_letters A) (ph_check_letters A) := by
  rintro ds M Kp KE - ⟨ws, k, rfl, g, h1, h2, hw, h⟩
  have hwb : ∀ w ∈ ws, w.length ≤ sizeLine := fun w hw => Nat.le_trans (g.len w hw).2 (by unfold sizeLine; omega)
  have e1 : decide ((1 : Int) ≤ (k : Int)) = true := decide_eq_true (by omega)
  have e2 : decide ((k : Int) ≤ ((26 : Nat) : Int)) = true := decide_eq_true (by omega)
  simp only [dRet, dCB, dCons, dNil, dLc, dLc2, dIS, dIL, dIT, dIR1, dIR2, dIEL, dIET, dIES, dVar, dC, dOp, dUn, dTest, kTest, dChain, kChain, dAnd, dOr, dNot, dTru, dSeq, dNext, dIfS, dFor, dAsg, dName, dGTup, dGCons, dGNil, dLst, dTup, dSl, dON, dOS, dOrV, dAndV, dNotV, dIf, dPar, dAug, dGSub, dRetN, dBreak, dCont, dDrop, dYes, dNever, startD, ksOf, wipeR, List.map_cons, List.map_nil, List.cons_append, List.nil_append, List.getElem?_cons_zero, List.getElem?_cons_succ, List.length_cons, List.length_nil, Nat.reduceAdd, Nat.reduceSub, List.reduceReplicate, List.set_cons_zero, List.set_cons_succ, nB, newL, decide_true, true_and, and_true, eq_self, reduceIte, List.length_map, Bool.not_true, Bool.not_false, ph_check_letters, δLe, δOrd, e1]
  refine len_T (by unfold sizeLine; simp only [List.length_cons, List.length_nil]; omega) ?_
  simp only [dRet, dCB, dCons, dNil, dLc, dLc2, dIS, dIL, dIT, dIR1, dIR2, dIEL, dIET, dIES, dVar, dC, dOp, dUn, dTest, kTest, dChain, kChain, dAnd, dOr, dNot, dTru, dSeq, dNext, dIfS, dFor, dAsg, dName, dGTup, dGCons, dGNil, dLst, dTup, dSl, dON, dOS, dOrV, dAndV, dNotV, dIf, dPar, dAug, dGSub, dRetN, dBreak, dCont, dDrop, dYes, dNever, startD, ksOf, wipeR, List.map_cons, List.map_nil, List.cons_append, List.nil_append, List.getElem?_cons_zero, List.getElem?_cons_succ, List.length_cons, List.length_nil, Nat.reduceAdd, Nat.reduceSub, List.reduceReplicate, List.set_cons_zero, List.set_cons_succ, nB, newL, decide_true, true_and, and_true, eq_self, reduceIte, List.length_map, Bool.not_true, Bool.not_false, e2, dFld, stk]
  refine ⟨_, _, _, rfl, rfl, rfl, ?_⟩
  try simp only [dRet, dCB, dCons, dNil, dLc, dLc2, dIS, dIL, dIT, dIR1, dIR2, dIEL, dIET, dIES, dVar, dC, dOp, dUn, dTest, kTest, dChain, kChain, dAnd, dOr, dNot, dTru, dSeq, dNext, dIfS, dFor, dAsg, dName, dGTup, dGCons, dGNil, dLst, dTup, dSl, dON, dOS, dOrV, dAndV, dNotV, dIf, dPar, dAug, dGSub, dRetN, dBreak, dCont, dDrop, dYes, dNever, startD, ksOf, wipeR, List.map_cons, List.map_nil, List.cons_append, List.nil_append, List.getElem?_cons_zero, List.getElem?_cons_succ, List.length_cons, List.length_nil, Nat.reduceAdd, Nat.reduceSub, List.reduceReplicate, List.set_cons_zero, List.set_cons_succ, nB, newL, decide_true, true_and, and_true, eq_self, reduceIte, List.length_map, Bool.not_true, Bool.not_false]
  refine lc2_map (fun d => match d with | .str y => y.cps.toList.map (fun c => .bl (inS (T [c]) (T (LET.take k)))) | _ => []) trivial _ _ ?_ ?_ ?_
  · intro x hx acc Q hl hQ
    obtain ⟨w, hwm, rfl⟩ := List.mem_map.mp hx
    simp only [dRet, dCB, dCons, dNil, dLc, dLc2, dIS, dIL, dIT, dIR1, dIR2, dIEL, dIET, dIES, dVar, dC, dOp, dUn, dTest, kTest, dChain, kChain, dAnd, dOr, dNot, dTru, dSeq, dNext, dIfS, dFor, dAsg, dName, dGTup, dGCons, dGNil, dLst, dTup, dSl, dON, dOS, dOrV, dAndV, dNotV, dIf, dPar, dAug, dGSub, dRetN, dBreak, dCont, dDrop, dYes, dNever, startD, ksOf, wipeR, List.map_cons, List.map_nil, List.cons_append, List.nil_append, List.getElem?_cons_zero, List.getElem?_cons_succ, List.length_cons, List.length_nil, Nat.reduceAdd, Nat.reduceSub, List.reduceReplicate, List.set_cons_zero, List.set_cons_succ, nB, newL, decide_true, true_and, and_true, eq_self, reduceIte, List.length_map, Bool.not_true, Bool.not_false, tD, signs_T]
    refine lc_map1a (fun x => match x with | .str y => .bl (inS y (T (LET.take k))) | x => x) trivial ?_ (fun x hx Q' hQ' => ?_) ?_
    · simp only [tD, T_cps, List.length_map] at hl ⊢
      exact hl
    · obtain ⟨c, hc, rfl⟩ := List.mem_map.mp hx
      try simp only [dRet, dCB, dCons, dNil, dLc, dLc2, dIS, dIL, dIT, dIR1, dIR2, dIEL, dIET, dIES, dVar, dC, dOp, dUn, dTest, kTest, dChain, kChain, dAnd, dOr, dNot, dTru, dSeq, dNext, dIfS, dFor, dAsg, dName, dGTup, dGCons, dGNil, dLst, dTup, dSl, dON, dOS, dOrV, dAndV, dNotV, dIf, dPar, dAug, dGSub, dRetN, dBreak, dCont, dDrop, dYes, dNever, startD, ksOf, wipeR, List.map_cons, List.map_nil, List.cons_append, List.nil_append, List.getElem?_cons_zero, List.getElem?_cons_succ, List.length_cons, List.length_nil, Nat.reduceAdd, Nat.reduceSub, List.reduceReplicate, List.set_cons_zero, List.set_cons_succ, nB, newL, decide_true, true_and, and_true, eq_self, reduceIte, List.length_map, Bool.not_true, Bool.not_false]
      refine sl_T (by unfold sizeLine; simp only [List.length_cons, List.length_nil]; omega) ?_
      rw [cutL_to']
      exact hQ'
    · rw [List.map_map]
      exact hQ
  · simp only [List.length_nil, Nat.zero_add]
    rw [List.length_flatMap]
    refine Nat.le_trans (sum_le (k := 8) fun x hx => ?_) ?_
    · obtain ⟨y, hy, rfl⟩ := List.mem_map.mp hx
      obtain ⟨w, hwm, rfl⟩ := List.mem_map.mp hy
      simp only [tD, T_cps, List.length_map]
      exact (g.len w hwm).2
    · have := g.few
      simp only [wsD, List.length_map]
      unfold sizeLine
      omega
  · refine ⟨_, (ws.flatMap fun w => w.map fun c => inS (T [c]) (T (LET.take k))), rfl, ?_, _, rfl, ?_⟩
    · rw [← bls_map, List.nil_append, wsD, List.flatMap_map, List.map_flatMap]
      congr 1
      refine congrArg (fun f => List.flatMap f ws) (funext fun w => ?_)
      simp only [tD, T_cps, List.map_map]
      rfl
    · have e : (ws.flatMap fun w => w.map fun c => inS (T [c]) (T (LET.take k))).all id = true := by
        rw [List.all_eq_true]
        intro x hx
        obtain ⟨w, hwm, hx⟩ := List.mem_flatMap.mp hx
        obtain ⟨c, hc, rfl⟩ := List.mem_map.mp hx
        rw [in_T1]
        exact decide_eq_true (hw w hwm c hc)
      rw [e]
      exact kSet_same h
theorem log2_small {n k : Nat} (h : n ≤ k) : n.log2 ≤ k := Nat.le_trans (Nat.log2_le_self n) h
theorem fmod_bd (x : Int) {m : Int} (h : 0 < m) : 0 ≤ x.fmod m ∧ x.fmod m < m := by
  rw [Int.fmod_eq_emod_of_nonneg _ (Int.le_of_lt h)]
  exact ⟨Int.emod_nonneg _ (by omega), Int.emod_lt_of_pos _ h⟩
theorem mulW_small {i j : Int} {a b : Nat} (hi : i.natAbs ≤ 2 ^ a) (hj : j.natAbs ≤ 2 ^ b) (h : a + b ≤ 999990) : CMulW i j := by
  have l : ∀ {n k : Nat}, n ≤ 2 ^ k → n.log2 ≤ k := fun {n k} h => by
    by_cases z : n = 0
    · subst z; simp
    · exact Nat.le_trans ((Nat.log2_lt z).mpr (Nat.lt_of_le_of_lt h (Nat.pow_lt_pow_right (by omega) (Nat.lt_succ_self k))) |> Nat.le_of_lt_succ) (Nat.le_refl _)
  unfold CMulW
  have := l hi
  have := l hj
  omega
theorem dat__law_pool : Dat 2 nm__law_pool (fs__law_pool A) (ph__law_pool A) := by
  rintro ds M Kp KE - ⟨ns, i, rfl, hi, h⟩
  have fin : ∀ cell : Int, ∀ ρ : Rho, ρ[1]? = some (some (.int (i : Int))) → ρ[2]? = some (some (.int cell)) → (dRet (dLst true (dCons (dCB δMax2 (dCons (dC (.int 0)) (dCons (dOp δSub (dCB δAbs (dCons (dVar 2) dNil)) (dOp δPow (dC (.int 10)) (dC (.int 18)))) dNil))) (dCons (dOp (δAdd false) (dOp δMod (dCB δInt (dCons (dVar 2) dNil)) (dC (.int 2305843009213693951))) (dOp δMul (dC (.int 7368787)) (dOp (δAdd false) (dVar 1) (dC (.int 1))))) (dCons (dC (.int 0)) dNil))))) (ksOf Kp) ρ M := by
    intro cell ρ e1 e2
    simp only [dRet, dCB, dCons, dNil, dLc, dLc2, dIS, dIL, dIT, dIR1, dIR2, dIEL, dIET, dIES, dVar, dC, dOp, dUn, dTest, kTest, dChain, kChain, dAnd, dOr, dNot, dTru, dSeq, dNext, dIfS, dFor, dAsg, dName, dGTup, dGCons, dGNil, dLst, dTup, dSl, dON, dOS, dOrV, dAndV, dNotV, dIf, dPar, dAug, dGSub, dRetN, dBreak, dCont, dDrop, dYes, dNever, startD, ksOf, wipeR, List.map_cons, List.map_nil, List.cons_append, List.nil_append, List.getElem?_cons_zero, List.getElem?_cons_succ, List.length_cons, List.length_nil, Nat.reduceAdd, Nat.reduceSub, List.reduceReplicate, List.set_cons_zero, List.set_cons_succ, nB, newL, decide_true, true_and, and_true, eq_self, reduceIte, List.length_map, Bool.not_true, Bool.not_false, e1, e2, δMax2, δSub, δI0, δI, δPow, δAbs, δAdd, δMod, δInt, δMul]
    refine ⟨⟨by decide, by decide⟩, by decide, mulW_small (a := 23) (b := 7) (by decide) (by omega) (by omega), by unfold sizeLine; omega, fun p hp => kSet_same (h p _ hp ⟨_, _, _, rfl, ?_⟩)⟩
    have := fmod_bd cell (m := 2305843009213693951) (by decide)
    omega
  simp only [dRet, dCB, dCons, dNil, dLc, dLc2, dIS, dIL, dIT, dIR1, dIR2, dIEL, dIET, dIES, dVar, dC, dOp, dUn, dTest, kTest, dChain, kChain, dAnd, dOr, dNot, dTru, dSeq, dNext, dIfS, dFor, dAsg, dName, dGTup, dGCons, dGNil, dLst, dTup, dSl, dON, dOS, dOrV, dAndV, dNotV, dIf, dPar, dAug, dGSub, dRetN, dBreak, dCont, dDrop, dYes, dNever, startD, ksOf, wipeR, List.map_cons, List.map_nil, List.cons_append, List.nil_append, List.getElem?_cons_zero, List.getElem?_cons_succ, List.length_cons, List.length_nil, Nat.reduceAdd, Nat.reduceSub, List.reduceReplicate, List.set_cons_zero, List.set_cons_succ, nB, newL, decide_true, true_and, and_true, eq_self, reduceIte, List.length_map, Bool.not_true, Bool.not_false, ph__law_pool]
  refine ⟨ns.length, rfl, ?_⟩
  simp only [dRet, dCB, dCons, dNil, dLc, dLc2, dIS, dIL, dIT, dIR1, dIR2, dIEL, dIET, dIES, dVar, dC, dOp, dUn, dTest, kTest, dChain, kChain, dAnd, dOr, dNot, dTru, dSeq, dNext, dIfS, dFor, dAsg, dName, dGTup, dGCons, dGNil, dLst, dTup, dSl, dON, dOS, dOrV, dAndV, dNotV, dIf, dPar, dAug, dGSub, dRetN, dBreak, dCont, dDrop, dYes, dNever, startD, ksOf, wipeR, List.map_cons, List.map_nil, List.cons_append, List.nil_append, List.getElem?_cons_zero, List.getElem?_cons_succ, List.length_cons, List.length_nil, Nat.reduceAdd, Nat.reduceSub, List.reduceReplicate, List.set_cons_zero, List.set_cons_succ, nB, newL, decide_true, true_and, and_true, eq_self, reduceIte, List.length_map, Bool.not_true, Bool.not_false, δLt, δOrd]
  by_cases hc : (i : Int) < (ns.length : Int)
  · rw [decide_eq_true hc]
    have hi2 : i < ns.length := by omega
    try simp only [dRet, dCB, dCons, dNil, dLc, dLc2, dIS, dIL, dIT, dIR1, dIR2, dIEL, dIET, dIES, dVar, dC, dOp, dUn, dTest, kTest, dChain, kChain, dAnd, dOr, dNot, dTru, dSeq, dNext, dIfS, dFor, dAsg, dName, dGTup, dGCons, dGNil, dLst, dTup, dSl, dON, dOS, dOrV, dAndV, dNotV, dIf, dPar, dAug, dGSub, dRetN, dBreak, dCont, dDrop, dYes, dNever, startD, ksOf, wipeR, List.map_cons, List.map_nil, List.cons_append, List.nil_append, List.getElem?_cons_zero, List.getElem?_cons_succ, List.length_cons, List.length_nil, Nat.reduceAdd, Nat.reduceSub, List.reduceReplicate, List.set_cons_zero, List.set_cons_succ, nB, newL, decide_true, true_and, and_true, eq_self, reduceIte, List.length_map, Bool.not_true, Bool.not_false]
    refine ix_scr (List.getElem?_eq_getElem hi2) ?_
    exact fin ns[i] [some (.scr ns), some (.int i), some (.int ns[i])] rfl rfl
  · rw [decide_eq_false hc]
    exact fin 0 [some (.scr ns), some (.int i), some (.int 0)] rfl rfl
theorem dat__law_draw : Dat 2 nm__law_draw (fs__law_draw A) (ph__law_draw A) := by
  rintro ds M Kp KE - ⟨p, o, n, s, rfl, hm, ⟨a, b, c, rfl, hb0, hb1, hc0, hc1⟩, hn, hs, hs2, h⟩
  simp only [dRet, dCB, dCons, dNil, dLc, dLc2, dIS, dIL, dIT, dIR1, dIR2, dIEL, dIET, dIES, dVar, dC, dOp, dUn, dTest, kTest, dChain, kChain, dAnd, dOr, dNot, dTru, dSeq, dNext, dIfS, dFor, dAsg, dName, dGTup, dGCons, dGNil, dLst, dTup, dSl, dON, dOS, dOrV, dAndV, dNotV, dIf, dPar, dAug, dGSub, dRetN, dBreak, dCont, dDrop, dYes, dNever, startD, ksOf, wipeR, List.map_cons, List.map_nil, List.cons_append, List.nil_append, List.getElem?_cons_zero, List.getElem?_cons_succ, List.length_cons, List.length_nil, Nat.reduceAdd, Nat.reduceSub, List.reduceReplicate, List.set_cons_zero, List.set_cons_succ, nB, newL, decide_true, true_and, and_true, eq_self, reduceIte, List.length_map, Bool.not_true, Bool.not_false, ph__law_draw]
  have hv : ∀ M' (x y z : Int), M' p = some (.lst [.int x, .int y, .int z]) → viewL M' (.ptr p) = some [.int x, .int y, .int z] := fun M' x y z e => viewL_ptr.mpr e
  have bits : ∀ (x : Int) (k : Nat), x.natAbs < 2 ^ k → k ≤ 1000 → CPowB x 3 := fun x k h1 h2 => ⟨by decide, by
    have : Builtin.Int.intBits x ≤ k := by
      unfold Builtin.Int.intBits
      split
      · omega
      · rename_i z
        have z : x.natAbs ≠ 0 := by simpa using z
        exact (Nat.log2_lt z).mpr h1
    omega⟩
  refine ix_view (i := 0) (hv M a b c hm) rfl ?_
  simp only [dRet, dCB, dCons, dNil, dLc, dLc2, dIS, dIL, dIT, dIR1, dIR2, dIEL, dIET, dIES, dVar, dC, dOp, dUn, dTest, kTest, dChain, kChain, dAnd, dOr, dNot, dTru, dSeq, dNext, dIfS, dFor, dAsg, dName, dGTup, dGCons, dGNil, dLst, dTup, dSl, dON, dOS, dOrV, dAndV, dNotV, dIf, dPar, dAug, dGSub, dRetN, dBreak, dCont, dDrop, dYes, dNever, startD, ksOf, wipeR, List.map_cons, List.map_nil, List.cons_append, List.nil_append, List.getElem?_cons_zero, List.getElem?_cons_succ, List.length_cons, List.length_nil, Nat.reduceAdd, Nat.reduceSub, List.reduceReplicate, List.set_cons_zero, List.set_cons_succ, nB, newL, decide_true, true_and, and_true, eq_self, reduceIte, List.length_map, Bool.not_true, Bool.not_false, δGt, δOrd]
  have sp : (s : Int) ≠ 0 := by omega
  have s9 : CDivW 0 (s : Int) := ⟨by omega, by
    have : (s : Int).natAbs.log2 ≤ 20 := by
      rw [Int.natAbs_natCast]
      exact Nat.le_of_lt_succ ((Nat.log2_lt (by omega)).mpr (by omega))
    omega⟩
  have fin : ∀ (x : Int) (o' : MO), PlO (n + 1) o' → kSet Kp (.int (x.fmod (s : Int))) (updM M p o') := fun x o' ho => by
    obtain ⟨q1, q2⟩ := fmod_bd x (m := (s : Int)) (by omega)
    have := h o' (x.fmod (s : Int)).toNat ho (by omega)
    rw [Int.toNat_of_nonneg q1] at this
    exact kSet_same this
  by_cases ha : (0 : Int) < a
  · rw [decide_eq_true ha]
    try simp only [dRet, dCB, dCons, dNil, dLc, dLc2, dIS, dIL, dIT, dIR1, dIR2, dIEL, dIET, dIES, dVar, dC, dOp, dUn, dTest, kTest, dChain, kChain, dAnd, dOr, dNot, dTru, dSeq, dNext, dIfS, dFor, dAsg, dName, dGTup, dGCons, dGNil, dLst, dTup, dSl, dON, dOS, dOrV, dAndV, dNotV, dIf, dPar, dAug, dGSub, dRetN, dBreak, dCont, dDrop, dYes, dNever, startD, ksOf, wipeR, List.map_cons, List.map_nil, List.cons_append, List.nil_append, List.getElem?_cons_zero, List.getElem?_cons_succ, List.length_cons, List.length_nil, Nat.reduceAdd, Nat.reduceSub, List.reduceReplicate, List.set_cons_zero, List.set_cons_succ, nB, newL, decide_true, true_and, and_true, eq_self, reduceIte, List.length_map, Bool.not_true, Bool.not_false]
    refine ix_view (i := 0) (hv M a b c hm) rfl ?_
    simp only [dRet, dCB, dCons, dNil, dLc, dLc2, dIS, dIL, dIT, dIR1, dIR2, dIEL, dIET, dIES, dVar, dC, dOp, dUn, dTest, kTest, dChain, kChain, dAnd, dOr, dNot, dTru, dSeq, dNext, dIfS, dFor, dAsg, dName, dGTup, dGCons, dGNil, dLst, dTup, dSl, dON, dOS, dOrV, dAndV, dNotV, dIf, dPar, dAug, dGSub, dRetN, dBreak, dCont, dDrop, dYes, dNever, startD, ksOf, wipeR, List.map_cons, List.map_nil, List.cons_append, List.nil_append, List.getElem?_cons_zero, List.getElem?_cons_succ, List.length_cons, List.length_nil, Nat.reduceAdd, Nat.reduceSub, List.reduceReplicate, List.set_cons_zero, List.set_cons_succ, nB, newL, decide_true, true_and, and_true, eq_self, reduceIte, List.length_map, Bool.not_true, Bool.not_false, δInt, δMod, δI]
    refine ⟨sp, ?_⟩
    refine ix_view (i := 0) (hv M a b c hm) rfl ?_
    simp only [dRet, dCB, dCons, dNil, dLc, dLc2, dIS, dIL, dIT, dIR1, dIR2, dIEL, dIET, dIES, dVar, dC, dOp, dUn, dTest, kTest, dChain, kChain, dAnd, dOr, dNot, dTru, dSeq, dNext, dIfS, dFor, dAsg, dName, dGTup, dGCons, dGNil, dLst, dTup, dSl, dON, dOS, dOrV, dAndV, dNotV, dIf, dPar, dAug, dGSub, dRetN, dBreak, dCont, dDrop, dYes, dNever, startD, ksOf, wipeR, List.map_cons, List.map_nil, List.cons_append, List.nil_append, List.getElem?_cons_zero, List.getElem?_cons_succ, List.length_cons, List.length_nil, Nat.reduceAdd, Nat.reduceSub, List.reduceReplicate, List.set_cons_zero, List.set_cons_succ, nB, newL, decide_true, true_and, and_true, eq_self, reduceIte, List.length_map, Bool.not_true, Bool.not_false, δDiv, δI]
    refine ⟨s9, ?_⟩
    refine set_ptr (i := 0) hm (by simp) ?_
    try simp only [dRet, dCB, dCons, dNil, dLc, dLc2, dIS, dIL, dIT, dIR1, dIR2, dIEL, dIET, dIES, dVar, dC, dOp, dUn, dTest, kTest, dChain, kChain, dAnd, dOr, dNot, dTru, dSeq, dNext, dIfS, dFor, dAsg, dName, dGTup, dGCons, dGNil, dLst, dTup, dSl, dON, dOS, dOrV, dAndV, dNotV, dIf, dPar, dAug, dGSub, dRetN, dBreak, dCont, dDrop, dYes, dNever, startD, ksOf, wipeR, List.map_cons, List.map_nil, List.cons_append, List.nil_append, List.getElem?_cons_zero, List.getElem?_cons_succ, List.length_cons, List.length_nil, Nat.reduceAdd, Nat.reduceSub, List.reduceReplicate, List.set_cons_zero, List.set_cons_succ, nB, newL, decide_true, true_and, and_true, eq_self, reduceIte, List.length_map, Bool.not_true, Bool.not_false]
    exact fin a _ ⟨_, _, _, rfl, hb0, hb1, hc0, by omega⟩
  · rw [decide_eq_false ha]
    try simp only [dRet, dCB, dCons, dNil, dLc, dLc2, dIS, dIL, dIT, dIR1, dIR2, dIEL, dIET, dIES, dVar, dC, dOp, dUn, dTest, kTest, dChain, kChain, dAnd, dOr, dNot, dTru, dSeq, dNext, dIfS, dFor, dAsg, dName, dGTup, dGCons, dGNil, dLst, dTup, dSl, dON, dOS, dOrV, dAndV, dNotV, dIf, dPar, dAug, dGSub, dRetN, dBreak, dCont, dDrop, dYes, dNever, startD, ksOf, wipeR, List.map_cons, List.map_nil, List.cons_append, List.nil_append, List.getElem?_cons_zero, List.getElem?_cons_succ, List.length_cons, List.length_nil, Nat.reduceAdd, Nat.reduceSub, List.reduceReplicate, List.set_cons_zero, List.set_cons_succ, nB, newL, decide_true, true_and, and_true, eq_self, reduceIte, List.length_map, Bool.not_true, Bool.not_false]
    refine ix_view (i := 2) (hv M a b c hm) rfl ?_
    simp only [dRet, dCB, dCons, dNil, dLc, dLc2, dIS, dIL, dIT, dIR1, dIR2, dIEL, dIET, dIES, dVar, dC, dOp, dUn, dTest, kTest, dChain, kChain, dAnd, dOr, dNot, dTru, dSeq, dNext, dIfS, dFor, dAsg, dName, dGTup, dGCons, dGNil, dLst, dTup, dSl, dON, dOS, dOrV, dAndV, dNotV, dIf, dPar, dAug, dGSub, dRetN, dBreak, dCont, dDrop, dYes, dNever, startD, ksOf, wipeR, List.map_cons, List.map_nil, List.cons_append, List.nil_append, List.getElem?_cons_zero, List.getElem?_cons_succ, List.length_cons, List.length_nil, Nat.reduceAdd, Nat.reduceSub, List.reduceReplicate, List.set_cons_zero, List.set_cons_succ, nB, newL, decide_true, true_and, and_true, eq_self, reduceIte, List.length_map, Bool.not_true, Bool.not_false, δAdd]
    refine set_ptr (i := 2) hm (by simp) ?_
    try simp only [dRet, dCB, dCons, dNil, dLc, dLc2, dIS, dIL, dIT, dIR1, dIR2, dIEL, dIET, dIES, dVar, dC, dOp, dUn, dTest, kTest, dChain, kChain, dAnd, dOr, dNot, dTru, dSeq, dNext, dIfS, dFor, dAsg, dName, dGTup, dGCons, dGNil, dLst, dTup, dSl, dON, dOS, dOrV, dAndV, dNotV, dIf, dPar, dAug, dGSub, dRetN, dBreak, dCont, dDrop, dYes, dNever, startD, ksOf, wipeR, List.map_cons, List.map_nil, List.cons_append, List.nil_append, List.getElem?_cons_zero, List.getElem?_cons_succ, List.length_cons, List.length_nil, Nat.reduceAdd, Nat.reduceSub, List.reduceReplicate, List.set_cons_zero, List.set_cons_succ, nB, newL, decide_true, true_and, and_true, eq_self, reduceIte, List.length_map, Bool.not_true, Bool.not_false]
    have m1 : updM M p (.lst [.int a, .int b, .int (c + 1)]) p = some (.lst [.int a, .int b, .int (c + 1)]) := updM_same
    refine ix_view (i := 1) (hv _ a b (c + 1) m1) rfl ?_
    refine ix_view (i := 2) (hv _ a b (c + 1) m1) rfl ?_
    simp only [dRet, dCB, dCons, dNil, dLc, dLc2, dIS, dIL, dIT, dIR1, dIR2, dIEL, dIET, dIES, dVar, dC, dOp, dUn, dTest, kTest, dChain, kChain, dAnd, dOr, dNot, dTru, dSeq, dNext, dIfS, dFor, dAsg, dName, dGTup, dGCons, dGNil, dLst, dTup, dSl, dON, dOS, dOrV, dAndV, dNotV, dIf, dPar, dAug, dGSub, dRetN, dBreak, dCont, dDrop, dYes, dNever, startD, ksOf, wipeR, List.map_cons, List.map_nil, List.cons_append, List.nil_append, List.getElem?_cons_zero, List.getElem?_cons_succ, List.length_cons, List.length_nil, Nat.reduceAdd, Nat.reduceSub, List.reduceReplicate, List.set_cons_zero, List.set_cons_succ, nB, newL, decide_true, true_and, and_true, eq_self, reduceIte, List.length_map, Bool.not_true, Bool.not_false, δMul, δI, δAdd]
    refine ⟨mulW_small (a := 24) (b := 42) (by decide) (by omega) (by omega), ?_⟩
    simp only [dRet, dCB, dCons, dNil, dLc, dLc2, dIS, dIL, dIT, dIR1, dIR2, dIEL, dIET, dIES, dVar, dC, dOp, dUn, dTest, kTest, dChain, kChain, dAnd, dOr, dNot, dTru, dSeq, dNext, dIfS, dFor, dAsg, dName, dGTup, dGCons, dGNil, dLst, dTup, dSl, dON, dOS, dOrV, dAndV, dNotV, dIf, dPar, dAug, dGSub, dRetN, dBreak, dCont, dDrop, dYes, dNever, startD, ksOf, wipeR, List.map_cons, List.map_nil, List.cons_append, List.nil_append, List.getElem?_cons_zero, List.getElem?_cons_succ, List.length_cons, List.length_nil, Nat.reduceAdd, Nat.reduceSub, List.reduceReplicate, List.set_cons_zero, List.set_cons_succ, nB, newL, decide_true, true_and, and_true, eq_self, reduceIte, List.length_map, Bool.not_true, Bool.not_false, δPow, δI, δInt, δMod]
    refine ⟨bits _ 70 (by omega) (by omega), by decide, ?_⟩
    try simp only [dRet, dCB, dCons, dNil, dLc, dLc2, dIS, dIL, dIT, dIR1, dIR2, dIEL, dIET, dIES, dVar, dC, dOp, dUn, dTest, kTest, dChain, kChain, dAnd, dOr, dNot, dTru, dSeq, dNext, dIfS, dFor, dAsg, dName, dGTup, dGCons, dGNil, dLst, dTup, dSl, dON, dOS, dOrV, dAndV, dNotV, dIf, dPar, dAug, dGSub, dRetN, dBreak, dCont, dDrop, dYes, dNever, startD, ksOf, wipeR, List.map_cons, List.map_nil, List.cons_append, List.nil_append, List.getElem?_cons_zero, List.getElem?_cons_succ, List.length_cons, List.length_nil, Nat.reduceAdd, Nat.reduceSub, List.reduceReplicate, List.set_cons_zero, List.set_cons_succ, nB, newL, decide_true, true_and, and_true, eq_self, reduceIte, List.length_map, Bool.not_true, Bool.not_false]
    refine ix_view (i := 2) (hv _ a b (c + 1) m1) rfl ?_
    simp only [dRet, dCB, dCons, dNil, dLc, dLc2, dIS, dIL, dIT, dIR1, dIR2, dIEL, dIET, dIES, dVar, dC, dOp, dUn, dTest, kTest, dChain, kChain, dAnd, dOr, dNot, dTru, dSeq, dNext, dIfS, dFor, dAsg, dName, dGTup, dGCons, dGNil, dLst, dTup, dSl, dON, dOS, dOrV, dAndV, dNotV, dIf, dPar, dAug, dGSub, dRetN, dBreak, dCont, dDrop, dYes, dNever, startD, ksOf, wipeR, List.map_cons, List.map_nil, List.cons_append, List.nil_append, List.getElem?_cons_zero, List.getElem?_cons_succ, List.length_cons, List.length_nil, Nat.reduceAdd, Nat.reduceSub, List.reduceReplicate, List.set_cons_zero, List.set_cons_succ, nB, newL, decide_true, true_and, and_true, eq_self, reduceIte, List.length_map, Bool.not_true, Bool.not_false, δMul, δI, δAdd]
    refine ⟨mulW_small (a := 25) (b := 42) (by decide) (by omega) (by omega), ?_⟩
    have f1 := fmod_bd ((b + 15485863 * (c + 1)) ^ (3 : Int).toNat) (m := 162259276829213363391578010288127) (by decide)
    generalize ((b + 15485863 * (c + 1)) ^ (3 : Int).toNat).fmod 162259276829213363391578010288127 = x1 at f1
    try simp only [dRet, dCB, dCons, dNil, dLc, dLc2, dIS, dIL, dIT, dIR1, dIR2, dIEL, dIET, dIES, dVar, dC, dOp, dUn, dTest, kTest, dChain, kChain, dAnd, dOr, dNot, dTru, dSeq, dNext, dIfS, dFor, dAsg, dName, dGTup, dGCons, dGNil, dLst, dTup, dSl, dON, dOS, dOrV, dAndV, dNotV, dIf, dPar, dAug, dGSub, dRetN, dBreak, dCont, dDrop, dYes, dNever, startD, ksOf, wipeR, List.map_cons, List.map_nil, List.cons_append, List.nil_append, List.getElem?_cons_zero, List.getElem?_cons_succ, List.length_cons, List.length_nil, Nat.reduceAdd, Nat.reduceSub, List.reduceReplicate, List.set_cons_zero, List.set_cons_succ, nB, newL, decide_true, true_and, and_true, eq_self, reduceIte, List.length_map, Bool.not_true, Bool.not_false, δPow, δI, δInt, δMod, δDiv]
    refine ⟨bits _ 120 (by omega) (by omega), by decide, ⟨by decide, by decide⟩, sp, ?_⟩
    exact fin _ _ ⟨_, _, _, rfl, hb0, hb1, by omega, by omega⟩
theorem dat__law_word : Dat 3 nm__law_word (fs__law_word A) (ph__law_word A) := by
  rintro ds M Kp KE - ⟨p, o, n, k, sg, rfl, hm, ho, hn, hk1, hk2, hs1, hs2, h⟩
  have hsb : sg.length ≤ sizeLine := by unfold sizeLine; omega
  simp only [dRet, dCB, dCons, dNil, dLc, dLc2, dIS, dIL, dIT, dIR1, dIR2, dIEL, dIET, dIES, dVar, dC, dOp, dUn, dTest, kTest, dChain, kChain, dAnd, dOr, dNot, dTru, dSeq, dNext, dIfS, dFor, dAsg, dName, dGTup, dGCons, dGNil, dLst, dTup, dSl, dON, dOS, dOrV, dAndV, dNotV, dIf, dPar, dAug, dGSub, dRetN, dBreak, dCont, dDrop, dYes, dNever, startD, ksOf, wipeR, List.map_cons, List.map_nil, List.cons_append, List.nil_append, List.getElem?_cons_zero, List.getElem?_cons_succ, List.length_cons, List.length_nil, Nat.reduceAdd, Nat.reduceSub, List.reduceReplicate, List.set_cons_zero, List.set_cons_succ, nB, newL, decide_true, true_and, and_true, eq_self, reduceIte, List.length_map, Bool.not_true, Bool.not_false, ph__law_word, dBM, dCallN]
  refine ⟨rfl, p, o, n, k, rfl, hm, ho, by omega, by omega, by omega, fun o1 d1 ho1 hd1 => ?_⟩
  simp only [dRet, dCB, dCons, dNil, dLc, dLc2, dIS, dIL, dIT, dIR1, dIR2, dIEL, dIET, dIES, dVar, dC, dOp, dUn, dTest, kTest, dChain, kChain, dAnd, dOr, dNot, dTru, dSeq, dNext, dIfS, dFor, dAsg, dName, dGTup, dGCons, dGNil, dLst, dTup, dSl, dON, dOS, dOrV, dAndV, dNotV, dIf, dPar, dAug, dGSub, dRetN, dBreak, dCont, dDrop, dYes, dNever, startD, ksOf, wipeR, List.map_cons, List.map_nil, List.cons_append, List.nil_append, List.getElem?_cons_zero, List.getElem?_cons_succ, List.length_cons, List.length_nil, Nat.reduceAdd, Nat.reduceSub, List.reduceReplicate, List.set_cons_zero, List.set_cons_succ, nB, newL, decide_true, true_and, and_true, eq_self, reduceIte, List.length_map, Bool.not_true, Bool.not_false, δAdd]
  refine ⟨by omega, by omega, ?_⟩
  refine lc_inv (fun i acc M' => ∃ (w : Wd1) (o' : MO), acc = w.map (fun c => .str (T [c])) ∧ w.length = i ∧ (∀ c ∈ w, c ∈ sg) ∧ M' = updM M p o' ∧ PlO (n + 1 + i) o')
    ⟨[], o1, rfl, rfl, by simp, rfl, ho1⟩ ?_ ?_
  · rintro i x acc M' Q R hx ⟨w, o', rfl, hwl, hwc, rfl, ho'⟩ hQ hR
    obtain ⟨hi, rfl⟩ := rangeD_inv hx
    refine ⟨trivial, by rw [List.length_map, hwl]; unfold sizeLine; omega, ?_⟩
    simp only [dRet, dCB, dCons, dNil, dLc, dLc2, dIS, dIL, dIT, dIR1, dIR2, dIEL, dIET, dIES, dVar, dC, dOp, dUn, dTest, kTest, dChain, kChain, dAnd, dOr, dNot, dTru, dSeq, dNext, dIfS, dFor, dAsg, dName, dGTup, dGCons, dGNil, dLst, dTup, dSl, dON, dOS, dOrV, dAndV, dNotV, dIf, dPar, dAug, dGSub, dRetN, dBreak, dCont, dDrop, dYes, dNever, startD, ksOf, wipeR, List.map_cons, List.map_nil, List.cons_append, List.nil_append, List.getElem?_cons_zero, List.getElem?_cons_succ, List.length_cons, List.length_nil, Nat.reduceAdd, Nat.reduceSub, List.reduceReplicate, List.set_cons_zero, List.set_cons_succ, nB, newL, decide_true, true_and, and_true, eq_self, reduceIte, List.length_map, Bool.not_true, Bool.not_false, dCallN, tD]
    refine len_T hsb ⟨p, o', n + 1 + i, sg.length, rfl, updM_same, ho', by omega, by omega, by omega, fun o2 d2 ho2 hd2 => ?_⟩
    refine ix_T (c := sg[d2]) (List.getElem?_eq_getElem hd2) hsb ?_
    refine hQ _ _ ⟨w ++ [sg[d2]], o2, by rw [List.map_append]; rfl, by rw [List.length_append, hwl]; rfl, fun c hc => ?_, updM_upd, ho2⟩
    rcases List.mem_append.mp hc with hc | hc
    · exact hwc c hc
    · rw [List.mem_singleton] at hc; rw [hc]; exact List.getElem_mem hd2
  · rintro acc M' ⟨w, o', rfl, hwl, hwc, rfl, ho'⟩
    rw [rangeD_length] at hwl ho'
    refine ⟨trivial, ?_⟩
    try simp only [dRet, dCB, dCons, dNil, dLc, dLc2, dIS, dIL, dIT, dIR1, dIR2, dIEL, dIET, dIES, dVar, dC, dOp, dUn, dTest, kTest, dChain, kChain, dAnd, dOr, dNot, dTru, dSeq, dNext, dIfS, dFor, dAsg, dName, dGTup, dGCons, dGNil, dLst, dTup, dSl, dON, dOS, dOrV, dAndV, dNotV, dIf, dPar, dAug, dGSub, dRetN, dBreak, dCont, dDrop, dYes, dNever, startD, ksOf, wipeR, List.map_cons, List.map_nil, List.cons_append, List.nil_append, List.getElem?_cons_zero, List.getElem?_cons_succ, List.length_cons, List.length_nil, Nat.reduceAdd, Nat.reduceSub, List.reduceReplicate, List.set_cons_zero, List.set_cons_succ, nB, newL, decide_true, true_and, and_true, eq_self, reduceIte, List.length_map, Bool.not_true, Bool.not_false]
    refine join_Tc (ws := w.map fun c => [c]) rfl (by rw [List.map_map]; rfl) ?_ ?_
    · rw [List.map_map, List.length_map]
      have : ((fun x : List Nat => x.length) ∘ fun c => [c]) = fun _ : Nat => 1 := rfl
      rw [this]
      have : ∀ w : Wd1, (w.map fun _ => 1).sum = w.length := fun w => by
        induction w with
        | nil => rfl
        | cons c w ih => rw [List.map_cons, List.sum_cons, ih, List.length_cons]; omega
      rw [this]
      simp only [List.length_nil, Nat.mul_zero]
      omega
    · have : ∀ w : Wd1, (w.map fun c => [c]).flatten = w := fun w => by
        induction w with
        | nil => rfl
        | cons c w ih => rw [List.map_cons, List.flatten_cons, ih]; rfl
      rw [joinT_nil, this]
      exact kSet_same (h o' w (ho'.mono (by omega)) (by omega) (by omega) hwc)
theorem mk_stock {M : Mem} {d : D} {ws : List Wd1} {Kp : KD} {KE : KXt} (hv : viewL M d = some (wsD ws)) (g : Good ws) (h : Kp (stk A ws) M) :
    ∀ x dx, M x = none → fs_Stock___init__ A [.ptr x, d] (updM M x (.ins A.C_Stock dx [])) (fun d M2 => d = .non ∧ newI false x M2 Kp) KE := fun x dx hx => by
  refine ⟨x, dx, d, ws, rfl, updM_same, viewL_new hx hv, g, rfl, A.C_Stock, dx, _, updM_same, ?_⟩
  rw [updM_upd, delM_upd hx]
  exact h
theorem updM_comm {M : Mem} {p q : Addr} {a b : MO} (h : p ≠ q) : updM (updM M p a) q b = updM (updM M q b) p a := by
  funext x
  unfold updM
  by_cases e1 : x = q <;> by_cases e2 : x = p
  · exact absurd (e2.symm.trans e1) h
  · simp [e1, e2]
    intro z
    exact absurd z.symm h
  · simp [e1, e2]
    intro z
    exact absurd z h
  · simp [e1, e2]
end Lw
end
noncomputable section
namespace Lw
open PySem PySem.Spec PyProof.Rows L2 Evl Dl Classical
/-! ### closures -/
structure CInv (S : Wd1 → Prop) (T : Wd1 → Wd1 → Prop) (found waiting : List Wd1) : Prop where
  nd : found.Nodup
  sf : ∀ q ∈ found, Cl S T q
  sw : ∀ q ∈ waiting, Cl S T q
  base : ∀ q, S q → q ∈ found ∨ q ∈ waiting
  step : ∀ r ∈ found, ∀ q, T r q → q ∈ found ∨ q ∈ waiting
theorem CInv.start {S : Wd1 → Prop} {T : Wd1 → Wd1 → Prop} {wt : List Wd1} (h : ∀ q, q ∈ wt ↔ S q) : CInv S T [] wt :=
  ⟨List.nodup_nil, by simp, fun q hq => .base ((h q).mp hq), fun q hq => .inr ((h q).mpr hq), by simp⟩
theorem CInv.done {S : Wd1 → Prop} {T : Wd1 → Wd1 → Prop} {f : List Wd1} (h : CInv S T f []) : ∀ q, q ∈ f ↔ Cl S T q := fun q => by
  refine ⟨h.sf q, fun c => ?_⟩
  induction c with
  | base hs => exact (h.base _ hs).elim id fun z => absurd z (by simp)
  | step _ ht ih => exact (h.step _ ih _ ht).elim id fun z => absurd z (by simp)
theorem CInv.skip {S : Wd1 → Prop} {T : Wd1 → Wd1 → Prop} {f wt : List Wd1} {q : Wd1} (h : CInv S T f (wt ++ [q])) (hq : q ∈ f) : CInv S T f wt := by
  have sub : ∀ x, x ∈ f ∨ x ∈ wt ++ [q] → x ∈ f ∨ x ∈ wt := fun x hx => by
    rcases hx with hx | hx
    · exact .inl hx
    · rcases List.mem_append.mp hx with hx | hx
      · exact .inr hx
      · rw [List.mem_singleton] at hx; exact .inl (hx ▸ hq)
  exact ⟨h.nd, h.sf, fun x hx => h.sw x (by simp [hx]), fun x hx => sub x (h.base x hx), fun r hr x hx => sub x (h.step r hr x hx)⟩
theorem CInv.add {S : Wd1 → Prop} {T : Wd1 → Wd1 → Prop} {f wt ns : List Wd1} {q : Wd1} (h : CInv S T f (wt ++ [q])) (hq : q ∉ f) (hn : ∀ x, x ∈ ns ↔ T q x) : CInv S T (f ++ [q]) (wt ++ ns) := by
  have cq : Cl S T q := h.sw q (by simp)
  have sub : ∀ x, x ∈ f ∨ x ∈ wt ++ [q] → x ∈ f ++ [q] ∨ x ∈ wt ++ ns := fun x hx => by
    rcases hx with hx | hx
    · exact .inl (by simp [hx])
    · rcases List.mem_append.mp hx with hx | hx
      · exact .inr (by simp [hx])
      · exact .inl (List.mem_append.mpr (.inr hx))
  refine ⟨?_, fun x hx => ?_, fun x hx => ?_, fun x hx => sub x (h.base x hx), fun r hr x hx => ?_⟩
  · rw [List.nodup_append]
    refine ⟨h.nd, by simp, fun x hx y hy e => ?_⟩
    rw [List.mem_singleton] at hy
    exact hq (hy ▸ e ▸ hx)
  · rcases List.mem_append.mp hx with hx | hx
    · exact h.sf x hx
    · rw [List.mem_singleton] at hx; rw [hx]; exact cq
  · rcases List.mem_append.mp hx with hx | hx
    · exact h.sw x (by simp [hx])
    · exact .step cq ((hn x).mp hx)
  · rcases List.mem_append.mp hr with hr | hr
    · exact sub x (h.step r hr x hx)
    · rw [List.mem_singleton] at hr
      subst hr
      exact .inr (List.mem_append.mpr (.inr ((hn x).mpr hx)))
/-! ### the ends of words are few -/
def endsL (ws : List Wd1) : List Wd1 := ws.flatMap fun w => (List.range 9).map fun j => w.drop j
theorem mem_ends {ws : List Wd1} {q : Wd1} (h : ∃ w ∈ ws, w.length ≤ 8 ∧ ∃ j, q = w.drop j) : q ∈ endsL ws := by
  obtain ⟨w, hw, hl, j, rfl⟩ := h
  refine List.mem_flatMap.mpr ⟨w, hw, List.mem_map.mpr ?_⟩
  by_cases z : j < 9
  · exact ⟨j, List.mem_range.mpr z, rfl⟩
  · exact ⟨8, by simp, by rw [List.drop_eq_nil_of_le (by omega), List.drop_eq_nil_of_le (by omega)]⟩
theorem ends_few {ws : List Wd1} (g : Good ws) : (endsL ws).length ≤ 72 := by
  unfold endsL
  rw [List.length_flatMap]
  have h : ∀ l : List Wd1, (l.map fun w => ((List.range 9).map fun j => w.drop j).length).sum = 9 * l.length := fun l => by
    induction l with
    | nil => rfl
    | cons a l ih => rw [List.map_cons, List.sum_cons, ih, List.length_map, List.length_range, List.length_cons]; omega
  rw [h]
  have := g.few
  omega
theorem mem_startsL {ws : List Wd1} {x : Nat × Nat × Wd1} : x ∈ startsL ws ↔ ∃ a b, ws[x.1]? = some a ∧ ws[x.2.1]? = some b ∧ x.1 ≠ x.2.1 ∧ b.take a.length = a ∧ x.2.2 = b.drop a.length := by
  obtain ⟨i, j, q⟩ := x
  unfold startsL
  simp only [List.mem_flatMap, List.mem_range]
  constructor
  · rintro ⟨i', hi, j', hj, hm⟩
    split at hm
    · rename_i hc
      rw [List.mem_singleton] at hm
      cases hm
      refine ⟨ws[i], ws[j], List.getElem?_eq_getElem hi, List.getElem?_eq_getElem hj, hc.1, ?_, ?_⟩
      · simpa [List.getD, hi, hj] using hc.2
      · simp [List.getD, hi, hj]
    · simp at hm
  · rintro ⟨a, b, ha, hb, hne, ht, hq⟩
    obtain ⟨hi, ea⟩ := List.getElem?_eq_some_iff.mp ha
    obtain ⟨hj, eb⟩ := List.getElem?_eq_some_iff.mp hb
    refine ⟨i, hi, j, hj, ?_⟩
    have e1 : ws.getD i [] = a := by simp [List.getD, ha]
    have e2 : ws.getD j [] = b := by simp [List.getD, hb]
    rw [e1, e2, if_pos ⟨hne, ht⟩, show q = b.drop a.length from hq]
    simp
theorem mem_stepsL {ws : List Wd1} {r : Wd1} {x : Nat × Wd1 × Bool} : x ∈ stepsL ws r ↔ ∃ w, ws[x.1]? = some w ∧ ((r.take w.length = w ∧ x.2.1 = r.drop w.length ∧ x.2.2 = true) ∨ (¬ r.take w.length = w ∧ w.take r.length = r ∧ x.2.1 = w.drop r.length ∧ x.2.2 = false)) := by
  obtain ⟨n, q, b⟩ := x
  unfold stepsL
  simp only [List.mem_flatMap, List.mem_range]
  constructor
  · rintro ⟨n', hn, hm⟩
    have e1 : ws.getD n' [] = ws[n'] := by simp [List.getD, hn]
    rw [e1] at hm
    split at hm
    · rename_i hc
      rw [List.mem_singleton] at hm
      cases hm
      exact ⟨ws[n], List.getElem?_eq_getElem hn, .inl ⟨hc, rfl, rfl⟩⟩
    · rename_i hc
      split at hm
      · rename_i hc2
        rw [List.mem_singleton] at hm
        cases hm
        exact ⟨ws[n], List.getElem?_eq_getElem hn, .inr ⟨hc, hc2, rfl, rfl⟩⟩
      · simp at hm
  · rintro ⟨w, hw, h⟩
    obtain ⟨hn, e⟩ := List.getElem?_eq_some_iff.mp hw
    have e1 : ws.getD n [] = w := by simp [List.getD, hw]
    refine ⟨n, hn, ?_⟩
    rw [e1]
    rcases h with ⟨h1, h2, h3⟩ | ⟨h1, h2, h3, h4⟩
    · rw [if_pos h1, show q = r.drop w.length from h2, show b = true from h3]; simp
    · rw [if_neg h1, if_pos h2, show q = w.drop r.length from h3, show b = false from h4]; simp
/-- what is reached is an end of a word -/
theorem rst_end {ws : List Wd1} {q : Wd1} (h : Rst ws q) : ∃ w ∈ ws, ∃ j, q = w.drop j := by
  induction h with
  | base hs =>
    obtain ⟨x, hx, rfl⟩ := hs
    obtain ⟨a, b, _, hb, _, _, e⟩ := mem_startsL.mp hx
    exact ⟨b, List.mem_of_getElem? hb, _, e⟩
  | step _ ht ih =>
    obtain ⟨_, x, hx, rfl⟩ := ht
    obtain ⟨w, hw, (⟨_, e, _⟩ | ⟨_, _, e, _⟩)⟩ := mem_stepsL.mp hx
    · obtain ⟨u, hu, j, rfl⟩ := ih
      exact ⟨u, hu, j + w.length, by rw [e, List.drop_drop]⟩
    · exact ⟨w, List.mem_of_getElem? hw, _, e⟩
theorem rst_few {ws : List Wd1} (g : Good ws) {f : List Wd1} (nd : f.Nodup) (h : ∀ q ∈ f, Rst ws q) : f.length ≤ 72 :=
  Nat.le_trans (List.Nodup.length_le_of_subset nd fun q hq => mem_ends (by
    obtain ⟨w, hw, j, e⟩ := rst_end (h q hq)
    exact ⟨w, hw, (g.len w hw).2, j, e⟩)) (ends_few g)
theorem rst_len {ws : List Wd1} (g : Good ws) {q : Wd1} (h : Rst ws q) : q.length ≤ 8 := by
  obtain ⟨w, hw, j, rfl⟩ := rst_end h
  rw [List.length_drop]
  have := (g.len w hw).2
  omega
theorem stepsL_len (ws : List Wd1) (r : Wd1) : (stepsL ws r).length ≤ ws.length := by
  unfold stepsL
  rw [List.length_flatMap]
  refine Nat.le_trans ?_ (Nat.le_of_eq (Nat.mul_one _))
  have := List.length_range (n := ws.length)
  have h2 : ∀ l : List Nat, (l.map fun n => (if r.take (ws.getD n []).length = ws.getD n [] then [(n, r.drop (ws.getD n []).length, true)] else if (ws.getD n []).take r.length = r then [(n, (ws.getD n []).drop r.length, false)] else []).length).sum ≤ l.length := fun l => by
    induction l with
    | nil => simp
    | cons a l ih =>
      rw [List.map_cons, List.sum_cons, List.length_cons]
      have : (if r.take (ws.getD a []).length = ws.getD a [] then [(a, r.drop (ws.getD a []).length, true)] else if (ws.getD a []).take r.length = r then [(a, (ws.getD a []).drop r.length, false)] else []).length ≤ 1 := by
        split
        · simp
        · split <;> simp
      omega
  have := h2 (List.range ws.length)
  rw [List.length_range] at this
  omega
theorem startsL_len {ws : List Wd1} (g : Good ws) : (startsL ws).length ≤ 64 := by
  have nd : ∀ x ∈ startsL ws, x.1 < 8 ∧ x.2.1 < 8 := fun x hx => by
    obtain ⟨a, b, ha, hb, _⟩ := mem_startsL.mp hx
    have := (List.getElem?_eq_some_iff.mp ha).1
    have := (List.getElem?_eq_some_iff.mp hb).1
    have := g.few
    omega
  unfold startsL
  rw [List.length_flatMap]
  have h1 : ∀ (i : Nat) (l : List Nat), (l.flatMap fun j => if i ≠ j ∧ (ws.getD j []).take (ws.getD i []).length = ws.getD i [] then [(i, j, (ws.getD j []).drop (ws.getD i []).length)] else []).length ≤ l.length := fun i l => by
    induction l with
    | nil => simp
    | cons a l ih =>
      rw [List.flatMap_cons, List.length_append, List.length_cons]
      split
      · simp only [List.length_cons, List.length_nil]; omega
      · simp only [List.length_nil]; omega
  have h2 : ∀ l : List Nat, (l.map fun i => ((List.range ws.length).flatMap fun j => if i ≠ j ∧ (ws.getD j []).take (ws.getD i []).length = ws.getD i [] then [(i, j, (ws.getD j []).drop (ws.getD i []).length)] else []).length).sum ≤ l.length * 8 := fun l => by
    induction l with
    | nil => simp
    | cons a l ih =>
      rw [List.map_cons, List.sum_cons, List.length_cons, Nat.succ_mul]
      have := h1 a (List.range ws.length)
      rw [List.length_range] at this
      have := g.few
      omega
  have := h2 (List.range ws.length)
  rw [List.length_range] at this
  have := g.few
  omega
/-- some end that is a word makes it read in two ways -/
theorem rst_nil {ws : List Wd1} (g : Good ws) : Rst ws [] ↔ ∃ r, Rst ws r ∧ r ≠ [] ∧ r ∈ ws := by
  constructor
  · intro h
    cases h with
    | base hs =>
      obtain ⟨x, hx, e⟩ := hs
      obtain ⟨a, b, ha, hb, hne, ht, e2⟩ := mem_startsL.mp hx
      rw [e2] at e
      have hle : b.length ≤ a.length := by have := congrArg List.length e; rw [List.length_drop, List.length_nil] at this; omega
      have hab : a = b := by rw [← ht, List.take_of_length_le hle]
      subst hab
      obtain ⟨h1, e1⟩ := List.getElem?_eq_some_iff.mp ha
      obtain ⟨h2, e2⟩ := List.getElem?_eq_some_iff.mp hb
      exact absurd ((List.getElem_inj g.nd).mp (e1.trans e2.symm)) hne
    | step hr ht =>
      obtain ⟨hne, x, hx, e⟩ := ht
      rename_i r
      refine ⟨r, hr, hne, ?_⟩
      obtain ⟨w, hw, (⟨h1, e2, _⟩ | ⟨h1, h2, e2, _⟩)⟩ := mem_stepsL.mp hx
      · rw [e2] at e
        have hle : r.length ≤ w.length := by have := congrArg List.length e; rw [List.length_drop, List.length_nil] at this; omega
        have : r = w := by rw [← h1, List.take_of_length_le hle]
        rw [this]
        exact List.mem_of_getElem? hw
      · rw [e2] at e
        have hle : w.length ≤ r.length := by have := congrArg List.length e; rw [List.length_drop, List.length_nil] at this; omega
        have : r = w := by rw [← h2, List.take_of_length_le hle]
        rw [this]
        exact List.mem_of_getElem? hw
  · rintro ⟨r, hr, hne, hw⟩
    obtain ⟨n, hn⟩ := List.mem_iff_getElem?.mp hw
    exact .step hr ⟨hne, (n, [], true), mem_stepsL.mpr ⟨r, hn, .inl ⟨List.take_length, by simp, rfl⟩⟩, rfl⟩
end Lw
end
noncomputable section
namespace Lw
open PySem PySem.Spec PyProof.Rows L2 Evl Dl Classical
variable (A : Ad)
theorem cutL_from' {α : Type} (l : List α) (i : Nat) : cutL l (some (i : Int)) none = l.drop i := by
  by_cases h : i ≤ l.length
  · exact cutL_from l h
  · unfold cutL
    have e : HT.sIx l.length 0 (some (i : Int)) = min i l.length := HT.sIx_nat _ _ _
    rw [e, Nat.min_eq_right (by omega)]
    simp [List.drop_eq_nil_of_le (show l.length ≤ i by omega)]
theorem wsD_get {ws : List Wd1} {i : Nat} {y : D} (h : (wsD ws)[i]? = some y) : ∃ w, ws[i]? = some w ∧ y = tD w := by
  simp only [wsD, List.getElem?_map, Option.map_eq_some_iff] at h
  obtain ⟨w, hw, rfl⟩ := h
  exact ⟨w, hw, rfl⟩
theorem wsD_len (ws : List Wd1) : (wsD ws).length = ws.length := List.length_map _
theorem range_next {α : Type} (f : Nat → List α) (i : Nat) : (List.range (i + 1)).flatMap f = (List.range i).flatMap f ++ f i := by
  rw [List.range_succ, List.flatMap_append]; simp
theorem word_small {ws : List Wd1} (g : Good ws) {w : Wd1} (h : w ∈ ws) : w.length ≤ sizeLine := Nat.le_trans (g.len w h).2 (by unfold sizeLine; omega)
theorem flat_pre {α : Type} (f : Nat → List α) {i n : Nat} (h : i ≤ n) : ((List.range i).flatMap f).length ≤ ((List.range n).flatMap f).length := by
  obtain ⟨k, rfl⟩ : ∃ k, n = i + k := ⟨n - i, by omega⟩
  rw [List.range_add, List.flatMap_append, List.length_append]
  omega
theorem dat_starts_of : Dat 1 nm_starts_of (fs_starts_of A) (ph_starts_of A) := by
  rintro ds M Kp KE - ⟨ws, rfl, g, h⟩
  have gn : ∀ {i : Nat} {w : Wd1}, ws[i]? = some w → ws.getD i [] = w := fun {i w} e => by simp [List.getD, e]
  simp only [dRet, dCB, dCons, dNil, dLc, dLc2, dIS, dIL, dIT, dIR1, dIR2, dIEL, dIET, dIES, dVar, dC, dOp, dUn, dTest, kTest, dChain, kChain, dAnd, dOr, dNot, dTru, dSeq, dNext, dIfS, dFor, dAsg, dName, dGTup, dGCons, dGNil, dLst, dTup, dSl, dON, dOS, dOrV, dAndV, dNotV, dIf, dPar, dAug, dGSub, dRetN, dBreak, dCont, dDrop, dYes, dNever, startD, ksOf, wipeR, List.map_cons, List.map_nil, List.cons_append, List.nil_append, List.getElem?_cons_zero, List.getElem?_cons_succ, List.length_cons, List.length_nil, Nat.reduceAdd, Nat.reduceSub, List.reduceReplicate, List.set_cons_zero, List.set_cons_succ, nB, newL, decide_true, true_and, and_true, eq_self, reduceIte, List.length_map, Bool.not_true, Bool.not_false, ph_starts_of]
  refine ⟨by unfold sizeLine; omega, fun q hq => ?_⟩
  let f : Nat → Nat → List (Nat × Nat × Wd1) := fun i j => if i ≠ j ∧ (ws.getD j []).take (ws.getD i []).length = ws.getD i [] then [(i, j, (ws.getD j []).drop (ws.getD i []).length)] else []
  have hfs : startsL ws = (List.range ws.length).flatMap fun i => (List.range ws.length).flatMap (f i) := rfl
  have hfl := startsL_len g
  refine for_inv (fun i ρ M' => M' = updM M q (.lst (((List.range i).flatMap fun i => (List.range ws.length).flatMap (f i)).map stD)) ∧ ∃ a b c d, ρ = [some (.tup (wsD ws)), some (.ptr q), a, b, c, d])
    ⟨rfl, _, _, _, _, rfl⟩ ?_ ?_
  · rintro i x ρ M' Nx hx ⟨rfl, a, b, c, d, rfl⟩ hN
    refine ⟨trivial, ?_⟩
    obtain ⟨y, hy, rfl⟩ := enumD_inv hx
    obtain ⟨w, hw, rfl⟩ := wsD_get hy
    have hi := (List.getElem?_eq_some_iff.mp hw).1
    have hwm := List.mem_of_getElem? hw
    try simp only [dRet, dCB, dCons, dNil, dLc, dLc2, dIS, dIL, dIT, dIR1, dIR2, dIEL, dIET, dIES, dVar, dC, dOp, dUn, dTest, kTest, dChain, kChain, dAnd, dOr, dNot, dTru, dSeq, dNext, dIfS, dFor, dAsg, dName, dGTup, dGCons, dGNil, dLst, dTup, dSl, dON, dOS, dOrV, dAndV, dNotV, dIf, dPar, dAug, dGSub, dRetN, dBreak, dCont, dDrop, dYes, dNever, startD, ksOf, wipeR, List.map_cons, List.map_nil, List.cons_append, List.nil_append, List.getElem?_cons_zero, List.getElem?_cons_succ, List.length_cons, List.length_nil, Nat.reduceAdd, Nat.reduceSub, List.reduceReplicate, List.set_cons_zero, List.set_cons_succ, nB, newL, decide_true, true_and, and_true, eq_self, reduceIte, List.length_map, Bool.not_true, Bool.not_false]
    refine for_inv (fun j ρ M' => M' = updM M q (.lst ((((List.range i).flatMap fun i => (List.range ws.length).flatMap (f i)) ++ (List.range j).flatMap (f i)).map stD)) ∧ ∃ c d, ρ = [some (.tup (wsD ws)), some (.ptr q), some (.int i), some (tD w), c, d])
      ⟨by simp, _, _, rfl⟩ ?_ ?_
    · rintro j x ρ M' Nx2 hx2 ⟨rfl, c, d, rfl⟩ hN2
      refine ⟨trivial, ?_⟩
      obtain ⟨y, hy2, rfl⟩ := enumD_inv hx2
      obtain ⟨u, hu, rfl⟩ := wsD_get hy2
      have hj := (List.getElem?_eq_some_iff.mp hu).1
      have hum := List.mem_of_getElem? hu
      have hfi : f i j = if i ≠ j ∧ u.take w.length = w then [(i, j, u.drop w.length)] else [] := by
        show (if i ≠ j ∧ (ws.getD j []).take (ws.getD i []).length = ws.getD i [] then [(i, j, (ws.getD j []).drop (ws.getD i []).length)] else []) = _
        rw [gn hw, gn hu]
      simp only [dRet, dCB, dCons, dNil, dLc, dLc2, dIS, dIL, dIT, dIR1, dIR2, dIEL, dIET, dIES, dVar, dC, dOp, dUn, dTest, kTest, dChain, kChain, dAnd, dOr, dNot, dTru, dSeq, dNext, dIfS, dFor, dAsg, dName, dGTup, dGCons, dGNil, dLst, dTup, dSl, dON, dOS, dOrV, dAndV, dNotV, dIf, dPar, dAug, dGSub, dRetN, dBreak, dCont, dDrop, dYes, dNever, startD, ksOf, wipeR, List.map_cons, List.map_nil, List.cons_append, List.nil_append, List.getElem?_cons_zero, List.getElem?_cons_succ, List.length_cons, List.length_nil, Nat.reduceAdd, Nat.reduceSub, List.reduceReplicate, List.set_cons_zero, List.set_cons_succ, nB, newL, decide_true, true_and, and_true, eq_self, reduceIte, List.length_map, Bool.not_true, Bool.not_false, δEq]
      by_cases hij : i = j
      · rw [decide_eq_true (show (i : Int) = (j : Int) by omega)]
        refine hN2 _ _ ⟨?_, _, _, rfl⟩
        rw [range_next, hfi, if_neg (fun z => z.1 hij), List.append_nil]
      · rw [decide_eq_false (show ¬ (i : Int) = (j : Int) by omega)]
        simp only [dRet, dCB, dCons, dNil, dLc, dLc2, dIS, dIL, dIT, dIR1, dIR2, dIEL, dIET, dIES, dVar, dC, dOp, dUn, dTest, kTest, dChain, kChain, dAnd, dOr, dNot, dTru, dSeq, dNext, dIfS, dFor, dAsg, dName, dGTup, dGCons, dGNil, dLst, dTup, dSl, dON, dOS, dOrV, dAndV, dNotV, dIf, dPar, dAug, dGSub, dRetN, dBreak, dCont, dDrop, dYes, dNever, startD, ksOf, wipeR, List.map_cons, List.map_nil, List.cons_append, List.nil_append, List.getElem?_cons_zero, List.getElem?_cons_succ, List.length_cons, List.length_nil, Nat.reduceAdd, Nat.reduceSub, List.reduceReplicate, List.set_cons_zero, List.set_cons_succ, nB, newL, decide_true, true_and, and_true, eq_self, reduceIte, List.length_map, Bool.not_true, Bool.not_false, tD]
        refine len_T (word_small g hwm) ?_
        try simp only [dRet, dCB, dCons, dNil, dLc, dLc2, dIS, dIL, dIT, dIR1, dIR2, dIEL, dIET, dIES, dVar, dC, dOp, dUn, dTest, kTest, dChain, kChain, dAnd, dOr, dNot, dTru, dSeq, dNext, dIfS, dFor, dAsg, dName, dGTup, dGCons, dGNil, dLst, dTup, dSl, dON, dOS, dOrV, dAndV, dNotV, dIf, dPar, dAug, dGSub, dRetN, dBreak, dCont, dDrop, dYes, dNever, startD, ksOf, wipeR, List.map_cons, List.map_nil, List.cons_append, List.nil_append, List.getElem?_cons_zero, List.getElem?_cons_succ, List.length_cons, List.length_nil, Nat.reduceAdd, Nat.reduceSub, List.reduceReplicate, List.set_cons_zero, List.set_cons_succ, nB, newL, decide_true, true_and, and_true, eq_self, reduceIte, List.length_map, Bool.not_true, Bool.not_false]
        refine sl_T (word_small g hum) ?_
        simp only [dRet, dCB, dCons, dNil, dLc, dLc2, dIS, dIL, dIT, dIR1, dIR2, dIEL, dIET, dIES, dVar, dC, dOp, dUn, dTest, kTest, dChain, kChain, dAnd, dOr, dNot, dTru, dSeq, dNext, dIfS, dFor, dAsg, dName, dGTup, dGCons, dGNil, dLst, dTup, dSl, dON, dOS, dOrV, dAndV, dNotV, dIf, dPar, dAug, dGSub, dRetN, dBreak, dCont, dDrop, dYes, dNever, startD, ksOf, wipeR, List.map_cons, List.map_nil, List.cons_append, List.nil_append, List.getElem?_cons_zero, List.getElem?_cons_succ, List.length_cons, List.length_nil, Nat.reduceAdd, Nat.reduceSub, List.reduceReplicate, List.set_cons_zero, List.set_cons_succ, nB, newL, decide_true, true_and, and_true, eq_self, reduceIte, List.length_map, Bool.not_true, Bool.not_false, δEq, dec_T, cutL_to']
        by_cases hc : u.take w.length = w
        · rw [decide_eq_true hc]
          simp only [dRet, dCB, dCons, dNil, dLc, dLc2, dIS, dIL, dIT, dIR1, dIR2, dIEL, dIET, dIES, dVar, dC, dOp, dUn, dTest, kTest, dChain, kChain, dAnd, dOr, dNot, dTru, dSeq, dNext, dIfS, dFor, dAsg, dName, dGTup, dGCons, dGNil, dLst, dTup, dSl, dON, dOS, dOrV, dAndV, dNotV, dIf, dPar, dAug, dGSub, dRetN, dBreak, dCont, dDrop, dYes, dNever, startD, ksOf, wipeR, List.map_cons, List.map_nil, List.cons_append, List.nil_append, List.getElem?_cons_zero, List.getElem?_cons_succ, List.length_cons, List.length_nil, Nat.reduceAdd, Nat.reduceSub, List.reduceReplicate, List.set_cons_zero, List.set_cons_succ, nB, newL, decide_true, true_and, and_true, eq_self, reduceIte, List.length_map, Bool.not_true, Bool.not_false, dBM]
          refine ⟨tyD_lst updM_same, len_T (word_small g hwm) ?_⟩
          try simp only [dRet, dCB, dCons, dNil, dLc, dLc2, dIS, dIL, dIT, dIR1, dIR2, dIEL, dIET, dIES, dVar, dC, dOp, dUn, dTest, kTest, dChain, kChain, dAnd, dOr, dNot, dTru, dSeq, dNext, dIfS, dFor, dAsg, dName, dGTup, dGCons, dGNil, dLst, dTup, dSl, dON, dOS, dOrV, dAndV, dNotV, dIf, dPar, dAug, dGSub, dRetN, dBreak, dCont, dDrop, dYes, dNever, startD, ksOf, wipeR, List.map_cons, List.map_nil, List.cons_append, List.nil_append, List.getElem?_cons_zero, List.getElem?_cons_succ, List.length_cons, List.length_nil, Nat.reduceAdd, Nat.reduceSub, List.reduceReplicate, List.set_cons_zero, List.set_cons_succ, nB, newL, decide_true, true_and, and_true, eq_self, reduceIte, List.length_map, Bool.not_true, Bool.not_false]
          refine sl_T (word_small g hum) ?_
          simp only [dRet, dCB, dCons, dNil, dLc, dLc2, dIS, dIL, dIT, dIR1, dIR2, dIEL, dIET, dIES, dVar, dC, dOp, dUn, dTest, kTest, dChain, kChain, dAnd, dOr, dNot, dTru, dSeq, dNext, dIfS, dFor, dAsg, dName, dGTup, dGCons, dGNil, dLst, dTup, dSl, dON, dOS, dOrV, dAndV, dNotV, dIf, dPar, dAug, dGSub, dRetN, dBreak, dCont, dDrop, dYes, dNever, startD, ksOf, wipeR, List.map_cons, List.map_nil, List.cons_append, List.nil_append, List.getElem?_cons_zero, List.getElem?_cons_succ, List.length_cons, List.length_nil, Nat.reduceAdd, Nat.reduceSub, List.reduceReplicate, List.set_cons_zero, List.set_cons_succ, nB, newL, decide_true, true_and, and_true, eq_self, reduceIte, List.length_map, Bool.not_true, Bool.not_false, cutL_from']
          refine ⟨by unfold sizeLine; omega, app_ptr updM_same ?_ ?_⟩
          · have h1 : (((List.range i).flatMap fun i => (List.range ws.length).flatMap (f i)) ++ (List.range j).flatMap (f i)).length ≤ (startsL ws).length := by
              rw [hfs]
              refine Nat.le_trans ?_ (flat_pre (fun i => (List.range ws.length).flatMap (f i)) (show i + 1 ≤ ws.length from hi))
              rw [range_next, List.length_append, List.length_append]
              exact Nat.add_le_add_left (flat_pre (f i) (Nat.le_of_lt hj)) _
            rw [List.length_map]
            unfold sizeLine
            omega
          · rw [updM_upd]
            refine hN2 _ _ ⟨?_, _, _, rfl⟩
            rw [range_next, hfi, if_pos ⟨hij, hc⟩, ← List.append_assoc]
            simp only [List.map_append]
            rfl
        · rw [decide_eq_false hc]
          refine hN2 _ _ ⟨?_, _, _, rfl⟩
          rw [range_next, hfi, if_neg (fun z => hc z.2), List.append_nil]
    · rintro ρ M' ⟨rfl, c, d, rfl⟩
      rw [enumD_length, wsD_len]
      refine ⟨trivial, hN _ _ ⟨?_, _, _, _, _, rfl⟩⟩
      rw [range_next]
  · rintro ρ M' ⟨rfl, a, b, c, d, rfl⟩
    rw [enumD_length, wsD_len]
    refine ⟨trivial, ?_⟩
    try simp only [dRet, dCB, dCons, dNil, dLc, dLc2, dIS, dIL, dIT, dIR1, dIR2, dIEL, dIET, dIES, dVar, dC, dOp, dUn, dTest, kTest, dChain, kChain, dAnd, dOr, dNot, dTru, dSeq, dNext, dIfS, dFor, dAsg, dName, dGTup, dGCons, dGNil, dLst, dTup, dSl, dON, dOS, dOrV, dAndV, dNotV, dIf, dPar, dAug, dGSub, dRetN, dBreak, dCont, dDrop, dYes, dNever, startD, ksOf, wipeR, List.map_cons, List.map_nil, List.cons_append, List.nil_append, List.getElem?_cons_zero, List.getElem?_cons_succ, List.length_cons, List.length_nil, Nat.reduceAdd, Nat.reduceSub, List.reduceReplicate, List.set_cons_zero, List.set_cons_succ, nB, newL, decide_true, true_and, and_true, eq_self, reduceIte, List.length_map, Bool.not_true, Bool.not_false]
    exact kSet_lst (Ext.new (Ext.refl M) hq) updM_same hq h
theorem dat_steps_of : Dat 2 nm_steps_of (fs_steps_of A) (ph_steps_of A) := by
  rintro ds M Kp KE - ⟨ws, r, rfl, g, hr, h⟩
  have hrb : r.length ≤ sizeLine := by unfold sizeLine; omega
  have gn : ∀ {i : Nat} {w : Wd1}, ws[i]? = some w → ws.getD i [] = w := fun {i w} e => by simp [List.getD, e]
  simp only [dRet, dCB, dCons, dNil, dLc, dLc2, dIS, dIL, dIT, dIR1, dIR2, dIEL, dIET, dIES, dVar, dC, dOp, dUn, dTest, kTest, dChain, kChain, dAnd, dOr, dNot, dTru, dSeq, dNext, dIfS, dFor, dAsg, dName, dGTup, dGCons, dGNil, dLst, dTup, dSl, dON, dOS, dOrV, dAndV, dNotV, dIf, dPar, dAug, dGSub, dRetN, dBreak, dCont, dDrop, dYes, dNever, startD, ksOf, wipeR, List.map_cons, List.map_nil, List.cons_append, List.nil_append, List.getElem?_cons_zero, List.getElem?_cons_succ, List.length_cons, List.length_nil, Nat.reduceAdd, Nat.reduceSub, List.reduceReplicate, List.set_cons_zero, List.set_cons_succ, nB, newL, decide_true, true_and, and_true, eq_self, reduceIte, List.length_map, Bool.not_true, Bool.not_false, ph_steps_of]
  refine ⟨by unfold sizeLine; omega, fun q hq => ?_⟩
  let f : Nat → List (Nat × Wd1 × Bool) := fun n => if r.take (ws.getD n []).length = ws.getD n [] then [(n, r.drop (ws.getD n []).length, true)] else if (ws.getD n []).take r.length = r then [(n, (ws.getD n []).drop r.length, false)] else []
  have hfs : stepsL ws r = (List.range ws.length).flatMap f := rfl
  have hfl := stepsL_len ws r
  have hw8 := g.few
  refine for_inv (fun i ρ M' => M' = updM M q (.lst (((List.range i).flatMap f).map spD)) ∧ ∃ a b, ρ = [some (.tup (wsD ws)), some (tD r), some (.ptr q), a, b])
    ⟨rfl, _, _, rfl⟩ ?_ ?_
  · rintro i x ρ M' Nx hx ⟨rfl, a, b, rfl⟩ hN
    refine ⟨trivial, ?_⟩
    obtain ⟨y, hy, rfl⟩ := enumD_inv hx
    obtain ⟨w, hw, rfl⟩ := wsD_get hy
    have hi := (List.getElem?_eq_some_iff.mp hw).1
    have hwm := List.mem_of_getElem? hw
    have hfi : f i = if r.take w.length = w then [(i, r.drop w.length, true)] else if w.take r.length = r then [(i, w.drop r.length, false)] else [] := by
      show (if r.take (ws.getD i []).length = ws.getD i [] then [(i, r.drop (ws.getD i []).length, true)] else if (ws.getD i []).take r.length = r then [(i, (ws.getD i []).drop r.length, false)] else []) = _
      rw [gn hw]
    have hlen : (((List.range i).flatMap f).map spD).length < sizeLine := by
      have := flat_pre f (Nat.le_of_lt hi)
      rw [← hfs] at this
      rw [List.length_map]
      unfold sizeLine
      omega
    simp only [dRet, dCB, dCons, dNil, dLc, dLc2, dIS, dIL, dIT, dIR1, dIR2, dIEL, dIET, dIES, dVar, dC, dOp, dUn, dTest, kTest, dChain, kChain, dAnd, dOr, dNot, dTru, dSeq, dNext, dIfS, dFor, dAsg, dName, dGTup, dGCons, dGNil, dLst, dTup, dSl, dON, dOS, dOrV, dAndV, dNotV, dIf, dPar, dAug, dGSub, dRetN, dBreak, dCont, dDrop, dYes, dNever, startD, ksOf, wipeR, List.map_cons, List.map_nil, List.cons_append, List.nil_append, List.getElem?_cons_zero, List.getElem?_cons_succ, List.length_cons, List.length_nil, Nat.reduceAdd, Nat.reduceSub, List.reduceReplicate, List.set_cons_zero, List.set_cons_succ, nB, newL, decide_true, true_and, and_true, eq_self, reduceIte, List.length_map, Bool.not_true, Bool.not_false, tD]
    refine len_T (word_small g hwm) ?_
    try simp only [dRet, dCB, dCons, dNil, dLc, dLc2, dIS, dIL, dIT, dIR1, dIR2, dIEL, dIET, dIES, dVar, dC, dOp, dUn, dTest, kTest, dChain, kChain, dAnd, dOr, dNot, dTru, dSeq, dNext, dIfS, dFor, dAsg, dName, dGTup, dGCons, dGNil, dLst, dTup, dSl, dON, dOS, dOrV, dAndV, dNotV, dIf, dPar, dAug, dGSub, dRetN, dBreak, dCont, dDrop, dYes, dNever, startD, ksOf, wipeR, List.map_cons, List.map_nil, List.cons_append, List.nil_append, List.getElem?_cons_zero, List.getElem?_cons_succ, List.length_cons, List.length_nil, Nat.reduceAdd, Nat.reduceSub, List.reduceReplicate, List.set_cons_zero, List.set_cons_succ, nB, newL, decide_true, true_and, and_true, eq_self, reduceIte, List.length_map, Bool.not_true, Bool.not_false]
    refine sl_T hrb ?_
    simp only [dRet, dCB, dCons, dNil, dLc, dLc2, dIS, dIL, dIT, dIR1, dIR2, dIEL, dIET, dIES, dVar, dC, dOp, dUn, dTest, kTest, dChain, kChain, dAnd, dOr, dNot, dTru, dSeq, dNext, dIfS, dFor, dAsg, dName, dGTup, dGCons, dGNil, dLst, dTup, dSl, dON, dOS, dOrV, dAndV, dNotV, dIf, dPar, dAug, dGSub, dRetN, dBreak, dCont, dDrop, dYes, dNever, startD, ksOf, wipeR, List.map_cons, List.map_nil, List.cons_append, List.nil_append, List.getElem?_cons_zero, List.getElem?_cons_succ, List.length_cons, List.length_nil, Nat.reduceAdd, Nat.reduceSub, List.reduceReplicate, List.set_cons_zero, List.set_cons_succ, nB, newL, decide_true, true_and, and_true, eq_self, reduceIte, List.length_map, Bool.not_true, Bool.not_false, δEq, dec_T, cutL_to']
    by_cases hc : r.take w.length = w
    · rw [decide_eq_true hc]
      simp only [dRet, dCB, dCons, dNil, dLc, dLc2, dIS, dIL, dIT, dIR1, dIR2, dIEL, dIET, dIES, dVar, dC, dOp, dUn, dTest, kTest, dChain, kChain, dAnd, dOr, dNot, dTru, dSeq, dNext, dIfS, dFor, dAsg, dName, dGTup, dGCons, dGNil, dLst, dTup, dSl, dON, dOS, dOrV, dAndV, dNotV, dIf, dPar, dAug, dGSub, dRetN, dBreak, dCont, dDrop, dYes, dNever, startD, ksOf, wipeR, List.map_cons, List.map_nil, List.cons_append, List.nil_append, List.getElem?_cons_zero, List.getElem?_cons_succ, List.length_cons, List.length_nil, Nat.reduceAdd, Nat.reduceSub, List.reduceReplicate, List.set_cons_zero, List.set_cons_succ, nB, newL, decide_true, true_and, and_true, eq_self, reduceIte, List.length_map, Bool.not_true, Bool.not_false, dBM]
      refine ⟨tyD_lst updM_same, len_T (word_small g hwm) ?_⟩
      try simp only [dRet, dCB, dCons, dNil, dLc, dLc2, dIS, dIL, dIT, dIR1, dIR2, dIEL, dIET, dIES, dVar, dC, dOp, dUn, dTest, kTest, dChain, kChain, dAnd, dOr, dNot, dTru, dSeq, dNext, dIfS, dFor, dAsg, dName, dGTup, dGCons, dGNil, dLst, dTup, dSl, dON, dOS, dOrV, dAndV, dNotV, dIf, dPar, dAug, dGSub, dRetN, dBreak, dCont, dDrop, dYes, dNever, startD, ksOf, wipeR, List.map_cons, List.map_nil, List.cons_append, List.nil_append, List.getElem?_cons_zero, List.getElem?_cons_succ, List.length_cons, List.length_nil, Nat.reduceAdd, Nat.reduceSub, List.reduceReplicate, List.set_cons_zero, List.set_cons_succ, nB, newL, decide_true, true_and, and_true, eq_self, reduceIte, List.length_map, Bool.not_true, Bool.not_false]
      refine sl_T hrb ?_
      simp only [dRet, dCB, dCons, dNil, dLc, dLc2, dIS, dIL, dIT, dIR1, dIR2, dIEL, dIET, dIES, dVar, dC, dOp, dUn, dTest, kTest, dChain, kChain, dAnd, dOr, dNot, dTru, dSeq, dNext, dIfS, dFor, dAsg, dName, dGTup, dGCons, dGNil, dLst, dTup, dSl, dON, dOS, dOrV, dAndV, dNotV, dIf, dPar, dAug, dGSub, dRetN, dBreak, dCont, dDrop, dYes, dNever, startD, ksOf, wipeR, List.map_cons, List.map_nil, List.cons_append, List.nil_append, List.getElem?_cons_zero, List.getElem?_cons_succ, List.length_cons, List.length_nil, Nat.reduceAdd, Nat.reduceSub, List.reduceReplicate, List.set_cons_zero, List.set_cons_succ, nB, newL, decide_true, true_and, and_true, eq_self, reduceIte, List.length_map, Bool.not_true, Bool.not_false, cutL_from']
      refine ⟨by unfold sizeLine; omega, app_ptr updM_same hlen ?_⟩
      rw [updM_upd]
      refine hN _ _ ⟨?_, _, _, rfl⟩
      rw [range_next, hfi, if_pos hc, List.map_append]
      rfl
    · rw [decide_eq_false hc]
      try simp only [dRet, dCB, dCons, dNil, dLc, dLc2, dIS, dIL, dIT, dIR1, dIR2, dIEL, dIET, dIES, dVar, dC, dOp, dUn, dTest, kTest, dChain, kChain, dAnd, dOr, dNot, dTru, dSeq, dNext, dIfS, dFor, dAsg, dName, dGTup, dGCons, dGNil, dLst, dTup, dSl, dON, dOS, dOrV, dAndV, dNotV, dIf, dPar, dAug, dGSub, dRetN, dBreak, dCont, dDrop, dYes, dNever, startD, ksOf, wipeR, List.map_cons, List.map_nil, List.cons_append, List.nil_append, List.getElem?_cons_zero, List.getElem?_cons_succ, List.length_cons, List.length_nil, Nat.reduceAdd, Nat.reduceSub, List.reduceReplicate, List.set_cons_zero, List.set_cons_succ, nB, newL, decide_true, true_and, and_true, eq_self, reduceIte, List.length_map, Bool.not_true, Bool.not_false]
      refine len_T hrb ?_
      try simp only [dRet, dCB, dCons, dNil, dLc, dLc2, dIS, dIL, dIT, dIR1, dIR2, dIEL, dIET, dIES, dVar, dC, dOp, dUn, dTest, kTest, dChain, kChain, dAnd, dOr, dNot, dTru, dSeq, dNext, dIfS, dFor, dAsg, dName, dGTup, dGCons, dGNil, dLst, dTup, dSl, dON, dOS, dOrV, dAndV, dNotV, dIf, dPar, dAug, dGSub, dRetN, dBreak, dCont, dDrop, dYes, dNever, startD, ksOf, wipeR, List.map_cons, List.map_nil, List.cons_append, List.nil_append, List.getElem?_cons_zero, List.getElem?_cons_succ, List.length_cons, List.length_nil, Nat.reduceAdd, Nat.reduceSub, List.reduceReplicate, List.set_cons_zero, List.set_cons_succ, nB, newL, decide_true, true_and, and_true, eq_self, reduceIte, List.length_map, Bool.not_true, Bool.not_false]
      refine sl_T (word_small g hwm) ?_
      simp only [dRet, dCB, dCons, dNil, dLc, dLc2, dIS, dIL, dIT, dIR1, dIR2, dIEL, dIET, dIES, dVar, dC, dOp, dUn, dTest, kTest, dChain, kChain, dAnd, dOr, dNot, dTru, dSeq, dNext, dIfS, dFor, dAsg, dName, dGTup, dGCons, dGNil, dLst, dTup, dSl, dON, dOS, dOrV, dAndV, dNotV, dIf, dPar, dAug, dGSub, dRetN, dBreak, dCont, dDrop, dYes, dNever, startD, ksOf, wipeR, List.map_cons, List.map_nil, List.cons_append, List.nil_append, List.getElem?_cons_zero, List.getElem?_cons_succ, List.length_cons, List.length_nil, Nat.reduceAdd, Nat.reduceSub, List.reduceReplicate, List.set_cons_zero, List.set_cons_succ, nB, newL, decide_true, true_and, and_true, eq_self, reduceIte, List.length_map, Bool.not_true, Bool.not_false, δEq, dec_T, cutL_to']
      by_cases hc2 : w.take r.length = r
      · rw [decide_eq_true hc2]
        simp only [dRet, dCB, dCons, dNil, dLc, dLc2, dIS, dIL, dIT, dIR1, dIR2, dIEL, dIET, dIES, dVar, dC, dOp, dUn, dTest, kTest, dChain, kChain, dAnd, dOr, dNot, dTru, dSeq, dNext, dIfS, dFor, dAsg, dName, dGTup, dGCons, dGNil, dLst, dTup, dSl, dON, dOS, dOrV, dAndV, dNotV, dIf, dPar, dAug, dGSub, dRetN, dBreak, dCont, dDrop, dYes, dNever, startD, ksOf, wipeR, List.map_cons, List.map_nil, List.cons_append, List.nil_append, List.getElem?_cons_zero, List.getElem?_cons_succ, List.length_cons, List.length_nil, Nat.reduceAdd, Nat.reduceSub, List.reduceReplicate, List.set_cons_zero, List.set_cons_succ, nB, newL, decide_true, true_and, and_true, eq_self, reduceIte, List.length_map, Bool.not_true, Bool.not_false, dBM]
        refine ⟨tyD_lst updM_same, len_T hrb ?_⟩
        try simp only [dRet, dCB, dCons, dNil, dLc, dLc2, dIS, dIL, dIT, dIR1, dIR2, dIEL, dIET, dIES, dVar, dC, dOp, dUn, dTest, kTest, dChain, kChain, dAnd, dOr, dNot, dTru, dSeq, dNext, dIfS, dFor, dAsg, dName, dGTup, dGCons, dGNil, dLst, dTup, dSl, dON, dOS, dOrV, dAndV, dNotV, dIf, dPar, dAug, dGSub, dRetN, dBreak, dCont, dDrop, dYes, dNever, startD, ksOf, wipeR, List.map_cons, List.map_nil, List.cons_append, List.nil_append, List.getElem?_cons_zero, List.getElem?_cons_succ, List.length_cons, List.length_nil, Nat.reduceAdd, Nat.reduceSub, List.reduceReplicate, List.set_cons_zero, List.set_cons_succ, nB, newL, decide_true, true_and, and_true, eq_self, reduceIte, List.length_map, Bool.not_true, Bool.not_false]
        refine sl_T (word_small g hwm) ?_
        simp only [dRet, dCB, dCons, dNil, dLc, dLc2, dIS, dIL, dIT, dIR1, dIR2, dIEL, dIET, dIES, dVar, dC, dOp, dUn, dTest, kTest, dChain, kChain, dAnd, dOr, dNot, dTru, dSeq, dNext, dIfS, dFor, dAsg, dName, dGTup, dGCons, dGNil, dLst, dTup, dSl, dON, dOS, dOrV, dAndV, dNotV, dIf, dPar, dAug, dGSub, dRetN, dBreak, dCont, dDrop, dYes, dNever, startD, ksOf, wipeR, List.map_cons, List.map_nil, List.cons_append, List.nil_append, List.getElem?_cons_zero, List.getElem?_cons_succ, List.length_cons, List.length_nil, Nat.reduceAdd, Nat.reduceSub, List.reduceReplicate, List.set_cons_zero, List.set_cons_succ, nB, newL, decide_true, true_and, and_true, eq_self, reduceIte, List.length_map, Bool.not_true, Bool.not_false, cutL_from']
        refine ⟨by unfold sizeLine; omega, app_ptr updM_same hlen ?_⟩
        rw [updM_upd]
        refine hN _ _ ⟨?_, _, _, rfl⟩
        rw [range_next, hfi, if_neg hc, if_pos hc2, List.map_append]
        rfl
      · rw [decide_eq_false hc2]
        refine hN _ _ ⟨?_, _, _, rfl⟩
        rw [range_next, hfi, if_neg hc, if_neg hc2, List.append_nil]
  · rintro ρ M' ⟨rfl, a, b, rfl⟩
    rw [enumD_length, wsD_len]
    refine ⟨trivial, ?_⟩
    try simp only [dRet, dCB, dCons, dNil, dLc, dLc2, dIS, dIL, dIT, dIR1, dIR2, dIEL, dIET, dIES, dVar, dC, dOp, dUn, dTest, kTest, dChain, kChain, dAnd, dOr, dNot, dTru, dSeq, dNext, dIfS, dFor, dAsg, dName, dGTup, dGCons, dGNil, dLst, dTup, dSl, dON, dOS, dOrV, dAndV, dNotV, dIf, dPar, dAug, dGSub, dRetN, dBreak, dCont, dDrop, dYes, dNever, startD, ksOf, wipeR, List.map_cons, List.map_nil, List.cons_append, List.nil_append, List.getElem?_cons_zero, List.getElem?_cons_succ, List.length_cons, List.length_nil, Nat.reduceAdd, Nat.reduceSub, List.reduceReplicate, List.set_cons_zero, List.set_cons_succ, nB, newL, decide_true, true_and, and_true, eq_self, reduceIte, List.length_map, Bool.not_true, Bool.not_false]
    exact kSet_lst (Ext.new (Ext.refl M) hq) updM_same hq h
end Lw
end
noncomputable section
namespace Lw
open PySem PySem.Spec PyProof.Rows L2 Evl Dl Classical
variable (A : Ad)
theorem lay_txt {k : Nat} {w : Wd1} (h : Row w) : layD k (tD w) := by
  refine ⟨.str (T w), rfl, ?_, Nat.zero_le _⟩
  show (T w).cps.all (· < 0x110000) = true
  rw [Array.all_eq_true']
  intro c hc
  have hc : c ∈ w := by simpa [T] using hc
  have := h c hc
  have : c ≤ 122 := by
    simp only [List.mem_cons, List.not_mem_nil, or_false] at this
    omega
  exact decide_eq_true (by omega)
theorem nil_txt : D.str (T []) = tD [] := rfl
theorem rst_row {ws : List Wd1} (g : Good ws) {q : Wd1} (h : Rst ws q) : Row q := by
  obtain ⟨w, hw, j, rfl⟩ := rst_end h
  exact fun c hc => g.row w hw c (List.mem_of_mem_drop hc)
theorem wsD_snoc (ws : List Wd1) (w : Wd1) : wsD (ws ++ [w]) = wsD ws ++ [tD w] := by rw [wsD, List.map_append]; rfl
theorem pop_ok {M : Mem} {p : Addr} {ws : List Wd1} {w : Wd1} {Kp : KD} (hm : M p = some (.lst (wsD (ws ++ [w])))) (h : Kp (tD w) (updM M p (.lst (wsD ws)))) : δPop (.ptr p) [] M Kp := by
  refine ⟨wsD (ws ++ [w]), tD w, hm, ?_, ?_⟩
  · rw [wsD_snoc, List.length_append]
    simp
  · rw [wsD_snoc, List.dropLast_concat]
    exact h
/-- the state while ends are gathered -/
structure RSt (M : Mem) (f wt : List Wd1) (qf qw : Addr) (M' : Mem) : Prop where
  ext : Ext M M'
  nf : M qf = none
  nw : M qw = none
  ne : qf ≠ qw
  af : M' qf = some (.lst (wsD f))
  aw : M' qw = some (.lst (wsD wt))
theorem dat_rests_from : Dat 1 nm_rests_from (fs_rests_from A) (ph_rests_from A) := by
  rintro ds M Kp KE - ⟨ws, rfl, g, h⟩
  have hsz := startsL_len g
  simp only [dRet, dCB, dCons, dNil, dLc, dLc2, dIS, dIL, dIT, dIR1, dIR2, dIEL, dIET, dIES, dVar, dC, dOp, dUn, dTest, kTest, dChain, kChain, dAnd, dOr, dNot, dTru, dSeq, dNext, dIfS, dFor, dAsg, dName, dGTup, dGCons, dGNil, dLst, dTup, dSl, dON, dOS, dOrV, dAndV, dNotV, dIf, dPar, dAug, dGSub, dRetN, dBreak, dCont, dDrop, dYes, dNever, startD, ksOf, wipeR, List.map_cons, List.map_nil, List.cons_append, List.nil_append, List.getElem?_cons_zero, List.getElem?_cons_succ, List.length_cons, List.length_nil, Nat.reduceAdd, Nat.reduceSub, List.reduceReplicate, List.set_cons_zero, List.set_cons_succ, nB, newL, decide_true, true_and, and_true, eq_self, reduceIte, List.length_map, Bool.not_true, Bool.not_false, ph_rests_from, dCallN]
  refine ⟨ws, rfl, g, ?_⟩
  refine lc_map1 (fun x => match x with | .tup [_, _, q] => q | x => x) trivial (by rw [List.length_map]; unfold sizeLine; omega) (fun x hx Q hQ => ?_) ?_
  · obtain ⟨y, _, rfl⟩ := List.mem_map.mp hx
    simp only [dRet, dCB, dCons, dNil, dLc, dLc2, dIS, dIL, dIT, dIR1, dIR2, dIEL, dIET, dIES, dVar, dC, dOp, dUn, dTest, kTest, dChain, kChain, dAnd, dOr, dNot, dTru, dSeq, dNext, dIfS, dFor, dAsg, dName, dGTup, dGCons, dGNil, dLst, dTup, dSl, dON, dOS, dOrV, dAndV, dNotV, dIf, dPar, dAug, dGSub, dRetN, dBreak, dCont, dDrop, dYes, dNever, startD, ksOf, wipeR, List.map_cons, List.map_nil, List.cons_append, List.nil_append, List.getElem?_cons_zero, List.getElem?_cons_succ, List.length_cons, List.length_nil, Nat.reduceAdd, Nat.reduceSub, List.reduceReplicate, List.set_cons_zero, List.set_cons_succ, nB, newL, decide_true, true_and, and_true, eq_self, reduceIte, List.length_map, Bool.not_true, Bool.not_false, stD]
    exact hQ
  have ewt : (((startsL ws).map stD).map fun x => match x with | .tup [_, _, q] => q | x => x) = wsD ((startsL ws).map fun x => x.2.2) := by
    rw [List.map_map, wsD, List.map_map]; rfl
  rw [ewt]
  intro qw hqw
  try simp only [dRet, dCB, dCons, dNil, dLc, dLc2, dIS, dIL, dIT, dIR1, dIR2, dIEL, dIET, dIES, dVar, dC, dOp, dUn, dTest, kTest, dChain, kChain, dAnd, dOr, dNot, dTru, dSeq, dNext, dIfS, dFor, dAsg, dName, dGTup, dGCons, dGNil, dLst, dTup, dSl, dON, dOS, dOrV, dAndV, dNotV, dIf, dPar, dAug, dGSub, dRetN, dBreak, dCont, dDrop, dYes, dNever, startD, ksOf, wipeR, List.map_cons, List.map_nil, List.cons_append, List.nil_append, List.getElem?_cons_zero, List.getElem?_cons_succ, List.length_cons, List.length_nil, Nat.reduceAdd, Nat.reduceSub, List.reduceReplicate, List.set_cons_zero, List.set_cons_succ, nB, newL, decide_true, true_and, and_true, eq_self, reduceIte, List.length_map, Bool.not_true, Bool.not_false]
  refine ⟨by unfold sizeLine; omega, fun qf hqf => ?_⟩
  have hnew : qf ≠ qw := fun z => by rw [z, updM_same] at hqf; cases hqf
  have hqfM : M qf = none := by rw [updM_ne hnew] at hqf; exact hqf
  refine ⟨fun m ρ M' => ∃ f wt qf qw, m = (72 - f.length) * 10 + wt.length ∧ m ≤ 800 ∧ CInv (St0 ws) (St1 ws) f wt ∧ RSt M f wt qf qw M' ∧ ∃ a b c d e k, ρ = [some (.tup (wsD ws)), some (.ptr qw), a, b, c, some (.ptr qf), d, e, k],
    ⟨_, [], (startsL ws).map fun x => x.2.2, qf, qw, rfl, by rw [List.length_map]; simp only [List.length_nil]; omega, CInv.start (fun q => by rw [List.mem_map]; exact Iff.rfl), ⟨Ext.new (Ext.new (Ext.refl M) hqw) hqfM, hqfM, hqw, hnew, updM_same, by rw [updM_ne (Ne.symm hnew), updM_same]⟩, _, _, _, _, _, _, rfl⟩, ?_⟩
  rintro m ρ M' ⟨f, wt, qf, qw, rfl, hm8, inv, st, a, b, c, d, e, k, rfl⟩
  try simp only [dRet, dCB, dCons, dNil, dLc, dLc2, dIS, dIL, dIT, dIR1, dIR2, dIEL, dIET, dIES, dVar, dC, dOp, dUn, dTest, kTest, dChain, kChain, dAnd, dOr, dNot, dTru, dSeq, dNext, dIfS, dFor, dAsg, dName, dGTup, dGCons, dGNil, dLst, dTup, dSl, dON, dOS, dOrV, dAndV, dNotV, dIf, dPar, dAug, dGSub, dRetN, dBreak, dCont, dDrop, dYes, dNever, startD, ksOf, wipeR, List.map_cons, List.map_nil, List.cons_append, List.nil_append, List.getElem?_cons_zero, List.getElem?_cons_succ, List.length_cons, List.length_nil, Nat.reduceAdd, Nat.reduceSub, List.reduceReplicate, List.set_cons_zero, List.set_cons_succ, nB, newL, decide_true, true_and, and_true, eq_self, reduceIte, List.length_map, Bool.not_true, Bool.not_false]
  refine ⟨by unfold sizeLine; omega, eq_nil (ds := wsD wt) (viewL_ptr.mpr st.aw) (fun d hd => ?_) ?_⟩
  · obtain ⟨w, hw, rfl⟩ := List.mem_map.mp hd
    exact lay_txt (rst_row g (inv.sw w hw))
  have hfl : f.length ≤ 72 := rst_few g inv.nd inv.sf
  rcases List.eq_nil_or_concat wt with rfl | ⟨wt', q, rfl⟩
  · simp only [dRet, dCB, dCons, dNil, dLc, dLc2, dIS, dIL, dIT, dIR1, dIR2, dIEL, dIET, dIES, dVar, dC, dOp, dUn, dTest, kTest, dChain, kChain, dAnd, dOr, dNot, dTru, dSeq, dNext, dIfS, dFor, dAsg, dName, dGTup, dGCons, dGNil, dLst, dTup, dSl, dON, dOS, dOrV, dAndV, dNotV, dIf, dPar, dAug, dGSub, dRetN, dBreak, dCont, dDrop, dYes, dNever, startD, ksOf, wipeR, List.map_cons, List.map_nil, List.cons_append, List.nil_append, List.getElem?_cons_zero, List.getElem?_cons_succ, List.length_cons, List.length_nil, Nat.reduceAdd, Nat.reduceSub, List.reduceReplicate, List.set_cons_zero, List.set_cons_succ, nB, newL, decide_true, true_and, and_true, eq_self, reduceIte, List.length_map, Bool.not_true, Bool.not_false, wsD, List.isEmpty_nil]
    refine ⟨f, viewL_ptr.mpr st.af, fun us hp hs => ?_⟩
    refine kSet_ext st.ext (h us ((List.Perm.nodup_iff hp).mpr inv.nd) (fun q => by rw [hp.mem_iff]; exact inv.done q) hs)
  · have e1 : (wsD (wt' ++ [q])).isEmpty = false := by rw [wsD_snoc]; simp
    rw [List.concat_eq_append] at inv st hm8 ⊢
    simp only [List.length_append, List.length_cons, List.length_nil] at hm8
    simp only [dRet, dCB, dCons, dNil, dLc, dLc2, dIS, dIL, dIT, dIR1, dIR2, dIEL, dIET, dIES, dVar, dC, dOp, dUn, dTest, kTest, dChain, kChain, dAnd, dOr, dNot, dTru, dSeq, dNext, dIfS, dFor, dAsg, dName, dGTup, dGCons, dGNil, dLst, dTup, dSl, dON, dOS, dOrV, dAndV, dNotV, dIf, dPar, dAug, dGSub, dRetN, dBreak, dCont, dDrop, dYes, dNever, startD, ksOf, wipeR, List.map_cons, List.map_nil, List.cons_append, List.nil_append, List.getElem?_cons_zero, List.getElem?_cons_succ, List.length_cons, List.length_nil, Nat.reduceAdd, Nat.reduceSub, List.reduceReplicate, List.set_cons_zero, List.set_cons_succ, nB, newL, decide_true, true_and, and_true, eq_self, reduceIte, List.length_map, Bool.not_true, Bool.not_false, e1, dBM]
    refine ⟨tyD_lst st.aw, pop_ok st.aw ?_⟩
    try simp only [dRet, dCB, dCons, dNil, dLc, dLc2, dIS, dIL, dIT, dIR1, dIR2, dIEL, dIET, dIES, dVar, dC, dOp, dUn, dTest, kTest, dChain, kChain, dAnd, dOr, dNot, dTru, dSeq, dNext, dIfS, dFor, dAsg, dName, dGTup, dGCons, dGNil, dLst, dTup, dSl, dON, dOS, dOrV, dAndV, dNotV, dIf, dPar, dAug, dGSub, dRetN, dBreak, dCont, dDrop, dYes, dNever, startD, ksOf, wipeR, List.map_cons, List.map_nil, List.cons_append, List.nil_append, List.getElem?_cons_zero, List.getElem?_cons_succ, List.length_cons, List.length_nil, Nat.reduceAdd, Nat.reduceSub, List.reduceReplicate, List.set_cons_zero, List.set_cons_succ, nB, newL, decide_true, true_and, and_true, eq_self, reduceIte, List.length_map, Bool.not_true, Bool.not_false]
    have af' : updM M' qw (.lst (wsD wt')) qf = some (.lst (wsD f)) := by rw [updM_ne st.ne]; exact st.af
    have ext' : Ext M (updM M' qw (.lst (wsD wt'))) := Ext.new st.ext st.nw
    refine in_view (ds := wsD f) (viewL_ptr.mpr af') rfl (good_flat f) ?_
    rw [any_in]
    have crq : Rst ws q := inv.sw q (by simp)
    by_cases hqf : q ∈ f
    · rw [decide_eq_true hqf]
      try simp only [dRet, dCB, dCons, dNil, dLc, dLc2, dIS, dIL, dIT, dIR1, dIR2, dIEL, dIET, dIES, dVar, dC, dOp, dUn, dTest, kTest, dChain, kChain, dAnd, dOr, dNot, dTru, dSeq, dNext, dIfS, dFor, dAsg, dName, dGTup, dGCons, dGNil, dLst, dTup, dSl, dON, dOS, dOrV, dAndV, dNotV, dIf, dPar, dAug, dGSub, dRetN, dBreak, dCont, dDrop, dYes, dNever, startD, ksOf, wipeR, List.map_cons, List.map_nil, List.cons_append, List.nil_append, List.getElem?_cons_zero, List.getElem?_cons_succ, List.length_cons, List.length_nil, Nat.reduceAdd, Nat.reduceSub, List.reduceReplicate, List.set_cons_zero, List.set_cons_succ, nB, newL, decide_true, true_and, and_true, eq_self, reduceIte, List.length_map, Bool.not_true, Bool.not_false]
      exact ⟨_, by rw [List.length_append]; simp only [List.length_cons, List.length_nil]; omega, f, wt', qf, qw, rfl, by omega, inv.skip hqf, ⟨ext', st.nf, st.nw, st.ne, af', updM_same⟩, _, _, _, _, _, _, rfl⟩
    · rw [decide_eq_false hqf]
      simp only [dRet, dCB, dCons, dNil, dLc, dLc2, dIS, dIL, dIT, dIR1, dIR2, dIEL, dIET, dIES, dVar, dC, dOp, dUn, dTest, kTest, dChain, kChain, dAnd, dOr, dNot, dTru, dSeq, dNext, dIfS, dFor, dAsg, dName, dGTup, dGCons, dGNil, dLst, dTup, dSl, dON, dOS, dOrV, dAndV, dNotV, dIf, dPar, dAug, dGSub, dRetN, dBreak, dCont, dDrop, dYes, dNever, startD, ksOf, wipeR, List.map_cons, List.map_nil, List.cons_append, List.nil_append, List.getElem?_cons_zero, List.getElem?_cons_succ, List.length_cons, List.length_nil, Nat.reduceAdd, Nat.reduceSub, List.reduceReplicate, List.set_cons_zero, List.set_cons_succ, nB, newL, decide_true, true_and, and_true, eq_self, reduceIte, List.length_map, Bool.not_true, Bool.not_false, dBM]
      refine ⟨tyD_lst af', app_ptr af' (by rw [wsD_len]; unfold sizeLine; omega) ?_⟩
      have e2 : wsD f ++ [tD q] = wsD (f ++ [q]) := (wsD_snoc f q).symm
      rw [e2]
      have af2 : updM (updM M' qw (.lst (wsD wt'))) qf (.lst (wsD (f ++ [q]))) qf = some (.lst (wsD (f ++ [q]))) := updM_same
      have aw2 : updM (updM M' qw (.lst (wsD wt'))) qf (.lst (wsD (f ++ [q]))) qw = some (.lst (wsD wt')) := by rw [updM_ne (Ne.symm st.ne), updM_same]
      have ext2 : Ext M (updM (updM M' qw (.lst (wsD wt'))) qf (.lst (wsD (f ++ [q])))) := Ext.new ext' st.nf
      generalize updM (updM M' qw (.lst (wsD wt'))) qf (.lst (wsD (f ++ [q]))) = M2 at af2 aw2 ext2 ⊢
      have hql := rst_len g crq
      have hf71 : f.length < 72 := by
        have := rst_few g (List.nodup_append.mpr ⟨inv.nd, (by simp : [q].Nodup), fun x hx y hy e => by rw [List.mem_singleton] at hy; exact hqf (hy ▸ e ▸ hx)⟩) (fun x hx => by
          rcases List.mem_append.mp hx with hx | hx
          · exact inv.sf x hx
          · rw [List.mem_singleton] at hx; rw [hx]; exact crq)
        simp only [List.length_append, List.length_cons, List.length_nil] at this
        omega
      simp only [dRet, dCB, dCons, dNil, dLc, dLc2, dIS, dIL, dIT, dIR1, dIR2, dIEL, dIET, dIES, dVar, dC, dOp, dUn, dTest, kTest, dChain, kChain, dAnd, dOr, dNot, dTru, dSeq, dNext, dIfS, dFor, dAsg, dName, dGTup, dGCons, dGNil, dLst, dTup, dSl, dON, dOS, dOrV, dAndV, dNotV, dIf, dPar, dAug, dGSub, dRetN, dBreak, dCont, dDrop, dYes, dNever, startD, ksOf, wipeR, List.map_cons, List.map_nil, List.cons_append, List.nil_append, List.getElem?_cons_zero, List.getElem?_cons_succ, List.length_cons, List.length_nil, Nat.reduceAdd, Nat.reduceSub, List.reduceReplicate, List.set_cons_zero, List.set_cons_succ, nB, newL, decide_true, true_and, and_true, eq_self, reduceIte, List.length_map, Bool.not_true, Bool.not_false, tD, δEq, dec_T]
      by_cases hq0 : q = []
      · rw [decide_eq_true hq0]
        try simp only [dRet, dCB, dCons, dNil, dLc, dLc2, dIS, dIL, dIT, dIR1, dIR2, dIEL, dIET, dIES, dVar, dC, dOp, dUn, dTest, kTest, dChain, kChain, dAnd, dOr, dNot, dTru, dSeq, dNext, dIfS, dFor, dAsg, dName, dGTup, dGCons, dGNil, dLst, dTup, dSl, dON, dOS, dOrV, dAndV, dNotV, dIf, dPar, dAug, dGSub, dRetN, dBreak, dCont, dDrop, dYes, dNever, startD, ksOf, wipeR, List.map_cons, List.map_nil, List.cons_append, List.nil_append, List.getElem?_cons_zero, List.getElem?_cons_succ, List.length_cons, List.length_nil, Nat.reduceAdd, Nat.reduceSub, List.reduceReplicate, List.set_cons_zero, List.set_cons_succ, nB, newL, decide_true, true_and, and_true, eq_self, reduceIte, List.length_map, Bool.not_true, Bool.not_false]
        refine ⟨_, ?_, f ++ [q], wt', qf, qw, rfl, by simp only [List.length_append, List.length_cons, List.length_nil]; omega, ?_, ⟨ext2, st.nf, st.nw, st.ne, af2, aw2⟩, _, _, _, _, _, _, rfl⟩
        · simp only [List.length_append, List.length_cons, List.length_nil]; omega
        · have := inv.add (ns := []) hqf (fun x => ⟨fun z => absurd z (by simp), fun z => absurd hq0 z.1⟩)
          rw [List.append_nil] at this
          exact this
      · rw [decide_eq_false hq0]
        simp only [dRet, dCB, dCons, dNil, dLc, dLc2, dIS, dIL, dIT, dIR1, dIR2, dIEL, dIET, dIES, dVar, dC, dOp, dUn, dTest, kTest, dChain, kChain, dAnd, dOr, dNot, dTru, dSeq, dNext, dIfS, dFor, dAsg, dName, dGTup, dGCons, dGNil, dLst, dTup, dSl, dON, dOS, dOrV, dAndV, dNotV, dIf, dPar, dAug, dGSub, dRetN, dBreak, dCont, dDrop, dYes, dNever, startD, ksOf, wipeR, List.map_cons, List.map_nil, List.cons_append, List.nil_append, List.getElem?_cons_zero, List.getElem?_cons_succ, List.length_cons, List.length_nil, Nat.reduceAdd, Nat.reduceSub, List.reduceReplicate, List.set_cons_zero, List.set_cons_succ, nB, newL, decide_true, true_and, and_true, eq_self, reduceIte, List.length_map, Bool.not_true, Bool.not_false, dCallN]
        refine ⟨ws, q, rfl, g, by omega, ?_⟩
        have hs8 := stepsL_len ws q
        have hw8 := g.few
        refine lc_map1 (fun x => match x with | .tup [_, q, _] => q | x => x) trivial (by rw [List.length_map]; unfold sizeLine; omega) (fun x hx Q hQ => ?_) ?_
        · obtain ⟨y, _, rfl⟩ := List.mem_map.mp hx
          simp only [dRet, dCB, dCons, dNil, dLc, dLc2, dIS, dIL, dIT, dIR1, dIR2, dIEL, dIET, dIES, dVar, dC, dOp, dUn, dTest, kTest, dChain, kChain, dAnd, dOr, dNot, dTru, dSeq, dNext, dIfS, dFor, dAsg, dName, dGTup, dGCons, dGNil, dLst, dTup, dSl, dON, dOS, dOrV, dAndV, dNotV, dIf, dPar, dAug, dGSub, dRetN, dBreak, dCont, dDrop, dYes, dNever, startD, ksOf, wipeR, List.map_cons, List.map_nil, List.cons_append, List.nil_append, List.getElem?_cons_zero, List.getElem?_cons_succ, List.length_cons, List.length_nil, Nat.reduceAdd, Nat.reduceSub, List.reduceReplicate, List.set_cons_zero, List.set_cons_succ, nB, newL, decide_true, true_and, and_true, eq_self, reduceIte, List.length_map, Bool.not_true, Bool.not_false, spD]
          exact hQ
        · have ens : (((stepsL ws q).map spD).map fun x => match x with | .tup [_, q, _] => q | x => x) = wsD ((stepsL ws q).map fun x => x.2.1) := by
            rw [List.map_map, wsD, List.map_map]; rfl
          rw [ens]
          generalize hns : (stepsL ws q).map (fun x => x.2.1) = ns
          have hnl : ns.length ≤ 8 := by rw [← hns, List.length_map]; omega
          have hwl : wt'.length ≤ 1000 := by omega
          try simp only [dRet, dCB, dCons, dNil, dLc, dLc2, dIS, dIL, dIT, dIR1, dIR2, dIEL, dIET, dIES, dVar, dC, dOp, dUn, dTest, kTest, dChain, kChain, dAnd, dOr, dNot, dTru, dSeq, dNext, dIfS, dFor, dAsg, dName, dGTup, dGCons, dGNil, dLst, dTup, dSl, dON, dOS, dOrV, dAndV, dNotV, dIf, dPar, dAug, dGSub, dRetN, dBreak, dCont, dDrop, dYes, dNever, startD, ksOf, wipeR, List.map_cons, List.map_nil, List.cons_append, List.nil_append, List.getElem?_cons_zero, List.getElem?_cons_succ, List.length_cons, List.length_nil, Nat.reduceAdd, Nat.reduceSub, List.reduceReplicate, List.set_cons_zero, List.set_cons_succ, nB, newL, decide_true, true_and, and_true, eq_self, reduceIte, List.length_map, Bool.not_true, Bool.not_false]
          show ∃ a b, viewL M2 (.ptr qw) = some a ∧ viewL M2 (.lst (wsD ns)) = some b ∧ a.length + b.length ≤ sizeLine ∧ newL true (a ++ b) M2 _
          refine ⟨wsD wt', wsD ns, viewL_ptr.mpr aw2, rfl, by rw [wsD_len, wsD_len]; unfold sizeLine; omega, fun p hp => ?_⟩
          have ep : wsD wt' ++ wsD ns = wsD (wt' ++ ns) := by rw [wsD, wsD, wsD, List.map_append]
          rw [ep]
          have hpf : qf ≠ p := fun z => by rw [← z, af2] at hp; cases hp
          refine ⟨_, ?_, f ++ [q], wt' ++ ns, qf, p, rfl, by simp only [List.length_append, List.length_cons, List.length_nil]; omega, inv.add hqf (fun x => ?_), ⟨Ext.new ext2 (ext2.none hp), st.nf, ext2.none hp, hpf, by rw [updM_ne hpf]; exact af2, updM_same⟩, _, _, _, _, _, _, rfl⟩
          · simp only [List.length_append, List.length_cons, List.length_nil]; omega
          · rw [← hns, List.mem_map]
            exact ⟨fun z => ⟨hq0, z⟩, fun z => z.2⟩
theorem dat_is_one_way : Dat 1 nm_is_one_way (fs_is_one_way A) (ph_is_one_way A) := by
  rintro ds M Kp KE - ⟨ws, rfl, g, h⟩
  simp only [dRet, dCB, dCons, dNil, dLc, dLc2, dIS, dIL, dIT, dIR1, dIR2, dIEL, dIET, dIES, dVar, dC, dOp, dUn, dTest, kTest, dChain, kChain, dAnd, dOr, dNot, dTru, dSeq, dNext, dIfS, dFor, dAsg, dName, dGTup, dGCons, dGNil, dLst, dTup, dSl, dON, dOS, dOrV, dAndV, dNotV, dIf, dPar, dAug, dGSub, dRetN, dBreak, dCont, dDrop, dYes, dNever, startD, ksOf, wipeR, List.map_cons, List.map_nil, List.cons_append, List.nil_append, List.getElem?_cons_zero, List.getElem?_cons_succ, List.length_cons, List.length_nil, Nat.reduceAdd, Nat.reduceSub, List.reduceReplicate, List.set_cons_zero, List.set_cons_succ, nB, newL, decide_true, true_and, and_true, eq_self, reduceIte, List.length_map, Bool.not_true, Bool.not_false, ph_is_one_way, dCallN, dFld, stk]
  refine ⟨_, _, _, rfl, rfl, rfl, ws, rfl, g, fun qs nd hq hs => ?_⟩
  refine in_view (ds := wsD qs) rfl rfl (good_flat qs) ?_
  rw [nil_txt, any_in]
  have e : (!decide ([] ∈ qs)) = decide (OneWay ws) := by
    rw [Bool.eq_iff_iff, decide_eq_true_eq, Bool.not_eq_true', decide_eq_false_iff_not, hq]
    exact Iff.rfl
  simp only [dRet, dCB, dCons, dNil, dLc, dLc2, dIS, dIL, dIT, dIR1, dIR2, dIEL, dIET, dIES, dVar, dC, dOp, dUn, dTest, kTest, dChain, kChain, dAnd, dOr, dNot, dTru, dSeq, dNext, dIfS, dFor, dAsg, dName, dGTup, dGCons, dGNil, dLst, dTup, dSl, dON, dOS, dOrV, dAndV, dNotV, dIf, dPar, dAug, dGSub, dRetN, dBreak, dCont, dDrop, dYes, dNever, startD, ksOf, wipeR, List.map_cons, List.map_nil, List.cons_append, List.nil_append, List.getElem?_cons_zero, List.getElem?_cons_succ, List.length_cons, List.length_nil, Nat.reduceAdd, Nat.reduceSub, List.reduceReplicate, List.set_cons_zero, List.set_cons_succ, nB, newL, decide_true, true_and, and_true, eq_self, reduceIte, List.length_map, Bool.not_true, Bool.not_false, e]
  exact kSet_same h
theorem dat_check_one_way : Dat 1 nm_check_one_way (fs_check_one_way A) (ph_check_one_way A) := by
  rintro ds M Kp KE - ⟨ws, rfl, g, ho, h⟩
  simp only [dRet, dCB, dCons, dNil, dLc, dLc2, dIS, dIL, dIT, dIR1, dIR2, dIEL, dIET, dIES, dVar, dC, dOp, dUn, dTest, kTest, dChain, kChain, dAnd, dOr, dNot, dTru, dSeq, dNext, dIfS, dFor, dAsg, dName, dGTup, dGCons, dGNil, dLst, dTup, dSl, dON, dOS, dOrV, dAndV, dNotV, dIf, dPar, dAug, dGSub, dRetN, dBreak, dCont, dDrop, dYes, dNever, startD, ksOf, wipeR, List.map_cons, List.map_nil, List.cons_append, List.nil_append, List.getElem?_cons_zero, List.getElem?_cons_succ, List.length_cons, List.length_nil, Nat.reduceAdd, Nat.reduceSub, List.reduceReplicate, List.set_cons_zero, List.set_cons_succ, nB, newL, decide_true, true_and, and_true, eq_self, reduceIte, List.length_map, Bool.not_true, Bool.not_false, ph_check_one_way, dCallN]
  refine ⟨ws, rfl, g, _, rfl, ?_⟩
  rw [decide_eq_true ho]
  exact kSet_same h
end Lw
end
noncomputable section
namespace Lw
open PySem PySem.Spec PyProof.Rows L2 Evl Dl Classical
variable (A : Ad)
theorem RSt.putw {M M' : Mem} {f wt wt2 : List Wd1} {qf qw : Addr} (s : RSt M f wt qf qw M') : RSt M f wt2 qf qw (updM M' qw (.lst (wsD wt2))) :=
  ⟨Ext.new s.ext s.nw, s.nf, s.nw, s.ne, by rw [updM_ne s.ne]; exact s.af, updM_same⟩
theorem RSt.putf {M M' : Mem} {f f2 wt : List Wd1} {qf qw : Addr} (s : RSt M f wt qf qw M') : RSt M f2 wt qf qw (updM M' qf (.lst (wsD f2))) :=
  ⟨Ext.new s.ext s.nf, s.nf, s.nw, s.ne, updM_same, by rw [updM_ne (Ne.symm s.ne)]; exact s.aw⟩
theorem RSt.appw {M M' : Mem} {f wt : List Wd1} {qf qw : Addr} {x : Wd1} {Kp : KD} (s : RSt M f wt qf qw M') (hl : wt.length ≤ 5000) (h : ∀ M2, RSt M f (wt ++ [x]) qf qw M2 → Kp .non M2) : δAppend (.ptr qw) [.str (T x)] M' Kp := by
  refine app_ptr s.aw (by rw [wsD_len]; unfold sizeLine; omega) ?_
  have e : wsD wt ++ [D.str (T x)] = wsD (wt ++ [x]) := (wsD_snoc wt x).symm
  rw [e]
  exact h _ s.putw
def St2 (ws : List Wd1) (r q : Wd1) : Prop := St1 ws r q ∧ q ≠ []
theorem st0_ne {ws : List Wd1} (g : Good ws) {q : Wd1} (h : St0 ws q) : q ≠ [] := fun e => by
  subst e
  obtain ⟨x, hx, e⟩ := h
  obtain ⟨a, b, ha, hb, hne, ht, e2⟩ := mem_startsL.mp hx
  rw [e2] at e
  have hle : b.length ≤ a.length := by have := congrArg List.length e; rw [List.length_drop, List.length_nil] at this; omega
  have hab : a = b := by rw [← ht, List.take_of_length_le hle]
  subst hab
  obtain ⟨h1, e1⟩ := List.getElem?_eq_some_iff.mp ha
  obtain ⟨h2, e2⟩ := List.getElem?_eq_some_iff.mp hb
  exact hne ((List.getElem_inj g.nd).mp (e1.trans e2.symm))
theorem cl2_iff {ws : List Wd1} (g : Good ws) (q : Wd1) : Cl (St0 ws) (St2 ws) q ↔ Rst ws q ∧ q ≠ [] := by
  constructor
  · intro h
    induction h with
    | base hs => exact ⟨.base hs, st0_ne g hs⟩
    | step _ ht ih => exact ⟨.step ih.1 ht.1, ht.2⟩
  · rintro ⟨h, hne⟩
    induction h with
    | base hs => exact .base hs
    | step _ ht ih => exact .step (ih ht.1) ⟨ht, hne⟩
theorem st0_law {ws : List Wd1} (g : Good ws) (x : Wd1) : St0 ws x ↔ ∃ a ∈ ws, ∃ b ∈ ws, b ≠ a ∧ b.take a.length = a ∧ x = b.drop a.length := by
  constructor
  · rintro ⟨y, hy, rfl⟩
    obtain ⟨a, b, ha, hb, hne, ht, e⟩ := mem_startsL.mp hy
    refine ⟨a, List.mem_of_getElem? ha, b, List.mem_of_getElem? hb, fun z => ?_, ht, e⟩
    subst z
    obtain ⟨h1, e1⟩ := List.getElem?_eq_some_iff.mp ha
    obtain ⟨h2, e2⟩ := List.getElem?_eq_some_iff.mp hb
    exact hne ((List.getElem_inj g.nd).mp (e1.trans e2.symm))
  · rintro ⟨a, ha, b, hb, hne, ht, rfl⟩
    obtain ⟨i, hi⟩ := List.mem_iff_getElem?.mp ha
    obtain ⟨j, hj⟩ := List.mem_iff_getElem?.mp hb
    refine ⟨(i, j, b.drop a.length), mem_startsL.mpr ⟨a, b, hi, hj, fun z => ?_, ht, rfl⟩, rfl⟩
    have z : i = j := z
    subst z
    rw [hi] at hj
    exact hne (Option.some.inj hj).symm
theorem st2_law {ws : List Wd1} {q : Wd1} (hq : q ≠ []) (x : Wd1) : St2 ws q x ↔ ∃ w ∈ ws, w ≠ q ∧ ((q.take w.length = w ∧ x = q.drop w.length) ∨ (¬ q.take w.length = w ∧ w.take q.length = q ∧ x = w.drop q.length)) := by
  constructor
  · rintro ⟨⟨_, y, hy, rfl⟩, hne⟩
    obtain ⟨w, hw, h⟩ := mem_stepsL.mp hy
    refine ⟨w, List.mem_of_getElem? hw, fun z => ?_, h.imp (fun h => ⟨h.1, h.2.1⟩) fun h => ⟨h.1, h.2.1, h.2.2.1⟩⟩
    subst z
    rcases h with ⟨_, e, _⟩ | ⟨h, _⟩
    · rw [e, List.drop_length] at hne; exact hne rfl
    · exact h List.take_length
  · rintro ⟨w, hw, hne, h⟩
    obtain ⟨n, hn⟩ := List.mem_iff_getElem?.mp hw
    rcases h with ⟨h1, rfl⟩ | ⟨h1, h2, rfl⟩
    · refine ⟨⟨hq, (n, q.drop w.length, true), mem_stepsL.mpr ⟨w, hn, .inl ⟨h1, rfl, rfl⟩⟩, rfl⟩, fun e => hne ?_⟩
      have hle : q.length ≤ w.length := by have := congrArg List.length e; rw [List.length_drop, List.length_nil] at this; omega
      rw [← h1, List.take_of_length_le hle]
    · refine ⟨⟨hq, (n, w.drop q.length, false), mem_stepsL.mpr ⟨w, hn, .inr ⟨h1, h2, rfl, rfl⟩⟩, rfl⟩, fun e => hne ?_⟩
      have hle : w.length ≤ q.length := by have := congrArg List.length e; rw [List.length_drop, List.length_nil] at this; omega
      rw [List.take_of_length_le hle] at h2
      exact h2
theorem take_next {ws : List Wd1} {i : Nat} {w : Wd1} (h : ws[i]? = some w) (u : Wd1) : u ∈ ws.take (i + 1) ↔ u ∈ ws.take i ∨ u = w := by
  rw [List.take_add_one, h]
  simp
theorem dat__law_rests : Dat 1 nm__law_rests (fs__law_rests A) (ph__law_rests A) := by
  rintro ds M Kp KE - ⟨d, ws, rfl, hv, g, h⟩
  have hw8 := g.few
  simp only [dRet, dCB, dCons, dNil, dLc, dLc2, dIS, dIL, dIT, dIR1, dIR2, dIEL, dIET, dIES, dVar, dC, dOp, dUn, dTest, kTest, dChain, kChain, dAnd, dOr, dNot, dTru, dSeq, dNext, dIfS, dFor, dAsg, dName, dGTup, dGCons, dGNil, dLst, dTup, dSl, dON, dOS, dOrV, dAndV, dNotV, dIf, dPar, dAug, dGSub, dRetN, dBreak, dCont, dDrop, dYes, dNever, startD, ksOf, wipeR, List.map_cons, List.map_nil, List.cons_append, List.nil_append, List.getElem?_cons_zero, List.getElem?_cons_succ, List.length_cons, List.length_nil, Nat.reduceAdd, Nat.reduceSub, List.reduceReplicate, List.set_cons_zero, List.set_cons_succ, nB, newL, decide_true, true_and, and_true, eq_self, reduceIte, List.length_map, Bool.not_true, Bool.not_false, ph__law_rests, dPar3]
  refine ⟨by unfold sizeLine; omega, fun qw hqw => ⟨by unfold sizeLine; omega, fun qf hqf => ?_⟩⟩
  have hne : qf ≠ qw := fun z => by rw [z, updM_same] at hqf; cases hqf
  have hqfM : M qf = none := by rw [updM_ne hne] at hqf; exact hqf
  have st0 : RSt M [] [] qf qw (updM (updM M qw (.lst [])) qf (.lst [])) := ⟨Ext.new (Ext.new (Ext.refl M) hqw) hqfM, hqfM, hqw, hne, updM_same, by rw [updM_ne (Ne.symm hne), updM_same]; rfl⟩
  generalize updM (updM M qw (.lst [])) qf (.lst []) = M0 at st0 ⊢
  have hvx : ∀ {f wt : List Wd1} {M' : Mem}, RSt M f wt qf qw M' → viewL M' d = some (wsD ws) := fun s => viewL_ext s.ext hv
  refine iterL_v (hvx st0) fun P hP => for_inv (fun i ρ M' => ∃ wt, RSt M [] wt qf qw M' ∧ wt.length ≤ 8 * i ∧ (∀ x, x ∈ wt ↔ ∃ a ∈ ws.take i, ∃ b ∈ ws, b ≠ a ∧ b.take a.length = a ∧ x = b.drop a.length) ∧ ∃ a b c e, ρ = [some d, some (.ptr qw), some (.ptr qf), some (.bl false), a, b, c, e])
    ⟨[], st0, by simp, by simp, _, _, _, _, rfl⟩ ?_ ?_
  · rintro i x ρ M' Nx hx ⟨wt, st, hl, hwt, a, b, c, e, rfl⟩ hN
    refine ⟨hP _ (hvx st), ?_⟩
    obtain ⟨w, hw, rfl⟩ := wsD_get hx
    have hwm := List.mem_of_getElem? hw
    have hi := (List.getElem?_eq_some_iff.mp hw).1
    try simp only [dRet, dCB, dCons, dNil, dLc, dLc2, dIS, dIL, dIT, dIR1, dIR2, dIEL, dIET, dIES, dVar, dC, dOp, dUn, dTest, kTest, dChain, kChain, dAnd, dOr, dNot, dTru, dSeq, dNext, dIfS, dFor, dAsg, dName, dGTup, dGCons, dGNil, dLst, dTup, dSl, dON, dOS, dOrV, dAndV, dNotV, dIf, dPar, dAug, dGSub, dRetN, dBreak, dCont, dDrop, dYes, dNever, startD, ksOf, wipeR, List.map_cons, List.map_nil, List.cons_append, List.nil_append, List.getElem?_cons_zero, List.getElem?_cons_succ, List.length_cons, List.length_nil, Nat.reduceAdd, Nat.reduceSub, List.reduceReplicate, List.set_cons_zero, List.set_cons_succ, nB, newL, decide_true, true_and, and_true, eq_self, reduceIte, List.length_map, Bool.not_true, Bool.not_false]
    refine iterL_v (hvx st) fun P2 hP2 => for_inv (fun j ρ M' => ∃ wt2, RSt M [] wt2 qf qw M' ∧ wt2.length ≤ 8 * i + j ∧ (∀ x, x ∈ wt2 ↔ x ∈ wt ∨ ∃ b ∈ ws.take j, b ≠ w ∧ b.take w.length = w ∧ x = b.drop w.length) ∧ ∃ b c e, ρ = [some d, some (.ptr qw), some (.ptr qf), some (.bl false), some (tD w), b, c, e])
      ⟨wt, st, by omega, by simp, _, _, _, rfl⟩ ?_ ?_
    · rintro j x ρ M' Nx2 hx2 ⟨wt2, st2, hl2, hwt2, b, c, e, rfl⟩ hN2
      refine ⟨hP2 _ (hvx st2), ?_⟩
      obtain ⟨u, hu, rfl⟩ := wsD_get hx2
      have hum := List.mem_of_getElem? hu
      have hj := (List.getElem?_eq_some_iff.mp hu).1
      have no : ¬ (u ≠ w ∧ u.take w.length = w) → ∀ x, x ∈ wt2 ↔ x ∈ wt ∨ ∃ b ∈ ws.take (j + 1), b ≠ w ∧ b.take w.length = w ∧ x = b.drop w.length := fun hn x => by
        rw [hwt2]
        refine or_congr Iff.rfl ⟨fun ⟨b, hb, h⟩ => ⟨b, (take_next hu b).mpr (.inl hb), h⟩, fun ⟨b, hb, h⟩ => ?_⟩
        rcases (take_next hu b).mp hb with hb | rfl
        · exact ⟨b, hb, h⟩
        · exact absurd ⟨h.1, h.2.1⟩ hn
      simp only [dRet, dCB, dCons, dNil, dLc, dLc2, dIS, dIL, dIT, dIR1, dIR2, dIEL, dIET, dIES, dVar, dC, dOp, dUn, dTest, kTest, dChain, kChain, dAnd, dOr, dNot, dTru, dSeq, dNext, dIfS, dFor, dAsg, dName, dGTup, dGCons, dGNil, dLst, dTup, dSl, dON, dOS, dOrV, dAndV, dNotV, dIf, dPar, dAug, dGSub, dRetN, dBreak, dCont, dDrop, dYes, dNever, startD, ksOf, wipeR, List.map_cons, List.map_nil, List.cons_append, List.nil_append, List.getElem?_cons_zero, List.getElem?_cons_succ, List.length_cons, List.length_nil, Nat.reduceAdd, Nat.reduceSub, List.reduceReplicate, List.set_cons_zero, List.set_cons_succ, nB, newL, decide_true, true_and, and_true, eq_self, reduceIte, List.length_map, Bool.not_true, Bool.not_false, tD, δEq, dec_T]
      by_cases h1 : u = w
      · rw [decide_eq_true h1]
        exact hN2 _ _ ⟨wt2, st2, by omega, no (fun z => z.1 h1), _, _, _, rfl⟩
      · rw [decide_eq_false h1]
        try simp only [dRet, dCB, dCons, dNil, dLc, dLc2, dIS, dIL, dIT, dIR1, dIR2, dIEL, dIET, dIES, dVar, dC, dOp, dUn, dTest, kTest, dChain, kChain, dAnd, dOr, dNot, dTru, dSeq, dNext, dIfS, dFor, dAsg, dName, dGTup, dGCons, dGNil, dLst, dTup, dSl, dON, dOS, dOrV, dAndV, dNotV, dIf, dPar, dAug, dGSub, dRetN, dBreak, dCont, dDrop, dYes, dNever, startD, ksOf, wipeR, List.map_cons, List.map_nil, List.cons_append, List.nil_append, List.getElem?_cons_zero, List.getElem?_cons_succ, List.length_cons, List.length_nil, Nat.reduceAdd, Nat.reduceSub, List.reduceReplicate, List.set_cons_zero, List.set_cons_succ, nB, newL, decide_true, true_and, and_true, eq_self, reduceIte, List.length_map, Bool.not_true, Bool.not_false]
        refine len_T (word_small g hwm) ?_
        try simp only [dRet, dCB, dCons, dNil, dLc, dLc2, dIS, dIL, dIT, dIR1, dIR2, dIEL, dIET, dIES, dVar, dC, dOp, dUn, dTest, kTest, dChain, kChain, dAnd, dOr, dNot, dTru, dSeq, dNext, dIfS, dFor, dAsg, dName, dGTup, dGCons, dGNil, dLst, dTup, dSl, dON, dOS, dOrV, dAndV, dNotV, dIf, dPar, dAug, dGSub, dRetN, dBreak, dCont, dDrop, dYes, dNever, startD, ksOf, wipeR, List.map_cons, List.map_nil, List.cons_append, List.nil_append, List.getElem?_cons_zero, List.getElem?_cons_succ, List.length_cons, List.length_nil, Nat.reduceAdd, Nat.reduceSub, List.reduceReplicate, List.set_cons_zero, List.set_cons_succ, nB, newL, decide_true, true_and, and_true, eq_self, reduceIte, List.length_map, Bool.not_true, Bool.not_false]
        refine sl_T (word_small g hum) ?_
        simp only [dRet, dCB, dCons, dNil, dLc, dLc2, dIS, dIL, dIT, dIR1, dIR2, dIEL, dIET, dIES, dVar, dC, dOp, dUn, dTest, kTest, dChain, kChain, dAnd, dOr, dNot, dTru, dSeq, dNext, dIfS, dFor, dAsg, dName, dGTup, dGCons, dGNil, dLst, dTup, dSl, dON, dOS, dOrV, dAndV, dNotV, dIf, dPar, dAug, dGSub, dRetN, dBreak, dCont, dDrop, dYes, dNever, startD, ksOf, wipeR, List.map_cons, List.map_nil, List.cons_append, List.nil_append, List.getElem?_cons_zero, List.getElem?_cons_succ, List.length_cons, List.length_nil, Nat.reduceAdd, Nat.reduceSub, List.reduceReplicate, List.set_cons_zero, List.set_cons_succ, nB, newL, decide_true, true_and, and_true, eq_self, reduceIte, List.length_map, Bool.not_true, Bool.not_false, δEq, dec_T, cutL_to']
        by_cases h2 : u.take w.length = w
        · rw [decide_eq_true h2]
          simp only [dRet, dCB, dCons, dNil, dLc, dLc2, dIS, dIL, dIT, dIR1, dIR2, dIEL, dIET, dIES, dVar, dC, dOp, dUn, dTest, kTest, dChain, kChain, dAnd, dOr, dNot, dTru, dSeq, dNext, dIfS, dFor, dAsg, dName, dGTup, dGCons, dGNil, dLst, dTup, dSl, dON, dOS, dOrV, dAndV, dNotV, dIf, dPar, dAug, dGSub, dRetN, dBreak, dCont, dDrop, dYes, dNever, startD, ksOf, wipeR, List.map_cons, List.map_nil, List.cons_append, List.nil_append, List.getElem?_cons_zero, List.getElem?_cons_succ, List.length_cons, List.length_nil, Nat.reduceAdd, Nat.reduceSub, List.reduceReplicate, List.set_cons_zero, List.set_cons_succ, nB, newL, decide_true, true_and, and_true, eq_self, reduceIte, List.length_map, Bool.not_true, Bool.not_false, dBM]
          refine ⟨tyD_lst st2.aw, len_T (word_small g hwm) ?_⟩
          try simp only [dRet, dCB, dCons, dNil, dLc, dLc2, dIS, dIL, dIT, dIR1, dIR2, dIEL, dIET, dIES, dVar, dC, dOp, dUn, dTest, kTest, dChain, kChain, dAnd, dOr, dNot, dTru, dSeq, dNext, dIfS, dFor, dAsg, dName, dGTup, dGCons, dGNil, dLst, dTup, dSl, dON, dOS, dOrV, dAndV, dNotV, dIf, dPar, dAug, dGSub, dRetN, dBreak, dCont, dDrop, dYes, dNever, startD, ksOf, wipeR, List.map_cons, List.map_nil, List.cons_append, List.nil_append, List.getElem?_cons_zero, List.getElem?_cons_succ, List.length_cons, List.length_nil, Nat.reduceAdd, Nat.reduceSub, List.reduceReplicate, List.set_cons_zero, List.set_cons_succ, nB, newL, decide_true, true_and, and_true, eq_self, reduceIte, List.length_map, Bool.not_true, Bool.not_false]
          refine sl_T (word_small g hum) ?_
          simp only [dRet, dCB, dCons, dNil, dLc, dLc2, dIS, dIL, dIT, dIR1, dIR2, dIEL, dIET, dIES, dVar, dC, dOp, dUn, dTest, kTest, dChain, kChain, dAnd, dOr, dNot, dTru, dSeq, dNext, dIfS, dFor, dAsg, dName, dGTup, dGCons, dGNil, dLst, dTup, dSl, dON, dOS, dOrV, dAndV, dNotV, dIf, dPar, dAug, dGSub, dRetN, dBreak, dCont, dDrop, dYes, dNever, startD, ksOf, wipeR, List.map_cons, List.map_nil, List.cons_append, List.nil_append, List.getElem?_cons_zero, List.getElem?_cons_succ, List.length_cons, List.length_nil, Nat.reduceAdd, Nat.reduceSub, List.reduceReplicate, List.set_cons_zero, List.set_cons_succ, nB, newL, decide_true, true_and, and_true, eq_self, reduceIte, List.length_map, Bool.not_true, Bool.not_false, cutL_from']
          refine st2.appw (by omega) fun M3 st3 => hN2 _ _ ⟨_, st3, by rw [List.length_append]; simp only [List.length_cons, List.length_nil]; omega, fun x => ?_, _, _, _, rfl⟩
          rw [List.mem_append, hwt2, List.mem_singleton, or_assoc]
          refine or_congr Iff.rfl ⟨fun hx => ?_, fun ⟨b, hb, h⟩ => ?_⟩
          · rcases hx with ⟨b, hb, h⟩ | rfl
            · exact ⟨b, (take_next hu b).mpr (.inl hb), h⟩
            · exact ⟨u, (take_next hu u).mpr (.inr rfl), h1, h2, rfl⟩
          · rcases (take_next hu b).mp hb with hb | rfl
            · exact .inl ⟨b, hb, h⟩
            · exact .inr h.2.2
        · rw [decide_eq_false h2]
          exact hN2 _ _ ⟨wt2, st2, by omega, no (fun z => h2 z.2), _, _, _, rfl⟩
    · rintro ρ M' ⟨wt2, st2, hl2, hwt2, b, c, e, rfl⟩
      rw [wsD_len] at hl2 hwt2
      refine ⟨hP2 _ (hvx st2), hN _ _ ⟨wt2, st2, by omega, fun x => ?_, _, _, _, _, rfl⟩⟩
      rw [List.take_length] at hwt2
      rw [hwt2, hwt]
      constructor
      · rintro (⟨a, ha, h⟩ | h)
        · exact ⟨a, (take_next hw a).mpr (.inl ha), h⟩
        · exact ⟨w, (take_next hw w).mpr (.inr rfl), h⟩
      · rintro ⟨a, ha, h⟩
        rcases (take_next hw a).mp ha with ha | rfl
        · exact .inl ⟨a, ha, h⟩
        · exact .inr h
  rintro ρ M' ⟨wt, st, hl, hwt, a, b, c, e, rfl⟩
  rw [wsD_len] at hl hwt
  rw [List.take_length] at hwt
  refine ⟨hP _ (hvx st), ?_⟩
  refine ⟨fun m ρ M' => ∃ f wt, ∃ fl : Bool, m = (72 - f.length) * 10 + wt.length ∧ m ≤ 800 ∧ CInv (St0 ws) (St2 ws) f wt ∧ RSt M f wt qf qw M' ∧ (fl = true ↔ ∃ r ∈ f, r ∈ ws) ∧ ∃ a b c e, ρ = [some d, some (.ptr qw), some (.ptr qf), some (.bl fl), a, b, c, e],
    ⟨_, [], wt, false, rfl, by simp only [List.length_nil]; omega, CInv.start (fun q => by rw [hwt, st0_law g]), st, by simp, _, _, _, _, rfl⟩, ?_⟩
  rintro m ρ M' ⟨f, wt, fl, rfl, hm8, inv, st, hfl, a, b, c, e, rfl⟩
  have hcl : ∀ q, Cl (St0 ws) (St2 ws) q → Rst ws q := fun q h => ((cl2_iff g q).mp h).1
  try simp only [dRet, dCB, dCons, dNil, dLc, dLc2, dIS, dIL, dIT, dIR1, dIR2, dIEL, dIET, dIES, dVar, dC, dOp, dUn, dTest, kTest, dChain, kChain, dAnd, dOr, dNot, dTru, dSeq, dNext, dIfS, dFor, dAsg, dName, dGTup, dGCons, dGNil, dLst, dTup, dSl, dON, dOS, dOrV, dAndV, dNotV, dIf, dPar, dAug, dGSub, dRetN, dBreak, dCont, dDrop, dYes, dNever, startD, ksOf, wipeR, List.map_cons, List.map_nil, List.cons_append, List.nil_append, List.getElem?_cons_zero, List.getElem?_cons_succ, List.length_cons, List.length_nil, Nat.reduceAdd, Nat.reduceSub, List.reduceReplicate, List.set_cons_zero, List.set_cons_succ, nB, newL, decide_true, true_and, and_true, eq_self, reduceIte, List.length_map, Bool.not_true, Bool.not_false]
  refine ⟨by unfold sizeLine; omega, eq_nil (ds := wsD wt) (viewL_ptr.mpr st.aw) (fun d hd => ?_) ?_⟩
  · obtain ⟨w, hw, rfl⟩ := List.mem_map.mp hd
    exact lay_txt (rst_row g (hcl w (inv.sw w hw)))
  have hf72 : f.length ≤ 72 := rst_few g inv.nd fun q hq => hcl q (inv.sf q hq)
  rcases List.eq_nil_or_concat wt with rfl | ⟨wt', q, rfl⟩
  · simp only [dRet, dCB, dCons, dNil, dLc, dLc2, dIS, dIL, dIT, dIR1, dIR2, dIEL, dIET, dIES, dVar, dC, dOp, dUn, dTest, kTest, dChain, kChain, dAnd, dOr, dNot, dTru, dSeq, dNext, dIfS, dFor, dAsg, dName, dGTup, dGCons, dGNil, dLst, dTup, dSl, dON, dOS, dOrV, dAndV, dNotV, dIf, dPar, dAug, dGSub, dRetN, dBreak, dCont, dDrop, dYes, dNever, startD, ksOf, wipeR, List.map_cons, List.map_nil, List.cons_append, List.nil_append, List.getElem?_cons_zero, List.getElem?_cons_succ, List.length_cons, List.length_nil, Nat.reduceAdd, Nat.reduceSub, List.reduceReplicate, List.set_cons_zero, List.set_cons_succ, nB, newL, decide_true, true_and, and_true, eq_self, reduceIte, List.length_map, Bool.not_true, Bool.not_false, wsD, List.isEmpty_nil]
    refine ⟨by unfold sizeLine; omega, .tup [.lst (wsD f), .bl fl], M, st.ext, .dt (.cons (.lst st.af st.nf (Frzs.refl _)) (.cons (.refl _) .nil)), ?_⟩
    have e1 : fl = decide (¬ OneWay ws) := by
      rw [Bool.eq_iff_iff, decide_eq_true_eq, hfl]
      unfold OneWay
      rw [Classical.not_not, rst_nil g]
      exact ⟨fun ⟨r, hr, hw⟩ => by
        obtain ⟨h1, h2⟩ := (cl2_iff g r).mp (inv.sf r hr)
        exact ⟨r, h1, h2, hw⟩, fun ⟨r, h1, h2, h3⟩ => ⟨r, (inv.done r).mpr ((cl2_iff g r).mpr ⟨h1, h2⟩), h3⟩⟩
    rw [e1]
    exact h f inv.nd fun q => by rw [inv.done q, cl2_iff g]
  · have e1 : (wsD (wt' ++ [q])).isEmpty = false := by rw [wsD_snoc]; simp
    rw [List.concat_eq_append] at inv st hm8 ⊢
    simp only [List.length_append, List.length_cons, List.length_nil] at hm8
    simp only [dRet, dCB, dCons, dNil, dLc, dLc2, dIS, dIL, dIT, dIR1, dIR2, dIEL, dIET, dIES, dVar, dC, dOp, dUn, dTest, kTest, dChain, kChain, dAnd, dOr, dNot, dTru, dSeq, dNext, dIfS, dFor, dAsg, dName, dGTup, dGCons, dGNil, dLst, dTup, dSl, dON, dOS, dOrV, dAndV, dNotV, dIf, dPar, dAug, dGSub, dRetN, dBreak, dCont, dDrop, dYes, dNever, startD, ksOf, wipeR, List.map_cons, List.map_nil, List.cons_append, List.nil_append, List.getElem?_cons_zero, List.getElem?_cons_succ, List.length_cons, List.length_nil, Nat.reduceAdd, Nat.reduceSub, List.reduceReplicate, List.set_cons_zero, List.set_cons_succ, nB, newL, decide_true, true_and, and_true, eq_self, reduceIte, List.length_map, Bool.not_true, Bool.not_false, e1, dBM]
    refine ⟨tyD_lst st.aw, pop_ok st.aw ?_⟩
    try simp only [dRet, dCB, dCons, dNil, dLc, dLc2, dIS, dIL, dIT, dIR1, dIR2, dIEL, dIET, dIES, dVar, dC, dOp, dUn, dTest, kTest, dChain, kChain, dAnd, dOr, dNot, dTru, dSeq, dNext, dIfS, dFor, dAsg, dName, dGTup, dGCons, dGNil, dLst, dTup, dSl, dON, dOS, dOrV, dAndV, dNotV, dIf, dPar, dAug, dGSub, dRetN, dBreak, dCont, dDrop, dYes, dNever, startD, ksOf, wipeR, List.map_cons, List.map_nil, List.cons_append, List.nil_append, List.getElem?_cons_zero, List.getElem?_cons_succ, List.length_cons, List.length_nil, Nat.reduceAdd, Nat.reduceSub, List.reduceReplicate, List.set_cons_zero, List.set_cons_succ, nB, newL, decide_true, true_and, and_true, eq_self, reduceIte, List.length_map, Bool.not_true, Bool.not_false]
    have st1 := st.putw (wt2 := wt')
    generalize updM M' qw (.lst (wsD wt')) = M1 at st1 ⊢
    refine in_view (ds := wsD f) (viewL_ptr.mpr st1.af) rfl (good_flat f) ?_
    rw [any_in]
    have cq := inv.sw q (by simp)
    obtain ⟨crq, hq0⟩ := (cl2_iff g q).mp cq
    have hql := rst_len g crq
    have hqb : q.length ≤ sizeLine := by unfold sizeLine; omega
    by_cases hqf : q ∈ f
    · rw [decide_eq_true hqf]
      try simp only [dRet, dCB, dCons, dNil, dLc, dLc2, dIS, dIL, dIT, dIR1, dIR2, dIEL, dIET, dIES, dVar, dC, dOp, dUn, dTest, kTest, dChain, kChain, dAnd, dOr, dNot, dTru, dSeq, dNext, dIfS, dFor, dAsg, dName, dGTup, dGCons, dGNil, dLst, dTup, dSl, dON, dOS, dOrV, dAndV, dNotV, dIf, dPar, dAug, dGSub, dRetN, dBreak, dCont, dDrop, dYes, dNever, startD, ksOf, wipeR, List.map_cons, List.map_nil, List.cons_append, List.nil_append, List.getElem?_cons_zero, List.getElem?_cons_succ, List.length_cons, List.length_nil, Nat.reduceAdd, Nat.reduceSub, List.reduceReplicate, List.set_cons_zero, List.set_cons_succ, nB, newL, decide_true, true_and, and_true, eq_self, reduceIte, List.length_map, Bool.not_true, Bool.not_false]
      exact ⟨_, by rw [List.length_append]; simp only [List.length_cons, List.length_nil]; omega, f, wt', fl, rfl, by omega, inv.skip hqf, st1, hfl, _, _, _, _, rfl⟩
    · rw [decide_eq_false hqf]
      simp only [dRet, dCB, dCons, dNil, dLc, dLc2, dIS, dIL, dIT, dIR1, dIR2, dIEL, dIET, dIES, dVar, dC, dOp, dUn, dTest, kTest, dChain, kChain, dAnd, dOr, dNot, dTru, dSeq, dNext, dIfS, dFor, dAsg, dName, dGTup, dGCons, dGNil, dLst, dTup, dSl, dON, dOS, dOrV, dAndV, dNotV, dIf, dPar, dAug, dGSub, dRetN, dBreak, dCont, dDrop, dYes, dNever, startD, ksOf, wipeR, List.map_cons, List.map_nil, List.cons_append, List.nil_append, List.getElem?_cons_zero, List.getElem?_cons_succ, List.length_cons, List.length_nil, Nat.reduceAdd, Nat.reduceSub, List.reduceReplicate, List.set_cons_zero, List.set_cons_succ, nB, newL, decide_true, true_and, and_true, eq_self, reduceIte, List.length_map, Bool.not_true, Bool.not_false, dBM]
      refine ⟨tyD_lst st1.af, app_ptr st1.af (by rw [wsD_len]; unfold sizeLine; omega) ?_⟩
      have e2 : wsD f ++ [tD q] = wsD (f ++ [q]) := (wsD_snoc f q).symm
      rw [e2]
      have st2 := st1.putf (f2 := f ++ [q])
      generalize updM M1 qf (.lst (wsD (f ++ [q]))) = M2 at st2 ⊢
      have hf71 : f.length < 72 := by
        have := rst_few g (List.nodup_append.mpr ⟨inv.nd, (by simp : [q].Nodup), fun x hx y hy e => by rw [List.mem_singleton] at hy; exact hqf (hy ▸ e ▸ hx)⟩) (fun x hx => by
          rcases List.mem_append.mp hx with hx | hx
          · exact hcl x (inv.sf x hx)
          · rw [List.mem_singleton] at hx; rw [hx]; exact crq)
        simp only [List.length_append, List.length_cons, List.length_nil] at this
        omega
      try simp only [dRet, dCB, dCons, dNil, dLc, dLc2, dIS, dIL, dIT, dIR1, dIR2, dIEL, dIET, dIES, dVar, dC, dOp, dUn, dTest, kTest, dChain, kChain, dAnd, dOr, dNot, dTru, dSeq, dNext, dIfS, dFor, dAsg, dName, dGTup, dGCons, dGNil, dLst, dTup, dSl, dON, dOS, dOrV, dAndV, dNotV, dIf, dPar, dAug, dGSub, dRetN, dBreak, dCont, dDrop, dYes, dNever, startD, ksOf, wipeR, List.map_cons, List.map_nil, List.cons_append, List.nil_append, List.getElem?_cons_zero, List.getElem?_cons_succ, List.length_cons, List.length_nil, Nat.reduceAdd, Nat.reduceSub, List.reduceReplicate, List.set_cons_zero, List.set_cons_succ, nB, newL, decide_true, true_and, and_true, eq_self, reduceIte, List.length_map, Bool.not_true, Bool.not_false]
      refine iterL_v (hvx st2) fun P2 hP2 => for_inv (fun j ρ M' => ∃ ns, ∃ fl2 : Bool, RSt M (f ++ [q]) (wt' ++ ns) qf qw M' ∧ ns.length ≤ j ∧ (∀ x, x ∈ ns ↔ ∃ w ∈ ws.take j, w ≠ q ∧ ((q.take w.length = w ∧ x = q.drop w.length) ∨ (¬ q.take w.length = w ∧ w.take q.length = q ∧ x = w.drop q.length))) ∧ (fl2 = true ↔ fl = true ∨ q ∈ ws.take j) ∧ ∃ a b e, ρ = [some d, some (.ptr qw), some (.ptr qf), some (.bl fl2), a, b, some (tD q), e])
        ⟨[], fl, by rw [List.append_nil]; exact st2, by simp, by simp, by simp, _, _, _, rfl⟩ ?_ ?_
      · rintro j x ρ M3 Nx hx ⟨ns, fl2, st3, hnl, hns, hf2, a, b, e, rfl⟩ hN
        refine ⟨hP2 _ (hvx st3), ?_⟩
        obtain ⟨w, hw, rfl⟩ := wsD_get hx
        have hwm := List.mem_of_getElem? hw
        have hj := (List.getElem?_eq_some_iff.mp hw).1
        have no : ¬ (w ≠ q ∧ (q.take w.length = w ∨ w.take q.length = q)) → ∀ x, x ∈ ns ↔ ∃ w ∈ ws.take (j + 1), w ≠ q ∧ ((q.take w.length = w ∧ x = q.drop w.length) ∨ (¬ q.take w.length = w ∧ w.take q.length = q ∧ x = w.drop q.length)) := fun hn x => by
          rw [hns]
          refine ⟨fun ⟨b, hb, h⟩ => ⟨b, (take_next hw b).mpr (.inl hb), h⟩, fun ⟨b, hb, h⟩ => ?_⟩
          rcases (take_next hw b).mp hb with hb | rfl
          · exact ⟨b, hb, h⟩
          · exact absurd ⟨h.1, h.2.imp (fun z => z.1) fun z => z.2.1⟩ hn
        have fl0 : w ≠ q → (fl2 = true ↔ fl = true ∨ q ∈ ws.take (j + 1)) := fun hwq => by
          rw [hf2, take_next hw]
          refine or_congr Iff.rfl ⟨.inl, fun z => z.elim id fun z => absurd z.symm hwq⟩
        have yes : ∀ y : Wd1, w ≠ q → ((q.take w.length = w ∧ y = q.drop w.length) ∨ (¬ q.take w.length = w ∧ w.take q.length = q ∧ y = w.drop q.length)) → ∀ x, x ∈ ns ++ [y] ↔ ∃ w ∈ ws.take (j + 1), w ≠ q ∧ ((q.take w.length = w ∧ x = q.drop w.length) ∨ (¬ q.take w.length = w ∧ w.take q.length = q ∧ x = w.drop q.length)) := fun y hwq hy x => by
          rw [List.mem_append, hns, List.mem_singleton]
          constructor
          · rintro (⟨b, hb, h⟩ | rfl)
            · exact ⟨b, (take_next hw b).mpr (.inl hb), h⟩
            · exact ⟨w, (take_next hw w).mpr (.inr rfl), hwq, hy⟩
          · rintro ⟨b, hb, h⟩
            rcases (take_next hw b).mp hb with hb | rfl
            · exact .inl ⟨b, hb, h⟩
            · refine .inr ?_
              rcases h.2 with ⟨h1, h2⟩ | ⟨h1, h2, h3⟩ <;> rcases hy with ⟨k1, k2⟩ | ⟨k1, k2, k3⟩
              · rw [h2, k2]
              · exact absurd h1 k1
              · exact absurd k1 h1
              · rw [h3, k3]
        simp only [dRet, dCB, dCons, dNil, dLc, dLc2, dIS, dIL, dIT, dIR1, dIR2, dIEL, dIET, dIES, dVar, dC, dOp, dUn, dTest, kTest, dChain, kChain, dAnd, dOr, dNot, dTru, dSeq, dNext, dIfS, dFor, dAsg, dName, dGTup, dGCons, dGNil, dLst, dTup, dSl, dON, dOS, dOrV, dAndV, dNotV, dIf, dPar, dAug, dGSub, dRetN, dBreak, dCont, dDrop, dYes, dNever, startD, ksOf, wipeR, List.map_cons, List.map_nil, List.cons_append, List.nil_append, List.getElem?_cons_zero, List.getElem?_cons_succ, List.length_cons, List.length_nil, Nat.reduceAdd, Nat.reduceSub, List.reduceReplicate, List.set_cons_zero, List.set_cons_succ, nB, newL, decide_true, true_and, and_true, eq_self, reduceIte, List.length_map, Bool.not_true, Bool.not_false, tD, δEq, dec_T]
        by_cases h1 : w = q
        · rw [decide_eq_true h1]
          try simp only [dRet, dCB, dCons, dNil, dLc, dLc2, dIS, dIL, dIT, dIR1, dIR2, dIEL, dIET, dIES, dVar, dC, dOp, dUn, dTest, kTest, dChain, kChain, dAnd, dOr, dNot, dTru, dSeq, dNext, dIfS, dFor, dAsg, dName, dGTup, dGCons, dGNil, dLst, dTup, dSl, dON, dOS, dOrV, dAndV, dNotV, dIf, dPar, dAug, dGSub, dRetN, dBreak, dCont, dDrop, dYes, dNever, startD, ksOf, wipeR, List.map_cons, List.map_nil, List.cons_append, List.nil_append, List.getElem?_cons_zero, List.getElem?_cons_succ, List.length_cons, List.length_nil, Nat.reduceAdd, Nat.reduceSub, List.reduceReplicate, List.set_cons_zero, List.set_cons_succ, nB, newL, decide_true, true_and, and_true, eq_self, reduceIte, List.length_map, Bool.not_true, Bool.not_false]
          exact hN _ _ ⟨ns, true, st3, by omega, no (fun z => z.1 h1), by rw [take_next hw]; simp [h1], _, _, _, rfl⟩
        · rw [decide_eq_false h1]
          try simp only [dRet, dCB, dCons, dNil, dLc, dLc2, dIS, dIL, dIT, dIR1, dIR2, dIEL, dIET, dIES, dVar, dC, dOp, dUn, dTest, kTest, dChain, kChain, dAnd, dOr, dNot, dTru, dSeq, dNext, dIfS, dFor, dAsg, dName, dGTup, dGCons, dGNil, dLst, dTup, dSl, dON, dOS, dOrV, dAndV, dNotV, dIf, dPar, dAug, dGSub, dRetN, dBreak, dCont, dDrop, dYes, dNever, startD, ksOf, wipeR, List.map_cons, List.map_nil, List.cons_append, List.nil_append, List.getElem?_cons_zero, List.getElem?_cons_succ, List.length_cons, List.length_nil, Nat.reduceAdd, Nat.reduceSub, List.reduceReplicate, List.set_cons_zero, List.set_cons_succ, nB, newL, decide_true, true_and, and_true, eq_self, reduceIte, List.length_map, Bool.not_true, Bool.not_false]
          refine len_T (word_small g hwm) ?_
          try simp only [dRet, dCB, dCons, dNil, dLc, dLc2, dIS, dIL, dIT, dIR1, dIR2, dIEL, dIET, dIES, dVar, dC, dOp, dUn, dTest, kTest, dChain, kChain, dAnd, dOr, dNot, dTru, dSeq, dNext, dIfS, dFor, dAsg, dName, dGTup, dGCons, dGNil, dLst, dTup, dSl, dON, dOS, dOrV, dAndV, dNotV, dIf, dPar, dAug, dGSub, dRetN, dBreak, dCont, dDrop, dYes, dNever, startD, ksOf, wipeR, List.map_cons, List.map_nil, List.cons_append, List.nil_append, List.getElem?_cons_zero, List.getElem?_cons_succ, List.length_cons, List.length_nil, Nat.reduceAdd, Nat.reduceSub, List.reduceReplicate, List.set_cons_zero, List.set_cons_succ, nB, newL, decide_true, true_and, and_true, eq_self, reduceIte, List.length_map, Bool.not_true, Bool.not_false]
          refine sl_T hqb ?_
          simp only [dRet, dCB, dCons, dNil, dLc, dLc2, dIS, dIL, dIT, dIR1, dIR2, dIEL, dIET, dIES, dVar, dC, dOp, dUn, dTest, kTest, dChain, kChain, dAnd, dOr, dNot, dTru, dSeq, dNext, dIfS, dFor, dAsg, dName, dGTup, dGCons, dGNil, dLst, dTup, dSl, dON, dOS, dOrV, dAndV, dNotV, dIf, dPar, dAug, dGSub, dRetN, dBreak, dCont, dDrop, dYes, dNever, startD, ksOf, wipeR, List.map_cons, List.map_nil, List.cons_append, List.nil_append, List.getElem?_cons_zero, List.getElem?_cons_succ, List.length_cons, List.length_nil, Nat.reduceAdd, Nat.reduceSub, List.reduceReplicate, List.set_cons_zero, List.set_cons_succ, nB, newL, decide_true, true_and, and_true, eq_self, reduceIte, List.length_map, Bool.not_true, Bool.not_false, δEq, dec_T, cutL_to']
          by_cases h2 : q.take w.length = w
          · rw [decide_eq_true h2]
            simp only [dRet, dCB, dCons, dNil, dLc, dLc2, dIS, dIL, dIT, dIR1, dIR2, dIEL, dIET, dIES, dVar, dC, dOp, dUn, dTest, kTest, dChain, kChain, dAnd, dOr, dNot, dTru, dSeq, dNext, dIfS, dFor, dAsg, dName, dGTup, dGCons, dGNil, dLst, dTup, dSl, dON, dOS, dOrV, dAndV, dNotV, dIf, dPar, dAug, dGSub, dRetN, dBreak, dCont, dDrop, dYes, dNever, startD, ksOf, wipeR, List.map_cons, List.map_nil, List.cons_append, List.nil_append, List.getElem?_cons_zero, List.getElem?_cons_succ, List.length_cons, List.length_nil, Nat.reduceAdd, Nat.reduceSub, List.reduceReplicate, List.set_cons_zero, List.set_cons_succ, nB, newL, decide_true, true_and, and_true, eq_self, reduceIte, List.length_map, Bool.not_true, Bool.not_false, dBM]
            refine ⟨tyD_lst st3.aw, len_T (word_small g hwm) ?_⟩
            try simp only [dRet, dCB, dCons, dNil, dLc, dLc2, dIS, dIL, dIT, dIR1, dIR2, dIEL, dIET, dIES, dVar, dC, dOp, dUn, dTest, kTest, dChain, kChain, dAnd, dOr, dNot, dTru, dSeq, dNext, dIfS, dFor, dAsg, dName, dGTup, dGCons, dGNil, dLst, dTup, dSl, dON, dOS, dOrV, dAndV, dNotV, dIf, dPar, dAug, dGSub, dRetN, dBreak, dCont, dDrop, dYes, dNever, startD, ksOf, wipeR, List.map_cons, List.map_nil, List.cons_append, List.nil_append, List.getElem?_cons_zero, List.getElem?_cons_succ, List.length_cons, List.length_nil, Nat.reduceAdd, Nat.reduceSub, List.reduceReplicate, List.set_cons_zero, List.set_cons_succ, nB, newL, decide_true, true_and, and_true, eq_self, reduceIte, List.length_map, Bool.not_true, Bool.not_false]
            refine sl_T hqb ?_
            simp only [dRet, dCB, dCons, dNil, dLc, dLc2, dIS, dIL, dIT, dIR1, dIR2, dIEL, dIET, dIES, dVar, dC, dOp, dUn, dTest, kTest, dChain, kChain, dAnd, dOr, dNot, dTru, dSeq, dNext, dIfS, dFor, dAsg, dName, dGTup, dGCons, dGNil, dLst, dTup, dSl, dON, dOS, dOrV, dAndV, dNotV, dIf, dPar, dAug, dGSub, dRetN, dBreak, dCont, dDrop, dYes, dNever, startD, ksOf, wipeR, List.map_cons, List.map_nil, List.cons_append, List.nil_append, List.getElem?_cons_zero, List.getElem?_cons_succ, List.length_cons, List.length_nil, Nat.reduceAdd, Nat.reduceSub, List.reduceReplicate, List.set_cons_zero, List.set_cons_succ, nB, newL, decide_true, true_and, and_true, eq_self, reduceIte, List.length_map, Bool.not_true, Bool.not_false, cutL_from']
            refine st3.appw (by rw [List.length_append]; omega) fun M4 st4 => ?_
            rw [List.append_assoc] at st4
            exact hN _ _ ⟨_, fl2, st4, by rw [List.length_append]; simp only [List.length_cons, List.length_nil]; omega, yes _ h1 (.inl ⟨h2, rfl⟩), fl0 h1, _, _, _, rfl⟩
          · rw [decide_eq_false h2]
            try simp only [dRet, dCB, dCons, dNil, dLc, dLc2, dIS, dIL, dIT, dIR1, dIR2, dIEL, dIET, dIES, dVar, dC, dOp, dUn, dTest, kTest, dChain, kChain, dAnd, dOr, dNot, dTru, dSeq, dNext, dIfS, dFor, dAsg, dName, dGTup, dGCons, dGNil, dLst, dTup, dSl, dON, dOS, dOrV, dAndV, dNotV, dIf, dPar, dAug, dGSub, dRetN, dBreak, dCont, dDrop, dYes, dNever, startD, ksOf, wipeR, List.map_cons, List.map_nil, List.cons_append, List.nil_append, List.getElem?_cons_zero, List.getElem?_cons_succ, List.length_cons, List.length_nil, Nat.reduceAdd, Nat.reduceSub, List.reduceReplicate, List.set_cons_zero, List.set_cons_succ, nB, newL, decide_true, true_and, and_true, eq_self, reduceIte, List.length_map, Bool.not_true, Bool.not_false]
            refine len_T hqb ?_
            try simp only [dRet, dCB, dCons, dNil, dLc, dLc2, dIS, dIL, dIT, dIR1, dIR2, dIEL, dIET, dIES, dVar, dC, dOp, dUn, dTest, kTest, dChain, kChain, dAnd, dOr, dNot, dTru, dSeq, dNext, dIfS, dFor, dAsg, dName, dGTup, dGCons, dGNil, dLst, dTup, dSl, dON, dOS, dOrV, dAndV, dNotV, dIf, dPar, dAug, dGSub, dRetN, dBreak, dCont, dDrop, dYes, dNever, startD, ksOf, wipeR, List.map_cons, List.map_nil, List.cons_append, List.nil_append, List.getElem?_cons_zero, List.getElem?_cons_succ, List.length_cons, List.length_nil, Nat.reduceAdd, Nat.reduceSub, List.reduceReplicate, List.set_cons_zero, List.set_cons_succ, nB, newL, decide_true, true_and, and_true, eq_self, reduceIte, List.length_map, Bool.not_true, Bool.not_false]
            refine sl_T (word_small g hwm) ?_
            simp only [dRet, dCB, dCons, dNil, dLc, dLc2, dIS, dIL, dIT, dIR1, dIR2, dIEL, dIET, dIES, dVar, dC, dOp, dUn, dTest, kTest, dChain, kChain, dAnd, dOr, dNot, dTru, dSeq, dNext, dIfS, dFor, dAsg, dName, dGTup, dGCons, dGNil, dLst, dTup, dSl, dON, dOS, dOrV, dAndV, dNotV, dIf, dPar, dAug, dGSub, dRetN, dBreak, dCont, dDrop, dYes, dNever, startD, ksOf, wipeR, List.map_cons, List.map_nil, List.cons_append, List.nil_append, List.getElem?_cons_zero, List.getElem?_cons_succ, List.length_cons, List.length_nil, Nat.reduceAdd, Nat.reduceSub, List.reduceReplicate, List.set_cons_zero, List.set_cons_succ, nB, newL, decide_true, true_and, and_true, eq_self, reduceIte, List.length_map, Bool.not_true, Bool.not_false, δEq, dec_T, cutL_to']
            by_cases h3 : w.take q.length = q
            · rw [decide_eq_true h3]
              simp only [dRet, dCB, dCons, dNil, dLc, dLc2, dIS, dIL, dIT, dIR1, dIR2, dIEL, dIET, dIES, dVar, dC, dOp, dUn, dTest, kTest, dChain, kChain, dAnd, dOr, dNot, dTru, dSeq, dNext, dIfS, dFor, dAsg, dName, dGTup, dGCons, dGNil, dLst, dTup, dSl, dON, dOS, dOrV, dAndV, dNotV, dIf, dPar, dAug, dGSub, dRetN, dBreak, dCont, dDrop, dYes, dNever, startD, ksOf, wipeR, List.map_cons, List.map_nil, List.cons_append, List.nil_append, List.getElem?_cons_zero, List.getElem?_cons_succ, List.length_cons, List.length_nil, Nat.reduceAdd, Nat.reduceSub, List.reduceReplicate, List.set_cons_zero, List.set_cons_succ, nB, newL, decide_true, true_and, and_true, eq_self, reduceIte, List.length_map, Bool.not_true, Bool.not_false, dBM]
              refine ⟨tyD_lst st3.aw, len_T hqb ?_⟩
              try simp only [dRet, dCB, dCons, dNil, dLc, dLc2, dIS, dIL, dIT, dIR1, dIR2, dIEL, dIET, dIES, dVar, dC, dOp, dUn, dTest, kTest, dChain, kChain, dAnd, dOr, dNot, dTru, dSeq, dNext, dIfS, dFor, dAsg, dName, dGTup, dGCons, dGNil, dLst, dTup, dSl, dON, dOS, dOrV, dAndV, dNotV, dIf, dPar, dAug, dGSub, dRetN, dBreak, dCont, dDrop, dYes, dNever, startD, ksOf, wipeR, List.map_cons, List.map_nil, List.cons_append, List.nil_append, List.getElem?_cons_zero, List.getElem?_cons_succ, List.length_cons, List.length_nil, Nat.reduceAdd, Nat.reduceSub, List.reduceReplicate, List.set_cons_zero, List.set_cons_succ, nB, newL, decide_true, true_and, and_true, eq_self, reduceIte, List.length_map, Bool.not_true, Bool.not_false]
              refine sl_T (word_small g hwm) ?_
              simp only [dRet, dCB, dCons, dNil, dLc, dLc2, dIS, dIL, dIT, dIR1, dIR2, dIEL, dIET, dIES, dVar, dC, dOp, dUn, dTest, kTest, dChain, kChain, dAnd, dOr, dNot, dTru, dSeq, dNext, dIfS, dFor, dAsg, dName, dGTup, dGCons, dGNil, dLst, dTup, dSl, dON, dOS, dOrV, dAndV, dNotV, dIf, dPar, dAug, dGSub, dRetN, dBreak, dCont, dDrop, dYes, dNever, startD, ksOf, wipeR, List.map_cons, List.map_nil, List.cons_append, List.nil_append, List.getElem?_cons_zero, List.getElem?_cons_succ, List.length_cons, List.length_nil, Nat.reduceAdd, Nat.reduceSub, List.reduceReplicate, List.set_cons_zero, List.set_cons_succ, nB, newL, decide_true, true_and, and_true, eq_self, reduceIte, List.length_map, Bool.not_true, Bool.not_false, cutL_from']
              refine st3.appw (by rw [List.length_append]; omega) fun M4 st4 => ?_
              rw [List.append_assoc] at st4
              exact hN _ _ ⟨_, fl2, st4, by rw [List.length_append]; simp only [List.length_cons, List.length_nil]; omega, yes _ h1 (.inr ⟨h2, h3, rfl⟩), fl0 h1, _, _, _, rfl⟩
            · rw [decide_eq_false h3]
              exact hN _ _ ⟨ns, fl2, st3, by omega, no (fun z => z.2.elim h2 h3), fl0 h1, _, _, _, rfl⟩
      · rintro ρ M3 ⟨ns, fl2, st3, hnl, hns, hf2, a, b, e, rfl⟩
        rw [wsD_len] at hnl hns hf2
        rw [List.take_length] at hns hf2
        refine ⟨hP2 _ (hvx st3), _, ?_, f ++ [q], wt' ++ ns, fl2, rfl, ?_, inv.add hqf (fun x => by rw [hns, st2_law hq0]), st3, ?_, _, _, _, _, rfl⟩
        · simp only [List.length_append, List.length_cons, List.length_nil]; omega
        · simp only [List.length_append, List.length_cons, List.length_nil]; omega
        · rw [hf2, hfl]
          constructor
          · rintro (⟨r, hr, hw⟩ | hw)
            · exact ⟨r, by simp [hr], hw⟩
            · exact ⟨q, by simp, hw⟩
          · rintro ⟨r, hr, hw⟩
            rcases List.mem_append.mp hr with hr | hr
            · exact .inl ⟨r, hr, hw⟩
            · rw [List.mem_singleton] at hr
              exact .inr (hr ▸ hw)
end Lw
end
noncomputable section
namespace Lw
open PySem PySem.Spec PyProof.Rows L2 Evl Dl Classical
variable (A : Ad)
theorem pow_small {k n : Nat} (hk : k ≤ 26) (hn : n ≤ 8) : k ^ n ≤ 2 ^ 38 := by
  refine Nat.le_trans (Nat.pow_le_pow_left hk n) (Nat.le_trans (Nat.pow_le_pow_right (by omega) hn) (by decide))
theorem dat_power_of : Dat 2 nm_power_of (fs_power_of A) (ph_power_of A) := by
  rintro ds M Kp KE - ⟨k, n, rfl, hk, hn, h⟩
  simp only [dRet, dCB, dCons, dNil, dLc, dLc2, dIS, dIL, dIT, dIR1, dIR2, dIEL, dIET, dIES, dVar, dC, dOp, dUn, dTest, kTest, dChain, kChain, dAnd, dOr, dNot, dTru, dSeq, dNext, dIfS, dFor, dAsg, dName, dGTup, dGCons, dGNil, dLst, dTup, dSl, dON, dOS, dOrV, dAndV, dNotV, dIf, dPar, dAug, dGSub, dRetN, dBreak, dCont, dDrop, dYes, dNever, startD, ksOf, wipeR, List.map_cons, List.map_nil, List.cons_append, List.nil_append, List.getElem?_cons_zero, List.getElem?_cons_succ, List.length_cons, List.length_nil, Nat.reduceAdd, Nat.reduceSub, List.reduceReplicate, List.set_cons_zero, List.set_cons_succ, nB, newL, decide_true, true_and, and_true, eq_self, reduceIte, List.length_map, Bool.not_true, Bool.not_false, ph_power_of]
  refine ⟨by omega, by omega, ?_⟩
  refine for_inv (fun i ρ M' => M' = M ∧ ∃ a, ρ = [some (.int k), some (.int n), some (.int ((k ^ i : Nat) : Int)), a]) ⟨rfl, _, rfl⟩ ?_ ?_
  · rintro i x ρ M' Nx hx ⟨rfl, a, rfl⟩ hN
    refine ⟨trivial, ?_⟩
    obtain ⟨hi, rfl⟩ := rangeD_inv hx
    have := pow_small hk (show i ≤ 8 by omega)
    simp only [dRet, dCB, dCons, dNil, dLc, dLc2, dIS, dIL, dIT, dIR1, dIR2, dIEL, dIET, dIES, dVar, dC, dOp, dUn, dTest, kTest, dChain, kChain, dAnd, dOr, dNot, dTru, dSeq, dNext, dIfS, dFor, dAsg, dName, dGTup, dGCons, dGNil, dLst, dTup, dSl, dON, dOS, dOrV, dAndV, dNotV, dIf, dPar, dAug, dGSub, dRetN, dBreak, dCont, dDrop, dYes, dNever, startD, ksOf, wipeR, List.map_cons, List.map_nil, List.cons_append, List.nil_append, List.getElem?_cons_zero, List.getElem?_cons_succ, List.length_cons, List.length_nil, Nat.reduceAdd, Nat.reduceSub, List.reduceReplicate, List.set_cons_zero, List.set_cons_succ, nB, newL, decide_true, true_and, and_true, eq_self, reduceIte, List.length_map, Bool.not_true, Bool.not_false, δI]
    refine ⟨.inl ⟨by omega, by omega⟩, hN _ _ ⟨rfl, some (.int (0 + (i : Int))), by rw [Nat.pow_succ, Int.natCast_mul]⟩⟩
  · rintro ρ M' ⟨rfl, a, rfl⟩
    rw [rangeD_length, Int.toNat_natCast]
    exact ⟨trivial, kSet_same h⟩
theorem dat__law_power : Dat 2 nm__law_power (fs__law_power A) (ph__law_power A) := by
  rintro ds M Kp KE - ⟨k, n, rfl, hk, hn, h⟩
  simp only [dRet, dCB, dCons, dNil, dLc, dLc2, dIS, dIL, dIT, dIR1, dIR2, dIEL, dIET, dIES, dVar, dC, dOp, dUn, dTest, kTest, dChain, kChain, dAnd, dOr, dNot, dTru, dSeq, dNext, dIfS, dFor, dAsg, dName, dGTup, dGCons, dGNil, dLst, dTup, dSl, dON, dOS, dOrV, dAndV, dNotV, dIf, dPar, dAug, dGSub, dRetN, dBreak, dCont, dDrop, dYes, dNever, startD, ksOf, wipeR, List.map_cons, List.map_nil, List.cons_append, List.nil_append, List.getElem?_cons_zero, List.getElem?_cons_succ, List.length_cons, List.length_nil, Nat.reduceAdd, Nat.reduceSub, List.reduceReplicate, List.set_cons_zero, List.set_cons_succ, nB, newL, decide_true, true_and, and_true, eq_self, reduceIte, List.length_map, Bool.not_true, Bool.not_false, ph__law_power]
  refine ⟨by omega, by omega, ?_⟩
  refine for_inv (fun i ρ M' => M' = M ∧ ∃ a, ρ = [some (.int k), some (.int n), some (.int ((k ^ i : Nat) : Int)), a]) ⟨rfl, _, rfl⟩ ?_ ?_
  · rintro i x ρ M' Nx hx ⟨rfl, a, rfl⟩ hN
    refine ⟨trivial, ?_⟩
    obtain ⟨hi, rfl⟩ := rangeD_inv hx
    have := pow_small hk (show i ≤ 8 by omega)
    simp only [dRet, dCB, dCons, dNil, dLc, dLc2, dIS, dIL, dIT, dIR1, dIR2, dIEL, dIET, dIES, dVar, dC, dOp, dUn, dTest, kTest, dChain, kChain, dAnd, dOr, dNot, dTru, dSeq, dNext, dIfS, dFor, dAsg, dName, dGTup, dGCons, dGNil, dLst, dTup, dSl, dON, dOS, dOrV, dAndV, dNotV, dIf, dPar, dAug, dGSub, dRetN, dBreak, dCont, dDrop, dYes, dNever, startD, ksOf, wipeR, List.map_cons, List.map_nil, List.cons_append, List.nil_append, List.getElem?_cons_zero, List.getElem?_cons_succ, List.length_cons, List.length_nil, Nat.reduceAdd, Nat.reduceSub, List.reduceReplicate, List.set_cons_zero, List.set_cons_succ, nB, newL, decide_true, true_and, and_true, eq_self, reduceIte, List.length_map, Bool.not_true, Bool.not_false, δMul, δI]
    refine ⟨mulW_small (a := 38) (b := 5) (by omega) (by omega) (by omega), hN _ _ ⟨rfl, some (.int (0 + (i : Int))), by rw [Nat.pow_succ, Int.natCast_mul]⟩⟩
  · rintro ρ M' ⟨rfl, a, rfl⟩
    rw [rangeD_length, Int.toNat_natCast]
    exact ⟨trivial, kSet_same h⟩
theorem divW_small {i : Int} {n : Nat} (h1 : 1 ≤ n) (h2 : n ≤ 2 ^ 60) : CDivW i (n : Int) := ⟨by omega, by
  have : (n : Int).natAbs.log2 ≤ 60 := by
    rw [Int.natAbs_natCast]
    exact Nat.le_of_lt_succ ((Nat.log2_lt (by omega)).mpr (by omega))
  omega⟩
theorem fmod_nat (a b : Nat) : Int.fmod (a : Int) (b : Int) = ((a % b : Nat) : Int) := by
  rw [Int.fmod_eq_emod_of_nonneg _ (by omega)]
  exact (Int.natCast_emod a b).symm
theorem ediv_nat (a b : Nat) : (a : Int) / (b : Int) = ((a / b : Nat) : Int) := (Int.natCast_ediv a b).symm
theorem gcd_small {t b : Nat} (ht : 1 ≤ t) (h : t ≤ 2 ^ 50) : 1 ≤ Nat.gcd t b ∧ Nat.gcd t b ≤ 2 ^ 60 :=
  ⟨Nat.gcd_pos_of_pos_left _ ht, Nat.le_trans (Nat.le_of_dvd ht (Nat.gcd_dvd_left t b)) (by omega)⟩
theorem dat_lowest : Dat 2 nm_lowest (fs_lowest A) (ph_lowest A) := by
  rintro ds M Kp KE - ⟨t, b, rfl, ht, hb, ht2, hb2, h⟩
  simp only [dRet, dCB, dCons, dNil, dLc, dLc2, dIS, dIL, dIT, dIR1, dIR2, dIEL, dIET, dIES, dVar, dC, dOp, dUn, dTest, kTest, dChain, kChain, dAnd, dOr, dNot, dTru, dSeq, dNext, dIfS, dFor, dAsg, dName, dGTup, dGCons, dGNil, dLst, dTup, dSl, dON, dOS, dOrV, dAndV, dNotV, dIf, dPar, dAug, dGSub, dRetN, dBreak, dCont, dDrop, dYes, dNever, startD, ksOf, wipeR, List.map_cons, List.map_nil, List.cons_append, List.nil_append, List.getElem?_cons_zero, List.getElem?_cons_succ, List.length_cons, List.length_nil, Nat.reduceAdd, Nat.reduceSub, List.reduceReplicate, List.set_cons_zero, List.set_cons_succ, nB, newL, decide_true, true_and, and_true, eq_self, reduceIte, List.length_map, Bool.not_true, Bool.not_false, ph_lowest]
  refine ⟨fun m ρ M' => M' = M ∧ ∃ l r : Nat, r = m ∧ Nat.gcd l r = Nat.gcd t b ∧ ρ = [some (.int t), some (.int b), some (.int l), some (.int r)], ⟨b, rfl, t, b, rfl, rfl, rfl⟩, ?_⟩
  rintro m ρ M' ⟨rfl, l, r, rfl, hg, rfl⟩
  simp only [dRet, dCB, dCons, dNil, dLc, dLc2, dIS, dIL, dIT, dIR1, dIR2, dIEL, dIET, dIES, dVar, dC, dOp, dUn, dTest, kTest, dChain, kChain, dAnd, dOr, dNot, dTru, dSeq, dNext, dIfS, dFor, dAsg, dName, dGTup, dGCons, dGNil, dLst, dTup, dSl, dON, dOS, dOrV, dAndV, dNotV, dIf, dPar, dAug, dGSub, dRetN, dBreak, dCont, dDrop, dYes, dNever, startD, ksOf, wipeR, List.map_cons, List.map_nil, List.cons_append, List.nil_append, List.getElem?_cons_zero, List.getElem?_cons_succ, List.length_cons, List.length_nil, Nat.reduceAdd, Nat.reduceSub, List.reduceReplicate, List.set_cons_zero, List.set_cons_succ, nB, newL, decide_true, true_and, and_true, eq_self, reduceIte, List.length_map, Bool.not_true, Bool.not_false, δEq]
  by_cases hr : r = 0
  · subst hr
    rw [decide_eq_true (show ((0 : Nat) : Int) = 0 from rfl)]
    rw [Nat.gcd_zero_right] at hg
    subst hg
    obtain ⟨g1, g2⟩ := gcd_small (b := b) ht ht2
    simp only [dRet, dCB, dCons, dNil, dLc, dLc2, dIS, dIL, dIT, dIR1, dIR2, dIEL, dIET, dIES, dVar, dC, dOp, dUn, dTest, kTest, dChain, kChain, dAnd, dOr, dNot, dTru, dSeq, dNext, dIfS, dFor, dAsg, dName, dGTup, dGCons, dGNil, dLst, dTup, dSl, dON, dOS, dOrV, dAndV, dNotV, dIf, dPar, dAug, dGSub, dRetN, dBreak, dCont, dDrop, dYes, dNever, startD, ksOf, wipeR, List.map_cons, List.map_nil, List.cons_append, List.nil_append, List.getElem?_cons_zero, List.getElem?_cons_succ, List.length_cons, List.length_nil, Nat.reduceAdd, Nat.reduceSub, List.reduceReplicate, List.set_cons_zero, List.set_cons_succ, nB, newL, decide_true, true_and, and_true, eq_self, reduceIte, List.length_map, Bool.not_true, Bool.not_false, δDiv, δI]
    refine ⟨divW_small g1 g2, divW_small g1 g2, by unfold sizeLine; omega, ?_⟩
    rw [ediv_nat, ediv_nat]
    exact kSet_same h
  · rw [decide_eq_false (show ¬ (r : Int) = 0 by omega)]
    simp only [dRet, dCB, dCons, dNil, dLc, dLc2, dIS, dIL, dIT, dIR1, dIR2, dIEL, dIET, dIES, dVar, dC, dOp, dUn, dTest, kTest, dChain, kChain, dAnd, dOr, dNot, dTru, dSeq, dNext, dIfS, dFor, dAsg, dName, dGTup, dGCons, dGNil, dLst, dTup, dSl, dON, dOS, dOrV, dAndV, dNotV, dIf, dPar, dAug, dGSub, dRetN, dBreak, dCont, dDrop, dYes, dNever, startD, ksOf, wipeR, List.map_cons, List.map_nil, List.cons_append, List.nil_append, List.getElem?_cons_zero, List.getElem?_cons_succ, List.length_cons, List.length_nil, Nat.reduceAdd, Nat.reduceSub, List.reduceReplicate, List.set_cons_zero, List.set_cons_succ, nB, newL, decide_true, true_and, and_true, eq_self, reduceIte, List.length_map, Bool.not_true, Bool.not_false, δMod, δI, fmod_nat]
    refine ⟨by omega, l % r, Nat.mod_lt _ (by omega), r, l % r, rfl, ?_, rfl⟩
    rw [← hg, Nat.gcd_comm r, ← Nat.gcd_rec, Nat.gcd_comm]
theorem dat__law_low : Dat 2 nm__law_low (fs__law_low A) (ph__law_low A) := by
  rintro ds M Kp KE - ⟨t, b, rfl, ht, hb, ht2, hb2, h⟩
  simp only [dRet, dCB, dCons, dNil, dLc, dLc2, dIS, dIL, dIT, dIR1, dIR2, dIEL, dIET, dIES, dVar, dC, dOp, dUn, dTest, kTest, dChain, kChain, dAnd, dOr, dNot, dTru, dSeq, dNext, dIfS, dFor, dAsg, dName, dGTup, dGCons, dGNil, dLst, dTup, dSl, dON, dOS, dOrV, dAndV, dNotV, dIf, dPar, dAug, dGSub, dRetN, dBreak, dCont, dDrop, dYes, dNever, startD, ksOf, wipeR, List.map_cons, List.map_nil, List.cons_append, List.nil_append, List.getElem?_cons_zero, List.getElem?_cons_succ, List.length_cons, List.length_nil, Nat.reduceAdd, Nat.reduceSub, List.reduceReplicate, List.set_cons_zero, List.set_cons_succ, nB, newL, decide_true, true_and, and_true, eq_self, reduceIte, List.length_map, Bool.not_true, Bool.not_false, ph__law_low]
  refine ⟨fun m ρ M' => M' = M ∧ ∃ l r : Nat, r = m ∧ Nat.gcd l r = Nat.gcd t b ∧ ρ = [some (.int t), some (.int b), some (.int l), some (.int r)], ⟨b, rfl, t, b, rfl, rfl, rfl⟩, ?_⟩
  rintro m ρ M' ⟨rfl, l, r, rfl, hg, rfl⟩
  simp only [dRet, dCB, dCons, dNil, dLc, dLc2, dIS, dIL, dIT, dIR1, dIR2, dIEL, dIET, dIES, dVar, dC, dOp, dUn, dTest, kTest, dChain, kChain, dAnd, dOr, dNot, dTru, dSeq, dNext, dIfS, dFor, dAsg, dName, dGTup, dGCons, dGNil, dLst, dTup, dSl, dON, dOS, dOrV, dAndV, dNotV, dIf, dPar, dAug, dGSub, dRetN, dBreak, dCont, dDrop, dYes, dNever, startD, ksOf, wipeR, List.map_cons, List.map_nil, List.cons_append, List.nil_append, List.getElem?_cons_zero, List.getElem?_cons_succ, List.length_cons, List.length_nil, Nat.reduceAdd, Nat.reduceSub, List.reduceReplicate, List.set_cons_zero, List.set_cons_succ, nB, newL, decide_true, true_and, and_true, eq_self, reduceIte, List.length_map, Bool.not_true, Bool.not_false, δEq]
  by_cases hr : r = 0
  · subst hr
    rw [decide_eq_true (show ((0 : Nat) : Int) = 0 from rfl)]
    rw [Nat.gcd_zero_right] at hg
    subst hg
    obtain ⟨g1, g2⟩ := gcd_small (b := b) ht ht2
    simp only [dRet, dCB, dCons, dNil, dLc, dLc2, dIS, dIL, dIT, dIR1, dIR2, dIEL, dIET, dIES, dVar, dC, dOp, dUn, dTest, kTest, dChain, kChain, dAnd, dOr, dNot, dTru, dSeq, dNext, dIfS, dFor, dAsg, dName, dGTup, dGCons, dGNil, dLst, dTup, dSl, dON, dOS, dOrV, dAndV, dNotV, dIf, dPar, dAug, dGSub, dRetN, dBreak, dCont, dDrop, dYes, dNever, startD, ksOf, wipeR, List.map_cons, List.map_nil, List.cons_append, List.nil_append, List.getElem?_cons_zero, List.getElem?_cons_succ, List.length_cons, List.length_nil, Nat.reduceAdd, Nat.reduceSub, List.reduceReplicate, List.set_cons_zero, List.set_cons_succ, nB, newL, decide_true, true_and, and_true, eq_self, reduceIte, List.length_map, Bool.not_true, Bool.not_false, δDiv, δI]
    refine ⟨divW_small g1 g2, divW_small g1 g2, by unfold sizeLine; omega, ?_⟩
    rw [ediv_nat, ediv_nat]
    exact kSet_same h
  · rw [decide_eq_false (show ¬ (r : Int) = 0 by omega)]
    simp only [dRet, dCB, dCons, dNil, dLc, dLc2, dIS, dIL, dIT, dIR1, dIR2, dIEL, dIET, dIES, dVar, dC, dOp, dUn, dTest, kTest, dChain, kChain, dAnd, dOr, dNot, dTru, dSeq, dNext, dIfS, dFor, dAsg, dName, dGTup, dGCons, dGNil, dLst, dTup, dSl, dON, dOS, dOrV, dAndV, dNotV, dIf, dPar, dAug, dGSub, dRetN, dBreak, dCont, dDrop, dYes, dNever, startD, ksOf, wipeR, List.map_cons, List.map_nil, List.cons_append, List.nil_append, List.getElem?_cons_zero, List.getElem?_cons_succ, List.length_cons, List.length_nil, Nat.reduceAdd, Nat.reduceSub, List.reduceReplicate, List.set_cons_zero, List.set_cons_succ, nB, newL, decide_true, true_and, and_true, eq_self, reduceIte, List.length_map, Bool.not_true, Bool.not_false, δInt, δMod, δI, fmod_nat]
    refine ⟨by omega, l % r, Nat.mod_lt _ (by omega), r, l % r, rfl, ?_, rfl⟩
    rw [← hg, Nat.gcd_comm r, ← Nat.gcd_rec, Nat.gcd_comm]
theorem low_scale (t b c : Nat) (hc : 1 ≤ c) : lowD (t * c) (b * c) = lowD t b := by
  unfold lowD
  rw [Nat.gcd_mul_right, Nat.mul_div_mul_right _ _ hc, Nat.mul_div_mul_right _ _ hc]
theorem room_scale {ws : List Wd1} {k L : Nat} (hL : L ≤ 8) (h : ∀ w ∈ ws, w.length ≤ L) : roomN ws k 8 = roomN ws k L * k ^ (8 - L) := by
  unfold roomN
  induction ws with
  | nil => simp
  | cons w ws ih =>
    rw [List.map_cons, List.sum_cons, ih fun v hv => h v (List.mem_cons_of_mem _ hv), List.map_cons, List.sum_cons, Nat.add_mul, ← Nat.pow_add]
    have := h w (List.mem_cons_self ..)
    rw [show L - w.length + (8 - L) = 8 - w.length by omega]
theorem room_small {ws : List Wd1} (g : Good ws) {k L : Nat} (hk : k ≤ 26) (hL : L ≤ 8) : roomN ws k L ≤ 2 ^ 41 := by
  have : ∀ ws : List Wd1, roomN ws k L ≤ ws.length * 2 ^ 38 := fun ws => by
    unfold roomN
    induction ws with
    | nil => simp
    | cons w ws ih =>
      rw [List.map_cons, List.sum_cons, List.length_cons, Nat.succ_mul]
      have := pow_small hk (show L - w.length ≤ 8 by omega)
      omega
  have := this ws
  have := g.few
  omega
theorem room_pos {ws : List Wd1} (g : Good ws) {k L : Nat} (hk : 1 ≤ k) : 1 ≤ roomN ws k L := by
  have h0 := g.one
  cases ws with
  | nil => simp at h0
  | cons w ws =>
    unfold roomN
    rw [List.map_cons, List.sum_cons]
    have : 1 ≤ k ^ (L - w.length) := Nat.one_le_pow _ _ hk
    omega
theorem low_lay (t b : Nat) : ∃ p, pyM (fun _ => none) (lowD t b) = some p ∧ p = .tuple [.int ((t / Nat.gcd t b : Nat) : Int), .int ((b / Nat.gcd t b : Nat) : Int)] := ⟨_, rfl, rfl⟩
theorem low_py {M : Mem} (t b : Nat) : pyM M (lowD t b) = some (.tuple [.int ((t / Nat.gcd t b : Nat) : Int), .int ((b / Nat.gcd t b : Nat) : Int)]) := rfl
theorem ne_low {t b : Nat} {M : Mem} {Kp : KD} (h : Kp (.bl false) M) : δEq true (lowD t b) (lowD t b) M Kp := by
  refine ⟨_, _, low_py t b, low_py t b, rfl, rfl, ?_⟩
  have e : PyData.eqv (.tuple [.int ((t / Nat.gcd t b : Nat) : Int), .int ((b / Nat.gcd t b : Nat) : Int)]) (.tuple [.int ((t / Nat.gcd t b : Nat) : Int), .int ((b / Nat.gcd t b : Nat) : Int)]) = true := by
    show (((t / Nat.gcd t b : Nat) : Int) == _ && (((b / Nat.gcd t b : Nat) : Int) == _ && true)) = true
    rw [beq_self_eq_true, beq_self_eq_true]
    rfl
  rw [e]
  exact h
theorem eq_low {t b : Nat} {i j : Int} {M : Mem} {Kp : KD} (h : Kp (.bl (decide (((t / Nat.gcd t b : Nat) : Int) = i ∧ ((b / Nat.gcd t b : Nat) : Int) = j))) M) : δEq false (lowD t b) (.tup [.int i, .int j]) M Kp := by
  refine ⟨_, .tuple [.int i, .int j], low_py t b, rfl, rfl, rfl, ?_⟩
  have e : PyData.eqv (.tuple [.int ((t / Nat.gcd t b : Nat) : Int), .int ((b / Nat.gcd t b : Nat) : Int)]) (.tuple [.int i, .int j]) = decide (((t / Nat.gcd t b : Nat) : Int) = i ∧ ((b / Nat.gcd t b : Nat) : Int) = j) := by
    show (((t / Nat.gcd t b : Nat) : Int) == i && (((b / Nat.gcd t b : Nat) : Int) == j && true)) = _
    rw [Bool.and_true, Bool.eq_iff_iff, Bool.and_eq_true_iff, beq_iff_eq, beq_iff_eq, decide_eq_true_eq]
  rw [e]
  exact h
theorem low_one {t b : Nat} (ht : 1 ≤ t) : (((t / Nat.gcd t b : Nat) : Int) = 1 ∧ ((b / Nat.gcd t b : Nat) : Int) = 1) ↔ t = b := by
  have g0 := Nat.gcd_pos_of_pos_left b ht
  constructor
  · rintro ⟨h1, h2⟩
    have h1 : t / Nat.gcd t b = 1 := by omega
    have h2 : b / Nat.gcd t b = 1 := by omega
    have e1 := Nat.div_mul_cancel (Nat.gcd_dvd_left t b)
    have e2 := Nat.div_mul_cancel (Nat.gcd_dvd_right t b)
    rw [h1] at e1
    rw [h2] at e2
    omega
  · rintro rfl
    rw [Nat.gcd_self, Nat.div_self ht]
    exact ⟨rfl, rfl⟩
theorem lens_D (ws : List Wd1) : (wsD ws).map (fun x => match x with | .str y => D.int (y.length : Int) | x => x) = (ws.map fun w => (w.length : Int)).map D.int := by
  rw [wsD, List.map_map, List.map_map]
  refine List.map_congr_left fun w _ => ?_
  show D.int ((T w).length : Int) = _
  rw [T_len]
  rfl
theorem sum_cast (ws : List Wd1) (f : Wd1 → Nat) : (ws.map fun w => ((f w : Nat) : Int)).sum = ((ws.map f).sum : Nat) := by
  induction ws with
  | nil => rfl
  | cons w ws ih => rw [List.map_cons, List.sum_cons, ih, List.map_cons, List.sum_cons, Int.natCast_add]
theorem dat_room_of : Dat 2 nm_room_of (fs_room_of A) (ph_room_of A) := by
  rintro ds M Kp KE - ⟨ws, k, rfl, g, hk1, hk2, h⟩
  have hw8 := g.few
  simp only [dRet, dCB, dCons, dNil, dLc, dLc2, dIS, dIL, dIT, dIR1, dIR2, dIEL, dIET, dIES, dVar, dC, dOp, dUn, dTest, kTest, dChain, kChain, dAnd, dOr, dNot, dTru, dSeq, dNext, dIfS, dFor, dAsg, dName, dGTup, dGCons, dGNil, dLst, dTup, dSl, dON, dOS, dOrV, dAndV, dNotV, dIf, dPar, dAug, dGSub, dRetN, dBreak, dCont, dDrop, dYes, dNever, startD, ksOf, wipeR, List.map_cons, List.map_nil, List.cons_append, List.nil_append, List.getElem?_cons_zero, List.getElem?_cons_succ, List.length_cons, List.length_nil, Nat.reduceAdd, Nat.reduceSub, List.reduceReplicate, List.set_cons_zero, List.set_cons_succ, nB, newL, decide_true, true_and, and_true, eq_self, reduceIte, List.length_map, Bool.not_true, Bool.not_false, ph_room_of, dFld, stk]
  refine ⟨_, _, _, rfl, rfl, rfl, ?_⟩
  try simp only [dRet, dCB, dCons, dNil, dLc, dLc2, dIS, dIL, dIT, dIR1, dIR2, dIEL, dIET, dIES, dVar, dC, dOp, dUn, dTest, kTest, dChain, kChain, dAnd, dOr, dNot, dTru, dSeq, dNext, dIfS, dFor, dAsg, dName, dGTup, dGCons, dGNil, dLst, dTup, dSl, dON, dOS, dOrV, dAndV, dNotV, dIf, dPar, dAug, dGSub, dRetN, dBreak, dCont, dDrop, dYes, dNever, startD, ksOf, wipeR, List.map_cons, List.map_nil, List.cons_append, List.nil_append, List.getElem?_cons_zero, List.getElem?_cons_succ, List.length_cons, List.length_nil, Nat.reduceAdd, Nat.reduceSub, List.reduceReplicate, List.set_cons_zero, List.set_cons_succ, nB, newL, decide_true, true_and, and_true, eq_self, reduceIte, List.length_map, Bool.not_true, Bool.not_false]
  refine lc_map1 (fun x => match x with | .str y => .int (y.length : Int) | x => x) trivial (by rw [wsD_len]; unfold sizeLine; omega) (fun x hx Q hQ => ?_) ?_
  · obtain ⟨w, hw, rfl⟩ := List.mem_map.mp hx
    simp only [dRet, dCB, dCons, dNil, dLc, dLc2, dIS, dIL, dIT, dIR1, dIR2, dIEL, dIET, dIES, dVar, dC, dOp, dUn, dTest, kTest, dChain, kChain, dAnd, dOr, dNot, dTru, dSeq, dNext, dIfS, dFor, dAsg, dName, dGTup, dGCons, dGNil, dLst, dTup, dSl, dON, dOS, dOrV, dAndV, dNotV, dIf, dPar, dAug, dGSub, dRetN, dBreak, dCont, dDrop, dYes, dNever, startD, ksOf, wipeR, List.map_cons, List.map_nil, List.cons_append, List.nil_append, List.getElem?_cons_zero, List.getElem?_cons_succ, List.length_cons, List.length_nil, Nat.reduceAdd, Nat.reduceSub, List.reduceReplicate, List.set_cons_zero, List.set_cons_succ, nB, newL, decide_true, true_and, and_true, eq_self, reduceIte, List.length_map, Bool.not_true, Bool.not_false, tD]
    refine len_T (word_small g hw) ?_
    have : Q (D.int ((T w).length : Int)) M := hQ
    rw [T_len] at this
    exact this
  try simp only [dRet, dCB, dCons, dNil, dLc, dLc2, dIS, dIL, dIT, dIR1, dIR2, dIEL, dIET, dIES, dVar, dC, dOp, dUn, dTest, kTest, dChain, kChain, dAnd, dOr, dNot, dTru, dSeq, dNext, dIfS, dFor, dAsg, dName, dGTup, dGCons, dGNil, dLst, dTup, dSl, dON, dOS, dOrV, dAndV, dNotV, dIf, dPar, dAug, dGSub, dRetN, dBreak, dCont, dDrop, dYes, dNever, startD, ksOf, wipeR, List.map_cons, List.map_nil, List.cons_append, List.nil_append, List.getElem?_cons_zero, List.getElem?_cons_succ, List.length_cons, List.length_nil, Nat.reduceAdd, Nat.reduceSub, List.reduceReplicate, List.set_cons_zero, List.set_cons_succ, nB, newL, decide_true, true_and, and_true, eq_self, reduceIte, List.length_map, Bool.not_true, Bool.not_false]
  refine ⟨_, ws.map fun w => (w.length : Int), rfl, by rw [lens_D, Dl.ints_map], by rw [List.length_map]; exact g.one, fun m hm hmax => ?_⟩
  obtain ⟨w0, hw0, rfl⟩ := List.mem_map.mp hm
  have hL := (g.len w0 hw0).2
  have hle : ∀ w ∈ ws, w.length ≤ w0.length := fun w hw => by have := hmax _ (List.mem_map.mpr ⟨w, hw, rfl⟩); omega
  generalize w0.length = L at hL hle ⊢
  try simp only [dRet, dCB, dCons, dNil, dLc, dLc2, dIS, dIL, dIT, dIR1, dIR2, dIEL, dIET, dIES, dVar, dC, dOp, dUn, dTest, kTest, dChain, kChain, dAnd, dOr, dNot, dTru, dSeq, dNext, dIfS, dFor, dAsg, dName, dGTup, dGCons, dGNil, dLst, dTup, dSl, dON, dOS, dOrV, dAndV, dNotV, dIf, dPar, dAug, dGSub, dRetN, dBreak, dCont, dDrop, dYes, dNever, startD, ksOf, wipeR, List.map_cons, List.map_nil, List.cons_append, List.nil_append, List.getElem?_cons_zero, List.getElem?_cons_succ, List.length_cons, List.length_nil, Nat.reduceAdd, Nat.reduceSub, List.reduceReplicate, List.set_cons_zero, List.set_cons_succ, nB, newL, decide_true, true_and, and_true, eq_self, reduceIte, List.length_map, Bool.not_true, Bool.not_false]
  refine ⟨_, _, _, rfl, rfl, rfl, ?_⟩
  try simp only [dRet, dCB, dCons, dNil, dLc, dLc2, dIS, dIL, dIT, dIR1, dIR2, dIEL, dIET, dIES, dVar, dC, dOp, dUn, dTest, kTest, dChain, kChain, dAnd, dOr, dNot, dTru, dSeq, dNext, dIfS, dFor, dAsg, dName, dGTup, dGCons, dGNil, dLst, dTup, dSl, dON, dOS, dOrV, dAndV, dNotV, dIf, dPar, dAug, dGSub, dRetN, dBreak, dCont, dDrop, dYes, dNever, startD, ksOf, wipeR, List.map_cons, List.map_nil, List.cons_append, List.nil_append, List.getElem?_cons_zero, List.getElem?_cons_succ, List.length_cons, List.length_nil, Nat.reduceAdd, Nat.reduceSub, List.reduceReplicate, List.set_cons_zero, List.set_cons_succ, nB, newL, decide_true, true_and, and_true, eq_self, reduceIte, List.length_map, Bool.not_true, Bool.not_false]
  refine lc_map1 (fun x => match x with | .str y => .int ((k ^ (L - y.length) : Nat) : Int) | x => x) trivial (by rw [wsD_len]; unfold sizeLine; omega) (fun x hx Q hQ => ?_) ?_
  · obtain ⟨w, hw, rfl⟩ := List.mem_map.mp hx
    have hl := hle w hw
    simp only [dRet, dCB, dCons, dNil, dLc, dLc2, dIS, dIL, dIT, dIR1, dIR2, dIEL, dIET, dIES, dVar, dC, dOp, dUn, dTest, kTest, dChain, kChain, dAnd, dOr, dNot, dTru, dSeq, dNext, dIfS, dFor, dAsg, dName, dGTup, dGCons, dGNil, dLst, dTup, dSl, dON, dOS, dOrV, dAndV, dNotV, dIf, dPar, dAug, dGSub, dRetN, dBreak, dCont, dDrop, dYes, dNever, startD, ksOf, wipeR, List.map_cons, List.map_nil, List.cons_append, List.nil_append, List.getElem?_cons_zero, List.getElem?_cons_succ, List.length_cons, List.length_nil, Nat.reduceAdd, Nat.reduceSub, List.reduceReplicate, List.set_cons_zero, List.set_cons_succ, nB, newL, decide_true, true_and, and_true, eq_self, reduceIte, List.length_map, Bool.not_true, Bool.not_false, tD, dCallN]
    refine len_T (word_small g hw) ?_
    have e : (L : Int) - (w.length : Int) = ((L - w.length : Nat) : Int) := by omega
    simp only [dRet, dCB, dCons, dNil, dLc, dLc2, dIS, dIL, dIT, dIR1, dIR2, dIEL, dIET, dIES, dVar, dC, dOp, dUn, dTest, kTest, dChain, kChain, dAnd, dOr, dNot, dTru, dSeq, dNext, dIfS, dFor, dAsg, dName, dGTup, dGCons, dGNil, dLst, dTup, dSl, dON, dOS, dOrV, dAndV, dNotV, dIf, dPar, dAug, dGSub, dRetN, dBreak, dCont, dDrop, dYes, dNever, startD, ksOf, wipeR, List.map_cons, List.map_nil, List.cons_append, List.nil_append, List.getElem?_cons_zero, List.getElem?_cons_succ, List.length_cons, List.length_nil, Nat.reduceAdd, Nat.reduceSub, List.reduceReplicate, List.set_cons_zero, List.set_cons_succ, nB, newL, decide_true, true_and, and_true, eq_self, reduceIte, List.length_map, Bool.not_true, Bool.not_false, δSub, δI0, e, dCallN]
    refine ⟨k, L - w.length, rfl, hk2, by omega, ?_⟩
    have : Q (D.int ((k ^ (L - (T w).length) : Nat) : Int)) M := hQ
    rw [T_len] at this
    exact this
  have esum : (wsD ws).map (fun x => match x with | .str y => D.int ((k ^ (L - y.length) : Nat) : Int) | x => x) = (ws.map fun w => ((k ^ (L - w.length) : Nat) : Int)).map D.int := by
    rw [wsD, List.map_map, List.map_map]
    refine List.map_congr_left fun w _ => ?_
    show D.int ((k ^ (L - (T w).length) : Nat) : Int) = _
    rw [T_len]
    rfl
  try simp only [dRet, dCB, dCons, dNil, dLc, dLc2, dIS, dIL, dIT, dIR1, dIR2, dIEL, dIET, dIES, dVar, dC, dOp, dUn, dTest, kTest, dChain, kChain, dAnd, dOr, dNot, dTru, dSeq, dNext, dIfS, dFor, dAsg, dName, dGTup, dGCons, dGNil, dLst, dTup, dSl, dON, dOS, dOrV, dAndV, dNotV, dIf, dPar, dAug, dGSub, dRetN, dBreak, dCont, dDrop, dYes, dNever, startD, ksOf, wipeR, List.map_cons, List.map_nil, List.cons_append, List.nil_append, List.getElem?_cons_zero, List.getElem?_cons_succ, List.length_cons, List.length_nil, Nat.reduceAdd, Nat.reduceSub, List.reduceReplicate, List.set_cons_zero, List.set_cons_succ, nB, newL, decide_true, true_and, and_true, eq_self, reduceIte, List.length_map, Bool.not_true, Bool.not_false]
  refine ⟨_, ws.map fun w => ((k ^ (L - w.length) : Nat) : Int), rfl, by rw [esum, Dl.ints_map], ?_⟩
  rw [sum_cast ws fun w => k ^ (L - w.length)]
  simp only [dRet, dCB, dCons, dNil, dLc, dLc2, dIS, dIL, dIT, dIR1, dIR2, dIEL, dIET, dIES, dVar, dC, dOp, dUn, dTest, kTest, dChain, kChain, dAnd, dOr, dNot, dTru, dSeq, dNext, dIfS, dFor, dAsg, dName, dGTup, dGCons, dGNil, dLst, dTup, dSl, dON, dOS, dOrV, dAndV, dNotV, dIf, dPar, dAug, dGSub, dRetN, dBreak, dCont, dDrop, dYes, dNever, startD, ksOf, wipeR, List.map_cons, List.map_nil, List.cons_append, List.nil_append, List.getElem?_cons_zero, List.getElem?_cons_succ, List.length_cons, List.length_nil, Nat.reduceAdd, Nat.reduceSub, List.reduceReplicate, List.set_cons_zero, List.set_cons_succ, nB, newL, decide_true, true_and, and_true, eq_self, reduceIte, List.length_map, Bool.not_true, Bool.not_false, dCallN]
  refine ⟨k, L, rfl, hk2, hL, ?_⟩
  try simp only [dRet, dCB, dCons, dNil, dLc, dLc2, dIS, dIL, dIT, dIR1, dIR2, dIEL, dIET, dIES, dVar, dC, dOp, dUn, dTest, kTest, dChain, kChain, dAnd, dOr, dNot, dTru, dSeq, dNext, dIfS, dFor, dAsg, dName, dGTup, dGCons, dGNil, dLst, dTup, dSl, dON, dOS, dOrV, dAndV, dNotV, dIf, dPar, dAug, dGSub, dRetN, dBreak, dCont, dDrop, dYes, dNever, startD, ksOf, wipeR, List.map_cons, List.map_nil, List.cons_append, List.nil_append, List.getElem?_cons_zero, List.getElem?_cons_succ, List.length_cons, List.length_nil, Nat.reduceAdd, Nat.reduceSub, List.reduceReplicate, List.set_cons_zero, List.set_cons_succ, nB, newL, decide_true, true_and, and_true, eq_self, reduceIte, List.length_map, Bool.not_true, Bool.not_false]
  have hp := pow_small hk2 hL
  have hr := room_small g hk2 hL
  refine ⟨roomN ws k L, k ^ L, rfl, room_pos g hk1, Nat.one_le_pow _ _ hk1, by omega, by omega, ?_⟩
  have es := room_scale (k := k) hL hle
  have eb : k ^ 8 = k ^ L * k ^ (8 - L) := by rw [← Nat.pow_add, show L + (8 - L) = 8 by omega]
  rw [es, eb, low_scale _ _ _ (Nat.one_le_pow _ _ hk1)] at h
  exact kSet_same h
theorem dat_room : Dat 2 nm_room (fs_room A) (ph_room A) := by
  rintro ds M Kp KE - ⟨ws, k, rfl, g, hk1, hk2, hw, h⟩
  simp only [dRet, dCB, dCons, dNil, dLc, dLc2, dIS, dIL, dIT, dIR1, dIR2, dIEL, dIET, dIES, dVar, dC, dOp, dUn, dTest, kTest, dChain, kChain, dAnd, dOr, dNot, dTru, dSeq, dNext, dIfS, dFor, dAsg, dName, dGTup, dGCons, dGNil, dLst, dTup, dSl, dON, dOS, dOrV, dAndV, dNotV, dIf, dPar, dAug, dGSub, dRetN, dBreak, dCont, dDrop, dYes, dNever, startD, ksOf, wipeR, List.map_cons, List.map_nil, List.cons_append, List.nil_append, List.getElem?_cons_zero, List.getElem?_cons_succ, List.length_cons, List.length_nil, Nat.reduceAdd, Nat.reduceSub, List.reduceReplicate, List.set_cons_zero, List.set_cons_succ, nB, newL, decide_true, true_and, and_true, eq_self, reduceIte, List.length_map, Bool.not_true, Bool.not_false, ph_room, dCallN]
  exact ⟨ws, k, rfl, g, hk1, hk2, hw, ws, k, rfl, g, hk1, hk2, kSet_same h⟩
theorem dat_is_full : Dat 2 nm_is_full (fs_is_full A) (ph_is_full A) := by
  rintro ds M Kp KE - ⟨ws, k, rfl, g, ho, hk1, hk2, hw, h⟩
  simp only [dRet, dCB, dCons, dNil, dLc, dLc2, dIS, dIL, dIT, dIR1, dIR2, dIEL, dIET, dIES, dVar, dC, dOp, dUn, dTest, kTest, dChain, kChain, dAnd, dOr, dNot, dTru, dSeq, dNext, dIfS, dFor, dAsg, dName, dGTup, dGCons, dGNil, dLst, dTup, dSl, dON, dOS, dOrV, dAndV, dNotV, dIf, dPar, dAug, dGSub, dRetN, dBreak, dCont, dDrop, dYes, dNever, startD, ksOf, wipeR, List.map_cons, List.map_nil, List.cons_append, List.nil_append, List.getElem?_cons_zero, List.getElem?_cons_succ, List.length_cons, List.length_nil, Nat.reduceAdd, Nat.reduceSub, List.reduceReplicate, List.set_cons_zero, List.set_cons_succ, nB, newL, decide_true, true_and, and_true, eq_self, reduceIte, List.length_map, Bool.not_true, Bool.not_false, ph_is_full, dCallN]
  refine ⟨ws, k, rfl, g, hk1, hk2, hw, ws, rfl, g, ho, ws, k, rfl, g, hk1, hk2, by unfold sizeLine; omega, eq_low ?_⟩
  have e : decide (((roomN ws k 8 / Nat.gcd (roomN ws k 8) (k ^ 8) : Nat) : Int) = 1 ∧ ((k ^ 8 / Nat.gcd (roomN ws k 8) (k ^ 8) : Nat) : Int) = 1) = decide (Full ws k) := by
    rw [decide_eq_decide, low_one (room_pos g hk1)]
    exact Iff.rfl
  rw [e]
  exact kSet_same h
theorem dat__law_room : Dat 2 nm__law_room (fs__law_room A) (ph__law_room A) := by
  rintro ds M Kp KE - ⟨d, ws, k, rfl, hv, g, hk1, hk2, h⟩
  have hw8 := g.few
  simp only [dRet, dCB, dCons, dNil, dLc, dLc2, dIS, dIL, dIT, dIR1, dIR2, dIEL, dIET, dIES, dVar, dC, dOp, dUn, dTest, kTest, dChain, kChain, dAnd, dOr, dNot, dTru, dSeq, dNext, dIfS, dFor, dAsg, dName, dGTup, dGCons, dGNil, dLst, dTup, dSl, dON, dOS, dOrV, dAndV, dNotV, dIf, dPar, dAug, dGSub, dRetN, dBreak, dCont, dDrop, dYes, dNever, startD, ksOf, wipeR, List.map_cons, List.map_nil, List.cons_append, List.nil_append, List.getElem?_cons_zero, List.getElem?_cons_succ, List.length_cons, List.length_nil, Nat.reduceAdd, Nat.reduceSub, List.reduceReplicate, List.set_cons_zero, List.set_cons_succ, nB, newL, decide_true, true_and, and_true, eq_self, reduceIte, List.length_map, Bool.not_true, Bool.not_false, ph__law_room]
  refine iterL_v hv fun P hP => ?_
  refine lc_map1 (fun x => match x with | .str y => .int ((k ^ (8 - y.length) : Nat) : Int) | x => x) (hP _ hv) (by rw [wsD_len]; unfold sizeLine; omega) (fun x hx Q hQ => ?_) ?_
  · obtain ⟨w, hw, rfl⟩ := List.mem_map.mp hx
    have hl := (g.len w hw).2
    simp only [dRet, dCB, dCons, dNil, dLc, dLc2, dIS, dIL, dIT, dIR1, dIR2, dIEL, dIET, dIES, dVar, dC, dOp, dUn, dTest, kTest, dChain, kChain, dAnd, dOr, dNot, dTru, dSeq, dNext, dIfS, dFor, dAsg, dName, dGTup, dGCons, dGNil, dLst, dTup, dSl, dON, dOS, dOrV, dAndV, dNotV, dIf, dPar, dAug, dGSub, dRetN, dBreak, dCont, dDrop, dYes, dNever, startD, ksOf, wipeR, List.map_cons, List.map_nil, List.cons_append, List.nil_append, List.getElem?_cons_zero, List.getElem?_cons_succ, List.length_cons, List.length_nil, Nat.reduceAdd, Nat.reduceSub, List.reduceReplicate, List.set_cons_zero, List.set_cons_succ, nB, newL, decide_true, true_and, and_true, eq_self, reduceIte, List.length_map, Bool.not_true, Bool.not_false, tD, dCallN]
    refine len_T (word_small g hw) ?_
    have e : (8 : Int) - (w.length : Int) = ((8 - w.length : Nat) : Int) := by omega
    simp only [dRet, dCB, dCons, dNil, dLc, dLc2, dIS, dIL, dIT, dIR1, dIR2, dIEL, dIET, dIES, dVar, dC, dOp, dUn, dTest, kTest, dChain, kChain, dAnd, dOr, dNot, dTru, dSeq, dNext, dIfS, dFor, dAsg, dName, dGTup, dGCons, dGNil, dLst, dTup, dSl, dON, dOS, dOrV, dAndV, dNotV, dIf, dPar, dAug, dGSub, dRetN, dBreak, dCont, dDrop, dYes, dNever, startD, ksOf, wipeR, List.map_cons, List.map_nil, List.cons_append, List.nil_append, List.getElem?_cons_zero, List.getElem?_cons_succ, List.length_cons, List.length_nil, Nat.reduceAdd, Nat.reduceSub, List.reduceReplicate, List.set_cons_zero, List.set_cons_succ, nB, newL, decide_true, true_and, and_true, eq_self, reduceIte, List.length_map, Bool.not_true, Bool.not_false, δSub, δI0, e, dCallN]
    refine ⟨k, 8 - w.length, rfl, hk2, by omega, ?_⟩
    have : Q (D.int ((k ^ (8 - (T w).length) : Nat) : Int)) M := hQ
    rw [T_len] at this
    exact this
  have esum : (wsD ws).map (fun x => match x with | .str y => D.int ((k ^ (8 - y.length) : Nat) : Int) | x => x) = (ws.map fun w => ((k ^ (8 - w.length) : Nat) : Int)).map D.int := by
    rw [wsD, List.map_map, List.map_map]
    refine List.map_congr_left fun w _ => ?_
    show D.int ((k ^ (8 - (T w).length) : Nat) : Int) = _
    rw [T_len]
    rfl
  try simp only [dRet, dCB, dCons, dNil, dLc, dLc2, dIS, dIL, dIT, dIR1, dIR2, dIEL, dIET, dIES, dVar, dC, dOp, dUn, dTest, kTest, dChain, kChain, dAnd, dOr, dNot, dTru, dSeq, dNext, dIfS, dFor, dAsg, dName, dGTup, dGCons, dGNil, dLst, dTup, dSl, dON, dOS, dOrV, dAndV, dNotV, dIf, dPar, dAug, dGSub, dRetN, dBreak, dCont, dDrop, dYes, dNever, startD, ksOf, wipeR, List.map_cons, List.map_nil, List.cons_append, List.nil_append, List.getElem?_cons_zero, List.getElem?_cons_succ, List.length_cons, List.length_nil, Nat.reduceAdd, Nat.reduceSub, List.reduceReplicate, List.set_cons_zero, List.set_cons_succ, nB, newL, decide_true, true_and, and_true, eq_self, reduceIte, List.length_map, Bool.not_true, Bool.not_false]
  refine ⟨_, ws.map fun w => ((k ^ (8 - w.length) : Nat) : Int), rfl, by rw [esum, Dl.ints_map], ?_⟩
  rw [sum_cast ws fun w => k ^ (8 - w.length)]
  simp only [dRet, dCB, dCons, dNil, dLc, dLc2, dIS, dIL, dIT, dIR1, dIR2, dIEL, dIET, dIES, dVar, dC, dOp, dUn, dTest, kTest, dChain, kChain, dAnd, dOr, dNot, dTru, dSeq, dNext, dIfS, dFor, dAsg, dName, dGTup, dGCons, dGNil, dLst, dTup, dSl, dON, dOS, dOrV, dAndV, dNotV, dIf, dPar, dAug, dGSub, dRetN, dBreak, dCont, dDrop, dYes, dNever, startD, ksOf, wipeR, List.map_cons, List.map_nil, List.cons_append, List.nil_append, List.getElem?_cons_zero, List.getElem?_cons_succ, List.length_cons, List.length_nil, Nat.reduceAdd, Nat.reduceSub, List.reduceReplicate, List.set_cons_zero, List.set_cons_succ, nB, newL, decide_true, true_and, and_true, eq_self, reduceIte, List.length_map, Bool.not_true, Bool.not_false, dCallN]
  refine ⟨k, 8, rfl, hk2, by omega, ?_⟩
  try simp only [dRet, dCB, dCons, dNil, dLc, dLc2, dIS, dIL, dIT, dIR1, dIR2, dIEL, dIET, dIES, dVar, dC, dOp, dUn, dTest, kTest, dChain, kChain, dAnd, dOr, dNot, dTru, dSeq, dNext, dIfS, dFor, dAsg, dName, dGTup, dGCons, dGNil, dLst, dTup, dSl, dON, dOS, dOrV, dAndV, dNotV, dIf, dPar, dAug, dGSub, dRetN, dBreak, dCont, dDrop, dYes, dNever, startD, ksOf, wipeR, List.map_cons, List.map_nil, List.cons_append, List.nil_append, List.getElem?_cons_zero, List.getElem?_cons_succ, List.length_cons, List.length_nil, Nat.reduceAdd, Nat.reduceSub, List.reduceReplicate, List.set_cons_zero, List.set_cons_succ, nB, newL, decide_true, true_and, and_true, eq_self, reduceIte, List.length_map, Bool.not_true, Bool.not_false]
  have hp := pow_small hk2 (show 8 ≤ 8 by omega)
  have hr := room_small g hk2 (show 8 ≤ 8 by omega)
  exact ⟨roomN ws k 8, k ^ 8, rfl, room_pos g hk1, Nat.one_le_pow _ _ hk1, by omega, by omega, kSet_same h⟩
end Lw
end
noncomputable section
namespace Lw
open PySem PySem.Spec PyProof.Rows L2 Evl Dl Classical
variable (A : Ad)
/-- a mutable list handed back -/
theorem ret_new {M' M2 : Mem} {q : Addr} {ds : List D} {Kp : KD} (h : newL true ds M2 Kp) (hn : M2 q = none) (e : Ext (updM M2 q (.lst ds)) M') : kSet Kp (.ptr q) M' := kSet_ext e (h q hn)
theorem dat__law_small_lot : Dat 3 nm__law_small_lot (fs__law_small_lot A) (ph__law_small_lot A) := by
  rintro ds M Kp KE - ⟨p, o, n, k, sg, rfl, hm, ho, hn, hk1, hk8, hs1, hs2, hsr, h⟩
  simp only [dRet, dCB, dCons, dNil, dLc, dLc2, dIS, dIL, dIT, dIR1, dIR2, dIEL, dIET, dIES, dVar, dC, dOp, dUn, dTest, kTest, dChain, kChain, dAnd, dOr, dNot, dTru, dSeq, dNext, dIfS, dFor, dAsg, dName, dGTup, dGCons, dGNil, dLst, dTup, dSl, dON, dOS, dOrV, dAndV, dNotV, dIf, dPar, dAug, dGSub, dRetN, dBreak, dCont, dDrop, dYes, dNever, startD, ksOf, wipeR, List.map_cons, List.map_nil, List.cons_append, List.nil_append, List.getElem?_cons_zero, List.getElem?_cons_succ, List.length_cons, List.length_nil, Nat.reduceAdd, Nat.reduceSub, List.reduceReplicate, List.set_cons_zero, List.set_cons_succ, nB, newL, decide_true, true_and, and_true, eq_self, reduceIte, List.length_map, Bool.not_true, Bool.not_false, ph__law_small_lot, dCallN]
  refine ⟨by unfold sizeLine; omega, fun q hq => ?_⟩
  have hpq : p ≠ q := fun z => by rw [← z, hm] at hq; cases hq
  have hM : updM M q (.lst []) = updM (updM M p o) q (.lst []) := by rw [updM_self hm]
  have sP : ∀ o' l, updM (updM M p o') q l p = some o' := fun o' l => by rw [updM_ne hpq, updM_same]
  have sU : ∀ o' o'' l, updM (updM (updM M p o') q l) p o'' = updM (updM M p o'') q l := fun o' o'' l => by rw [updM_comm hpq, updM_upd, ← updM_comm hpq]
  have sQ : ∀ o' ws, viewL (updM (updM M p o') q (.lst (wsD ws))) (.ptr q) = some (wsD ws) := fun o' ws => viewL_ptr.mpr updM_same
  have hqo : ∀ o', updM M p o' q = none := fun o' => by rw [updM_ne (Ne.symm hpq)]; exact hq
  rw [hM]
  refine ⟨p, o, n, 6, rfl, sP _ _, ho, by omega, by omega, by omega, fun o2 d2 ho2 hd2 => ?_⟩
  rw [sU]
  simp only [dRet, dCB, dCons, dNil, dLc, dLc2, dIS, dIL, dIT, dIR1, dIR2, dIEL, dIET, dIES, dVar, dC, dOp, dUn, dTest, kTest, dChain, kChain, dAnd, dOr, dNot, dTru, dSeq, dNext, dIfS, dFor, dAsg, dName, dGTup, dGCons, dGNil, dLst, dTup, dSl, dON, dOS, dOrV, dAndV, dNotV, dIf, dPar, dAug, dGSub, dRetN, dBreak, dCont, dDrop, dYes, dNever, startD, ksOf, wipeR, List.map_cons, List.map_nil, List.cons_append, List.nil_append, List.getElem?_cons_zero, List.getElem?_cons_succ, List.length_cons, List.length_nil, Nat.reduceAdd, Nat.reduceSub, List.reduceReplicate, List.set_cons_zero, List.set_cons_succ, nB, newL, decide_true, true_and, and_true, eq_self, reduceIte, List.length_map, Bool.not_true, Bool.not_false, δAdd]
  refine ⟨by omega, by omega, ?_⟩
  refine for_inv (fun i ρ M' => ∃ (ws : List Wd1) (o' : MO), M' = updM (updM M p o') q (.lst (wsD ws)) ∧ PlO (n + 1 + 101 * i) o' ∧ ws.Nodup ∧ (∀ w ∈ ws, 1 ≤ w.length ∧ w.length ≤ k ∧ ∀ c ∈ w, c ∈ sg) ∧ ws.length ≤ i ∧ (1 ≤ i → 1 ≤ ws.length) ∧ ∃ a b, ρ = [some (.ptr p), some (tD sg), some (.int k), some (.ptr q), a, b])
    ⟨[], o2, rfl, ho2, List.nodup_nil, by simp, by simp, by simp, _, _, rfl⟩ ?_ ?_
  · rintro i x ρ M' Nx hx ⟨ws, o', rfl, ho', nd, hws, hwl, hw1, a, b, rfl⟩ hN
    refine ⟨trivial, ?_⟩
    obtain ⟨hi, rfl⟩ := rangeD_inv hx
    simp only [dRet, dCB, dCons, dNil, dLc, dLc2, dIS, dIL, dIT, dIR1, dIR2, dIEL, dIET, dIES, dVar, dC, dOp, dUn, dTest, kTest, dChain, kChain, dAnd, dOr, dNot, dTru, dSeq, dNext, dIfS, dFor, dAsg, dName, dGTup, dGCons, dGNil, dLst, dTup, dSl, dON, dOS, dOrV, dAndV, dNotV, dIf, dPar, dAug, dGSub, dRetN, dBreak, dCont, dDrop, dYes, dNever, startD, ksOf, wipeR, List.map_cons, List.map_nil, List.cons_append, List.nil_append, List.getElem?_cons_zero, List.getElem?_cons_succ, List.length_cons, List.length_nil, Nat.reduceAdd, Nat.reduceSub, List.reduceReplicate, List.set_cons_zero, List.set_cons_succ, nB, newL, decide_true, true_and, and_true, eq_self, reduceIte, List.length_map, Bool.not_true, Bool.not_false, dCallN]
    refine ⟨p, o', n + 1 + 101 * i, k, sg, rfl, sP _ _, ho', by omega, by omega, by omega, by omega, by omega, fun o'' w ho'' hwl1 hwl2 hwc => ?_⟩
    rw [sU]
    try simp only [dRet, dCB, dCons, dNil, dLc, dLc2, dIS, dIL, dIT, dIR1, dIR2, dIEL, dIET, dIES, dVar, dC, dOp, dUn, dTest, kTest, dChain, kChain, dAnd, dOr, dNot, dTru, dSeq, dNext, dIfS, dFor, dAsg, dName, dGTup, dGCons, dGNil, dLst, dTup, dSl, dON, dOS, dOrV, dAndV, dNotV, dIf, dPar, dAug, dGSub, dRetN, dBreak, dCont, dDrop, dYes, dNever, startD, ksOf, wipeR, List.map_cons, List.map_nil, List.cons_append, List.nil_append, List.getElem?_cons_zero, List.getElem?_cons_succ, List.length_cons, List.length_nil, Nat.reduceAdd, Nat.reduceSub, List.reduceReplicate, List.set_cons_zero, List.set_cons_succ, nB, newL, decide_true, true_and, and_true, eq_self, reduceIte, List.length_map, Bool.not_true, Bool.not_false]
    refine in_view (sQ _ _) rfl (good_flat ws) ?_
    rw [any_in]
    by_cases hm : w ∈ ws
    · rw [decide_eq_true hm]
      exact hN _ _ ⟨ws, o'', rfl, ho''.mono (by omega), nd, hws, by omega, fun _ => List.length_pos_of_mem hm, _, _, rfl⟩
    · rw [decide_eq_false hm]
      simp only [dRet, dCB, dCons, dNil, dLc, dLc2, dIS, dIL, dIT, dIR1, dIR2, dIEL, dIET, dIES, dVar, dC, dOp, dUn, dTest, kTest, dChain, kChain, dAnd, dOr, dNot, dTru, dSeq, dNext, dIfS, dFor, dAsg, dName, dGTup, dGCons, dGNil, dLst, dTup, dSl, dON, dOS, dOrV, dAndV, dNotV, dIf, dPar, dAug, dGSub, dRetN, dBreak, dCont, dDrop, dYes, dNever, startD, ksOf, wipeR, List.map_cons, List.map_nil, List.cons_append, List.nil_append, List.getElem?_cons_zero, List.getElem?_cons_succ, List.length_cons, List.length_nil, Nat.reduceAdd, Nat.reduceSub, List.reduceReplicate, List.set_cons_zero, List.set_cons_succ, nB, newL, decide_true, true_and, and_true, eq_self, reduceIte, List.length_map, Bool.not_true, Bool.not_false, dBM]
      refine ⟨tyD_lst updM_same, app_ptr updM_same (by rw [wsD_len]; unfold sizeLine; omega) ?_⟩
      rw [updM_upd]
      refine hN _ _ ⟨ws ++ [w], o'', by rw [wsD_snoc], ho''.mono (by omega), ?_, fun v hv => ?_, by rw [List.length_append]; simp only [List.length_cons, List.length_nil]; omega, fun _ => by rw [List.length_append]; simp only [List.length_cons, List.length_nil]; omega, _, _, rfl⟩
      · rw [List.nodup_append]
        refine ⟨nd, by simp, fun x hx y hy e => ?_⟩
        rw [List.mem_singleton] at hy
        exact hm (hy ▸ e ▸ hx)
      · rcases List.mem_append.mp hv with hv | hv
        · exact hws v hv
        · rw [List.mem_singleton] at hv
          subst hv
          exact ⟨hwl1, hwl2, hwc⟩
  · rintro ρ M' ⟨ws, o', rfl, ho', nd, hws, hwl, hw1, a, b, rfl⟩
    refine ⟨trivial, ?_⟩
    rw [rangeD_length] at ho' hwl hw1
    try simp only [dRet, dCB, dCons, dNil, dLc, dLc2, dIS, dIL, dIT, dIR1, dIR2, dIEL, dIET, dIES, dVar, dC, dOp, dUn, dTest, kTest, dChain, kChain, dAnd, dOr, dNot, dTru, dSeq, dNext, dIfS, dFor, dAsg, dName, dGTup, dGCons, dGNil, dLst, dTup, dSl, dON, dOS, dOrV, dAndV, dNotV, dIf, dPar, dAug, dGSub, dRetN, dBreak, dCont, dDrop, dYes, dNever, startD, ksOf, wipeR, List.map_cons, List.map_nil, List.cons_append, List.nil_append, List.getElem?_cons_zero, List.getElem?_cons_succ, List.length_cons, List.length_nil, Nat.reduceAdd, Nat.reduceSub, List.reduceReplicate, List.set_cons_zero, List.set_cons_succ, nB, newL, decide_true, true_and, and_true, eq_self, reduceIte, List.length_map, Bool.not_true, Bool.not_false]
    refine ret_new (h o' ws (ho'.mono (by omega)) ⟨hw1 (by omega), by omega, fun w hw => ⟨(hws w hw).1, by have := (hws w hw).2.1; omega⟩, fun w hw c hc => hsr c ((hws w hw).2.2 c hc), nd⟩ (by omega) fun w hw => ⟨(hws w hw).2.1, (hws w hw).2.2⟩) (hqo o') (Ext.refl _)
theorem dat_check_apart : Dat 1 nm_check_apart (fs_check_apart A) (ph_check_apart A) := by
  rintro ds M Kp KE - ⟨ws, rfl, g, ha, h⟩
  simp only [dRet, dCB, dCons, dNil, dLc, dLc2, dIS, dIL, dIT, dIR1, dIR2, dIEL, dIET, dIES, dVar, dC, dOp, dUn, dTest, kTest, dChain, kChain, dAnd, dOr, dNot, dTru, dSeq, dNext, dIfS, dFor, dAsg, dName, dGTup, dGCons, dGNil, dLst, dTup, dSl, dON, dOS, dOrV, dAndV, dNotV, dIf, dPar, dAug, dGSub, dRetN, dBreak, dCont, dDrop, dYes, dNever, startD, ksOf, wipeR, List.map_cons, List.map_nil, List.cons_append, List.nil_append, List.getElem?_cons_zero, List.getElem?_cons_succ, List.length_cons, List.length_nil, Nat.reduceAdd, Nat.reduceSub, List.reduceReplicate, List.set_cons_zero, List.set_cons_succ, nB, newL, decide_true, true_and, and_true, eq_self, reduceIte, List.length_map, Bool.not_true, Bool.not_false, ph_check_apart, dFld, stk]
  refine ⟨_, _, _, rfl, rfl, rfl, ?_⟩
  try simp only [dRet, dCB, dCons, dNil, dLc, dLc2, dIS, dIL, dIT, dIR1, dIR2, dIEL, dIET, dIES, dVar, dC, dOp, dUn, dTest, kTest, dChain, kChain, dAnd, dOr, dNot, dTru, dSeq, dNext, dIfS, dFor, dAsg, dName, dGTup, dGCons, dGNil, dLst, dTup, dSl, dON, dOS, dOrV, dAndV, dNotV, dIf, dPar, dAug, dGSub, dRetN, dBreak, dCont, dDrop, dYes, dNever, startD, ksOf, wipeR, List.map_cons, List.map_nil, List.cons_append, List.nil_append, List.getElem?_cons_zero, List.getElem?_cons_succ, List.length_cons, List.length_nil, Nat.reduceAdd, Nat.reduceSub, List.reduceReplicate, List.set_cons_zero, List.set_cons_succ, nB, newL, decide_true, true_and, and_true, eq_self, reduceIte, List.length_map, Bool.not_true, Bool.not_false]
  refine for_inv (fun i ρ M' => M' = M ∧ ∃ a b c d, ρ = [some (stk A ws), a, b, c, d]) ⟨rfl, _, _, _, _, rfl⟩ ?_ ?_
  · rintro i x ρ M' Nx hx ⟨rfl, a, b, c, d, rfl⟩ hN
    refine ⟨trivial, ?_⟩
    obtain ⟨y, hy, rfl⟩ := enumD_inv hx
    obtain ⟨w, hw, rfl⟩ := wsD_get hy
    have hwm := List.mem_of_getElem? hw
    simp only [dRet, dCB, dCons, dNil, dLc, dLc2, dIS, dIL, dIT, dIR1, dIR2, dIEL, dIET, dIES, dVar, dC, dOp, dUn, dTest, kTest, dChain, kChain, dAnd, dOr, dNot, dTru, dSeq, dNext, dIfS, dFor, dAsg, dName, dGTup, dGCons, dGNil, dLst, dTup, dSl, dON, dOS, dOrV, dAndV, dNotV, dIf, dPar, dAug, dGSub, dRetN, dBreak, dCont, dDrop, dYes, dNever, startD, ksOf, wipeR, List.map_cons, List.map_nil, List.cons_append, List.nil_append, List.getElem?_cons_zero, List.getElem?_cons_succ, List.length_cons, List.length_nil, Nat.reduceAdd, Nat.reduceSub, List.reduceReplicate, List.set_cons_zero, List.set_cons_succ, nB, newL, decide_true, true_and, and_true, eq_self, reduceIte, List.length_map, Bool.not_true, Bool.not_false, dFld, stk]
    refine ⟨_, _, _, rfl, rfl, rfl, ?_⟩
    try simp only [dRet, dCB, dCons, dNil, dLc, dLc2, dIS, dIL, dIT, dIR1, dIR2, dIEL, dIET, dIES, dVar, dC, dOp, dUn, dTest, kTest, dChain, kChain, dAnd, dOr, dNot, dTru, dSeq, dNext, dIfS, dFor, dAsg, dName, dGTup, dGCons, dGNil, dLst, dTup, dSl, dON, dOS, dOrV, dAndV, dNotV, dIf, dPar, dAug, dGSub, dRetN, dBreak, dCont, dDrop, dYes, dNever, startD, ksOf, wipeR, List.map_cons, List.map_nil, List.cons_append, List.nil_append, List.getElem?_cons_zero, List.getElem?_cons_succ, List.length_cons, List.length_nil, Nat.reduceAdd, Nat.reduceSub, List.reduceReplicate, List.set_cons_zero, List.set_cons_succ, nB, newL, decide_true, true_and, and_true, eq_self, reduceIte, List.length_map, Bool.not_true, Bool.not_false]
    refine for_inv (fun j ρ M' => M' = M' ∧ M' = _ ∧ ∃ c d, ρ = [some (stk A ws), some (.int i), some (tD w), c, d]) ⟨rfl, rfl, _, _, rfl⟩ ?_ ?_
    · rintro j x ρ M2 Nx2 hx2 ⟨-, rfl, c, d, rfl⟩ hN2
      refine ⟨trivial, ?_⟩
      obtain ⟨y, hy2, rfl⟩ := enumD_inv hx2
      obtain ⟨u, hu, rfl⟩ := wsD_get hy2
      have hum := List.mem_of_getElem? hu
      simp only [dRet, dCB, dCons, dNil, dLc, dLc2, dIS, dIL, dIT, dIR1, dIR2, dIEL, dIET, dIES, dVar, dC, dOp, dUn, dTest, kTest, dChain, kChain, dAnd, dOr, dNot, dTru, dSeq, dNext, dIfS, dFor, dAsg, dName, dGTup, dGCons, dGNil, dLst, dTup, dSl, dON, dOS, dOrV, dAndV, dNotV, dIf, dPar, dAug, dGSub, dRetN, dBreak, dCont, dDrop, dYes, dNever, startD, ksOf, wipeR, List.map_cons, List.map_nil, List.cons_append, List.nil_append, List.getElem?_cons_zero, List.getElem?_cons_succ, List.length_cons, List.length_nil, Nat.reduceAdd, Nat.reduceSub, List.reduceReplicate, List.set_cons_zero, List.set_cons_succ, nB, newL, decide_true, true_and, and_true, eq_self, reduceIte, List.length_map, Bool.not_true, Bool.not_false, δEq]
      by_cases hij : i = j
      · rw [decide_eq_true (show (i : Int) = (j : Int) by omega)]
        exact hN2 _ _ ⟨rfl, rfl, _, _, rfl⟩
      · rw [decide_eq_false (show ¬ (i : Int) = (j : Int) by omega)]
        simp only [dRet, dCB, dCons, dNil, dLc, dLc2, dIS, dIL, dIT, dIR1, dIR2, dIEL, dIET, dIES, dVar, dC, dOp, dUn, dTest, kTest, dChain, kChain, dAnd, dOr, dNot, dTru, dSeq, dNext, dIfS, dFor, dAsg, dName, dGTup, dGCons, dGNil, dLst, dTup, dSl, dON, dOS, dOrV, dAndV, dNotV, dIf, dPar, dAug, dGSub, dRetN, dBreak, dCont, dDrop, dYes, dNever, startD, ksOf, wipeR, List.map_cons, List.map_nil, List.cons_append, List.nil_append, List.getElem?_cons_zero, List.getElem?_cons_succ, List.length_cons, List.length_nil, Nat.reduceAdd, Nat.reduceSub, List.reduceReplicate, List.set_cons_zero, List.set_cons_succ, nB, newL, decide_true, true_and, and_true, eq_self, reduceIte, List.length_map, Bool.not_true, Bool.not_false, tD]
        refine len_T (word_small g hwm) ?_
        try simp only [dRet, dCB, dCons, dNil, dLc, dLc2, dIS, dIL, dIT, dIR1, dIR2, dIEL, dIET, dIES, dVar, dC, dOp, dUn, dTest, kTest, dChain, kChain, dAnd, dOr, dNot, dTru, dSeq, dNext, dIfS, dFor, dAsg, dName, dGTup, dGCons, dGNil, dLst, dTup, dSl, dON, dOS, dOrV, dAndV, dNotV, dIf, dPar, dAug, dGSub, dRetN, dBreak, dCont, dDrop, dYes, dNever, startD, ksOf, wipeR, List.map_cons, List.map_nil, List.cons_append, List.nil_append, List.getElem?_cons_zero, List.getElem?_cons_succ, List.length_cons, List.length_nil, Nat.reduceAdd, Nat.reduceSub, List.reduceReplicate, List.set_cons_zero, List.set_cons_succ, nB, newL, decide_true, true_and, and_true, eq_self, reduceIte, List.length_map, Bool.not_true, Bool.not_false]
        refine sl_T (word_small g hum) ?_
        simp only [dRet, dCB, dCons, dNil, dLc, dLc2, dIS, dIL, dIT, dIR1, dIR2, dIEL, dIET, dIES, dVar, dC, dOp, dUn, dTest, kTest, dChain, kChain, dAnd, dOr, dNot, dTru, dSeq, dNext, dIfS, dFor, dAsg, dName, dGTup, dGCons, dGNil, dLst, dTup, dSl, dON, dOS, dOrV, dAndV, dNotV, dIf, dPar, dAug, dGSub, dRetN, dBreak, dCont, dDrop, dYes, dNever, startD, ksOf, wipeR, List.map_cons, List.map_nil, List.cons_append, List.nil_append, List.getElem?_cons_zero, List.getElem?_cons_succ, List.length_cons, List.length_nil, Nat.reduceAdd, Nat.reduceSub, List.reduceReplicate, List.set_cons_zero, List.set_cons_succ, nB, newL, decide_true, true_and, and_true, eq_self, reduceIte, List.length_map, Bool.not_true, Bool.not_false, δEq, dec_T, cutL_to']
        have hc : ¬ u.take w.length = w := fun hc => by
          have e := ha w hwm u hum (hc ▸ List.take_prefix _ _)
          subst e
          obtain ⟨h1, e1⟩ := List.getElem?_eq_some_iff.mp hw
          obtain ⟨h2, e2⟩ := List.getElem?_eq_some_iff.mp hu
          exact hij ((List.getElem_inj g.nd).mp (e1.trans e2.symm))
        rw [decide_eq_false hc]
        exact hN2 _ _ ⟨rfl, rfl, _, _, rfl⟩
    · rintro ρ M2 ⟨-, rfl, c, d, rfl⟩
      exact ⟨trivial, hN _ _ ⟨rfl, _, _, _, _, rfl⟩⟩
  · rintro ρ M' ⟨rfl, a, b, c, d, rfl⟩
    exact ⟨trivial, kSet_same h⟩
/-! ### the eased lot -/
theorem good_snoc {ws acc : List Wd1} {w : Wd1} (g : Good ws) (hs : ∀ x ∈ acc, x ∈ ws) (nd : acc.Nodup) (hw : w ∈ ws) (hn : w ∉ acc) : Good (acc ++ [w]) := by
  have nd2 : (acc ++ [w]).Nodup := by
    rw [List.nodup_append]
    refine ⟨nd, by simp, fun x hx y hy e => ?_⟩
    rw [List.mem_singleton] at hy
    exact hn (hy ▸ e ▸ hx)
  have sub : ∀ x ∈ acc ++ [w], x ∈ ws := fun x hx => by
    rcases List.mem_append.mp hx with hx | hx
    · exact hs x hx
    · rw [List.mem_singleton] at hx; rw [hx]; exact hw
  exact ⟨by rw [List.length_append]; simp, Nat.le_trans (List.Nodup.length_le_of_subset nd2 sub) g.few, fun x hx => g.len x (sub x hx), fun x hx => g.row x (sub x hx), nd2⟩
theorem eased_app : ∀ (a b acc : List Wd1), easedL acc (a ++ b) = easedL (easedL acc a) b
  | [], b, acc => rfl
  | w :: a, b, acc => by rw [List.cons_append, easedL, easedL, eased_app a b]
theorem eased_sub (acc : List Wd1) : ∀ (ws : List Wd1), (∀ x ∈ easedL acc ws, x ∈ acc ∨ x ∈ ws) ∧ (acc.Nodup → (easedL acc ws).Nodup)
  | [] => ⟨fun x hx => .inl hx, id⟩
  | w :: r => by
    rw [easedL]
    split
    · rename_i hc
      obtain ⟨h1, h2⟩ := eased_sub (acc ++ [w]) r
      refine ⟨fun x hx => ?_, fun nd => h2 ?_⟩
      · rcases h1 x hx with hx | hx
        · rcases List.mem_append.mp hx with hx | hx
          · exact .inl hx
          · rw [List.mem_singleton] at hx; exact .inr (by simp [hx])
        · exact .inr (List.mem_cons_of_mem _ hx)
      · rw [List.nodup_append]
        refine ⟨nd, by simp, fun x hx y hy e => ?_⟩
        rw [List.mem_singleton] at hy
        exact hc.1 (hy ▸ e ▸ hx)
    · obtain ⟨h1, h2⟩ := eased_sub acc r
      exact ⟨fun x hx => (h1 x hx).imp id fun z => List.mem_cons_of_mem _ z, h2⟩
theorem dat__law_eased : Dat 1 nm__law_eased (fs__law_eased A) (ph__law_eased A) := by
  rintro ds M Kp KE - ⟨d, ws, rfl, hv, g, h⟩
  have hw8 := g.few
  simp only [dRet, dCB, dCons, dNil, dLc, dLc2, dIS, dIL, dIT, dIR1, dIR2, dIEL, dIET, dIES, dVar, dC, dOp, dUn, dTest, kTest, dChain, kChain, dAnd, dOr, dNot, dTru, dSeq, dNext, dIfS, dFor, dAsg, dName, dGTup, dGCons, dGNil, dLst, dTup, dSl, dON, dOS, dOrV, dAndV, dNotV, dIf, dPar, dAug, dGSub, dRetN, dBreak, dCont, dDrop, dYes, dNever, startD, ksOf, wipeR, List.map_cons, List.map_nil, List.cons_append, List.nil_append, List.getElem?_cons_zero, List.getElem?_cons_succ, List.length_cons, List.length_nil, Nat.reduceAdd, Nat.reduceSub, List.reduceReplicate, List.set_cons_zero, List.set_cons_succ, nB, newL, decide_true, true_and, and_true, eq_self, reduceIte, List.length_map, Bool.not_true, Bool.not_false, ph__law_eased]
  refine ⟨by unfold sizeLine; omega, fun q hq => ?_⟩
  have hvv : ∀ o, viewL (updM M q o) d = some (wsD ws) := fun o => viewL_new hq hv
  refine iterL_v (hvv _) fun P hP => for_inv (fun i ρ M' => M' = updM M q (.lst (wsD (easedL [] (ws.take i)))) ∧ ∃ a, ρ = [some d, some (.ptr q), a]) ⟨rfl, _, rfl⟩ ?_ ?_
  · rintro i x ρ M' Nx hx ⟨rfl, a, rfl⟩ hN
    refine ⟨hP _ (hvv _), ?_⟩
    obtain ⟨w, hw, rfl⟩ := wsD_get hx
    have hwm := List.mem_of_getElem? hw
    have enext : easedL [] (ws.take (i + 1)) = if w ∉ easedL [] (ws.take i) ∧ OneWay (easedL [] (ws.take i) ++ [w]) then easedL [] (ws.take i) ++ [w] else easedL [] (ws.take i) := by
      rw [List.take_add_one, hw, eased_app]
      rfl
    obtain ⟨hsub, hnd⟩ := eased_sub [] (ws.take i)
    have hnd := hnd List.nodup_nil
    have hsub : ∀ x ∈ easedL [] (ws.take i), x ∈ ws := fun x hx => (hsub x hx).elim (fun z => absurd z (by simp)) fun z => List.mem_of_mem_take z
    generalize easedL [] (ws.take i) = acc at enext hnd hsub ⊢
    have hal : acc.length ≤ 8 := Nat.le_trans (List.Nodup.length_le_of_subset hnd hsub) hw8
    have av : viewL (updM M q (.lst (wsD acc))) (.ptr q) = some (wsD acc) := viewL_ptr.mpr updM_same
    try simp only [dRet, dCB, dCons, dNil, dLc, dLc2, dIS, dIL, dIT, dIR1, dIR2, dIEL, dIET, dIES, dVar, dC, dOp, dUn, dTest, kTest, dChain, kChain, dAnd, dOr, dNot, dTru, dSeq, dNext, dIfS, dFor, dAsg, dName, dGTup, dGCons, dGNil, dLst, dTup, dSl, dON, dOS, dOrV, dAndV, dNotV, dIf, dPar, dAug, dGSub, dRetN, dBreak, dCont, dDrop, dYes, dNever, startD, ksOf, wipeR, List.map_cons, List.map_nil, List.cons_append, List.nil_append, List.getElem?_cons_zero, List.getElem?_cons_succ, List.length_cons, List.length_nil, Nat.reduceAdd, Nat.reduceSub, List.reduceReplicate, List.set_cons_zero, List.set_cons_succ, nB, newL, decide_true, true_and, and_true, eq_self, reduceIte, List.length_map, Bool.not_true, Bool.not_false]
    refine in_view av rfl (good_flat acc) ?_
    rw [any_in]
    by_cases hm : w ∈ acc
    · rw [decide_eq_true hm]
      refine hN _ _ ⟨?_, _, rfl⟩
      rw [enext, if_neg (fun z => z.1 hm)]
    · rw [decide_eq_false hm]
      have gs := good_snoc g hsub hnd hwm hm
      try simp only [dRet, dCB, dCons, dNil, dLc, dLc2, dIS, dIL, dIT, dIR1, dIR2, dIEL, dIET, dIES, dVar, dC, dOp, dUn, dTest, kTest, dChain, kChain, dAnd, dOr, dNot, dTru, dSeq, dNext, dIfS, dFor, dAsg, dName, dGTup, dGCons, dGNil, dLst, dTup, dSl, dON, dOS, dOrV, dAndV, dNotV, dIf, dPar, dAug, dGSub, dRetN, dBreak, dCont, dDrop, dYes, dNever, startD, ksOf, wipeR, List.map_cons, List.map_nil, List.cons_append, List.nil_append, List.getElem?_cons_zero, List.getElem?_cons_succ, List.length_cons, List.length_nil, Nat.reduceAdd, Nat.reduceSub, List.reduceReplicate, List.set_cons_zero, List.set_cons_succ, nB, newL, decide_true, true_and, and_true, eq_self, reduceIte, List.length_map, Bool.not_true, Bool.not_false]
      refine ⟨show 1 ≤ sizeLine by unfold sizeLine; omega, ?_⟩
      show ∃ a b, viewL (updM M q (.lst (wsD acc))) (.ptr q) = some a ∧ viewL (updM M q (.lst (wsD acc))) (.lst [tD w]) = some b ∧ a.length + b.length ≤ sizeLine ∧ newL false (a ++ b) _ _
      refine ⟨_, _, av, rfl, by rw [wsD_len]; show acc.length + 1 ≤ _; unfold sizeLine; omega, ?_⟩
      rw [← wsD_snoc]
      simp only [dRet, dCB, dCons, dNil, dLc, dLc2, dIS, dIL, dIT, dIR1, dIR2, dIEL, dIET, dIES, dVar, dC, dOp, dUn, dTest, kTest, dChain, kChain, dAnd, dOr, dNot, dTru, dSeq, dNext, dIfS, dFor, dAsg, dName, dGTup, dGCons, dGNil, dLst, dTup, dSl, dON, dOS, dOrV, dAndV, dNotV, dIf, dPar, dAug, dGSub, dRetN, dBreak, dCont, dDrop, dYes, dNever, startD, ksOf, wipeR, List.map_cons, List.map_nil, List.cons_append, List.nil_append, List.getElem?_cons_zero, List.getElem?_cons_succ, List.length_cons, List.length_nil, Nat.reduceAdd, Nat.reduceSub, List.reduceReplicate, List.set_cons_zero, List.set_cons_succ, nB, newL, decide_true, true_and, and_true, eq_self, reduceIte, List.length_map, Bool.not_true, Bool.not_false, dCallN]
      refine ⟨_, acc ++ [w], rfl, rfl, gs, fun qs _ _ => ?_⟩
      refine ix_tup (i := 1) (d := .bl (decide (¬ OneWay (acc ++ [w])))) rfl ⟨_, rfl, ?_⟩
      by_cases ho : OneWay (acc ++ [w])
      · rw [decide_eq_false (show ¬ ¬ OneWay (acc ++ [w]) from fun z => z ho)]
        simp only [dRet, dCB, dCons, dNil, dLc, dLc2, dIS, dIL, dIT, dIR1, dIR2, dIEL, dIET, dIES, dVar, dC, dOp, dUn, dTest, kTest, dChain, kChain, dAnd, dOr, dNot, dTru, dSeq, dNext, dIfS, dFor, dAsg, dName, dGTup, dGCons, dGNil, dLst, dTup, dSl, dON, dOS, dOrV, dAndV, dNotV, dIf, dPar, dAug, dGSub, dRetN, dBreak, dCont, dDrop, dYes, dNever, startD, ksOf, wipeR, List.map_cons, List.map_nil, List.cons_append, List.nil_append, List.getElem?_cons_zero, List.getElem?_cons_succ, List.length_cons, List.length_nil, Nat.reduceAdd, Nat.reduceSub, List.reduceReplicate, List.set_cons_zero, List.set_cons_succ, nB, newL, decide_true, true_and, and_true, eq_self, reduceIte, List.length_map, Bool.not_true, Bool.not_false, dBM]
        refine ⟨tyD_lst updM_same, app_ptr updM_same (by rw [wsD_len]; unfold sizeLine; omega) ?_⟩
        rw [updM_upd]
        refine hN _ _ ⟨?_, _, rfl⟩
        rw [enext, if_pos ⟨hm, ho⟩, wsD_snoc]
      · rw [decide_eq_true ho]
        refine hN _ _ ⟨?_, _, rfl⟩
        rw [enext, if_neg (fun z => ho z.2)]
  · rintro ρ M' ⟨rfl, a, rfl⟩
    refine ⟨hP _ (hvv _), ?_⟩
    rw [wsD_len, List.take_length]
    exact ret_new h hq (Ext.refl _)
end Lw
end
noncomputable section
namespace Lw
open PySem PySem.Spec PyProof.Rows L2 Evl Dl Classical
variable (A : Ad)
/-- [1 for w in .. if pr w] == [] -/
theorem none_lc {P : Mem → Prop} {k : Nat} {α : FT} {ρ : Rho} {ws : List Wd1} {M : Mem} {Kq : KD} (pr : Wd1 → Bool) (hP : P M) (hl : ws.length ≤ 1000)
    (hc : ∀ w ∈ ws, ∀ Kc : Bool → Mem → Prop, Kc (pr w) M → α (ρ.set k (some (tD w))) M Kc) (h : Kq (.bl (!decide (∃ w ∈ ws, pr w = true))) M) :
    lcD P (dName k) α (dC (.int 1)) ρ (wsD ws) [] M fun acc M2 => 0 ≤ sizeLine ∧ δEq false (.lst acc) (.lst []) M2 Kq := by
  refine lc_map (fun _ => .int 1) (fun x => match x with | .str y => pr y.cps.toList | _ => false) hP _ _ ?_ ?_ ?_
  · simp only [List.length_nil, wsD, List.length_map]; unfold sizeLine; omega
  · intro x hx Q R hQ hR
    obtain ⟨w, hw, rfl⟩ := List.mem_map.mp hx
    show α (ρ.set k (some (tD w))) M _
    refine hc w hw _ ?_
    cases e : pr w with
    | true => exact hQ e
    | false => exact hR e
  · refine ⟨Nat.zero_le _, eq_nil (ds := _) rfl (fun d hd => ?_) ?_⟩
    · rw [List.nil_append] at hd
      obtain ⟨_, _, rfl⟩ := List.mem_map.mp hd
      exact lay_int _ _
    · have e : (([] : List D) ++ ((wsD ws).filter fun x => match x with | .str y => pr y.cps.toList | _ => false).map fun _ => D.int 1).isEmpty = !decide (∃ w ∈ ws, pr w = true) := by
        rw [List.nil_append, Bool.eq_iff_iff, Bool.not_eq_true', decide_eq_false_iff_not]
        simp only [List.isEmpty_iff, List.map_eq_nil_iff, List.filter_eq_nil_iff, wsD, List.mem_map, forall_exists_index, and_imp, forall_apply_eq_imp_iff₂]
        constructor
        · rintro z ⟨w, hw, hp⟩
          exact z w hw hp
        · intro z w hw hp
          exact z ⟨w, hw, hp⟩
      show Kq (.bl _) M
      rw [e]
      exact h
theorem pre_iff {a b : Wd1} : b.take a.length = a ↔ a <+: b := ⟨fun h => h ▸ List.take_prefix _ _, fun h => (List.prefix_iff_eq_take.mp h).symm⟩
theorem apart_app : ∀ (a b acc : List Wd1), apartL acc (a ++ b) = apartL (apartL acc a) b
  | [], b, acc => rfl
  | w :: a, b, acc => by rw [List.cons_append, apartL, apartL, apart_app a b]
theorem apart_sub (acc : List Wd1) : ∀ (ws : List Wd1), (∀ x ∈ apartL acc ws, x ∈ acc ∨ x ∈ ws) ∧ (apartL acc ws).length ≤ acc.length + ws.length
  | [] => ⟨fun x hx => .inl hx, Nat.le_refl _⟩
  | w :: r => by
    rw [apartL]
    split
    · obtain ⟨h1, h2⟩ := apart_sub acc r
      exact ⟨fun x hx => (h1 x hx).imp id fun z => List.mem_cons_of_mem _ z, by rw [List.length_cons]; omega⟩
    · obtain ⟨h1, h2⟩ := apart_sub (acc ++ [w]) r
      refine ⟨fun x hx => ?_, by rw [List.length_append] at h2; rw [List.length_cons]; simp only [List.length_cons, List.length_nil] at h2; omega⟩
      rcases h1 x hx with hx | hx
      · rcases List.mem_append.mp hx with hx | hx
        · exact .inl hx
        · rw [List.mem_singleton] at hx; exact .inr (by simp [hx])
      · exact .inr (List.mem_cons_of_mem _ hx)
theorem dat__law_apart : Dat 1 nm__law_apart (fs__law_apart A) (ph__law_apart A) := by
  rintro ds M Kp KE - ⟨d, ws, rfl, hv, hl, hwl, h⟩
  simp only [dRet, dCB, dCons, dNil, dLc, dLc2, dIS, dIL, dIT, dIR1, dIR2, dIEL, dIET, dIES, dVar, dC, dOp, dUn, dTest, kTest, dChain, kChain, dAnd, dOr, dNot, dTru, dSeq, dNext, dIfS, dFor, dAsg, dName, dGTup, dGCons, dGNil, dLst, dTup, dSl, dON, dOS, dOrV, dAndV, dNotV, dIf, dPar, dAug, dGSub, dRetN, dBreak, dCont, dDrop, dYes, dNever, startD, ksOf, wipeR, List.map_cons, List.map_nil, List.cons_append, List.nil_append, List.getElem?_cons_zero, List.getElem?_cons_succ, List.length_cons, List.length_nil, Nat.reduceAdd, Nat.reduceSub, List.reduceReplicate, List.set_cons_zero, List.set_cons_succ, nB, newL, decide_true, true_and, and_true, eq_self, reduceIte, List.length_map, Bool.not_true, Bool.not_false, ph__law_apart]
  refine ⟨by unfold sizeLine; omega, fun q hq => ?_⟩
  have hvv : ∀ o, viewL (updM M q o) d = some (wsD ws) := fun o => viewL_new hq hv
  refine iterL_v (hvv _) fun P hP => for_inv (fun i ρ M' => M' = updM M q (.lst (wsD (apartL [] (ws.take i)))) ∧ ∃ a b, ρ = [some d, some (.ptr q), a, b]) ⟨rfl, _, _, rfl⟩ ?_ ?_
  · rintro i x ρ M' Nx hx ⟨rfl, a, b, rfl⟩ hN
    refine ⟨hP _ (hvv _), ?_⟩
    obtain ⟨w, hw, rfl⟩ := wsD_get hx
    have hwm := List.mem_of_getElem? hw
    have hwb : w.length ≤ sizeLine := Nat.le_trans (hwl w hwm) (by unfold sizeLine; omega)
    have enext : apartL [] (ws.take (i + 1)) = if ∃ s ∈ apartL [] (ws.take i), w <+: s ∨ s <+: w then apartL [] (ws.take i) else apartL [] (ws.take i) ++ [w] := by
      rw [List.take_add_one, hw, apart_app]
      rfl
    obtain ⟨hsub, hlen⟩ := apart_sub [] (ws.take i)
    have hsub : ∀ x ∈ apartL [] (ws.take i), x ∈ ws := fun x hx => (hsub x hx).elim (fun z => absurd z (by simp)) fun z => List.mem_of_mem_take z
    have hlen : (apartL [] (ws.take i)).length ≤ 100 := by rw [List.length_take] at hlen; simp only [List.length_nil] at hlen; omega
    generalize apartL [] (ws.take i) = acc at enext hsub hlen ⊢
    have av : viewL (updM M q (.lst (wsD acc))) (.ptr q) = some (wsD acc) := viewL_ptr.mpr updM_same
    try simp only [dRet, dCB, dCons, dNil, dLc, dLc2, dIS, dIL, dIT, dIR1, dIR2, dIEL, dIET, dIES, dVar, dC, dOp, dUn, dTest, kTest, dChain, kChain, dAnd, dOr, dNot, dTru, dSeq, dNext, dIfS, dFor, dAsg, dName, dGTup, dGCons, dGNil, dLst, dTup, dSl, dON, dOS, dOrV, dAndV, dNotV, dIf, dPar, dAug, dGSub, dRetN, dBreak, dCont, dDrop, dYes, dNever, startD, ksOf, wipeR, List.map_cons, List.map_nil, List.cons_append, List.nil_append, List.getElem?_cons_zero, List.getElem?_cons_succ, List.length_cons, List.length_nil, Nat.reduceAdd, Nat.reduceSub, List.reduceReplicate, List.set_cons_zero, List.set_cons_succ, nB, newL, decide_true, true_and, and_true, eq_self, reduceIte, List.length_map, Bool.not_true, Bool.not_false]
    refine iterL_v av fun P2 hP2 => none_lc (fun s => decide (w <+: s ∨ s <+: w)) (hP2 _ av) (by omega) (fun s hs Kc hc => ?_) ?_
    · have hsb : s.length ≤ sizeLine := Nat.le_trans (hwl s (hsub s hs)) (by unfold sizeLine; omega)
      simp only [dRet, dCB, dCons, dNil, dLc, dLc2, dIS, dIL, dIT, dIR1, dIR2, dIEL, dIET, dIES, dVar, dC, dOp, dUn, dTest, kTest, dChain, kChain, dAnd, dOr, dNot, dTru, dSeq, dNext, dIfS, dFor, dAsg, dName, dGTup, dGCons, dGNil, dLst, dTup, dSl, dON, dOS, dOrV, dAndV, dNotV, dIf, dPar, dAug, dGSub, dRetN, dBreak, dCont, dDrop, dYes, dNever, startD, ksOf, wipeR, List.map_cons, List.map_nil, List.cons_append, List.nil_append, List.getElem?_cons_zero, List.getElem?_cons_succ, List.length_cons, List.length_nil, Nat.reduceAdd, Nat.reduceSub, List.reduceReplicate, List.set_cons_zero, List.set_cons_succ, nB, newL, decide_true, true_and, and_true, eq_self, reduceIte, List.length_map, Bool.not_true, Bool.not_false, tD]
      refine len_T hwb ?_
      try simp only [dRet, dCB, dCons, dNil, dLc, dLc2, dIS, dIL, dIT, dIR1, dIR2, dIEL, dIET, dIES, dVar, dC, dOp, dUn, dTest, kTest, dChain, kChain, dAnd, dOr, dNot, dTru, dSeq, dNext, dIfS, dFor, dAsg, dName, dGTup, dGCons, dGNil, dLst, dTup, dSl, dON, dOS, dOrV, dAndV, dNotV, dIf, dPar, dAug, dGSub, dRetN, dBreak, dCont, dDrop, dYes, dNever, startD, ksOf, wipeR, List.map_cons, List.map_nil, List.cons_append, List.nil_append, List.getElem?_cons_zero, List.getElem?_cons_succ, List.length_cons, List.length_nil, Nat.reduceAdd, Nat.reduceSub, List.reduceReplicate, List.set_cons_zero, List.set_cons_succ, nB, newL, decide_true, true_and, and_true, eq_self, reduceIte, List.length_map, Bool.not_true, Bool.not_false]
      refine sl_T hsb ?_
      simp only [dRet, dCB, dCons, dNil, dLc, dLc2, dIS, dIL, dIT, dIR1, dIR2, dIEL, dIET, dIES, dVar, dC, dOp, dUn, dTest, kTest, dChain, kChain, dAnd, dOr, dNot, dTru, dSeq, dNext, dIfS, dFor, dAsg, dName, dGTup, dGCons, dGNil, dLst, dTup, dSl, dON, dOS, dOrV, dAndV, dNotV, dIf, dPar, dAug, dGSub, dRetN, dBreak, dCont, dDrop, dYes, dNever, startD, ksOf, wipeR, List.map_cons, List.map_nil, List.cons_append, List.nil_append, List.getElem?_cons_zero, List.getElem?_cons_succ, List.length_cons, List.length_nil, Nat.reduceAdd, Nat.reduceSub, List.reduceReplicate, List.set_cons_zero, List.set_cons_succ, nB, newL, decide_true, true_and, and_true, eq_self, reduceIte, List.length_map, Bool.not_true, Bool.not_false, δEq, dec_T, cutL_to']
      by_cases h1 : w <+: s
      · rw [decide_eq_true (pre_iff.mpr h1)]
        rw [decide_eq_true (show w <+: s ∨ s <+: w from .inl h1)] at hc
        exact hc
      · rw [decide_eq_false (fun z => h1 (pre_iff.mp z))]
        try simp only [dRet, dCB, dCons, dNil, dLc, dLc2, dIS, dIL, dIT, dIR1, dIR2, dIEL, dIET, dIES, dVar, dC, dOp, dUn, dTest, kTest, dChain, kChain, dAnd, dOr, dNot, dTru, dSeq, dNext, dIfS, dFor, dAsg, dName, dGTup, dGCons, dGNil, dLst, dTup, dSl, dON, dOS, dOrV, dAndV, dNotV, dIf, dPar, dAug, dGSub, dRetN, dBreak, dCont, dDrop, dYes, dNever, startD, ksOf, wipeR, List.map_cons, List.map_nil, List.cons_append, List.nil_append, List.getElem?_cons_zero, List.getElem?_cons_succ, List.length_cons, List.length_nil, Nat.reduceAdd, Nat.reduceSub, List.reduceReplicate, List.set_cons_zero, List.set_cons_succ, nB, newL, decide_true, true_and, and_true, eq_self, reduceIte, List.length_map, Bool.not_true, Bool.not_false]
        refine len_T hsb ?_
        try simp only [dRet, dCB, dCons, dNil, dLc, dLc2, dIS, dIL, dIT, dIR1, dIR2, dIEL, dIET, dIES, dVar, dC, dOp, dUn, dTest, kTest, dChain, kChain, dAnd, dOr, dNot, dTru, dSeq, dNext, dIfS, dFor, dAsg, dName, dGTup, dGCons, dGNil, dLst, dTup, dSl, dON, dOS, dOrV, dAndV, dNotV, dIf, dPar, dAug, dGSub, dRetN, dBreak, dCont, dDrop, dYes, dNever, startD, ksOf, wipeR, List.map_cons, List.map_nil, List.cons_append, List.nil_append, List.getElem?_cons_zero, List.getElem?_cons_succ, List.length_cons, List.length_nil, Nat.reduceAdd, Nat.reduceSub, List.reduceReplicate, List.set_cons_zero, List.set_cons_succ, nB, newL, decide_true, true_and, and_true, eq_self, reduceIte, List.length_map, Bool.not_true, Bool.not_false]
        refine sl_T hwb ?_
        simp only [dRet, dCB, dCons, dNil, dLc, dLc2, dIS, dIL, dIT, dIR1, dIR2, dIEL, dIET, dIES, dVar, dC, dOp, dUn, dTest, kTest, dChain, kChain, dAnd, dOr, dNot, dTru, dSeq, dNext, dIfS, dFor, dAsg, dName, dGTup, dGCons, dGNil, dLst, dTup, dSl, dON, dOS, dOrV, dAndV, dNotV, dIf, dPar, dAug, dGSub, dRetN, dBreak, dCont, dDrop, dYes, dNever, startD, ksOf, wipeR, List.map_cons, List.map_nil, List.cons_append, List.nil_append, List.getElem?_cons_zero, List.getElem?_cons_succ, List.length_cons, List.length_nil, Nat.reduceAdd, Nat.reduceSub, List.reduceReplicate, List.set_cons_zero, List.set_cons_succ, nB, newL, decide_true, true_and, and_true, eq_self, reduceIte, List.length_map, Bool.not_true, Bool.not_false, δEq, dec_T, cutL_to']
        have e : decide (w.take s.length = s) = decide (w <+: s ∨ s <+: w) := by
          rw [decide_eq_decide, pre_iff]
          exact ⟨.inr, fun z => z.elim (fun z => absurd z h1) id⟩
        rw [e]
        exact hc
    · have e : decide (∃ s ∈ acc, decide (w <+: s ∨ s <+: w) = true) = decide (∃ s ∈ acc, w <+: s ∨ s <+: w) := by
        rw [decide_eq_decide]
        simp only [decide_eq_true_eq]
      rw [e]
      by_cases hc : ∃ s ∈ acc, w <+: s ∨ s <+: w
      · rw [decide_eq_true hc]
        refine hN _ _ ⟨?_, _, _, rfl⟩
        rw [enext, if_pos hc]
      · rw [decide_eq_false hc]
        simp only [dRet, dCB, dCons, dNil, dLc, dLc2, dIS, dIL, dIT, dIR1, dIR2, dIEL, dIET, dIES, dVar, dC, dOp, dUn, dTest, kTest, dChain, kChain, dAnd, dOr, dNot, dTru, dSeq, dNext, dIfS, dFor, dAsg, dName, dGTup, dGCons, dGNil, dLst, dTup, dSl, dON, dOS, dOrV, dAndV, dNotV, dIf, dPar, dAug, dGSub, dRetN, dBreak, dCont, dDrop, dYes, dNever, startD, ksOf, wipeR, List.map_cons, List.map_nil, List.cons_append, List.nil_append, List.getElem?_cons_zero, List.getElem?_cons_succ, List.length_cons, List.length_nil, Nat.reduceAdd, Nat.reduceSub, List.reduceReplicate, List.set_cons_zero, List.set_cons_succ, nB, newL, decide_true, true_and, and_true, eq_self, reduceIte, List.length_map, Bool.not_true, Bool.not_false, dBM]
        refine ⟨tyD_lst updM_same, app_ptr updM_same (by rw [wsD_len]; unfold sizeLine; omega) ?_⟩
        rw [updM_upd]
        refine hN _ _ ⟨?_, _, _, rfl⟩
        rw [enext, if_neg hc, wsD_snoc]
  · rintro ρ M' ⟨rfl, a, b, rfl⟩
    refine ⟨hP _ (hvv _), ?_⟩
    rw [wsD_len, List.take_length]
    exact ret_new h hq (Ext.refl _)
/-! ### the dict of beginnings -/
def kT (w : Wd1) : Key := .inr (T w)
theorem kT_inj {a b : Wd1} (h : kT a = kT b) : a = b := T_inj.mp (Sum.inr.inj h)
def insT (qs : List Wd1) (q : Wd1) : List Wd1 := if q ∈ qs then qs else qs ++ [q]
theorem keys_putT {kvs : List (Key × D)} {qs : List Wd1} (h : kvs.map (·.1) = qs.map kT) (q : Wd1) (d : D) : (putD kvs (kT q) d).map (·.1) = (insT qs q).map kT := by
  have e : (kvs.any fun kv => decide (kv.1 = kT q)) = decide (q ∈ qs) := by
    have e1 : (kvs.any fun kv => decide (kv.1 = kT q)) = (kvs.map (·.1)).any fun k => decide (k = kT q) := by rw [List.any_map]; rfl
    rw [e1, h, Bool.eq_iff_iff, decide_eq_true_eq]
    simp only [List.any_map, List.any_eq_true, Function.comp, decide_eq_true_eq]
    exact ⟨fun ⟨x, h1, h2⟩ => kT_inj h2 ▸ h1, fun h => ⟨q, h, rfl⟩⟩
  unfold putD insT
  rw [e]
  by_cases z : q ∈ qs
  · rw [if_pos z, if_pos (decide_eq_true z), List.map_map, ← h]
    refine List.map_congr_left fun kv _ => ?_
    show (if kv.1 = kT q then (kv.1, d) else kv).1 = kv.1
    split <;> rfl
  · rw [if_neg z, if_neg (by simp [z]), List.map_append, h, List.map_append]
    rfl
theorem mem_insT {qs : List Wd1} {q r : Wd1} : r ∈ insT qs q ↔ r ∈ qs ∨ r = q := by
  unfold insT
  split
  · exact ⟨.inl, fun h => h.elim id fun e => e ▸ by assumption⟩
  · rw [List.mem_append, List.mem_singleton]
theorem nd_insT {qs : List Wd1} {q : Wd1} (h : qs.Nodup) : (insT qs q).Nodup := by
  unfold insT
  split
  · exact h
  · rename_i z
    rw [List.nodup_append]
    refine ⟨h, by simp, fun a ha b hb e => ?_⟩
    rw [List.mem_singleton] at hb
    exact z (hb ▸ e ▸ ha)
theorem len_insT (qs : List Wd1) (q : Wd1) : (insT qs q).length ≤ qs.length + 1 := by
  unfold insT
  split
  · omega
  · rw [List.length_append]; simp
theorem put_okT {M : Mem} {p0 : Addr} {kvs : List (Key × D)} {qs : List Wd1} {q : Wd1} {d : D} {Kp : Mem → Prop} (hk : kvs.map (·.1) = qs.map kT) (hl : qs.length ≤ 1000)
    (h : ∀ kvs', kvs'.map (·.1) = (insT qs q).map kT → Kp (updM M p0 (.dK kvs'))) : δDPut (.ptr p0) (.str (T q)) d (updM M p0 (.dK kvs)) Kp := by
  have e : updM M p0 (.dK kvs) p0 = some (.dK kvs) := updM_same
  have hz : kvs.length = qs.length := by have := congrArg List.length hk; simpa using this
  show match updM M p0 (.dK kvs) p0 with | some (.dT kvs) => _ | some (.dK kvs) => _ | _ => _
  rw [e]
  refine ⟨kT q, rfl, by unfold sizeLine; omega, ?_⟩
  rw [updM_upd]
  exact h _ (keys_putT hk q d)
theorem val_isT {kvs : List (Key × D)} {qs : List Wd1} (h : kvs.map (·.1) = qs.map kT) (q : Wd1) : (valD kvs (kT q)).isSome = decide (q ∈ qs) := by
  unfold valD
  rw [Option.isSome_map, Bool.eq_iff_iff, List.find?_isSome, decide_eq_true_eq]
  have e1 : (∃ x, x ∈ kvs ∧ decide (x.1 = kT q) = true) ↔ kT q ∈ kvs.map (·.1) := by
    rw [List.mem_map]
    exact ⟨fun ⟨x, h1, h2⟩ => ⟨x, h1, of_decide_eq_true h2⟩, fun ⟨x, h1, h2⟩ => ⟨x, h1, decide_eq_true h2⟩⟩
  rw [e1, h, List.mem_map]
  exact ⟨fun ⟨x, h1, h2⟩ => kT_inj h2 ▸ h1, fun h => ⟨q, h, rfl⟩⟩
theorem keyOf_T (w : Wd1) : keyOf (kT w) = tD w := rfl
theorem has_T {neg : Bool} {M : Mem} {x : D} {kvs : List (Key × D)} {qs : List Wd1} {q : Wd1} {Kp : KD} (hv : viewK M x = some kvs) (hk : kvs.map (·.1) = qs.map kT) (h : Kp (nB neg (decide (q ∈ qs))) M) : δHas neg (.str (T q)) x M Kp :=
  ⟨kvs, kT q, hv, rfl, by show Kp (nB neg (valD kvs (kT q)).isSome) M; rw [val_isT hk]; exact h⟩
theorem Ext.both {M M' : Mem} (h : Dl.Ext M M') {p : Addr} {o : MO} : Dl.Ext (updM M p o) (updM M' p o) := fun a mo e => by
  by_cases z : a = p
  · subst z; rw [updM_same] at e ⊢; exact e
  · rw [updM_ne z] at e ⊢; exact h a mo e
theorem dat_filling : Dat 2 nm_filling (fs_filling A) (ph_filling A) := by
  rintro ds M Kp KE - ⟨ws, k, rfl, g, ha, hk1, hk2, hw, h⟩
  have hw8 := g.few
  have hsl : (LET.take k).length = k := by rw [List.length_take]; simp only [List.length_cons, List.length_nil]; omega
  have hsn : (LET.take k).Nodup := by
    have : LET.Nodup := by decide
    exact this.sublist (List.take_sublist _ _)
  simp only [dRet, dCB, dCons, dNil, dLc, dLc2, dIS, dIL, dIT, dIR1, dIR2, dIEL, dIET, dIES, dVar, dC, dOp, dUn, dTest, kTest, dChain, kChain, dAnd, dOr, dNot, dTru, dSeq, dNext, dIfS, dFor, dAsg, dName, dGTup, dGCons, dGNil, dLst, dTup, dSl, dON, dOS, dOrV, dAndV, dNotV, dIf, dPar, dAug, dGSub, dRetN, dBreak, dCont, dDrop, dYes, dNever, startD, ksOf, wipeR, List.map_cons, List.map_nil, List.cons_append, List.nil_append, List.getElem?_cons_zero, List.getElem?_cons_succ, List.length_cons, List.length_nil, Nat.reduceAdd, Nat.reduceSub, List.reduceReplicate, List.set_cons_zero, List.set_cons_succ, nB, newL, decide_true, true_and, and_true, eq_self, reduceIte, List.length_map, Bool.not_true, Bool.not_false, ph_filling, dCallN, dDNew]
  refine ⟨ws, k, rfl, g, hk1, hk2, hw, ws, rfl, g, ha, fun p hp => ?_⟩
  generalize hsg : LET.take k = sg at h hw hsl hsn
  simp only [dRet, dCB, dCons, dNil, dLc, dLc2, dIS, dIL, dIT, dIR1, dIR2, dIEL, dIET, dIES, dVar, dC, dOp, dUn, dTest, kTest, dChain, kChain, dAnd, dOr, dNot, dTru, dSeq, dNext, dIfS, dFor, dAsg, dName, dGTup, dGCons, dGNil, dLst, dTup, dSl, dON, dOS, dOrV, dAndV, dNotV, dIf, dPar, dAug, dGSub, dRetN, dBreak, dCont, dDrop, dYes, dNever, startD, ksOf, wipeR, List.map_cons, List.map_nil, List.cons_append, List.nil_append, List.getElem?_cons_zero, List.getElem?_cons_succ, List.length_cons, List.length_nil, Nat.reduceAdd, Nat.reduceSub, List.reduceReplicate, List.set_cons_zero, List.set_cons_succ, nB, newL, decide_true, true_and, and_true, eq_self, reduceIte, List.length_map, Bool.not_true, Bool.not_false, dFld, stk]
  refine ⟨_, _, _, rfl, rfl, rfl, ?_⟩
  try simp only [dRet, dCB, dCons, dNil, dLc, dLc2, dIS, dIL, dIT, dIR1, dIR2, dIEL, dIET, dIES, dVar, dC, dOp, dUn, dTest, kTest, dChain, kChain, dAnd, dOr, dNot, dTru, dSeq, dNext, dIfS, dFor, dAsg, dName, dGTup, dGCons, dGNil, dLst, dTup, dSl, dON, dOS, dOrV, dAndV, dNotV, dIf, dPar, dAug, dGSub, dRetN, dBreak, dCont, dDrop, dYes, dNever, startD, ksOf, wipeR, List.map_cons, List.map_nil, List.cons_append, List.nil_append, List.getElem?_cons_zero, List.getElem?_cons_succ, List.length_cons, List.length_nil, Nat.reduceAdd, Nat.reduceSub, List.reduceReplicate, List.set_cons_zero, List.set_cons_succ, nB, newL, decide_true, true_and, and_true, eq_self, reduceIte, List.length_map, Bool.not_true, Bool.not_false]
  -- the beginnings
  refine for_inv (fun i ρ M' => ∃ kvs qs, M' = updM M p (.dK kvs) ∧ kvs.map (·.1) = qs.map kT ∧ qs.Nodup ∧ qs.length ≤ 9 * i ∧ (∀ x, x ∈ qs ↔ ∃ w ∈ ws.take i, x <+: w) ∧ ∃ a b c d e, ρ = [some (stk A ws), some (.int k), some (.ptr p), a, b, c, d, e])
    ⟨[], [], rfl, rfl, List.nodup_nil, by simp, by simp, _, _, _, _, _, rfl⟩ ?_ ?_
  · rintro i x ρ M' Nx hx ⟨kvs, qs, rfl, hkv, nd, hql, hqs, a, b, c, d, e, rfl⟩ hN
    refine ⟨trivial, ?_⟩
    obtain ⟨w, hwi, rfl⟩ := wsD_get hx
    have hwm := List.mem_of_getElem? hwi
    have hi := (List.getElem?_eq_some_iff.mp hwi).1
    have hl8 := (g.len w hwm).2
    simp only [dRet, dCB, dCons, dNil, dLc, dLc2, dIS, dIL, dIT, dIR1, dIR2, dIEL, dIET, dIES, dVar, dC, dOp, dUn, dTest, kTest, dChain, kChain, dAnd, dOr, dNot, dTru, dSeq, dNext, dIfS, dFor, dAsg, dName, dGTup, dGCons, dGNil, dLst, dTup, dSl, dON, dOS, dOrV, dAndV, dNotV, dIf, dPar, dAug, dGSub, dRetN, dBreak, dCont, dDrop, dYes, dNever, startD, ksOf, wipeR, List.map_cons, List.map_nil, List.cons_append, List.nil_append, List.getElem?_cons_zero, List.getElem?_cons_succ, List.length_cons, List.length_nil, Nat.reduceAdd, Nat.reduceSub, List.reduceReplicate, List.set_cons_zero, List.set_cons_succ, nB, newL, decide_true, true_and, and_true, eq_self, reduceIte, List.length_map, Bool.not_true, Bool.not_false, tD]
    refine len_T (word_small g hwm) ?_
    simp only [dRet, dCB, dCons, dNil, dLc, dLc2, dIS, dIL, dIT, dIR1, dIR2, dIEL, dIET, dIES, dVar, dC, dOp, dUn, dTest, kTest, dChain, kChain, dAnd, dOr, dNot, dTru, dSeq, dNext, dIfS, dFor, dAsg, dName, dGTup, dGCons, dGNil, dLst, dTup, dSl, dON, dOS, dOrV, dAndV, dNotV, dIf, dPar, dAug, dGSub, dRetN, dBreak, dCont, dDrop, dYes, dNever, startD, ksOf, wipeR, List.map_cons, List.map_nil, List.cons_append, List.nil_append, List.getElem?_cons_zero, List.getElem?_cons_succ, List.length_cons, List.length_nil, Nat.reduceAdd, Nat.reduceSub, List.reduceReplicate, List.set_cons_zero, List.set_cons_succ, nB, newL, decide_true, true_and, and_true, eq_self, reduceIte, List.length_map, Bool.not_true, Bool.not_false, δAdd]
    refine ⟨by omega, by omega, ?_⟩
    refine for_inv (fun j ρ M' => ∃ kvs qs2, M' = updM M p (.dK kvs) ∧ kvs.map (·.1) = qs2.map kT ∧ qs2.Nodup ∧ qs2.length ≤ 9 * i + j ∧ (∀ x, x ∈ qs2 ↔ x ∈ qs ∨ ∃ s, s < j ∧ x = w.take s) ∧ ∃ b c d e, ρ = [some (stk A ws), some (.int k), some (.ptr p), some (tD w), b, c, d, e])
      ⟨kvs, qs, rfl, hkv, nd, by omega, by simp, _, _, _, _, rfl⟩ ?_ ?_
    · rintro j x ρ M' Nx2 hx2 ⟨kvs2, qs2, rfl, hkv2, nd2, hql2, hqs2, b, c, d, e, rfl⟩ hN2
      refine ⟨trivial, ?_⟩
      obtain ⟨hj, rfl⟩ := rangeD_inv hx2
      simp only [dRet, dCB, dCons, dNil, dLc, dLc2, dIS, dIL, dIT, dIR1, dIR2, dIEL, dIET, dIES, dVar, dC, dOp, dUn, dTest, kTest, dChain, kChain, dAnd, dOr, dNot, dTru, dSeq, dNext, dIfS, dFor, dAsg, dName, dGTup, dGCons, dGNil, dLst, dTup, dSl, dON, dOS, dOrV, dAndV, dNotV, dIf, dPar, dAug, dGSub, dRetN, dBreak, dCont, dDrop, dYes, dNever, startD, ksOf, wipeR, List.map_cons, List.map_nil, List.cons_append, List.nil_append, List.getElem?_cons_zero, List.getElem?_cons_succ, List.length_cons, List.length_nil, Nat.reduceAdd, Nat.reduceSub, List.reduceReplicate, List.set_cons_zero, List.set_cons_succ, nB, newL, decide_true, true_and, and_true, eq_self, reduceIte, List.length_map, Bool.not_true, Bool.not_false, dDPut, tD]
      refine sl_T (word_small g hwm) ?_
      simp only [dRet, dCB, dCons, dNil, dLc, dLc2, dIS, dIL, dIT, dIR1, dIR2, dIEL, dIET, dIES, dVar, dC, dOp, dUn, dTest, kTest, dChain, kChain, dAnd, dOr, dNot, dTru, dSeq, dNext, dIfS, dFor, dAsg, dName, dGTup, dGCons, dGNil, dLst, dTup, dSl, dON, dOS, dOrV, dAndV, dNotV, dIf, dPar, dAug, dGSub, dRetN, dBreak, dCont, dDrop, dYes, dNever, startD, ksOf, wipeR, List.map_cons, List.map_nil, List.cons_append, List.nil_append, List.getElem?_cons_zero, List.getElem?_cons_succ, List.length_cons, List.length_nil, Nat.reduceAdd, Nat.reduceSub, List.reduceReplicate, List.set_cons_zero, List.set_cons_succ, nB, newL, decide_true, true_and, and_true, eq_self, reduceIte, List.length_map, Bool.not_true, Bool.not_false, Int.zero_add, cutL_to']
      refine put_okT hkv2 (by omega) fun kvs' hk' => hN2 _ _ ⟨kvs', _, rfl, hk', nd_insT nd2, by have := len_insT qs2 (w.take j); omega, fun x => ?_, _, _, _, _, rfl⟩
      rw [mem_insT, hqs2, or_assoc]
      refine or_congr Iff.rfl ⟨fun z => z.elim (fun ⟨s, h1, h2⟩ => ⟨s, by omega, h2⟩) fun z => ⟨j, by omega, z⟩, fun ⟨s, h1, h2⟩ => ?_⟩
      by_cases hs : s = j
      · exact .inr (hs ▸ h2)
      · exact .inl ⟨s, by omega, h2⟩
    · rintro ρ M' ⟨kvs2, qs2, rfl, hkv2, nd2, hql2, hqs2, b, c, d, e, rfl⟩
      rw [rangeD_length] at hql2 hqs2
      refine ⟨trivial, hN _ _ ⟨kvs2, qs2, rfl, hkv2, nd2, by omega, fun x => ?_, _, _, _, _, _, rfl⟩⟩
      rw [hqs2, hqs]
      constructor
      · rintro (⟨u, hu, hx⟩ | ⟨s, hs, rfl⟩)
        · exact ⟨u, (take_next hwi u).mpr (.inl hu), hx⟩
        · exact ⟨w, (take_next hwi w).mpr (.inr rfl), List.take_prefix _ _⟩
      · rintro ⟨u, hu, hxu⟩
        rcases (take_next hwi u).mp hu with hu | rfl
        · exact .inl ⟨u, hu, hxu⟩
        · exact .inr ⟨x.length, by have := hxu.length_le; omega, List.prefix_iff_eq_take.mp hxu⟩
  rintro ρ M' ⟨kvs, qs, rfl, hkv, nd, hql, hqs, a, b, c, d, e, rfl⟩
  refine ⟨trivial, ?_⟩
  rw [wsD_len] at hql hqs
  rw [List.take_length] at hqs
  try simp only [dRet, dCB, dCons, dNil, dLc, dLc2, dIS, dIL, dIT, dIR1, dIR2, dIEL, dIET, dIES, dVar, dC, dOp, dUn, dTest, kTest, dChain, kChain, dAnd, dOr, dNot, dTru, dSeq, dNext, dIfS, dFor, dAsg, dName, dGTup, dGCons, dGNil, dLst, dTup, dSl, dON, dOS, dOrV, dAndV, dNotV, dIf, dPar, dAug, dGSub, dRetN, dBreak, dCont, dDrop, dYes, dNever, startD, ksOf, wipeR, List.map_cons, List.map_nil, List.cons_append, List.nil_append, List.getElem?_cons_zero, List.getElem?_cons_succ, List.length_cons, List.length_nil, Nat.reduceAdd, Nat.reduceSub, List.reduceReplicate, List.set_cons_zero, List.set_cons_succ, nB, newL, decide_true, true_and, and_true, eq_self, reduceIte, List.length_map, Bool.not_true, Bool.not_false]
  refine ⟨by unfold sizeLine; omega, fun q hq => ?_⟩
  have hpq : p ≠ q := fun z => by rw [← z, updM_same] at hq; cases hq
  have hqM : M q = none := by rw [updM_ne (Ne.symm hpq)] at hq; exact hq
  refine ⟨p, kvs, by rw [updM_ne hpq, updM_same], fun od vs => ?_⟩
  have hql72 : qs.length ≤ 72 := by omega
  have hpM2 : updM (updM (updM M p (.dK kvs)) q (.lst [])) p (.lkK od vs kvs) p = some (.lkK od vs kvs) := updM_same
  have hqM2 : updM (updM (updM M p (.dK kvs)) q (.lst [])) p (.lkK od vs kvs) q = some (.lst (wsD [])) := by rw [updM_ne (Ne.symm hpq), updM_same]; rfl
  have hE2 : Ext M (updM (updM (updM M p (.dK kvs)) q (.lst [])) p (.lkK od vs kvs)) := Ext.new (Ext.new (Ext.new (Ext.refl M) hp) hqM) hp
  generalize updM (updM (updM M p (.dK kvs)) q (.lst [])) p (.lkK od vs kvs) = M2 at hpM2 hqM2 hE2 ⊢
  have ekeys : (kvs.map fun kv => keyOf kv.1) = wsD qs := by
    have : (kvs.map fun kv => keyOf kv.1) = (kvs.map (·.1)).map keyOf := by rw [List.map_map]; rfl
    rw [this, hkv, List.map_map]
    rfl
  simp only [dRet, dCB, dCons, dNil, dLc, dLc2, dIS, dIL, dIT, dIR1, dIR2, dIEL, dIET, dIES, dVar, dC, dOp, dUn, dTest, kTest, dChain, kChain, dAnd, dOr, dNot, dTru, dSeq, dNext, dIfS, dFor, dAsg, dName, dGTup, dGCons, dGNil, dLst, dTup, dSl, dON, dOS, dOrV, dAndV, dNotV, dIf, dPar, dAug, dGSub, dRetN, dBreak, dCont, dDrop, dYes, dNever, startD, ksOf, wipeR, List.map_cons, List.map_nil, List.cons_append, List.nil_append, List.getElem?_cons_zero, List.getElem?_cons_succ, List.length_cons, List.length_nil, Nat.reduceAdd, Nat.reduceSub, List.reduceReplicate, List.set_cons_zero, List.set_cons_succ, nB, newL, decide_true, true_and, and_true, eq_self, reduceIte, List.length_map, Bool.not_true, Bool.not_false, dIKeys, hpM2, ekeys]
  refine for_inv (fun j ρ M' => ∃ fd : List Wd1, M' p = some (.lkK od vs kvs) ∧ M' q = some (.lst (wsD fd)) ∧ Ext M M' ∧ fd.Nodup ∧ fd.length ≤ 26 * j ∧ (∀ x, x ∈ fd ↔ ∃ b ∈ qs.take j, b ∉ ws ∧ ∃ c ∈ sg, x = b ++ [c] ∧ x ∉ qs) ∧ ∃ d e, ρ = [some (stk A ws), some (.int k), some (.ptr p), a, b, some (.ptr q), d, e])
    ⟨[], hpM2, hqM2, hE2, List.nodup_nil, by simp, by simp, _, _, rfl⟩ ?_ ?_
  · rintro j x ρ M' Nx hx ⟨fd, hpl, hql', hE, nd2, hfl, hfd, d2, e2, rfl⟩ hN
    refine ⟨hpl, ?_⟩
    obtain ⟨bg, hbg, rfl⟩ := wsD_get hx
    have hbm := List.mem_of_getElem? hbg
    have hbl : bg.length ≤ 8 := by
      obtain ⟨w, hwm, hpre⟩ := (hqs bg).mp hbm
      have := hpre.length_le
      have := (g.len w hwm).2
      omega
    have hj := (List.getElem?_eq_some_iff.mp hbg).1
    have keep : bg ∈ ws → ∀ x, x ∈ fd ↔ ∃ b ∈ qs.take (j + 1), b ∉ ws ∧ ∃ c ∈ sg, x = b ++ [c] ∧ x ∉ qs := fun hb x => by
      rw [hfd]
      refine ⟨fun ⟨b, h1, h2⟩ => ⟨b, (take_next hbg b).mpr (.inl h1), h2⟩, fun ⟨b, h1, h2⟩ => ?_⟩
      rcases (take_next hbg b).mp h1 with h1 | rfl
      · exact ⟨b, h1, h2⟩
      · exact absurd hb h2.1
    simp only [dRet, dCB, dCons, dNil, dLc, dLc2, dIS, dIL, dIT, dIR1, dIR2, dIEL, dIET, dIES, dVar, dC, dOp, dUn, dTest, kTest, dChain, kChain, dAnd, dOr, dNot, dTru, dSeq, dNext, dIfS, dFor, dAsg, dName, dGTup, dGCons, dGNil, dLst, dTup, dSl, dON, dOS, dOrV, dAndV, dNotV, dIf, dPar, dAug, dGSub, dRetN, dBreak, dCont, dDrop, dYes, dNever, startD, ksOf, wipeR, List.map_cons, List.map_nil, List.cons_append, List.nil_append, List.getElem?_cons_zero, List.getElem?_cons_succ, List.length_cons, List.length_nil, Nat.reduceAdd, Nat.reduceSub, List.reduceReplicate, List.set_cons_zero, List.set_cons_succ, nB, newL, decide_true, true_and, and_true, eq_self, reduceIte, List.length_map, Bool.not_true, Bool.not_false, dFld, stk]
    refine ⟨_, _, _, rfl, rfl, rfl, ?_⟩
    refine ⟨wsD ws, .inr rfl, rfl, good_flat ws, ?_⟩
    rw [any_in]
    by_cases hb : bg ∈ ws
    · rw [decide_eq_true hb]
      exact hN _ _ ⟨fd, hpl, hql', hE, nd2, by omega, keep hb, _, _, rfl⟩
    · rw [decide_eq_false hb]
      simp only [dRet, dCB, dCons, dNil, dLc, dLc2, dIS, dIL, dIT, dIR1, dIR2, dIEL, dIET, dIES, dVar, dC, dOp, dUn, dTest, kTest, dChain, kChain, dAnd, dOr, dNot, dTru, dSeq, dNext, dIfS, dFor, dAsg, dName, dGTup, dGCons, dGNil, dLst, dTup, dSl, dON, dOS, dOrV, dAndV, dNotV, dIf, dPar, dAug, dGSub, dRetN, dBreak, dCont, dDrop, dYes, dNever, startD, ksOf, wipeR, List.map_cons, List.map_nil, List.cons_append, List.nil_append, List.getElem?_cons_zero, List.getElem?_cons_succ, List.length_cons, List.length_nil, Nat.reduceAdd, Nat.reduceSub, List.reduceReplicate, List.set_cons_zero, List.set_cons_succ, nB, newL, decide_true, true_and, and_true, eq_self, reduceIte, List.length_map, Bool.not_true, Bool.not_false, dBM]
      refine ⟨tyD_lst hql', sl_T (by unfold sizeLine; simp only [List.length_cons, List.length_nil]; omega) ?_⟩
      rw [cutL_to', hsg]
      simp only [dRet, dCB, dCons, dNil, dLc, dLc2, dIS, dIL, dIT, dIR1, dIR2, dIEL, dIET, dIES, dVar, dC, dOp, dUn, dTest, kTest, dChain, kChain, dAnd, dOr, dNot, dTru, dSeq, dNext, dIfS, dFor, dAsg, dName, dGTup, dGCons, dGNil, dLst, dTup, dSl, dON, dOS, dOrV, dAndV, dNotV, dIf, dPar, dAug, dGSub, dRetN, dBreak, dCont, dDrop, dYes, dNever, startD, ksOf, wipeR, List.map_cons, List.map_nil, List.cons_append, List.nil_append, List.getElem?_cons_zero, List.getElem?_cons_succ, List.length_cons, List.length_nil, Nat.reduceAdd, Nat.reduceSub, List.reduceReplicate, List.set_cons_zero, List.set_cons_succ, nB, newL, decide_true, true_and, and_true, eq_self, reduceIte, List.length_map, Bool.not_true, Bool.not_false, signs_T]
      refine lc_map (fun x => match x with | .str y => tD (bg ++ y.cps.toList) | x => x) (fun x => match x with | .str y => decide (bg ++ y.cps.toList ∉ qs) | _ => false) trivial _ _ (by rw [List.length_map, hsl]; simp only [List.length_nil]; unfold sizeLine; omega) (fun x hx Q R hQ hR => ?_) ?_
      · obtain ⟨c, hc, rfl⟩ := List.mem_map.mp hx
        have hQ' : decide (bg ++ [c] ∉ qs) = true → Q (tD (bg ++ [c])) M' := hQ
        have hR' : decide (bg ++ [c] ∉ qs) = false → R M' := hR
        simp only [dRet, dCB, dCons, dNil, dLc, dLc2, dIS, dIL, dIT, dIR1, dIR2, dIEL, dIET, dIES, dVar, dC, dOp, dUn, dTest, kTest, dChain, kChain, dAnd, dOr, dNot, dTru, dSeq, dNext, dIfS, dFor, dAsg, dName, dGTup, dGCons, dGNil, dLst, dTup, dSl, dON, dOS, dOrV, dAndV, dNotV, dIf, dPar, dAug, dGSub, dRetN, dBreak, dCont, dDrop, dYes, dNever, startD, ksOf, wipeR, List.map_cons, List.map_nil, List.cons_append, List.nil_append, List.getElem?_cons_zero, List.getElem?_cons_succ, List.length_cons, List.length_nil, Nat.reduceAdd, Nat.reduceSub, List.reduceReplicate, List.set_cons_zero, List.set_cons_succ, nB, newL, decide_true, true_and, and_true, eq_self, reduceIte, List.length_map, Bool.not_true, Bool.not_false, tD, δAdd, T_app]
        refine ⟨by simp only [T_len, List.length_cons, List.length_nil]; unfold sizeLine; omega, ?_⟩
        refine has_T (kvs := kvs) (by show (match M' p with | some (.dK kvs) => some kvs | some (.lkK _ _ kvs) => some kvs | _ => none) = _; rw [hpl]) hkv ?_
        by_cases hq2 : bg ++ [c] ∈ qs
        · rw [decide_eq_true hq2]
          exact hR' (decide_eq_false (fun z => z hq2))
        · rw [decide_eq_false hq2]
          simp only [dRet, dCB, dCons, dNil, dLc, dLc2, dIS, dIL, dIT, dIR1, dIR2, dIEL, dIET, dIES, dVar, dC, dOp, dUn, dTest, kTest, dChain, kChain, dAnd, dOr, dNot, dTru, dSeq, dNext, dIfS, dFor, dAsg, dName, dGTup, dGCons, dGNil, dLst, dTup, dSl, dON, dOS, dOrV, dAndV, dNotV, dIf, dPar, dAug, dGSub, dRetN, dBreak, dCont, dDrop, dYes, dNever, startD, ksOf, wipeR, List.map_cons, List.map_nil, List.cons_append, List.nil_append, List.getElem?_cons_zero, List.getElem?_cons_succ, List.length_cons, List.length_nil, Nat.reduceAdd, Nat.reduceSub, List.reduceReplicate, List.set_cons_zero, List.set_cons_succ, nB, newL, decide_true, true_and, and_true, eq_self, reduceIte, List.length_map, Bool.not_true, Bool.not_false, δAdd, T_app]
          exact ⟨by simp only [T_len, List.length_cons, List.length_nil]; unfold sizeLine; omega, hQ' (decide_eq_true hq2)⟩
      · have enew : ([] : List D) ++ (((sg.map fun c => D.str (T [c])).filter fun x => match x with | .str y => decide (bg ++ y.cps.toList ∉ qs) | _ => false).map fun x => match x with | .str y => tD (bg ++ y.cps.toList) | x => x) = wsD ((sg.filter fun c => decide (bg ++ [c] ∉ qs)).map fun c => bg ++ [c]) := by
          rw [List.nil_append, List.filter_map, List.map_map, wsD, List.map_map]
          rfl
        rw [enew]
        generalize hns : ((sg.filter fun c => decide (bg ++ [c] ∉ qs)).map fun c => bg ++ [c]) = ns
        have hmem : ∀ x, x ∈ ns ↔ ∃ c ∈ sg, x = bg ++ [c] ∧ x ∉ qs := fun x => by
          rw [← hns, List.mem_map]
          simp only [List.mem_filter, decide_eq_true_eq]
          exact ⟨fun ⟨c, ⟨h1, h2⟩, h3⟩ => ⟨c, h1, h3.symm, h3 ▸ h2⟩, fun ⟨c, h1, h2, h3⟩ => ⟨c, ⟨h1, h2 ▸ h3⟩, h2.symm⟩⟩
        have hnd : ns.Nodup := by
          rw [← hns]
          exact List.pairwise_map.mpr ((hsn.sublist List.filter_sublist).imp fun h e => h (by simpa using e))
        have hnl : ns.length ≤ 26 := by
          rw [← hns, List.length_map]
          exact Nat.le_trans (List.length_filter_le _ _) (by omega)
        refine ext_ptr (es := wsD ns) hql' rfl (by rw [wsD_len, wsD_len]; unfold sizeLine; omega) ?_
        have ea : wsD fd ++ wsD ns = wsD (fd ++ ns) := by rw [wsD, wsD, wsD, List.map_append]
        rw [ea]
        refine hN _ _ ⟨fd ++ ns, by rw [updM_ne hpq]; exact hpl, updM_same, Ext.new hE hqM, ?_, by rw [List.length_append]; omega, fun x => ?_, _, _, rfl⟩
        · rw [List.nodup_append]
          refine ⟨nd2, hnd, fun x hx y hy e => ?_⟩
          subst e
          obtain ⟨b0, hb0, _, c0, _, e0, _⟩ := (hfd x).mp hx
          obtain ⟨c1, _, e1, _⟩ := (hmem x).mp hy
          have eb : b0 = bg := by
            have := congrArg List.dropLast (e0.symm.trans e1)
            simpa using this
          obtain ⟨i0, hi0⟩ := List.mem_iff_getElem?.mp hb0
          have hi0' : i0 < j := by have := (List.getElem?_eq_some_iff.mp hi0).1; rw [List.length_take] at this; omega
          rw [List.getElem?_take_of_lt hi0', eb, ← hbg] at hi0
          have := (List.getElem?_inj (by omega) nd).mp hi0
          omega
        · rw [List.mem_append, hfd, hmem]
          constructor
          · rintro (⟨b, h1, h2⟩ | h2)
            · exact ⟨b, (take_next hbg b).mpr (.inl h1), h2⟩
            · exact ⟨bg, (take_next hbg bg).mpr (.inr rfl), hb, h2⟩
          · rintro ⟨b, h1, h2⟩
            rcases (take_next hbg b).mp h1 with h1 | rfl
            · exact .inl ⟨b, h1, h2⟩
            · exact .inr h2.2
  · rintro ρ M' ⟨fd, hpl, hql', hE, nd2, hfl, hfd, d2, e2, rfl⟩
    rw [wsD_len] at hfl hfd
    rw [List.take_length] at hfd
    refine ⟨hpl, hpl, ?_⟩
    try simp only [dRet, dCB, dCons, dNil, dLc, dLc2, dIS, dIL, dIT, dIR1, dIR2, dIEL, dIET, dIES, dVar, dC, dOp, dUn, dTest, kTest, dChain, kChain, dAnd, dOr, dNot, dTru, dSeq, dNext, dIfS, dFor, dAsg, dName, dGTup, dGCons, dGNil, dLst, dTup, dSl, dON, dOS, dOrV, dAndV, dNotV, dIf, dPar, dAug, dGSub, dRetN, dBreak, dCont, dDrop, dYes, dNever, startD, ksOf, wipeR, List.map_cons, List.map_nil, List.cons_append, List.nil_append, List.getElem?_cons_zero, List.getElem?_cons_succ, List.length_cons, List.length_nil, Nat.reduceAdd, Nat.reduceSub, List.reduceReplicate, List.set_cons_zero, List.set_cons_succ, nB, newL, decide_true, true_and, and_true, eq_self, reduceIte, List.length_map, Bool.not_true, Bool.not_false]
    refine ⟨fd, viewL_ptr.mpr (by rw [updM_ne (Ne.symm hpq)]; exact hql'), fun us hp' hs => ?_⟩
    have hE3 : Ext M (updM M' p (.dK kvs)) := Ext.new hE hp
    refine fun r hr => ret_new (h us ((List.Perm.nodup_iff hp').mpr nd2) (fun x => ?_) hs) (hE3.none hr) (Ext.both hE3)
    rw [hp'.mem_iff, hfd]
    unfold Fills
    constructor
    · rintro ⟨b, hb, hbn, c, hc, rfl, hx⟩
      exact ⟨b, c, rfl, hc, hbn, (hqs b).mp hb, fun z => hx ((hqs _).mpr z)⟩
    · rintro ⟨b, c, rfl, hc, hbn, hb, hx⟩
      exact ⟨b, (hqs b).mpr hb, hbn, c, hc, rfl, fun z => hx ((hqs _).mp z)⟩
end Lw
end
noncomputable section
namespace Lw
open PySem PySem.Spec PyProof.Rows L2 Evl Dl Classical
variable (A : Ad)
/-- a beginning, not the whole word -/
def PP (ws : List Wd1) (x : Wd1) : Prop := ∃ w ∈ ws, x <+: w ∧ x ≠ w
theorem viewL_upd {M : Mem} {p : Addr} {o : MO} {d : D} {ds : List D} (h : d ≠ .ptr p) (hv : viewL M d = some ds) : viewL (updM M p o) d = some ds := by
  cases d with
  | lst _ => exact hv
  | ptr q =>
    have : q ≠ p := fun z => h (z ▸ rfl)
    exact viewL_ptr.mpr (by rw [updM_ne this]; exact viewL_ptr.mp hv)
  | _ => cases hv
theorem view_ne {M : Mem} {p : Addr} {d : D} {ds : List D} (hv : viewL M d = some ds) (hp : M p = none) : d ≠ .ptr p := fun z => by
  subst z
  have := viewL_ptr.mp hv
  rw [hp] at this
  cases this
theorem fills_pp {ws : List Wd1} (g : Good ws) (ha : Apart ws) {sg x : Wd1} : Fills ws sg x ↔ ∃ b c, x = b ++ [c] ∧ c ∈ sg ∧ PP ws b ∧ ¬ PP ws x ∧ x ∉ ws := by
  constructor
  · rintro ⟨b, c, rfl, hc, hb, ⟨w, hw, hp⟩, hx⟩
    exact ⟨b, c, rfl, hc, ⟨w, hw, hp, fun e => hb (e ▸ hw)⟩, fun ⟨u, hu, h, _⟩ => hx ⟨u, hu, h⟩, fun h => hx ⟨_, h, List.prefix_refl _⟩⟩
  · rintro ⟨b, c, rfl, hc, ⟨w, hw, hp, hne⟩, h1, h2⟩
    refine ⟨b, c, rfl, hc, fun hb => hne (ha b hb w hw hp), ⟨w, hw, hp⟩, fun ⟨u, hu, h⟩ => ?_⟩
    by_cases e : b ++ [c] = u
    · exact h2 (e ▸ hu)
    · exact h1 ⟨u, hu, h, e⟩
theorem pp_few {ws : List Wd1} (g : Good ws) {i : Nat} {lv : List Wd1} (nd : lv.Nodup) (h : ∀ x ∈ lv, x.length = i ∧ PP ws x) : lv.length ≤ 8 := by
  refine Nat.le_trans (List.Nodup.length_le_of_subset nd (l₂ := ws.map (List.take i)) fun x hx => ?_) (by rw [List.length_map]; exact g.few)
  obtain ⟨h1, w, hw, hp, _⟩ := h x hx
  exact List.mem_map.mpr ⟨w, hw, by rw [← h1]; exact (List.prefix_iff_eq_take.mp hp).symm⟩
theorem pp_len {ws : List Wd1} (g : Good ws) {x : Wd1} (h : PP ws x) : x.length ≤ 7 := by
  obtain ⟨w, hw, hp, hne⟩ := h
  have h1 := hp.length_le
  have h2 := (g.len w hw).2
  by_cases e : x.length = w.length
  · exact absurd (hp.eq_of_length e) hne
  · omega
theorem pp_pre {ws : List Wd1} {x : Wd1} (h : PP ws x) (n : Nat) : PP ws (x.take n) := by
  obtain ⟨w, hw, hp, hne⟩ := h
  refine ⟨w, hw, (List.take_prefix _ _).trans hp, fun e => hne ?_⟩
  have h1 := (List.take_prefix n x).length_le
  rw [e] at h1
  exact hp.eq_of_length (Nat.le_antisymm hp.length_le h1)
theorem pp_row {ws : List Wd1} (g : Good ws) {x : Wd1} (h : PP ws x) : Row x := by
  obtain ⟨w, hw, hp, _⟩ := h
  exact fun c hc => g.row w hw c (hp.subset hc)
theorem dat__law_filling : Dat 2 nm__law_filling (fs__law_filling A) (ph__law_filling A) := by
  rintro ds M Kp KE - ⟨d, ws, sg, rfl, hv, g, ha, hsn, hs1, hs2, hwc, h⟩
  have hw8 := g.few
  have hsb : sg.length ≤ sizeLine := by unfold sizeLine; omega
  simp only [dRet, dCB, dCons, dNil, dLc, dLc2, dIS, dIL, dIT, dIR1, dIR2, dIEL, dIET, dIES, dVar, dC, dOp, dUn, dTest, kTest, dChain, kChain, dAnd, dOr, dNot, dTru, dSeq, dNext, dIfS, dFor, dAsg, dName, dGTup, dGCons, dGNil, dLst, dTup, dSl, dON, dOS, dOrV, dAndV, dNotV, dIf, dPar, dAug, dGSub, dRetN, dBreak, dCont, dDrop, dYes, dNever, startD, ksOf, wipeR, List.map_cons, List.map_nil, List.cons_append, List.nil_append, List.getElem?_cons_zero, List.getElem?_cons_succ, List.length_cons, List.length_nil, Nat.reduceAdd, Nat.reduceSub, List.reduceReplicate, List.set_cons_zero, List.set_cons_succ, nB, newL, decide_true, true_and, and_true, eq_self, reduceIte, List.length_map, Bool.not_true, Bool.not_false, ph__law_filling]
  refine ⟨by unfold sizeLine; omega, fun qf hqf => ⟨by unfold sizeLine; omega, ?_⟩⟩
  have hdf : d ≠ .ptr qf := view_ne hv hqf
  let FD : Nat → Wd1 → Prop := fun i x => ∃ b c, x = b ++ [c] ∧ c ∈ sg ∧ PP ws b ∧ b.length < i ∧ ¬ PP ws x ∧ x ∉ ws
  refine ⟨fun m ρ M' => ∃ i, ∃ lv fd : List Wd1, ∃ lvd : D, m = 20 - i ∧ i ≤ 8 ∧ Ext M M' ∧ M' qf = some (.lst (wsD fd)) ∧ viewL M' lvd = some (wsD lv) ∧ lvd ≠ .ptr qf ∧ lv.Nodup ∧ (∀ x, x ∈ lv ↔ x.length = i ∧ PP ws x) ∧ fd.Nodup ∧ fd.length ≤ 300 * i ∧ (∀ x, x ∈ fd ↔ FD i x) ∧
      ∃ a b c e f, ρ = [some d, some (tD sg), some (.ptr qf), some lvd, a, b, c, e, f],
    ⟨20, 0, [[]], [], _, rfl, by omega, Ext.new (Ext.refl M) hqf, updM_same, rfl, (by intro z; cases z), by simp, fun x => ?_, List.nodup_nil, by simp, fun x => ?_, _, _, _, _, _, rfl⟩, ?_⟩
  · rw [List.mem_singleton, List.length_eq_zero_iff]
    refine ⟨fun e => ⟨e, ?_⟩, fun h => h.1⟩
    have h0 : 0 < ws.length := g.one
    refine ⟨ws[0], List.getElem_mem h0, e ▸ List.nil_prefix, fun z => ?_⟩
    have := (g.len ws[0] (List.getElem_mem h0)).1
    rw [← z, e] at this
    simp at this
  · refine ⟨fun h => absurd h (by simp), fun ⟨b, c, _, _, _, h, _⟩ => absurd h (Nat.not_lt_zero _)⟩
  rintro m ρ M' ⟨i, lv, fd, lvd, rfl, hi8, hE, hf, hlv, hlf, ndl, hlm, ndf, hfl, hfm, a, b, c, e, f, rfl⟩
  have hl8 : lv.length ≤ 8 := pp_few g ndl fun x hx => (hlm x).mp hx
  try simp only [dRet, dCB, dCons, dNil, dLc, dLc2, dIS, dIL, dIT, dIR1, dIR2, dIEL, dIET, dIES, dVar, dC, dOp, dUn, dTest, kTest, dChain, kChain, dAnd, dOr, dNot, dTru, dSeq, dNext, dIfS, dFor, dAsg, dName, dGTup, dGCons, dGNil, dLst, dTup, dSl, dON, dOS, dOrV, dAndV, dNotV, dIf, dPar, dAug, dGSub, dRetN, dBreak, dCont, dDrop, dYes, dNever, startD, ksOf, wipeR, List.map_cons, List.map_nil, List.cons_append, List.nil_append, List.getElem?_cons_zero, List.getElem?_cons_succ, List.length_cons, List.length_nil, Nat.reduceAdd, Nat.reduceSub, List.reduceReplicate, List.set_cons_zero, List.set_cons_succ, nB, newL, decide_true, true_and, and_true, eq_self, reduceIte, List.length_map, Bool.not_true, Bool.not_false]
  refine ⟨by unfold sizeLine; omega, eq_nil hlv (fun d hd => ?_) ?_⟩
  · obtain ⟨w, hw, rfl⟩ := List.mem_map.mp hd
    exact lay_txt (pp_row g ((hlm w).mp hw).2)
  by_cases hl0 : lv = []
  · subst hl0
    simp only [dRet, dCB, dCons, dNil, dLc, dLc2, dIS, dIL, dIT, dIR1, dIR2, dIEL, dIET, dIES, dVar, dC, dOp, dUn, dTest, kTest, dChain, kChain, dAnd, dOr, dNot, dTru, dSeq, dNext, dIfS, dFor, dAsg, dName, dGTup, dGCons, dGNil, dLst, dTup, dSl, dON, dOS, dOrV, dAndV, dNotV, dIf, dPar, dAug, dGSub, dRetN, dBreak, dCont, dDrop, dYes, dNever, startD, ksOf, wipeR, List.map_cons, List.map_nil, List.cons_append, List.nil_append, List.getElem?_cons_zero, List.getElem?_cons_succ, List.length_cons, List.length_nil, Nat.reduceAdd, Nat.reduceSub, List.reduceReplicate, List.set_cons_zero, List.set_cons_succ, nB, newL, decide_true, true_and, and_true, eq_self, reduceIte, List.length_map, Bool.not_true, Bool.not_false, wsD, List.isEmpty_nil]
    refine ⟨fd, viewL_ptr.mpr hf, fun us hp hs => kSet_ext hE (h us ((List.Perm.nodup_iff hp).mpr ndf) (fun x => ?_) hs)⟩
    rw [hp.mem_iff, hfm, fills_pp g ha]
    refine ⟨fun ⟨b, c, h1, h2, h3, _, h4⟩ => ⟨b, c, h1, h2, h3, h4⟩, fun ⟨b, c, h1, h2, h3, h4⟩ => ⟨b, c, h1, h2, h3, ?_, h4⟩⟩
    refine Classical.byContradiction fun z => ?_
    have : b.take i ∈ ([] : List Wd1) := (hlm _).mpr ⟨by rw [List.length_take]; omega, pp_pre h3 i⟩
    exact absurd this (by simp)
  have hi7 : i ≤ 7 := by
    obtain ⟨x, hx⟩ := List.exists_mem_of_ne_nil _ hl0
    obtain ⟨h1, h2⟩ := (hlm x).mp hx
    have := pp_len g h2
    omega
  have e1 : (wsD lv).isEmpty = false := by
    cases lv with
    | nil => exact absurd rfl hl0
    | cons _ _ => rfl
  simp only [dRet, dCB, dCons, dNil, dLc, dLc2, dIS, dIL, dIT, dIR1, dIR2, dIEL, dIET, dIES, dVar, dC, dOp, dUn, dTest, kTest, dChain, kChain, dAnd, dOr, dNot, dTru, dSeq, dNext, dIfS, dFor, dAsg, dName, dGTup, dGCons, dGNil, dLst, dTup, dSl, dON, dOS, dOrV, dAndV, dNotV, dIf, dPar, dAug, dGSub, dRetN, dBreak, dCont, dDrop, dYes, dNever, startD, ksOf, wipeR, List.map_cons, List.map_nil, List.cons_append, List.nil_append, List.getElem?_cons_zero, List.getElem?_cons_succ, List.length_cons, List.length_nil, Nat.reduceAdd, Nat.reduceSub, List.reduceReplicate, List.set_cons_zero, List.set_cons_succ, nB, newL, decide_true, true_and, and_true, eq_self, reduceIte, List.length_map, Bool.not_true, Bool.not_false, e1]
  refine ⟨by unfold sizeLine; omega, fun ql hql => ?_⟩
  have hqlM := hE.none hql
  have hdl : d ≠ .ptr ql := view_ne hv hqlM
  have hll : lvd ≠ .ptr ql := view_ne hlv hql
  have hfl2 : qf ≠ ql := fun z => by rw [← z, hf] at hql; cases hql
  have hvd := viewL_ext hE hv
  -- the state within a turn
  let IN : Mem → List Wd1 → List Wd1 → Prop := fun M2 lo fd2 => Ext M M2 ∧ M2 ql = some (.lst (wsD lo)) ∧ M2 qf = some (.lst (wsD fd2)) ∧ viewL M2 lvd = some (wsD lv) ∧ viewL M2 d = some (wsD ws)
  have inl : ∀ {M2 : Mem} {lo fd2 lo2 : List Wd1}, IN M2 lo fd2 → IN (updM M2 ql (.lst (wsD lo2))) lo2 fd2 := fun s => ⟨Ext.new s.1 hqlM, updM_same, by rw [updM_ne hfl2]; exact s.2.2.1, viewL_upd hll s.2.2.2.1, viewL_upd hdl s.2.2.2.2⟩
  have inf : ∀ {M2 : Mem} {lo fd2 fd3 : List Wd1}, IN M2 lo fd2 → IN (updM M2 qf (.lst (wsD fd3))) lo fd3 := fun s => ⟨Ext.new s.1 hqf, by rw [updM_ne (Ne.symm hfl2)]; exact s.2.1, updM_same, viewL_upd hlf s.2.2.2.1, viewL_upd hdf s.2.2.2.2⟩
  have in0 : IN (updM M' ql (.lst [])) [] fd := ⟨Ext.new hE hqlM, updM_same, by rw [updM_ne hfl2]; exact hf, viewL_upd hll hlv, viewL_upd hdl hvd⟩
  generalize updM M' ql (.lst []) = M1 at in0 ⊢
  -- what the first a lines give
  let LO : Nat → Wd1 → Prop := fun a x => ∃ l ∈ lv.take a, ∃ c ∈ sg, x = l ++ [c] ∧ PP ws x
  let FO : Nat → Wd1 → Prop := fun a x => x ∈ fd ∨ ∃ l ∈ lv.take a, ∃ c ∈ sg, x = l ++ [c] ∧ ¬ PP ws x ∧ x ∉ ws
  refine iterL_v in0.2.2.2.1 fun P hP => for_inv (fun a ρ M2 => ∃ lo fd2 : List Wd1, IN M2 lo fd2 ∧ lo.Nodup ∧ fd2.Nodup ∧ lo.length ≤ 26 * a ∧ fd2.length ≤ 300 * i + 26 * a ∧ (∀ x, x ∈ lo ↔ LO a x) ∧ (∀ x, x ∈ fd2 ↔ FO a x) ∧ ∃ b c e f, ρ = [some d, some (tD sg), some (.ptr qf), some lvd, some (.ptr ql), b, c, e, f])
    ⟨[], fd, in0, List.nodup_nil, ndf, by simp, by omega, fun x => by show x ∈ [] ↔ ∃ l ∈ lv.take 0, _; simp, fun x => by show x ∈ fd ↔ x ∈ fd ∨ ∃ l ∈ lv.take 0, _; simp, _, _, _, _, rfl⟩ ?_ ?_
  · rintro a x ρ M2 Nx hx ⟨lo, fd2, st, ndlo, ndf2, hlo, hfl3, hlom, hfom, b, c, e, f, rfl⟩ hN
    refine ⟨hP _ st.2.2.2.1, ?_⟩
    obtain ⟨l, hl, rfl⟩ := wsD_get hx
    have hla := (List.getElem?_eq_some_iff.mp hl).1
    obtain ⟨hli, hlp⟩ := (hlm l).mp (List.mem_of_getElem? hl)
    have lnot : l ∉ lv.take a := fun z => by
      obtain ⟨i0, hi0⟩ := List.mem_iff_getElem?.mp z
      have hi0' : i0 < a := by have := (List.getElem?_eq_some_iff.mp hi0).1; rw [List.length_take] at this; omega
      rw [List.getElem?_take_of_lt hi0', ← hl] at hi0
      have := (List.getElem?_inj (by omega) ndl).mp hi0
      omega
    simp only [dRet, dCB, dCons, dNil, dLc, dLc2, dIS, dIL, dIT, dIR1, dIR2, dIEL, dIET, dIES, dVar, dC, dOp, dUn, dTest, kTest, dChain, kChain, dAnd, dOr, dNot, dTru, dSeq, dNext, dIfS, dFor, dAsg, dName, dGTup, dGCons, dGNil, dLst, dTup, dSl, dON, dOS, dOrV, dAndV, dNotV, dIf, dPar, dAug, dGSub, dRetN, dBreak, dCont, dDrop, dYes, dNever, startD, ksOf, wipeR, List.map_cons, List.map_nil, List.cons_append, List.nil_append, List.getElem?_cons_zero, List.getElem?_cons_succ, List.length_cons, List.length_nil, Nat.reduceAdd, Nat.reduceSub, List.reduceReplicate, List.set_cons_zero, List.set_cons_succ, nB, newL, decide_true, true_and, and_true, eq_self, reduceIte, List.length_map, Bool.not_true, Bool.not_false, tD, signs_T]
    refine for_inv (fun b ρ M3 => ∃ lo2 fd3 : List Wd1, IN M3 lo2 fd3 ∧ lo2.Nodup ∧ fd3.Nodup ∧ lo2.length ≤ 26 * a + b ∧ fd3.length ≤ 300 * i + 26 * a + b ∧ (∀ x, x ∈ lo2 ↔ x ∈ lo ∨ ∃ c ∈ sg.take b, x = l ++ [c] ∧ PP ws x) ∧ (∀ x, x ∈ fd3 ↔ x ∈ fd2 ∨ ∃ c ∈ sg.take b, x = l ++ [c] ∧ ¬ PP ws x ∧ x ∉ ws) ∧ ∃ c e f, ρ = [some d, some (tD sg), some (.ptr qf), some lvd, some (.ptr ql), some (tD l), c, e, f])
      ⟨lo, fd2, st, ndlo, ndf2, by omega, by omega, by simp, by simp, _, _, _, rfl⟩ ?_ ?_
    · rintro b x ρ M3 Nx2 hx2 ⟨lo2, fd3, st2, ndlo2, ndf3, hlo2, hfl4, hlom2, hfom2, c2, e2, f2, rfl⟩ hN2
      refine ⟨trivial, ?_⟩
      simp only [List.getElem?_map, Option.map_eq_some_iff] at hx2
      obtain ⟨s, hs, rfl⟩ := hx2
      have hbs := (List.getElem?_eq_some_iff.mp hs).1
      have snot : s ∉ sg.take b := fun z => by
        obtain ⟨i0, hi0⟩ := List.mem_iff_getElem?.mp z
        have hi0' : i0 < b := by have := (List.getElem?_eq_some_iff.mp hi0).1; rw [List.length_take] at this; omega
        rw [List.getElem?_take_of_lt hi0', ← hs] at hi0
        have := (List.getElem?_inj (by omega) hsn).mp hi0
        omega
      have tk : ∀ c : Nat, c ∈ sg.take (b + 1) ↔ c ∈ sg.take b ∨ c = s := fun c => by rw [List.take_add_one, hs]; simp
      have hfb : (l ++ [s]).length ≤ sizeLine := by rw [List.length_append]; simp only [List.length_cons, List.length_nil]; unfold sizeLine; omega
      have inj : ∀ c : Nat, l ++ [c] = l ++ [s] → c = s := fun c e => by simpa using e
      simp only [dRet, dCB, dCons, dNil, dLc, dLc2, dIS, dIL, dIT, dIR1, dIR2, dIEL, dIET, dIES, dVar, dC, dOp, dUn, dTest, kTest, dChain, kChain, dAnd, dOr, dNot, dTru, dSeq, dNext, dIfS, dFor, dAsg, dName, dGTup, dGCons, dGNil, dLst, dTup, dSl, dON, dOS, dOrV, dAndV, dNotV, dIf, dPar, dAug, dGSub, dRetN, dBreak, dCont, dDrop, dYes, dNever, startD, ksOf, wipeR, List.map_cons, List.map_nil, List.cons_append, List.nil_append, List.getElem?_cons_zero, List.getElem?_cons_succ, List.length_cons, List.length_nil, Nat.reduceAdd, Nat.reduceSub, List.reduceReplicate, List.set_cons_zero, List.set_cons_succ, nB, newL, decide_true, true_and, and_true, eq_self, reduceIte, List.length_map, Bool.not_true, Bool.not_false, tD, δAdd, T_app]
      refine ⟨by simp only [T_len, List.length_cons, List.length_nil]; unfold sizeLine; omega, ?_⟩
      refine iterL_v st2.2.2.2.2 fun P3 hP3 => some_lc (fun w => decide ((l ++ [s]) <+: w ∧ w ≠ l ++ [s])) (hP3 _ st2.2.2.2.2) (by omega) (fun w hw Kc hc => ?_) ?_
      · simp only [dRet, dCB, dCons, dNil, dLc, dLc2, dIS, dIL, dIT, dIR1, dIR2, dIEL, dIET, dIES, dVar, dC, dOp, dUn, dTest, kTest, dChain, kChain, dAnd, dOr, dNot, dTru, dSeq, dNext, dIfS, dFor, dAsg, dName, dGTup, dGCons, dGNil, dLst, dTup, dSl, dON, dOS, dOrV, dAndV, dNotV, dIf, dPar, dAug, dGSub, dRetN, dBreak, dCont, dDrop, dYes, dNever, startD, ksOf, wipeR, List.map_cons, List.map_nil, List.cons_append, List.nil_append, List.getElem?_cons_zero, List.getElem?_cons_succ, List.length_cons, List.length_nil, Nat.reduceAdd, Nat.reduceSub, List.reduceReplicate, List.set_cons_zero, List.set_cons_succ, nB, newL, decide_true, true_and, and_true, eq_self, reduceIte, List.length_map, Bool.not_true, Bool.not_false, tD]
        refine len_T hfb ?_
        try simp only [dRet, dCB, dCons, dNil, dLc, dLc2, dIS, dIL, dIT, dIR1, dIR2, dIEL, dIET, dIES, dVar, dC, dOp, dUn, dTest, kTest, dChain, kChain, dAnd, dOr, dNot, dTru, dSeq, dNext, dIfS, dFor, dAsg, dName, dGTup, dGCons, dGNil, dLst, dTup, dSl, dON, dOS, dOrV, dAndV, dNotV, dIf, dPar, dAug, dGSub, dRetN, dBreak, dCont, dDrop, dYes, dNever, startD, ksOf, wipeR, List.map_cons, List.map_nil, List.cons_append, List.nil_append, List.getElem?_cons_zero, List.getElem?_cons_succ, List.length_cons, List.length_nil, Nat.reduceAdd, Nat.reduceSub, List.reduceReplicate, List.set_cons_zero, List.set_cons_succ, nB, newL, decide_true, true_and, and_true, eq_self, reduceIte, List.length_map, Bool.not_true, Bool.not_false]
        refine sl_T (word_small g hw) ?_
        simp only [dRet, dCB, dCons, dNil, dLc, dLc2, dIS, dIL, dIT, dIR1, dIR2, dIEL, dIET, dIES, dVar, dC, dOp, dUn, dTest, kTest, dChain, kChain, dAnd, dOr, dNot, dTru, dSeq, dNext, dIfS, dFor, dAsg, dName, dGTup, dGCons, dGNil, dLst, dTup, dSl, dON, dOS, dOrV, dAndV, dNotV, dIf, dPar, dAug, dGSub, dRetN, dBreak, dCont, dDrop, dYes, dNever, startD, ksOf, wipeR, List.map_cons, List.map_nil, List.cons_append, List.nil_append, List.getElem?_cons_zero, List.getElem?_cons_succ, List.length_cons, List.length_nil, Nat.reduceAdd, Nat.reduceSub, List.reduceReplicate, List.set_cons_zero, List.set_cons_succ, nB, newL, decide_true, true_and, and_true, eq_self, reduceIte, List.length_map, Bool.not_true, Bool.not_false, δEq, dec_T, cutL_to']
        by_cases h1 : (l ++ [s]) <+: w
        · rw [decide_eq_true (pre_iff.mpr h1)]
          simp only [dRet, dCB, dCons, dNil, dLc, dLc2, dIS, dIL, dIT, dIR1, dIR2, dIEL, dIET, dIES, dVar, dC, dOp, dUn, dTest, kTest, dChain, kChain, dAnd, dOr, dNot, dTru, dSeq, dNext, dIfS, dFor, dAsg, dName, dGTup, dGCons, dGNil, dLst, dTup, dSl, dON, dOS, dOrV, dAndV, dNotV, dIf, dPar, dAug, dGSub, dRetN, dBreak, dCont, dDrop, dYes, dNever, startD, ksOf, wipeR, List.map_cons, List.map_nil, List.cons_append, List.nil_append, List.getElem?_cons_zero, List.getElem?_cons_succ, List.length_cons, List.length_nil, Nat.reduceAdd, Nat.reduceSub, List.reduceReplicate, List.set_cons_zero, List.set_cons_succ, nB, newL, decide_true, true_and, and_true, eq_self, reduceIte, List.length_map, Bool.not_true, Bool.not_false, δEq, dec_T]
          have e5 : (!decide (w = l ++ [s])) = decide ((l ++ [s]) <+: w ∧ w ≠ l ++ [s]) := by
            rw [Bool.eq_iff_iff, Bool.not_eq_true', decide_eq_false_iff_not, decide_eq_true_eq]
            exact ⟨fun z => ⟨h1, z⟩, fun z => z.2⟩
          rw [e5]
          exact hc
        · rw [decide_eq_false (fun z => h1 (pre_iff.mp z))]
          rw [decide_eq_false (show ¬ ((l ++ [s]) <+: w ∧ w ≠ l ++ [s]) from fun z => h1 z.1)] at hc
          exact hc
      have epp : decide (∃ w ∈ ws, decide ((l ++ [s]) <+: w ∧ w ≠ l ++ [s]) = true) = decide (PP ws (l ++ [s])) := by
        rw [decide_eq_decide]
        simp only [decide_eq_true_eq]
        exact ⟨fun ⟨w, h1, h2, h3⟩ => ⟨w, h1, h2, fun z => h3 z.symm⟩, fun ⟨w, h1, h2, h3⟩ => ⟨w, h1, h2, fun z => h3 z.symm⟩⟩
      rw [epp]
      by_cases hpp : PP ws (l ++ [s])
      · rw [decide_eq_true hpp]
        simp only [dRet, dCB, dCons, dNil, dLc, dLc2, dIS, dIL, dIT, dIR1, dIR2, dIEL, dIET, dIES, dVar, dC, dOp, dUn, dTest, kTest, dChain, kChain, dAnd, dOr, dNot, dTru, dSeq, dNext, dIfS, dFor, dAsg, dName, dGTup, dGCons, dGNil, dLst, dTup, dSl, dON, dOS, dOrV, dAndV, dNotV, dIf, dPar, dAug, dGSub, dRetN, dBreak, dCont, dDrop, dYes, dNever, startD, ksOf, wipeR, List.map_cons, List.map_nil, List.cons_append, List.nil_append, List.getElem?_cons_zero, List.getElem?_cons_succ, List.length_cons, List.length_nil, Nat.reduceAdd, Nat.reduceSub, List.reduceReplicate, List.set_cons_zero, List.set_cons_succ, nB, newL, decide_true, true_and, and_true, eq_self, reduceIte, List.length_map, Bool.not_true, Bool.not_false, dBM]
        refine ⟨tyD_lst st2.2.1, app_ptr st2.2.1 (by rw [wsD_len]; unfold sizeLine; omega) ?_⟩
        have e6 : wsD lo2 ++ [D.str (T (l ++ [s]))] = wsD (lo2 ++ [l ++ [s]]) := (wsD_snoc _ _).symm
        rw [e6]
        refine hN2 _ _ ⟨lo2 ++ [l ++ [s]], fd3, inl st2, ?_, ndf3, by rw [List.length_append]; simp only [List.length_cons, List.length_nil]; omega, by omega, fun x => ?_, fun x => ?_, _, _, _, rfl⟩
        · rw [List.nodup_append]
          refine ⟨ndlo2, by simp, fun x hx y hy e => ?_⟩
          rw [List.mem_singleton] at hy
          subst e
          subst hy
          rcases (hlom2 _).mp hx with hx | ⟨c, hc, e, _⟩
          · obtain ⟨l0, hl0, c0, _, e0, _⟩ := (hlom _).mp hx
            have : l = l0 := by have := congrArg List.dropLast e0; simpa using this
            exact lnot (this ▸ hl0)
          · exact snot (inj c e.symm ▸ hc)
        · rw [List.mem_append, hlom2, List.mem_singleton, or_assoc]
          refine or_congr Iff.rfl ⟨fun z => z.elim (fun ⟨c, h1, h2⟩ => ⟨c, (tk c).mpr (.inl h1), h2⟩) fun z => ⟨s, (tk s).mpr (.inr rfl), z, z ▸ hpp⟩, fun ⟨c, h1, h2, h3⟩ => ?_⟩
          rcases (tk c).mp h1 with h1 | rfl
          · exact .inl ⟨c, h1, h2, h3⟩
          · exact .inr h2
        · rw [hfom2]
          refine or_congr Iff.rfl ⟨fun ⟨c, h1, h2⟩ => ⟨c, (tk c).mpr (.inl h1), h2⟩, fun ⟨c, h1, h2, h3⟩ => ?_⟩
          rcases (tk c).mp h1 with h1 | rfl
          · exact ⟨c, h1, h2, h3⟩
          · exact absurd (h2 ▸ hpp) h3.1
      · rw [decide_eq_false hpp]
        try simp only [dRet, dCB, dCons, dNil, dLc, dLc2, dIS, dIL, dIT, dIR1, dIR2, dIEL, dIET, dIES, dVar, dC, dOp, dUn, dTest, kTest, dChain, kChain, dAnd, dOr, dNot, dTru, dSeq, dNext, dIfS, dFor, dAsg, dName, dGTup, dGCons, dGNil, dLst, dTup, dSl, dON, dOS, dOrV, dAndV, dNotV, dIf, dPar, dAug, dGSub, dRetN, dBreak, dCont, dDrop, dYes, dNever, startD, ksOf, wipeR, List.map_cons, List.map_nil, List.cons_append, List.nil_append, List.getElem?_cons_zero, List.getElem?_cons_succ, List.length_cons, List.length_nil, Nat.reduceAdd, Nat.reduceSub, List.reduceReplicate, List.set_cons_zero, List.set_cons_succ, nB, newL, decide_true, true_and, and_true, eq_self, reduceIte, List.length_map, Bool.not_true, Bool.not_false]
        refine in_view st2.2.2.2.2 rfl (good_flat ws) ?_
        rw [show D.str (T (l ++ [s])) = tD (l ++ [s]) from rfl, any_in]
        have lo_same : ∀ x, x ∈ lo2 ↔ x ∈ lo ∨ ∃ c ∈ sg.take (b + 1), x = l ++ [c] ∧ PP ws x := fun x => by
          rw [hlom2]
          refine or_congr Iff.rfl ⟨fun ⟨c, h1, h2⟩ => ⟨c, (tk c).mpr (.inl h1), h2⟩, fun ⟨c, h1, h2, h3⟩ => ?_⟩
          rcases (tk c).mp h1 with h1 | rfl
          · exact ⟨c, h1, h2, h3⟩
          · exact absurd (h2 ▸ h3) hpp
        by_cases hin : l ++ [s] ∈ ws
        · rw [decide_eq_true hin]
          refine hN2 _ _ ⟨lo2, fd3, st2, ndlo2, ndf3, by omega, by omega, lo_same, fun x => ?_, _, _, _, rfl⟩
          rw [hfom2]
          refine or_congr Iff.rfl ⟨fun ⟨c, h1, h2⟩ => ⟨c, (tk c).mpr (.inl h1), h2⟩, fun ⟨c, h1, h2, h3⟩ => ?_⟩
          rcases (tk c).mp h1 with h1 | rfl
          · exact ⟨c, h1, h2, h3⟩
          · exact absurd (h2 ▸ hin) h3.2
        · rw [decide_eq_false hin]
          simp only [dRet, dCB, dCons, dNil, dLc, dLc2, dIS, dIL, dIT, dIR1, dIR2, dIEL, dIET, dIES, dVar, dC, dOp, dUn, dTest, kTest, dChain, kChain, dAnd, dOr, dNot, dTru, dSeq, dNext, dIfS, dFor, dAsg, dName, dGTup, dGCons, dGNil, dLst, dTup, dSl, dON, dOS, dOrV, dAndV, dNotV, dIf, dPar, dAug, dGSub, dRetN, dBreak, dCont, dDrop, dYes, dNever, startD, ksOf, wipeR, List.map_cons, List.map_nil, List.cons_append, List.nil_append, List.getElem?_cons_zero, List.getElem?_cons_succ, List.length_cons, List.length_nil, Nat.reduceAdd, Nat.reduceSub, List.reduceReplicate, List.set_cons_zero, List.set_cons_succ, nB, newL, decide_true, true_and, and_true, eq_self, reduceIte, List.length_map, Bool.not_true, Bool.not_false, dBM]
          refine ⟨tyD_lst st2.2.2.1, app_ptr st2.2.2.1 (by rw [wsD_len]; unfold sizeLine; omega) ?_⟩
          have e6 : wsD fd3 ++ [tD (l ++ [s])] = wsD (fd3 ++ [l ++ [s]]) := (wsD_snoc _ _).symm
          rw [e6]
          refine hN2 _ _ ⟨lo2, fd3 ++ [l ++ [s]], inf st2, ndlo2, ?_, by omega, by rw [List.length_append]; simp only [List.length_cons, List.length_nil]; omega, lo_same, fun x => ?_, _, _, _, rfl⟩
          · rw [List.nodup_append]
            refine ⟨ndf3, by simp, fun x hx y hy e => ?_⟩
            rw [List.mem_singleton] at hy
            subst e
            subst hy
            rcases (hfom2 _).mp hx with hx | ⟨c, hc, e, _⟩
            · rcases (hfom _).mp hx with hx | ⟨l0, hl0, c0, _, e0, _⟩
              · obtain ⟨b0, c0, e0, _, _, hlt, _⟩ := (hfm _).mp hx
                have : l = b0 := by have := congrArg List.dropLast e0; simpa using this
                rw [← this] at hlt
                omega
              · have : l = l0 := by have := congrArg List.dropLast e0; simpa using this
                exact lnot (this ▸ hl0)
            · exact snot (inj c e.symm ▸ hc)
          · rw [List.mem_append, hfom2, List.mem_singleton, or_assoc]
            refine or_congr Iff.rfl ⟨fun z => z.elim (fun ⟨c, h1, h2⟩ => ⟨c, (tk c).mpr (.inl h1), h2⟩) fun z => ⟨s, (tk s).mpr (.inr rfl), z, z ▸ hpp, z ▸ hin⟩, fun ⟨c, h1, h2, h3⟩ => ?_⟩
            rcases (tk c).mp h1 with h1 | rfl
            · exact .inl ⟨c, h1, h2, h3⟩
            · exact .inr h2
    · rintro ρ M3 ⟨lo2, fd3, st2, ndlo2, ndf3, hlo2, hfl4, hlom2, hfom2, c2, e2, f2, rfl⟩
      rw [List.length_map] at hlo2 hfl4 hlom2 hfom2
      rw [List.take_length] at hlom2 hfom2
      refine ⟨trivial, hN _ _ ⟨lo2, fd3, st2, ndlo2, ndf3, by omega, by omega, fun x => ?_, fun x => ?_, _, _, _, _, rfl⟩⟩
      · rw [hlom2, hlom]
        constructor
        · rintro (⟨l0, h1, h2⟩ | h2)
          · exact ⟨l0, (take_next hl l0).mpr (.inl h1), h2⟩
          · exact ⟨l, (take_next hl l).mpr (.inr rfl), h2⟩
        · rintro ⟨l0, h1, h2⟩
          rcases (take_next hl l0).mp h1 with h1 | rfl
          · exact .inl ⟨l0, h1, h2⟩
          · exact .inr h2
      · rw [hfom2, hfom]
        constructor
        · rintro ((h1 | ⟨l0, h1, h2⟩) | h2)
          · exact .inl h1
          · exact .inr ⟨l0, (take_next hl l0).mpr (.inl h1), h2⟩
          · exact .inr ⟨l, (take_next hl l).mpr (.inr rfl), h2⟩
        · rintro (h1 | ⟨l0, h1, h2⟩)
          · exact .inl (.inl h1)
          · rcases (take_next hl l0).mp h1 with h1 | rfl
            · exact .inl (.inr ⟨l0, h1, h2⟩)
            · exact .inr h2
  · rintro ρ M2 ⟨lo, fd2, st, ndlo, ndf2, hlo, hfl3, hlom, hfom, b, c, e, f, rfl⟩
    refine ⟨hP _ st.2.2.2.1, ?_⟩
    rw [wsD_len] at hlo hfl3 hlom hfom
    try simp only [dRet, dCB, dCons, dNil, dLc, dLc2, dIS, dIL, dIT, dIR1, dIR2, dIEL, dIET, dIES, dVar, dC, dOp, dUn, dTest, kTest, dChain, kChain, dAnd, dOr, dNot, dTru, dSeq, dNext, dIfS, dFor, dAsg, dName, dGTup, dGCons, dGNil, dLst, dTup, dSl, dON, dOS, dOrV, dAndV, dNotV, dIf, dPar, dAug, dGSub, dRetN, dBreak, dCont, dDrop, dYes, dNever, startD, ksOf, wipeR, List.map_cons, List.map_nil, List.cons_append, List.nil_append, List.getElem?_cons_zero, List.getElem?_cons_succ, List.length_cons, List.length_nil, Nat.reduceAdd, Nat.reduceSub, List.reduceReplicate, List.set_cons_zero, List.set_cons_succ, nB, newL, decide_true, true_and, and_true, eq_self, reduceIte, List.length_map, Bool.not_true, Bool.not_false]
    refine ⟨20 - (i + 1), by omega, i + 1, lo, fd2, .ptr ql, rfl, by omega, st.1, st.2.2.1, viewL_ptr.mpr st.2.1, (fun z => hfl2 (by cases z; rfl)), ndlo, fun x => ?_, ndf2, by omega, fun x => ?_, _, _, _, _, _, rfl⟩
    · rw [hlom]
      show (∃ l ∈ lv.take lv.length, _) ↔ _
      rw [List.take_length]
      constructor
      · rintro ⟨l, hl, c, hc, rfl, hp⟩
        exact ⟨by rw [List.length_append, ((hlm l).mp hl).1]; rfl, hp⟩
      · rintro ⟨hx, hp⟩
        have hne : x ≠ [] := fun z => by rw [z] at hx; simp at hx
        refine ⟨x.dropLast, (hlm _).mpr ⟨by rw [List.length_dropLast]; omega, by rw [List.dropLast_eq_take]; exact pp_pre hp _⟩, x.getLast hne, ?_, (List.dropLast_concat_getLast hne).symm, hp⟩
        obtain ⟨w, hw, hpw, _⟩ := hp
        exact hwc w hw _ (hpw.subset (List.getLast_mem hne))
    · rw [hfom]
      show (x ∈ fd ∨ ∃ l ∈ lv.take lv.length, _) ↔ _
      rw [List.take_length, hfm]
      constructor
      · rintro (⟨b, c, h1, h2, h3, h4, h5⟩ | ⟨l, hl, c, hc, rfl, h5⟩)
        · exact ⟨b, c, h1, h2, h3, by omega, h5⟩
        · exact ⟨l, c, rfl, hc, ((hlm l).mp hl).2, by have := ((hlm l).mp hl).1; omega, h5⟩
      · rintro ⟨b, c, rfl, h2, h3, h4, h5⟩
        by_cases z : b.length < i
        · exact .inl ⟨b, c, rfl, h2, h3, z, h5⟩
        · exact .inr ⟨b, (hlm b).mpr ⟨by omega, h3⟩, c, h2, rfl, h5⟩
end Lw
end
noncomputable section
namespace Lw
open PySem PySem.Spec PyProof.Rows L2 Evl Dl Classical
variable (A : Ad)
/-! ### lists of texts compared -/
theorem pys_txt : ∀ ws : List Wd1, pys (wsD ws) = some (ws.map fun w => PyData.str (T w))
  | [] => rfl
  | w :: ws => by
    show (py (tD w)).bind (fun a => (pys (wsD ws)).map fun b => a :: b) = _
    rw [pys_txt ws] <;> rfl
theorem eqv_txt : ∀ a b : List Wd1, PyData.eqvAll (a.map fun w => PyData.str (T w)) (b.map fun w => PyData.str (T w)) = decide (a = b)
  | [], [] => rfl
  | [], _ :: _ => rfl
  | _ :: _, [] => rfl
  | x :: a, y :: b => by
    show ((T x == T y) && PyData.eqvAll (a.map fun w => PyData.str (T w)) (b.map fun w => PyData.str (T w))) = _
    rw [eqv_txt a b, Bool.eq_iff_iff, Bool.and_eq_true_iff, beq_iff_eq, decide_eq_true_eq, decide_eq_true_eq, T_inj, List.cons.injEq]
theorem lay_txts {ws : List Wd1} (h : ∀ w ∈ ws, Row w) : SeqAt.shaped (.list (ws.map fun w => PyData.str (T w))) = true := by
  obtain ⟨ps, k1, k2, k3, _⟩ := lay_all (k := 60) (ds := wsD ws) fun d hd => by
    obtain ⟨w, hw, rfl⟩ := List.mem_map.mp hd
    exact lay_txt (h w hw)
  rw [pys_txt] at k1
  cases k1
  show (PyData.canLayAll0 _ && decide (PyData.depthAll _ + 1 ≤ 64)) = true
  rw [k2, decide_eq_true (by omega)]
  rfl
theorem eq_txts {neg : Bool} {x y : D} {a b : List Wd1} {M : Mem} {Kp : KD} (hx : viewL M x = some (wsD a)) (hy : viewL M y = some (wsD b)) (ra : ∀ w ∈ a, Row w) (rb : ∀ w ∈ b, Row w) (h : Kp (nB neg (decide (a = b))) M) : δEq neg x y M Kp := by
  refine eq_gen hx ⟨_, _, by rw [pyM_view hx, pys_txt]; rfl, by rw [pyM_view hy, pys_txt]; rfl, lay_txts ra, lay_txts rb, ?_⟩
  have e : PyData.eqv (.list (a.map fun w => PyData.str (T w))) (.list (b.map fun w => PyData.str (T w))) = decide (a = b) := eqv_txt a b
  rw [e]
  exact h
theorem same_sorted {a b : List Wd1} (na : a.Nodup) (nb : b.Nodup) (h : ∀ x, x ∈ a ↔ x ∈ b) (sa : a.Pairwise fun a b => ¬ b < a) (sb : b.Pairwise fun a b => ¬ b < a) : a = b :=
  sorted_eq ((List.perm_ext_iff_of_nodup na nb).mpr h) sa sb
theorem fills_row {ws : List Wd1} {sg x : Wd1} (g : Good ws) (hs : ∀ c ∈ sg, c ∈ LET) (h : Fills ws sg x) : Row x := by
  obtain ⟨b, c, rfl, hc, _, ⟨w, hw, hp⟩, _⟩ := h
  intro y hy
  rcases List.mem_append.mp hy with hy | hy
  · exact g.row w hw y (hp.subset hy)
  · rw [List.mem_singleton] at hy; rw [hy]; exact hs c hc
def flipc (c : Nat) : Nat := if c = 97 then 98 else 97
theorem fills_one {s : Wd1} (hs : ∀ c ∈ s, c = 97 ∨ c = 98) (x : Wd1) : Fills [s] [97, 98] x ↔ ∃ i, i < s.length ∧ x = s.take i ++ [flipc (s.getD i 0)] := by
  constructor
  · rintro ⟨b, c, rfl, hc, hb, ⟨w, hw, hp⟩, hx⟩
    rw [List.mem_singleton] at hw
    subst hw
    have hlt : b.length < w.length := by
      have := hp.length_le
      by_cases e : b.length = w.length
      · exact absurd (List.mem_singleton.mpr (hp.eq_of_length e)) hb
      · omega
    refine ⟨b.length, hlt, ?_⟩
    have eb : w.take b.length = b := (List.prefix_iff_eq_take.mp hp).symm
    rw [eb]
    have hg : w.getD b.length 0 = w[b.length] := by simp [List.getD, hlt]
    have hne : c ≠ w[b.length] := fun e => hx ⟨w, by simp, by
      rw [List.prefix_iff_eq_take, List.length_append]
      simp only [List.length_cons, List.length_nil]
      rw [List.take_add_one, List.getElem?_eq_getElem hlt, eb, ← e]
      rfl⟩
    rw [hg]
    have h1 := hs _ (List.getElem_mem hlt)
    have h2 : c = 97 ∨ c = 98 := by simpa using hc
    congr 2
    unfold flipc
    split <;> omega
  · rintro ⟨i, hi, rfl⟩
    have hg : s.getD i 0 = s[i] := by simp [List.getD, hi]
    rw [hg]
    have h1 := hs _ (List.getElem_mem hi)
    refine ⟨s.take i, flipc s[i], rfl, ?_, fun z => ?_, ⟨s, by simp, List.take_prefix _ _⟩, fun ⟨w, hw, hp⟩ => ?_⟩
    · unfold flipc; split <;> simp
    · rw [List.mem_singleton] at z
      have := congrArg List.length z
      rw [List.length_take] at this
      omega
    · rw [List.mem_singleton] at hw
      subst hw
      rw [List.prefix_iff_eq_take, List.length_append, List.length_take] at hp
      simp only [List.length_cons, List.length_nil] at hp
      rw [Nat.min_eq_left (by omega), List.take_add_one, List.getElem?_eq_getElem hi] at hp
      have h3 := List.append_cancel_left (show w.take i ++ [flipc w[i]] = w.take i ++ (some w[i]).toList from hp)
      have : flipc w[i] = w[i] := by simpa using h3
      unfold flipc at this
      split at this <;> omega
theorem dat__law_long_right : Dat 1 nm__law_long_right (fs__law_long_right A) (ph__law_long_right A) := by
  rintro ds M Kp KE - ⟨p, o, n, rfl, hm, ho, hn, h⟩
  simp only [dRet, dCB, dCons, dNil, dLc, dLc2, dIS, dIL, dIT, dIR1, dIR2, dIEL, dIET, dIES, dVar, dC, dOp, dUn, dTest, kTest, dChain, kChain, dAnd, dOr, dNot, dTru, dSeq, dNext, dIfS, dFor, dAsg, dName, dGTup, dGCons, dGNil, dLst, dTup, dSl, dON, dOS, dOrV, dAndV, dNotV, dIf, dPar, dAug, dGSub, dRetN, dBreak, dCont, dDrop, dYes, dNever, startD, ksOf, wipeR, List.map_cons, List.map_nil, List.cons_append, List.nil_append, List.getElem?_cons_zero, List.getElem?_cons_succ, List.length_cons, List.length_nil, Nat.reduceAdd, Nat.reduceSub, List.reduceReplicate, List.set_cons_zero, List.set_cons_succ, nB, newL, decide_true, true_and, and_true, eq_self, reduceIte, List.length_map, Bool.not_true, Bool.not_false, ph__law_long_right, dBM]
  refine ⟨rfl, by omega, by omega, ?_⟩
  refine lc_inv (fun i acc M' => ∃ (w : Wd1) (o' : MO), acc = w.map (fun c => .str (T [c])) ∧ w.length = i ∧ (∀ c ∈ w, c = 97 ∨ c = 98) ∧ M' = updM M p o' ∧ PlO (n + i) o')
    ⟨[], o, rfl, rfl, by simp, (updM_self hm).symm, ho⟩ ?_ ?_
  · rintro i x acc M' Q R hx ⟨w, o', rfl, hwl, hwc, rfl, ho'⟩ hQ hR
    obtain ⟨hi, rfl⟩ := rangeD_inv hx
    refine ⟨trivial, by rw [List.length_map, hwl]; unfold sizeLine; omega, ?_⟩
    simp only [dRet, dCB, dCons, dNil, dLc, dLc2, dIS, dIL, dIT, dIR1, dIR2, dIEL, dIET, dIES, dVar, dC, dOp, dUn, dTest, kTest, dChain, kChain, dAnd, dOr, dNot, dTru, dSeq, dNext, dIfS, dFor, dAsg, dName, dGTup, dGCons, dGNil, dLst, dTup, dSl, dON, dOS, dOrV, dAndV, dNotV, dIf, dPar, dAug, dGSub, dRetN, dBreak, dCont, dDrop, dYes, dNever, startD, ksOf, wipeR, List.map_cons, List.map_nil, List.cons_append, List.nil_append, List.getElem?_cons_zero, List.getElem?_cons_succ, List.length_cons, List.length_nil, Nat.reduceAdd, Nat.reduceSub, List.reduceReplicate, List.set_cons_zero, List.set_cons_succ, nB, newL, decide_true, true_and, and_true, eq_self, reduceIte, List.length_map, Bool.not_true, Bool.not_false, dCallN]
    refine ⟨p, o', n + i, 2, rfl, updM_same, ho', by omega, by omega, by omega, fun o2 d2 ho2 hd2 => ?_⟩
    have hc : ([97, 98] : List Nat)[d2]? = some (97 + d2) := by
      match d2, hd2 with
      | 0, _ => rfl
      | 1, _ => rfl
    refine ix_T hc (by simp only [List.length_cons, List.length_nil]; unfold sizeLine; omega) ?_
    refine hQ _ _ ⟨w ++ [97 + d2], o2, by rw [List.map_append]; rfl, by rw [List.length_append, hwl]; rfl, fun c hc => ?_, updM_upd, ho2⟩
    rcases List.mem_append.mp hc with hc | hc
    · exact hwc c hc
    · rw [List.mem_singleton] at hc; omega
  rintro acc M' ⟨s, o1, rfl, hsl, hsc, rfl, ho1⟩
  have hsl : s.length = 8 := by rw [hsl, rangeD_length]; rfl
  refine ⟨trivial, ?_⟩
  try simp only [dRet, dCB, dCons, dNil, dLc, dLc2, dIS, dIL, dIT, dIR1, dIR2, dIEL, dIET, dIES, dVar, dC, dOp, dUn, dTest, kTest, dChain, kChain, dAnd, dOr, dNot, dTru, dSeq, dNext, dIfS, dFor, dAsg, dName, dGTup, dGCons, dGNil, dLst, dTup, dSl, dON, dOS, dOrV, dAndV, dNotV, dIf, dPar, dAug, dGSub, dRetN, dBreak, dCont, dDrop, dYes, dNever, startD, ksOf, wipeR, List.map_cons, List.map_nil, List.cons_append, List.nil_append, List.getElem?_cons_zero, List.getElem?_cons_succ, List.length_cons, List.length_nil, Nat.reduceAdd, Nat.reduceSub, List.reduceReplicate, List.set_cons_zero, List.set_cons_succ, nB, newL, decide_true, true_and, and_true, eq_self, reduceIte, List.length_map, Bool.not_true, Bool.not_false]
  refine join_Tc (ws := s.map fun c => [c]) rfl (by rw [List.map_map]; rfl) ?_ ?_
  · rw [List.map_map, List.length_map]
    have : ((fun x : List Nat => x.length) ∘ fun c => [c]) = fun _ : Nat => 1 := rfl
    rw [this]
    have : ∀ w : Wd1, (w.map fun _ => 1).sum = w.length := fun w => by
      induction w with
      | nil => rfl
      | cons c w ih => rw [List.map_cons, List.sum_cons, ih, List.length_cons]; omega
    rw [this]
    simp only [List.length_nil, Nat.mul_zero]
    omega
  have efl : joinT [] (s.map fun c => [c]) = s := by
    have : ∀ w : Wd1, (w.map fun c => [c]).flatten = w := fun w => by
      induction w with
      | nil => rfl
      | cons c w ih => rw [List.map_cons, List.flatten_cons, ih]; rfl
    rw [joinT_nil, this]
  rw [efl]
  have hsb : s.length ≤ sizeLine := by rw [hsl]; unfold sizeLine; omega
  try simp only [dRet, dCB, dCons, dNil, dLc, dLc2, dIS, dIL, dIT, dIR1, dIR2, dIEL, dIET, dIES, dVar, dC, dOp, dUn, dTest, kTest, dChain, kChain, dAnd, dOr, dNot, dTru, dSeq, dNext, dIfS, dFor, dAsg, dName, dGTup, dGCons, dGNil, dLst, dTup, dSl, dON, dOS, dOrV, dAndV, dNotV, dIf, dPar, dAug, dGSub, dRetN, dBreak, dCont, dDrop, dYes, dNever, startD, ksOf, wipeR, List.map_cons, List.map_nil, List.cons_append, List.nil_append, List.getElem?_cons_zero, List.getElem?_cons_succ, List.length_cons, List.length_nil, Nat.reduceAdd, Nat.reduceSub, List.reduceReplicate, List.set_cons_zero, List.set_cons_succ, nB, newL, decide_true, true_and, and_true, eq_self, reduceIte, List.length_map, Bool.not_true, Bool.not_false]
  refine ⟨by omega, by omega, ?_⟩
  have hnp := ho1
  -- the answer that is due
  refine lc_inv (fun i acc M' => Ext (updM M p o1) M' ∧ acc = wsD ((List.range i).map fun j => s.take j ++ [flipc (s.getD j 0)])) ⟨Ext.refl _, rfl⟩ ?_ ?_
  · rintro i x acc M' Q R hx ⟨hE, rfl⟩ hQ hR
    obtain ⟨hi, rfl⟩ := rangeD_inv hx
    have hi8 : i < s.length := by rw [hsl]; exact hi
    have hg : s.getD i 0 = s[i] := by simp [List.getD, hi8]
    have hc := hsc _ (List.getElem_mem hi8)
    refine ⟨trivial, by rw [wsD_len, List.length_map, List.length_range]; unfold sizeLine; omega, ?_⟩
    simp only [dRet, dCB, dCons, dNil, dLc, dLc2, dIS, dIL, dIT, dIR1, dIR2, dIEL, dIET, dIES, dVar, dC, dOp, dUn, dTest, kTest, dChain, kChain, dAnd, dOr, dNot, dTru, dSeq, dNext, dIfS, dFor, dAsg, dName, dGTup, dGCons, dGNil, dLst, dTup, dSl, dON, dOS, dOrV, dAndV, dNotV, dIf, dPar, dAug, dGSub, dRetN, dBreak, dCont, dDrop, dYes, dNever, startD, ksOf, wipeR, List.map_cons, List.map_nil, List.cons_append, List.nil_append, List.getElem?_cons_zero, List.getElem?_cons_succ, List.length_cons, List.length_nil, Nat.reduceAdd, Nat.reduceSub, List.reduceReplicate, List.set_cons_zero, List.set_cons_succ, nB, newL, decide_true, true_and, and_true, eq_self, reduceIte, List.length_map, Bool.not_true, Bool.not_false, Int.zero_add]
    refine sl_T hsb ?_
    simp only [dRet, dCB, dCons, dNil, dLc, dLc2, dIS, dIL, dIT, dIR1, dIR2, dIEL, dIET, dIES, dVar, dC, dOp, dUn, dTest, kTest, dChain, kChain, dAnd, dOr, dNot, dTru, dSeq, dNext, dIfS, dFor, dAsg, dName, dGTup, dGCons, dGNil, dLst, dTup, dSl, dON, dOS, dOrV, dAndV, dNotV, dIf, dPar, dAug, dGSub, dRetN, dBreak, dCont, dDrop, dYes, dNever, startD, ksOf, wipeR, List.map_cons, List.map_nil, List.cons_append, List.nil_append, List.getElem?_cons_zero, List.getElem?_cons_succ, List.length_cons, List.length_nil, Nat.reduceAdd, Nat.reduceSub, List.reduceReplicate, List.set_cons_zero, List.set_cons_succ, nB, newL, decide_true, true_and, and_true, eq_self, reduceIte, List.length_map, Bool.not_true, Bool.not_false, cutL_to', dDisp]
    refine ⟨[(kT [97], .str (T [98])), (kT [98], .str (T [97]))], rfl, by simp, ?_, fun r hr => ?_⟩
    · simp only [List.map_cons, List.map_nil, List.nodup_cons, List.mem_singleton, List.not_mem_nil, not_false_eq_true, List.nodup_nil, and_true]
      intro z
      have := kT_inj z
      simp at this
    refine ix_T (c := s[i]) (List.getElem?_eq_getElem hi8) hsb ?_
    refine ⟨[(kT [97], .str (T [98])), (kT [98], .str (T [97]))], kT [s[i]], ?_, rfl, ?_⟩
    · show (match updM M' r _ r with | some (.dK kvs) => some kvs | some (.lkK _ _ kvs) => some kvs | _ => none) = _
      rw [updM_same]
    have ev : valD [(kT [97], D.str (T [98])), (kT [98], D.str (T [97]))] (kT [s[i]]) = some (.str (T [flipc s[i]])) := by
      rcases hc with e | e
      · rw [e]
        simp [valD, List.find?_cons, flipc]
      · rw [e]
        have hne : ¬ kT [97] = kT [98] := fun z => by have := kT_inj z; simp at this
        simp [valD, List.find?_cons, hne, flipc]
    rw [ev]
    simp only [dRet, dCB, dCons, dNil, dLc, dLc2, dIS, dIL, dIT, dIR1, dIR2, dIEL, dIET, dIES, dVar, dC, dOp, dUn, dTest, kTest, dChain, kChain, dAnd, dOr, dNot, dTru, dSeq, dNext, dIfS, dFor, dAsg, dName, dGTup, dGCons, dGNil, dLst, dTup, dSl, dON, dOS, dOrV, dAndV, dNotV, dIf, dPar, dAug, dGSub, dRetN, dBreak, dCont, dDrop, dYes, dNever, startD, ksOf, wipeR, List.map_cons, List.map_nil, List.cons_append, List.nil_append, List.getElem?_cons_zero, List.getElem?_cons_succ, List.length_cons, List.length_nil, Nat.reduceAdd, Nat.reduceSub, List.reduceReplicate, List.set_cons_zero, List.set_cons_succ, nB, newL, decide_true, true_and, and_true, eq_self, reduceIte, List.length_map, Bool.not_true, Bool.not_false, δAdd, T_app]
    refine ⟨by simp only [T_len, List.length_take, List.length_cons, List.length_nil]; unfold sizeLine; omega, ?_⟩
    refine hQ _ _ ⟨Ext.new hE (hE.none hr), ?_⟩
    rw [List.range_succ, List.map_append, wsD, wsD, List.map_append]
    simp only [List.map_cons, List.map_nil, hg]
    rfl
  rintro acc M' ⟨hE, rfl⟩
  refine ⟨trivial, ?_⟩
  rw [rangeD_length]
  try simp only [dRet, dCB, dCons, dNil, dLc, dLc2, dIS, dIL, dIT, dIR1, dIR2, dIEL, dIET, dIES, dVar, dC, dOp, dUn, dTest, kTest, dChain, kChain, dAnd, dOr, dNot, dTru, dSeq, dNext, dIfS, dFor, dAsg, dName, dGTup, dGCons, dGNil, dLst, dTup, dSl, dON, dOS, dOrV, dAndV, dNotV, dIf, dPar, dAug, dGSub, dRetN, dBreak, dCont, dDrop, dYes, dNever, startD, ksOf, wipeR, List.map_cons, List.map_nil, List.cons_append, List.nil_append, List.getElem?_cons_zero, List.getElem?_cons_succ, List.length_cons, List.length_nil, Nat.reduceAdd, Nat.reduceSub, List.reduceReplicate, List.set_cons_zero, List.set_cons_succ, nB, newL, decide_true, true_and, and_true, eq_self, reduceIte, List.length_map, Bool.not_true, Bool.not_false]
  generalize hdue : ((List.range (Int.toNat 8)).map fun j => s.take j ++ [flipc (s.getD j 0)]) = due
  have dmem : ∀ x, x ∈ due ↔ ∃ i, i < s.length ∧ x = s.take i ++ [flipc (s.getD i 0)] := fun x => by
    rw [← hdue, List.mem_map]
    simp only [List.mem_range]
    exact ⟨fun ⟨i, h1, h2⟩ => ⟨i, by rw [hsl]; exact h1, h2.symm⟩, fun ⟨i, h1, h2⟩ => ⟨i, by rw [hsl] at h1; exact h1, h2.symm⟩⟩
  have dnd : due.Nodup := by
    rw [← hdue]
    refine List.pairwise_map.mpr (List.Pairwise.imp_of_mem ?_ List.nodup_range)
    intro i j hi hj hne e
    have hi := List.mem_range.mp hi
    have hj := List.mem_range.mp hj
    have := congrArg List.length e
    simp only [List.length_append, List.length_take, List.length_cons, List.length_nil, hsl] at this
    have e8 : Int.toNat 8 = 8 := rfl
    omega
  refine ⟨due, rfl, fun us hp hs => ?_⟩
  have g1 : Good [s] := ⟨by simp, by simp, fun w hw => by rw [List.mem_singleton] at hw; rw [hw]; omega, fun w hw c hc => by
    rw [List.mem_singleton] at hw
    rw [hw] at hc
    rcases hsc c hc with e | e <;> (rw [e]; decide), by simp⟩
  have ap : Apart [s] := fun a ha b hb _ => by rw [List.mem_singleton] at ha hb; rw [ha, hb]
  have hl2 : ∀ w ∈ [s], ∀ c ∈ w, c ∈ LET.take 2 := fun w hw c hc => by
    rw [List.mem_singleton] at hw
    rw [hw] at hc
    rcases hsc c hc with e | e <;> (rw [e]; decide)
  simp only [dRet, dCB, dCons, dNil, dLc, dLc2, dIS, dIL, dIT, dIR1, dIR2, dIEL, dIET, dIES, dVar, dC, dOp, dUn, dTest, kTest, dChain, kChain, dAnd, dOr, dNot, dTru, dSeq, dNext, dIfS, dFor, dAsg, dName, dGTup, dGCons, dGNil, dLst, dTup, dSl, dON, dOS, dOrV, dAndV, dNotV, dIf, dPar, dAug, dGSub, dRetN, dBreak, dCont, dDrop, dYes, dNever, startD, ksOf, wipeR, List.map_cons, List.map_nil, List.cons_append, List.nil_append, List.getElem?_cons_zero, List.getElem?_cons_succ, List.length_cons, List.length_nil, Nat.reduceAdd, Nat.reduceSub, List.reduceReplicate, List.set_cons_zero, List.set_cons_succ, nB, newL, decide_true, true_and, and_true, eq_self, reduceIte, List.length_map, Bool.not_true, Bool.not_false, dMake, dCallN]
  refine ⟨by unfold sizeLine; omega, mk_stock A (ws := [s]) rfl g1 ?_⟩
  try simp only [dRet, dCB, dCons, dNil, dLc, dLc2, dIS, dIL, dIT, dIR1, dIR2, dIEL, dIET, dIES, dVar, dC, dOp, dUn, dTest, kTest, dChain, kChain, dAnd, dOr, dNot, dTru, dSeq, dNext, dIfS, dFor, dAsg, dName, dGTup, dGCons, dGNil, dLst, dTup, dSl, dON, dOS, dOrV, dAndV, dNotV, dIf, dPar, dAug, dGSub, dRetN, dBreak, dCont, dDrop, dYes, dNever, startD, ksOf, wipeR, List.map_cons, List.map_nil, List.cons_append, List.nil_append, List.getElem?_cons_zero, List.getElem?_cons_succ, List.length_cons, List.length_nil, Nat.reduceAdd, Nat.reduceSub, List.reduceReplicate, List.set_cons_zero, List.set_cons_succ, nB, newL, decide_true, true_and, and_true, eq_self, reduceIte, List.length_map, Bool.not_true, Bool.not_false]
  refine ⟨[s], 2, rfl, g1, ap, by omega, by omega, hl2, fun qs nd hq hqs => ?_⟩
  have esame : qs = us := same_sorted nd ((List.Perm.nodup_iff hp).mpr dnd) (fun x => by
    rw [hq, hp.mem_iff, dmem, ← fills_one hsc]
    exact Iff.rfl) hqs hs
  subst esame
  have hrow : ∀ w ∈ qs, Row w := fun w hw => fills_row g1 (fun c hc => List.mem_of_mem_take hc) ((hq w).mp hw)
  intro r hr
  refine eq_txts (viewL_ptr.mpr updM_same) rfl hrow hrow ?_
  try simp only [dRet, dCB, dCons, dNil, dLc, dLc2, dIS, dIL, dIT, dIR1, dIR2, dIEL, dIET, dIES, dVar, dC, dOp, dUn, dTest, kTest, dChain, kChain, dAnd, dOr, dNot, dTru, dSeq, dNext, dIfS, dFor, dAsg, dName, dGTup, dGCons, dGNil, dLst, dTup, dSl, dON, dOS, dOrV, dAndV, dNotV, dIf, dPar, dAug, dGSub, dRetN, dBreak, dCont, dDrop, dYes, dNever, startD, ksOf, wipeR, List.map_cons, List.map_nil, List.cons_append, List.nil_append, List.getElem?_cons_zero, List.getElem?_cons_succ, List.length_cons, List.length_nil, Nat.reduceAdd, Nat.reduceSub, List.reduceReplicate, List.set_cons_zero, List.set_cons_succ, nB, newL, decide_true, true_and, and_true, eq_self, reduceIte, List.length_map, Bool.not_true, Bool.not_false]
  refine ⟨true, rfl, ?_⟩
  try simp only [dRet, dCB, dCons, dNil, dLc, dLc2, dIS, dIL, dIT, dIR1, dIR2, dIEL, dIET, dIES, dVar, dC, dOp, dUn, dTest, kTest, dChain, kChain, dAnd, dOr, dNot, dTru, dSeq, dNext, dIfS, dFor, dAsg, dName, dGTup, dGCons, dGNil, dLst, dTup, dSl, dON, dOS, dOrV, dAndV, dNotV, dIf, dPar, dAug, dGSub, dRetN, dBreak, dCont, dDrop, dYes, dNever, startD, ksOf, wipeR, List.map_cons, List.map_nil, List.cons_append, List.nil_append, List.getElem?_cons_zero, List.getElem?_cons_succ, List.length_cons, List.length_nil, Nat.reduceAdd, Nat.reduceSub, List.reduceReplicate, List.set_cons_zero, List.set_cons_succ, nB, newL, decide_true, true_and, and_true, eq_self, reduceIte, List.length_map, Bool.not_true, Bool.not_false]
  refine ⟨by unfold sizeLine; omega, mk_stock A (ws := [s]) rfl g1 ?_⟩
  try simp only [dRet, dCB, dCons, dNil, dLc, dLc2, dIS, dIL, dIT, dIR1, dIR2, dIEL, dIET, dIES, dVar, dC, dOp, dUn, dTest, kTest, dChain, kChain, dAnd, dOr, dNot, dTru, dSeq, dNext, dIfS, dFor, dAsg, dName, dGTup, dGCons, dGNil, dLst, dTup, dSl, dON, dOS, dOrV, dAndV, dNotV, dIf, dPar, dAug, dGSub, dRetN, dBreak, dCont, dDrop, dYes, dNever, startD, ksOf, wipeR, List.map_cons, List.map_nil, List.cons_append, List.nil_append, List.getElem?_cons_zero, List.getElem?_cons_succ, List.length_cons, List.length_nil, Nat.reduceAdd, Nat.reduceSub, List.reduceReplicate, List.set_cons_zero, List.set_cons_succ, nB, newL, decide_true, true_and, and_true, eq_self, reduceIte, List.length_map, Bool.not_true, Bool.not_false]
  refine ⟨[s], 2, rfl, g1, by omega, by omega, hl2, by unfold sizeLine; omega, ?_⟩
  have er : lowD (roomN [s] 2 8) (2 ^ 8) = lowD 1 256 := by
    unfold roomN
    simp only [List.map_cons, List.map_nil, List.sum_cons, List.sum_nil, hsl]
    rfl
  rw [er]
  refine eq_low ?_
  rw [decide_eq_true (by decide)]
  exact kSet_ext (hE.trans (Ext.new (Ext.refl _) hr)) (h o1 (hnp.mono (by rw [rangeD_length]; show n + 8 ≤ _; omega)))
end Lw
end
noncomputable section
namespace Lw
open PySem PySem.Spec PyProof.Rows L2 Evl Dl Classical
theorem sum_add {α : Type} (l : List α) (f g : α → Nat) : (l.map fun x => f x + g x).sum = (l.map f).sum + (l.map g).sum := by
  induction l with
  | nil => rfl
  | cons a l ih => simp only [List.map_cons, List.sum_cons, ih]; omega
theorem sum_swap {α β : Type} (l : List α) (m : List β) (F : α → β → Nat) : (l.map fun x => (m.map fun c => F x c).sum).sum = (m.map fun c => (l.map fun x => F x c).sum).sum := by
  induction l with
  | nil =>
    have : ∀ m : List β, (m.map fun _ => 0).sum = 0 := fun m => by
      induction m with
      | nil => rfl
      | cons a m ih => rw [List.map_cons, List.sum_cons, ih]
    rw [List.map_nil, List.sum_nil]
    exact (this m).symm
  | cons a l ih =>
    rw [List.map_cons, List.sum_cons, ih, ← sum_add]
    rfl
theorem pre_snoc {b x : Wd1} {c : Nat} : b ++ [c] <+: x ↔ b <+: x ∧ x[b.length]? = some c := by
  constructor
  · rintro ⟨t, rfl⟩
    refine ⟨⟨[c] ++ t, by simp⟩, ?_⟩
    simp
  · rintro ⟨⟨t, rfl⟩, h⟩
    rw [List.getElem?_append_right (Nat.le_refl _), Nat.sub_self] at h
    cases t with
    | nil => simp at h
    | cons y t =>
      have : y = c := by simpa using h
      subst this
      exact ⟨t, by simp⟩
theorem one_c (b x : Wd1) (v : Nat) : ∀ sg : List Nat, sg.Nodup → (sg.map fun c => if b ++ [c] <+: x then v else 0).sum = if ∃ c ∈ sg, b ++ [c] <+: x then v else 0
  | [], _ => by simp
  | c :: sg, h => by
    have hn := List.nodup_cons.mp h
    rw [List.map_cons, List.sum_cons, one_c b x v sg hn.2]
    by_cases h1 : b ++ [c] <+: x
    · have h2 : ¬ ∃ c ∈ sg, b ++ [c] <+: x := fun ⟨d, hd, hp⟩ => by
        have e1 := (pre_snoc.mp h1).2
        have e2 := (pre_snoc.mp hp).2
        rw [e1] at e2
        exact hn.1 (Option.some.inj e2 ▸ hd)
      rw [if_pos h1, if_neg h2, if_pos ⟨c, by simp, h1⟩]
      omega
    · rw [if_neg h1, Nat.zero_add]
      by_cases h2 : ∃ c ∈ sg, b ++ [c] <+: x
      · obtain ⟨d, hd, hp⟩ := h2
        rw [if_pos ⟨d, hd, hp⟩, if_pos ⟨d, by simp [hd], hp⟩]
      · rw [if_neg h2, if_neg]
        rintro ⟨d, hd, hp⟩
        rcases List.mem_cons.mp hd with rfl | hd
        · exact h1 hp
        · exact h2 ⟨d, hd, hp⟩
/-- the room below b -/
def below (L : List Wd1) (k : Nat) (b : Wd1) : Nat := (L.map fun x => if b <+: x then k ^ (8 - x.length) else 0).sum
theorem below_split {L : List Wd1} {k : Nat} {b : Wd1} {sg : List Nat} (nd : sg.Nodup) (h : ∀ x ∈ L, b <+: x → ∃ c ∈ sg, b ++ [c] <+: x) : below L k b = (sg.map fun c => below L k (b ++ [c])).sum := by
  unfold below
  rw [← sum_swap]
  congr 1
  refine List.map_congr_left fun x hx => ?_
  rw [one_c b x _ sg nd]
  by_cases hb : b <+: x
  · rw [if_pos hb, if_pos (h x hx hb)]
  · rw [if_neg hb, if_neg]
    rintro ⟨c, _, hc⟩
    exact hb (pre_snoc.mp hc).1
theorem below_leaf {k : Nat} {b : Wd1} : ∀ {L : List Wd1}, L.Nodup → b ∈ L → (∀ x ∈ L, b <+: x → x = b) → below L k b = k ^ (8 - b.length)
  | [], _, h, _ => absurd h (by simp)
  | x :: L, nd, h, hu => by
    have hn := List.nodup_cons.mp nd
    unfold below
    rw [List.map_cons, List.sum_cons]
    have zero : ∀ L : List Wd1, (∀ x ∈ L, b <+: x → x = b) → b ∉ L → (L.map fun x => if b <+: x then k ^ (8 - x.length) else 0).sum = 0 := fun L => by
      induction L with
      | nil => intro _ _; rfl
      | cons y L ih =>
        intro h1 h2
        rw [List.map_cons, List.sum_cons, ih (fun x hx => h1 x (by simp [hx])) (fun z => h2 (by simp [z])), if_neg]
        intro hp
        exact h2 (by rw [h1 y (by simp) hp]; simp)
    rcases List.mem_cons.mp h with e | h'
    · subst e
      rw [if_pos (List.prefix_refl _), zero L (fun x hx => hu x (by simp [hx])) hn.1]
      omega
    · have hbx : ¬ b <+: x := fun z => hn.1 (by rw [hu x (by simp) z]; exact h')
      rw [if_neg hbx, Nat.zero_add]
      exact below_leaf hn.2 h' fun x hx => hu x (by simp [hx])
theorem sum_const (l : List Nat) (v : Nat) : (l.map fun _ => v).sum = l.length * v := by
  induction l with
  | nil => simp
  | cons a l ih => rw [List.map_cons, List.sum_cons, ih, List.length_cons, Nat.succ_mul]; omega
section
variable {ws due : List Wd1} {sg : List Nat}
structure Filled (ws due : List Wd1) (sg : List Nat) : Prop where
  g : Good ws
  ap : Apart ws
  sn : sg.Nodup
  ch : ∀ w ∈ ws, ∀ c ∈ w, c ∈ sg
  nd : due.Nodup
  fl : ∀ q, q ∈ due ↔ Fills ws sg q
theorem Filled.not_pp (F : Filled ws due sg) {b : Wd1} (h : PP ws b) : b ∉ ws ++ due := fun z => by
  rcases List.mem_append.mp z with z | z
  · obtain ⟨w, hw, hp, hne⟩ := h
    exact hne (F.ap b z w hw hp)
  · obtain ⟨_, _, _, _, _, h2, _⟩ := (fills_pp F.g F.ap).mp ((F.fl b).mp z)
    exact h2 h
theorem Filled.kids (F : Filled ws due sg) {b : Wd1} (h : PP ws b) {c : Nat} (hc : c ∈ sg) : PP ws (b ++ [c]) ∨ b ++ [c] ∈ ws ++ due := by
  by_cases h1 : PP ws (b ++ [c])
  · exact .inl h1
  · by_cases h2 : b ++ [c] ∈ ws
    · exact .inr (by simp [h2])
    · exact .inr (List.mem_append.mpr (.inr ((F.fl _).mpr ((fills_pp F.g F.ap).mpr ⟨b, c, rfl, hc, h, h1, h2⟩))))
theorem Filled.chars (F : Filled ws due sg) {x : Wd1} (h : x ∈ ws ++ due) : ∀ c ∈ x, c ∈ sg := fun c hc => by
  rcases List.mem_append.mp h with h | h
  · exact F.ch x h c hc
  · obtain ⟨b, d, rfl, hd, ⟨w, hw, hp, _⟩, _⟩ := (fills_pp F.g F.ap).mp ((F.fl x).mp h)
    rcases List.mem_append.mp hc with hc | hc
    · exact F.ch w hw c (hp.subset hc)
    · rw [List.mem_singleton] at hc; rw [hc]; exact hd
/-- what begins a leaf is inside -/
theorem Filled.pre (F : Filled ws due sg) {a x : Wd1} (hx : x ∈ ws ++ due) (h : a <+: x) (hne : a ≠ x) : PP ws a := by
  rcases List.mem_append.mp hx with hx | hx
  · exact ⟨x, hx, h, hne⟩
  · obtain ⟨b, d, rfl, hd, hpb, _⟩ := (fills_pp F.g F.ap).mp ((F.fl x).mp hx)
    have hl := h.length_le
    have hlt : a.length < (b ++ [d]).length := by
      by_cases e : a.length = (b ++ [d]).length
      · exact absurd (h.eq_of_length e) hne
      · omega
    have ea : a = b.take a.length := by
      have := List.prefix_iff_eq_take.mp h
      rw [List.take_append_of_le_length (by rw [List.length_append] at hlt; simp only [List.length_cons, List.length_nil] at hlt; omega)] at this
      exact this
    rw [ea]
    exact pp_pre hpb _
theorem Filled.apart (F : Filled ws due sg) : Apart (ws ++ due) := fun a ha b hb h => by
  refine Classical.byContradiction fun hne => ?_
  exact F.not_pp (F.pre hb h hne) ha
theorem Filled.nodup (F : Filled ws due sg) : (ws ++ due).Nodup := by
  rw [List.nodup_append]
  refine ⟨F.g.nd, F.nd, fun x hx y hy e => ?_⟩
  subst e
  obtain ⟨_, _, _, _, _, _, h⟩ := (fills_pp F.g F.ap).mp ((F.fl x).mp hy)
  exact h hx
theorem Filled.below (F : Filled ws due sg) : ∀ (n : Nat) (b : Wd1), 8 - b.length = n → b.length ≤ 8 → PP ws b ∨ b ∈ ws ++ due → below (ws ++ due) sg.length b = sg.length ^ (8 - b.length)
  | n, b, hn, hb, h => by
    rcases h with h | h
    · have h7 := pp_len F.g h
      rw [below_split F.sn (fun x hx hp => ?_)]
      · have key : ∀ c ∈ sg, Lw.below (ws ++ due) sg.length (b ++ [c]) = sg.length ^ (8 - b.length - 1) := fun c hc => by
          have hl : (b ++ [c]).length = b.length + 1 := by rw [List.length_append]; rfl
          cases n with
          | zero => omega
          | succ n =>
            have := Filled.below F n (b ++ [c]) (by omega) (by omega) (F.kids h hc)
            rw [this, hl, Nat.sub_add_eq]
        rw [List.map_congr_left key, sum_const, ← Nat.pow_succ']
        congr 1
        omega
      · have hne : b ≠ x := fun z => F.not_pp h (z ▸ hx)
        have hlt : b.length < x.length := by
          have := hp.length_le
          by_cases e : b.length = x.length
          · exact absurd (hp.eq_of_length e) hne
          · omega
        refine ⟨x[b.length], F.chars hx _ (List.getElem_mem hlt), pre_snoc.mpr ⟨hp, List.getElem?_eq_getElem hlt⟩⟩
    · exact below_leaf F.nodup h fun x hx hp => (F.apart b h x hx hp).symm
theorem Filled.full (F : Filled ws due sg) : roomN (ws ++ due) sg.length 8 = sg.length ^ 8 := by
  have h0 : 0 < ws.length := F.g.one
  have hp : PP ws [] := ⟨ws[0], List.getElem_mem h0, List.nil_prefix, fun z => by
    have := (F.g.len ws[0] (List.getElem_mem h0)).1
    rw [← z] at this
    simp at this⟩
  have := F.below 8 [] rfl (by simp) (.inl hp)
  unfold Lw.below at this
  simp only [List.nil_prefix, if_true] at this
  exact this
end
theorem apart_one {ws : List Wd1} (g : Good ws) (h : Apart ws) : OneWay ws := by
  have none : ∀ q, ¬ Rst ws q := fun q c => by
    induction c with
    | base hs =>
      obtain ⟨a, ha, b, hb, hne, ht, _⟩ := (st0_law g _).mp hs
      exact hne (h a ha b hb (pre_iff.mp ht)).symm
    | step _ _ ih => exact ih
  exact none []
theorem apart_all : ∀ (ws acc : List Wd1), Apart (acc ++ ws) → (acc ++ ws).Nodup → apartL acc ws = acc ++ ws
  | [], acc, _, _ => by rw [apartL, List.append_nil]
  | w :: r, acc, h, nd => by
    have hn : ¬ ∃ s ∈ acc, w <+: s ∨ s <+: w := fun ⟨s, hs, hp⟩ => by
      have e : s = w := hp.elim (fun z => (h w (by simp) s (by simp [hs]) z).symm) fun z => h s (by simp [hs]) w (by simp) z
      rw [List.nodup_append] at nd
      exact nd.2.2 s hs w (by simp) e
    rw [apartL, if_neg hn]
    have e : acc ++ w :: r = (acc ++ [w]) ++ r := by simp
    rw [e] at h nd ⊢
    exact apart_all r (acc ++ [w]) h nd
/-- the apart lot is apart, and no list grows -/
theorem apartL_apart : ∀ (ws acc : List Wd1), Apart acc → acc.Nodup → Apart (apartL acc ws) ∧ (apartL acc ws).Nodup
  | [], acc, h, nd => ⟨h, nd⟩
  | w :: r, acc, h, nd => by
    rw [apartL]
    split
    · exact apartL_apart r acc h nd
    · rename_i hn
      refine apartL_apart r (acc ++ [w]) (fun a ha b hb hp => ?_) ?_
      · have cs : ∀ z : Wd1, z ∈ acc ++ [w] → z ∈ acc ∨ z = w := fun z hz => (List.mem_append.mp hz).imp id List.mem_singleton.mp
        rcases cs a ha with ha1 | ha1 <;> rcases cs b hb with hb1 | hb1
        · exact h a ha1 b hb1 hp
        · exact absurd ⟨a, ha1, .inr (hb1 ▸ hp)⟩ hn
        · exact absurd ⟨b, hb1, .inl (ha1 ▸ hp)⟩ hn
        · rw [ha1, hb1]
      · rw [List.nodup_append]
        refine ⟨nd, by simp, fun x hx y hy e => ?_⟩
        rw [List.mem_singleton] at hy
        subst hy
        exact hn ⟨x, hx, .inl (e ▸ List.prefix_refl _)⟩
end Lw
end
noncomputable section
namespace Lw
open PySem PySem.Spec PyProof.Rows L2 Evl Dl Classical
variable (A : Ad)
theorem good_sub {ws l : List Wd1} (g : Good ws) (hs : ∀ x ∈ l, x ∈ ws) (nd : l.Nodup) (h1 : 1 ≤ l.length) : Good l :=
  ⟨h1, Nat.le_trans (List.Nodup.length_le_of_subset nd hs) g.few, fun x hx => g.len x (hs x hx), fun x hx => g.row x (hs x hx), nd⟩
theorem good_self {ws : List Wd1} {w : Wd1} (g : Good ws) (hw : w ∈ ws) : Good [w] :=
  good_sub g (fun x hx => by rw [List.mem_singleton] at hx; rw [hx]; exact hw) (by simp) (by simp)
theorem apart_self (w : Wd1) : Apart [w] := fun a ha b hb _ => by
  rw [List.mem_singleton] at ha hb
  rw [ha, hb]
theorem eased_keep : ∀ (r acc : List Wd1), OneWay acc → OneWay (easedL acc r) ∧ acc.length ≤ (easedL acc r).length
  | [], acc, h => ⟨h, Nat.le_refl _⟩
  | w :: r, acc, h => by
    rw [easedL]
    split
    · rename_i hc
      obtain ⟨h1, h2⟩ := eased_keep r (acc ++ [w]) hc.2
      rw [List.length_append] at h2
      exact ⟨h1, by omega⟩
    · exact eased_keep r acc h
theorem eased_good {ws : List Wd1} (g : Good ws) : Good (easedL [] ws) ∧ (∀ x ∈ easedL [] ws, x ∈ ws) ∧ OneWay (easedL [] ws) := by
  obtain ⟨hs, hn⟩ := eased_sub [] ws
  have hs : ∀ x ∈ easedL [] ws, x ∈ ws := fun x hx => (hs x hx).elim (fun z => absurd z (by simp)) id
  have hn := hn List.nodup_nil
  have h1 := g.one
  match ws, g, hs, hn, h1 with
  | w :: r, g, hs, hn, _ =>
    have ho : OneWay [w] := apart_one (good_self g (by simp)) (apart_self w)
    have e : easedL [] (w :: r) = easedL [w] r := by
      rw [easedL, if_pos ⟨by simp, ho⟩]
      rfl
    obtain ⟨k1, k2⟩ := eased_keep r [w] ho
    rw [e] at hs hn ⊢
    exact ⟨good_sub g hs hn (by simpa using k2), hs, k1⟩
theorem apart_keep : ∀ (r acc : List Wd1), acc.length ≤ (apartL acc r).length
  | [], acc => Nat.le_refl _
  | w :: r, acc => by
    rw [apartL]
    split
    · exact apart_keep r acc
    · have := apart_keep r (acc ++ [w])
      rw [List.length_append] at this
      omega
theorem apart_good {ws : List Wd1} (g : Good ws) : Good (apartL [] ws) ∧ (∀ x ∈ apartL [] ws, x ∈ ws) ∧ Apart (apartL [] ws) := by
  obtain ⟨hs, _⟩ := apart_sub [] ws
  have hs : ∀ x ∈ apartL [] ws, x ∈ ws := fun x hx => (hs x hx).elim (fun z => absurd z (by simp)) id
  obtain ⟨ha, hn⟩ := apartL_apart ws [] (fun a h => absurd h (by simp)) List.nodup_nil
  refine ⟨good_sub g hs hn ?_, hs, ha⟩
  have h1 := g.one
  match ws, h1 with
  | w :: r, _ =>
    rw [apartL, if_neg (by simp)]
    have := apart_keep r ([] ++ [w])
    simpa using this
structure Box (T : Prop) : Prop where
  v : T
theorem cut_mem {M0 : Mem} {T : Mem → Prop} {G : Prop} (h : Box (∀ M', Ext M0 M' → T M') → G) (t : ∀ M', Ext M0 M' → T M') : G := h ⟨t⟩
theorem cut_goal {T G : Prop} (h : Box T → G) (t : T) : G := h ⟨t⟩
theorem len_flat {α β : Type} (n : Nat) (f : α → List β) : ∀ l : List α, (∀ x ∈ l, (f x).length = n) → (l.flatMap f).length = l.length * n
  | [], _ => by simp
  | a :: l, h => by
    rw [List.flatMap_cons, List.length_append, h a (by simp), len_flat n f l fun x hx => h x (by simp [hx]), List.length_cons, Nat.succ_mul]
    omega
theorem due_few {ws due : List Wd1} {sg : List Nat} (g : Good ws) (ha : Apart ws) (h5 : ∀ w ∈ ws, w.length ≤ 5) (nd : due.Nodup) (h : ∀ q ∈ due, Fills ws sg q) : due.length ≤ ws.length * (5 * sg.length) := by
  have e : (ws.flatMap fun w => (List.range 5).flatMap fun j => sg.map fun c => w.take j ++ [c]).length = ws.length * (5 * sg.length) :=
    len_flat _ _ _ fun w _ => by
      rw [len_flat sg.length _ _ fun j _ => List.length_map _, List.length_range]
  rw [← e]
  refine List.Nodup.length_le_of_subset nd fun q hq => ?_
  obtain ⟨b, c, rfl, hc, ⟨w, hw, hp, hne⟩, _⟩ := (fills_pp g ha).mp (h q hq)
  refine List.mem_flatMap.mpr ⟨w, hw, List.mem_flatMap.mpr ⟨b.length, ?_, List.mem_map.mpr ⟨c, hc, ?_⟩⟩⟩
  · have h1 := h5 w hw
    have h2 := hp.length_le
    rw [List.mem_range]
    by_cases e : b.length = w.length
    · exact absurd (hp.eq_of_length e) hne
    · omega
  · rw [← List.prefix_iff_eq_take.mp hp]
theorem lt_i {i j : Int} {M : Mem} {Kp : KD} (h : Kp (.bl (decide (i < j))) M) : δLt (.int i) (.int j) M Kp := h
theorem lay_ws {ws : List Wd1} (h : ∀ w ∈ ws, Row w) : ∀ d ∈ wsD ws, layD 60 d := fun d hd => by
  obtain ⟨w, hw, rfl⟩ := List.mem_map.mp hd
  exact lay_txt (h w hw)
theorem ne_bl {b : Bool} {M : Mem} {Kp : KD} (h : Kp (.bl false) M) : δEq true (.bl b) (.bl b) M Kp := by cases b <;> exact h
theorem dat__law_right : Dat 1 nm__law_right (fs__law_right A) (ph__law_right A) := by
  rintro ds M Kp KE - ⟨p, o, n, rfl, hm, ho, hn, h⟩
  simp only [dRet, dCB, dCons, dNil, dLc, dLc2, dIS, dIL, dIT, dIR1, dIR2, dIEL, dIET, dIES, dVar, dC, dOp, dUn, dTest, kTest, dChain, kChain, dAnd, dOr, dNot, dTru, dSeq, dNext, dIfS, dFor, dAsg, dName, dGTup, dGCons, dGNil, dLst, dTup, dSl, dON, dOS, dOrV, dAndV, dNotV, dIf, dPar, dAug, dGSub, dRetN, dBreak, dCont, dDrop, dYes, dNever, startD, ksOf, wipeR, List.map_cons, List.map_nil, List.cons_append, List.nil_append, List.getElem?_cons_zero, List.getElem?_cons_succ, List.length_cons, List.length_nil, Nat.reduceAdd, Nat.reduceSub, List.reduceReplicate, List.set_cons_zero, List.set_cons_succ, nB, newL, decide_true, true_and, and_true, eq_self, reduceIte, List.length_map, Bool.not_true, Bool.not_false, ph__law_right, dCallN]
  refine ⟨by unfold sizeLine; omega, p, o, n, 3, rfl, hm, ho, by omega, by omega, by omega, fun o1 d1 ho1 hd1 => ?_⟩
  obtain ⟨k, hk1, hk3, hk⟩ : ∃ k, 1 ≤ k ∧ k ≤ 3 ∧ [D.str (T [97, 98]), D.str (T [97, 98, 99]), D.str (T [97])][d1]? = some (tD (LET.take k)) := by
    match d1, hd1 with
    | 0, _ => exact ⟨2, by omega, by omega, rfl⟩
    | 1, _ => exact ⟨3, by omega, by omega, rfl⟩
    | 2, _ => exact ⟨1, by omega, by omega, rfl⟩
  refine ix_view (ds := [D.str (T [97, 98]), D.str (T [97, 98, 99]), D.str (T [97])]) rfl hk ?_
  have hsl : (LET.take k).length = k := by rw [List.length_take]; simp only [List.length_cons, List.length_nil]; omega
  have hsm : ∀ m, k ≤ m → ∀ c ∈ LET.take k, c ∈ LET.take m := fun m hm c hc => by
    rw [show k = min k m by omega, ← List.take_take] at hc
    exact List.mem_of_mem_take hc
  have hsL : ∀ c ∈ LET.take k, c ∈ LET := fun c hc => List.mem_of_mem_take hc
  generalize hsg : LET.take k = sg at hk hsl hsm hsL ⊢
  refine ⟨p, o1, n + 1, 5, sg, rfl, updM_same, ho1, by omega, by omega, by omega, by omega, by omega, hsL, fun o2 ws ho2 g hw6 hws q hq => ?_⟩
  rw [updM_upd] at hq ⊢
  have hpq : p ≠ q := fun z => by rw [← z, updM_same] at hq; cases hq
  have hqM : M q = none := by rw [updM_ne (Ne.symm hpq)] at hq; exact hq
  have sQ : viewL (updM (updM M p o2) q (.lst (wsD ws))) (.ptr q) = some (wsD ws) := viewL_ptr.mpr updM_same
  have sP : updM (updM M p o2) q (.lst (wsD ws)) p = some o2 := by rw [updM_ne hpq, updM_same]
  have hE : Ext (updM M p o2) (updM (updM M p o2) q (.lst (wsD ws))) := Ext.new (Ext.refl _) hq
  have hsb : sg.length ≤ sizeLine := by unfold sizeLine; omega
  have hwk : ∀ m, k ≤ m → ∀ w ∈ ws, ∀ c ∈ w, c ∈ LET.take m := fun m hm w hw c hc => hsm m hm c ((hws w hw).2 c hc)
  generalize updM (updM M p o2) q (.lst (wsD ws)) = M1 at sQ sP hE ⊢
  simp only [dRet, dCB, dCons, dNil, dLc, dLc2, dIS, dIL, dIT, dIR1, dIR2, dIEL, dIET, dIES, dVar, dC, dOp, dUn, dTest, kTest, dChain, kChain, dAnd, dOr, dNot, dTru, dSeq, dNext, dIfS, dFor, dAsg, dName, dGTup, dGCons, dGNil, dLst, dTup, dSl, dON, dOS, dOrV, dAndV, dNotV, dIf, dPar, dAug, dGSub, dRetN, dBreak, dCont, dDrop, dYes, dNever, startD, ksOf, wipeR, List.map_cons, List.map_nil, List.cons_append, List.nil_append, List.getElem?_cons_zero, List.getElem?_cons_succ, List.length_cons, List.length_nil, Nat.reduceAdd, Nat.reduceSub, List.reduceReplicate, List.set_cons_zero, List.set_cons_succ, nB, newL, decide_true, true_and, and_true, eq_self, reduceIte, List.length_map, Bool.not_true, Bool.not_false, tD]
  refine len_T hsb ?_
  rw [hsl]
  try simp only [dRet, dCB, dCons, dNil, dLc, dLc2, dIS, dIL, dIT, dIR1, dIR2, dIEL, dIET, dIES, dVar, dC, dOp, dUn, dTest, kTest, dChain, kChain, dAnd, dOr, dNot, dTru, dSeq, dNext, dIfS, dFor, dAsg, dName, dGTup, dGCons, dGNil, dLst, dTup, dSl, dON, dOS, dOrV, dAndV, dNotV, dIf, dPar, dAug, dGSub, dRetN, dBreak, dCont, dDrop, dYes, dNever, startD, ksOf, wipeR, List.map_cons, List.map_nil, List.cons_append, List.nil_append, List.getElem?_cons_zero, List.getElem?_cons_succ, List.length_cons, List.length_nil, Nat.reduceAdd, Nat.reduceSub, List.reduceReplicate, List.set_cons_zero, List.set_cons_succ, nB, newL, decide_true, true_and, and_true, eq_self, reduceIte, List.length_map, Bool.not_true, Bool.not_false]
  refine ⟨by unfold sizeLine; omega, ?_⟩
  -- room
  refine for_inv (fun i ρ M' => M' = M1 ∧ ∃ a, ρ = [some (.ptr p), some (tD sg), some (.ptr q), a, none, none, none, none, none]) ⟨rfl, _, rfl⟩ ?_ ?_
  · rintro i x ρ M' Nx hx ⟨rfl, a, rfl⟩ hN
    refine ⟨trivial, ?_⟩
    obtain ⟨m, hm1, hm2, hm3, rfl⟩ : ∃ m : Nat, 1 ≤ m ∧ m ≤ 26 ∧ k ≤ m ∧ x = .int m := by
      have hx := List.mem_of_getElem? hx
      simp only [List.mem_cons, List.not_mem_nil, or_false] at hx
      rcases hx with rfl | rfl | rfl
      · exact ⟨k, by omega, by omega, by omega, rfl⟩
      · exact ⟨3, by omega, by omega, by omega, rfl⟩
      · exact ⟨26, by omega, by omega, by omega, rfl⟩
    simp only [dRet, dCB, dCons, dNil, dLc, dLc2, dIS, dIL, dIT, dIR1, dIR2, dIEL, dIET, dIES, dVar, dC, dOp, dUn, dTest, kTest, dChain, kChain, dAnd, dOr, dNot, dTru, dSeq, dNext, dIfS, dFor, dAsg, dName, dGTup, dGCons, dGNil, dLst, dTup, dSl, dON, dOS, dOrV, dAndV, dNotV, dIf, dPar, dAug, dGSub, dRetN, dBreak, dCont, dDrop, dYes, dNever, startD, ksOf, wipeR, List.map_cons, List.map_nil, List.cons_append, List.nil_append, List.getElem?_cons_zero, List.getElem?_cons_succ, List.length_cons, List.length_nil, Nat.reduceAdd, Nat.reduceSub, List.reduceReplicate, List.set_cons_zero, List.set_cons_succ, nB, newL, decide_true, true_and, and_true, eq_self, reduceIte, List.length_map, Bool.not_true, Bool.not_false, dCallK, dCallN, dMake]
    refine mk_stock A sQ g ?_
    try simp only [dRet, dCB, dCons, dNil, dLc, dLc2, dIS, dIL, dIT, dIR1, dIR2, dIEL, dIET, dIES, dVar, dC, dOp, dUn, dTest, kTest, dChain, kChain, dAnd, dOr, dNot, dTru, dSeq, dNext, dIfS, dFor, dAsg, dName, dGTup, dGCons, dGNil, dLst, dTup, dSl, dON, dOS, dOrV, dAndV, dNotV, dIf, dPar, dAug, dGSub, dRetN, dBreak, dCont, dDrop, dYes, dNever, startD, ksOf, wipeR, List.map_cons, List.map_nil, List.cons_append, List.nil_append, List.getElem?_cons_zero, List.getElem?_cons_succ, List.length_cons, List.length_nil, Nat.reduceAdd, Nat.reduceSub, List.reduceReplicate, List.set_cons_zero, List.set_cons_succ, nB, newL, decide_true, true_and, and_true, eq_self, reduceIte, List.length_map, Bool.not_true, Bool.not_false]
    refine ⟨ws, m, rfl, g, hm1, hm2, hwk m hm3, _, ws, m, rfl, sQ, g, hm1, hm2, ne_low ?_⟩
    exact hN _ _ ⟨rfl, _, rfl⟩
  rintro ρ M' ⟨rfl, a, rfl⟩
  refine ⟨trivial, ?_⟩
  simp only [dRet, dCB, dCons, dNil, dLc, dLc2, dIS, dIL, dIT, dIR1, dIR2, dIEL, dIET, dIES, dVar, dC, dOp, dUn, dTest, kTest, dChain, kChain, dAnd, dOr, dNot, dTru, dSeq, dNext, dIfS, dFor, dAsg, dName, dGTup, dGCons, dGNil, dLst, dTup, dSl, dON, dOS, dOrV, dAndV, dNotV, dIf, dPar, dAug, dGSub, dRetN, dBreak, dCont, dDrop, dYes, dNever, startD, ksOf, wipeR, List.map_cons, List.map_nil, List.cons_append, List.nil_append, List.getElem?_cons_zero, List.getElem?_cons_succ, List.length_cons, List.length_nil, Nat.reduceAdd, Nat.reduceSub, List.reduceReplicate, List.set_cons_zero, List.set_cons_succ, nB, newL, decide_true, true_and, and_true, eq_self, reduceIte, List.length_map, Bool.not_true, Bool.not_false, dCallN]
  -- the eased lot
  obtain ⟨ge, hes, heo⟩ := eased_good g
  have hwe : ∀ m, k ≤ m → ∀ w ∈ easedL [] ws, ∀ c ∈ w, c ∈ LET.take m := fun m hm w hw => hwk m hm w (hes w hw)
  refine ⟨_, ws, rfl, sQ, g, fun qe hqe => ?_⟩
  have eQ : viewL (updM M' qe (.lst (wsD (easedL [] ws)))) (.ptr qe) = some (wsD (easedL [] ws)) := viewL_ptr.mpr updM_same
  have sQ2 := viewL_new (mo := .lst (wsD (easedL [] ws))) hqe sQ
  have sP2 : updM M' qe (.lst (wsD (easedL [] ws))) p = some o2 := by rw [updM_ne (fun z => by rw [z, hqe] at sP; cases sP)]; exact sP
  have hE2 : Ext (updM M p o2) (updM M' qe (.lst (wsD (easedL [] ws)))) := Ext.new hE (hE.none hqe)
  generalize updM M' qe (.lst (wsD (easedL [] ws))) = M2 at eQ sQ2 sP2 hE2 ⊢
  simp only [dRet, dCB, dCons, dNil, dLc, dLc2, dIS, dIL, dIT, dIR1, dIR2, dIEL, dIET, dIES, dVar, dC, dOp, dUn, dTest, kTest, dChain, kChain, dAnd, dOr, dNot, dTru, dSeq, dNext, dIfS, dFor, dAsg, dName, dGTup, dGCons, dGNil, dLst, dTup, dSl, dON, dOS, dOrV, dAndV, dNotV, dIf, dPar, dAug, dGSub, dRetN, dBreak, dCont, dDrop, dYes, dNever, startD, ksOf, wipeR, List.map_cons, List.map_nil, List.cons_append, List.nil_append, List.getElem?_cons_zero, List.getElem?_cons_succ, List.length_cons, List.length_nil, Nat.reduceAdd, Nat.reduceSub, List.reduceReplicate, List.set_cons_zero, List.set_cons_succ, nB, newL, decide_true, true_and, and_true, eq_self, reduceIte, List.length_map, Bool.not_true, Bool.not_false, dCallK, dCallN, dMake]
  refine mk_stock A eQ ge ?_
  try simp only [dRet, dCB, dCons, dNil, dLc, dLc2, dIS, dIL, dIT, dIR1, dIR2, dIEL, dIET, dIES, dVar, dC, dOp, dUn, dTest, kTest, dChain, kChain, dAnd, dOr, dNot, dTru, dSeq, dNext, dIfS, dFor, dAsg, dName, dGTup, dGCons, dGNil, dLst, dTup, dSl, dON, dOS, dOrV, dAndV, dNotV, dIf, dPar, dAug, dGSub, dRetN, dBreak, dCont, dDrop, dYes, dNever, startD, ksOf, wipeR, List.map_cons, List.map_nil, List.cons_append, List.nil_append, List.getElem?_cons_zero, List.getElem?_cons_succ, List.length_cons, List.length_nil, Nat.reduceAdd, Nat.reduceSub, List.reduceReplicate, List.set_cons_zero, List.set_cons_succ, nB, newL, decide_true, true_and, and_true, eq_self, reduceIte, List.length_map, Bool.not_true, Bool.not_false]
  refine len_T hsb ⟨easedL [] ws, k, by rw [hsl], ge, heo, hk1, by omega, hwe k (Nat.le_refl _), ?_⟩
  try simp only [dRet, dCB, dCons, dNil, dLc, dLc2, dIS, dIL, dIT, dIR1, dIR2, dIEL, dIET, dIES, dVar, dC, dOp, dUn, dTest, kTest, dChain, kChain, dAnd, dOr, dNot, dTru, dSeq, dNext, dIfS, dFor, dAsg, dName, dGTup, dGCons, dGNil, dLst, dTup, dSl, dON, dOS, dOrV, dAndV, dNotV, dIf, dPar, dAug, dGSub, dRetN, dBreak, dCont, dDrop, dYes, dNever, startD, ksOf, wipeR, List.map_cons, List.map_nil, List.cons_append, List.nil_append, List.getElem?_cons_zero, List.getElem?_cons_succ, List.length_cons, List.length_nil, Nat.reduceAdd, Nat.reduceSub, List.reduceReplicate, List.set_cons_zero, List.set_cons_succ, nB, newL, decide_true, true_and, and_true, eq_self, reduceIte, List.length_map, Bool.not_true, Bool.not_false]
  refine len_T hsb ?_
  rw [hsl]
  refine ⟨_, easedL [] ws, k, rfl, eQ, ge, hk1, by omega, by unfold sizeLine; omega, eq_low ?_⟩
  have efull : decide (((roomN (easedL [] ws) k 8 / Nat.gcd (roomN (easedL [] ws) k 8) (k ^ 8) : Nat) : Int) = 1 ∧ ((k ^ 8 / Nat.gcd (roomN (easedL [] ws) k 8) (k ^ 8) : Nat) : Int) = 1) = decide (Full (easedL [] ws) k) := by
    rw [decide_eq_decide, low_one (room_pos ge hk1)]
    exact Iff.rfl
  rw [efull]
  refine ne_bl ?_
  try simp only [dRet, dCB, dCons, dNil, dLc, dLc2, dIS, dIL, dIT, dIR1, dIR2, dIEL, dIET, dIES, dVar, dC, dOp, dUn, dTest, kTest, dChain, kChain, dAnd, dOr, dNot, dTru, dSeq, dNext, dIfS, dFor, dAsg, dName, dGTup, dGCons, dGNil, dLst, dTup, dSl, dON, dOS, dOrV, dAndV, dNotV, dIf, dPar, dAug, dGSub, dRetN, dBreak, dCont, dDrop, dYes, dNever, startD, ksOf, wipeR, List.map_cons, List.map_nil, List.cons_append, List.nil_append, List.getElem?_cons_zero, List.getElem?_cons_succ, List.length_cons, List.length_nil, Nat.reduceAdd, Nat.reduceSub, List.reduceReplicate, List.set_cons_zero, List.set_cons_succ, nB, newL, decide_true, true_and, and_true, eq_self, reduceIte, List.length_map, Bool.not_true, Bool.not_false]
  -- the apart lot
  obtain ⟨ga, has, haa⟩ := apart_good g
  refine ⟨_, ws, rfl, sQ2, by omega, fun w hw => by have := (hws w hw).1; omega, fun qa hqa => ?_⟩
  have aQ : viewL (updM M2 qa (.lst (wsD (apartL [] ws)))) (.ptr qa) = some (wsD (apartL [] ws)) := viewL_ptr.mpr updM_same
  have sP3 : updM M2 qa (.lst (wsD (apartL [] ws))) p = some o2 := by rw [updM_ne (fun z => by rw [z, hqa] at sP2; cases sP2)]; exact sP2
  have hE3 : Ext (updM M p o2) (updM M2 qa (.lst (wsD (apartL [] ws)))) := Ext.new hE2 (hE2.none hqa)
  generalize updM M2 qa (.lst (wsD (apartL [] ws))) = M3 at aQ sP3 hE3 ⊢
  have hpa : (D.ptr qa) ≠ .ptr p := fun z => by cases z; rw [hqa] at sP2; cases sP2
  try simp only [dRet, dCB, dCons, dNil, dLc, dLc2, dIS, dIL, dIT, dIR1, dIR2, dIEL, dIET, dIES, dVar, dC, dOp, dUn, dTest, kTest, dChain, kChain, dAnd, dOr, dNot, dTru, dSeq, dNext, dIfS, dFor, dAsg, dName, dGTup, dGCons, dGNil, dLst, dTup, dSl, dON, dOS, dOrV, dAndV, dNotV, dIf, dPar, dAug, dGSub, dRetN, dBreak, dCont, dDrop, dYes, dNever, startD, ksOf, wipeR, List.map_cons, List.map_nil, List.cons_append, List.nil_append, List.getElem?_cons_zero, List.getElem?_cons_succ, List.length_cons, List.length_nil, Nat.reduceAdd, Nat.reduceSub, List.reduceReplicate, List.set_cons_zero, List.set_cons_succ, nB, newL, decide_true, true_and, and_true, eq_self, reduceIte, List.length_map, Bool.not_true, Bool.not_false]
  refine len_T hsb ?_
  rw [hsl]
  refine ⟨by unfold sizeLine; omega, p, o2, n + 1 + 1000, 2, rfl, sP3, ho2, by omega, by omega, by omega, fun o3 d2 ho3 hd2 => ?_⟩
  obtain ⟨m, hm1, hm3, hkm, hmx⟩ : ∃ m : Nat, 1 ≤ m ∧ m ≤ 3 ∧ k ≤ m ∧ [D.int (k : Int), D.int 3][d2]? = some (.int (m : Int)) := by
    match d2, hd2 with
    | 0, _ => exact ⟨k, by omega, by omega, by omega, rfl⟩
    | 1, _ => exact ⟨3, by omega, by omega, by omega, rfl⟩
  refine ix_view (ds := [D.int (k : Int), D.int 3]) rfl hmx ?_
  have aQ4 := viewL_upd (o := o3) hpa aQ
  have sP4 : updM M3 p o3 p = some o3 := updM_same
  have hE4 : Ext (updM M p o3) (updM M3 p o3) := by
    have := Lw.Ext.both hE3 (p := p) (o := o3)
    rw [updM_upd] at this
    exact this
  generalize updM M3 p o3 = M4 at aQ4 sP4 hE4 ⊢
  try simp only [dRet, dCB, dCons, dNil, dLc, dLc2, dIS, dIL, dIT, dIR1, dIR2, dIEL, dIET, dIES, dVar, dC, dOp, dUn, dTest, kTest, dChain, kChain, dAnd, dOr, dNot, dTru, dSeq, dNext, dIfS, dFor, dAsg, dName, dGTup, dGCons, dGNil, dLst, dTup, dSl, dON, dOS, dOrV, dAndV, dNotV, dIf, dPar, dAug, dGSub, dRetN, dBreak, dCont, dDrop, dYes, dNever, startD, ksOf, wipeR, List.map_cons, List.map_nil, List.cons_append, List.nil_append, List.getElem?_cons_zero, List.getElem?_cons_succ, List.length_cons, List.length_nil, Nat.reduceAdd, Nat.reduceSub, List.reduceReplicate, List.set_cons_zero, List.set_cons_succ, nB, newL, decide_true, true_and, and_true, eq_self, reduceIte, List.length_map, Bool.not_true, Bool.not_false]
  refine sl_T (by simp only [List.length_cons, List.length_nil]; unfold sizeLine; omega) ?_
  rw [cutL_to']
  have etk : ([97, 98, 99] : List Nat).take m = LET.take m := by
    match m, hm1, hm3 with
    | 1, _, _ => rfl
    | 2, _, _ => rfl
    | 3, _, _ => rfl
  rw [etk]
  have hma : ∀ w ∈ apartL [] ws, ∀ c ∈ w, c ∈ LET.take m := fun w hw => hwk m hkm w (has w hw)
  have hml : (LET.take m).length = m := by rw [List.length_take]; simp only [List.length_cons, List.length_nil]; omega
  have hmn : (LET.take m).Nodup := (List.take_sublist _ _).nodup (by decide)
  try simp only [dRet, dCB, dCons, dNil, dLc, dLc2, dIS, dIL, dIT, dIR1, dIR2, dIEL, dIET, dIES, dVar, dC, dOp, dUn, dTest, kTest, dChain, kChain, dAnd, dOr, dNot, dTru, dSeq, dNext, dIfS, dFor, dAsg, dName, dGTup, dGCons, dGNil, dLst, dTup, dSl, dON, dOS, dOrV, dAndV, dNotV, dIf, dPar, dAug, dGSub, dRetN, dBreak, dCont, dDrop, dYes, dNever, startD, ksOf, wipeR, List.map_cons, List.map_nil, List.cons_append, List.nil_append, List.getElem?_cons_zero, List.getElem?_cons_succ, List.length_cons, List.length_nil, Nat.reduceAdd, Nat.reduceSub, List.reduceReplicate, List.set_cons_zero, List.set_cons_succ, nB, newL, decide_true, true_and, and_true, eq_self, reduceIte, List.length_map, Bool.not_true, Bool.not_false]
  refine ⟨_, apartL [] ws, LET.take m, rfl, aQ4, ga, haa, hmn, by omega, by omega, hma, fun due dnd hdue dso => ?_⟩
  have F : Filled (apartL [] ws) due (LET.take m) := ⟨ga, haa, hmn, hma, dnd, hdue⟩
  have drow : ∀ w ∈ due, Row w := fun w hw => fills_row ga (fun c hc => List.mem_of_mem_take hc) ((hdue w).mp hw)
  simp only [dRet, dCB, dCons, dNil, dLc, dLc2, dIS, dIL, dIT, dIR1, dIR2, dIEL, dIET, dIES, dVar, dC, dOp, dUn, dTest, kTest, dChain, kChain, dAnd, dOr, dNot, dTru, dSeq, dNext, dIfS, dFor, dAsg, dName, dGTup, dGCons, dGNil, dLst, dTup, dSl, dON, dOS, dOrV, dAndV, dNotV, dIf, dPar, dAug, dGSub, dRetN, dBreak, dCont, dDrop, dYes, dNever, startD, ksOf, wipeR, List.map_cons, List.map_nil, List.cons_append, List.nil_append, List.getElem?_cons_zero, List.getElem?_cons_succ, List.length_cons, List.length_nil, Nat.reduceAdd, Nat.reduceSub, List.reduceReplicate, List.set_cons_zero, List.set_cons_succ, nB, newL, decide_true, true_and, and_true, eq_self, reduceIte, List.length_map, Bool.not_true, Bool.not_false, dBM, dCallN, dMake]
  refine mk_stock A aQ4 ga ?_
  try simp only [dRet, dCB, dCons, dNil, dLc, dLc2, dIS, dIL, dIT, dIR1, dIR2, dIEL, dIET, dIES, dVar, dC, dOp, dUn, dTest, kTest, dChain, kChain, dAnd, dOr, dNot, dTru, dSeq, dNext, dIfS, dFor, dAsg, dName, dGTup, dGCons, dGNil, dLst, dTup, dSl, dON, dOS, dOrV, dAndV, dNotV, dIf, dPar, dAug, dGSub, dRetN, dBreak, dCont, dDrop, dYes, dNever, startD, ksOf, wipeR, List.map_cons, List.map_nil, List.cons_append, List.nil_append, List.getElem?_cons_zero, List.getElem?_cons_succ, List.length_cons, List.length_nil, Nat.reduceAdd, Nat.reduceSub, List.reduceReplicate, List.set_cons_zero, List.set_cons_succ, nB, newL, decide_true, true_and, and_true, eq_self, reduceIte, List.length_map, Bool.not_true, Bool.not_false]
  refine ⟨apartL [] ws, m, rfl, ga, haa, hm1, by omega, hma, fun qs nd hq hqs r hr => ?_⟩
  have eqs : qs = due := same_sorted nd dnd (fun x => (hq x).trans (hdue x).symm) hqs dso
  rw [eqs]
  have hal : (apartL [] ws).length ≤ 6 := by
    have := (apart_sub [] ws).2
    simp only [List.length_nil] at this
    omega
  have dsz : due.length ≤ 90 := by
    have h1 := due_few ga haa (fun w hw => (hws w (has w hw)).1) dnd (fun q hq => (hdue q).mp hq)
    rw [hml] at h1
    have h2 : (apartL [] ws).length * (5 * m) ≤ 6 * (5 * 3) := Nat.mul_le_mul hal (by omega)
    omega
  refine ⟨tyD_lst updM_same, app_ptr updM_same (by rw [wsD_len]; unfold sizeLine; omega) ?_⟩
  rw [updM_upd]
  have aQ5 := viewL_new (mo := .lst (wsD due ++ [.str (T [113])])) hr aQ4
  have hE5 := Ext.new (o := .lst (wsD due ++ [.str (T [113])])) hE4 (hE4.none hr)
  generalize updM M4 r (.lst (wsD due ++ [.str (T [113])])) = M5 at aQ5 hE5 ⊢
  refine mk_stock A aQ5 ga ?_
  try simp only [dRet, dCB, dCons, dNil, dLc, dLc2, dIS, dIL, dIT, dIR1, dIR2, dIEL, dIET, dIES, dVar, dC, dOp, dUn, dTest, kTest, dChain, kChain, dAnd, dOr, dNot, dTru, dSeq, dNext, dIfS, dFor, dAsg, dName, dGTup, dGCons, dGNil, dLst, dTup, dSl, dON, dOS, dOrV, dAndV, dNotV, dIf, dPar, dAug, dGSub, dRetN, dBreak, dCont, dDrop, dYes, dNever, startD, ksOf, wipeR, List.map_cons, List.map_nil, List.cons_append, List.nil_append, List.getElem?_cons_zero, List.getElem?_cons_succ, List.length_cons, List.length_nil, Nat.reduceAdd, Nat.reduceSub, List.reduceReplicate, List.set_cons_zero, List.set_cons_succ, nB, newL, decide_true, true_and, and_true, eq_self, reduceIte, List.length_map, Bool.not_true, Bool.not_false]
  refine ⟨apartL [] ws, m, rfl, ga, haa, hm1, by omega, hma, fun qs2 nd2 hq2 hqs2 r2 hr2 => ?_⟩
  have eqs2 : qs2 = due := same_sorted nd2 dnd (fun x => (hq2 x).trans (hdue x).symm) hqs2 dso
  rw [eqs2]
  refine eq_txts (viewL_ptr.mpr updM_same) rfl drow drow ?_
  rw [decide_eq_true rfl]
  have aQ6 := viewL_new (mo := .lst (wsD due)) hr2 aQ5
  have hE6 := Ext.new (o := .lst (wsD due)) hE5 (hE5.none hr2)
  generalize updM M5 r2 (.lst (wsD due)) = M6 at aQ6 hE6 ⊢
  try simp only [dRet, dCB, dCons, dNil, dLc, dLc2, dIS, dIL, dIT, dIR1, dIR2, dIEL, dIET, dIES, dVar, dC, dOp, dUn, dTest, kTest, dChain, kChain, dAnd, dOr, dNot, dTru, dSeq, dNext, dIfS, dFor, dAsg, dName, dGTup, dGCons, dGNil, dLst, dTup, dSl, dON, dOS, dOrV, dAndV, dNotV, dIf, dPar, dAug, dGSub, dRetN, dBreak, dCont, dDrop, dYes, dNever, startD, ksOf, wipeR, List.map_cons, List.map_nil, List.cons_append, List.nil_append, List.getElem?_cons_zero, List.getElem?_cons_succ, List.length_cons, List.length_nil, Nat.reduceAdd, Nat.reduceSub, List.reduceReplicate, List.set_cons_zero, List.set_cons_succ, nB, newL, decide_true, true_and, and_true, eq_self, reduceIte, List.length_map, Bool.not_true, Bool.not_false]
  show ∃ a b, viewL M6 (.ptr qa) = some a ∧ viewL M6 (.lst (wsD due)) = some b ∧ a.length + b.length ≤ sizeLine ∧ newL false (a ++ b) _ _
  refine ⟨_, _, aQ6, rfl, by have := ga.few; rw [wsD_len, wsD_len]; unfold sizeLine; omega, ?_⟩
  have eapp : wsD (apartL [] ws) ++ wsD due = wsD (apartL [] ws ++ due) := by rw [wsD, wsD, wsD, List.map_append]
  rw [eapp]
  have lall : (apartL [] ws ++ due).length ≤ 96 := by rw [List.length_append]; omega
  have wall : ∀ w ∈ apartL [] ws ++ due, 1 ≤ w.length ∧ w.length ≤ 9 := fun w hw => by
    rcases List.mem_append.mp hw with hw | hw
    · have := (ga.len w hw)
      omega
    · obtain ⟨b, c, rfl, _, hb, _⟩ := (fills_pp ga haa).mp ((hdue w).mp hw)
      have := pp_len ga hb
      rw [List.length_append]
      simp only [List.length_cons, List.length_nil]
      omega
  have rall : ∀ w ∈ apartL [] ws ++ due, Row w := fun w hw => (List.mem_append.mp hw).elim (ga.row w) (drow w)
  have hpos : 0 < (apartL [] ws ++ due).length := by have := ga.one; rw [List.length_append]; omega
  have fap := F.apart
  have fnd := F.nodup
  have ffu := F.full
  have fch := fun x hx => F.chars (x := x) hx
  rw [hml] at ffu
  generalize apartL [] ws ++ due = all at lall wall rall hpos fap fnd ffu fch ⊢
  try simp only [dRet, dCB, dCons, dNil, dLc, dLc2, dIS, dIL, dIT, dIR1, dIR2, dIEL, dIET, dIES, dVar, dC, dOp, dUn, dTest, kTest, dChain, kChain, dAnd, dOr, dNot, dTru, dSeq, dNext, dIfS, dFor, dAsg, dName, dGTup, dGCons, dGNil, dLst, dTup, dSl, dON, dOS, dOrV, dAndV, dNotV, dIf, dPar, dAug, dGSub, dRetN, dBreak, dCont, dDrop, dYes, dNever, startD, ksOf, wipeR, List.map_cons, List.map_nil, List.cons_append, List.nil_append, List.getElem?_cons_zero, List.getElem?_cons_succ, List.length_cons, List.length_nil, Nat.reduceAdd, Nat.reduceSub, List.reduceReplicate, List.set_cons_zero, List.set_cons_succ, nB, newL, decide_true, true_and, and_true, eq_self, reduceIte, List.length_map, Bool.not_true, Bool.not_false]
  refine len_view rfl ?_
  apply cut_mem (M0 := M6)
  · intro ht
    rw [wsD_len]
    refine lt_i ?_
    try simp only [dRet, dCB, dCons, dNil, dLc, dLc2, dIS, dIL, dIT, dIR1, dIR2, dIEL, dIET, dIES, dVar, dC, dOp, dUn, dTest, kTest, dChain, kChain, dAnd, dOr, dNot, dTru, dSeq, dNext, dIfS, dFor, dAsg, dName, dGTup, dGCons, dGNil, dLst, dTup, dSl, dON, dOS, dOrV, dAndV, dNotV, dIf, dPar, dAug, dGSub, dRetN, dBreak, dCont, dDrop, dYes, dNever, startD, ksOf, wipeR, List.map_cons, List.map_nil, List.cons_append, List.nil_append, List.getElem?_cons_zero, List.getElem?_cons_succ, List.length_cons, List.length_nil, Nat.reduceAdd, Nat.reduceSub, List.reduceReplicate, List.set_cons_zero, List.set_cons_succ, nB, newL, decide_true, true_and, and_true, eq_self, reduceIte, List.length_map, Bool.not_true, Bool.not_false]
    by_cases h9 : (all.length : Int) < 9
    · rw [decide_eq_true h9]
      try simp only [dRet, dCB, dCons, dNil, dLc, dLc2, dIS, dIL, dIT, dIR1, dIR2, dIEL, dIET, dIES, dVar, dC, dOp, dUn, dTest, kTest, dChain, kChain, dAnd, dOr, dNot, dTru, dSeq, dNext, dIfS, dFor, dAsg, dName, dGTup, dGCons, dGNil, dLst, dTup, dSl, dON, dOS, dOrV, dAndV, dNotV, dIf, dPar, dAug, dGSub, dRetN, dBreak, dCont, dDrop, dYes, dNever, startD, ksOf, wipeR, List.map_cons, List.map_nil, List.cons_append, List.nil_append, List.getElem?_cons_zero, List.getElem?_cons_succ, List.length_cons, List.length_nil, Nat.reduceAdd, Nat.reduceSub, List.reduceReplicate, List.set_cons_zero, List.set_cons_succ, nB, newL, decide_true, true_and, and_true, eq_self, reduceIte, List.length_map, Bool.not_true, Bool.not_false]
      refine iterL_v rfl fun P hP => ?_
      refine lc_map1 (fun x => match x with | .str y => .int (y.length : Int) | x => x) (hP _ rfl) (by rw [wsD_len]; unfold sizeLine; omega) (fun x hx Q hQ => ?_) ?_
      · obtain ⟨w, hw, rfl⟩ := List.mem_map.mp hx
        have hl := (wall w hw).2
        simp only [dRet, dCB, dCons, dNil, dLc, dLc2, dIS, dIL, dIT, dIR1, dIR2, dIEL, dIET, dIES, dVar, dC, dOp, dUn, dTest, kTest, dChain, kChain, dAnd, dOr, dNot, dTru, dSeq, dNext, dIfS, dFor, dAsg, dName, dGTup, dGCons, dGNil, dLst, dTup, dSl, dON, dOS, dOrV, dAndV, dNotV, dIf, dPar, dAug, dGSub, dRetN, dBreak, dCont, dDrop, dYes, dNever, startD, ksOf, wipeR, List.map_cons, List.map_nil, List.cons_append, List.nil_append, List.getElem?_cons_zero, List.getElem?_cons_succ, List.length_cons, List.length_nil, Nat.reduceAdd, Nat.reduceSub, List.reduceReplicate, List.set_cons_zero, List.set_cons_succ, nB, newL, decide_true, true_and, and_true, eq_self, reduceIte, List.length_map, Bool.not_true, Bool.not_false, tD]
        refine len_T (by unfold sizeLine; omega) ?_
        have : Q (D.int ((T w).length : Int)) M6 := hQ
        rw [T_len] at this
        exact this
      have emap : (wsD all).map (fun x => match x with | .str y => D.int (y.length : Int) | x => x) = (all.map fun w => (w.length : Int)).map D.int := by
        rw [wsD, List.map_map, List.map_map]
        refine List.map_congr_left fun w _ => ?_
        show D.int ((T w).length : Int) = _
        rw [T_len]
        rfl
      try simp only [dRet, dCB, dCons, dNil, dLc, dLc2, dIS, dIL, dIT, dIR1, dIR2, dIEL, dIET, dIES, dVar, dC, dOp, dUn, dTest, kTest, dChain, kChain, dAnd, dOr, dNot, dTru, dSeq, dNext, dIfS, dFor, dAsg, dName, dGTup, dGCons, dGNil, dLst, dTup, dSl, dON, dOS, dOrV, dAndV, dNotV, dIf, dPar, dAug, dGSub, dRetN, dBreak, dCont, dDrop, dYes, dNever, startD, ksOf, wipeR, List.map_cons, List.map_nil, List.cons_append, List.nil_append, List.getElem?_cons_zero, List.getElem?_cons_succ, List.length_cons, List.length_nil, Nat.reduceAdd, Nat.reduceSub, List.reduceReplicate, List.set_cons_zero, List.set_cons_succ, nB, newL, decide_true, true_and, and_true, eq_self, reduceIte, List.length_map, Bool.not_true, Bool.not_false]
      refine ⟨_, all.map fun w => (w.length : Int), rfl, by rw [emap, Dl.ints_map], by rw [List.length_map]; exact hpos, fun mx hmx hmax => lt_i ?_⟩
      try simp only [dRet, dCB, dCons, dNil, dLc, dLc2, dIS, dIL, dIT, dIR1, dIR2, dIEL, dIET, dIES, dVar, dC, dOp, dUn, dTest, kTest, dChain, kChain, dAnd, dOr, dNot, dTru, dSeq, dNext, dIfS, dFor, dAsg, dName, dGTup, dGCons, dGNil, dLst, dTup, dSl, dON, dOS, dOrV, dAndV, dNotV, dIf, dPar, dAug, dGSub, dRetN, dBreak, dCont, dDrop, dYes, dNever, startD, ksOf, wipeR, List.map_cons, List.map_nil, List.cons_append, List.nil_append, List.getElem?_cons_zero, List.getElem?_cons_succ, List.length_cons, List.length_nil, Nat.reduceAdd, Nat.reduceSub, List.reduceReplicate, List.set_cons_zero, List.set_cons_succ, nB, newL, decide_true, true_and, and_true, eq_self, reduceIte, List.length_map, Bool.not_true, Bool.not_false]
      by_cases hx9 : mx < 9
      · rw [decide_eq_true hx9]
        have w8 : ∀ w ∈ all, w.length ≤ 8 := fun w hw => by
          have := hmax _ (List.mem_map.mpr ⟨w, hw, rfl⟩)
          omega
        have gall : Good all := ⟨by omega, by omega, fun w hw => ⟨(wall w hw).1, w8 w hw⟩, rall, fnd⟩
        try simp only [dRet, dCB, dCons, dNil, dLc, dLc2, dIS, dIL, dIT, dIR1, dIR2, dIEL, dIET, dIES, dVar, dC, dOp, dUn, dTest, kTest, dChain, kChain, dAnd, dOr, dNot, dTru, dSeq, dNext, dIfS, dFor, dAsg, dName, dGTup, dGCons, dGNil, dLst, dTup, dSl, dON, dOS, dOrV, dAndV, dNotV, dIf, dPar, dAug, dGSub, dRetN, dBreak, dCont, dDrop, dYes, dNever, startD, ksOf, wipeR, List.map_cons, List.map_nil, List.cons_append, List.nil_append, List.getElem?_cons_zero, List.getElem?_cons_succ, List.length_cons, List.length_nil, Nat.reduceAdd, Nat.reduceSub, List.reduceReplicate, List.set_cons_zero, List.set_cons_succ, nB, newL, decide_true, true_and, and_true, eq_self, reduceIte, List.length_map, Bool.not_true, Bool.not_false]
        apply cut_goal
        · intro ht1
          refine ⟨by unfold sizeLine; omega, eq_nil rfl (lay_ws drow) ?_⟩
          cases hde : (wsD due).isEmpty with
          | true =>
            try simp only [dRet, dCB, dCons, dNil, dLc, dLc2, dIS, dIL, dIT, dIR1, dIR2, dIEL, dIET, dIES, dVar, dC, dOp, dUn, dTest, kTest, dChain, kChain, dAnd, dOr, dNot, dTru, dSeq, dNext, dIfS, dFor, dAsg, dName, dGTup, dGCons, dGNil, dLst, dTup, dSl, dON, dOS, dOrV, dAndV, dNotV, dIf, dPar, dAug, dGSub, dRetN, dBreak, dCont, dDrop, dYes, dNever, startD, ksOf, wipeR, List.map_cons, List.map_nil, List.cons_append, List.nil_append, List.getElem?_cons_zero, List.getElem?_cons_succ, List.length_cons, List.length_nil, Nat.reduceAdd, Nat.reduceSub, List.reduceReplicate, List.set_cons_zero, List.set_cons_succ, nB, newL, decide_true, true_and, and_true, eq_self, reduceIte, List.length_map, Bool.not_true, Bool.not_false]
            exact ht1.v
          | false =>
            try simp only [dRet, dCB, dCons, dNil, dLc, dLc2, dIS, dIL, dIT, dIR1, dIR2, dIEL, dIET, dIES, dVar, dC, dOp, dUn, dTest, kTest, dChain, kChain, dAnd, dOr, dNot, dTru, dSeq, dNext, dIfS, dFor, dAsg, dName, dGTup, dGCons, dGNil, dLst, dTup, dSl, dON, dOS, dOrV, dAndV, dNotV, dIf, dPar, dAug, dGSub, dRetN, dBreak, dCont, dDrop, dYes, dNever, startD, ksOf, wipeR, List.map_cons, List.map_nil, List.cons_append, List.nil_append, List.getElem?_cons_zero, List.getElem?_cons_succ, List.length_cons, List.length_nil, Nat.reduceAdd, Nat.reduceSub, List.reduceReplicate, List.set_cons_zero, List.set_cons_succ, nB, newL, decide_true, true_and, and_true, eq_self, reduceIte, List.length_map, Bool.not_true, Bool.not_false]
            refine mk_stock A rfl gall ?_
            try simp only [dRet, dCB, dCons, dNil, dLc, dLc2, dIS, dIL, dIT, dIR1, dIR2, dIEL, dIET, dIES, dVar, dC, dOp, dUn, dTest, kTest, dChain, kChain, dAnd, dOr, dNot, dTru, dSeq, dNext, dIfS, dFor, dAsg, dName, dGTup, dGCons, dGNil, dLst, dTup, dSl, dON, dOS, dOrV, dAndV, dNotV, dIf, dPar, dAug, dGSub, dRetN, dBreak, dCont, dDrop, dYes, dNever, startD, ksOf, wipeR, List.map_cons, List.map_nil, List.cons_append, List.nil_append, List.getElem?_cons_zero, List.getElem?_cons_succ, List.length_cons, List.length_nil, Nat.reduceAdd, Nat.reduceSub, List.reduceReplicate, List.set_cons_zero, List.set_cons_succ, nB, newL, decide_true, true_and, and_true, eq_self, reduceIte, List.length_map, Bool.not_true, Bool.not_false]
            refine ⟨all, m, rfl, gall, apart_one gall fap, hm1, by omega, fun w hw c hc => fch w hw c hc, ?_⟩
            rw [decide_eq_true (show Full all m from ffu)]
            refine ⟨true, rfl, ?_⟩
            try simp only [dRet, dCB, dCons, dNil, dLc, dLc2, dIS, dIL, dIT, dIR1, dIR2, dIEL, dIET, dIES, dVar, dC, dOp, dUn, dTest, kTest, dChain, kChain, dAnd, dOr, dNot, dTru, dSeq, dNext, dIfS, dFor, dAsg, dName, dGTup, dGCons, dGNil, dLst, dTup, dSl, dON, dOS, dOrV, dAndV, dNotV, dIf, dPar, dAug, dGSub, dRetN, dBreak, dCont, dDrop, dYes, dNever, startD, ksOf, wipeR, List.map_cons, List.map_nil, List.cons_append, List.nil_append, List.getElem?_cons_zero, List.getElem?_cons_succ, List.length_cons, List.length_nil, Nat.reduceAdd, Nat.reduceSub, List.reduceReplicate, List.set_cons_zero, List.set_cons_succ, nB, newL, decide_true, true_and, and_true, eq_self, reduceIte, List.length_map, Bool.not_true, Bool.not_false]
            exact ht1.v
        · have eall : apartL [] all = all := apart_all all [] fap fnd
          refine ⟨_, all, rfl, rfl, by omega, fun w hw => by have := (wall w hw).2; omega, fun r3 hr3 => ?_⟩
          rw [eall]
          refine eq_txts (viewL_ptr.mpr updM_same) rfl rall rall ?_
          rw [decide_eq_true rfl]
          have hE67 := Ext.new (o := .lst (wsD all)) (Ext.refl M6) hr3
          generalize updM M6 r3 (.lst (wsD all)) = M7 at hE67 ⊢
          try simp only [dRet, dCB, dCons, dNil, dLc, dLc2, dIS, dIL, dIT, dIR1, dIR2, dIEL, dIET, dIES, dVar, dC, dOp, dUn, dTest, kTest, dChain, kChain, dAnd, dOr, dNot, dTru, dSeq, dNext, dIfS, dFor, dAsg, dName, dGTup, dGCons, dGNil, dLst, dTup, dSl, dON, dOS, dOrV, dAndV, dNotV, dIf, dPar, dAug, dGSub, dRetN, dBreak, dCont, dDrop, dYes, dNever, startD, ksOf, wipeR, List.map_cons, List.map_nil, List.cons_append, List.nil_append, List.getElem?_cons_zero, List.getElem?_cons_succ, List.length_cons, List.length_nil, Nat.reduceAdd, Nat.reduceSub, List.reduceReplicate, List.set_cons_zero, List.set_cons_succ, nB, newL, decide_true, true_and, and_true, eq_self, reduceIte, List.length_map, Bool.not_true, Bool.not_false]
          exact ht.v M7 hE67
      · rw [decide_eq_false hx9]
        try simp only [dRet, dCB, dCons, dNil, dLc, dLc2, dIS, dIL, dIT, dIR1, dIR2, dIEL, dIET, dIES, dVar, dC, dOp, dUn, dTest, kTest, dChain, kChain, dAnd, dOr, dNot, dTru, dSeq, dNext, dIfS, dFor, dAsg, dName, dGTup, dGCons, dGNil, dLst, dTup, dSl, dON, dOS, dOrV, dAndV, dNotV, dIf, dPar, dAug, dGSub, dRetN, dBreak, dCont, dDrop, dYes, dNever, startD, ksOf, wipeR, List.map_cons, List.map_nil, List.cons_append, List.nil_append, List.getElem?_cons_zero, List.getElem?_cons_succ, List.length_cons, List.length_nil, Nat.reduceAdd, Nat.reduceSub, List.reduceReplicate, List.set_cons_zero, List.set_cons_succ, nB, newL, decide_true, true_and, and_true, eq_self, reduceIte, List.length_map, Bool.not_true, Bool.not_false]
        exact ht.v M6 (Ext.refl _)
    · rw [decide_eq_false h9]
      try simp only [dRet, dCB, dCons, dNil, dLc, dLc2, dIS, dIL, dIT, dIR1, dIR2, dIEL, dIET, dIES, dVar, dC, dOp, dUn, dTest, kTest, dChain, kChain, dAnd, dOr, dNot, dTru, dSeq, dNext, dIfS, dFor, dAsg, dName, dGTup, dGCons, dGNil, dLst, dTup, dSl, dON, dOS, dOrV, dAndV, dNotV, dIf, dPar, dAug, dGSub, dRetN, dBreak, dCont, dDrop, dYes, dNever, startD, ksOf, wipeR, List.map_cons, List.map_nil, List.cons_append, List.nil_append, List.getElem?_cons_zero, List.getElem?_cons_succ, List.length_cons, List.length_nil, Nat.reduceAdd, Nat.reduceSub, List.reduceReplicate, List.set_cons_zero, List.set_cons_succ, nB, newL, decide_true, true_and, and_true, eq_self, reduceIte, List.length_map, Bool.not_true, Bool.not_false]
      exact ht.v M6 (Ext.refl _)
  intro M7 hE67
  have hE7 := hE6.trans hE67
  have sP7 : M7 p = some o3 := hE7 p o3 updM_same
  have g2 : Good [[97, 98, 99, 100, 101, 102, 103, 104], [122, 122]] := ⟨by simp, by simp, by simp, by
    intro w hw
    simp only [List.mem_cons, List.not_mem_nil, or_false] at hw
    rcases hw with rfl | rfl <;> (unfold Row; decide), by simp⟩
  have c2 : ∀ w ∈ ([[97, 98, 99, 100, 101, 102, 103, 104], [122, 122]] : List Wd1), ∀ c ∈ w, c ∈ LET.take 26 := fun w hw => by
    simp only [List.mem_cons, List.not_mem_nil, or_false] at hw
    rcases hw with rfl | rfl <;> decide
  try simp only [dRet, dCB, dCons, dNil, dLc, dLc2, dIS, dIL, dIT, dIR1, dIR2, dIEL, dIET, dIES, dVar, dC, dOp, dUn, dTest, kTest, dChain, kChain, dAnd, dOr, dNot, dTru, dSeq, dNext, dIfS, dFor, dAsg, dName, dGTup, dGCons, dGNil, dLst, dTup, dSl, dON, dOS, dOrV, dAndV, dNotV, dIf, dPar, dAug, dGSub, dRetN, dBreak, dCont, dDrop, dYes, dNever, startD, ksOf, wipeR, List.map_cons, List.map_nil, List.cons_append, List.nil_append, List.getElem?_cons_zero, List.getElem?_cons_succ, List.length_cons, List.length_nil, Nat.reduceAdd, Nat.reduceSub, List.reduceReplicate, List.set_cons_zero, List.set_cons_succ, nB, newL, decide_true, true_and, and_true, eq_self, reduceIte, List.length_map, Bool.not_true, Bool.not_false]
  refine ⟨by unfold sizeLine; omega, mk_stock A (ws := [[97, 98, 99, 100, 101, 102, 103, 104], [122, 122]]) rfl g2 ?_⟩
  try simp only [dRet, dCB, dCons, dNil, dLc, dLc2, dIS, dIL, dIT, dIR1, dIR2, dIEL, dIET, dIES, dVar, dC, dOp, dUn, dTest, kTest, dChain, kChain, dAnd, dOr, dNot, dTru, dSeq, dNext, dIfS, dFor, dAsg, dName, dGTup, dGCons, dGNil, dLst, dTup, dSl, dON, dOS, dOrV, dAndV, dNotV, dIf, dPar, dAug, dGSub, dRetN, dBreak, dCont, dDrop, dYes, dNever, startD, ksOf, wipeR, List.map_cons, List.map_nil, List.cons_append, List.nil_append, List.getElem?_cons_zero, List.getElem?_cons_succ, List.length_cons, List.length_nil, Nat.reduceAdd, Nat.reduceSub, List.reduceReplicate, List.set_cons_zero, List.set_cons_succ, nB, newL, decide_true, true_and, and_true, eq_self, reduceIte, List.length_map, Bool.not_true, Bool.not_false]
  refine ⟨[[97, 98, 99, 100, 101, 102, 103, 104], [122, 122]], 26, rfl, g2, by omega, by omega, c2, by unfold sizeLine; omega, _, [[97, 98, 99, 100, 101, 102, 103, 104], [122, 122]], 26, rfl, rfl, g2, by omega, by omega, ne_low ?_⟩
  try simp only [dRet, dCB, dCons, dNil, dLc, dLc2, dIS, dIL, dIT, dIR1, dIR2, dIEL, dIET, dIES, dVar, dC, dOp, dUn, dTest, kTest, dChain, kChain, dAnd, dOr, dNot, dTru, dSeq, dNext, dIfS, dFor, dAsg, dName, dGTup, dGCons, dGNil, dLst, dTup, dSl, dON, dOS, dOrV, dAndV, dNotV, dIf, dPar, dAug, dGSub, dRetN, dBreak, dCont, dDrop, dYes, dNever, startD, ksOf, wipeR, List.map_cons, List.map_nil, List.cons_append, List.nil_append, List.getElem?_cons_zero, List.getElem?_cons_succ, List.length_cons, List.length_nil, Nat.reduceAdd, Nat.reduceSub, List.reduceReplicate, List.set_cons_zero, List.set_cons_succ, nB, newL, decide_true, true_and, and_true, eq_self, reduceIte, List.length_map, Bool.not_true, Bool.not_false]
  refine ⟨p, o3, _, rfl, sP7, ho3, by omega, fun o4 ho4 => ?_⟩
  refine ⟨true, rfl, ?_⟩
  try simp only [dRet, dCB, dCons, dNil, dLc, dLc2, dIS, dIL, dIT, dIR1, dIR2, dIEL, dIET, dIES, dVar, dC, dOp, dUn, dTest, kTest, dChain, kChain, dAnd, dOr, dNot, dTru, dSeq, dNext, dIfS, dFor, dAsg, dName, dGTup, dGCons, dGNil, dLst, dTup, dSl, dON, dOS, dOrV, dAndV, dNotV, dIf, dPar, dAug, dGSub, dRetN, dBreak, dCont, dDrop, dYes, dNever, startD, ksOf, wipeR, List.map_cons, List.map_nil, List.cons_append, List.nil_append, List.getElem?_cons_zero, List.getElem?_cons_succ, List.length_cons, List.length_nil, Nat.reduceAdd, Nat.reduceSub, List.reduceReplicate, List.set_cons_zero, List.set_cons_succ, nB, newL, decide_true, true_and, and_true, eq_self, reduceIte, List.length_map, Bool.not_true, Bool.not_false]
  have hE8 : Ext (updM M p o4) (updM M7 p o4) := by
    have := Lw.Ext.both hE7 (p := p) (o := o4)
    rw [updM_upd] at this
    exact this
  generalize updM M7 p o4 = M8 at hE8 ⊢
  have gba : Good [[98], [97]] := ⟨by simp, by simp, by simp, by
    intro w hw
    simp only [List.mem_cons, List.not_mem_nil, or_false] at hw
    rcases hw with rfl | rfl <;> (unfold Row; decide), by simp⟩
  have gon : ∀ c : Nat, c ∈ LET → Good [[c]] := fun c hc => ⟨by simp, by simp, by simp, fun w hw d hd => by
    rw [List.mem_singleton] at hw
    rw [hw, List.mem_singleton] at hd
    rw [hd]
    exact hc, by simp⟩
  have con : ∀ c m : Nat, c ∈ LET.take m → ∀ w ∈ ([[c]] : List Wd1), ∀ d ∈ w, d ∈ LET.take m := fun c m hc w hw d hd => by
    rw [List.mem_singleton] at hw
    rw [hw, List.mem_singleton] at hd
    rw [hd]
    exact hc
  have aba : Apart [[98], [97]] := fun a ha b hb h => by
    simp only [List.mem_cons, List.not_mem_nil, or_false] at ha hb
    rcases ha with rfl | rfl <;> rcases hb with rfl | rfl <;> first | rfl | (simp at h)
  have cba : ∀ w ∈ ([[98], [97]] : List Wd1), ∀ c ∈ w, c ∈ LET.take 2 := fun w hw => by
    simp only [List.mem_cons, List.not_mem_nil, or_false] at hw
    rcases hw with rfl | rfl <;> decide
  refine ⟨by unfold sizeLine; omega, mk_stock A (ws := [[98], [97]]) rfl gba ?_⟩
  try simp only [dRet, dCB, dCons, dNil, dLc, dLc2, dIS, dIL, dIT, dIR1, dIR2, dIEL, dIET, dIES, dVar, dC, dOp, dUn, dTest, kTest, dChain, kChain, dAnd, dOr, dNot, dTru, dSeq, dNext, dIfS, dFor, dAsg, dName, dGTup, dGCons, dGNil, dLst, dTup, dSl, dON, dOS, dOrV, dAndV, dNotV, dIf, dPar, dAug, dGSub, dRetN, dBreak, dCont, dDrop, dYes, dNever, startD, ksOf, wipeR, List.map_cons, List.map_nil, List.cons_append, List.nil_append, List.getElem?_cons_zero, List.getElem?_cons_succ, List.length_cons, List.length_nil, Nat.reduceAdd, Nat.reduceSub, List.reduceReplicate, List.set_cons_zero, List.set_cons_succ, nB, newL, decide_true, true_and, and_true, eq_self, reduceIte, List.length_map, Bool.not_true, Bool.not_false]
  refine ⟨[[98], [97]], 2, rfl, gba, aba, by omega, by omega, cba, fun qs nd hq _ r hr => ?_⟩
  have eqs : qs = [] := by
    cases qs with
    | nil => rfl
    | cons q qs =>
      obtain ⟨b, c, rfl, hc, ⟨w, hw, hp, hne⟩, _, hn⟩ := (fills_pp gba aba).mp ((hq q).mp (by simp))
      have hb : b = [] := by
        have h1 := hp.length_le
        have h2 : w.length = 1 := by
          simp only [List.mem_cons, List.not_mem_nil, or_false] at hw
          rcases hw with rfl | rfl <;> rfl
        by_cases e : b.length = w.length
        · exact absurd (hp.eq_of_length e) hne
        · exact List.length_eq_zero_iff.mp (by omega)
      subst hb
      have h2 : c = 97 ∨ c = 98 := by simpa using hc
      rcases h2 with rfl | rfl <;> exact absurd (by simp) hn
  rw [eqs]
  refine ⟨by unfold sizeLine; omega, eq_nil (viewL_ptr.mpr updM_same) (by simp [wsD]) ?_⟩
  have hE9 := Ext.new (o := .lst (wsD [])) hE8 (hE8.none hr)
  generalize updM M8 r (.lst (wsD [])) = M9 at hE9 ⊢
  refine ⟨true, rfl, ?_⟩
  try simp only [dRet, dCB, dCons, dNil, dLc, dLc2, dIS, dIL, dIT, dIR1, dIR2, dIEL, dIET, dIES, dVar, dC, dOp, dUn, dTest, kTest, dChain, kChain, dAnd, dOr, dNot, dTru, dSeq, dNext, dIfS, dFor, dAsg, dName, dGTup, dGCons, dGNil, dLst, dTup, dSl, dON, dOS, dOrV, dAndV, dNotV, dIf, dPar, dAug, dGSub, dRetN, dBreak, dCont, dDrop, dYes, dNever, startD, ksOf, wipeR, List.map_cons, List.map_nil, List.cons_append, List.nil_append, List.getElem?_cons_zero, List.getElem?_cons_succ, List.length_cons, List.length_nil, Nat.reduceAdd, Nat.reduceSub, List.reduceReplicate, List.set_cons_zero, List.set_cons_succ, nB, newL, decide_true, true_and, and_true, eq_self, reduceIte, List.length_map, Bool.not_true, Bool.not_false]
  have ga1 := gon 97 (by decide)
  refine ⟨by unfold sizeLine; omega, mk_stock A (ws := [[97]]) rfl ga1 ?_⟩
  try simp only [dRet, dCB, dCons, dNil, dLc, dLc2, dIS, dIL, dIT, dIR1, dIR2, dIEL, dIET, dIES, dVar, dC, dOp, dUn, dTest, kTest, dChain, kChain, dAnd, dOr, dNot, dTru, dSeq, dNext, dIfS, dFor, dAsg, dName, dGTup, dGCons, dGNil, dLst, dTup, dSl, dON, dOS, dOrV, dAndV, dNotV, dIf, dPar, dAug, dGSub, dRetN, dBreak, dCont, dDrop, dYes, dNever, startD, ksOf, wipeR, List.map_cons, List.map_nil, List.cons_append, List.nil_append, List.getElem?_cons_zero, List.getElem?_cons_succ, List.length_cons, List.length_nil, Nat.reduceAdd, Nat.reduceSub, List.reduceReplicate, List.set_cons_zero, List.set_cons_succ, nB, newL, decide_true, true_and, and_true, eq_self, reduceIte, List.length_map, Bool.not_true, Bool.not_false]
  refine ⟨[[97]], 1, rfl, ga1, apart_one ga1 (apart_self _), by omega, by omega, con 97 1 (by decide), ?_⟩
  rw [decide_eq_true (show Full [[97]] 1 by unfold Full roomN; simp)]
  refine ⟨true, rfl, ?_⟩
  try simp only [dRet, dCB, dCons, dNil, dLc, dLc2, dIS, dIL, dIT, dIR1, dIR2, dIEL, dIET, dIES, dVar, dC, dOp, dUn, dTest, kTest, dChain, kChain, dAnd, dOr, dNot, dTru, dSeq, dNext, dIfS, dFor, dAsg, dName, dGTup, dGCons, dGNil, dLst, dTup, dSl, dON, dOS, dOrV, dAndV, dNotV, dIf, dPar, dAug, dGSub, dRetN, dBreak, dCont, dDrop, dYes, dNever, startD, ksOf, wipeR, List.map_cons, List.map_nil, List.cons_append, List.nil_append, List.getElem?_cons_zero, List.getElem?_cons_succ, List.length_cons, List.length_nil, Nat.reduceAdd, Nat.reduceSub, List.reduceReplicate, List.set_cons_zero, List.set_cons_succ, nB, newL, decide_true, true_and, and_true, eq_self, reduceIte, List.length_map, Bool.not_true, Bool.not_false]
  have gz := gon 122 (by decide)
  refine ⟨by unfold sizeLine; omega, mk_stock A (ws := [[122]]) rfl gz ?_⟩
  try simp only [dRet, dCB, dCons, dNil, dLc, dLc2, dIS, dIL, dIT, dIR1, dIR2, dIEL, dIET, dIES, dVar, dC, dOp, dUn, dTest, kTest, dChain, kChain, dAnd, dOr, dNot, dTru, dSeq, dNext, dIfS, dFor, dAsg, dName, dGTup, dGCons, dGNil, dLst, dTup, dSl, dON, dOS, dOrV, dAndV, dNotV, dIf, dPar, dAug, dGSub, dRetN, dBreak, dCont, dDrop, dYes, dNever, startD, ksOf, wipeR, List.map_cons, List.map_nil, List.cons_append, List.nil_append, List.getElem?_cons_zero, List.getElem?_cons_succ, List.length_cons, List.length_nil, Nat.reduceAdd, Nat.reduceSub, List.reduceReplicate, List.set_cons_zero, List.set_cons_succ, nB, newL, decide_true, true_and, and_true, eq_self, reduceIte, List.length_map, Bool.not_true, Bool.not_false]
  refine ⟨[[122]], 26, rfl, gz, by omega, by omega, con 122 26 (by decide), by unfold sizeLine; omega, ?_⟩
  have er : lowD (roomN [[122]] 26 8) (26 ^ 8) = lowD (26 ^ 7) (26 ^ 8) := by
    unfold roomN
    simp only [List.map_cons, List.map_nil, List.sum_cons, List.sum_nil]
    rfl
  rw [er]
  refine eq_low ?_
  rw [decide_eq_true (by decide)]
  exact kSet_ext hE9 (h o4 (ho4.mono (by omega)))
end Lw
end
noncomputable section
namespace Lw
open PySem PySem.Spec PyProof.Rows L2 Evl Dl Classical
variable (A : Ad)
theorem apart_ones {ws : List Wd1} (h : ∀ w ∈ ws, w.length = 1) : Apart ws := fun a ha b hb hp => hp.eq_of_length (by rw [h a ha, h b hb])
theorem one_row (l : List Wd1) (h : l.all (fun w => decide (w.length = 1) && w.all fun c => decide (c ∈ LET)) = true) : (∀ w ∈ l, w.length = 1) ∧ ∀ w ∈ l, Row w := by
  have h := List.all_eq_true.mp h
  refine ⟨fun w hw => ?_, fun w hw c hc => ?_⟩
  · have := (Bool.and_eq_true_iff.mp (h w hw)).1
    exact of_decide_eq_true this
  · have := (Bool.and_eq_true_iff.mp (h w hw)).2
    exact of_decide_eq_true (List.all_eq_true.mp this c hc)
theorem ones_room {ws : List Wd1} (k : Nat) (h : ∀ w ∈ ws, w.length = 1) : roomN ws k 8 = ws.length * k ^ 7 := by
  unfold roomN
  induction ws with
  | nil => simp
  | cons w r ih =>
    rw [List.map_cons, List.sum_cons, ih fun x hx => h x (by simp [hx]), h w (by simp), List.length_cons, Nat.succ_mul]
    exact Nat.add_comm _ _
def down : List Wd1 := [[104], [103], [102], [101], [100], [99], [98], [97]]
def upw : List Wd1 := [[97], [98], [99], [100], [101], [102], [103], [104]]
theorem dat_law : Dat 1 nm_law (fs_law A) (ph_law A) := by
  rintro ds M Kp KE - ⟨ns, rfl, hns, h⟩
  have mem8 : ∀ w : Wd1, w ∈ down ∨ w ∈ upw → w.length = 1 ∧ ∀ c ∈ w, c ∈ LET.take 8 := fun w hw => by
    simp only [down, upw, List.mem_cons, List.not_mem_nil, or_false] at hw
    rcases hw with (rfl | rfl | rfl | rfl | rfl | rfl | rfl | rfl) | (rfl | rfl | rfl | rfl | rfl | rfl | rfl | rfl) <;> exact ⟨rfl, by decide⟩
  have sub9 : ∀ c, c ∈ LET.take 8 → c ∈ LET.take 9 := by decide
  have g1 : Good down := ⟨by decide, by decide, fun w hw => by have := (mem8 w (.inl hw)).1; omega, fun w hw c hc => List.mem_of_mem_take ((mem8 w (.inl hw)).2 c hc), by unfold down; decide⟩
  have g2 : Good upw := ⟨by decide, by decide, fun w hw => by have := (mem8 w (.inr hw)).1; omega, fun w hw c hc => List.mem_of_mem_take ((mem8 w (.inr hw)).2 c hc), by unfold upw; decide⟩
  have f1 : Full down 8 := (ones_room 8 fun w hw => (mem8 w (.inl hw)).1).trans (by decide)
  have f2 : ¬ Full upw 9 := fun z => by
    have e := (ones_room 9 fun w hw => (mem8 w (.inr hw)).1).symm.trans z
    revert e
    decide
  simp only [dRet, dCB, dCons, dNil, dLc, dLc2, dIS, dIL, dIT, dIR1, dIR2, dIEL, dIET, dIES, dVar, dC, dOp, dUn, dTest, kTest, dChain, kChain, dAnd, dOr, dNot, dTru, dSeq, dNext, dIfS, dFor, dAsg, dName, dGTup, dGCons, dGNil, dLst, dTup, dSl, dON, dOS, dOrV, dAndV, dNotV, dIf, dPar, dAug, dGSub, dRetN, dBreak, dCont, dDrop, dYes, dNever, startD, ksOf, wipeR, List.map_cons, List.map_nil, List.cons_append, List.nil_append, List.getElem?_cons_zero, List.getElem?_cons_succ, List.length_cons, List.length_nil, Nat.reduceAdd, Nat.reduceSub, List.reduceReplicate, List.set_cons_zero, List.set_cons_succ, nB, newL, decide_true, true_and, and_true, eq_self, reduceIte, List.length_map, Bool.not_true, Bool.not_false, ph_law, dCallN, dMake, dBM]
  refine ⟨by simp only [T_len]; unfold sizeLine; decide, mk_stock A (ws := down) rfl g1 ?_⟩
  try simp only [dRet, dCB, dCons, dNil, dLc, dLc2, dIS, dIL, dIT, dIR1, dIR2, dIEL, dIET, dIES, dVar, dC, dOp, dUn, dTest, kTest, dChain, kChain, dAnd, dOr, dNot, dTru, dSeq, dNext, dIfS, dFor, dAsg, dName, dGTup, dGCons, dGNil, dLst, dTup, dSl, dON, dOS, dOrV, dAndV, dNotV, dIf, dPar, dAug, dGSub, dRetN, dBreak, dCont, dDrop, dYes, dNever, startD, ksOf, wipeR, List.map_cons, List.map_nil, List.cons_append, List.nil_append, List.getElem?_cons_zero, List.getElem?_cons_succ, List.length_cons, List.length_nil, Nat.reduceAdd, Nat.reduceSub, List.reduceReplicate, List.set_cons_zero, List.set_cons_succ, nB, newL, decide_true, true_and, and_true, eq_self, reduceIte, List.length_map, Bool.not_true, Bool.not_false]
  refine ⟨down, 8, rfl, g1, apart_one g1 (apart_ones fun w hw => (mem8 w (.inl hw)).1), by omega, by omega, fun w hw => (mem8 w (.inl hw)).2, ?_⟩
  rw [decide_eq_true f1]
  simp only [dRet, dCB, dCons, dNil, dLc, dLc2, dIS, dIL, dIT, dIR1, dIR2, dIEL, dIET, dIES, dVar, dC, dOp, dUn, dTest, kTest, dChain, kChain, dAnd, dOr, dNot, dTru, dSeq, dNext, dIfS, dFor, dAsg, dName, dGTup, dGCons, dGNil, dLst, dTup, dSl, dON, dOS, dOrV, dAndV, dNotV, dIf, dPar, dAug, dGSub, dRetN, dBreak, dCont, dDrop, dYes, dNever, startD, ksOf, wipeR, List.map_cons, List.map_nil, List.cons_append, List.nil_append, List.getElem?_cons_zero, List.getElem?_cons_succ, List.length_cons, List.length_nil, Nat.reduceAdd, Nat.reduceSub, List.reduceReplicate, List.set_cons_zero, List.set_cons_succ, nB, newL, decide_true, true_and, and_true, eq_self, reduceIte, List.length_map, Bool.not_true, Bool.not_false, δIsB]
  refine ⟨by simp only [T_len]; unfold sizeLine; decide, mk_stock A (ws := upw) rfl g2 ?_⟩
  try simp only [dRet, dCB, dCons, dNil, dLc, dLc2, dIS, dIL, dIT, dIR1, dIR2, dIEL, dIET, dIES, dVar, dC, dOp, dUn, dTest, kTest, dChain, kChain, dAnd, dOr, dNot, dTru, dSeq, dNext, dIfS, dFor, dAsg, dName, dGTup, dGCons, dGNil, dLst, dTup, dSl, dON, dOS, dOrV, dAndV, dNotV, dIf, dPar, dAug, dGSub, dRetN, dBreak, dCont, dDrop, dYes, dNever, startD, ksOf, wipeR, List.map_cons, List.map_nil, List.cons_append, List.nil_append, List.getElem?_cons_zero, List.getElem?_cons_succ, List.length_cons, List.length_nil, Nat.reduceAdd, Nat.reduceSub, List.reduceReplicate, List.set_cons_zero, List.set_cons_succ, nB, newL, decide_true, true_and, and_true, eq_self, reduceIte, List.length_map, Bool.not_true, Bool.not_false]
  refine ⟨upw, 9, rfl, g2, apart_one g2 (apart_ones fun w hw => (mem8 w (.inr hw)).1), by omega, by omega, fun w hw c hc => sub9 c ((mem8 w (.inr hw)).2 c hc), ?_⟩
  rw [decide_eq_false f2]
  simp only [dRet, dCB, dCons, dNil, dLc, dLc2, dIS, dIL, dIT, dIR1, dIR2, dIEL, dIET, dIES, dVar, dC, dOp, dUn, dTest, kTest, dChain, kChain, dAnd, dOr, dNot, dTru, dSeq, dNext, dIfS, dFor, dAsg, dName, dGTup, dGCons, dGNil, dLst, dTup, dSl, dON, dOS, dOrV, dAndV, dNotV, dIf, dPar, dAug, dGSub, dRetN, dBreak, dCont, dDrop, dYes, dNever, startD, ksOf, wipeR, List.map_cons, List.map_nil, List.cons_append, List.nil_append, List.getElem?_cons_zero, List.getElem?_cons_succ, List.length_cons, List.length_nil, Nat.reduceAdd, Nat.reduceSub, List.reduceReplicate, List.set_cons_zero, List.set_cons_succ, nB, newL, decide_true, true_and, and_true, eq_self, reduceIte, List.length_map, Bool.not_true, Bool.not_false, δIsB]
  refine ⟨ns.length, rfl, ?_⟩
  have key : ∀ j : Int, j ≤ 8 → 0 ≤ j → forD yes (dName 1)
      (dSeq (dAsg (dCallN 2 (kxOf KE) (fs__law_pool A) (dCons (dVar 0) (dCons (dVar 1) dNil))) (dName 2))
        (dFor (dIR1 (dCons (dC (.int 2)) dNil)) (dName 3) (dIfS (dNot (dTru (dCallN 1 (kxOf KE) (fs__law_right A) (dCons (dVar 2) dNil)))) (dRet (dC (.bl false))) dNext)))
      { nx := fun ρ' M' => kSet Kp (.bl true) M', rt := kSet Kp } (rangeD 0 j.toNat) [some (.scr ns), none, none, none] M := by
    intro j hj hj0
    refine for_inv (fun i ρ M' => Ext M M' ∧ ∃ a b c, ρ = [some (.scr ns), a, b, c]) ⟨Ext.refl M, _, _, _, rfl⟩ ?_ ?_
    · rintro i x ρ M' Nx hx ⟨hE, a, b, c, rfl⟩ hN
      refine ⟨trivial, ?_⟩
      obtain ⟨hi, rfl⟩ := rangeD_inv hx
      simp only [dRet, dCB, dCons, dNil, dLc, dLc2, dIS, dIL, dIT, dIR1, dIR2, dIEL, dIET, dIES, dVar, dC, dOp, dUn, dTest, kTest, dChain, kChain, dAnd, dOr, dNot, dTru, dSeq, dNext, dIfS, dFor, dAsg, dName, dGTup, dGCons, dGNil, dLst, dTup, dSl, dON, dOS, dOrV, dAndV, dNotV, dIf, dPar, dAug, dGSub, dRetN, dBreak, dCont, dDrop, dYes, dNever, startD, ksOf, wipeR, List.map_cons, List.map_nil, List.cons_append, List.nil_append, List.getElem?_cons_zero, List.getElem?_cons_succ, List.length_cons, List.length_nil, Nat.reduceAdd, Nat.reduceSub, List.reduceReplicate, List.set_cons_zero, List.set_cons_succ, nB, newL, decide_true, true_and, and_true, eq_self, reduceIte, List.length_map, Bool.not_true, Bool.not_false, dCallN, Int.zero_add]
      refine ⟨ns, i, rfl, by omega, fun p o hp ho => ?_⟩
      have hpM := hE.none hp
      try simp only [dRet, dCB, dCons, dNil, dLc, dLc2, dIS, dIL, dIT, dIR1, dIR2, dIEL, dIET, dIES, dVar, dC, dOp, dUn, dTest, kTest, dChain, kChain, dAnd, dOr, dNot, dTru, dSeq, dNext, dIfS, dFor, dAsg, dName, dGTup, dGCons, dGNil, dLst, dTup, dSl, dON, dOS, dOrV, dAndV, dNotV, dIf, dPar, dAug, dGSub, dRetN, dBreak, dCont, dDrop, dYes, dNever, startD, ksOf, wipeR, List.map_cons, List.map_nil, List.cons_append, List.nil_append, List.getElem?_cons_zero, List.getElem?_cons_succ, List.length_cons, List.length_nil, Nat.reduceAdd, Nat.reduceSub, List.reduceReplicate, List.set_cons_zero, List.set_cons_succ, nB, newL, decide_true, true_and, and_true, eq_self, reduceIte, List.length_map, Bool.not_true, Bool.not_false]
      refine ⟨by omega, by omega, ?_⟩
      refine for_inv (fun k ρ M2 => ∃ o', M2 = updM M' p o' ∧ PlO (5000 * k) o' ∧ ∃ a c, ρ = [some (.scr ns), a, some (.ptr p), c]) ⟨o, rfl, ho, _, _, rfl⟩ ?_ ?_
      · rintro k x ρ M2 Nx2 hx2 ⟨o', rfl, ho', a2, c2, rfl⟩ hN2
        refine ⟨trivial, ?_⟩
        obtain ⟨hk, rfl⟩ := rangeD_inv hx2
        simp only [dRet, dCB, dCons, dNil, dLc, dLc2, dIS, dIL, dIT, dIR1, dIR2, dIEL, dIET, dIES, dVar, dC, dOp, dUn, dTest, kTest, dChain, kChain, dAnd, dOr, dNot, dTru, dSeq, dNext, dIfS, dFor, dAsg, dName, dGTup, dGCons, dGNil, dLst, dTup, dSl, dON, dOS, dOrV, dAndV, dNotV, dIf, dPar, dAug, dGSub, dRetN, dBreak, dCont, dDrop, dYes, dNever, startD, ksOf, wipeR, List.map_cons, List.map_nil, List.cons_append, List.nil_append, List.getElem?_cons_zero, List.getElem?_cons_succ, List.length_cons, List.length_nil, Nat.reduceAdd, Nat.reduceSub, List.reduceReplicate, List.set_cons_zero, List.set_cons_succ, nB, newL, decide_true, true_and, and_true, eq_self, reduceIte, List.length_map, Bool.not_true, Bool.not_false, dCallN]
        refine ⟨p, o', 5000 * k, rfl, updM_same, ho', by omega, fun o'' ho'' => ?_⟩
        rw [updM_upd]
        refine ⟨true, rfl, ?_⟩
        exact hN2 _ _ ⟨o'', rfl, ho''.mono (by omega), _, _, rfl⟩
      · rintro ρ M2 ⟨o', rfl, ho', a2, c2, rfl⟩
        exact ⟨trivial, hN _ _ ⟨Ext.new hE hpM, _, _, _, rfl⟩⟩
    · rintro ρ M' ⟨hE, a, b, c, rfl⟩
      exact ⟨trivial, kSet_ext hE h⟩
  simp only [dRet, dCB, dCons, dNil, dLc, dLc2, dIS, dIL, dIT, dIR1, dIR2, dIEL, dIET, dIES, dVar, dC, dOp, dUn, dTest, kTest, dChain, kChain, dAnd, dOr, dNot, dTru, dSeq, dNext, dIfS, dFor, dAsg, dName, dGTup, dGCons, dGNil, dLst, dTup, dSl, dON, dOS, dOrV, dAndV, dNotV, dIf, dPar, dAug, dGSub, dRetN, dBreak, dCont, dDrop, dYes, dNever, startD, ksOf, wipeR, List.map_cons, List.map_nil, List.cons_append, List.nil_append, List.getElem?_cons_zero, List.getElem?_cons_succ, List.length_cons, List.length_nil, Nat.reduceAdd, Nat.reduceSub, List.reduceReplicate, List.set_cons_zero, List.set_cons_succ, nB, newL, decide_true, true_and, and_true, eq_self, reduceIte, List.length_map, Bool.not_true, Bool.not_false, δMin2, δMax2]
  generalize hj : (if (if (ns.length : Int) < 8 then (ns.length : Int) else 8) > 1 then if (ns.length : Int) < 8 then (ns.length : Int) else 8 else 1) = j
  have hj1 : j ≤ 8 ∧ 0 ≤ j := by
    subst hj
    split <;> split <;> omega
  exact ⟨by omega, by omega, key j hj1.1 hj1.2⟩
end Lw
end
noncomputable section
namespace Lw
open PySem PySem.Spec PyProof.Rows L2 Evl Dl
variable {w : World} {K : PySem.W.Frag} {mg : Str → Option Value} {base : Heap}
theorem sc_check_letters : FnScope nm_check_letters pr_check_letters (defScope (top 29)) := ⟨rfl, rfl, rfl, by decide +kernel, rfl, by decide +kernel, by decide +kernel⟩
def der_check_letters (V : Ev w K mg)  (cdv : Value) (Ar : Around) (outer : List Env) (s : Shared) (H : Hp) (E : XK) (G : Hp) (M : Mem) (kx : KXr) hl (hr : Room 0 (Ar.deeper (envOfC "check_letters" (defScope (top 29)) s.heap.objs.size (ad_check_letters K) cdv))) :
    DSs (Yf prog w K mg base nm_check_letters "check_letters" (defScope (top 29)) (ad_check_letters K) cdv Ar outer s H E G M kx hl) (defBody (top 29)) (ph_check_letters V.A kx) := by
  have sc := sc_check_letters
  have hu : (Ar.deeper (envOfC "check_letters" (defScope (top 29)) s.heap.objs.size (ad_check_letters K) cdv)).units + 64 < cLine := hr.units
  have hu1 : (Ar.deeper (envOfC "check_letters" (defScope (top 29)) s.heap.objs.size (ad_check_letters K) cdv)).units + 1 < cLine := hu_of hr
  let A := V.A
  exact (dss_cons (ds_if (dt_not (dt_chain (op_le.or op_le_str) lift_ord (op_le.or op_le_str) lift_ord de_int (de_var 1) (de_len V.n_len (da_cons (V.q_LETTERS rfl rfl) da_nil))))
    (dss_one ds_never)
    dss_nil)
    (dss_one (ds_if (dt_not (dt_truth (de_all V.n_all (da_cons (de_lc2 false rfl sc.nd (di_tup (de_fld (IC := (IC_kept_words A)) (V.ic_kept_words) (de_var 0))) (own := [(("word" : Str), 2), (("sign" : Str), 3)]) (show BlkOk nm_check_letters (defScope (top 29)) _ _ from blkOk_by (by decide +kernel)) (vs1 := [3]) (by decide) (fun _ _ _ _ _ => (dg_name (i := 2) sc.nd rfl (by first | exact Or.inl rfl | exact Or.inr rfl) (by decide))) (fun _ _ _ _ _ => dts_nil) (fun _ _ _ _ _ => (di_str (de_var 2))) (fun _ _ _ _ _ => (dg_name (i := 3) sc.nd rfl (by first | exact Or.inl rfl | exact Or.inr rfl) (by decide))) (fun _ _ _ _ _ => dts_nil) (fun _ _ _ _ _ => (de_cmp op_inX (lift_in false) (de_var 3) (de_slice false (V.q_LETTERS rfl rfl) do_none (do_some (de_var 1))) rfl))) da_nil))))
    (dss_one ds_never)
    dss_nil)))
theorem sc_starts_of : FnScope nm_starts_of pr_starts_of (defScope (top 20)) := ⟨rfl, rfl, rfl, by decide +kernel, rfl, by decide +kernel, by decide +kernel⟩
def der_starts_of (V : Ev w K mg)  (cdv : Value) (Ar : Around) (outer : List Env) (s : Shared) (H : Hp) (E : XK) (G : Hp) (M : Mem) (kx : KXr) hl (hr : Room 0 (Ar.deeper (envOfC "starts_of" (defScope (top 20)) s.heap.objs.size (ad_starts_of K) cdv))) :
    DSs (Yf prog w K mg base nm_starts_of "starts_of" (defScope (top 20)) (ad_starts_of K) cdv Ar outer s H E G M kx hl) (defBody (top 20)) (ph_starts_of V.A kx) := by
  have sc := sc_starts_of
  have hu : (Ar.deeper (envOfC "starts_of" (defScope (top 20)) s.heap.objs.size (ad_starts_of K) cdv)).units + 64 < cLine := hr.units
  have hu1 : (Ar.deeper (envOfC "starts_of" (defScope (top 20)) s.heap.objs.size (ad_starts_of K) cdv)).units + 1 < cLine := hu_of hr
  let A := V.A
  exact (dss_cons (ds_set (i := 1) sc.nd rfl (by first | exact Or.inl rfl | exact Or.inr rfl) (de_lst true da_nil))
    (dss_cons (ds_for (passes_of rfl) rfl (di_enumT rfl V.n_enumerate (da_cons (de_var 0) da_nil)) (DGo.dg (vs := [2, 3]) (dg_tup rfl (dgs_cons (dg_name (i := 2) sc.nd rfl (by first | exact Or.inl rfl | exact Or.inr rfl) (by decide)) (dgs_cons (dg_name (i := 3) sc.nd rfl (by first | exact Or.inl rfl | exact Or.inr rfl) (by decide)) dgs_nil))))
    (dss_one (ds_for (passes_of rfl) rfl (di_enumT rfl V.n_enumerate (da_cons (de_var 0) da_nil)) (DGo.dg (vs := [4, 5]) (dg_tup rfl (dgs_cons (dg_name (i := 4) sc.nd rfl (by first | exact Or.inl rfl | exact Or.inr rfl) (by decide)) (dgs_cons (dg_name (i := 5) sc.nd rfl (by first | exact Or.inl rfl | exact Or.inr rfl) (by decide)) dgs_nil))))
    (dss_one (ds_if (dt_w (dw_and (dt_cmp (op_neX hu) (lift_eq true) (de_var 2) (de_var 4) rfl) (dw_and1 (dt_cmp (op_eqX hu) (lift_eq false) (de_slice false (de_var 5) do_none (do_some (de_len V.n_len (da_cons (de_var 3) da_nil)))) (de_var 3) rfl))))
    (dss_one (ds_expr (de_bm PySem.F.plainAttrs_list PySem.F.slot_list_append PySem.F.type_list_append mt_append lift_append (de_var 1) (da_cons (de_tup (da_cons (de_var 2) (da_cons (de_var 4) (da_cons (de_slice false (de_var 5) (do_some (de_len V.n_len (da_cons (de_var 3) da_nil))) do_none) da_nil)))) da_nil))))
    dss_nil)))))
    (dss_one (ds_ret (de_var 1)))))
theorem sc_steps_of : FnScope nm_steps_of pr_steps_of (defScope (top 21)) := ⟨rfl, rfl, rfl, by decide +kernel, rfl, by decide +kernel, by decide +kernel⟩
def der_steps_of (V : Ev w K mg)  (cdv : Value) (Ar : Around) (outer : List Env) (s : Shared) (H : Hp) (E : XK) (G : Hp) (M : Mem) (kx : KXr) hl (hr : Room 0 (Ar.deeper (envOfC "steps_of" (defScope (top 21)) s.heap.objs.size (ad_steps_of K) cdv))) :
    DSs (Yf prog w K mg base nm_steps_of "steps_of" (defScope (top 21)) (ad_steps_of K) cdv Ar outer s H E G M kx hl) (defBody (top 21)) (ph_steps_of V.A kx) := by
  have sc := sc_steps_of
  have hu : (Ar.deeper (envOfC "steps_of" (defScope (top 21)) s.heap.objs.size (ad_steps_of K) cdv)).units + 64 < cLine := hr.units
  have hu1 : (Ar.deeper (envOfC "steps_of" (defScope (top 21)) s.heap.objs.size (ad_steps_of K) cdv)).units + 1 < cLine := hu_of hr
  let A := V.A
  exact (dss_cons (ds_set (i := 2) sc.nd rfl (by first | exact Or.inl rfl | exact Or.inr rfl) (de_lst true da_nil))
    (dss_cons (ds_for (passes_of rfl) rfl (di_enumT rfl V.n_enumerate (da_cons (de_var 0) da_nil)) (DGo.dg (vs := [3, 4]) (dg_tup rfl (dgs_cons (dg_name (i := 3) sc.nd rfl (by first | exact Or.inl rfl | exact Or.inr rfl) (by decide)) (dgs_cons (dg_name (i := 4) sc.nd rfl (by first | exact Or.inl rfl | exact Or.inr rfl) (by decide)) dgs_nil))))
    (dss_one (ds_if (dt_cmp (op_eqX hu) (lift_eq false) (de_slice false (de_var 1) do_none (do_some (de_len V.n_len (da_cons (de_var 4) da_nil)))) (de_var 4) rfl)
    (dss_one (ds_expr (de_bm PySem.F.plainAttrs_list PySem.F.slot_list_append PySem.F.type_list_append mt_append lift_append (de_var 2) (da_cons (de_tup (da_cons (de_var 3) (da_cons (de_slice false (de_var 1) (do_some (de_len V.n_len (da_cons (de_var 4) da_nil))) do_none) (da_cons de_bl da_nil)))) da_nil))))
    (dss_one (ds_if (dt_cmp (op_eqX hu) (lift_eq false) (de_slice false (de_var 4) do_none (do_some (de_len V.n_len (da_cons (de_var 1) da_nil)))) (de_var 1) rfl)
    (dss_one (ds_expr (de_bm PySem.F.plainAttrs_list PySem.F.slot_list_append PySem.F.type_list_append mt_append lift_append (de_var 2) (da_cons (de_tup (da_cons (de_var 3) (da_cons (de_slice false (de_var 4) (do_some (de_len V.n_len (da_cons (de_var 1) da_nil))) do_none) (da_cons de_bl da_nil)))) da_nil))))
    dss_nil)))))
    (dss_one (ds_ret (de_var 2)))))
theorem sc_rests_from : FnScope nm_rests_from pr_rests_from (defScope (top 22)) := ⟨rfl, rfl, rfl, by decide +kernel, rfl, by decide +kernel, by decide +kernel⟩
def der_rests_from (V : Ev w K mg) (F_starts_of : FnOk prog w K mg base (L2.CX prog w) 1 (ad_starts_of K) V.d_starts_of pr_starts_of (spOf K 1 (fs_starts_of V.A))) (F_steps_of : FnOk prog w K mg base (L2.CX prog w) 1 (ad_steps_of K) V.d_steps_of pr_steps_of (spOf K 2 (fs_steps_of V.A))) (cdv : Value) (Ar : Around) (outer : List Env) (s : Shared) (H : Hp) (E : XK) (G : Hp) (M : Mem) (kx : KXr) hl (hr : Room 1 (Ar.deeper (envOfC "rests_from" (defScope (top 22)) s.heap.objs.size (ad_rests_from K) cdv))) :
    DSs (Yf prog w K mg base nm_rests_from "rests_from" (defScope (top 22)) (ad_rests_from K) cdv Ar outer s H E G M kx hl) (defBody (top 22)) (ph_rests_from V.A kx) := by
  have sc := sc_rests_from
  have hu : (Ar.deeper (envOfC "rests_from" (defScope (top 22)) s.heap.objs.size (ad_rests_from K) cdv)).units + 64 < cLine := hr.units
  have hu1 : (Ar.deeper (envOfC "rests_from" (defScope (top 22)) s.heap.objs.size (ad_rests_from K) cdv)).units + 1 < cLine := hu_of hr
  let A := V.A
  exact (dss_cons (ds_setLc true (i := 1) rfl sc.nd rfl rfl (by rfl) (di_list (de_call F_starts_of (hr.mono (by decide)) rfl V.g_starts_of V.F_starts_of.kp V.b_starts_of rfl (da_cons (de_var 0) da_nil))) (own := [(("one" : Str), 2), (("other" : Str), 3), (("rest" : Str), 4)]) (show BlkOk nm_rests_from (defScope (top 22)) _ _ from blkOk_by (by decide +kernel)) (fun _ _ _ _ _ => (dg_tup rfl (dgs_cons (dg_name (i := 2) sc.nd rfl (by first | exact Or.inl rfl | exact Or.inr rfl) (by decide)) (dgs_cons (dg_name (i := 3) sc.nd rfl (by first | exact Or.inl rfl | exact Or.inr rfl) (by decide)) (dgs_cons (dg_name (i := 4) sc.nd rfl (by first | exact Or.inl rfl | exact Or.inr rfl) (by decide)) dgs_nil))))) (fun _ _ _ _ _ => dts_nil) (fun _ _ _ _ _ => (de_var 4)))
    (dss_cons (ds_set (i := 5) sc.nd rfl (by first | exact Or.inl rfl | exact Or.inr rfl) (de_lst true da_nil))
    (dss_cons (ds_while (passes_of rfl) (dt_cmp (op_neX hu) (lift_eq true) (de_var 1) (de_lst false da_nil) rfl)
    (dss_cons (ds_set (i := 4) sc.nd rfl (by first | exact Or.inl rfl | exact Or.inr rfl) (de_bm0 PySem.F.plainAttrs_list PySem.F.slot_list_pop PySem.F.type_list_pop mt_pop lift_pop (de_var 1)))
    (dss_one (ds_if (dt_cmp op_notInX (lift_in true) (de_var 4) (de_var 5) rfl)
    (dss_cons (ds_expr (de_bm PySem.F.plainAttrs_list PySem.F.slot_list_append PySem.F.type_list_append mt_append lift_append (de_var 5) (da_cons (de_var 4) da_nil)))
    (dss_one (ds_if (dt_cmp (op_neX hu) (lift_eq true) (de_var 4) (de_str (x := T [])) rfl)
    (dss_one (ds_set (i := 1) sc.nd rfl (by first | exact Or.inl rfl | exact Or.inr rfl) (de_add true (de_var 1) (de_lc false rfl sc.nd (di_list (de_call F_steps_of (hr.mono (by decide)) rfl V.g_steps_of V.F_steps_of.kp V.b_steps_of rfl (da_cons (de_var 0) (da_cons (de_var 4) da_nil)))) (own := [(("number" : Str), 6), (("later" : Str), 7), (("leads" : Str), 8)]) (show BlkOk nm_rests_from (defScope (top 22)) _ _ from blkOk_by (by decide +kernel)) (fun _ _ _ _ _ => (dg_tup rfl (dgs_cons (dg_name (i := 6) sc.nd rfl (by first | exact Or.inl rfl | exact Or.inr rfl) (by decide)) (dgs_cons (dg_name (i := 7) sc.nd rfl (by first | exact Or.inl rfl | exact Or.inr rfl) (by decide)) (dgs_cons (dg_name (i := 8) sc.nd rfl (by first | exact Or.inl rfl | exact Or.inr rfl) (by decide)) dgs_nil))))) (fun _ _ _ _ _ => dts_nil) (fun _ _ _ _ _ => (de_var 7))))))
    dss_nil)))
    dss_nil))))
    (dss_one (ds_ret (de_sorted false V.n_sorted (da_cons (de_var 5) da_nil)))))))
theorem sc_is_one_way : FnScope nm_is_one_way pr_is_one_way (defScope (top 23)) := ⟨rfl, rfl, rfl, by decide +kernel, rfl, by decide +kernel, by decide +kernel⟩
def der_is_one_way (V : Ev w K mg) (F_rests_from : FnOk prog w K mg base (L2.CX prog w) 2 (ad_rests_from K) V.d_rests_from pr_rests_from (spOf K 1 (fs_rests_from V.A))) (cdv : Value) (Ar : Around) (outer : List Env) (s : Shared) (H : Hp) (E : XK) (G : Hp) (M : Mem) (kx : KXr) hl (hr : Room 2 (Ar.deeper (envOfC "is_one_way" (defScope (top 23)) s.heap.objs.size (ad_is_one_way K) cdv))) :
    DSs (Yf prog w K mg base nm_is_one_way "is_one_way" (defScope (top 23)) (ad_is_one_way K) cdv Ar outer s H E G M kx hl) (defBody (top 23)) (ph_is_one_way V.A kx) := by
  have sc := sc_is_one_way
  have hu : (Ar.deeper (envOfC "is_one_way" (defScope (top 23)) s.heap.objs.size (ad_is_one_way K) cdv)).units + 64 < cLine := hr.units
  have hu1 : (Ar.deeper (envOfC "is_one_way" (defScope (top 23)) s.heap.objs.size (ad_is_one_way K) cdv)).units + 1 < cLine := hu_of hr
  let A := V.A
  exact (dss_one (ds_ret (de_cmp op_notInX (lift_in true) (de_str (x := T [])) (de_call F_rests_from (hr.mono (by decide)) rfl V.g_rests_from V.F_rests_from.kp V.b_rests_from rfl (da_cons (de_fld (IC := (IC_kept_words A)) (V.ic_kept_words) (de_var 0)) da_nil)) rfl)))
theorem sc_check_one_way : FnScope nm_check_one_way pr_check_one_way (defScope (top 27)) := ⟨rfl, rfl, rfl, by decide +kernel, rfl, by decide +kernel, by decide +kernel⟩
def der_check_one_way (V : Ev w K mg) (F_is_one_way : FnOk prog w K mg base (L2.CX prog w) 3 (ad_is_one_way K) V.d_is_one_way pr_is_one_way (spOf K 1 (fs_is_one_way V.A))) (cdv : Value) (Ar : Around) (outer : List Env) (s : Shared) (H : Hp) (E : XK) (G : Hp) (M : Mem) (kx : KXr) hl (hr : Room 3 (Ar.deeper (envOfC "check_one_way" (defScope (top 27)) s.heap.objs.size (ad_check_one_way K) cdv))) :
    DSs (Yf prog w K mg base nm_check_one_way "check_one_way" (defScope (top 27)) (ad_check_one_way K) cdv Ar outer s H E G M kx hl) (defBody (top 27)) (ph_check_one_way V.A kx) := by
  have sc := sc_check_one_way
  have hu : (Ar.deeper (envOfC "check_one_way" (defScope (top 27)) s.heap.objs.size (ad_check_one_way K) cdv)).units + 64 < cLine := hr.units
  have hu1 : (Ar.deeper (envOfC "check_one_way" (defScope (top 27)) s.heap.objs.size (ad_check_one_way K) cdv)).units + 1 < cLine := hu_of hr
  let A := V.A
  exact (dss_one (ds_if (dt_not (dt_truth (de_call F_is_one_way (hr.mono (by decide)) rfl V.g_is_one_way V.F_is_one_way.kp V.b_is_one_way rfl (da_cons (de_var 0) da_nil))))
    (dss_one ds_never)
    dss_nil))
theorem sc_power_of : FnScope nm_power_of pr_power_of (defScope (top 30)) := ⟨rfl, rfl, rfl, by decide +kernel, rfl, by decide +kernel, by decide +kernel⟩
def der_power_of (V : Ev w K mg)  (cdv : Value) (Ar : Around) (outer : List Env) (s : Shared) (H : Hp) (E : XK) (G : Hp) (M : Mem) (kx : KXr) hl (hr : Room 0 (Ar.deeper (envOfC "power_of" (defScope (top 30)) s.heap.objs.size (ad_power_of K) cdv))) :
    DSs (Yf prog w K mg base nm_power_of "power_of" (defScope (top 30)) (ad_power_of K) cdv Ar outer s H E G M kx hl) (defBody (top 30)) (ph_power_of V.A kx) := by
  have sc := sc_power_of
  have hu : (Ar.deeper (envOfC "power_of" (defScope (top 30)) s.heap.objs.size (ad_power_of K) cdv)).units + 64 < cLine := hr.units
  have hu1 : (Ar.deeper (envOfC "power_of" (defScope (top 30)) s.heap.objs.size (ad_power_of K) cdv)).units + 1 < cLine := hu_of hr
  let A := V.A
  exact (dss_cons (ds_set (i := 2) sc.nd rfl (by first | exact Or.inl rfl | exact Or.inr rfl) de_int)
    (dss_cons (ds_for (passes_of rfl) rfl (di_range1 rfl V.n_range (da_cons (de_var 1) da_nil)) (DGo.dg (vs := [3]) (dg_name (i := 3) sc.nd rfl (by first | exact Or.inl rfl | exact Or.inr rfl) (by decide)))
    (dss_one (ds_augMul (i := 2) sc.nd rfl (by first | exact Or.inl rfl | exact Or.inr rfl) (de_var 0))))
    (dss_one (ds_ret (de_var 2)))))
theorem sc_lowest : FnScope nm_lowest pr_lowest (defScope (top 31)) := ⟨rfl, rfl, rfl, by decide +kernel, rfl, by decide +kernel, by decide +kernel⟩
def der_lowest (V : Ev w K mg)  (cdv : Value) (Ar : Around) (outer : List Env) (s : Shared) (H : Hp) (E : XK) (G : Hp) (M : Mem) (kx : KXr) hl (hr : Room 0 (Ar.deeper (envOfC "lowest" (defScope (top 31)) s.heap.objs.size (ad_lowest K) cdv))) :
    DSs (Yf prog w K mg base nm_lowest "lowest" (defScope (top 31)) (ad_lowest K) cdv Ar outer s H E G M kx hl) (defBody (top 31)) (ph_lowest V.A kx) := by
  have sc := sc_lowest
  have hu : (Ar.deeper (envOfC "lowest" (defScope (top 31)) s.heap.objs.size (ad_lowest K) cdv)).units + 64 < cLine := hr.units
  have hu1 : (Ar.deeper (envOfC "lowest" (defScope (top 31)) s.heap.objs.size (ad_lowest K) cdv)).units + 1 < cLine := hu_of hr
  let A := V.A
  exact (dss_cons (ds_par (i := 2) (j := 3) rfl sc.nd rfl rfl (by decide) rfl rfl (de_var 0) (de_var 1) (by rfl))
    (dss_cons (ds_while (passes_of rfl) (dt_cmp (op_neX hu) (lift_eq true) (de_var 3) de_int rfl)
    (dss_one (ds_par (i := 2) (j := 3) rfl sc.nd rfl rfl (by decide) rfl rfl (de_var 3) (de_mod (de_var 2) (de_var 3)) (by rfl))))
    (dss_one (ds_ret (de_tup (da_cons (de_div (de_var 0) (de_var 2)) (da_cons (de_div (de_var 1) (de_var 2)) da_nil)))))))
theorem sc_room_of : FnScope nm_room_of pr_room_of (defScope (top 32)) := ⟨rfl, rfl, rfl, by decide +kernel, rfl, by decide +kernel, by decide +kernel⟩
def der_room_of (V : Ev w K mg) (F_power_of : FnOk prog w K mg base (L2.CX prog w) 1 (ad_power_of K) V.d_power_of pr_power_of (spOf K 2 (fs_power_of V.A))) (F_lowest : FnOk prog w K mg base (L2.CX prog w) 1 (ad_lowest K) V.d_lowest pr_lowest (spOf K 2 (fs_lowest V.A))) (cdv : Value) (Ar : Around) (outer : List Env) (s : Shared) (H : Hp) (E : XK) (G : Hp) (M : Mem) (kx : KXr) hl (hr : Room 1 (Ar.deeper (envOfC "room_of" (defScope (top 32)) s.heap.objs.size (ad_room_of K) cdv))) :
    DSs (Yf prog w K mg base nm_room_of "room_of" (defScope (top 32)) (ad_room_of K) cdv Ar outer s H E G M kx hl) (defBody (top 32)) (ph_room_of V.A kx) := by
  have sc := sc_room_of
  have hu : (Ar.deeper (envOfC "room_of" (defScope (top 32)) s.heap.objs.size (ad_room_of K) cdv)).units + 64 < cLine := hr.units
  have hu1 : (Ar.deeper (envOfC "room_of" (defScope (top 32)) s.heap.objs.size (ad_room_of K) cdv)).units + 1 < cLine := hu_of hr
  let A := V.A
  exact (dss_cons (ds_set (i := 2) sc.nd rfl (by first | exact Or.inl rfl | exact Or.inr rfl) (de_maxL V.n_max (da_cons (de_lc false rfl sc.nd (di_tup (de_fld (IC := (IC_kept_words A)) (V.ic_kept_words) (de_var 0))) (own := [(("word" : Str), 3)]) (show BlkOk nm_room_of (defScope (top 32)) _ _ from blkOk_by (by decide +kernel)) (fun _ _ _ _ _ => (dg_name (i := 3) sc.nd rfl (by first | exact Or.inl rfl | exact Or.inr rfl) (by decide))) (fun _ _ _ _ _ => dts_nil) (fun _ _ _ _ _ => (de_len V.n_len (da_cons (de_var 3) da_nil)))) da_nil)))
    (dss_cons (ds_set (i := 4) sc.nd rfl (by first | exact Or.inl rfl | exact Or.inr rfl) (de_sum V.n_sum (da_cons (de_lc false rfl sc.nd (di_tup (de_fld (IC := (IC_kept_words A)) (V.ic_kept_words) (de_var 0))) (own := [(("word" : Str), 3)]) (show BlkOk nm_room_of (defScope (top 32)) _ _ from blkOk_by (by decide +kernel)) (fun _ _ _ _ _ => (dg_name (i := 3) sc.nd rfl (by first | exact Or.inl rfl | exact Or.inr rfl) (by decide))) (fun _ _ _ _ _ => dts_nil) (fun _ _ _ _ _ => (de_call F_power_of (hr.mono (by decide)) rfl V.g_power_of V.F_power_of.kp V.b_power_of rfl (da_cons (de_var 1) (da_cons (de_sub (de_var 2) (de_len V.n_len (da_cons (de_var 3) da_nil))) da_nil))))) da_nil)))
    (dss_one (ds_ret (de_call F_lowest (hr.mono (by decide)) rfl V.g_lowest V.F_lowest.kp V.b_lowest rfl (da_cons (de_var 4) (da_cons (de_call F_power_of (hr.mono (by decide)) rfl V.g_power_of V.F_power_of.kp V.b_power_of rfl (da_cons (de_var 1) (da_cons (de_var 2) da_nil))) da_nil)))))))
theorem sc_is_full : FnScope nm_is_full pr_is_full (defScope (top 34)) := ⟨rfl, rfl, rfl, by decide +kernel, rfl, by decide +kernel, by decide +kernel⟩
def der_is_full (V : Ev w K mg) (F_check_letters : FnOk prog w K mg base (L2.CX prog w) 1 (ad_check_letters K) V.d_check_letters pr_check_letters (spOf K 2 (fs_check_letters V.A))) (F_check_one_way : FnOk prog w K mg base (L2.CX prog w) 4 (ad_check_one_way K) V.d_check_one_way pr_check_one_way (spOf K 1 (fs_check_one_way V.A))) (F_room_of : FnOk prog w K mg base (L2.CX prog w) 2 (ad_room_of K) V.d_room_of pr_room_of (spOf K 2 (fs_room_of V.A))) (cdv : Value) (Ar : Around) (outer : List Env) (s : Shared) (H : Hp) (E : XK) (G : Hp) (M : Mem) (kx : KXr) hl (hr : Room 4 (Ar.deeper (envOfC "is_full" (defScope (top 34)) s.heap.objs.size (ad_is_full K) cdv))) :
    DSs (Yf prog w K mg base nm_is_full "is_full" (defScope (top 34)) (ad_is_full K) cdv Ar outer s H E G M kx hl) (defBody (top 34)) (ph_is_full V.A kx) := by
  have sc := sc_is_full
  have hu : (Ar.deeper (envOfC "is_full" (defScope (top 34)) s.heap.objs.size (ad_is_full K) cdv)).units + 64 < cLine := hr.units
  have hu1 : (Ar.deeper (envOfC "is_full" (defScope (top 34)) s.heap.objs.size (ad_is_full K) cdv)).units + 1 < cLine := hu_of hr
  let A := V.A
  exact (dss_cons (ds_expr (de_call F_check_letters (hr.mono (by decide)) rfl V.g_check_letters V.F_check_letters.kp V.b_check_letters rfl (da_cons (de_var 0) (da_cons (de_var 1) da_nil))))
    (dss_cons (ds_expr (de_call F_check_one_way (hr.mono (by decide)) rfl V.g_check_one_way V.F_check_one_way.kp V.b_check_one_way rfl (da_cons (de_var 0) da_nil)))
    (dss_one (ds_ret (de_cmp (op_eqX hu) (lift_eq false) (de_call F_room_of (hr.mono (by decide)) rfl V.g_room_of V.F_room_of.kp V.b_room_of rfl (da_cons (de_var 0) (da_cons (de_var 1) da_nil))) (de_tup (da_cons de_int (da_cons de_int da_nil))) rfl)))))
theorem sc_is_row : FnScope nm_is_row pr_is_row (defScope (top 11)) := ⟨rfl, rfl, rfl, by decide +kernel, rfl, by decide +kernel, by decide +kernel⟩
def der_is_row (V : Ev w K mg)  (cdv : Value) (Ar : Around) (outer : List Env) (s : Shared) (H : Hp) (E : XK) (G : Hp) (M : Mem) (kx : KXr) hl (hr : Room 0 (Ar.deeper (envOfC "is_row" (defScope (top 11)) s.heap.objs.size (ad_is_row K) cdv))) :
    DSs (Yf prog w K mg base nm_is_row "is_row" (defScope (top 11)) (ad_is_row K) cdv Ar outer s H E G M kx hl) (defBody (top 11)) (ph_is_row V.A kx) := by
  have sc := sc_is_row
  have hu : (Ar.deeper (envOfC "is_row" (defScope (top 11)) s.heap.objs.size (ad_is_row K) cdv)).units + 64 < cLine := hr.units
  have hu1 : (Ar.deeper (envOfC "is_row" (defScope (top 11)) s.heap.objs.size (ad_is_row K) cdv)).units + 1 < cLine := hu_of hr
  let A := V.A
  exact (dss_one (ds_ret (de_all V.n_all (da_cons (de_lc false rfl sc.nd (di_str (de_var 0)) (own := [(("sign" : Str), 1)]) (show BlkOk nm_is_row (defScope (top 11)) _ _ from blkOk_by (by decide +kernel)) (fun _ _ _ _ _ => (dg_name (i := 1) sc.nd rfl (by first | exact Or.inl rfl | exact Or.inr rfl) (by decide))) (fun _ _ _ _ _ => dts_nil) (fun _ _ _ _ _ => (de_cmp op_inX (lift_in false) (de_var 1) (V.q_LETTERS rfl rfl) rfl))) da_nil))))
theorem sc_check_words : FnScope nm_check_words pr_check_words (defScope (top 12)) := ⟨rfl, rfl, rfl, by decide +kernel, rfl, by decide +kernel, by decide +kernel⟩
def der_check_words (V : Ev w K mg) (F_is_row : FnOk prog w K mg base (L2.CX prog w) 1 (ad_is_row K) V.d_is_row pr_is_row (spOf K 1 (fs_is_row V.A))) (cdv : Value) (Ar : Around) (outer : List Env) (s : Shared) (H : Hp) (E : XK) (G : Hp) (M : Mem) (kx : KXr) hl (hr : Room 1 (Ar.deeper (envOfC "check_words" (defScope (top 12)) s.heap.objs.size (ad_check_words K) cdv))) :
    DSs (Yf prog w K mg base nm_check_words "check_words" (defScope (top 12)) (ad_check_words K) cdv Ar outer s H E G M kx hl) (defBody (top 12)) (ph_check_words V.A kx) := by
  have sc := sc_check_words
  have hu : (Ar.deeper (envOfC "check_words" (defScope (top 12)) s.heap.objs.size (ad_check_words K) cdv)).units + 64 < cLine := hr.units
  have hu1 : (Ar.deeper (envOfC "check_words" (defScope (top 12)) s.heap.objs.size (ad_check_words K) cdv)).units + 1 < cLine := hu_of hr
  let A := V.A
  exact (dss_cons (ds_for (passes_of rfl) rfl (di_enumL rfl V.n_enumerate (da_cons (de_var 0) da_nil)) (DGo.dg (vs := [1, 2]) (dg_tup rfl (dgs_cons (dg_name (i := 1) sc.nd rfl (by first | exact Or.inl rfl | exact Or.inr rfl) (by decide)) (dgs_cons (dg_name (i := 2) sc.nd rfl (by first | exact Or.inl rfl | exact Or.inr rfl) (by decide)) dgs_nil))))
    (dss_one (ds_if (dt_w (dw_or (dt_not (dt_chain (op_le.or op_le_str) lift_ord (op_le.or op_le_str) lift_ord de_int (de_len V.n_len (da_cons (de_var 2) da_nil)) (V.q_MOST_LETTERS rfl rfl))) (dw_or (dt_not (dt_truth (de_call F_is_row (hr.mono (by decide)) rfl V.g_is_row V.F_is_row.kp V.b_is_row rfl (da_cons (de_var 2) da_nil)))) (dw_or1 (dt_cmp op_inX (lift_in false) (de_var 2) (de_slice false (de_var 0) do_none (do_some (de_var 1))) rfl)))))
    (dss_one ds_never)
    dss_nil)))
    (dss_one (ds_if (dt_not (dt_chain (op_le.or op_le_str) lift_ord (op_le.or op_le_str) lift_ord de_int (de_len V.n_len (da_cons (de_var 0) da_nil)) (V.q_MOST_WORDS rfl rfl)))
    (dss_one ds_never)
    dss_nil)))
theorem sc_Stock___init__ : FnScope nm_Stock___init__ pr_Stock___init__ (defScope (inClass (top 14) 0)) := ⟨rfl, rfl, rfl, by decide +kernel, rfl, by decide +kernel, by decide +kernel⟩
def der_Stock___init__ (V : Ev w K mg) (F_check_words : FnOk prog w K mg base (L2.CX prog w) 2 (ad_check_words K) V.d_check_words pr_check_words (spOf K 1 (fs_check_words V.A))) (cdv : Value) (Ar : Around) (outer : List Env) (s : Shared) (H : Hp) (E : XK) (G : Hp) (M : Mem) (kx : KXr) hl (hr : Room 2 (Ar.deeper (envOfC "Stock.__init__" (defScope (inClass (top 14) 0)) s.heap.objs.size (ad_Stock___init__ K) cdv))) :
    DSs (Yf prog w K mg base nm_Stock___init__ "Stock.__init__" (defScope (inClass (top 14) 0)) (ad_Stock___init__ K) cdv Ar outer s H E G M kx hl) (defBody (inClass (top 14) 0)) (ph_Stock___init__ V.A kx) := by
  have sc := sc_Stock___init__
  have hu : (Ar.deeper (envOfC "Stock.__init__" (defScope (inClass (top 14) 0)) s.heap.objs.size (ad_Stock___init__ K) cdv)).units + 64 < cLine := hr.units
  have hu1 : (Ar.deeper (envOfC "Stock.__init__" (defScope (inClass (top 14) 0)) s.heap.objs.size (ad_Stock___init__ K) cdv)).units + 1 < cLine := hu_of hr
  let A := V.A
  exact (dss_cons (ds_expr (de_call F_check_words (hr.mono (by decide)) rfl V.g_check_words V.F_check_words.kp V.b_check_words rfl (da_cons (de_var 1) da_nil)))
    (dss_one (ds_putF (IC := (IC_kept_words A)) (V.ic_kept_words) (de_var 0) (de_tupleof V.n_tuple (da_cons (de_var 1) da_nil)))))
theorem sc__law_pool : FnScope nm__law_pool pr__law_pool (defScope (top 38)) := ⟨rfl, rfl, rfl, by decide +kernel, rfl, by decide +kernel, by decide +kernel⟩
def der__law_pool (V : Ev w K mg)  (cdv : Value) (Ar : Around) (outer : List Env) (s : Shared) (H : Hp) (E : XK) (G : Hp) (M : Mem) (kx : KXr) hl (hr : Room 0 (Ar.deeper (envOfC "_law_pool" (defScope (top 38)) s.heap.objs.size (ad__law_pool K) cdv))) :
    DSs (Yf prog w K mg base nm__law_pool "_law_pool" (defScope (top 38)) (ad__law_pool K) cdv Ar outer s H E G M kx hl) (defBody (top 38)) (ph__law_pool V.A kx) := by
  have sc := sc__law_pool
  have hu : (Ar.deeper (envOfC "_law_pool" (defScope (top 38)) s.heap.objs.size (ad__law_pool K) cdv)).units + 64 < cLine := hr.units
  have hu1 : (Ar.deeper (envOfC "_law_pool" (defScope (top 38)) s.heap.objs.size (ad__law_pool K) cdv)).units + 1 < cLine := hu_of hr
  let A := V.A
  exact (dss_cons (ds_set (i := 2) sc.nd rfl (by first | exact Or.inl rfl | exact Or.inr rfl) de_int)
    (dss_cons (ds_if (dt_cmp (op_lt.or op_lt_str) lift_ord (de_var 1) (de_len V.n_len (da_cons (de_var 0) da_nil)) rfl)
    (dss_one (ds_set (i := 2) sc.nd rfl (by first | exact Or.inl rfl | exact Or.inr rfl) (de_ix (de_var 0) (de_var 1))))
    dss_nil)
    (dss_one (ds_ret (de_lst true (da_cons (de_max2 V.n_max (da_cons de_int (da_cons (de_sub (de_abs V.n_abs (da_cons (de_var 2) da_nil)) (de_pow de_int de_int)) da_nil))) (da_cons (de_add false (de_mod (de_intof V.n_int (da_cons (de_var 2) da_nil)) de_int) (de_mul de_int (de_add false (de_var 1) de_int))) (da_cons de_int da_nil))))))))
theorem sc__law_draw : FnScope nm__law_draw pr__law_draw (defScope (top 39)) := ⟨rfl, rfl, rfl, by decide +kernel, rfl, by decide +kernel, by decide +kernel⟩
def der__law_draw (V : Ev w K mg)  (cdv : Value) (Ar : Around) (outer : List Env) (s : Shared) (H : Hp) (E : XK) (G : Hp) (M : Mem) (kx : KXr) hl (hr : Room 0 (Ar.deeper (envOfC "_law_draw" (defScope (top 39)) s.heap.objs.size (ad__law_draw K) cdv))) :
    DSs (Yf prog w K mg base nm__law_draw "_law_draw" (defScope (top 39)) (ad__law_draw K) cdv Ar outer s H E G M kx hl) (defBody (top 39)) (ph__law_draw V.A kx) := by
  have sc := sc__law_draw
  have hu : (Ar.deeper (envOfC "_law_draw" (defScope (top 39)) s.heap.objs.size (ad__law_draw K) cdv)).units + 64 < cLine := hr.units
  have hu1 : (Ar.deeper (envOfC "_law_draw" (defScope (top 39)) s.heap.objs.size (ad__law_draw K) cdv)).units + 1 < cLine := hu_of hr
  let A := V.A
  exact (dss_cons (ds_if (dt_cmp (op_gt.or op_gt_str) lift_ord (de_ix (de_var 0) de_int) de_int rfl)
    (dss_cons (ds_set (i := 2) sc.nd rfl (by first | exact Or.inl rfl | exact Or.inr rfl) (de_mod (de_intof V.n_int (da_cons (de_ix (de_var 0) de_int) da_nil)) (de_var 1)))
    (dss_cons (ds_asg (de_div (de_ix (de_var 0) de_int) (de_var 1)) (dg_sub set_list lift_setL (de_var 0) de_int))
    (dss_one (ds_ret (de_var 2)))))
    dss_nil)
    (dss_cons (ds_asg (de_add false (de_ix (de_var 0) de_int) de_int) (dg_sub set_list lift_setL (de_var 0) de_int))
    (dss_cons (ds_set (i := 3) sc.nd rfl (by first | exact Or.inl rfl | exact Or.inr rfl) (de_mod (de_intof V.n_int (da_cons (de_pow (de_add false (de_ix (de_var 0) de_int) (de_mul de_int (de_ix (de_var 0) de_int))) de_int) da_nil)) de_int))
    (dss_cons (ds_set (i := 3) sc.nd rfl (by first | exact Or.inl rfl | exact Or.inr rfl) (de_mod (de_intof V.n_int (da_cons (de_pow (de_add false (de_var 3) (de_mul de_int (de_ix (de_var 0) de_int))) de_int) da_nil)) de_int))
    (dss_one (ds_ret (de_mod (de_intof V.n_int (da_cons (de_div (de_var 3) de_int) da_nil)) (de_var 1))))))))
theorem sc__law_word : FnScope nm__law_word pr__law_word (defScope (top 40)) := ⟨rfl, rfl, rfl, by decide +kernel, rfl, by decide +kernel, by decide +kernel⟩
def der__law_word (V : Ev w K mg) (F__law_draw : FnOk prog w K mg base (L2.CX prog w) 1 (ad__law_draw K) V.d__law_draw pr__law_draw (spOf K 2 (fs__law_draw V.A))) (cdv : Value) (Ar : Around) (outer : List Env) (s : Shared) (H : Hp) (E : XK) (G : Hp) (M : Mem) (kx : KXr) hl (hr : Room 1 (Ar.deeper (envOfC "_law_word" (defScope (top 40)) s.heap.objs.size (ad__law_word K) cdv))) :
    DSs (Yf prog w K mg base nm__law_word "_law_word" (defScope (top 40)) (ad__law_word K) cdv Ar outer s H E G M kx hl) (defBody (top 40)) (ph__law_word V.A kx) := by
  have sc := sc__law_word
  have hu : (Ar.deeper (envOfC "_law_word" (defScope (top 40)) s.heap.objs.size (ad__law_word K) cdv)).units + 64 < cLine := hr.units
  have hu1 : (Ar.deeper (envOfC "_law_word" (defScope (top 40)) s.heap.objs.size (ad__law_word K) cdv)).units + 1 < cLine := hu_of hr
  let A := V.A
  exact (dss_one (ds_ret (de_bm PySem.F.plainAttrs_str PySem.F.slot_str_join PySem.F.type_str_join mt_join lift_join (de_str (x := T [])) (da_cons (de_lc false rfl sc.nd (di_range1 rfl V.n_range (da_cons (de_add false de_int (de_call F__law_draw (hr.mono (by decide)) rfl V.g__law_draw V.F__law_draw.kp V.b__law_draw rfl (da_cons (de_var 0) (da_cons (de_var 1) da_nil)))) da_nil)) (own := [(("turn" : Str), 3)]) (show BlkOk nm__law_word (defScope (top 40)) _ _ from blkOk_by (by decide +kernel)) (fun _ _ _ _ _ => (dg_name (i := 3) sc.nd rfl (by first | exact Or.inl rfl | exact Or.inr rfl) (by decide))) (fun _ _ _ _ _ => dts_nil) (fun _ _ _ _ _ => (de_ix (de_var 2) (de_call F__law_draw (hr.mono (by decide)) rfl V.g__law_draw V.F__law_draw.kp V.b__law_draw rfl (da_cons (de_var 0) (da_cons (de_len V.n_len (da_cons (de_var 2) da_nil)) da_nil)))))) da_nil))))
theorem sc__law_small_lot : FnScope nm__law_small_lot pr__law_small_lot (defScope (top 46)) := ⟨rfl, rfl, rfl, by decide +kernel, rfl, by decide +kernel, by decide +kernel⟩
def der__law_small_lot (V : Ev w K mg) (F__law_draw : FnOk prog w K mg base (L2.CX prog w) 1 (ad__law_draw K) V.d__law_draw pr__law_draw (spOf K 2 (fs__law_draw V.A))) (F__law_word : FnOk prog w K mg base (L2.CX prog w) 2 (ad__law_word K) V.d__law_word pr__law_word (spOf K 3 (fs__law_word V.A))) (cdv : Value) (Ar : Around) (outer : List Env) (s : Shared) (H : Hp) (E : XK) (G : Hp) (M : Mem) (kx : KXr) hl (hr : Room 2 (Ar.deeper (envOfC "_law_small_lot" (defScope (top 46)) s.heap.objs.size (ad__law_small_lot K) cdv))) :
    DSs (Yf prog w K mg base nm__law_small_lot "_law_small_lot" (defScope (top 46)) (ad__law_small_lot K) cdv Ar outer s H E G M kx hl) (defBody (top 46)) (ph__law_small_lot V.A kx) := by
  have sc := sc__law_small_lot
  have hu : (Ar.deeper (envOfC "_law_small_lot" (defScope (top 46)) s.heap.objs.size (ad__law_small_lot K) cdv)).units + 64 < cLine := hr.units
  have hu1 : (Ar.deeper (envOfC "_law_small_lot" (defScope (top 46)) s.heap.objs.size (ad__law_small_lot K) cdv)).units + 1 < cLine := hu_of hr
  let A := V.A
  exact (dss_cons (ds_set (i := 3) sc.nd rfl (by first | exact Or.inl rfl | exact Or.inr rfl) (de_lst true da_nil))
    (dss_cons (ds_for (passes_of rfl) rfl (di_range1 rfl V.n_range (da_cons (de_add false de_int (de_call F__law_draw (hr.mono (by decide)) rfl V.g__law_draw V.F__law_draw.kp V.b__law_draw rfl (da_cons (de_var 0) (da_cons de_int da_nil)))) da_nil)) (DGo.dg (vs := [4]) (dg_name (i := 4) sc.nd rfl (by first | exact Or.inl rfl | exact Or.inr rfl) (by decide)))
    (dss_cons (ds_set (i := 5) sc.nd rfl (by first | exact Or.inl rfl | exact Or.inr rfl) (de_call F__law_word (hr.mono (by decide)) rfl V.g__law_word V.F__law_word.kp V.b__law_word rfl (da_cons (de_var 0) (da_cons (de_var 2) (da_cons (de_var 1) da_nil)))))
    (dss_one (ds_if (dt_cmp op_notInX (lift_in true) (de_var 5) (de_var 3) rfl)
    (dss_one (ds_expr (de_bm PySem.F.plainAttrs_list PySem.F.slot_list_append PySem.F.type_list_append mt_append lift_append (de_var 3) (da_cons (de_var 5) da_nil))))
    dss_nil))))
    (dss_one (ds_ret (de_var 3)))))
theorem sc_room : FnScope nm_room pr_room (defScope (top 33)) := ⟨rfl, rfl, rfl, by decide +kernel, rfl, by decide +kernel, by decide +kernel⟩
def der_room (V : Ev w K mg) (F_check_letters : FnOk prog w K mg base (L2.CX prog w) 1 (ad_check_letters K) V.d_check_letters pr_check_letters (spOf K 2 (fs_check_letters V.A))) (F_room_of : FnOk prog w K mg base (L2.CX prog w) 2 (ad_room_of K) V.d_room_of pr_room_of (spOf K 2 (fs_room_of V.A))) (cdv : Value) (Ar : Around) (outer : List Env) (s : Shared) (H : Hp) (E : XK) (G : Hp) (M : Mem) (kx : KXr) hl (hr : Room 2 (Ar.deeper (envOfC "room" (defScope (top 33)) s.heap.objs.size (ad_room K) cdv))) :
    DSs (Yf prog w K mg base nm_room "room" (defScope (top 33)) (ad_room K) cdv Ar outer s H E G M kx hl) (defBody (top 33)) (ph_room V.A kx) := by
  have sc := sc_room
  have hu : (Ar.deeper (envOfC "room" (defScope (top 33)) s.heap.objs.size (ad_room K) cdv)).units + 64 < cLine := hr.units
  have hu1 : (Ar.deeper (envOfC "room" (defScope (top 33)) s.heap.objs.size (ad_room K) cdv)).units + 1 < cLine := hu_of hr
  let A := V.A
  exact (dss_cons (ds_expr (de_call F_check_letters (hr.mono (by decide)) rfl V.g_check_letters V.F_check_letters.kp V.b_check_letters rfl (da_cons (de_var 0) (da_cons (de_var 1) da_nil))))
    (dss_one (ds_ret (de_call F_room_of (hr.mono (by decide)) rfl V.g_room_of V.F_room_of.kp V.b_room_of rfl (da_cons (de_var 0) (da_cons (de_var 1) da_nil))))))
theorem sc__law_power : FnScope nm__law_power pr__law_power (defScope (top 44)) := ⟨rfl, rfl, rfl, by decide +kernel, rfl, by decide +kernel, by decide +kernel⟩
def der__law_power (V : Ev w K mg)  (cdv : Value) (Ar : Around) (outer : List Env) (s : Shared) (H : Hp) (E : XK) (G : Hp) (M : Mem) (kx : KXr) hl (hr : Room 0 (Ar.deeper (envOfC "_law_power" (defScope (top 44)) s.heap.objs.size (ad__law_power K) cdv))) :
    DSs (Yf prog w K mg base nm__law_power "_law_power" (defScope (top 44)) (ad__law_power K) cdv Ar outer s H E G M kx hl) (defBody (top 44)) (ph__law_power V.A kx) := by
  have sc := sc__law_power
  have hu : (Ar.deeper (envOfC "_law_power" (defScope (top 44)) s.heap.objs.size (ad__law_power K) cdv)).units + 64 < cLine := hr.units
  have hu1 : (Ar.deeper (envOfC "_law_power" (defScope (top 44)) s.heap.objs.size (ad__law_power K) cdv)).units + 1 < cLine := hu_of hr
  let A := V.A
  exact (dss_cons (ds_set (i := 2) sc.nd rfl (by first | exact Or.inl rfl | exact Or.inr rfl) de_int)
    (dss_cons (ds_for (passes_of rfl) rfl (di_range1 rfl V.n_range (da_cons (de_var 1) da_nil)) (DGo.dg (vs := [3]) (dg_name (i := 3) sc.nd rfl (by first | exact Or.inl rfl | exact Or.inr rfl) (by decide)))
    (dss_one (ds_set (i := 2) sc.nd rfl (by first | exact Or.inl rfl | exact Or.inr rfl) (de_mul (de_var 2) (de_var 0)))))
    (dss_one (ds_ret (de_var 2)))))
theorem sc__law_low : FnScope nm__law_low pr__law_low (defScope (top 43)) := ⟨rfl, rfl, rfl, by decide +kernel, rfl, by decide +kernel, by decide +kernel⟩
def der__law_low (V : Ev w K mg)  (cdv : Value) (Ar : Around) (outer : List Env) (s : Shared) (H : Hp) (E : XK) (G : Hp) (M : Mem) (kx : KXr) hl (hr : Room 0 (Ar.deeper (envOfC "_law_low" (defScope (top 43)) s.heap.objs.size (ad__law_low K) cdv))) :
    DSs (Yf prog w K mg base nm__law_low "_law_low" (defScope (top 43)) (ad__law_low K) cdv Ar outer s H E G M kx hl) (defBody (top 43)) (ph__law_low V.A kx) := by
  have sc := sc__law_low
  have hu : (Ar.deeper (envOfC "_law_low" (defScope (top 43)) s.heap.objs.size (ad__law_low K) cdv)).units + 64 < cLine := hr.units
  have hu1 : (Ar.deeper (envOfC "_law_low" (defScope (top 43)) s.heap.objs.size (ad__law_low K) cdv)).units + 1 < cLine := hu_of hr
  let A := V.A
  exact (dss_cons (ds_par (i := 2) (j := 3) rfl sc.nd rfl rfl (by decide) rfl rfl (de_var 0) (de_var 1) (by rfl))
    (dss_cons (ds_while (passes_of rfl) (dt_cmp (op_neX hu) (lift_eq true) (de_var 3) de_int rfl)
    (dss_one (ds_par (i := 2) (j := 3) rfl sc.nd rfl rfl (by decide) rfl rfl (de_var 3) (de_mod (de_intof V.n_int (da_cons (de_var 2) da_nil)) (de_var 3)) (by rfl))))
    (dss_one (ds_ret (de_tup (da_cons (de_div (de_var 0) (de_var 2)) (da_cons (de_div (de_var 1) (de_var 2)) da_nil)))))))
theorem sc__law_room : FnScope nm__law_room pr__law_room (defScope (top 45)) := ⟨rfl, rfl, rfl, by decide +kernel, rfl, by decide +kernel, by decide +kernel⟩
def der__law_room (V : Ev w K mg) (F__law_power : FnOk prog w K mg base (L2.CX prog w) 1 (ad__law_power K) V.d__law_power pr__law_power (spOf K 2 (fs__law_power V.A))) (F__law_low : FnOk prog w K mg base (L2.CX prog w) 1 (ad__law_low K) V.d__law_low pr__law_low (spOf K 2 (fs__law_low V.A))) (cdv : Value) (Ar : Around) (outer : List Env) (s : Shared) (H : Hp) (E : XK) (G : Hp) (M : Mem) (kx : KXr) hl (hr : Room 1 (Ar.deeper (envOfC "_law_room" (defScope (top 45)) s.heap.objs.size (ad__law_room K) cdv))) :
    DSs (Yf prog w K mg base nm__law_room "_law_room" (defScope (top 45)) (ad__law_room K) cdv Ar outer s H E G M kx hl) (defBody (top 45)) (ph__law_room V.A kx) := by
  have sc := sc__law_room
  have hu : (Ar.deeper (envOfC "_law_room" (defScope (top 45)) s.heap.objs.size (ad__law_room K) cdv)).units + 64 < cLine := hr.units
  have hu1 : (Ar.deeper (envOfC "_law_room" (defScope (top 45)) s.heap.objs.size (ad__law_room K) cdv)).units + 1 < cLine := hu_of hr
  let A := V.A
  exact (dss_cons (ds_set (i := 2) sc.nd rfl (by first | exact Or.inl rfl | exact Or.inr rfl) (de_sum V.n_sum (da_cons (de_lc false rfl sc.nd (di_list (de_var 0)) (own := [(("step" : Str), 3)]) (show BlkOk nm__law_room (defScope (top 45)) _ _ from blkOk_by (by decide +kernel)) (fun _ _ _ _ _ => (dg_name (i := 3) sc.nd rfl (by first | exact Or.inl rfl | exact Or.inr rfl) (by decide))) (fun _ _ _ _ _ => dts_nil) (fun _ _ _ _ _ => (de_call F__law_power (hr.mono (by decide)) rfl V.g__law_power V.F__law_power.kp V.b__law_power rfl (da_cons (de_var 1) (da_cons (de_sub de_int (de_len V.n_len (da_cons (de_var 3) da_nil))) da_nil))))) da_nil)))
    (dss_one (ds_ret (de_call F__law_low (hr.mono (by decide)) rfl V.g__law_low V.F__law_low.kp V.b__law_low rfl (da_cons (de_var 2) (da_cons (de_call F__law_power (hr.mono (by decide)) rfl V.g__law_power V.F__law_power.kp V.b__law_power rfl (da_cons (de_var 1) (da_cons de_int da_nil))) da_nil))))))
theorem sc__law_rests : FnScope nm__law_rests pr__law_rests (defScope (top 41)) := ⟨rfl, rfl, rfl, by decide +kernel, rfl, by decide +kernel, by decide +kernel⟩
def der__law_rests (V : Ev w K mg)  (cdv : Value) (Ar : Around) (outer : List Env) (s : Shared) (H : Hp) (E : XK) (G : Hp) (M : Mem) (kx : KXr) hl (hr : Room 0 (Ar.deeper (envOfC "_law_rests" (defScope (top 41)) s.heap.objs.size (ad__law_rests K) cdv))) :
    DSs (Yf prog w K mg base nm__law_rests "_law_rests" (defScope (top 41)) (ad__law_rests K) cdv Ar outer s H E G M kx hl) (defBody (top 41)) (ph__law_rests V.A kx) := by
  have sc := sc__law_rests
  have hu : (Ar.deeper (envOfC "_law_rests" (defScope (top 41)) s.heap.objs.size (ad__law_rests K) cdv)).units + 64 < cLine := hr.units
  have hu1 : (Ar.deeper (envOfC "_law_rests" (defScope (top 41)) s.heap.objs.size (ad__law_rests K) cdv)).units + 1 < cLine := hu_of hr
  let A := V.A
  exact (dss_cons (ds_par3 (i := 1) (j := 2) (l := 3) rfl sc.nd rfl rfl rfl (by decide) (by decide) (by decide) rfl rfl rfl (da_cons (de_lst true da_nil) (da_cons (de_lst true da_nil) (da_cons de_bl da_nil))) (by rfl))
    (dss_cons (ds_for (passes_of rfl) rfl (di_list (de_var 0)) (DGo.dg (vs := [4]) (dg_name (i := 4) sc.nd rfl (by first | exact Or.inl rfl | exact Or.inr rfl) (by decide)))
    (dss_one (ds_for (passes_of rfl) rfl (di_list (de_var 0)) (DGo.dg (vs := [5]) (dg_name (i := 5) sc.nd rfl (by first | exact Or.inl rfl | exact Or.inr rfl) (by decide)))
    (dss_one (ds_if (dt_w (dw_and (dt_cmp (op_neX hu) (lift_eq true) (de_var 5) (de_var 4) rfl) (dw_and1 (dt_cmp (op_eqX hu) (lift_eq false) (de_slice false (de_var 5) do_none (do_some (de_len V.n_len (da_cons (de_var 4) da_nil)))) (de_var 4) rfl))))
    (dss_one (ds_expr (de_bm PySem.F.plainAttrs_list PySem.F.slot_list_append PySem.F.type_list_append mt_append lift_append (de_var 1) (da_cons (de_slice false (de_var 5) (do_some (de_len V.n_len (da_cons (de_var 4) da_nil))) do_none) da_nil))))
    dss_nil)))))
    (dss_cons (ds_while (passes_of rfl) (dt_cmp (op_neX hu) (lift_eq true) (de_var 1) (de_lst false da_nil) rfl)
    (dss_cons (ds_set (i := 6) sc.nd rfl (by first | exact Or.inl rfl | exact Or.inr rfl) (de_bm0 PySem.F.plainAttrs_list PySem.F.slot_list_pop PySem.F.type_list_pop mt_pop lift_pop (de_var 1)))
    (dss_one (ds_if (dt_cmp op_notInX (lift_in true) (de_var 6) (de_var 2) rfl)
    (dss_cons (ds_expr (de_bm PySem.F.plainAttrs_list PySem.F.slot_list_append PySem.F.type_list_append mt_append lift_append (de_var 2) (da_cons (de_var 6) da_nil)))
    (dss_one (ds_for (passes_of rfl) rfl (di_list (de_var 0)) (DGo.dg (vs := [7]) (dg_name (i := 7) sc.nd rfl (by first | exact Or.inl rfl | exact Or.inr rfl) (by decide)))
    (dss_one (ds_if (dt_cmp (op_eqX hu) (lift_eq false) (de_var 7) (de_var 6) rfl)
    (dss_one (ds_set (i := 3) sc.nd rfl (by first | exact Or.inl rfl | exact Or.inr rfl) de_bl))
    (dss_one (ds_if (dt_cmp (op_eqX hu) (lift_eq false) (de_slice false (de_var 6) do_none (do_some (de_len V.n_len (da_cons (de_var 7) da_nil)))) (de_var 7) rfl)
    (dss_one (ds_expr (de_bm PySem.F.plainAttrs_list PySem.F.slot_list_append PySem.F.type_list_append mt_append lift_append (de_var 1) (da_cons (de_slice false (de_var 6) (do_some (de_len V.n_len (da_cons (de_var 7) da_nil))) do_none) da_nil))))
    (dss_one (ds_if (dt_cmp (op_eqX hu) (lift_eq false) (de_slice false (de_var 7) do_none (do_some (de_len V.n_len (da_cons (de_var 6) da_nil)))) (de_var 6) rfl)
    (dss_one (ds_expr (de_bm PySem.F.plainAttrs_list PySem.F.slot_list_append PySem.F.type_list_append mt_append lift_append (de_var 1) (da_cons (de_slice false (de_var 7) (do_some (de_len V.n_len (da_cons (de_var 6) da_nil))) do_none) da_nil))))
    dss_nil)))))))))
    dss_nil))))
    (dss_one (ds_ret (de_tup (da_cons (de_var 2) (da_cons (de_var 3) da_nil))))))))
theorem sc__law_eased : FnScope nm__law_eased pr__law_eased (defScope (top 42)) := ⟨rfl, rfl, rfl, by decide +kernel, rfl, by decide +kernel, by decide +kernel⟩
def der__law_eased (V : Ev w K mg) (F__law_rests : FnOk prog w K mg base (L2.CX prog w) 1 (ad__law_rests K) V.d__law_rests pr__law_rests (spOf K 1 (fs__law_rests V.A))) (cdv : Value) (Ar : Around) (outer : List Env) (s : Shared) (H : Hp) (E : XK) (G : Hp) (M : Mem) (kx : KXr) hl (hr : Room 1 (Ar.deeper (envOfC "_law_eased" (defScope (top 42)) s.heap.objs.size (ad__law_eased K) cdv))) :
    DSs (Yf prog w K mg base nm__law_eased "_law_eased" (defScope (top 42)) (ad__law_eased K) cdv Ar outer s H E G M kx hl) (defBody (top 42)) (ph__law_eased V.A kx) := by
  have sc := sc__law_eased
  have hu : (Ar.deeper (envOfC "_law_eased" (defScope (top 42)) s.heap.objs.size (ad__law_eased K) cdv)).units + 64 < cLine := hr.units
  have hu1 : (Ar.deeper (envOfC "_law_eased" (defScope (top 42)) s.heap.objs.size (ad__law_eased K) cdv)).units + 1 < cLine := hu_of hr
  let A := V.A
  exact (dss_cons (ds_set (i := 1) sc.nd rfl (by first | exact Or.inl rfl | exact Or.inr rfl) (de_lst true da_nil))
    (dss_cons (ds_for (passes_of rfl) rfl (di_list (de_var 0)) (DGo.dg (vs := [2]) (dg_name (i := 2) sc.nd rfl (by first | exact Or.inl rfl | exact Or.inr rfl) (by decide)))
    (dss_one (ds_if (dt_w (dw_and (dt_cmp op_notInX (lift_in true) (de_var 2) (de_var 1) rfl) (dw_and1 (dt_not (dt_truth (de_ix (de_call F__law_rests (hr.mono (by decide)) rfl V.g__law_rests V.F__law_rests.kp V.b__law_rests rfl (da_cons (de_add false (de_var 1) (de_lst false (da_cons (de_var 2) da_nil))) da_nil)) de_int))))))
    (dss_one (ds_expr (de_bm PySem.F.plainAttrs_list PySem.F.slot_list_append PySem.F.type_list_append mt_append lift_append (de_var 1) (da_cons (de_var 2) da_nil))))
    dss_nil)))
    (dss_one (ds_ret (de_var 1)))))
theorem sc__law_apart : FnScope nm__law_apart pr__law_apart (defScope (top 47)) := ⟨rfl, rfl, rfl, by decide +kernel, rfl, by decide +kernel, by decide +kernel⟩
def der__law_apart (V : Ev w K mg)  (cdv : Value) (Ar : Around) (outer : List Env) (s : Shared) (H : Hp) (E : XK) (G : Hp) (M : Mem) (kx : KXr) hl (hr : Room 0 (Ar.deeper (envOfC "_law_apart" (defScope (top 47)) s.heap.objs.size (ad__law_apart K) cdv))) :
    DSs (Yf prog w K mg base nm__law_apart "_law_apart" (defScope (top 47)) (ad__law_apart K) cdv Ar outer s H E G M kx hl) (defBody (top 47)) (ph__law_apart V.A kx) := by
  have sc := sc__law_apart
  have hu : (Ar.deeper (envOfC "_law_apart" (defScope (top 47)) s.heap.objs.size (ad__law_apart K) cdv)).units + 64 < cLine := hr.units
  have hu1 : (Ar.deeper (envOfC "_law_apart" (defScope (top 47)) s.heap.objs.size (ad__law_apart K) cdv)).units + 1 < cLine := hu_of hr
  let A := V.A
  exact (dss_cons (ds_set (i := 1) sc.nd rfl (by first | exact Or.inl rfl | exact Or.inr rfl) (de_lst true da_nil))
    (dss_cons (ds_for (passes_of rfl) rfl (di_list (de_var 0)) (DGo.dg (vs := [2]) (dg_name (i := 2) sc.nd rfl (by first | exact Or.inl rfl | exact Or.inr rfl) (by decide)))
    (dss_one (ds_if (dt_cmp (op_eqX hu) (lift_eq false) (de_lc false rfl sc.nd (di_list (de_var 1)) (own := [(("step" : Str), 3)]) (show BlkOk nm__law_apart (defScope (top 47)) _ _ from blkOk_by (by decide +kernel)) (fun _ _ _ _ _ => (dg_name (i := 3) sc.nd rfl (by first | exact Or.inl rfl | exact Or.inr rfl) (by decide))) (fun _ _ _ _ _ => (dts_one (dt_w (dw_or (dt_cmp (op_eqX hu) (lift_eq false) (de_slice false (de_var 3) do_none (do_some (de_len V.n_len (da_cons (de_var 2) da_nil)))) (de_var 2) rfl) (dw_or1 (dt_cmp (op_eqX hu) (lift_eq false) (de_slice false (de_var 2) do_none (do_some (de_len V.n_len (da_cons (de_var 3) da_nil)))) (de_var 3) rfl)))))) (fun _ _ _ _ _ => de_int)) (de_lst false da_nil) rfl)
    (dss_one (ds_expr (de_bm PySem.F.plainAttrs_list PySem.F.slot_list_append PySem.F.type_list_append mt_append lift_append (de_var 1) (da_cons (de_var 2) da_nil))))
    dss_nil)))
    (dss_one (ds_ret (de_var 1)))))
theorem sc__law_filling : FnScope nm__law_filling pr__law_filling (defScope (top 48)) := ⟨rfl, rfl, rfl, by decide +kernel, rfl, by decide +kernel, by decide +kernel⟩
def der__law_filling (V : Ev w K mg)  (cdv : Value) (Ar : Around) (outer : List Env) (s : Shared) (H : Hp) (E : XK) (G : Hp) (M : Mem) (kx : KXr) hl (hr : Room 0 (Ar.deeper (envOfC "_law_filling" (defScope (top 48)) s.heap.objs.size (ad__law_filling K) cdv))) :
    DSs (Yf prog w K mg base nm__law_filling "_law_filling" (defScope (top 48)) (ad__law_filling K) cdv Ar outer s H E G M kx hl) (defBody (top 48)) (ph__law_filling V.A kx) := by
  have sc := sc__law_filling
  have hu : (Ar.deeper (envOfC "_law_filling" (defScope (top 48)) s.heap.objs.size (ad__law_filling K) cdv)).units + 64 < cLine := hr.units
  have hu1 : (Ar.deeper (envOfC "_law_filling" (defScope (top 48)) s.heap.objs.size (ad__law_filling K) cdv)).units + 1 < cLine := hu_of hr
  let A := V.A
  exact (dss_cons (ds_par (i := 2) (j := 3) rfl sc.nd rfl rfl (by decide) rfl rfl (de_lst true da_nil) (de_lst false (da_cons (de_str (x := T [])) da_nil)) (by rfl))
    (dss_cons (ds_while (passes_of rfl) (dt_cmp (op_neX hu) (lift_eq true) (de_var 3) (de_lst false da_nil) rfl)
    (dss_cons (ds_set (i := 4) sc.nd rfl (by first | exact Or.inl rfl | exact Or.inr rfl) (de_lst true da_nil))
    (dss_cons (ds_for (passes_of rfl) rfl (di_list (de_var 3)) (DGo.dg (vs := [5]) (dg_name (i := 5) sc.nd rfl (by first | exact Or.inl rfl | exact Or.inr rfl) (by decide)))
    (dss_one (ds_for (passes_of rfl) rfl (di_str (de_var 1)) (DGo.dg (vs := [6]) (dg_name (i := 6) sc.nd rfl (by first | exact Or.inl rfl | exact Or.inr rfl) (by decide)))
    (dss_cons (ds_set (i := 7) sc.nd rfl (by first | exact Or.inl rfl | exact Or.inr rfl) (de_add false (de_var 5) (de_var 6)))
    (dss_one (ds_if (dt_cmp (op_neX hu) (lift_eq true) (de_lc false rfl sc.nd (di_list (de_var 0)) (own := [(("step" : Str), 8)]) (show BlkOk nm__law_filling (defScope (top 48)) _ _ from blkOk_by (by decide +kernel)) (fun _ _ _ _ _ => (dg_name (i := 8) sc.nd rfl (by first | exact Or.inl rfl | exact Or.inr rfl) (by decide))) (fun _ _ _ _ _ => (dts_one (dt_w (dw_and (dt_cmp (op_eqX hu) (lift_eq false) (de_slice false (de_var 8) do_none (do_some (de_len V.n_len (da_cons (de_var 7) da_nil)))) (de_var 7) rfl) (dw_and1 (dt_cmp (op_neX hu) (lift_eq true) (de_var 8) (de_var 7) rfl)))))) (fun _ _ _ _ _ => de_int)) (de_lst false da_nil) rfl)
    (dss_one (ds_expr (de_bm PySem.F.plainAttrs_list PySem.F.slot_list_append PySem.F.type_list_append mt_append lift_append (de_var 4) (da_cons (de_var 7) da_nil))))
    (dss_one (ds_if (dt_cmp op_notInX (lift_in true) (de_var 7) (de_var 0) rfl)
    (dss_one (ds_expr (de_bm PySem.F.plainAttrs_list PySem.F.slot_list_append PySem.F.type_list_append mt_append lift_append (de_var 2) (da_cons (de_var 7) da_nil))))
    dss_nil))))))))
    (dss_one (ds_set (i := 3) sc.nd rfl (by first | exact Or.inl rfl | exact Or.inr rfl) (de_var 4))))))
    (dss_one (ds_ret (de_sorted false V.n_sorted (da_cons (de_var 2) da_nil))))))
theorem sc_check_apart : FnScope nm_check_apart pr_check_apart (defScope (top 35)) := ⟨rfl, rfl, rfl, by decide +kernel, rfl, by decide +kernel, by decide +kernel⟩
def der_check_apart (V : Ev w K mg)  (cdv : Value) (Ar : Around) (outer : List Env) (s : Shared) (H : Hp) (E : XK) (G : Hp) (M : Mem) (kx : KXr) hl (hr : Room 0 (Ar.deeper (envOfC "check_apart" (defScope (top 35)) s.heap.objs.size (ad_check_apart K) cdv))) :
    DSs (Yf prog w K mg base nm_check_apart "check_apart" (defScope (top 35)) (ad_check_apart K) cdv Ar outer s H E G M kx hl) (defBody (top 35)) (ph_check_apart V.A kx) := by
  have sc := sc_check_apart
  have hu : (Ar.deeper (envOfC "check_apart" (defScope (top 35)) s.heap.objs.size (ad_check_apart K) cdv)).units + 64 < cLine := hr.units
  have hu1 : (Ar.deeper (envOfC "check_apart" (defScope (top 35)) s.heap.objs.size (ad_check_apart K) cdv)).units + 1 < cLine := hu_of hr
  let A := V.A
  exact (dss_one (ds_for (passes_of rfl) rfl (di_enumT rfl V.n_enumerate (da_cons (de_fld (IC := (IC_kept_words A)) (V.ic_kept_words) (de_var 0)) da_nil)) (DGo.dg (vs := [1, 2]) (dg_tup rfl (dgs_cons (dg_name (i := 1) sc.nd rfl (by first | exact Or.inl rfl | exact Or.inr rfl) (by decide)) (dgs_cons (dg_name (i := 2) sc.nd rfl (by first | exact Or.inl rfl | exact Or.inr rfl) (by decide)) dgs_nil))))
    (dss_one (ds_for (passes_of rfl) rfl (di_enumT rfl V.n_enumerate (da_cons (de_fld (IC := (IC_kept_words A)) (V.ic_kept_words) (de_var 0)) da_nil)) (DGo.dg (vs := [3, 4]) (dg_tup rfl (dgs_cons (dg_name (i := 3) sc.nd rfl (by first | exact Or.inl rfl | exact Or.inr rfl) (by decide)) (dgs_cons (dg_name (i := 4) sc.nd rfl (by first | exact Or.inl rfl | exact Or.inr rfl) (by decide)) dgs_nil))))
    (dss_one (ds_if (dt_w (dw_and (dt_cmp (op_neX hu) (lift_eq true) (de_var 1) (de_var 3) rfl) (dw_and1 (dt_cmp (op_eqX hu) (lift_eq false) (de_slice false (de_var 4) do_none (do_some (de_len V.n_len (da_cons (de_var 2) da_nil)))) (de_var 2) rfl))))
    (dss_one ds_never)
    dss_nil))))))
theorem sc_filling : FnScope nm_filling pr_filling (defScope (top 36)) := ⟨rfl, rfl, rfl, by decide +kernel, rfl, by decide +kernel, by decide +kernel⟩
def der_filling (V : Ev w K mg) (F_check_letters : FnOk prog w K mg base (L2.CX prog w) 1 (ad_check_letters K) V.d_check_letters pr_check_letters (spOf K 2 (fs_check_letters V.A))) (F_check_apart : FnOk prog w K mg base (L2.CX prog w) 1 (ad_check_apart K) V.d_check_apart pr_check_apart (spOf K 1 (fs_check_apart V.A))) (cdv : Value) (Ar : Around) (outer : List Env) (s : Shared) (H : Hp) (E : XK) (G : Hp) (M : Mem) (kx : KXr) hl (hr : Room 1 (Ar.deeper (envOfC "filling" (defScope (top 36)) s.heap.objs.size (ad_filling K) cdv))) :
    DSs (Yf prog w K mg base nm_filling "filling" (defScope (top 36)) (ad_filling K) cdv Ar outer s H E G M kx hl) (defBody (top 36)) (ph_filling V.A kx) := by
  have sc := sc_filling
  have hu : (Ar.deeper (envOfC "filling" (defScope (top 36)) s.heap.objs.size (ad_filling K) cdv)).units + 64 < cLine := hr.units
  have hu1 : (Ar.deeper (envOfC "filling" (defScope (top 36)) s.heap.objs.size (ad_filling K) cdv)).units + 1 < cLine := hu_of hr
  let A := V.A
  exact (dss_cons (ds_expr (de_call F_check_letters (hr.mono (by decide)) rfl V.g_check_letters V.F_check_letters.kp V.b_check_letters rfl (da_cons (de_var 0) (da_cons (de_var 1) da_nil))))
    (dss_cons (ds_expr (de_call F_check_apart (hr.mono (by decide)) rfl V.g_check_apart V.F_check_apart.kp V.b_check_apart rfl (da_cons (de_var 0) da_nil)))
    (dss_cons (ds_set (i := 2) sc.nd rfl (by first | exact Or.inl rfl | exact Or.inr rfl) de_dnewK)
    (dss_cons (ds_for (passes_of rfl) rfl (di_tup (de_fld (IC := (IC_kept_words A)) (V.ic_kept_words) (de_var 0))) (DGo.dg (vs := [3]) (dg_name (i := 3) sc.nd rfl (by first | exact Or.inl rfl | exact Or.inr rfl) (by decide)))
    (dss_one (ds_for (passes_of rfl) rfl (di_range1 rfl V.n_range (da_cons (de_add false (de_len V.n_len (da_cons (de_var 3) da_nil)) de_int) da_nil)) (DGo.dg (vs := [4]) (dg_name (i := 4) sc.nd rfl (by first | exact Or.inl rfl | exact Or.inr rfl) (by decide)))
    (dss_one (ds_dput hu1 (de_var 2) (de_slice false (de_var 3) do_none (do_some (de_var 4))) de_bl)))))
    (dss_cons (ds_set (i := 5) sc.nd rfl (by first | exact Or.inl rfl | exact Or.inr rfl) (de_lst true da_nil))
    (dss_cons (ds_lockK (ds_for (passes_of rfl) rfl (di_keys (de_var 2)) (DGo.dg (vs := [6]) (dg_name (i := 6) sc.nd rfl (by first | exact Or.inl rfl | exact Or.inr rfl) (by decide)))
    (dss_one (ds_if (dt_cmp op_notInX (lift_in true) (de_var 6) (de_fld (IC := (IC_kept_words A)) (V.ic_kept_words) (de_var 0)) rfl)
    (dss_one (ds_expr (de_bm PySem.F.plainAttrs_list PySem.F.slot_list_extend PySem.F.type_list_extend mt_extend lift_extend (de_var 5) (da_cons (de_lc false rfl sc.nd (di_str (de_slice false (V.q_LETTERS rfl rfl) do_none (do_some (de_var 1)))) (own := [(("sign" : Str), 7)]) (show BlkOk nm_filling (defScope (top 36)) _ _ from blkOk_by (by decide +kernel)) (fun _ _ _ _ _ => (dg_name (i := 7) sc.nd rfl (by first | exact Or.inl rfl | exact Or.inr rfl) (by decide))) (fun _ _ _ _ _ => (dts_one (dt_cmp (op_hasNot hu1) (lift_has true) (de_add false (de_var 6) (de_var 7)) (de_var 2) rfl))) (fun _ _ _ _ _ => (de_add false (de_var 6) (de_var 7)))) da_nil))))
    dss_nil))))
    (dss_one (ds_ret (de_sorted true V.n_sorted (da_cons (de_var 5) da_nil))))))))))
theorem sc__law_long_right : FnScope nm__law_long_right pr__law_long_right (defScope (top 49)) := ⟨rfl, rfl, rfl, by decide +kernel, rfl, by decide +kernel, by decide +kernel⟩
def der__law_long_right (V : Ev w K mg) (F__law_draw : FnOk prog w K mg base (L2.CX prog w) 1 (ad__law_draw K) V.d__law_draw pr__law_draw (spOf K 2 (fs__law_draw V.A))) (F_filling : FnOk prog w K mg base (L2.CX prog w) 2 (ad_filling K) V.d_filling pr_filling (spOf K 2 (fs_filling V.A))) (F_Stock___init__ : FnOk prog w K mg base (L2.CX prog w) 3 (ad_Stock___init__ K) V.d_Stock___init__ pr_Stock___init__ (spOf K 2 (fs_Stock___init__ V.A))) (F_room : FnOk prog w K mg base (L2.CX prog w) 3 (ad_room K) V.d_room pr_room (spOf K 2 (fs_room V.A))) (cdv : Value) (Ar : Around) (outer : List Env) (s : Shared) (H : Hp) (E : XK) (G : Hp) (M : Mem) (kx : KXr) hl (hr : Room 4 (Ar.deeper (envOfC "_law_long_right" (defScope (top 49)) s.heap.objs.size (ad__law_long_right K) cdv))) :
    DSs (Yf prog w K mg base nm__law_long_right "_law_long_right" (defScope (top 49)) (ad__law_long_right K) cdv Ar outer s H E G M kx hl) (defBody (top 49)) (ph__law_long_right V.A kx) := by
  have sc := sc__law_long_right
  have hu : (Ar.deeper (envOfC "_law_long_right" (defScope (top 49)) s.heap.objs.size (ad__law_long_right K) cdv)).units + 64 < cLine := hr.units
  have hu1 : (Ar.deeper (envOfC "_law_long_right" (defScope (top 49)) s.heap.objs.size (ad__law_long_right K) cdv)).units + 1 < cLine := hu_of hr
  let A := V.A
  exact (dss_cons (ds_set (i := 1) sc.nd rfl (by first | exact Or.inl rfl | exact Or.inr rfl) (de_bm PySem.F.plainAttrs_str PySem.F.slot_str_join PySem.F.type_str_join mt_join lift_join (de_str (x := T [])) (da_cons (de_lc false rfl sc.nd (di_range1 rfl V.n_range (da_cons de_int da_nil)) (own := [(("turn" : Str), 2)]) (show BlkOk nm__law_long_right (defScope (top 49)) _ _ from blkOk_by (by decide +kernel)) (fun _ _ _ _ _ => (dg_name (i := 2) sc.nd rfl (by first | exact Or.inl rfl | exact Or.inr rfl) (by decide))) (fun _ _ _ _ _ => dts_nil) (fun _ _ _ _ _ => (de_ix (de_str (x := T [97, 98])) (de_call F__law_draw (hr.mono (by decide)) rfl V.g__law_draw V.F__law_draw.kp V.b__law_draw rfl (da_cons (de_var 0) (da_cons de_int da_nil)))))) da_nil)))
    (dss_cons (ds_set (i := 3) sc.nd rfl (by first | exact Or.inl rfl | exact Or.inr rfl) (de_sorted false V.n_sorted (da_cons (de_lc false rfl sc.nd (di_range1 rfl V.n_range (da_cons de_int da_nil)) (own := [(("at" : Str), 4)]) (show BlkOk nm__law_long_right (defScope (top 49)) _ _ from blkOk_by (by decide +kernel)) (fun _ _ _ _ _ => (dg_name (i := 4) sc.nd rfl (by first | exact Or.inl rfl | exact Or.inr rfl) (by decide))) (fun _ _ _ _ _ => dts_nil) (fun _ _ _ _ _ => (de_add false (de_slice false (de_var 1) do_none (do_some (de_var 4))) (de_dget hu1 (de_disp (dp_cons (de_str (x := T [97])) (de_str (x := T [98])) (dp_cons (de_str (x := T [98])) (de_str (x := T [97])) dp_nil))) (de_ix (de_var 1) (de_var 4)))))) da_nil)))
    (dss_one (ds_ret (de_and (de_cmp (op_eqX hu) (lift_eq false) (de_call F_filling (hr.mono (by decide)) rfl V.g_filling V.F_filling.kp V.b_filling rfl (da_cons (de_make false V.mk_Stock F_Stock___init__ (hr.mono (by decide)) rfl V.g_Stock V.b_Stock___init__ rfl (da_cons (de_lst false (da_cons (de_var 1) da_nil)) da_nil)) (da_cons de_int da_nil))) (de_var 3) rfl) (de_one (de_cmp (op_eqX hu) (lift_eq false) (de_call F_room (hr.mono (by decide)) rfl V.g_room V.F_room.kp V.b_room rfl (da_cons (de_make false V.mk_Stock F_Stock___init__ (hr.mono (by decide)) rfl V.g_Stock V.b_Stock___init__ rfl (da_cons (de_lst false (da_cons (de_var 1) da_nil)) da_nil)) (da_cons de_int da_nil))) (de_tup (da_cons de_int (da_cons de_int da_nil))) rfl)))))))
theorem sc__law_right : FnScope nm__law_right pr__law_right (defScope (top 50)) := ⟨rfl, rfl, rfl, by decide +kernel, rfl, by decide +kernel, by decide +kernel⟩
def der__law_right (V : Ev w K mg) (F__law_draw : FnOk prog w K mg base (L2.CX prog w) 1 (ad__law_draw K) V.d__law_draw pr__law_draw (spOf K 2 (fs__law_draw V.A))) (F__law_small_lot : FnOk prog w K mg base (L2.CX prog w) 3 (ad__law_small_lot K) V.d__law_small_lot pr__law_small_lot (spOf K 3 (fs__law_small_lot V.A))) (F_room : FnOk prog w K mg base (L2.CX prog w) 3 (ad_room K) V.d_room pr_room (spOf K 2 (fs_room V.A))) (F_Stock___init__ : FnOk prog w K mg base (L2.CX prog w) 3 (ad_Stock___init__ K) V.d_Stock___init__ pr_Stock___init__ (spOf K 2 (fs_Stock___init__ V.A))) (F__law_room : FnOk prog w K mg base (L2.CX prog w) 2 (ad__law_room K) V.d__law_room pr__law_room (spOf K 2 (fs__law_room V.A))) (F__law_eased : FnOk prog w K mg base (L2.CX prog w) 2 (ad__law_eased K) V.d__law_eased pr__law_eased (spOf K 1 (fs__law_eased V.A))) (F_is_full : FnOk prog w K mg base (L2.CX prog w) 5 (ad_is_full K) V.d_is_full pr_is_full (spOf K 2 (fs_is_full V.A))) (F__law_apart : FnOk prog w K mg base (L2.CX prog w) 1 (ad__law_apart K) V.d__law_apart pr__law_apart (spOf K 1 (fs__law_apart V.A))) (F__law_filling : FnOk prog w K mg base (L2.CX prog w) 1 (ad__law_filling K) V.d__law_filling pr__law_filling (spOf K 2 (fs__law_filling V.A))) (F_filling : FnOk prog w K mg base (L2.CX prog w) 2 (ad_filling K) V.d_filling pr_filling (spOf K 2 (fs_filling V.A))) (F__law_long_right : FnOk prog w K mg base (L2.CX prog w) 5 (ad__law_long_right K) V.d__law_long_right pr__law_long_right (spOf K 1 (fs__law_long_right V.A))) (cdv : Value) (Ar : Around) (outer : List Env) (s : Shared) (H : Hp) (E : XK) (G : Hp) (M : Mem) (kx : KXr) hl (hr : Room 5 (Ar.deeper (envOfC "_law_right" (defScope (top 50)) s.heap.objs.size (ad__law_right K) cdv))) :
    DSs (Yf prog w K mg base nm__law_right "_law_right" (defScope (top 50)) (ad__law_right K) cdv Ar outer s H E G M kx hl) (defBody (top 50)) (ph__law_right V.A kx) := by
  have sc := sc__law_right
  have hu : (Ar.deeper (envOfC "_law_right" (defScope (top 50)) s.heap.objs.size (ad__law_right K) cdv)).units + 64 < cLine := hr.units
  have hu1 : (Ar.deeper (envOfC "_law_right" (defScope (top 50)) s.heap.objs.size (ad__law_right K) cdv)).units + 1 < cLine := hu_of hr
  let A := V.A
  exact (dss_cons (ds_set (i := 1) sc.nd rfl (by first | exact Or.inl rfl | exact Or.inr rfl) (de_ix (de_lst false (da_cons (de_str (x := T [97, 98])) (da_cons (de_str (x := T [97, 98, 99])) (da_cons (de_str (x := T [97])) da_nil)))) (de_call F__law_draw (hr.mono (by decide)) rfl V.g__law_draw V.F__law_draw.kp V.b__law_draw rfl (da_cons (de_var 0) (da_cons de_int da_nil)))))
    (dss_cons (ds_set (i := 2) sc.nd rfl (by first | exact Or.inl rfl | exact Or.inr rfl) (de_call F__law_small_lot (hr.mono (by decide)) rfl V.g__law_small_lot V.F__law_small_lot.kp V.b__law_small_lot rfl (da_cons (de_var 0) (da_cons (de_var 1) (da_cons de_int da_nil)))))
    (dss_cons (ds_for (passes_of rfl) rfl (di_tup (de_tup (da_cons (de_len V.n_len (da_cons (de_var 1) da_nil)) (da_cons de_int (da_cons de_int da_nil))))) (DGo.dg (vs := [3]) (dg_name (i := 3) sc.nd rfl (by first | exact Or.inl rfl | exact Or.inr rfl) (by decide)))
    (dss_one (ds_if (dt_cmp (op_neX hu) (lift_eq true) (de_callK0 (ks := [("stock" : Str), ("letters" : Str)]) F_room (hr.mono (by decide)) rfl V.g_room V.F_room.kp (V.kb_room_0) rfl (dk_cons (de_make false V.mk_Stock F_Stock___init__ (hr.mono (by decide)) rfl V.g_Stock V.b_Stock___init__ rfl (da_cons (de_var 2) da_nil)) (dk_cons (de_var 3) dk_nil))) (de_call F__law_room (hr.mono (by decide)) rfl V.g__law_room V.F__law_room.kp V.b__law_room rfl (da_cons (de_var 2) (da_cons (de_var 3) da_nil))) rfl)
    (dss_one (ds_ret de_bl))
    dss_nil)))
    (dss_cons (ds_set (i := 4) sc.nd rfl (by first | exact Or.inl rfl | exact Or.inr rfl) (de_call F__law_eased (hr.mono (by decide)) rfl V.g__law_eased V.F__law_eased.kp V.b__law_eased rfl (da_cons (de_var 2) da_nil)))
    (dss_cons (ds_if (dt_cmp (op_neX hu) (lift_eq true) (de_callK0 (ks := [("stock" : Str), ("letters" : Str)]) F_is_full (hr.mono (by decide)) rfl V.g_is_full V.F_is_full.kp (V.kb_is_full_0) rfl (dk_cons (de_make false V.mk_Stock F_Stock___init__ (hr.mono (by decide)) rfl V.g_Stock V.b_Stock___init__ rfl (da_cons (de_var 4) da_nil)) (dk_cons (de_len V.n_len (da_cons (de_var 1) da_nil)) dk_nil))) (de_cmp (op_eqX hu) (lift_eq false) (de_call F__law_room (hr.mono (by decide)) rfl V.g__law_room V.F__law_room.kp V.b__law_room rfl (da_cons (de_var 4) (da_cons (de_len V.n_len (da_cons (de_var 1) da_nil)) da_nil))) (de_tup (da_cons de_int (da_cons de_int da_nil))) rfl) rfl)
    (dss_one (ds_ret de_bl))
    dss_nil)
    (dss_cons (ds_par (i := 5) (j := 3) rfl sc.nd rfl rfl (by decide) rfl rfl (de_call F__law_apart (hr.mono (by decide)) rfl V.g__law_apart V.F__law_apart.kp V.b__law_apart rfl (da_cons (de_var 2) da_nil)) (de_ix (de_lst false (da_cons (de_len V.n_len (da_cons (de_var 1) da_nil)) (da_cons de_int da_nil))) (de_call F__law_draw (hr.mono (by decide)) rfl V.g__law_draw V.F__law_draw.kp V.b__law_draw rfl (da_cons (de_var 0) (da_cons de_int da_nil)))) (by rfl))
    (dss_cons (ds_set (i := 6) sc.nd rfl (by first | exact Or.inl rfl | exact Or.inr rfl) (de_call F__law_filling (hr.mono (by decide)) rfl V.g__law_filling V.F__law_filling.kp V.b__law_filling rfl (da_cons (de_var 5) (da_cons (de_slice false (de_str (x := T [97, 98, 99])) do_none (do_some (de_var 3))) da_nil))))
    (dss_cons (ds_expr (de_bm PySem.F.plainAttrs_list PySem.F.slot_list_append PySem.F.type_list_append mt_append lift_append (de_call F_filling (hr.mono (by decide)) rfl V.g_filling V.F_filling.kp V.b_filling rfl (da_cons (de_make false V.mk_Stock F_Stock___init__ (hr.mono (by decide)) rfl V.g_Stock V.b_Stock___init__ rfl (da_cons (de_var 5) da_nil)) (da_cons (de_var 3) da_nil))) (da_cons (de_str (x := T [113])) da_nil)))
    (dss_cons (ds_if (dt_cmp (op_neX hu) (lift_eq true) (de_callK0 (ks := [("stock" : Str), ("letters" : Str)]) F_filling (hr.mono (by decide)) rfl V.g_filling V.F_filling.kp (V.kb_filling_0) rfl (dk_cons (de_make false V.mk_Stock F_Stock___init__ (hr.mono (by decide)) rfl V.g_Stock V.b_Stock___init__ rfl (da_cons (de_var 5) da_nil)) (dk_cons (de_var 3) dk_nil))) (de_var 6) rfl)
    (dss_one (ds_ret de_bl))
    dss_nil)
    (dss_cons (ds_set (i := 7) sc.nd rfl (by first | exact Or.inl rfl | exact Or.inr rfl) (de_add false (de_var 5) (de_var 6)))
    (dss_cons (ds_if (dt_w (dw_and (dt_cmp (op_lt.or op_lt_str) lift_ord (de_len V.n_len (da_cons (de_var 7) da_nil)) de_int rfl) (dw_and1 (dt_cmp (op_lt.or op_lt_str) lift_ord (de_maxL V.n_max (da_cons (de_lc false rfl sc.nd (di_list (de_var 7)) (own := [(("step" : Str), 8)]) (show BlkOk nm__law_right (defScope (top 50)) _ _ from blkOk_by (by decide +kernel)) (fun _ _ _ _ _ => (dg_name (i := 8) sc.nd rfl (by first | exact Or.inl rfl | exact Or.inr rfl) (by decide))) (fun _ _ _ _ _ => dts_nil) (fun _ _ _ _ _ => (de_len V.n_len (da_cons (de_var 8) da_nil)))) da_nil)) de_int rfl))))
    (dss_one (ds_if (dt_w (dw_or (dt_w (dw_and (dt_cmp (op_neX hu) (lift_eq true) (de_var 6) (de_lst false da_nil) rfl) (dw_and1 (dt_not (dt_truth (de_call F_is_full (hr.mono (by decide)) rfl V.g_is_full V.F_is_full.kp V.b_is_full rfl (da_cons (de_make false V.mk_Stock F_Stock___init__ (hr.mono (by decide)) rfl V.g_Stock V.b_Stock___init__ rfl (da_cons (de_var 7) da_nil)) (da_cons (de_var 3) da_nil)))))))) (dw_or1 (dt_cmp (op_neX hu) (lift_eq true) (de_call F__law_apart (hr.mono (by decide)) rfl V.g__law_apart V.F__law_apart.kp V.b__law_apart rfl (da_cons (de_var 7) da_nil)) (de_var 7) rfl))))
    (dss_one (ds_ret de_bl))
    dss_nil))
    dss_nil)
    (dss_cons (ds_if (dt_w (dw_or (dt_cmp (op_neX hu) (lift_eq true) (de_call F_room (hr.mono (by decide)) rfl V.g_room V.F_room.kp V.b_room rfl (da_cons (de_make false V.mk_Stock F_Stock___init__ (hr.mono (by decide)) rfl V.g_Stock V.b_Stock___init__ rfl (da_cons (de_lst false (da_cons (de_str (x := T [97, 98, 99, 100, 101, 102, 103, 104])) (da_cons (de_str (x := T [122, 122])) da_nil))) da_nil)) (da_cons de_int da_nil))) (de_call F__law_room (hr.mono (by decide)) rfl V.g__law_room V.F__law_room.kp V.b__law_room rfl (da_cons (de_lst false (da_cons (de_str (x := T [97, 98, 99, 100, 101, 102, 103, 104])) (da_cons (de_str (x := T [122, 122])) da_nil))) (da_cons de_int da_nil))) rfl) (dw_or1 (dt_not (dt_truth (de_call F__law_long_right (hr.mono (by decide)) rfl V.g__law_long_right V.F__law_long_right.kp V.b__law_long_right rfl (da_cons (de_var 0) da_nil)))))))
    (dss_one (ds_ret de_bl))
    dss_nil)
    (dss_one (ds_ret (de_and (de_cmp (op_eqX hu) (lift_eq false) (de_call F_filling (hr.mono (by decide)) rfl V.g_filling V.F_filling.kp V.b_filling rfl (da_cons (de_make false V.mk_Stock F_Stock___init__ (hr.mono (by decide)) rfl V.g_Stock V.b_Stock___init__ rfl (da_cons (de_lst false (da_cons (de_str (x := T [98])) (da_cons (de_str (x := T [97])) da_nil))) da_nil)) (da_cons de_int da_nil))) (de_lst false da_nil) rfl) (de_and (de_call F_is_full (hr.mono (by decide)) rfl V.g_is_full V.F_is_full.kp V.b_is_full rfl (da_cons (de_make false V.mk_Stock F_Stock___init__ (hr.mono (by decide)) rfl V.g_Stock V.b_Stock___init__ rfl (da_cons (de_lst false (da_cons (de_str (x := T [97])) da_nil)) da_nil)) (da_cons de_int da_nil))) (de_one (de_cmp (op_eqX hu) (lift_eq false) (de_call F_room (hr.mono (by decide)) rfl V.g_room V.F_room.kp V.b_room rfl (da_cons (de_make false V.mk_Stock F_Stock___init__ (hr.mono (by decide)) rfl V.g_Stock V.b_Stock___init__ rfl (da_cons (de_lst false (da_cons (de_str (x := T [122])) da_nil)) da_nil)) (da_cons de_int da_nil))) (de_tup (da_cons de_int (da_cons de_int da_nil))) rfl))))))))))))))))))
theorem sc_law : FnScope nm_law pr_law (defScope (top 51)) := ⟨rfl, rfl, rfl, by decide +kernel, rfl, by decide +kernel, by decide +kernel⟩
def der_law (V : Ev w K mg) (F_is_full : FnOk prog w K mg base (L2.CX prog w) 5 (ad_is_full K) V.d_is_full pr_is_full (spOf K 2 (fs_is_full V.A))) (F_Stock___init__ : FnOk prog w K mg base (L2.CX prog w) 3 (ad_Stock___init__ K) V.d_Stock___init__ pr_Stock___init__ (spOf K 2 (fs_Stock___init__ V.A))) (F__law_pool : FnOk prog w K mg base (L2.CX prog w) 1 (ad__law_pool K) V.d__law_pool pr__law_pool (spOf K 2 (fs__law_pool V.A))) (F__law_right : FnOk prog w K mg base (L2.CX prog w) 6 (ad__law_right K) V.d__law_right pr__law_right (spOf K 1 (fs__law_right V.A))) (cdv : Value) (Ar : Around) (outer : List Env) (s : Shared) (H : Hp) (E : XK) (G : Hp) (M : Mem) (kx : KXr) hl (hr : Room 6 (Ar.deeper (envOfC "law" (defScope (top 51)) s.heap.objs.size (ad_law K) cdv))) :
    DSs (Yf prog w K mg base nm_law "law" (defScope (top 51)) (ad_law K) cdv Ar outer s H E G M kx hl) (defBody (top 51)) (ph_law V.A kx) := by
  have sc := sc_law
  have hu : (Ar.deeper (envOfC "law" (defScope (top 51)) s.heap.objs.size (ad_law K) cdv)).units + 64 < cLine := hr.units
  have hu1 : (Ar.deeper (envOfC "law" (defScope (top 51)) s.heap.objs.size (ad_law K) cdv)).units + 1 < cLine := hu_of hr
  let A := V.A
  exact (dss_cons (ds_if (dt_w (dw_or (dt_cmp op_notBl lift_notB (de_call F_is_full (hr.mono (by decide)) rfl V.g_is_full V.F_is_full.kp V.b_is_full rfl (da_cons (de_make false V.mk_Stock F_Stock___init__ (hr.mono (by decide)) rfl V.g_Stock V.b_Stock___init__ rfl (da_cons (de_listofT false V.n_list (da_cons (de_str (x := T [104, 103, 102, 101, 100, 99, 98, 97])) da_nil)) da_nil)) (da_cons de_int da_nil))) de_bl rfl) (dw_or1 (dt_cmp op_notBl lift_notB (de_call F_is_full (hr.mono (by decide)) rfl V.g_is_full V.F_is_full.kp V.b_is_full rfl (da_cons (de_make false V.mk_Stock F_Stock___init__ (hr.mono (by decide)) rfl V.g_Stock V.b_Stock___init__ rfl (da_cons (de_listofT false V.n_list (da_cons (de_str (x := T [97, 98, 99, 100, 101, 102, 103, 104])) da_nil)) da_nil)) (da_cons de_int da_nil))) de_bl rfl))))
    (dss_one (ds_ret de_bl))
    dss_nil)
    (dss_cons (ds_for (passes_of rfl) rfl (di_range1 rfl V.n_range (da_cons (de_max2 V.n_max (da_cons de_int (da_cons (de_min2 V.n_min (da_cons de_int (da_cons (de_len V.n_len (da_cons (de_var 0) da_nil)) da_nil))) da_nil))) da_nil)) (DGo.dg (vs := [1]) (dg_name (i := 1) sc.nd rfl (by first | exact Or.inl rfl | exact Or.inr rfl) (by decide)))
    (dss_cons (ds_set (i := 2) sc.nd rfl (by first | exact Or.inl rfl | exact Or.inr rfl) (de_call F__law_pool (hr.mono (by decide)) rfl V.g__law_pool V.F__law_pool.kp V.b__law_pool rfl (da_cons (de_var 0) (da_cons (de_var 1) da_nil))))
    (dss_one (ds_for (passes_of rfl) rfl (di_range1 rfl V.n_range (da_cons de_int da_nil)) (DGo.dg (vs := [3]) (dg_name (i := 3) sc.nd rfl (by first | exact Or.inl rfl | exact Or.inr rfl) (by decide)))
    (dss_one (ds_if (dt_not (dt_truth (de_call F__law_right (hr.mono (by decide)) rfl V.g__law_right V.F__law_right.kp V.b__law_right rfl (da_cons (de_var 2) da_nil))))
    (dss_one (ds_ret de_bl))
    dss_nil))))))
    (dss_one (ds_ret de_bl))))
end Lw
end
noncomputable section
namespace Lw
open PySem PySem.Spec PyProof.Rows L2 Evl Dl
section
variable {w : World} {K : PySem.W.Frag} {mg : Str → Option Value} {base : Heap}
theorem ok_check_letters (V : Ev w K mg) : FnOk prog w K mg base (L2.CX prog w) 1 (ad_check_letters K) V.d_check_letters pr_check_letters (spOf K 2 (fs_check_letters V.A)) :=
  fn_ok V.F_check_letters sc_check_letters rfl (fun cdv Ar outer s H E G M kx hl hr => der_check_letters V  cdv Ar outer s H E G M kx hl hr) (dat_check_letters V.A)
theorem ok_starts_of (V : Ev w K mg) : FnOk prog w K mg base (L2.CX prog w) 1 (ad_starts_of K) V.d_starts_of pr_starts_of (spOf K 1 (fs_starts_of V.A)) :=
  fn_ok V.F_starts_of sc_starts_of rfl (fun cdv Ar outer s H E G M kx hl hr => der_starts_of V  cdv Ar outer s H E G M kx hl hr) (dat_starts_of V.A)
theorem ok_steps_of (V : Ev w K mg) : FnOk prog w K mg base (L2.CX prog w) 1 (ad_steps_of K) V.d_steps_of pr_steps_of (spOf K 2 (fs_steps_of V.A)) :=
  fn_ok V.F_steps_of sc_steps_of rfl (fun cdv Ar outer s H E G M kx hl hr => der_steps_of V  cdv Ar outer s H E G M kx hl hr) (dat_steps_of V.A)
theorem ok_rests_from (V : Ev w K mg) : FnOk prog w K mg base (L2.CX prog w) 2 (ad_rests_from K) V.d_rests_from pr_rests_from (spOf K 1 (fs_rests_from V.A)) :=
  fn_ok V.F_rests_from sc_rests_from rfl (fun cdv Ar outer s H E G M kx hl hr => der_rests_from V (ok_starts_of V) (ok_steps_of V) cdv Ar outer s H E G M kx hl hr) (dat_rests_from V.A)
theorem ok_is_one_way (V : Ev w K mg) : FnOk prog w K mg base (L2.CX prog w) 3 (ad_is_one_way K) V.d_is_one_way pr_is_one_way (spOf K 1 (fs_is_one_way V.A)) :=
  fn_ok V.F_is_one_way sc_is_one_way rfl (fun cdv Ar outer s H E G M kx hl hr => der_is_one_way V (ok_rests_from V) cdv Ar outer s H E G M kx hl hr) (dat_is_one_way V.A)
theorem ok_check_one_way (V : Ev w K mg) : FnOk prog w K mg base (L2.CX prog w) 4 (ad_check_one_way K) V.d_check_one_way pr_check_one_way (spOf K 1 (fs_check_one_way V.A)) :=
  fn_ok V.F_check_one_way sc_check_one_way rfl (fun cdv Ar outer s H E G M kx hl hr => der_check_one_way V (ok_is_one_way V) cdv Ar outer s H E G M kx hl hr) (dat_check_one_way V.A)
theorem ok_power_of (V : Ev w K mg) : FnOk prog w K mg base (L2.CX prog w) 1 (ad_power_of K) V.d_power_of pr_power_of (spOf K 2 (fs_power_of V.A)) :=
  fn_ok V.F_power_of sc_power_of rfl (fun cdv Ar outer s H E G M kx hl hr => der_power_of V  cdv Ar outer s H E G M kx hl hr) (dat_power_of V.A)
theorem ok_lowest (V : Ev w K mg) : FnOk prog w K mg base (L2.CX prog w) 1 (ad_lowest K) V.d_lowest pr_lowest (spOf K 2 (fs_lowest V.A)) :=
  fn_ok V.F_lowest sc_lowest rfl (fun cdv Ar outer s H E G M kx hl hr => der_lowest V  cdv Ar outer s H E G M kx hl hr) (dat_lowest V.A)
theorem ok_room_of (V : Ev w K mg) : FnOk prog w K mg base (L2.CX prog w) 2 (ad_room_of K) V.d_room_of pr_room_of (spOf K 2 (fs_room_of V.A)) :=
  fn_ok V.F_room_of sc_room_of rfl (fun cdv Ar outer s H E G M kx hl hr => der_room_of V (ok_power_of V) (ok_lowest V) cdv Ar outer s H E G M kx hl hr) (dat_room_of V.A)
theorem ok_is_full (V : Ev w K mg) : FnOk prog w K mg base (L2.CX prog w) 5 (ad_is_full K) V.d_is_full pr_is_full (spOf K 2 (fs_is_full V.A)) :=
  fn_ok V.F_is_full sc_is_full rfl (fun cdv Ar outer s H E G M kx hl hr => der_is_full V (ok_check_letters V) (ok_check_one_way V) (ok_room_of V) cdv Ar outer s H E G M kx hl hr) (dat_is_full V.A)
theorem ok_is_row (V : Ev w K mg) : FnOk prog w K mg base (L2.CX prog w) 1 (ad_is_row K) V.d_is_row pr_is_row (spOf K 1 (fs_is_row V.A)) :=
  fn_ok V.F_is_row sc_is_row rfl (fun cdv Ar outer s H E G M kx hl hr => der_is_row V  cdv Ar outer s H E G M kx hl hr) (dat_is_row V.A)
theorem ok_check_words (V : Ev w K mg) : FnOk prog w K mg base (L2.CX prog w) 2 (ad_check_words K) V.d_check_words pr_check_words (spOf K 1 (fs_check_words V.A)) :=
  fn_ok V.F_check_words sc_check_words rfl (fun cdv Ar outer s H E G M kx hl hr => der_check_words V (ok_is_row V) cdv Ar outer s H E G M kx hl hr) (dat_check_words V.A)
theorem ok_Stock___init__ (V : Ev w K mg) : FnOk prog w K mg base (L2.CX prog w) 3 (ad_Stock___init__ K) V.d_Stock___init__ pr_Stock___init__ (spOf K 2 (fs_Stock___init__ V.A)) :=
  fn_ok V.F_Stock___init__ sc_Stock___init__ rfl (fun cdv Ar outer s H E G M kx hl hr => der_Stock___init__ V (ok_check_words V) cdv Ar outer s H E G M kx hl hr) (dat_Stock___init__ V.A)
theorem ok__law_pool (V : Ev w K mg) : FnOk prog w K mg base (L2.CX prog w) 1 (ad__law_pool K) V.d__law_pool pr__law_pool (spOf K 2 (fs__law_pool V.A)) :=
  fn_ok V.F__law_pool sc__law_pool rfl (fun cdv Ar outer s H E G M kx hl hr => der__law_pool V  cdv Ar outer s H E G M kx hl hr) (dat__law_pool V.A)
theorem ok__law_draw (V : Ev w K mg) : FnOk prog w K mg base (L2.CX prog w) 1 (ad__law_draw K) V.d__law_draw pr__law_draw (spOf K 2 (fs__law_draw V.A)) :=
  fn_ok V.F__law_draw sc__law_draw rfl (fun cdv Ar outer s H E G M kx hl hr => der__law_draw V  cdv Ar outer s H E G M kx hl hr) (dat__law_draw V.A)
theorem ok__law_word (V : Ev w K mg) : FnOk prog w K mg base (L2.CX prog w) 2 (ad__law_word K) V.d__law_word pr__law_word (spOf K 3 (fs__law_word V.A)) :=
  fn_ok V.F__law_word sc__law_word rfl (fun cdv Ar outer s H E G M kx hl hr => der__law_word V (ok__law_draw V) cdv Ar outer s H E G M kx hl hr) (dat__law_word V.A)
theorem ok__law_small_lot (V : Ev w K mg) : FnOk prog w K mg base (L2.CX prog w) 3 (ad__law_small_lot K) V.d__law_small_lot pr__law_small_lot (spOf K 3 (fs__law_small_lot V.A)) :=
  fn_ok V.F__law_small_lot sc__law_small_lot rfl (fun cdv Ar outer s H E G M kx hl hr => der__law_small_lot V (ok__law_draw V) (ok__law_word V) cdv Ar outer s H E G M kx hl hr) (dat__law_small_lot V.A)
theorem ok_room (V : Ev w K mg) : FnOk prog w K mg base (L2.CX prog w) 3 (ad_room K) V.d_room pr_room (spOf K 2 (fs_room V.A)) :=
  fn_ok V.F_room sc_room rfl (fun cdv Ar outer s H E G M kx hl hr => der_room V (ok_check_letters V) (ok_room_of V) cdv Ar outer s H E G M kx hl hr) (dat_room V.A)
theorem ok__law_power (V : Ev w K mg) : FnOk prog w K mg base (L2.CX prog w) 1 (ad__law_power K) V.d__law_power pr__law_power (spOf K 2 (fs__law_power V.A)) :=
  fn_ok V.F__law_power sc__law_power rfl (fun cdv Ar outer s H E G M kx hl hr => der__law_power V  cdv Ar outer s H E G M kx hl hr) (dat__law_power V.A)
theorem ok__law_low (V : Ev w K mg) : FnOk prog w K mg base (L2.CX prog w) 1 (ad__law_low K) V.d__law_low pr__law_low (spOf K 2 (fs__law_low V.A)) :=
  fn_ok V.F__law_low sc__law_low rfl (fun cdv Ar outer s H E G M kx hl hr => der__law_low V  cdv Ar outer s H E G M kx hl hr) (dat__law_low V.A)
theorem ok__law_room (V : Ev w K mg) : FnOk prog w K mg base (L2.CX prog w) 2 (ad__law_room K) V.d__law_room pr__law_room (spOf K 2 (fs__law_room V.A)) :=
  fn_ok V.F__law_room sc__law_room rfl (fun cdv Ar outer s H E G M kx hl hr => der__law_room V (ok__law_power V) (ok__law_low V) cdv Ar outer s H E G M kx hl hr) (dat__law_room V.A)
theorem ok__law_rests (V : Ev w K mg) : FnOk prog w K mg base (L2.CX prog w) 1 (ad__law_rests K) V.d__law_rests pr__law_rests (spOf K 1 (fs__law_rests V.A)) :=
  fn_ok V.F__law_rests sc__law_rests rfl (fun cdv Ar outer s H E G M kx hl hr => der__law_rests V  cdv Ar outer s H E G M kx hl hr) (dat__law_rests V.A)
theorem ok__law_eased (V : Ev w K mg) : FnOk prog w K mg base (L2.CX prog w) 2 (ad__law_eased K) V.d__law_eased pr__law_eased (spOf K 1 (fs__law_eased V.A)) :=
  fn_ok V.F__law_eased sc__law_eased rfl (fun cdv Ar outer s H E G M kx hl hr => der__law_eased V (ok__law_rests V) cdv Ar outer s H E G M kx hl hr) (dat__law_eased V.A)
theorem ok__law_apart (V : Ev w K mg) : FnOk prog w K mg base (L2.CX prog w) 1 (ad__law_apart K) V.d__law_apart pr__law_apart (spOf K 1 (fs__law_apart V.A)) :=
  fn_ok V.F__law_apart sc__law_apart rfl (fun cdv Ar outer s H E G M kx hl hr => der__law_apart V  cdv Ar outer s H E G M kx hl hr) (dat__law_apart V.A)
theorem ok__law_filling (V : Ev w K mg) : FnOk prog w K mg base (L2.CX prog w) 1 (ad__law_filling K) V.d__law_filling pr__law_filling (spOf K 2 (fs__law_filling V.A)) :=
  fn_ok V.F__law_filling sc__law_filling rfl (fun cdv Ar outer s H E G M kx hl hr => der__law_filling V  cdv Ar outer s H E G M kx hl hr) (dat__law_filling V.A)
theorem ok_check_apart (V : Ev w K mg) : FnOk prog w K mg base (L2.CX prog w) 1 (ad_check_apart K) V.d_check_apart pr_check_apart (spOf K 1 (fs_check_apart V.A)) :=
  fn_ok V.F_check_apart sc_check_apart rfl (fun cdv Ar outer s H E G M kx hl hr => der_check_apart V  cdv Ar outer s H E G M kx hl hr) (dat_check_apart V.A)
theorem ok_filling (V : Ev w K mg) : FnOk prog w K mg base (L2.CX prog w) 2 (ad_filling K) V.d_filling pr_filling (spOf K 2 (fs_filling V.A)) :=
  fn_ok V.F_filling sc_filling rfl (fun cdv Ar outer s H E G M kx hl hr => der_filling V (ok_check_letters V) (ok_check_apart V) cdv Ar outer s H E G M kx hl hr) (dat_filling V.A)
theorem ok__law_long_right (V : Ev w K mg) : FnOk prog w K mg base (L2.CX prog w) 5 (ad__law_long_right K) V.d__law_long_right pr__law_long_right (spOf K 1 (fs__law_long_right V.A)) :=
  fn_ok V.F__law_long_right sc__law_long_right rfl (fun cdv Ar outer s H E G M kx hl hr => der__law_long_right V (ok__law_draw V) (ok_filling V) (ok_Stock___init__ V) (ok_room V) cdv Ar outer s H E G M kx hl hr) (dat__law_long_right V.A)
theorem ok__law_right (V : Ev w K mg) : FnOk prog w K mg base (L2.CX prog w) 6 (ad__law_right K) V.d__law_right pr__law_right (spOf K 1 (fs__law_right V.A)) :=
  fn_ok V.F__law_right sc__law_right rfl (fun cdv Ar outer s H E G M kx hl hr => der__law_right V (ok__law_draw V) (ok__law_small_lot V) (ok_room V) (ok_Stock___init__ V) (ok__law_room V) (ok__law_eased V) (ok_is_full V) (ok__law_apart V) (ok__law_filling V) (ok_filling V) (ok__law_long_right V) cdv Ar outer s H E G M kx hl hr) (dat__law_right V.A)
theorem ok_law (V : Ev w K mg) : FnOk prog w K mg base (L2.CX prog w) 7 (ad_law K) V.d_law pr_law (spOf K 1 (fs_law V.A)) :=
  fn_ok V.F_law sc_law rfl (fun cdv Ar outer s H E G M kx hl hr => der_law V (ok_is_full V) (ok_Stock___init__ V) (ok__law_pool V) (ok__law_right V) cdv Ar outer s H E G M kx hl hr) (dat_law V.A)
end
end Lw
end
noncomputable section
namespace Lw
open PySem PySem.Spec PyProof.Rows L2 Evl Dl
abbrev R : PySem.W.OpenRow := PySem.W.OpenLaw.row RWL
abbrev hk : PySem.W.Hook := He.hookD 5 fa_ fn_
def ob (s : PySem.W.SharedT) : He.AlD := He.obsDG 5 fa_ fn_ (HandSHeadRun.getT s)
theorem ob_eq (s : PySem.W.SharedT) : ob s = hk.obs s.abs := He.obsDG_eq (HandSHeadRun.getT_eq s)
def loose_ : List Str := [("WordError" : Str), ("InvalidWord" : Str), ("InvalidNumber" : Str), ("InvalidText" : Str), ("NotOneWay" : Str), ("NotApart" : Str), ("LETTERS" : Str), ("MOST_LETTERS" : Str), ("MOST_WORDS" : Str), ("is_row" : Str), ("check_words" : Str), ("check_text" : Str), ("Stock" : Str), ("ways_behind" : Str), ("steps_from" : Str), ("nth_reading" : Str), ("starts_of" : Str), ("steps_of" : Str), ("rests_from" : Str), ("is_one_way" : Str), ("least_text" : Str), ("two_readings" : Str), ("check_one_way" : Str), ("check_letters" : Str), ("power_of" : Str), ("lowest" : Str), ("room_of" : Str), ("room" : Str), ("is_full" : Str), ("check_apart" : Str), ("filling" : Str), ("_law_pool" : Str), ("_law_draw" : Str), ("_law_word" : Str), ("_law_rests" : Str), ("_law_eased" : Str), ("_law_low" : Str), ("_law_power" : Str), ("_law_room" : Str), ("_law_small_lot" : Str), ("_law_apart" : Str), ("_law_filling" : Str), ("_law_long_right" : Str), ("_law_right" : Str)]
theorem run (w : World) : HandSHeadRun.RunEq R (PySem.W.view R.prog [51]) hk ob 4000 loose_ w := by
  intro os
  kernel_rfl
theorem law_sp (A : Ad) {K : PySem.W.Frag} (H : Hp) (a : Addr) (ns : List Int) (hl : ns.length ≤ 63) (hS : SqL K H a (ns.map V.int)) : spOf K 1 (fs_law A) [.ref a] H (fun v _ => v = .bl true) fun _ _ _ => False := by
  refine ⟨rfl, H, fun _ => none, [.scr ns], fun d _ => d = .bl true, fun _ _ _ => False, ⟨Ex.refl _, fun a mo e => by cases e⟩, .cons (.scr hS) .nil, ⟨ns, rfl, hl, rfl⟩, ?_, ?_⟩
  · intro d M' G' H' v _ _ r e
    subst e
    cases r
    rfl
  · intro C d M' G' H' dx v _ _ _ _ h
    exact h.elim
end Lw
end
open PySem PySem.W PySem.Calls PyProof.Rows
theorem PySem.Challenge.cw_wordhulls_k61_room_and_fillings_holds : PySem.Challenge.rw_wordhulls_k61_room_and_fillings.Holds := by
  w_on; o_law
  refine HandSHeadRun.head_any (r := OpenLaw.row PySem.Challenge.rw_wordhulls_k61_room_and_fillings) (q := view (OpenLaw.row PySem.Challenge.rw_wordhulls_k61_room_and_fillings).prog [51]) (H := Lw.hk) (ob := Lw.ob) (M := 4000) (loose := Lw.loose_) (d := HandSHeadRun.topDef (OpenLaw.row PySem.Challenge.rw_wordhulls_k61_room_and_fillings).prog 51) (kwd := []) Lw.ob_eq
    (by kernel_rfl) (fun s => by kernel_rfl) Lw.run (by kernel_rfl) (by kernel_rfl) (by kernel_rfl) (by rfl) (by first | assumption | decide +kernel) (by decide +kernel) ⟨rfl, rfl, rfl, rfl, rfl, by decide +kernel⟩ ?hw ?hc
  case hw => w_witness2
  case hc =>
    refine L2.walk_ofE (l := PySem.Challenge.rw_wordhulls_k61_room_and_fillings) (n := 63) (k := 7) (x := "script") (CX := L2.CX0) rfl (by decide) (by kernel_rfl) ⟨rfl, by decide, by decide⟩ ?F (fun _ _ _ _ z => z)
    intro w mg fa h Y G hmg0
    obtain ⟨K, KX, c⟩ := Y
    have hmg : mg ("law" : PySem.Str) = some (.ref fa) := by
      have e : (HandSHeadRun.topDef (OpenLaw.row PySem.Challenge.rw_wordhulls_k61_room_and_fillings).prog 51).name = ("law" : PySem.Str) := by kernel_rfl
      rw [← e]
      exact hmg0
    obtain ⟨V⟩ := Lw.mkEv (w := w) KX G c
    have e := hmg.symm.trans V.g_law
    cases e
    exact ⟨K, V.d_law, fun vs H Q _ => Dl.spOf K 1 (Lw.fs_law V.A) vs H Q fun _ _ _ => False, KX, fun s u => L2.FunD.bindsA (ps := ["script"]) V.F_law (fun _ _ _ _ _ _ us hl => match us, hl with | [_], _ => rfl) s [u] rfl,
      fun H a ns hl _ hS => Lw.law_sp V.A H a ns hl hS, fun base _ _ => Dl.fn_calm (Lw.ok_law V)⟩
