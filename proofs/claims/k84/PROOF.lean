import PyProof.Rows.All
import Wide.All
import OpenK.AllK
import Wide.FinOn
import HandS.ForMost
import HandS.Exc
import HandS.ExcOwn
import HandS.CallSlots
import HandS.Wide
import HandS.TupAny
import HandS.TupMul
import HandS.IsInst
import HandS.Conv
import HandS.Flow
import HandS.FStr
import HandS.SortInts
import HandS.Style
import HandS.WordsExc
import KE.DataMinMax
import KE.LtData
import HandS.WordsDict
import HandS.Walk
import HandS.Zip
import KE.GoesNew
import KE.GoesEnum
import HandS.DictComp
import HandS.SortKw
import HandS.Ends
import HandS.Codes
import PySem.Challenge.RW_movemarks_k84_whole_texts_there_and_back
set_option Elab.async false
set_option linter.all false
set_option maxRecDepth 100000
set_option maxHeartbeats 4000000
/-! Dn1: abstract values and heaps, their relation to the hand layer's, results. -/
namespace Dn
open PySem

/-- a value: tuples by value, mutable things by their place in the abstract heap -/
inductive A where
  | non | bl (b : Bool) | int (i : Int) | str (x : Str) | tup (xs : List A) | rol (xs : List A) | ref (n : Nat) | glo (x : Str) | ty (n : String)
abbrev Key := L2.Key
/-- a mutable thing -/
inductive AO where
  | lst (xs : List A)
  | dK (kvs : List (Key × A))
  | dT (kvs : List (List Key × A))
abbrev Hs := List AO
abbrev Sl := List (Option A)
/-- an exception: the name of its class, its one field -/
structure Xn where
  cls : Str
  fld : Option (Str × A)

inductive R (α : Type) where
  | ok (a : α) (h : Hs)
  | ex (x : Xn) (h : Hs)
  | no
def R.bind {α β : Type} (r : R α) (k : α → Hs → R β) : R β := match r with
  | .ok a h => k a h
  | .ex x h => .ex x h
  | .no => .no
abbrev DE := Nat → Sl → Hs → R A
abbrev DT := Nat → Sl → Hs → R Bool
abbrev DA := Nat → Sl → Hs → R (List A)
abbrev DF := Nat → List A → Hs → R A
inductive RS where
  | nx (s : Sl) (h : Hs)
  | rt (a : A) (h : Hs)
  | bk (s : Sl) (h : Hs)
  | ct (s : Sl) (h : Hs)
  | ex (x : Xn) (s : Sl) (h : Hs)
  | no
abbrev DS := Nat → Sl → Hs → RS
def R.then {α : Type} (r : R α) (s : Sl) (k : α → Hs → RS) : RS := match r with
  | .ok a h => k a h
  | .ex x h => .ex x s h
  | .no => .no
def RS.seq (r : RS) (k : Sl → Hs → RS) : RS := match r with
  | .nx s h => k s h
  | r => r

section rel
variable (K : PySem.W.Frag) (mg : Str → Option Value)
mutual
inductive RV (rho : List Addr) (H : L2.Hp) : A → L2.V → Prop
  | non : RV rho H .non .non
  | bl (b : Bool) : RV rho H (.bl b) (.bl b)
  | int (i : Int) : RV rho H (.int i) (.int i)
  | str (x : Str) : RV rho H (.str x) (.str x)
  | tup {a : Addr} {xs : List A} {vs : List L2.V} : H a = some (.tup vs) → RVs rho H xs vs → RV rho H (.tup xs) (.ref a)
  | rol {a : Addr} {xs : List A} {vs : List L2.V} : ((∃ ob, H a = some (.frz ob (.lst vs)) ∧ a ∉ rho) ∨ L2.SqL K (fun _ => none) a vs) → RVs rho H xs vs → RV rho H (.rol xs) (.ref a)
  | ref {n : Nat} {a : Addr} : rho[n]? = some a → RV rho H (.ref n) (.ref a)
  | glo {x : Str} {u : Value} {v : L2.V} : mg x = some u → L2.RelV v u → RV rho H (.glo x) v
  | ty (n : String) : RV rho H (.ty n) (.ty n)
inductive RVs (rho : List Addr) (H : L2.Hp) : List A → List L2.V → Prop
  | nil : RVs rho H [] []
  | cons {a : A} {v : L2.V} {as : List A} {vs : List L2.V} : RV rho H a v → RVs rho H as vs → RVs rho H (a :: as) (v :: vs)
end
inductive RKV {k : Type} (rho : List Addr) (H : L2.Hp) : List (k × A) → List (k × L2.V) → Prop
  | nil : RKV rho H [] []
  | cons {x : k} {a : A} {v : L2.V} {as : List (k × A)} {vs : List (k × L2.V)} : RV K mg rho H a v → RKV rho H as vs → RKV rho H ((x, a) :: as) ((x, v) :: vs)
inductive RO (rho : List Addr) (H : L2.Hp) : AO → L2.HO → Prop
  | lst {xs : List A} {vs : List L2.V} : RVs K mg rho H xs vs → RO rho H (.lst xs) (.lst vs)
  | dK {xs : List (Key × A)} {vs : List (Key × L2.V)} : RKV K mg rho H xs vs → RO rho H (.dK xs) (.dK vs)
  | dT {xs : List (List Key × A)} {vs : List (List Key × L2.V)} : RKV K mg rho H xs vs → RO rho H (.dT xs) (.dT vs)
/-- the abstract heap h, its things at rho, within H -/
structure HR (rho : List Addr) (H : L2.Hp) (h : Hs) : Prop where
  len : rho.length = h.length
  nd : rho.Nodup
  get : ∀ (i : Nat) (a : Addr) (o : AO), rho[i]? = some a → h[i]? = some o → ∃ u, H a = some u ∧ RO K mg rho H o u
end rel
/-- from (rho, H) to (rho', H'): what is not at rho stands, the new places are new -/
structure Nx (rho : List Addr) (H : L2.Hp) (rho' : List Addr) (H' : L2.Hp) : Prop where
  pre : ∀ (i : Nat) (a : Addr), rho[i]? = some a → rho'[i]? = some a
  keep : ∀ b o, H b = some o → b ∉ rho → H' b = some o
  fresh : ∀ a, a ∈ rho' → a ∉ rho → H a = none
  mem : ∀ a, a ∈ rho → a ∈ rho'

section
variable {K : PySem.W.Frag} {mg : Str → Option Value} {rho rho' rho'' : List Addr} {H H' H'' : L2.Hp} {h h' h'' : Hs}
theorem HR.ex (r : HR K mg rho H h) {a : Addr} (ha : a ∈ rho) : ∃ (i : Nat) (o : AO) (u : L2.HO), rho[i]? = some a ∧ h[i]? = some o ∧ H a = some u ∧ RO K mg rho H o u := by
  obtain ⟨i, hi, e⟩ := List.getElem_of_mem ha
  have e1 : rho[i]? = some a := by rw [List.getElem?_eq_getElem hi, e]
  have hi2 : i < h.length := by have := r.len; omega
  obtain ⟨u, hu, ro⟩ := r.get i a _ e1 (List.getElem?_eq_getElem hi2)
  exact ⟨i, _, u, e1, List.getElem?_eq_getElem hi2, hu, ro⟩
theorem HR.tup_out (r : HR K mg rho H h) {a : Addr} {xs : List L2.V} (e : L2.Rd H a (.tup xs)) : a ∉ rho := fun ha => by
  obtain ⟨i, o, u, _, _, hu, ro⟩ := r.ex ha
  rcases e with e | ⟨ob, e⟩
  · rw [e] at hu; cases hu; cases ro
  · rw [e] at hu; cases hu; cases ro
theorem Nx.refl : Nx rho H rho H := ⟨fun _ _ e => e, fun _ _ e _ => e, fun _ h1 h2 => absurd h1 h2, fun _ h => h⟩
theorem Nx.trans (hr : HR K mg rho' H' h') (a : Nx rho H rho' H') (b : Nx rho' H' rho'' H'') : Nx rho H rho'' H'' := by
  refine ⟨fun i x e => b.pre i x (a.pre i x e), fun x o e n => b.keep x o (a.keep x o e n) fun m => ?_, fun x m n => ?_, fun x m => b.mem x (a.mem x m)⟩
  · have := a.fresh x m n
    rw [e] at this; cases this
  · by_cases m1 : x ∈ rho'
    · exact a.fresh x m1 n
    · have z := b.fresh x m m1
      cases q : H x with
      | none => rfl
      | some o => rw [a.keep x o q n] at z; cases z
theorem Nx.tupl (hr : HR K mg rho H h) (n : Nx rho H rho' H') {a : Addr} {xs : List L2.V} (e : H a = some (.tup xs)) : H' a = some (.tup xs) := n.keep _ _ e (hr.tup_out (.inl e))
theorem Nx.out (n : Nx rho H rho' H') {a : Addr} {u : L2.HO} (e : H a = some u) (o : a ∉ rho) : a ∉ rho' := fun m => by
  have := n.fresh a m o
  rw [e] at this; cases this
/-- what a value's reading leans on -/
structure Stay (rho : List Addr) (H : L2.Hp) (rho' : List Addr) (H' : L2.Hp) : Prop where
  pre : ∀ (i : Nat) (a : Addr), rho[i]? = some a → rho'[i]? = some a
  tups : ∀ a xs, H a = some (.tup xs) → H' a = some (.tup xs)
  frz : ∀ a ob xs, H a = some (.frz ob (.lst xs)) → a ∉ rho → H' a = some (.frz ob (.lst xs)) ∧ a ∉ rho'
theorem Nx.stay (hr : HR K mg rho H h) (n : Nx rho H rho' H') : Stay rho H rho' H' :=
  ⟨n.pre, fun a xs e => n.tupl hr e, fun a ob xs e o => ⟨n.keep _ _ e o, n.out e o⟩⟩
mutual
theorem RV.stay (n : Stay rho H rho' H') : ∀ {a : A} {v : L2.V}, RV K mg rho H a v → RV K mg rho' H' a v
  | _, _, .non => .non
  | _, _, .bl b => .bl b
  | _, _, .int i => .int i
  | _, _, .str x => .str x
  | _, _, .tup e r => .tup (n.tups _ _ e) (RVs.stay n r)
  | _, _, .rol e r => .rol (e.imp (fun ⟨ob, e1, e2⟩ => ⟨ob, n.frz _ _ _ e1 e2⟩) id) (RVs.stay n r)
  | _, _, .ref e => .ref (n.pre _ _ e)
  | _, _, .glo e r => .glo e r
  | _, _, .ty x => .ty x
theorem RVs.stay (n : Stay rho H rho' H') : ∀ {as : List A} {vs : List L2.V}, RVs K mg rho H as vs → RVs K mg rho' H' as vs
  | _, _, .nil => .nil
  | _, _, .cons a b => .cons (RV.stay n a) (RVs.stay n b)
end
theorem RKV.stay {k : Type} (n : Stay rho H rho' H') : ∀ {as : List (k × A)} {vs : List (k × L2.V)}, RKV K mg rho H as vs → RKV K mg rho' H' as vs
  | _, _, .nil => .nil
  | _, _, .cons a b => .cons (RV.stay n a) (RKV.stay n b)
theorem RO.stay (n : Stay rho H rho' H') : ∀ {a : AO} {v : L2.HO}, RO K mg rho H a v → RO K mg rho' H' a v
  | _, _, .lst r => .lst (r.stay n)
  | _, _, .dK r => .dK (r.stay n)
  | _, _, .dT r => .dT (r.stay n)
theorem RV.mono (hr : HR K mg rho H h) (n : Nx rho H rho' H') {a : A} {v : L2.V} (r : RV K mg rho H a v) : RV K mg rho' H' a v := r.stay (n.stay hr)
theorem RVs.mono (hr : HR K mg rho H h) (n : Nx rho H rho' H') {as : List A} {vs : List L2.V} (r : RVs K mg rho H as vs) : RVs K mg rho' H' as vs := r.stay (n.stay hr)
theorem RKV.mono {k : Type} (hr : HR K mg rho H h) (n : Nx rho H rho' H') {as : List (k × A)} {vs : List (k × L2.V)} (r : RKV K mg rho H as vs) : RKV K mg rho' H' as vs := r.stay (n.stay hr)
theorem RO.mono (hr : HR K mg rho H h) (n : Nx rho H rho' H') {a : AO} {v : L2.HO} (r : RO K mg rho H a v) : RO K mg rho' H' a v := r.stay (n.stay hr)
/-- a read-only list is a list -/
theorem rol_sq {a : Addr} {vs : List L2.V} (e : (∃ ob, H a = some (.frz ob (.lst vs)) ∧ a ∉ rho) ∨ L2.SqL K (fun _ => none) a vs) : L2.SqL K H a vs := by
  rcases e with ⟨ob, e, _⟩ | e
  · exact .inl (.inr ⟨ob, e⟩)
  · rcases e with (e | ⟨_, e⟩) | e
    · cases e
    · cases e
    · exact .inr e
theorem RVs.length : ∀ {as : List A} {vs : List L2.V}, RVs K mg rho H as vs → as.length = vs.length
  | _, _, .nil => rfl
  | _, _, .cons _ b => by rw [List.length_cons, List.length_cons, RVs.length b]
theorem RVs.get : ∀ {as : List A} {vs : List L2.V}, RVs K mg rho H as vs → ∀ {i : Nat} {a : A}, as[i]? = some a → ∃ v, vs[i]? = some v ∧ RV K mg rho H a v
  | _, _, .nil, _, _, e => by simp at e
  | _, _, .cons r _, 0, _, e => by simp at e; subst e; exact ⟨_, rfl, r⟩
  | _, _, .cons _ t, i + 1, a, e => by
    obtain ⟨v, h1, h2⟩ := RVs.get t (i := i) (a := a) (by simpa using e)
    exact ⟨v, by simpa using h1, h2⟩
theorem RVs.set {a : A} {v : L2.V} (r : RV K mg rho H a v) : ∀ {as : List A} {vs : List L2.V} (i : Nat), RVs K mg rho H as vs → RVs K mg rho H (as.set i a) (vs.set i v)
  | _, _, _, .nil => .nil
  | _, _, 0, .cons _ t => .cons r t
  | _, _, i + 1, .cons q t => .cons q (RVs.set r i t)
theorem RVs.append : ∀ {as bs : List A} {vs us : List L2.V}, RVs K mg rho H as vs → RVs K mg rho H bs us → RVs K mg rho H (as ++ bs) (vs ++ us)
  | _, _, _, _, .nil, s => s
  | _, _, _, _, .cons r t, s => .cons r (RVs.append t s)
theorem RVs.take : ∀ {as : List A} {vs : List L2.V} (n : Nat), RVs K mg rho H as vs → RVs K mg rho H (as.take n) (vs.take n)
  | _, _, 0, _ => by rw [List.take_zero, List.take_zero]; exact .nil
  | _, _, _ + 1, .nil => .nil
  | _, _, n + 1, .cons r t => .cons r (RVs.take n t)
theorem RVs.drop : ∀ {as : List A} {vs : List L2.V} (n : Nat), RVs K mg rho H as vs → RVs K mg rho H (as.drop n) (vs.drop n)
  | _, _, 0, r => r
  | _, _, _ + 1, .nil => .nil
  | _, _, n + 1, .cons _ t => RVs.drop n t
theorem RVs.erase : ∀ {as : List A} {vs : List L2.V} (n : Nat), RVs K mg rho H as vs → RVs K mg rho H (as.eraseIdx n) (vs.eraseIdx n)
  | _, _, _, .nil => .nil
  | _, _, 0, .cons _ t => t
  | _, _, n + 1, .cons r t => .cons r (RVs.erase n t)
theorem RVs.none_of {as : List A} {vs : List L2.V} (r : RVs K mg rho H as vs) {i : Nat} (e : as[i]? = none) : vs[i]? = none := by
  have h1 := r.length
  have h2 : as.length ≤ i := List.getElem?_eq_none_iff.mp e
  exact List.getElem?_eq_none_iff.mpr (by omega)
theorem RVs.ints : ∀ (ns : List Int), RVs K mg rho H (ns.map A.int) (ns.map L2.V.int)
  | [] => .nil
  | n :: ns => .cons (.int n) (RVs.ints ns)

/-! ### new things, changed things -/
/-- a new tuple -/
theorem HR.tup (hr : HR K mg rho H h) {p : Addr} {u : L2.HO} (hp : H p = none) : Nx rho H rho (L2.upd H p u) ∧ HR K mg rho (L2.upd H p u) h := by
  have n : Nx rho H rho (L2.upd H p u) := ⟨fun _ _ e => e, fun b o e _ => by rw [L2.upd_ne (L2.ne_of_none e hp)]; exact e, fun _ h1 h2 => absurd h1 h2, fun _ h => h⟩
  refine ⟨n, hr.len, hr.nd, fun i a o e1 e2 => ?_⟩
  obtain ⟨w, hw, r⟩ := hr.get i a o e1 e2
  exact ⟨w, by rw [L2.upd_ne (L2.ne_of_none hw hp)]; exact hw, r.mono hr n⟩
/-- a new mutable thing -/
theorem HR.new (hr : HR K mg rho H h) {p : Addr} {u : L2.HO} {o : AO} (hp : H p = none) (ro : RO K mg rho H o u) :
    Nx rho H (rho ++ [p]) (L2.upd H p u) ∧ HR K mg (rho ++ [p]) (L2.upd H p u) (h ++ [o]) := by
  have np : p ∉ rho := fun m => by
    obtain ⟨_, _, w, _, _, hw, _⟩ := hr.ex m
    rw [hp] at hw; cases hw
  have n : Nx rho H (rho ++ [p]) (L2.upd H p u) := by
    refine ⟨fun i a e => ?_, fun b o e _ => by rw [L2.upd_ne (L2.ne_of_none e hp)]; exact e, fun a h1 h2 => ?_, fun a m => List.mem_append_left _ m⟩
    · rw [List.getElem?_append_left (List.getElem?_eq_some_iff.mp e).1]; exact e
    · rcases List.mem_append.mp h1 with z | z
      · exact absurd z h2
      · have : a = p := by simpa using z
        rw [this]; exact hp
  refine ⟨n, by rw [List.length_append, List.length_append, hr.len]; rfl, ?_, fun i a o' e1 e2 => ?_⟩
  · rw [List.nodup_append]
    refine ⟨hr.nd, List.pairwise_singleton _ _, fun a ha b hb e => ?_⟩
    have : b = p := by simpa using hb
    exact np (by rw [← this, ← e]; exact ha)
  · by_cases hi : i < rho.length
    · rw [List.getElem?_append_left hi] at e1
      rw [List.getElem?_append_left (by rw [← hr.len]; exact hi)] at e2
      obtain ⟨w, hw, r⟩ := hr.get i a o' e1 e2
      exact ⟨w, by rw [L2.upd_ne (L2.ne_of_none hw hp)]; exact hw, r.mono hr n⟩
    · have hl := (List.getElem?_eq_some_iff.mp e1).1
      rw [List.length_append, List.length_singleton] at hl
      have hi' : i = rho.length := by omega
      subst hi'
      rw [List.getElem?_append_right (Nat.le_refl _), Nat.sub_self] at e1
      have ea : p = a := by simpa using e1
      subst ea
      rw [hr.len, List.getElem?_append_right (Nat.le_refl _), Nat.sub_self] at e2
      have eo : o = o' := by simpa using e2
      subst eo
      exact ⟨u, L2.upd_same, ro.mono hr n⟩
/-- the thing at i changed -/
theorem HR.set (hr : HR K mg rho H h) {i : Nat} {p : Addr} {u : L2.HO} {o : AO} (hi : rho[i]? = some p) (ro : RO K mg rho H o u) :
    Nx rho H rho (L2.upd H p u) ∧ HR K mg rho (L2.upd H p u) (h.set i o) := by
  have mp : p ∈ rho := List.mem_of_getElem? hi
  have n : Nx rho H rho (L2.upd H p u) := ⟨fun _ _ e => e, fun b o e nb => by rw [L2.upd_ne (fun z => nb (by rw [z]; exact mp))]; exact e, fun _ h1 h2 => absurd h1 h2, fun _ h => h⟩
  refine ⟨n, by rw [List.length_set]; exact hr.len, hr.nd, fun j a o' e1 e2 => ?_⟩
  by_cases hj : j = i
  · subst hj
    rw [hi] at e1
    have ea : p = a := by simpa using e1
    subst ea
    have hl : j < h.length := by have := (List.getElem?_eq_some_iff.mp hi).1; have := hr.len; omega
    rw [List.getElem?_set_self hl] at e2
    have eo : o = o' := by simpa using e2
    subst eo
    exact ⟨u, L2.upd_same, ro.mono hr n⟩
  · rw [List.getElem?_set_ne (Ne.symm hj)] at e2
    obtain ⟨w, hw, r⟩ := hr.get j a o' e1 e2
    refine ⟨w, ?_, r.mono hr n⟩
    rw [L2.upd_ne]
    · exact hw
    · intro z
      subst z
      exact hj (by
        obtain ⟨l1, q1⟩ := List.getElem?_eq_some_iff.mp e1
        obtain ⟨l2, q2⟩ := List.getElem?_eq_some_iff.mp hi
        exact (List.getElem_inj hr.nd).mp (q1.trans q2.symm))
/-- a list beside the heap (a comprehension's own) is taken into it -/
theorem HR.adopt (hr : HR K mg rho H h) {D : Addr} {xs : List A} {vs : List L2.V} (hD : D ∉ rho) (e : H D = some (.lst vs)) (r : RVs K mg rho H xs vs) : HR K mg (rho ++ [D]) H (h ++ [.lst xs]) := by
  have st : Stay rho H (rho ++ [D]) H := by
    refine ⟨fun i a q => ?_, fun _ _ q => q, fun a ob xs q o => ⟨q, fun m => ?_⟩⟩
    · rw [List.getElem?_append_left (List.getElem?_eq_some_iff.mp q).1]; exact q
    · rcases List.mem_append.mp m with z | z
      · exact o z
      · have : a = D := by simpa using z
        rw [this, e] at q; cases q
  refine ⟨by rw [List.length_append, List.length_append, hr.len]; rfl, ?_, fun i a o e1 e2 => ?_⟩
  · rw [List.nodup_append]
    refine ⟨hr.nd, List.pairwise_singleton _ _, fun a ha b hb q => ?_⟩
    have : b = D := by simpa using hb
    exact hD (by rw [← this, ← q]; exact ha)
  · by_cases hi : i < rho.length
    · rw [List.getElem?_append_left hi] at e1
      rw [List.getElem?_append_left (by rw [← hr.len]; exact hi)] at e2
      obtain ⟨w, hw, r⟩ := hr.get i a o e1 e2
      exact ⟨w, hw, r.stay st⟩
    · have hl := (List.getElem?_eq_some_iff.mp e1).1
      rw [List.length_append, List.length_singleton] at hl
      have hi' : i = rho.length := by omega
      subst hi'
      rw [List.getElem?_append_right (Nat.le_refl _), Nat.sub_self] at e1
      have ea : D = a := by simpa using e1
      subst ea
      rw [hr.len, List.getElem?_append_right (Nat.le_refl _), Nat.sub_self] at e2
      have eo : AO.lst xs = o := by simpa using e2
      subst eo
      exact ⟨_, e, .lst (r.stay st)⟩
/-- .. is changed -/
theorem HR.side (hr : HR K mg rho H h) {D : Addr} {vs us : List L2.V} (hD : D ∉ rho) (e : H D = some (.lst vs)) : Stay rho H rho (L2.upd H D (.lst us)) ∧ HR K mg rho (L2.upd H D (.lst us)) h := by
  have st : Stay rho H rho (L2.upd H D (.lst us)) := by
    refine ⟨fun _ _ q => q, fun a xs q => ?_, fun a ob xs q o => ⟨?_, o⟩⟩
    · rw [L2.upd_ne (fun z => by rw [z, e] at q; cases q)]; exact q
    · rw [L2.upd_ne (fun z => by rw [z, e] at q; cases q)]; exact q
  refine ⟨st, hr.len, hr.nd, fun i a o e1 e2 => ?_⟩
  obtain ⟨w, hw, r⟩ := hr.get i a o e1 e2
  exact ⟨w, by rw [L2.upd_ne (fun z => hD (by rw [← z]; exact List.mem_of_getElem? e1))]; exact hw, r.stay st⟩
end
end Dn

set_option maxHeartbeats 4000000
/-! Dn2: what follows a result; the judgements; names, constants, argument lists, blocks, small statements. -/
namespace Dn
open PySem
open L2 (PE PT PA PS PSs PG PGs PI Cx WX Takes HO Hp VK)

section
variable (K : PySem.W.Frag) (mg : Str → Option Value)
/-- the slots s, read off the hand layer's -/
structure SlR (rho : List Addr) (H : Hp) (s : Sl) (sg : L2.St) : Prop where
  len : s.length = sg.length
  get : ∀ (i : Nat) (a : A), s[i]? = some (some a) → ∃ v, sg[i]? = some (some v) ∧ RV K mg rho H a v
/-- an exception -/
structure XR (rho : List Addr) (H : Hp) (x : Xn) (c : Value) (d : Option Addr) : Prop where
  cls : ∃ C : Addr, c = .ref C ∧ mg x.cls = some (.ref C)
  none : x.fld = .none → d = .none
  some : ∀ f a, x.fld = .some (f, a) → ∃ dd v, d = .some dd ∧ H dd = .some (.xd [(f, v)]) ∧ dd ∉ rho ∧ RV K mg rho H a v
def Post {α β : Type} (rel : List Addr → Hp → α → β → Prop) (rho : List Addr) (H : Hp) (W : Value → Option Addr → Hp → Prop) (Q : β → Hp → Prop) : R α → Prop
  | .ok a h => ∀ b rho' H', Nx rho H rho' H' → HR K mg rho' H' h → rel rho' H' a b → Q b H'
  | .ex x h => ∀ c d rho' H', Nx rho H rho' H' → HR K mg rho' H' h → XR K mg rho' H' x c d → W c d H'
  | .no => False
abbrev PostV (rho : List Addr) (H : Hp) (W : Value → Option Addr → Hp → Prop) (Q : VK) (r : R A) : Prop := Post K mg (RV K mg) rho H W Q r
abbrev PostB (rho : List Addr) (H : Hp) (W : Value → Option Addr → Hp → Prop) (Q : Bool → Hp → Prop) (r : R Bool) : Prop := Post K mg (fun _ _ a b => a = b) rho H W Q r
abbrev PostL (rho : List Addr) (H : Hp) (W : Value → Option Addr → Hp → Prop) (Q : List L2.V → Hp → Prop) (r : R (List A)) : Prop := Post K mg (RVs K mg) rho H W Q r
def PostS (rho : List Addr) (H : Hp) (W : WX) (D : L2.Ends) : RS → Prop
  | .nx s h => ∀ sg rho' H', Nx rho H rho' H' → HR K mg rho' H' h → SlR K mg rho' H' s sg → D.nx sg H'
  | .bk s h => ∀ sg rho' H', Nx rho H rho' H' → HR K mg rho' H' h → SlR K mg rho' H' s sg → D.bk sg H'
  | .ct s h => ∀ sg rho' H', Nx rho H rho' H' → HR K mg rho' H' h → SlR K mg rho' H' s sg → D.ct sg H'
  | .rt a h => ∀ v rho' H', Nx rho H rho' H' → HR K mg rho' H' h → RV K mg rho' H' a v → D.rt v H'
  | .ex x s h => ∀ c d sg rho' H', Nx rho H rho' H' → HR K mg rho' H' h → SlR K mg rho' H' s sg → XR K mg rho' H' x c d → W c d sg H'
  | .no => False
def tE (W : WX) (f : DE) : L2.TE := fun sg H Q => ∃ n rho s h, HR K mg rho H h ∧ SlR K mg rho H s sg ∧ PostV K mg rho H (fun c d H' => W c d sg H') Q (f n s h)
def tT (W : WX) (f : DT) : L2.TT := fun sg H Q => ∃ n rho s h, HR K mg rho H h ∧ SlR K mg rho H s sg ∧ PostB K mg rho H (fun c d H' => W c d sg H') Q (f n s h)
def tA (W : WX) (f : DA) : L2.TA := fun sg H Q => ∃ n rho s h, HR K mg rho H h ∧ SlR K mg rho H s sg ∧ PostL K mg rho H (fun c d H' => W c d sg H') Q (f n s h)
def tS (W : WX) (f : DS) : L2.TS := fun D sg H => ∃ n rho s h, HR K mg rho H h ∧ SlR K mg rho H s sg ∧ PostS K mg rho H W D (f n s h)
end
abbrev PEd (X : Cx) (W : WX) (e : Expr) (f : DE) : Prop := PE X e (tE X.K X.mg W f)
abbrev PTd (X : Cx) (W : WX) (e : Expr) (f : DT) : Prop := PT X e (tT X.K X.mg W f)
abbrev PAd (X : Cx) (W : WX) (es : List Expr) (f : DA) : Prop := PA X es (tA X.K X.mg W f)
abbrev PSd (X : Cx) (W : WX) (st : Stmt) (f : DS) : Prop := PS X st (tS X.K X.mg W f)
abbrev PBd (X : Cx) (W : WX) (st : List Stmt) (f : DS) : Prop := PSs X st (tS X.K X.mg W f)

section
variable {K : PySem.W.Frag} {mg : Str → Option Value} {rho rho' : List Addr} {H H' : Hp} {h h' : Hs} {s : Sl} {sg : L2.St}
theorem SlR.mono (hr : HR K mg rho H h) (n : Nx rho H rho' H') (l : SlR K mg rho H s sg) : SlR K mg rho' H' s sg :=
  ⟨l.len, fun i a e => let ⟨v, e1, r⟩ := l.get i a e; ⟨v, e1, r.mono hr n⟩⟩
theorem SlR.set (l : SlR K mg rho H s sg) {a : A} {v : L2.V} (r : RV K mg rho H a v) (i : Nat) : SlR K mg rho H (s.set i (some a)) (sg.set i (some v)) := by
  refine ⟨by rw [List.length_set, List.length_set]; exact l.len, fun j b e => ?_⟩
  by_cases hj : j = i
  · subst hj
    by_cases hl : j < s.length
    · rw [List.getElem?_set_self hl] at e
      have e' : a = b := by simpa using e
      subst e'
      exact ⟨v, List.getElem?_set_self (by rw [← l.len]; exact hl), r⟩
    · rw [List.getElem?_eq_none (by simpa using hl)] at e; cases e
  · rw [List.getElem?_set_ne (Ne.symm hj)] at e
    rw [List.getElem?_set_ne (Ne.symm hj)]
    exact l.get j b e
theorem XR.mono (hr : HR K mg rho H h) (n : Nx rho H rho' H') {x : Xn} {c : Value} {d : Option Addr} (r : XR K mg rho H x c d) : XR K mg rho' H' x c d := by
  refine ⟨r.cls, r.none, fun f a e => ?_⟩
  obtain ⟨dd, v, e1, e2, e3, e4⟩ := r.some f a e
  exact ⟨dd, v, e1, n.keep _ _ e2 e3, n.out e2 e3, e4.mono hr n⟩
theorem Post.mono {α β : Type} {rel : List Addr → Hp → α → β → Prop} {W W' : Value → Option Addr → Hp → Prop} {Q Q' : β → Hp → Prop} (hr' : HR K mg rho' H' h') (n : Nx rho H rho' H') {r : R α} (p : Post K mg rel rho H W Q r)
    (hQ : ∀ b H, Q b H → Q' b H) (hW : ∀ c d H, W c d H → W' c d H) : Post K mg rel rho' H' W' Q' r := by
  cases r with
  | ok a h => exact fun b rho2 H2 n2 hr2 r2 => hQ _ _ (p b rho2 H2 (n.trans hr' n2) hr2 r2)
  | ex x h => exact fun c d rho2 H2 n2 hr2 r2 => hW _ _ _ (p c d rho2 H2 (n.trans hr' n2) hr2 r2)
  | no => exact p
/-- the first part of two -/
theorem Post.bind {α β α' β' : Type} {rel : List Addr → Hp → α → β → Prop} {rel' : List Addr → Hp → α' → β' → Prop} {W : Value → Option Addr → Hp → Prop} {Q : β → Hp → Prop} {Q' : β' → Hp → Prop} {r : R α'} {k : α' → Hs → R α}
    (p : Post K mg rel rho H W Q (r.bind k)) (c : ∀ a h1 b rho1 H1, Nx rho H rho1 H1 → HR K mg rho1 H1 h1 → rel' rho1 H1 a b → Post K mg rel rho1 H1 W Q (k a h1) → Q' b H1) : Post K mg rel' rho H W Q' r := by
  cases r with
  | ok a h1 => exact fun b rho1 H1 n1 hr1 r1 => c a h1 b rho1 H1 n1 hr1 r1 (Post.mono hr1 n1 (show Post K mg rel rho H W Q (k a h1) from p) (fun _ _ q => q) fun _ _ _ q => q)
  | ex x h1 => exact p
  | no => exact p
/-- .. with what the first part gave -/
theorem Post.bindE {α β α' β' : Type} {rel : List Addr → Hp → α → β → Prop} {rel' : List Addr → Hp → α' → β' → Prop} {W : Value → Option Addr → Hp → Prop} {Q : β → Hp → Prop} {Q' : β' → Hp → Prop} {r : R α'} {k : α' → Hs → R α}
    (p : Post K mg rel rho H W Q (r.bind k)) (c : ∀ a h1 b rho1 H1, r = .ok a h1 → Nx rho H rho1 H1 → HR K mg rho1 H1 h1 → rel' rho1 H1 a b → Post K mg rel rho1 H1 W Q (k a h1) → Q' b H1) : Post K mg rel' rho H W Q' r := by
  cases r with
  | ok a h1 => exact fun b rho1 H1 n1 hr1 r1 => c a h1 b rho1 H1 rfl n1 hr1 r1 (Post.mono hr1 n1 (show Post K mg rel rho H W Q (k a h1) from p) (fun _ _ q => q) fun _ _ _ q => q)
  | ex x h1 => exact p
  | no => exact p
theorem PostS.mono {W : WX} {D : L2.Ends} (hr' : HR K mg rho' H' h') (n : Nx rho H rho' H') {r : RS} (p : PostS K mg rho H W D r) : PostS K mg rho' H' W D r := by
  cases r with
  | nx s h => exact fun g rho2 H2 n2 => p g rho2 H2 (n.trans hr' n2)
  | bk s h => exact fun g rho2 H2 n2 => p g rho2 H2 (n.trans hr' n2)
  | ct s h => exact fun g rho2 H2 n2 => p g rho2 H2 (n.trans hr' n2)
  | rt a h => exact fun v rho2 H2 n2 => p v rho2 H2 (n.trans hr' n2)
  | ex x s h => exact fun c d g rho2 H2 n2 => p c d g rho2 H2 (n.trans hr' n2)
  | no => exact p
/-- an expression, then a statement's work -/
theorem PostS.then {α β : Type} {rel : List Addr → Hp → α → β → Prop} {W : WX} {D : L2.Ends} {Q' : β → Hp → Prop} {r : R α} {k : α → Hs → RS} (hr : HR K mg rho H h) (l : SlR K mg rho H s sg) (p : PostS K mg rho H W D (r.then s k))
    (c : ∀ a h1 b rho1 H1, Nx rho H rho1 H1 → HR K mg rho1 H1 h1 → rel rho1 H1 a b → PostS K mg rho1 H1 W D (k a h1) → Q' b H1) : Post K mg rel rho H (fun c d H' => W c d sg H') Q' r := by
  cases r with
  | ok a h1 => exact fun b rho1 H1 n1 hr1 r1 => c a h1 b rho1 H1 n1 hr1 r1 (PostS.mono hr1 n1 (show PostS K mg rho H W D (k a h1) from p))
  | ex x h1 => exact fun c d rho1 H1 n1 hr1 r1 => (show PostS K mg rho H W D (.ex x s h1) from p) c d sg rho1 H1 n1 hr1 (l.mono hr n1) r1
  | no => exact p
/-- two statements -/
theorem PostS.seq {W : WX} {D : L2.Ends} {r : RS} {k : Sl → Hs → RS} {U : L2.St → Hp → Prop} (p : PostS K mg rho H W D (r.seq k))
    (c : ∀ s1 h1 sg1 rho1 H1, Nx rho H rho1 H1 → HR K mg rho1 H1 h1 → SlR K mg rho1 H1 s1 sg1 → PostS K mg rho1 H1 W D (k s1 h1) → U sg1 H1) : PostS K mg rho H W { D with nx := U } r := by
  cases r with
  | nx s1 h1 => exact fun g rho1 H1 n1 hr1 l1 => c s1 h1 g rho1 H1 n1 hr1 l1 (PostS.mono hr1 n1 (show PostS K mg rho H W D (k s1 h1) from p))
  | bk s h => exact p
  | ct s h => exact p
  | rt a h => exact p
  | ex x s h => exact p
  | no => exact p
end

/-! ### weakening of readings -/
section
variable {X : Cx} {W : WX} {e : Expr} {es : List Expr} {st : Stmt} {sts : List Stmt}
theorem pe_weak {t t' : L2.TE} (h : PE X e t) (m : ∀ sg H Q, t' sg H Q → t sg H Q) : PE X e t' := ⟨fun pins s sg H Q I w => h.run pins s sg H Q I (m sg H Q w)⟩
theorem pt_weak {t t' : L2.TT} (h : PT X e t) (m : ∀ sg H Q, t' sg H Q → t sg H Q) : PT X e t' := ⟨fun pins s sg H Q I w => h.run pins s sg H Q I (m sg H Q w)⟩
theorem pw_weak {t t' : L2.TT} (h : L2.PW X e t) (m : ∀ sg H Q, t' sg H Q → t sg H Q) : L2.PW X e t' := ⟨fun whole pins s sg H Q I w => h.run whole pins s sg H Q I (m sg H Q w)⟩
theorem pa_weak {t t' : L2.TA} (h : PA X es t) (m : ∀ sg H Q, t' sg H Q → t sg H Q) : PA X es t' := ⟨fun pos pins s sg H Q I w => h.run pos pins s sg H Q I (m sg H Q w)⟩
theorem ps_weak {t t' : L2.TS} (h : PS X st t) (m : ∀ D sg H, t' D sg H → t D sg H) : PS X st t' := ⟨fun pins s sg H D I w => h.run pins s sg H D I (m D sg H w)⟩
theorem pb_weak {t t' : L2.TS} (h : PSs X sts t) (m : ∀ D sg H, t' D sg H → t D sg H) : PSs X sts t' := ⟨fun pins s sg H D I w => h.run pins s sg H D I (m D sg H w)⟩
/-- two rules for one expression -/
theorem pe_or {t t' : L2.TE} (h : PE X e t) (h' : PE X e t') : PE X e (fun sg H Q => t sg H Q ∨ t' sg H Q) := ⟨fun pins s sg H Q I w => w.elim (h.run pins s sg H Q I) (h'.run pins s sg H Q I)⟩

/-! ### names, constants -/
def varD (i : Nat) : DE := fun _ s h => match s[i]? with
  | some (some a) => .ok a h
  | _ => .no
def conD (a : A) : DE := fun _ _ h => .ok a h
theorem d_var (i : Nat) {x : Str} {pos : Pos} (hN : X.N[i]? = some x := by rfl) (hv : L2.Vis X.env.scope x := by first | exact Or.inl rfl | exact Or.inr (Or.inl rfl) | exact Or.inr (Or.inr rfl)) (hd : (x == ("__debug__" : Str)) = false := by decide)
    (hcd : (x == ("__classdict__" : Str)) = false := by decide) : PEd X W (.Name x pos) (varD i) := by
  refine pe_weak (L2.pv i hN hv hd hcd) fun sg H Q w => ?_
  obtain ⟨n, rho, s, h, hr, l, p⟩ := w
  unfold varD at p
  split at p
  · rename_i a e
    obtain ⟨v, e1, r⟩ := l.get i a e
    exact ⟨v, e1, p v rho H Nx.refl hr r⟩
  · exact p.elim
theorem d_con {a : A} {v : L2.V} (h : PE X e (L2.tC v)) (r : ∀ rho H, RV X.K X.mg rho H a v) : PEd X W e (conD a) := by
  refine pe_weak h fun sg H Q w => ?_
  obtain ⟨n, rho, s, hh, hr, l, p⟩ := w
  exact p v rho H Nx.refl hr (r rho H)
theorem d_int {i j pos} : PEd X W (.Constant (.int i) j pos) (conD (.int i)) := d_con L2.pe_int fun _ _ => .int i
theorem d_bl {b j pos} : PEd X W (.Constant (.bool b) j pos) (conD (.bl b)) := d_con L2.pe_bl fun _ _ => .bl b
theorem d_non {j pos} : PEd X W (.Constant .none j pos) (conD .non) := d_con L2.pe_non fun _ _ => .non
theorem d_str {x j pos} : PEd X W (.Constant (.str x) j pos) (conD (.str x)) := d_con L2.pe_str fun _ _ => .str x
/-- a module's constant: an int, a text -/
theorem d_gint {x : Str} {i : Int} {pos : Pos} (hg : L2.Gl X x) (hm : ∃ t, X.mg x = some (.int i t)) (hd : (x == ("__debug__" : Str)) = false := by decide) : PEd X W (.Name x pos) (conD (.int i)) :=
  let ⟨t, e⟩ := hm; d_con (L2.pe_glob hg e (show L2.RelV (.int i) (.int i t) from ⟨t, rfl⟩) hd) fun _ _ => .int i
theorem d_gstr {x y : Str} {pos : Pos} (hg : L2.Gl X x) (hm : ∃ t, X.mg x = some (.str y t)) (hd : (x == ("__debug__" : Str)) = false := by decide) : PEd X W (.Name x pos) (conD (.str y)) :=
  let ⟨t, e⟩ := hm; d_con (L2.pe_glob hg e (show L2.RelV (.str y) (.str y t) from ⟨t, rfl⟩) hd) fun _ _ => .str y
/-- a module's def or class, as a value -/
theorem d_glob {x : Str} {a : Addr} {pos : Pos} (hg : L2.Gl X x) (hm : X.mg x = some (.ref a)) (hd : (x == ("__debug__" : Str)) = false := by decide) : PEd X W (.Name x pos) (conD (.glo x)) :=
  d_con (L2.pe_glob hg hm (show L2.RelV (.ref a) (.ref a) from rfl) hd) fun _ _ => .glo hm rfl

/-! ### argument lists -/
def nilD : DA := fun _ _ h => .ok [] h
def consD (f : DE) (g : DA) : DA := fun n s h => (f n s h).bind fun a h1 => (g n s h1).bind fun as h2 => .ok (a :: as) h2
theorem d_nil : PAd X W [] nilD := by
  refine pa_weak L2.pa_nil fun sg H Q w => ?_
  obtain ⟨n, rho, s, hh, hr, l, p⟩ := w
  exact p [] rho H Nx.refl hr .nil
theorem d_cons {f : DE} {g : DA} (hf : PEd X W e f) (hg : PAd X W es g) (hs : starEach (e :: es) X.env = (false, eval e X.env) :: starEach es X.env := by rfl) : PAd X W (e :: es) (consD f g) := by
  refine pa_weak (L2.pa_cons hf hg hs) fun sg H Q w => ?_
  obtain ⟨n, rho, s, h, hr, l, p⟩ := w
  refine ⟨n, rho, s, h, hr, l, Post.bind p fun a h1 v rho1 H1 n1 hr1 r1 p1 => ?_⟩
  refine ⟨n, rho1, s, h1, hr1, l.mono hr n1, Post.bind p1 fun as h2 vs rho2 H2 n2 hr2 r2 p2 => ?_⟩
  exact p2 (v :: vs) rho2 H2 Nx.refl hr2 (.cons (r1.mono hr1 n2) r2)

/-! ### blocks, small statements -/
def seqD (f g : DS) : DS := fun n s h => (f n s h).seq fun s1 h1 => g n s1 h1
def nextD : DS := fun _ s h => .nx s h
def brkD : DS := fun _ s h => .bk s h
def contD : DS := fun _ s h => .ct s h
def retD (f : DE) : DS := fun n s h => (f n s h).then s fun a h1 => .rt a h1
def retND : DS := fun _ _ h => .rt .non h
def dropD (f : DE) : DS := fun n s h => (f n s h).then s fun _ h1 => .nx s h1
def ifD (c : DT) (f g : DS) : DS := fun n s h => (c n s h).then s fun b h1 => if b then f n s h1 else g n s h1
def setD (i : Nat) (f : DE) : DS := fun n s h => (f n s h).then s fun a h1 => .nx (s.set i (some a)) h1
theorem b_nil : PBd X W [] nextD := by
  refine pb_weak L2.pss_nil fun D sg H w => ?_
  obtain ⟨n, rho, s, h, hr, l, p⟩ := w
  exact p sg rho H Nx.refl hr l
theorem b_cons {f g : DS} (hf : PSd X W st f) (hg : PBd X W sts g) : PBd X W (st :: sts) (seqD f g) := by
  refine pb_weak (L2.pss_cons hf hg) fun D sg H w => ?_
  obtain ⟨n, rho, s, h, hr, l, p⟩ := w
  exact ⟨n, rho, s, h, hr, l, PostS.seq p fun s1 h1 sg1 rho1 H1 n1 hr1 l1 p1 => ⟨n, rho1, s1, h1, hr1, l1, p1⟩⟩
theorem b_one {f : DS} (hf : PSd X W st f) : PBd X W [st] f := L2.pss_one hf
theorem s_pass {pos : Pos} : PSd X W (.Pass pos) nextD := by
  refine ps_weak L2.ps_pass fun D sg H w => ?_
  obtain ⟨n, rho, s, h, hr, l, p⟩ := w
  exact p sg rho H Nx.refl hr l
theorem s_brk {pos : Pos} : PSd X W (.Break pos) brkD := by
  refine ps_weak L2.ps_break fun D sg H w => ?_
  obtain ⟨n, rho, s, h, hr, l, p⟩ := w
  exact p sg rho H Nx.refl hr l
theorem s_cont {pos : Pos} : PSd X W (.Continue pos) contD := by
  refine ps_weak L2.ps_continue fun D sg H w => ?_
  obtain ⟨n, rho, s, h, hr, l, p⟩ := w
  exact p sg rho H Nx.refl hr l
theorem s_ret {pos : Pos} {f : DE} (hf : PEd X W e f) : PSd X W (.Return (some e) pos) (retD f) := by
  refine ps_weak (L2.ps_ret hf) fun D sg H w => ?_
  obtain ⟨n, rho, s, h, hr, l, p⟩ := w
  exact ⟨n, rho, s, h, hr, l, PostS.then hr l p fun a h1 v rho1 H1 n1 hr1 r1 p1 => p1 v rho1 H1 Nx.refl hr1 r1⟩
theorem s_retN {pos : Pos} : PSd X W (.Return none pos) retND := by
  refine ps_weak L2.ps_retN fun D sg H w => ?_
  obtain ⟨n, rho, s, h, hr, l, p⟩ := w
  exact p .non rho H Nx.refl hr .non
theorem s_expr {pos : Pos} {f : DE} (hf : PEd X W e f) (hs : swapsWith e none pos.line X.env = pure false := by rfl) : PSd X W (.Expr e pos) (dropD f) := by
  refine ps_weak (L2.ps_expr hf hs) fun D sg H w => ?_
  obtain ⟨n, rho, s, h, hr, l, p⟩ := w
  exact ⟨n, rho, s, h, hr, l, PostS.then hr l p fun a h1 v rho1 H1 n1 hr1 r1 p1 => p1 sg rho1 H1 Nx.refl hr1 (l.mono hr n1)⟩
theorem s_if {c : Expr} {a b : List Stmt} {pos : Pos} {fc : DT} {f g : DS} (hc : PTd X W c fc) (ha : PBd X W a f) (hb : PBd X W b g) : PSd X W (.If c a b pos) (ifD fc f g) := by
  refine ps_weak (L2.ps_if hc ha hb) fun D sg H w => ?_
  obtain ⟨n, rho, s, h, hr, l, p⟩ := w
  refine ⟨n, rho, s, h, hr, l, PostS.then hr l p fun b h1 b' rho1 H1 n1 hr1 r1 p1 => ?_⟩
  subst r1
  cases b with
  | true => exact ⟨n, rho1, s, h1, hr1, l.mono hr n1, p1⟩
  | false => exact ⟨n, rho1, s, h1, hr1, l.mono hr n1, p1⟩
theorem s_set {i : Nat} {x : Str} {pos pos' : Pos} {f : DE} (hN : X.N.Nodup) (hi : X.N[i]? = some x) (hx : L2.Loc X.env.scope x) (he : PEd X W e f) (hs : swapsWith e (some (.Name x pos')) pos.line X.env = pure false := by rfl)
    (hf : X.fn x = true ∨ X.env.scope.names.lookup x = some .local := by first | exact .inl rfl | exact .inr rfl | assumption) : PSd X W (.Assign [.Name x pos'] e pos) (setD i f) := by
  refine ps_weak (L2.ps_set hN hi hx he hs hf) fun D sg H w => ?_
  obtain ⟨n, rho, s, h, hr, l, p⟩ := w
  exact ⟨n, rho, s, h, hr, l, PostS.then hr l p fun a h1 v rho1 H1 n1 hr1 r1 p1 => p1 _ rho1 H1 Nx.refl hr1 ((l.mono hr n1).set r1 i)⟩
/-- code that is never reached -/
def neverD : DS := fun _ _ _ => .no
theorem s_never : PSd X W st neverD := by
  refine ps_weak L2.ps_never fun D sg H w => ?_
  obtain ⟨n, rho, s, h, hr, l, p⟩ := w
  exact p.elim
end
end Dn

set_option maxHeartbeats 4000000
/-! Dn3: operators, comparisons, tests. -/
namespace Dn
open PySem
open L2 (PE PT PA PS PSs PG PGs PI Cx WX Takes HO Hp VK)

abbrev O2 := A → A → Hs → R A
section
variable (K : PySem.W.Frag) (mg : Str → Option Value)
/-- the plain operation g tells what the hand layer's r asks -/
def Rf2 (r : L2.R2) (g : O2) : Prop := ∀ (rho : List Addr) (H : Hp) (h : Hs) (a b : A) (x y : L2.V) (W : Value → Option Addr → Hp → Prop) (Q : VK), HR K mg rho H h → RV K mg rho H a x → RV K mg rho H b y → PostV K mg rho H W Q (g a b h) → r x y H Q
def Rf1 (r : L2.V → Hp → VK → Prop) (g : A → Hs → R A) : Prop := ∀ (rho : List Addr) (H : Hp) (h : Hs) (a : A) (x : L2.V) (W : Value → Option Addr → Hp → Prop) (Q : VK), HR K mg rho H h → RV K mg rho H a x → PostV K mg rho H W Q (g a h) → r x H Q
/-- .. of an argument list -/
def RfL (r : List L2.V → Hp → VK → Prop) (g : List A → Hs → R A) : Prop := ∀ (rho : List Addr) (H : Hp) (h : Hs) (as : List A) (xs : List L2.V) (W : Value → Option Addr → Hp → Prop) (Q : VK), HR K mg rho H h → RVs K mg rho H as xs → PostV K mg rho H W Q (g as h) → r xs H Q
end

def bin2 (g : O2) (fa fb : DE) : DE := fun n s h => (fa n s h).bind fun a h1 => (fb n s h1).bind fun b h2 => g a b h2
def un1 (g : A → Hs → R A) (fa : DE) : DE := fun n s h => (fa n s h).bind fun a h1 => g a h1
/-- a value that is a bool, as a test -/
def boolR (r : R A) : R Bool := r.bind fun a h => match a with
  | .bl b => .ok b h
  | _ => .no
def testD (f : DE) : DT := fun n s h => boolR (f n s h)

section
variable {K : PySem.W.Frag} {mg : Str → Option Value} {rho : List Addr} {H : Hp} {h : Hs}
theorem Post.tb {W : Value → Option Addr → Hp → Prop} {Q : Bool → Hp → Prop} {r : R A} (p : PostB K mg rho H W Q (boolR r)) : PostV K mg rho H W (fun x H' => ∃ k, x = .bl k ∧ Q k H') r := by
  refine Post.bind p fun a h1 v rho1 H1 n1 hr1 r1 p1 => ?_
  cases a with
  | bl b => cases r1; exact ⟨b, rfl, p1 b rho1 H1 Nx.refl hr1 rfl⟩
  | _ => exact p1.elim
/-- the result is there already -/
theorem Post.here {W : Value → Option Addr → Hp → Prop} {Q : VK} {a : A} {v : L2.V} (p : PostV K mg rho H W Q (.ok a h)) (hr : HR K mg rho H h) (r : RV K mg rho H a v) : Q v H := p v rho H Nx.refl hr r
end

section
variable {X : Cx} {W : WX} {e a b c : Expr} {pos : Pos} {fa fb fc : DE} {g g' : O2} {r r' : L2.R2}
theorem tOp_of {op2 : L2.R2} (rf : Rf2 X.K X.mg op2 g) : ∀ sg H Q, tE X.K X.mg W (bin2 g fa fb) sg H Q → L2.tOp op2 (tE X.K X.mg W fa) (tE X.K X.mg W fb) sg H Q := fun sg H Q w => by
  obtain ⟨n, rho, s, h, hr, l, p⟩ := w
  refine ⟨n, rho, s, h, hr, l, Post.bind p fun x h1 v rho1 H1 n1 hr1 r1 p1 => ?_⟩
  refine ⟨n, rho1, s, h1, hr1, l.mono hr n1, Post.bind p1 fun y h2 u rho2 H2 n2 hr2 r2 p2 => ?_⟩
  exact rf rho2 H2 h2 x y v u _ Q hr2 (r1.mono hr1 n2) r2 p2
theorem d_bin {op : Operator} (ho : L2.OpR X (binaryOp op) r) (rf : Rf2 X.K X.mg r g) (ha : PEd X W a fa) (hb : PEd X W b fb) : PEd X W (.BinOp a op b pos) (bin2 g fa fb) :=
  pe_weak (L2.pe_op ho ha hb) (tOp_of rf)
theorem d_cmp {op : CmpOp} (ho : L2.OpR X (compareOp op) r) (rf : Rf2 X.K X.mg r g) (ha : PEd X W a fa) (hb : PEd X W b fb) (hm : behindInMarks op b = false) : PEd X W (.Compare a [op] [b] pos) (bin2 g fa fb) :=
  pe_weak (L2.pe_cmpR ho ha hb hm) (tOp_of rf)
theorem t_test {t : DE} (h : L2.TE) (hp : PT X e (L2.tTest h)) (hw : ∀ sg H Q, tE X.K X.mg W t sg H Q → h sg H Q) : PTd X W e (testD t) := by
  refine pt_weak hp fun sg H Q w => ?_
  obtain ⟨n, rho, s, hh, hr, l, p⟩ := w
  exact hw _ _ _ ⟨n, rho, s, hh, hr, l, Post.tb p⟩
theorem t_cmp {op : CmpOp} (ho : L2.OpR X (compareOp op) r) (rf : Rf2 X.K X.mg r g) (ha : PEd X W a fa) (hb : PEd X W b fb) (hm : behindInMarks op b = false) : PTd X W (.Compare a [op] [b] pos) (testD (bin2 g fa fb)) :=
  t_test _ (L2.pt_cmpR ho ha hb hm) (tOp_of rf)
/-- an expression that hands back a bool, as a test -/
theorem t_val (ha : PEd X W a fa) (he : ∀ whole, isTrue a X.env whole = (do let v ← whole; standAt a.pos; holding [v] (truthy v)) := by intro _; rfl) : PTd X W a (testD fa) := by
  refine pt_weak (L2.pt_val ha he) fun sg H Q w => ?_
  obtain ⟨n, rho, s, hh, hr, l, p⟩ := w
  exact ⟨n, rho, s, hh, hr, l, Post.tb p⟩
theorem d_un {op : UnaryOp} {r1 : L2.V → Hp → VK → Prop} {g1 : A → Hs → R A} (ho : L2.UnR X (unaryOp op) r1) (rf : Rf1 X.K X.mg r1 g1) (ha : PEd X W a fa) : PEd X W (.UnaryOp op a pos) (un1 g1 fa) := by
  refine pe_weak (L2.pe_un ho ha) fun sg H Q w => ?_
  obtain ⟨n, rho, s, h, hr, l, p⟩ := w
  exact ⟨n, rho, s, h, hr, l, Post.bind p fun x h1 v rho1 H1 n1 hr1 r1 p1 => rf rho1 H1 h1 x v _ Q hr1 r1 p1⟩

/-! ### tests: not, and, or; and, or, not as values; a if t else b -/
def notT (f : DT) : DT := fun n s h => (f n s h).bind fun b h1 => .ok (!b) h1
def andT (f g : DT) : DT := fun n s h => (f n s h).bind fun b h1 => if b then g n s h1 else .ok false h1
def orT (f g : DT) : DT := fun n s h => (f n s h).bind fun b h1 => if b then .ok true h1 else g n s h1
def ifE (c : DT) (f g : DE) : DE := fun n s h => (c n s h).bind fun b h1 => if b then f n s h1 else g n s h1
def blE (f : DT) : DE := fun n s h => (f n s h).bind fun b h1 => .ok (.bl b) h1
abbrev PWd (X : Cx) (W : WX) (e : Expr) (f : DT) : Prop := L2.PW X e (tT X.K X.mg W f)
variable {ta tb : DT} {rest : List Expr}
theorem t_not (ha : PTd X W a ta) : PTd X W (.UnaryOp .Not a pos) (notT ta) := by
  refine pt_weak (L2.pt_not ha) fun sg H Q w => ?_
  obtain ⟨n, rho, s, h, hr, l, p⟩ := w
  refine ⟨n, rho, s, h, hr, l, Post.bind p fun x h1 v rho1 H1 n1 hr1 r1 p1 => ?_⟩
  subst r1
  exact p1 _ rho1 H1 Nx.refl hr1 rfl
theorem w_and1 (ha : PTd X W a ta) : PWd X W (.BoolOp .And [a] pos) ta := L2.pw_and1 ha
theorem w_or1 (ha : PTd X W a ta) : PWd X W (.BoolOp .Or [a] pos) ta := L2.pw_or1 ha
theorem w_and (ha : PTd X W a ta) (hb : PWd X W (.BoolOp .And (b :: rest) pos) tb) : PWd X W (.BoolOp .And (a :: b :: rest) pos) (andT ta tb) := by
  refine pw_weak (L2.pw_and ha hb) fun sg H Q w => ?_
  obtain ⟨n, rho, s, h, hr, l, p⟩ := w
  refine ⟨n, rho, s, h, hr, l, Post.bind p fun x h1 v rho1 H1 n1 hr1 r1 p1 => ?_⟩
  subst r1
  cases x with
  | true => exact L2.iteT ⟨n, rho1, s, h1, hr1, l.mono hr n1, p1⟩
  | false => exact L2.iteF (p1 _ rho1 H1 Nx.refl hr1 rfl)
theorem w_or (ha : PTd X W a ta) (hb : PWd X W (.BoolOp .Or (b :: rest) pos) tb) : PWd X W (.BoolOp .Or (a :: b :: rest) pos) (orT ta tb) := by
  refine pw_weak (L2.pw_or ha hb) fun sg H Q w => ?_
  obtain ⟨n, rho, s, h, hr, l, p⟩ := w
  refine ⟨n, rho, s, h, hr, l, Post.bind p fun x h1 v rho1 H1 n1 hr1 r1 p1 => ?_⟩
  subst r1
  cases x with
  | true => exact L2.iteT (p1 _ rho1 H1 Nx.refl hr1 rfl)
  | false => exact L2.iteF ⟨n, rho1, s, h1, hr1, l.mono hr n1, p1⟩
theorem t_w (h : PWd X W e ta) : PTd X W e ta := h.pt
/-- .. as values, all bools -/
def andV (f g : DE) : DE := fun n s h => (f n s h).bind fun a h1 => match a with
  | .bl true => g n s h1
  | .bl false => .ok (.bl false) h1
  | _ => .no
def orV (f g : DE) : DE := fun n s h => (f n s h).bind fun a h1 => match a with
  | .bl true => .ok (.bl true) h1
  | .bl false => g n s h1
  | _ => .no
def notV (f : DE) : DE := fun n s h => (f n s h).bind fun a h1 => match a with
  | .bl b => .ok (.bl (!b)) h1
  | _ => .no
theorem d_one {op} (ha : PEd X W a fa) : PEd X W (.BoolOp op [a] pos) fa := L2.pe_one ha
theorem d_and (ha : PEd X W a fa) (hb : PEd X W (.BoolOp .And (b :: rest) pos) fb) : PEd X W (.BoolOp .And (a :: b :: rest) pos) (andV fa fb) := by
  refine pe_weak (L2.pe_and ha hb) fun sg H Q w => ?_
  obtain ⟨n, rho, s, h, hr, l, p⟩ := w
  refine ⟨n, rho, s, h, hr, l, Post.bind p fun x h1 v rho1 H1 n1 hr1 r1 p1 => ?_⟩
  cases x with
  | bl k =>
    cases r1
    cases k with
    | true => exact ⟨true, rfl, L2.iteT ⟨n, rho1, s, h1, hr1, l.mono hr n1, p1⟩⟩
    | false => exact ⟨false, rfl, L2.iteF (p1 _ rho1 H1 Nx.refl hr1 (.bl false))⟩
  | _ => exact p1.elim
theorem d_or (ha : PEd X W a fa) (hb : PEd X W (.BoolOp .Or (b :: rest) pos) fb) : PEd X W (.BoolOp .Or (a :: b :: rest) pos) (orV fa fb) := by
  refine pe_weak (L2.pe_or ha hb) fun sg H Q w => ?_
  obtain ⟨n, rho, s, h, hr, l, p⟩ := w
  refine ⟨n, rho, s, h, hr, l, Post.bind p fun x h1 v rho1 H1 n1 hr1 r1 p1 => ?_⟩
  cases x with
  | bl k =>
    cases r1
    cases k with
    | true => exact ⟨true, rfl, L2.iteT (p1 _ rho1 H1 Nx.refl hr1 (.bl true))⟩
    | false => exact ⟨false, rfl, L2.iteF ⟨n, rho1, s, h1, hr1, l.mono hr n1, p1⟩⟩
  | _ => exact p1.elim
theorem d_not (ha : PEd X W a fa) : PEd X W (.UnaryOp .Not a pos) (notV fa) := by
  refine pe_weak (L2.pe_not ha) fun sg H Q w => ?_
  obtain ⟨n, rho, s, h, hr, l, p⟩ := w
  refine ⟨n, rho, s, h, hr, l, Post.bind p fun x h1 v rho1 H1 n1 hr1 r1 p1 => ?_⟩
  cases x with
  | bl k => cases r1; exact ⟨k, rfl, p1 _ rho1 H1 Nx.refl hr1 (.bl _)⟩
  | _ => exact p1.elim
theorem d_if (hc : PTd X W c ta) (ha : PEd X W a fa) (hb : PEd X W b fb) : PEd X W (.IfExp c a b pos) (ifE ta fa fb) := by
  refine pe_weak (L2.pe_ifExp hc ha hb) fun sg H Q w => ?_
  obtain ⟨n, rho, s, h, hr, l, p⟩ := w
  refine ⟨n, rho, s, h, hr, l, Post.bind p fun x h1 v rho1 H1 n1 hr1 r1 p1 => ?_⟩
  subst r1
  cases x with
  | true => exact L2.iteT ⟨n, rho1, s, h1, hr1, l.mono hr n1, p1⟩
  | false => exact L2.iteF ⟨n, rho1, s, h1, hr1, l.mono hr n1, p1⟩
/-- a op1 b op2 c -/
def chain3 (g g' : O2) (fa fb fc : DE) : DE := fun n s h => (fa n s h).bind fun a h1 => (fb n s h1).bind fun b h2 => (g a b h2).bind fun k h3 => match k with
  | .bl true => (fc n s h3).bind fun c h4 => g' b c h4
  | .bl false => .ok (.bl false) h3
  | _ => .no
theorem tChain_of (rf : Rf2 X.K X.mg r g) (rf' : Rf2 X.K X.mg r' g') : ∀ sg H Q, tE X.K X.mg W (chain3 g g' fa fb fc) sg H Q → L2.tChain r r' (tE X.K X.mg W fa) (tE X.K X.mg W fb) (tE X.K X.mg W fc) sg H Q := fun sg H Q w => by
  obtain ⟨n, rho, s, h, hr, l, p⟩ := w
  refine ⟨n, rho, s, h, hr, l, Post.bind p fun x h1 v rho1 H1 n1 hr1 r1 p1 => ?_⟩
  refine ⟨n, rho1, s, h1, hr1, l.mono hr n1, Post.bind p1 fun y h2 u rho2 H2 n2 hr2 r2 p2 => ?_⟩
  refine rf rho2 H2 h2 x y v u (fun c d H' => W c d sg H') _ hr2 (r1.mono hr1 n2) r2 (Post.bind p2 fun k h3 z rho3 H3 n3 hr3 r3 p3 => ?_)
  cases k with
  | bl k =>
    cases r3
    cases k with
    | true =>
      refine ⟨true, rfl, L2.iteT ⟨n, rho3, s, h3, hr3, ((l.mono hr n1).mono hr1 n2).mono hr2 n3, Post.bind p3 fun c h4 cv rho4 H4 n4 hr4 r4 p4 => ?_⟩⟩
      exact rf' rho4 H4 h4 y c u cv _ Q hr4 ((r2.mono hr2 n3).mono hr3 n4) r4 p4
    | false => exact ⟨false, rfl, L2.iteF (p3 _ rho3 H3 Nx.refl hr3 (.bl false))⟩
  | _ => exact p3.elim
theorem d_chain {op op' : CmpOp} (ho : L2.OpR X (compareOp op) r) (rf : Rf2 X.K X.mg r g) (ho' : L2.OpR X (compareOp op') r') (rf' : Rf2 X.K X.mg r' g') (ha : PEd X W a fa) (hb : PEd X W b fb) (hc : PEd X W c fc)
    (hm : lastMarks [op, op'] [b, c] = false := by with_unfolding_all rfl) : PEd X W (.Compare a [op, op'] [b, c] pos) (chain3 g g' fa fb fc) := pe_weak (L2.pe_chain ho ho' ha hb hc hm) (tChain_of rf rf')
theorem t_chain {op op' : CmpOp} (ho : L2.OpR X (compareOp op) r) (rf : Rf2 X.K X.mg r g) (ho' : L2.OpR X (compareOp op') r') (rf' : Rf2 X.K X.mg r' g') (ha : PEd X W a fa) (hb : PEd X W b fb) (hc : PEd X W c fc)
    (hm : lastMarks [op, op'] [b, c] = false := by with_unfolding_all rfl) : PTd X W (.Compare a [op, op'] [b, c] pos) (testD (chain3 g g' fa fb fc)) := t_test _ (L2.pt_chain ho ho' ha hb hc hm) (tChain_of rf rf')
end

/-! ### sequences -/
def seqOf (h : Hs) : A → Option (List A)
  | .tup xs => some xs
  | .rol xs => some xs
  | .ref n => match h[n]? with
    | some (.lst xs) => some xs
    | _ => none
  | _ => none
section
variable {K : PySem.W.Frag} {mg : Str → Option Value} {rho rho' : List Addr} {H H' : Hp} {h h' : Hs}
theorem HR.lst (hr : HR K mg rho H h) {n : Nat} {p : Addr} {xs : List A} (hp : rho[n]? = some p) (e : h[n]? = some (.lst xs)) : ∃ vs, H p = some (.lst vs) ∧ RVs K mg rho H xs vs := by
  obtain ⟨u, hu, ro⟩ := hr.get n p _ hp e
  cases ro with
  | lst r => exact ⟨_, hu, r⟩
theorem HR.dK (hr : HR K mg rho H h) {n : Nat} {p : Addr} {xs : List (Key × A)} (hp : rho[n]? = some p) (e : h[n]? = some (.dK xs)) : ∃ vs, H p = some (.dK vs) ∧ RKV K mg rho H xs vs := by
  obtain ⟨u, hu, ro⟩ := hr.get n p _ hp e
  cases ro with
  | dK r => exact ⟨_, hu, r⟩
theorem HR.dT (hr : HR K mg rho H h) {n : Nat} {p : Addr} {xs : List (List Key × A)} (hp : rho[n]? = some p) (e : h[n]? = some (.dT xs)) : ∃ vs, H p = some (.dT vs) ∧ RKV K mg rho H xs vs := by
  obtain ⟨u, hu, ro⟩ := hr.get n p _ hp e
  cases ro with
  | dT r => exact ⟨_, hu, r⟩
/-- a sequence, seen from the hand layer -/
theorem seqOf_get (hr : HR K mg rho H h) {a : A} {xs : List A} (e : seqOf h a = some xs) {v : L2.V} (r : RV K mg rho H a v) :
    ∃ p vs, v = .ref p ∧ RVs K mg rho H xs vs ∧ (L2.SqL K H p vs ∨ L2.SqT K H p vs) := by
  cases r with
  | tup h1 h2 => cases e; exact ⟨_, _, rfl, h2, .inr (.of h1)⟩
  | rol h1 h2 =>
    cases e
    refine ⟨_, _, rfl, h2, .inl ?_⟩
    exact rol_sq h1
  | ref hp =>
    rename_i n p
    unfold seqOf at e
    dsimp only at e
    cases q : h[n]? with
    | none => rw [q] at e; cases e
    | some o =>
      rw [q] at e
      cases o with
      | lst ys =>
        cases e
        obtain ⟨vs, h1, h2⟩ := hr.lst hp q
        exact ⟨_, vs, rfl, h2, .inl (.of h1)⟩
      | dK _ => cases e
      | dT _ => cases e
  | _ => cases e
/-- a list, by value or by its place -/
def lsOf (h : Hs) : A → Option (List A)
  | .rol xs => some xs
  | .ref n => match h[n]? with
    | some (.lst xs) => some xs
    | _ => none
  | _ => none
theorem lsOf_get (hr : HR K mg rho H h) {a : A} {xs : List A} (e : lsOf h a = some xs) {v : L2.V} (r : RV K mg rho H a v) :
    ∃ p vs, v = .ref p ∧ RVs K mg rho H xs vs ∧ L2.SqL K H p vs := by
  cases r with
  | rol h1 h2 =>
    cases e
    refine ⟨_, _, rfl, h2, ?_⟩
    exact rol_sq h1
  | ref hp =>
    rename_i n p
    unfold lsOf at e
    dsimp only at e
    cases q : h[n]? with
    | none => rw [q] at e; cases e
    | some o =>
      rw [q] at e
      cases o with
      | lst ys =>
        cases e
        obtain ⟨vs, h1, h2⟩ := hr.lst hp q
        exact ⟨_, vs, rfl, h2, .of h1⟩
      | dK _ => cases e
      | dT _ => cases e
  | _ => cases e
/-- ints among values -/
def intsOf : List A → Option (List Int)
  | [] => some []
  | .int i :: r => (intsOf r).map fun l => i :: l
  | _ => none
theorem intsOf_get : ∀ {as : List A} {ns : List Int}, intsOf as = some ns → ∀ {vs : List L2.V}, RVs K mg rho H as vs → vs = ns.map L2.V.int
  | [], _, e, _, r => by cases e; cases r; rfl
  | .int i :: r, ns, e, _, rv => by
    unfold intsOf at e
    cases q : intsOf r with
    | none => rw [q] at e; cases e
    | some l =>
      rw [q] at e
      cases e
      cases rv with
      | cons a t => cases a; rw [intsOf_get q t]; rfl
  | .non :: _, _, e, _, _ => by cases e
  | .bl _ :: _, _, e, _, _ => by cases e
  | .str _ :: _, _, e, _, _ => by cases e
  | .tup _ :: _, _, e, _, _ => by cases e
  | .rol _ :: _, _, e, _, _ => by cases e
  | .ref _ :: _, _, e, _, _ => by cases e
  | .glo _ :: _, _, e, _, _ => by cases e
  | .ty _ :: _, _, e, _, _ => by cases e
def blsOf : List A → Option (List Bool)
  | [] => some []
  | .bl i :: r => (blsOf r).map fun l => i :: l
  | _ => none
theorem blsOf_get : ∀ {as : List A} {ns : List Bool}, blsOf as = some ns → ∀ {vs : List L2.V}, RVs K mg rho H as vs → vs = ns.map L2.V.bl
  | [], _, e, _, r => by cases e; cases r; rfl
  | .bl i :: r, ns, e, _, rv => by
    unfold blsOf at e
    cases q : blsOf r with
    | none => rw [q] at e; cases e
    | some l =>
      rw [q] at e
      cases e
      cases rv with
      | cons a t => cases a; rw [blsOf_get q t]; rfl
  | .non :: _, _, e, _, _ => by cases e
  | .int _ :: _, _, e, _, _ => by cases e
  | .str _ :: _, _, e, _, _ => by cases e
  | .tup _ :: _, _, e, _, _ => by cases e
  | .rol _ :: _, _, e, _, _ => by cases e
  | .ref _ :: _, _, e, _, _ => by cases e
  | .glo _ :: _, _, e, _, _ => by cases e
  | .ty _ :: _, _, e, _, _ => by cases e
def strsOf : List A → Option (List Str)
  | [] => some []
  | .str i :: r => (strsOf r).map fun l => i :: l
  | _ => none
theorem strsOf_get : ∀ {as : List A} {ns : List Str}, strsOf as = some ns → ∀ {vs : List L2.V}, RVs K mg rho H as vs → vs = ns.map L2.V.str
  | [], _, e, _, r => by cases e; cases r; rfl
  | .str i :: r, ns, e, _, rv => by
    unfold strsOf at e
    cases q : strsOf r with
    | none => rw [q] at e; cases e
    | some l =>
      rw [q] at e
      cases e
      cases rv with
      | cons a t => cases a; rw [strsOf_get q t]; rfl
  | .non :: _, _, e, _, _ => by cases e
  | .int _ :: _, _, e, _, _ => by cases e
  | .bl _ :: _, _, e, _, _ => by cases e
  | .tup _ :: _, _, e, _, _ => by cases e
  | .rol _ :: _, _, e, _, _ => by cases e
  | .ref _ :: _, _, e, _, _ => by cases e
  | .glo _ :: _, _, e, _, _ => by cases e
  | .ty _ :: _, _, e, _, _ => by cases e
end

/-! ### arithmetic -/
/-- a new list -/
def newL (xs : List A) (h : Hs) : R A := .ok (.ref h.length) (h ++ [.lst xs])
def lstOf (h : Hs) : A → Option (List A)
  | .ref n => match h[n]? with
    | some (.lst xs) => some xs
    | _ => none
  | _ => none
def addA : O2 := fun a b h => match a, b with
  | .int i, .int j => .ok (.int (i + j)) h
  | .str x, .str y => if x.length + y.length ≤ sizeLine then .ok (.str (x ++ y)) h else .no
  | .tup xs, .tup ys => if xs.length + ys.length ≤ sizeLine then .ok (.tup (xs ++ ys)) h else .no
  | .ref n, .ref m => match lstOf h (.ref n), lstOf h (.ref m) with
    | some xs, some ys => if xs.length + ys.length ≤ sizeLine then newL (xs ++ ys) h else .no
    | _, _ => .no
  | _, _ => .no
def intA (g : Int → Int → Option Int) : O2 := fun a b h => match a, b with
  | .int i, .int j => match g i j with
    | some k => .ok (.int k) h
    | none => .no
  | _, _ => .no
def subI (i j : Int) : Option Int := some (i - j)
def mulI (i j : Int) : Option Int := if i.natAbs.log2 + j.natAbs.log2 < 1000000 then some (i * j) else none
def divI (i j : Int) : Option Int := if 0 < j ∧ j.natAbs.log2 < 9000 then some (i / j) else none
def modI (i j : Int) : Option Int := if 0 < j then some (i % j) else none
def powI (i j : Int) : Option Int := if 0 ≤ j ∧ (Builtin.Int.intBits i : Int) * j ≤ 2 ^ 27 then some (i ^ j.toNat) else none
def mulA : O2 := fun a b h => match a, b with
  | .int i, .int j => match mulI i j with
    | some k => .ok (.int k) h
    | none => .no
  | .ref n, .int k => match lstOf h (.ref n) with
    | some xs => if -(2 ^ 63) ≤ k ∧ k < 2 ^ 63 ∧ xs.length * k.toNat ≤ sizeLine then newL (List.replicate k.toNat xs).flatten h else .no
    | none => .no
  | .tup xs, .int k => if xs ≠ [] ∧ 2 ≤ k ∧ k ≤ 1000 ∧ xs.length ≤ 1000 then .ok (.tup (List.replicate k.toNat xs).flatten) h else .no
  | _, _ => .no
section
variable {K : PySem.W.Frag} {mg : Str → Option Value} {rho rho' : List Addr} {H H' : Hp} {h h' : Hs}
theorem lstOf_get (hr : HR K mg rho H h) {a : A} {xs : List A} (e : lstOf h a = some xs) {v : L2.V} (r : RV K mg rho H a v) : ∃ n p vs, a = .ref n ∧ v = .ref p ∧ rho[n]? = some p ∧ h[n]? = some (.lst xs) ∧ H p = some (.lst vs) ∧ RVs K mg rho H xs vs := by
  cases r with
  | ref hp =>
    rename_i n p
    unfold lstOf at e
    dsimp only at e
    cases q : h[n]? with
    | none => rw [q] at e; cases e
    | some o =>
      rw [q] at e
      cases o with
      | lst ys =>
        cases e
        obtain ⟨vs, h1, h2⟩ := hr.lst hp q
        exact ⟨n, p, vs, rfl, rfl, hp, q, h1, h2⟩
      | dK _ => cases e
      | dT _ => cases e
  | _ => cases e
/-- a new list is handed back -/
theorem newL_ok (hr : HR K mg rho H h) {xs : List A} {vs : List L2.V} {W : Value → Option Addr → Hp → Prop} {Q : VK} (p : PostV K mg rho H W Q (newL xs h)) (r : RVs K mg rho H xs vs) : ∀ q, H q = none → Q (.ref q) (L2.upd H q (.lst vs)) := fun q hq => by
  obtain ⟨n, hr'⟩ := hr.new (o := .lst xs) (u := .lst vs) hq (.lst r)
  refine p (.ref q) (rho ++ [q]) _ n hr' (.ref ?_)
  rw [← hr.len, List.getElem?_append_right (Nat.le_refl _), Nat.sub_self]
  rfl
/-- a new tuple is handed back -/
theorem newT_ok (hr : HR K mg rho H h) {xs : List A} {vs : List L2.V} {W : Value → Option Addr → Hp → Prop} {Q : VK} (p : PostV K mg rho H W Q (.ok (.tup xs) h)) (r : RVs K mg rho H xs vs) : ∀ q, H q = none → Q (.ref q) (L2.upd H q (.tup vs)) := fun q hq => by
  obtain ⟨n, hr'⟩ := hr.tup (u := .tup vs) hq
  exact p (.ref q) rho _ n hr' (.tup L2.upd_same (r.mono hr n))
theorem RVs.rep {xs : List A} {vs : List L2.V} (r : RVs K mg rho H xs vs) : ∀ k : Nat, RVs K mg rho H (List.replicate k xs).flatten (List.replicate k vs).flatten
  | 0 => .nil
  | k + 1 => by rw [List.replicate_succ, List.replicate_succ, List.flatten_cons, List.flatten_cons]; exact r.append (RVs.rep r k)
abbrev rAddS : L2.R2 := fun x y H Q => ∃ i j, x = .str i ∧ y = .str j ∧ i.length + j.length ≤ sizeLine ∧ Q (.str (i ++ j)) H
def rAddA (K : PySem.W.Frag) : L2.R2 := fun x y H Q => L2.rI0 (fun i j => .int (i + j)) x y H Q ∨ (rAddS x y H Q ∨ (L2.rCatA K x y H Q ∨ L2.rCat x y H Q))
theorem op_addA {X : Cx} : L2.OpR X (binaryOp .Add) (rAddA X.K) := L2.op_add.or (L2.op_add_str.or (L2.op_catA.or L2.op_cat))
theorem rf_add : Rf2 K mg (rAddA K) addA := by
  intro rho H h a b x y W Q hr ra rb p
  unfold addA at p
  split at p
  · cases ra; cases rb
    exact .inl ⟨_, _, rfl, rfl, p.here hr (.int _)⟩
  · cases ra; cases rb
    split at p
    · rename_i hz
      exact .inr (.inl ⟨_, _, rfl, rfl, hz, p.here hr (.str _)⟩)
    · exact p.elim
  · cases ra with
    | tup ha r1 =>
      cases rb with
      | tup hb r2 =>
        split at p
        · rename_i hz
          have z1 := r1.length
          have z2 := r2.length
          refine .inr (.inr (.inl ⟨_, _, _, _, rfl, rfl, .of ha, .of hb, by omega, fun e => ?_, fun n e => ?_, fun n1 n2 q hq => ?_⟩))
          · subst e; cases r1
            exact p.here hr (.tup hb r2)
          · subst e; cases r2
            rw [List.append_nil] at p
            exact p.here hr (.tup ha r1)
          · exact newT_ok hr p (r1.append r2) q hq
        · exact p.elim
  · split at p
    · rename_i xs ys e1 e2
      split at p
      · rename_i hz
        obtain ⟨n, q, vs, _, rfl, _, _, h1, r1⟩ := lstOf_get hr e1 ra
        obtain ⟨m, q2, us, _, rfl, _, _, h2, r2⟩ := lstOf_get hr e2 rb
        have z1 := r1.length
        have z2 := r2.length
        exact .inr (.inr (.inr ⟨_, _, vs, us, rfl, rfl, h1, h2, by omega, newL_ok hr p (r1.append r2)⟩))
      · exact p.elim
    · exact p.elim
  · exact p.elim
theorem rf_int {C : Int → Int → Prop} {f : Int → Int → Int} {g : Int → Int → Option Int} (hg : ∀ i j k, g i j = some k → C i j ∧ k = f i j) : Rf2 K mg (L2.rI C fun i j => .int (f i j)) (intA g) := by
  intro rho H h a b x y W Q hr ra rb p
  unfold intA at p
  split at p
  · cases ra; cases rb
    split at p
    · rename_i i j k e
      obtain ⟨c, rfl⟩ := hg _ _ _ e
      exact ⟨_, _, rfl, rfl, c, p.here hr (.int _)⟩
    · exact p.elim
  · exact p.elim
theorem rf_int0 {f : Int → Int → Int} {g : Int → Int → Option Int} (hg : ∀ i j k, g i j = some k → k = f i j) : Rf2 K mg (L2.rI0 fun i j => .int (f i j)) (intA g) := by
  intro rho H h a b x y W Q hr ra rb p
  unfold intA at p
  split at p
  · cases ra; cases rb
    split at p
    · rename_i i j k e
      obtain rfl := hg _ _ _ e
      exact ⟨_, _, rfl, rfl, p.here hr (.int _)⟩
    · exact p.elim
  · exact p.elim
theorem mulI_of {i j k : Int} (h : mulI i j = some k) : L2.CMulW i j ∧ k = i * j := by
  unfold mulI at h
  split at h
  · rename_i c; exact ⟨c, (Option.some.inj h).symm⟩
  · cases h
theorem divI_of {i j k : Int} (h : divI i j = some k) : L2.CDivW i j ∧ k = i / j := by
  unfold divI at h
  split at h
  · rename_i c; exact ⟨c, (Option.some.inj h).symm⟩
  · cases h
theorem modI_of {i j k : Int} (h : modI i j = some k) : 0 < j ∧ k = i % j := by
  unfold modI at h
  split at h
  · rename_i c; exact ⟨c, (Option.some.inj h).symm⟩
  · cases h
def CPowW (i j : Int) : Prop := 0 ≤ j ∧ (Builtin.Int.intBits i : Int) * j ≤ 2 ^ 27
theorem powI_of {i j k : Int} (h : powI i j = some k) : CPowW i j ∧ k = i ^ j.toNat := by
  unfold powI at h
  split at h
  · rename_i c; exact ⟨c, (Option.some.inj h).symm⟩
  · cases h
theorem op_powW {X : Cx} : L2.OpR X (binaryOp .Pow) (L2.rI CPowW fun i j => .int (i ^ j.toNat)) := L2.opI fun _ _ _ _ _ _ _ hc q => PyProof.Rows.pow_int hc.1 hc.2 q
theorem rf_sub : Rf2 K mg (L2.rI0 fun i j => .int (i - j)) (intA subI) := rf_int0 fun _ _ _ h => (Option.some.inj h).symm
theorem rf_div : Rf2 K mg (L2.rI L2.CDivW fun i j => .int (i / j)) (intA divI) := rf_int fun _ _ _ h => divI_of h
theorem rf_mod : Rf2 K mg (L2.rI (fun _ j => 0 < j) fun i j => .int (i % j)) (intA modI) := rf_int fun _ _ _ h => modI_of h
theorem rf_pow : Rf2 K mg (L2.rI CPowW fun i j => .int (i ^ j.toNat)) (intA powI) := rf_int fun _ _ _ h => powI_of h
def rMulA (K : PySem.W.Frag) : L2.R2 := fun x y H Q => L2.rI L2.CMulW (fun i j => .int (i * j)) x y H Q ∨ (L2.rRep x y H Q ∨ L2.rRepT K x y H Q)
theorem op_mulA {X : Cx} : L2.OpR X (binaryOp .Mult) (rMulA X.K) := L2.op_mulW.or (L2.op_rep.or L2.op_repT)
theorem rf_mul : Rf2 K mg (rMulA K) mulA := by
  intro rho H h a b x y W Q hr ra rb p
  unfold mulA at p
  split at p
  · cases ra; cases rb
    split at p
    · rename_i i j k e
      obtain ⟨c, rfl⟩ := mulI_of e
      exact .inl ⟨_, _, rfl, rfl, c, p.here hr (.int _)⟩
    · exact p.elim
  · cases rb
    split at p
    · rename_i xs e
      split at p
      · rename_i hz
        obtain ⟨n, q, vs, _, rfl, _, _, h1, r1⟩ := lstOf_get hr e ra
        have z1 := r1.length
        exact .inr (.inl ⟨_, _, vs, rfl, rfl, h1, hz.1, hz.2.1, by rw [← z1]; exact hz.2.2, newL_ok hr p (r1.rep _)⟩)
      · exact p.elim
    · exact p.elim
  · cases rb
    cases ra with
    | tup ha r1 =>
      split at p
      · rename_i hz
        have z1 := r1.length
        refine .inr (.inr ⟨_, _, _, rfl, rfl, .of ha, fun e => ?_, hz.2.1, hz.2.2.1, by omega, newT_ok hr p (r1.rep _)⟩)
        subst e; cases r1; exact hz.1 rfl
      · exact p.elim
  · exact p.elim
theorem rf_neg : Rf1 K mg (L2.rU fun i => .int (-i)) (fun a h => match a with | .int i => .ok (.int (-i)) h | _ => .no) := by
  intro rho H h a x W Q hr ra p
  cases ra with
  | int i => exact ⟨i, rfl, p.here hr (.int _)⟩
  | _ => exact p.elim
end
def negA : A → Hs → R A := fun a h => match a with | .int i => .ok (.int (-i)) h | _ => .no

/-! ### comparisons -/
def cmpI (q : Int → Int → Bool) : O2 := fun a b h => match a, b with
  | .int i, .int j => .ok (.bl (q i j)) h
  | _, _ => .no
section
variable {K : PySem.W.Frag} {mg : Str → Option Value} {rho rho' : List Addr} {H H' : Hp} {h h' : Hs}
theorem rf_cmp {q : Int → Int → Bool} : Rf2 K mg (L2.rI0 fun i j => .bl (q i j)) (cmpI q) := by
  intro rho H h a b x y W Q hr ra rb p
  unfold cmpI at p
  split at p
  · cases ra; cases rb
    exact ⟨_, _, rfl, rfl, p.here hr (.bl _)⟩
  · exact p.elim
end
abbrev qlt (i j : Int) : Bool := decide (i < j)
abbrev qle (i j : Int) : Bool := decide (i ≤ j)
abbrev qgt (i j : Int) : Bool := decide (j < i)
abbrev qge (i j : Int) : Bool := decide (j ≤ i)
/-! data as a whole -/
mutual
def toDw (f : Nat → Option PyData) : A → Option PyData
  | .non => some .none
  | .bl b => some (.bool b)
  | .int i => some (.int i)
  | .str x => some (.str x)
  | .tup xs => (toDws f xs).map .tuple
  | .rol xs => (toDws f xs).map .list
  | .ref n => f n
  | .glo _ => none
  | .ty _ => none
def toDws (f : Nat → Option PyData) : List A → Option (List PyData)
  | [] => some []
  | a :: as => (toDw f a).bind fun d => (toDws f as).map fun ds => d :: ds
end
def refD : Nat → Hs → Nat → Option PyData
  | 0, _, _ => none
  | k + 1, h, n => match h[n]? with
    | some (.lst xs) => (toDws (refD k h) xs).map .list
    | _ => none
def toD (h : Hs) (a : A) : Option PyData := toDw (refD 6 h) a
section
variable {K : PySem.W.Frag} {mg : Str → Option Value} {rho rho' : List Addr} {H H' : Hp} {h h' : Hs}
mutual
theorem toDw_get {f : Nat → Option PyData} (hf : ∀ n d p, f n = some d → rho[n]? = some p → L2.Dp K H (.ref p) d) : ∀ {a : A} {d : PyData} {v : L2.V}, toDw f a = some d → RV K mg rho H a v → L2.Dp K H v d
  | .non, _, _, e, r => by cases r; rw [toDw] at e; cases e; exact .non
  | .bl b, _, _, e, r => by cases r; rw [toDw] at e; cases e; exact .bl b
  | .int i, _, _, e, r => by cases r; rw [toDw] at e; cases e; exact .int i
  | .str x, _, _, e, r => by cases r; rw [toDw] at e; cases e; exact .str x
  | .tup xs, _, _, e, r => by
    cases r with
    | tup h1 h2 =>
      rw [toDw] at e
      cases q : toDws f xs with
      | none => rw [q] at e; cases e
      | some ds => rw [q] at e; cases e; exact .tup (.of h1) (toDws_get hf q h2)
  | .rol xs, _, _, e, r => by
    cases r with
    | rol h1 h2 =>
      rw [toDw] at e
      cases q : toDws f xs with
      | none => rw [q] at e; cases e
      | some ds =>
        rw [q] at e; cases e
        refine .lst ?_ (toDws_get hf q h2)
        exact rol_sq h1
  | .ref n, _, _, e, r => by
    cases r with
    | ref hp => rw [toDw] at e; exact hf n _ _ e hp
  | .glo _, _, _, e, _ => by rw [toDw] at e; cases e
  | .ty _, _, _, e, _ => by rw [toDw] at e; cases e
theorem toDws_get {f : Nat → Option PyData} (hf : ∀ n d p, f n = some d → rho[n]? = some p → L2.Dp K H (.ref p) d) : ∀ {as : List A} {ds : List PyData} {vs : List L2.V}, toDws f as = some ds → RVs K mg rho H as vs → L2.DpAll K H vs ds
  | [], _, _, e, r => by cases r; rw [toDws] at e; cases e; exact .nil
  | a :: as, _, _, e, r => by
    cases r with
    | cons r1 r2 =>
      rw [toDws] at e
      cases q : toDw f a with
      | none => rw [q] at e; cases e
      | some d =>
        rw [q] at e
        cases q2 : toDws f as with
        | none => rw [q2] at e; cases e
        | some ds => rw [q2] at e; cases e; exact .cons (toDw_get hf q r1) (toDws_get hf q2 r2)
end
theorem refD_get (hr : HR K mg rho H h) : ∀ (k : Nat) {n : Nat} {d : PyData} {p : Addr}, refD k h n = some d → rho[n]? = some p → L2.Dp K H (.ref p) d
  | 0, _, _, _, e, _ => by cases e
  | k + 1, n, d, p, e, hp => by
    rw [refD] at e
    cases q : h[n]? with
    | none => rw [q] at e; cases e
    | some o =>
      rw [q] at e
      cases o with
      | dK _ => cases e
      | dT _ => cases e
      | lst xs =>
        simp only at e
        cases q2 : toDws (refD k h) xs with
        | none => rw [q2] at e; cases e
        | some ds =>
          rw [q2] at e; cases e
          obtain ⟨vs, h1, h2⟩ := hr.lst hp q
          exact .lst (.of h1) (toDws_get (fun n d p e hp => refD_get hr k e hp) q2 h2)
theorem toD_get (hr : HR K mg rho H h) {a : A} {d : PyData} {v : L2.V} (e : toD h a = some d) (r : RV K mg rho H a v) : L2.Dp K H v d := toDw_get (fun n d p e hp => refD_get hr 6 e hp) e r
end
def eqA (neg : Bool) : O2 := fun a b h => match toD h a, toD h b with
  | some d, some e => if SeqAt.shaped d && SeqAt.shaped e then .ok (.bl (if neg then !PyData.eqv d e else PyData.eqv d e)) h else .no
  | _, _ => .no
section
variable {K : PySem.W.Frag} {mg : Str → Option Value} {rho rho' : List Addr} {H H' : Hp} {h h' : Hs}
theorem rf_eq : Rf2 K mg (L2.rEqD K) (eqA false) := by
  intro rho H h a b x y W Q hr ra rb p
  unfold eqA at p
  split at p
  · rename_i d e e1 e2
    split at p
    · rename_i hs
      rw [Bool.and_eq_true] at hs
      exact ⟨d, e, toD_get hr e1 ra, toD_get hr e2 rb, hs.1, hs.2, p.here hr (.bl _)⟩
    · exact p.elim
  · exact p.elim
theorem rf_ne : Rf2 K mg (L2.rNeD K) (eqA true) := by
  intro rho H h a b x y W Q hr ra rb p
  unfold eqA at p
  split at p
  · rename_i d e e1 e2
    split at p
    · rename_i hs
      rw [Bool.and_eq_true] at hs
      exact ⟨d, e, toD_get hr e1 ra, toD_get hr e2 rb, hs.1, hs.2, p.here hr (.bl _)⟩
    · exact p.elim
  · exact p.elim
end
/-- x in a sequence of flat things; a text in a text -/
def flatA : A → Option L2.V
  | .non => some .non
  | .bl b => some (.bl b)
  | .int i => some (.int i)
  | .str x => some (.str x)
  | _ => none
def flatsA : List A → Option (List L2.V)
  | [] => some []
  | a :: as => (flatA a).bind fun v => (flatsA as).map fun vs => v :: vs
def inSeq (neg : Bool) : O2 := fun a b h => match a, b with
  | .str i, .str j => .ok (.bl (if neg then !(!(Builtin.Str.occurrences j i 0 j.length 1).isEmpty) else !(Builtin.Str.occurrences j i 0 j.length 1).isEmpty)) h
  | a, b => match flatA a, (seqOf h b).bind flatsA with
    | some x, some xs => .ok (.bl (if neg then !L2.inV x xs else L2.inV x xs)) h
    | _, _ => .no
section
variable {K : PySem.W.Frag} {mg : Str → Option Value} {rho rho' : List Addr} {H H' : Hp} {h h' : Hs}
theorem flatA_get {a : A} {x v : L2.V} (e : flatA a = some x) (r : RV K mg rho H a v) : v = x ∧ L2.flatV x = true := by
  cases r <;> first
    | (cases e; exact ⟨rfl, rfl⟩)
    | cases e
theorem flatsA_get : ∀ {as : List A} {xs vs : List L2.V}, flatsA as = some xs → RVs K mg rho H as vs → vs = xs ∧ xs.all L2.flatV = true
  | [], _, _, e, r => by cases e; cases r; exact ⟨rfl, rfl⟩
  | a :: as, xs, vs, e, r => by
    cases r with
    | cons r1 r2 =>
      rw [flatsA] at e
      cases q : flatA a with
      | none => rw [q] at e; cases e
      | some x =>
        rw [q] at e
        cases q2 : flatsA as with
        | none => rw [q2] at e; cases e
        | some ys =>
          rw [q2] at e; cases e
          obtain ⟨rfl, f1⟩ := flatA_get q r1
          obtain ⟨rfl, f2⟩ := flatsA_get q2 r2
          exact ⟨rfl, by rw [List.all_cons, f1, f2]; rfl⟩
abbrev rInS (neg : Bool) : L2.R2 := fun x y H Q => ∃ i j, x = .str i ∧ y = .str j ∧ Q (.bl (if neg then !(!(Builtin.Str.occurrences j i 0 j.length 1).isEmpty) else !(Builtin.Str.occurrences j i 0 j.length 1).isEmpty)) H
def rInA (K : PySem.W.Frag) (neg : Bool) : L2.R2 := fun x y H Q => rInS neg x y H Q ∨ L2.rIn K neg x y H Q
theorem op_inA {X : Cx} : L2.OpR X (compareOp .In) (rInA X.K false) := L2.op_in_str.or L2.op_in_seq
theorem op_ninA {X : Cx} : L2.OpR X (compareOp .NotIn) (rInA X.K true) := L2.op_notin_str.or L2.op_notIn_seq
theorem rf_in {neg : Bool} : Rf2 K mg (rInA K neg) (inSeq neg) := by
  intro rho H h a b x y W Q hr ra rb p
  unfold inSeq at p
  split at p
  · cases ra; cases rb
    exact .inl ⟨_, _, rfl, rfl, p.here hr (.bl _)⟩
  · split at p
    · rename_i xv xs e1 e2
      obtain ⟨rfl, f1⟩ := flatA_get e1 ra
      cases q : seqOf h b with
      | none => rw [q] at e2; cases e2
      | some ys =>
        rw [q] at e2
        obtain ⟨pp, vs, rfl, r1, hq⟩ := seqOf_get hr q rb
        obtain ⟨rfl, f2⟩ := flatsA_get e2 r1
        exact .inr ⟨pp, vs, rfl, hq, f1, f2, p.here hr (.bl _)⟩
    · exact p.elim
end
end Dn

set_option maxHeartbeats 4000000
/-! Dn4: displays, subscripts, slices, calls of defs, of built-ins, methods of lists and texts. -/
namespace Dn
open PySem
open L2 (PE PT PA PS PSs PG PGs PI Cx WX Takes HO Hp VK)

/-! ### displays -/
def tupD (f : DA) : DE := fun n s h => (f n s h).bind fun as h1 => if as.length ≤ sizeLine then .ok (.tup as) h1 else .no
def lstD (f : DA) : DE := fun n s h => (f n s h).bind fun as h1 => if as.length ≤ sizeLine then newL as h1 else .no
section
variable {X : Cx} {W : WX} {e : Expr} {es : List Expr} {pos : Pos} {f : DA}
theorem d_tup {x1} (hf : PAd X W es f) : PEd X W (.Tuple es x1 pos) (tupD f) := by
  refine pe_weak (L2.pe_tup hf) fun sg H Q w => ?_
  obtain ⟨n, rho, s, h, hr, l, p⟩ := w
  refine ⟨n, rho, s, h, hr, l, Post.bind p fun as h1 vs rho1 H1 n1 hr1 r1 p1 => ?_⟩
  split at p1
  · rename_i hz
    exact ⟨by rw [← r1.length]; exact hz, newT_ok hr1 p1 r1⟩
  · exact p1.elim
theorem d_lst (hf : PAd X W es f) : PEd X W (.List es pos) (lstD f) := by
  refine pe_weak (L2.pe_lst hf) fun sg H Q w => ?_
  obtain ⟨n, rho, s, h, hr, l, p⟩ := w
  refine ⟨n, rho, s, h, hr, l, Post.bind p fun as h1 vs rho1 H1 n1 hr1 r1 p1 => ?_⟩
  split at p1
  · rename_i hz
    exact ⟨by rw [← r1.length]; exact hz, newL_ok hr1 p1 r1⟩
  · exact p1.elim
end

/-! ### calls of defs -/
def spD (K : PySem.W.Frag) (mg : Str → Option Value) (np : Nat) (G : DF) : L2.Sp := fun vs H Q E => vs.length = np ∧ ∃ n rho h as, HR K mg rho H h ∧ RVs K mg rho H as vs ∧ PostV K mg rho H E Q (G n as h)
def callD (np : Nat) (G : DF) (f : DA) : DE := fun n s h => (f n s h).bind fun as h1 => if as.length = np then G n as h1 else .no
abbrev FnD (P : Program) (w : World) (K : PySem.W.Frag) (mg : Str → Option Value) (base : Heap) (k : Nat) (f : Addr) (fd : FuncData) (ps : List Str) (G : DF) : Prop := L2.FnOk P w K mg base (L2.CX P w) k f fd ps (spD K mg ps.length G)
/-- a def's body, as a function of its arguments -/
def bodyD (np nn : Nat) (b : DS) : DF := fun n as h => if as.length = np then match b n (as.map some ++ List.replicate (nn - np) none) h with
  | .nx _ h1 => .ok .non h1
  | .rt a h1 => .ok a h1
  | .ex x _ h1 => .ex x h1
  | _ => .no
  else .no
section
variable {K : PySem.W.Frag} {mg : Str → Option Value} {rho : List Addr} {H : Hp} {h : Hs}
theorem RVs.get_map : ∀ {as : List A} {vs : List L2.V}, RVs K mg rho H as vs → ∀ (i : Nat) (a : A), (as.map some)[i]? = some (some a) → ∃ v, (vs.map some)[i]? = some (some v) ∧ RV K mg rho H a v
  | _, _, .nil, _, _, e => by simp at e
  | _, _, .cons r _, 0, a, e => by
    simp only [List.map_cons, List.getElem?_cons_zero, Option.some.injEq] at e
    subst e
    exact ⟨_, rfl, r⟩
  | _, _, .cons _ t, i + 1, a, e => RVs.get_map t i a (by simpa using e)
theorem SlR.start {as : List A} {vs : List L2.V} (r : RVs K mg rho H as vs) (N : List Str) (nn np : Nat) (hn : N.length = nn) (hp : as.length = np) (h1 : np ≤ nn) : SlR K mg rho H (as.map some ++ List.replicate (nn - np) none) (L2.start N vs) := by
  have z := r.length
  refine ⟨?_, fun i a e => ?_⟩
  · unfold L2.start
    rw [List.length_append, List.length_append, List.length_map, List.length_map, List.length_replicate, List.length_replicate, ← z, hn, hp]
  · unfold L2.start
    by_cases hi : i < as.length
    · rw [List.getElem?_append_left (by rw [List.length_map]; exact hi)] at e
      rw [List.getElem?_append_left (by rw [List.length_map, ← z]; exact hi)]
      exact r.get_map i a e
    · rw [List.getElem?_append_right (by rw [List.length_map]; omega)] at e
      have := List.mem_of_getElem? e
      rw [List.mem_replicate] at this
      exact absurd this.2 (by simp)
end
section
variable {X : Cx} {W : WX} {e : Expr} {es : List Expr} {pos p : Pos} {f : DA}
theorem d_call {k : Nat} {g : Addr} {fd : FuncData} {ps : List Str} {G : DF} {x : Str} (F : FnD X.prog X.w X.K X.mg X.base k g fd ps G) (hr : L2.Room k X.A) (hg : L2.Gl X x) (hm : X.mg x = some (.ref g)) (hk : PySem.W.keepIn X.K (.ref g) = true)
    (hb : L2.Binds X.K fd ps []) (tk : Takes X W) (ha : PAd X W (e :: es) f) (hdb : (x == ("__debug__" : Str)) = false := by decide)
    (he : starEach (e :: es) X.env = (false, eval e X.env) :: starEach es X.env := by rfl) (hpl : (backTo pos (starEach es X.env)).any (·.1) = false := by rfl) : PEd X W (.Call (.Name x p) (e :: es) [] pos) (callD ps.length G f) := by
  refine pe_weak (L2.pe_callS (E := L2.WE W) F hr hg hm hk hb (fun sg => L2.passAt tk sg) ha hdb he hpl) fun sg H Q w => ?_
  obtain ⟨n, rho, s, h, hr, l, p⟩ := w
  refine ⟨n, rho, s, h, hr, l, Post.bind p fun as h1 vs rho1 H1 n1 hr1 r1 p1 => ?_⟩
  split at p1
  · rename_i hz
    exact ⟨by rw [← r1.length]; exact hz, n, rho1, h1, as, hr1, r1, p1⟩
  · exact p1.elim
theorem d_call0 {k : Nat} {g : Addr} {fd : FuncData} {G : DF} {x : Str} (F : FnD X.prog X.w X.K X.mg X.base k g fd [] G) (hr : L2.Room k X.A) (hg : L2.Gl X x) (hm : X.mg x = some (.ref g)) (hk : PySem.W.keepIn X.K (.ref g) = true)
    (hb : L2.Binds X.K fd [] []) (tk : Takes X W) (hdb : (x == ("__debug__" : Str)) = false := by decide) : PEd X W (.Call (.Name x p) [] [] pos) (callD 0 G nilD) := by
  refine ⟨fun pins s sg H Q I w => ?_⟩
  obtain ⟨n, rho, sl, h, hr', l, p⟩ := w
  refine wpAny_Call_Name_kw (L2.ld_glob I hg hm ?_ hdb)
  refine PySem.W.callWith_K0 I.kIn hk (L2.run_fnS (us := []) (E := L2.WE W) F hr hb (L2.passAt tk sg) I .nil ⟨rfl, n, rho, h, [], hr', .nil, p⟩)
end
section
variable {P : Program} {w : World} {K : PySem.W.Frag} {mg : Str → Option Value} {base : Heap}
/-- THE RULE for a def: its body's function -/
theorem fn_ok {x qual : Str} {st : Stmt} {f : Addr} {fd : FuncData} {N ps : List Str} {k : Nat} {b : DS} (F : L2.Fun K x qual st f fd) (S : L2.FnScope N ps (L2.defScope st)) (hl : ps.length ≤ N.length)
    (hb : ∀ (cdv : Value) (A : Around) (outer : List Env) (s : Shared) (H : Hp) (E : L2.XK), L2.Room k (A.deeper (PyProof.Rows.envOfC qual (L2.defScope st) s.heap.objs.size f cdv)) →
      PBd (L2.cxOf (L2.CX P w) P w K mg base N qual (L2.defScope st) f cdv A outer s H E) (fun cls d _ H => E cls d H) (L2.defBody st) b) : FnD P w K mg base (k + 1) f fd ps (bodyD ps.length N.length b) := by
  refine L2.Fun.okX F S (fun vs H Q E h => h.1) fun cdv A outer s H vs Q E hr h => ?_
  obtain ⟨hlen, n, rho, hh, as, hr', r, p⟩ := h
  refine ⟨_, hb cdv A outer s H E hr, n, rho, as.map some ++ List.replicate (N.length - ps.length) none, hh, hr', ?_, ?_⟩
  · exact SlR.start r N N.length ps.length rfl (by rw [r.length]; exact hlen) hl
  · unfold bodyD at p
    split at p
    · revert p
      cases b n (as.map some ++ List.replicate (N.length - ps.length) none) hh with
      | nx s1 h1 => intro p; exact fun sg rho1 H1 n1 hr1 l1 => p .non rho1 H1 n1 hr1 .non
      | rt a h1 => intro p; exact fun v rho1 H1 n1 hr1 r1 => p v rho1 H1 n1 hr1 r1
      | ex x s1 h1 => intro p; exact fun c d sg rho1 H1 n1 hr1 l1 xr => p c d rho1 H1 n1 hr1 xr
      | bk s1 h1 => intro p; exact p.elim
      | ct s1 h1 => intro p; exact p.elim
      | no => intro p; exact p.elim
    · exact p.elim
theorem fn_mono {f : Addr} {fd : FuncData} {ps : List Str} {j k : Nat} {G : DF} (F : FnD P w K mg base j f fd ps G) (h : j ≤ k) : FnD P w K mg base k f fd ps G := L2.FnOk.mono F h
end
end Dn

set_option maxHeartbeats 4000000
/-! Dn5: subscripts, slices, dicts, calls of built-ins, methods. -/
namespace Dn
open PySem
open L2 (PE PT PA PS PSs PG PGs PI Cx WX Takes HO Hp VK)

/-! ### tables -/
section
variable {k : Type} [DecidableEq k]
def valA {b : Type} (kvs : List (k × b)) (x : k) : Option b := (kvs.find? fun kv => decide (kv.1 = x)).map (·.2)
def putA {b : Type} (kvs : List (k × b)) (x : k) (v : b) : List (k × b) :=
  if (kvs.any fun kv => decide (kv.1 = x)) = true then kvs.map (fun kv => if kv.1 = x then (kv.1, v) else kv) else kvs ++ [(x, v)]
theorem valA_cons {b : Type} (y : k) (v : b) (r : List (k × b)) (x : k) : valA ((y, v) :: r) x = if y = x then some v else valA r x := by
  unfold valA
  rw [List.find?_cons]
  by_cases e : y = x
  · simp [e]
  · simp [e]
end
section
variable {K : PySem.W.Frag} {mg : Str → Option Value} {rho rho' : List Addr} {H H' : Hp} {h h' : Hs} {k : Type} [DecidableEq k]
theorem RKV.length {as : List (k × A)} {vs : List (k × L2.V)} (r : RKV K mg rho H as vs) : as.length = vs.length := by
  induction r with
  | nil => rfl
  | cons _ _ ih => rw [List.length_cons, List.length_cons, ih]
theorem RKV.val {as : List (k × A)} {vs : List (k × L2.V)} (r : RKV K mg rho H as vs) (x : k) : (valA as x = none ∧ L2.valV vs x = none) ∨ ∃ a v, valA as x = some a ∧ L2.valV vs x = some v ∧ RV K mg rho H a v := by
  induction r with
  | nil => exact .inl ⟨rfl, rfl⟩
  | @cons y a v as vs r1 _ ih =>
    by_cases e : y = x
    · refine .inr ⟨a, v, by rw [valA_cons, if_pos e], ?_, r1⟩
      exact L2.valV_pos (p := (y, v)) e
    · rw [valA_cons, if_neg e, L2.valV_neg (p := (y, v)) e]
      exact ih
theorem RKV.any {as : List (k × A)} {vs : List (k × L2.V)} (r : RKV K mg rho H as vs) (x : k) : (as.any fun kv => decide (kv.1 = x)) = (vs.any fun kv => decide (kv.1 = x)) := by
  induction r with
  | nil => rfl
  | cons _ _ ih => rw [List.any_cons, List.any_cons, ih]
theorem RKV.append {as bs : List (k × A)} {vs us : List (k × L2.V)} (r : RKV K mg rho H as vs) (q : RKV K mg rho H bs us) : RKV K mg rho H (as ++ bs) (vs ++ us) := by
  induction r with
  | nil => exact q
  | cons r1 _ ih => exact .cons r1 ih
theorem RKV.put {as : List (k × A)} {vs : List (k × L2.V)} (r : RKV K mg rho H as vs) (x : k) {a : A} {v : L2.V} (rv : RV K mg rho H a v) : RKV K mg rho H (putA as x a) (L2.putK vs x v) := by
  unfold putA L2.putK
  rw [r.any x]
  split
  · rename_i hh
    clear hh
    induction r with
    | nil => exact .nil
    | @cons y b u as vs r1 _ ih =>
      rw [List.map_cons, List.map_cons]
      by_cases e : y = x
      · simp only [e, if_true]
        exact .cons rv (by simpa only [e] using ih)
      · simp only [e, if_false]
        exact .cons r1 ih
  · exact r.append (.cons rv .nil)
theorem putA_len {b : Type} (as : List (k × b)) (x : k) (v : b) : (putA as x v).length ≤ as.length + 1 := by
  unfold putA
  split
  · rw [List.length_map]; omega
  · rw [List.length_append]; simp
end
def keyA : A → Option Key
  | .int i => some (.inl i)
  | .str x => some (.inr x)
  | _ => none
def keysA : List A → Option (List Key)
  | [] => some []
  | a :: as => (keyA a).bind fun k => (keysA as).map fun ks => k :: ks
def tkeyA : A → Option (List Key)
  | .tup xs => keysA xs
  | _ => none
section
variable {K : PySem.W.Frag} {mg : Str → Option Value} {rho rho' : List Addr} {H H' : Hp} {h h' : Hs}
theorem keyA_get {a : A} {x : Key} {v : L2.V} (e : keyA a = some x) (r : RV K mg rho H a v) : v = L2.kV x := by
  cases r <;> first
    | (cases e; rfl)
    | cases e
theorem keysA_get : ∀ {as : List A} {ks : List Key} {vs : List L2.V}, keysA as = some ks → RVs K mg rho H as vs → vs = ks.map L2.kV
  | [], _, _, e, r => by cases e; cases r; rfl
  | a :: as, ks, vs, e, r => by
    cases r with
    | cons r1 r2 =>
      rw [keysA] at e
      cases q : keyA a with
      | none => rw [q] at e; cases e
      | some x =>
        rw [q] at e
        cases q2 : keysA as with
        | none => rw [q2] at e; cases e
        | some ys => rw [q2] at e; cases e; rw [keyA_get q r1, keysA_get q2 r2]; rfl
theorem tkeyA_get {a : A} {ks : List Key} {v : L2.V} (e : tkeyA a = some ks) (r : RV K mg rho H a v) : ∃ p, v = .ref p ∧ H p = some (.tup (ks.map L2.kV)) := by
  cases r with
  | tup h1 h2 => obtain rfl := keysA_get e h2; exact ⟨_, rfl, h1⟩
  | _ => cases e
end
/-- what the dict a holds at b: none: no answer; some none: nothing there -/
def dgetA (h : Hs) (a b : A) : Option (Option A) := match a with
  | .ref n => match h[n]? with
    | some (.dK kvs) => (keyA b).map fun k => valA kvs k
    | some (.dT kvs) => (tkeyA b).map fun k => valA kvs k
    | _ => none
  | _ => none
/-- a[b] = c -/
def dputA (h : Hs) (a b c : A) : Option Hs := match a with
  | .ref n => match h[n]? with
    | some (.dK kvs) => (keyA b).bind fun k => if kvs.length < sizeLine then some (h.set n (.dK (putA kvs k c))) else none
    | some (.dT kvs) => (tkeyA b).bind fun k => if kvs.length < sizeLine then some (h.set n (.dT (putA kvs k c))) else none
    | _ => none
  | _ => none
section
variable {K : PySem.W.Frag} {mg : Str → Option Value} {rho rho' : List Addr} {H H' : Hp} {h h' : Hs}
theorem dgetA_get (hr : HR K mg rho H h) {a b : A} {x y : L2.V} {o : Option A} (e : dgetA h a b = some o) (ra : RV K mg rho H a x) (rb : RV K mg rho H b y) :
    ∃ p ov, x = .ref p ∧ L2.DGet H p y ov ∧ ((o = none ∧ ov = none) ∨ ∃ c v, o = some c ∧ ov = some v ∧ RV K mg rho H c v) := by
  cases ra with
  | ref hp =>
    rename_i n p
    unfold dgetA at e
    dsimp only at e
    cases q : h[n]? with
    | none => rw [q] at e; cases e
    | some ob =>
      rw [q] at e
      cases ob with
      | lst _ => cases e
      | dK kvs =>
        dsimp only at e
        cases q2 : keyA b with
        | none => rw [q2] at e; cases e
        | some k =>
          rw [q2] at e; cases e
          obtain ⟨vs, h1, h2⟩ := hr.dK hp q
          obtain rfl := keyA_get q2 rb
          refine ⟨p, _, rfl, .k h1, ?_⟩
          rcases h2.val k with ⟨e1, e2⟩ | ⟨c, v, e1, e2, r⟩
          · exact .inl ⟨e1, e2⟩
          · exact .inr ⟨c, v, e1, e2, r⟩
      | dT kvs =>
        dsimp only at e
        cases q2 : tkeyA b with
        | none => rw [q2] at e; cases e
        | some k =>
          rw [q2] at e; cases e
          obtain ⟨vs, h1, h2⟩ := hr.dT hp q
          obtain ⟨t, rfl, ht⟩ := tkeyA_get q2 rb
          refine ⟨p, _, rfl, .t h1 ht, ?_⟩
          rcases h2.val k with ⟨e1, e2⟩ | ⟨c, v, e1, e2, r⟩
          · exact .inl ⟨e1, e2⟩
          · exact .inr ⟨c, v, e1, e2, r⟩
  | _ => cases e
theorem dputA_get (hr : HR K mg rho H h) {a b c : A} {x y z : L2.V} {h' : Hs} (e : dputA h a b c = some h') (ra : RV K mg rho H a x) (rb : RV K mg rho H b y) (rc : RV K mg rho H c z) :
    ∃ p H', x = .ref p ∧ L2.DPut H p y z H' ∧ Nx rho H rho H' ∧ HR K mg rho H' h' := by
  cases ra with
  | ref hp =>
    rename_i n p
    unfold dputA at e
    dsimp only at e
    cases q : h[n]? with
    | none => rw [q] at e; cases e
    | some ob =>
      rw [q] at e
      cases ob with
      | lst _ => cases e
      | dK kvs =>
        dsimp only at e
        cases q2 : keyA b with
        | none => rw [q2] at e; cases e
        | some k =>
          rw [q2, Option.bind_some] at e
          split at e
          · rename_i hz
            cases e
            obtain ⟨vs, h1, h2⟩ := hr.dK hp q
            obtain rfl := keyA_get q2 rb
            obtain ⟨nx, hr'⟩ := hr.set (o := .dK (putA kvs k c)) (u := .dK (L2.putK vs k z)) hp (.dK (h2.put k rc))
            exact ⟨p, _, rfl, .k h1 (by rw [← h2.length]; exact hz), nx, hr'⟩
          · cases e
      | dT kvs =>
        dsimp only at e
        cases q2 : tkeyA b with
        | none => rw [q2] at e; cases e
        | some k =>
          rw [q2, Option.bind_some] at e
          split at e
          · rename_i hz
            cases e
            obtain ⟨vs, h1, h2⟩ := hr.dT hp q
            obtain ⟨t, rfl, ht⟩ := tkeyA_get q2 rb
            obtain ⟨nx, hr'⟩ := hr.set (o := .dT (putA kvs k c)) (u := .dT (L2.putK vs k z)) hp (.dT (h2.put k rc))
            exact ⟨p, _, rfl, .t h1 ht (by rw [← h2.length]; exact hz), nx, hr'⟩
          · cases e
  | _ => cases e
end

/-! ### subscripts -/
def isDict (h : Hs) : A → Bool
  | .ref n => match h[n]? with
    | some (.dK _) => true
    | some (.dT _) => true
    | _ => false
  | _ => false
def ixA : O2 := fun a b h => if isDict h a then (match dgetA h a b with
    | some (some c) => .ok c h
    | _ => .no)
  else match a, b with
    | .str z, .int i => if z.length ≤ sizeLine then (match L2.atI z.cps.toList i with
      | some c => .ok (.str ⟨#[c]⟩) h
      | none => .no) else .no
    | a, .int i => match seqOf h a with
      | some xs => (match L2.atI xs i with
        | some c => .ok c h
        | none => .no)
      | none => .no
    | _, _ => .no
section
variable {K : PySem.W.Frag} {mg : Str → Option Value} {rho rho' : List Addr} {H H' : Hp} {h h' : Hs}
theorem RVs.atI {as : List A} {vs : List L2.V} (r : RVs K mg rho H as vs) {i : Int} {a : A} (e : L2.atI as i = some a) : ∃ v, L2.atI vs i = some v ∧ RV K mg rho H a v := by
  unfold L2.atI at e ⊢
  rw [← r.length]
  cases q : L2.ixN as.length i with
  | none => rw [q] at e; cases e
  | some j => rw [q] at e; exact r.get e
def Rf2c (K : PySem.W.Frag) (mg : Str → Option Value) (c : A → Hs → Bool) (k : Bool) (r : L2.R2) (g : O2) : Prop := ∀ (rho : List Addr) (H : Hp) (h : Hs) (a b : A) (x y : L2.V) (W : Value → Option Addr → Hp → Prop) (Q : VK), HR K mg rho H h → RV K mg rho H a x → RV K mg rho H b y → c a h = k → PostV K mg rho H W Q (g a b h) → r x y H Q
theorem rf_ixs : Rf2c K mg (fun a h => isDict h a) false (L2.rIx K) ixA := by
  intro rho H h a b x y W Q hr ra rb hc p
  unfold ixA at p
  rw [if_neg (by rw [show isDict h a = false from hc]; exact Bool.false_ne_true)] at p
  split at p
  · cases ra; cases rb
    split at p
    · rename_i hz
      split at p
      · rename_i c e
        exact .inr (.inr ⟨_, _, c, rfl, rfl, hz, e, p.here hr (.str _)⟩)
      · exact p.elim
    · exact p.elim
  · cases rb
    split at p
    · rename_i xs e
      obtain ⟨q, vs, rfl, r1, hq⟩ := seqOf_get hr e ra
      split at p
      · rename_i c e2
        obtain ⟨v, e3, rv⟩ := r1.atI e2
        rcases hq with hq | hq
        · exact .inl ⟨q, vs, _, v, rfl, rfl, hq, e3, p.here hr rv⟩
        · exact .inr (.inl ⟨q, vs, _, v, rfl, rfl, hq, e3, p.here hr rv⟩)
      · exact p.elim
    · exact p.elim
  · exact p.elim
def rDGet : L2.R2 := fun x y H Q => ∃ a v, x = .ref a ∧ L2.DGet H a y (some v) ∧ Q v H
theorem rf_ixd : Rf2c K mg (fun a h => isDict h a) true rDGet ixA := by
  intro rho H h a b x y W Q hr ra rb hc p
  unfold ixA at p
  rw [if_pos (show isDict h a = true from hc)] at p
  split at p
  · rename_i c e
    obtain ⟨pp, ov, rfl, g, hh⟩ := dgetA_get hr e ra rb
    rcases hh with ⟨z, _⟩ | ⟨c', v, e1, e2, r⟩
    · cases z
    · cases e1; subst e2
      exact ⟨pp, v, rfl, g, p.here hr r⟩
  · exact p.elim
end
/-- the first operand's kind, behind both operands, as the function tells it -/
def kindOf2 (c : A → Hs → Bool) (fa fb : DE) (n : Nat) (s : Sl) (h : Hs) : Bool := match fa n s h with
  | .ok a h1 => match fb n s h1 with
    | .ok _ h2 => c a h2
    | _ => false
  | _ => false
section
variable {X : Cx} {W : WX} {e a b c : Expr} {pos : Pos} {fa fb fc : DE} {g : O2} {r r' : L2.R2}
theorem tOp_one {cc : A → Hs → Bool} {k : Bool} (rf : Rf2c X.K X.mg cc k r g) {sg : L2.St} {H : Hp} {Q : VK} {n : Nat} {rho : List Addr} {s : Sl} {h : Hs} (hk : kindOf2 cc fa fb n s h = k) (hr : HR X.K X.mg rho H h) (l : SlR X.K X.mg rho H s sg)
    (p : PostV X.K X.mg rho H (fun c d H' => W c d sg H') Q (bin2 g fa fb n s h)) : L2.tOp r (tE X.K X.mg W fa) (tE X.K X.mg W fb) sg H Q := by
  refine ⟨n, rho, s, h, hr, l, Post.bindE p fun x h1 v rho1 H1 q1 n1 hr1 r1 p1 => ?_⟩
  refine ⟨n, rho1, s, h1, hr1, l.mono hr n1, Post.bindE p1 fun y h2 u rho2 H2 q2 n2 hr2 r2 p2 => ?_⟩
  refine rf rho2 H2 h2 x y v u _ Q hr2 (r1.mono hr1 n2) r2 ?_ p2
  rw [← hk]
  unfold kindOf2
  rw [q1]
  dsimp only
  rw [q2]
theorem tOp_two {cc : A → Hs → Bool} (rf : Rf2c X.K X.mg cc false r g) (rf' : Rf2c X.K X.mg cc true r' g) : ∀ sg H Q, tE X.K X.mg W (bin2 g fa fb) sg H Q →
    L2.tOp r (tE X.K X.mg W fa) (tE X.K X.mg W fb) sg H Q ∨ L2.tOp r' (tE X.K X.mg W fa) (tE X.K X.mg W fb) sg H Q := fun sg H Q w => by
  obtain ⟨n, rho, s, h, hr, l, p⟩ := w
  cases q : kindOf2 cc fa fb n s h with
  | false => exact .inl (tOp_one rf q hr l p)
  | true => exact .inr (tOp_one rf' q hr l p)
theorem d_ix (hu : X.A.units + 1 < cLine) (ha : PEd X W a fa) (hb : PEd X W b fb) (hs : L2.PlainIx b := by intro _ _; rfl) (hs2 : L2.NoSl b := by intro _ _; rfl) : PEd X W (.Subscript a b pos) (bin2 ixA fa fb) :=
  pe_weak (pe_or (L2.pe_ix L2.ix_seq ha hb hs) (L2.pe_dget hu ha hb hs2)) fun sg H Q w => tOp_two rf_ixs rf_ixd sg H Q w
end

/-! ### in, not in: sequences, texts, dicts -/
def inA (neg : Bool) : O2 := fun a b h => if isDict h b then (match dgetA h b a with
    | some o => .ok (.bl (if neg then !o.isSome else o.isSome)) h
    | none => .no)
  else inSeq neg a b h
def kindOf2b (c : A → Hs → Bool) (fa fb : DE) (n : Nat) (s : Sl) (h : Hs) : Bool := match fa n s h with
  | .ok _ h1 => match fb n s h1 with
    | .ok b h2 => c b h2
    | _ => false
  | _ => false
def Rf2d (K : PySem.W.Frag) (mg : Str → Option Value) (c : A → Hs → Bool) (k : Bool) (r : L2.R2) (g : O2) : Prop := ∀ (rho : List Addr) (H : Hp) (h : Hs) (a b : A) (x y : L2.V) (W : Value → Option Addr → Hp → Prop) (Q : VK), HR K mg rho H h → RV K mg rho H a x → RV K mg rho H b y → c b h = k → PostV K mg rho H W Q (g a b h) → r x y H Q
section
variable {K : PySem.W.Frag} {mg : Str → Option Value}
def rDIn (neg : Bool) : L2.R2 := fun y x H Q => ∃ a o, x = .ref a ∧ L2.DGet H a y o ∧ Q (.bl (if neg then !o.isSome else o.isSome)) H
theorem rf_ins {neg : Bool} : Rf2d K mg (fun a h => isDict h a) false (rInA K neg) (inA neg) := by
  intro rho H h a b x y W Q hr ra rb hc p
  unfold inA at p
  rw [if_neg (by rw [show isDict h b = false from hc]; exact Bool.false_ne_true)] at p
  exact rf_in rho H h a b x y W Q hr ra rb p
theorem rf_ind {neg : Bool} : Rf2d K mg (fun a h => isDict h a) true (rDIn neg) (inA neg) := by
  intro rho H h a b x y W Q hr ra rb hc p
  unfold inA at p
  rw [if_pos (show isDict h b = true from hc)] at p
  split at p
  · rename_i o e
    obtain ⟨pp, ov, rfl, g, hh⟩ := dgetA_get hr e rb ra
    refine ⟨pp, ov, rfl, g, ?_⟩
    rcases hh with ⟨rfl, rfl⟩ | ⟨c', v, rfl, rfl, r⟩
    · exact p.here hr (.bl _)
    · exact p.here hr (.bl _)
  · exact p.elim
end
section
variable {X : Cx} {W : WX} {e a b c : Expr} {pos : Pos} {fa fb fc : DE} {g : O2} {r r' : L2.R2}
theorem tOp_oneb {cc : A → Hs → Bool} {k : Bool} (rf : Rf2d X.K X.mg cc k r g) {sg : L2.St} {H : Hp} {Q : VK} {n : Nat} {rho : List Addr} {s : Sl} {h : Hs} (hk : kindOf2b cc fa fb n s h = k) (hr : HR X.K X.mg rho H h) (l : SlR X.K X.mg rho H s sg)
    (p : PostV X.K X.mg rho H (fun c d H' => W c d sg H') Q (bin2 g fa fb n s h)) : L2.tOp r (tE X.K X.mg W fa) (tE X.K X.mg W fb) sg H Q := by
  refine ⟨n, rho, s, h, hr, l, Post.bindE p fun x h1 v rho1 H1 q1 n1 hr1 r1 p1 => ?_⟩
  refine ⟨n, rho1, s, h1, hr1, l.mono hr n1, Post.bindE p1 fun y h2 u rho2 H2 q2 n2 hr2 r2 p2 => ?_⟩
  refine rf rho2 H2 h2 x y v u _ Q hr2 (r1.mono hr1 n2) r2 ?_ p2
  rw [← hk]
  unfold kindOf2b
  rw [q1]
  dsimp only
  rw [q2]
theorem tOp_twob {cc : A → Hs → Bool} (rf : Rf2d X.K X.mg cc false r g) (rf' : Rf2d X.K X.mg cc true r' g) : ∀ sg H Q, tE X.K X.mg W (bin2 g fa fb) sg H Q →
    L2.tOp r (tE X.K X.mg W fa) (tE X.K X.mg W fb) sg H Q ∨ L2.tOp r' (tE X.K X.mg W fa) (tE X.K X.mg W fb) sg H Q := fun sg H Q w => by
  obtain ⟨n, rho, s, h, hr, l, p⟩ := w
  cases q : kindOf2b cc fa fb n s h with
  | false => exact .inl (tOp_oneb rf q hr l p)
  | true => exact .inr (tOp_oneb rf' q hr l p)
theorem d_in (hu : X.A.units + 1 < cLine) (ha : PEd X W a fa) (hb : PEd X W b fb) (hm : behindInMarks .In b = false := by rfl) : PEd X W (.Compare a [.In] [b] pos) (bin2 (inA false) fa fb) :=
  pe_weak (pe_or (L2.pe_cmpR op_inA ha hb hm) (L2.pe_cmp (L2.pc_din hu ha hb) hm)) fun sg H Q w => tOp_twob rf_ins rf_ind sg H Q w
theorem d_nin (hu : X.A.units + 1 < cLine) (ha : PEd X W a fa) (hb : PEd X W b fb) (hm : behindInMarks .NotIn b = false := by rfl) : PEd X W (.Compare a [.NotIn] [b] pos) (bin2 (inA true) fa fb) :=
  pe_weak (pe_or (L2.pe_cmpR op_ninA ha hb hm) (L2.pe_cmp (L2.pc_dnotin hu ha hb) hm)) fun sg H Q w => tOp_twob rf_ins rf_ind sg H Q w
theorem pt_or {t t' : L2.TT} (h : PT X e t) (h' : PT X e t') : PT X e (fun sg H Q => t sg H Q ∨ t' sg H Q) := ⟨fun pins s sg H Q I w => w.elim (h.run pins s sg H Q I) (h'.run pins s sg H Q I)⟩
theorem t_in (hu : X.A.units + 1 < cLine) (ha : PEd X W a fa) (hb : PEd X W b fb) (hm : behindInMarks .In b = false := by rfl) : PTd X W (.Compare a [.In] [b] pos) (testD (bin2 (inA false) fa fb)) := by
  refine pt_weak (pt_or (L2.pt_cmpR op_inA ha hb hm) (L2.pt_cmp (L2.pc_din hu ha hb) hm)) fun sg H Q w => ?_
  obtain ⟨n, rho, s, hh, hr, l, p⟩ := w
  exact tOp_twob rf_ins rf_ind sg H _ ⟨n, rho, s, hh, hr, l, Post.tb p⟩
theorem t_nin (hu : X.A.units + 1 < cLine) (ha : PEd X W a fa) (hb : PEd X W b fb) (hm : behindInMarks .NotIn b = false := by rfl) : PTd X W (.Compare a [.NotIn] [b] pos) (testD (bin2 (inA true) fa fb)) := by
  refine pt_weak (pt_or (L2.pt_cmpR op_ninA ha hb hm) (L2.pt_cmp (L2.pc_dnotin hu ha hb) hm)) fun sg H Q w => ?_
  obtain ⟨n, rho, s, hh, hr, l, p⟩ := w
  exact tOp_twob rf_ins rf_ind sg H _ ⟨n, rho, s, hh, hr, l, Post.tb p⟩
end

/-! ### slices -/
abbrev DO := Nat → Sl → Hs → R (Option Int)
def noneD : DO := fun _ _ h => .ok none h
def someD (f : DE) : DO := fun n s h => (f n s h).bind fun a h1 => match a with
  | .int i => .ok (some i) h1
  | _ => .no
def tO (K : PySem.W.Frag) (mg : Str → Option Value) (W : WX) (f : DO) : L2.TO := fun sg H Q => ∃ n rho s h, HR K mg rho H h ∧ SlR K mg rho H s sg ∧ Post K mg (fun _ _ a b => a = b) rho H (fun c d H' => W c d sg H') Q (f n s h)
abbrev POd (X : Cx) (W : WX) (e : Option Expr) (f : DO) : Prop := L2.PO X e (tO X.K X.mg W f)
def cutA {b : Type} (xs : List b) (lo hi : Option Int) : List b := (xs.drop (HT.sIx xs.length 0 lo)).take (HT.sIx xs.length xs.length hi - HT.sIx xs.length 0 lo)
def slA (a : A) (lo hi : Option Int) (h : Hs) : R A := match a with
  | .str z => if z.length ≤ sizeLine then .ok (.str (L2.cutS z lo hi)) h else .no
  | .tup xs => .ok (.tup (cutA xs lo hi)) h
  | a => match lsOf h a with
    | some xs => newL (cutA xs lo hi) h
    | none => .no
def sliceD (f : DE) (fl fh : DO) : DE := fun n s h => (f n s h).bind fun a h1 => (fl n s h1).bind fun lo h2 => (fh n s h2).bind fun hi h3 => slA a lo hi h3
section
variable {K : PySem.W.Frag} {mg : Str → Option Value} {rho rho' : List Addr} {H H' : Hp} {h h' : Hs}
theorem RVs.cut {as : List A} {vs : List L2.V} (r : RVs K mg rho H as vs) (lo hi : Option Int) : RVs K mg rho H (cutA as lo hi) (L2.cutV vs lo hi) := by
  unfold cutA L2.cutV
  rw [r.length]
  exact (r.drop _).take _
def rSl3 (K : PySem.W.Frag) : L2.V → Option Int → Option Int → Hp → VK → Prop := fun x lo hi H Q => L2.rSlS x lo hi H Q ∨ (L2.rSlA K x lo hi H Q ∨ L2.rSlL K x lo hi H Q)
theorem sl_3 {X : Cx} : L2.SlR X (rSl3 X.K) := L2.sl_str.or (L2.sl_tupA.or L2.sl_list)
theorem rf_sl (hr : HR K mg rho H h) {a : A} {x : L2.V} {lo hi : Option Int} {W : Value → Option Addr → Hp → Prop} {Q : VK} (ra : RV K mg rho H a x) (p : PostV K mg rho H W Q (slA a lo hi h)) : rSl3 K x lo hi H Q := by
  unfold slA at p
  split at p
  · cases ra
    split at p
    · rename_i hz
      exact .inl ⟨_, rfl, hz, p.here hr (.str _)⟩
    · exact p.elim
  · cases ra with
    | tup ha r1 =>
      rename_i xs a vs
      refine .inr (.inl ⟨_, _, rfl, .of ha, fun e => ?_, fun _ => newT_ok hr p (r1.cut lo hi)⟩)
      have e2 : cutA xs lo hi = xs := by
        unfold cutA
        rw [r1.length, e.1, e.2, List.drop_zero, Nat.sub_zero, ← r1.length]
        exact List.take_length
      rw [e2] at p
      exact p.here hr (.tup ha r1)
  · split at p
    · rename_i xs e
      obtain ⟨q, vs, rfl, r1, hq⟩ := lsOf_get hr e ra
      exact .inr (.inr ⟨q, vs, rfl, hq, newL_ok hr p (r1.cut lo hi)⟩)
    · exact p.elim
end
section
variable {X : Cx} {W : WX} {e : Expr} {lo hi : Option Expr} {pos p2 : Pos} {fe : DE} {fl fh : DO}
theorem o_none : POd X W none noneD := ⟨fun pins s sg H Q I w => by
  obtain ⟨n, rho, sl, h, hr, l, p⟩ := w
  exact L2.po_none.run pins s sg H Q I (p none rho H Nx.refl hr rfl)⟩
theorem o_some (hf : PEd X W e fe) : POd X W (some e) (someD fe) := ⟨fun pins s sg H Q I w => by
  obtain ⟨n, rho, sl, h, hr, l, p⟩ := w
  refine (L2.po_some hf).run pins s sg H Q I ⟨n, rho, sl, h, hr, l, Post.bind p fun a h1 v rho1 H1 n1 hr1 r1 p1 => ?_⟩
  cases a with
  | int i => cases r1; exact ⟨i, rfl, p1 _ rho1 H1 Nx.refl hr1 rfl⟩
  | _ => exact p1.elim⟩
theorem d_slice (he : PEd X W e fe) (hl : POd X W lo fl) (hu : POd X W hi fh) : PEd X W (.Subscript e (.Slice lo hi none p2) pos) (sliceD fe fl fh) := by
  refine pe_weak (L2.pe_slice sl_3 he hl hu) fun sg H Q w => ?_
  obtain ⟨n, rho, s, h, hr, l, p⟩ := w
  refine ⟨n, rho, s, h, hr, l, Post.bind p fun a h1 v rho1 H1 n1 hr1 r1 p1 => ?_⟩
  refine ⟨n, rho1, s, h1, hr1, l.mono hr n1, Post.bind p1 fun lo h2 lo' rho2 H2 n2 hr2 r2 p2 => ?_⟩
  subst r2
  refine ⟨n, rho2, s, h2, hr2, (l.mono hr n1).mono hr1 n2, Post.bind p2 fun hi h3 hi' rho3 H3 n3 hr3 r3 p3 => ?_⟩
  subst r3
  exact rf_sl hr3 ((r1.mono hr1 n2).mono hr2 n3) p3
end
end Dn

set_option maxHeartbeats 4000000
/-! Dn6: calls of built-ins. -/
namespace Dn
open PySem
open L2 (PE PT PA PS PSs PG PGs PI Cx WX Takes HO Hp VK)

/-! ### sorted of a tuple of ints -/
section
open PyProof.Rows
variable {prog : Program} {w : World} {A' : Around} {E : Value → Shared → Prop} {s : Shared}
theorem collect_tp {l : Addr} {vs : List Value} {Q : List Value → Shared → Prop} (hl : IsTup s.heap l vs.toArray) (hz : vs.length ≤ sizeLine)
    (hq : Q vs { s with heap := (s.heap.push (seqObj "list" #[] 0)).update s.heap.objs.size (Obj.mapSeq (fun z => z ++ vs.toArray)) }) : wpAny (model prog w) A' (collect (.ref l)) Q E s := by
  obtain ⟨ob, hob, hcl, cnt, hdt⟩ := id hl
  have hnew : (s.heap.push (seqObj "list" #[] 0)).get? s.heap.objs.size = some (seqObj "list" #[] 0) := Heap.get?_push_size _ rfl
  have hold : (s.heap.push (seqObj "list" #[] 0)).get? l = some ob := Heap.get?_push_of_some _ hob
  unfold collect
  apply wpAny_bind
  apply wpAny_runValue
  apply codeAny_builtin entry_proto_collect'
  show wpAny _ _ (do again (.builtin "list.__iadd__" ⟨[(← newList []), .ref l], []⟩)) _ _ s
  apply wpAny_bind
  refine wpAny_newList ?_
  · refine wpAny_pure ⟨Code.quiet_builtin _ (by decide +kernel), codeAny_builtin entry_list_iadd' ?_⟩
    show wpAny _ _ (Builtin.List.listExtendWith (.ref s.heap.objs.size) (.ref l) (.ref s.heap.objs.size)) _ _ ⟨s.heap.push (seqObj "list" #[] 0), s.gens, s.drawn, s.toks, s.os⟩
    unfold Builtin.List.listExtendWith
    apply wpAny_bind
    refine wpAny_typeOf (T := "tuple") ⟨ob, hold, hcl⟩ ?_
    rw [if_pos (by rw [show (Value.type "tuple" == Value.type "tuple") = true from rfl, Bool.or_true])]
    apply wpAny_bind
    refine listItems_at hold hdt ?_
    apply wpAny_bind
    refine listItems_at (xs := #[]) (n := 0) hnew rfl ?_
    rw [if_neg (by simp)]
    apply wpAny_bind
    refine listUpdate_at (xs := #[]) (n := 0) hnew rfl ?_ (Nat.zero_le _) (by show (#[] ++ vs.toArray).size ≤ sizeLine + 1; rw [Array.size_append]; simp only [List.size_toArray, List.length_nil]; omega)
    apply wpAny_pure
    show wpAny (model prog w) A' (do
      let z ← load s.heap.objs.size
      match z.data with
      | .seq ys _ => pure ys.toList
      | _ => unsupported "internal:collect") Q E ⟨(s.heap.push (seqObj "list" #[] 0)).update s.heap.objs.size (Obj.mapSeq (fun z => z ++ vs.toArray)), s.gens, s.drawn, s.toks, s.os⟩
    apply wpAny_bind
    apply wpAny_load (get?_update_seq hnew _)
    show wpAny _ _ (pure ((#[] : Array Value) ++ vs.toArray).toList) Q E _
    have e : ((#[] : Array Value) ++ vs.toArray).toList = vs := by simp
    rw [e]
    exact wpAny_pure hq
theorem sorted_tp {l : Addr} {vs : List Value} {ltv : Value → Value → Bool} {Q : Value → Shared → Prop} (O : SrtO.Swo ltv) (hl : IsTup s.heap l vs.toArray) (hz : vs.length ≤ sizeLine)
    (hS : 2 ≤ vs.length → ∀ (h₁ : Heap) (a : Addr), h₁.get? a = some (seqObj "list" vs.toArray 0) → (∀ b o, s.heap.get? b = some o → b ≠ a ∧ h₁.get? b = some o) → SrtO.SortableO prog w A'.in1.in1 { s with heap := h₁ } a vs ltv)
    (hq : ∀ out : List Value, SrtO.Srtd ltv out → SrtO.Stb ltv out vs → Q (.ref (s.heap.objs.size + 1)) { s with heap := sortedAll s.heap vs out.toArray }) :
    wpAny (model prog w) A' (call (.builtin "sorted") [.ref l]) Q E s := by
  apply Calls.call_function_entry kind_sorted plain_sorted entry_sorted (args_sorted1 _)
  unfold Builtin.«sorted»
  apply wpAny_bind (m := checkCount "sorted" 1 1 _)
  apply wpAny_pure
  apply wpAny_bind
  apply collect_tp hl hz
  apply wpAny_bind
  refine wpAny_newList ?_ hz
  generalize hG : (s.heap.push (seqObj "list" #[] 0)).update s.heap.objs.size (Obj.mapSeq (fun z => z ++ vs.toArray)) = G
  have hGs : G.objs.size = s.heap.objs.size + 1 := by rw [← hG, Heap.size_update, size_push']
  have hGk : ∀ b o, s.heap.get? b = some o → G.get? b = some o := fun b o q => by
    rw [← hG, Heap.get?_update_ne _ _ _ _ (Nat.ne_of_lt (Heap.lt_size q))]
    exact Heap.get?_push_of_some _ q
  have hGn : (G.push (seqObj "list" vs.toArray 0)).get? (s.heap.objs.size + 1) = some (seqObj "list" vs.toArray 0) := by
    have z := Heap.get?_push_size G (o := seqObj "list" vs.toArray 0) rfl
    rw [hGs] at z
    exact z
  have keep : ∀ b o, s.heap.get? b = some o → b ≠ s.heap.objs.size + 1 ∧ (G.push (seqObj "list" vs.toArray 0)).get? b = some o := fun b o q =>
    ⟨Nat.ne_of_lt (Nat.lt_succ_of_lt (Heap.lt_size q)), Heap.get?_push_of_some _ (hGk b o q)⟩
  show wpAny _ _ _ _ _ { s with heap := G.push (seqObj "list" vs.toArray 0) }
  rw [hGs]
  apply wpAny_bind
  apply wpAny_holding
  refine wpAny_call_entry slot_list_sort ⟨_, hGn, rfl⟩ entry_list_sort (SrtO.list_sort_ord O hGn hz (fun h2 => hS h2 _ _ hGn keep) fun out h1 h2 => ⟨_, rfl, ?_⟩) (args_list_sort _)
  refine wpAny_pure ⟨_, rfl, ?_⟩
  have z := hq out h1 h2
  unfold sortedAll at z
  rw [show (s.heap.push (seqObj "list" #[] 0)).update s.heap.objs.size (Obj.mapSeq (fun x => x ++ vs.toArray)) = G from hG] at z
  exact z
end
/-! ### calls of built-ins by name -/
def cbD (g : List A → Hs → R A) (f : DA) : DE := fun n s h => (f n s h).bind fun as h1 => g as h1
section
variable {X : Cx} {W : WX} {e : Expr} {es : List Expr} {pos p : Pos} {f : DA} {r : List L2.V → Hp → VK → Prop} {g : List A → Hs → R A} {x : Str}
theorem tCB_of (rf : RfL X.K X.mg r g) : ∀ sg H Q, tE X.K X.mg W (cbD g f) sg H Q → L2.tCB r (tA X.K X.mg W f) sg H Q := fun sg H Q w => by
  obtain ⟨n, rho, s, h, hr, l, p⟩ := w
  exact ⟨n, rho, s, h, hr, l, Post.bind p fun as h1 vs rho1 H1 n1 hr1 r1 p1 => rf rho1 H1 h1 as vs _ Q hr1 r1 p1⟩
theorem d_cb {id : String} (hc : L2.CallR X (.builtin id) r) (rf : RfL X.K X.mg r g) (hg : L2.Gl X x) (hm : X.mg x = none) (hv : bootBuiltins x = some (.builtin id)) (ha : PAd X W (e :: es) f) (hn : x ≠ "__name__" := by decide) (hdb : (x == ("__debug__" : Str)) = false := by decide)
    (he : starEach (e :: es) X.env = (false, eval e X.env) :: starEach es X.env := by rfl) (hpl : (backTo pos (starEach es X.env)).any (·.1) = false := by rfl) : PEd X W (.Call (.Name x p) (e :: es) [] pos) (cbD g f) :=
  pe_weak (L2.pe_callB hc hg hm hv ha hn hdb he hpl) (tCB_of rf)
theorem d_ct {T : String} (hc : L2.CallR X (.type T) r) (rf : RfL X.K X.mg r g) (hg : L2.Gl X x) (hm : X.mg x = none) (hv : bootBuiltins x = some (.type T)) (ha : PAd X W (e :: es) f) (hn : x ≠ "__name__" := by decide) (hdb : (x == ("__debug__" : Str)) = false := by decide)
    (he : starEach (e :: es) X.env = (false, eval e X.env) :: starEach es X.env := by rfl) (hpl : (backTo pos (starEach es X.env)).any (·.1) = false := by rfl) : PEd X W (.Call (.Name x p) (e :: es) [] pos) (cbD g f) :=
  pe_weak (L2.pe_callTy hc hg hm hv ha hn hdb he hpl) (tCB_of rf)
end
/-- len -/
def lenA (h : Hs) (a : A) : Option Nat := match a with
  | .str x => if x.length ≤ sizeLine then some x.length else none
  | .tup xs => some xs.length
  | .rol xs => some xs.length
  | .ref n => match h[n]? with
    | some (.lst xs) => some xs.length
    | some (.dK kvs) => some kvs.length
    | _ => none
  | _ => none
def bLen : List A → Hs → R A := fun as h => match as with
  | [a] => match lenA h a with
    | some n => .ok (.int n) h
    | none => .no
  | _ => .no
def bAbs : List A → Hs → R A := fun as h => match as with
  | [.int i] => .ok (.int (if i < 0 then -i else i)) h
  | _ => .no
def maxL : Int → List Int → Int
  | m, [] => m
  | m, x :: xs => maxL (if x > m then x else m) xs
def minL : Int → List Int → Int
  | m, [] => m
  | m, x :: xs => minL (if x < m then x else m) xs
def bMax : List A → Hs → R A := fun as h => match as with
  | [.int i, .int j] => .ok (.int (if j > i then j else i)) h
  | [a] => match (lsOf h a).bind intsOf with
    | some (x :: xs) => .ok (.int (maxL x xs)) h
    | _ => .no
  | _ => .no
def bMin : List A → Hs → R A := fun as h => match as with
  | [.int i, .int j] => .ok (.int (if j < i then j else i)) h
  | [a] => match (lsOf h a).bind intsOf with
    | some (x :: xs) => .ok (.int (minL x xs)) h
    | _ => .no
  | _ => .no
def bSum : List A → Hs → R A := fun as h => match as with
  | [a] => match (lsOf h a).bind intsOf with
    | some xs => .ok (.int xs.sum) h
    | _ => .no
  | _ => .no
def bAny : List A → Hs → R A := fun as h => match as with
  | [a] => match (lsOf h a).bind blsOf with
    | some xs => .ok (.bl (xs.any id)) h
    | _ => .no
  | _ => .no
def bAll : List A → Hs → R A := fun as h => match as with
  | [a] => match (lsOf h a).bind blsOf with
    | some xs => .ok (.bl (xs.all id)) h
    | _ => .no
  | _ => .no
def bInt : List A → Hs → R A := fun as h => match as with
  | [.int i] => .ok (.int i) h
  | [.bl k] => .ok (.int (if k then 1 else 0)) h
  | [.str x] => match PySem.intText? x with
    | some n => if x.length ≤ 640 then .ok (.int n) h else .no
    | none => .no
  | _ => .no
def bStr : List A → Hs → R A := fun as h => match as with
  | [.int i] => if i.natAbs.log2 < 1920 then .ok (.str (toString i)) h else .no
  | _ => .no
def bList : List A → Hs → R A := fun as h => match as with
  | [a] => match seqOf h a with
    | some xs => newL xs h
    | none => .no
  | _ => .no
def bTuple : List A → Hs → R A := fun as h => match as with
  | [.tup xs] => .ok (.tup xs) h
  | [a] => match lsOf h a with
    | some xs => .ok (.tup xs) h
    | none => .no
  | _ => .no
def insI (x : Int) : List Int → List Int
  | [] => [x]
  | y :: ys => if x ≤ y then x :: y :: ys else y :: insI x ys
def sortI : List Int → List Int
  | [] => []
  | x :: xs => insI x (sortI xs)
def bSorted : List A → Hs → R A := fun as h => match as with
  | [a] => match (seqOf h a).bind intsOf with
    | some xs => newL ((sortI xs).map A.int) h
    | none => .no
  | _ => .no
theorem insI_perm (x : Int) : ∀ l, (insI x l).Perm (x :: l)
  | [] => .refl _
  | y :: ys => by
    rw [insI]
    split
    · exact .refl _
    · exact ((insI_perm x ys).cons y).trans (.swap x y ys)
theorem sortI_perm : ∀ l, (sortI l).Perm l
  | [] => .refl _
  | x :: xs => (insI_perm x _).trans ((sortI_perm xs).cons x)
theorem insI_sorted (x : Int) : ∀ l, l.Pairwise (· ≤ ·) → (insI x l).Pairwise (· ≤ ·)
  | [], _ => List.pairwise_singleton _ _
  | y :: ys, h => by
    rw [insI]
    have h' := List.pairwise_cons.mp h
    split
    · rename_i e
      refine List.pairwise_cons.mpr ⟨fun z hz => ?_, h⟩
      rcases List.mem_cons.mp hz with rfl | hz
      · exact e
      · exact Int.le_trans e (h'.1 z hz)
    · rename_i e
      refine List.pairwise_cons.mpr ⟨fun z hz => ?_, insI_sorted x ys h'.2⟩
      rcases List.mem_cons.mp ((insI_perm x ys).mem_iff.mp hz) with rfl | hz
      · omega
      · exact h'.1 z hz
theorem sortI_sorted : ∀ l, (sortI l).Pairwise (· ≤ ·)
  | [] => .nil
  | x :: xs => insI_sorted x _ (sortI_sorted xs)
theorem sorted_one {l m : List Int} (h : l.Perm m) (hl : l.Pairwise (· ≤ ·)) (hm : m.Pairwise (· ≤ ·)) : l = m := h.eq_of_pairwise (fun a b _ _ h1 h2 => Int.le_antisymm h1 h2) hl hm
theorem maxL_spec : ∀ (m : Int) (l : List Int), maxL m l ∈ m :: l ∧ ∀ y ∈ m :: l, y ≤ maxL m l
  | m, [] => ⟨List.mem_cons_self, fun y hy => by simp at hy; subst hy; exact Int.le_refl _⟩
  | m, x :: xs => by
    obtain ⟨h1, h2⟩ := maxL_spec (if x > m then x else m) xs
    rw [maxL]
    refine ⟨?_, fun y hy => ?_⟩
    · rcases List.mem_cons.mp h1 with e | h1
      · rw [e]; split
        · exact List.mem_cons_of_mem _ List.mem_cons_self
        · exact List.mem_cons_self
      · exact List.mem_cons_of_mem _ (List.mem_cons_of_mem _ h1)
    · have h0 := h2 _ List.mem_cons_self
      have h3 := fun y hy => h2 y (List.mem_cons_of_mem _ hy)
      generalize maxL (if x > m then x else m) xs = z at h0 h3 ⊢
      rcases List.mem_cons.mp hy with rfl | hy
      · split at h0 <;> omega
      · rcases List.mem_cons.mp hy with rfl | hy
        · split at h0 <;> omega
        · exact h3 y hy
theorem minL_spec : ∀ (m : Int) (l : List Int), minL m l ∈ m :: l ∧ ∀ y ∈ m :: l, minL m l ≤ y
  | m, [] => ⟨List.mem_cons_self, fun y hy => by simp at hy; subst hy; exact Int.le_refl _⟩
  | m, x :: xs => by
    obtain ⟨h1, h2⟩ := minL_spec (if x < m then x else m) xs
    rw [minL]
    refine ⟨?_, fun y hy => ?_⟩
    · rcases List.mem_cons.mp h1 with e | h1
      · rw [e]; split
        · exact List.mem_cons_of_mem _ List.mem_cons_self
        · exact List.mem_cons_self
      · exact List.mem_cons_of_mem _ (List.mem_cons_of_mem _ h1)
    · have h0 := h2 _ List.mem_cons_self
      have h3 := fun y hy => h2 y (List.mem_cons_of_mem _ hy)
      generalize minL (if x < m then x else m) xs = z at h0 h3 ⊢
      rcases List.mem_cons.mp hy with rfl | hy
      · split at h0 <;> omega
      · rcases List.mem_cons.mp hy with rfl | hy
        · split at h0 <;> omega
        · exact h3 y hy
section
variable {K : PySem.W.Frag} {mg : Str → Option Value} {rho rho' : List Addr} {H H' : Hp} {h h' : Hs}
theorem RVs.one {a : A} {vs : List L2.V} (r : RVs K mg rho H [a] vs) : ∃ v, vs = [v] ∧ RV K mg rho H a v := by
  cases r with
  | cons r1 r2 => cases r2; exact ⟨_, rfl, r1⟩
theorem RVs.two {a b : A} {vs : List L2.V} (r : RVs K mg rho H [a, b] vs) : ∃ v u, vs = [v, u] ∧ RV K mg rho H a v ∧ RV K mg rho H b u := by
  cases r with
  | cons r1 r2 => obtain ⟨u, rfl, r3⟩ := r2.one; exact ⟨_, _, rfl, r1, r3⟩
/-- a list of ints, seen from the hand layer -/
theorem ints_get (hr : HR K mg rho H h) {a : A} {ns : List Int} (e : (lsOf h a).bind intsOf = some ns) {v : L2.V} (r : RV K mg rho H a v) : ∃ p, v = .ref p ∧ L2.SqL K H p (ns.map L2.V.int) := by
  cases q : lsOf h a with
  | none => rw [q] at e; cases e
  | some xs =>
    rw [q] at e
    obtain ⟨p, vs, rfl, r1, hs⟩ := lsOf_get hr q r
    obtain rfl := intsOf_get e r1
    exact ⟨p, rfl, hs⟩
theorem bls_get (hr : HR K mg rho H h) {a : A} {ns : List Bool} (e : (lsOf h a).bind blsOf = some ns) {v : L2.V} (r : RV K mg rho H a v) : ∃ p, v = .ref p ∧ L2.SqL K H p (ns.map L2.V.bl) := by
  cases q : lsOf h a with
  | none => rw [q] at e; cases e
  | some xs =>
    rw [q] at e
    obtain ⟨p, vs, rfl, r1, hs⟩ := lsOf_get hr q r
    obtain rfl := blsOf_get e r1
    exact ⟨p, rfl, hs⟩
abbrev rLenD : List L2.V → Hp → VK → Prop := fun xs H Q => ∃ a kvs, xs = [L2.V.ref a] ∧ H a = some (.dK kvs) ∧ Q (.int kvs.length) H
def rLenA (K : PySem.W.Frag) : List L2.V → Hp → VK → Prop := fun xs H Q => (∃ x n, xs = [x] ∧ L2.LenV K x H n ∧ Q (.int n) H) ∨ rLenD xs H Q
theorem call_lenA {X : Cx} : L2.CallR X (.builtin "len") (rLenA X.K) := L2.call_len.or L2.call_lenD
theorem rf_len : RfL K mg (rLenA K) bLen := by
  intro rho H h as xs W Q hr ra p
  unfold bLen at p
  split at p
  · rename_i a
    obtain ⟨v, rfl, rv⟩ := ra.one
    split at p
    · rename_i n e
      unfold lenA at e
      cases rv with
      | str x =>
        dsimp only at e
        split at e
        · rename_i hz; cases e; exact .inl ⟨_, _, rfl, ⟨hz, rfl⟩, p.here hr (.int _)⟩
        · cases e
      | tup h1 h2 => cases e; exact .inl ⟨_, _, rfl, .inr ⟨_, .of h1, h2.length⟩, p.here hr (.int _)⟩
      | rol h1 h2 =>
        cases e
        refine .inl ⟨_, _, rfl, .inl ⟨_, ?_, h2.length⟩, p.here hr (.int _)⟩
        exact rol_sq h1
      | ref hp =>
        dsimp only at e
        split at e
        · rename_i xs q
          cases e
          obtain ⟨vs, h1, h2⟩ := hr.lst hp q
          exact .inl ⟨_, _, rfl, .inl ⟨_, .of h1, h2.length⟩, p.here hr (.int _)⟩
        · rename_i kvs q
          cases e
          obtain ⟨vs, h1, h2⟩ := hr.dK hp q
          rw [h2.length] at p
          exact .inr ⟨_, vs, rfl, h1, p.here hr (.int _)⟩
        · cases e
      | _ => cases e
    · exact p.elim
  · exact p.elim
theorem rf_abs : RfL K mg (fun xs H Q => ∃ i, xs = [.int i] ∧ Q (.int (if i < 0 then -i else i)) H) bAbs := by
  intro rho H h as xs W Q hr ra p
  unfold bAbs at p
  split at p
  · obtain ⟨v, rfl, rv⟩ := ra.one
    cases rv
    exact ⟨_, rfl, p.here hr (.int _)⟩
  · exact p.elim
abbrev rMax2 : List L2.V → Hp → VK → Prop := fun xs H Q => ∃ i j, xs = [.int i, .int j] ∧ Q (.int (if j > i then j else i)) H
abbrev rMin2 : List L2.V → Hp → VK → Prop := fun xs H Q => ∃ i j, xs = [.int i, .int j] ∧ Q (.int (if j < i then j else i)) H
def rMaxA (K : PySem.W.Frag) : List L2.V → Hp → VK → Prop := fun xs H Q => rMax2 xs H Q ∨ L2.rMax K xs H Q
def rMinA (K : PySem.W.Frag) : List L2.V → Hp → VK → Prop := fun xs H Q => rMin2 xs H Q ∨ L2.rMin K xs H Q
theorem call_maxA {X : Cx} (hc : X.calm = true) : L2.CallR X (.builtin "max") (rMaxA X.K) := (L2.call_max2 hc).or (L2.cr_max hc)
theorem call_minA {X : Cx} (hc : X.calm = true) : L2.CallR X (.builtin "min") (rMinA X.K) := (L2.call_min2 hc).or (L2.cr_min hc)
theorem rf_max : RfL K mg (rMaxA K) bMax := by
  intro rho H h as xs W Q hr ra p
  unfold bMax at p
  split at p
  · obtain ⟨v, u, rfl, rv, ru⟩ := ra.two
    cases rv; cases ru
    exact .inl ⟨_, _, rfl, p.here hr (.int _)⟩
  · obtain ⟨v, rfl, rv⟩ := ra.one
    split at p
    · rename_i x xs e
      obtain ⟨q, rfl, hs⟩ := ints_get hr e rv
      refine .inr ⟨q, _, rfl, hs, by simp, fun m h1 h2 => ?_⟩
      obtain ⟨k1, k2⟩ := maxL_spec x xs
      have e : m = maxL x xs := Int.le_antisymm (k2 m h1) (h2 _ k1)
      rw [e]
      exact p.here hr (.int _)
    · exact p.elim
  · exact p.elim
theorem rf_min : RfL K mg (rMinA K) bMin := by
  intro rho H h as xs W Q hr ra p
  unfold bMin at p
  split at p
  · obtain ⟨v, u, rfl, rv, ru⟩ := ra.two
    cases rv; cases ru
    exact .inl ⟨_, _, rfl, p.here hr (.int _)⟩
  · obtain ⟨v, rfl, rv⟩ := ra.one
    split at p
    · rename_i x xs e
      obtain ⟨q, rfl, hs⟩ := ints_get hr e rv
      refine .inr ⟨q, _, rfl, hs, by simp, fun m h1 h2 => ?_⟩
      obtain ⟨k1, k2⟩ := minL_spec x xs
      have e : m = minL x xs := Int.le_antisymm (h2 _ k1) (k2 m h1)
      rw [e]
      exact p.here hr (.int _)
    · exact p.elim
  · exact p.elim
theorem rf_sum : RfL K mg (L2.rSum K) bSum := by
  intro rho H h as xs W Q hr ra p
  unfold bSum at p
  split at p
  · obtain ⟨v, rfl, rv⟩ := ra.one
    split at p
    · rename_i xs e
      obtain ⟨q, rfl, hs⟩ := ints_get hr e rv
      exact ⟨q, _, rfl, hs, p.here hr (.int _)⟩
    · exact p.elim
  · exact p.elim
theorem rf_any : RfL K mg (L2.rAny K) bAny := by
  intro rho H h as xs W Q hr ra p
  unfold bAny at p
  split at p
  · obtain ⟨v, rfl, rv⟩ := ra.one
    split at p
    · rename_i xs e
      obtain ⟨q, rfl, hs⟩ := bls_get hr e rv
      exact ⟨q, _, rfl, hs, p.here hr (.bl _)⟩
    · exact p.elim
  · exact p.elim
theorem rf_all : RfL K mg (L2.rAll K) bAll := by
  intro rho H h as xs W Q hr ra p
  unfold bAll at p
  split at p
  · obtain ⟨v, rfl, rv⟩ := ra.one
    split at p
    · rename_i xs e
      obtain ⟨q, rfl, hs⟩ := bls_get hr e rv
      exact ⟨q, _, rfl, hs, p.here hr (.bl _)⟩
    · exact p.elim
  · exact p.elim
abbrev rInt1 : List L2.V → Hp → VK → Prop := fun xs H Q => (∃ i, xs = [.int i] ∧ Q (.int i) H) ∨ ∃ k, xs = [.bl k] ∧ Q (.int (if k then 1 else 0)) H
abbrev rIntS : List L2.V → Hp → VK → Prop := fun xs H Q => ∃ a n, xs = [.str a] ∧ PySem.intText? a = some n ∧ a.length ≤ 640 ∧ Q (.int n) H
def rIntA : List L2.V → Hp → VK → Prop := fun xs H Q => rInt1 xs H Q ∨ rIntS xs H Q
theorem call_intA {X : Cx} : L2.CallR X (.type "int") rIntA := L2.call_int1.or L2.call_int_str
theorem rf_intA : RfL K mg rIntA bInt := by
  intro rho H h as xs W Q hr ra p
  unfold bInt at p
  split at p
  · obtain ⟨v, rfl, rv⟩ := ra.one
    cases rv
    exact .inl (.inl ⟨_, rfl, p.here hr (.int _)⟩)
  · obtain ⟨v, rfl, rv⟩ := ra.one
    cases rv
    exact .inl (.inr ⟨_, rfl, p.here hr (.int _)⟩)
  · obtain ⟨v, rfl, rv⟩ := ra.one
    cases rv
    split at p
    · rename_i n e
      split at p
      · rename_i hz
        exact .inr ⟨_, n, rfl, e, hz, p.here hr (.int _)⟩
      · exact p.elim
    · exact p.elim
  · exact p.elim
theorem rf_str : RfL K mg (fun xs H Q => ∃ i, xs = [.int i] ∧ i.natAbs.log2 < 1920 ∧ Q (.str (toString i)) H) bStr := by
  intro rho H h as xs W Q hr ra p
  unfold bStr at p
  split at p
  · obtain ⟨v, rfl, rv⟩ := ra.one
    cases rv
    split at p
    · rename_i hz
      exact ⟨_, rfl, hz, p.here hr (.str _)⟩
    · exact p.elim
  · exact p.elim
theorem rf_list : RfL K mg (fun xs H Q => ∃ p ys, xs = [.ref p] ∧ (L2.SqL K H p ys ∨ L2.SqT K H p ys) ∧ ∀ l, H l = none → Q (.ref l) (L2.upd H l (.lst ys))) bList := by
  intro rho H h as xs W Q hr ra p
  unfold bList at p
  split at p
  · obtain ⟨v, rfl, rv⟩ := ra.one
    split at p
    · rename_i xs e
      obtain ⟨q, vs, rfl, r1, hs⟩ := seqOf_get hr e rv
      exact ⟨q, vs, rfl, hs, newL_ok hr p r1⟩
    · exact p.elim
  · exact p.elim
theorem rf_tuple : RfL K mg (fun xs H Q => ∃ p ys, xs = [.ref p] ∧ ((L2.SqL K H p ys ∧ ∀ l, H l = none → Q (.ref l) (L2.upd H l (.tup ys))) ∨ (L2.SqT K H p ys ∧ Q (.ref p) H))) bTuple := by
  intro rho H h as xs W Q hr ra p
  unfold bTuple at p
  split at p
  · obtain ⟨v, rfl, rv⟩ := ra.one
    cases rv with
    | tup h1 h2 => exact ⟨_, _, rfl, .inr ⟨.of h1, p.here hr (.tup h1 h2)⟩⟩
  · obtain ⟨v, rfl, rv⟩ := ra.one
    split at p
    · rename_i xs e
      obtain ⟨q, vs, rfl, r1, hs⟩ := lsOf_get hr e rv
      exact ⟨q, vs, rfl, .inl ⟨hs, newT_ok hr p r1⟩⟩
    · exact p.elim
  · exact p.elim
/-- sorted: ints of a list or of a tuple -/
def rSortedT (K : PySem.W.Frag) : List L2.V → Hp → VK → Prop := fun vs H Q => ∃ (a : Addr) (ns : List Int), vs = [L2.V.ref a] ∧ L2.SqT K H a (ns.map L2.V.int) ∧
  ∀ (ns' : List Int) (p : Addr), ns'.Perm ns → ns'.Pairwise (· ≤ ·) → H p = none → Q (.ref p) (L2.upd H p (.lst (ns'.map L2.V.int)))
open L2 in
theorem cr_sortedT {X : Cx} : L2.CallR X (.builtin "sorted") (rSortedT X.K) := by
  intro pins s σ H vs us Q I r h
  obtain ⟨a, ns, rfl, hs, q⟩ := h
  obtain ⟨its, rv, ht, hz⟩ := I.tuple hs
  have hi := rv.ints
  have hlen : its.length ≤ sizeLine := by rw [← rv.length]; exact hz
  cases Vals.ref1 r
  refine sorted_tp SrtO.swo_int ht hlen (fun h2 h₁ a' _ _ => SrtO.ints_sortable hi h2) fun out h1 h2 => ?_
  obtain ⟨k1, k2, k3⟩ := SrtO.ints_out hi h1 h2
  obtain ⟨ep, he'⟩ := PyProof.Rows.sortedAll_at s.heap its out.toArray
  have hl2 : ((out.map SrtO.iv).map V.int).length ≤ sizeLine := by
    rw [List.length_map, k2.length_eq, ← List.length_map (f := V.int)]
    exact hz
  refine ⟨.ref _, upd H (s.heap.objs.size + 1) (.lst ((out.map SrtO.iv).map V.int)), ?_, rfl, q _ _ k2 k3 (I.hok.fresh (Nat.le_succ _))⟩
  exact I.laid (t' := s.toks) (fun _ _ z => PyProof.Rows.sortedAll_old z) (Nat.le_succ _) ⟨hl2, out, ep, vals_of_ints k1, he'⟩
def rSortedA (K : PySem.W.Frag) : List L2.V → Hp → VK → Prop := fun xs H Q => L2.rSortedI K xs H Q ∨ rSortedT K xs H Q
theorem call_sortedA {X : Cx} : L2.CallR X (.builtin "sorted") (rSortedA X.K) := L2.cr_sortedI.or cr_sortedT
theorem rf_sorted : RfL K mg (rSortedA K) bSorted := by
  intro rho H h as xs W Q hr ra p
  unfold bSorted at p
  split at p
  · rename_i a
    obtain ⟨v, rfl, rv⟩ := ra.one
    split at p
    · rename_i ns e
      cases q : seqOf h a with
      | none => rw [q] at e; cases e
      | some ys =>
        rw [q] at e
        obtain ⟨t, vs, rfl, r1, hs⟩ := seqOf_get hr q rv
        obtain rfl := intsOf_get e r1
        have fin : ∀ (ns' : List Int) (p : Addr), ns'.Perm ns → ns'.Pairwise (· ≤ ·) → H p = none → Q (.ref p) (L2.upd H p (.lst (ns'.map L2.V.int))) := fun ns' z h1 h2 hz => by
          rw [sorted_one (h1.trans (sortI_perm ns).symm) h2 (sortI_sorted ns)]
          exact newL_ok hr p (RVs.ints _) z hz
        rcases hs with hs | hs
        · exact .inl ⟨t, ns, rfl, hs, fin⟩
        · exact .inr ⟨t, ns, rfl, hs, fin⟩
    · exact p.elim
  · exact p.elim
end
end Dn

set_option maxHeartbeats 4000000
/-! Dn7: isinstance, methods, values by truth, formatted texts, ranges as values. -/
namespace Dn
open PySem
open L2 (PE PT PA PS PSs PG PGs PI Cx WX Takes HO Hp VK)

/-! ### isinstance against a built-in class -/
def tyName (h : Hs) : A → Option String
  | .non => some "NoneType"
  | .bl _ => some "bool"
  | .int _ => some "int"
  | .str _ => some "str"
  | .tup _ => some "tuple"
  | .rol _ => none
  | .ref n => match h[n]? with
    | some (.lst _) => some "list"
    | some (.dK _) => some "dict"
    | some (.dT _) => some "dict"
    | _ => none
  | .glo _ => none
  | .ty _ => none
def bIsi : List A → Hs → R A := fun as h => match as with
  | [a, .ty c] => match (tyName h a).bind fun t => L2.kitB t c with
    | some b => .ok (.bl b) h
    | none => .no
  | _ => .no
section
variable {K : PySem.W.Frag} {mg : Str → Option Value} {rho rho' : List Addr} {H H' : Hp} {h h' : Hs}
theorem tyName_get (hr : HR K mg rho H h) {a : A} {t : String} (e : tyName h a = some t) {v : L2.V} (r : RV K mg rho H a v) : L2.TyX K H v (.type t) := by
  cases r with
  | non => cases e; exact .base .non
  | bl b => cases e; exact .base (.bl b)
  | int i => cases e; exact .base (.int i)
  | str x => cases e; exact .base (.str x)
  | tup h1 h2 => cases e; exact .base (.tup h1)
  | ref hp =>
    rename_i n p
    unfold tyName at e
    dsimp only at e
    cases q : h[n]? with
    | none => rw [q] at e; cases e
    | some o =>
      rw [q] at e
      cases o with
      | lst _ => cases e; obtain ⟨vs, h1, _⟩ := hr.lst hp q; exact .base (.lst h1)
      | dK _ => cases e; obtain ⟨vs, h1, _⟩ := hr.dK hp q; exact .base (.dK h1)
      | dT _ => cases e; obtain ⟨vs, h1, _⟩ := hr.dT hp q; exact .base (.dT h1)
  | _ => cases e
theorem rf_isi : RfL K mg (L2.rIsi K) bIsi := by
  intro rho H h as xs W Q hr ra p
  unfold bIsi at p
  split at p
  · rename_i a c
    obtain ⟨v, u, rfl, rv, ru⟩ := ra.two
    cases ru
    split at p
    · rename_i b e
      cases q : tyName h a with
      | none => rw [q] at e; cases e
      | some t =>
        rw [q] at e
        exact ⟨v, .ty c, .type t, .type c, b, rfl, .ty c, tyName_get hr q rv, L2.kit_ty e, p.here hr (.bl _)⟩
    · exact p.elim
  · exact p.elim
end
section
variable {X : Cx} {W : WX} {e a b o i : Expr} {es rest : List Expr} {pos p apos cpos : Pos} {f fa fb fo : DE} {ft : DA}
/-- a built-in class as a value -/
theorem d_bty {x : Str} {n : String} (hg : L2.Gl X x) (hm : X.mg x = none) (hv : bootBuiltins x = some (.type n)) (hn : x ≠ "__name__" := by decide) (hd : (x == ("__debug__" : Str)) = false := by decide) : PEd X W (.Name x pos) (conD (.ty n)) :=
  d_con (L2.pe_bltn hg hm hv (show L2.RelV (.ty n) (.type n) from rfl) hn hd) fun _ _ => .ty n
/-! ### methods of built-in kinds -/
def tyA (h : Hs) (T : String) : A → Bool
  | .str _ => decide (T = "str")
  | .rol _ => decide (T = "list")
  | .ref n => match h[n]? with
    | some (.lst _) => decide (T = "list")
    | some (.dK _) => decide (T = "dict")
    | some (.dT _) => decide (T = "dict")
    | _ => false
  | _ => false
def methD (T : String) (g : A → List A → Hs → R A) (fo : DE) (ft : DA) : DE := fun n s h => (fo n s h).bind fun a h1 => if tyA h1 T a then (ft n s h1).bind fun as h2 => g a as h2 else .no
def RfM (K : PySem.W.Frag) (mg : Str → Option Value) (r : L2.V → List L2.V → Hp → VK → Prop) (g : A → List A → Hs → R A) : Prop := ∀ (rho : List Addr) (H : Hp) (h : Hs) (a : A) (as : List A) (x : L2.V) (xs : List L2.V) (W : Value → Option Addr → Hp → Prop) (Q : VK),
  HR K mg rho H h → RV K mg rho H a x → RVs K mg rho H as xs → PostV K mg rho H W Q (g a as h) → r x xs H Q
theorem tyA_get {K : PySem.W.Frag} {mg : Str → Option Value} {rho : List Addr} {H : Hp} {h : Hs} (hr : HR K mg rho H h) {T : String} {a : A} (e : tyA h T a = true) {v : L2.V} (r : RV K mg rho H a v) : L2.tyV K T v H := by
  cases r with
  | str x => exact (show T = "str" from of_decide_eq_true e)
  | rol h1 h2 =>
    rename_i vs
    refine .inl ⟨of_decide_eq_true e, vs, ?_⟩
    exact rol_sq h1
  | ref hp =>
    rename_i n p
    unfold tyA at e
    dsimp only at e
    cases q : h[n]? with
    | none => rw [q] at e; cases e
    | some o =>
      rw [q] at e
      cases o with
      | lst _ => obtain ⟨vs, h1, _⟩ := hr.lst hp q; exact .inl ⟨of_decide_eq_true e, _, .of h1⟩
      | dK _ => obtain ⟨vs, h1, _⟩ := hr.dK hp q; exact .inr (.inr (.inl ⟨of_decide_eq_true e, .inl ⟨_, h1⟩⟩))
      | dT _ => obtain ⟨vs, h1, _⟩ := hr.dT hp q; exact .inr (.inr (.inl ⟨of_decide_eq_true e, .inr ⟨_, h1⟩⟩))
  | _ => cases e
theorem d_bm {T id : String} {name : Str} {r : L2.V → List L2.V → Hp → VK → Prop} {g : A → List A → Hs → R A} (pa : PlainAttrs T) (slot : Slot T name id) (hty : typeOf (.builtin id) = pure (.type "method_descriptor")) (hm : L2.MtR X id r) (rf : RfM X.K X.mg r g)
    (ho : PEd X W o fo) (ha : PAd X W (e :: es) ft)
    (hbase : attributeBase o name X.env (eval o X.env) = eval o X.env := by rfl)
    (hfew : ((backTo cpos (starEach (e :: es) X.env)).all (fun x => !x.1) && (backToKw cpos (keywordEach [] X.env)).all (fun x => x.1.isSome)
      && decide ((e :: es).length + ([] : List Keyword).length + (if ([] : List Keyword).isEmpty then 0 else 1) < 30)) = true := by rfl)
    (hline : (apos.endLine == cpos.line) = true := by rfl) (hs : starEach (e :: es) X.env = (false, eval e X.env) :: starEach es X.env := by rfl) (hpl : (backTo cpos (starEach es X.env)).any (·.1) = false := by rfl) :
    PEd X W (.Call (.Attribute o name apos) (e :: es) [] cpos) (methD T g fo ft) := by
  refine pe_weak (L2.pe_bm pa slot hty hm ho ha hbase hfew hline hs hpl) fun sg H Q w => ?_
  obtain ⟨n, rho, s, h, hr, l, p⟩ := w
  refine ⟨n, rho, s, h, hr, l, Post.bind p fun a h1 v rho1 H1 n1 hr1 r1 p1 => ?_⟩
  split at p1
  · rename_i ht
    refine ⟨tyA_get hr1 ht r1, n, rho1, s, h1, hr1, l.mono hr n1, Post.bind p1 fun as h2 vs rho2 H2 n2 hr2 r2 p2 => ?_⟩
    exact rf rho2 H2 h2 a as v vs _ Q hr2 (r1.mono hr1 n2) r2 p2
  · exact p1.elim
theorem d_bm0 {T id : String} {name : Str} {r : L2.V → List L2.V → Hp → VK → Prop} {g : A → List A → Hs → R A} (pa : PlainAttrs T) (slot : Slot T name id) (hty : typeOf (.builtin id) = pure (.type "method_descriptor")) (hm : L2.MtR X id r) (rf : RfM X.K X.mg r g)
    (ho : PEd X W o fo) (hbase : attributeBase o name X.env (eval o X.env) = eval o X.env := by rfl) (hline : (apos.endLine == cpos.line) = true := by rfl) :
    PEd X W (.Call (.Attribute o name apos) [] [] cpos) (methD T g fo nilD) := by
  refine pe_weak (L2.pe_bm0 pa slot hty hm ho hbase hline) fun sg H Q w => ?_
  obtain ⟨n, rho, s, h, hr, l, p⟩ := w
  refine ⟨n, rho, s, h, hr, l, Post.bind p fun a h1 v rho1 H1 n1 hr1 r1 p1 => ?_⟩
  split at p1
  · rename_i ht
    exact ⟨tyA_get hr1 ht r1, rf rho1 H1 h1 a [] v [] _ Q hr1 r1 .nil p1⟩
  · exact p1.elim
end
/-- xs.append(y), xs.pop(), xs.pop(i), sep.join(xs) -/
def mAppend (a : A) (as : List A) (h : Hs) : R A := match a, as with
  | .ref n, [b] => match h[n]? with
    | some (.lst xs) => if xs.length < sizeLine then .ok .non (h.set n (.lst (xs ++ [b]))) else .no
    | _ => .no
  | _, _ => .no
def mPop (a : A) (as : List A) (h : Hs) : R A := match a, as with
  | .ref n, [] => match h[n]? with
    | some (.lst xs) => match xs[xs.length - 1]? with
      | some y => .ok y (h.set n (.lst xs.dropLast))
      | none => .no
    | _ => .no
  | _, _ => .no
def mPopAt (a : A) (as : List A) (h : Hs) : R A := match a, as with
  | .ref n, [.int i] => match h[n]? with
    | some (.lst xs) => if 0 ≤ i ∧ i < xs.length ∧ i.natAbs < 2 ^ 62 then (match xs[i.toNat]? with
      | some y => .ok y (h.set n (.lst (xs.eraseIdx i.toNat)))
      | none => .no) else .no
    | _ => .no
  | _, _ => .no
def mJoin (a : A) (as : List A) (h : Hs) : R A := match a, as with
  | .str z, [b] => match (seqOf h b).bind strsOf with
    | some ys => if (ys.map (·.length)).sum + ys.length * z.length ≤ 16777216 then .ok (.str (Txt.join z ys)) h else .no
    | none => .no
  | _, _ => .no
section
variable {K : PySem.W.Frag} {mg : Str → Option Value} {rho rho' : List Addr} {H H' : Hp} {h h' : Hs}
/-- a list is changed and a value handed back -/
theorem setL_ok (hr : HR K mg rho H h) {n : Nat} {q : Addr} (hp : rho[n]? = some q) {a : A} {v : L2.V} {xs : List A} {vs : List L2.V} {W : Value → Option Addr → Hp → Prop} {Q : VK} (p : PostV K mg rho H W Q (.ok a (h.set n (.lst xs)))) (ra : RV K mg rho H a v) (r : RVs K mg rho H xs vs) : Q v (L2.upd H q (.lst vs)) := by
  obtain ⟨nx, hr'⟩ := hr.set (o := .lst xs) (u := .lst vs) hp (.lst r)
  exact p v rho _ nx hr' (ra.mono hr nx)
theorem rf_append : RfM K mg L2.rAppend mAppend := by
  intro rho H h a as x xs W Q hr ra ras p
  unfold mAppend at p
  split at p
  · obtain ⟨v, rfl, rv⟩ := ras.one
    cases ra with
    | ref hp =>
      split at p
      · rename_i ys q
        obtain ⟨vs, h1, h2⟩ := hr.lst hp q
        split at p
        · rename_i hz
          exact ⟨_, vs, v, rfl, rfl, h1, by rw [← h2.length]; exact hz, setL_ok hr hp p .non (h2.append (.cons rv .nil))⟩
        · exact p.elim
      · exact p.elim
  · exact p.elim
theorem RVs.dropLast {as : List A} {vs : List L2.V} (r : RVs K mg rho H as vs) : RVs K mg rho H as.dropLast vs.dropLast := by
  rw [List.dropLast_eq_take, List.dropLast_eq_take, r.length]
  exact r.take _
theorem rf_pop : RfM K mg L2.rPop mPop := by
  intro rho H h a as x xs W Q hr ra ras p
  unfold mPop at p
  split at p
  · cases ras
    cases ra with
    | ref hp =>
      split at p
      · rename_i ys q
        obtain ⟨vs, h1, h2⟩ := hr.lst hp q
        split at p
        · rename_i y e
          obtain ⟨v, e2, rv⟩ := h2.get e
          rw [h2.length] at e2
          exact ⟨_, vs, v, rfl, rfl, h1, e2, setL_ok hr hp p rv h2.dropLast⟩
        · exact p.elim
      · exact p.elim
  · exact p.elim
theorem rf_popAt : RfM K mg L2.rPopAt mPopAt := by
  intro rho H h a as x xs W Q hr ra ras p
  unfold mPopAt at p
  split at p
  · obtain ⟨v, rfl, rv⟩ := ras.one
    cases rv
    cases ra with
    | ref hp =>
      split at p
      · rename_i ys q
        obtain ⟨vs, h1, h2⟩ := hr.lst hp q
        split at p
        · rename_i hz
          split at p
          · rename_i y e
            obtain ⟨v, e2, rv⟩ := h2.get e
            refine ⟨_, vs, _, _, v, rfl, rfl, h1, by omega, by omega, ?_, e2, setL_ok hr hp p rv (h2.erase _)⟩
            exact (L2.ixN_seq (by unfold L2.ixN; rw [if_pos hz.1, if_pos (by rw [← h2.length]; exact hz.2.1)])).1
          · exact p.elim
        · exact p.elim
      · exact p.elim
  · exact p.elim
abbrev rJoin (K : PySem.W.Frag) : L2.V → List L2.V → Hp → VK → Prop := fun x xs H Q => ∃ a p, ∃ ys : List Str, x = .str a ∧ xs = [.ref p] ∧ (L2.SqL K H p (ys.map L2.V.str) ∨ L2.SqT K H p (ys.map L2.V.str)) ∧
    (ys.map (·.length)).sum + ys.length * a.length ≤ 16777216 ∧ Q (.str (Txt.join a ys)) H
theorem rf_join : RfM K mg (rJoin K) mJoin := by
  intro rho H h a as x xs W Q hr ra ras p
  unfold mJoin at p
  split at p
  · rename_i z b
    obtain ⟨v, rfl, rv⟩ := ras.one
    cases ra
    split at p
    · rename_i ys e
      cases q : seqOf h b with
      | none => rw [q] at e; cases e
      | some bs =>
        rw [q] at e
        obtain ⟨t, vs, rfl, r1, hs⟩ := seqOf_get hr q rv
        obtain rfl := strsOf_get e r1
        split at p
        · rename_i hz
          exact ⟨z, t, ys, rfl, rfl, hs, hz, p.here hr (.str _)⟩
        · exact p.elim
    · exact p.elim
  · exact p.elim
/-! ### values by truth -/
def truA (h : Hs) : A → Option Bool
  | .non => some false
  | .bl b => some b
  | .int i => some (i != 0)
  | .str x => if x.length ≤ sizeLine then some ((x.length : Int) != 0) else none
  | .tup xs => some !xs.isEmpty
  | .rol xs => some !xs.isEmpty
  | .ref n => match h[n]? with
    | some (.lst xs) => some !xs.isEmpty
    | some (.dK kvs) => some !kvs.isEmpty
    | _ => none
  | _ => none
theorem RVs.empty {as : List A} {vs : List L2.V} (r : RVs K mg rho H as vs) : (!as.isEmpty) = !vs.isEmpty := by cases r <;> rfl
theorem RKV.empty {k : Type} {as : List (k × A)} {vs : List (k × L2.V)} (r : RKV K mg rho H as vs) : (!as.isEmpty) = !vs.isEmpty := by cases r <;> rfl
theorem truA_get (hr : HR K mg rho H h) {a : A} {k : Bool} (e : truA h a = some k) {v : L2.V} (r : RV K mg rho H a v) : L2.TruV K v H k := by
  cases r with
  | non => cases e; rfl
  | bl b => cases e; rfl
  | int i => cases e; rfl
  | str x =>
    unfold truA at e
    dsimp only at e
    split at e
    · rename_i hz; cases e; exact ⟨hz, rfl⟩
    · cases e
  | tup h1 h2 => cases e; exact .inr (.inl ⟨_, .of h1, h2.empty⟩)
  | rol h1 h2 =>
    cases e
    refine .inl ⟨_, ?_, h2.empty⟩
    exact rol_sq h1
  | ref hp =>
    unfold truA at e
    dsimp only at e
    split at e
    · rename_i xs q; cases e; obtain ⟨vs, h1, h2⟩ := hr.lst hp q; exact .inl ⟨_, .of h1, h2.empty⟩
    · rename_i xs q; cases e; obtain ⟨vs, h1, h2⟩ := hr.dK hp q; exact .inr (.inr ⟨_, h1, h2.empty⟩)
    · cases e
  | _ => cases e
end
def truR (h : Hs) (a : A) : R Bool := match truA h a with
  | some k => .ok k h
  | none => .no
/-- any value as a test -/
def truD (f : DE) : DT := fun n s h => (f n s h).bind fun a h1 => truR h1 a
def orTD (f g : DE) : DE := fun n s h => (f n s h).bind fun a h1 => match truA h1 a with
  | some true => .ok a h1
  | some false => g n s h1
  | none => .no
def andTD (f g : DE) : DE := fun n s h => (f n s h).bind fun a h1 => match truA h1 a with
  | some true => g n s h1
  | some false => .ok a h1
  | none => .no
def notTD (f : DE) : DE := fun n s h => (f n s h).bind fun a h1 => match truA h1 a with
  | some k => .ok (.bl (!k)) h1
  | none => .no
section
variable {X : Cx} {W : WX} {e a b o i : Expr} {es rest : List Expr} {pos p apos cpos : Pos} {f fa fb fo : DE} {ft : DA}
theorem t_tru (ha : PEd X W a fa) (he : ∀ whole, isTrue a X.env whole = (do let v ← whole; standAt a.pos; holding [v] (truthy v)) := by intro _; rfl) : PTd X W a (truD fa) := by
  refine pt_weak (L2.pt_truth ha he) fun sg H Q w => ?_
  obtain ⟨n, rho, s, h, hr, l, p⟩ := w
  refine ⟨n, rho, s, h, hr, l, Post.bind p fun a h1 v rho1 H1 n1 hr1 r1 p1 => ?_⟩
  unfold truR at p1
  split at p1
  · rename_i k q
    exact ⟨k, truA_get hr1 q r1, p1 k rho1 H1 Nx.refl hr1 rfl⟩
  · exact p1.elim
theorem d_orT (ha : PEd X W a fa) (hb : PEd X W (.BoolOp .Or (b :: rest) pos) fb) : PEd X W (.BoolOp .Or (a :: b :: rest) pos) (orTD fa fb) := by
  refine pe_weak (L2.pe_orT ha hb) fun sg H Q w => ?_
  obtain ⟨n, rho, s, h, hr, l, p⟩ := w
  refine ⟨n, rho, s, h, hr, l, Post.bind p fun a h1 v rho1 H1 n1 hr1 r1 p1 => ?_⟩
  split at p1
  · rename_i q
    exact ⟨true, truA_get hr1 q r1, L2.iteT (p1.here hr1 r1)⟩
  · rename_i q
    exact ⟨false, truA_get hr1 q r1, L2.iteF ⟨n, rho1, s, h1, hr1, l.mono hr n1, p1⟩⟩
  · exact p1.elim
theorem d_andT (ha : PEd X W a fa) (hb : PEd X W (.BoolOp .And (b :: rest) pos) fb) : PEd X W (.BoolOp .And (a :: b :: rest) pos) (andTD fa fb) := by
  refine pe_weak (L2.pe_andT ha hb) fun sg H Q w => ?_
  obtain ⟨n, rho, s, h, hr, l, p⟩ := w
  refine ⟨n, rho, s, h, hr, l, Post.bind p fun a h1 v rho1 H1 n1 hr1 r1 p1 => ?_⟩
  split at p1
  · rename_i q
    exact ⟨true, truA_get hr1 q r1, L2.iteT ⟨n, rho1, s, h1, hr1, l.mono hr n1, p1⟩⟩
  · rename_i q
    exact ⟨false, truA_get hr1 q r1, L2.iteF (p1.here hr1 r1)⟩
  · exact p1.elim
theorem d_notT (ha : PEd X W a fa) : PEd X W (.UnaryOp .Not a pos) (notTD fa) := by
  refine pe_weak (L2.pe_notT ha) fun sg H Q w => ?_
  obtain ⟨n, rho, s, h, hr, l, p⟩ := w
  refine ⟨n, rho, s, h, hr, l, Post.bind p fun a h1 v rho1 H1 n1 hr1 r1 p1 => ?_⟩
  split at p1
  · rename_i k q
    exact ⟨k, truA_get hr1 q r1, p1.here hr1 (.bl _)⟩
  · exact p1.elim
/-! ### formatted texts -/
def fmtA (a : A) (h : Hs) : R A := match a with
  | .str y => if y.length ≤ sizeLine then .ok (.str y) h else .no
  | .int i => if i.natAbs.log2 < 1920 then .ok (.str (toString i)) h else .no
  | _ => .no
theorem d_fmt (ha : PEd X W a fa) : PEd X W (.FormattedValue a (-1) none pos) (un1 fmtA fa) := by
  refine pe_weak (L2.pe_fmt ha) fun sg H Q w => ?_
  obtain ⟨n, rho, s, h, hr, l, p⟩ := w
  refine ⟨n, rho, s, h, hr, l, Post.bind p fun a h1 v rho1 H1 n1 hr1 r1 p1 => ?_⟩
  unfold fmtA at p1
  split at p1
  · cases r1
    split at p1
    · rename_i hz; exact .inl ⟨_, rfl, hz, p1.here hr1 (.str _)⟩
    · exact p1.elim
  · cases r1
    split at p1
    · rename_i hz; exact .inr ⟨_, rfl, hz, p1.here hr1 (.str _)⟩
    · exact p1.elim
  · exact p1.elim
/-- the parts of a formatted text, glued from the left -/
def glueD : List DE → Str → Nat → Sl → Hs → R A
  | [], out, _, _, h => .ok (.str out) h
  | f :: fs, out, n, s, h => (f n s h).bind fun a h1 => match a with
    | .str y => if (out ++ y).length ≤ sizeLine then glueD fs (out ++ y) n s h1 else .no
    | _ => .no
inductive PJd (X : Cx) (W : WX) : List Expr → List DE → Prop where
  | nil : PJd X W [] []
  | cons {e : Expr} {es : List Expr} {f : DE} {fs : List DE} : PEd X W e f → PJd X W es fs → PJd X W (e :: es) (f :: fs)
def joinedD (fs : List DE) : DE := fun n s h => glueD fs Str.empty n s h
theorem PJd.pj {fs : List DE} (h : PJd X W es fs) : L2.PJ X es (fs.map (tE X.K X.mg W)) := by
  induction h with
  | nil => exact .nil
  | cons hf _ ih => exact .cons hf ih
theorem glue_ok {Q : VK} : ∀ (fs : List DE) (out : Str) (n : Nat) (rho : List Addr) (s : Sl) (h : Hs) (H : Hp) (sg : L2.St), HR X.K X.mg rho H h → SlR X.K X.mg rho H s sg →
    PostV X.K X.mg rho H (fun c d H' => W c d sg H') Q (glueD fs out n s h) → L2.tJs (fs.map (tE X.K X.mg W)) out sg H (fun o H1 => Q (.str o) H1)
  | [], out, n, rho, s, h, H, sg, hr, l, p => p.here hr (.str out)
  | f :: fs, out, n, rho, s, h, H, sg, hr, l, p => by
    refine ⟨n, rho, s, h, hr, l, Post.bind p fun a h1 v rho1 H1 n1 hr1 r1 p1 => ?_⟩
    cases a with
    | str y =>
      cases r1
      dsimp only at p1
      split at p1
      · rename_i hz
        exact ⟨y, rfl, hz, glue_ok fs (out ++ y) n rho1 s h1 H1 sg hr1 (l.mono hr n1) p1⟩
      · exact p1.elim
    | _ => exact p1.elim
theorem d_joined {v1 v2 : Expr} {fs : List DE} (h : PJd X W (v1 :: v2 :: rest) fs) : PEd X W (.JoinedStr (v1 :: v2 :: rest) pos) (joinedD fs) := by
  refine pe_weak (L2.pe_joined h.pj) fun sg H Q w => ?_
  obtain ⟨n, rho, s, h, hr, l, p⟩ := w
  exact glue_ok fs Str.empty n rho s h H sg hr l p
theorem d_joined1 (h : PEd X W e f) : PEd X W (.JoinedStr [e] pos) f := L2.pe_joined1 h
/-! ### list(range(..)), tuple(range(..)) -/
abbrev tRg (K : PySem.W.Frag) (mg : Str → Option Value) (W : WX) (f : Nat → Sl → Hs → R (Int × Int)) : L2.St → Hp → (Int → Int → Hp → Prop) → Prop := fun sg H Q => ∃ n rho s h, HR K mg rho H h ∧ SlR K mg rho H s sg ∧ Post K mg (fun _ _ a b => a = b) rho H (fun c d H' => W c d sg H') (fun z H' => Q z.1 z.2 H') (f n s h)
def rg1 (f : DE) : Nat → Sl → Hs → R (Int × Int) := fun n s h => (f n s h).bind fun a h1 => match a with
  | .int j => .ok (0, j) h1
  | _ => .no
def rg2 (f g : DE) : Nat → Sl → Hs → R (Int × Int) := fun n s h => (f n s h).bind fun a h1 => (g n s h1).bind fun b h2 => match a, b with
  | .int i, .int j => .ok (i, j) h2
  | _, _ => .no
theorem prg_weak {t t' : L2.St → Hp → (Int → Int → Hp → Prop) → Prop} (h : L2.PRg X e t) (m : ∀ sg H Q, t' sg H Q → t sg H Q) : L2.PRg X e t' := by
  unfold L2.PRg at h ⊢
  intros
  rename_i w
  exact h _ _ _ _ _ ‹_› (m _ _ _ w)
def rgL (lo hi : Int) : List A := (List.range (hi - lo).toNat).map fun i => A.int (lo + (i : Nat))
def rgOk (a b : Int) : Bool := Nat.blt a.natAbs (2 ^ 62) && (Nat.blt b.natAbs (2 ^ 62) && Nat.ble (b - a).toNat (2 ^ 24))
theorem rgOk_of {a b : Int} (h : rgOk a b = true) : L2.RgOk a b := by
  unfold rgOk at h
  rw [Bool.and_eq_true, Bool.and_eq_true] at h
  obtain ⟨h1, h2, h3⟩ := h
  have h1 := Nat.blt_eq.mp h1
  have h2 := Nat.blt_eq.mp h2
  have h3 := Nat.le_of_ble_eq_true h3
  exact ⟨by omega, by omega, by omega, by omega, h3⟩
theorem rgL_ok {K : PySem.W.Frag} {mg : Str → Option Value} {rho : List Addr} {H : Hp} (a b : Int) : RVs K mg rho H (rgL a b) (L2.rgV a b) := by
  unfold rgL L2.rgV
  generalize List.range (b - a).toNat = l
  induction l with
  | nil => exact .nil
  | cons x xs ih => exact .cons (.int _) ih
def lstRg (f : Nat → Sl → Hs → R (Int × Int)) : DE := fun n s h => (f n s h).bind fun z h1 => if rgOk z.1 z.2 then newL (rgL z.1 z.2) h1 else .no
def tupRg (f : Nat → Sl → Hs → R (Int × Int)) : DE := fun n s h => (f n s h).bind fun z h1 => if rgOk z.1 z.2 then .ok (.tup (rgL z.1 z.2)) h1 else .no
abbrev PRd (X : Cx) (W : WX) (e : Expr) (f : Nat → Sl → Hs → R (Int × Int)) : Prop := L2.PRg X e (tRg X.K X.mg W f)
theorem r_1 (hg : L2.Gl X "range") (hm : X.mg "range" = none) (ha : PEd X W a fa) (na : starEach [a] X.env = (false, eval a X.env) :: starEach [] X.env := by rfl) : PRd X W (.Call (.Name "range" p) [a] [] pos) (rg1 fa) := by
  refine prg_weak (L2.prg_1 hg hm ha na) fun sg H Q w => ?_
  obtain ⟨n, rho, s, h, hr, l, p⟩ := w
  refine ⟨n, rho, s, h, hr, l, Post.bind p fun a h1 v rho1 H1 n1 hr1 r1 p1 => ?_⟩
  cases a with
  | int i => cases r1; exact ⟨i, rfl, p1 _ rho1 H1 Nx.refl hr1 rfl⟩
  | _ => exact p1.elim
theorem r_2 (hg : L2.Gl X "range") (hm : X.mg "range" = none) (ha : PEd X W a fa) (hb : PEd X W b fb) (na : starEach [a, b] X.env = (false, eval a X.env) :: starEach [b] X.env := by rfl)
    (nb : starEach [b] X.env = (false, eval b X.env) :: starEach [] X.env := by rfl) (hp : (backTo pos (starEach [b] X.env)).any (·.1) = false := by rfl) : PRd X W (.Call (.Name "range" p) [a, b] [] pos) (rg2 fa fb) := by
  refine prg_weak (L2.prg_2 hg hm ha hb na nb hp) fun sg H Q w => ?_
  obtain ⟨n, rho, s, h, hr, l, p⟩ := w
  refine ⟨n, rho, s, h, hr, l, Post.bind p fun a h1 v rho1 H1 n1 hr1 r1 p1 => ?_⟩
  refine ⟨n, rho1, s, h1, hr1, l.mono hr n1, Post.bind p1 fun b h2 u rho2 H2 n2 hr2 r2 p2 => ?_⟩
  cases a with
  | int i =>
    cases b with
    | int j => cases r1; cases r2; exact ⟨i, j, rfl, rfl, p2 _ rho2 H2 Nx.refl hr2 rfl⟩
    | _ => exact p2.elim
  | _ => exact p2.elim
variable {fr : Nat → Sl → Hs → R (Int × Int)}
theorem d_lstRg (hc : X.calm = true) (hg : L2.Gl X "list") (hm : X.mg "list" = none) (he : PRd X W e fr) (na : starEach [e] X.env = (false, eval e X.env) :: starEach [] X.env := by rfl) : PEd X W (.Call (.Name "list" p) [e] [] pos) (lstRg fr) := by
  refine pe_weak (L2.pe_listRg hc hg hm he na) fun sg H Q w => ?_
  obtain ⟨n, rho, s, h, hr, l, p⟩ := w
  refine ⟨n, rho, s, h, hr, l, Post.bind p fun z h1 z' rho1 H1 n1 hr1 r1 p1 => ?_⟩
  subst r1
  split at p1
  · rename_i hz
    exact ⟨rgOk_of hz, newL_ok hr1 p1 (rgL_ok _ _)⟩
  · exact p1.elim
theorem d_tupRg (hc : X.calm = true) (hg : L2.Gl X "tuple") (hm : X.mg "tuple" = none) (he : PRd X W e fr) (na : starEach [e] X.env = (false, eval e X.env) :: starEach [] X.env := by rfl) : PEd X W (.Call (.Name "tuple" p) [e] [] pos) (tupRg fr) := by
  refine pe_weak (L2.pe_tupRg hc hg hm he na) fun sg H Q w => ?_
  obtain ⟨n, rho, s, h, hr, l, p⟩ := w
  refine ⟨n, rho, s, h, hr, l, Post.bind p fun z h1 z' rho1 H1 n1 hr1 r1 p1 => ?_⟩
  subst r1
  split at p1
  · rename_i hz
    exact ⟨rgOk_of hz, newT_ok hr1 p1 (rgL_ok _ _)⟩
  · exact p1.elim
end
end Dn

set_option maxHeartbeats 4000000
/-! Dn8: targets, stores, while, for, comprehensions. -/
namespace Dn
open PySem
open L2 (PE PT PA PS PSs PG PGs PI Cx WX Takes HO Hp VK)

/-! ### targets -/
abbrev DG := A → Sl → Option Sl
section
variable (K : PySem.W.Frag) (mg : Str → Option Value)
/-- a store: what f tells, at the slots ix alone -/
def tG (f : DG) (ix : List Nat) : L2.TG := fun v sg H Q => ∃ rho s h a, HR K mg rho H h ∧ SlR K mg rho H s sg ∧ RV K mg rho H a v ∧ ∃ s1, f a s = some s1 ∧ ∀ sg1, SlR K mg rho H s1 sg1 → sg1.length = sg.length → (∀ j, j ∉ ix → sg1[j]? = sg[j]?) → Q sg1 H
def tGs (f : List A → Sl → Option Sl) (ix : List Nat) : L2.TGs := fun vs sg H Q => ∃ rho s h as, HR K mg rho H h ∧ SlR K mg rho H s sg ∧ RVs K mg rho H as vs ∧ ∃ s1, f as s = some s1 ∧ ∀ sg1, SlR K mg rho H s1 sg1 → sg1.length = sg.length → (∀ j, j ∉ ix → sg1[j]? = sg[j]?) → Q sg1 H
end
abbrev PGd (X : Cx) (tg : Expr) (f : DG) (ix : List Nat) : Prop := PG X tg (tG X.K X.mg f ix)
abbrev PGsd (X : Cx) (tg : List Expr) (f : List A → Sl → Option Sl) (ix : List Nat) : Prop := PGs X tg (tGs X.K X.mg f ix)
def nameG (i : Nat) : DG := fun a s => some (s.set i (some a))
def nilG : List A → Sl → Option Sl := fun as s => match as with
  | [] => some s
  | _ => none
def consG (f : DG) (g : List A → Sl → Option Sl) : List A → Sl → Option Sl := fun as s => match as with
  | a :: r => (f a s).bind fun s1 => g r s1
  | _ => none
def tupG (n : Nat) (g : List A → Sl → Option Sl) : DG := fun a s => match a with
  | .tup xs => if xs.length = n then g xs s else none
  | _ => none
section
variable {X : Cx} {W : WX} {e a b o i : Expr} {es rest : List Expr} {pos p apos cpos : Pos} {f fa fb fo : DE} {ft : DA}
theorem pg_weak {t t' : L2.TG} (h : PG X e t) (m : ∀ v sg H Q, t' v sg H Q → t v sg H Q) : PG X e t' := ⟨fun pins s sg H v u Q I r w => h.run pins s sg H v u Q I r (m v sg H Q w)⟩
theorem pgs_weak {t t' : L2.TGs} (h : PGs X es t) (m : ∀ v sg H Q, t' v sg H Q → t v sg H Q) : PGs X es t' := ⟨fun pins s sg H v u Q I r w => h.run pins s sg H v u Q I r (m v sg H Q w)⟩
theorem g_name {i : Nat} {x : Str} (hN : X.N.Nodup) (hi : X.N[i]? = some x) (hx : L2.Loc X.env.scope x) (hf : X.fn x = true ∨ X.env.scope.names.lookup x = some .local := by first | exact .inl rfl | exact .inr rfl | assumption) : PGd X (.Name x pos) (nameG i) [i] := by
  refine pg_weak (L2.pg_name hN hi hx hf) fun v sg H Q w => ?_
  obtain ⟨rho, s, h, a, hr, l, r, s1, e, q⟩ := w
  cases e
  refine q _ (l.set r i) (List.length_set) fun j hj => ?_
  exact List.getElem?_set_ne (fun z => hj (by rw [← z]; exact List.mem_singleton.mpr rfl))
theorem gs_nil : PGsd X [] nilG [] := by
  refine pgs_weak L2.pgs_nil fun v sg H Q w => ?_
  obtain ⟨rho, s, h, as, hr, l, r, s1, e, q⟩ := w
  cases r with
  | nil => cases e; exact ⟨rfl, q sg l rfl fun _ _ => rfl⟩
  | cons _ _ => cases e
theorem gs_cons {tf : DG} {tg : List A → Sl → Option Sl} {ix jx : List Nat} (h1 : PGd X e tf ix) (h2 : PGsd X es tg jx) (hs : (assignEach (e :: es) X.env).map (·.2) = assign e X.env :: (assignEach es X.env).map (·.2) := by rfl) : PGsd X (e :: es) (consG tf tg) (ix ++ jx) := by
  refine pgs_weak (L2.pgs_cons h1 h2 hs) fun v sg H Q w => ?_
  obtain ⟨rho, s, h, as, hr, l, r, s1, e, q⟩ := w
  cases r with
  | nil => cases e
  | @cons a u as us r1 r2 =>
    unfold consG at e
    dsimp only at e
    cases q1 : tf a s with
    | none => rw [q1] at e; cases e
    | some s2 =>
      rw [q1, Option.bind_some] at e
      refine ⟨_, _, rfl, rho, s, h, a, hr, l, r1, s2, q1, fun sg1 l1 z1 k1 => ?_⟩
      refine ⟨rho, s2, h, as, hr, l1, r2, s1, e, fun sg2 l2 z2 k2 => q sg2 l2 (z2.trans z1) fun j hj => ?_⟩
      rw [k2 j (fun m => hj (List.mem_append_right _ m)), k1 j (fun m => hj (List.mem_append_left _ m))]
theorem g_tup {k n : Nat} {tg : List A → Sl → Option Sl} {ix : List Nat} (hc : X.calm = true) (h : PGsd X es tg ix) (hn : (assignEach es X.env).length = n := by rfl) (hst : (assignEach es X.env).findIdx? (·.1) = none := by rfl) : PGd X (.Tuple es k pos) (tupG n tg) ix := by
  refine pg_weak (L2.pg_tup hc h hn hst) fun v sg H Q w => ?_
  obtain ⟨rho, s, h, a, hr, l, r, s1, e, q⟩ := w
  cases r with
  | tup h1 h2 =>
    unfold tupG at e
    dsimp only at e
    split at e
    · rename_i hz
      exact ⟨_, _, rfl, .of h1, by rw [← h2.length]; exact hz, rho, s, h, _, hr, l, h2, s1, e, q⟩
    · cases e
  | _ => cases e
/-! ### stores -/
def asgD (f : DE) (g : DG) : DS := fun n s h => (f n s h).then s fun a h1 => match g a s with
  | some s1 => .nx s1 h1
  | none => .no
theorem s_asg {tg : Expr} {g : DG} {ix : List Nat} (he : PEd X W e f) (hg : PGd X tg g ix) (hs : swapsWithSole [tg] e pos.line X.env = pure false := by rfl) (hw : swappedStores [tg] e X.env = pure none := by rfl)
    (h1 : (assignEach [tg] X.env).map (·.2) = [assign tg X.env] := by rfl) : PSd X W (.Assign [tg] e pos) (asgD f g) := by
  refine ps_weak (L2.ps_asg he hg hs hw h1) fun D sg H w => ?_
  obtain ⟨n, rho, s, h, hr, l, p⟩ := w
  refine ⟨n, rho, s, h, hr, l, PostS.then hr l p fun a h1 v rho1 H1 n1 hr1 r1 p1 => ?_⟩
  cases q : g a s with
  | none => rw [q] at p1; exact p1.elim
  | some s1 =>
    rw [q] at p1
    exact ⟨rho1, s, h1, a, hr1, l.mono hr n1, r1, s1, q, fun sg1 l1 _ _ => p1 sg1 rho1 H1 Nx.refl hr1 l1⟩
def parD (i j : Nat) (ft : DA) : DS := fun n s h => (ft n s h).then s fun as h1 => match as with
  | [a, b] => .nx ((s.set i (some a)).set j (some b)) h1
  | _ => .no
theorem s_par {i j : Nat} {x y : Str} {px py pt : Pos} {kt k2 pt2} (hc : X.calm = true) (hN : X.N.Nodup) (hi : X.N[i]? = some x) (hj : X.N[j]? = some y) (hij : i ≠ j)
    (hx : X.env.scope.names.lookup x = some .local) (hy : X.env.scope.names.lookup y = some .local) (ha : PAd X W [a, b] ft)
    (hw : swappedStores [.Tuple [.Name x px, .Name y py] kt pt] (.Tuple [a, b] k2 pt2) X.env = pure (some [x, y]))
    (hs : swapsWithSole [.Tuple [.Name x px, .Name y py] kt pt] (.Tuple [a, b] k2 pt2) pos.line X.env = pure false := by rfl) :
    PSd X W (.Assign [.Tuple [.Name x px, .Name y py] kt pt] (.Tuple [a, b] k2 pt2) pos) (parD i j ft) := by
  refine ps_weak (L2.ps_par hc hN hi hj hij hx hy ha hw hs) fun D sg H w => ?_
  obtain ⟨n, rho, s, h, hr, l, p⟩ := w
  refine ⟨n, rho, s, h, hr, l, PostS.then hr l p fun as h1 vs rho1 H1 n1 hr1 r1 p1 => ?_⟩
  split at p1
  · obtain ⟨v, u, rfl, rv, ru⟩ := r1.two
    exact ⟨v, u, rfl, p1 _ rho1 H1 Nx.refl hr1 (((l.mono hr n1).set rv i).set ru j)⟩
  · exact p1.elim
/-- o[i] = e: a list's place, a dict's key -/
def setItA (h : Hs) (a b c : A) : Option Hs := match a, b with
  | .ref n, .int i => match h[n]? with
    | some (.lst xs) => (L2.ixN xs.length i).map fun j => h.set n (.lst (xs.set j c))
    | _ => dputA h a b c
  | _, _ => dputA h a b c
def isList (h : Hs) : A → Bool
  | .ref n => match h[n]? with
    | some (.lst _) => true
    | _ => false
  | _ => false
def setItD (fo fi fe : DE) : DS := fun n s h => (fe n s h).then s fun c h1 => (fo n s h1).then s fun a h2 => (fi n s h2).then s fun b h3 => match setItA h3 a b c with
  | some h4 => .nx s h4
  | none => .no
def setKind (fo fi fe : DE) (n : Nat) (s : Sl) (h : Hs) : Bool := match fe n s h with
  | .ok _ h1 => match fo n s h1 with
    | .ok a h2 => match fi n s h2 with
      | .ok _ h3 => isList h3 a
      | _ => false
    | _ => false
  | _ => false
theorem PostS.thenE {K : PySem.W.Frag} {mg : Str → Option Value} {rho : List Addr} {H : Hp} {h : Hs} {s : Sl} {sg : L2.St} {α β : Type} {rel : List Addr → Hp → α → β → Prop} {W : WX} {D : L2.Ends} {Q' : β → Hp → Prop} {r : R α} {k : α → Hs → RS} (hr : HR K mg rho H h) (l : SlR K mg rho H s sg) (p : PostS K mg rho H W D (r.then s k))
    (c : ∀ a h1 b rho1 H1, r = .ok a h1 → Nx rho H rho1 H1 → HR K mg rho1 H1 h1 → rel rho1 H1 a b → PostS K mg rho1 H1 W D (k a h1) → Q' b H1) : Post K mg rel rho H (fun c d H' => W c d sg H') Q' r := by
  cases r with
  | ok a h1 => exact fun b rho1 H1 n1 hr1 r1 => c a h1 b rho1 H1 rfl n1 hr1 r1 (PostS.mono hr1 n1 (show PostS K mg rho H W D (k a h1) from p))
  | ex x h1 => exact fun c d rho1 H1 n1 hr1 r1 => (show PostS K mg rho H W D (.ex x s h1) from p) c d sg rho1 H1 n1 hr1 (l.mono hr n1) r1
  | no => exact p
theorem ps_or {st : Stmt} {t t' : L2.TS} (h : PS X st t) (h' : PS X st t') : PS X st (fun D sg H => t D sg H ∨ t' D sg H) := ⟨fun pins s sg H D I w => w.elim (h.run pins s sg H D I) (h'.run pins s sg H D I)⟩
theorem s_setIt {e : Expr} {pos' : Pos} {fi fe : DE} (hu : X.A.units + 1 < cLine) (ho : PEd X W o fo) (hi : PEd X W i fi) (he : PEd X W e fe)
    (ha : ∀ v, assign (.Subscript o i pos') X.env v = (do
      let ov ← holding [v] (eval o X.env)
      let iv ← holding [v, ov] (eval i X.env)
      standAt pos'
      holding [v, ov, iv] (setItem ov iv v)
      release [v, ov, iv] []) := by intro _; rfl)
    (hs : swapsWithSole [.Subscript o i pos'] e pos.line X.env = pure false := by rfl) (hw : swappedStores [.Subscript o i pos'] e X.env = pure none := by rfl)
    (h1 : (assignEach [.Subscript o i pos'] X.env).map (·.2) = [assign (.Subscript o i pos') X.env] := by rfl) (hs2 : swapsWith e (some (.Subscript o i pos')) pos.line X.env = pure false := by rfl) : PSd X W (.Assign [.Subscript o i pos'] e pos) (setItD fo fi fe) := by
  refine ps_weak (ps_or (L2.ps_asg he (L2.pg_sub ho hi L2.set_list ha) hs hw h1) (L2.ps_dput hu ho hi he hs2)) fun D sg H w => ?_
  obtain ⟨n, rho, s, h, hr, l, p⟩ := w
  cases q : setKind fo fi fe n s h with
  | true =>
    refine .inl ⟨n, rho, s, h, hr, l, PostS.thenE hr l p fun c h1 v rho1 H1 q1 n1 hr1 r1 p1 => ?_⟩
    refine ⟨n, rho1, s, h1, hr1, l.mono hr n1, PostS.thenE hr1 (l.mono hr n1) p1 fun a h2 u rho2 H2 q2 n2 hr2 r2 p2 => ?_⟩
    refine ⟨n, rho2, s, h2, hr2, (l.mono hr n1).mono hr1 n2, PostS.thenE hr2 ((l.mono hr n1).mono hr1 n2) p2 fun b h3 z rho3 H3 q3 n3 hr3 r3 p3 => ?_⟩
    have hk : isList h3 a = true := by rw [← q]; unfold setKind; rw [q1]; dsimp only; rw [q2]; dsimp only; rw [q3]
    have ra := r2.mono hr2 n3
    have rc := (r1.mono hr1 n2).mono hr2 n3
    cases ra with
    | ref hp =>
      rename_i m pp
      unfold isList at hk
      dsimp only at hk
      split at hk
      · rename_i xs hx
        cases b with
        | int j =>
          cases r3
          unfold setItA at p3
          dsimp only at p3
          rw [hx] at p3
          dsimp only at p3
          cases q4 : L2.ixN xs.length j with
          | none => rw [q4] at p3; exact p3.elim
          | some jj =>
            rw [q4] at p3
            obtain ⟨vs, e1, e2⟩ := hr3.lst hp hx
            obtain ⟨nx, hr4⟩ := hr3.set (o := .lst (xs.set jj c)) (u := .lst (vs.set jj v)) hp (.lst (RVs.set rc jj e2))
            exact ⟨pp, vs, j, jj, rfl, rfl, e1, by rw [← e2.length]; exact q4, p3 sg rho3 _ nx hr4 ((((l.mono hr n1).mono hr1 n2).mono hr2 n3).mono hr3 nx)⟩
        | _ =>
          unfold setItA dputA at p3
          simp only [hx] at p3
          exact p3.elim
      · cases hk
    | _ => cases hk
  | false =>
    refine .inr ⟨n, rho, s, h, hr, l, PostS.thenE hr l p fun c h1 v rho1 H1 q1 n1 hr1 r1 p1 => ?_⟩
    refine ⟨n, rho1, s, h1, hr1, l.mono hr n1, PostS.thenE hr1 (l.mono hr n1) p1 fun a h2 u rho2 H2 q2 n2 hr2 r2 p2 => ?_⟩
    refine ⟨n, rho2, s, h2, hr2, (l.mono hr n1).mono hr1 n2, PostS.thenE hr2 ((l.mono hr n1).mono hr1 n2) p2 fun b h3 z rho3 H3 q3 n3 hr3 r3 p3 => ?_⟩
    have hk : isList h3 a = false := by rw [← q]; unfold setKind; rw [q1]; dsimp only; rw [q2]; dsimp only; rw [q3]
    have e4 : setItA h3 a b c = dputA h3 a b c := by
      unfold setItA
      split
      · rename_i m j
        split
        · rename_i xs hx
          unfold isList at hk
          dsimp only at hk
          rw [hx] at hk
          cases hk
        · rfl
      · rfl
    rw [e4] at p3
    cases q4 : dputA h3 a b c with
    | none => rw [q4] at p3; exact p3.elim
    | some h4 =>
      rw [q4] at p3
      obtain ⟨pp, H4, rfl, g, nx, hr4⟩ := dputA_get hr3 q4 (r2.mono hr2 n3) r3 ((r1.mono hr1 n2).mono hr2 n3)
      exact ⟨pp, H4, rfl, g, p3 sg rho3 _ nx hr4 ((((l.mono hr n1).mono hr1 n2).mono hr2 n3).mono hr3 nx)⟩
/-- x += e, ints or texts -/
def augD (i : Nat) (g : O2) (f : DE) : DS := fun n s h => match s[i]? with
  | some (some a) => (f n s h).then s fun b h1 => (g a b h1).then s fun c h2 => .nx (s.set i (some c)) h2
  | _ => .no
theorem s_aug {i : Nat} {x : Str} {op : Operator} {r : L2.R2} {g : O2} {pos' : Pos} (hN : X.N.Nodup) (hi : X.N[i]? = some x) (hx : L2.Loc X.env.scope x) (he : PEd X W e f) (ho : L2.OpR X (inplaceOp op) r) (rf : Rf2 X.K X.mg r g)
    (hf : X.fn x = true ∨ X.env.scope.names.lookup x = some .local := by first | exact .inl rfl | exact .inr rfl | assumption) : PSd X W (.AugAssign (.Name x pos') op e pos) (augD i g f) := by
  refine ps_weak (L2.ps_aug (ti := fun x y H Q => r x y H Q) hN hi hx he (fun pins s sg H x y v u Q I rx ry q => ho pins s sg H x y v u Q I rx ry q) hf) fun D sg H w => ?_
  obtain ⟨n, rho, s, h, hr, l, p⟩ := w
  unfold augD at p
  split at p
  · rename_i a ea
    obtain ⟨v, ev, rv⟩ := l.get i a ea
    refine ⟨v, ev, n, rho, s, h, hr, l, PostS.then hr l p fun b h1 u rho1 H1 n1 hr1 r1 p1 => ?_⟩
    refine rf rho1 H1 h1 a b v u (fun c d H' => W c d sg H') _ hr1 (rv.mono hr n1) r1 (PostS.then hr1 (l.mono hr n1) p1 fun c h2 z rho2 H2 n2 hr2 r2 p2 => ?_)
    exact p2 _ rho2 H2 Nx.refl hr2 (((l.mono hr n1).mono hr1 n2).set r2 i)
  · exact p.elim
end
end Dn

set_option maxHeartbeats 4000000
/-! Dn9: while, what is walked, for, comprehensions. -/
namespace Dn
open PySem
open L2 (PE PT PA PS PSs PG PGs PI Cx WX Takes HO Hp VK)

/-! ### while -/
def whileL (c : DT) (b : DS) (n : Nat) : Nat → Sl → Hs → RS
  | 0, _, _ => .no
  | k + 1, s, h => (c n s h).then s fun t h1 => if t then (match b n s h1 with
      | .nx s2 h2 => whileL c b n k s2 h2
      | .ct s2 h2 => whileL c b n k s2 h2
      | .bk s2 h2 => .nx s2 h2
      | r => r)
    else .nx s h1
def whileD (c : DT) (b : DS) : DS := fun n s h => whileL c b n n s h
section
variable {X : Cx} {W : WX} {e a b o i c : Expr} {es rest : List Expr} {body : List Stmt} {pos p apos cpos : Pos} {f fa fb fo : DE} {fc : DT} {g : DS} {ft : DA}
theorem s_while (hp : PassesOwn (model X.prog X.w) X.A X.env X.xe) (hc : PTd X W c fc) (hb : PBd X W body g) : PSd X W (.While c body [] pos) (whileD fc g) := by
  refine ps_weak (L2.ps_while hp hc hb) fun D sg H w => ?_
  obtain ⟨n, rho, s, h, hr, l, p⟩ := w
  refine ⟨fun m sg H => ∃ rho s h, HR X.K X.mg rho H h ∧ SlR X.K X.mg rho H s sg ∧ PostS X.K X.mg rho H W D (whileL fc g n m s h), ⟨n, rho, s, h, hr, l, p⟩, ?_⟩
  clear hr l p
  rintro m sg H ⟨rho, s, h, hr, l, p⟩
  cases m with
  | zero => exact p.elim
  | succ k =>
    rw [whileL] at p
    refine ⟨n, rho, s, h, hr, l, PostS.then hr l p fun t h1 t' rho1 H1 n1 hr1 r1 p1 => ?_⟩
    subst r1
    cases t with
    | false => exact L2.iteF (p1 sg rho1 H1 Nx.refl hr1 (l.mono hr n1))
    | true =>
      simp only [if_true] at p1
      refine L2.iteT ⟨fun sg H => ∃ rho s h, HR X.K X.mg rho H h ∧ SlR X.K X.mg rho H s sg ∧ PostS X.K X.mg rho H W D (whileL fc g n k s h), fun sg' H' z => ⟨k, Nat.lt_succ_self k, z⟩, ?_⟩
      refine ⟨n, rho1, s, h1, hr1, l.mono hr n1, ?_⟩
      revert p1
      cases g n s h1 with
      | nx s2 h2 => intro p1; exact fun sg2 rho2 H2 n2 hr2 l2 => ⟨rho2, s2, h2, hr2, l2, PostS.mono hr2 n2 p1⟩
      | ct s2 h2 => intro p1; exact fun sg2 rho2 H2 n2 hr2 l2 => ⟨rho2, s2, h2, hr2, l2, PostS.mono hr2 n2 p1⟩
      | bk s2 h2 => intro p1; exact p1
      | rt a h2 => intro p1; exact p1
      | ex x s2 h2 => intro p1; exact p1
      | no => intro p1; exact p1
/-! ### what is walked -/
abbrev Step := Nat → Hs → Option (Option A)
abbrev DI := Nat → Sl → Hs → R Step
end
/-- the step st tells the iterator J from (rho, H) on -/
def ItOk (K : PySem.W.Frag) (mg : Str → Option Value) (rho0 : List Addr) (H0 : Hp) (st : Step) (J : L2.It) : Prop := ∀ (rho : List Addr) (H : Hp) (h : Hs) (i : Nat), Stay rho0 H0 rho H → HR K mg rho H h →
  (∀ x, st i h = some (some x) → J.go i H ∧ ∀ v H', J.yld i H v H' → Nx rho H rho H' ∧ HR K mg rho H' h ∧ RV K mg rho H' x v) ∧ (st i h = some none → J.stop i H)
def tI (K : PySem.W.Frag) (mg : Str → Option Value) (W : WX) (f : DI) : L2.TI := fun sg H R => ∃ n rho s h, HR K mg rho H h ∧ SlR K mg rho H s sg ∧ Post K mg (ItOk K mg) rho H (fun c d H' => W c d sg H') R (f n s h)
abbrev PId (X : Cx) (W : WX) (tg iter : Expr) (f : DI) : Prop := PI X tg iter (tI X.K X.mg W f)
theorem pi_weak {X : Cx} {tg e : Expr} {t t' : L2.TI} (h : PI X tg e t) (m : ∀ sg H Q, t' sg H Q → t sg H Q) : PI X tg e t' := ⟨fun pins s sg H Q I w => h.run pins s sg H Q I (m sg H Q w)⟩
theorem pi_or {X : Cx} {tg e : Expr} {t t' : L2.TI} (h : PI X tg e t) (h' : PI X tg e t') : PI X tg e (fun sg H Q => t sg H Q ∨ t' sg H Q) := ⟨fun pins s sg H Q I w => w.elim (h.run pins s sg H Q I) (h'.run pins s sg H Q I)⟩
/-- the items of a sequence, a list as it stands at each turn -/
def stepL (m : Nat) : Step := fun i h => match h[m]? with
  | some (.lst xs) => some xs[i]?
  | _ => none
def stepX (xs : List A) : Step := fun i _ => some xs[i]?
def stepR (lo : Int) (n : Nat) : Step := fun i _ => if i < n then some (some (.int (lo + i))) else some none
def itSeq (f : DE) : DI := fun n s h => (f n s h).bind fun a h1 => match a with
  | .ref m => match h1[m]? with
    | some (.lst _) => .ok (stepL m) h1
    | _ => .no
  | .tup xs => .ok (stepX xs) h1
  | .rol xs => .ok (stepX xs) h1
  | _ => .no
def itRg1 (f : DA) : DI := fun n s h => (f n s h).bind fun as h1 => match as with
  | [.int j] => if j.natAbs < 2 ^ 62 then .ok (stepR 0 j.toNat) h1 else .no
  | _ => .no
def itRg2 (f : DA) : DI := fun n s h => (f n s h).bind fun as h1 => match as with
  | [.int i, .int j] => if i.natAbs < 2 ^ 62 ∧ j.natAbs < 2 ^ 62 then .ok (stepR i (j - i).toNat) h1 else .no
  | _ => .no
/-- enumerate: each item in a new pair -/
def stepE (st : Step) : Step := fun i h => (st i h).map fun o => o.map fun x => .tup [.int (i : Nat), x]
def itEn (f : DA) : DI := fun n s h => (f n s h).bind fun as h1 => match as with
  | [.ref m] => match h1[m]? with
    | some (.lst _) => .ok (stepE (stepL m)) h1
    | _ => .no
  | [.tup xs] => .ok (stepE (stepX xs)) h1
  | [.rol xs] => .ok (stepE (stepX xs)) h1
  | _ => .no
section
variable {K : PySem.W.Frag} {mg : Str → Option Value} {rho rho' : List Addr} {H H' : Hp} {h h' : Hs}
theorem sqL_none {a : Addr} {xs ys : List L2.V} (e : L2.SqL K (fun _ => none) a xs) : L2.SqL K H a xs := by
  rcases e with (e | ⟨_, e⟩) | e
  · cases e
  · cases e
  · exact .inr e
/-- two readings of a list at one place -/
theorem sqK_inj {a : Addr} {xs ys : List L2.V} {o1 o2 : Obj} {i1 i2 : Array Value} {n1 n2 : Nat} (h1 : K.lookup a = some o1) (d1 : o1.data = .seq i1 n1) (r1 : L2.Vals xs i1.toList) (h2 : K.lookup a = some o2) (d2 : o2.data = .seq i2 n2) (r2 : L2.Vals ys i2.toList) : xs = ys := by
  rw [h1] at h2; cases h2
  rw [d1] at d2
  injection d2 with e _
  subst e
  exact r1.inj r2
theorem stepL_ok (hr : HR K mg rho H h) {m : Nat} {a : Addr} (hp : rho[m]? = some a) : ItOk K mg rho H (stepL m) (L2.Itl K a) := by
  intro rho1 H1 h1 i n1 hr1
  have hp1 := n1.pre _ _ hp
  refine ⟨fun x e => ?_, fun e => ?_⟩
  · unfold stepL at e
    split at e
    · rename_i xs q
      obtain ⟨vs, e1, e2⟩ := hr1.lst hp1 q
      obtain ⟨v, e3, rv⟩ := e2.get (Option.some.inj e)
      refine ⟨⟨vs, v, .of e1, e3⟩, fun u H' y => ?_⟩
      obtain ⟨rfl, y⟩ := y
      have z := y vs (.of e1)
      rw [e3] at z
      cases z
      exact ⟨Nx.refl, hr1, rv⟩
    · cases e
  · unfold stepL at e
    split at e
    · rename_i xs q
      obtain ⟨vs, e1, e2⟩ := hr1.lst hp1 q
      refine ⟨vs, .of e1, ?_⟩
      rw [← e2.length]
      exact List.getElem?_eq_none_iff.mp (Option.some.inj e)
    · cases e
theorem stepT_ok (hr : HR K mg rho H h) {a : Addr} {xs : List A} {vs : List L2.V} (e : H a = some (.tup vs)) (r : RVs K mg rho H xs vs) : ItOk K mg rho H (stepX xs) (L2.Itt K a) := by
  intro rho1 H1 h1 i n1 hr1
  have e1 := n1.tups _ _ e
  have r1 := r.stay n1
  refine ⟨fun x q => ?_, fun q => ?_⟩
  · obtain ⟨v, e3, rv⟩ := r1.get (Option.some.inj q)
    refine ⟨⟨vs, v, .of e1, e3⟩, fun u H' y => ?_⟩
    obtain ⟨rfl, y⟩ := y
    have z := y vs (.of e1)
    rw [e3] at z
    cases z
    exact ⟨Nx.refl, hr1, rv⟩
  · refine ⟨vs, .of e1, ?_⟩
    rw [← r1.length]
    exact List.getElem?_eq_none_iff.mp (Option.some.inj q)
theorem rol_stay (n : Stay rho H rho' H') {a : Addr} {vs : List L2.V} (e : (∃ ob, H a = some (.frz ob (.lst vs)) ∧ a ∉ rho) ∨ L2.SqL K (fun _ => none) a vs) :
    (∃ ob, H' a = some (.frz ob (.lst vs)) ∧ a ∉ rho') ∨ L2.SqL K (fun _ => none) a vs := by
  rcases e with ⟨ob, e1, e2⟩ | e
  · exact .inl ⟨ob, n.frz _ _ _ e1 e2⟩
  · exact .inr e
theorem stepRol_ok (hr : HR K mg rho H h) {a : Addr} {xs : List A} {vs : List L2.V} (e : (∃ ob, H a = some (.frz ob (.lst vs)) ∧ a ∉ rho) ∨ L2.SqL K (fun _ => none) a vs) (r : RVs K mg rho H xs vs) : ItOk K mg rho H (stepX xs) (L2.Itl K a) := by
  intro rho1 H1 h1 i n1 hr1
  have e1 := rol_sq (rol_stay n1 e)
  have r1 := r.stay n1
  refine ⟨fun x q => ?_, fun q => ?_⟩
  · obtain ⟨v, e3, rv⟩ := r1.get (Option.some.inj q)
    refine ⟨⟨vs, v, e1, e3⟩, fun u H' y => ?_⟩
    obtain ⟨rfl, y⟩ := y
    have z := y vs e1
    rw [e3] at z
    cases z
    exact ⟨Nx.refl, hr1, rv⟩
  · refine ⟨vs, e1, ?_⟩
    rw [← r1.length]
    exact List.getElem?_eq_none_iff.mp (Option.some.inj q)
theorem stepR_ok {lo : Int} {n : Nat} : ItOk K mg rho H (stepR lo n) (L2.Itr lo n) := by
  intro rho1 H1 h1 i n1 hr1
  refine ⟨fun x q => ?_, fun q => ?_⟩
  · unfold stepR at q
    split at q
    · rename_i hi
      cases q
      refine ⟨hi, fun u H' y => ?_⟩
      obtain ⟨rfl, rfl⟩ := y
      exact ⟨Nx.refl, hr1, .int _⟩
    · cases q
  · unfold stepR at q
    split at q
    · cases q
    · rename_i hi; show n ≤ i; omega
end
section
variable {X : Cx} {W : WX} {e a b o i c tg : Expr} {es rest : List Expr} {body : List Stmt} {pos p apos cpos : Pos} {f fa fb fo : DE} {fc : DT} {g : DS} {ft : DA} 
/-- whether the function gives a tuple -/
def givesTup (f : DE) (n : Nat) (s : Sl) (h : Hs) : Bool := match f n s h with
  | .ok (.tup _) _ => true
  | _ => false
theorem i_seq (hf : PEd X W e f) : PId X W tg e (itSeq f) := by
  refine pi_weak (pi_or (L2.pi_list hf) (L2.pi_tup hf)) fun sg H R w => ?_
  obtain ⟨n, rho, s, h, hr, l, p⟩ := w
  cases q : givesTup f n s h with
  | false =>
    refine .inl ⟨n, rho, s, h, hr, l, Post.bindE p fun a h1 v rho1 H1 q1 n1 hr1 r1 p1 => ?_⟩
    cases r1 with
    | ref hp =>
      dsimp only at p1
      split at p1
      · rename_i xs hx
        obtain ⟨vs, e1, e2⟩ := hr1.lst hp hx
        exact ⟨_, rfl, ⟨vs, .of e1⟩, p1 _ rho1 H1 Nx.refl hr1 (stepL_ok hr1 hp)⟩
      · exact p1.elim
    | rol e1 r => exact ⟨_, rfl, ⟨_, rol_sq e1⟩, p1 _ rho1 H1 Nx.refl hr1 (stepRol_ok hr1 e1 r)⟩
    | tup _ _ => unfold givesTup at q; rw [q1] at q; cases q
    | _ => exact p1.elim
  | true =>
    refine .inr ⟨n, rho, s, h, hr, l, Post.bindE p fun a h1 v rho1 H1 q1 n1 hr1 r1 p1 => ?_⟩
    unfold givesTup at q
    rw [q1] at q
    cases r1 with
    | tup e1 r => exact ⟨_, rfl, ⟨_, .of e1⟩, p1 _ rho1 H1 Nx.refl hr1 (stepT_ok hr1 e1 r)⟩
    | _ => cases q
theorem i_rg1 (hg : L2.Gl X "range") (hm : X.mg "range" = none) (ha : PAd X W [a] ft) (hs : starEach [a] X.env = [(false, eval a X.env)] := by rfl) :
    PId X W tg (.Call (.Name "range" p) [a] [] pos) (itRg1 ft) := by
  refine pi_weak (L2.pi_range1 hg hm ha hs) fun sg H R w => ?_
  obtain ⟨n, rho, s, h, hr, l, p⟩ := w
  refine ⟨n, rho, s, h, hr, l, Post.bind p fun as h1 vs rho1 H1 n1 hr1 r1 p1 => ?_⟩
  split at p1
  · obtain ⟨v, rfl, rv⟩ := r1.one
    cases rv
    split at p1
    · rename_i j hz
      exact ⟨j, rfl, by omega, by omega, p1 _ rho1 H1 Nx.refl hr1 stepR_ok⟩
    · exact p1.elim
  · exact p1.elim
theorem i_rg2 (hg : L2.Gl X "range") (hm : X.mg "range" = none) (ha : PAd X W [a, b] ft) (hs : starEach [a, b] X.env = [(false, eval a X.env), (false, eval b X.env)] := by rfl) (hs2 : starEach [b] X.env = [(false, eval b X.env)] := by rfl) :
    PId X W tg (.Call (.Name "range" p) [a, b] [] pos) (itRg2 ft) := by
  refine pi_weak (L2.pi_range2 hg hm ha hs hs2) fun sg H R w => ?_
  obtain ⟨n, rho, s, h, hr, l, p⟩ := w
  refine ⟨n, rho, s, h, hr, l, Post.bind p fun as h1 vs rho1 H1 n1 hr1 r1 p1 => ?_⟩
  split at p1
  · cases r1 with
    | cons r rr => cases rr with
      | cons r' rr =>
        cases rr; cases r; cases r'
        split at p1
        · rename_i i j hz
          exact ⟨i, j, rfl, ⟨by omega, by omega, by omega, by omega⟩, p1 _ rho1 H1 Nx.refl hr1 stepR_ok⟩
        · exact p1.elim
  · exact p1.elim
end
/-! ### enumerate -/
section
variable {K : PySem.W.Frag} {mg : Str → Option Value} {rho rho' : List Addr} {H H' : Hp} {h h' : Hs}
theorem stepE_ok {st : Step} {J J' : L2.It} (o : ItOk K mg rho H st J) (hgo : ∀ i H, J.go i H → J'.go i H) (hst : ∀ i H, J.stop i H → J'.stop i H)
    (hy : ∀ i H v H', J.go i H → J'.yld i H v H' → ∃ T x, v = .ref T ∧ H T = none ∧ H' = L2.upd H T (.tup [.int (i : Nat), x]) ∧ J.yld i H x H) : ItOk K mg rho H (stepE st) J' := by
  intro rho1 H1 h1 i n1 hr1
  obtain ⟨o1, o2⟩ := o rho1 H1 h1 i n1 hr1
  refine ⟨fun x e => ?_, fun e => ?_⟩
  · unfold stepE at e
    cases q : st i h1 with
    | none => rw [q] at e; cases e
    | some z => cases z with
      | none => rw [q] at e; cases e
      | some y =>
        rw [q] at e
        have e' : A.tup [.int (i : Nat), y] = x := by simpa using e
        subst e'
        obtain ⟨g1, g2⟩ := o1 y q
        refine ⟨hgo _ _ g1, fun v H' yl => ?_⟩
        obtain ⟨T, w, rfl, hT, rfl, yl'⟩ := hy _ _ _ _ g1 yl
        obtain ⟨_, _, rw'⟩ := g2 _ _ yl'
        obtain ⟨n2, hr2⟩ := hr1.tup (u := .tup [.int (i : Nat), w]) hT
        exact ⟨n2, hr2, .tup L2.upd_same (.cons (.int _) (.cons (rw'.mono hr1 n2) .nil))⟩
  · unfold stepE at e
    cases q : st i h1 with
    | none => rw [q] at e; cases e
    | some z => cases z with
      | none => exact hst _ _ (o2 q)
      | some y => rw [q] at e; cases e
theorem stepEl_ok {st : Step} {a : Addr} (o : ItOk K mg rho H st (L2.Itl K a)) : ItOk K mg rho H (stepE st) (L2.Ite K a) :=
  stepE_ok o (fun _ _ g => g) (fun _ _ g => g) fun i H v H' g y => by
    obtain ⟨T, x, e1, e2, e3, e4⟩ := y
    exact ⟨T, x, e1, e2, e3, rfl, e4⟩
/-- the tuple at a, each item in a new pair -/
def IteT (K : PySem.W.Frag) (a : Addr) : L2.It :=
  ⟨fun i H => ∃ (xs : List L2.V) (x : L2.V), L2.SqT K H a xs ∧ xs[i]? = some x, fun i H v H' => ∃ T x, v = .ref T ∧ H T = none ∧ H' = L2.upd H T (.tup [.int (i : Nat), x]) ∧ ∀ xs, L2.SqT K H a xs → xs[i]? = some x, fun i H => ∃ xs : List L2.V, L2.SqT K H a xs ∧ xs.length ≤ i⟩
theorem stepEt_ok {st : Step} {a : Addr} (o : ItOk K mg rho H st (L2.Itt K a)) : ItOk K mg rho H (stepE st) (IteT K a) :=
  stepE_ok o (fun _ _ g => g) (fun _ _ g => g) fun i H v H' g y => by
    obtain ⟨T, x, e1, e2, e3, e4⟩ := y
    exact ⟨T, x, e1, e2, e3, rfl, e4⟩
end
end Dn

set_option maxHeartbeats 4000000
/-! Dn10: enumerate over a tuple, for. -/
namespace Dn
open PySem PySem.Sem PyProof.Rows
open L2 (PE PT PA PS PSs PG PGs PI Cx WX Takes HO Hp VK)
/-- enumerate's new object over anything that a walk begins over -/
theorem en_new {v : Value} {o : Obj} {P : Heap → Prop} (B : Begins v o P) :
    Meets (Builtin.«enumerate.__new__» ⟨[.type "enumerate", v], []⟩) (fun _ R s => P s.heap ∧
      R (.ok (.ret (.ref (s.heap.push o).objs.size))) { s with heap := (s.heap.push o).push { cls := .type "enumerate", data := .fields #[.none, .bool false, .ref s.heap.objs.size, rawInt 0, .none, .none] } }) :=
  .of_wp fun prog w A R s z => by
    obtain ⟨hp, g, d, tk, os⟩ := s
    obtain ⟨z1, z2⟩ := z
    have sb := sub_enumerate
    have it1 : ∀ {A' : Around} {E : Value → Shared → Prop} {Q : Value → Shared → Prop}, Q (.ref hp.objs.size) ⟨hp.push o, g, d, tk, os⟩ → wpAny (model prog w) A' (pyIter v) Q E ⟨hp, g, d, tk, os⟩ :=
      fun q => B.iter prog w _ _ ⟨hp, g, d, tk, os⟩ _ z1 q
    wp_walk using it1
    refine wpAny_stack_any fun st => wpAny_pure ?_
    split
    · rename_i c _ _ _ _ _
      cases (c == Value.type "enumerate") <;> (wp_walk using it1; exact ⟨_, rfl, z2⟩)
    · wp_walk using it1
      exact ⟨_, rfl, z2⟩
theorem en_call {prog : Program} {w : World} {A : Around} {E : Value → Shared → Prop} {s : Shared} {v : Value} {o : Obj} {P : Heap → Prop} {Q : Value → Shared → Prop} (B : Begins v o P) (z : P s.heap)
    (k : ∀ h', IsEnum h' (s.heap.objs.size + 1) s.heap.objs.size 0 .none → h'.get? s.heap.objs.size = some o → h'.objs.size = s.heap.objs.size + 2 → (∀ b o, s.heap.get? b = some o → h'.get? b = some o) → Q (.ref (s.heap.objs.size + 1)) { s with heap := h' }) :
    wpAny (model prog w) A (call (.type "enumerate") [v]) Q E s := by
  refine callType_new F.called_enumerate (by decide) (F.typeCall_enumerate_1 _) (F.newCall_enumerate_1 _) (fun obj => F.args_object_init_2 obj _) F.entry_enumerate_new (en_new B) ⟨z, ?_⟩
  have hz : (s.heap.push o).objs.size = s.heap.objs.size + 1 := Heap.size_push ..
  show _ ∧ _
  rw [hz]
  have he : IsEnum ((s.heap.push o).push { cls := .type "enumerate", data := .fields #[.none, .bool false, .ref s.heap.objs.size, rawInt 0, .none, .none] }) (s.heap.objs.size + 1) s.heap.objs.size 0 .none := by
    have q := Heap.get?_push_size (s.heap.push o) (o := { cls := .type "enumerate", data := .fields #[.none, .bool false, .ref s.heap.objs.size, rawInt 0, .none, .none] }) rfl
    rw [hz] at q; exact q
  exact ⟨⟨_, he, rfl⟩, k _ he (Heap.get?_push_of_some _ (Heap.get?_push_size _ B.free)) (by rw [Heap.size_push, hz]) fun b o' x => Heap.get?_push_of_some _ (Heap.get?_push_of_some _ x)⟩
theorem turn_enT {P : Program} {w : World} {K : PySem.W.Frag} {elts : List Expr} {kk : Nat} {tpos : Pos} (a e it : Addr) :
    L2.Turn P w K (.Tuple elts kk tpos) (IteT K a) [e, it] e (fun i h => (∃ old, IsEnum h e it ((i : Nat) : Int) old) ∧ h.IsTupleIter it a i ∧ e ≠ it) where
  mem := by simp
  obj := fun i h st b hb => by
    obtain ⟨⟨old, he⟩, ⟨o, ho, hc, hd⟩, _⟩ := st
    rcases (by simpa using hb : b = e ∨ b = it) with z | z
    · rw [z]; exact ⟨_, he, fun v q => nomatch q⟩
    · rw [z]; exact ⟨o, ho, fun v q => by rw [hd] at q; cases q⟩
  keep := fun i h h' st k => let ⟨⟨old, he⟩, hi, hne⟩ := st; ⟨⟨old, k e (by simp) _ he⟩, hi.at fun o q => k it (by simp) o q, hne⟩
  item := by
    intro X hP hw hK hc i pins s σ H E I hf st hg
    subst hP hw hK
    obtain ⟨⟨old, he⟩, hit, hne⟩ := st
    obtain ⟨xs, x, hq, hx⟩ := hg
    obtain ⟨its, rv, p, hz⟩ := I.tuple hq
    obtain ⟨u, hu, ru⟩ := rv.get hx
    have hel : e < s.heap.objs.size := Heap.lt_size he
    have hil : it < s.heap.objs.size := by obtain ⟨_, q, _⟩ := hit; exact Heap.lt_size q
    have ea : e ≠ a := fun z => by
      have p' : s.heap.IsTuple a its.toArray := p
      rw [← z] at p'
      obtain ⟨o, ho, hoc, _⟩ := p'
      rw [he] at ho; cases ho; exact absurd hoc (by simp)
    have ia : it ≠ a := fun z => by
      have p' : s.heap.IsTuple a its.toArray := p
      rw [← z] at p'
      obtain ⟨o, ho, hoc, _⟩ := p'
      obtain ⟨o2, ho2, hc2, _⟩ := hit
      rw [ho2] at ho; cases ho; rw [hoc] at hc2; exact absurd hc2 (by simp)
    have D : Draws X.prog X.w X.A.in1 it [it, a] its.toArray.size (fun i v => its.toArray[i]? = some v) (fun i h => h.IsTupleIter it a i ∧ h.IsTuple a its.toArray) := Draws.tuple (show X.A.in1.handled = none from I.ok.hd hc) it a (Ne.symm ia) its.toArray
    have hlt : i < its.toArray.size := by
      have q : its[i]? = some u := hu
      have := (List.getElem?_eq_some_iff.mp q).1
      simpa using this
    refine wpAny_pyNext_enum_itemD D he ⟨hit, p⟩ hlt hne (by simp [ea, hne]) fun u' h' tk hx' ho hit' hT hsz hk => ?_
    have eu : u' = u := by
      have q1 : its[i]? = some u' := by simpa using hx'
      have q2 : its[i]? = some u := hu
      rw [q1] at q2; exact Option.some.inj q2
    subst eu
    refine ⟨_, rfl, wpAny_letOwnedTupleGo_enum (s := { s with heap := h', toks := tk + 1 }) ho fun h'' he' sb => ?_⟩
    have hT2 : h''.get? s.heap.objs.size = some { cls := .type "tuple", data := .seq #[.int i tk, u'] } := (sb.2 _ (Nat.ne_of_gt hel)).trans hT
    have new : L2.ObjOk X.prog X.w (L2.upd H s.heap.objs.size (.tup [.int (i : Nat), x])) h'' s.heap.objs.size (.tup [.int (i : Nat), x]) :=
      ⟨by show 2 ≤ sizeLine; decide, [.int i tk, u'], .cons ⟨_, rfl⟩ (.cons ru .nil), ⟨_, hT2, rfl, _, rfl⟩⟩
    have I1 : L2.Inv X pins σ (L2.upd H s.heap.objs.size (.tup [.int (i : Nat), x])) { s with heap := h'', toks := tk + 1 } :=
      I.turnedNew (ch := [e, it]) (fun b ob hb q => (sb.2 b (fun z => hb (by simp [z]))).trans (hk b ob (fun z => hb (by simp [z])) (fun z => hb (by simp [z])) q)) hf (Nat.le_refl _) new
    refine ⟨.ref s.heap.objs.size, _, I1, rfl, ⟨_, x, rfl, I.hok.fresh (Nat.le_refl _), rfl, fun ys hy => by rw [I.tuple_inj hy hq]; exact hx⟩, ⟨⟨u', ?_⟩, hit'.1.at fun o q => (sb.2 it (Ne.symm hne)).trans q, hne⟩, fun b hb => ?_⟩
    · have e1 : ((i + 1 : Nat) : Int) = (i : Int) + 1 := by omega
      rw [e1]; exact he'
    · have hb' : b < s.heap.objs.size := by
        rcases (by simpa using hb : b = e ∨ b = it) with z | z
        · rw [z]; exact hel
        · rw [z]; exact hil
      rw [L2.upd_ne (Nat.ne_of_lt hb')]
      exact (hf b hb).1
  done := by
    intro X hP hw hK hc i pins s σ H E I hf st hg
    subst hP hw hK
    obtain ⟨⟨old, he⟩, hit, hne⟩ := st
    obtain ⟨xs, hq, hx⟩ := hg
    obtain ⟨its, rv, p, hz⟩ := I.tuple hq
    obtain ⟨f0, f1, f2, f3, f4, f5⟩ := hf it (by simp)
    have hl := rv.length
    have hT : s.TypeIs (.ref e) "enumerate" := ⟨_, he, rfl⟩
    show wpAny _ _ (pyNext (.ref e)) _ _ s
    unfold pyNext
    refine wpAny_bind (wpAny_attempt (wpAny_callSpecial?_slot (name := Str.ofString "__next__") hT F.slot_enumerate_next
      (wpAny_call_entry F.slot_enumerate_next hT F.entry_enumerate_next ?_ (F.args_enumerate_next_1 _))))
    show wpAny _ _ (field (.ref e) 2 >>= _) _ _ _
    refine wpAny_bind (wpAny_field he rfl (x := .ref it) rfl ?_)
    refine wpAny_bind (wpAny_nextOf_tuple_end (show X.A.in1.in1.handled = none from I.ok.hd hc) hit (show s.heap.IsTuple a its.toArray from p) (by simp; omega) fun h' x eb hx' => ?_)
    obtain ⟨o, ho, hc⟩ := hx'
    refine wpAny_bind (wpAny_isInstance (T := "StopIteration") (b := true) ⟨o, ho, hc⟩ isSubtype_stop ?_)
    exact wpAny_pure ⟨rfl, I.turned (t' := s.toks) (fun b o hb q => eb b o hb q) f0 f1 f3 f4 f5⟩
  self := fun A i s Q E st h => let ⟨⟨_, he⟩, _⟩ := st; wpAny_pyIter_enum he h
def iEnT (K : PySem.W.Frag) (ta : L2.TA) : L2.TI := fun σ H R => ta σ H fun vs H1 => ∃ a xs, vs = [.ref a] ∧ L2.SqT K H1 a xs ∧ R (IteT K a) H1
theorem pi_enT {X : Cx} {e : Expr} {ta : L2.TA} {p pos tpos : Pos} {elts : List Expr} {kk : Nat} (hg : L2.Gl X "enumerate") (hm : X.mg "enumerate" = none) (ha : PA X [e] ta) (hs : starEach [e] X.env = [(false, eval e X.env)] := by rfl) :
    PI X (.Tuple elts kk tpos) (.Call (.Name "enumerate" p) [e] [] pos) (iEnT X.K ta) := by
  refine ⟨fun pins s σ H R I h => ?_⟩
  refine Call_ (L2.ld_blt I hg hm boot_enumerate (PyProof.Rows.callWith_type1 (L2.thn (ha.run pos pins s σ H _ I h) fun us s1 ⟨vs, H1, I1, r1, q1⟩ => ?_) hs rfl))
  obtain ⟨a, xs, ex, hq, q⟩ := q1
  subst ex
  cases r1 with
  | cons r rr =>
    cases rr
    cases r
    obtain ⟨its, rv, p', hz⟩ := I1.tuple hq
    refine en_call (begins_tuple a its.toArray) p' fun h' he hit hsz hk => wpAny_pyIter_enum he ?_
    have I2 : L2.Inv X pins σ H1 { s1 with heap := h' } := I1.kept (t' := s1.toks) hk
    refine ⟨s1.heap.objs.size + 1, [s1.heap.objs.size + 1, s1.heap.objs.size], _, _, H1, rfl, I2, turn_enT a (s1.heap.objs.size + 1) s1.heap.objs.size, ⟨⟨.none, he⟩, ⟨_, hit, rfl, rfl⟩, Nat.succ_ne_self _⟩, fun b hb => ?_, q⟩
    have hle : s1.heap.objs.size ≤ b := by
      rcases (by simpa using hb : b = s1.heap.objs.size + 1 ∨ b = s1.heap.objs.size) with z | z
      · rw [z]; exact Nat.le_add_right _ _
      · rw [z]; exact Nat.le_refl _
    exact I1.fpOk hle (I1.hok.fresh hle)

section
variable {X : Cx} {W : WX} {e a b o i c tg iter : Expr} {es rest : List Expr} {body : List Stmt} {pos p apos cpos : Pos} {f fa fb fo : DE} {fc : DT} {gb : DS} {ft : DA}
/-- whether the arguments are one tuple -/
def givesTupA (f : DA) (n : Nat) (s : Sl) (h : Hs) : Bool := match f n s h with
  | .ok [.tup _] _ => true
  | _ => false
theorem i_en {elts : List Expr} {kk : Nat} {tpos : Pos} (hg : L2.Gl X "enumerate") (hm : X.mg "enumerate" = none) (ha : PAd X W [e] ft) (hs : starEach [e] X.env = [(false, eval e X.env)] := by rfl) :
    PId X W (.Tuple elts kk tpos) (.Call (.Name "enumerate" p) [e] [] pos) (itEn ft) := by
  refine pi_weak (pi_or (L2.pi_enum hg hm ha hs) (pi_enT hg hm ha hs)) fun sg H R w => ?_
  obtain ⟨n, rho, s, h, hr, l, p⟩ := w
  cases q : givesTupA ft n s h with
  | false =>
    refine .inl ⟨n, rho, s, h, hr, l, Post.bindE p fun as h1 vs rho1 H1 q1 n1 hr1 r1 p1 => ?_⟩
    split at p1
    · obtain ⟨v, rfl, rv⟩ := r1.one
      cases rv with
      | ref hp =>
        split at p1
        · rename_i xs hx
          obtain ⟨vs, e1, e2⟩ := hr1.lst hp hx
          exact ⟨_, _, rfl, .of e1, p1 _ rho1 H1 Nx.refl hr1 (stepEl_ok (stepL_ok hr1 hp))⟩
        · exact p1.elim
    · unfold givesTupA at q; rw [q1] at q; cases q
    · obtain ⟨v, rfl, rv⟩ := r1.one
      cases rv with
      | rol e1 r => exact ⟨_, _, rfl, rol_sq e1, p1 _ rho1 H1 Nx.refl hr1 (stepEl_ok (stepRol_ok hr1 e1 r))⟩
    · exact p1.elim
  | true =>
    refine .inr ⟨n, rho, s, h, hr, l, Post.bindE p fun as h1 vs rho1 H1 q1 n1 hr1 r1 p1 => ?_⟩
    unfold givesTupA at q
    rw [q1] at q
    split at q
    · rename_i e1
      cases e1
      obtain ⟨v, rfl, rv⟩ := r1.one
      cases rv with
      | tup e1 r => exact ⟨_, _, rfl, .of e1, p1 _ rho1 H1 Nx.refl hr1 (stepEt_ok (stepT_ok hr1 e1 r))⟩
    · cases q
/-! ### for -/
def forL (st : Step) (tg : DG) (b : DS) (n : Nat) : Nat → Nat → Sl → Hs → RS
  | 0, _, _, _ => .no
  | k + 1, i, s, h => match st i h with
    | none => .no
    | some none => .nx s h
    | some (some x) => match tg x s with
      | none => .no
      | some s1 => match b n s1 h with
        | .nx s2 h2 => forL st tg b n k (i + 1) s2 h2
        | .ct s2 h2 => forL st tg b n k (i + 1) s2 h2
        | .bk s2 h2 => .nx s2 h2
        | r => r
def forD (it : DI) (tg : DG) (b : DS) : DS := fun n s h => (it n s h).then s fun st h1 => forL st tg b n n 0 s h1
theorem s_for {fi : DI} {g : DG} {ix : List Nat} (hp : PassesOwn (model X.prog X.w) X.A X.env X.xe) (hc : X.calm = true) (hi : PId X W tg iter fi) (hg : PGd X tg g ix) (hb : PBd X W body gb)
    (hs : ∀ x, foldedSetIterable iter X.env x = pure x := by intro _; rfl) : PSd X W (.For tg iter body [] pos) (forD fi g gb) := by
  refine ps_weak (L2.ps_for hp hc hi hg hb hs) fun D sg H w => ?_
  obtain ⟨n, rho, s, h, hr, l, p⟩ := w
  refine ⟨n, rho, s, h, hr, l, PostS.then hr l p fun st h1 J rho1 H1 n1 hr1 o1 p1 => ?_⟩
  refine ⟨fun i m sg H => ∃ rho' s' h', Nx rho1 H1 rho' H ∧ HR X.K X.mg rho' H h' ∧ SlR X.K X.mg rho' H s' sg ∧ PostS X.K X.mg rho' H W D (forL st g gb n m i s' h'), ⟨n, rho1, s, h1, Nx.refl, hr1, l.mono hr n1, p1⟩, ?_⟩
  clear p1
  rintro i m sg' H' ⟨rho2, s2, h2, n2, hr2, l2, p2⟩
  cases m with
  | zero => exact p2.elim
  | succ k =>
    rw [forL] at p2
    obtain ⟨oa, ob⟩ := o1 rho2 H' h2 i (n2.stay hr1) hr2
    cases q : st i h2 with
    | none => rw [q] at p2; exact p2.elim
    | some z => cases z with
      | none =>
        rw [q] at p2
        exact .inl ⟨ob q, p2 sg' rho2 H' Nx.refl hr2 l2⟩
      | some x =>
        rw [q] at p2
        dsimp only at p2
        obtain ⟨go, yl⟩ := oa x q
        refine .inr ⟨go, fun sg H => ∃ rho' s' h', Nx rho1 H1 rho' H ∧ HR X.K X.mg rho' H h' ∧ SlR X.K X.mg rho' H s' sg ∧ PostS X.K X.mg rho' H W D (forL st g gb n k (i + 1) s' h'), fun sg2 H2 z => ⟨k, Nat.lt_succ_self k, z⟩, fun v H3 y => ?_⟩
        obtain ⟨n3, hr3, rv⟩ := yl v H3 y
        cases q2 : g x s2 with
        | none => rw [q2] at p2; exact p2.elim
        | some s3 =>
          rw [q2] at p2
          dsimp only at p2
          refine ⟨rho2, s2, h2, x, hr3, l2.mono hr2 n3, rv, s3, q2, fun sg4 l4 _ _ => ?_⟩
          refine ⟨n, rho2, s3, h2, hr3, l4, ?_⟩
          revert p2
          cases gb n s3 h2 with
          | nx s5 h5 => intro p2; exact fun sg6 rho6 H6 n6 hr6 l6 => ⟨rho6, s5, h5, n2.trans hr2 (n3.trans hr3 n6), hr6, l6, PostS.mono hr6 (n3.trans hr3 n6) p2⟩
          | ct s5 h5 => intro p2; exact fun sg6 rho6 H6 n6 hr6 l6 => ⟨rho6, s5, h5, n2.trans hr2 (n3.trans hr3 n6), hr6, l6, PostS.mono hr6 (n3.trans hr3 n6) p2⟩
          | bk s5 h5 => intro p2; exact fun sg6 rho6 H6 n6 hr6 l6 => p2 sg6 rho6 H6 (n3.trans hr3 n6) hr6 l6
          | rt a h5 => intro p2; exact fun v rho6 H6 n6 hr6 r6 => p2 v rho6 H6 (n3.trans hr3 n6) hr6 r6
          | ex x s5 h5 => intro p2; exact fun c d sg6 rho6 H6 n6 hr6 l6 r6 => p2 c d sg6 rho6 H6 (n3.trans hr3 n6) hr6 l6 r6
          | no => intro p2; exact p2
end
end Dn

set_option maxHeartbeats 4000000
/-! Dn11: comprehensions. -/
namespace Dn
open PySem
open L2 (PE PT PA PS PSs PG PGs PI Cx WX Takes HO Hp VK)
def W0 : WX := fun _ _ _ _ => False
theorem takes0 {X : Cx} : Takes X W0 := fun u s' ⟨_, _, _, _, _, _, _, _, _, _, _, _, _, _, _, _, w⟩ => w.elim
def R.calm {α : Type} (r : R α) : R α := match r with
  | .ok a h => .ok a h
  | _ => .no
def wipeA (s : Sl) : List Nat → Sl
  | [] => s
  | v :: vs => (wipeA s vs).set v none
theorem Stay.refl {rho : List Addr} {H : Hp} : Stay rho H rho H := ⟨fun _ _ e => e, fun _ _ e => e, fun _ _ _ e o => ⟨e, o⟩⟩
theorem Stay.trans {rho rho' rho'' : List Addr} {H H' H'' : Hp} (a : Stay rho H rho' H') (b : Stay rho' H' rho'' H'') : Stay rho H rho'' H'' :=
  ⟨fun i x e => b.pre i x (a.pre i x e), fun x xs e => b.tups x xs (a.tups x xs e), fun x ob xs e o => let ⟨e1, o1⟩ := a.frz x ob xs e o; b.frz x ob xs e1 o1⟩
section
variable {K : PySem.W.Frag} {mg : Str → Option Value} {rho rho' : List Addr} {H H' : Hp} {h h' : Hs} {s : Sl} {sg : L2.St}
theorem SlR.stay (n : Stay rho H rho' H') (l : SlR K mg rho H s sg) : SlR K mg rho' H' s sg := ⟨l.len, fun i a e => let ⟨v, e1, r⟩ := l.get i a e; ⟨v, e1, r.stay n⟩⟩
theorem SlR.wipe (l : SlR K mg rho H s sg) : ∀ vs : List Nat, SlR K mg rho H (wipeA s vs) (L2.wipe sg vs)
  | [] => l
  | v :: vs => by
    have q := SlR.wipe l vs
    refine ⟨by unfold wipeA L2.wipe; rw [List.length_set, List.length_set]; exact q.len, fun i a e => ?_⟩
    unfold wipeA at e
    unfold L2.wipe
    by_cases hv : v = i
    · subst hv
      by_cases hl : v < (wipeA s vs).length
      · rw [List.getElem?_set_self hl] at e; cases e
      · rw [List.getElem?_eq_none (by simpa using hl)] at e; cases e
    · rw [List.getElem?_set_ne hv] at e ⊢
      exact q.get i a e
theorem wipe_get (sg : L2.St) (i : Nat) : ∀ vs : List Nat, (L2.wipe sg vs)[i]? = if i ∈ vs then (sg[i]?).map fun _ => none else sg[i]?
  | [] => by simp [L2.wipe]
  | v :: vs => by
    have q := wipe_get sg i vs
    unfold L2.wipe
    by_cases hv : v = i
    · subst hv
      simp only [List.mem_cons, true_or, if_true]
      by_cases hl : v < sg.length
      · rw [List.getElem?_set_self (by rw [L2.wipe_length]; exact hl), List.getElem?_eq_getElem hl]; rfl
      · rw [List.getElem?_eq_none (by rw [List.length_set, L2.wipe_length]; omega), List.getElem?_eq_none (by omega)]; rfl
    · rw [List.getElem?_set_ne hv, q]
      have : (i ∈ v :: vs) = (i ∈ vs) := by simp [List.mem_cons, Ne.symm hv]
      simp only [this]
theorem wipe_eq {sg1 sg : L2.St} {ix vs : List Nat} (hl : sg1.length = (L2.wipe sg vs).length) (hk : ∀ j, j ∉ ix → sg1[j]? = (L2.wipe sg vs)[j]?) (hix : ∀ j ∈ ix, j ∈ vs) : L2.wipe sg1 vs = L2.wipe sg vs := by
  refine List.ext_getElem? fun i => ?_
  rw [wipe_get, wipe_get]
  by_cases hi : i ∈ vs
  · rw [if_pos hi, if_pos hi]
    rw [L2.wipe_length] at hl
    by_cases q : i < sg.length
    · rw [List.getElem?_eq_getElem q, List.getElem?_eq_getElem (by omega)]; rfl
    · rw [List.getElem?_eq_none (by omega), List.getElem?_eq_none (by omega)]
  · rw [if_neg hi, if_neg hi, hk i (fun z => hi (hix i z)), wipe_get, if_neg hi]
/-- a thing beside the heap that is neither a tuple nor locked -/
def Side : L2.HO → Prop
  | .lst _ => True
  | .dK _ => True
  | .dT _ => True
  | _ => False
theorem side_stay {D : Addr} {o u : L2.HO} (e : H D = some o) (ho : Side o) : Stay rho H rho (L2.upd H D u) := by
  refine ⟨fun _ _ q => q, fun a xs q => ?_, fun a ob xs q z => ⟨?_, z⟩⟩
  · rw [L2.upd_ne (fun z => by rw [z, e] at q; cases q; exact ho)]; exact q
  · rw [L2.upd_ne (fun z => by rw [z, e] at q; cases q; exact ho)]; exact q
theorem side_hr (hr : HR K mg rho H h) {D : Addr} {o u : L2.HO} (hD : D ∉ rho) (e : H D = some o) (ho : Side o) : HR K mg rho (L2.upd H D u) h := by
  refine ⟨hr.len, hr.nd, fun i a o' e1 e2 => ?_⟩
  obtain ⟨w, hw, r⟩ := hr.get i a o' e1 e2
  exact ⟨w, by rw [L2.upd_ne (fun z => hD (by rw [← z]; exact List.mem_of_getElem? e1))]; exact hw, r.stay (side_stay e ho)⟩
theorem side_new (hr : HR K mg rho H h) {D : Addr} {u : L2.HO} (e : H D = none) : D ∉ rho ∧ Stay rho H rho (L2.upd H D u) ∧ HR K mg rho (L2.upd H D u) h ∧ Nx rho H rho (L2.upd H D u) := by
  obtain ⟨n, hr'⟩ := hr.tup (u := u) e
  refine ⟨fun m => ?_, n.stay hr, hr', n⟩
  obtain ⟨_, _, w, _, _, hw, _⟩ := hr.ex m
  rw [e] at hw; cases hw
theorem side_nx {rho1 : List Addr} {H1 : Hp} {D : Addr} {u : L2.HO} (n : Nx rho1 H1 rho H) (hD : H1 D = none) : Nx rho1 H1 rho (L2.upd H D u) :=
  ⟨n.pre, fun b o e nb => by rw [L2.upd_ne (L2.ne_of_none e hD)]; exact n.keep b o e nb, n.fresh, n.mem⟩
theorem side_adopt (hr : HR K mg rho H h) {D : Addr} {o : L2.HO} {x : AO} (hD : D ∉ rho) (e : H D = some o) (ho : Side o) (r : RO K mg rho H x o) : HR K mg (rho ++ [D]) H (h ++ [x]) := by
  have st : Stay rho H (rho ++ [D]) H := by
    refine ⟨fun i a q => ?_, fun _ _ q => q, fun a ob xs q z => ⟨q, fun m => ?_⟩⟩
    · rw [List.getElem?_append_left (List.getElem?_eq_some_iff.mp q).1]; exact q
    · rcases List.mem_append.mp m with y | y
      · exact z y
      · have : a = D := by simpa using y
        rw [this, e] at q; cases q; exact ho
  refine ⟨by rw [List.length_append, List.length_append, hr.len]; rfl, ?_, fun i a o' e1 e2 => ?_⟩
  · rw [List.nodup_append]
    refine ⟨hr.nd, List.pairwise_singleton _ _, fun a ha b hb q => ?_⟩
    have : b = D := by simpa using hb
    exact hD (by rw [← this, ← q]; exact ha)
  · by_cases hi : i < rho.length
    · rw [List.getElem?_append_left hi] at e1
      rw [List.getElem?_append_left (by rw [← hr.len]; exact hi)] at e2
      obtain ⟨w, hw, r⟩ := hr.get i a o' e1 e2
      exact ⟨w, hw, r.stay st⟩
    · have hl := (List.getElem?_eq_some_iff.mp e1).1
      rw [List.length_append, List.length_singleton] at hl
      have hi' : i = rho.length := by omega
      subst hi'
      rw [List.getElem?_append_right (Nat.le_refl _), Nat.sub_self] at e1
      have ea : D = a := by simpa using e1
      subst ea
      rw [hr.len, List.getElem?_append_right (Nat.le_refl _), Nat.sub_self] at e2
      have eo : x = o' := by simpa using e2
      subst eo
      exact ⟨o, e, r.stay st⟩
theorem adopt_nx {rho1 : List Addr} {H1 : Hp} {D : Addr} (n : Nx rho1 H1 rho H) (hD : H1 D = none) : Nx rho1 H1 (rho ++ [D]) H :=
  ⟨fun i a e => by rw [List.getElem?_append_left (List.getElem?_eq_some_iff.mp (n.pre i a e)).1]; exact n.pre i a e, n.keep, fun a h1 h2 => by
    rcases List.mem_append.mp h1 with z | z
    · exact n.fresh a z h2
    · have : a = D := by simpa using z
      rw [this]; exact hD, fun a m => List.mem_append_left _ (n.mem a m)⟩
theorem adopt_get {rho1 : List Addr} {H1 : Hp} {D : Addr} (hr : HR K mg rho H h) : (rho ++ [D])[h.length]? = some D := by
  rw [← hr.len, List.getElem?_append_right (Nat.le_refl _), Nat.sub_self]; rfl
end
/-! ### [elt for tg in iter if ..] -/
def lcL (st : Step) (g : DG) (t : DT) (e : DE) (n : Nat) : Nat → Nat → List A → Sl → Hs → R (List A)
  | 0, _, _, _, _ => .no
  | k + 1, i, acc, s, h => match st i h with
    | none => .no
    | some none => .ok acc h
    | some (some x) => match g x s with
      | none => .no
      | some s1 => (t n s1 h).calm.bind fun b h1 => if b = true then (e n s1 h1).calm.bind fun a h2 => if acc.length < sizeLine then lcL st g t e n k (i + 1) (acc ++ [a]) s h2 else .no
        else lcL st g t e n k (i + 1) acc s h1
section
variable {K : PySem.W.Frag} {mg : Str → Option Value}
theorem calm_in {α β γ γ' : Type} {rel : List Addr → Hp → α → β → Prop} {relv : List Addr → Hp → γ → γ' → Prop} {rho1 rho : List Addr} {H1 H : Hp} {Wx : Value → Option Addr → Hp → Prop} {Q : γ' → Hp → Prop} {Q' : β → Hp → Prop} {W : Value → Option Addr → Hp → Prop} {r : R α} {k : α → Hs → R γ}
    (p : Post K mg relv rho1 H1 Wx Q (r.calm.bind k)) (c : ∀ a h1 b rho2 H2, Nx rho H rho2 H2 → HR K mg rho2 H2 h1 → rel rho2 H2 a b → Post K mg relv rho1 H1 Wx Q (k a h1) → Q' b H2) : Post K mg rel rho H W Q' r := by
  cases r with
  | ok a h1 => exact fun b rho2 H2 n2 hr2 r2 => c a h1 b rho2 H2 n2 hr2 r2 p
  | ex x h1 => exact p.elim
  | no => exact p.elim
/-- the turns of one clause, D beside -/
theorem lc_run {γ γ' : Type} {relv : List Addr → Hp → γ → γ' → Prop} {st : Step} {J : L2.It} {g : DG} {t : DT} {e : DE} {n : Nat} {rho0 rho1 rhoS : List Addr} {H0 H1 HS : Hp} {hS : Hs} {D : Addr} {sw : Sl} {sg : L2.St} {vs : List Nat} {ix : List Nat} {Wx : Value → Option Addr → Hp → Prop} {Q : γ' → Hp → Prop} {Qe : Hp → Prop} {k : List A → Hs → R γ}
    {accS : List A} {vsS : List L2.V} (o1 : ItOk K mg rho0 H0 st J) (hD : H1 D = none) (lw : SlR K mg rho0 H0 sw (L2.wipe sg vs)) (hix : ∀ j ∈ ix, j ∈ vs)
    (nS : Nx rho1 H1 rhoS HS) (sS : Stay rho0 H0 rhoS HS) (hrS : HR K mg rhoS HS hS) (dS : D ∉ rhoS) (eS : HS D = some (.lst vsS)) (rS : RVs K mg rhoS HS accS vsS) (m0 : Nat) (p : Post K mg relv rho1 H1 Wx Q ((lcL st g t e n m0 0 accS sw hS).bind k))
    (fin : ∀ acc h' us rho' H', Nx rho1 H1 rho' H' → HR K mg rho' H' h' → D ∉ rho' → H' D = some (.lst us) → RVs K mg rho' H' acc us → Stay rho0 H0 rho' H' → Post K mg relv rho1 H1 Wx Q (k acc h') → Qe H') :
    ∃ W : Nat → Nat → Hp → Prop, (∃ m, W 0 m HS) ∧ ∀ i m H, W i m H →
      (J.stop i H ∧ Qe H) ∨ (J.go i H ∧ ∃ Nx : Hp → Prop, (∀ H', Nx H' → ∃ m', m' < m ∧ W (i + 1) m' H') ∧ ∀ x H', J.yld i H x H' → tG K mg g ix x (L2.wipe sg vs) H' fun σ2 H2 => L2.wipe σ2 vs = L2.wipe sg vs ∧ tT K mg W0 t σ2 H2 fun b H3 =>
        if b = true then tE K mg W0 e σ2 H3 fun y H4 => ∃ acc, H4 D = some (.lst acc) ∧ acc.length < sizeLine ∧ Nx (L2.upd H4 D (.lst (acc ++ [y]))) else Nx H3) := by
  refine ⟨fun i m H => ∃ rho' h' acc us, Nx rho1 H1 rho' H ∧ Stay rho0 H0 rho' H ∧ HR K mg rho' H h' ∧ D ∉ rho' ∧ H D = some (.lst us) ∧ RVs K mg rho' H acc us ∧ Post K mg relv rho1 H1 Wx Q ((lcL st g t e n m i acc sw h').bind k),
    ⟨m0, rhoS, hS, accS, vsS, nS, sS, hrS, dS, eS, rS, p⟩, ?_⟩
  clear p rS eS dS hrS sS nS
  rintro i m H ⟨rho2, h2, acc, us, n2, s2, hr2, d2, e2, r2, p2⟩
  cases m with
  | zero => exact p2.elim
  | succ q =>
    rw [lcL] at p2
    obtain ⟨oa, ob⟩ := o1 rho2 H h2 i s2 hr2
    cases z : st i h2 with
    | none => rw [z] at p2; exact p2.elim
    | some y => cases y with
      | none =>
        rw [z] at p2
        exact .inl ⟨ob z, fin acc h2 us rho2 H n2 hr2 d2 e2 r2 s2 p2⟩
      | some x =>
        rw [z] at p2
        dsimp only at p2
        obtain ⟨go, yl⟩ := oa x z
        refine .inr ⟨go, fun H => ∃ rho' h' acc us, Nx rho1 H1 rho' H ∧ Stay rho0 H0 rho' H ∧ HR K mg rho' H h' ∧ D ∉ rho' ∧ H D = some (.lst us) ∧ RVs K mg rho' H acc us ∧ Post K mg relv rho1 H1 Wx Q ((lcL st g t e n q (i + 1) acc sw h').bind k), fun H2 z => ⟨q, Nat.lt_succ_self q, z⟩, fun v H3 y => ?_⟩
        obtain ⟨n3, hr3, rv⟩ := yl v H3 y
        cases q2 : g x sw with
        | none => rw [q2] at p2; exact p2.elim
        | some s3 =>
          rw [q2] at p2
          dsimp only at p2
          have st3 := s2.trans (n3.stay hr2)
          refine ⟨rho2, sw, h2, x, hr3, lw.stay st3, rv, s3, q2, fun sg4 l4 z4 k4 => ⟨wipe_eq z4 k4 hix, ?_⟩⟩
          have e3 : H3 D = some (.lst us) := n3.keep _ _ e2 d2
          have p3 : Post K mg relv rho1 H1 Wx Q (R.bind (R.calm (t n s3 h2)) fun b h1 => R.bind (if b = true then (e n s3 h1).calm.bind fun a h2 => if acc.length < sizeLine then lcL st g t e n q (i + 1) (acc ++ [a]) sw h2 else .no else lcL st g t e n q (i + 1) acc sw h1) k) := by
            revert p2
            cases t n s3 h2 <;> exact id
          refine ⟨n, rho2, s3, h2, hr3, l4, calm_in p3 fun b h5 b' rho5 H5 n5 hr5 r5 p5 => ?_⟩
          subst r5
          have d5 : D ∉ rho5 := n5.out e3 d2
          have e5 : H5 D = some (.lst us) := n5.keep _ _ e3 d2
          have r5 := (r2.mono hr2 n3).mono hr3 n5
          have n15 := n2.trans hr2 (n3.trans hr3 n5)
          have st5 := st3.trans (n5.stay hr3)
          cases b with
          | false => exact ⟨rho5, h5, acc, us, n15, st5, hr5, d5, e5, r5, p5⟩
          | true =>
            rw [if_pos rfl] at p5 ⊢
            have p6 : Post K mg relv rho1 H1 Wx Q (R.bind (R.calm (e n s3 h5)) fun a h2 => R.bind (if acc.length < sizeLine then lcL st g t e n q (i + 1) (acc ++ [a]) sw h2 else .no) k) := by
              revert p5
              cases e n s3 h5 <;> exact id
            refine ⟨n, rho5, s3, h5, hr5, l4.mono hr3 n5, calm_in p6 fun a h7 w rho7 H7 n7 hr7 r7 p7 => ?_⟩
            have d7 : D ∉ rho7 := n7.out e5 d5
            have e7 : H7 D = some (.lst us) := n7.keep _ _ e5 d5
            have r8 := r5.mono hr5 n7
            split at p7
            · rename_i hz
              refine ⟨us, e7, by rw [← r8.length]; exact hz, rho7, h7, acc ++ [a], us ++ [w], side_nx (n15.trans hr5 n7) hD, (st5.trans (n7.stay hr5)).trans (side_stay e7 trivial), side_hr hr7 d7 e7 trivial, d7, L2.upd_same, ?_, p7⟩
              exact (r8.stay (side_stay e7 trivial)).append (.cons (r7.stay (side_stay e7 trivial)) .nil)
            · exact p7.elim
def lcD (it : DI) (g : DG) (t : DT) (e : DE) (vs : List Nat) : DE := fun n s h => (it n s h).bind fun st h1 => (lcL st g t e n n 0 [] (wipeA s vs) h1).bind newL
def yesT : DT := fun _ _ h => .ok true h
end
abbrev PTsd (X : Cx) (W : WX) (ifs : List Expr) (f : DT) : Prop := L2.PTs X ifs (tT X.K X.mg W f)
section
variable {X : Cx} {W : WX} {e a b o i c tg iter elt : Expr} {es rest ifs : List Expr} {body : List Stmt} {pos p apos cpos : Pos} {f fe : DE} {fc ft : DT} {fi : DI} {g : DG} {ix : List Nat} {scope : Scope} {own : List (Str × Nat)}
theorem ts_nil : PTsd X W [] yesT := ⟨fun pins s sg H Q I w => by
  obtain ⟨n, rho, sl, h, hr, l, p⟩ := w
  exact L2.pts_nil.run pins s sg H Q I (p true rho H Nx.refl hr rfl)⟩
theorem ts_one (h : PTd X W c fc) : PTsd X W [c] fc := L2.pts_one h
/-- the list is taken into the heap -/
theorem new_fin {K : PySem.W.Frag} {mg : Str → Option Value} {rho1 : List Addr} {H1 : Hp} {D : Addr} {Wx : Value → Option Addr → Hp → Prop} {Q : VK} (hD : H1 D = none) {acc : List A} {h' : Hs} {us : List L2.V} {rho' : List Addr} {H' : Hp} (n : Nx rho1 H1 rho' H') (hr : HR K mg rho' H' h') (d : D ∉ rho') (e : H' D = some (.lst us)) (r : RVs K mg rho' H' acc us)
    (p : PostV K mg rho1 H1 Wx Q (newL acc h')) : Q (.ref D) H' :=
  p (.ref D) (rho' ++ [D]) H' (adopt_nx n hD) (side_adopt hr d e trivial (.lst r)) (.ref (adopt_get (rho1 := rho1) (H1 := H1) hr))
theorem lc_t {sg : L2.St} {H : Hp} {Q : VK} (hix : ∀ j ∈ ix, j ∈ own.map (·.2)) (w : tE X.K X.mg W (lcD fi g ft fe (own.map (·.2))) sg H Q) :
    L2.tLc (tI X.K X.mg W fi) (tG X.K X.mg g ix) (tT X.K X.mg W0 ft) (tE X.K X.mg W0 fe) (own.map (·.2)) sg H Q := by
  obtain ⟨n, rho, s, h, hr, l, p⟩ := w
  refine ⟨n, rho, s, h, hr, l, Post.bind p fun st h1 J rho1 H1 n1 hr1 o1 p1 D hD => ?_⟩
  obtain ⟨d1, st1, hr2, n2⟩ := side_new hr1 (u := .lst []) hD
  exact lc_run o1 hD ((l.mono hr n1).wipe _) hix n2 st1 hr2 d1 L2.upd_same .nil n p1 fun acc h' us rho' H' n' hr' d' e' r' _ p' => new_fin hD n' hr' d' e' r' p'
theorem d_lc (hc : X.calm = true) (hN : X.N.Nodup) (hi : PId X W tg iter fi) (ok : L2.BlkOk X.N X.env.scope scope own)
    (hg : ∀ (s : Shared) (H : Hp) (C : Addr) (cl : List (Str × Addr)) (fp : List Addr), PGd (X.blk s H scope (compEnvC scope cl C X.env) fp) tg g ix) (hix : ∀ j ∈ ix, j ∈ own.map (·.2))
    (ht : ∀ (s : Shared) (H : Hp) (C : Addr) (cl : List (Str × Addr)) (fp : List Addr), PTsd (X.blk s H scope (compEnvC scope cl C X.env) fp) W0 ifs ft)
    (he : ∀ (s : Shared) (H : Hp) (C : Addr) (cl : List (Str × Addr)) (fp : List Addr), PEd (X.blk s H scope (compEnvC scope cl C X.env) fp) W0 elt fe) (hs : ∀ x, foldedSetIterable iter X.env x = pure x := by intro _; rfl) :
    PEd X W (.ListComp elt [⟨tg, iter, ifs, 0⟩] scope pos) (lcD fi g ft fe (own.map (·.2))) :=
  pe_weak (L2.pe_lc hc hN hi ok hg ht he hs) fun sg H Q w => lc_t hix w
theorem s_setLc {i : Nat} {y : Str} {py spos : Pos} (hc : X.calm = true) (hN : X.N.Nodup) (hy : X.N[i]? = some y) (hyl : X.env.scope.names.lookup y = some .local)
    (hsw : swapsWith (.ListComp elt [⟨tg, iter, ifs, 0⟩] scope pos) (some (.Name y py)) spos.line X.env = pure true) (hi : PId X W tg iter fi) (ok : L2.BlkOk X.N X.env.scope scope own)
    (hg : ∀ (s : Shared) (H : Hp) (C : Addr) (cl : List (Str × Addr)) (fp : List Addr), PGd (X.blk s H scope (compEnvC scope cl C X.env) fp) tg g ix) (hix : ∀ j ∈ ix, j ∈ own.map (·.2))
    (ht : ∀ (s : Shared) (H : Hp) (C : Addr) (cl : List (Str × Addr)) (fp : List Addr), PTsd (X.blk s H scope (compEnvC scope cl C X.env) fp) W0 ifs ft)
    (he : ∀ (s : Shared) (H : Hp) (C : Addr) (cl : List (Str × Addr)) (fp : List Addr), PEd (X.blk s H scope (compEnvC scope cl C X.env) fp) W0 elt fe) (hs : ∀ x, foldedSetIterable iter X.env x = pure x := by intro _; rfl) :
    PSd X W (.Assign [.Name y py] (.ListComp elt [⟨tg, iter, ifs, 0⟩] scope pos) spos) (setD i (lcD fi g ft fe (own.map (·.2)))) := by
  refine ps_weak (L2.ps_setLc (te := tE X.K X.mg W0 fe) (g := tG X.K X.mg g ix) (tt := tT X.K X.mg W0 ft) hc hN hy hyl hsw hi ok hg ht he hs) fun D sg H w => ?_
  obtain ⟨n, rho, s, h, hr, l, p⟩ := w
  refine lc_t hix ⟨n, rho, s, h, hr, l, PostS.then hr l p fun a h1 v rho1 H1 n1 hr1 r1 p1 => ?_⟩
  exact p1 _ rho1 H1 Nx.refl hr1 ((l.mono hr n1).set r1 i)
end
end Dn

set_option maxHeartbeats 4000000
/-! Dn12: comprehensions of two clauses, of dicts; new dicts; xs[i] += e; max with a default. -/
namespace Dn
open PySem
open L2 (PE PT PA PS PSs PG PGs PI Cx WX Takes HO Hp VK)
/-! ### two clauses -/
def lc2L (st : Step) (g : DG) (t : DT) (it1 : DI) (vs1 : List Nat) (g1 : DG) (t1 : DT) (e : DE) (n : Nat) : Nat → Nat → List A → Sl → Hs → R (List A)
  | 0, _, _, _, _ => .no
  | k + 1, i, acc, s, h => match st i h with
    | none => .no
    | some none => .ok acc h
    | some (some x) => match g x s with
      | none => .no
      | some s1 => (t n s1 h).calm.bind fun b h1 => if b = true then (it1 n s1 h1).calm.bind fun st1 h2 => (lcL st1 g1 t1 e n n 0 acc (wipeA s1 vs1) h2).bind fun acc' h3 => lc2L st g t it1 vs1 g1 t1 e n k (i + 1) acc' s h3
        else lc2L st g t it1 vs1 g1 t1 e n k (i + 1) acc s h1
def lc2D (it : DI) (g : DG) (t : DT) (it1 : DI) (vs1 : List Nat) (g1 : DG) (t1 : DT) (e : DE) (vs : List Nat) : DE := fun n s h => (it n s h).bind fun st h1 => (lc2L st g t it1 vs1 g1 t1 e n n 0 [] (wipeA s vs) h1).bind newL
section
variable {X : Cx} {W : WX} {e a b o i c tg iter elt tg1 iter1 : Expr} {es rest ifs ifs1 : List Expr} {body : List Stmt} {pos p apos cpos : Pos} {f fe fk fv : DE} {fc ft ft1 : DT} {fi fi1 : DI} {g g1 : DG} {ix ix1 vs1 : List Nat} {scope : Scope} {own : List (Str × Nat)}
theorem bind_bind {α β γ : Type} (r : R α) (k : α → Hs → R β) (q : β → Hs → R γ) : (r.bind k).bind q = r.bind fun a h => (k a h).bind q := by cases r <;> rfl
theorem bind_if {α β : Type} (b : Bool) (r r' : R α) (q : α → Hs → R β) : R.bind (if b = true then r else r') q = if b = true then r.bind q else r'.bind q := by cases b <;> rfl
theorem lc2_t {sg : L2.St} {H : Hp} {Q : VK} (hix : ∀ j ∈ ix, j ∈ own.map (·.2)) (hix1 : ∀ j ∈ ix1, j ∈ vs1) (w : tE X.K X.mg W (lc2D fi g ft fi1 vs1 g1 ft1 fe (own.map (·.2))) sg H Q) :
    L2.tLc2 (tI X.K X.mg W fi) (tG X.K X.mg g ix) (tT X.K X.mg W0 ft) (tI X.K X.mg W0 fi1) (tG X.K X.mg g1 ix1) (tT X.K X.mg W0 ft1) (tE X.K X.mg W0 fe) (own.map (·.2)) vs1 sg H Q := by
  obtain ⟨n, rho, s, h, hr, l, p⟩ := w
  refine ⟨n, rho, s, h, hr, l, Post.bind p fun st h1 J rho1 H1 n1 hr1 o1 p1 D hD => ?_⟩
  obtain ⟨d1, st1, hr2, n2⟩ := side_new hr1 (u := .lst []) hD
  have lw := (l.mono hr n1).wipe (own.map (·.2))
  generalize hvs : own.map (·.2) = vs at *
  generalize hsw : wipeA s vs = sw at *
  refine ⟨fun i m H => ∃ rho' h' acc us, Nx rho1 H1 rho' H ∧ Stay rho1 H1 rho' H ∧ HR X.K X.mg rho' H h' ∧ D ∉ rho' ∧ H D = some (.lst us) ∧ RVs X.K X.mg rho' H acc us ∧ PostV X.K X.mg rho1 H1 (fun c d H' => W c d sg H') Q ((lc2L st g ft fi1 vs1 g1 ft1 fe n m i acc sw h').bind newL),
    ⟨n, rho1, h1, [], [], n2, st1, hr2, d1, L2.upd_same, .nil, p1⟩, ?_⟩
  clear p1
  rintro i m H ⟨rho2, h2, acc, us, n2, s2, hr2, d2, e2, r2, p2⟩
  cases m with
  | zero => exact p2.elim
  | succ q =>
    rw [lc2L] at p2
    obtain ⟨oa, ob⟩ := o1 rho2 H h2 i s2 hr2
    cases z : st i h2 with
    | none => rw [z] at p2; exact p2.elim
    | some y => cases y with
      | none =>
        rw [z] at p2
        exact .inl ⟨ob z, new_fin hD n2 hr2 d2 e2 r2 p2⟩
      | some x =>
        rw [z] at p2
        dsimp only at p2
        obtain ⟨go, yl⟩ := oa x z
        refine .inr ⟨go, fun H => ∃ rho' h' acc us, Nx rho1 H1 rho' H ∧ Stay rho1 H1 rho' H ∧ HR X.K X.mg rho' H h' ∧ D ∉ rho' ∧ H D = some (.lst us) ∧ RVs X.K X.mg rho' H acc us ∧ PostV X.K X.mg rho1 H1 (fun c d H' => W c d sg H') Q ((lc2L st g ft fi1 vs1 g1 ft1 fe n q (i + 1) acc sw h').bind newL), fun H2 z => ⟨q, Nat.lt_succ_self q, z⟩, fun v H3 y => ?_⟩
        obtain ⟨n3, hr3, rv⟩ := yl v H3 y
        cases q2 : g x sw with
        | none => rw [q2] at p2; exact p2.elim
        | some s3 =>
          rw [q2] at p2
          dsimp only at p2
          have st3 := s2.trans (n3.stay hr2)
          refine ⟨rho2, sw, h2, x, hr3, lw.stay st3, rv, s3, q2, fun sg4 l4 z4 k4 => ⟨wipe_eq z4 k4 hix, ?_⟩⟩
          have e3 : H3 D = some (.lst us) := n3.keep _ _ e2 d2
          rw [bind_bind] at p2
          refine ⟨n, rho2, s3, h2, hr3, l4, calm_in p2 fun b h5 b' rho5 H5 n5 hr5 r5 p5 => ?_⟩
          subst r5
          have d5 : D ∉ rho5 := n5.out e3 d2
          have e5 : H5 D = some (.lst us) := n5.keep _ _ e3 d2
          have r5 := (r2.mono hr2 n3).mono hr3 n5
          have n15 := n2.trans hr2 (n3.trans hr3 n5)
          have st5 := st3.trans (n5.stay hr3)
          rw [bind_if] at p5
          cases b with
          | false => exact ⟨rho5, h5, acc, us, n15, st5, hr5, d5, e5, r5, p5⟩
          | true =>
            rw [if_pos rfl] at p5 ⊢
            rw [bind_bind] at p5
            refine ⟨n, rho5, s3, h5, hr5, l4.mono hr3 n5, calm_in p5 fun s7 h7 J7 rho7 H7 n7 hr7 o7 p7 => ?_⟩
            rw [bind_bind] at p7
            have d7 : D ∉ rho7 := n7.out e5 d5
            have e7 : H7 D = some (.lst us) := n7.keep _ _ e5 d5
            have r7 := r5.mono hr5 n7
            have n17 := n15.trans hr5 n7
            have st7 := st5.trans (n7.stay hr5)
            exact lc_run o7 hD (((l4.mono hr3 n5).mono hr5 n7).wipe vs1) hix1 n17 Stay.refl hr7 d7 e7 r7 n p7 fun acc' h' us' rho' H' n' hr' d' e' r' s' p' => ⟨rho', h', acc', us', n', st7.trans s', hr', d', e', r', p'⟩
theorem d_lc2 (hc : X.calm = true) (hN : X.N.Nodup) (hi : PId X W tg iter fi) (ok : L2.BlkOk X.N X.env.scope scope own) (hv : ∀ i ∈ vs1, i ∈ own.map (·.2))
    (hg : ∀ (s : Shared) (H : Hp) (C : Addr) (cl : List (Str × Addr)) (fp : List Addr), PGd (X.blk s H scope (compEnvC scope cl C X.env) fp) tg g ix) (hix : ∀ j ∈ ix, j ∈ own.map (·.2))
    (ht : ∀ (s : Shared) (H : Hp) (C : Addr) (cl : List (Str × Addr)) (fp : List Addr), PTsd (X.blk s H scope (compEnvC scope cl C X.env) fp) W0 ifs ft)
    (hi1 : ∀ (s : Shared) (H : Hp) (C : Addr) (cl : List (Str × Addr)) (fp : List Addr), PId (X.blk s H scope (compEnvC scope cl C X.env) fp) W0 tg1 iter1 fi1)
    (hg1 : ∀ (s : Shared) (H : Hp) (C : Addr) (cl : List (Str × Addr)) (fp : List Addr), PGd (X.blk s H scope (compEnvC scope cl C X.env) fp) tg1 g1 ix1) (hix1 : ∀ j ∈ ix1, j ∈ vs1)
    (ht1 : ∀ (s : Shared) (H : Hp) (C : Addr) (cl : List (Str × Addr)) (fp : List Addr), PTsd (X.blk s H scope (compEnvC scope cl C X.env) fp) W0 ifs1 ft1)
    (he : ∀ (s : Shared) (H : Hp) (C : Addr) (cl : List (Str × Addr)) (fp : List Addr), PEd (X.blk s H scope (compEnvC scope cl C X.env) fp) W0 elt fe) (hs : ∀ x, foldedSetIterable iter X.env x = pure x := by intro _; rfl) (hs1 : ∀ env x, foldedSetIterable iter1 env x = pure x := by intro _ _; rfl) :
    PEd X W (.ListComp elt [⟨tg, iter, ifs, 0⟩, ⟨tg1, iter1, ifs1, 0⟩] scope pos) (lc2D fi g ft fi1 vs1 g1 ft1 fe (own.map (·.2))) :=
  pe_weak (L2.pe_lc2 (te := tE X.K X.mg W0 fe) (g := tG X.K X.mg g ix) (tt := tT X.K X.mg W0 ft) (wi1 := tI X.K X.mg W0 fi1) (g1 := tG X.K X.mg g1 ix1) (tt1 := tT X.K X.mg W0 ft1) hc hN hi ok hv hg ht hi1 hg1 ht1 he hs hs1) fun sg H Q w => lc2_t hix hix1 w
theorem s_setLc2 {i : Nat} {y : Str} {py spos : Pos} (hc : X.calm = true) (hN : X.N.Nodup) (hy : X.N[i]? = some y) (hyl : X.env.scope.names.lookup y = some .local)
    (hsw : swapsWith (.ListComp elt [⟨tg, iter, ifs, 0⟩, ⟨tg1, iter1, ifs1, 0⟩] scope pos) (some (.Name y py)) spos.line X.env = pure true) (hi : PId X W tg iter fi) (ok : L2.BlkOk X.N X.env.scope scope own) (hv : ∀ i ∈ vs1, i ∈ own.map (·.2))
    (hg : ∀ (s : Shared) (H : Hp) (C : Addr) (cl : List (Str × Addr)) (fp : List Addr), PGd (X.blk s H scope (compEnvC scope cl C X.env) fp) tg g ix) (hix : ∀ j ∈ ix, j ∈ own.map (·.2))
    (ht : ∀ (s : Shared) (H : Hp) (C : Addr) (cl : List (Str × Addr)) (fp : List Addr), PTsd (X.blk s H scope (compEnvC scope cl C X.env) fp) W0 ifs ft)
    (hi1 : ∀ (s : Shared) (H : Hp) (C : Addr) (cl : List (Str × Addr)) (fp : List Addr), PId (X.blk s H scope (compEnvC scope cl C X.env) fp) W0 tg1 iter1 fi1)
    (hg1 : ∀ (s : Shared) (H : Hp) (C : Addr) (cl : List (Str × Addr)) (fp : List Addr), PGd (X.blk s H scope (compEnvC scope cl C X.env) fp) tg1 g1 ix1) (hix1 : ∀ j ∈ ix1, j ∈ vs1)
    (ht1 : ∀ (s : Shared) (H : Hp) (C : Addr) (cl : List (Str × Addr)) (fp : List Addr), PTsd (X.blk s H scope (compEnvC scope cl C X.env) fp) W0 ifs1 ft1)
    (he : ∀ (s : Shared) (H : Hp) (C : Addr) (cl : List (Str × Addr)) (fp : List Addr), PEd (X.blk s H scope (compEnvC scope cl C X.env) fp) W0 elt fe) (hs : ∀ x, foldedSetIterable iter X.env x = pure x := by intro _; rfl) (hs1 : ∀ env x, foldedSetIterable iter1 env x = pure x := by intro _ _; rfl) :
    PSd X W (.Assign [.Name y py] (.ListComp elt [⟨tg, iter, ifs, 0⟩, ⟨tg1, iter1, ifs1, 0⟩] scope pos) spos) (setD i (lc2D fi g ft fi1 vs1 g1 ft1 fe (own.map (·.2)))) := by
  refine ps_weak (L2.ps_setLc2 (te := tE X.K X.mg W0 fe) (g := tG X.K X.mg g ix) (tt := tT X.K X.mg W0 ft) (wi1 := tI X.K X.mg W0 fi1) (g1 := tG X.K X.mg g1 ix1) (tt1 := tT X.K X.mg W0 ft1) hc hN hy hyl hsw hi ok hv hg ht hi1 hg1 ht1 he hs hs1) fun D sg H w => ?_
  obtain ⟨n, rho, s, h, hr, l, p⟩ := w
  refine lc2_t hix hix1 ⟨n, rho, s, h, hr, l, PostS.then hr l p fun a h1 v rho1 H1 n1 hr1 r1 p1 => ?_⟩
  exact p1 _ rho1 H1 Nx.refl hr1 ((l.mono hr n1).set r1 i)
/-! ### dicts -/
def newK (h : Hs) : R A := .ok (.ref h.length) (h ++ [.dK []])
def dnewKD : DE := fun _ _ h => newK h
def dnewTD : DE := fun _ _ h => .ok (.ref h.length) (h ++ [.dT []])
theorem new_get {K : PySem.W.Frag} {mg : Str → Option Value} {rho : List Addr} {H : Hp} {h : Hs} (hr : HR K mg rho H h) {p : Addr} : (rho ++ [p])[h.length]? = some p := by
  rw [← hr.len, List.getElem?_append_right (Nat.le_refl _), Nat.sub_self]; rfl
theorem d_dnewK : PEd X W (.Dict [] [] pos) dnewKD := by
  refine pe_weak L2.pe_dnewK fun sg H Q w => ?_
  obtain ⟨n, rho, s, h, hr, l, p⟩ := w
  intro q hq
  obtain ⟨nx, hr2⟩ := hr.new (o := .dK []) (u := .dK []) hq (.dK .nil)
  exact p (.ref q) _ _ nx hr2 (.ref (new_get hr))
theorem d_dnewT : PEd X W (.Dict [] [] pos) dnewTD := by
  refine pe_weak L2.pe_dnewT fun sg H Q w => ?_
  obtain ⟨n, rho, s, h, hr, l, p⟩ := w
  intro q hq
  obtain ⟨nx, hr2⟩ := hr.new (o := .dT []) (u := .dT []) hq (.dT .nil)
  exact p (.ref q) _ _ nx hr2 (.ref (new_get hr))
def dcL (st : Step) (g : DG) (t : DT) (ek ev : DE) (n : Nat) : Nat → Nat → List (Key × A) → Sl → Hs → R (List (Key × A))
  | 0, _, _, _, _ => .no
  | k + 1, i, acc, s, h => match st i h with
    | none => .no
    | some none => .ok acc h
    | some (some x) => match g x s with
      | none => .no
      | some s1 => (t n s1 h).calm.bind fun b h1 => if b = true then (ek n s1 h1).calm.bind fun a h2 => (ev n s1 h2).calm.bind fun c h3 => match keyA a with
          | some y => if acc.length < sizeLine then dcL st g t ek ev n k (i + 1) (putA acc y c) s h3 else .no
          | none => .no
        else dcL st g t ek ev n k (i + 1) acc s h1
def dcD (it : DI) (g : DG) (t : DT) (ek ev : DE) (vs : List Nat) : DE := fun n s h => (it n s h).bind fun st h1 => (dcL st g t ek ev n n 0 [] (wipeA s vs) h1).bind fun kvs h2 => .ok (.ref h2.length) (h2 ++ [.dK kvs])
theorem RKV.mono' {K : PySem.W.Frag} {mg : Str → Option Value} {k : Type} {rho rho' : List Addr} {H H' : Hp} {h : Hs} (hr : HR K mg rho H h) (n : Nx rho H rho' H') {as : List (k × A)} {vs : List (k × L2.V)} (r : RKV K mg rho H as vs) : RKV K mg rho' H' as vs := r.mono hr n
theorem dc_t {sg : L2.St} {H : Hp} {Q : VK} (hix : ∀ j ∈ ix, j ∈ own.map (·.2)) (w : tE X.K X.mg W (dcD fi g ft fk fv (own.map (·.2))) sg H Q) :
    L2.tDc (tI X.K X.mg W fi) (tG X.K X.mg g ix) (tT X.K X.mg W0 ft) (tE X.K X.mg W0 fk) (tE X.K X.mg W0 fv) (own.map (·.2)) sg H Q := by
  obtain ⟨n, rho, s, h, hr, l, p⟩ := w
  refine ⟨n, rho, s, h, hr, l, Post.bind p fun st h1 J rho1 H1 n1 hr1 o1 p1 D hD => ?_⟩
  obtain ⟨d1, st1, hr2, n2⟩ := side_new hr1 (u := .dK []) hD
  have lw := (l.mono hr n1).wipe (own.map (·.2))
  generalize hvs : own.map (·.2) = vs at *
  generalize hsw : wipeA s vs = sw at *
  refine ⟨fun i m H => ∃ rho' h' acc us, Nx rho1 H1 rho' H ∧ Stay rho1 H1 rho' H ∧ HR X.K X.mg rho' H h' ∧ D ∉ rho' ∧ H D = some (.dK us) ∧ RKV X.K X.mg rho' H acc us ∧ PostV X.K X.mg rho1 H1 (fun c d H' => W c d sg H') Q ((dcL st g ft fk fv n m i acc sw h').bind fun kvs h2 => .ok (.ref h2.length) (h2 ++ [.dK kvs])),
    ⟨n, rho1, h1, [], [], n2, st1, hr2, d1, L2.upd_same, .nil, p1⟩, ?_⟩
  clear p1
  rintro i m H ⟨rho2, h2, acc, us, n2, s2, hr2, d2, e2, r2, p2⟩
  cases m with
  | zero => exact p2.elim
  | succ q =>
    rw [dcL] at p2
    obtain ⟨oa, ob⟩ := o1 rho2 H h2 i s2 hr2
    cases z : st i h2 with
    | none => rw [z] at p2; exact p2.elim
    | some y => cases y with
      | none =>
        rw [z] at p2
        refine .inl ⟨ob z, ?_⟩
        exact (show PostV X.K X.mg rho1 H1 (fun c d H' => W c d sg H') Q (.ok (.ref h2.length) (h2 ++ [.dK acc])) from p2) (.ref D) (rho2 ++ [D]) H (adopt_nx n2 hD) (side_adopt hr2 d2 e2 trivial (.dK r2)) (.ref (new_get hr2))
      | some x =>
        rw [z] at p2
        dsimp only at p2
        obtain ⟨go, yl⟩ := oa x z
        refine .inr ⟨go, fun H => ∃ rho' h' acc us, Nx rho1 H1 rho' H ∧ Stay rho1 H1 rho' H ∧ HR X.K X.mg rho' H h' ∧ D ∉ rho' ∧ H D = some (.dK us) ∧ RKV X.K X.mg rho' H acc us ∧ PostV X.K X.mg rho1 H1 (fun c d H' => W c d sg H') Q ((dcL st g ft fk fv n q (i + 1) acc sw h').bind fun kvs h2 => .ok (.ref h2.length) (h2 ++ [.dK kvs])), fun H2 z => ⟨q, Nat.lt_succ_self q, z⟩, fun v H3 y => ?_⟩
        obtain ⟨n3, hr3, rv⟩ := yl v H3 y
        cases q2 : g x sw with
        | none => rw [q2] at p2; exact p2.elim
        | some s3 =>
          rw [q2] at p2
          dsimp only at p2
          have st3 := s2.trans (n3.stay hr2)
          refine ⟨rho2, sw, h2, x, hr3, lw.stay st3, rv, s3, q2, fun sg4 l4 z4 k4 => ⟨wipe_eq z4 k4 hix, ?_⟩⟩
          have e3 : H3 D = some (.dK us) := n3.keep _ _ e2 d2
          rw [bind_bind] at p2
          refine ⟨n, rho2, s3, h2, hr3, l4, calm_in p2 fun b h5 b' rho5 H5 n5 hr5 r5 p5 => ?_⟩
          subst r5
          have d5 : D ∉ rho5 := n5.out e3 d2
          have e5 : H5 D = some (.dK us) := n5.keep _ _ e3 d2
          have r5 := (r2.mono hr2 n3).mono hr3 n5
          have n15 := n2.trans hr2 (n3.trans hr3 n5)
          have st5 := st3.trans (n5.stay hr3)
          rw [bind_if] at p5
          cases b with
          | false => exact ⟨rho5, h5, acc, us, n15, st5, hr5, d5, e5, r5, p5⟩
          | true =>
            rw [if_pos rfl] at p5 ⊢
            rw [bind_bind] at p5
            refine ⟨n, rho5, s3, h5, hr5, l4.mono hr3 n5, calm_in p5 fun a h7 w rho7 H7 n7 hr7 r7 p7 => ?_⟩
            rw [bind_bind] at p7
            refine ⟨n, rho7, s3, h7, hr7, (l4.mono hr3 n5).mono hr5 n7, calm_in p7 fun c h9 u rho9 H9 n9 hr9 r9 p9 => ?_⟩
            have n79 := n7.trans hr7 n9
            have d9 : D ∉ rho9 := n79.out e5 d5
            have e9 : H9 D = some (.dK us) := n79.keep _ _ e5 d5
            have rr := r5.mono hr5 n79
            split at p9
            · rename_i y hk
              split at p9
              · rename_i hz
                refine ⟨us, y, keyA_get hk r7, e9, by rw [← rr.length]; exact hz, rho9, h9, putA acc y c, L2.putK us y u, side_nx (n15.trans hr5 n79) hD, (st5.trans (n79.stay hr5)).trans (side_stay e9 trivial), side_hr hr9 d9 e9 trivial, d9, L2.upd_same, ?_, p9⟩
                exact (rr.stay (side_stay e9 trivial)).put y (r9.stay (side_stay e9 trivial))
              · exact p9.elim
            · exact p9.elim
theorem d_dc (hc : X.calm = true) (hN : X.N.Nodup) (hi : PId X W tg iter fi) (ok : L2.BlkOk X.N X.env.scope scope own)
    (hg : ∀ (s : Shared) (H : Hp) (C : Addr) (cl : List (Str × Addr)) (fp : List Addr), PGd (X.blk s H scope (compEnvC scope cl C X.env) fp) tg g ix) (hix : ∀ j ∈ ix, j ∈ own.map (·.2))
    (ht : ∀ (s : Shared) (H : Hp) (C : Addr) (cl : List (Str × Addr)) (fp : List Addr), PTsd (X.blk s H scope (compEnvC scope cl C X.env) fp) W0 ifs ft)
    (hk : ∀ (s : Shared) (H : Hp) (C : Addr) (cl : List (Str × Addr)) (fp : List Addr), PEd (X.blk s H scope (compEnvC scope cl C X.env) fp) W0 a fk)
    (he : ∀ (s : Shared) (H : Hp) (C : Addr) (cl : List (Str × Addr)) (fp : List Addr), PEd (X.blk s H scope (compEnvC scope cl C X.env) fp) W0 b fv) (hs : ∀ x, foldedSetIterable iter X.env x = pure x := by intro _; rfl) :
    PEd X W (.DictComp a b [⟨tg, iter, ifs, 0⟩] scope pos) (dcD fi g ft fk fv (own.map (·.2))) :=
  pe_weak (L2.pe_dc (tk := tE X.K X.mg W0 fk) (tv := tE X.K X.mg W0 fv) (g := tG X.K X.mg g ix) (tt := tT X.K X.mg W0 ft) hc hN hi ok hg ht hk he hs) fun sg H Q w => dc_t hix w
end
end Dn

set_option maxHeartbeats 4000000
/-! Dn13: xs[i] += e on a list of ints; max with a default. -/
namespace Dn
open PySem PyProof.Rows
open L2 (PE PT PA PS PSs PG PGs PI Cx WX Takes HO Hp VK)
/-! ### xs[i] += e -/
def rGetL (K : PySem.W.Frag) : L2.V → L2.V → Hp → VK → Prop := fun o i H Q => ∃ a vs k v, o = .ref a ∧ i = .int k ∧ L2.SqL K H a vs ∧ 0 ≤ k ∧ vs[k.toNat]? = some v ∧ Q v H
theorem get_lst {X : Cx} : L2.PGet X (rGetL X.K) := by
  intro pins s σ H o i ov iv Q I ro ri h
  obtain ⟨a, vs, k, v, rfl, rfl, hs, h0, hv, q⟩ := h
  cases ro
  obtain ⟨t, rfl⟩ := ri
  obtain ⟨its, r, pl, hz⟩ := I.list hs
  obtain ⟨w, ew, rw'⟩ := r.get hv
  have hl := r.length
  have hn := L2.line63
  have hb := (List.getElem?_eq_some_iff.mp hv).1
  exact wpAny_getItem_list pl.isList h0 (by omega) (by simpa using ew) ⟨v, H, I, rw', q⟩
def augItD (fo fi fe : DE) : DS := fun n s h => (fo n s h).then s fun a h1 => (fi n s h1).then s fun b h2 => match a, b with
  | .ref m, .int k => match h2[m]? with
    | some (.lst xs) => if 0 ≤ k ∧ k < 2 ^ 63 then match xs[k.toNat]? with
        | some (.int x) => (fe n s h2).then s fun c h3 => match c, h3[m]? with
          | .int y, some (.lst ys) => if ys.length = xs.length then .nx s (h3.set m (.lst (ys.set k.toNat (.int (x + y))))) else .no
          | _, _ => .no
        | _ => .no
      else .no
    | _ => .no
  | _, _ => .no
section
variable {X : Cx} {W : WX} {e o i : Expr} {pos tpos p : Pos} {fo fi fe : DE}
theorem s_augIt (ho : PEd X W o fo) (hi : PEd X W i fi) (he : PEd X W e fe)
    (ha : ∀ ov iv new, augStore i ov iv new = (do holding [new, ov, iv] (setItem ov iv new); release [new, ov, iv] []; pure .next) := by intros; rfl) :
    PSd X W (.AugAssign (.Subscript o i tpos) .Add e pos) (augItD fo fi fe) := by
  refine ps_weak (L2.ps_augS ho hi get_lst he L2.ip_add L2.set_list ha) fun D sg H w => ?_
  obtain ⟨n, rho, s, h, hr, l, p⟩ := w
  refine ⟨n, rho, s, h, hr, l, PostS.then hr l p fun a h1 v rho1 H1 n1 hr1 r1 p1 => ?_⟩
  refine ⟨n, rho1, s, h1, hr1, l.mono hr n1, PostS.then hr1 (l.mono hr n1) p1 fun b h2 u rho2 H2 n2 hr2 r2 p2 => ?_⟩
  have ra := r1.mono hr1 n2
  have l2 := (l.mono hr n1).mono hr1 n2
  split at p2
  · rename_i m k
    cases r2
    cases ra with
    | ref hp =>
      rename_i ad
      split at p2
      · rename_i xs hx
        split at p2
        · rename_i hk
          split at p2
          · rename_i x hxk
            obtain ⟨vs, e1, e2⟩ := hr2.lst hp hx
            obtain ⟨v, ev, rv⟩ := e2.get hxk
            cases rv
            refine ⟨ad, vs, k, _, rfl, rfl, .of e1, hk.1, ev, n, rho2, s, h2, hr2, l2, PostS.then hr2 l2 p2 fun c h3 z rho3 H3 n3 hr3 r3 p3 => ?_⟩
            split at p3
            · rename_i y ys hy
              cases r3
              split at p3
              · rename_i hlen
                obtain ⟨us, f1, f2⟩ := hr3.lst (n3.pre _ _ hp) hy
                obtain ⟨nx, hr4⟩ := hr3.set (o := .lst (ys.set k.toNat (.int (x + y)))) (u := .lst (us.set k.toNat (.int (x + y)))) (n3.pre _ _ hp) (.lst (RVs.set (.int _) _ f2))
                refine ⟨x, y, rfl, rfl, ad, us, k, k.toNat, rfl, rfl, f1, ?_, p3 sg rho3 _ nx hr4 ((l2.mono hr2 n3).mono hr3 nx)⟩
                have hb := (List.getElem?_eq_some_iff.mp hxk).1
                have hb2 : k < us.length := by rw [← f2.length]; omega
                unfold L2.ixN
                rw [if_pos hk.1, if_pos hb2]
              · exact p3.elim
            · exact p3.elim
          · exact p2.elim
        · exact p2.elim
      · exact p2.elim
  · exact p2.elim
/-! ### max(xs, default=d) -/
def rMaxK (K : PySem.W.Frag) : List L2.V → List L2.V → Hp → VK → Prop := fun xs zs H Q => ∃ a ns d, xs = [.ref a] ∧ zs = [.int d] ∧ L2.SqL K H a (ns.map L2.V.int) ∧ Q (.int (match ns with | [] => d | x :: r => r.foldl max x)) H
theorem call_maxK (hc : X.calm = true) (hu : X.A.units + 2 < cLine) : L2.CallRK X (.builtin "max") ["default"] (rMaxK X.K) := by
  intro pins s σ H xs zs us ws Q I rx rz h
  obtain ⟨a, ns, d, rfl, rfl, hs, q⟩ := h
  obtain ⟨its, rv, hl, hz⟩ := I.list hs
  rw [L2.Vals.ref1 rx]
  cases rz with
  | cons r1 r2 =>
    cases r2
    obtain ⟨td, rfl⟩ := r1
    have dp : ∀ ns : List Int, L2.DpAll X.K H (ns.map L2.V.int) (ns.map PyData.int) := fun ns => by
      induction ns with
      | nil => exact .nil
      | cons n ns ih => exact .cons (.int n) ih
    obtain ⟨as, ra⟩ := L2.Dp.readsAll I _ _ _ (dp ns) rv
    have al : PySem.W.AlikeAll (ns.map PyData.int) := ⟨fun x hx y hy => by
      obtain ⟨i, _, rfl⟩ := List.mem_map.mp hx
      obtain ⟨j, _, rfl⟩ := List.mem_map.mp hy
      rfl, fun x hx e => by
      obtain ⟨i, _, rfl⟩ := List.mem_map.mp hx
      cases e⟩
    have dz : ∀ ns : List Int, PyData.depthAll (ns.map PyData.int) = 0 := fun ns => by
      induction ns with
      | nil => rfl
      | cons n ns ih => simp [PyData.depthAll, PyData.depth, ih]
    have room : X.A.units + 1 + PyData.depthAll (ns.map PyData.int) < cLine := by rw [dz]; omega
    show wpAny _ _ (call (.builtin "max") [.ref a] [(Str.ofString "default", .int d td)]) _ _ _
    refine PySem.W.max_list_default (I.ok.hd hc) hl.isList (show ReadsAll s.heap its.toArray.toList _ _ by simpa using ra) al room (fun e h' tk hk => ?_) (fun y ys i v h' tk bs e hv r hk => ?_)
    · cases ns with
      | nil => exact ⟨.int d, H, I.kept hk, ⟨_, rfl⟩, q⟩
      | cons _ _ => cases e
    · cases ns with
      | nil => cases e
      | cons n ns =>
        cases e
        rw [PySem.W.maxD_ints] at r
        cases r
        exact ⟨.int _, H, I.kept hk, ⟨_, rfl⟩, q⟩
def maxKD (ft : DA) (d : Int) : DE := fun n s h => (ft n s h).bind fun as h1 => match as with
  | [a] => match (lsOf h1 a).bind intsOf with
    | some [] => .ok (.int d) h1
    | some (x :: r) => .ok (.int (r.foldl max x)) h1
    | none => .no
  | _ => .no
theorem d_maxK {e : Expr} {ft : DA} {d : Int} {p pos kpos cp : Pos} {j} (hc : X.calm = true) (hu : X.A.units + 2 < cLine) (hg : L2.Gl X "max") (hm : X.mg "max" = none) (ha : PAd X W [e] ft)
    (he : backTo pos (starEach [e] X.env) = (false, eval e X.env) :: backTo pos (starEach [] X.env) := by rfl) (hpl : (backTo pos (starEach [e] X.env)).any (·.1) = false := by rfl)
    (hall : (backToKw pos (keywordEach [⟨some "default", .Constant (.int d) j cp, kpos⟩] X.env)).all (·.1.isSome) = true := by rfl) (hnone : (backToKw pos (keywordEach [⟨some "default", .Constant (.int d) j cp, kpos⟩] X.env)).any (·.1.isNone) = false := by rfl) (hks : (backToKw pos (keywordEach [⟨some "default", .Constant (.int d) j cp, kpos⟩] X.env)).filterMap (·.1) = [Str.ofString "default"] := by rfl) :
    PEd X W (.Call (.Name "max" p) [e] [⟨some "default", .Constant (.int d) j cp, kpos⟩] pos) (maxKD ft d) := by
  refine pe_weak (L2.pe_callBK (call_maxK hc hu) hg hm boot_max ha (L2.pk_cons L2.pe_int L2.pk_nil) (by decide) (by decide) he hpl hall hnone hks) fun sg H Q w => ?_
  obtain ⟨n, rho, s, h, hr, l, p⟩ := w
  refine ⟨n, rho, s, h, hr, l, Post.bind p fun as h1 vs rho1 H1 n1 hr1 r1 p1 => ?_⟩
  split at p1
  · obtain ⟨v, rfl, rv⟩ := r1.one
    split at p1
    · rename_i hq
      obtain ⟨q, rfl, hs⟩ := ints_get hr1 hq rv
      exact ⟨q, [], d, rfl, rfl, hs, p1 _ rho1 H1 Nx.refl hr1 (.int _)⟩
    · rename_i x r hq
      obtain ⟨q, rfl, hs⟩ := ints_get hr1 hq rv
      exact ⟨q, x :: r, d, rfl, rfl, hs, p1 _ rho1 H1 Nx.refl hr1 (.int _)⟩
    · exact p1.elim
  · exact p1.elim
end
end Dn

set_option maxHeartbeats 4000000
/-! Dn14: what a caller wants of a def; +=. -/
namespace Dn
open PySem PyProof.Rows
open L2 (PE PT PA PS PSs PG PGs PI Cx WX Takes HO Hp VK)
def Has (P : Program) (w : World) (K : PySem.W.Frag) (mg : Str → Option Value) (base : Heap) (k : Nat) (x : Str) (ps : List Str) (G : DF) : Prop :=
  ∃ (g : Addr) (fd : FuncData), FnD P w K mg base k g fd ps G ∧ mg x = some (.ref g) ∧ PySem.W.keepIn K (.ref g) = true ∧ L2.Binds K fd ps []
def addI (i j : Int) : Option Int := some (i + j)
theorem rf_ip {K : PySem.W.Frag} {mg : Str → Option Value} : Rf2 K mg (L2.ipI fun i j => i + j) (intA addI) := by
  intro rho H h a b x y W Q hr ra rb p
  unfold intA at p
  split at p
  · cases ra; cases rb
    exact ⟨_, _, rfl, rfl, by
      revert p
      unfold addI
      intro p
      exact p.here hr (.int _)⟩
  · exact p.elim
theorem takes_cx {P : Program} {w : World} {K : PySem.W.Frag} {mg : Str → Option Value} {base : Heap} {N : List Str} {qual : Str} {sc : Scope} {f : Addr} {cdv : Value} {A : Around} {outer : List Env} {s : Shared} {H : Hp} {E : L2.XK} :
    Takes (L2.cxOf (L2.CX P w) P w K mg base N qual sc f cdv A outer s H E) (fun cls d _ H => E cls d H) := L2.takes_of rfl rfl rfl rfl
theorem passes_cx {P : Program} {w : World} {K : PySem.W.Frag} {mg : Str → Option Value} {base : Heap} {N : List Str} {qual : Str} {sc : Scope} {f : Addr} {cdv : Value} {A : Around} {outer : List Env} {s : Shared} {H : Hp} {E : L2.XK} :
    PassesOwn (model (L2.cxOf (L2.CX P w) P w K mg base N qual sc f cdv A outer s H E).prog (L2.cxOf (L2.CX P w) P w K mg base N qual sc f cdv A outer s H E).w) (L2.cxOf (L2.CX P w) P w K mg base N qual sc f cdv A outer s H E).A
      (L2.cxOf (L2.CX P w) P w K mg base N qual sc f cdv A outer s H E).env (L2.cxOf (L2.CX P w) P w K mg base N qual sc f cdv A outer s H E).xe := L2.passes_of rfl
end Dn

set_option maxHeartbeats 4000000
/-! Dn15: the law's own promise. -/
namespace Dn
open PySem PyProof.Rows
open L2 (PE PT PA PS PSs PG PGs PI Cx WX Takes HO Hp VK)
def spLaw (K : PySem.W.Frag) (m : Nat) : L2.Sp := fun vs H Q _ => ∃ (a : Addr) (ns : List Int), vs = [.ref a] ∧ L2.SqL K H a (ns.map L2.V.int) ∧ ns.length ≤ m ∧ L2.Only H ∧ ∀ H', Q (.bl true) H'
theorem law_imp {K : PySem.W.Frag} {mg : Str → Option Value} {m : Nat} {G : DF} (T : ∀ ns : List Int, ns.length ≤ m → ∃ n h', G n [.rol (ns.map A.int)] [] = .ok (.bl true) h') : ∀ vs H Q E, spLaw K m vs H Q E → spD K mg 1 G vs H Q E := by
  rintro vs H Q E ⟨a, ns, rfl, hs, hl, ho, q⟩
  obtain ⟨n, h', e⟩ := T ns hl
  refine ⟨rfl, n, [], [], [.rol (ns.map A.int)], ⟨rfl, List.nodup_nil, fun i a o e1 e2 => by simp at e1⟩, .cons (.rol ?_ (RVs.ints ns)) .nil, ?_⟩
  · rcases hs with (e1 | ⟨ob, e1⟩) | e1
    · rcases ho a with z | ⟨o, xs, z⟩
      · rw [z] at e1; cases e1
      · rw [z] at e1; cases e1
    · exact .inl ⟨ob, e1, by simp⟩
    · exact .inr (.inr e1)
  · rw [e]
    intro b rho' H' _ _ r
    cases r
    exact q H'
theorem cx_end {P : Program} {w : World} {H : Hp} {s : Shared} {e : Value} {s' : Shared} (z : L2.CX P w [] H s (fun _ _ _ => False) e s') : False := by
  obtain ⟨_, _, _, _, _, _, _, _, _, _, _, _, q⟩ := z
  exact q
end Dn

set_option maxHeartbeats 4000000
/-! Dn16: what a denotation leads to: rules to reason with, no program in sight. -/
namespace Dn
open PySem
/-- r ends well, in Q; an exception ends in X -/
def Ev {α : Type} (X : Xn → Hs → Prop) (r : R α) (Q : α → Hs → Prop) : Prop := match r with
  | .ok a h => Q a h
  | .ex x h => X x h
  | .no => False
structure Tl where
  nx : Sl → Hs → Prop
  rt : A → Hs → Prop
  bk : Sl → Hs → Prop
  ct : Sl → Hs → Prop
  ex : Xn → Sl → Hs → Prop
def EvS (r : RS) (T : Tl) : Prop := match r with
  | .nx s h => T.nx s h
  | .rt a h => T.rt a h
  | .bk s h => T.bk s h
  | .ct s h => T.ct s h
  | .ex x s h => T.ex x s h
  | .no => False
def NoX : Xn → Hs → Prop := fun _ _ => False
section
variable {α β : Type} {X : Xn → Hs → Prop} {Q Q' : α → Hs → Prop}
theorem ev_ok {a : α} {h : Hs} : Ev X (.ok a h) Q = Q a h := rfl
theorem ev_ex {x : Xn} {h : Hs} : Ev X (.ex x h : R α) Q = X x h := rfl
theorem ev_no : Ev X (.no : R α) Q = False := rfl
theorem ev_bind {r : R β} {k : β → Hs → R α} : Ev X (r.bind k) Q = Ev X r fun a h => Ev X (k a h) Q := by cases r <;> rfl
theorem ev_if {c : Prop} [Decidable c] {r r' : R α} : Ev X (if c then r else r') Q = if c then Ev X r Q else Ev X r' Q := by split <;> rfl
theorem Ev.mono {r : R α} (h : Ev X r Q) (m : ∀ a h, Q a h → Q' a h) : Ev X r Q' := by
  cases r with
  | ok a h1 => exact m _ _ h
  | ex x h1 => exact h
  | no => exact h
theorem Ev.calm {r : R α} (h : Ev NoX r Q) : Ev X r.calm Q := by
  cases r with
  | ok a h1 => exact h
  | ex x h1 => exact h.elim
  | no => exact h
theorem Ev.any {r : R α} (h : Ev NoX r Q) : Ev X r Q := by
  cases r with
  | ok a h1 => exact h
  | ex x h1 => exact h.elim
  | no => exact h
theorem Ev.get {r : R α} (h : Ev NoX r Q) : ∃ a h', r = .ok a h' ∧ Q a h' := by
  cases r with
  | ok a h1 => exact ⟨a, h1, rfl, h⟩
  | ex x h1 => exact h.elim
  | no => exact h.elim
variable {T : Tl}
theorem es_nx {s h} : EvS (.nx s h) T = T.nx s h := rfl
theorem es_rt {a h} : EvS (.rt a h) T = T.rt a h := rfl
theorem es_bk {s h} : EvS (.bk s h) T = T.bk s h := rfl
theorem es_ct {s h} : EvS (.ct s h) T = T.ct s h := rfl
theorem es_ex {x s h} : EvS (.ex x s h) T = T.ex x s h := rfl
theorem es_no : EvS .no T = False := rfl
theorem es_seq {r : RS} {k : Sl → Hs → RS} : EvS (r.seq k) T = EvS r { T with nx := fun s h => EvS (k s h) T } := by cases r <;> rfl
theorem es_then {r : R β} {s : Sl} {k : β → Hs → RS} : EvS (r.then s k) T = Ev (fun x h => T.ex x s h) r fun a h => EvS (k a h) T := by cases r <;> rfl
theorem es_if {c : Prop} [Decidable c] {r r' : RS} : EvS (if c then r else r') T = if c then EvS r T else EvS r' T := by split <;> rfl
theorem EvS.mono {r : RS} {T' : Tl} (h : EvS r T) (h1 : ∀ s h, T.nx s h → T'.nx s h) (h2 : ∀ a h, T.rt a h → T'.rt a h) (h3 : ∀ s h, T.bk s h → T'.bk s h) (h4 : ∀ s h, T.ct s h → T'.ct s h) (h5 : ∀ x s h, T.ex x s h → T'.ex x s h) : EvS r T' := by
  cases r with
  | nx s h' => exact h1 _ _ h
  | rt a h' => exact h2 _ _ h
  | bk s h' => exact h3 _ _ h
  | ct s h' => exact h4 _ _ h
  | ex x s h' => exact h5 _ _ _ h
  | no => exact h
theorem ev_body {np nn : Nat} {b : DS} {n : Nat} {as : List A} {h : Hs} {Q : A → Hs → Prop} (hl : as.length = np) (w : EvS (b n (as.map some ++ List.replicate (nn - np) none) h) ⟨fun _ h => Q .non h, Q, fun _ _ => False, fun _ _ => False, fun x _ h => X x h⟩) : Ev X (bodyD np nn b n as h) Q := by
  unfold bodyD
  rw [if_pos hl]
  revert w
  cases b n (as.map some ++ List.replicate (nn - np) none) h <;> exact id
theorem ev_call {np : Nat} {G : DF} {f : DA} {n : Nat} {s : Sl} {h : Hs} {Q : A → Hs → Prop} : Ev X (callD np G f n s h) Q = Ev X (f n s h) fun as h1 => as.length = np ∧ Ev X (G n as h1) Q := by
  unfold callD
  rw [ev_bind]
  congr 1
  funext as h1
  rw [ev_if]
  by_cases hz : as.length = np
  · simp [hz]
  · simp [hz, ev_no]
end
/-- two statements, what holds between -/
theorem step_seq {f g : DS} {n : Nat} {s : Sl} {h : Hs} {T : Tl} (N : Sl → Hs → Prop) (h1 : EvS (f n s h) { T with nx := N }) (h2 : ∀ s h, N s h → EvS (g n s h) T) : EvS (seqD f g n s h) T := by
  unfold seqD
  rw [es_seq]
  exact h1.mono (fun s h z => h2 s h z) (fun _ _ z => z) (fun _ _ z => z) (fun _ _ z => z) (fun _ _ _ z => z)
/-! ### loops -/
section
variable {T : Tl} {g : DG} {b : DS} {n : Nat}
theorem for_any {st : Step} {m : Nat} (I : Nat → Sl → Hs → Prop) (step : ∀ j s h, j < m → I j s h → ∃ x s1, st j h = some (some x) ∧ g x s = some s1 ∧ EvS (b n s1 h) { T with nx := I (j + 1), ct := I (j + 1), bk := T.nx })
    (fin : ∀ s h, I m s h → st m h = some none ∧ T.nx s h) : ∀ (d k i : Nat) (s : Sl) (h : Hs), i + d = m → d < k → I i s h → EvS (forL st g b n k i s h) T
  | _, 0, _, _, _, _, hk, _ => absurd hk (Nat.not_lt_zero _)
  | 0, k + 1, i, s, h, e, _, hi => by
    rw [Nat.add_zero] at e
    subst e
    obtain ⟨e1, e2⟩ := fin s h hi
    rw [forL, e1]
    exact e2
  | d + 1, k + 1, i, s, h, e, hk, hi => by
    obtain ⟨x, s1, e1, e2, w⟩ := step i s h (by omega) hi
    rw [forL, e1]
    dsimp only
    rw [e2]
    dsimp only
    revert w
    cases b n s1 h with
    | nx s2 h2 => intro w; exact for_any I step fin d k (i + 1) s2 h2 (by omega) (by omega) w
    | ct s2 h2 => intro w; exact for_any I step fin d k (i + 1) s2 h2 (by omega) (by omega) w
    | bk s2 h2 => exact id
    | rt a h2 => exact id
    | ex x s2 h2 => exact id
    | no => exact id
/-- over a tuple -/
theorem for_x {xs : List A} {k : Nat} {s : Sl} {h : Hs} (hk : xs.length < k) (I : Nat → Sl → Hs → Prop) (h0 : I 0 s h)
    (step : ∀ j s h (hj : j < xs.length), I j s h → ∃ s1, g xs[j] s = some s1 ∧ EvS (b n s1 h) { T with nx := I (j + 1), ct := I (j + 1), bk := T.nx }) (fin : ∀ s h, I xs.length s h → T.nx s h) : EvS (forL (stepX xs) g b n k 0 s h) T :=
  for_any (m := xs.length) I (fun j s h hj hi => let ⟨s1, e1, e2⟩ := step j s h hj hi; ⟨xs[j], s1, by unfold stepX; rw [List.getElem?_eq_getElem hj], e1, e2⟩)
    (fun s h hi => ⟨by unfold stepX; rw [List.getElem?_eq_none (Nat.le_refl _)], fin s h hi⟩) xs.length k 0 s h (Nat.zero_add _) hk h0
/-- over a range -/
theorem for_r {lo : Int} {m k : Nat} {s : Sl} {h : Hs} (hk : m < k) (I : Nat → Sl → Hs → Prop) (h0 : I 0 s h)
    (step : ∀ (j : Nat) s h, j < m → I j s h → ∃ s1, g (.int (lo + (j : Nat))) s = some s1 ∧ EvS (b n s1 h) { T with nx := I (j + 1), ct := I (j + 1), bk := T.nx }) (fin : ∀ s h, I m s h → T.nx s h) : EvS (forL (stepR lo m) g b n k 0 s h) T :=
  for_any (m := m) I (fun j s h hj hi => let ⟨s1, e1, e2⟩ := step j s h hj hi; ⟨_, s1, by unfold stepR; rw [if_pos hj], e1, e2⟩)
    (fun s h hi => ⟨by unfold stepR; rw [if_neg (Nat.lt_irrefl _)], fin s h hi⟩) m k 0 s h (Nat.zero_add _) hk h0
/-- over a list that stays -/
theorem for_l {p : Nat} {xs : List A} {k : Nat} {s : Sl} {h : Hs} (hk : xs.length < k) (I : Nat → Sl → Hs → Prop) (h0 : I 0 s h) (hl : ∀ j s h, I j s h → h[p]? = some (.lst xs))
    (step : ∀ j s h (hj : j < xs.length), I j s h → ∃ s1, g xs[j] s = some s1 ∧ EvS (b n s1 h) { T with nx := I (j + 1), ct := I (j + 1), bk := T.nx }) (fin : ∀ s h, I xs.length s h → T.nx s h) : EvS (forL (stepL p) g b n k 0 s h) T :=
  for_any (m := xs.length) I (fun j s h hj hi => let ⟨s1, e1, e2⟩ := step j s h hj hi; ⟨xs[j], s1, by unfold stepL; rw [hl j s h hi]; dsimp only; rw [List.getElem?_eq_getElem hj], e1, e2⟩)
    (fun s h hi => ⟨by unfold stepL; rw [hl _ s h hi]; dsimp only; rw [List.getElem?_eq_none (Nat.le_refl _)], fin s h hi⟩) xs.length k 0 s h (Nat.zero_add _) hk h0
/-- enumerate over a tuple -/
theorem for_ex {xs : List A} {k : Nat} {s : Sl} {h : Hs} (hk : xs.length < k) (I : Nat → Sl → Hs → Prop) (h0 : I 0 s h)
    (step : ∀ (j : Nat) s h (hj : j < xs.length), I j s h → ∃ s1, g (.tup [.int (j : Nat), xs[j]]) s = some s1 ∧ EvS (b n s1 h) { T with nx := I (j + 1), ct := I (j + 1), bk := T.nx }) (fin : ∀ s h, I xs.length s h → T.nx s h) : EvS (forL (stepE (stepX xs)) g b n k 0 s h) T :=
  for_any (m := xs.length) I (fun j s h hj hi => let ⟨s1, e1, e2⟩ := step j s h hj hi; ⟨_, s1, by unfold stepE stepX; rw [List.getElem?_eq_getElem hj]; rfl, e1, e2⟩)
    (fun s h hi => ⟨by unfold stepE stepX; rw [List.getElem?_eq_none (Nat.le_refl _)]; rfl, fin s h hi⟩) xs.length k 0 s h (Nat.zero_add _) hk h0
/-- while, by a measure -/
theorem while_m {c : DT} (I : Nat → Sl → Hs → Prop) (step : ∀ m s h, I m s h → Ev (fun x h => T.ex x s h) (c n s h) fun t h1 => if t then ∃ m', m' < m ∧ EvS (b n s h1) { T with nx := I m', ct := I m', bk := T.nx } else T.nx s h1) :
    ∀ (k m : Nat) (s : Sl) (h : Hs), m < k → I m s h → EvS (whileL c b n k s h) T
  | 0, _, _, _, hk, _ => absurd hk (Nat.not_lt_zero _)
  | k + 1, m, s, h, hk, hi => by
    rw [whileL, es_then]
    refine (step m s h hi).mono fun t h1 w => ?_
    cases t with
    | false => exact w
    | true =>
      obtain ⟨m', hm, w⟩ := w
      simp only [if_true]
      revert w
      cases b n s h1 with
      | nx s2 h2 => intro w; exact while_m I step k m' s2 h2 (by omega) w
      | ct s2 h2 => intro w; exact while_m I step k m' s2 h2 (by omega) w
      | bk s2 h2 => exact id
      | rt a h2 => exact id
      | ex x s2 h2 => exact id
      | no => exact id
end
/-! ### comprehensions -/
section
variable {X : Xn → Hs → Prop} {g : DG} {t : DT} {e : DE} {n : Nat}
theorem lc_any {st : Step} {m : Nat} {s : Sl} {Q : List A → Hs → Prop} (I : Nat → List A → Hs → Prop)
    (step : ∀ j acc h, j < m → I j acc h → ∃ x s1, st j h = some (some x) ∧ g x s = some s1 ∧ Ev NoX (t n s1 h) fun b h1 => if b then Ev NoX (e n s1 h1) fun a h2 => acc.length < sizeLine ∧ I (j + 1) (acc ++ [a]) h2 else I (j + 1) acc h1)
    (fin : ∀ acc h, I m acc h → st m h = some none ∧ Q acc h) : ∀ (d k i : Nat) (acc : List A) (h : Hs), i + d = m → d < k → I i acc h → Ev X (lcL st g t e n k i acc s h) Q
  | _, 0, _, _, _, _, hk, _ => absurd hk (Nat.not_lt_zero _)
  | 0, k + 1, i, acc, h, e1, _, hi => by
    rw [Nat.add_zero] at e1
    subst e1
    obtain ⟨e1, e2⟩ := fin acc h hi
    rw [lcL, e1]
    exact e2
  | d + 1, k + 1, i, acc, h, e0, hk, hi => by
    obtain ⟨x, s1, e1, e2, w⟩ := step i acc h (by omega) hi
    rw [lcL, e1]
    dsimp only
    rw [e2]
    dsimp only
    rw [ev_bind]
    refine (Ev.calm w).mono fun b h1 w1 => ?_
    cases b with
    | false => simp only [Bool.false_eq_true, if_false] at w1 ⊢; exact lc_any I step fin d k (i + 1) acc h1 (by omega) (by omega) w1
    | true =>
      simp only [if_true] at w1 ⊢
      rw [ev_bind]
      refine (Ev.calm w1).mono fun a h2 w2 => ?_
      rw [if_pos w2.1]
      exact lc_any I step fin d k (i + 1) (acc ++ [a]) h2 (by omega) (by omega) w2.2
end
/-! ### heaps that grow -/
/-- what stood before stands, but at m -/
def Gm (m : Option Nat) (h h' : Hs) : Prop := h.length ≤ h'.length ∧ ∀ i, i < h.length → some i ≠ m → h'[i]? = h[i]?
theorem Gm.refl {m : Option Nat} {h : Hs} : Gm m h h := ⟨Nat.le_refl _, fun _ _ _ => rfl⟩
theorem Gm.trans {m : Option Nat} {h h' h'' : Hs} (a : Gm m h h') (b : Gm m h' h'') : Gm m h h'' := ⟨Nat.le_trans a.1 b.1, fun i hi hm => by rw [b.2 i (Nat.lt_of_lt_of_le hi a.1) hm, a.2 i hi hm]⟩
theorem Gm.weak {m : Option Nat} {h h' : Hs} (a : Gm none h h') : Gm m h h' := ⟨a.1, fun i hi _ => a.2 i hi (by simp)⟩
theorem Gm.get {m : Option Nat} {h h' : Hs} (a : Gm m h h') {i : Nat} {o : AO} (e : h[i]? = some o) (hm : some i ≠ m := by simp) : h'[i]? = some o := by rw [a.2 i (List.getElem?_eq_some_iff.mp e).1 hm]; exact e
theorem Gm.app {m : Option Nat} {h h' : Hs} {o : AO} (a : Gm m h h') : Gm m h (h' ++ [o]) := ⟨by rw [List.length_append]; exact Nat.le_trans a.1 (Nat.le_add_right _ _), fun i hi hm => by rw [List.getElem?_append_left (Nat.lt_of_lt_of_le hi a.1)]; exact a.2 i hi hm⟩
theorem Gm.set {m : Option Nat} {h h' : Hs} {p : Nat} {o : AO} (a : Gm m h h') (hp : h.length ≤ p ∨ some p = m) : Gm m h (h'.set p o) := ⟨by rw [List.length_set]; exact a.1, fun i hi hm => by
  have hne : p ≠ i := fun z => by
    rcases hp with q | q
    · omega
    · exact hm (by rw [← z]; exact q)
  rw [List.getElem?_set_ne hne]; exact a.2 i hi hm⟩
theorem get_app {h : Hs} {o : AO} : (h ++ [o])[h.length]? = some o := by rw [List.getElem?_append_right (Nat.le_refl _), Nat.sub_self]; rfl
theorem get_set {h : Hs} {p : Nat} {o o' : AO} (e : h[p]? = some o') : (h.set p o)[p]? = some o := List.getElem?_set_self (List.getElem?_eq_some_iff.mp e).1
theorem lt_of_get {h : Hs} {p : Nat} {o : AO} (e : h[p]? = some o) : p < h.length := (List.getElem?_eq_some_iff.mp e).1
end Dn

set_option maxHeartbeats 4000000
namespace Dn
open PySem PySem.Spec PyProof.Rows
open L2 (PE PT PA PS PSs PG PGs PI Cx WX Takes HO Hp VK)
def topS (i : Nat) : Stmt := PySem.Challenge.pw_movemarks_k84_whole_texts_there_and_back.main.body.getD i (.Pass ⟨0, 0, 0, 0⟩)

/-! is_plain -/
abbrev s_is_plain : Stmt := topS 9
/-- 0 value -/
def d_is_plain : DS :=
  (retD (andV (cbD bIsi (consD (varD 0) (consD (conD (.ty "int")) nilD))) (notV (cbD bIsi (consD (varD 0) (consD (conD (.ty "bool")) nilD))))))
def f_is_plain : DF := bodyD 1 1 d_is_plain
theorem sc_is_plain : L2.FnScope ["value"] ["value"] (L2.defScope s_is_plain) := ⟨rfl, rfl, rfl, by decide +kernel, rfl, by decide +kernel, by decide +kernel⟩
/-! is_move_of -/
abbrev s_is_move_of : Stmt := topS 15
/-- 0 places, 1 value, 2 place -/
def d_is_move_of : DS :=
  (seqD (ifD (orT (notT (testD (cbD bIsi (consD (varD 1) (consD (conD (.ty "tuple")) nilD))))) (orT (testD (bin2 (eqA true) (cbD bLen (consD (varD 1) nilD)) (varD 0))) (notT (testD (cbD bAll (consD (lcD (itSeq (varD 1)) (nameG 2) yesT (callD 1 f_is_plain (consD (varD 2) nilD)) [2]) nilD)))))) (retD (conD (.bl false))) nextD)
  (retD (bin2 (eqA false) (cbD bSorted (consD (varD 1) nilD)) (lstRg (rg1 (varD 0))))))
def f_is_move_of : DF := bodyD 2 3 d_is_move_of
theorem sc_is_move_of : L2.FnScope ["places", "value", "place"] ["places", "value"] (L2.defScope s_is_move_of) := ⟨rfl, rfl, rfl, by decide +kernel, rfl, by decide +kernel, by decide +kernel⟩
/-! is_any_move -/
abbrev s_is_any_move : Stmt := topS 16
/-- 0 value -/
def d_is_any_move : DS :=
  (retD (andV (cbD bIsi (consD (varD 0) (consD (conD (.ty "tuple")) nilD))) (andV (chain3 (cmpI qle) (cmpI qle) (conD (.int 1)) (cbD bLen (consD (varD 0) nilD)) (conD (.int 24))) (callD 2 f_is_move_of (consD (cbD bLen (consD (varD 0) nilD)) (consD (varD 0) nilD))))))
def f_is_any_move : DF := bodyD 1 1 d_is_any_move
theorem sc_is_any_move : L2.FnScope ["value"] ["value"] (L2.defScope s_is_any_move) := ⟨rfl, rfl, rfl, by decide +kernel, rfl, by decide +kernel, by decide +kernel⟩
/-! cycles_in -/
abbrev s_cycles_in : Stmt := topS 17
/-- 0 move, 1 found, 2 seen, 3 start, 4 ring, 5 place -/
def d_cycles_in : DS :=
  (seqD (parD 1 2 (consD (lstD nilD) (consD dnewKD nilD)))
  (seqD (forD (itRg1 (consD (cbD bLen (consD (varD 0) nilD)) nilD)) (nameG 3) (ifD (testD (bin2 (inA true) (varD 3) (varD 2))) (seqD (parD 4 5 (consD (lstD nilD) (consD (varD 3) nilD)))
  (seqD (whileD (testD (bin2 (inA true) (varD 5) (varD 2))) (seqD (setItD (varD 2) (varD 5) (conD (.bl true)))
  (seqD (dropD (methD "list" mAppend (varD 4) (consD (varD 5) nilD)))
  (setD 5 (bin2 ixA (varD 0) (varD 5))))))
  (dropD (methD "list" mAppend (varD 1) (consD (cbD bTuple (consD (varD 4) nilD)) nilD))))) nextD))
  (retD (varD 1))))
def f_cycles_in : DF := bodyD 1 6 d_cycles_in
theorem sc_cycles_in : L2.FnScope ["move", "found", "seen", "start", "ring", "place"] ["move"] (L2.defScope s_cycles_in) := ⟨rfl, rfl, rfl, by decide +kernel, rfl, by decide +kernel, by decide +kernel⟩
/-! move_text -/
abbrev s_move_text : Stmt := topS 26
/-- 0 move, 1 rings, 2 cycle, 3 place, 4 ring -/
def d_move_text : DS :=
  (seqD (setD 1 (lcD (itSeq (callD 1 f_cycles_in (consD (varD 0) nilD))) (nameG 2) (testD (bin2 (cmpI qgt) (cbD bLen (consD (varD 2) nilD)) (conD (.int 1)))) (methD "str" mJoin (conD (.str " ")) (consD (lcD (itSeq (varD 2)) (nameG 3) yesT (cbD bStr (consD (varD 3) nilD)) [3]) nilD)) [2]))
  (retD (orTD (methD "str" mJoin (conD (.str "")) (consD (lcD (itSeq (varD 1)) (nameG 4) yesT (joinedD [(conD (.str "(")), (un1 fmtA (varD 4)), (conD (.str ")"))]) [4]) nilD)) (conD (.str "()")))))
def f_move_text : DF := bodyD 1 5 d_move_text
theorem sc_move_text : L2.FnScope ["move", "rings", "cycle", "place", "ring"] ["move"] (L2.defScope s_move_text) := ⟨rfl, rfl, rfl, by decide +kernel, rfl, by decide +kernel, by decide +kernel⟩
/-! write_move -/
abbrev s_write_move : Stmt := topS 31
/-- 0 move -/
def d_write_move : DS :=
  (seqD (ifD (notT (testD (callD 1 f_is_any_move (consD (varD 0) nilD)))) neverD nextD)
  (retD (callD 1 f_move_text (consD (varD 0) nilD))))
def f_write_move : DF := bodyD 1 1 d_write_move
theorem sc_write_move : L2.FnScope ["move"] ["move"] (L2.defScope s_write_move) := ⟨rfl, rfl, rfl, by decide +kernel, rfl, by decide +kernel, by decide +kernel⟩
/-! row_text -/
abbrev s_row_text : Stmt := topS 27
/-- 0 row, 1 number -/
def d_row_text : DS :=
  (retD (methD "str" mJoin (conD (.str ",")) (consD (lcD (itSeq (varD 0)) (nameG 1) yesT (cbD bStr (consD (varD 1) nilD)) [1]) nilD)))
def f_row_text : DF := bodyD 1 2 d_row_text
theorem sc_row_text : L2.FnScope ["row", "number"] ["row"] (L2.defScope s_row_text) := ⟨rfl, rfl, rfl, by decide +kernel, rfl, by decide +kernel, by decide +kernel⟩
/-! is_integer -/
abbrev s_is_integer : Stmt := topS 10
/-- 0 value -/
def d_is_integer : DS :=
  (retD (andV (callD 1 f_is_plain (consD (varD 0) nilD)) (chain3 (cmpI qlt) (cmpI qlt) (un1 negA (conD (.int 1000000000000000000000000000000000000000000000000000000000000))) (varD 0) (conD (.int 1000000000000000000000000000000000000000000000000000000000000)))))
def f_is_integer : DF := bodyD 1 1 d_is_integer
theorem sc_is_integer : L2.FnScope ["value"] ["value"] (L2.defScope s_is_integer) := ⟨rfl, rfl, rfl, by decide +kernel, rfl, by decide +kernel, by decide +kernel⟩
/-! are_integers -/
abbrev s_are_integers : Stmt := topS 30
/-- 0 value, 1 one -/
def d_are_integers : DS :=
  (retD (andV (cbD bIsi (consD (varD 0) (consD (conD (.ty "tuple")) nilD))) (andV (chain3 (cmpI qle) (cmpI qle) (conD (.int 1)) (cbD bLen (consD (varD 0) nilD)) (conD (.int 60))) (cbD bAll (consD (lcD (itSeq (varD 0)) (nameG 1) yesT (callD 1 f_is_integer (consD (varD 1) nilD)) [1]) nilD)))))
def f_are_integers : DF := bodyD 1 2 d_are_integers
theorem sc_are_integers : L2.FnScope ["value", "one"] ["value"] (L2.defScope s_are_integers) := ⟨rfl, rfl, rfl, by decide +kernel, rfl, by decide +kernel, by decide +kernel⟩
/-! write_row -/
abbrev s_write_row : Stmt := topS 32
/-- 0 row -/
def d_write_row : DS :=
  (seqD (ifD (notT (testD (callD 1 f_are_integers (consD (varD 0) nilD)))) neverD nextD)
  (retD (callD 1 f_row_text (consD (varD 0) nilD))))
def f_write_row : DF := bodyD 1 1 d_write_row
theorem sc_write_row : L2.FnScope ["row"] ["row"] (L2.defScope s_write_row) := ⟨rfl, rfl, rfl, by decide +kernel, rfl, by decide +kernel, by decide +kernel⟩
/-! term_text -/
abbrev s_term_text : Stmt := topS 28
/-- 0 number, 1 index -/
def d_term_text : DS :=
  (retD (ifE (testD (bin2 (eqA false) (varD 0) (conD (.int 1)))) (joinedD [(conD (.str "[")), (un1 fmtA (varD 1)), (conD (.str "]"))]) (joinedD [(un1 fmtA (varD 0)), (conD (.str "[")), (un1 fmtA (varD 1)), (conD (.str "]"))])))
def f_term_text : DF := bodyD 2 2 d_term_text
theorem sc_term_text : L2.FnScope ["number", "index"] ["number", "index"] (L2.defScope s_term_text) := ⟨rfl, rfl, rfl, by decide +kernel, rfl, by decide +kernel, by decide +kernel⟩
/-! kinds_text -/
abbrev s_kinds_text : Stmt := topS 29
/-- 0 kinds, 1 found, 2 index, 3 number, 4 sign -/
def d_kinds_text : DS :=
  (seqD (setD 1 (conD (.str "")))
  (seqD (forD (itEn (consD (varD 0) nilD)) (tupG 2 (consG (nameG 2) (consG (nameG 3) nilG))) (ifD (testD (bin2 (eqA true) (varD 3) (conD (.int 0)))) (seqD (setD 4 (ifE (testD (bin2 (eqA false) (varD 1) (conD (.str "")))) (ifE (testD (bin2 (cmpI qlt) (varD 3) (conD (.int 0)))) (conD (.str "-")) (conD (.str ""))) (ifE (testD (bin2 (cmpI qlt) (varD 3) (conD (.int 0)))) (conD (.str " - ")) (conD (.str " + ")))))
  (setD 1 (bin2 addA (bin2 addA (varD 1) (varD 4)) (callD 2 f_term_text (consD (cbD bAbs (consD (varD 3) nilD)) (consD (varD 2) nilD)))))) nextD))
  (retD (orTD (varD 1) (conD (.str "0"))))))
def f_kinds_text : DF := bodyD 1 5 d_kinds_text
theorem sc_kinds_text : L2.FnScope ["kinds", "found", "index", "number", "sign"] ["kinds"] (L2.defScope s_kinds_text) := ⟨rfl, rfl, rfl, by decide +kernel, rfl, by decide +kernel, by decide +kernel⟩
/-! write_kinds -/
abbrev s_write_kinds : Stmt := topS 33
/-- 0 kinds -/
def d_write_kinds : DS :=
  (seqD (ifD (notT (testD (callD 1 f_are_integers (consD (varD 0) nilD)))) neverD nextD)
  (retD (callD 1 f_kinds_text (consD (varD 0) nilD))))
def f_write_kinds : DF := bodyD 1 1 d_write_kinds
theorem sc_write_kinds : L2.FnScope ["kinds"] ["kinds"] (L2.defScope s_write_kinds) := ⟨rfl, rfl, rfl, by decide +kernel, rfl, by decide +kernel, by decide +kernel⟩
/-! is_within -/
abbrev s_is_within : Stmt := topS 11
/-- 0 value, 1 low, 2 high -/
def d_is_within : DS :=
  (retD (andV (callD 1 f_is_plain (consD (varD 0) nilD)) (chain3 (cmpI qle) (cmpI qle) (varD 1) (varD 0) (varD 2))))
def f_is_within : DF := bodyD 3 3 d_is_within
theorem sc_is_within : L2.FnScope ["value", "low", "high"] ["value", "low", "high"] (L2.defScope s_is_within) := ⟨rfl, rfl, rfl, by decide +kernel, rfl, by decide +kernel, by decide +kernel⟩
/-! require_within -/
abbrev s_require_within : Stmt := topS 12
/-- 0 value, 1 low, 2 high -/
def d_require_within : DS :=
  (ifD (notT (testD (callD 3 f_is_within (consD (varD 0) (consD (varD 1) (consD (varD 2) nilD)))))) neverD nextD)
def f_require_within : DF := bodyD 3 3 d_require_within
theorem sc_require_within : L2.FnScope ["value", "low", "high"] ["value", "low", "high"] (L2.defScope s_require_within) := ⟨rfl, rfl, rfl, by decide +kernel, rfl, by decide +kernel, by decide +kernel⟩
/-! require_text -/
abbrev s_require_text : Stmt := topS 35
/-- 0 value -/
def d_require_text : DS :=
  (ifD (orT (notT (testD (cbD bIsi (consD (varD 0) (consD (conD (.ty "str")) nilD))))) (testD (bin2 (cmpI qgt) (cbD bLen (consD (varD 0) nilD)) (conD (.int 3000))))) neverD nextD)
def f_require_text : DF := bodyD 1 1 d_require_text
theorem sc_require_text : L2.FnScope ["value"] ["value"] (L2.defScope s_require_text) := ⟨rfl, rfl, rfl, by decide +kernel, rfl, by decide +kernel, by decide +kernel⟩
/-! require_sign -/
abbrev s_require_sign : Stmt := topS 34
/-- 0 text, 1 index, 2 sign -/
def d_require_sign : DS :=
  (seqD (ifD (testD (bin2 (eqA true) (sliceD (varD 0) (someD (varD 1)) (someD (bin2 addA (varD 1) (conD (.int 1))))) (varD 2))) neverD nextD)
  (retD (bin2 addA (varD 1) (conD (.int 1)))))
def f_require_sign : DF := bodyD 3 3 d_require_sign
theorem sc_require_sign : L2.FnScope ["text", "index", "sign"] ["text", "index", "sign"] (L2.defScope s_require_sign) := ⟨rfl, rfl, rfl, by decide +kernel, rfl, by decide +kernel, by decide +kernel⟩
/-! plain_at -/
abbrev s_plain_at : Stmt := topS 36
/-- 0 text, 1 index, 2 end, 3 most -/
def d_plain_at : DS :=
  (seqD (parD 2 3 (consD (varD 1) (consD (bin2 addA (varD 1) (ifE (testD (bin2 (eqA false) (sliceD (varD 0) (someD (varD 1)) (someD (bin2 addA (varD 1) (conD (.int 1))))) (conD (.str "0")))) (conD (.int 1)) (conD (.int 60)))) nilD)))
  (seqD (whileD (andT (testD (bin2 (cmpI qlt) (varD 2) (cbD bMin (consD (cbD bLen (consD (varD 0) nilD)) (consD (varD 3) nilD))))) (testD (bin2 (inA false) (bin2 ixA (varD 0) (varD 2)) (conD (.str "0123456789"))))) (augD 2 (intA addI) (conD (.int 1))))
  (seqD (ifD (testD (bin2 (eqA false) (varD 2) (varD 1))) neverD nextD)
  (retD (tupD (consD (cbD bInt (consD (sliceD (varD 0) (someD (varD 1)) (someD (varD 2))) nilD)) (consD (varD 2) nilD)))))))
def f_plain_at : DF := bodyD 2 4 d_plain_at
theorem sc_plain_at : L2.FnScope ["text", "index", "end", "most"] ["text", "index"] (L2.defScope s_plain_at) := ⟨rfl, rfl, rfl, by decide +kernel, rfl, by decide +kernel, by decide +kernel⟩
/-! cycle_at -/
abbrev s_cycle_at : Stmt := topS 38
/-- 0 text, 1 index, 2 place, 3 found -/
def d_cycle_at : DS :=
  (seqD (asgD (callD 2 f_plain_at (consD (varD 0) (consD (callD 3 f_require_sign (consD (varD 0) (consD (varD 1) (consD (conD (.str "(")) nilD)))) nilD))) (tupG 2 (consG (nameG 2) (consG (nameG 1) nilG))))
  (seqD (setD 3 (lstD (consD (varD 2) nilD)))
  (seqD (whileD (orT (testD (bin2 (cmpI qlt) (cbD bLen (consD (varD 3) nilD)) (conD (.int 2)))) (testD (bin2 (eqA false) (sliceD (varD 0) (someD (varD 1)) (someD (bin2 addA (varD 1) (conD (.int 1))))) (conD (.str " "))))) (seqD (asgD (callD 2 f_plain_at (consD (varD 0) (consD (callD 3 f_require_sign (consD (varD 0) (consD (varD 1) (consD (conD (.str " ")) nilD)))) nilD))) (tupG 2 (consG (nameG 2) (consG (nameG 1) nilG))))
  (dropD (methD "list" mAppend (varD 3) (consD (varD 2) nilD)))))
  (retD (tupD (consD (cbD bTuple (consD (varD 3) nilD)) (consD (callD 3 f_require_sign (consD (varD 0) (consD (varD 1) (consD (conD (.str ")")) nilD)))) nilD)))))))
def f_cycle_at : DF := bodyD 2 4 d_cycle_at
theorem sc_cycle_at : L2.FnScope ["text", "index", "place", "found"] ["text", "index"] (L2.defScope s_cycle_at) := ⟨rfl, rfl, rfl, by decide +kernel, rfl, by decide +kernel, by decide +kernel⟩
/-! cycles_at -/
abbrev s_cycles_at : Stmt := topS 39
/-- 0 text, 1 index, 2 cycle, 3 found -/
def d_cycles_at : DS :=
  (seqD (ifD (testD (bin2 (eqA false) (sliceD (varD 0) (someD (varD 1)) (someD (bin2 addA (varD 1) (conD (.int 2))))) (conD (.str "()")))) (retD (tupD (consD (lstD nilD) (consD (bin2 addA (varD 1) (conD (.int 2))) nilD)))) nextD)
  (seqD (asgD (callD 2 f_cycle_at (consD (varD 0) (consD (varD 1) nilD))) (tupG 2 (consG (nameG 2) (consG (nameG 1) nilG))))
  (seqD (setD 3 (lstD (consD (varD 2) nilD)))
  (seqD (whileD (testD (bin2 (eqA false) (sliceD (varD 0) (someD (varD 1)) (someD (bin2 addA (varD 1) (conD (.int 1))))) (conD (.str "(")))) (seqD (asgD (callD 2 f_cycle_at (consD (varD 0) (consD (varD 1) nilD))) (tupG 2 (consG (nameG 2) (consG (nameG 1) nilG))))
  (dropD (methD "list" mAppend (varD 3) (consD (varD 2) nilD)))))
  (retD (tupD (consD (varD 3) (consD (varD 1) nilD))))))))
def f_cycles_at : DF := bodyD 2 4 d_cycles_at
theorem sc_cycles_at : L2.FnScope ["text", "index", "cycle", "found"] ["text", "index"] (L2.defScope s_cycles_at) := ⟨rfl, rfl, rfl, by decide +kernel, rfl, by decide +kernel, by decide +kernel⟩
/-! require_end -/
abbrev s_require_end : Stmt := topS 40
/-- 0 text, 1 index -/
def d_require_end : DS :=
  (ifD (testD (bin2 (cmpI qlt) (varD 1) (cbD bLen (consD (varD 0) nilD)))) neverD nextD)
def f_require_end : DF := bodyD 2 2 d_require_end
theorem sc_require_end : L2.FnScope ["text", "index"] ["text", "index"] (L2.defScope s_require_end) := ⟨rfl, rfl, rfl, by decide +kernel, rfl, by decide +kernel, by decide +kernel⟩
/-! move_told -/
abbrev s_move_told : Stmt := topS 41
/-- 0 places, 1 cycles, 2 told, 3 found, 4 cycle, 5 at, 6 place -/
def d_move_told : DS :=
  (seqD (setD 2 (lc2D (itSeq (varD 1)) (nameG 4) yesT (itSeq (varD 4)) [6] (nameG 6) yesT (varD 6) [4, 6]))
  (seqD (ifD (orT (testD (bin2 (cmpI qlt) (cbD bLen (consD (dcD (itSeq (varD 2)) (nameG 6) yesT (varD 6) (conD (.bl true)) [6]) nilD)) (cbD bLen (consD (varD 2) nilD)))) (testD (bin2 (cmpI qge) (maxKD (consD (varD 2) nilD) 0) (varD 0)))) neverD nextD)
  (seqD (setD 3 (lstRg (rg1 (varD 0))))
  (seqD (forD (itSeq (varD 1)) (nameG 4) (forD (itEn (consD (varD 4) nilD)) (tupG 2 (consG (nameG 5) (consG (nameG 6) nilG))) (setItD (varD 3) (varD 6) (bin2 ixA (varD 4) (bin2 (intA modI) (bin2 addA (varD 5) (conD (.int 1))) (cbD bLen (consD (varD 4) nilD)))))))
  (retD (cbD bTuple (consD (varD 3) nilD)))))))
def f_move_told : DF := bodyD 2 7 d_move_told
theorem sc_move_told : L2.FnScope ["places", "cycles", "told", "found", "cycle", "at", "place"] ["places", "cycles"] (L2.defScope s_move_told) := ⟨rfl, rfl, rfl, by decide +kernel, rfl, by decide +kernel, by decide +kernel⟩
/-! read_move -/
abbrev s_read_move : Stmt := topS 42
/-- 0 text, 1 places, 2 cycles, 3 index -/
def d_read_move : DS :=
  (seqD (dropD (callD 1 f_require_text (consD (varD 0) nilD)))
  (seqD (dropD (callD 3 f_require_within (consD (varD 1) (consD (conD (.int 1)) (consD (conD (.int 24)) nilD)))))
  (seqD (asgD (callD 2 f_cycles_at (consD (varD 0) (consD (conD (.int 0)) nilD))) (tupG 2 (consG (nameG 2) (consG (nameG 3) nilG))))
  (seqD (dropD (callD 2 f_require_end (consD (varD 0) (consD (varD 3) nilD))))
  (retD (callD 2 f_move_told (consD (varD 1) (consD (varD 2) nilD))))))))
def f_read_move : DF := bodyD 2 4 d_read_move
theorem sc_read_move : L2.FnScope ["text", "places", "cycles", "index"] ["text", "places"] (L2.defScope s_read_move) := ⟨rfl, rfl, rfl, by decide +kernel, rfl, by decide +kernel, by decide +kernel⟩
/-! signed_at -/
abbrev s_signed_at : Stmt := topS 37
/-- 0 text, 1 index, 2 number, 3 end -/
def d_signed_at : DS :=
  (seqD (ifD (testD (bin2 (eqA true) (sliceD (varD 0) (someD (varD 1)) (someD (bin2 addA (varD 1) (conD (.int 1))))) (conD (.str "-")))) (retD (callD 2 f_plain_at (consD (varD 0) (consD (varD 1) nilD)))) nextD)
  (seqD (ifD (testD (bin2 (eqA false) (sliceD (varD 0) (someD (bin2 addA (varD 1) (conD (.int 1)))) (someD (bin2 addA (varD 1) (conD (.int 2))))) (conD (.str "0")))) neverD nextD)
  (seqD (asgD (callD 2 f_plain_at (consD (varD 0) (consD (bin2 addA (varD 1) (conD (.int 1))) nilD))) (tupG 2 (consG (nameG 2) (consG (nameG 3) nilG))))
  (retD (tupD (consD (un1 negA (varD 2)) (consD (varD 3) nilD)))))))
def f_signed_at : DF := bodyD 2 4 d_signed_at
theorem sc_signed_at : L2.FnScope ["text", "index", "number", "end"] ["text", "index"] (L2.defScope s_signed_at) := ⟨rfl, rfl, rfl, by decide +kernel, rfl, by decide +kernel, by decide +kernel⟩
/-! read_row -/
abbrev s_read_row : Stmt := topS 43
/-- 0 text, 1 number, 2 index, 3 found -/
def d_read_row : DS :=
  (seqD (dropD (callD 1 f_require_text (consD (varD 0) nilD)))
  (seqD (asgD (callD 2 f_signed_at (consD (varD 0) (consD (conD (.int 0)) nilD))) (tupG 2 (consG (nameG 1) (consG (nameG 2) nilG))))
  (seqD (setD 3 (lstD (consD (varD 1) nilD)))
  (seqD (whileD (testD (bin2 (eqA false) (sliceD (varD 0) (someD (varD 2)) (someD (bin2 addA (varD 2) (conD (.int 1))))) (conD (.str ",")))) (seqD (asgD (callD 2 f_signed_at (consD (varD 0) (consD (bin2 addA (varD 2) (conD (.int 1))) nilD))) (tupG 2 (consG (nameG 1) (consG (nameG 2) nilG))))
  (dropD (methD "list" mAppend (varD 3) (consD (varD 1) nilD)))))
  (seqD (dropD (callD 2 f_require_end (consD (varD 0) (consD (varD 2) nilD))))
  (seqD (ifD (testD (bin2 (cmpI qgt) (cbD bLen (consD (varD 3) nilD)) (conD (.int 60)))) neverD nextD)
  (retD (cbD bTuple (consD (varD 3) nilD)))))))))
def f_read_row : DF := bodyD 1 4 d_read_row
theorem sc_read_row : L2.FnScope ["text", "number", "index", "found"] ["text"] (L2.defScope s_read_row) := ⟨rfl, rfl, rfl, by decide +kernel, rfl, by decide +kernel, by decide +kernel⟩
/-! term_at -/
abbrev s_term_at : Stmt := topS 44
/-- 0 text, 1 index, 2 number, 3 place -/
def d_term_at : DS :=
  (seqD (setD 2 (conD (.int 1)))
  (seqD (ifD (testD (bin2 (eqA true) (sliceD (varD 0) (someD (varD 1)) (someD (bin2 addA (varD 1) (conD (.int 1))))) (conD (.str "[")))) (asgD (callD 2 f_plain_at (consD (varD 0) (consD (varD 1) nilD))) (tupG 2 (consG (nameG 2) (consG (nameG 1) nilG)))) nextD)
  (seqD (asgD (callD 2 f_plain_at (consD (varD 0) (consD (callD 3 f_require_sign (consD (varD 0) (consD (varD 1) (consD (conD (.str "[")) nilD)))) nilD))) (tupG 2 (consG (nameG 3) (consG (nameG 1) nilG))))
  (retD (tupD (consD (tupD (consD (varD 2) (consD (varD 3) nilD))) (consD (callD 3 f_require_sign (consD (varD 0) (consD (varD 1) (consD (conD (.str "]")) nilD)))) nilD)))))))
def f_term_at : DF := bodyD 2 4 d_term_at
theorem sc_term_at : L2.FnScope ["text", "index", "number", "place"] ["text", "index"] (L2.defScope s_term_at) := ⟨rfl, rfl, rfl, by decide +kernel, rfl, by decide +kernel, by decide +kernel⟩
/-! terms_at -/
abbrev s_terms_at : Stmt := topS 45
/-- 0 text, 1 sign, 2 index, 3 number, 4 place, 5 found -/
def d_terms_at : DS :=
  (seqD (asgD (ifE (testD (bin2 (eqA false) (sliceD (varD 0) noneD (someD (conD (.int 1)))) (conD (.str "-")))) (tupD (consD (un1 negA (conD (.int 1))) (consD (conD (.int 1)) nilD))) (tupD (consD (conD (.int 1)) (consD (conD (.int 0)) nilD)))) (tupG 2 (consG (nameG 1) (consG (nameG 2) nilG))))
  (seqD (ifD (testD (bin2 (eqA false) (sliceD (varD 0) noneD (someD (conD (.int 2)))) (conD (.str "-0")))) neverD nextD)
  (seqD (asgD (callD 2 f_term_at (consD (varD 0) (consD (varD 2) nilD))) (tupG 2 (consG (tupG 2 (consG (nameG 3) (consG (nameG 4) nilG))) (consG (nameG 2) nilG))))
  (seqD (setD 5 (lstD (consD (tupD (consD (bin2 mulA (varD 1) (varD 3)) (consD (varD 4) nilD))) nilD)))
  (seqD (whileD (testD (bin2 (cmpI qlt) (varD 2) (cbD bLen (consD (varD 0) nilD)))) (seqD (setD 2 (callD 3 f_require_sign (consD (varD 0) (consD (varD 2) (consD (conD (.str " ")) nilD)))))
  (seqD (ifD (testD (bin2 (inA true) (sliceD (varD 0) (someD (varD 2)) (someD (bin2 addA (varD 2) (conD (.int 1))))) (tupD (consD (conD (.str "+")) (consD (conD (.str "-")) nilD))))) neverD nextD)
  (seqD (setD 1 (ifE (testD (bin2 (eqA false) (bin2 ixA (varD 0) (varD 2)) (conD (.str "+")))) (conD (.int 1)) (un1 negA (conD (.int 1)))))
  (seqD (asgD (callD 2 f_term_at (consD (varD 0) (consD (callD 3 f_require_sign (consD (varD 0) (consD (bin2 addA (varD 2) (conD (.int 1))) (consD (conD (.str " ")) nilD)))) nilD))) (tupG 2 (consG (tupG 2 (consG (nameG 3) (consG (nameG 4) nilG))) (consG (nameG 2) nilG))))
  (dropD (methD "list" mAppend (varD 5) (consD (tupD (consD (bin2 mulA (varD 1) (varD 3)) (consD (varD 4) nilD))) nilD))))))))
  (retD (varD 5)))))))
def f_terms_at : DF := bodyD 1 6 d_terms_at
theorem sc_terms_at : L2.FnScope ["text", "sign", "index", "number", "place", "found"] ["text"] (L2.defScope s_terms_at) := ⟨rfl, rfl, rfl, by decide +kernel, rfl, by decide +kernel, by decide +kernel⟩
/-! read_kinds -/
abbrev s_read_kinds : Stmt := topS 46
/-- 0 text, 1 length, 2 terms, 3 found, 4 number, 5 place -/
def d_read_kinds : DS :=
  (seqD (dropD (callD 1 f_require_text (consD (varD 0) nilD)))
  (seqD (dropD (callD 3 f_require_within (consD (varD 1) (consD (conD (.int 1)) (consD (conD (.int 60)) nilD)))))
  (seqD (setD 2 (ifE (testD (bin2 (eqA false) (varD 0) (conD (.str "0")))) (lstD nilD) (callD 1 f_terms_at (consD (varD 0) nilD))))
  (seqD (ifD (testD (cbD bAny (consD (lcD (itSeq (varD 2)) (tupG 2 (consG (nameG 4) (consG (nameG 5) nilG))) yesT (bin2 (cmpI qge) (varD 5) (varD 1)) [4, 5]) nilD))) neverD nextD)
  (seqD (setD 3 (bin2 mulA (lstD (consD (conD (.int 0)) nilD)) (varD 1)))
  (seqD (forD (itSeq (varD 2)) (tupG 2 (consG (nameG 4) (consG (nameG 5) nilG))) (augItD (varD 3) (varD 5) (varD 4)))
  (seqD (ifD (notT (testD (callD 1 f_are_integers (consD (cbD bTuple (consD (varD 3) nilD)) nilD)))) neverD nextD)
  (retD (cbD bTuple (consD (varD 3) nilD))))))))))
def f_read_kinds : DF := bodyD 2 6 d_read_kinds
theorem sc_read_kinds : L2.FnScope ["text", "length", "terms", "found", "number", "place"] ["text", "length"] (L2.defScope s_read_kinds) := ⟨rfl, rfl, rfl, by decide +kernel, rfl, by decide +kernel, by decide +kernel⟩
/-! _law_bag -/
abbrev s__law_bag : Stmt := topS 48
/-- 0 _law_script, 1 _law_spot, 2 _law_cell, 3 _law_great, 4 _law_mixed_here -/
def d__law_bag : DS :=
  (seqD (setD 2 (ifE (testD (bin2 (cmpI qlt) (varD 1) (cbD bLen (consD (varD 0) nilD)))) (bin2 ixA (varD 0) (varD 1)) (bin2 addA (bin2 addA (cbD bSum (consD (sliceD (varD 0) noneD (someD (conD (.int 1)))) nilD)) (bin2 mulA (conD (.int 151)) (varD 1))) (conD (.int 89)))))
  (seqD (setD 3 (bin2 (intA modI) (cbD bInt (consD (cbD bAbs (consD (varD 2) nilD)) nilD)) (bin2 (intA powI) (bin2 (intA powI) (conD (.int 10)) (conD (.int 45))) (conD (.int 13)))))
  (seqD (setD 4 (bin2 addA (bin2 addA (bin2 addA (bin2 mulA (bin2 (intA modI) (cbD bInt (consD (varD 3) nilD)) (conD (.int 2305843009213693723))) (conD (.int 1000457))) (bin2 mulA (conD (.int 9029)) (varD 1))) (bin2 mulA (conD (.int 53)) (cbD bInt (consD (bin2 (cmpI qlt) (varD 2) (conD (.int 0))) nilD)))) (conD (.int 37))))
  (retD (lstD (consD (cbD bMax (consD (conD (.int 0)) (consD (bin2 (intA subI) (varD 3) (bin2 (intA powI) (conD (.int 10)) (conD (.int 18)))) nilD))) (consD (bin2 (intA modI) (cbD bInt (consD (varD 4) nilD)) (conD (.int 2305843009213693951))) (consD (conD (.int 0)) nilD))))))))
def f__law_bag : DF := bodyD 2 5 d__law_bag
theorem sc__law_bag : L2.FnScope ["_law_script", "_law_spot", "_law_cell", "_law_great", "_law_mixed_here"] ["_law_script", "_law_spot"] (L2.defScope s__law_bag) := ⟨rfl, rfl, rfl, by decide +kernel, rfl, by decide +kernel, by decide +kernel⟩
/-! _law_grab -/
abbrev s__law_grab : Stmt := topS 49
/-- 0 _law_bag_here, 1 _law_total, 2 _law_found, 3 _law_one, 4 _law_two -/
def d__law_grab : DS :=
  (seqD (ifD (testD (bin2 (cmpI qgt) (bin2 ixA (varD 0) (conD (.int 0))) (conD (.int 0)))) (seqD (setD 2 (bin2 (intA modI) (cbD bInt (consD (bin2 ixA (varD 0) (conD (.int 0))) nilD)) (varD 1)))
  (seqD (setItD (varD 0) (conD (.int 0)) (bin2 (intA divI) (bin2 ixA (varD 0) (conD (.int 0))) (varD 1)))
  (retD (varD 2)))) nextD)
  (seqD (setItD (varD 0) (conD (.int 2)) (bin2 addA (bin2 ixA (varD 0) (conD (.int 2))) (conD (.int 1))))
  (seqD (setD 3 (bin2 (intA modI) (cbD bInt (consD (bin2 addA (bin2 ixA (varD 0) (conD (.int 1))) (bin2 mulA (conD (.int 1048637)) (bin2 ixA (varD 0) (conD (.int 2))))) nilD)) (conD (.int 2305843009213693951))))
  (seqD (setD 4 (bin2 addA (bin2 mulA (bin2 (intA modI) (cbD bInt (consD (bin2 mulA (varD 3) (varD 3)) nilD)) (conD (.int 2305843009213693723))) (varD 3)) (bin2 mulA (conD (.int 8161)) (bin2 ixA (varD 0) (conD (.int 2))))))
  (retD (bin2 (intA modI) (cbD bInt (consD (bin2 (intA divI) (bin2 (intA modI) (cbD bInt (consD (varD 4) nilD)) (conD (.int 2305843009213693921))) (conD (.int 16384))) nilD)) (varD 1)))))))
def f__law_grab : DF := bodyD 2 5 d__law_grab
theorem sc__law_grab : L2.FnScope ["_law_bag_here", "_law_total", "_law_found", "_law_one", "_law_two"] ["_law_bag_here", "_law_total"] (L2.defScope s__law_grab) := ⟨rfl, rfl, rfl, by decide +kernel, rfl, by decide +kernel, by decide +kernel⟩
/-! _law_one_of -/
abbrev s__law_one_of : Stmt := topS 50
/-- 0 _law_bag_here, 1 _law_items -/
def d__law_one_of : DS :=
  (retD (bin2 ixA (varD 1) (callD 2 f__law_grab (consD (varD 0) (consD (cbD bLen (consD (varD 1) nilD)) nilD)))))
def f__law_one_of : DF := bodyD 2 2 d__law_one_of
theorem sc__law_one_of : L2.FnScope ["_law_bag_here", "_law_items"] ["_law_bag_here", "_law_items"] (L2.defScope s__law_one_of) := ⟨rfl, rfl, rfl, by decide +kernel, rfl, by decide +kernel, by decide +kernel⟩
/-! _law_mixed -/
abbrev s__law_mixed : Stmt := topS 51
/-- 0 _law_bag_here, 1 _law_items, 2 _law_waits, 3 _law_turn -/
def d__law_mixed : DS :=
  (seqD (setD 2 (cbD bList (consD (varD 1) nilD)))
  (retD (lcD (itRg1 (consD (cbD bLen (consD (varD 1) nilD)) nilD)) (nameG 3) yesT (methD "list" mPopAt (varD 2) (consD (callD 2 f__law_grab (consD (varD 0) (consD (cbD bLen (consD (varD 2) nilD)) nilD))) nilD)) [3])))
def f__law_mixed : DF := bodyD 2 4 d__law_mixed
theorem sc__law_mixed : L2.FnScope ["_law_bag_here", "_law_items", "_law_waits", "_law_turn"] ["_law_bag_here", "_law_items"] (L2.defScope s__law_mixed) := ⟨rfl, rfl, rfl, by decide +kernel, rfl, by decide +kernel, by decide +kernel⟩
/-! _law_cycles -/
abbrev s__law_cycles : Stmt := topS 52
/-- 0 _law_move, 1 _law_found, 2 _law_known, 3 _law_start, 4 _law_ring, 5 _law_place -/
def d__law_cycles : DS :=
  (seqD (parD 1 2 (consD (lstD nilD) (consD (lstD nilD) nilD)))
  (seqD (forD (itRg1 (consD (cbD bLen (consD (varD 0) nilD)) nilD)) (nameG 3) (ifD (testD (bin2 (inA true) (varD 3) (varD 2))) (seqD (parD 4 5 (consD (lstD (consD (varD 3) nilD)) (consD (bin2 ixA (varD 0) (varD 3)) nilD)))
  (seqD (whileD (testD (bin2 (eqA true) (varD 5) (varD 3))) (seqD (dropD (methD "list" mAppend (varD 4) (consD (varD 5) nilD)))
  (setD 5 (bin2 ixA (varD 0) (varD 5)))))
  (seqD (setD 2 (bin2 addA (varD 2) (varD 4)))
  (dropD (methD "list" mAppend (varD 1) (consD (cbD bTuple (consD (varD 4) nilD)) nilD)))))) nextD))
  (retD (varD 1))))
def f__law_cycles : DF := bodyD 1 6 d__law_cycles
theorem sc__law_cycles : L2.FnScope ["_law_move", "_law_found", "_law_known", "_law_start", "_law_ring", "_law_place"] ["_law_move"] (L2.defScope s__law_cycles) := ⟨rfl, rfl, rfl, by decide +kernel, rfl, by decide +kernel, by decide +kernel⟩
/-! _law_power -/
abbrev s__law_power : Stmt := topS 53
/-- 0 _law_move, 1 _law_number_here, 2 _law_found, 3 _law_ring, 4 _law_at, 5 _law_place -/
def d__law_power : DS :=
  (seqD (setD 2 (cbD bList (consD (varD 0) nilD)))
  (seqD (forD (itSeq (callD 1 f__law_cycles (consD (varD 0) nilD))) (nameG 3) (forD (itEn (consD (varD 3) nilD)) (tupG 2 (consG (nameG 4) (consG (nameG 5) nilG))) (setItD (varD 2) (varD 5) (bin2 ixA (varD 3) (bin2 (intA modI) (cbD bInt (consD (bin2 addA (varD 4) (varD 1)) nilD)) (cbD bLen (consD (varD 3) nilD)))))))
  (retD (cbD bTuple (consD (varD 2) nilD)))))
def f__law_power : DF := bodyD 2 6 d__law_power
theorem sc__law_power : L2.FnScope ["_law_move", "_law_number_here", "_law_found", "_law_ring", "_law_at", "_law_place"] ["_law_move", "_law_number_here"] (L2.defScope s__law_power) := ⟨rfl, rfl, rfl, by decide +kernel, rfl, by decide +kernel, by decide +kernel⟩
/-! _law_move_drawn -/
abbrev s__law_move_drawn : Stmt := topS 54
/-- 0 _law_bag_here, 1 _law_places, 2 _law_left, 3 _law_found, 4 _law_turn -/
def d__law_move_drawn : DS :=
  (seqD (parD 2 3 (consD (lstRg (rg1 (varD 1))) (consD (lstD nilD) nilD)))
  (seqD (forD (itRg1 (consD (varD 1) nilD)) (nameG 4) (dropD (methD "list" mAppend (varD 3) (consD (methD "list" mPopAt (varD 2) (consD (callD 2 f__law_grab (consD (varD 0) (consD (cbD bLen (consD (varD 2) nilD)) nilD))) nilD)) nilD))))
  (retD (cbD bTuple (consD (varD 3) nilD)))))
def f__law_move_drawn : DF := bodyD 2 5 d__law_move_drawn
theorem sc__law_move_drawn : L2.FnScope ["_law_bag_here", "_law_places", "_law_left", "_law_found", "_law_turn"] ["_law_bag_here", "_law_places"] (L2.defScope s__law_move_drawn) := ⟨rfl, rfl, rfl, by decide +kernel, rfl, by decide +kernel, by decide +kernel⟩
/-! _law_move_text -/
abbrev s__law_move_text : Stmt := topS 55
/-- 0 _law_move, 1 _law_rings, 2 _law_ring, 3 _law_place -/
def d__law_move_text : DS :=
  (seqD (setD 1 (lcD (itSeq (callD 1 f__law_cycles (consD (varD 0) nilD))) (nameG 2) (testD (bin2 (cmpI qgt) (cbD bLen (consD (varD 2) nilD)) (conD (.int 1)))) (varD 2) [2]))
  (retD (ifE (testD (bin2 (eqA true) (varD 1) (lstD nilD))) (methD "str" mJoin (conD (.str "")) (consD (lcD (itSeq (varD 1)) (nameG 2) yesT (bin2 addA (bin2 addA (conD (.str "(")) (methD "str" mJoin (conD (.str " ")) (consD (lcD (itSeq (varD 2)) (nameG 3) yesT (cbD bStr (consD (varD 3) nilD)) [3]) nilD))) (conD (.str ")"))) [2]) nilD)) (conD (.str "()")))))
def f__law_move_text : DF := bodyD 1 4 d__law_move_text
theorem sc__law_move_text : L2.FnScope ["_law_move", "_law_rings", "_law_ring", "_law_place"] ["_law_move"] (L2.defScope s__law_move_text) := ⟨rfl, rfl, rfl, by decide +kernel, rfl, by decide +kernel, by decide +kernel⟩
/-! _law_moves_right -/
abbrev s__law_moves_right : Stmt := topS 58
/-- 0 _law_bag_here, 1 _law_places, 2 _law_move, 3 _law_text, 4 _law_rings, 5 _law_parts, 6 _law_ring, 7 _law_cut, 8 _law_other, 9 _law_wide, 10 _law_place -/
def d__law_moves_right : DS :=
  (seqD (setD 1 (bin2 addA (conD (.int 1)) (callD 2 f__law_grab (consD (varD 0) (consD (conD (.int 24)) nilD)))))
  (seqD (setD 2 (callD 2 f__law_move_drawn (consD (varD 0) (consD (varD 1) nilD))))
  (seqD (ifD (testD (bin2 (eqA false) (callD 2 f__law_grab (consD (varD 0) (consD (conD (.int 3)) nilD))) (conD (.int 0)))) (setD 2 (callD 2 f__law_power (consD (varD 2) (consD (callD 2 f__law_one_of (consD (varD 0) (consD (lstD (consD (conD (.int 0)) (consD (conD (.int 2)) (consD (conD (.int 3)) (consD (conD (.int 6)) nilD))))) nilD))) nilD)))) nextD)
  (seqD (setD 3 (callD 1 f__law_move_text (consD (varD 2) nilD)))
  (seqD (ifD (orT (testD (bin2 (eqA true) (callD 1 f_write_move (consD (varD 2) nilD)) (varD 3))) (testD (bin2 (eqA true) (callD 2 f_read_move (consD (varD 3) (consD (varD 1) nilD))) (varD 2)))) (retD (conD (.bl false))) nextD)
  (seqD (setD 4 (callD 2 f__law_mixed (consD (varD 0) (consD (lcD (itSeq (callD 1 f__law_cycles (consD (varD 2) nilD))) (nameG 6) (testD (bin2 (cmpI qgt) (cbD bLen (consD (varD 6) nilD)) (conD (.int 1)))) (varD 6) [6]) nilD))))
  (seqD (setD 5 (lstD nilD))
  (seqD (forD (itSeq (varD 4)) (nameG 6) (seqD (setD 7 (callD 2 f__law_grab (consD (varD 0) (consD (cbD bLen (consD (varD 6) nilD)) nilD))))
  (dropD (methD "list" mAppend (varD 5) (consD (bin2 addA (bin2 addA (conD (.str "(")) (methD "str" mJoin (conD (.str " ")) (consD (lcD (itSeq (bin2 addA (sliceD (varD 6) (someD (varD 7)) noneD) (sliceD (varD 6) noneD (someD (varD 7))))) (nameG 10) yesT (cbD bStr (consD (varD 10) nilD)) [10]) nilD))) (conD (.str ")"))) nilD)))))
  (seqD (setD 8 (ifE (testD (bin2 (eqA true) (varD 5) (lstD nilD))) (methD "str" mJoin (conD (.str "")) (consD (varD 5) nilD)) (conD (.str "()"))))
  (seqD (setD 9 (bin2 addA (varD 1) (callD 2 f__law_grab (consD (varD 0) (consD (bin2 (intA subI) (conD (.int 25)) (varD 1)) nilD)))))
  (retD (andV (bin2 (eqA false) (callD 2 f_read_move (consD (varD 8) (consD (varD 1) nilD))) (varD 2)) (bin2 (eqA false) (callD 2 f_read_move (consD (varD 8) (consD (varD 9) nilD))) (bin2 addA (varD 2) (tupRg (rg2 (varD 1) (varD 9)))))))))))))))))
def f__law_moves_right : DF := bodyD 1 11 d__law_moves_right
theorem sc__law_moves_right : L2.FnScope ["_law_bag_here", "_law_places", "_law_move", "_law_text", "_law_rings", "_law_parts", "_law_ring", "_law_cut", "_law_other", "_law_wide", "_law_place"] ["_law_bag_here"] (L2.defScope s__law_moves_right) := ⟨rfl, rfl, rfl, by decide +kernel, rfl, by decide +kernel, by decide +kernel⟩
/-! _law_number -/
abbrev s__law_number : Stmt := topS 57
/-- 0 _law_bag_here, 1 _law_way -/
def d__law_number : DS :=
  (seqD (setD 1 (callD 2 f__law_grab (consD (varD 0) (consD (conD (.int 6)) nilD))))
  (seqD (ifD (testD (bin2 (eqA false) (varD 1) (conD (.int 0)))) (retD (bin2 addA (bin2 (intA subI) (callD 2 f__law_grab (consD (varD 0) (consD (bin2 (intA subI) (bin2 mulA (conD (.int 2)) (bin2 (intA powI) (conD (.int 10)) (conD (.int 60)))) (conD (.int 1))) nilD))) (bin2 (intA powI) (conD (.int 10)) (conD (.int 60)))) (conD (.int 1)))) nextD)
  (retD (callD 2 f__law_one_of (consD (varD 0) (consD (lstD (consD (conD (.int 0)) (consD (conD (.int 0)) (consD (conD (.int 1)) (consD (un1 negA (conD (.int 1))) (consD (conD (.int 2)) (consD (un1 negA (conD (.int 10))) (consD (bin2 (intA subI) (callD 2 f__law_grab (consD (varD 0) (consD (conD (.int 2001)) nilD))) (conD (.int 1000))) nilD)))))))) nilD))))))
def f__law_number : DF := bodyD 1 2 d__law_number
theorem sc__law_number : L2.FnScope ["_law_bag_here", "_law_way"] ["_law_bag_here"] (L2.defScope s__law_number) := ⟨rfl, rfl, rfl, by decide +kernel, rfl, by decide +kernel, by decide +kernel⟩
/-! _law_rows_right -/
abbrev s__law_rows_right : Stmt := topS 59
/-- 0 _law_bag_here, 1 _law_row, 2 _law_text, 3 _law_turn, 4 _law_number_here -/
def d__law_rows_right : DS :=
  (seqD (setD 1 (cbD bTuple (consD (lcD (itRg1 (consD (bin2 addA (conD (.int 1)) (callD 2 f__law_one_of (consD (varD 0) (consD (lstD (consD (callD 2 f__law_grab (consD (varD 0) (consD (conD (.int 12)) nilD))) (consD (callD 2 f__law_grab (consD (varD 0) (consD (conD (.int 48)) nilD))) nilD))) nilD)))) nilD)) (nameG 3) yesT (callD 1 f__law_number (consD (varD 0) nilD)) [3]) nilD)))
  (seqD (setD 2 (methD "str" mJoin (conD (.str ",")) (consD (lcD (itSeq (varD 1)) (nameG 4) yesT (cbD bStr (consD (varD 4) nilD)) [4]) nilD)))
  (retD (andV (bin2 (eqA false) (callD 1 f_write_row (consD (varD 1) nilD)) (varD 2)) (bin2 (eqA false) (callD 1 f_read_row (consD (varD 2) nilD)) (varD 1))))))
def f__law_rows_right : DF := bodyD 1 5 d__law_rows_right
theorem sc__law_rows_right : L2.FnScope ["_law_bag_here", "_law_row", "_law_text", "_law_turn", "_law_number_here"] ["_law_bag_here"] (L2.defScope s__law_rows_right) := ⟨rfl, rfl, rfl, by decide +kernel, rfl, by decide +kernel, by decide +kernel⟩
/-! _law_kinds_text -/
abbrev s__law_kinds_text : Stmt := topS 56
/-- 0 _law_kinds, 1 _law_found, 2 _law_index, 3 _law_number_here, 4 _law_size, 5 _law_lead -/
def d__law_kinds_text : DS :=
  (seqD (setD 1 (conD (.str "")))
  (seqD (forD (itEn (consD (varD 0) nilD)) (tupG 2 (consG (nameG 2) (consG (nameG 3) nilG))) (ifD (testD (bin2 (eqA true) (varD 3) (conD (.int 0)))) (seqD (setD 4 (ifE (testD (bin2 (eqA false) (cbD bAbs (consD (varD 3) nilD)) (conD (.int 1)))) (conD (.str "")) (cbD bStr (consD (cbD bAbs (consD (varD 3) nilD)) nilD))))
  (seqD (setD 5 (ifE (testD (bin2 (cmpI qlt) (varD 3) (conD (.int 0)))) (conD (.str "-")) (conD (.str ""))))
  (seqD (ifD (testD (bin2 (eqA true) (varD 1) (conD (.str "")))) (setD 5 (ifE (testD (bin2 (cmpI qlt) (varD 3) (conD (.int 0)))) (conD (.str " - ")) (conD (.str " + ")))) nextD)
  (setD 1 (bin2 addA (bin2 addA (bin2 addA (bin2 addA (bin2 addA (varD 1) (varD 5)) (varD 4)) (conD (.str "["))) (cbD bStr (consD (varD 2) nilD))) (conD (.str "]"))))))) nextD))
  (retD (ifE (testD (bin2 (eqA true) (varD 1) (conD (.str "")))) (varD 1) (conD (.str "0"))))))
def f__law_kinds_text : DF := bodyD 1 6 d__law_kinds_text
theorem sc__law_kinds_text : L2.FnScope ["_law_kinds", "_law_found", "_law_index", "_law_number_here", "_law_size", "_law_lead"] ["_law_kinds"] (L2.defScope s__law_kinds_text) := ⟨rfl, rfl, rfl, by decide +kernel, rfl, by decide +kernel, by decide +kernel⟩
/-! _law_terms_text -/
abbrev s__law_terms_text : Stmt := topS 60
/-- 0 _law_bag_here, 1 _law_terms, 2 _law_found, 3 _law_number_here, 4 _law_index, 5 _law_size, 6 _law_lead -/
def d__law_terms_text : DS :=
  (seqD (setD 2 (conD (.str "")))
  (seqD (forD (itSeq (varD 1)) (tupG 2 (consG (nameG 3) (consG (nameG 4) nilG))) (seqD (setD 5 (cbD bStr (consD (cbD bAbs (consD (varD 3) nilD)) nilD)))
  (seqD (ifD (andT (testD (bin2 (eqA false) (cbD bAbs (consD (varD 3) nilD)) (conD (.int 1)))) (testD (bin2 (eqA false) (callD 2 f__law_grab (consD (varD 0) (consD (conD (.int 2)) nilD))) (conD (.int 0))))) (setD 5 (conD (.str ""))) nextD)
  (seqD (setD 6 (ifE (testD (bin2 (cmpI qlt) (varD 3) (conD (.int 0)))) (conD (.str "-")) (conD (.str ""))))
  (seqD (ifD (testD (bin2 (eqA true) (varD 2) (conD (.str "")))) (setD 6 (ifE (orT (testD (bin2 (cmpI qlt) (varD 3) (conD (.int 0)))) (andT (testD (bin2 (eqA false) (varD 3) (conD (.int 0)))) (testD (bin2 (eqA false) (callD 2 f__law_grab (consD (varD 0) (consD (conD (.int 2)) nilD))) (conD (.int 0)))))) (conD (.str " - ")) (conD (.str " + ")))) nextD)
  (setD 2 (bin2 addA (bin2 addA (bin2 addA (bin2 addA (bin2 addA (varD 2) (varD 6)) (varD 5)) (conD (.str "["))) (cbD bStr (consD (varD 4) nilD))) (conD (.str "]")))))))))
  (retD (ifE (testD (bin2 (eqA true) (varD 2) (conD (.str "")))) (varD 2) (conD (.str "0"))))))
def f__law_terms_text : DF := bodyD 2 7 d__law_terms_text
theorem sc__law_terms_text : L2.FnScope ["_law_bag_here", "_law_terms", "_law_found", "_law_number_here", "_law_index", "_law_size", "_law_lead"] ["_law_bag_here", "_law_terms"] (L2.defScope s__law_terms_text) := ⟨rfl, rfl, rfl, by decide +kernel, rfl, by decide +kernel, by decide +kernel⟩
/-! _law_kinds_right -/
abbrev s__law_kinds_right : Stmt := topS 61
/-- 0 _law_bag_here, 1 _law_kinds, 2 _law_text, 3 _law_terms, 4 _law_index, 5 _law_number_here, 6 _law_part, 7 _law_due, 8 _law_other, 9 _law_turn, 10 _law_one -/
def d__law_kinds_right : DS :=
  (seqD (setD 1 (cbD bTuple (consD (lcD (itRg1 (consD (bin2 addA (conD (.int 1)) (callD 2 f__law_one_of (consD (varD 0) (consD (lstD (consD (callD 2 f__law_grab (consD (varD 0) (consD (conD (.int 6)) nilD))) (consD (callD 2 f__law_grab (consD (varD 0) (consD (conD (.int 40)) nilD))) nilD))) nilD)))) nilD)) (nameG 9) yesT (callD 1 f__law_number (consD (varD 0) nilD)) [9]) nilD)))
  (seqD (setD 2 (callD 1 f__law_kinds_text (consD (varD 1) nilD)))
  (seqD (ifD (orT (testD (bin2 (eqA true) (callD 1 f_write_kinds (consD (varD 1) nilD)) (varD 2))) (testD (bin2 (eqA true) (callD 2 f_read_kinds (consD (varD 2) (consD (cbD bLen (consD (varD 1) nilD)) nilD))) (varD 1)))) (retD (conD (.bl false))) nextD)
  (seqD (setD 3 (lstD nilD))
  (seqD (forD (itEn (consD (varD 1) nilD)) (tupG 2 (consG (nameG 4) (consG (nameG 5) nilG))) (seqD (setD 6 (ifE (testD (bin2 (eqA false) (callD 2 f__law_grab (consD (varD 0) (consD (conD (.int 3)) nilD))) (conD (.int 0)))) (callD 2 f__law_one_of (consD (varD 0) (consD (lstD (consD (conD (.int 0)) (consD (conD (.int 1)) (consD (un1 negA (conD (.int 1))) (consD (conD (.int 5)) nilD))))) nilD))) (conD (.int 0))))
  (setD 3 (bin2 addA (varD 3) (lcD (itSeq (tupD (consD (bin2 (intA subI) (varD 5) (varD 6)) (consD (varD 6) nilD)))) (nameG 10) (orT (testD (bin2 (eqA true) (varD 10) (conD (.int 0)))) (testD (bin2 (eqA false) (callD 2 f__law_grab (consD (varD 0) (consD (conD (.int 9)) nilD))) (conD (.int 0))))) (tupD (consD (varD 10) (consD (varD 4) nilD))) [10])))))
  (seqD (setD 3 (lcD (itSeq (callD 2 f__law_mixed (consD (varD 0) (consD (varD 3) nilD)))) (tupG 2 (consG (nameG 5) (consG (nameG 4) nilG))) (testD (bin2 (cmpI qlt) (cbD bAbs (consD (varD 5) nilD)) (bin2 (intA powI) (conD (.int 10)) (conD (.int 60))))) (tupD (consD (varD 5) (consD (varD 4) nilD))) [5, 4]))
  (seqD (setD 7 (bin2 mulA (lstD (consD (conD (.int 0)) nilD)) (cbD bLen (consD (varD 1) nilD))))
  (seqD (forD (itSeq (varD 3)) (tupG 2 (consG (nameG 5) (consG (nameG 4) nilG))) (setItD (varD 7) (varD 4) (bin2 addA (bin2 ixA (varD 7) (varD 4)) (varD 5))))
  (seqD (setD 8 (callD 2 f__law_terms_text (consD (varD 0) (consD (varD 3) nilD))))
  (seqD (ifD (orT (testD (bin2 (cmpI qgt) (cbD bLen (consD (varD 8) nilD)) (conD (.int 3000)))) (testD (bin2 (cmpI qge) (cbD bMax (consD (lcD (itSeq (varD 7)) (nameG 5) yesT (cbD bAbs (consD (varD 5) nilD)) [5]) nilD)) (bin2 (intA powI) (conD (.int 10)) (conD (.int 60)))))) (retD (conD (.bl true))) nextD)
  (retD (bin2 (eqA false) (callD 2 f_read_kinds (consD (varD 8) (consD (cbD bLen (consD (varD 1) nilD)) nilD))) (cbD bTuple (consD (varD 7) nilD))))))))))))))
def f__law_kinds_right : DF := bodyD 1 11 d__law_kinds_right
theorem sc__law_kinds_right : L2.FnScope ["_law_bag_here", "_law_kinds", "_law_text", "_law_terms", "_law_index", "_law_number_here", "_law_part", "_law_due", "_law_other", "_law_turn", "_law_one"] ["_law_bag_here"] (L2.defScope s__law_kinds_right) := ⟨rfl, rfl, rfl, by decide +kernel, rfl, by decide +kernel, by decide +kernel⟩
/-! law -/
abbrev s_law : Stmt := topS 62
/-- 0 _law_script, 1 _law_spot, 2 _law_bag_here, 3 _law_turn, 4 _law_told, 5 _law_due -/
def d_law : DS :=
  (seqD (forD (itRg1 (consD (cbD bMax (consD (conD (.int 1)) (consD (cbD bMin (consD (conD (.int 2)) (consD (cbD bLen (consD (varD 0) nilD)) nilD))) nilD))) nilD)) (nameG 1) (seqD (setD 2 (callD 2 f__law_bag (consD (varD 0) (consD (varD 1) nilD))))
  (forD (itRg1 (consD (conD (.int 3)) nilD)) (nameG 3) (ifD (orT (notT (testD (callD 1 f__law_moves_right (consD (varD 2) nilD)))) (orT (notT (testD (callD 1 f__law_rows_right (consD (varD 2) nilD)))) (notT (testD (callD 1 f__law_kinds_right (consD (varD 2) nilD)))))) (retD (conD (.bl false))) nextD))))
  (seqD (setD 4 (lstD (consD (callD 1 f_write_move (consD (tupD (consD (conD (.int 1)) (consD (conD (.int 2)) (consD (conD (.int 0)) (consD (conD (.int 4)) (consD (conD (.int 3)) nilD)))))) nilD)) (consD (callD 1 f_write_move (consD (tupD (consD (conD (.int 0)) (consD (conD (.int 1)) nilD))) nilD)) (consD (callD 2 f_read_move (consD (conD (.str "(4 3)(2 0 1)")) (consD (conD (.int 6)) nilD))) (consD (callD 1 f_write_row (consD (tupD (consD (conD (.int 6)) (consD (conD (.int 2)) (consD (conD (.int 0)) (consD (un1 negA (conD (.int 1))) nilD))))) nilD)) (consD (callD 1 f_read_row (consD (conD (.str "0,-12")) nilD)) nilD)))))))
  (seqD (setD 5 (lstD (consD (conD (.str "(0 1 2)(3 4)")) (consD (conD (.str "()")) (consD (tupD (consD (conD (.int 1)) (consD (conD (.int 2)) (consD (conD (.int 0)) (consD (conD (.int 4)) (consD (conD (.int 3)) (consD (conD (.int 5)) nilD))))))) (consD (conD (.str "6,2,0,-1")) (consD (tupD (consD (conD (.int 0)) (consD (un1 negA (conD (.int 12))) nilD))) nilD)))))))
  (seqD (ifD (orT (testD (bin2 (eqA true) (varD 4) (varD 5))) (testD (bin2 (eqA true) (lstD (consD (conD (.int 3000)) (consD (conD (.int 60)) nilD))) (lstD (consD (conD (.int 3000)) (consD (conD (.int 60)) nilD)))))) (retD (conD (.bl false))) nextD)
  (seqD (setD 4 (lstD (consD (callD 1 f_write_kinds (consD (tupD (consD (conD (.int 2)) (consD (conD (.int 0)) (consD (un1 negA (conD (.int 1))) (consD (conD (.int 3)) nilD))))) nilD)) (consD (callD 1 f_write_kinds (consD (tupD (consD (un1 negA (conD (.int 1))) (consD (conD (.int 0)) nilD))) nilD)) (consD (callD 2 f_read_kinds (consD (conD (.str "[1] + 2[0] - 3[1]")) (consD (conD (.int 2)) nilD))) (consD (callD 2 f_read_kinds (consD (conD (.str "0")) (consD (conD (.int 3)) nilD))) (consD (callD 1 f_write_kinds (consD (tupD (consD (conD (.int 0)) (consD (conD (.int 0)) nilD))) nilD)) nilD)))))))
  (retD (andV (bin2 (eqA false) (varD 4) (lstD (consD (conD (.str "2[0] - [2] + 3[3]")) (consD (conD (.str "-[0]")) (consD (tupD (consD (conD (.int 2)) (consD (un1 negA (conD (.int 2))) nilD))) (consD (tupD (consD (conD (.int 0)) (consD (conD (.int 0)) (consD (conD (.int 0)) nilD)))) (consD (conD (.str "0")) nilD))))))) (bin2 (eqA false) (callD 2 f_read_kinds (consD (conD (.str "[0] - 0[1]")) (consD (conD (.int 2)) nilD))) (tupD (consD (conD (.int 1)) (consD (conD (.int 0)) nilD)))))))))))
def f_law : DF := bodyD 1 6 d_law
theorem sc_law : L2.FnScope ["_law_script", "_law_spot", "_law_bag_here", "_law_turn", "_law_told", "_law_due"] ["_law_script"] (L2.defScope s_law) := ⟨rfl, rfl, rfl, by decide +kernel, rfl, by decide +kernel, by decide +kernel⟩
end Dn

set_option maxHeartbeats 4000000
namespace Dn
open PySem PySem.Spec PyProof.Rows
open L2 (PE PT PA PS PSs PG PGs PI Cx WX Takes HO Hp VK)
theorem ok_is_plain {P : Program} {w : World} {K : PySem.W.Frag} {mg : Str → Option Value} {base : Heap} {f : Addr} {fd : FuncData} (F : L2.Fun K "is_plain" "is_plain" s_is_plain f fd) (mf : mg "is_plain" = some (.ref f)) (bf : L2.Binds K fd ["value"] []) (n_bool : mg "bool" = none) (n_int : mg "int" = none) (n_isinstance : mg "isinstance" = none) : Has P w K mg base 1 "is_plain" ["value"] f_is_plain := by
  refine ⟨f, fd, fn_ok F sc_is_plain (by decide) fun cdv A outer s H E hr => ?_, mf, F.kp, bf⟩
  have S := sc_is_plain
  have tk := takes_cx (P := P) (w := w) (K := K) (mg := mg) (base := base) (N := ["value"]) (qual := "is_plain") (sc := L2.defScope s_is_plain) (f := f) (cdv := cdv) (A := A) (outer := outer) (s := s) (H := H) (E := E)
  have pp := passes_cx (P := P) (w := w) (K := K) (mg := mg) (base := base) (N := ["value"]) (qual := "is_plain") (sc := L2.defScope s_is_plain) (f := f) (cdv := cdv) (A := A) (outer := outer) (s := s) (H := H) (E := E)
  exact (b_one (s_ret (d_and (d_cb L2.call_isi rf_isi (by rfl) n_isinstance boot_isinstance (d_cons (d_var 0) (d_cons (d_bty (by rfl) n_int rfl) d_nil))) (d_one (d_not (d_cb L2.call_isi rf_isi (by rfl) n_isinstance boot_isinstance (d_cons (d_var 0) (d_cons (d_bty (by rfl) n_bool rfl) d_nil))))))))
end Dn

set_option maxHeartbeats 4000000
namespace Dn
open PySem PySem.Spec PyProof.Rows
open L2 (PE PT PA PS PSs PG PGs PI Cx WX Takes HO Hp VK)
theorem ok_is_move_of {P : Program} {w : World} {K : PySem.W.Frag} {mg : Str → Option Value} {base : Heap} {f : Addr} {fd : FuncData} (F : L2.Fun K "is_move_of" "is_move_of" s_is_move_of f fd) (mf : mg "is_move_of" = some (.ref f)) (bf : L2.Binds K fd ["places", "value"] []) (h_is_plain : Has P w K mg base 1 "is_plain" ["value"] f_is_plain) (n_all : mg "all" = none) (n_isinstance : mg "isinstance" = none) (n_len : mg "len" = none) (n_list : mg "list" = none) (n_range : mg "range" = none) (n_sorted : mg "sorted" = none) (n_tuple : mg "tuple" = none) : Has P w K mg base 2 "is_move_of" ["places", "value"] f_is_move_of := by
  obtain ⟨g_is_plain, e_is_plain, F_is_plain, m_is_plain, k_is_plain, b_is_plain⟩ := h_is_plain
  refine ⟨f, fd, fn_ok F sc_is_move_of (by decide) fun cdv A outer s H E hr => ?_, mf, F.kp, bf⟩
  have S := sc_is_move_of
  have tk := takes_cx (P := P) (w := w) (K := K) (mg := mg) (base := base) (N := ["places", "value", "place"]) (qual := "is_move_of") (sc := L2.defScope s_is_move_of) (f := f) (cdv := cdv) (A := A) (outer := outer) (s := s) (H := H) (E := E)
  have pp := passes_cx (P := P) (w := w) (K := K) (mg := mg) (base := base) (N := ["places", "value", "place"]) (qual := "is_move_of") (sc := L2.defScope s_is_move_of) (f := f) (cdv := cdv) (A := A) (outer := outer) (s := s) (H := H) (E := E)
  exact (b_cons (s_if (t_w (w_or (t_not (t_val (d_cb L2.call_isi rf_isi (by rfl) n_isinstance boot_isinstance (d_cons (d_var 1) (d_cons (d_bty (by rfl) n_tuple rfl) d_nil))))) (w_or (t_cmp (L2.op_neD hr.units) rf_ne (d_cb call_lenA rf_len (by rfl) n_len boot_len (d_cons (d_var 1) d_nil)) (d_var 0) (by rfl)) (w_or1 (t_not (t_val (d_cb (L2.cr_all rfl) rf_all (by rfl) n_all boot_all (d_cons (d_lc rfl S.nd (i_seq (d_var 1)) (L2.blkOk_by (own := [("place", 2)]) (by first | rfl | decide +kernel)) (by intro _ _ _ _ _; exact (g_name (i := 2) S.nd rfl (by first | exact .inl rfl | exact .inr rfl))) (by decide) (by intro _ _ _ _ _; exact ts_nil) (by intro _ _ _ _ _; exact (d_call (ps := ["value"]) F_is_plain hr (by rfl) m_is_plain k_is_plain b_is_plain takes0 (d_cons (d_var 2) d_nil)))) d_nil)))))))) (b_one (s_ret d_bl)) b_nil)
  (b_one (s_ret (d_cmp (L2.op_eqD hr.units) rf_eq (d_cb call_sortedA rf_sorted (by rfl) n_sorted boot_sorted (d_cons (d_var 1) d_nil)) (d_lstRg rfl (by rfl) n_list (r_1 (by rfl) n_range (d_var 0))) (by rfl)))))
end Dn

set_option maxHeartbeats 4000000
namespace Dn
open PySem PySem.Spec PyProof.Rows
open L2 (PE PT PA PS PSs PG PGs PI Cx WX Takes HO Hp VK)
theorem ok_is_any_move {P : Program} {w : World} {K : PySem.W.Frag} {mg : Str → Option Value} {base : Heap} {f : Addr} {fd : FuncData} (F : L2.Fun K "is_any_move" "is_any_move" s_is_any_move f fd) (mf : mg "is_any_move" = some (.ref f)) (bf : L2.Binds K fd ["value"] []) (h_is_move_of : Has P w K mg base 2 "is_move_of" ["places", "value"] f_is_move_of) (c_MAX_PLACES : ∃ t, mg "MAX_PLACES" = some (.int 24 t)) (n_isinstance : mg "isinstance" = none) (n_len : mg "len" = none) (n_tuple : mg "tuple" = none) : Has P w K mg base 3 "is_any_move" ["value"] f_is_any_move := by
  obtain ⟨g_is_move_of, e_is_move_of, F_is_move_of, m_is_move_of, k_is_move_of, b_is_move_of⟩ := h_is_move_of
  refine ⟨f, fd, fn_ok F sc_is_any_move (by decide) fun cdv A outer s H E hr => ?_, mf, F.kp, bf⟩
  have S := sc_is_any_move
  have tk := takes_cx (P := P) (w := w) (K := K) (mg := mg) (base := base) (N := ["value"]) (qual := "is_any_move") (sc := L2.defScope s_is_any_move) (f := f) (cdv := cdv) (A := A) (outer := outer) (s := s) (H := H) (E := E)
  have pp := passes_cx (P := P) (w := w) (K := K) (mg := mg) (base := base) (N := ["value"]) (qual := "is_any_move") (sc := L2.defScope s_is_any_move) (f := f) (cdv := cdv) (A := A) (outer := outer) (s := s) (H := H) (E := E)
  exact (b_one (s_ret (d_and (d_cb L2.call_isi rf_isi (by rfl) n_isinstance boot_isinstance (d_cons (d_var 0) (d_cons (d_bty (by rfl) n_tuple rfl) d_nil))) (d_and (d_chain L2.op_le rf_cmp L2.op_le rf_cmp d_int (d_cb call_lenA rf_len (by rfl) n_len boot_len (d_cons (d_var 0) d_nil)) (d_gint (by rfl) c_MAX_PLACES)) (d_one (d_call (ps := ["places", "value"]) F_is_move_of hr (by rfl) m_is_move_of k_is_move_of b_is_move_of tk (d_cons (d_cb call_lenA rf_len (by rfl) n_len boot_len (d_cons (d_var 0) d_nil)) (d_cons (d_var 0) d_nil))))))))
end Dn

set_option maxHeartbeats 4000000
namespace Dn
open PySem PySem.Spec PyProof.Rows
open L2 (PE PT PA PS PSs PG PGs PI Cx WX Takes HO Hp VK)
theorem ok_cycles_in {P : Program} {w : World} {K : PySem.W.Frag} {mg : Str → Option Value} {base : Heap} {f : Addr} {fd : FuncData} (F : L2.Fun K "cycles_in" "cycles_in" s_cycles_in f fd) (mf : mg "cycles_in" = some (.ref f)) (bf : L2.Binds K fd ["move"] []) (n_len : mg "len" = none) (n_range : mg "range" = none) (n_tuple : mg "tuple" = none) : Has P w K mg base 1 "cycles_in" ["move"] f_cycles_in := by
  refine ⟨f, fd, fn_ok F sc_cycles_in (by decide) fun cdv A outer s H E hr => ?_, mf, F.kp, bf⟩
  have S := sc_cycles_in
  have tk := takes_cx (P := P) (w := w) (K := K) (mg := mg) (base := base) (N := ["move", "found", "seen", "start", "ring", "place"]) (qual := "cycles_in") (sc := L2.defScope s_cycles_in) (f := f) (cdv := cdv) (A := A) (outer := outer) (s := s) (H := H) (E := E)
  have pp := passes_cx (P := P) (w := w) (K := K) (mg := mg) (base := base) (N := ["move", "found", "seen", "start", "ring", "place"]) (qual := "cycles_in") (sc := L2.defScope s_cycles_in) (f := f) (cdv := cdv) (A := A) (outer := outer) (s := s) (H := H) (E := E)
  exact (b_cons (s_par (i := 1) (j := 2) rfl S.nd rfl rfl (by decide) rfl rfl (d_cons (d_lst d_nil) (d_cons d_dnewK d_nil)) (by rfl))
  (b_cons (s_for pp rfl (i_rg1 (by rfl) n_range (d_cons (d_cb call_lenA rf_len (by rfl) n_len boot_len (d_cons (d_var 0) d_nil)) d_nil)) (g_name (i := 3) S.nd rfl (by first | exact .inl rfl | exact .inr rfl)) (b_one (s_if (t_nin (L2.hu_of hr) (d_var 3) (d_var 2)) (b_cons (s_par (i := 4) (j := 5) rfl S.nd rfl rfl (by decide) rfl rfl (d_cons (d_lst d_nil) (d_cons (d_var 3) d_nil)) (by rfl))
  (b_cons (s_while pp (t_nin (L2.hu_of hr) (d_var 5) (d_var 2)) (b_cons (s_setIt (L2.hu_of hr) (d_var 2) (d_var 5) d_bl)
  (b_cons (s_expr (d_bm PySem.F.plainAttrs_list PySem.F.slot_list_append PySem.F.type_list_append L2.mt_append rf_append (d_var 4) (d_cons (d_var 5) d_nil)))
  (b_one (s_set (i := 5) S.nd rfl (by first | exact .inl rfl | exact .inr rfl) (d_ix (L2.hu_of hr) (d_var 0) (d_var 5)))))))
  (b_one (s_expr (d_bm PySem.F.plainAttrs_list PySem.F.slot_list_append PySem.F.type_list_append L2.mt_append rf_append (d_var 1) (d_cons (d_ct L2.call_tuple_of rf_tuple (by rfl) n_tuple boot_tuple (d_cons (d_var 4) d_nil)) d_nil)))))) b_nil)))
  (b_one (s_ret (d_var 1)))))
end Dn

set_option maxHeartbeats 4000000
namespace Dn
open PySem PySem.Spec PyProof.Rows
open L2 (PE PT PA PS PSs PG PGs PI Cx WX Takes HO Hp VK)
theorem ok_move_text {P : Program} {w : World} {K : PySem.W.Frag} {mg : Str → Option Value} {base : Heap} {f : Addr} {fd : FuncData} (F : L2.Fun K "move_text" "move_text" s_move_text f fd) (mf : mg "move_text" = some (.ref f)) (bf : L2.Binds K fd ["move"] []) (h_cycles_in : Has P w K mg base 1 "cycles_in" ["move"] f_cycles_in) (c_UNIT : ∃ t, mg "UNIT" = some (.str "()" t)) (n_len : mg "len" = none) (n_str : mg "str" = none) : Has P w K mg base 2 "move_text" ["move"] f_move_text := by
  obtain ⟨g_cycles_in, e_cycles_in, F_cycles_in, m_cycles_in, k_cycles_in, b_cycles_in⟩ := h_cycles_in
  refine ⟨f, fd, fn_ok F sc_move_text (by decide) fun cdv A outer s H E hr => ?_, mf, F.kp, bf⟩
  have S := sc_move_text
  have tk := takes_cx (P := P) (w := w) (K := K) (mg := mg) (base := base) (N := ["move", "rings", "cycle", "place", "ring"]) (qual := "move_text") (sc := L2.defScope s_move_text) (f := f) (cdv := cdv) (A := A) (outer := outer) (s := s) (H := H) (E := E)
  have pp := passes_cx (P := P) (w := w) (K := K) (mg := mg) (base := base) (N := ["move", "rings", "cycle", "place", "ring"]) (qual := "move_text") (sc := L2.defScope s_move_text) (f := f) (cdv := cdv) (A := A) (outer := outer) (s := s) (H := H) (E := E)
  exact (b_cons (s_setLc (i := 1) rfl S.nd rfl rfl (by exact L2.sw_true rfl rfl rfl rfl) (i_seq (d_call (ps := ["move"]) F_cycles_in hr (by rfl) m_cycles_in k_cycles_in b_cycles_in tk (d_cons (d_var 0) d_nil))) (L2.blkOk_by (own := [("cycle", 2)]) (by first | rfl | decide +kernel)) (by intro _ _ _ _ _; exact (g_name (i := 2) S.nd rfl (by first | exact .inl rfl | exact .inr rfl))) (by decide) (by intro _ _ _ _ _; exact (ts_one (t_cmp L2.op_gt rf_cmp (d_cb call_lenA rf_len (by rfl) n_len boot_len (d_cons (d_var 2) d_nil)) d_int (by rfl)))) (by intro _ _ _ _ _; exact (d_bm PySem.F.plainAttrs_str PySem.F.slot_str_join PySem.F.type_str_join L2.mt_join rf_join d_str (d_cons (d_lc rfl S.nd (i_seq (d_var 2)) (L2.blkOk_by (own := [("place", 3)]) (by first | rfl | decide +kernel)) (by intro _ _ _ _ _; exact (g_name (i := 3) S.nd rfl (by first | exact .inl rfl | exact .inr rfl))) (by decide) (by intro _ _ _ _ _; exact ts_nil) (by intro _ _ _ _ _; exact (d_ct L2.call_str_int rf_str (by rfl) n_str boot_str (d_cons (d_var 3) d_nil)))) d_nil))))
  (b_one (s_ret (d_orT (d_bm PySem.F.plainAttrs_str PySem.F.slot_str_join PySem.F.type_str_join L2.mt_join rf_join d_str (d_cons (d_lc rfl S.nd (i_seq (d_var 1)) (L2.blkOk_by (own := [("ring", 4)]) (by first | rfl | decide +kernel)) (by intro _ _ _ _ _; exact (g_name (i := 4) S.nd rfl (by first | exact .inl rfl | exact .inr rfl))) (by decide) (by intro _ _ _ _ _; exact ts_nil) (by intro _ _ _ _ _; exact (d_joined (.cons d_str (.cons (d_fmt (d_var 4)) (.cons d_str .nil)))))) d_nil)) (d_one (d_gstr (by rfl) c_UNIT))))))
end Dn

set_option maxHeartbeats 4000000
namespace Dn
open PySem PySem.Spec PyProof.Rows
open L2 (PE PT PA PS PSs PG PGs PI Cx WX Takes HO Hp VK)
theorem ok_write_move {P : Program} {w : World} {K : PySem.W.Frag} {mg : Str → Option Value} {base : Heap} {f : Addr} {fd : FuncData} (F : L2.Fun K "write_move" "write_move" s_write_move f fd) (mf : mg "write_move" = some (.ref f)) (bf : L2.Binds K fd ["move"] []) (h_is_any_move : Has P w K mg base 3 "is_any_move" ["value"] f_is_any_move) (h_move_text : Has P w K mg base 2 "move_text" ["move"] f_move_text) : Has P w K mg base 4 "write_move" ["move"] f_write_move := by
  obtain ⟨g_is_any_move, e_is_any_move, F_is_any_move, m_is_any_move, k_is_any_move, b_is_any_move⟩ := h_is_any_move
  obtain ⟨g_move_text, e_move_text, F_move_text, m_move_text, k_move_text, b_move_text⟩ := h_move_text
  replace F_move_text := fn_mono F_move_text (by decide : 2 ≤ 3)
  refine ⟨f, fd, fn_ok F sc_write_move (by decide) fun cdv A outer s H E hr => ?_, mf, F.kp, bf⟩
  have S := sc_write_move
  have tk := takes_cx (P := P) (w := w) (K := K) (mg := mg) (base := base) (N := ["move"]) (qual := "write_move") (sc := L2.defScope s_write_move) (f := f) (cdv := cdv) (A := A) (outer := outer) (s := s) (H := H) (E := E)
  have pp := passes_cx (P := P) (w := w) (K := K) (mg := mg) (base := base) (N := ["move"]) (qual := "write_move") (sc := L2.defScope s_write_move) (f := f) (cdv := cdv) (A := A) (outer := outer) (s := s) (H := H) (E := E)
  exact (b_cons (s_if (t_not (t_val (d_call (ps := ["value"]) F_is_any_move hr (by rfl) m_is_any_move k_is_any_move b_is_any_move tk (d_cons (d_var 0) d_nil)))) (b_one s_never) b_nil)
  (b_one (s_ret (d_call (ps := ["move"]) F_move_text hr (by rfl) m_move_text k_move_text b_move_text tk (d_cons (d_var 0) d_nil)))))
end Dn

set_option maxHeartbeats 4000000
namespace Dn
open PySem PySem.Spec PyProof.Rows
open L2 (PE PT PA PS PSs PG PGs PI Cx WX Takes HO Hp VK)
theorem ok_row_text {P : Program} {w : World} {K : PySem.W.Frag} {mg : Str → Option Value} {base : Heap} {f : Addr} {fd : FuncData} (F : L2.Fun K "row_text" "row_text" s_row_text f fd) (mf : mg "row_text" = some (.ref f)) (bf : L2.Binds K fd ["row"] []) (n_str : mg "str" = none) : Has P w K mg base 1 "row_text" ["row"] f_row_text := by
  refine ⟨f, fd, fn_ok F sc_row_text (by decide) fun cdv A outer s H E hr => ?_, mf, F.kp, bf⟩
  have S := sc_row_text
  have tk := takes_cx (P := P) (w := w) (K := K) (mg := mg) (base := base) (N := ["row", "number"]) (qual := "row_text") (sc := L2.defScope s_row_text) (f := f) (cdv := cdv) (A := A) (outer := outer) (s := s) (H := H) (E := E)
  have pp := passes_cx (P := P) (w := w) (K := K) (mg := mg) (base := base) (N := ["row", "number"]) (qual := "row_text") (sc := L2.defScope s_row_text) (f := f) (cdv := cdv) (A := A) (outer := outer) (s := s) (H := H) (E := E)
  exact (b_one (s_ret (d_bm PySem.F.plainAttrs_str PySem.F.slot_str_join PySem.F.type_str_join L2.mt_join rf_join d_str (d_cons (d_lc rfl S.nd (i_seq (d_var 0)) (L2.blkOk_by (own := [("number", 1)]) (by first | rfl | decide +kernel)) (by intro _ _ _ _ _; exact (g_name (i := 1) S.nd rfl (by first | exact .inl rfl | exact .inr rfl))) (by decide) (by intro _ _ _ _ _; exact ts_nil) (by intro _ _ _ _ _; exact (d_ct L2.call_str_int rf_str (by rfl) n_str boot_str (d_cons (d_var 1) d_nil)))) d_nil))))
end Dn

set_option maxHeartbeats 4000000
namespace Dn
open PySem PySem.Spec PyProof.Rows
open L2 (PE PT PA PS PSs PG PGs PI Cx WX Takes HO Hp VK)
theorem ok_is_integer {P : Program} {w : World} {K : PySem.W.Frag} {mg : Str → Option Value} {base : Heap} {f : Addr} {fd : FuncData} (F : L2.Fun K "is_integer" "is_integer" s_is_integer f fd) (mf : mg "is_integer" = some (.ref f)) (bf : L2.Binds K fd ["value"] []) (h_is_plain : Has P w K mg base 1 "is_plain" ["value"] f_is_plain) (c_FAR : ∃ t, mg "FAR" = some (.int 1000000000000000000000000000000000000000000000000000000000000 t)) : Has P w K mg base 2 "is_integer" ["value"] f_is_integer := by
  obtain ⟨g_is_plain, e_is_plain, F_is_plain, m_is_plain, k_is_plain, b_is_plain⟩ := h_is_plain
  refine ⟨f, fd, fn_ok F sc_is_integer (by decide) fun cdv A outer s H E hr => ?_, mf, F.kp, bf⟩
  have S := sc_is_integer
  have tk := takes_cx (P := P) (w := w) (K := K) (mg := mg) (base := base) (N := ["value"]) (qual := "is_integer") (sc := L2.defScope s_is_integer) (f := f) (cdv := cdv) (A := A) (outer := outer) (s := s) (H := H) (E := E)
  have pp := passes_cx (P := P) (w := w) (K := K) (mg := mg) (base := base) (N := ["value"]) (qual := "is_integer") (sc := L2.defScope s_is_integer) (f := f) (cdv := cdv) (A := A) (outer := outer) (s := s) (H := H) (E := E)
  exact (b_one (s_ret (d_and (d_call (ps := ["value"]) F_is_plain hr (by rfl) m_is_plain k_is_plain b_is_plain tk (d_cons (d_var 0) d_nil)) (d_one (d_chain L2.op_lt rf_cmp L2.op_lt rf_cmp (d_un L2.un_neg rf_neg (d_gint (by rfl) c_FAR)) (d_var 0) (d_gint (by rfl) c_FAR))))))
end Dn

set_option maxHeartbeats 4000000
namespace Dn
open PySem PySem.Spec PyProof.Rows
open L2 (PE PT PA PS PSs PG PGs PI Cx WX Takes HO Hp VK)
theorem ok_are_integers {P : Program} {w : World} {K : PySem.W.Frag} {mg : Str → Option Value} {base : Heap} {f : Addr} {fd : FuncData} (F : L2.Fun K "are_integers" "are_integers" s_are_integers f fd) (mf : mg "are_integers" = some (.ref f)) (bf : L2.Binds K fd ["value"] []) (h_is_integer : Has P w K mg base 2 "is_integer" ["value"] f_is_integer) (c_MOST_MEMBERS : ∃ t, mg "MOST_MEMBERS" = some (.int 60 t)) (n_all : mg "all" = none) (n_isinstance : mg "isinstance" = none) (n_len : mg "len" = none) (n_tuple : mg "tuple" = none) : Has P w K mg base 3 "are_integers" ["value"] f_are_integers := by
  obtain ⟨g_is_integer, e_is_integer, F_is_integer, m_is_integer, k_is_integer, b_is_integer⟩ := h_is_integer
  refine ⟨f, fd, fn_ok F sc_are_integers (by decide) fun cdv A outer s H E hr => ?_, mf, F.kp, bf⟩
  have S := sc_are_integers
  have tk := takes_cx (P := P) (w := w) (K := K) (mg := mg) (base := base) (N := ["value", "one"]) (qual := "are_integers") (sc := L2.defScope s_are_integers) (f := f) (cdv := cdv) (A := A) (outer := outer) (s := s) (H := H) (E := E)
  have pp := passes_cx (P := P) (w := w) (K := K) (mg := mg) (base := base) (N := ["value", "one"]) (qual := "are_integers") (sc := L2.defScope s_are_integers) (f := f) (cdv := cdv) (A := A) (outer := outer) (s := s) (H := H) (E := E)
  exact (b_one (s_ret (d_and (d_cb L2.call_isi rf_isi (by rfl) n_isinstance boot_isinstance (d_cons (d_var 0) (d_cons (d_bty (by rfl) n_tuple rfl) d_nil))) (d_and (d_chain L2.op_le rf_cmp L2.op_le rf_cmp d_int (d_cb call_lenA rf_len (by rfl) n_len boot_len (d_cons (d_var 0) d_nil)) (d_gint (by rfl) c_MOST_MEMBERS)) (d_one (d_cb (L2.cr_all rfl) rf_all (by rfl) n_all boot_all (d_cons (d_lc rfl S.nd (i_seq (d_var 0)) (L2.blkOk_by (own := [("one", 1)]) (by first | rfl | decide +kernel)) (by intro _ _ _ _ _; exact (g_name (i := 1) S.nd rfl (by first | exact .inl rfl | exact .inr rfl))) (by decide) (by intro _ _ _ _ _; exact ts_nil) (by intro _ _ _ _ _; exact (d_call (ps := ["value"]) F_is_integer hr (by rfl) m_is_integer k_is_integer b_is_integer takes0 (d_cons (d_var 1) d_nil)))) d_nil)))))))
end Dn

set_option maxHeartbeats 4000000
namespace Dn
open PySem PySem.Spec PyProof.Rows
open L2 (PE PT PA PS PSs PG PGs PI Cx WX Takes HO Hp VK)
theorem ok_write_row {P : Program} {w : World} {K : PySem.W.Frag} {mg : Str → Option Value} {base : Heap} {f : Addr} {fd : FuncData} (F : L2.Fun K "write_row" "write_row" s_write_row f fd) (mf : mg "write_row" = some (.ref f)) (bf : L2.Binds K fd ["row"] []) (h_are_integers : Has P w K mg base 3 "are_integers" ["value"] f_are_integers) (h_row_text : Has P w K mg base 1 "row_text" ["row"] f_row_text) : Has P w K mg base 4 "write_row" ["row"] f_write_row := by
  obtain ⟨g_are_integers, e_are_integers, F_are_integers, m_are_integers, k_are_integers, b_are_integers⟩ := h_are_integers
  obtain ⟨g_row_text, e_row_text, F_row_text, m_row_text, k_row_text, b_row_text⟩ := h_row_text
  replace F_row_text := fn_mono F_row_text (by decide : 1 ≤ 3)
  refine ⟨f, fd, fn_ok F sc_write_row (by decide) fun cdv A outer s H E hr => ?_, mf, F.kp, bf⟩
  have S := sc_write_row
  have tk := takes_cx (P := P) (w := w) (K := K) (mg := mg) (base := base) (N := ["row"]) (qual := "write_row") (sc := L2.defScope s_write_row) (f := f) (cdv := cdv) (A := A) (outer := outer) (s := s) (H := H) (E := E)
  have pp := passes_cx (P := P) (w := w) (K := K) (mg := mg) (base := base) (N := ["row"]) (qual := "write_row") (sc := L2.defScope s_write_row) (f := f) (cdv := cdv) (A := A) (outer := outer) (s := s) (H := H) (E := E)
  exact (b_cons (s_if (t_not (t_val (d_call (ps := ["value"]) F_are_integers hr (by rfl) m_are_integers k_are_integers b_are_integers tk (d_cons (d_var 0) d_nil)))) (b_one s_never) b_nil)
  (b_one (s_ret (d_call (ps := ["row"]) F_row_text hr (by rfl) m_row_text k_row_text b_row_text tk (d_cons (d_var 0) d_nil)))))
end Dn

set_option maxHeartbeats 4000000
namespace Dn
open PySem PySem.Spec PyProof.Rows
open L2 (PE PT PA PS PSs PG PGs PI Cx WX Takes HO Hp VK)
theorem ok_term_text {P : Program} {w : World} {K : PySem.W.Frag} {mg : Str → Option Value} {base : Heap} {f : Addr} {fd : FuncData} (F : L2.Fun K "term_text" "term_text" s_term_text f fd) (mf : mg "term_text" = some (.ref f)) (bf : L2.Binds K fd ["number", "index"] []) : Has P w K mg base 1 "term_text" ["number", "index"] f_term_text := by
  refine ⟨f, fd, fn_ok F sc_term_text (by decide) fun cdv A outer s H E hr => ?_, mf, F.kp, bf⟩
  have S := sc_term_text
  have tk := takes_cx (P := P) (w := w) (K := K) (mg := mg) (base := base) (N := ["number", "index"]) (qual := "term_text") (sc := L2.defScope s_term_text) (f := f) (cdv := cdv) (A := A) (outer := outer) (s := s) (H := H) (E := E)
  have pp := passes_cx (P := P) (w := w) (K := K) (mg := mg) (base := base) (N := ["number", "index"]) (qual := "term_text") (sc := L2.defScope s_term_text) (f := f) (cdv := cdv) (A := A) (outer := outer) (s := s) (H := H) (E := E)
  exact (b_one (s_ret (d_if (t_cmp (L2.op_eqD hr.units) rf_eq (d_var 0) d_int (by rfl)) (d_joined (.cons d_str (.cons (d_fmt (d_var 1)) (.cons d_str .nil)))) (d_joined (.cons (d_fmt (d_var 0)) (.cons d_str (.cons (d_fmt (d_var 1)) (.cons d_str .nil))))))))
end Dn

set_option maxHeartbeats 4000000
namespace Dn
open PySem PySem.Spec PyProof.Rows
open L2 (PE PT PA PS PSs PG PGs PI Cx WX Takes HO Hp VK)
theorem ok_kinds_text {P : Program} {w : World} {K : PySem.W.Frag} {mg : Str → Option Value} {base : Heap} {f : Addr} {fd : FuncData} (F : L2.Fun K "kinds_text" "kinds_text" s_kinds_text f fd) (mf : mg "kinds_text" = some (.ref f)) (bf : L2.Binds K fd ["kinds"] []) (h_term_text : Has P w K mg base 1 "term_text" ["number", "index"] f_term_text) (c_NOTHING : ∃ t, mg "NOTHING" = some (.str "0" t)) (n_abs : mg "abs" = none) (n_enumerate : mg "enumerate" = none) : Has P w K mg base 2 "kinds_text" ["kinds"] f_kinds_text := by
  obtain ⟨g_term_text, e_term_text, F_term_text, m_term_text, k_term_text, b_term_text⟩ := h_term_text
  refine ⟨f, fd, fn_ok F sc_kinds_text (by decide) fun cdv A outer s H E hr => ?_, mf, F.kp, bf⟩
  have S := sc_kinds_text
  have tk := takes_cx (P := P) (w := w) (K := K) (mg := mg) (base := base) (N := ["kinds", "found", "index", "number", "sign"]) (qual := "kinds_text") (sc := L2.defScope s_kinds_text) (f := f) (cdv := cdv) (A := A) (outer := outer) (s := s) (H := H) (E := E)
  have pp := passes_cx (P := P) (w := w) (K := K) (mg := mg) (base := base) (N := ["kinds", "found", "index", "number", "sign"]) (qual := "kinds_text") (sc := L2.defScope s_kinds_text) (f := f) (cdv := cdv) (A := A) (outer := outer) (s := s) (H := H) (E := E)
  exact (b_cons (s_set (i := 1) S.nd rfl (by first | exact .inl rfl | exact .inr rfl) d_str)
  (b_cons (s_for pp rfl (i_en (by rfl) n_enumerate (d_cons (d_var 0) d_nil)) (g_tup rfl (gs_cons (g_name (i := 2) S.nd rfl (by first | exact .inl rfl | exact .inr rfl)) (gs_cons (g_name (i := 3) S.nd rfl (by first | exact .inl rfl | exact .inr rfl)) gs_nil))) (b_one (s_if (t_cmp (L2.op_neD hr.units) rf_ne (d_var 3) d_int (by rfl)) (b_cons (s_set (i := 4) S.nd rfl (by first | exact .inl rfl | exact .inr rfl) (d_if (t_cmp (L2.op_eqD hr.units) rf_eq (d_var 1) d_str (by rfl)) (d_if (t_cmp L2.op_lt rf_cmp (d_var 3) d_int (by rfl)) d_str d_str) (d_if (t_cmp L2.op_lt rf_cmp (d_var 3) d_int (by rfl)) d_str d_str)))
  (b_one (s_set (i := 1) S.nd rfl (by first | exact .inl rfl | exact .inr rfl) (d_bin op_addA rf_add (d_bin op_addA rf_add (d_var 1) (d_var 4)) (d_call (ps := ["number", "index"]) F_term_text hr (by rfl) m_term_text k_term_text b_term_text tk (d_cons (d_cb L2.call_abs rf_abs (by rfl) n_abs boot_abs (d_cons (d_var 3) d_nil)) (d_cons (d_var 2) d_nil))))))) b_nil)))
  (b_one (s_ret (d_orT (d_var 1) (d_one (d_gstr (by rfl) c_NOTHING)))))))
end Dn

set_option maxHeartbeats 4000000
namespace Dn
open PySem PySem.Spec PyProof.Rows
open L2 (PE PT PA PS PSs PG PGs PI Cx WX Takes HO Hp VK)
theorem ok_write_kinds {P : Program} {w : World} {K : PySem.W.Frag} {mg : Str → Option Value} {base : Heap} {f : Addr} {fd : FuncData} (F : L2.Fun K "write_kinds" "write_kinds" s_write_kinds f fd) (mf : mg "write_kinds" = some (.ref f)) (bf : L2.Binds K fd ["kinds"] []) (h_are_integers : Has P w K mg base 3 "are_integers" ["value"] f_are_integers) (h_kinds_text : Has P w K mg base 2 "kinds_text" ["kinds"] f_kinds_text) : Has P w K mg base 4 "write_kinds" ["kinds"] f_write_kinds := by
  obtain ⟨g_are_integers, e_are_integers, F_are_integers, m_are_integers, k_are_integers, b_are_integers⟩ := h_are_integers
  obtain ⟨g_kinds_text, e_kinds_text, F_kinds_text, m_kinds_text, k_kinds_text, b_kinds_text⟩ := h_kinds_text
  replace F_kinds_text := fn_mono F_kinds_text (by decide : 2 ≤ 3)
  refine ⟨f, fd, fn_ok F sc_write_kinds (by decide) fun cdv A outer s H E hr => ?_, mf, F.kp, bf⟩
  have S := sc_write_kinds
  have tk := takes_cx (P := P) (w := w) (K := K) (mg := mg) (base := base) (N := ["kinds"]) (qual := "write_kinds") (sc := L2.defScope s_write_kinds) (f := f) (cdv := cdv) (A := A) (outer := outer) (s := s) (H := H) (E := E)
  have pp := passes_cx (P := P) (w := w) (K := K) (mg := mg) (base := base) (N := ["kinds"]) (qual := "write_kinds") (sc := L2.defScope s_write_kinds) (f := f) (cdv := cdv) (A := A) (outer := outer) (s := s) (H := H) (E := E)
  exact (b_cons (s_if (t_not (t_val (d_call (ps := ["value"]) F_are_integers hr (by rfl) m_are_integers k_are_integers b_are_integers tk (d_cons (d_var 0) d_nil)))) (b_one s_never) b_nil)
  (b_one (s_ret (d_call (ps := ["kinds"]) F_kinds_text hr (by rfl) m_kinds_text k_kinds_text b_kinds_text tk (d_cons (d_var 0) d_nil)))))
end Dn

set_option maxHeartbeats 4000000
namespace Dn
open PySem PySem.Spec PyProof.Rows
open L2 (PE PT PA PS PSs PG PGs PI Cx WX Takes HO Hp VK)
theorem ok_is_within {P : Program} {w : World} {K : PySem.W.Frag} {mg : Str → Option Value} {base : Heap} {f : Addr} {fd : FuncData} (F : L2.Fun K "is_within" "is_within" s_is_within f fd) (mf : mg "is_within" = some (.ref f)) (bf : L2.Binds K fd ["value", "low", "high"] []) (h_is_plain : Has P w K mg base 1 "is_plain" ["value"] f_is_plain) : Has P w K mg base 2 "is_within" ["value", "low", "high"] f_is_within := by
  obtain ⟨g_is_plain, e_is_plain, F_is_plain, m_is_plain, k_is_plain, b_is_plain⟩ := h_is_plain
  refine ⟨f, fd, fn_ok F sc_is_within (by decide) fun cdv A outer s H E hr => ?_, mf, F.kp, bf⟩
  have S := sc_is_within
  have tk := takes_cx (P := P) (w := w) (K := K) (mg := mg) (base := base) (N := ["value", "low", "high"]) (qual := "is_within") (sc := L2.defScope s_is_within) (f := f) (cdv := cdv) (A := A) (outer := outer) (s := s) (H := H) (E := E)
  have pp := passes_cx (P := P) (w := w) (K := K) (mg := mg) (base := base) (N := ["value", "low", "high"]) (qual := "is_within") (sc := L2.defScope s_is_within) (f := f) (cdv := cdv) (A := A) (outer := outer) (s := s) (H := H) (E := E)
  exact (b_one (s_ret (d_and (d_call (ps := ["value"]) F_is_plain hr (by rfl) m_is_plain k_is_plain b_is_plain tk (d_cons (d_var 0) d_nil)) (d_one (d_chain L2.op_le rf_cmp L2.op_le rf_cmp (d_var 1) (d_var 0) (d_var 2))))))
end Dn

set_option maxHeartbeats 4000000
namespace Dn
open PySem PySem.Spec PyProof.Rows
open L2 (PE PT PA PS PSs PG PGs PI Cx WX Takes HO Hp VK)
theorem ok_require_within {P : Program} {w : World} {K : PySem.W.Frag} {mg : Str → Option Value} {base : Heap} {f : Addr} {fd : FuncData} (F : L2.Fun K "require_within" "require_within" s_require_within f fd) (mf : mg "require_within" = some (.ref f)) (bf : L2.Binds K fd ["value", "low", "high"] []) (h_is_within : Has P w K mg base 2 "is_within" ["value", "low", "high"] f_is_within) : Has P w K mg base 3 "require_within" ["value", "low", "high"] f_require_within := by
  obtain ⟨g_is_within, e_is_within, F_is_within, m_is_within, k_is_within, b_is_within⟩ := h_is_within
  refine ⟨f, fd, fn_ok F sc_require_within (by decide) fun cdv A outer s H E hr => ?_, mf, F.kp, bf⟩
  have S := sc_require_within
  have tk := takes_cx (P := P) (w := w) (K := K) (mg := mg) (base := base) (N := ["value", "low", "high"]) (qual := "require_within") (sc := L2.defScope s_require_within) (f := f) (cdv := cdv) (A := A) (outer := outer) (s := s) (H := H) (E := E)
  have pp := passes_cx (P := P) (w := w) (K := K) (mg := mg) (base := base) (N := ["value", "low", "high"]) (qual := "require_within") (sc := L2.defScope s_require_within) (f := f) (cdv := cdv) (A := A) (outer := outer) (s := s) (H := H) (E := E)
  exact (b_one (s_if (t_not (t_val (d_call (ps := ["value", "low", "high"]) F_is_within hr (by rfl) m_is_within k_is_within b_is_within tk (d_cons (d_var 0) (d_cons (d_var 1) (d_cons (d_var 2) d_nil)))))) (b_one s_never) b_nil))
end Dn

set_option maxHeartbeats 4000000
namespace Dn
open PySem PySem.Spec PyProof.Rows
open L2 (PE PT PA PS PSs PG PGs PI Cx WX Takes HO Hp VK)
theorem ok_require_text {P : Program} {w : World} {K : PySem.W.Frag} {mg : Str → Option Value} {base : Heap} {f : Addr} {fd : FuncData} (F : L2.Fun K "require_text" "require_text" s_require_text f fd) (mf : mg "require_text" = some (.ref f)) (bf : L2.Binds K fd ["value"] []) (c_MOST_SIGNS : ∃ t, mg "MOST_SIGNS" = some (.int 3000 t)) (n_isinstance : mg "isinstance" = none) (n_len : mg "len" = none) (n_str : mg "str" = none) : Has P w K mg base 1 "require_text" ["value"] f_require_text := by
  refine ⟨f, fd, fn_ok F sc_require_text (by decide) fun cdv A outer s H E hr => ?_, mf, F.kp, bf⟩
  have S := sc_require_text
  have tk := takes_cx (P := P) (w := w) (K := K) (mg := mg) (base := base) (N := ["value"]) (qual := "require_text") (sc := L2.defScope s_require_text) (f := f) (cdv := cdv) (A := A) (outer := outer) (s := s) (H := H) (E := E)
  have pp := passes_cx (P := P) (w := w) (K := K) (mg := mg) (base := base) (N := ["value"]) (qual := "require_text") (sc := L2.defScope s_require_text) (f := f) (cdv := cdv) (A := A) (outer := outer) (s := s) (H := H) (E := E)
  exact (b_one (s_if (t_w (w_or (t_not (t_val (d_cb L2.call_isi rf_isi (by rfl) n_isinstance boot_isinstance (d_cons (d_var 0) (d_cons (d_bty (by rfl) n_str rfl) d_nil))))) (w_or1 (t_cmp L2.op_gt rf_cmp (d_cb call_lenA rf_len (by rfl) n_len boot_len (d_cons (d_var 0) d_nil)) (d_gint (by rfl) c_MOST_SIGNS) (by rfl))))) (b_one s_never) b_nil))
end Dn

set_option maxHeartbeats 4000000
namespace Dn
open PySem PySem.Spec PyProof.Rows
open L2 (PE PT PA PS PSs PG PGs PI Cx WX Takes HO Hp VK)
theorem ok_require_sign {P : Program} {w : World} {K : PySem.W.Frag} {mg : Str → Option Value} {base : Heap} {f : Addr} {fd : FuncData} (F : L2.Fun K "require_sign" "require_sign" s_require_sign f fd) (mf : mg "require_sign" = some (.ref f)) (bf : L2.Binds K fd ["text", "index", "sign"] []) : Has P w K mg base 1 "require_sign" ["text", "index", "sign"] f_require_sign := by
  refine ⟨f, fd, fn_ok F sc_require_sign (by decide) fun cdv A outer s H E hr => ?_, mf, F.kp, bf⟩
  have S := sc_require_sign
  have tk := takes_cx (P := P) (w := w) (K := K) (mg := mg) (base := base) (N := ["text", "index", "sign"]) (qual := "require_sign") (sc := L2.defScope s_require_sign) (f := f) (cdv := cdv) (A := A) (outer := outer) (s := s) (H := H) (E := E)
  have pp := passes_cx (P := P) (w := w) (K := K) (mg := mg) (base := base) (N := ["text", "index", "sign"]) (qual := "require_sign") (sc := L2.defScope s_require_sign) (f := f) (cdv := cdv) (A := A) (outer := outer) (s := s) (H := H) (E := E)
  exact (b_cons (s_if (t_cmp (L2.op_neD hr.units) rf_ne (d_slice (d_var 0) (o_some (d_var 1)) (o_some (d_bin op_addA rf_add (d_var 1) d_int))) (d_var 2) (by rfl)) (b_one s_never) b_nil)
  (b_one (s_ret (d_bin op_addA rf_add (d_var 1) d_int))))
end Dn

set_option maxHeartbeats 4000000
namespace Dn
open PySem PySem.Spec PyProof.Rows
open L2 (PE PT PA PS PSs PG PGs PI Cx WX Takes HO Hp VK)
theorem ok_plain_at {P : Program} {w : World} {K : PySem.W.Frag} {mg : Str → Option Value} {base : Heap} {f : Addr} {fd : FuncData} (F : L2.Fun K "plain_at" "plain_at" s_plain_at f fd) (mf : mg "plain_at" = some (.ref f)) (bf : L2.Binds K fd ["text", "index"] []) (c_FIGURES : ∃ t, mg "FIGURES" = some (.str "0123456789" t)) (c_MOST_FIGURES : ∃ t, mg "MOST_FIGURES" = some (.int 60 t)) (n_int : mg "int" = none) (n_len : mg "len" = none) (n_min : mg "min" = none) : Has P w K mg base 1 "plain_at" ["text", "index"] f_plain_at := by
  refine ⟨f, fd, fn_ok F sc_plain_at (by decide) fun cdv A outer s H E hr => ?_, mf, F.kp, bf⟩
  have S := sc_plain_at
  have tk := takes_cx (P := P) (w := w) (K := K) (mg := mg) (base := base) (N := ["text", "index", "end", "most"]) (qual := "plain_at") (sc := L2.defScope s_plain_at) (f := f) (cdv := cdv) (A := A) (outer := outer) (s := s) (H := H) (E := E)
  have pp := passes_cx (P := P) (w := w) (K := K) (mg := mg) (base := base) (N := ["text", "index", "end", "most"]) (qual := "plain_at") (sc := L2.defScope s_plain_at) (f := f) (cdv := cdv) (A := A) (outer := outer) (s := s) (H := H) (E := E)
  exact (b_cons (s_par (i := 2) (j := 3) rfl S.nd rfl rfl (by decide) rfl rfl (d_cons (d_var 1) (d_cons (d_bin op_addA rf_add (d_var 1) (d_if (t_cmp (L2.op_eqD hr.units) rf_eq (d_slice (d_var 0) (o_some (d_var 1)) (o_some (d_bin op_addA rf_add (d_var 1) d_int))) d_str (by rfl)) d_int (d_gint (by rfl) c_MOST_FIGURES))) d_nil)) (by rfl))
  (b_cons (s_while pp (t_w (w_and (t_cmp L2.op_lt rf_cmp (d_var 2) (d_cb (call_minA rfl) rf_min (by rfl) n_min boot_min (d_cons (d_cb call_lenA rf_len (by rfl) n_len boot_len (d_cons (d_var 0) d_nil)) (d_cons (d_var 3) d_nil))) (by rfl)) (w_and1 (t_in (L2.hu_of hr) (d_ix (L2.hu_of hr) (d_var 0) (d_var 2)) (d_gstr (by rfl) c_FIGURES))))) (b_one (s_aug (i := 2) S.nd rfl (by first | exact .inl rfl | exact .inr rfl) d_int L2.ip_add rf_ip)))
  (b_cons (s_if (t_cmp (L2.op_eqD hr.units) rf_eq (d_var 2) (d_var 1) (by rfl)) (b_one s_never) b_nil)
  (b_one (s_ret (d_tup (d_cons (d_ct call_intA rf_intA (by rfl) n_int boot_int (d_cons (d_slice (d_var 0) (o_some (d_var 1)) (o_some (d_var 2))) d_nil)) (d_cons (d_var 2) d_nil))))))))
end Dn

set_option maxHeartbeats 4000000
namespace Dn
open PySem PySem.Spec PyProof.Rows
open L2 (PE PT PA PS PSs PG PGs PI Cx WX Takes HO Hp VK)
theorem ok_cycle_at {P : Program} {w : World} {K : PySem.W.Frag} {mg : Str → Option Value} {base : Heap} {f : Addr} {fd : FuncData} (F : L2.Fun K "cycle_at" "cycle_at" s_cycle_at f fd) (mf : mg "cycle_at" = some (.ref f)) (bf : L2.Binds K fd ["text", "index"] []) (h_plain_at : Has P w K mg base 1 "plain_at" ["text", "index"] f_plain_at) (h_require_sign : Has P w K mg base 1 "require_sign" ["text", "index", "sign"] f_require_sign) (n_len : mg "len" = none) (n_tuple : mg "tuple" = none) : Has P w K mg base 2 "cycle_at" ["text", "index"] f_cycle_at := by
  obtain ⟨g_plain_at, e_plain_at, F_plain_at, m_plain_at, k_plain_at, b_plain_at⟩ := h_plain_at
  obtain ⟨g_require_sign, e_require_sign, F_require_sign, m_require_sign, k_require_sign, b_require_sign⟩ := h_require_sign
  refine ⟨f, fd, fn_ok F sc_cycle_at (by decide) fun cdv A outer s H E hr => ?_, mf, F.kp, bf⟩
  have S := sc_cycle_at
  have tk := takes_cx (P := P) (w := w) (K := K) (mg := mg) (base := base) (N := ["text", "index", "place", "found"]) (qual := "cycle_at") (sc := L2.defScope s_cycle_at) (f := f) (cdv := cdv) (A := A) (outer := outer) (s := s) (H := H) (E := E)
  have pp := passes_cx (P := P) (w := w) (K := K) (mg := mg) (base := base) (N := ["text", "index", "place", "found"]) (qual := "cycle_at") (sc := L2.defScope s_cycle_at) (f := f) (cdv := cdv) (A := A) (outer := outer) (s := s) (H := H) (E := E)
  exact (b_cons (s_asg (d_call (ps := ["text", "index"]) F_plain_at hr (by rfl) m_plain_at k_plain_at b_plain_at tk (d_cons (d_var 0) (d_cons (d_call (ps := ["text", "index", "sign"]) F_require_sign hr (by rfl) m_require_sign k_require_sign b_require_sign tk (d_cons (d_var 0) (d_cons (d_var 1) (d_cons d_str d_nil)))) d_nil))) (g_tup rfl (gs_cons (g_name (i := 2) S.nd rfl (by first | exact .inl rfl | exact .inr rfl)) (gs_cons (g_name (i := 1) S.nd rfl (by first | exact .inl rfl | exact .inr rfl)) gs_nil))))
  (b_cons (s_set (i := 3) S.nd rfl (by first | exact .inl rfl | exact .inr rfl) (d_lst (d_cons (d_var 2) d_nil)))
  (b_cons (s_while pp (t_w (w_or (t_cmp L2.op_lt rf_cmp (d_cb call_lenA rf_len (by rfl) n_len boot_len (d_cons (d_var 3) d_nil)) d_int (by rfl)) (w_or1 (t_cmp (L2.op_eqD hr.units) rf_eq (d_slice (d_var 0) (o_some (d_var 1)) (o_some (d_bin op_addA rf_add (d_var 1) d_int))) d_str (by rfl))))) (b_cons (s_asg (d_call (ps := ["text", "index"]) F_plain_at hr (by rfl) m_plain_at k_plain_at b_plain_at tk (d_cons (d_var 0) (d_cons (d_call (ps := ["text", "index", "sign"]) F_require_sign hr (by rfl) m_require_sign k_require_sign b_require_sign tk (d_cons (d_var 0) (d_cons (d_var 1) (d_cons d_str d_nil)))) d_nil))) (g_tup rfl (gs_cons (g_name (i := 2) S.nd rfl (by first | exact .inl rfl | exact .inr rfl)) (gs_cons (g_name (i := 1) S.nd rfl (by first | exact .inl rfl | exact .inr rfl)) gs_nil))))
  (b_one (s_expr (d_bm PySem.F.plainAttrs_list PySem.F.slot_list_append PySem.F.type_list_append L2.mt_append rf_append (d_var 3) (d_cons (d_var 2) d_nil))))))
  (b_one (s_ret (d_tup (d_cons (d_ct L2.call_tuple_of rf_tuple (by rfl) n_tuple boot_tuple (d_cons (d_var 3) d_nil)) (d_cons (d_call (ps := ["text", "index", "sign"]) F_require_sign hr (by rfl) m_require_sign k_require_sign b_require_sign tk (d_cons (d_var 0) (d_cons (d_var 1) (d_cons d_str d_nil)))) d_nil))))))))
end Dn

set_option maxHeartbeats 4000000
namespace Dn
open PySem PySem.Spec PyProof.Rows
open L2 (PE PT PA PS PSs PG PGs PI Cx WX Takes HO Hp VK)
theorem ok_cycles_at {P : Program} {w : World} {K : PySem.W.Frag} {mg : Str → Option Value} {base : Heap} {f : Addr} {fd : FuncData} (F : L2.Fun K "cycles_at" "cycles_at" s_cycles_at f fd) (mf : mg "cycles_at" = some (.ref f)) (bf : L2.Binds K fd ["text", "index"] []) (h_cycle_at : Has P w K mg base 2 "cycle_at" ["text", "index"] f_cycle_at) (c_UNIT : ∃ t, mg "UNIT" = some (.str "()" t)) : Has P w K mg base 3 "cycles_at" ["text", "index"] f_cycles_at := by
  obtain ⟨g_cycle_at, e_cycle_at, F_cycle_at, m_cycle_at, k_cycle_at, b_cycle_at⟩ := h_cycle_at
  refine ⟨f, fd, fn_ok F sc_cycles_at (by decide) fun cdv A outer s H E hr => ?_, mf, F.kp, bf⟩
  have S := sc_cycles_at
  have tk := takes_cx (P := P) (w := w) (K := K) (mg := mg) (base := base) (N := ["text", "index", "cycle", "found"]) (qual := "cycles_at") (sc := L2.defScope s_cycles_at) (f := f) (cdv := cdv) (A := A) (outer := outer) (s := s) (H := H) (E := E)
  have pp := passes_cx (P := P) (w := w) (K := K) (mg := mg) (base := base) (N := ["text", "index", "cycle", "found"]) (qual := "cycles_at") (sc := L2.defScope s_cycles_at) (f := f) (cdv := cdv) (A := A) (outer := outer) (s := s) (H := H) (E := E)
  exact (b_cons (s_if (t_cmp (L2.op_eqD hr.units) rf_eq (d_slice (d_var 0) (o_some (d_var 1)) (o_some (d_bin op_addA rf_add (d_var 1) d_int))) (d_gstr (by rfl) c_UNIT) (by rfl)) (b_one (s_ret (d_tup (d_cons (d_lst d_nil) (d_cons (d_bin op_addA rf_add (d_var 1) d_int) d_nil))))) b_nil)
  (b_cons (s_asg (d_call (ps := ["text", "index"]) F_cycle_at hr (by rfl) m_cycle_at k_cycle_at b_cycle_at tk (d_cons (d_var 0) (d_cons (d_var 1) d_nil))) (g_tup rfl (gs_cons (g_name (i := 2) S.nd rfl (by first | exact .inl rfl | exact .inr rfl)) (gs_cons (g_name (i := 1) S.nd rfl (by first | exact .inl rfl | exact .inr rfl)) gs_nil))))
  (b_cons (s_set (i := 3) S.nd rfl (by first | exact .inl rfl | exact .inr rfl) (d_lst (d_cons (d_var 2) d_nil)))
  (b_cons (s_while pp (t_cmp (L2.op_eqD hr.units) rf_eq (d_slice (d_var 0) (o_some (d_var 1)) (o_some (d_bin op_addA rf_add (d_var 1) d_int))) d_str (by rfl)) (b_cons (s_asg (d_call (ps := ["text", "index"]) F_cycle_at hr (by rfl) m_cycle_at k_cycle_at b_cycle_at tk (d_cons (d_var 0) (d_cons (d_var 1) d_nil))) (g_tup rfl (gs_cons (g_name (i := 2) S.nd rfl (by first | exact .inl rfl | exact .inr rfl)) (gs_cons (g_name (i := 1) S.nd rfl (by first | exact .inl rfl | exact .inr rfl)) gs_nil))))
  (b_one (s_expr (d_bm PySem.F.plainAttrs_list PySem.F.slot_list_append PySem.F.type_list_append L2.mt_append rf_append (d_var 3) (d_cons (d_var 2) d_nil))))))
  (b_one (s_ret (d_tup (d_cons (d_var 3) (d_cons (d_var 1) d_nil)))))))))
end Dn

set_option maxHeartbeats 4000000
namespace Dn
open PySem PySem.Spec PyProof.Rows
open L2 (PE PT PA PS PSs PG PGs PI Cx WX Takes HO Hp VK)
theorem ok_require_end {P : Program} {w : World} {K : PySem.W.Frag} {mg : Str → Option Value} {base : Heap} {f : Addr} {fd : FuncData} (F : L2.Fun K "require_end" "require_end" s_require_end f fd) (mf : mg "require_end" = some (.ref f)) (bf : L2.Binds K fd ["text", "index"] []) (n_len : mg "len" = none) : Has P w K mg base 1 "require_end" ["text", "index"] f_require_end := by
  refine ⟨f, fd, fn_ok F sc_require_end (by decide) fun cdv A outer s H E hr => ?_, mf, F.kp, bf⟩
  have S := sc_require_end
  have tk := takes_cx (P := P) (w := w) (K := K) (mg := mg) (base := base) (N := ["text", "index"]) (qual := "require_end") (sc := L2.defScope s_require_end) (f := f) (cdv := cdv) (A := A) (outer := outer) (s := s) (H := H) (E := E)
  have pp := passes_cx (P := P) (w := w) (K := K) (mg := mg) (base := base) (N := ["text", "index"]) (qual := "require_end") (sc := L2.defScope s_require_end) (f := f) (cdv := cdv) (A := A) (outer := outer) (s := s) (H := H) (E := E)
  exact (b_one (s_if (t_cmp L2.op_lt rf_cmp (d_var 1) (d_cb call_lenA rf_len (by rfl) n_len boot_len (d_cons (d_var 0) d_nil)) (by rfl)) (b_one s_never) b_nil))
end Dn

set_option maxHeartbeats 4000000
namespace Dn
open PySem PySem.Spec PyProof.Rows
open L2 (PE PT PA PS PSs PG PGs PI Cx WX Takes HO Hp VK)
theorem ok_move_told {P : Program} {w : World} {K : PySem.W.Frag} {mg : Str → Option Value} {base : Heap} {f : Addr} {fd : FuncData} (F : L2.Fun K "move_told" "move_told" s_move_told f fd) (mf : mg "move_told" = some (.ref f)) (bf : L2.Binds K fd ["places", "cycles"] []) (n_enumerate : mg "enumerate" = none) (n_len : mg "len" = none) (n_list : mg "list" = none) (n_max : mg "max" = none) (n_range : mg "range" = none) (n_tuple : mg "tuple" = none) : Has P w K mg base 1 "move_told" ["places", "cycles"] f_move_told := by
  refine ⟨f, fd, fn_ok F sc_move_told (by decide) fun cdv A outer s H E hr => ?_, mf, F.kp, bf⟩
  have S := sc_move_told
  have tk := takes_cx (P := P) (w := w) (K := K) (mg := mg) (base := base) (N := ["places", "cycles", "told", "found", "cycle", "at", "place"]) (qual := "move_told") (sc := L2.defScope s_move_told) (f := f) (cdv := cdv) (A := A) (outer := outer) (s := s) (H := H) (E := E)
  have pp := passes_cx (P := P) (w := w) (K := K) (mg := mg) (base := base) (N := ["places", "cycles", "told", "found", "cycle", "at", "place"]) (qual := "move_told") (sc := L2.defScope s_move_told) (f := f) (cdv := cdv) (A := A) (outer := outer) (s := s) (H := H) (E := E)
  exact (b_cons (s_setLc2 (i := 2) rfl S.nd rfl rfl (by exact L2.sw_true rfl rfl rfl rfl) (i_seq (d_var 1)) (L2.blkOk_by (own := [("cycle", 4), ("place", 6)]) (by first | rfl | decide +kernel)) (vs1 := [6]) (by decide) (by intro _ _ _ _ _; exact (g_name (i := 4) S.nd rfl (by first | exact .inl rfl | exact .inr rfl))) (by decide) (by intro _ _ _ _ _; exact ts_nil) (by intro _ _ _ _ _; exact (i_seq (d_var 4))) (by intro _ _ _ _ _; exact (g_name (i := 6) S.nd rfl (by first | exact .inl rfl | exact .inr rfl))) (by decide) (by intro _ _ _ _ _; exact ts_nil) (by intro _ _ _ _ _; exact (d_var 6)))
  (b_cons (s_if (t_w (w_or (t_cmp L2.op_lt rf_cmp (d_cb call_lenA rf_len (by rfl) n_len boot_len (d_cons (d_dc rfl S.nd (i_seq (d_var 2)) (L2.blkOk_by (own := [("place", 6)]) (by first | rfl | decide +kernel)) (by intro _ _ _ _ _; exact (g_name (i := 6) S.nd rfl (by first | exact .inl rfl | exact .inr rfl))) (by decide) (by intro _ _ _ _ _; exact ts_nil) (by intro _ _ _ _ _; exact (d_var 6)) (by intro _ _ _ _ _; exact d_bl)) d_nil)) (d_cb call_lenA rf_len (by rfl) n_len boot_len (d_cons (d_var 2) d_nil)) (by rfl)) (w_or1 (t_cmp L2.op_ge rf_cmp (d_maxK rfl (by have := hr.units; show _ + 2 < _; exact Nat.lt_of_le_of_lt (Nat.add_le_add_left (by decide : 2 ≤ 64) _) this) (by rfl) n_max (d_cons (d_var 2) d_nil)) (d_var 0) (by rfl))))) (b_one s_never) b_nil)
  (b_cons (s_set (i := 3) S.nd rfl (by first | exact .inl rfl | exact .inr rfl) (d_lstRg rfl (by rfl) n_list (r_1 (by rfl) n_range (d_var 0))))
  (b_cons (s_for pp rfl (i_seq (d_var 1)) (g_name (i := 4) S.nd rfl (by first | exact .inl rfl | exact .inr rfl)) (b_one (s_for pp rfl (i_en (by rfl) n_enumerate (d_cons (d_var 4) d_nil)) (g_tup rfl (gs_cons (g_name (i := 5) S.nd rfl (by first | exact .inl rfl | exact .inr rfl)) (gs_cons (g_name (i := 6) S.nd rfl (by first | exact .inl rfl | exact .inr rfl)) gs_nil))) (b_one (s_setIt (L2.hu_of hr) (d_var 3) (d_var 6) (d_ix (L2.hu_of hr) (d_var 4) (d_bin L2.op_mod rf_mod (d_bin op_addA rf_add (d_var 5) d_int) (d_cb call_lenA rf_len (by rfl) n_len boot_len (d_cons (d_var 4) d_nil)))))))))
  (b_one (s_ret (d_ct L2.call_tuple_of rf_tuple (by rfl) n_tuple boot_tuple (d_cons (d_var 3) d_nil))))))))
end Dn

set_option maxHeartbeats 4000000
namespace Dn
open PySem PySem.Spec PyProof.Rows
open L2 (PE PT PA PS PSs PG PGs PI Cx WX Takes HO Hp VK)
theorem ok_read_move {P : Program} {w : World} {K : PySem.W.Frag} {mg : Str → Option Value} {base : Heap} {f : Addr} {fd : FuncData} (F : L2.Fun K "read_move" "read_move" s_read_move f fd) (mf : mg "read_move" = some (.ref f)) (bf : L2.Binds K fd ["text", "places"] []) (h_cycles_at : Has P w K mg base 3 "cycles_at" ["text", "index"] f_cycles_at) (h_move_told : Has P w K mg base 1 "move_told" ["places", "cycles"] f_move_told) (h_require_end : Has P w K mg base 1 "require_end" ["text", "index"] f_require_end) (h_require_text : Has P w K mg base 1 "require_text" ["value"] f_require_text) (h_require_within : Has P w K mg base 3 "require_within" ["value", "low", "high"] f_require_within) (c_MOST_PLACES : ∃ t, mg "MOST_PLACES" = some (.int 24 t)) : Has P w K mg base 4 "read_move" ["text", "places"] f_read_move := by
  obtain ⟨g_cycles_at, e_cycles_at, F_cycles_at, m_cycles_at, k_cycles_at, b_cycles_at⟩ := h_cycles_at
  obtain ⟨g_move_told, e_move_told, F_move_told, m_move_told, k_move_told, b_move_told⟩ := h_move_told
  replace F_move_told := fn_mono F_move_told (by decide : 1 ≤ 3)
  obtain ⟨g_require_end, e_require_end, F_require_end, m_require_end, k_require_end, b_require_end⟩ := h_require_end
  replace F_require_end := fn_mono F_require_end (by decide : 1 ≤ 3)
  obtain ⟨g_require_text, e_require_text, F_require_text, m_require_text, k_require_text, b_require_text⟩ := h_require_text
  replace F_require_text := fn_mono F_require_text (by decide : 1 ≤ 3)
  obtain ⟨g_require_within, e_require_within, F_require_within, m_require_within, k_require_within, b_require_within⟩ := h_require_within
  refine ⟨f, fd, fn_ok F sc_read_move (by decide) fun cdv A outer s H E hr => ?_, mf, F.kp, bf⟩
  have S := sc_read_move
  have tk := takes_cx (P := P) (w := w) (K := K) (mg := mg) (base := base) (N := ["text", "places", "cycles", "index"]) (qual := "read_move") (sc := L2.defScope s_read_move) (f := f) (cdv := cdv) (A := A) (outer := outer) (s := s) (H := H) (E := E)
  have pp := passes_cx (P := P) (w := w) (K := K) (mg := mg) (base := base) (N := ["text", "places", "cycles", "index"]) (qual := "read_move") (sc := L2.defScope s_read_move) (f := f) (cdv := cdv) (A := A) (outer := outer) (s := s) (H := H) (E := E)
  exact (b_cons (s_expr (d_call (ps := ["value"]) F_require_text hr (by rfl) m_require_text k_require_text b_require_text tk (d_cons (d_var 0) d_nil)))
  (b_cons (s_expr (d_call (ps := ["value", "low", "high"]) F_require_within hr (by rfl) m_require_within k_require_within b_require_within tk (d_cons (d_var 1) (d_cons d_int (d_cons (d_gint (by rfl) c_MOST_PLACES) d_nil)))))
  (b_cons (s_asg (d_call (ps := ["text", "index"]) F_cycles_at hr (by rfl) m_cycles_at k_cycles_at b_cycles_at tk (d_cons (d_var 0) (d_cons d_int d_nil))) (g_tup rfl (gs_cons (g_name (i := 2) S.nd rfl (by first | exact .inl rfl | exact .inr rfl)) (gs_cons (g_name (i := 3) S.nd rfl (by first | exact .inl rfl | exact .inr rfl)) gs_nil))))
  (b_cons (s_expr (d_call (ps := ["text", "index"]) F_require_end hr (by rfl) m_require_end k_require_end b_require_end tk (d_cons (d_var 0) (d_cons (d_var 3) d_nil))))
  (b_one (s_ret (d_call (ps := ["places", "cycles"]) F_move_told hr (by rfl) m_move_told k_move_told b_move_told tk (d_cons (d_var 1) (d_cons (d_var 2) d_nil)))))))))
end Dn

set_option maxHeartbeats 4000000
namespace Dn
open PySem PySem.Spec PyProof.Rows
open L2 (PE PT PA PS PSs PG PGs PI Cx WX Takes HO Hp VK)
theorem ok_signed_at {P : Program} {w : World} {K : PySem.W.Frag} {mg : Str → Option Value} {base : Heap} {f : Addr} {fd : FuncData} (F : L2.Fun K "signed_at" "signed_at" s_signed_at f fd) (mf : mg "signed_at" = some (.ref f)) (bf : L2.Binds K fd ["text", "index"] []) (h_plain_at : Has P w K mg base 1 "plain_at" ["text", "index"] f_plain_at) : Has P w K mg base 2 "signed_at" ["text", "index"] f_signed_at := by
  obtain ⟨g_plain_at, e_plain_at, F_plain_at, m_plain_at, k_plain_at, b_plain_at⟩ := h_plain_at
  refine ⟨f, fd, fn_ok F sc_signed_at (by decide) fun cdv A outer s H E hr => ?_, mf, F.kp, bf⟩
  have S := sc_signed_at
  have tk := takes_cx (P := P) (w := w) (K := K) (mg := mg) (base := base) (N := ["text", "index", "number", "end"]) (qual := "signed_at") (sc := L2.defScope s_signed_at) (f := f) (cdv := cdv) (A := A) (outer := outer) (s := s) (H := H) (E := E)
  have pp := passes_cx (P := P) (w := w) (K := K) (mg := mg) (base := base) (N := ["text", "index", "number", "end"]) (qual := "signed_at") (sc := L2.defScope s_signed_at) (f := f) (cdv := cdv) (A := A) (outer := outer) (s := s) (H := H) (E := E)
  exact (b_cons (s_if (t_cmp (L2.op_neD hr.units) rf_ne (d_slice (d_var 0) (o_some (d_var 1)) (o_some (d_bin op_addA rf_add (d_var 1) d_int))) d_str (by rfl)) (b_one (s_ret (d_call (ps := ["text", "index"]) F_plain_at hr (by rfl) m_plain_at k_plain_at b_plain_at tk (d_cons (d_var 0) (d_cons (d_var 1) d_nil))))) b_nil)
  (b_cons (s_if (t_cmp (L2.op_eqD hr.units) rf_eq (d_slice (d_var 0) (o_some (d_bin op_addA rf_add (d_var 1) d_int)) (o_some (d_bin op_addA rf_add (d_var 1) d_int))) d_str (by rfl)) (b_one s_never) b_nil)
  (b_cons (s_asg (d_call (ps := ["text", "index"]) F_plain_at hr (by rfl) m_plain_at k_plain_at b_plain_at tk (d_cons (d_var 0) (d_cons (d_bin op_addA rf_add (d_var 1) d_int) d_nil))) (g_tup rfl (gs_cons (g_name (i := 2) S.nd rfl (by first | exact .inl rfl | exact .inr rfl)) (gs_cons (g_name (i := 3) S.nd rfl (by first | exact .inl rfl | exact .inr rfl)) gs_nil))))
  (b_one (s_ret (d_tup (d_cons (d_un L2.un_neg rf_neg (d_var 2)) (d_cons (d_var 3) d_nil))))))))
end Dn

set_option maxHeartbeats 4000000
namespace Dn
open PySem PySem.Spec PyProof.Rows
open L2 (PE PT PA PS PSs PG PGs PI Cx WX Takes HO Hp VK)
theorem ok_read_row {P : Program} {w : World} {K : PySem.W.Frag} {mg : Str → Option Value} {base : Heap} {f : Addr} {fd : FuncData} (F : L2.Fun K "read_row" "read_row" s_read_row f fd) (mf : mg "read_row" = some (.ref f)) (bf : L2.Binds K fd ["text"] []) (h_require_end : Has P w K mg base 1 "require_end" ["text", "index"] f_require_end) (h_require_text : Has P w K mg base 1 "require_text" ["value"] f_require_text) (h_signed_at : Has P w K mg base 2 "signed_at" ["text", "index"] f_signed_at) (c_MOST_MEMBERS : ∃ t, mg "MOST_MEMBERS" = some (.int 60 t)) (n_len : mg "len" = none) (n_tuple : mg "tuple" = none) : Has P w K mg base 3 "read_row" ["text"] f_read_row := by
  obtain ⟨g_require_end, e_require_end, F_require_end, m_require_end, k_require_end, b_require_end⟩ := h_require_end
  replace F_require_end := fn_mono F_require_end (by decide : 1 ≤ 2)
  obtain ⟨g_require_text, e_require_text, F_require_text, m_require_text, k_require_text, b_require_text⟩ := h_require_text
  replace F_require_text := fn_mono F_require_text (by decide : 1 ≤ 2)
  obtain ⟨g_signed_at, e_signed_at, F_signed_at, m_signed_at, k_signed_at, b_signed_at⟩ := h_signed_at
  refine ⟨f, fd, fn_ok F sc_read_row (by decide) fun cdv A outer s H E hr => ?_, mf, F.kp, bf⟩
  have S := sc_read_row
  have tk := takes_cx (P := P) (w := w) (K := K) (mg := mg) (base := base) (N := ["text", "number", "index", "found"]) (qual := "read_row") (sc := L2.defScope s_read_row) (f := f) (cdv := cdv) (A := A) (outer := outer) (s := s) (H := H) (E := E)
  have pp := passes_cx (P := P) (w := w) (K := K) (mg := mg) (base := base) (N := ["text", "number", "index", "found"]) (qual := "read_row") (sc := L2.defScope s_read_row) (f := f) (cdv := cdv) (A := A) (outer := outer) (s := s) (H := H) (E := E)
  exact (b_cons (s_expr (d_call (ps := ["value"]) F_require_text hr (by rfl) m_require_text k_require_text b_require_text tk (d_cons (d_var 0) d_nil)))
  (b_cons (s_asg (d_call (ps := ["text", "index"]) F_signed_at hr (by rfl) m_signed_at k_signed_at b_signed_at tk (d_cons (d_var 0) (d_cons d_int d_nil))) (g_tup rfl (gs_cons (g_name (i := 1) S.nd rfl (by first | exact .inl rfl | exact .inr rfl)) (gs_cons (g_name (i := 2) S.nd rfl (by first | exact .inl rfl | exact .inr rfl)) gs_nil))))
  (b_cons (s_set (i := 3) S.nd rfl (by first | exact .inl rfl | exact .inr rfl) (d_lst (d_cons (d_var 1) d_nil)))
  (b_cons (s_while pp (t_cmp (L2.op_eqD hr.units) rf_eq (d_slice (d_var 0) (o_some (d_var 2)) (o_some (d_bin op_addA rf_add (d_var 2) d_int))) d_str (by rfl)) (b_cons (s_asg (d_call (ps := ["text", "index"]) F_signed_at hr (by rfl) m_signed_at k_signed_at b_signed_at tk (d_cons (d_var 0) (d_cons (d_bin op_addA rf_add (d_var 2) d_int) d_nil))) (g_tup rfl (gs_cons (g_name (i := 1) S.nd rfl (by first | exact .inl rfl | exact .inr rfl)) (gs_cons (g_name (i := 2) S.nd rfl (by first | exact .inl rfl | exact .inr rfl)) gs_nil))))
  (b_one (s_expr (d_bm PySem.F.plainAttrs_list PySem.F.slot_list_append PySem.F.type_list_append L2.mt_append rf_append (d_var 3) (d_cons (d_var 1) d_nil))))))
  (b_cons (s_expr (d_call (ps := ["text", "index"]) F_require_end hr (by rfl) m_require_end k_require_end b_require_end tk (d_cons (d_var 0) (d_cons (d_var 2) d_nil))))
  (b_cons (s_if (t_cmp L2.op_gt rf_cmp (d_cb call_lenA rf_len (by rfl) n_len boot_len (d_cons (d_var 3) d_nil)) (d_gint (by rfl) c_MOST_MEMBERS) (by rfl)) (b_one s_never) b_nil)
  (b_one (s_ret (d_ct L2.call_tuple_of rf_tuple (by rfl) n_tuple boot_tuple (d_cons (d_var 3) d_nil))))))))))
end Dn

set_option maxHeartbeats 4000000
namespace Dn
open PySem PySem.Spec PyProof.Rows
open L2 (PE PT PA PS PSs PG PGs PI Cx WX Takes HO Hp VK)
theorem ok_term_at {P : Program} {w : World} {K : PySem.W.Frag} {mg : Str → Option Value} {base : Heap} {f : Addr} {fd : FuncData} (F : L2.Fun K "term_at" "term_at" s_term_at f fd) (mf : mg "term_at" = some (.ref f)) (bf : L2.Binds K fd ["text", "index"] []) (h_plain_at : Has P w K mg base 1 "plain_at" ["text", "index"] f_plain_at) (h_require_sign : Has P w K mg base 1 "require_sign" ["text", "index", "sign"] f_require_sign) : Has P w K mg base 2 "term_at" ["text", "index"] f_term_at := by
  obtain ⟨g_plain_at, e_plain_at, F_plain_at, m_plain_at, k_plain_at, b_plain_at⟩ := h_plain_at
  obtain ⟨g_require_sign, e_require_sign, F_require_sign, m_require_sign, k_require_sign, b_require_sign⟩ := h_require_sign
  refine ⟨f, fd, fn_ok F sc_term_at (by decide) fun cdv A outer s H E hr => ?_, mf, F.kp, bf⟩
  have S := sc_term_at
  have tk := takes_cx (P := P) (w := w) (K := K) (mg := mg) (base := base) (N := ["text", "index", "number", "place"]) (qual := "term_at") (sc := L2.defScope s_term_at) (f := f) (cdv := cdv) (A := A) (outer := outer) (s := s) (H := H) (E := E)
  have pp := passes_cx (P := P) (w := w) (K := K) (mg := mg) (base := base) (N := ["text", "index", "number", "place"]) (qual := "term_at") (sc := L2.defScope s_term_at) (f := f) (cdv := cdv) (A := A) (outer := outer) (s := s) (H := H) (E := E)
  exact (b_cons (s_set (i := 2) S.nd rfl (by first | exact .inl rfl | exact .inr rfl) d_int)
  (b_cons (s_if (t_cmp (L2.op_neD hr.units) rf_ne (d_slice (d_var 0) (o_some (d_var 1)) (o_some (d_bin op_addA rf_add (d_var 1) d_int))) d_str (by rfl)) (b_one (s_asg (d_call (ps := ["text", "index"]) F_plain_at hr (by rfl) m_plain_at k_plain_at b_plain_at tk (d_cons (d_var 0) (d_cons (d_var 1) d_nil))) (g_tup rfl (gs_cons (g_name (i := 2) S.nd rfl (by first | exact .inl rfl | exact .inr rfl)) (gs_cons (g_name (i := 1) S.nd rfl (by first | exact .inl rfl | exact .inr rfl)) gs_nil))))) b_nil)
  (b_cons (s_asg (d_call (ps := ["text", "index"]) F_plain_at hr (by rfl) m_plain_at k_plain_at b_plain_at tk (d_cons (d_var 0) (d_cons (d_call (ps := ["text", "index", "sign"]) F_require_sign hr (by rfl) m_require_sign k_require_sign b_require_sign tk (d_cons (d_var 0) (d_cons (d_var 1) (d_cons d_str d_nil)))) d_nil))) (g_tup rfl (gs_cons (g_name (i := 3) S.nd rfl (by first | exact .inl rfl | exact .inr rfl)) (gs_cons (g_name (i := 1) S.nd rfl (by first | exact .inl rfl | exact .inr rfl)) gs_nil))))
  (b_one (s_ret (d_tup (d_cons (d_tup (d_cons (d_var 2) (d_cons (d_var 3) d_nil))) (d_cons (d_call (ps := ["text", "index", "sign"]) F_require_sign hr (by rfl) m_require_sign k_require_sign b_require_sign tk (d_cons (d_var 0) (d_cons (d_var 1) (d_cons d_str d_nil)))) d_nil))))))))
end Dn

set_option maxHeartbeats 4000000
namespace Dn
open PySem PySem.Spec PyProof.Rows
open L2 (PE PT PA PS PSs PG PGs PI Cx WX Takes HO Hp VK)
theorem ok_terms_at {P : Program} {w : World} {K : PySem.W.Frag} {mg : Str → Option Value} {base : Heap} {f : Addr} {fd : FuncData} (F : L2.Fun K "terms_at" "terms_at" s_terms_at f fd) (mf : mg "terms_at" = some (.ref f)) (bf : L2.Binds K fd ["text"] []) (h_require_sign : Has P w K mg base 1 "require_sign" ["text", "index", "sign"] f_require_sign) (h_term_at : Has P w K mg base 2 "term_at" ["text", "index"] f_term_at) (n_len : mg "len" = none) : Has P w K mg base 3 "terms_at" ["text"] f_terms_at := by
  obtain ⟨g_require_sign, e_require_sign, F_require_sign, m_require_sign, k_require_sign, b_require_sign⟩ := h_require_sign
  replace F_require_sign := fn_mono F_require_sign (by decide : 1 ≤ 2)
  obtain ⟨g_term_at, e_term_at, F_term_at, m_term_at, k_term_at, b_term_at⟩ := h_term_at
  refine ⟨f, fd, fn_ok F sc_terms_at (by decide) fun cdv A outer s H E hr => ?_, mf, F.kp, bf⟩
  have S := sc_terms_at
  have tk := takes_cx (P := P) (w := w) (K := K) (mg := mg) (base := base) (N := ["text", "sign", "index", "number", "place", "found"]) (qual := "terms_at") (sc := L2.defScope s_terms_at) (f := f) (cdv := cdv) (A := A) (outer := outer) (s := s) (H := H) (E := E)
  have pp := passes_cx (P := P) (w := w) (K := K) (mg := mg) (base := base) (N := ["text", "sign", "index", "number", "place", "found"]) (qual := "terms_at") (sc := L2.defScope s_terms_at) (f := f) (cdv := cdv) (A := A) (outer := outer) (s := s) (H := H) (E := E)
  exact (b_cons (s_asg (d_if (t_cmp (L2.op_eqD hr.units) rf_eq (d_slice (d_var 0) o_none (o_some d_int)) d_str (by rfl)) (d_tup (d_cons (d_un L2.un_neg rf_neg d_int) (d_cons d_int d_nil))) (d_tup (d_cons d_int (d_cons d_int d_nil)))) (g_tup rfl (gs_cons (g_name (i := 1) S.nd rfl (by first | exact .inl rfl | exact .inr rfl)) (gs_cons (g_name (i := 2) S.nd rfl (by first | exact .inl rfl | exact .inr rfl)) gs_nil))))
  (b_cons (s_if (t_cmp (L2.op_eqD hr.units) rf_eq (d_slice (d_var 0) o_none (o_some d_int)) d_str (by rfl)) (b_one s_never) b_nil)
  (b_cons (s_asg (d_call (ps := ["text", "index"]) F_term_at hr (by rfl) m_term_at k_term_at b_term_at tk (d_cons (d_var 0) (d_cons (d_var 2) d_nil))) (g_tup rfl (gs_cons (g_tup rfl (gs_cons (g_name (i := 3) S.nd rfl (by first | exact .inl rfl | exact .inr rfl)) (gs_cons (g_name (i := 4) S.nd rfl (by first | exact .inl rfl | exact .inr rfl)) gs_nil))) (gs_cons (g_name (i := 2) S.nd rfl (by first | exact .inl rfl | exact .inr rfl)) gs_nil))))
  (b_cons (s_set (i := 5) S.nd rfl (by first | exact .inl rfl | exact .inr rfl) (d_lst (d_cons (d_tup (d_cons (d_bin op_mulA rf_mul (d_var 1) (d_var 3)) (d_cons (d_var 4) d_nil))) d_nil)))
  (b_cons (s_while pp (t_cmp L2.op_lt rf_cmp (d_var 2) (d_cb call_lenA rf_len (by rfl) n_len boot_len (d_cons (d_var 0) d_nil)) (by rfl)) (b_cons (s_set (i := 2) S.nd rfl (by first | exact .inl rfl | exact .inr rfl) (d_call (ps := ["text", "index", "sign"]) F_require_sign hr (by rfl) m_require_sign k_require_sign b_require_sign tk (d_cons (d_var 0) (d_cons (d_var 2) (d_cons d_str d_nil)))))
  (b_cons (s_if (t_nin (L2.hu_of hr) (d_slice (d_var 0) (o_some (d_var 2)) (o_some (d_bin op_addA rf_add (d_var 2) d_int))) (d_tup (d_cons d_str (d_cons d_str d_nil)))) (b_one s_never) b_nil)
  (b_cons (s_set (i := 1) S.nd rfl (by first | exact .inl rfl | exact .inr rfl) (d_if (t_cmp (L2.op_eqD hr.units) rf_eq (d_ix (L2.hu_of hr) (d_var 0) (d_var 2)) d_str (by rfl)) d_int (d_un L2.un_neg rf_neg d_int)))
  (b_cons (s_asg (d_call (ps := ["text", "index"]) F_term_at hr (by rfl) m_term_at k_term_at b_term_at tk (d_cons (d_var 0) (d_cons (d_call (ps := ["text", "index", "sign"]) F_require_sign hr (by rfl) m_require_sign k_require_sign b_require_sign tk (d_cons (d_var 0) (d_cons (d_bin op_addA rf_add (d_var 2) d_int) (d_cons d_str d_nil)))) d_nil))) (g_tup rfl (gs_cons (g_tup rfl (gs_cons (g_name (i := 3) S.nd rfl (by first | exact .inl rfl | exact .inr rfl)) (gs_cons (g_name (i := 4) S.nd rfl (by first | exact .inl rfl | exact .inr rfl)) gs_nil))) (gs_cons (g_name (i := 2) S.nd rfl (by first | exact .inl rfl | exact .inr rfl)) gs_nil))))
  (b_one (s_expr (d_bm PySem.F.plainAttrs_list PySem.F.slot_list_append PySem.F.type_list_append L2.mt_append rf_append (d_var 5) (d_cons (d_tup (d_cons (d_bin op_mulA rf_mul (d_var 1) (d_var 3)) (d_cons (d_var 4) d_nil))) d_nil)))))))))
  (b_one (s_ret (d_var 5))))))))
end Dn

set_option maxHeartbeats 4000000
namespace Dn
open PySem PySem.Spec PyProof.Rows
open L2 (PE PT PA PS PSs PG PGs PI Cx WX Takes HO Hp VK)
theorem ok_read_kinds {P : Program} {w : World} {K : PySem.W.Frag} {mg : Str → Option Value} {base : Heap} {f : Addr} {fd : FuncData} (F : L2.Fun K "read_kinds" "read_kinds" s_read_kinds f fd) (mf : mg "read_kinds" = some (.ref f)) (bf : L2.Binds K fd ["text", "length"] []) (h_are_integers : Has P w K mg base 3 "are_integers" ["value"] f_are_integers) (h_require_text : Has P w K mg base 1 "require_text" ["value"] f_require_text) (h_require_within : Has P w K mg base 3 "require_within" ["value", "low", "high"] f_require_within) (h_terms_at : Has P w K mg base 3 "terms_at" ["text"] f_terms_at) (c_MOST_MEMBERS : ∃ t, mg "MOST_MEMBERS" = some (.int 60 t)) (c_NOTHING : ∃ t, mg "NOTHING" = some (.str "0" t)) (n_any : mg "any" = none) (n_tuple : mg "tuple" = none) : Has P w K mg base 4 "read_kinds" ["text", "length"] f_read_kinds := by
  obtain ⟨g_are_integers, e_are_integers, F_are_integers, m_are_integers, k_are_integers, b_are_integers⟩ := h_are_integers
  obtain ⟨g_require_text, e_require_text, F_require_text, m_require_text, k_require_text, b_require_text⟩ := h_require_text
  replace F_require_text := fn_mono F_require_text (by decide : 1 ≤ 3)
  obtain ⟨g_require_within, e_require_within, F_require_within, m_require_within, k_require_within, b_require_within⟩ := h_require_within
  obtain ⟨g_terms_at, e_terms_at, F_terms_at, m_terms_at, k_terms_at, b_terms_at⟩ := h_terms_at
  refine ⟨f, fd, fn_ok F sc_read_kinds (by decide) fun cdv A outer s H E hr => ?_, mf, F.kp, bf⟩
  have S := sc_read_kinds
  have tk := takes_cx (P := P) (w := w) (K := K) (mg := mg) (base := base) (N := ["text", "length", "terms", "found", "number", "place"]) (qual := "read_kinds") (sc := L2.defScope s_read_kinds) (f := f) (cdv := cdv) (A := A) (outer := outer) (s := s) (H := H) (E := E)
  have pp := passes_cx (P := P) (w := w) (K := K) (mg := mg) (base := base) (N := ["text", "length", "terms", "found", "number", "place"]) (qual := "read_kinds") (sc := L2.defScope s_read_kinds) (f := f) (cdv := cdv) (A := A) (outer := outer) (s := s) (H := H) (E := E)
  exact (b_cons (s_expr (d_call (ps := ["value"]) F_require_text hr (by rfl) m_require_text k_require_text b_require_text tk (d_cons (d_var 0) d_nil)))
  (b_cons (s_expr (d_call (ps := ["value", "low", "high"]) F_require_within hr (by rfl) m_require_within k_require_within b_require_within tk (d_cons (d_var 1) (d_cons d_int (d_cons (d_gint (by rfl) c_MOST_MEMBERS) d_nil)))))
  (b_cons (s_set (i := 2) S.nd rfl (by first | exact .inl rfl | exact .inr rfl) (d_if (t_cmp (L2.op_eqD hr.units) rf_eq (d_var 0) (d_gstr (by rfl) c_NOTHING) (by rfl)) (d_lst d_nil) (d_call (ps := ["text"]) F_terms_at hr (by rfl) m_terms_at k_terms_at b_terms_at tk (d_cons (d_var 0) d_nil))))
  (b_cons (s_if (t_val (d_cb (L2.cr_any rfl) rf_any (by rfl) n_any boot_any (d_cons (d_lc rfl S.nd (i_seq (d_var 2)) (L2.blkOk_by (own := [("number", 4), ("place", 5)]) (by first | rfl | decide +kernel)) (by intro _ _ _ _ _; exact (g_tup rfl (gs_cons (g_name (i := 4) S.nd rfl (by first | exact .inl rfl | exact .inr rfl)) (gs_cons (g_name (i := 5) S.nd rfl (by first | exact .inl rfl | exact .inr rfl)) gs_nil)))) (by decide) (by intro _ _ _ _ _; exact ts_nil) (by intro _ _ _ _ _; exact (d_cmp L2.op_ge rf_cmp (d_var 5) (d_var 1) (by rfl)))) d_nil))) (b_one s_never) b_nil)
  (b_cons (s_set (i := 3) S.nd rfl (by first | exact .inl rfl | exact .inr rfl) (d_bin op_mulA rf_mul (d_lst (d_cons d_int d_nil)) (d_var 1)))
  (b_cons (s_for pp rfl (i_seq (d_var 2)) (g_tup rfl (gs_cons (g_name (i := 4) S.nd rfl (by first | exact .inl rfl | exact .inr rfl)) (gs_cons (g_name (i := 5) S.nd rfl (by first | exact .inl rfl | exact .inr rfl)) gs_nil))) (b_one (s_augIt (d_var 3) (d_var 5) (d_var 4))))
  (b_cons (s_if (t_not (t_val (d_call (ps := ["value"]) F_are_integers hr (by rfl) m_are_integers k_are_integers b_are_integers tk (d_cons (d_ct L2.call_tuple_of rf_tuple (by rfl) n_tuple boot_tuple (d_cons (d_var 3) d_nil)) d_nil)))) (b_one s_never) b_nil)
  (b_one (s_ret (d_ct L2.call_tuple_of rf_tuple (by rfl) n_tuple boot_tuple (d_cons (d_var 3) d_nil)))))))))))
end Dn

set_option maxHeartbeats 4000000
namespace Dn
open PySem PySem.Spec PyProof.Rows
open L2 (PE PT PA PS PSs PG PGs PI Cx WX Takes HO Hp VK)
theorem ok__law_bag {P : Program} {w : World} {K : PySem.W.Frag} {mg : Str → Option Value} {base : Heap} {f : Addr} {fd : FuncData} (F : L2.Fun K "_law_bag" "_law_bag" s__law_bag f fd) (mf : mg "_law_bag" = some (.ref f)) (bf : L2.Binds K fd ["_law_script", "_law_spot"] []) (n_abs : mg "abs" = none) (n_int : mg "int" = none) (n_len : mg "len" = none) (n_max : mg "max" = none) (n_sum : mg "sum" = none) : Has P w K mg base 1 "_law_bag" ["_law_script", "_law_spot"] f__law_bag := by
  refine ⟨f, fd, fn_ok F sc__law_bag (by decide) fun cdv A outer s H E hr => ?_, mf, F.kp, bf⟩
  have S := sc__law_bag
  have tk := takes_cx (P := P) (w := w) (K := K) (mg := mg) (base := base) (N := ["_law_script", "_law_spot", "_law_cell", "_law_great", "_law_mixed_here"]) (qual := "_law_bag") (sc := L2.defScope s__law_bag) (f := f) (cdv := cdv) (A := A) (outer := outer) (s := s) (H := H) (E := E)
  have pp := passes_cx (P := P) (w := w) (K := K) (mg := mg) (base := base) (N := ["_law_script", "_law_spot", "_law_cell", "_law_great", "_law_mixed_here"]) (qual := "_law_bag") (sc := L2.defScope s__law_bag) (f := f) (cdv := cdv) (A := A) (outer := outer) (s := s) (H := H) (E := E)
  exact (b_cons (s_set (i := 2) S.nd rfl (by first | exact .inl rfl | exact .inr rfl) (d_if (t_cmp L2.op_lt rf_cmp (d_var 1) (d_cb call_lenA rf_len (by rfl) n_len boot_len (d_cons (d_var 0) d_nil)) (by rfl)) (d_ix (L2.hu_of hr) (d_var 0) (d_var 1)) (d_bin op_addA rf_add (d_bin op_addA rf_add (d_cb (L2.cr_sum rfl) rf_sum (by rfl) n_sum boot_sum (d_cons (d_slice (d_var 0) o_none (o_some d_int)) d_nil)) (d_bin op_mulA rf_mul d_int (d_var 1))) d_int)))
  (b_cons (s_set (i := 3) S.nd rfl (by first | exact .inl rfl | exact .inr rfl) (d_bin L2.op_mod rf_mod (d_ct call_intA rf_intA (by rfl) n_int boot_int (d_cons (d_cb L2.call_abs rf_abs (by rfl) n_abs boot_abs (d_cons (d_var 2) d_nil)) d_nil)) (d_bin op_powW rf_pow (d_bin op_powW rf_pow d_int d_int) d_int)))
  (b_cons (s_set (i := 4) S.nd rfl (by first | exact .inl rfl | exact .inr rfl) (d_bin op_addA rf_add (d_bin op_addA rf_add (d_bin op_addA rf_add (d_bin op_mulA rf_mul (d_bin L2.op_mod rf_mod (d_ct call_intA rf_intA (by rfl) n_int boot_int (d_cons (d_var 3) d_nil)) d_int) d_int) (d_bin op_mulA rf_mul d_int (d_var 1))) (d_bin op_mulA rf_mul d_int (d_ct call_intA rf_intA (by rfl) n_int boot_int (d_cons (d_cmp L2.op_lt rf_cmp (d_var 2) d_int (by rfl)) d_nil)))) d_int))
  (b_one (s_ret (d_lst (d_cons (d_cb (call_maxA rfl) rf_max (by rfl) n_max boot_max (d_cons d_int (d_cons (d_bin L2.op_sub rf_sub (d_var 3) (d_bin op_powW rf_pow d_int d_int)) d_nil))) (d_cons (d_bin L2.op_mod rf_mod (d_ct call_intA rf_intA (by rfl) n_int boot_int (d_cons (d_var 4) d_nil)) d_int) (d_cons d_int d_nil)))))))))
end Dn

set_option maxHeartbeats 4000000
namespace Dn
open PySem PySem.Spec PyProof.Rows
open L2 (PE PT PA PS PSs PG PGs PI Cx WX Takes HO Hp VK)
theorem ok__law_grab {P : Program} {w : World} {K : PySem.W.Frag} {mg : Str → Option Value} {base : Heap} {f : Addr} {fd : FuncData} (F : L2.Fun K "_law_grab" "_law_grab" s__law_grab f fd) (mf : mg "_law_grab" = some (.ref f)) (bf : L2.Binds K fd ["_law_bag_here", "_law_total"] []) (n_int : mg "int" = none) : Has P w K mg base 1 "_law_grab" ["_law_bag_here", "_law_total"] f__law_grab := by
  refine ⟨f, fd, fn_ok F sc__law_grab (by decide) fun cdv A outer s H E hr => ?_, mf, F.kp, bf⟩
  have S := sc__law_grab
  have tk := takes_cx (P := P) (w := w) (K := K) (mg := mg) (base := base) (N := ["_law_bag_here", "_law_total", "_law_found", "_law_one", "_law_two"]) (qual := "_law_grab") (sc := L2.defScope s__law_grab) (f := f) (cdv := cdv) (A := A) (outer := outer) (s := s) (H := H) (E := E)
  have pp := passes_cx (P := P) (w := w) (K := K) (mg := mg) (base := base) (N := ["_law_bag_here", "_law_total", "_law_found", "_law_one", "_law_two"]) (qual := "_law_grab") (sc := L2.defScope s__law_grab) (f := f) (cdv := cdv) (A := A) (outer := outer) (s := s) (H := H) (E := E)
  exact (b_cons (s_if (t_cmp L2.op_gt rf_cmp (d_ix (L2.hu_of hr) (d_var 0) d_int) d_int (by rfl)) (b_cons (s_set (i := 2) S.nd rfl (by first | exact .inl rfl | exact .inr rfl) (d_bin L2.op_mod rf_mod (d_ct call_intA rf_intA (by rfl) n_int boot_int (d_cons (d_ix (L2.hu_of hr) (d_var 0) d_int) d_nil)) (d_var 1)))
  (b_cons (s_setIt (L2.hu_of hr) (d_var 0) d_int (d_bin L2.op_fdivW rf_div (d_ix (L2.hu_of hr) (d_var 0) d_int) (d_var 1)))
  (b_one (s_ret (d_var 2))))) b_nil)
  (b_cons (s_setIt (L2.hu_of hr) (d_var 0) d_int (d_bin op_addA rf_add (d_ix (L2.hu_of hr) (d_var 0) d_int) d_int))
  (b_cons (s_set (i := 3) S.nd rfl (by first | exact .inl rfl | exact .inr rfl) (d_bin L2.op_mod rf_mod (d_ct call_intA rf_intA (by rfl) n_int boot_int (d_cons (d_bin op_addA rf_add (d_ix (L2.hu_of hr) (d_var 0) d_int) (d_bin op_mulA rf_mul d_int (d_ix (L2.hu_of hr) (d_var 0) d_int))) d_nil)) d_int))
  (b_cons (s_set (i := 4) S.nd rfl (by first | exact .inl rfl | exact .inr rfl) (d_bin op_addA rf_add (d_bin op_mulA rf_mul (d_bin L2.op_mod rf_mod (d_ct call_intA rf_intA (by rfl) n_int boot_int (d_cons (d_bin op_mulA rf_mul (d_var 3) (d_var 3)) d_nil)) d_int) (d_var 3)) (d_bin op_mulA rf_mul d_int (d_ix (L2.hu_of hr) (d_var 0) d_int))))
  (b_one (s_ret (d_bin L2.op_mod rf_mod (d_ct call_intA rf_intA (by rfl) n_int boot_int (d_cons (d_bin L2.op_fdivW rf_div (d_bin L2.op_mod rf_mod (d_ct call_intA rf_intA (by rfl) n_int boot_int (d_cons (d_var 4) d_nil)) d_int) d_int) d_nil)) (d_var 1))))))))
end Dn

set_option maxHeartbeats 4000000
namespace Dn
open PySem PySem.Spec PyProof.Rows
open L2 (PE PT PA PS PSs PG PGs PI Cx WX Takes HO Hp VK)
theorem ok__law_one_of {P : Program} {w : World} {K : PySem.W.Frag} {mg : Str → Option Value} {base : Heap} {f : Addr} {fd : FuncData} (F : L2.Fun K "_law_one_of" "_law_one_of" s__law_one_of f fd) (mf : mg "_law_one_of" = some (.ref f)) (bf : L2.Binds K fd ["_law_bag_here", "_law_items"] []) (h__law_grab : Has P w K mg base 1 "_law_grab" ["_law_bag_here", "_law_total"] f__law_grab) (n_len : mg "len" = none) : Has P w K mg base 2 "_law_one_of" ["_law_bag_here", "_law_items"] f__law_one_of := by
  obtain ⟨g__law_grab, e__law_grab, F__law_grab, m__law_grab, k__law_grab, b__law_grab⟩ := h__law_grab
  refine ⟨f, fd, fn_ok F sc__law_one_of (by decide) fun cdv A outer s H E hr => ?_, mf, F.kp, bf⟩
  have S := sc__law_one_of
  have tk := takes_cx (P := P) (w := w) (K := K) (mg := mg) (base := base) (N := ["_law_bag_here", "_law_items"]) (qual := "_law_one_of") (sc := L2.defScope s__law_one_of) (f := f) (cdv := cdv) (A := A) (outer := outer) (s := s) (H := H) (E := E)
  have pp := passes_cx (P := P) (w := w) (K := K) (mg := mg) (base := base) (N := ["_law_bag_here", "_law_items"]) (qual := "_law_one_of") (sc := L2.defScope s__law_one_of) (f := f) (cdv := cdv) (A := A) (outer := outer) (s := s) (H := H) (E := E)
  exact (b_one (s_ret (d_ix (L2.hu_of hr) (d_var 1) (d_call (ps := ["_law_bag_here", "_law_total"]) F__law_grab hr (by rfl) m__law_grab k__law_grab b__law_grab tk (d_cons (d_var 0) (d_cons (d_cb call_lenA rf_len (by rfl) n_len boot_len (d_cons (d_var 1) d_nil)) d_nil))))))
end Dn

set_option maxHeartbeats 4000000
namespace Dn
open PySem PySem.Spec PyProof.Rows
open L2 (PE PT PA PS PSs PG PGs PI Cx WX Takes HO Hp VK)
theorem ok__law_mixed {P : Program} {w : World} {K : PySem.W.Frag} {mg : Str → Option Value} {base : Heap} {f : Addr} {fd : FuncData} (F : L2.Fun K "_law_mixed" "_law_mixed" s__law_mixed f fd) (mf : mg "_law_mixed" = some (.ref f)) (bf : L2.Binds K fd ["_law_bag_here", "_law_items"] []) (h__law_grab : Has P w K mg base 1 "_law_grab" ["_law_bag_here", "_law_total"] f__law_grab) (n_len : mg "len" = none) (n_list : mg "list" = none) (n_range : mg "range" = none) : Has P w K mg base 2 "_law_mixed" ["_law_bag_here", "_law_items"] f__law_mixed := by
  obtain ⟨g__law_grab, e__law_grab, F__law_grab, m__law_grab, k__law_grab, b__law_grab⟩ := h__law_grab
  refine ⟨f, fd, fn_ok F sc__law_mixed (by decide) fun cdv A outer s H E hr => ?_, mf, F.kp, bf⟩
  have S := sc__law_mixed
  have tk := takes_cx (P := P) (w := w) (K := K) (mg := mg) (base := base) (N := ["_law_bag_here", "_law_items", "_law_waits", "_law_turn"]) (qual := "_law_mixed") (sc := L2.defScope s__law_mixed) (f := f) (cdv := cdv) (A := A) (outer := outer) (s := s) (H := H) (E := E)
  have pp := passes_cx (P := P) (w := w) (K := K) (mg := mg) (base := base) (N := ["_law_bag_here", "_law_items", "_law_waits", "_law_turn"]) (qual := "_law_mixed") (sc := L2.defScope s__law_mixed) (f := f) (cdv := cdv) (A := A) (outer := outer) (s := s) (H := H) (E := E)
  exact (b_cons (s_set (i := 2) S.nd rfl (by first | exact .inl rfl | exact .inr rfl) (d_ct L2.call_list_of rf_list (by rfl) n_list boot_list (d_cons (d_var 1) d_nil)))
  (b_one (s_ret (d_lc rfl S.nd (i_rg1 (by rfl) n_range (d_cons (d_cb call_lenA rf_len (by rfl) n_len boot_len (d_cons (d_var 1) d_nil)) d_nil)) (L2.blkOk_by (own := [("_law_turn", 3)]) (by first | rfl | decide +kernel)) (by intro _ _ _ _ _; exact (g_name (i := 3) S.nd rfl (by first | exact .inl rfl | exact .inr rfl))) (by decide) (by intro _ _ _ _ _; exact ts_nil) (by intro _ _ _ _ _; exact (d_bm PySem.F.plainAttrs_list PySem.F.slot_list_pop PySem.F.type_list_pop L2.mt_popAt rf_popAt (d_var 2) (d_cons (d_call (ps := ["_law_bag_here", "_law_total"]) F__law_grab hr (by rfl) m__law_grab k__law_grab b__law_grab takes0 (d_cons (d_var 0) (d_cons (d_cb call_lenA rf_len (by rfl) n_len boot_len (d_cons (d_var 2) d_nil)) d_nil))) d_nil)))))))
end Dn

set_option maxHeartbeats 4000000
namespace Dn
open PySem PySem.Spec PyProof.Rows
open L2 (PE PT PA PS PSs PG PGs PI Cx WX Takes HO Hp VK)
theorem ok__law_cycles {P : Program} {w : World} {K : PySem.W.Frag} {mg : Str → Option Value} {base : Heap} {f : Addr} {fd : FuncData} (F : L2.Fun K "_law_cycles" "_law_cycles" s__law_cycles f fd) (mf : mg "_law_cycles" = some (.ref f)) (bf : L2.Binds K fd ["_law_move"] []) (n_len : mg "len" = none) (n_range : mg "range" = none) (n_tuple : mg "tuple" = none) : Has P w K mg base 1 "_law_cycles" ["_law_move"] f__law_cycles := by
  refine ⟨f, fd, fn_ok F sc__law_cycles (by decide) fun cdv A outer s H E hr => ?_, mf, F.kp, bf⟩
  have S := sc__law_cycles
  have tk := takes_cx (P := P) (w := w) (K := K) (mg := mg) (base := base) (N := ["_law_move", "_law_found", "_law_known", "_law_start", "_law_ring", "_law_place"]) (qual := "_law_cycles") (sc := L2.defScope s__law_cycles) (f := f) (cdv := cdv) (A := A) (outer := outer) (s := s) (H := H) (E := E)
  have pp := passes_cx (P := P) (w := w) (K := K) (mg := mg) (base := base) (N := ["_law_move", "_law_found", "_law_known", "_law_start", "_law_ring", "_law_place"]) (qual := "_law_cycles") (sc := L2.defScope s__law_cycles) (f := f) (cdv := cdv) (A := A) (outer := outer) (s := s) (H := H) (E := E)
  exact (b_cons (s_par (i := 1) (j := 2) rfl S.nd rfl rfl (by decide) rfl rfl (d_cons (d_lst d_nil) (d_cons (d_lst d_nil) d_nil)) (by rfl))
  (b_cons (s_for pp rfl (i_rg1 (by rfl) n_range (d_cons (d_cb call_lenA rf_len (by rfl) n_len boot_len (d_cons (d_var 0) d_nil)) d_nil)) (g_name (i := 3) S.nd rfl (by first | exact .inl rfl | exact .inr rfl)) (b_one (s_if (t_nin (L2.hu_of hr) (d_var 3) (d_var 2)) (b_cons (s_par (i := 4) (j := 5) rfl S.nd rfl rfl (by decide) rfl rfl (d_cons (d_lst (d_cons (d_var 3) d_nil)) (d_cons (d_ix (L2.hu_of hr) (d_var 0) (d_var 3)) d_nil)) (by rfl))
  (b_cons (s_while pp (t_cmp (L2.op_neD hr.units) rf_ne (d_var 5) (d_var 3) (by rfl)) (b_cons (s_expr (d_bm PySem.F.plainAttrs_list PySem.F.slot_list_append PySem.F.type_list_append L2.mt_append rf_append (d_var 4) (d_cons (d_var 5) d_nil)))
  (b_one (s_set (i := 5) S.nd rfl (by first | exact .inl rfl | exact .inr rfl) (d_ix (L2.hu_of hr) (d_var 0) (d_var 5))))))
  (b_cons (s_set (i := 2) S.nd rfl (by first | exact .inl rfl | exact .inr rfl) (d_bin op_addA rf_add (d_var 2) (d_var 4)))
  (b_one (s_expr (d_bm PySem.F.plainAttrs_list PySem.F.slot_list_append PySem.F.type_list_append L2.mt_append rf_append (d_var 1) (d_cons (d_ct L2.call_tuple_of rf_tuple (by rfl) n_tuple boot_tuple (d_cons (d_var 4) d_nil)) d_nil))))))) b_nil)))
  (b_one (s_ret (d_var 1)))))
end Dn

set_option maxHeartbeats 4000000
namespace Dn
open PySem PySem.Spec PyProof.Rows
open L2 (PE PT PA PS PSs PG PGs PI Cx WX Takes HO Hp VK)
theorem ok__law_power {P : Program} {w : World} {K : PySem.W.Frag} {mg : Str → Option Value} {base : Heap} {f : Addr} {fd : FuncData} (F : L2.Fun K "_law_power" "_law_power" s__law_power f fd) (mf : mg "_law_power" = some (.ref f)) (bf : L2.Binds K fd ["_law_move", "_law_number_here"] []) (h__law_cycles : Has P w K mg base 1 "_law_cycles" ["_law_move"] f__law_cycles) (n_enumerate : mg "enumerate" = none) (n_int : mg "int" = none) (n_len : mg "len" = none) (n_list : mg "list" = none) (n_tuple : mg "tuple" = none) : Has P w K mg base 2 "_law_power" ["_law_move", "_law_number_here"] f__law_power := by
  obtain ⟨g__law_cycles, e__law_cycles, F__law_cycles, m__law_cycles, k__law_cycles, b__law_cycles⟩ := h__law_cycles
  refine ⟨f, fd, fn_ok F sc__law_power (by decide) fun cdv A outer s H E hr => ?_, mf, F.kp, bf⟩
  have S := sc__law_power
  have tk := takes_cx (P := P) (w := w) (K := K) (mg := mg) (base := base) (N := ["_law_move", "_law_number_here", "_law_found", "_law_ring", "_law_at", "_law_place"]) (qual := "_law_power") (sc := L2.defScope s__law_power) (f := f) (cdv := cdv) (A := A) (outer := outer) (s := s) (H := H) (E := E)
  have pp := passes_cx (P := P) (w := w) (K := K) (mg := mg) (base := base) (N := ["_law_move", "_law_number_here", "_law_found", "_law_ring", "_law_at", "_law_place"]) (qual := "_law_power") (sc := L2.defScope s__law_power) (f := f) (cdv := cdv) (A := A) (outer := outer) (s := s) (H := H) (E := E)
  exact (b_cons (s_set (i := 2) S.nd rfl (by first | exact .inl rfl | exact .inr rfl) (d_ct L2.call_list_of rf_list (by rfl) n_list boot_list (d_cons (d_var 0) d_nil)))
  (b_cons (s_for pp rfl (i_seq (d_call (ps := ["_law_move"]) F__law_cycles hr (by rfl) m__law_cycles k__law_cycles b__law_cycles tk (d_cons (d_var 0) d_nil))) (g_name (i := 3) S.nd rfl (by first | exact .inl rfl | exact .inr rfl)) (b_one (s_for pp rfl (i_en (by rfl) n_enumerate (d_cons (d_var 3) d_nil)) (g_tup rfl (gs_cons (g_name (i := 4) S.nd rfl (by first | exact .inl rfl | exact .inr rfl)) (gs_cons (g_name (i := 5) S.nd rfl (by first | exact .inl rfl | exact .inr rfl)) gs_nil))) (b_one (s_setIt (L2.hu_of hr) (d_var 2) (d_var 5) (d_ix (L2.hu_of hr) (d_var 3) (d_bin L2.op_mod rf_mod (d_ct call_intA rf_intA (by rfl) n_int boot_int (d_cons (d_bin op_addA rf_add (d_var 4) (d_var 1)) d_nil)) (d_cb call_lenA rf_len (by rfl) n_len boot_len (d_cons (d_var 3) d_nil)))))))))
  (b_one (s_ret (d_ct L2.call_tuple_of rf_tuple (by rfl) n_tuple boot_tuple (d_cons (d_var 2) d_nil))))))
end Dn

set_option maxHeartbeats 4000000
namespace Dn
open PySem PySem.Spec PyProof.Rows
open L2 (PE PT PA PS PSs PG PGs PI Cx WX Takes HO Hp VK)
theorem ok__law_move_drawn {P : Program} {w : World} {K : PySem.W.Frag} {mg : Str → Option Value} {base : Heap} {f : Addr} {fd : FuncData} (F : L2.Fun K "_law_move_drawn" "_law_move_drawn" s__law_move_drawn f fd) (mf : mg "_law_move_drawn" = some (.ref f)) (bf : L2.Binds K fd ["_law_bag_here", "_law_places"] []) (h__law_grab : Has P w K mg base 1 "_law_grab" ["_law_bag_here", "_law_total"] f__law_grab) (n_len : mg "len" = none) (n_list : mg "list" = none) (n_range : mg "range" = none) (n_tuple : mg "tuple" = none) : Has P w K mg base 2 "_law_move_drawn" ["_law_bag_here", "_law_places"] f__law_move_drawn := by
  obtain ⟨g__law_grab, e__law_grab, F__law_grab, m__law_grab, k__law_grab, b__law_grab⟩ := h__law_grab
  refine ⟨f, fd, fn_ok F sc__law_move_drawn (by decide) fun cdv A outer s H E hr => ?_, mf, F.kp, bf⟩
  have S := sc__law_move_drawn
  have tk := takes_cx (P := P) (w := w) (K := K) (mg := mg) (base := base) (N := ["_law_bag_here", "_law_places", "_law_left", "_law_found", "_law_turn"]) (qual := "_law_move_drawn") (sc := L2.defScope s__law_move_drawn) (f := f) (cdv := cdv) (A := A) (outer := outer) (s := s) (H := H) (E := E)
  have pp := passes_cx (P := P) (w := w) (K := K) (mg := mg) (base := base) (N := ["_law_bag_here", "_law_places", "_law_left", "_law_found", "_law_turn"]) (qual := "_law_move_drawn") (sc := L2.defScope s__law_move_drawn) (f := f) (cdv := cdv) (A := A) (outer := outer) (s := s) (H := H) (E := E)
  exact (b_cons (s_par (i := 2) (j := 3) rfl S.nd rfl rfl (by decide) rfl rfl (d_cons (d_lstRg rfl (by rfl) n_list (r_1 (by rfl) n_range (d_var 1))) (d_cons (d_lst d_nil) d_nil)) (by rfl))
  (b_cons (s_for pp rfl (i_rg1 (by rfl) n_range (d_cons (d_var 1) d_nil)) (g_name (i := 4) S.nd rfl (by first | exact .inl rfl | exact .inr rfl)) (b_one (s_expr (d_bm PySem.F.plainAttrs_list PySem.F.slot_list_append PySem.F.type_list_append L2.mt_append rf_append (d_var 3) (d_cons (d_bm PySem.F.plainAttrs_list PySem.F.slot_list_pop PySem.F.type_list_pop L2.mt_popAt rf_popAt (d_var 2) (d_cons (d_call (ps := ["_law_bag_here", "_law_total"]) F__law_grab hr (by rfl) m__law_grab k__law_grab b__law_grab tk (d_cons (d_var 0) (d_cons (d_cb call_lenA rf_len (by rfl) n_len boot_len (d_cons (d_var 2) d_nil)) d_nil))) d_nil)) d_nil)))))
  (b_one (s_ret (d_ct L2.call_tuple_of rf_tuple (by rfl) n_tuple boot_tuple (d_cons (d_var 3) d_nil))))))
end Dn

set_option maxHeartbeats 4000000
namespace Dn
open PySem PySem.Spec PyProof.Rows
open L2 (PE PT PA PS PSs PG PGs PI Cx WX Takes HO Hp VK)
theorem ok__law_move_text {P : Program} {w : World} {K : PySem.W.Frag} {mg : Str → Option Value} {base : Heap} {f : Addr} {fd : FuncData} (F : L2.Fun K "_law_move_text" "_law_move_text" s__law_move_text f fd) (mf : mg "_law_move_text" = some (.ref f)) (bf : L2.Binds K fd ["_law_move"] []) (h__law_cycles : Has P w K mg base 1 "_law_cycles" ["_law_move"] f__law_cycles) (n_len : mg "len" = none) (n_str : mg "str" = none) : Has P w K mg base 2 "_law_move_text" ["_law_move"] f__law_move_text := by
  obtain ⟨g__law_cycles, e__law_cycles, F__law_cycles, m__law_cycles, k__law_cycles, b__law_cycles⟩ := h__law_cycles
  refine ⟨f, fd, fn_ok F sc__law_move_text (by decide) fun cdv A outer s H E hr => ?_, mf, F.kp, bf⟩
  have S := sc__law_move_text
  have tk := takes_cx (P := P) (w := w) (K := K) (mg := mg) (base := base) (N := ["_law_move", "_law_rings", "_law_ring", "_law_place"]) (qual := "_law_move_text") (sc := L2.defScope s__law_move_text) (f := f) (cdv := cdv) (A := A) (outer := outer) (s := s) (H := H) (E := E)
  have pp := passes_cx (P := P) (w := w) (K := K) (mg := mg) (base := base) (N := ["_law_move", "_law_rings", "_law_ring", "_law_place"]) (qual := "_law_move_text") (sc := L2.defScope s__law_move_text) (f := f) (cdv := cdv) (A := A) (outer := outer) (s := s) (H := H) (E := E)
  exact (b_cons (s_setLc (i := 1) rfl S.nd rfl rfl (by exact L2.sw_true rfl rfl rfl rfl) (i_seq (d_call (ps := ["_law_move"]) F__law_cycles hr (by rfl) m__law_cycles k__law_cycles b__law_cycles tk (d_cons (d_var 0) d_nil))) (L2.blkOk_by (own := [("_law_ring", 2)]) (by first | rfl | decide +kernel)) (by intro _ _ _ _ _; exact (g_name (i := 2) S.nd rfl (by first | exact .inl rfl | exact .inr rfl))) (by decide) (by intro _ _ _ _ _; exact (ts_one (t_cmp L2.op_gt rf_cmp (d_cb call_lenA rf_len (by rfl) n_len boot_len (d_cons (d_var 2) d_nil)) d_int (by rfl)))) (by intro _ _ _ _ _; exact (d_var 2)))
  (b_one (s_ret (d_if (t_cmp (L2.op_neD hr.units) rf_ne (d_var 1) (d_lst d_nil) (by rfl)) (d_bm PySem.F.plainAttrs_str PySem.F.slot_str_join PySem.F.type_str_join L2.mt_join rf_join d_str (d_cons (d_lc rfl S.nd (i_seq (d_var 1)) (L2.blkOk_by (own := [("_law_ring", 2)]) (by first | rfl | decide +kernel)) (by intro _ _ _ _ _; exact (g_name (i := 2) S.nd rfl (by first | exact .inl rfl | exact .inr rfl))) (by decide) (by intro _ _ _ _ _; exact ts_nil) (by intro _ _ _ _ _; exact (d_bin op_addA rf_add (d_bin op_addA rf_add d_str (d_bm PySem.F.plainAttrs_str PySem.F.slot_str_join PySem.F.type_str_join L2.mt_join rf_join d_str (d_cons (d_lc rfl S.nd (i_seq (d_var 2)) (L2.blkOk_by (own := [("_law_place", 3)]) (by first | rfl | decide +kernel)) (by intro _ _ _ _ _; exact (g_name (i := 3) S.nd rfl (by first | exact .inl rfl | exact .inr rfl))) (by decide) (by intro _ _ _ _ _; exact ts_nil) (by intro _ _ _ _ _; exact (d_ct L2.call_str_int rf_str (by rfl) n_str boot_str (d_cons (d_var 3) d_nil)))) d_nil))) d_str))) d_nil)) d_str))))
end Dn

set_option maxHeartbeats 4000000
namespace Dn
open PySem PySem.Spec PyProof.Rows
open L2 (PE PT PA PS PSs PG PGs PI Cx WX Takes HO Hp VK)
theorem ok__law_moves_right {P : Program} {w : World} {K : PySem.W.Frag} {mg : Str → Option Value} {base : Heap} {f : Addr} {fd : FuncData} (F : L2.Fun K "_law_moves_right" "_law_moves_right" s__law_moves_right f fd) (mf : mg "_law_moves_right" = some (.ref f)) (bf : L2.Binds K fd ["_law_bag_here"] []) (h__law_cycles : Has P w K mg base 1 "_law_cycles" ["_law_move"] f__law_cycles) (h__law_grab : Has P w K mg base 1 "_law_grab" ["_law_bag_here", "_law_total"] f__law_grab) (h__law_mixed : Has P w K mg base 2 "_law_mixed" ["_law_bag_here", "_law_items"] f__law_mixed) (h__law_move_drawn : Has P w K mg base 2 "_law_move_drawn" ["_law_bag_here", "_law_places"] f__law_move_drawn) (h__law_move_text : Has P w K mg base 2 "_law_move_text" ["_law_move"] f__law_move_text) (h__law_one_of : Has P w K mg base 2 "_law_one_of" ["_law_bag_here", "_law_items"] f__law_one_of) (h__law_power : Has P w K mg base 2 "_law_power" ["_law_move", "_law_number_here"] f__law_power) (h_read_move : Has P w K mg base 4 "read_move" ["text", "places"] f_read_move) (h_write_move : Has P w K mg base 4 "write_move" ["move"] f_write_move) (n_len : mg "len" = none) (n_range : mg "range" = none) (n_str : mg "str" = none) (n_tuple : mg "tuple" = none) : Has P w K mg base 5 "_law_moves_right" ["_law_bag_here"] f__law_moves_right := by
  obtain ⟨g__law_cycles, e__law_cycles, F__law_cycles, m__law_cycles, k__law_cycles, b__law_cycles⟩ := h__law_cycles
  replace F__law_cycles := fn_mono F__law_cycles (by decide : 1 ≤ 4)
  obtain ⟨g__law_grab, e__law_grab, F__law_grab, m__law_grab, k__law_grab, b__law_grab⟩ := h__law_grab
  replace F__law_grab := fn_mono F__law_grab (by decide : 1 ≤ 4)
  obtain ⟨g__law_mixed, e__law_mixed, F__law_mixed, m__law_mixed, k__law_mixed, b__law_mixed⟩ := h__law_mixed
  replace F__law_mixed := fn_mono F__law_mixed (by decide : 2 ≤ 4)
  obtain ⟨g__law_move_drawn, e__law_move_drawn, F__law_move_drawn, m__law_move_drawn, k__law_move_drawn, b__law_move_drawn⟩ := h__law_move_drawn
  replace F__law_move_drawn := fn_mono F__law_move_drawn (by decide : 2 ≤ 4)
  obtain ⟨g__law_move_text, e__law_move_text, F__law_move_text, m__law_move_text, k__law_move_text, b__law_move_text⟩ := h__law_move_text
  replace F__law_move_text := fn_mono F__law_move_text (by decide : 2 ≤ 4)
  obtain ⟨g__law_one_of, e__law_one_of, F__law_one_of, m__law_one_of, k__law_one_of, b__law_one_of⟩ := h__law_one_of
  replace F__law_one_of := fn_mono F__law_one_of (by decide : 2 ≤ 4)
  obtain ⟨g__law_power, e__law_power, F__law_power, m__law_power, k__law_power, b__law_power⟩ := h__law_power
  replace F__law_power := fn_mono F__law_power (by decide : 2 ≤ 4)
  obtain ⟨g_read_move, e_read_move, F_read_move, m_read_move, k_read_move, b_read_move⟩ := h_read_move
  obtain ⟨g_write_move, e_write_move, F_write_move, m_write_move, k_write_move, b_write_move⟩ := h_write_move
  refine ⟨f, fd, fn_ok F sc__law_moves_right (by decide) fun cdv A outer s H E hr => ?_, mf, F.kp, bf⟩
  have S := sc__law_moves_right
  have tk := takes_cx (P := P) (w := w) (K := K) (mg := mg) (base := base) (N := ["_law_bag_here", "_law_places", "_law_move", "_law_text", "_law_rings", "_law_parts", "_law_ring", "_law_cut", "_law_other", "_law_wide", "_law_place"]) (qual := "_law_moves_right") (sc := L2.defScope s__law_moves_right) (f := f) (cdv := cdv) (A := A) (outer := outer) (s := s) (H := H) (E := E)
  have pp := passes_cx (P := P) (w := w) (K := K) (mg := mg) (base := base) (N := ["_law_bag_here", "_law_places", "_law_move", "_law_text", "_law_rings", "_law_parts", "_law_ring", "_law_cut", "_law_other", "_law_wide", "_law_place"]) (qual := "_law_moves_right") (sc := L2.defScope s__law_moves_right) (f := f) (cdv := cdv) (A := A) (outer := outer) (s := s) (H := H) (E := E)
  exact (b_cons (s_set (i := 1) S.nd rfl (by first | exact .inl rfl | exact .inr rfl) (d_bin op_addA rf_add d_int (d_call (ps := ["_law_bag_here", "_law_total"]) F__law_grab hr (by rfl) m__law_grab k__law_grab b__law_grab tk (d_cons (d_var 0) (d_cons d_int d_nil)))))
  (b_cons (s_set (i := 2) S.nd rfl (by first | exact .inl rfl | exact .inr rfl) (d_call (ps := ["_law_bag_here", "_law_places"]) F__law_move_drawn hr (by rfl) m__law_move_drawn k__law_move_drawn b__law_move_drawn tk (d_cons (d_var 0) (d_cons (d_var 1) d_nil))))
  (b_cons (s_if (t_cmp (L2.op_eqD hr.units) rf_eq (d_call (ps := ["_law_bag_here", "_law_total"]) F__law_grab hr (by rfl) m__law_grab k__law_grab b__law_grab tk (d_cons (d_var 0) (d_cons d_int d_nil))) d_int (by rfl)) (b_one (s_set (i := 2) S.nd rfl (by first | exact .inl rfl | exact .inr rfl) (d_call (ps := ["_law_move", "_law_number_here"]) F__law_power hr (by rfl) m__law_power k__law_power b__law_power tk (d_cons (d_var 2) (d_cons (d_call (ps := ["_law_bag_here", "_law_items"]) F__law_one_of hr (by rfl) m__law_one_of k__law_one_of b__law_one_of tk (d_cons (d_var 0) (d_cons (d_lst (d_cons d_int (d_cons d_int (d_cons d_int (d_cons d_int d_nil))))) d_nil))) d_nil))))) b_nil)
  (b_cons (s_set (i := 3) S.nd rfl (by first | exact .inl rfl | exact .inr rfl) (d_call (ps := ["_law_move"]) F__law_move_text hr (by rfl) m__law_move_text k__law_move_text b__law_move_text tk (d_cons (d_var 2) d_nil)))
  (b_cons (s_if (t_w (w_or (t_cmp (L2.op_neD hr.units) rf_ne (d_call (ps := ["move"]) F_write_move hr (by rfl) m_write_move k_write_move b_write_move tk (d_cons (d_var 2) d_nil)) (d_var 3) (by rfl)) (w_or1 (t_cmp (L2.op_neD hr.units) rf_ne (d_call (ps := ["text", "places"]) F_read_move hr (by rfl) m_read_move k_read_move b_read_move tk (d_cons (d_var 3) (d_cons (d_var 1) d_nil))) (d_var 2) (by rfl))))) (b_one (s_ret d_bl)) b_nil)
  (b_cons (s_set (i := 4) S.nd rfl (by first | exact .inl rfl | exact .inr rfl) (d_call (ps := ["_law_bag_here", "_law_items"]) F__law_mixed hr (by rfl) m__law_mixed k__law_mixed b__law_mixed tk (d_cons (d_var 0) (d_cons (d_lc rfl S.nd (i_seq (d_call (ps := ["_law_move"]) F__law_cycles hr (by rfl) m__law_cycles k__law_cycles b__law_cycles tk (d_cons (d_var 2) d_nil))) (L2.blkOk_by (own := [("_law_ring", 6)]) (by first | rfl | decide +kernel)) (by intro _ _ _ _ _; exact (g_name (i := 6) S.nd rfl (by first | exact .inl rfl | exact .inr rfl))) (by decide) (by intro _ _ _ _ _; exact (ts_one (t_cmp L2.op_gt rf_cmp (d_cb call_lenA rf_len (by rfl) n_len boot_len (d_cons (d_var 6) d_nil)) d_int (by rfl)))) (by intro _ _ _ _ _; exact (d_var 6))) d_nil))))
  (b_cons (s_set (i := 5) S.nd rfl (by first | exact .inl rfl | exact .inr rfl) (d_lst d_nil))
  (b_cons (s_for pp rfl (i_seq (d_var 4)) (g_name (i := 6) S.nd rfl (by first | exact .inl rfl | exact .inr rfl)) (b_cons (s_set (i := 7) S.nd rfl (by first | exact .inl rfl | exact .inr rfl) (d_call (ps := ["_law_bag_here", "_law_total"]) F__law_grab hr (by rfl) m__law_grab k__law_grab b__law_grab tk (d_cons (d_var 0) (d_cons (d_cb call_lenA rf_len (by rfl) n_len boot_len (d_cons (d_var 6) d_nil)) d_nil))))
  (b_one (s_expr (d_bm PySem.F.plainAttrs_list PySem.F.slot_list_append PySem.F.type_list_append L2.mt_append rf_append (d_var 5) (d_cons (d_bin op_addA rf_add (d_bin op_addA rf_add d_str (d_bm PySem.F.plainAttrs_str PySem.F.slot_str_join PySem.F.type_str_join L2.mt_join rf_join d_str (d_cons (d_lc rfl S.nd (i_seq (d_bin op_addA rf_add (d_slice (d_var 6) (o_some (d_var 7)) o_none) (d_slice (d_var 6) o_none (o_some (d_var 7))))) (L2.blkOk_by (own := [("_law_place", 10)]) (by first | rfl | decide +kernel)) (by intro _ _ _ _ _; exact (g_name (i := 10) S.nd rfl (by first | exact .inl rfl | exact .inr rfl))) (by decide) (by intro _ _ _ _ _; exact ts_nil) (by intro _ _ _ _ _; exact (d_ct L2.call_str_int rf_str (by rfl) n_str boot_str (d_cons (d_var 10) d_nil)))) d_nil))) d_str) d_nil))))))
  (b_cons (s_set (i := 8) S.nd rfl (by first | exact .inl rfl | exact .inr rfl) (d_if (t_cmp (L2.op_neD hr.units) rf_ne (d_var 5) (d_lst d_nil) (by rfl)) (d_bm PySem.F.plainAttrs_str PySem.F.slot_str_join PySem.F.type_str_join L2.mt_join rf_join d_str (d_cons (d_var 5) d_nil)) d_str))
  (b_cons (s_set (i := 9) S.nd rfl (by first | exact .inl rfl | exact .inr rfl) (d_bin op_addA rf_add (d_var 1) (d_call (ps := ["_law_bag_here", "_law_total"]) F__law_grab hr (by rfl) m__law_grab k__law_grab b__law_grab tk (d_cons (d_var 0) (d_cons (d_bin L2.op_sub rf_sub d_int (d_var 1)) d_nil)))))
  (b_one (s_ret (d_and (d_cmp (L2.op_eqD hr.units) rf_eq (d_call (ps := ["text", "places"]) F_read_move hr (by rfl) m_read_move k_read_move b_read_move tk (d_cons (d_var 8) (d_cons (d_var 1) d_nil))) (d_var 2) (by rfl)) (d_one (d_cmp (L2.op_eqD hr.units) rf_eq (d_call (ps := ["text", "places"]) F_read_move hr (by rfl) m_read_move k_read_move b_read_move tk (d_cons (d_var 8) (d_cons (d_var 9) d_nil))) (d_bin op_addA rf_add (d_var 2) (d_tupRg rfl (by rfl) n_tuple (r_2 (by rfl) n_range (d_var 1) (d_var 9)))) (by rfl))))))))))))))))
end Dn

set_option maxHeartbeats 4000000
namespace Dn
open PySem PySem.Spec PyProof.Rows
open L2 (PE PT PA PS PSs PG PGs PI Cx WX Takes HO Hp VK)
theorem ok__law_number {P : Program} {w : World} {K : PySem.W.Frag} {mg : Str → Option Value} {base : Heap} {f : Addr} {fd : FuncData} (F : L2.Fun K "_law_number" "_law_number" s__law_number f fd) (mf : mg "_law_number" = some (.ref f)) (bf : L2.Binds K fd ["_law_bag_here"] []) (h__law_grab : Has P w K mg base 1 "_law_grab" ["_law_bag_here", "_law_total"] f__law_grab) (h__law_one_of : Has P w K mg base 2 "_law_one_of" ["_law_bag_here", "_law_items"] f__law_one_of) : Has P w K mg base 3 "_law_number" ["_law_bag_here"] f__law_number := by
  obtain ⟨g__law_grab, e__law_grab, F__law_grab, m__law_grab, k__law_grab, b__law_grab⟩ := h__law_grab
  replace F__law_grab := fn_mono F__law_grab (by decide : 1 ≤ 2)
  obtain ⟨g__law_one_of, e__law_one_of, F__law_one_of, m__law_one_of, k__law_one_of, b__law_one_of⟩ := h__law_one_of
  refine ⟨f, fd, fn_ok F sc__law_number (by decide) fun cdv A outer s H E hr => ?_, mf, F.kp, bf⟩
  have S := sc__law_number
  have tk := takes_cx (P := P) (w := w) (K := K) (mg := mg) (base := base) (N := ["_law_bag_here", "_law_way"]) (qual := "_law_number") (sc := L2.defScope s__law_number) (f := f) (cdv := cdv) (A := A) (outer := outer) (s := s) (H := H) (E := E)
  have pp := passes_cx (P := P) (w := w) (K := K) (mg := mg) (base := base) (N := ["_law_bag_here", "_law_way"]) (qual := "_law_number") (sc := L2.defScope s__law_number) (f := f) (cdv := cdv) (A := A) (outer := outer) (s := s) (H := H) (E := E)
  exact (b_cons (s_set (i := 1) S.nd rfl (by first | exact .inl rfl | exact .inr rfl) (d_call (ps := ["_law_bag_here", "_law_total"]) F__law_grab hr (by rfl) m__law_grab k__law_grab b__law_grab tk (d_cons (d_var 0) (d_cons d_int d_nil))))
  (b_cons (s_if (t_cmp (L2.op_eqD hr.units) rf_eq (d_var 1) d_int (by rfl)) (b_one (s_ret (d_bin op_addA rf_add (d_bin L2.op_sub rf_sub (d_call (ps := ["_law_bag_here", "_law_total"]) F__law_grab hr (by rfl) m__law_grab k__law_grab b__law_grab tk (d_cons (d_var 0) (d_cons (d_bin L2.op_sub rf_sub (d_bin op_mulA rf_mul d_int (d_bin op_powW rf_pow d_int d_int)) d_int) d_nil))) (d_bin op_powW rf_pow d_int d_int)) d_int))) b_nil)
  (b_one (s_ret (d_call (ps := ["_law_bag_here", "_law_items"]) F__law_one_of hr (by rfl) m__law_one_of k__law_one_of b__law_one_of tk (d_cons (d_var 0) (d_cons (d_lst (d_cons d_int (d_cons d_int (d_cons d_int (d_cons (d_un L2.un_neg rf_neg d_int) (d_cons d_int (d_cons (d_un L2.un_neg rf_neg d_int) (d_cons (d_bin L2.op_sub rf_sub (d_call (ps := ["_law_bag_here", "_law_total"]) F__law_grab hr (by rfl) m__law_grab k__law_grab b__law_grab tk (d_cons (d_var 0) (d_cons d_int d_nil))) d_int) d_nil)))))))) d_nil)))))))
end Dn

set_option maxHeartbeats 4000000
namespace Dn
open PySem PySem.Spec PyProof.Rows
open L2 (PE PT PA PS PSs PG PGs PI Cx WX Takes HO Hp VK)
theorem ok__law_rows_right {P : Program} {w : World} {K : PySem.W.Frag} {mg : Str → Option Value} {base : Heap} {f : Addr} {fd : FuncData} (F : L2.Fun K "_law_rows_right" "_law_rows_right" s__law_rows_right f fd) (mf : mg "_law_rows_right" = some (.ref f)) (bf : L2.Binds K fd ["_law_bag_here"] []) (h__law_grab : Has P w K mg base 1 "_law_grab" ["_law_bag_here", "_law_total"] f__law_grab) (h__law_number : Has P w K mg base 3 "_law_number" ["_law_bag_here"] f__law_number) (h__law_one_of : Has P w K mg base 2 "_law_one_of" ["_law_bag_here", "_law_items"] f__law_one_of) (h_read_row : Has P w K mg base 3 "read_row" ["text"] f_read_row) (h_write_row : Has P w K mg base 4 "write_row" ["row"] f_write_row) (n_range : mg "range" = none) (n_str : mg "str" = none) (n_tuple : mg "tuple" = none) : Has P w K mg base 5 "_law_rows_right" ["_law_bag_here"] f__law_rows_right := by
  obtain ⟨g__law_grab, e__law_grab, F__law_grab, m__law_grab, k__law_grab, b__law_grab⟩ := h__law_grab
  replace F__law_grab := fn_mono F__law_grab (by decide : 1 ≤ 4)
  obtain ⟨g__law_number, e__law_number, F__law_number, m__law_number, k__law_number, b__law_number⟩ := h__law_number
  replace F__law_number := fn_mono F__law_number (by decide : 3 ≤ 4)
  obtain ⟨g__law_one_of, e__law_one_of, F__law_one_of, m__law_one_of, k__law_one_of, b__law_one_of⟩ := h__law_one_of
  replace F__law_one_of := fn_mono F__law_one_of (by decide : 2 ≤ 4)
  obtain ⟨g_read_row, e_read_row, F_read_row, m_read_row, k_read_row, b_read_row⟩ := h_read_row
  replace F_read_row := fn_mono F_read_row (by decide : 3 ≤ 4)
  obtain ⟨g_write_row, e_write_row, F_write_row, m_write_row, k_write_row, b_write_row⟩ := h_write_row
  refine ⟨f, fd, fn_ok F sc__law_rows_right (by decide) fun cdv A outer s H E hr => ?_, mf, F.kp, bf⟩
  have S := sc__law_rows_right
  have tk := takes_cx (P := P) (w := w) (K := K) (mg := mg) (base := base) (N := ["_law_bag_here", "_law_row", "_law_text", "_law_turn", "_law_number_here"]) (qual := "_law_rows_right") (sc := L2.defScope s__law_rows_right) (f := f) (cdv := cdv) (A := A) (outer := outer) (s := s) (H := H) (E := E)
  have pp := passes_cx (P := P) (w := w) (K := K) (mg := mg) (base := base) (N := ["_law_bag_here", "_law_row", "_law_text", "_law_turn", "_law_number_here"]) (qual := "_law_rows_right") (sc := L2.defScope s__law_rows_right) (f := f) (cdv := cdv) (A := A) (outer := outer) (s := s) (H := H) (E := E)
  exact (b_cons (s_set (i := 1) S.nd rfl (by first | exact .inl rfl | exact .inr rfl) (d_ct L2.call_tuple_of rf_tuple (by rfl) n_tuple boot_tuple (d_cons (d_lc rfl S.nd (i_rg1 (by rfl) n_range (d_cons (d_bin op_addA rf_add d_int (d_call (ps := ["_law_bag_here", "_law_items"]) F__law_one_of hr (by rfl) m__law_one_of k__law_one_of b__law_one_of tk (d_cons (d_var 0) (d_cons (d_lst (d_cons (d_call (ps := ["_law_bag_here", "_law_total"]) F__law_grab hr (by rfl) m__law_grab k__law_grab b__law_grab tk (d_cons (d_var 0) (d_cons d_int d_nil))) (d_cons (d_call (ps := ["_law_bag_here", "_law_total"]) F__law_grab hr (by rfl) m__law_grab k__law_grab b__law_grab tk (d_cons (d_var 0) (d_cons d_int d_nil))) d_nil))) d_nil)))) d_nil)) (L2.blkOk_by (own := [("_law_turn", 3)]) (by first | rfl | decide +kernel)) (by intro _ _ _ _ _; exact (g_name (i := 3) S.nd rfl (by first | exact .inl rfl | exact .inr rfl))) (by decide) (by intro _ _ _ _ _; exact ts_nil) (by intro _ _ _ _ _; exact (d_call (ps := ["_law_bag_here"]) F__law_number hr (by rfl) m__law_number k__law_number b__law_number takes0 (d_cons (d_var 0) d_nil)))) d_nil)))
  (b_cons (s_set (i := 2) S.nd rfl (by first | exact .inl rfl | exact .inr rfl) (d_bm PySem.F.plainAttrs_str PySem.F.slot_str_join PySem.F.type_str_join L2.mt_join rf_join d_str (d_cons (d_lc rfl S.nd (i_seq (d_var 1)) (L2.blkOk_by (own := [("_law_number_here", 4)]) (by first | rfl | decide +kernel)) (by intro _ _ _ _ _; exact (g_name (i := 4) S.nd rfl (by first | exact .inl rfl | exact .inr rfl))) (by decide) (by intro _ _ _ _ _; exact ts_nil) (by intro _ _ _ _ _; exact (d_ct L2.call_str_int rf_str (by rfl) n_str boot_str (d_cons (d_var 4) d_nil)))) d_nil)))
  (b_one (s_ret (d_and (d_cmp (L2.op_eqD hr.units) rf_eq (d_call (ps := ["row"]) F_write_row hr (by rfl) m_write_row k_write_row b_write_row tk (d_cons (d_var 1) d_nil)) (d_var 2) (by rfl)) (d_one (d_cmp (L2.op_eqD hr.units) rf_eq (d_call (ps := ["text"]) F_read_row hr (by rfl) m_read_row k_read_row b_read_row tk (d_cons (d_var 2) d_nil)) (d_var 1) (by rfl))))))))
end Dn

set_option maxHeartbeats 4000000
namespace Dn
open PySem PySem.Spec PyProof.Rows
open L2 (PE PT PA PS PSs PG PGs PI Cx WX Takes HO Hp VK)
theorem ok__law_kinds_text {P : Program} {w : World} {K : PySem.W.Frag} {mg : Str → Option Value} {base : Heap} {f : Addr} {fd : FuncData} (F : L2.Fun K "_law_kinds_text" "_law_kinds_text" s__law_kinds_text f fd) (mf : mg "_law_kinds_text" = some (.ref f)) (bf : L2.Binds K fd ["_law_kinds"] []) (n_abs : mg "abs" = none) (n_enumerate : mg "enumerate" = none) (n_str : mg "str" = none) : Has P w K mg base 1 "_law_kinds_text" ["_law_kinds"] f__law_kinds_text := by
  refine ⟨f, fd, fn_ok F sc__law_kinds_text (by decide) fun cdv A outer s H E hr => ?_, mf, F.kp, bf⟩
  have S := sc__law_kinds_text
  have tk := takes_cx (P := P) (w := w) (K := K) (mg := mg) (base := base) (N := ["_law_kinds", "_law_found", "_law_index", "_law_number_here", "_law_size", "_law_lead"]) (qual := "_law_kinds_text") (sc := L2.defScope s__law_kinds_text) (f := f) (cdv := cdv) (A := A) (outer := outer) (s := s) (H := H) (E := E)
  have pp := passes_cx (P := P) (w := w) (K := K) (mg := mg) (base := base) (N := ["_law_kinds", "_law_found", "_law_index", "_law_number_here", "_law_size", "_law_lead"]) (qual := "_law_kinds_text") (sc := L2.defScope s__law_kinds_text) (f := f) (cdv := cdv) (A := A) (outer := outer) (s := s) (H := H) (E := E)
  exact (b_cons (s_set (i := 1) S.nd rfl (by first | exact .inl rfl | exact .inr rfl) d_str)
  (b_cons (s_for pp rfl (i_en (by rfl) n_enumerate (d_cons (d_var 0) d_nil)) (g_tup rfl (gs_cons (g_name (i := 2) S.nd rfl (by first | exact .inl rfl | exact .inr rfl)) (gs_cons (g_name (i := 3) S.nd rfl (by first | exact .inl rfl | exact .inr rfl)) gs_nil))) (b_one (s_if (t_cmp (L2.op_neD hr.units) rf_ne (d_var 3) d_int (by rfl)) (b_cons (s_set (i := 4) S.nd rfl (by first | exact .inl rfl | exact .inr rfl) (d_if (t_cmp (L2.op_eqD hr.units) rf_eq (d_cb L2.call_abs rf_abs (by rfl) n_abs boot_abs (d_cons (d_var 3) d_nil)) d_int (by rfl)) d_str (d_ct L2.call_str_int rf_str (by rfl) n_str boot_str (d_cons (d_cb L2.call_abs rf_abs (by rfl) n_abs boot_abs (d_cons (d_var 3) d_nil)) d_nil))))
  (b_cons (s_set (i := 5) S.nd rfl (by first | exact .inl rfl | exact .inr rfl) (d_if (t_cmp L2.op_lt rf_cmp (d_var 3) d_int (by rfl)) d_str d_str))
  (b_cons (s_if (t_cmp (L2.op_neD hr.units) rf_ne (d_var 1) d_str (by rfl)) (b_one (s_set (i := 5) S.nd rfl (by first | exact .inl rfl | exact .inr rfl) (d_if (t_cmp L2.op_lt rf_cmp (d_var 3) d_int (by rfl)) d_str d_str))) b_nil)
  (b_one (s_set (i := 1) S.nd rfl (by first | exact .inl rfl | exact .inr rfl) (d_bin op_addA rf_add (d_bin op_addA rf_add (d_bin op_addA rf_add (d_bin op_addA rf_add (d_bin op_addA rf_add (d_var 1) (d_var 5)) (d_var 4)) d_str) (d_ct L2.call_str_int rf_str (by rfl) n_str boot_str (d_cons (d_var 2) d_nil))) d_str)))))) b_nil)))
  (b_one (s_ret (d_if (t_cmp (L2.op_neD hr.units) rf_ne (d_var 1) d_str (by rfl)) (d_var 1) d_str)))))
end Dn

set_option maxHeartbeats 4000000
namespace Dn
open PySem PySem.Spec PyProof.Rows
open L2 (PE PT PA PS PSs PG PGs PI Cx WX Takes HO Hp VK)
theorem ok__law_terms_text {P : Program} {w : World} {K : PySem.W.Frag} {mg : Str → Option Value} {base : Heap} {f : Addr} {fd : FuncData} (F : L2.Fun K "_law_terms_text" "_law_terms_text" s__law_terms_text f fd) (mf : mg "_law_terms_text" = some (.ref f)) (bf : L2.Binds K fd ["_law_bag_here", "_law_terms"] []) (h__law_grab : Has P w K mg base 1 "_law_grab" ["_law_bag_here", "_law_total"] f__law_grab) (n_abs : mg "abs" = none) (n_str : mg "str" = none) : Has P w K mg base 2 "_law_terms_text" ["_law_bag_here", "_law_terms"] f__law_terms_text := by
  obtain ⟨g__law_grab, e__law_grab, F__law_grab, m__law_grab, k__law_grab, b__law_grab⟩ := h__law_grab
  refine ⟨f, fd, fn_ok F sc__law_terms_text (by decide) fun cdv A outer s H E hr => ?_, mf, F.kp, bf⟩
  have S := sc__law_terms_text
  have tk := takes_cx (P := P) (w := w) (K := K) (mg := mg) (base := base) (N := ["_law_bag_here", "_law_terms", "_law_found", "_law_number_here", "_law_index", "_law_size", "_law_lead"]) (qual := "_law_terms_text") (sc := L2.defScope s__law_terms_text) (f := f) (cdv := cdv) (A := A) (outer := outer) (s := s) (H := H) (E := E)
  have pp := passes_cx (P := P) (w := w) (K := K) (mg := mg) (base := base) (N := ["_law_bag_here", "_law_terms", "_law_found", "_law_number_here", "_law_index", "_law_size", "_law_lead"]) (qual := "_law_terms_text") (sc := L2.defScope s__law_terms_text) (f := f) (cdv := cdv) (A := A) (outer := outer) (s := s) (H := H) (E := E)
  exact (b_cons (s_set (i := 2) S.nd rfl (by first | exact .inl rfl | exact .inr rfl) d_str)
  (b_cons (s_for pp rfl (i_seq (d_var 1)) (g_tup rfl (gs_cons (g_name (i := 3) S.nd rfl (by first | exact .inl rfl | exact .inr rfl)) (gs_cons (g_name (i := 4) S.nd rfl (by first | exact .inl rfl | exact .inr rfl)) gs_nil))) (b_cons (s_set (i := 5) S.nd rfl (by first | exact .inl rfl | exact .inr rfl) (d_ct L2.call_str_int rf_str (by rfl) n_str boot_str (d_cons (d_cb L2.call_abs rf_abs (by rfl) n_abs boot_abs (d_cons (d_var 3) d_nil)) d_nil)))
  (b_cons (s_if (t_w (w_and (t_cmp (L2.op_eqD hr.units) rf_eq (d_cb L2.call_abs rf_abs (by rfl) n_abs boot_abs (d_cons (d_var 3) d_nil)) d_int (by rfl)) (w_and1 (t_cmp (L2.op_eqD hr.units) rf_eq (d_call (ps := ["_law_bag_here", "_law_total"]) F__law_grab hr (by rfl) m__law_grab k__law_grab b__law_grab tk (d_cons (d_var 0) (d_cons d_int d_nil))) d_int (by rfl))))) (b_one (s_set (i := 5) S.nd rfl (by first | exact .inl rfl | exact .inr rfl) d_str)) b_nil)
  (b_cons (s_set (i := 6) S.nd rfl (by first | exact .inl rfl | exact .inr rfl) (d_if (t_cmp L2.op_lt rf_cmp (d_var 3) d_int (by rfl)) d_str d_str))
  (b_cons (s_if (t_cmp (L2.op_neD hr.units) rf_ne (d_var 2) d_str (by rfl)) (b_one (s_set (i := 6) S.nd rfl (by first | exact .inl rfl | exact .inr rfl) (d_if (t_w (w_or (t_cmp L2.op_lt rf_cmp (d_var 3) d_int (by rfl)) (w_or1 (t_w (w_and (t_cmp (L2.op_eqD hr.units) rf_eq (d_var 3) d_int (by rfl)) (w_and1 (t_cmp (L2.op_eqD hr.units) rf_eq (d_call (ps := ["_law_bag_here", "_law_total"]) F__law_grab hr (by rfl) m__law_grab k__law_grab b__law_grab tk (d_cons (d_var 0) (d_cons d_int d_nil))) d_int (by rfl)))))))) d_str d_str))) b_nil)
  (b_one (s_set (i := 2) S.nd rfl (by first | exact .inl rfl | exact .inr rfl) (d_bin op_addA rf_add (d_bin op_addA rf_add (d_bin op_addA rf_add (d_bin op_addA rf_add (d_bin op_addA rf_add (d_var 2) (d_var 6)) (d_var 5)) d_str) (d_ct L2.call_str_int rf_str (by rfl) n_str boot_str (d_cons (d_var 4) d_nil))) d_str))))))))
  (b_one (s_ret (d_if (t_cmp (L2.op_neD hr.units) rf_ne (d_var 2) d_str (by rfl)) (d_var 2) d_str)))))
end Dn

set_option maxHeartbeats 4000000
namespace Dn
open PySem PySem.Spec PyProof.Rows
open L2 (PE PT PA PS PSs PG PGs PI Cx WX Takes HO Hp VK)
theorem ok__law_kinds_right {P : Program} {w : World} {K : PySem.W.Frag} {mg : Str → Option Value} {base : Heap} {f : Addr} {fd : FuncData} (F : L2.Fun K "_law_kinds_right" "_law_kinds_right" s__law_kinds_right f fd) (mf : mg "_law_kinds_right" = some (.ref f)) (bf : L2.Binds K fd ["_law_bag_here"] []) (h__law_grab : Has P w K mg base 1 "_law_grab" ["_law_bag_here", "_law_total"] f__law_grab) (h__law_kinds_text : Has P w K mg base 1 "_law_kinds_text" ["_law_kinds"] f__law_kinds_text) (h__law_mixed : Has P w K mg base 2 "_law_mixed" ["_law_bag_here", "_law_items"] f__law_mixed) (h__law_number : Has P w K mg base 3 "_law_number" ["_law_bag_here"] f__law_number) (h__law_one_of : Has P w K mg base 2 "_law_one_of" ["_law_bag_here", "_law_items"] f__law_one_of) (h__law_terms_text : Has P w K mg base 2 "_law_terms_text" ["_law_bag_here", "_law_terms"] f__law_terms_text) (h_read_kinds : Has P w K mg base 4 "read_kinds" ["text", "length"] f_read_kinds) (h_write_kinds : Has P w K mg base 4 "write_kinds" ["kinds"] f_write_kinds) (n_abs : mg "abs" = none) (n_enumerate : mg "enumerate" = none) (n_len : mg "len" = none) (n_max : mg "max" = none) (n_range : mg "range" = none) (n_tuple : mg "tuple" = none) : Has P w K mg base 5 "_law_kinds_right" ["_law_bag_here"] f__law_kinds_right := by
  obtain ⟨g__law_grab, e__law_grab, F__law_grab, m__law_grab, k__law_grab, b__law_grab⟩ := h__law_grab
  replace F__law_grab := fn_mono F__law_grab (by decide : 1 ≤ 4)
  obtain ⟨g__law_kinds_text, e__law_kinds_text, F__law_kinds_text, m__law_kinds_text, k__law_kinds_text, b__law_kinds_text⟩ := h__law_kinds_text
  replace F__law_kinds_text := fn_mono F__law_kinds_text (by decide : 1 ≤ 4)
  obtain ⟨g__law_mixed, e__law_mixed, F__law_mixed, m__law_mixed, k__law_mixed, b__law_mixed⟩ := h__law_mixed
  replace F__law_mixed := fn_mono F__law_mixed (by decide : 2 ≤ 4)
  obtain ⟨g__law_number, e__law_number, F__law_number, m__law_number, k__law_number, b__law_number⟩ := h__law_number
  replace F__law_number := fn_mono F__law_number (by decide : 3 ≤ 4)
  obtain ⟨g__law_one_of, e__law_one_of, F__law_one_of, m__law_one_of, k__law_one_of, b__law_one_of⟩ := h__law_one_of
  replace F__law_one_of := fn_mono F__law_one_of (by decide : 2 ≤ 4)
  obtain ⟨g__law_terms_text, e__law_terms_text, F__law_terms_text, m__law_terms_text, k__law_terms_text, b__law_terms_text⟩ := h__law_terms_text
  replace F__law_terms_text := fn_mono F__law_terms_text (by decide : 2 ≤ 4)
  obtain ⟨g_read_kinds, e_read_kinds, F_read_kinds, m_read_kinds, k_read_kinds, b_read_kinds⟩ := h_read_kinds
  obtain ⟨g_write_kinds, e_write_kinds, F_write_kinds, m_write_kinds, k_write_kinds, b_write_kinds⟩ := h_write_kinds
  refine ⟨f, fd, fn_ok F sc__law_kinds_right (by decide) fun cdv A outer s H E hr => ?_, mf, F.kp, bf⟩
  have S := sc__law_kinds_right
  have tk := takes_cx (P := P) (w := w) (K := K) (mg := mg) (base := base) (N := ["_law_bag_here", "_law_kinds", "_law_text", "_law_terms", "_law_index", "_law_number_here", "_law_part", "_law_due", "_law_other", "_law_turn", "_law_one"]) (qual := "_law_kinds_right") (sc := L2.defScope s__law_kinds_right) (f := f) (cdv := cdv) (A := A) (outer := outer) (s := s) (H := H) (E := E)
  have pp := passes_cx (P := P) (w := w) (K := K) (mg := mg) (base := base) (N := ["_law_bag_here", "_law_kinds", "_law_text", "_law_terms", "_law_index", "_law_number_here", "_law_part", "_law_due", "_law_other", "_law_turn", "_law_one"]) (qual := "_law_kinds_right") (sc := L2.defScope s__law_kinds_right) (f := f) (cdv := cdv) (A := A) (outer := outer) (s := s) (H := H) (E := E)
  exact (b_cons (s_set (i := 1) S.nd rfl (by first | exact .inl rfl | exact .inr rfl) (d_ct L2.call_tuple_of rf_tuple (by rfl) n_tuple boot_tuple (d_cons (d_lc rfl S.nd (i_rg1 (by rfl) n_range (d_cons (d_bin op_addA rf_add d_int (d_call (ps := ["_law_bag_here", "_law_items"]) F__law_one_of hr (by rfl) m__law_one_of k__law_one_of b__law_one_of tk (d_cons (d_var 0) (d_cons (d_lst (d_cons (d_call (ps := ["_law_bag_here", "_law_total"]) F__law_grab hr (by rfl) m__law_grab k__law_grab b__law_grab tk (d_cons (d_var 0) (d_cons d_int d_nil))) (d_cons (d_call (ps := ["_law_bag_here", "_law_total"]) F__law_grab hr (by rfl) m__law_grab k__law_grab b__law_grab tk (d_cons (d_var 0) (d_cons d_int d_nil))) d_nil))) d_nil)))) d_nil)) (L2.blkOk_by (own := [("_law_turn", 9)]) (by first | rfl | decide +kernel)) (by intro _ _ _ _ _; exact (g_name (i := 9) S.nd rfl (by first | exact .inl rfl | exact .inr rfl))) (by decide) (by intro _ _ _ _ _; exact ts_nil) (by intro _ _ _ _ _; exact (d_call (ps := ["_law_bag_here"]) F__law_number hr (by rfl) m__law_number k__law_number b__law_number takes0 (d_cons (d_var 0) d_nil)))) d_nil)))
  (b_cons (s_set (i := 2) S.nd rfl (by first | exact .inl rfl | exact .inr rfl) (d_call (ps := ["_law_kinds"]) F__law_kinds_text hr (by rfl) m__law_kinds_text k__law_kinds_text b__law_kinds_text tk (d_cons (d_var 1) d_nil)))
  (b_cons (s_if (t_w (w_or (t_cmp (L2.op_neD hr.units) rf_ne (d_call (ps := ["kinds"]) F_write_kinds hr (by rfl) m_write_kinds k_write_kinds b_write_kinds tk (d_cons (d_var 1) d_nil)) (d_var 2) (by rfl)) (w_or1 (t_cmp (L2.op_neD hr.units) rf_ne (d_call (ps := ["text", "length"]) F_read_kinds hr (by rfl) m_read_kinds k_read_kinds b_read_kinds tk (d_cons (d_var 2) (d_cons (d_cb call_lenA rf_len (by rfl) n_len boot_len (d_cons (d_var 1) d_nil)) d_nil))) (d_var 1) (by rfl))))) (b_one (s_ret d_bl)) b_nil)
  (b_cons (s_set (i := 3) S.nd rfl (by first | exact .inl rfl | exact .inr rfl) (d_lst d_nil))
  (b_cons (s_for pp rfl (i_en (by rfl) n_enumerate (d_cons (d_var 1) d_nil)) (g_tup rfl (gs_cons (g_name (i := 4) S.nd rfl (by first | exact .inl rfl | exact .inr rfl)) (gs_cons (g_name (i := 5) S.nd rfl (by first | exact .inl rfl | exact .inr rfl)) gs_nil))) (b_cons (s_set (i := 6) S.nd rfl (by first | exact .inl rfl | exact .inr rfl) (d_if (t_cmp (L2.op_eqD hr.units) rf_eq (d_call (ps := ["_law_bag_here", "_law_total"]) F__law_grab hr (by rfl) m__law_grab k__law_grab b__law_grab tk (d_cons (d_var 0) (d_cons d_int d_nil))) d_int (by rfl)) (d_call (ps := ["_law_bag_here", "_law_items"]) F__law_one_of hr (by rfl) m__law_one_of k__law_one_of b__law_one_of tk (d_cons (d_var 0) (d_cons (d_lst (d_cons d_int (d_cons d_int (d_cons (d_un L2.un_neg rf_neg d_int) (d_cons d_int d_nil))))) d_nil))) d_int))
  (b_one (s_set (i := 3) S.nd rfl (by first | exact .inl rfl | exact .inr rfl) (d_bin op_addA rf_add (d_var 3) (d_lc rfl S.nd (i_seq (d_tup (d_cons (d_bin L2.op_sub rf_sub (d_var 5) (d_var 6)) (d_cons (d_var 6) d_nil)))) (L2.blkOk_by (own := [("_law_one", 10)]) (by first | rfl | decide +kernel)) (by intro _ _ _ _ _; exact (g_name (i := 10) S.nd rfl (by first | exact .inl rfl | exact .inr rfl))) (by decide) (by intro _ _ _ _ _; exact (ts_one (t_w (w_or (t_cmp (L2.op_neD hr.units) rf_ne (d_var 10) d_int (by rfl)) (w_or1 (t_cmp (L2.op_eqD hr.units) rf_eq (d_call (ps := ["_law_bag_here", "_law_total"]) F__law_grab hr (by rfl) m__law_grab k__law_grab b__law_grab takes0 (d_cons (d_var 0) (d_cons d_int d_nil))) d_int (by rfl))))))) (by intro _ _ _ _ _; exact (d_tup (d_cons (d_var 10) (d_cons (d_var 4) d_nil))))))))))
  (b_cons (s_setLc (i := 3) rfl S.nd rfl rfl (by exact L2.sw_true rfl rfl rfl rfl) (i_seq (d_call (ps := ["_law_bag_here", "_law_items"]) F__law_mixed hr (by rfl) m__law_mixed k__law_mixed b__law_mixed tk (d_cons (d_var 0) (d_cons (d_var 3) d_nil)))) (L2.blkOk_by (own := [("_law_number_here", 5), ("_law_index", 4)]) (by first | rfl | decide +kernel)) (by intro _ _ _ _ _; exact (g_tup rfl (gs_cons (g_name (i := 5) S.nd rfl (by first | exact .inl rfl | exact .inr rfl)) (gs_cons (g_name (i := 4) S.nd rfl (by first | exact .inl rfl | exact .inr rfl)) gs_nil)))) (by decide) (by intro _ _ _ _ _; exact (ts_one (t_cmp L2.op_lt rf_cmp (d_cb L2.call_abs rf_abs (by rfl) n_abs boot_abs (d_cons (d_var 5) d_nil)) (d_bin op_powW rf_pow d_int d_int) (by rfl)))) (by intro _ _ _ _ _; exact (d_tup (d_cons (d_var 5) (d_cons (d_var 4) d_nil)))))
  (b_cons (s_set (i := 7) S.nd rfl (by first | exact .inl rfl | exact .inr rfl) (d_bin op_mulA rf_mul (d_lst (d_cons d_int d_nil)) (d_cb call_lenA rf_len (by rfl) n_len boot_len (d_cons (d_var 1) d_nil))))
  (b_cons (s_for pp rfl (i_seq (d_var 3)) (g_tup rfl (gs_cons (g_name (i := 5) S.nd rfl (by first | exact .inl rfl | exact .inr rfl)) (gs_cons (g_name (i := 4) S.nd rfl (by first | exact .inl rfl | exact .inr rfl)) gs_nil))) (b_one (s_setIt (L2.hu_of hr) (d_var 7) (d_var 4) (d_bin op_addA rf_add (d_ix (L2.hu_of hr) (d_var 7) (d_var 4)) (d_var 5)))))
  (b_cons (s_set (i := 8) S.nd rfl (by first | exact .inl rfl | exact .inr rfl) (d_call (ps := ["_law_bag_here", "_law_terms"]) F__law_terms_text hr (by rfl) m__law_terms_text k__law_terms_text b__law_terms_text tk (d_cons (d_var 0) (d_cons (d_var 3) d_nil))))
  (b_cons (s_if (t_w (w_or (t_cmp L2.op_gt rf_cmp (d_cb call_lenA rf_len (by rfl) n_len boot_len (d_cons (d_var 8) d_nil)) d_int (by rfl)) (w_or1 (t_cmp L2.op_ge rf_cmp (d_cb (call_maxA rfl) rf_max (by rfl) n_max boot_max (d_cons (d_lc rfl S.nd (i_seq (d_var 7)) (L2.blkOk_by (own := [("_law_number_here", 5)]) (by first | rfl | decide +kernel)) (by intro _ _ _ _ _; exact (g_name (i := 5) S.nd rfl (by first | exact .inl rfl | exact .inr rfl))) (by decide) (by intro _ _ _ _ _; exact ts_nil) (by intro _ _ _ _ _; exact (d_cb L2.call_abs rf_abs (by rfl) n_abs boot_abs (d_cons (d_var 5) d_nil)))) d_nil)) (d_bin op_powW rf_pow d_int d_int) (by rfl))))) (b_one (s_ret d_bl)) b_nil)
  (b_one (s_ret (d_cmp (L2.op_eqD hr.units) rf_eq (d_call (ps := ["text", "length"]) F_read_kinds hr (by rfl) m_read_kinds k_read_kinds b_read_kinds tk (d_cons (d_var 8) (d_cons (d_cb call_lenA rf_len (by rfl) n_len boot_len (d_cons (d_var 1) d_nil)) d_nil))) (d_ct L2.call_tuple_of rf_tuple (by rfl) n_tuple boot_tuple (d_cons (d_var 7) d_nil)) (by rfl))))))))))))))
end Dn

set_option maxHeartbeats 4000000
namespace Dn
open PySem PySem.Spec PyProof.Rows
open L2 (PE PT PA PS PSs PG PGs PI Cx WX Takes HO Hp VK)
theorem ok_law {P : Program} {w : World} {K : PySem.W.Frag} {mg : Str → Option Value} {base : Heap} {f : Addr} {fd : FuncData} (F : L2.Fun K "law" "law" s_law f fd)  (h__law_bag : Has P w K mg base 1 "_law_bag" ["_law_script", "_law_spot"] f__law_bag) (h__law_kinds_right : Has P w K mg base 5 "_law_kinds_right" ["_law_bag_here"] f__law_kinds_right) (h__law_moves_right : Has P w K mg base 5 "_law_moves_right" ["_law_bag_here"] f__law_moves_right) (h__law_rows_right : Has P w K mg base 5 "_law_rows_right" ["_law_bag_here"] f__law_rows_right) (h_read_kinds : Has P w K mg base 4 "read_kinds" ["text", "length"] f_read_kinds) (h_read_move : Has P w K mg base 4 "read_move" ["text", "places"] f_read_move) (h_read_row : Has P w K mg base 3 "read_row" ["text"] f_read_row) (h_write_kinds : Has P w K mg base 4 "write_kinds" ["kinds"] f_write_kinds) (h_write_move : Has P w K mg base 4 "write_move" ["move"] f_write_move) (h_write_row : Has P w K mg base 4 "write_row" ["row"] f_write_row) (c_MOST_MEMBERS : ∃ t, mg "MOST_MEMBERS" = some (.int 60 t)) (c_MOST_SIGNS : ∃ t, mg "MOST_SIGNS" = some (.int 3000 t)) (n_len : mg "len" = none) (n_max : mg "max" = none) (n_min : mg "min" = none) (n_range : mg "range" = none) : FnD P w K mg base 6 f fd ["_law_script"] f_law := by
  obtain ⟨g__law_bag, e__law_bag, F__law_bag, m__law_bag, k__law_bag, b__law_bag⟩ := h__law_bag
  replace F__law_bag := fn_mono F__law_bag (by decide : 1 ≤ 5)
  obtain ⟨g__law_kinds_right, e__law_kinds_right, F__law_kinds_right, m__law_kinds_right, k__law_kinds_right, b__law_kinds_right⟩ := h__law_kinds_right
  obtain ⟨g__law_moves_right, e__law_moves_right, F__law_moves_right, m__law_moves_right, k__law_moves_right, b__law_moves_right⟩ := h__law_moves_right
  obtain ⟨g__law_rows_right, e__law_rows_right, F__law_rows_right, m__law_rows_right, k__law_rows_right, b__law_rows_right⟩ := h__law_rows_right
  obtain ⟨g_read_kinds, e_read_kinds, F_read_kinds, m_read_kinds, k_read_kinds, b_read_kinds⟩ := h_read_kinds
  replace F_read_kinds := fn_mono F_read_kinds (by decide : 4 ≤ 5)
  obtain ⟨g_read_move, e_read_move, F_read_move, m_read_move, k_read_move, b_read_move⟩ := h_read_move
  replace F_read_move := fn_mono F_read_move (by decide : 4 ≤ 5)
  obtain ⟨g_read_row, e_read_row, F_read_row, m_read_row, k_read_row, b_read_row⟩ := h_read_row
  replace F_read_row := fn_mono F_read_row (by decide : 3 ≤ 5)
  obtain ⟨g_write_kinds, e_write_kinds, F_write_kinds, m_write_kinds, k_write_kinds, b_write_kinds⟩ := h_write_kinds
  replace F_write_kinds := fn_mono F_write_kinds (by decide : 4 ≤ 5)
  obtain ⟨g_write_move, e_write_move, F_write_move, m_write_move, k_write_move, b_write_move⟩ := h_write_move
  replace F_write_move := fn_mono F_write_move (by decide : 4 ≤ 5)
  obtain ⟨g_write_row, e_write_row, F_write_row, m_write_row, k_write_row, b_write_row⟩ := h_write_row
  replace F_write_row := fn_mono F_write_row (by decide : 4 ≤ 5)
  refine fn_ok F sc_law (by decide) fun cdv A outer s H E hr => ?_
  have S := sc_law
  have tk := takes_cx (P := P) (w := w) (K := K) (mg := mg) (base := base) (N := ["_law_script", "_law_spot", "_law_bag_here", "_law_turn", "_law_told", "_law_due"]) (qual := "law") (sc := L2.defScope s_law) (f := f) (cdv := cdv) (A := A) (outer := outer) (s := s) (H := H) (E := E)
  have pp := passes_cx (P := P) (w := w) (K := K) (mg := mg) (base := base) (N := ["_law_script", "_law_spot", "_law_bag_here", "_law_turn", "_law_told", "_law_due"]) (qual := "law") (sc := L2.defScope s_law) (f := f) (cdv := cdv) (A := A) (outer := outer) (s := s) (H := H) (E := E)
  exact (b_cons (s_for pp rfl (i_rg1 (by rfl) n_range (d_cons (d_cb (call_maxA rfl) rf_max (by rfl) n_max boot_max (d_cons d_int (d_cons (d_cb (call_minA rfl) rf_min (by rfl) n_min boot_min (d_cons d_int (d_cons (d_cb call_lenA rf_len (by rfl) n_len boot_len (d_cons (d_var 0) d_nil)) d_nil))) d_nil))) d_nil)) (g_name (i := 1) S.nd rfl (by first | exact .inl rfl | exact .inr rfl)) (b_cons (s_set (i := 2) S.nd rfl (by first | exact .inl rfl | exact .inr rfl) (d_call (ps := ["_law_script", "_law_spot"]) F__law_bag hr (by rfl) m__law_bag k__law_bag b__law_bag tk (d_cons (d_var 0) (d_cons (d_var 1) d_nil))))
  (b_one (s_for pp rfl (i_rg1 (by rfl) n_range (d_cons d_int d_nil)) (g_name (i := 3) S.nd rfl (by first | exact .inl rfl | exact .inr rfl)) (b_one (s_if (t_w (w_or (t_not (t_val (d_call (ps := ["_law_bag_here"]) F__law_moves_right hr (by rfl) m__law_moves_right k__law_moves_right b__law_moves_right tk (d_cons (d_var 2) d_nil)))) (w_or (t_not (t_val (d_call (ps := ["_law_bag_here"]) F__law_rows_right hr (by rfl) m__law_rows_right k__law_rows_right b__law_rows_right tk (d_cons (d_var 2) d_nil)))) (w_or1 (t_not (t_val (d_call (ps := ["_law_bag_here"]) F__law_kinds_right hr (by rfl) m__law_kinds_right k__law_kinds_right b__law_kinds_right tk (d_cons (d_var 2) d_nil)))))))) (b_one (s_ret d_bl)) b_nil))))))
  (b_cons (s_set (i := 4) S.nd rfl (by first | exact .inl rfl | exact .inr rfl) (d_lst (d_cons (d_call (ps := ["move"]) F_write_move hr (by rfl) m_write_move k_write_move b_write_move tk (d_cons (d_tup (d_cons d_int (d_cons d_int (d_cons d_int (d_cons d_int (d_cons d_int d_nil)))))) d_nil)) (d_cons (d_call (ps := ["move"]) F_write_move hr (by rfl) m_write_move k_write_move b_write_move tk (d_cons (d_tup (d_cons d_int (d_cons d_int d_nil))) d_nil)) (d_cons (d_call (ps := ["text", "places"]) F_read_move hr (by rfl) m_read_move k_read_move b_read_move tk (d_cons d_str (d_cons d_int d_nil))) (d_cons (d_call (ps := ["row"]) F_write_row hr (by rfl) m_write_row k_write_row b_write_row tk (d_cons (d_tup (d_cons d_int (d_cons d_int (d_cons d_int (d_cons (d_un L2.un_neg rf_neg d_int) d_nil))))) d_nil)) (d_cons (d_call (ps := ["text"]) F_read_row hr (by rfl) m_read_row k_read_row b_read_row tk (d_cons d_str d_nil)) d_nil)))))))
  (b_cons (s_set (i := 5) S.nd rfl (by first | exact .inl rfl | exact .inr rfl) (d_lst (d_cons d_str (d_cons d_str (d_cons (d_tup (d_cons d_int (d_cons d_int (d_cons d_int (d_cons d_int (d_cons d_int (d_cons d_int d_nil))))))) (d_cons d_str (d_cons (d_tup (d_cons d_int (d_cons (d_un L2.un_neg rf_neg d_int) d_nil))) d_nil)))))))
  (b_cons (s_if (t_w (w_or (t_cmp (L2.op_neD hr.units) rf_ne (d_var 4) (d_var 5) (by rfl)) (w_or1 (t_cmp (L2.op_neD hr.units) rf_ne (d_lst (d_cons (d_gint (by rfl) c_MOST_SIGNS) (d_cons (d_gint (by rfl) c_MOST_MEMBERS) d_nil))) (d_lst (d_cons d_int (d_cons d_int d_nil))) (by rfl))))) (b_one (s_ret d_bl)) b_nil)
  (b_cons (s_set (i := 4) S.nd rfl (by first | exact .inl rfl | exact .inr rfl) (d_lst (d_cons (d_call (ps := ["kinds"]) F_write_kinds hr (by rfl) m_write_kinds k_write_kinds b_write_kinds tk (d_cons (d_tup (d_cons d_int (d_cons d_int (d_cons (d_un L2.un_neg rf_neg d_int) (d_cons d_int d_nil))))) d_nil)) (d_cons (d_call (ps := ["kinds"]) F_write_kinds hr (by rfl) m_write_kinds k_write_kinds b_write_kinds tk (d_cons (d_tup (d_cons (d_un L2.un_neg rf_neg d_int) (d_cons d_int d_nil))) d_nil)) (d_cons (d_call (ps := ["text", "length"]) F_read_kinds hr (by rfl) m_read_kinds k_read_kinds b_read_kinds tk (d_cons d_str (d_cons d_int d_nil))) (d_cons (d_call (ps := ["text", "length"]) F_read_kinds hr (by rfl) m_read_kinds k_read_kinds b_read_kinds tk (d_cons d_str (d_cons d_int d_nil))) (d_cons (d_call (ps := ["kinds"]) F_write_kinds hr (by rfl) m_write_kinds k_write_kinds b_write_kinds tk (d_cons (d_tup (d_cons d_int (d_cons d_int d_nil))) d_nil)) d_nil)))))))
  (b_one (s_ret (d_and (d_cmp (L2.op_eqD hr.units) rf_eq (d_var 4) (d_lst (d_cons d_str (d_cons d_str (d_cons (d_tup (d_cons d_int (d_cons (d_un L2.un_neg rf_neg d_int) d_nil))) (d_cons (d_tup (d_cons d_int (d_cons d_int (d_cons d_int d_nil)))) (d_cons d_str d_nil)))))) (by rfl)) (d_one (d_cmp (L2.op_eqD hr.units) rf_eq (d_call (ps := ["text", "length"]) F_read_kinds hr (by rfl) m_read_kinds k_read_kinds b_read_kinds tk (d_cons d_str (d_cons d_int d_nil))) (d_tup (d_cons d_int (d_cons d_int d_nil))) (by rfl)))))))))))
end Dn

set_option maxHeartbeats 4000000
namespace Dn
open PySem
def Good (z : Int) : Prop := -1000000000000000000000000000000000000000000000000000000000000 < z ∧ z < 1000000000000000000000000000000000000000000000000000000000000
theorem small_line {k : Nat} (h : k ≤ 16777216) : k ≤ sizeLine := by rw [sizeLine_eq]; exact h
theorem lt_line {k : Nat} (h : k < 16777216) : k < sizeLine := by rw [sizeLine_eq]; exact h
/-! ### built-ins on values -/
theorem ok_bind {α β : Type} {a : α} {h : Hs} {k : α → Hs → R β} : (R.ok a h).bind k = k a h := rfl
theorem isi_tup {xs : List A} {h : Hs} : bIsi [.tup xs, .ty "tuple"] h = .ok (.bl true) h := rfl
theorem isi_str {x : Str} {h : Hs} : bIsi [.str x, .ty "str"] h = .ok (.bl true) h := rfl
theorem isi_int {i : Int} {h : Hs} : bIsi [.int i, .ty "int"] h = .ok (.bl true) h := rfl
theorem isi_boo {i : Int} {h : Hs} : bIsi [.int i, .ty "bool"] h = .ok (.bl false) h := rfl
theorem len_tup {xs : List A} {h : Hs} : bLen [.tup xs] h = .ok (.int xs.length) h := rfl
theorem rg_if {a b : Int} {α : Type} (r : R α) : (if rgOk a b = true then r else .no) = if rgOk a b = true then r else .no := rfl
theorem len_ref {p : Nat} {xs : List A} {h : Hs} (e : h[p]? = some (.lst xs)) : bLen [.ref p] h = .ok (.int xs.length) h := by simp only [bLen, lenA, e]
theorem len_str {x : Str} {h : Hs} (e : x.length ≤ 16777216) : bLen [.str x] h = .ok (.int x.length) h := by simp only [bLen, lenA, small_line e, if_true]
theorem lsOf_ref {p : Nat} {xs : List A} {h : Hs} (e : h[p]? = some (.lst xs)) : lsOf h (.ref p) = some xs := by simp only [lsOf, e]
theorem seqOf_ref {p : Nat} {xs : List A} {h : Hs} (e : h[p]? = some (.lst xs)) : seqOf h (.ref p) = some xs := by simp only [seqOf, e]
theorem bls_all (k : Nat) : blsOf (List.replicate k (A.bl true)) = some (List.replicate k true) := by
  induction k with
  | zero => rfl
  | succ k ih => rw [List.replicate_succ, blsOf, ih]; rfl
theorem all_ref {p k : Nat} {h : Hs} (e : h[p]? = some (.lst (List.replicate k (A.bl true)))) : bAll [.ref p] h = .ok (.bl true) h := by
  have q : (lsOf h (A.ref p)).bind blsOf = some (List.replicate k true) := by rw [lsOf_ref e]; exact bls_all k
  unfold bAll
  dsimp only
  rw [q]
  dsimp only
  rw [show (List.replicate k true).all id = true by simp]
theorem eq_I {neg : Bool} {i j : Int} {h : Hs} : eqA neg (.int i) (.int j) h = .ok (.bl (if neg then !decide (i = j) else decide (i = j))) h := by
  have q : PyData.eqv (.int i) (.int j) = decide (i = j) := by
    show (i == j) = decide (i = j)
    by_cases z : i = j
    · subst z; simp
    · rw [decide_eq_false z]; exact beq_eq_false_iff_ne.mpr z
  unfold eqA toD
  simp only [toDw]
  rw [show (SeqAt.shaped (.int i) && SeqAt.shaped (.int j)) = true by rfl, q]
  rfl
theorem add_I {i j : Int} {h : Hs} : intA addI (.int i) (.int j) h = .ok (.int (i + j)) h := rfl
theorem sub_I {i j : Int} {h : Hs} : intA subI (.int i) (.int j) h = .ok (.int (i - j)) h := rfl
theorem mod_I {i j : Int} {h : Hs} (hj : 0 < j) : intA modI (.int i) (.int j) h = .ok (.int (i % j)) h := by
  unfold intA modI
  dsimp only
  rw [if_pos hj]
theorem div_I {i j : Int} {h : Hs} (hj : 0 < j) (hl : j.natAbs.log2 < 9000) : intA divI (.int i) (.int j) h = .ok (.int (i / j)) h := by
  unfold intA divI
  dsimp only
  rw [if_pos ⟨hj, hl⟩]
theorem mul_I {i j : Int} {h : Hs} (hl : i.natAbs.log2 + j.natAbs.log2 < 1000000) : mulA (.int i) (.int j) h = .ok (.int (i * j)) h := by
  unfold mulA mulI
  dsimp only
  rw [if_pos hl]
theorem log2_lt_of {m k : Nat} (h : m < 2 ^ k) (hk : 0 < k) : m.log2 < k := by
  by_cases z : m = 0
  · subst z; simpa using hk
  · exact (Nat.log2_lt z).mpr h
/-! ### what is an int -/
theorem is_plain_int {n : Nat} {h : Hs} {i : Int} : f_is_plain n [.int i] h = .ok (.bl true) h := rfl
theorem is_integer_int {n : Nat} {h : Hs} {i : Int} (g : Good i) : f_is_integer n [.int i] h = .ok (.bl true) h := by
  have q : Ev NoX (f_is_integer n [.int i] h) (fun a h' => a = .bl true ∧ h' = h) := by
    refine ev_body rfl ?_
    simp only [d_is_integer, seqD, ifD, retD, retND, dropD, setD, nextD, varD, conD, bin2, un1, testD, boolR, notT, andT, orT, ifE, andV, orV, notV, tupD, lstD, cbD, nilD, consD, asgD, parD, nameG, tupG, consG, nilG, setItD, augD, augItD, methD, forD, whileD, lcD, lc2D, sliceD, someD, noneD, chain3, truD, truR, orTD, andTD, notTD, joinedD, glueD, lstRg, rg1, rg2, itRg1, itRg2, itSeq, itEn, dnewKD, newK, newL, maxKD, yesT, wipeA, cmpI, add_I, sub_I, negA, ok_bind, sizeLine_eq, Nat.reduceLeDiff, eq_I, isi_tup, isi_str, isi_int, isi_boo, len_tup, qlt, qle, qgt, qge, rg_if, ev_ok, ev_bind, ev_if, ev_call, es_nx, es_rt, es_seq, es_then, es_if, List.getElem?_cons_succ, List.getElem?_cons_zero, List.set_cons_succ, List.set_cons_zero, List.length_cons, List.length_nil, List.map_cons, List.map_nil, List.replicate, List.cons_append, List.nil_append, Option.bind_some, Option.map_some, Bool.not_true, Bool.not_false, Bool.false_eq_true, if_true, if_false, decide_true, decide_false, true_and, and_true, Nat.zero_add, Nat.add_zero, Nat.reduceAdd, Nat.reduceSub, reduceIte, Nat.sub_self, Nat.succ_sub_succ_eq_sub, Nat.add_one_sub_one, is_plain_int, g.1, g.2]
  obtain ⟨a, h', e, rfl, rfl⟩ := q.get
  exact e
/-- [test(x) for x in xs], all true -/
theorem lc_true {X : Xn → Hs → Prop} {e : DE} {n k v : Nat} {xs : List A} {s : Sl} {h : Hs} {Q : List A → Hs → Prop} (hk : xs.length < k) (hz : xs.length < 16777216) (he : ∀ j (hj : j < xs.length), e n (s.set v (some xs[j])) h = .ok (.bl true) h) (q : Q (List.replicate xs.length (.bl true)) h) :
    Ev X (lcL (stepX xs) (nameG v) yesT e n k 0 [] s h) Q := by
  refine lc_any (m := xs.length) (fun j acc h' => j ≤ xs.length ∧ acc = List.replicate j (.bl true) ∧ h' = h) ?_ ?_ xs.length k 0 [] h (Nat.zero_add _) hk ⟨Nat.zero_le _, rfl, rfl⟩
  · rintro j acc h' hj ⟨_, rfl, rfl⟩
    refine ⟨xs[j], _, by unfold stepX; rw [List.getElem?_eq_getElem hj], rfl, ?_⟩
    rw [yesT, ev_ok]
    simp only [if_true]
    rw [he j hj, ev_ok]
    exact ⟨lt_line (by rw [List.length_replicate]; omega), hj, by rw [List.replicate_succ'], rfl⟩
  · rintro acc h' ⟨_, rfl, rfl⟩
    exact ⟨by unfold stepX; rw [List.getElem?_eq_none (Nat.le_refl _)], q⟩
theorem are_integers_ok {X : Xn → Hs → Prop} {n : Nat} {h : Hs} {xs : List Int} (hn : 5000 ≤ n) (h1 : 1 ≤ xs.length) (h2 : xs.length ≤ 60) (g : ∀ z ∈ xs, Good z) : Ev X (f_are_integers n [.tup (xs.map A.int)] h) fun a h' => a = .bl true ∧ Gm none h h' := by
  refine ev_body rfl ?_
  simp only [d_are_integers, seqD, ifD, retD, retND, dropD, setD, nextD, varD, conD, bin2, un1, testD, boolR, notT, andT, orT, ifE, andV, orV, notV, tupD, lstD, cbD, nilD, consD, asgD, parD, nameG, tupG, consG, nilG, setItD, augD, augItD, methD, forD, whileD, lcD, lc2D, sliceD, someD, noneD, chain3, truD, truR, orTD, andTD, notTD, joinedD, glueD, lstRg, rg1, rg2, itRg1, itRg2, itSeq, itEn, dnewKD, newK, newL, maxKD, yesT, wipeA, cmpI, add_I, sub_I, negA, ok_bind, sizeLine_eq, Nat.reduceLeDiff, eq_I, isi_tup, isi_str, isi_int, isi_boo, len_tup, qlt, qle, qgt, qge, rg_if, ev_ok, ev_bind, ev_if, ev_call, es_nx, es_rt, es_seq, es_then, es_if, List.getElem?_cons_succ, List.getElem?_cons_zero, List.set_cons_succ, List.set_cons_zero, List.length_cons, List.length_nil, List.map_cons, List.map_nil, List.replicate, List.cons_append, List.nil_append, Option.bind_some, Option.map_some, Bool.not_true, Bool.not_false, Bool.false_eq_true, if_true, if_false, decide_true, decide_false, true_and, and_true, Nat.zero_add, Nat.add_zero, Nat.reduceAdd, Nat.reduceSub, reduceIte, Nat.sub_self, Nat.succ_sub_succ_eq_sub, Nat.add_one_sub_one, List.length_map]
  simp only [show (1 : Int) ≤ (xs.length : Int) by omega, show (xs.length : Int) ≤ 60 by omega, seqD, ifD, retD, retND, dropD, setD, nextD, varD, conD, bin2, un1, testD, boolR, notT, andT, orT, ifE, andV, orV, notV, tupD, lstD, cbD, nilD, consD, asgD, parD, nameG, tupG, consG, nilG, setItD, augD, augItD, methD, forD, whileD, lcD, lc2D, sliceD, someD, noneD, chain3, truD, truR, orTD, andTD, notTD, joinedD, glueD, lstRg, rg1, rg2, itRg1, itRg2, itSeq, itEn, dnewKD, newK, newL, maxKD, yesT, wipeA, cmpI, add_I, sub_I, negA, ok_bind, sizeLine_eq, Nat.reduceLeDiff, eq_I, isi_tup, isi_str, isi_int, isi_boo, len_tup, qlt, qle, qgt, qge, rg_if, ev_ok, ev_bind, ev_if, ev_call, es_nx, es_rt, es_seq, es_then, es_if, List.getElem?_cons_succ, List.getElem?_cons_zero, List.set_cons_succ, List.set_cons_zero, List.length_cons, List.length_nil, List.map_cons, List.map_nil, List.replicate, List.cons_append, List.nil_append, Option.bind_some, Option.map_some, Bool.not_true, Bool.not_false, Bool.false_eq_true, if_true, if_false, decide_true, decide_false, true_and, and_true, Nat.zero_add, Nat.add_zero, Nat.reduceAdd, Nat.reduceSub, reduceIte, Nat.sub_self, Nat.succ_sub_succ_eq_sub, Nat.add_one_sub_one]
  refine lc_true (by rw [List.length_map]; omega) (by rw [List.length_map]; omega) (fun j hj => ?_) ?_
  · simp only [List.getElem_map, callD, seqD, ifD, retD, retND, dropD, setD, nextD, varD, conD, bin2, un1, testD, boolR, notT, andT, orT, ifE, andV, orV, notV, tupD, lstD, cbD, nilD, consD, asgD, parD, nameG, tupG, consG, nilG, setItD, augD, augItD, methD, forD, whileD, lcD, lc2D, sliceD, someD, noneD, chain3, truD, truR, orTD, andTD, notTD, joinedD, glueD, lstRg, rg1, rg2, itRg1, itRg2, itSeq, itEn, dnewKD, newK, newL, maxKD, yesT, wipeA, cmpI, add_I, sub_I, negA, ok_bind, sizeLine_eq, Nat.reduceLeDiff, eq_I, isi_tup, isi_str, isi_int, isi_boo, len_tup, qlt, qle, qgt, qge, rg_if, ev_ok, ev_bind, ev_if, ev_call, es_nx, es_rt, es_seq, es_then, es_if, List.getElem?_cons_succ, List.getElem?_cons_zero, List.set_cons_succ, List.set_cons_zero, List.length_cons, List.length_nil, List.map_cons, List.map_nil, List.replicate, List.cons_append, List.nil_append, Option.bind_some, Option.map_some, Bool.not_true, Bool.not_false, Bool.false_eq_true, if_true, if_false, decide_true, decide_false, true_and, and_true, Nat.zero_add, Nat.add_zero, Nat.reduceAdd, Nat.reduceSub, reduceIte, Nat.sub_self, Nat.succ_sub_succ_eq_sub, Nat.add_one_sub_one]
    exact is_integer_int (g _ (List.getElem_mem _))
  · rw [List.length_map, all_ref get_app, ev_ok]
    exact ⟨rfl, Gm.refl.app⟩
theorem is_within_ok {n : Nat} {h : Hs} {i lo hi : Int} (h1 : lo ≤ i) (h2 : i ≤ hi) : f_is_within n [.int i, .int lo, .int hi] h = .ok (.bl true) h := by
  have q : Ev NoX (f_is_within n [.int i, .int lo, .int hi] h) (fun a h' => a = .bl true ∧ h' = h) := by
    refine ev_body rfl ?_
    simp only [d_is_within, seqD, ifD, retD, retND, dropD, setD, nextD, varD, conD, bin2, un1, testD, boolR, notT, andT, orT, ifE, andV, orV, notV, tupD, lstD, cbD, nilD, consD, asgD, parD, nameG, tupG, consG, nilG, setItD, augD, augItD, methD, forD, whileD, lcD, lc2D, sliceD, someD, noneD, chain3, truD, truR, orTD, andTD, notTD, joinedD, glueD, lstRg, rg1, rg2, itRg1, itRg2, itSeq, itEn, dnewKD, newK, newL, maxKD, yesT, wipeA, cmpI, add_I, sub_I, negA, ok_bind, sizeLine_eq, Nat.reduceLeDiff, eq_I, isi_tup, isi_str, isi_int, isi_boo, len_tup, qlt, qle, qgt, qge, rg_if, ev_ok, ev_bind, ev_if, ev_call, es_nx, es_rt, es_seq, es_then, es_if, List.getElem?_cons_succ, List.getElem?_cons_zero, List.set_cons_succ, List.set_cons_zero, List.length_cons, List.length_nil, List.map_cons, List.map_nil, List.replicate, List.cons_append, List.nil_append, Option.bind_some, Option.map_some, Bool.not_true, Bool.not_false, Bool.false_eq_true, if_true, if_false, decide_true, decide_false, true_and, and_true, Nat.zero_add, Nat.add_zero, Nat.reduceAdd, Nat.reduceSub, reduceIte, Nat.sub_self, Nat.succ_sub_succ_eq_sub, Nat.add_one_sub_one, is_plain_int, h1, h2]
  obtain ⟨a, h', e, rfl, rfl⟩ := q.get
  exact e
theorem require_within_ok {n : Nat} {h : Hs} {i lo hi : Int} (h1 : lo ≤ i) (h2 : i ≤ hi) : f_require_within n [.int i, .int lo, .int hi] h = .ok .non h := by
  have q : Ev NoX (f_require_within n [.int i, .int lo, .int hi] h) (fun a h' => a = .non ∧ h' = h) := by
    refine ev_body rfl ?_
    simp only [d_require_within, seqD, ifD, retD, retND, dropD, setD, nextD, varD, conD, bin2, un1, testD, boolR, notT, andT, orT, ifE, andV, orV, notV, tupD, lstD, cbD, nilD, consD, asgD, parD, nameG, tupG, consG, nilG, setItD, augD, augItD, methD, forD, whileD, lcD, lc2D, sliceD, someD, noneD, chain3, truD, truR, orTD, andTD, notTD, joinedD, glueD, lstRg, rg1, rg2, itRg1, itRg2, itSeq, itEn, dnewKD, newK, newL, maxKD, yesT, wipeA, cmpI, add_I, sub_I, negA, ok_bind, sizeLine_eq, Nat.reduceLeDiff, eq_I, isi_tup, isi_str, isi_int, isi_boo, len_tup, qlt, qle, qgt, qge, rg_if, ev_ok, ev_bind, ev_if, ev_call, es_nx, es_rt, es_seq, es_then, es_if, List.getElem?_cons_succ, List.getElem?_cons_zero, List.set_cons_succ, List.set_cons_zero, List.length_cons, List.length_nil, List.map_cons, List.map_nil, List.replicate, List.cons_append, List.nil_append, Option.bind_some, Option.map_some, Bool.not_true, Bool.not_false, Bool.false_eq_true, if_true, if_false, decide_true, decide_false, true_and, and_true, Nat.zero_add, Nat.add_zero, Nat.reduceAdd, Nat.reduceSub, reduceIte, Nat.sub_self, Nat.succ_sub_succ_eq_sub, Nat.add_one_sub_one, is_within_ok h1 h2]
  obtain ⟨a, h', e, rfl, rfl⟩ := q.get
  exact e
theorem require_text_ok {n : Nat} {h : Hs} {x : Str} (hx : x.length ≤ 3000) : f_require_text n [.str x] h = .ok .non h := by
  have q : Ev NoX (f_require_text n [.str x] h) (fun a h' => a = .non ∧ h' = h) := by
    refine ev_body rfl ?_
    simp only [d_require_text, seqD, ifD, retD, retND, dropD, setD, nextD, varD, conD, bin2, un1, testD, boolR, notT, andT, orT, ifE, andV, orV, notV, tupD, lstD, cbD, nilD, consD, asgD, parD, nameG, tupG, consG, nilG, setItD, augD, augItD, methD, forD, whileD, lcD, lc2D, sliceD, someD, noneD, chain3, truD, truR, orTD, andTD, notTD, joinedD, glueD, lstRg, rg1, rg2, itRg1, itRg2, itSeq, itEn, dnewKD, newK, newL, maxKD, yesT, wipeA, cmpI, add_I, sub_I, negA, ok_bind, sizeLine_eq, Nat.reduceLeDiff, eq_I, isi_tup, isi_str, isi_int, isi_boo, len_tup, qlt, qle, qgt, qge, rg_if, ev_ok, ev_bind, ev_if, ev_call, es_nx, es_rt, es_seq, es_then, es_if, List.getElem?_cons_succ, List.getElem?_cons_zero, List.set_cons_succ, List.set_cons_zero, List.length_cons, List.length_nil, List.map_cons, List.map_nil, List.replicate, List.cons_append, List.nil_append, Option.bind_some, Option.map_some, Bool.not_true, Bool.not_false, Bool.false_eq_true, if_true, if_false, decide_true, decide_false, true_and, and_true, Nat.zero_add, Nat.add_zero, Nat.reduceAdd, Nat.reduceSub, reduceIte, Nat.sub_self, Nat.succ_sub_succ_eq_sub, Nat.add_one_sub_one, len_str (show x.length ≤ 16777216 by omega), show ¬ (3000 : Int) < (x.length : Int) by omega]
  obtain ⟨a, h', e, rfl, rfl⟩ := q.get
  exact e
end Dn

set_option maxHeartbeats 4000000
namespace Dn
open PySem
open TL (numL joinL)
/-! ### texts as lists of signs -/
def S (l : List Nat) : Str := SX.S l
theorem S_len (l : List Nat) : (S l).length = l.length := SX.S_len l

theorem c_lp : Str.ofString "(" = S [40] := by decide +kernel
theorem c_rp : Str.ofString ")" = S [41] := by decide +kernel
theorem c_sp : Str.ofString " " = S [32] := by decide +kernel
theorem c_co : Str.ofString "," = S [44] := by decide +kernel
theorem c_lb : Str.ofString "[" = S [91] := by decide +kernel
theorem c_rb : Str.ofString "]" = S [93] := by decide +kernel
theorem c_mi : Str.ofString "-" = S [45] := by decide +kernel
theorem c_pl : Str.ofString "+" = S [43] := by decide +kernel
theorem c_0 : Str.ofString "0" = S [48] := by decide +kernel
theorem c_un : Str.ofString "()" = S [40, 41] := by decide +kernel
theorem c_m0 : Str.ofString "-0" = S [45, 48] := by decide +kernel
theorem c_em : Str.ofString "" = S [] := by decide +kernel
theorem c_sm : Str.ofString " - " = S [32, 45, 32] := by decide +kernel
theorem c_ss : Str.ofString " + " = S [32, 43, 32] := by decide +kernel
theorem c_fi : Str.ofString "0123456789" = S [48, 49, 50, 51, 52, 53, 54, 55, 56, 57] := by decide +kernel
theorem S_inj {a b : List Nat} (e : S a = S b) : a = b := by
  have q := congrArg (fun x : Str => x.cps.toList) e
  simpa [S, SX.S] using q
def sm (cs : List Nat) : Bool := cs.all (· < 1114112)
theorem m_lp : sm [40] = true := by decide
theorem m_rp : sm [41] = true := by decide
theorem m_sp : sm [32] = true := by decide
theorem m_co : sm [44] = true := by decide
theorem m_lb : sm [91] = true := by decide
theorem m_rb : sm [93] = true := by decide
theorem m_mi : sm [45] = true := by decide
theorem m_pl : sm [43] = true := by decide
theorem m_0 : sm [48] = true := by decide
theorem m_un : sm [40, 41] = true := by decide
theorem m_m0 : sm [45, 48] = true := by decide
theorem m_em : sm [] = true := by decide
theorem m_sm : sm [32, 45, 32] = true := by decide
theorem m_ss : sm [32, 43, 32] = true := by decide
theorem sm_app {a b : List Nat} : sm (a ++ b) = (sm a && sm b) := List.all_append
theorem sm_mem {a : List Nat} : sm a = true ↔ ∀ c ∈ a, c < 1114112 := by unfold sm; simp
theorem sm_sub {a b : List Nat} (h : sm b = true) (z : ∀ c ∈ a, c ∈ b) : sm a = true := sm_mem.mpr fun c hc => sm_mem.mp h c (z c hc)
theorem sm_cut {cs : List Nat} (h : sm cs = true) {i k : Nat} : sm ((cs.drop i).take k) = true := sm_sub h fun c hc => List.mem_of_mem_drop (List.mem_of_mem_take hc)
theorem sm_take {cs : List Nat} (h : sm cs = true) {k : Nat} : sm (cs.take k) = true := sm_sub h fun c hc => List.mem_of_mem_take hc
theorem shaped_S {a : List Nat} (h : sm a = true) : SeqAt.shaped (.str (S a)) = true := by
  have q : PyData.canLay0 (.str (S a)) = true := by
    show (S a).cps.all (· < 0x110000) = true
    have e : (S a).cps.all (fun x => decide (x < 0x110000)) = a.all (fun x => decide (x < 0x110000)) := by simp [S, SX.S]
    rw [e]
    exact h
  unfold SeqAt.shaped
  rw [q]
  rfl
theorem eq_S {neg : Bool} {a b : List Nat} {h : Hs} (ha : sm a = true) (hb : sm b = true) : eqA neg (.str (S a)) (.str (S b)) h = .ok (.bl (if neg then !decide (a = b) else decide (a = b))) h := by
  have q : PyData.eqv (.str (S a)) (.str (S b)) = decide (a = b) := by
    show (S a == S b) = decide (a = b)
    by_cases z : a = b
    · subst z; simp
    · rw [decide_eq_false z]; exact beq_eq_false_iff_ne.mpr fun y => z (S_inj y)
  unfold eqA toD
  simp only [toDw, shaped_S ha, shaped_S hb, Bool.and_self, if_true, q]
theorem sl_S {cs : List Nat} {i k : Nat} {h : Hs} (hl : cs.length ≤ 16777216) : slA (.str (S cs)) (some (i : Int)) (some ((i + k : Nat) : Int)) h = .ok (.str (S ((cs.drop i).take k))) h := by
  unfold slA
  dsimp only
  rw [if_pos (by rw [S_len]; exact small_line hl)]
  unfold L2.cutS
  rw [HT.sIx_nat, HT.sIx_nat, S_len]
  congr 2
  show SX.S (List.take _ (List.drop _ cs)) = SX.S _
  refine congrArg SX.S ?_
  by_cases hi : i ≤ cs.length
  · rw [Nat.min_eq_left hi]
    by_cases hk : i + k ≤ cs.length
    · rw [Nat.min_eq_left hk, Nat.add_sub_cancel_left]
    · rw [Nat.min_eq_right (by omega), List.take_of_length_le (by rw [List.length_drop]; omega), List.take_of_length_le (by rw [List.length_drop]; omega)]
  · rw [Nat.min_eq_right (by omega), Nat.min_eq_right (by omega), Nat.sub_self, List.drop_eq_nil_of_le (show cs.length ≤ i by omega)]
    simp
theorem sl_to {cs : List Nat} {k : Nat} {h : Hs} (hl : cs.length ≤ 16777216) : slA (.str (S cs)) none (some (k : Int)) h = .ok (.str (S (cs.take k))) h := by
  have q := sl_S (i := 0) (k := k) (h := h) hl
  rw [Nat.zero_add, List.drop_zero] at q
  rw [← q]
  rfl
theorem ix_S {cs : List Nat} {i c : Nat} {h : Hs} (hl : cs.length ≤ 16777216) (hc : cs[i]? = some c) : ixA (.str (S cs)) (.int (i : Int)) h = .ok (.str (S [c])) h := by
  unfold ixA
  rw [if_neg (by simp [isDict])]
  dsimp only
  rw [if_pos (by rw [S_len]; exact small_line hl)]
  have e : L2.atI (S cs).cps.toList (i : Int) = some c := L2.atI_nat hc
  rw [e]
  rfl
theorem in_fig {c : Nat} {h : Hs} : inA false (.str (S [c])) (.str (S [48, 49, 50, 51, 52, 53, 54, 55, 56, 57])) h = .ok (.bl (decide (48 ≤ c ∧ c ≤ 57))) h := by
  have q : decide (c ∈ [48, 49, 50, 51, 52, 53, 54, 55, 56, 57]) = decide (48 ≤ c ∧ c ≤ 57) := by
    refine decide_eq_decide.mpr ?_
    simp only [List.mem_cons, List.not_mem_nil, or_false]
    omega
  unfold inA inSeq
  rw [if_neg (by simp [isDict])]
  dsimp only
  rw [show S [48, 49, 50, 51, 52, 53, 54, 55, 56, 57] = SX.S [48, 49, 50, 51, 52, 53, 54, 55, 56, 57] from rfl, show S [c] = SX.S [c] from rfl, SX.in_one, q]
  rfl
theorem len_S {cs : List Nat} {h : Hs} (hl : cs.length ≤ 16777216) : bLen [.str (S cs)] h = .ok (.int cs.length) h := by rw [len_str (by rw [S_len]; exact hl), S_len]
theorem min2 {i j : Int} {h : Hs} : bMin [.int i, .int j] h = .ok (.int (if j < i then j else i)) h := rfl
/-! ### digits -/
theorem num_head {m : Nat} (hm : 0 < m) : ∃ c r, numL m = c :: r ∧ c ≠ 48 ∧ 48 ≤ c ∧ c ≤ 57 := by
  induction m using Nat.strongRecOn with
  | _ m ih =>
    by_cases h : m < 10
    · exact ⟨48 + m, [], TL.numL_lt h, by omega, by omega, by omega⟩
    · obtain ⟨c, r, e, z⟩ := ih (m / 10) (by omega) (by omega)
      exact ⟨c, r ++ [48 + m % 10], by rw [TL.numL_step (by omega), e]; rfl, z⟩
theorem num_0 : numL 0 = [48] := TL.numL_lt (by decide)
theorem num_pos (m : Nat) : 1 ≤ (numL m).length := List.length_pos_iff.mpr (TL.numL_ne m)
/-- the next sign is no figure -/
def NoFig (r : List Nat) : Prop := ∀ c, r.head? = some c → ¬ (48 ≤ c ∧ c ≤ 57)
theorem int_num {m : Nat} {h : Hs} (hm : (numL m).length ≤ 60) : bInt [.str (S (numL m))] h = .ok (.int (m : Int)) h := by
  have q : PySem.intText? (S (numL m)) = some (m : Int) := by
    have z := TL.int_num (n := m) (by omega)
    rw [SX.num_S] at z
    exact z
  unfold bInt
  dsimp only
  rw [q]
  dsimp only
  rw [if_pos (by rw [S_len]; omega)]
theorem fig_num {m c j : Nat} (e : (numL m)[j]? = some c) : 48 ≤ c ∧ c ≤ 57 := TL.numL_digits m c (List.mem_of_getElem? e)
theorem plain_at_ok {n : Nat} {h : Hs} {cs rest : List Nat} {i m : Nat} (hn : 5000 ≤ n) (hl : cs.length ≤ 3000) (hs : sm cs = true) (e : cs.drop i = numL m ++ rest) (hm : (numL m).length ≤ 60) (hr : NoFig rest) :
    f_plain_at n [.str (S cs), .int (i : Int)] h = .ok (.tup [.int (m : Int), .int ((i + (numL m).length : Nat) : Int)]) h := by
  have q : Ev NoX (f_plain_at n [.str (S cs), .int (i : Int)] h) (fun a h' => a = .tup [.int (m : Int), .int ((i + (numL m).length : Nat) : Int)] ∧ h' = h) := by
    have hL := num_pos m
    have hi : i + (numL m).length ≤ cs.length := by
      have z := congrArg List.length e
      rw [List.length_drop, List.length_append] at z
      omega
    have hd : ∀ j c, (numL m)[j]? = some c → cs[i + j]? = some c := fun j c q => by
      rw [← List.getElem?_drop, e, List.getElem?_append_left (List.getElem?_eq_some_iff.mp q).1, q]
    have hend : ∀ c, cs[i + (numL m).length]? = some c → ¬ (48 ≤ c ∧ c ≤ 57) := fun c q => by
      rw [← List.getElem?_drop, e, List.getElem?_append_right (Nat.le_refl _), Nat.sub_self, ← List.head?_eq_getElem?] at q
      exact hr c q
    have e1 : ((i : Int) + 1) = ((i + 1 : Nat) : Int) := by omega
    have e60 : ((i : Int) + 60) = ((i + 60 : Nat) : Int) := by omega
    have hl2 : cs.length ≤ 16777216 := by omega
    refine ev_body rfl ?_
    -- where it may end at most
    refine step_seq (fun s h' => ∃ most : Nat, s = [some (.str (S cs)), some (.int (i : Int)), some (.int (i : Int)), some (.int (most : Int))] ∧ h' = h ∧ i + (numL m).length ≤ most ∧ (m = 0 → most = i + 1)) ?_ ?_
    · by_cases z : m = 0
      · subst z
        have et : (cs.drop i).take 1 = [48] := by rw [e, num_0]; rfl
        simp only [seqD, ifD, retD, retND, dropD, setD, nextD, varD, conD, bin2, un1, testD, boolR, notT, andT, orT, ifE, andV, orV, notV, tupD, lstD, cbD, nilD, consD, asgD, parD, nameG, tupG, consG, nilG, setItD, augD, augItD, methD, forD, whileD, lcD, lc2D, sliceD, someD, noneD, chain3, truD, truR, orTD, andTD, notTD, joinedD, glueD, lstRg, rg1, rg2, itRg1, itRg2, itSeq, itEn, dnewKD, newK, newL, maxKD, yesT, wipeA, cmpI, add_I, sub_I, negA, ok_bind, sizeLine_eq, Nat.reduceLeDiff, eq_I, isi_tup, isi_str, isi_int, isi_boo, len_tup, qlt, qle, qgt, qge, rg_if, ev_ok, ev_bind, ev_if, ev_call, es_nx, es_rt, es_seq, es_then, es_if, List.getElem?_cons_succ, List.getElem?_cons_zero, List.set_cons_succ, List.set_cons_zero, List.length_cons, List.length_nil, List.map_cons, List.map_nil, List.replicate, List.cons_append, List.nil_append, Option.bind_some, Option.map_some, Bool.not_true, Bool.not_false, Bool.false_eq_true, if_true, if_false, decide_true, decide_false, true_and, and_true, Nat.zero_add, Nat.add_zero, Nat.reduceAdd, Nat.reduceSub, reduceIte, Nat.sub_self, Nat.succ_sub_succ_eq_sub, Nat.add_one_sub_one, addA, e1, sl_S hl2, c_lp, c_rp, c_sp, c_co, c_lb, c_rb, c_mi, c_pl, c_0, c_un, c_m0, c_em, c_sm, c_ss, c_fi, m_lp, m_rp, m_sp, m_co, m_lb, m_rb, m_mi, m_pl, m_0, m_un, m_m0, m_em, m_sm, m_ss, eq_S, sm_cut hs, et]
        exact ⟨i + 1, rfl, by rw [num_0]; exact Nat.le_refl _, fun _ => rfl⟩
      · obtain ⟨c, r, ec, c1, _, _⟩ := num_head (m := m) (by omega)
        have et : ¬ ((cs.drop i).take 1 = [48]) := by
          rw [e, ec]
          simp [c1]
        simp only [seqD, ifD, retD, retND, dropD, setD, nextD, varD, conD, bin2, un1, testD, boolR, notT, andT, orT, ifE, andV, orV, notV, tupD, lstD, cbD, nilD, consD, asgD, parD, nameG, tupG, consG, nilG, setItD, augD, augItD, methD, forD, whileD, lcD, lc2D, sliceD, someD, noneD, chain3, truD, truR, orTD, andTD, notTD, joinedD, glueD, lstRg, rg1, rg2, itRg1, itRg2, itSeq, itEn, dnewKD, newK, newL, maxKD, yesT, wipeA, cmpI, add_I, sub_I, negA, ok_bind, sizeLine_eq, Nat.reduceLeDiff, eq_I, isi_tup, isi_str, isi_int, isi_boo, len_tup, qlt, qle, qgt, qge, rg_if, ev_ok, ev_bind, ev_if, ev_call, es_nx, es_rt, es_seq, es_then, es_if, List.getElem?_cons_succ, List.getElem?_cons_zero, List.set_cons_succ, List.set_cons_zero, List.length_cons, List.length_nil, List.map_cons, List.map_nil, List.replicate, List.cons_append, List.nil_append, Option.bind_some, Option.map_some, Bool.not_true, Bool.not_false, Bool.false_eq_true, if_true, if_false, decide_true, decide_false, true_and, and_true, Nat.zero_add, Nat.add_zero, Nat.reduceAdd, Nat.reduceSub, reduceIte, Nat.sub_self, Nat.succ_sub_succ_eq_sub, Nat.add_one_sub_one, addA, e1, e60, sl_S hl2, c_lp, c_rp, c_sp, c_co, c_lb, c_rb, c_mi, c_pl, c_0, c_un, c_m0, c_em, c_sm, c_ss, c_fi, m_lp, m_rp, m_sp, m_co, m_lb, m_rb, m_mi, m_pl, m_0, m_un, m_m0, m_em, m_sm, m_ss, eq_S, sm_cut hs, et]
        exact ⟨i + 60, rfl, by omega, fun y => absurd y z⟩
    · rintro s h' ⟨most, rfl, rfl, hmost, hz⟩
      -- to the last figure
      refine step_seq (fun s h'' => s = [some (.str (S cs)), some (.int (i : Int)), some (.int ((i + (numL m).length : Nat) : Int)), some (.int (most : Int))] ∧ h'' = h') ?_ ?_
      · refine while_m (fun k s h'' => ∃ j, j ≤ (numL m).length ∧ k = (numL m).length - j ∧ s = [some (.str (S cs)), some (.int (i : Int)), some (.int ((i + j : Nat) : Int)), some (.int (most : Int))] ∧ h'' = h') ?_ n (numL m).length _ _ (by omega) ⟨0, Nat.zero_le _, rfl, rfl, rfl⟩
        rintro k s h'' ⟨j, hj, rfl, rfl, rfl⟩
        have emin : (if (most : Int) < (cs.length : Int) then (most : Int) else (cs.length : Int)) = ((min cs.length most : Nat) : Int) := by
          split <;> omega
        simp only [seqD, ifD, retD, retND, dropD, setD, nextD, varD, conD, bin2, un1, testD, boolR, notT, andT, orT, ifE, andV, orV, notV, tupD, lstD, cbD, nilD, consD, asgD, parD, nameG, tupG, consG, nilG, setItD, augD, augItD, methD, forD, whileD, lcD, lc2D, sliceD, someD, noneD, chain3, truD, truR, orTD, andTD, notTD, joinedD, glueD, lstRg, rg1, rg2, itRg1, itRg2, itSeq, itEn, dnewKD, newK, newL, maxKD, yesT, wipeA, cmpI, add_I, sub_I, negA, ok_bind, sizeLine_eq, Nat.reduceLeDiff, eq_I, isi_tup, isi_str, isi_int, isi_boo, len_tup, qlt, qle, qgt, qge, rg_if, ev_ok, ev_bind, ev_if, ev_call, es_nx, es_rt, es_seq, es_then, es_if, List.getElem?_cons_succ, List.getElem?_cons_zero, List.set_cons_succ, List.set_cons_zero, List.length_cons, List.length_nil, List.map_cons, List.map_nil, List.replicate, List.cons_append, List.nil_append, Option.bind_some, Option.map_some, Bool.not_true, Bool.not_false, Bool.false_eq_true, if_true, if_false, decide_true, decide_false, true_and, and_true, Nat.zero_add, Nat.add_zero, Nat.reduceAdd, Nat.reduceSub, reduceIte, Nat.sub_self, Nat.succ_sub_succ_eq_sub, Nat.add_one_sub_one, len_S hl2, min2, emin]
        by_cases hlt : i + j < min cs.length most
        · have hlt' : ((i + j : Nat) : Int) < ((min cs.length most : Nat) : Int) := by omega
          have hc : cs[i + j]? = some cs[i + j] := List.getElem?_eq_getElem (by omega)
          simp only [hlt', seqD, ifD, retD, retND, dropD, setD, nextD, varD, conD, bin2, un1, testD, boolR, notT, andT, orT, ifE, andV, orV, notV, tupD, lstD, cbD, nilD, consD, asgD, parD, nameG, tupG, consG, nilG, setItD, augD, augItD, methD, forD, whileD, lcD, lc2D, sliceD, someD, noneD, chain3, truD, truR, orTD, andTD, notTD, joinedD, glueD, lstRg, rg1, rg2, itRg1, itRg2, itSeq, itEn, dnewKD, newK, newL, maxKD, yesT, wipeA, cmpI, add_I, sub_I, negA, ok_bind, sizeLine_eq, Nat.reduceLeDiff, eq_I, isi_tup, isi_str, isi_int, isi_boo, len_tup, qlt, qle, qgt, qge, rg_if, ev_ok, ev_bind, ev_if, ev_call, es_nx, es_rt, es_seq, es_then, es_if, List.getElem?_cons_succ, List.getElem?_cons_zero, List.set_cons_succ, List.set_cons_zero, List.length_cons, List.length_nil, List.map_cons, List.map_nil, List.replicate, List.cons_append, List.nil_append, Option.bind_some, Option.map_some, Bool.not_true, Bool.not_false, Bool.false_eq_true, if_true, if_false, decide_true, decide_false, true_and, and_true, Nat.zero_add, Nat.add_zero, Nat.reduceAdd, Nat.reduceSub, reduceIte, Nat.sub_self, Nat.succ_sub_succ_eq_sub, Nat.add_one_sub_one, ix_S hl2 hc, c_lp, c_rp, c_sp, c_co, c_lb, c_rb, c_mi, c_pl, c_0, c_un, c_m0, c_em, c_sm, c_ss, c_fi, m_lp, m_rp, m_sp, m_co, m_lb, m_rb, m_mi, m_pl, m_0, m_un, m_m0, m_em, m_sm, m_ss, in_fig]
          by_cases hjL : j < (numL m).length
          · have q1 : (numL m)[j]? = some (numL m)[j] := List.getElem?_eq_getElem hjL
            have q2 := hd j _ q1
            rw [hc] at q2
            have q3 := fig_num q1
            rw [← Option.some.inj q2] at q3
            simp only [q3, and_self, seqD, ifD, retD, retND, dropD, setD, nextD, varD, conD, bin2, un1, testD, boolR, notT, andT, orT, ifE, andV, orV, notV, tupD, lstD, cbD, nilD, consD, asgD, parD, nameG, tupG, consG, nilG, setItD, augD, augItD, methD, forD, whileD, lcD, lc2D, sliceD, someD, noneD, chain3, truD, truR, orTD, andTD, notTD, joinedD, glueD, lstRg, rg1, rg2, itRg1, itRg2, itSeq, itEn, dnewKD, newK, newL, maxKD, yesT, wipeA, cmpI, add_I, sub_I, negA, ok_bind, sizeLine_eq, Nat.reduceLeDiff, eq_I, isi_tup, isi_str, isi_int, isi_boo, len_tup, qlt, qle, qgt, qge, rg_if, ev_ok, ev_bind, ev_if, ev_call, es_nx, es_rt, es_seq, es_then, es_if, List.getElem?_cons_succ, List.getElem?_cons_zero, List.set_cons_succ, List.set_cons_zero, List.length_cons, List.length_nil, List.map_cons, List.map_nil, List.replicate, List.cons_append, List.nil_append, Option.bind_some, Option.map_some, Bool.not_true, Bool.not_false, Bool.false_eq_true, if_true, if_false, decide_true, decide_false, true_and, and_true, Nat.zero_add, Nat.add_zero, Nat.reduceAdd, Nat.reduceSub, reduceIte, Nat.sub_self, Nat.succ_sub_succ_eq_sub, Nat.add_one_sub_one]
            refine ⟨(numL m).length - (j + 1), by omega, j + 1, hjL, rfl, ?_⟩
            rw [show ((i + j : Nat) : Int) + 1 = ((i + (j + 1) : Nat) : Int) by omega]
          · have ej : j = (numL m).length := by omega
            subst ej
            have q3 := hend _ hc
            simp only [q3, seqD, ifD, retD, retND, dropD, setD, nextD, varD, conD, bin2, un1, testD, boolR, notT, andT, orT, ifE, andV, orV, notV, tupD, lstD, cbD, nilD, consD, asgD, parD, nameG, tupG, consG, nilG, setItD, augD, augItD, methD, forD, whileD, lcD, lc2D, sliceD, someD, noneD, chain3, truD, truR, orTD, andTD, notTD, joinedD, glueD, lstRg, rg1, rg2, itRg1, itRg2, itSeq, itEn, dnewKD, newK, newL, maxKD, yesT, wipeA, cmpI, add_I, sub_I, negA, ok_bind, sizeLine_eq, Nat.reduceLeDiff, eq_I, isi_tup, isi_str, isi_int, isi_boo, len_tup, qlt, qle, qgt, qge, rg_if, ev_ok, ev_bind, ev_if, ev_call, es_nx, es_rt, es_seq, es_then, es_if, List.getElem?_cons_succ, List.getElem?_cons_zero, List.set_cons_succ, List.set_cons_zero, List.length_cons, List.length_nil, List.map_cons, List.map_nil, List.replicate, List.cons_append, List.nil_append, Option.bind_some, Option.map_some, Bool.not_true, Bool.not_false, Bool.false_eq_true, if_true, if_false, decide_true, decide_false, true_and, and_true, Nat.zero_add, Nat.add_zero, Nat.reduceAdd, Nat.reduceSub, reduceIte, Nat.sub_self, Nat.succ_sub_succ_eq_sub, Nat.add_one_sub_one, and_self]
        · have hlt' : ¬ ((i + j : Nat) : Int) < ((min cs.length most : Nat) : Int) := by omega
          have ej : j = (numL m).length := by omega
          subst ej
          simp only [hlt', seqD, ifD, retD, retND, dropD, setD, nextD, varD, conD, bin2, un1, testD, boolR, notT, andT, orT, ifE, andV, orV, notV, tupD, lstD, cbD, nilD, consD, asgD, parD, nameG, tupG, consG, nilG, setItD, augD, augItD, methD, forD, whileD, lcD, lc2D, sliceD, someD, noneD, chain3, truD, truR, orTD, andTD, notTD, joinedD, glueD, lstRg, rg1, rg2, itRg1, itRg2, itSeq, itEn, dnewKD, newK, newL, maxKD, yesT, wipeA, cmpI, add_I, sub_I, negA, ok_bind, sizeLine_eq, Nat.reduceLeDiff, eq_I, isi_tup, isi_str, isi_int, isi_boo, len_tup, qlt, qle, qgt, qge, rg_if, ev_ok, ev_bind, ev_if, ev_call, es_nx, es_rt, es_seq, es_then, es_if, List.getElem?_cons_succ, List.getElem?_cons_zero, List.set_cons_succ, List.set_cons_zero, List.length_cons, List.length_nil, List.map_cons, List.map_nil, List.replicate, List.cons_append, List.nil_append, Option.bind_some, Option.map_some, Bool.not_true, Bool.not_false, Bool.false_eq_true, if_true, if_false, decide_true, decide_false, true_and, and_true, Nat.zero_add, Nat.add_zero, Nat.reduceAdd, Nat.reduceSub, reduceIte, Nat.sub_self, Nat.succ_sub_succ_eq_sub, Nat.add_one_sub_one, and_self]
      · rintro s h'' ⟨rfl, rfl⟩
        have hne : ¬ (((i + (numL m).length : Nat) : Int) = (i : Int)) := by omega
        have et : (cs.drop i).take (numL m).length = numL m := by rw [e, List.take_left]
        simp only [seqD, ifD, retD, retND, dropD, setD, nextD, varD, conD, bin2, un1, testD, boolR, notT, andT, orT, ifE, andV, orV, notV, tupD, lstD, cbD, nilD, consD, asgD, parD, nameG, tupG, consG, nilG, setItD, augD, augItD, methD, forD, whileD, lcD, lc2D, sliceD, someD, noneD, chain3, truD, truR, orTD, andTD, notTD, joinedD, glueD, lstRg, rg1, rg2, itRg1, itRg2, itSeq, itEn, dnewKD, newK, newL, maxKD, yesT, wipeA, cmpI, add_I, sub_I, negA, ok_bind, sizeLine_eq, Nat.reduceLeDiff, eq_I, isi_tup, isi_str, isi_int, isi_boo, len_tup, qlt, qle, qgt, qge, rg_if, ev_ok, ev_bind, ev_if, ev_call, es_nx, es_rt, es_seq, es_then, es_if, List.getElem?_cons_succ, List.getElem?_cons_zero, List.set_cons_succ, List.set_cons_zero, List.length_cons, List.length_nil, List.map_cons, List.map_nil, List.replicate, List.cons_append, List.nil_append, Option.bind_some, Option.map_some, Bool.not_true, Bool.not_false, Bool.false_eq_true, if_true, if_false, decide_true, decide_false, true_and, and_true, Nat.zero_add, Nat.add_zero, Nat.reduceAdd, Nat.reduceSub, reduceIte, Nat.sub_self, Nat.succ_sub_succ_eq_sub, Nat.add_one_sub_one, hne, sl_S hl2, et, int_num hm, and_self]
  obtain ⟨a, h', e, rfl, rfl⟩ := q.get
  exact e
end Dn

set_option maxHeartbeats 4000000
namespace Dn
open PySem
open TL (numL joinL)
/-! ### whole numbers with their sign -/
def sgL (z : Int) : List Nat := if z < 0 then 45 :: numL z.natAbs else numL z.natAbs
theorem ofString_app (a b : String) : Str.ofString (a ++ b) = Str.ofString a ++ Str.ofString b := by
  rw [Str.ofString_eq_toList, Str.ofString_eq_toList, Str.ofString_eq_toList]
  refine TL.ext_tl ?_
  rw [TL.tl_append]
  show ((a ++ b).toList.map Char.toNat) = a.toList.map Char.toNat ++ b.toList.map Char.toNat
  rw [String.toList_append, List.map_append]
theorem str_z (z : Int) : Str.ofString (toString z) = S (sgL z) := by
  cases z with
  | ofNat k =>
    have e : sgL (Int.ofNat k) = numL k := by
      unfold sgL
      rw [if_neg (by show ¬ ((k : Int) < 0); omega)]
      rfl
    rw [e]
    exact SX.num_S k
  | negSucc k =>
    have e : sgL (Int.negSucc k) = 45 :: numL (k + 1) := by
      unfold sgL
      rw [if_pos (Int.negSucc_lt_zero k)]
      rfl
    have t : toString (Int.negSucc k) = "-" ++ toString ((k + 1 : Nat) : Int) := rfl
    rw [e, t, ofString_app, c_mi]
    have q : Str.ofString (toString ((k + 1 : Nat) : Int)) = SX.S (numL (k + 1)) := SX.num_S (k + 1)
    rw [q]
    exact SX.S_cat [45] (numL (k + 1))
theorem log2_of {k : Nat} (h : k < 2 ^ 250) : k.log2 < 1920 := by
  by_cases z : k = 0
  · subst z; decide
  · have := (Nat.log2_lt z).mpr h
    omega
theorem Good.small {z : Int} (g : Good z) : z.natAbs < 1000000000000000000000000000000000000000000000000000000000000 := by
  obtain ⟨a, b⟩ := g
  omega
theorem Good.log {z : Int} (g : Good z) : z.natAbs.log2 < 1920 := log2_of (Nat.lt_trans g.small (by decide))
theorem Good.fig {z : Int} (g : Good z) : (numL z.natAbs).length ≤ 60 := TL.numL_len (by decide) (Nat.lt_of_lt_of_le g.small (by decide))
theorem sg_len {z : Int} (g : Good z) : (sgL z).length ≤ 61 := by
  have := g.fig
  unfold sgL
  split
  · rw [List.length_cons]; omega
  · omega
theorem sg_pos (z : Int) : 1 ≤ (sgL z).length := by
  have := num_pos z.natAbs
  unfold sgL
  split
  · rw [List.length_cons]; omega
  · omega
theorem str_Z {z : Int} {h : Hs} (g : z.natAbs.log2 < 1920) : bStr [.int z] h = .ok (.str (S (sgL z))) h := by
  unfold bStr
  dsimp only
  rw [if_pos g, str_z]
theorem fmt_Z {z : Int} {h : Hs} (g : z.natAbs.log2 < 1920) : fmtA (.int z) h = .ok (.str (S (sgL z))) h := by
  unfold fmtA
  dsimp only
  rw [if_pos g, str_z]
theorem fmt_S {x : List Nat} {h : Hs} (g : x.length ≤ 16777216) : fmtA (.str (S x)) h = .ok (.str (S x)) h := by
  unfold fmtA
  dsimp only
  rw [if_pos (by rw [S_len]; exact small_line g)]
theorem sm_num (m : Nat) : sm (numL m) = true := sm_mem.mpr fun c hc => by have := TL.numL_digits m c hc; omega
theorem sm_cons {c : Nat} {a : List Nat} : sm (c :: a) = (decide (c < 1114112) && sm a) := rfl
theorem sm_sg (z : Int) : sm (sgL z) = true := by
  unfold sgL
  split
  · rw [sm_cons, sm_num]; rfl
  · exact sm_num _
theorem sg_nat (m : Nat) : sgL (m : Int) = numL m := by
  unfold sgL
  rw [if_neg (by omega), Int.natAbs_natCast]
/-! ### reading -/
theorem require_sign_ok {n : Nat} {h : Hs} {cs : List Nat} {i c : Nat} (hl : cs.length ≤ 3000) (hs : sm cs = true) (e : (cs.drop i).take 1 = [c]) :
    f_require_sign n [.str (S cs), .int (i : Int), .str (S [c])] h = .ok (.int ((i + 1 : Nat) : Int)) h := by
  have hc : sm [c] = true := by rw [← e]; exact sm_cut hs
  have e1 : ((i : Int) + 1) = ((i + 1 : Nat) : Int) := by omega
  have q : Ev NoX (f_require_sign n [.str (S cs), .int (i : Int), .str (S [c])] h) (fun a h' => a = .int ((i + 1 : Nat) : Int) ∧ h' = h) := by
    refine ev_body rfl ?_
    simp only [d_require_sign, seqD, ifD, retD, retND, dropD, setD, nextD, varD, conD, bin2, un1, testD, boolR, notT, andT, orT, ifE, andV, orV, notV, tupD, lstD, cbD, nilD, consD, asgD, parD, nameG, tupG, consG, nilG, setItD, augD, augItD, methD, forD, whileD, lcD, lc2D, sliceD, someD, noneD, chain3, truD, truR, orTD, andTD, notTD, joinedD, glueD, lstRg, rg1, rg2, itRg1, itRg2, itSeq, itEn, dnewKD, newK, newL, maxKD, yesT, wipeA, cmpI, add_I, sub_I, negA, ok_bind, sizeLine_eq, Nat.reduceLeDiff, eq_I, isi_tup, isi_str, isi_int, isi_boo, len_tup, qlt, qle, qgt, qge, rg_if, ev_ok, ev_bind, ev_if, ev_call, es_nx, es_rt, es_seq, es_then, es_if, List.getElem?_cons_succ, List.getElem?_cons_zero, List.set_cons_succ, List.set_cons_zero, List.length_cons, List.length_nil, List.map_cons, List.map_nil, List.replicate, List.cons_append, List.nil_append, Option.bind_some, Option.map_some, Bool.not_true, Bool.not_false, Bool.false_eq_true, if_true, if_false, decide_true, decide_false, true_and, and_true, Nat.zero_add, Nat.add_zero, Nat.reduceAdd, Nat.reduceSub, reduceIte, Nat.sub_self, Nat.succ_sub_succ_eq_sub, Nat.add_one_sub_one, addA, e1, sl_S (show cs.length ≤ 16777216 by omega), e, eq_S hc hc, and_self]
  obtain ⟨a, h', e, rfl, rfl⟩ := q.get
  exact e
theorem require_end_ok {n : Nat} {h : Hs} {cs : List Nat} (hl : cs.length ≤ 3000) : f_require_end n [.str (S cs), .int (cs.length : Int)] h = .ok .non h := by
  have q : Ev NoX (f_require_end n [.str (S cs), .int (cs.length : Int)] h) (fun a h' => a = .non ∧ h' = h) := by
    refine ev_body rfl ?_
    simp only [d_require_end, seqD, ifD, retD, retND, dropD, setD, nextD, varD, conD, bin2, un1, testD, boolR, notT, andT, orT, ifE, andV, orV, notV, tupD, lstD, cbD, nilD, consD, asgD, parD, nameG, tupG, consG, nilG, setItD, augD, augItD, methD, forD, whileD, lcD, lc2D, sliceD, someD, noneD, chain3, truD, truR, orTD, andTD, notTD, joinedD, glueD, lstRg, rg1, rg2, itRg1, itRg2, itSeq, itEn, dnewKD, newK, newL, maxKD, yesT, wipeA, cmpI, add_I, sub_I, negA, ok_bind, sizeLine_eq, Nat.reduceLeDiff, eq_I, isi_tup, isi_str, isi_int, isi_boo, len_tup, qlt, qle, qgt, qge, rg_if, ev_ok, ev_bind, ev_if, ev_call, es_nx, es_rt, es_seq, es_then, es_if, List.getElem?_cons_succ, List.getElem?_cons_zero, List.set_cons_succ, List.set_cons_zero, List.length_cons, List.length_nil, List.map_cons, List.map_nil, List.replicate, List.cons_append, List.nil_append, Option.bind_some, Option.map_some, Bool.not_true, Bool.not_false, Bool.false_eq_true, if_true, if_false, decide_true, decide_false, true_and, and_true, Nat.zero_add, Nat.add_zero, Nat.reduceAdd, Nat.reduceSub, reduceIte, Nat.sub_self, Nat.succ_sub_succ_eq_sub, Nat.add_one_sub_one, len_S (show cs.length ≤ 16777216 by omega), Int.lt_irrefl, and_self]
  obtain ⟨a, h', e, rfl, rfl⟩ := q.get
  exact e
theorem head_ne {cs : List Nat} {i c d : Nat} {r : List Nat} (e : cs.drop i = c :: r) (h : c ≠ d) : ¬ ((cs.drop i).take 1 = [d]) := by
  rw [e]
  simp [h]
theorem head_nil {cs : List Nat} {i d : Nat} (e : cs.drop i = []) : ¬ ((cs.drop i).take 1 = [d]) := by
  rw [e]
  simp
theorem num_cons (m : Nat) : ∃ c r, numL m = c :: r ∧ 48 ≤ c ∧ c ≤ 57 := by
  cases e : numL m with
  | nil => exact absurd e (TL.numL_ne m)
  | cons c r =>
    have := TL.numL_digits m c (by rw [e]; exact List.mem_cons_self)
    exact ⟨c, r, rfl, this⟩
theorem signed_at_ok {n : Nat} {h : Hs} {cs rest : List Nat} {i : Nat} {z : Int} (hn : 5000 ≤ n) (hl : cs.length ≤ 3000) (hs : sm cs = true) (e : cs.drop i = sgL z ++ rest) (hm : (numL z.natAbs).length ≤ 60) (hr : NoFig rest) :
    f_signed_at n [.str (S cs), .int (i : Int)] h = .ok (.tup [.int z, .int ((i + (sgL z).length : Nat) : Int)]) h := by
  have e1 : ((i : Int) + 1) = ((i + 1 : Nat) : Int) := by omega
  have e2 : ((i : Int) + 2) = ((i + 1 + 1 : Nat) : Int) := by omega
  have hl2 : cs.length ≤ 16777216 := by omega
  have q : Ev NoX (f_signed_at n [.str (S cs), .int (i : Int)] h) (fun a h' => a = .tup [.int z, .int ((i + (sgL z).length : Nat) : Int)] ∧ h' = h) := by
    refine ev_body rfl ?_
    by_cases hz : z < 0
    · have es : sgL z = 45 :: numL z.natAbs := by unfold sgL; rw [if_pos hz]
      have ed : cs.drop i = 45 :: (numL z.natAbs ++ rest) := by rw [e, es]; rfl
      have ed1 : cs.drop (i + 1) = numL z.natAbs ++ rest := by
        rw [← List.drop_drop, ed]; rfl
      have et : (cs.drop i).take 1 = [45] := by rw [ed]; rfl
      obtain ⟨c, r, ec, c1, _, _⟩ := num_head (m := z.natAbs) (by omega)
      have et1 : ¬ ((cs.drop (i + 1)).take 1 = [48]) := head_ne (r := r ++ rest) (by rw [ed1, ec]; rfl) c1
      simp only [d_signed_at, seqD, ifD, retD, retND, dropD, setD, nextD, varD, conD, bin2, un1, testD, boolR, notT, andT, orT, ifE, andV, orV, notV, tupD, lstD, cbD, nilD, consD, asgD, parD, nameG, tupG, consG, nilG, setItD, augD, augItD, methD, forD, whileD, lcD, lc2D, sliceD, someD, noneD, chain3, truD, truR, orTD, andTD, notTD, joinedD, glueD, lstRg, rg1, rg2, itRg1, itRg2, itSeq, itEn, dnewKD, newK, newL, maxKD, yesT, wipeA, cmpI, add_I, sub_I, negA, ok_bind, sizeLine_eq, Nat.reduceLeDiff, eq_I, isi_tup, isi_str, isi_int, isi_boo, len_tup, qlt, qle, qgt, qge, rg_if, ev_ok, ev_bind, ev_if, ev_call, es_nx, es_rt, es_seq, es_then, es_if, List.getElem?_cons_succ, List.getElem?_cons_zero, List.set_cons_succ, List.set_cons_zero, List.length_cons, List.length_nil, List.map_cons, List.map_nil, List.replicate, List.cons_append, List.nil_append, Option.bind_some, Option.map_some, Bool.not_true, Bool.not_false, Bool.false_eq_true, if_true, if_false, decide_true, decide_false, true_and, and_true, Nat.zero_add, Nat.add_zero, Nat.reduceAdd, Nat.reduceSub, reduceIte, Nat.sub_self, Nat.succ_sub_succ_eq_sub, Nat.add_one_sub_one, addA, e1, e2, sl_S hl2, c_lp, c_rp, c_sp, c_co, c_lb, c_rb, c_mi, c_pl, c_0, c_un, c_m0, c_em, c_sm, c_ss, c_fi, m_lp, m_rp, m_sp, m_co, m_lb, m_rb, m_mi, m_pl, m_0, m_un, m_m0, m_em, m_sm, m_ss, eq_S, sm_cut hs, et, et1, plain_at_ok hn hl hs ed1 hm hr]
      rw [es, List.length_cons]
      have e3 : -(z.natAbs : Int) = z := by omega
      have e4 : i + 1 + (numL z.natAbs).length = i + ((numL z.natAbs).length + 1) := by omega
      rw [e3, e4]
    · have es : sgL z = numL z.natAbs := by unfold sgL; rw [if_neg hz]
      have ed : cs.drop i = numL z.natAbs ++ rest := by rw [e, es]
      obtain ⟨c, r, ec, c1, c2⟩ := num_cons z.natAbs
      have et : ¬ ((cs.drop i).take 1 = [45]) := head_ne (r := r ++ rest) (by rw [ed, ec]; rfl) (by omega)
      simp only [d_signed_at, seqD, ifD, retD, retND, dropD, setD, nextD, varD, conD, bin2, un1, testD, boolR, notT, andT, orT, ifE, andV, orV, notV, tupD, lstD, cbD, nilD, consD, asgD, parD, nameG, tupG, consG, nilG, setItD, augD, augItD, methD, forD, whileD, lcD, lc2D, sliceD, someD, noneD, chain3, truD, truR, orTD, andTD, notTD, joinedD, glueD, lstRg, rg1, rg2, itRg1, itRg2, itSeq, itEn, dnewKD, newK, newL, maxKD, yesT, wipeA, cmpI, add_I, sub_I, negA, ok_bind, sizeLine_eq, Nat.reduceLeDiff, eq_I, isi_tup, isi_str, isi_int, isi_boo, len_tup, qlt, qle, qgt, qge, rg_if, ev_ok, ev_bind, ev_if, ev_call, es_nx, es_rt, es_seq, es_then, es_if, List.getElem?_cons_succ, List.getElem?_cons_zero, List.set_cons_succ, List.set_cons_zero, List.length_cons, List.length_nil, List.map_cons, List.map_nil, List.replicate, List.cons_append, List.nil_append, Option.bind_some, Option.map_some, Bool.not_true, Bool.not_false, Bool.false_eq_true, if_true, if_false, decide_true, decide_false, true_and, and_true, Nat.zero_add, Nat.add_zero, Nat.reduceAdd, Nat.reduceSub, reduceIte, Nat.sub_self, Nat.succ_sub_succ_eq_sub, Nat.add_one_sub_one, addA, e1, sl_S hl2, c_lp, c_rp, c_sp, c_co, c_lb, c_rb, c_mi, c_pl, c_0, c_un, c_m0, c_em, c_sm, c_ss, c_fi, m_lp, m_rp, m_sp, m_co, m_lb, m_rb, m_mi, m_pl, m_0, m_un, m_m0, m_em, m_sm, m_ss, eq_S, sm_cut hs, et, plain_at_ok hn hl hs ed hm hr]
      rw [es]
      have e3 : (z.natAbs : Int) = z := by omega
      rw [e3]
  obtain ⟨a, h', e, rfl, rfl⟩ := q.get
  exact e
end Dn

set_option maxHeartbeats 4000000
namespace Dn
open PySem
open TL (numL joinL)
/-! ### lists, joins -/
theorem tyA_str {x : Str} {h : Hs} : tyA h "str" (.str x) = true := by simp [tyA]
theorem tyA_ref {p : Nat} {xs : List A} {h : Hs} (e : h[p]? = some (.lst xs)) : tyA h "list" (.ref p) = true := by simp [tyA, e]
theorem app_ref {p : Nat} {xs : List A} {a : A} {h : Hs} (e : h[p]? = some (.lst xs)) (hl : xs.length < 16777216) : mAppend (.ref p) [a] h = .ok .non (h.set p (.lst (xs ++ [a]))) := by
  unfold mAppend
  dsimp only
  rw [e]
  dsimp only
  rw [if_pos (lt_line hl)]
theorem tuple_ref {p : Nat} {xs : List A} {h : Hs} (e : h[p]? = some (.lst xs)) : bTuple [.ref p] h = .ok (.tup xs) h := by
  unfold bTuple
  dsimp only
  rw [lsOf_ref e]
theorem strs_S (ys : List (List Nat)) : strsOf (ys.map fun y => A.str (S y)) = some (ys.map S) := by
  induction ys with
  | nil => rfl
  | cons y ys ih => rw [List.map_cons, strsOf, ih]; rfl
theorem sum_S (ys : List (List Nat)) : (ys.map S).map (·.length) = ys.map (·.length) := by
  induction ys with
  | nil => rfl
  | cons y ys ih => rw [List.map_cons, List.map_cons, ih, S_len]; rfl
theorem join_ref {p : Nat} {sep : List Nat} {ys : List (List Nat)} {h : Hs} (e : h[p]? = some (.lst (ys.map fun y => A.str (S y)))) (hl : (ys.map (·.length)).sum + ys.length * sep.length ≤ 16777216) :
    mJoin (.str (S sep)) [.ref p] h = .ok (.str (S (joinL sep ys))) h := by
  have q : (seqOf h (.ref p)).bind strsOf = some (ys.map S) := by rw [seqOf_ref e]; exact strs_S ys
  unfold mJoin
  dsimp only
  rw [q]
  dsimp only
  rw [sum_S, List.length_map, S_len, if_pos hl]
  exact congrArg (fun x => R.ok (A.str x) h) (SX.join_S sep ys)
theorem joinL_cons (sep p : List Nat) (ps : List (List Nat)) : joinL sep (p :: ps) = p ++ ps.flatMap (sep ++ ·) := by
  induction ps generalizing p with
  | nil => simp [joinL]
  | cons q r ih =>
    show p ++ (sep ++ joinL sep (q :: r)) = _
    rw [ih q, List.flatMap_cons, List.append_assoc]
theorem joinL_len (sep : List Nat) (ys : List (List Nat)) (k : Nat) (hk : ∀ y ∈ ys, y.length ≤ k) : (joinL sep ys).length ≤ ys.length * (k + sep.length) := by
  cases ys with
  | nil => simp [joinL]
  | cons y ys =>
    rw [joinL_cons, List.length_append]
    have h1 := hk y List.mem_cons_self
    have h2 : ∀ (l : List (List Nat)), (∀ y ∈ l, y.length ≤ k) → (l.flatMap (sep ++ ·)).length ≤ l.length * (k + sep.length) := by
      intro l
      induction l with
      | nil => intro _; simp
      | cons z l ih =>
        intro hz
        rw [List.flatMap_cons, List.length_append, List.length_append, List.length_cons, Nat.succ_mul]
        have := ih fun y hy => hz y (List.mem_cons_of_mem _ hy)
        have := hz z List.mem_cons_self
        omega
    have := h2 ys fun z hz => hk z (List.mem_cons_of_mem _ hz)
    rw [List.length_cons, Nat.succ_mul]
    omega
theorem sum_le (ys : List (List Nat)) (k : Nat) (hk : ∀ y ∈ ys, y.length ≤ k) : (ys.map (·.length)).sum ≤ ys.length * k := by
  induction ys with
  | nil => simp
  | cons y ys ih =>
    rw [List.map_cons, List.sum_cons, List.length_cons, Nat.succ_mul]
    have := ih fun z hz => hk z (List.mem_cons_of_mem _ hz)
    have := hk y List.mem_cons_self
    omega
/-- [e(x) for x in ys], each without a trace -/
theorem lc_map {β : Type} {X : Xn → Hs → Prop} {e : DE} {n k v : Nat} {F G : β → A} {ys : List β} {s : Sl} {h : Hs} {Q : List A → Hs → Prop} (hk : ys.length < k) (hz : ys.length < 16777216) (he : ∀ y ∈ ys, e n (s.set v (some (F y))) h = .ok (G y) h) (q : Q (ys.map G) h) :
    Ev X (lcL (stepX (ys.map F)) (nameG v) yesT e n k 0 [] s h) Q := by
  refine lc_any (m := ys.length) (fun j acc h' => j ≤ ys.length ∧ acc = (ys.take j).map G ∧ h' = h) ?_ ?_ ys.length k 0 [] h (Nat.zero_add _) hk ⟨Nat.zero_le _, rfl, rfl⟩
  · rintro j acc h' hj ⟨_, rfl, rfl⟩
    refine ⟨F ys[j], _, by unfold stepX; rw [List.getElem?_map, List.getElem?_eq_getElem hj]; rfl, rfl, ?_⟩
    rw [yesT, ev_ok]
    simp only [if_true]
    rw [he _ (List.getElem_mem hj), ev_ok]
    refine ⟨lt_line (by rw [List.length_map, List.length_take]; omega), hj, ?_, rfl⟩
    rw [List.take_add_one, List.getElem?_eq_getElem hj, List.map_append]
    rfl
  · rintro acc h' ⟨_, rfl, rfl⟩
    refine ⟨by unfold stepX; rw [List.getElem?_eq_none (by rw [List.length_map]; exact Nat.le_refl _)], ?_⟩
    rw [List.take_length]
    exact q
/-! ### rows -/
def rowL (zs : List Int) : List Nat := joinL [44] (zs.map sgL)
theorem row_text_ok {X : Xn → Hs → Prop} {n : Nat} {h : Hs} {zs : List Int} (hn : 5000 ≤ n) (hz : zs.length ≤ 60) (g : ∀ z ∈ zs, Good z) : Ev X (f_row_text n [.tup (zs.map A.int)] h) fun a h' => a = .str (S (rowL zs)) ∧ Gm none h h' := by
  refine ev_body rfl ?_
  simp only [d_row_text, seqD, ifD, retD, retND, dropD, setD, nextD, varD, conD, bin2, un1, testD, boolR, notT, andT, orT, ifE, andV, orV, notV, tupD, lstD, cbD, nilD, consD, asgD, parD, nameG, tupG, consG, nilG, setItD, augD, augItD, methD, forD, whileD, lcD, lc2D, sliceD, someD, noneD, chain3, truD, truR, orTD, andTD, notTD, joinedD, glueD, lstRg, rg1, rg2, itRg1, itRg2, itSeq, itEn, dnewKD, newK, newL, maxKD, yesT, wipeA, cmpI, add_I, sub_I, negA, ok_bind, sizeLine_eq, Nat.reduceLeDiff, eq_I, isi_tup, isi_str, isi_int, isi_boo, len_tup, qlt, qle, qgt, qge, rg_if, ev_ok, ev_bind, ev_if, ev_call, es_nx, es_rt, es_seq, es_then, es_if, List.getElem?_cons_succ, List.getElem?_cons_zero, List.set_cons_succ, List.set_cons_zero, List.length_cons, List.length_nil, List.map_cons, List.map_nil, List.replicate, List.cons_append, List.nil_append, Option.bind_some, Option.map_some, Bool.not_true, Bool.not_false, Bool.false_eq_true, if_true, if_false, decide_true, decide_false, true_and, and_true, Nat.zero_add, Nat.add_zero, Nat.reduceAdd, Nat.reduceSub, reduceIte, Nat.sub_self, Nat.succ_sub_succ_eq_sub, Nat.add_one_sub_one, tyA_str]
  refine lc_map (G := fun z => A.str (S (sgL z))) (by omega) (by omega) (fun z hz => ?_) ?_
  · simp only [seqD, ifD, retD, retND, dropD, setD, nextD, varD, conD, bin2, un1, testD, boolR, notT, andT, orT, ifE, andV, orV, notV, tupD, lstD, cbD, nilD, consD, asgD, parD, nameG, tupG, consG, nilG, setItD, augD, augItD, methD, forD, whileD, lcD, lc2D, sliceD, someD, noneD, chain3, truD, truR, orTD, andTD, notTD, joinedD, glueD, lstRg, rg1, rg2, itRg1, itRg2, itSeq, itEn, dnewKD, newK, newL, maxKD, yesT, wipeA, cmpI, add_I, sub_I, negA, ok_bind, sizeLine_eq, Nat.reduceLeDiff, eq_I, isi_tup, isi_str, isi_int, isi_boo, len_tup, qlt, qle, qgt, qge, rg_if, ev_ok, ev_bind, ev_if, ev_call, es_nx, es_rt, es_seq, es_then, es_if, List.getElem?_cons_succ, List.getElem?_cons_zero, List.set_cons_succ, List.set_cons_zero, List.length_cons, List.length_nil, List.map_cons, List.map_nil, List.replicate, List.cons_append, List.nil_append, Option.bind_some, Option.map_some, Bool.not_true, Bool.not_false, Bool.false_eq_true, if_true, if_false, decide_true, decide_false, true_and, and_true, Nat.zero_add, Nat.add_zero, Nat.reduceAdd, Nat.reduceSub, reduceIte, Nat.sub_self, Nat.succ_sub_succ_eq_sub, Nat.add_one_sub_one]
    exact str_Z (g z hz).log
  · have e : (zs.map fun z => A.str (S (sgL z))) = (zs.map sgL).map fun y => A.str (S y) := by rw [List.map_map]; rfl
    have hb : ((zs.map sgL).map (·.length)).sum ≤ 60 * 61 := by
      refine Nat.le_trans (sum_le _ 61 fun y hy => ?_) (by rw [List.length_map]; exact Nat.mul_le_mul_right _ hz)
      obtain ⟨z, hz, rfl⟩ := List.mem_map.mp hy
      exact sg_len (g z hz)
    rw [c_co, e, join_ref get_app (by rw [List.length_map, List.length_singleton]; omega), ev_ok]
    exact ⟨rfl, Gm.refl.app⟩
theorem write_row_ok {X : Xn → Hs → Prop} {n : Nat} {h : Hs} {zs : List Int} (hn : 5000 ≤ n) (h1 : 1 ≤ zs.length) (hz : zs.length ≤ 60) (g : ∀ z ∈ zs, Good z) : Ev X (f_write_row n [.tup (zs.map A.int)] h) fun a h' => a = .str (S (rowL zs)) ∧ Gm none h h' := by
  refine ev_body rfl ?_
  unfold d_write_row
  refine step_seq (fun s h' => s = [some (.tup (zs.map A.int))] ∧ Gm none h h') ?_ ?_
  · simp only [seqD, ifD, retD, retND, dropD, setD, nextD, varD, conD, bin2, un1, testD, boolR, notT, andT, orT, ifE, andV, orV, notV, tupD, lstD, cbD, nilD, consD, asgD, parD, nameG, tupG, consG, nilG, setItD, augD, augItD, methD, forD, whileD, lcD, lc2D, sliceD, someD, noneD, chain3, truD, truR, orTD, andTD, notTD, joinedD, glueD, lstRg, rg1, rg2, itRg1, itRg2, itSeq, itEn, dnewKD, newK, newL, maxKD, yesT, wipeA, cmpI, add_I, sub_I, negA, ok_bind, sizeLine_eq, Nat.reduceLeDiff, eq_I, isi_tup, isi_str, isi_int, isi_boo, len_tup, qlt, qle, qgt, qge, rg_if, ev_ok, ev_bind, ev_if, ev_call, es_nx, es_rt, es_seq, es_then, es_if, List.getElem?_cons_succ, List.getElem?_cons_zero, List.set_cons_succ, List.set_cons_zero, List.length_cons, List.length_nil, List.map_cons, List.map_nil, List.replicate, List.cons_append, List.nil_append, Option.bind_some, Option.map_some, Bool.not_true, Bool.not_false, Bool.false_eq_true, if_true, if_false, decide_true, decide_false, true_and, and_true, Nat.zero_add, Nat.add_zero, Nat.reduceAdd, Nat.reduceSub, reduceIte, Nat.sub_self, Nat.succ_sub_succ_eq_sub, Nat.add_one_sub_one]
    refine (are_integers_ok hn h1 hz g).mono fun a h' z => ?_
    obtain ⟨rfl, z⟩ := z
    simp only [seqD, ifD, retD, retND, dropD, setD, nextD, varD, conD, bin2, un1, testD, boolR, notT, andT, orT, ifE, andV, orV, notV, tupD, lstD, cbD, nilD, consD, asgD, parD, nameG, tupG, consG, nilG, setItD, augD, augItD, methD, forD, whileD, lcD, lc2D, sliceD, someD, noneD, chain3, truD, truR, orTD, andTD, notTD, joinedD, glueD, lstRg, rg1, rg2, itRg1, itRg2, itSeq, itEn, dnewKD, newK, newL, maxKD, yesT, wipeA, cmpI, add_I, sub_I, negA, ok_bind, sizeLine_eq, Nat.reduceLeDiff, eq_I, isi_tup, isi_str, isi_int, isi_boo, len_tup, qlt, qle, qgt, qge, rg_if, ev_ok, ev_bind, ev_if, ev_call, es_nx, es_rt, es_seq, es_then, es_if, List.getElem?_cons_succ, List.getElem?_cons_zero, List.set_cons_succ, List.set_cons_zero, List.length_cons, List.length_nil, List.map_cons, List.map_nil, List.replicate, List.cons_append, List.nil_append, Option.bind_some, Option.map_some, Bool.not_true, Bool.not_false, Bool.false_eq_true, if_true, if_false, decide_true, decide_false, true_and, and_true, Nat.zero_add, Nat.add_zero, Nat.reduceAdd, Nat.reduceSub, reduceIte, Nat.sub_self, Nat.succ_sub_succ_eq_sub, Nat.add_one_sub_one]
    exact z
  · rintro s h' ⟨rfl, k⟩
    simp only [seqD, ifD, retD, retND, dropD, setD, nextD, varD, conD, bin2, un1, testD, boolR, notT, andT, orT, ifE, andV, orV, notV, tupD, lstD, cbD, nilD, consD, asgD, parD, nameG, tupG, consG, nilG, setItD, augD, augItD, methD, forD, whileD, lcD, lc2D, sliceD, someD, noneD, chain3, truD, truR, orTD, andTD, notTD, joinedD, glueD, lstRg, rg1, rg2, itRg1, itRg2, itSeq, itEn, dnewKD, newK, newL, maxKD, yesT, wipeA, cmpI, add_I, sub_I, negA, ok_bind, sizeLine_eq, Nat.reduceLeDiff, eq_I, isi_tup, isi_str, isi_int, isi_boo, len_tup, qlt, qle, qgt, qge, rg_if, ev_ok, ev_bind, ev_if, ev_call, es_nx, es_rt, es_seq, es_then, es_if, List.getElem?_cons_succ, List.getElem?_cons_zero, List.set_cons_succ, List.set_cons_zero, List.length_cons, List.length_nil, List.map_cons, List.map_nil, List.replicate, List.cons_append, List.nil_append, Option.bind_some, Option.map_some, Bool.not_true, Bool.not_false, Bool.false_eq_true, if_true, if_false, decide_true, decide_false, true_and, and_true, Nat.zero_add, Nat.add_zero, Nat.reduceAdd, Nat.reduceSub, reduceIte, Nat.sub_self, Nat.succ_sub_succ_eq_sub, Nat.add_one_sub_one]
    exact (row_text_ok hn hz g).mono fun a h'' z => ⟨z.1, k.trans z.2⟩
def tailL (zs : List Int) : List Nat := (zs.map sgL).flatMap ([44] ++ ·)
theorem tail_nofig (zs : List Int) : NoFig (tailL zs) := by
  cases zs with
  | nil => intro c h; cases h
  | cons z zs =>
    intro c h
    have : c = 44 := by
      have e : (tailL (z :: zs)).head? = some 44 := rfl
      rw [e] at h; exact (Option.some.inj h).symm
    omega
theorem sm_flat {ys : List (List Nat)} {sep : List Nat} (h1 : sm sep = true) (h : ∀ y ∈ ys, sm y = true) : sm (ys.flatMap (sep ++ ·)) = true := by
  refine sm_mem.mpr fun c hc => ?_
  obtain ⟨y, hy, hc⟩ := List.mem_flatMap.mp hc
  rcases List.mem_append.mp hc with z | z
  · exact sm_mem.mp h1 c z
  · exact sm_mem.mp (h y hy) c z
theorem sm_join {ys : List (List Nat)} {sep : List Nat} (h1 : sm sep = true) (h : ∀ y ∈ ys, sm y = true) : sm (joinL sep ys) = true := by
  cases ys with
  | nil => rfl
  | cons y ys =>
    rw [joinL_cons, sm_app, h y List.mem_cons_self, sm_flat h1 fun z hz => h z (List.mem_cons_of_mem _ hz)]
    rfl
theorem sm_row (zs : List Int) : sm (rowL zs) = true := sm_join m_co fun y hy => by
  obtain ⟨z, _, rfl⟩ := List.mem_map.mp hy
  exact sm_sg z
theorem read_row_ok {X : Xn → Hs → Prop} {n : Nat} {h : Hs} {zs : List Int} (hn : 5000 ≤ n) (h1 : 1 ≤ zs.length) (hz : zs.length ≤ 60) (g : ∀ z ∈ zs, Good z) (hl : (rowL zs).length ≤ 3000) : Ev X (f_read_row n [.str (S (rowL zs))] h) fun a h' => a = .tup (zs.map A.int) ∧ Gm none h h' := by
  obtain ⟨z0, zr, rfl⟩ : ∃ z0 zr, zs = z0 :: zr := by
    cases zs with
    | nil => simp at h1
    | cons a b => exact ⟨a, b, rfl⟩
  have hs := sm_row (z0 :: zr)
  have ecs : rowL (z0 :: zr) = sgL z0 ++ tailL zr := joinL_cons [44] (sgL z0) (zr.map sgL)
  generalize rowL (z0 :: zr) = cs at *
  have hl2 : cs.length ≤ 16777216 := by omega
  refine ev_body rfl ?_
  unfold d_read_row
  refine step_seq (fun s h' => s = [some (.str (S cs)), none, none, none] ∧ h' = h) ?_ ?_
  · simp only [seqD, ifD, retD, retND, dropD, setD, nextD, varD, conD, bin2, un1, testD, boolR, notT, andT, orT, ifE, andV, orV, notV, tupD, lstD, cbD, nilD, consD, asgD, parD, nameG, tupG, consG, nilG, setItD, augD, augItD, methD, forD, whileD, lcD, lc2D, sliceD, someD, noneD, chain3, truD, truR, orTD, andTD, notTD, joinedD, glueD, lstRg, rg1, rg2, itRg1, itRg2, itSeq, itEn, dnewKD, newK, newL, maxKD, yesT, wipeA, cmpI, add_I, sub_I, negA, ok_bind, sizeLine_eq, Nat.reduceLeDiff, eq_I, isi_tup, isi_str, isi_int, isi_boo, len_tup, qlt, qle, qgt, qge, rg_if, ev_ok, ev_bind, ev_if, ev_call, es_nx, es_rt, es_seq, es_then, es_if, List.getElem?_cons_succ, List.getElem?_cons_zero, List.set_cons_succ, List.set_cons_zero, List.length_cons, List.length_nil, List.map_cons, List.map_nil, List.replicate, List.cons_append, List.nil_append, Option.bind_some, Option.map_some, Bool.not_true, Bool.not_false, Bool.false_eq_true, if_true, if_false, decide_true, decide_false, true_and, and_true, Nat.zero_add, Nat.add_zero, Nat.reduceAdd, Nat.reduceSub, reduceIte, Nat.sub_self, Nat.succ_sub_succ_eq_sub, Nat.add_one_sub_one, require_text_ok (show (S cs).length ≤ 3000 by rw [S_len]; exact hl), and_self]
  · rintro s h' ⟨rfl, rfl⟩
    refine step_seq (fun s h'' => s = [some (.str (S cs)), some (.int z0), some (.int (((sgL z0).length : Nat) : Int)), none] ∧ h'' = h') ?_ ?_
    · have q := signed_at_ok (n := n) (h := h') (cs := cs) (rest := tailL zr) (i := 0) (z := z0) hn hl hs (by rw [List.drop_zero]; exact ecs) (g z0 List.mem_cons_self).fig (tail_nofig zr)
      rw [Nat.zero_add] at q
      simp only [seqD, ifD, retD, retND, dropD, setD, nextD, varD, conD, bin2, un1, testD, boolR, notT, andT, orT, ifE, andV, orV, notV, tupD, lstD, cbD, nilD, consD, asgD, parD, nameG, tupG, consG, nilG, setItD, augD, augItD, methD, forD, whileD, lcD, lc2D, sliceD, someD, noneD, chain3, truD, truR, orTD, andTD, notTD, joinedD, glueD, lstRg, rg1, rg2, itRg1, itRg2, itSeq, itEn, dnewKD, newK, newL, maxKD, yesT, wipeA, cmpI, add_I, sub_I, negA, ok_bind, sizeLine_eq, Nat.reduceLeDiff, eq_I, isi_tup, isi_str, isi_int, isi_boo, len_tup, qlt, qle, qgt, qge, rg_if, ev_ok, ev_bind, ev_if, ev_call, es_nx, es_rt, es_seq, es_then, es_if, List.getElem?_cons_succ, List.getElem?_cons_zero, List.set_cons_succ, List.set_cons_zero, List.length_cons, List.length_nil, List.map_cons, List.map_nil, List.replicate, List.cons_append, List.nil_append, Option.bind_some, Option.map_some, Bool.not_true, Bool.not_false, Bool.false_eq_true, if_true, if_false, decide_true, decide_false, true_and, and_true, Nat.zero_add, Nat.add_zero, Nat.reduceAdd, Nat.reduceSub, reduceIte, Nat.sub_self, Nat.succ_sub_succ_eq_sub, Nat.add_one_sub_one]
      erw [q]
      simp only [seqD, ifD, retD, retND, dropD, setD, nextD, varD, conD, bin2, un1, testD, boolR, notT, andT, orT, ifE, andV, orV, notV, tupD, lstD, cbD, nilD, consD, asgD, parD, nameG, tupG, consG, nilG, setItD, augD, augItD, methD, forD, whileD, lcD, lc2D, sliceD, someD, noneD, chain3, truD, truR, orTD, andTD, notTD, joinedD, glueD, lstRg, rg1, rg2, itRg1, itRg2, itSeq, itEn, dnewKD, newK, newL, maxKD, yesT, wipeA, cmpI, add_I, sub_I, negA, ok_bind, sizeLine_eq, Nat.reduceLeDiff, eq_I, isi_tup, isi_str, isi_int, isi_boo, len_tup, qlt, qle, qgt, qge, rg_if, ev_ok, ev_bind, ev_if, ev_call, es_nx, es_rt, es_seq, es_then, es_if, List.getElem?_cons_succ, List.getElem?_cons_zero, List.set_cons_succ, List.set_cons_zero, List.length_cons, List.length_nil, List.map_cons, List.map_nil, List.replicate, List.cons_append, List.nil_append, Option.bind_some, Option.map_some, Bool.not_true, Bool.not_false, Bool.false_eq_true, if_true, if_false, decide_true, decide_false, true_and, and_true, Nat.zero_add, Nat.add_zero, Nat.reduceAdd, Nat.reduceSub, reduceIte, Nat.sub_self, Nat.succ_sub_succ_eq_sub, Nat.add_one_sub_one, and_self]
    · rintro s h'' ⟨rfl, rfl⟩
      refine step_seq (fun s h2 => s = [some (.str (S cs)), some (.int z0), some (.int (((sgL z0).length : Nat) : Int)), some (.ref h''.length)] ∧ h2 = h'' ++ [.lst [.int z0]]) ?_ ?_
      · simp only [seqD, ifD, retD, retND, dropD, setD, nextD, varD, conD, bin2, un1, testD, boolR, notT, andT, orT, ifE, andV, orV, notV, tupD, lstD, cbD, nilD, consD, asgD, parD, nameG, tupG, consG, nilG, setItD, augD, augItD, methD, forD, whileD, lcD, lc2D, sliceD, someD, noneD, chain3, truD, truR, orTD, andTD, notTD, joinedD, glueD, lstRg, rg1, rg2, itRg1, itRg2, itSeq, itEn, dnewKD, newK, newL, maxKD, yesT, wipeA, cmpI, add_I, sub_I, negA, ok_bind, sizeLine_eq, Nat.reduceLeDiff, eq_I, isi_tup, isi_str, isi_int, isi_boo, len_tup, qlt, qle, qgt, qge, rg_if, ev_ok, ev_bind, ev_if, ev_call, es_nx, es_rt, es_seq, es_then, es_if, List.getElem?_cons_succ, List.getElem?_cons_zero, List.set_cons_succ, List.set_cons_zero, List.length_cons, List.length_nil, List.map_cons, List.map_nil, List.replicate, List.cons_append, List.nil_append, Option.bind_some, Option.map_some, Bool.not_true, Bool.not_false, Bool.false_eq_true, if_true, if_false, decide_true, decide_false, true_and, and_true, Nat.zero_add, Nat.add_zero, Nat.reduceAdd, Nat.reduceSub, reduceIte, Nat.sub_self, Nat.succ_sub_succ_eq_sub, Nat.add_one_sub_one, and_self]
      · rintro s h2 ⟨rfl, rfl⟩
        -- the loop
        refine step_seq (fun s h3 => (∃ z, s = [some (.str (S cs)), some (.int z), some (.int (cs.length : Int)), some (.ref h''.length)]) ∧ Gm none h'' h3 ∧ h3[h''.length]? = some (.lst ((z0 :: zr).map A.int))) ?_ ?_
        · refine while_m (fun k s h3 => ∃ d r z i, zr = d ++ r ∧ k = r.length ∧ s = [some (.str (S cs)), some (.int z), some (.int ((i : Nat) : Int)), some (.ref h''.length)] ∧ cs.drop i = tailL r ∧ i ≤ cs.length ∧ Gm none h'' h3 ∧ h3[h''.length]? = some (.lst ((z0 :: d).map A.int))) ?_ n zr.length _ _ (by rw [List.length_cons] at hz; omega)
            ⟨[], zr, z0, (sgL z0).length, rfl, rfl, rfl, by rw [ecs, List.drop_left], by rw [ecs, List.length_append]; omega, Gm.refl.app, get_app⟩
          rintro k s h3 ⟨d, r, z, i, rfl, rfl, rfl, ei, hi, gm, gp⟩
          have e1 : ((i : Int) + 1) = ((i + 1 : Nat) : Int) := by omega
          cases r with
          | nil =>
            have et := head_nil (d := 44) (ei : cs.drop i = [])
            have hlen : i = cs.length := by
              have := congrArg List.length ei
              rw [List.length_drop] at this
              have t0 : (tailL []).length = 0 := rfl
              omega
            subst hlen
            simp only [seqD, ifD, retD, retND, dropD, setD, nextD, varD, conD, bin2, un1, testD, boolR, notT, andT, orT, ifE, andV, orV, notV, tupD, lstD, cbD, nilD, consD, asgD, parD, nameG, tupG, consG, nilG, setItD, augD, augItD, methD, forD, whileD, lcD, lc2D, sliceD, someD, noneD, chain3, truD, truR, orTD, andTD, notTD, joinedD, glueD, lstRg, rg1, rg2, itRg1, itRg2, itSeq, itEn, dnewKD, newK, newL, maxKD, yesT, wipeA, cmpI, add_I, sub_I, negA, ok_bind, sizeLine_eq, Nat.reduceLeDiff, eq_I, isi_tup, isi_str, isi_int, isi_boo, len_tup, qlt, qle, qgt, qge, rg_if, ev_ok, ev_bind, ev_if, ev_call, es_nx, es_rt, es_seq, es_then, es_if, List.getElem?_cons_succ, List.getElem?_cons_zero, List.set_cons_succ, List.set_cons_zero, List.length_cons, List.length_nil, List.map_cons, List.map_nil, List.replicate, List.cons_append, List.nil_append, Option.bind_some, Option.map_some, Bool.not_true, Bool.not_false, Bool.false_eq_true, if_true, if_false, decide_true, decide_false, true_and, and_true, Nat.zero_add, Nat.add_zero, Nat.reduceAdd, Nat.reduceSub, reduceIte, Nat.sub_self, Nat.succ_sub_succ_eq_sub, Nat.add_one_sub_one, addA, e1, sl_S hl2, c_lp, c_rp, c_sp, c_co, c_lb, c_rb, c_mi, c_pl, c_0, c_un, c_m0, c_em, c_sm, c_ss, c_fi, m_lp, m_rp, m_sp, m_co, m_lb, m_rb, m_mi, m_pl, m_0, m_un, m_m0, m_em, m_sm, m_ss, eq_S, sm_cut hs, et]
            rw [List.append_nil]
            exact ⟨⟨z, rfl⟩, gm, gp⟩
          | cons y r =>
            have ed : cs.drop i = 44 :: (sgL y ++ tailL r) := ei
            have et : (cs.drop i).take 1 = [44] := by rw [ed]; rfl
            have ed1 : cs.drop (i + 1) = sgL y ++ tailL r := by rw [← List.drop_drop, ed]; rfl
            have gy := g y (List.mem_cons_of_mem _ (List.mem_append_right _ List.mem_cons_self))
            have gp' := gp
            have hdl : ((z0 :: d).map A.int).length < 16777216 := by
              rw [List.length_map, List.length_cons]
              rw [List.length_cons, List.length_append] at hz
              omega
            simp only [seqD, ifD, retD, retND, dropD, setD, nextD, varD, conD, bin2, un1, testD, boolR, notT, andT, orT, ifE, andV, orV, notV, tupD, lstD, cbD, nilD, consD, asgD, parD, nameG, tupG, consG, nilG, setItD, augD, augItD, methD, forD, whileD, lcD, lc2D, sliceD, someD, noneD, chain3, truD, truR, orTD, andTD, notTD, joinedD, glueD, lstRg, rg1, rg2, itRg1, itRg2, itSeq, itEn, dnewKD, newK, newL, maxKD, yesT, wipeA, cmpI, add_I, sub_I, negA, ok_bind, sizeLine_eq, Nat.reduceLeDiff, eq_I, isi_tup, isi_str, isi_int, isi_boo, len_tup, qlt, qle, qgt, qge, rg_if, ev_ok, ev_bind, ev_if, ev_call, es_nx, es_rt, es_seq, es_then, es_if, List.getElem?_cons_succ, List.getElem?_cons_zero, List.set_cons_succ, List.set_cons_zero, List.length_cons, List.length_nil, List.map_cons, List.map_nil, List.replicate, List.cons_append, List.nil_append, Option.bind_some, Option.map_some, Bool.not_true, Bool.not_false, Bool.false_eq_true, if_true, if_false, decide_true, decide_false, true_and, and_true, Nat.zero_add, Nat.add_zero, Nat.reduceAdd, Nat.reduceSub, reduceIte, Nat.sub_self, Nat.succ_sub_succ_eq_sub, Nat.add_one_sub_one, addA, e1, sl_S hl2, c_lp, c_rp, c_sp, c_co, c_lb, c_rb, c_mi, c_pl, c_0, c_un, c_m0, c_em, c_sm, c_ss, c_fi, m_lp, m_rp, m_sp, m_co, m_lb, m_rb, m_mi, m_pl, m_0, m_un, m_m0, m_em, m_sm, m_ss, eq_S, sm_cut hs, et, signed_at_ok hn hl hs ed1 gy.fig (tail_nofig r), tyA_ref gp, app_ref gp hdl]
            refine ⟨r.length, by omega, d ++ [y], r, y, i + 1 + (sgL y).length, by rw [List.append_assoc]; rfl, rfl, rfl, ?_, ?_, gm.set (.inl (Nat.le_refl _)), ?_⟩
            · rw [← List.drop_drop, ed1, List.drop_left]
            · have := congrArg List.length ed1
              rw [List.length_drop, List.length_append] at this
              have := sg_pos y
              omega
            · rw [get_set gp]
              simp
        · rintro s h3 ⟨⟨z, rfl⟩, gm, gp⟩
          have hlen : ¬ ((60 : Int) < ((zr.length + 1 : Nat) : Int)) := by rw [List.length_cons] at hz; omega
          simp only [seqD, ifD, retD, retND, dropD, setD, nextD, varD, conD, bin2, un1, testD, boolR, notT, andT, orT, ifE, andV, orV, notV, tupD, lstD, cbD, nilD, consD, asgD, parD, nameG, tupG, consG, nilG, setItD, augD, augItD, methD, forD, whileD, lcD, lc2D, sliceD, someD, noneD, chain3, truD, truR, orTD, andTD, notTD, joinedD, glueD, lstRg, rg1, rg2, itRg1, itRg2, itSeq, itEn, dnewKD, newK, newL, maxKD, yesT, wipeA, cmpI, add_I, sub_I, negA, ok_bind, sizeLine_eq, Nat.reduceLeDiff, eq_I, isi_tup, isi_str, isi_int, isi_boo, len_tup, qlt, qle, qgt, qge, rg_if, ev_ok, ev_bind, ev_if, ev_call, es_nx, es_rt, es_seq, es_then, es_if, List.getElem?_cons_succ, List.getElem?_cons_zero, List.set_cons_succ, List.set_cons_zero, List.length_cons, List.length_nil, List.map_cons, List.map_nil, List.replicate, List.cons_append, List.nil_append, Option.bind_some, Option.map_some, Bool.not_true, Bool.not_false, Bool.false_eq_true, if_true, if_false, decide_true, decide_false, true_and, and_true, Nat.zero_add, Nat.add_zero, Nat.reduceAdd, Nat.reduceSub, reduceIte, Nat.sub_self, Nat.succ_sub_succ_eq_sub, Nat.add_one_sub_one, require_end_ok hl, len_ref gp, List.length_map, hlen, tuple_ref gp]
          exact gm
end Dn

set_option maxHeartbeats 4000000
namespace Dn
open PySem
open TL (numL joinL)
/-! ### the bag -/
def Bag (h : Hs) (b k : Nat) : Prop := ∃ x y z : Int, h[b]? = some (.lst [.int x, .int y, .int z]) ∧ 0 ≤ x ∧ 0 ≤ y ∧ y < 2305843009213693951 ∧ 0 ≤ z ∧ z ≤ k
theorem Bag.weak {h : Hs} {b k k' : Nat} (z : Bag h b k) (hk : k ≤ k') : Bag h b k' := by
  obtain ⟨x, y, z, e, h1, h2, h3, h4, h5⟩ := z
  exact ⟨x, y, z, e, h1, h2, h3, h4, by omega⟩
theorem Bag.lt {h : Hs} {b k : Nat} (z : Bag h b k) : b < h.length := by
  obtain ⟨x, y, z, e, _⟩ := z
  exact lt_of_get e
theorem Bag.keep {h h' : Hs} {b k : Nat} (z : Bag h b k) (g : Gm none h h') : Bag h' b k := by
  obtain ⟨x, y, z, e, r⟩ := z
  exact ⟨x, y, z, g.get e, r⟩
section
variable {h : Hs} {b : Nat} {x y z : Int} (e : h[b]? = some (.lst [.int x, .int y, .int z]))
include e
theorem nodict : isDict h (.ref b) = false := by unfold isDict; dsimp only; rw [e]
theorem bag_ix {i : Int} {a : A} (q : L2.atI [.int x, .int y, .int z] i = some a) : ixA (.ref b) (.int i) h = .ok a h := by
  unfold ixA
  rw [nodict e]
  simp only [Bool.false_eq_true, if_false]
  rw [seqOf_ref e]
  dsimp only
  rw [q]
theorem bag_0 : ixA (.ref b) (.int 0) h = .ok (.int x) h := bag_ix e rfl
theorem bag_1 : ixA (.ref b) (.int 1) h = .ok (.int y) h := bag_ix e rfl
theorem bag_2 : ixA (.ref b) (.int 2) h = .ok (.int z) h := bag_ix e rfl
theorem bag_s0 {w : Int} : setItA h (.ref b) (.int 0) (.int w) = some (h.set b (.lst [.int w, .int y, .int z])) := by
  unfold setItA
  dsimp only
  rw [e]
  rfl
theorem bag_s2 {w : Int} : setItA h (.ref b) (.int 2) (.int w) = some (h.set b (.lst [.int x, .int y, .int w])) := by
  unfold setItA
  dsimp only
  rw [e]
  rfl
end
theorem int_I {i : Int} {h : Hs} : bInt [.int i] h = .ok (.int i) h := rfl
theorem int_B {k : Bool} {h : Hs} : bInt [.bl k] h = .ok (.int (if k then 1 else 0)) h := rfl
theorem log_small {z : Int} (h0 : 0 ≤ z) (hz : z ≤ 2305843009213700000) : z.natAbs.log2 < 100 := by
  refine log2_lt_of (k := 100) ?_ (by decide)
  have : z.natAbs ≤ 2305843009213700000 := by omega
  exact Nat.lt_of_le_of_lt this (by decide +kernel)
theorem grab_ok {X : Xn → Hs → Prop} {n : Nat} {h : Hs} {b k t : Nat} (B : Bag h b k) (hk : k ≤ 100000) (ht : 1 ≤ t) (hl : t.log2 < 9000) :
    Ev X (f__law_grab n [.ref b, .int (t : Int)] h) fun a h' => ∃ v : Nat, a = .int (v : Int) ∧ v < t ∧ Bag h' b (k + 1) ∧ Gm (some b) h h' := by
  obtain ⟨x, y, z, e, h1, h2', h3, h4, h5⟩ := B
  have hb := lt_of_get e
  have ht0 : (0 : Int) < (t : Int) := by omega
  have htl : (t : Int).natAbs.log2 < 9000 := by
    rw [Int.natAbs_natCast]
    exact hl
  have fit : ∀ i : Int, ∃ v : Nat, A.int (i % (t : Int)) = .int (v : Int) ∧ v < t := fun i => by
    have a1 := Int.emod_nonneg i (show (t : Int) ≠ 0 by omega)
    have a2 := Int.emod_lt_of_pos i ht0
    exact ⟨(i % (t : Int)).toNat, by rw [Int.toNat_of_nonneg a1], by omega⟩
  refine ev_body rfl ?_
  unfold d__law_grab
  have p1 : (0 : Int) < 2305843009213693951 := by decide
  have p2 : (0 : Int) < 2305843009213693723 := by decide
  have p3 : (0 : Int) < 2305843009213693921 := by decide
  have b1 : (2305843009213693951 : Int) ≤ 2305843009213700000 := by decide
  have b2 : (2305843009213693723 : Int) ≤ 2305843009213700000 := by decide
  have hMU : ∀ (i j : Int) (h : Hs), i.natAbs.log2 + j.natAbs.log2 < 1000000 → mulA (.int i) (.int j) h = .ok (.int (i * j)) h := fun i j h q => mul_I q
  generalize mulA = MU at hMU ⊢
  generalize hM1 : (2305843009213693951 : Int) = M1 at p1 b1 h3 ⊢
  generalize (2305843009213693723 : Int) = M2 at p2 b2 ⊢
  generalize (2305843009213693921 : Int) = M3 at p3 ⊢
  by_cases hx : 0 < x
  · simp only [seqD, ifD, retD, retND, dropD, setD, nextD, varD, conD, bin2, un1, testD, boolR, notT, andT, orT, ifE, andV, orV, notV, tupD, lstD, cbD, nilD, consD, asgD, parD, nameG, tupG, consG, nilG, setItD, augD, augItD, methD, forD, whileD, lcD, lc2D, sliceD, someD, noneD, chain3, truD, truR, orTD, andTD, notTD, joinedD, glueD, lstRg, rg1, rg2, itRg1, itRg2, itSeq, itEn, dnewKD, newK, newL, maxKD, yesT, wipeA, cmpI, add_I, sub_I, negA, ok_bind, sizeLine_eq, Nat.reduceLeDiff, eq_I, isi_tup, isi_str, isi_int, isi_boo, len_tup, qlt, qle, qgt, qge, rg_if, ev_ok, ev_bind, ev_if, ev_call, es_nx, es_rt, es_seq, es_then, es_if, List.getElem?_cons_succ, List.getElem?_cons_zero, List.set_cons_succ, List.set_cons_zero, List.length_cons, List.length_nil, List.map_cons, List.map_nil, List.replicate, List.cons_append, List.nil_append, Option.bind_some, Option.map_some, Bool.not_true, Bool.not_false, Bool.false_eq_true, if_true, if_false, decide_true, decide_false, true_and, and_true, Nat.zero_add, Nat.add_zero, Nat.reduceAdd, Nat.reduceSub, reduceIte, Nat.sub_self, Nat.succ_sub_succ_eq_sub, Nat.add_one_sub_one, bag_0 e, hx, int_I, mod_I ht0, div_I ht0 htl, bag_s0 e]
    obtain ⟨v, ev, hv⟩ := fit x
    exact ⟨v, ev, hv, ⟨x / t, y, z, get_set e, Int.ediv_nonneg h1 (by omega), h2', by rw [hM1]; exact h3, h4, by omega⟩, Gm.refl.set (.inr rfl)⟩
  · have e' : (h.set b (.lst [.int x, .int y, .int (z + 1)]))[b]? = some (.lst [.int x, .int y, .int (z + 1)]) := get_set e
    have m1 : (1048637 : Int).natAbs.log2 + (z + 1).natAbs.log2 < 1000000 := by
      have q1 := log_small (z := z + 1) (by omega) (by omega)
      have q2 : (1048637 : Int).natAbs.log2 = 20 := by decide +kernel
      omega
    have m3 : (8161 : Int).natAbs.log2 + (z + 1).natAbs.log2 < 1000000 := by
      have q1 := log_small (z := z + 1) (by omega) (by omega)
      have q2 : (8161 : Int).natAbs.log2 = 12 := by decide +kernel
      omega
    generalize hw : z + 1 = w at *
    refine step_seq (fun s h' => s = [some (.ref b), some (.int (t : Int)), none, none, none] ∧ h' = h) ?_ ?_
    · simp only [seqD, ifD, retD, retND, dropD, setD, nextD, varD, conD, bin2, un1, testD, boolR, notT, andT, orT, ifE, andV, orV, notV, tupD, lstD, cbD, nilD, consD, asgD, parD, nameG, tupG, consG, nilG, setItD, augD, augItD, methD, forD, whileD, lcD, lc2D, sliceD, someD, noneD, chain3, truD, truR, orTD, andTD, notTD, joinedD, glueD, lstRg, rg1, rg2, itRg1, itRg2, itSeq, itEn, dnewKD, newK, newL, maxKD, yesT, wipeA, cmpI, add_I, sub_I, negA, ok_bind, sizeLine_eq, Nat.reduceLeDiff, eq_I, isi_tup, isi_str, isi_int, isi_boo, len_tup, qlt, qle, qgt, qge, rg_if, ev_ok, ev_bind, ev_if, ev_call, es_nx, es_rt, es_seq, es_then, es_if, List.getElem?_cons_succ, List.getElem?_cons_zero, List.set_cons_succ, List.set_cons_zero, List.length_cons, List.length_nil, List.map_cons, List.map_nil, List.replicate, List.cons_append, List.nil_append, Option.bind_some, Option.map_some, Bool.not_true, Bool.not_false, Bool.false_eq_true, if_true, if_false, decide_true, decide_false, true_and, and_true, Nat.zero_add, Nat.add_zero, Nat.reduceAdd, Nat.reduceSub, reduceIte, Nat.sub_self, Nat.succ_sub_succ_eq_sub, Nat.add_one_sub_one, bag_0 e, hx, and_self]
    rintro s h' ⟨rfl, rfl⟩
    refine step_seq (fun s h2 => s = [some (.ref b), some (.int (t : Int)), none, none, none] ∧ h2 = h'.set b (.lst [.int x, .int y, .int w])) ?_ ?_
    · simp only [seqD, ifD, retD, retND, dropD, setD, nextD, varD, conD, bin2, un1, testD, boolR, notT, andT, orT, ifE, andV, orV, notV, tupD, lstD, cbD, nilD, consD, asgD, parD, nameG, tupG, consG, nilG, setItD, augD, augItD, methD, forD, whileD, lcD, lc2D, sliceD, someD, noneD, chain3, truD, truR, orTD, andTD, notTD, joinedD, glueD, lstRg, rg1, rg2, itRg1, itRg2, itSeq, itEn, dnewKD, newK, newL, maxKD, yesT, wipeA, cmpI, add_I, sub_I, negA, ok_bind, sizeLine_eq, Nat.reduceLeDiff, eq_I, isi_tup, isi_str, isi_int, isi_boo, len_tup, qlt, qle, qgt, qge, rg_if, ev_ok, ev_bind, ev_if, ev_call, es_nx, es_rt, es_seq, es_then, es_if, List.getElem?_cons_succ, List.getElem?_cons_zero, List.set_cons_succ, List.set_cons_zero, List.length_cons, List.length_nil, List.map_cons, List.map_nil, List.replicate, List.cons_append, List.nil_append, Option.bind_some, Option.map_some, Bool.not_true, Bool.not_false, Bool.false_eq_true, if_true, if_false, decide_true, decide_false, true_and, and_true, Nat.zero_add, Nat.add_zero, Nat.reduceAdd, Nat.reduceSub, reduceIte, Nat.sub_self, Nat.succ_sub_succ_eq_sub, Nat.add_one_sub_one, bag_2 e, addA, hw, bag_s2 e, and_self]
    rintro s h2 ⟨rfl, rfl⟩
    generalize ho : (y + 1048637 * w) % M1 = o
    have o1 : 0 ≤ o := by rw [← ho]; exact Int.emod_nonneg _ (by omega)
    have o2 : o < M1 := by rw [← ho]; exact Int.emod_lt_of_pos _ (by omega)
    have m4 : o.natAbs.log2 + o.natAbs.log2 < 1000000 := by
      have q1 := log_small o1 (by omega)
      omega
    refine step_seq (fun s h2 => s = [some (.ref b), some (.int (t : Int)), none, some (.int o), none] ∧ h2 = h'.set b (.lst [.int x, .int y, .int w])) ?_ ?_
    · simp only [seqD, ifD, retD, retND, dropD, setD, nextD, varD, conD, bin2, un1, testD, boolR, notT, andT, orT, ifE, andV, orV, notV, tupD, lstD, cbD, nilD, consD, asgD, parD, nameG, tupG, consG, nilG, setItD, augD, augItD, methD, forD, whileD, lcD, lc2D, sliceD, someD, noneD, chain3, truD, truR, orTD, andTD, notTD, joinedD, glueD, lstRg, rg1, rg2, itRg1, itRg2, itSeq, itEn, dnewKD, newK, newL, maxKD, yesT, wipeA, cmpI, add_I, sub_I, negA, ok_bind, sizeLine_eq, Nat.reduceLeDiff, eq_I, isi_tup, isi_str, isi_int, isi_boo, len_tup, qlt, qle, qgt, qge, rg_if, ev_ok, ev_bind, ev_if, ev_call, es_nx, es_rt, es_seq, es_then, es_if, List.getElem?_cons_succ, List.getElem?_cons_zero, List.set_cons_succ, List.set_cons_zero, List.length_cons, List.length_nil, List.map_cons, List.map_nil, List.replicate, List.cons_append, List.nil_append, Option.bind_some, Option.map_some, Bool.not_true, Bool.not_false, Bool.false_eq_true, if_true, if_false, decide_true, decide_false, true_and, and_true, Nat.zero_add, Nat.add_zero, Nat.reduceAdd, Nat.reduceSub, reduceIte, Nat.sub_self, Nat.succ_sub_succ_eq_sub, Nat.add_one_sub_one, addA, bag_1 e', bag_2 e', hMU _ _ _ m1, int_I, mod_I p1, ho, and_self]
    rintro s h2 ⟨rfl, rfl⟩
    generalize hq : o * o % M2 = q
    have q1 : 0 ≤ q := by rw [← hq]; exact Int.emod_nonneg _ (by omega)
    have q2 : q < M2 := by rw [← hq]; exact Int.emod_lt_of_pos _ (by omega)
    have m5 : q.natAbs.log2 + o.natAbs.log2 < 1000000 := by
      have r1 := log_small o1 (by omega)
      have r2 := log_small q1 (by omega)
      omega
    refine step_seq (fun s h2 => s = [some (.ref b), some (.int (t : Int)), none, some (.int o), some (.int (q * o + 8161 * w))] ∧ h2 = h'.set b (.lst [.int x, .int y, .int w])) ?_ ?_
    · simp only [seqD, ifD, retD, retND, dropD, setD, nextD, varD, conD, bin2, un1, testD, boolR, notT, andT, orT, ifE, andV, orV, notV, tupD, lstD, cbD, nilD, consD, asgD, parD, nameG, tupG, consG, nilG, setItD, augD, augItD, methD, forD, whileD, lcD, lc2D, sliceD, someD, noneD, chain3, truD, truR, orTD, andTD, notTD, joinedD, glueD, lstRg, rg1, rg2, itRg1, itRg2, itSeq, itEn, dnewKD, newK, newL, maxKD, yesT, wipeA, cmpI, add_I, sub_I, negA, ok_bind, sizeLine_eq, Nat.reduceLeDiff, eq_I, isi_tup, isi_str, isi_int, isi_boo, len_tup, qlt, qle, qgt, qge, rg_if, ev_ok, ev_bind, ev_if, ev_call, es_nx, es_rt, es_seq, es_then, es_if, List.getElem?_cons_succ, List.getElem?_cons_zero, List.set_cons_succ, List.set_cons_zero, List.length_cons, List.length_nil, List.map_cons, List.map_nil, List.replicate, List.cons_append, List.nil_append, Option.bind_some, Option.map_some, Bool.not_true, Bool.not_false, Bool.false_eq_true, if_true, if_false, decide_true, decide_false, true_and, and_true, Nat.zero_add, Nat.add_zero, Nat.reduceAdd, Nat.reduceSub, reduceIte, Nat.sub_self, Nat.succ_sub_succ_eq_sub, Nat.add_one_sub_one, addA, hMU _ _ _ m4, hMU _ _ _ m5, hMU _ _ _ m3, bag_2 e', int_I, mod_I p2, hq, and_self]
    rintro s h2 ⟨rfl, rfl⟩
    simp only [seqD, ifD, retD, retND, dropD, setD, nextD, varD, conD, bin2, un1, testD, boolR, notT, andT, orT, ifE, andV, orV, notV, tupD, lstD, cbD, nilD, consD, asgD, parD, nameG, tupG, consG, nilG, setItD, augD, augItD, methD, forD, whileD, lcD, lc2D, sliceD, someD, noneD, chain3, truD, truR, orTD, andTD, notTD, joinedD, glueD, lstRg, rg1, rg2, itRg1, itRg2, itSeq, itEn, dnewKD, newK, newL, maxKD, yesT, wipeA, cmpI, add_I, sub_I, negA, ok_bind, sizeLine_eq, Nat.reduceLeDiff, eq_I, isi_tup, isi_str, isi_int, isi_boo, len_tup, qlt, qle, qgt, qge, rg_if, ev_ok, ev_bind, ev_if, ev_call, es_nx, es_rt, es_seq, es_then, es_if, List.getElem?_cons_succ, List.getElem?_cons_zero, List.set_cons_succ, List.set_cons_zero, List.length_cons, List.length_nil, List.map_cons, List.map_nil, List.replicate, List.cons_append, List.nil_append, Option.bind_some, Option.map_some, Bool.not_true, Bool.not_false, Bool.false_eq_true, if_true, if_false, decide_true, decide_false, true_and, and_true, Nat.zero_add, Nat.add_zero, Nat.reduceAdd, Nat.reduceSub, reduceIte, Nat.sub_self, Nat.succ_sub_succ_eq_sub, Nat.add_one_sub_one, int_I, mod_I p3, div_I (show (0 : Int) < 16384 by decide) (show (16384 : Int).natAbs.log2 < 9000 by decide +kernel), mod_I ht0]
    obtain ⟨v, ev, hv⟩ := fit ((q * o + 8161 * w) % M3 / 16384)
    exact ⟨v, ev, hv, ⟨x, y, w, e', h1, h2', by rw [hM1]; exact h3, by omega, by omega⟩, Gm.refl.set (.inr rfl)⟩
end Dn

set_option maxHeartbeats 4000000
namespace Dn
open PySem
open TL (numL joinL)
theorem atI_n {xs : List A} {v : Nat} {a : A} (e : xs[v]? = some a) : L2.atI xs (v : Int) = some a := L2.atI_nat e
theorem ix_ref {p : Nat} {xs : List A} {i : Int} {a : A} {h : Hs} (e : h[p]? = some (.lst xs)) (q : L2.atI xs i = some a) : ixA (.ref p) (.int i) h = .ok a h := by
  unfold ixA
  rw [show isDict h (.ref p) = false by unfold isDict; dsimp only; rw [e]]
  simp only [Bool.false_eq_true, if_false]
  rw [seqOf_ref e]
  dsimp only
  rw [q]
theorem log_nat {t : Nat} (h : t < 9000) : t.log2 < 9000 := Nat.lt_of_le_of_lt (Nat.log2_le_self t) h
theorem one_of_ok {X : Xn → Hs → Prop} {n : Nat} {h : Hs} {b p k : Nat} {xs : List A} (B : Bag h b k) (hk : k ≤ 100000) (e : h[p]? = some (.lst xs)) (hp : p ≠ b) (h1 : 1 ≤ xs.length) (h2 : xs.length < 9000) :
    Ev X (f__law_one_of n [.ref b, .ref p] h) fun a h' => (∃ v : Nat, xs[v]? = some a) ∧ Bag h' b (k + 1) ∧ Gm (some b) h h' := by
  refine ev_body rfl ?_
  simp only [d__law_one_of, seqD, ifD, retD, retND, dropD, setD, nextD, varD, conD, bin2, un1, testD, boolR, notT, andT, orT, ifE, andV, orV, notV, tupD, lstD, cbD, nilD, consD, asgD, parD, nameG, tupG, consG, nilG, setItD, augD, augItD, methD, forD, whileD, lcD, lc2D, sliceD, someD, noneD, chain3, truD, truR, orTD, andTD, notTD, joinedD, glueD, lstRg, rg1, rg2, itRg1, itRg2, itSeq, itEn, dnewKD, newK, newL, maxKD, yesT, wipeA, cmpI, add_I, sub_I, negA, ok_bind, sizeLine_eq, Nat.reduceLeDiff, eq_I, isi_tup, isi_str, isi_int, isi_boo, len_tup, qlt, qle, qgt, qge, rg_if, ev_ok, ev_bind, ev_if, ev_call, es_nx, es_rt, es_seq, es_then, es_if, List.getElem?_cons_succ, List.getElem?_cons_zero, List.set_cons_succ, List.set_cons_zero, List.length_cons, List.length_nil, List.map_cons, List.map_nil, List.replicate, List.cons_append, List.nil_append, Option.bind_some, Option.map_some, Bool.not_true, Bool.not_false, Bool.false_eq_true, if_true, if_false, decide_true, decide_false, true_and, and_true, Nat.zero_add, Nat.add_zero, Nat.reduceAdd, Nat.reduceSub, reduceIte, Nat.sub_self, Nat.succ_sub_succ_eq_sub, Nat.add_one_sub_one, len_ref e]
  refine (grab_ok B hk h1 (log_nat h2)).mono fun a h' q => ?_
  obtain ⟨v, rfl, hv, B', g⟩ := q
  have e' : h'[p]? = some (.lst xs) := g.get e (by simp [hp])
  have hx : xs[v]? = some xs[v] := List.getElem?_eq_getElem hv
  rw [ix_ref e' (atI_n hx), ev_ok]
  exact ⟨⟨v, hx⟩, B', g⟩
theorem pow60 {h : Hs} : intA powI (.int 10) (.int 60) h = .ok (.int 1000000000000000000000000000000000000000000000000000000000000) h := by
  have e : powI 10 60 = some 1000000000000000000000000000000000000000000000000000000000000 := by decide +kernel
  unfold intA
  dsimp only
  rw [e]
theorem mul2 {h : Hs} : mulA (.int 2) (.int 1000000000000000000000000000000000000000000000000000000000000) h = .ok (.int 2000000000000000000000000000000000000000000000000000000000000) h := by
  have e : mulI 2 1000000000000000000000000000000000000000000000000000000000000 = some 2000000000000000000000000000000000000000000000000000000000000 := by decide +kernel
  unfold mulA
  dsimp only
  rw [e]
theorem log60 : (1999999999999999999999999999999999999999999999999999999999999).log2 < 9000 := by decide +kernel
theorem number_ok {X : Xn → Hs → Prop} {n : Nat} {h : Hs} {b k : Nat} (B : Bag h b k) (hk : k ≤ 90000) : Ev X (f__law_number n [.ref b] h) fun a h' => ∃ z : Int, a = .int z ∧ Good z ∧ Bag h' b (k + 3) ∧ Gm (some b) h h' := by
  refine ev_body rfl ?_
  unfold d__law_number
  refine step_seq (fun s h' => ∃ v : Nat, s = [some (.ref b), some (.int (v : Int))] ∧ Bag h' b (k + 1) ∧ Gm (some b) h h') ?_ ?_
  · simp only [seqD, ifD, retD, retND, dropD, setD, nextD, varD, conD, bin2, un1, testD, boolR, notT, andT, orT, ifE, andV, orV, notV, tupD, lstD, cbD, nilD, consD, asgD, parD, nameG, tupG, consG, nilG, setItD, augD, augItD, methD, forD, whileD, lcD, lc2D, sliceD, someD, noneD, chain3, truD, truR, orTD, andTD, notTD, joinedD, glueD, lstRg, rg1, rg2, itRg1, itRg2, itSeq, itEn, dnewKD, newK, newL, maxKD, yesT, wipeA, cmpI, add_I, sub_I, negA, ok_bind, sizeLine_eq, Nat.reduceLeDiff, eq_I, isi_tup, isi_str, isi_int, isi_boo, len_tup, qlt, qle, qgt, qge, rg_if, ev_ok, ev_bind, ev_if, ev_call, es_nx, es_rt, es_seq, es_then, es_if, List.getElem?_cons_succ, List.getElem?_cons_zero, List.set_cons_succ, List.set_cons_zero, List.length_cons, List.length_nil, List.map_cons, List.map_nil, List.replicate, List.cons_append, List.nil_append, Option.bind_some, Option.map_some, Bool.not_true, Bool.not_false, Bool.false_eq_true, if_true, if_false, decide_true, decide_false, true_and, and_true, Nat.zero_add, Nat.add_zero, Nat.reduceAdd, Nat.reduceSub, reduceIte, Nat.sub_self, Nat.succ_sub_succ_eq_sub, Nat.add_one_sub_one]
    refine (grab_ok (t := 6) B (by omega) (by decide) (by decide +kernel)).mono fun a h' q => ?_
    obtain ⟨v, rfl, hv, B', g⟩ := q
    exact ⟨v, rfl, B', g⟩
  · rintro s h' ⟨v, rfl, B', g⟩
    refine step_seq (fun s h2 => s = [some (.ref b), some (.int (v : Int))] ∧ h2 = h') ?_ ?_
    · by_cases hv : (v : Int) = 0
      · simp only [seqD, ifD, retD, retND, dropD, setD, nextD, varD, conD, bin2, un1, testD, boolR, notT, andT, orT, ifE, andV, orV, notV, tupD, lstD, cbD, nilD, consD, asgD, parD, nameG, tupG, consG, nilG, setItD, augD, augItD, methD, forD, whileD, lcD, lc2D, sliceD, someD, noneD, chain3, truD, truR, orTD, andTD, notTD, joinedD, glueD, lstRg, rg1, rg2, itRg1, itRg2, itSeq, itEn, dnewKD, newK, newL, maxKD, yesT, wipeA, cmpI, add_I, sub_I, negA, ok_bind, sizeLine_eq, Nat.reduceLeDiff, eq_I, isi_tup, isi_str, isi_int, isi_boo, len_tup, qlt, qle, qgt, qge, rg_if, ev_ok, ev_bind, ev_if, ev_call, es_nx, es_rt, es_seq, es_then, es_if, List.getElem?_cons_succ, List.getElem?_cons_zero, List.set_cons_succ, List.set_cons_zero, List.length_cons, List.length_nil, List.map_cons, List.map_nil, List.replicate, List.cons_append, List.nil_append, Option.bind_some, Option.map_some, Bool.not_true, Bool.not_false, Bool.false_eq_true, if_true, if_false, decide_true, decide_false, true_and, and_true, Nat.zero_add, Nat.add_zero, Nat.reduceAdd, Nat.reduceSub, reduceIte, Nat.sub_self, Nat.succ_sub_succ_eq_sub, Nat.add_one_sub_one, hv, pow60, mul2]
        have e9 : (2000000000000000000000000000000000000000000000000000000000000 : Int) - 1 = ((1999999999999999999999999999999999999999999999999999999999999 : Nat) : Int) := by decide +kernel
        rw [e9]
        refine (grab_ok B' (by omega) (by decide +kernel) log60).mono fun a h2 q => ?_
        obtain ⟨w, rfl, hw, B2, g2⟩ := q
        simp only [seqD, ifD, retD, retND, dropD, setD, nextD, varD, conD, bin2, un1, testD, boolR, notT, andT, orT, ifE, andV, orV, notV, tupD, lstD, cbD, nilD, consD, asgD, parD, nameG, tupG, consG, nilG, setItD, augD, augItD, methD, forD, whileD, lcD, lc2D, sliceD, someD, noneD, chain3, truD, truR, orTD, andTD, notTD, joinedD, glueD, lstRg, rg1, rg2, itRg1, itRg2, itSeq, itEn, dnewKD, newK, newL, maxKD, yesT, wipeA, cmpI, add_I, sub_I, negA, ok_bind, sizeLine_eq, Nat.reduceLeDiff, eq_I, isi_tup, isi_str, isi_int, isi_boo, len_tup, qlt, qle, qgt, qge, rg_if, ev_ok, ev_bind, ev_if, ev_call, es_nx, es_rt, es_seq, es_then, es_if, List.getElem?_cons_succ, List.getElem?_cons_zero, List.set_cons_succ, List.set_cons_zero, List.length_cons, List.length_nil, List.map_cons, List.map_nil, List.replicate, List.cons_append, List.nil_append, Option.bind_some, Option.map_some, Bool.not_true, Bool.not_false, Bool.false_eq_true, if_true, if_false, decide_true, decide_false, true_and, and_true, Nat.zero_add, Nat.add_zero, Nat.reduceAdd, Nat.reduceSub, reduceIte, Nat.sub_self, Nat.succ_sub_succ_eq_sub, Nat.add_one_sub_one, addA, pow60]
        refine ⟨(w : Int) - 1000000000000000000000000000000000000000000000000000000000000 + 1, rfl, ⟨?_, ?_⟩, B2.weak (by omega), g.trans g2⟩ <;> omega
      · simp only [seqD, ifD, retD, retND, dropD, setD, nextD, varD, conD, bin2, un1, testD, boolR, notT, andT, orT, ifE, andV, orV, notV, tupD, lstD, cbD, nilD, consD, asgD, parD, nameG, tupG, consG, nilG, setItD, augD, augItD, methD, forD, whileD, lcD, lc2D, sliceD, someD, noneD, chain3, truD, truR, orTD, andTD, notTD, joinedD, glueD, lstRg, rg1, rg2, itRg1, itRg2, itSeq, itEn, dnewKD, newK, newL, maxKD, yesT, wipeA, cmpI, add_I, sub_I, negA, ok_bind, sizeLine_eq, Nat.reduceLeDiff, eq_I, isi_tup, isi_str, isi_int, isi_boo, len_tup, qlt, qle, qgt, qge, rg_if, ev_ok, ev_bind, ev_if, ev_call, es_nx, es_rt, es_seq, es_then, es_if, List.getElem?_cons_succ, List.getElem?_cons_zero, List.set_cons_succ, List.set_cons_zero, List.length_cons, List.length_nil, List.map_cons, List.map_nil, List.replicate, List.cons_append, List.nil_append, Option.bind_some, Option.map_some, Bool.not_true, Bool.not_false, Bool.false_eq_true, if_true, if_false, decide_true, decide_false, true_and, and_true, Nat.zero_add, Nat.add_zero, Nat.reduceAdd, Nat.reduceSub, reduceIte, Nat.sub_self, Nat.succ_sub_succ_eq_sub, Nat.add_one_sub_one, hv, and_self]
    · rintro s h2 ⟨rfl, rfl⟩
      simp only [seqD, ifD, retD, retND, dropD, setD, nextD, varD, conD, bin2, un1, testD, boolR, notT, andT, orT, ifE, andV, orV, notV, tupD, lstD, cbD, nilD, consD, asgD, parD, nameG, tupG, consG, nilG, setItD, augD, augItD, methD, forD, whileD, lcD, lc2D, sliceD, someD, noneD, chain3, truD, truR, orTD, andTD, notTD, joinedD, glueD, lstRg, rg1, rg2, itRg1, itRg2, itSeq, itEn, dnewKD, newK, newL, maxKD, yesT, wipeA, cmpI, add_I, sub_I, negA, ok_bind, sizeLine_eq, Nat.reduceLeDiff, eq_I, isi_tup, isi_str, isi_int, isi_boo, len_tup, qlt, qle, qgt, qge, rg_if, ev_ok, ev_bind, ev_if, ev_call, es_nx, es_rt, es_seq, es_then, es_if, List.getElem?_cons_succ, List.getElem?_cons_zero, List.set_cons_succ, List.set_cons_zero, List.length_cons, List.length_nil, List.map_cons, List.map_nil, List.replicate, List.cons_append, List.nil_append, Option.bind_some, Option.map_some, Bool.not_true, Bool.not_false, Bool.false_eq_true, if_true, if_false, decide_true, decide_false, true_and, and_true, Nat.zero_add, Nat.add_zero, Nat.reduceAdd, Nat.reduceSub, reduceIte, Nat.sub_self, Nat.succ_sub_succ_eq_sub, Nat.add_one_sub_one]
      refine (grab_ok (t := 2001) B' (by omega) (by decide) (by decide +kernel)).mono fun a h3 q => ?_
      obtain ⟨w, rfl, hw, B3, g3⟩ := q
      simp only [seqD, ifD, retD, retND, dropD, setD, nextD, varD, conD, bin2, un1, testD, boolR, notT, andT, orT, ifE, andV, orV, notV, tupD, lstD, cbD, nilD, consD, asgD, parD, nameG, tupG, consG, nilG, setItD, augD, augItD, methD, forD, whileD, lcD, lc2D, sliceD, someD, noneD, chain3, truD, truR, orTD, andTD, notTD, joinedD, glueD, lstRg, rg1, rg2, itRg1, itRg2, itSeq, itEn, dnewKD, newK, newL, maxKD, yesT, wipeA, cmpI, add_I, sub_I, negA, ok_bind, sizeLine_eq, Nat.reduceLeDiff, eq_I, isi_tup, isi_str, isi_int, isi_boo, len_tup, qlt, qle, qgt, qge, rg_if, ev_ok, ev_bind, ev_if, ev_call, es_nx, es_rt, es_seq, es_then, es_if, List.getElem?_cons_succ, List.getElem?_cons_zero, List.set_cons_succ, List.set_cons_zero, List.length_cons, List.length_nil, List.map_cons, List.map_nil, List.replicate, List.cons_append, List.nil_append, Option.bind_some, Option.map_some, Bool.not_true, Bool.not_false, Bool.false_eq_true, if_true, if_false, decide_true, decide_false, true_and, and_true, Nat.zero_add, Nat.add_zero, Nat.reduceAdd, Nat.reduceSub, reduceIte, Nat.sub_self, Nat.succ_sub_succ_eq_sub, Nat.add_one_sub_one]
      have hb := B3.lt
      refine (one_of_ok (B3.keep Gm.refl.app) (by omega) get_app (by omega) (by simp) (by simp)).mono fun a h4 q => ?_
      obtain ⟨⟨u, hu⟩, B4, g4⟩ := q
      have hz : ∃ z : Int, a = .int z ∧ Good z := by
        have hm := List.mem_of_getElem? hu
        simp only [List.mem_cons, List.not_mem_nil, or_false] at hm
        rcases hm with rfl | rfl | rfl | rfl | rfl | rfl | rfl
        all_goals exact ⟨_, rfl, by constructor <;> omega⟩
      obtain ⟨z, rfl, gz⟩ := hz
      exact ⟨z, rfl, gz, B4.weak (by omega), g.trans (g3.trans ((Gm.weak Gm.refl.app).trans g4))⟩
/-! ### equal things -/
theorem toDs_I {f : Nat → Option PyData} (xs : List Int) : toDws f (xs.map A.int) = some (xs.map PyData.int) := by
  induction xs with
  | nil => rfl
  | cons x xs ih => rw [List.map_cons, toDws, ih]; rfl
theorem lay_I (xs : List Int) : PyData.canLayAll0 (xs.map PyData.int) = true ∧ PyData.depthAll (xs.map PyData.int) = 0 ∧ PyData.eqvAll (xs.map PyData.int) (xs.map PyData.int) = true := by
  induction xs with
  | nil => exact ⟨rfl, rfl, rfl⟩
  | cons x xs ih =>
    obtain ⟨h1, h2, h3⟩ := ih
    refine ⟨by simp [PyData.canLayAll0, PyData.canLay0, h1], by simp [PyData.depthAll, PyData.depth, h2], ?_⟩
    simp [PyData.eqvAll, PyData.eqv, h3]
theorem eq_tupI {neg : Bool} {xs : List Int} {h : Hs} : eqA neg (.tup (xs.map A.int)) (.tup (xs.map A.int)) h = .ok (.bl (!neg)) h := by
  obtain ⟨h1, h2, h3⟩ := lay_I xs
  have q : SeqAt.shaped (.tuple (xs.map PyData.int)) = true := by
    unfold SeqAt.shaped
    simp [PyData.canLay0, PyData.depth, h1, h2]
  have r : PyData.eqv (.tuple (xs.map PyData.int)) (.tuple (xs.map PyData.int)) = true := by simp [PyData.eqv, h3]
  unfold eqA toD
  simp only [toDw, toDs_I, Option.map_some, q, r, Bool.and_self, if_true]
  cases neg <;> rfl
end Dn

set_option maxHeartbeats 4000000
namespace Dn
open PySem
open TL (numL joinL)
/-- [number(bag) for _ in range(m)] -/
theorem lc_numbers {X : Xn → Hs → Prop} {n m k b v : Nat} {s : Sl} {h0 h : Hs} {Q : List A → Hs → Prop} (hn : 5000 ≤ n) (hm : m ≤ 60) (hk : k ≤ 80000) (hs : s[0]? = some (some (.ref b))) (hv : v ≠ 0) (B : Bag h b k) (g : Gm (some b) h0 h)
    (q : ∀ (zs : List Int) h', zs.length = m → (∀ z ∈ zs, Good z) → Bag h' b (k + 3 * m) → Gm (some b) h0 h' → Q (zs.map A.int) h') :
    Ev X (lcL (stepR 0 m) (nameG v) yesT (callD 1 f__law_number (consD (varD 0) nilD)) n n 0 [] s h) Q := by
  refine lc_any (m := m) (fun j acc h' => j ≤ m ∧ ∃ zs : List Int, acc = zs.map A.int ∧ zs.length = j ∧ (∀ z ∈ zs, Good z) ∧ Bag h' b (k + 3 * j) ∧ Gm (some b) h0 h') ?_ ?_ m n 0 [] h (Nat.zero_add _) (by omega) ⟨Nat.zero_le _, [], rfl, rfl, by simp, B, g⟩
  · rintro j acc h' hj ⟨_, zs, rfl, hl, gz, B', g'⟩
    refine ⟨_, _, by unfold stepR; rw [if_pos hj], rfl, ?_⟩
    rw [yesT, ev_ok]
    simp only [if_true]
    rw [ev_call]
    have hs' : (s.set v (some (A.int (0 + (j : Int)))))[0]? = some (some (.ref b)) := by rw [List.getElem?_set_ne hv]; exact hs
    simp only [consD, nilD, varD, hs', ok_bind, ev_ok]
    refine ⟨rfl, (number_ok B' (by omega)).mono fun a h2 q2 => ?_⟩
    obtain ⟨z, rfl, gz2, B2, g2⟩ := q2
    refine ⟨lt_line (by rw [List.length_map]; omega), hj, zs ++ [z], by rw [List.map_append]; rfl, by rw [List.length_append]; simp [hl], ?_, B2.weak (by omega), g'.trans g2⟩
    intro y hy
    rcases List.mem_append.mp hy with c | c
    · exact gz y c
    · rw [List.mem_singleton.mp c]; exact gz2
  · rintro acc h' ⟨_, zs, rfl, hl, gz, B', g'⟩
    exact ⟨by unfold stepR; rw [if_neg (Nat.lt_irrefl _)], q zs h' hl gz B' g'⟩
/-- what one_of gives of two numbers, one more -/
theorem two_of {X : Xn → Hs → Prop} {n a c k b u w : Nat} {h : Hs} {Q : A → Hs → Prop} (B : Bag h b k) (hk : k ≤ 90000) (hu : u < a) (hw : w < c)
    (q : ∀ (m : Nat) h', 1 ≤ m → (m ≤ a ∨ m ≤ c) → Bag h' b (k + 1) → Gm (some b) h h' → Q (.int (m : Int)) h') :
    Ev X (f__law_one_of n [.ref b, .ref h.length] (h ++ [.lst [.int (u : Int), .int (w : Int)]])) fun x h4 => Ev X (addA (.int 1) x h4) Q := by
  have hb := B.lt
  refine (one_of_ok (B.keep Gm.refl.app) (by omega) get_app (by omega) (by simp) (by simp)).mono fun x h4 q4 => ?_
  obtain ⟨⟨i, hi⟩, B4, g4⟩ := q4
  have hm := List.mem_of_getElem? hi
  simp only [List.mem_cons, List.not_mem_nil, or_false] at hm
  have G := (Gm.weak Gm.refl.app).trans g4
  rcases hm with rfl | rfl
  · have e : addA (.int 1) (.int (u : Int)) h4 = .ok (.int ((1 + u : Nat) : Int)) h4 := by
      show R.ok (A.int (1 + (u : Int))) h4 = _
      rw [show (1 : Int) + (u : Int) = ((1 + u : Nat) : Int) by omega]
    rw [e, ev_ok]
    exact q (1 + u) h4 (by omega) (by omega) B4 G
  · have e : addA (.int 1) (.int (w : Int)) h4 = .ok (.int ((1 + w : Nat) : Int)) h4 := by
      show R.ok (A.int (1 + (w : Int))) h4 = _
      rw [show (1 : Int) + (w : Int) = ((1 + w : Nat) : Int) by omega]
    rw [e, ev_ok]
    exact q (1 + w) h4 (by omega) (by omega) B4 G
theorem row_len {zs : List Int} (hz : zs.length ≤ 48) (g : ∀ z ∈ zs, Good z) : (rowL zs).length ≤ 3000 := by
  have := joinL_len [44] (zs.map sgL) 61 fun y hy => by
    obtain ⟨z, hz, rfl⟩ := List.mem_map.mp hy
    exact sg_len (g z hz)
  rw [List.length_map, List.length_singleton] at this
  unfold rowL
  omega
theorem rows_right_ok {n : Nat} {h : Hs} {b k : Nat} (hn : 5000 ≤ n) (B : Bag h b k) (hk : k ≤ 70000) : Ev NoX (f__law_rows_right n [.ref b] h) fun a h' => a = .bl true ∧ Bag h' b (k + 200) ∧ Gm (some b) h h' := by
  refine ev_body rfl ?_
  unfold d__law_rows_right
  refine step_seq (fun s h' => ∃ zs : List Int, s = [some (.ref b), some (.tup (zs.map A.int)), none, none, none] ∧ 1 ≤ zs.length ∧ zs.length ≤ 48 ∧ (∀ z ∈ zs, Good z) ∧ Bag h' b (k + 200) ∧ Gm (some b) h h') ?_ ?_
  · simp only [seqD, ifD, retD, retND, dropD, setD, nextD, varD, conD, bin2, un1, testD, boolR, notT, andT, orT, ifE, andV, orV, notV, tupD, lstD, cbD, nilD, consD, asgD, parD, nameG, tupG, consG, nilG, setItD, augD, augItD, methD, forD, whileD, lcD, lc2D, sliceD, someD, noneD, chain3, truD, truR, orTD, andTD, notTD, joinedD, glueD, lstRg, rg1, rg2, itRg1, itRg2, itSeq, itEn, dnewKD, newK, newL, maxKD, yesT, wipeA, cmpI, add_I, sub_I, negA, ok_bind, sizeLine_eq, Nat.reduceLeDiff, eq_I, isi_tup, isi_str, isi_int, isi_boo, len_tup, qlt, qle, qgt, qge, rg_if, ev_ok, ev_bind, ev_if, ev_call, es_nx, es_rt, es_seq, es_then, es_if, List.getElem?_cons_succ, List.getElem?_cons_zero, List.set_cons_succ, List.set_cons_zero, List.length_cons, List.length_nil, List.map_cons, List.map_nil, List.replicate, List.cons_append, List.nil_append, Option.bind_some, Option.map_some, Bool.not_true, Bool.not_false, Bool.false_eq_true, if_true, if_false, decide_true, decide_false, true_and, and_true, Nat.zero_add, Nat.add_zero, Nat.reduceAdd, Nat.reduceSub, reduceIte, Nat.sub_self, Nat.succ_sub_succ_eq_sub, Nat.add_one_sub_one]
    refine (grab_ok (t := 12) B (by omega) (by decide) (log_nat (by decide))).mono fun x h1 q1 => ?_
    obtain ⟨u, rfl, hu, B1, g1⟩ := q1
    refine (grab_ok (t := 48) B1 (by omega) (by decide) (log_nat (by decide))).mono fun x h2 q2 => ?_
    obtain ⟨w, rfl, hw, B2, g2⟩ := q2
    refine two_of (a := 12) (c := 48) B2 (by omega) hu hw fun m h3 h1m hm B3 g3 => ?_
    simp only [seqD, ifD, retD, retND, dropD, setD, nextD, varD, conD, bin2, un1, testD, boolR, notT, andT, orT, ifE, andV, orV, notV, tupD, lstD, cbD, nilD, consD, asgD, parD, nameG, tupG, consG, nilG, setItD, augD, augItD, methD, forD, whileD, lcD, lc2D, sliceD, someD, noneD, chain3, truD, truR, orTD, andTD, notTD, joinedD, glueD, lstRg, rg1, rg2, itRg1, itRg2, itSeq, itEn, dnewKD, newK, newL, maxKD, yesT, wipeA, cmpI, add_I, sub_I, negA, ok_bind, sizeLine_eq, Nat.reduceLeDiff, eq_I, isi_tup, isi_str, isi_int, isi_boo, len_tup, qlt, qle, qgt, qge, rg_if, ev_ok, ev_bind, ev_if, ev_call, es_nx, es_rt, es_seq, es_then, es_if, List.getElem?_cons_succ, List.getElem?_cons_zero, List.set_cons_succ, List.set_cons_zero, List.length_cons, List.length_nil, List.map_cons, List.map_nil, List.replicate, List.cons_append, List.nil_append, Option.bind_some, Option.map_some, Bool.not_true, Bool.not_false, Bool.false_eq_true, if_true, if_false, decide_true, decide_false, true_and, and_true, Nat.zero_add, Nat.add_zero, Nat.reduceAdd, Nat.reduceSub, reduceIte, Nat.sub_self, Nat.succ_sub_succ_eq_sub, Nat.add_one_sub_one]
    rw [if_pos (by omega : (m : Int).natAbs < 2 ^ 62), Int.toNat_natCast]
    refine lc_numbers (h0 := h) hn (by omega) (by omega) rfl (by decide) B3 (g1.trans (g2.trans g3)) fun zs h4 hl gz B4 g4 => ?_
    rw [tuple_ref get_app, ev_ok]
    exact ⟨zs, rfl, by omega, by omega, gz, (B4.keep Gm.refl.app).weak (by omega), g4.trans (Gm.weak Gm.refl.app)⟩
  · rintro s h' ⟨zs, rfl, hz1, hz2, gz, B', g'⟩
    refine step_seq (fun s h2 => s = [some (.ref b), some (.tup (zs.map A.int)), some (.str (S (rowL zs))), none, none] ∧ Gm none h' h2) ?_ ?_
    · simp only [seqD, ifD, retD, retND, dropD, setD, nextD, varD, conD, bin2, un1, testD, boolR, notT, andT, orT, ifE, andV, orV, notV, tupD, lstD, cbD, nilD, consD, asgD, parD, nameG, tupG, consG, nilG, setItD, augD, augItD, methD, forD, whileD, lcD, lc2D, sliceD, someD, noneD, chain3, truD, truR, orTD, andTD, notTD, joinedD, glueD, lstRg, rg1, rg2, itRg1, itRg2, itSeq, itEn, dnewKD, newK, newL, maxKD, yesT, wipeA, cmpI, add_I, sub_I, negA, ok_bind, sizeLine_eq, Nat.reduceLeDiff, eq_I, isi_tup, isi_str, isi_int, isi_boo, len_tup, qlt, qle, qgt, qge, rg_if, ev_ok, ev_bind, ev_if, ev_call, es_nx, es_rt, es_seq, es_then, es_if, List.getElem?_cons_succ, List.getElem?_cons_zero, List.set_cons_succ, List.set_cons_zero, List.length_cons, List.length_nil, List.map_cons, List.map_nil, List.replicate, List.cons_append, List.nil_append, Option.bind_some, Option.map_some, Bool.not_true, Bool.not_false, Bool.false_eq_true, if_true, if_false, decide_true, decide_false, true_and, and_true, Nat.zero_add, Nat.add_zero, Nat.reduceAdd, Nat.reduceSub, reduceIte, Nat.sub_self, Nat.succ_sub_succ_eq_sub, Nat.add_one_sub_one, tyA_str]
      refine lc_map (G := fun z => A.str (S (sgL z))) (by omega) (by omega) (fun z hz => ?_) ?_
      · simp only [seqD, ifD, retD, retND, dropD, setD, nextD, varD, conD, bin2, un1, testD, boolR, notT, andT, orT, ifE, andV, orV, notV, tupD, lstD, cbD, nilD, consD, asgD, parD, nameG, tupG, consG, nilG, setItD, augD, augItD, methD, forD, whileD, lcD, lc2D, sliceD, someD, noneD, chain3, truD, truR, orTD, andTD, notTD, joinedD, glueD, lstRg, rg1, rg2, itRg1, itRg2, itSeq, itEn, dnewKD, newK, newL, maxKD, yesT, wipeA, cmpI, add_I, sub_I, negA, ok_bind, sizeLine_eq, Nat.reduceLeDiff, eq_I, isi_tup, isi_str, isi_int, isi_boo, len_tup, qlt, qle, qgt, qge, rg_if, ev_ok, ev_bind, ev_if, ev_call, es_nx, es_rt, es_seq, es_then, es_if, List.getElem?_cons_succ, List.getElem?_cons_zero, List.set_cons_succ, List.set_cons_zero, List.length_cons, List.length_nil, List.map_cons, List.map_nil, List.replicate, List.cons_append, List.nil_append, Option.bind_some, Option.map_some, Bool.not_true, Bool.not_false, Bool.false_eq_true, if_true, if_false, decide_true, decide_false, true_and, and_true, Nat.zero_add, Nat.add_zero, Nat.reduceAdd, Nat.reduceSub, reduceIte, Nat.sub_self, Nat.succ_sub_succ_eq_sub, Nat.add_one_sub_one]
        exact str_Z (gz z hz).log
      · have e : (zs.map fun z => A.str (S (sgL z))) = (zs.map sgL).map fun y => A.str (S y) := by rw [List.map_map]; rfl
        have hb : ((zs.map sgL).map (·.length)).sum ≤ 60 * 61 := by
          refine Nat.le_trans (sum_le _ 61 fun y hy => ?_) (by rw [List.length_map]; exact Nat.mul_le_mul_right _ (by omega))
          obtain ⟨z, hz, rfl⟩ := List.mem_map.mp hy
          exact sg_len (gz z hz)
        rw [c_co, e, join_ref get_app (by rw [List.length_map, List.length_singleton]; omega), ev_ok]
        exact ⟨rfl, Gm.refl.app⟩
    · rintro s h2 ⟨rfl, g2⟩
      simp only [seqD, ifD, retD, retND, dropD, setD, nextD, varD, conD, bin2, un1, testD, boolR, notT, andT, orT, ifE, andV, orV, notV, tupD, lstD, cbD, nilD, consD, asgD, parD, nameG, tupG, consG, nilG, setItD, augD, augItD, methD, forD, whileD, lcD, lc2D, sliceD, someD, noneD, chain3, truD, truR, orTD, andTD, notTD, joinedD, glueD, lstRg, rg1, rg2, itRg1, itRg2, itSeq, itEn, dnewKD, newK, newL, maxKD, yesT, wipeA, cmpI, add_I, sub_I, negA, ok_bind, sizeLine_eq, Nat.reduceLeDiff, eq_I, isi_tup, isi_str, isi_int, isi_boo, len_tup, qlt, qle, qgt, qge, rg_if, ev_ok, ev_bind, ev_if, ev_call, es_nx, es_rt, es_seq, es_then, es_if, List.getElem?_cons_succ, List.getElem?_cons_zero, List.set_cons_succ, List.set_cons_zero, List.length_cons, List.length_nil, List.map_cons, List.map_nil, List.replicate, List.cons_append, List.nil_append, Option.bind_some, Option.map_some, Bool.not_true, Bool.not_false, Bool.false_eq_true, if_true, if_false, decide_true, decide_false, true_and, and_true, Nat.zero_add, Nat.add_zero, Nat.reduceAdd, Nat.reduceSub, reduceIte, Nat.sub_self, Nat.succ_sub_succ_eq_sub, Nat.add_one_sub_one]
      refine (write_row_ok hn hz1 (by omega) gz).mono fun a h3 q => ?_
      obtain ⟨rfl, g3⟩ := q
      simp only [eq_S (sm_row zs) (sm_row zs), seqD, ifD, retD, retND, dropD, setD, nextD, varD, conD, bin2, un1, testD, boolR, notT, andT, orT, ifE, andV, orV, notV, tupD, lstD, cbD, nilD, consD, asgD, parD, nameG, tupG, consG, nilG, setItD, augD, augItD, methD, forD, whileD, lcD, lc2D, sliceD, someD, noneD, chain3, truD, truR, orTD, andTD, notTD, joinedD, glueD, lstRg, rg1, rg2, itRg1, itRg2, itSeq, itEn, dnewKD, newK, newL, maxKD, yesT, wipeA, cmpI, add_I, sub_I, negA, ok_bind, sizeLine_eq, Nat.reduceLeDiff, eq_I, isi_tup, isi_str, isi_int, isi_boo, len_tup, qlt, qle, qgt, qge, rg_if, ev_ok, ev_bind, ev_if, ev_call, es_nx, es_rt, es_seq, es_then, es_if, List.getElem?_cons_succ, List.getElem?_cons_zero, List.set_cons_succ, List.set_cons_zero, List.length_cons, List.length_nil, List.map_cons, List.map_nil, List.replicate, List.cons_append, List.nil_append, Option.bind_some, Option.map_some, Bool.not_true, Bool.not_false, Bool.false_eq_true, if_true, if_false, decide_true, decide_false, true_and, and_true, Nat.zero_add, Nat.add_zero, Nat.reduceAdd, Nat.reduceSub, reduceIte, Nat.sub_self, Nat.succ_sub_succ_eq_sub, Nat.add_one_sub_one]
      refine (read_row_ok hn hz1 (by omega) gz (row_len hz2 gz)).mono fun a h4 q => ?_
      obtain ⟨rfl, g4⟩ := q
      simp only [eq_tupI, seqD, ifD, retD, retND, dropD, setD, nextD, varD, conD, bin2, un1, testD, boolR, notT, andT, orT, ifE, andV, orV, notV, tupD, lstD, cbD, nilD, consD, asgD, parD, nameG, tupG, consG, nilG, setItD, augD, augItD, methD, forD, whileD, lcD, lc2D, sliceD, someD, noneD, chain3, truD, truR, orTD, andTD, notTD, joinedD, glueD, lstRg, rg1, rg2, itRg1, itRg2, itSeq, itEn, dnewKD, newK, newL, maxKD, yesT, wipeA, cmpI, add_I, sub_I, negA, ok_bind, sizeLine_eq, Nat.reduceLeDiff, eq_I, isi_tup, isi_str, isi_int, isi_boo, len_tup, qlt, qle, qgt, qge, rg_if, ev_ok, ev_bind, ev_if, ev_call, es_nx, es_rt, es_seq, es_then, es_if, List.getElem?_cons_succ, List.getElem?_cons_zero, List.set_cons_succ, List.set_cons_zero, List.length_cons, List.length_nil, List.map_cons, List.map_nil, List.replicate, List.cons_append, List.nil_append, Option.bind_some, Option.map_some, Bool.not_true, Bool.not_false, Bool.false_eq_true, if_true, if_false, decide_true, decide_false, true_and, and_true, Nat.zero_add, Nat.add_zero, Nat.reduceAdd, Nat.reduceSub, reduceIte, Nat.sub_self, Nat.succ_sub_succ_eq_sub, Nat.add_one_sub_one]
      have G := g2.trans (g3.trans g4)
      exact ⟨B'.keep G, g'.trans G.weak⟩
end Dn

set_option maxHeartbeats 4000000
namespace Dn
open PySem
open TL (numL joinL)
/-! ### terms -/
structure Tm where
  neg : Bool
  bare : Bool
  m : Nat
  i : Nat
def Tm.ok (t : Tm) : Prop := (t.bare = true → t.m = 1) ∧ t.m < 1000000000000000000000000000000000000000000000000000000000000 ∧ t.i < 60
def Tm.body (t : Tm) : List Nat := (if t.bare then [] else numL t.m) ++ 91 :: (numL t.i ++ [93])
def Tm.lead1 (t : Tm) : List Nat := if t.neg then [45] else []
def Tm.lead2 (t : Tm) : List Nat := if t.neg then [32, 45, 32] else [32, 43, 32]
def Tm.val (t : Tm) : Int := if t.neg then -(t.m : Int) else t.m
def addT (acc : List Nat) (t : Tm) : List Nat := acc ++ (if acc = [] then t.lead1 else t.lead2) ++ t.body
def termsL (ts : List Tm) : List Nat := ts.foldl addT []
def textL (ts : List Tm) : List Nat := if ts = [] then [48] else termsL ts
def restL (ts : List Tm) : List Nat := ts.flatMap fun t => t.lead2 ++ t.body
theorem fig60 {m : Nat} (h : m < 1000000000000000000000000000000000000000000000000000000000000) : (numL m).length ≤ 60 := TL.numL_len (by decide) (Nat.lt_of_lt_of_le h (by decide +kernel))
theorem fig2 {m : Nat} (h : m < 60) : (numL m).length ≤ 2 := TL.numL_len (by decide) (by omega)
theorem body_ne (t : Tm) : t.body ≠ [] := by unfold Tm.body; simp
theorem body_len {t : Tm} (h : t.ok) : t.body.length ≤ 64 := by
  obtain ⟨_, h2, h3⟩ := h
  have := fig60 h2
  have := fig2 h3
  unfold Tm.body
  rw [List.length_append, List.length_cons, List.length_append, List.length_singleton]
  split
  · rw [List.length_nil]; omega
  · omega
theorem lead2_len (t : Tm) : t.lead2.length = 3 := by unfold Tm.lead2; split <;> rfl
theorem fold_addT (ts : List Tm) : ∀ acc : List Nat, acc ≠ [] → ts.foldl addT acc = acc ++ restL ts := by
  induction ts with
  | nil => intro acc _; simp [restL]
  | cons t ts ih =>
    intro acc h
    have e : addT acc t = acc ++ (t.lead2 ++ t.body) := by unfold addT; rw [if_neg h, List.append_assoc]
    rw [List.foldl_cons, ih _ (by rw [e]; simp [h]), e]
    unfold restL
    rw [List.flatMap_cons, List.append_assoc]
theorem termsL_cons (t : Tm) (ts : List Tm) : termsL (t :: ts) = t.lead1 ++ (t.body ++ restL ts) := by
  have e : addT [] t = t.lead1 ++ t.body := by unfold addT; simp
  unfold termsL
  rw [List.foldl_cons, fold_addT ts _ (by rw [e]; simp [body_ne]), e, List.append_assoc]
theorem termsL_snoc (ts : List Tm) (t : Tm) : termsL (ts ++ [t]) = addT (termsL ts) t := by
  unfold termsL
  rw [List.foldl_append]
  rfl
theorem termsL_ne {ts : List Tm} (h : ts ≠ []) : termsL ts ≠ [] := by
  cases ts with
  | nil => exact absurd rfl h
  | cons t ts => rw [termsL_cons]; simp [body_ne]
theorem termsL_nil : termsL [] = [] := rfl
theorem termsL_len {ts : List Tm} (h : ∀ t ∈ ts, t.ok) : (termsL ts).length ≤ ts.length * 67 := by
  cases ts with
  | nil => simp [termsL]
  | cons t ts =>
    have h1 := body_len (h t List.mem_cons_self)
    have h2 : ∀ l : List Tm, (∀ t ∈ l, t.ok) → (restL l).length ≤ l.length * 67 := by
      intro l
      induction l with
      | nil => intro _; simp [restL]
      | cons t l ih =>
        intro hl
        have e : restL (t :: l) = (t.lead2 ++ t.body) ++ restL l := by unfold restL; rw [List.flatMap_cons]
        rw [e, List.length_append, List.length_append, lead2_len, List.length_cons, Nat.succ_mul]
        have := ih fun t ht => hl t (List.mem_cons_of_mem _ ht)
        have := body_len (hl t List.mem_cons_self)
        omega
    have h3 := h2 ts fun t ht => h t (List.mem_cons_of_mem _ ht)
    have h4 : t.lead1.length ≤ 1 := by unfold Tm.lead1; split <;> simp
    rw [termsL_cons, List.length_append, List.length_append, List.length_cons, Nat.succ_mul]
    omega
theorem sm_body (t : Tm) : sm t.body = true := by
  unfold Tm.body
  rw [sm_app, sm_cons, sm_app, sm_num, m_rb]
  split
  · rfl
  · rw [sm_num]; rfl
theorem sm_lead2 (t : Tm) : sm t.lead2 = true := by unfold Tm.lead2; split <;> rfl
theorem sm_lead1 (t : Tm) : sm t.lead1 = true := by unfold Tm.lead1; split <;> rfl
theorem sm_rest (ts : List Tm) : sm (restL ts) = true := by
  refine sm_mem.mpr fun c hc => ?_
  obtain ⟨t, ht, hc⟩ := List.mem_flatMap.mp hc
  rcases List.mem_append.mp hc with z | z
  · exact sm_mem.mp (sm_lead2 t) c z
  · exact sm_mem.mp (sm_body t) c z
theorem sm_terms (ts : List Tm) : sm (termsL ts) = true := by
  cases ts with
  | nil => rfl
  | cons t ts => rw [termsL_cons, sm_app, sm_app, sm_lead1, sm_body, sm_rest]; rfl
theorem sm_text (ts : List Tm) : sm (textL ts) = true := by
  unfold textL
  split
  · rfl
  · exact sm_terms ts
/-! ### texts put together -/
theorem S_cat (a b : List Nat) : S a ++ S b = S (a ++ b) := SX.S_cat a b
theorem add_S {a b : List Nat} {h : Hs} (hl : a.length + b.length ≤ 16777216) : addA (.str (S a)) (.str (S b)) h = .ok (.str (S (a ++ b))) h := by
  unfold addA
  dsimp only
  rw [if_pos (by rw [S_len, S_len]; exact small_line hl), S_cat]
theorem glue1 {f : DE} {fs : List DE} {out y : List Nat} {n : Nat} {s : Sl} {h : Hs} (e : f n s h = .ok (.str (S y)) h) (hl : out.length + y.length ≤ 16777216) : glueD (f :: fs) (S out) n s h = glueD fs (S (out ++ y)) n s h := by
  unfold glueD
  rw [e, ok_bind]
  dsimp only
  rw [if_pos (by rw [S_cat, S_len, List.length_append]; exact small_line hl), S_cat]
  cases fs <;> rfl
theorem glue0 {out : List Nat} {n : Nat} {s : Sl} {h : Hs} : glueD [] (S out) n s h = .ok (.str (S out)) h := rfl
theorem empty_S : Str.empty = S [] := rfl
theorem fmt_N {m : Nat} {h : Hs} (g : m < 1000000000000000000000000000000000000000000000000000000000000) : fmtA (.int (m : Int)) h = .ok (.str (S (numL m))) h := by
  rw [fmt_Z (z := (m : Int)) (Good.log ⟨by omega, by omega⟩), sg_nat]
theorem str_N {m : Nat} {h : Hs} (g : m < 1000000000000000000000000000000000000000000000000000000000000) : bStr [.int (m : Int)] h = .ok (.str (S (numL m))) h := by
  rw [str_Z (z := (m : Int)) (Good.log ⟨by omega, by omega⟩), sg_nat]
theorem term_text_ok {n m i : Nat} {h : Hs} (hm : m < 1000000000000000000000000000000000000000000000000000000000000) (hi : i < 60) :
    f_term_text n [.int (m : Int), .int (i : Int)] h = .ok (.str (S ((if m = 1 then [] else numL m) ++ 91 :: (numL i ++ [93])))) h := by
  have l1 := fig60 hm
  have l2 := fig2 hi
  have q : Ev NoX (f_term_text n [.int (m : Int), .int (i : Int)] h) (fun a h' => a = .str (S ((if m = 1 then [] else numL m) ++ 91 :: (numL i ++ [93]))) ∧ h' = h) := by
    refine ev_body rfl ?_
    have f1 : ∀ x, (conD (.str x) n [some (A.int (m : Int)), some (A.int (i : Int))] h) = .ok (.str x) h := fun x => rfl
    have f2 : un1 fmtA (varD 1) n [some (A.int (m : Int)), some (A.int (i : Int))] h = .ok (.str (S (numL i))) h := by
      show (R.ok (A.int (i : Int)) h).bind (fun a h1 => fmtA a h1) = _
      rw [ok_bind, fmt_N (by omega)]
    have f3 : un1 fmtA (varD 0) n [some (A.int (m : Int)), some (A.int (i : Int))] h = .ok (.str (S (numL m))) h := by
      show (R.ok (A.int (m : Int)) h).bind (fun a h1 => fmtA a h1) = _
      rw [ok_bind, fmt_N hm]
    unfold d_term_text retD ifE
    rw [es_then, ev_bind]
    have ec : testD (bin2 (eqA false) (varD 0) (conD (A.int 1))) n [some (A.int (m : Int)), some (A.int (i : Int))] h = .ok (decide ((m : Int) = 1)) h := by
      show boolR (R.bind (R.ok (A.int (m : Int)) h) fun a h1 => R.bind (R.ok (A.int 1) h1) fun b h2 => eqA false a b h2) = _
      rw [ok_bind, ok_bind, eq_I]
      rfl
    show Ev _ (testD (bin2 (eqA false) (varD 0) (conD (A.int 1))) n [some (A.int (m : Int)), some (A.int (i : Int))] h) _
    rw [ec, ev_ok]
    by_cases z : m = 1
    · have zi : ((m : Int) = 1) := by omega
      simp only [zi, decide_true, if_true]
      show Ev _ (glueD [conD (.str _), un1 fmtA (varD 1), conD (.str _)] (S []) n [some (A.int (m : Int)), some (A.int (i : Int))] h) _
      rw [glue1 (y := [91]) (by rw [c_lb]; rfl) (by simp), glue1 f2 (by simp; omega), glue1 (y := [93]) (by rw [c_rb]; rfl) (by simp; omega), glue0, ev_ok, if_pos z]
      exact ⟨by simp, rfl⟩
    · have zi : ¬ ((m : Int) = 1) := by omega
      simp only [zi, decide_false, Bool.false_eq_true, if_false]
      show Ev _ (glueD [un1 fmtA (varD 0), conD (.str _), un1 fmtA (varD 1), conD (.str _)] (S []) n [some (A.int (m : Int)), some (A.int (i : Int))] h) _
      rw [glue1 f3 (by simp; omega), glue1 (y := [91]) (by rw [c_lb]; rfl) (by simp; omega), glue1 f2 (by simp; omega), glue1 (y := [93]) (by rw [c_rb]; rfl) (by simp; omega), glue0, ev_ok, if_neg z]
      exact ⟨by simp, rfl⟩
  obtain ⟨a, h', e, rfl, rfl⟩ := q.get
  exact e
end Dn

set_option maxHeartbeats 4000000
namespace Dn
open PySem
open TL (numL joinL)
/-! ### the terms of kinds -/
def tmOf (z : Int) (i : Nat) : Tm := ⟨decide (z < 0), decide (z.natAbs = 1), z.natAbs, i⟩
def kT (zs : List Int) : List Tm := zs.zipIdx.filterMap fun p => if p.1 = 0 then none else some (tmOf p.1 p.2)
theorem kT_snoc (zs : List Int) (z : Int) : kT (zs ++ [z]) = kT zs ++ (if z = 0 then [] else [tmOf z zs.length]) := by
  unfold kT
  rw [List.zipIdx_append, List.filterMap_append]
  congr 1
  by_cases h : z = 0
  · subst h; rfl
  · simp [List.zipIdx, h]
theorem take_snoc {α : Type} {zs : List α} {j : Nat} (hj : j < zs.length) : zs.take (j + 1) = zs.take j ++ [zs[j]] := by
  rw [List.take_add_one, List.getElem?_eq_getElem hj]; rfl
theorem tm_ok {z : Int} {i : Nat} (g : Good z) (hi : i < 60) : (tmOf z i).ok := ⟨fun h => of_decide_eq_true h, g.small, hi⟩
theorem kT_ok {zs : List Int} (g : ∀ z ∈ zs, Good z) (hl : zs.length ≤ 60) : ∀ t ∈ kT zs, t.ok := by
  intro t ht
  obtain ⟨p, hp, e⟩ := List.mem_filterMap.mp ht
  obtain ⟨i, hi⟩ := List.mem_iff_getElem?.mp hp
  rw [List.getElem?_zipIdx] at hi
  obtain ⟨z, hz, rfl⟩ := Option.map_eq_some_iff.mp hi
  by_cases h0 : z = 0
  · simp [h0] at e
  · simp only [h0, if_false, Option.some.injEq] at e
    subst e
    have hb := (List.getElem?_eq_some_iff.mp hz).1
    exact tm_ok (g z (List.mem_of_getElem? hz)) (by omega)
theorem kT_len (zs : List Int) : (kT zs).length ≤ zs.length := by
  unfold kT
  refine Nat.le_trans (List.length_filterMap_le _ _) ?_
  rw [List.length_zipIdx]
  exact Nat.le_refl _
theorem body_tm (z : Int) (i : Nat) : (tmOf z i).body = (if z.natAbs = 1 then [] else numL z.natAbs) ++ 91 :: (numL i ++ [93]) := by
  unfold Tm.body tmOf
  by_cases h : z.natAbs = 1 <;> simp [h]
theorem abs_I {i : Int} {h : Hs} : bAbs [.int i] h = .ok (.int (i.natAbs : Int)) h := by
  show R.ok (A.int (if i < 0 then -i else i)) h = _
  congr 2
  split <;> omega
theorem tru_S {x : List Nat} {h : Hs} (hl : x.length ≤ 16777216) : truA h (.str (S x)) = some (decide (x ≠ [])) := by
  unfold truA
  dsimp only
  rw [if_pos (by rw [S_len]; exact small_line hl), S_len]
  cases x with
  | nil => rfl
  | cons a b =>
    rw [decide_eq_true (by simp : (a :: b) ≠ [])]
    congr 1
theorem kinds_text_ok {n : Nat} {h : Hs} {zs : List Int} (hn : 5000 ≤ n) (hz : zs.length ≤ 60) (g : ∀ z ∈ zs, Good z) : f_kinds_text n [.tup (zs.map A.int)] h = .ok (.str (S (textL (kT zs)))) h := by
  have q : Ev NoX (f_kinds_text n [.tup (zs.map A.int)] h) (fun a h' => a = .str (S (textL (kT zs))) ∧ h' = h) := by
    have hlen : ∀ j, (termsL (kT (zs.take j))).length ≤ 4020 := fun j => by
      have h1 := termsL_len (ts := kT (zs.take j)) (kT_ok (fun z hz => g z (List.mem_of_mem_take hz)) (by rw [List.length_take]; omega))
      have h2 := kT_len (zs.take j)
      rw [List.length_take] at h2
      omega
    refine ev_body rfl ?_
    unfold d_kinds_text
    refine step_seq (fun s h' => s = [some (.tup (zs.map A.int)), some (.str (S [])), none, none, none] ∧ h' = h) ?_ ?_
    · simp only [seqD, ifD, retD, retND, dropD, setD, nextD, varD, conD, bin2, un1, testD, boolR, notT, andT, orT, ifE, andV, orV, notV, tupD, lstD, cbD, nilD, consD, asgD, parD, nameG, tupG, consG, nilG, setItD, augD, augItD, methD, forD, whileD, lcD, lc2D, sliceD, someD, noneD, chain3, truD, truR, orTD, andTD, notTD, joinedD, glueD, lstRg, rg1, rg2, itRg1, itRg2, itSeq, itEn, dnewKD, newK, newL, maxKD, yesT, wipeA, cmpI, add_I, sub_I, negA, ok_bind, sizeLine_eq, Nat.reduceLeDiff, eq_I, isi_tup, isi_str, isi_int, isi_boo, len_tup, qlt, qle, qgt, qge, rg_if, ev_ok, ev_bind, ev_if, ev_call, es_nx, es_rt, es_seq, es_then, es_if, List.getElem?_cons_succ, List.getElem?_cons_zero, List.set_cons_succ, List.set_cons_zero, List.length_cons, List.length_nil, List.map_cons, List.map_nil, List.replicate, List.cons_append, List.nil_append, Option.bind_some, Option.map_some, Bool.not_true, Bool.not_false, Bool.false_eq_true, if_true, if_false, decide_true, decide_false, true_and, and_true, Nat.zero_add, Nat.add_zero, Nat.reduceAdd, Nat.reduceSub, reduceIte, Nat.sub_self, Nat.succ_sub_succ_eq_sub, Nat.add_one_sub_one, c_em, and_self]
    rintro s h' ⟨rfl, rfl⟩
    refine step_seq (fun s h2 => (∃ a b c, s = [some (.tup (zs.map A.int)), some (.str (S (termsL (kT zs)))), a, b, c]) ∧ h2 = h') ?_ ?_
    · simp only [forD, itEn, seqD, ifD, retD, retND, dropD, setD, nextD, varD, conD, bin2, un1, testD, boolR, notT, andT, orT, ifE, andV, orV, notV, tupD, lstD, cbD, nilD, consD, asgD, parD, nameG, tupG, consG, nilG, setItD, augD, augItD, methD, forD, whileD, lcD, lc2D, sliceD, someD, noneD, chain3, truD, truR, orTD, andTD, notTD, joinedD, glueD, lstRg, rg1, rg2, itRg1, itRg2, itSeq, itEn, dnewKD, newK, newL, maxKD, yesT, wipeA, cmpI, add_I, sub_I, negA, ok_bind, sizeLine_eq, Nat.reduceLeDiff, eq_I, isi_tup, isi_str, isi_int, isi_boo, len_tup, qlt, qle, qgt, qge, rg_if, ev_ok, ev_bind, ev_if, ev_call, es_nx, es_rt, es_seq, es_then, es_if, List.getElem?_cons_succ, List.getElem?_cons_zero, List.set_cons_succ, List.set_cons_zero, List.length_cons, List.length_nil, List.map_cons, List.map_nil, List.replicate, List.cons_append, List.nil_append, Option.bind_some, Option.map_some, Bool.not_true, Bool.not_false, Bool.false_eq_true, if_true, if_false, decide_true, decide_false, true_and, and_true, Nat.zero_add, Nat.add_zero, Nat.reduceAdd, Nat.reduceSub, reduceIte, Nat.sub_self, Nat.succ_sub_succ_eq_sub, Nat.add_one_sub_one]
      refine for_ex (by rw [List.length_map]; omega) (fun j s h2 => (∃ a b c, s = [some (.tup (zs.map A.int)), some (.str (S (termsL (kT (zs.take j))))), a, b, c]) ∧ h2 = h') ⟨⟨_, _, _, rfl⟩, rfl⟩ ?_ ?_
      · rintro j s h2 hj ⟨⟨a, b, c, rfl⟩, rfl⟩
        rw [List.length_map] at hj
        have gz := g zs[j] (List.getElem_mem hj)
        have hl := hlen j
        generalize eacc : termsL (kT (zs.take j)) = acc at hl ⊢
        have es : sm acc = true := by rw [← eacc]; exact sm_terms _
        refine ⟨[some (.tup (zs.map A.int)), some (.str (S acc)), some (.int (j : Int)), some (.int zs[j]), c], by simp only [seqD, ifD, retD, retND, dropD, setD, nextD, varD, conD, bin2, un1, testD, boolR, notT, andT, orT, ifE, andV, orV, notV, tupD, lstD, cbD, nilD, consD, asgD, parD, nameG, tupG, consG, nilG, setItD, augD, augItD, methD, forD, whileD, lcD, lc2D, sliceD, someD, noneD, chain3, truD, truR, orTD, andTD, notTD, joinedD, glueD, lstRg, rg1, rg2, itRg1, itRg2, itSeq, itEn, dnewKD, newK, newL, maxKD, yesT, wipeA, cmpI, add_I, sub_I, negA, ok_bind, sizeLine_eq, Nat.reduceLeDiff, eq_I, isi_tup, isi_str, isi_int, isi_boo, len_tup, qlt, qle, qgt, qge, rg_if, ev_ok, ev_bind, ev_if, ev_call, es_nx, es_rt, es_seq, es_then, es_if, List.getElem?_cons_succ, List.getElem?_cons_zero, List.set_cons_succ, List.set_cons_zero, List.length_cons, List.length_nil, List.map_cons, List.map_nil, List.replicate, List.cons_append, List.nil_append, Option.bind_some, Option.map_some, Bool.not_true, Bool.not_false, Bool.false_eq_true, if_true, if_false, decide_true, decide_false, true_and, and_true, Nat.zero_add, Nat.add_zero, Nat.reduceAdd, Nat.reduceSub, reduceIte, Nat.sub_self, Nat.succ_sub_succ_eq_sub, Nat.add_one_sub_one, List.getElem_map], ?_⟩
        have est : kT (zs.take (j + 1)) = kT (zs.take j) ++ (if zs[j] = 0 then [] else [tmOf zs[j] j]) := by
          rw [take_snoc hj, kT_snoc, List.length_take, Nat.min_eq_left (by omega)]
        rw [est]
        by_cases h0 : zs[j] = 0
        · simp only [h0, seqD, ifD, retD, retND, dropD, setD, nextD, varD, conD, bin2, un1, testD, boolR, notT, andT, orT, ifE, andV, orV, notV, tupD, lstD, cbD, nilD, consD, asgD, parD, nameG, tupG, consG, nilG, setItD, augD, augItD, methD, forD, whileD, lcD, lc2D, sliceD, someD, noneD, chain3, truD, truR, orTD, andTD, notTD, joinedD, glueD, lstRg, rg1, rg2, itRg1, itRg2, itSeq, itEn, dnewKD, newK, newL, maxKD, yesT, wipeA, cmpI, add_I, sub_I, negA, ok_bind, sizeLine_eq, Nat.reduceLeDiff, eq_I, isi_tup, isi_str, isi_int, isi_boo, len_tup, qlt, qle, qgt, qge, rg_if, ev_ok, ev_bind, ev_if, ev_call, es_nx, es_rt, es_seq, es_then, es_if, List.getElem?_cons_succ, List.getElem?_cons_zero, List.set_cons_succ, List.set_cons_zero, List.length_cons, List.length_nil, List.map_cons, List.map_nil, List.replicate, List.cons_append, List.nil_append, Option.bind_some, Option.map_some, Bool.not_true, Bool.not_false, Bool.false_eq_true, if_true, if_false, decide_true, decide_false, true_and, and_true, Nat.zero_add, Nat.add_zero, Nat.reduceAdd, Nat.reduceSub, reduceIte, Nat.sub_self, Nat.succ_sub_succ_eq_sub, Nat.add_one_sub_one, List.append_nil]
          exact ⟨_, _, _, by rw [eacc]⟩
        · have hb := body_len (tm_ok (i := j) gz (by omega))
          have eb := body_tm zs[j] j
          have ht : termsL (kT (zs.take j) ++ [tmOf zs[j] j]) = acc ++ (if acc = [] then (tmOf zs[j] j).lead1 else (tmOf zs[j] j).lead2) ++ (tmOf zs[j] j).body := by
            rw [termsL_snoc, eacc]; rfl
          simp only [h0, if_false]
          rw [ht]
          by_cases ha : acc = []
          · subst ha
            by_cases hneg : zs[j] < 0
            · simp only [seqD, ifD, retD, retND, dropD, setD, nextD, varD, conD, bin2, un1, testD, boolR, notT, andT, orT, ifE, andV, orV, notV, tupD, lstD, cbD, nilD, consD, asgD, parD, nameG, tupG, consG, nilG, setItD, augD, augItD, methD, forD, whileD, lcD, lc2D, sliceD, someD, noneD, chain3, truD, truR, orTD, andTD, notTD, joinedD, glueD, lstRg, rg1, rg2, itRg1, itRg2, itSeq, itEn, dnewKD, newK, newL, maxKD, yesT, wipeA, cmpI, add_I, sub_I, negA, ok_bind, sizeLine_eq, Nat.reduceLeDiff, eq_I, isi_tup, isi_str, isi_int, isi_boo, len_tup, qlt, qle, qgt, qge, rg_if, ev_ok, ev_bind, ev_if, ev_call, es_nx, es_rt, es_seq, es_then, es_if, List.getElem?_cons_succ, List.getElem?_cons_zero, List.set_cons_succ, List.set_cons_zero, List.length_cons, List.length_nil, List.map_cons, List.map_nil, List.replicate, List.cons_append, List.nil_append, Option.bind_some, Option.map_some, Bool.not_true, Bool.not_false, Bool.false_eq_true, if_true, if_false, decide_true, decide_false, true_and, and_true, Nat.zero_add, Nat.add_zero, Nat.reduceAdd, Nat.reduceSub, reduceIte, Nat.sub_self, Nat.succ_sub_succ_eq_sub, Nat.add_one_sub_one, h0, c_lp, c_rp, c_sp, c_co, c_lb, c_rb, c_mi, c_pl, c_0, c_un, c_m0, c_em, c_sm, c_ss, c_fi, m_lp, m_rp, m_sp, m_co, m_lb, m_rb, m_mi, m_pl, m_0, m_un, m_m0, m_em, m_sm, m_ss, eq_S, hneg, abs_I, term_text_ok gz.small (show j < 60 by omega)]
              rw [← eb, add_S (by simp), ev_ok, add_S (by simp; omega), ev_ok]
              exact ⟨⟨_, _, _, by unfold Tm.lead1 tmOf; simp [hneg]; exact ⟨rfl, rfl, rfl⟩⟩, rfl⟩
            · simp only [seqD, ifD, retD, retND, dropD, setD, nextD, varD, conD, bin2, un1, testD, boolR, notT, andT, orT, ifE, andV, orV, notV, tupD, lstD, cbD, nilD, consD, asgD, parD, nameG, tupG, consG, nilG, setItD, augD, augItD, methD, forD, whileD, lcD, lc2D, sliceD, someD, noneD, chain3, truD, truR, orTD, andTD, notTD, joinedD, glueD, lstRg, rg1, rg2, itRg1, itRg2, itSeq, itEn, dnewKD, newK, newL, maxKD, yesT, wipeA, cmpI, add_I, sub_I, negA, ok_bind, sizeLine_eq, Nat.reduceLeDiff, eq_I, isi_tup, isi_str, isi_int, isi_boo, len_tup, qlt, qle, qgt, qge, rg_if, ev_ok, ev_bind, ev_if, ev_call, es_nx, es_rt, es_seq, es_then, es_if, List.getElem?_cons_succ, List.getElem?_cons_zero, List.set_cons_succ, List.set_cons_zero, List.length_cons, List.length_nil, List.map_cons, List.map_nil, List.replicate, List.cons_append, List.nil_append, Option.bind_some, Option.map_some, Bool.not_true, Bool.not_false, Bool.false_eq_true, if_true, if_false, decide_true, decide_false, true_and, and_true, Nat.zero_add, Nat.add_zero, Nat.reduceAdd, Nat.reduceSub, reduceIte, Nat.sub_self, Nat.succ_sub_succ_eq_sub, Nat.add_one_sub_one, h0, c_lp, c_rp, c_sp, c_co, c_lb, c_rb, c_mi, c_pl, c_0, c_un, c_m0, c_em, c_sm, c_ss, c_fi, m_lp, m_rp, m_sp, m_co, m_lb, m_rb, m_mi, m_pl, m_0, m_un, m_m0, m_em, m_sm, m_ss, eq_S, hneg, abs_I, term_text_ok gz.small (show j < 60 by omega)]
              rw [← eb, add_S (by simp), ev_ok, add_S (by simp; omega), ev_ok]
              exact ⟨⟨_, _, _, by unfold Tm.lead1 tmOf; simp [hneg]; exact ⟨rfl, rfl, rfl⟩⟩, rfl⟩
          · by_cases hneg : zs[j] < 0
            · simp only [seqD, ifD, retD, retND, dropD, setD, nextD, varD, conD, bin2, un1, testD, boolR, notT, andT, orT, ifE, andV, orV, notV, tupD, lstD, cbD, nilD, consD, asgD, parD, nameG, tupG, consG, nilG, setItD, augD, augItD, methD, forD, whileD, lcD, lc2D, sliceD, someD, noneD, chain3, truD, truR, orTD, andTD, notTD, joinedD, glueD, lstRg, rg1, rg2, itRg1, itRg2, itSeq, itEn, dnewKD, newK, newL, maxKD, yesT, wipeA, cmpI, add_I, sub_I, negA, ok_bind, sizeLine_eq, Nat.reduceLeDiff, eq_I, isi_tup, isi_str, isi_int, isi_boo, len_tup, qlt, qle, qgt, qge, rg_if, ev_ok, ev_bind, ev_if, ev_call, es_nx, es_rt, es_seq, es_then, es_if, List.getElem?_cons_succ, List.getElem?_cons_zero, List.set_cons_succ, List.set_cons_zero, List.length_cons, List.length_nil, List.map_cons, List.map_nil, List.replicate, List.cons_append, List.nil_append, Option.bind_some, Option.map_some, Bool.not_true, Bool.not_false, Bool.false_eq_true, if_true, if_false, decide_true, decide_false, true_and, and_true, Nat.zero_add, Nat.add_zero, Nat.reduceAdd, Nat.reduceSub, reduceIte, Nat.sub_self, Nat.succ_sub_succ_eq_sub, Nat.add_one_sub_one, h0, c_lp, c_rp, c_sp, c_co, c_lb, c_rb, c_mi, c_pl, c_0, c_un, c_m0, c_em, c_sm, c_ss, c_fi, m_lp, m_rp, m_sp, m_co, m_lb, m_rb, m_mi, m_pl, m_0, m_un, m_m0, m_em, m_sm, m_ss, eq_S, es, ha, hneg, abs_I, term_text_ok gz.small (show j < 60 by omega)]
              rw [← eb, add_S (by simp; omega), ev_ok, add_S (by simp; omega), ev_ok]
              exact ⟨⟨_, _, _, by unfold Tm.lead2 tmOf; simp [hneg]; exact ⟨rfl, rfl, rfl⟩⟩, rfl⟩
            · simp only [seqD, ifD, retD, retND, dropD, setD, nextD, varD, conD, bin2, un1, testD, boolR, notT, andT, orT, ifE, andV, orV, notV, tupD, lstD, cbD, nilD, consD, asgD, parD, nameG, tupG, consG, nilG, setItD, augD, augItD, methD, forD, whileD, lcD, lc2D, sliceD, someD, noneD, chain3, truD, truR, orTD, andTD, notTD, joinedD, glueD, lstRg, rg1, rg2, itRg1, itRg2, itSeq, itEn, dnewKD, newK, newL, maxKD, yesT, wipeA, cmpI, add_I, sub_I, negA, ok_bind, sizeLine_eq, Nat.reduceLeDiff, eq_I, isi_tup, isi_str, isi_int, isi_boo, len_tup, qlt, qle, qgt, qge, rg_if, ev_ok, ev_bind, ev_if, ev_call, es_nx, es_rt, es_seq, es_then, es_if, List.getElem?_cons_succ, List.getElem?_cons_zero, List.set_cons_succ, List.set_cons_zero, List.length_cons, List.length_nil, List.map_cons, List.map_nil, List.replicate, List.cons_append, List.nil_append, Option.bind_some, Option.map_some, Bool.not_true, Bool.not_false, Bool.false_eq_true, if_true, if_false, decide_true, decide_false, true_and, and_true, Nat.zero_add, Nat.add_zero, Nat.reduceAdd, Nat.reduceSub, reduceIte, Nat.sub_self, Nat.succ_sub_succ_eq_sub, Nat.add_one_sub_one, h0, c_lp, c_rp, c_sp, c_co, c_lb, c_rb, c_mi, c_pl, c_0, c_un, c_m0, c_em, c_sm, c_ss, c_fi, m_lp, m_rp, m_sp, m_co, m_lb, m_rb, m_mi, m_pl, m_0, m_un, m_m0, m_em, m_sm, m_ss, eq_S, es, ha, hneg, abs_I, term_text_ok gz.small (show j < 60 by omega)]
              rw [← eb, add_S (by simp; omega), ev_ok, add_S (by simp; omega), ev_ok]
              exact ⟨⟨_, _, _, by unfold Tm.lead2 tmOf; simp [hneg]; exact ⟨rfl, rfl, rfl⟩⟩, rfl⟩
      · rintro s h2 ⟨⟨a, b, c, rfl⟩, rfl⟩
        rw [List.length_map, List.take_length]
        exact ⟨⟨_, _, _, rfl⟩, rfl⟩
    · rintro s h2 ⟨⟨a, b, c, rfl⟩, rfl⟩
      have hl := hlen zs.length
      rw [List.take_length] at hl
      simp only [seqD, ifD, retD, retND, dropD, setD, nextD, varD, conD, bin2, un1, testD, boolR, notT, andT, orT, ifE, andV, orV, notV, tupD, lstD, cbD, nilD, consD, asgD, parD, nameG, tupG, consG, nilG, setItD, augD, augItD, methD, forD, whileD, lcD, lc2D, sliceD, someD, noneD, chain3, truD, truR, orTD, andTD, notTD, joinedD, glueD, lstRg, rg1, rg2, itRg1, itRg2, itSeq, itEn, dnewKD, newK, newL, maxKD, yesT, wipeA, cmpI, add_I, sub_I, negA, ok_bind, sizeLine_eq, Nat.reduceLeDiff, eq_I, isi_tup, isi_str, isi_int, isi_boo, len_tup, qlt, qle, qgt, qge, rg_if, ev_ok, ev_bind, ev_if, ev_call, es_nx, es_rt, es_seq, es_then, es_if, List.getElem?_cons_succ, List.getElem?_cons_zero, List.set_cons_succ, List.set_cons_zero, List.length_cons, List.length_nil, List.map_cons, List.map_nil, List.replicate, List.cons_append, List.nil_append, Option.bind_some, Option.map_some, Bool.not_true, Bool.not_false, Bool.false_eq_true, if_true, if_false, decide_true, decide_false, true_and, and_true, Nat.zero_add, Nat.add_zero, Nat.reduceAdd, Nat.reduceSub, reduceIte, Nat.sub_self, Nat.succ_sub_succ_eq_sub, Nat.add_one_sub_one, tru_S (show (termsL (kT zs)).length ≤ 16777216 by omega)]
      unfold textL
      by_cases h0 : kT zs = []
      · simp [h0, termsL_nil, ev_ok, c_0]
      · simp [h0, termsL_ne h0, ev_ok]
  obtain ⟨a, h', e, rfl, rfl⟩ := q.get
  exact e
theorem write_kinds_ok {X : Xn → Hs → Prop} {n : Nat} {h : Hs} {zs : List Int} (hn : 5000 ≤ n) (h1 : 1 ≤ zs.length) (hz : zs.length ≤ 60) (g : ∀ z ∈ zs, Good z) : Ev X (f_write_kinds n [.tup (zs.map A.int)] h) fun a h' => a = .str (S (textL (kT zs))) ∧ Gm none h h' := by
  refine ev_body rfl ?_
  unfold d_write_kinds
  refine step_seq (fun s h' => s = [some (.tup (zs.map A.int))] ∧ Gm none h h') ?_ ?_
  · simp only [seqD, ifD, retD, retND, dropD, setD, nextD, varD, conD, bin2, un1, testD, boolR, notT, andT, orT, ifE, andV, orV, notV, tupD, lstD, cbD, nilD, consD, asgD, parD, nameG, tupG, consG, nilG, setItD, augD, augItD, methD, forD, whileD, lcD, lc2D, sliceD, someD, noneD, chain3, truD, truR, orTD, andTD, notTD, joinedD, glueD, lstRg, rg1, rg2, itRg1, itRg2, itSeq, itEn, dnewKD, newK, newL, maxKD, yesT, wipeA, cmpI, add_I, sub_I, negA, ok_bind, sizeLine_eq, Nat.reduceLeDiff, eq_I, isi_tup, isi_str, isi_int, isi_boo, len_tup, qlt, qle, qgt, qge, rg_if, ev_ok, ev_bind, ev_if, ev_call, es_nx, es_rt, es_seq, es_then, es_if, List.getElem?_cons_succ, List.getElem?_cons_zero, List.set_cons_succ, List.set_cons_zero, List.length_cons, List.length_nil, List.map_cons, List.map_nil, List.replicate, List.cons_append, List.nil_append, Option.bind_some, Option.map_some, Bool.not_true, Bool.not_false, Bool.false_eq_true, if_true, if_false, decide_true, decide_false, true_and, and_true, Nat.zero_add, Nat.add_zero, Nat.reduceAdd, Nat.reduceSub, reduceIte, Nat.sub_self, Nat.succ_sub_succ_eq_sub, Nat.add_one_sub_one]
    refine (are_integers_ok hn h1 hz g).mono fun a h' z => ?_
    obtain ⟨rfl, z⟩ := z
    simp only [seqD, ifD, retD, retND, dropD, setD, nextD, varD, conD, bin2, un1, testD, boolR, notT, andT, orT, ifE, andV, orV, notV, tupD, lstD, cbD, nilD, consD, asgD, parD, nameG, tupG, consG, nilG, setItD, augD, augItD, methD, forD, whileD, lcD, lc2D, sliceD, someD, noneD, chain3, truD, truR, orTD, andTD, notTD, joinedD, glueD, lstRg, rg1, rg2, itRg1, itRg2, itSeq, itEn, dnewKD, newK, newL, maxKD, yesT, wipeA, cmpI, add_I, sub_I, negA, ok_bind, sizeLine_eq, Nat.reduceLeDiff, eq_I, isi_tup, isi_str, isi_int, isi_boo, len_tup, qlt, qle, qgt, qge, rg_if, ev_ok, ev_bind, ev_if, ev_call, es_nx, es_rt, es_seq, es_then, es_if, List.getElem?_cons_succ, List.getElem?_cons_zero, List.set_cons_succ, List.set_cons_zero, List.length_cons, List.length_nil, List.map_cons, List.map_nil, List.replicate, List.cons_append, List.nil_append, Option.bind_some, Option.map_some, Bool.not_true, Bool.not_false, Bool.false_eq_true, if_true, if_false, decide_true, decide_false, true_and, and_true, Nat.zero_add, Nat.add_zero, Nat.reduceAdd, Nat.reduceSub, reduceIte, Nat.sub_self, Nat.succ_sub_succ_eq_sub, Nat.add_one_sub_one]
    exact z
  · rintro s h' ⟨rfl, k⟩
    simp only [seqD, ifD, retD, retND, dropD, setD, nextD, varD, conD, bin2, un1, testD, boolR, notT, andT, orT, ifE, andV, orV, notV, tupD, lstD, cbD, nilD, consD, asgD, parD, nameG, tupG, consG, nilG, setItD, augD, augItD, methD, forD, whileD, lcD, lc2D, sliceD, someD, noneD, chain3, truD, truR, orTD, andTD, notTD, joinedD, glueD, lstRg, rg1, rg2, itRg1, itRg2, itSeq, itEn, dnewKD, newK, newL, maxKD, yesT, wipeA, cmpI, add_I, sub_I, negA, ok_bind, sizeLine_eq, Nat.reduceLeDiff, eq_I, isi_tup, isi_str, isi_int, isi_boo, len_tup, qlt, qle, qgt, qge, rg_if, ev_ok, ev_bind, ev_if, ev_call, es_nx, es_rt, es_seq, es_then, es_if, List.getElem?_cons_succ, List.getElem?_cons_zero, List.set_cons_succ, List.set_cons_zero, List.length_cons, List.length_nil, List.map_cons, List.map_nil, List.replicate, List.cons_append, List.nil_append, Option.bind_some, Option.map_some, Bool.not_true, Bool.not_false, Bool.false_eq_true, if_true, if_false, decide_true, decide_false, true_and, and_true, Nat.zero_add, Nat.add_zero, Nat.reduceAdd, Nat.reduceSub, reduceIte, Nat.sub_self, Nat.succ_sub_succ_eq_sub, Nat.add_one_sub_one, kinds_text_ok hn hz g]
    exact k
end Dn

set_option maxHeartbeats 4000000
namespace Dn
open PySem
open TL (numL joinL)
/-! ### terms read -/
theorem nofig_cons {c : Nat} {r : List Nat} (h : ¬ (48 ≤ c ∧ c ≤ 57)) : NoFig (c :: r) := fun d hd => by
  have e : d = c := (Option.some.inj hd).symm
  rw [e]; exact h
theorem term_at_ok {n : Nat} {h : Hs} {cs rest : List Nat} {i : Nat} {t : Tm} (hn : 5000 ≤ n) (hl : cs.length ≤ 3000) (hs : sm cs = true) (ht : t.ok) (e : cs.drop i = t.body ++ rest) :
    f_term_at n [.str (S cs), .int (i : Int)] h = .ok (.tup [.tup [.int (t.m : Int), .int (t.i : Int)], .int ((i + t.body.length : Nat) : Int)]) h := by
  obtain ⟨t1, t2, t3⟩ := ht
  have hl2 : cs.length ≤ 16777216 := by omega
  have e1 : ∀ k : Nat, ((k : Int) + 1) = ((k + 1 : Nat) : Int) := fun k => by omega
  have l1 := fig60 t2
  have l2 := fig2 t3
  -- behind the number
  have hp : ∀ p, cs.drop p = 91 :: (numL t.i ++ 93 :: rest) → (cs.drop p).take 1 = [91] ∧ cs.drop (p + 1) = numL t.i ++ 93 :: rest ∧ (cs.drop (p + 1 + (numL t.i).length)).take 1 = [93] := fun p q => by
    have q1 : cs.drop (p + 1) = numL t.i ++ 93 :: rest := by rw [← List.drop_drop, q]; rfl
    refine ⟨by rw [q]; rfl, q1, ?_⟩
    rw [← List.drop_drop, q1, List.drop_left]; rfl
  have q : Ev NoX (f_term_at n [.str (S cs), .int (i : Int)] h) (fun a h' => a = .tup [.tup [.int (t.m : Int), .int (t.i : Int)], .int ((i + t.body.length : Nat) : Int)] ∧ h' = h) := by
    refine ev_body rfl ?_
    unfold d_term_at
    refine step_seq (fun s h' => s = [some (.str (S cs)), some (.int (i : Int)), some (.int 1), none] ∧ h' = h) ?_ ?_
    · simp only [seqD, ifD, retD, retND, dropD, setD, nextD, varD, conD, bin2, un1, testD, boolR, notT, andT, orT, ifE, andV, orV, notV, tupD, lstD, cbD, nilD, consD, asgD, parD, nameG, tupG, consG, nilG, setItD, augD, augItD, methD, forD, whileD, lcD, lc2D, sliceD, someD, noneD, chain3, truD, truR, orTD, andTD, notTD, joinedD, glueD, lstRg, rg1, rg2, itRg1, itRg2, itSeq, itEn, dnewKD, newK, newL, maxKD, yesT, wipeA, cmpI, add_I, sub_I, negA, ok_bind, sizeLine_eq, Nat.reduceLeDiff, eq_I, isi_tup, isi_str, isi_int, isi_boo, len_tup, qlt, qle, qgt, qge, rg_if, ev_ok, ev_bind, ev_if, ev_call, es_nx, es_rt, es_seq, es_then, es_if, List.getElem?_cons_succ, List.getElem?_cons_zero, List.set_cons_succ, List.set_cons_zero, List.length_cons, List.length_nil, List.map_cons, List.map_nil, List.replicate, List.cons_append, List.nil_append, Option.bind_some, Option.map_some, Bool.not_true, Bool.not_false, Bool.false_eq_true, if_true, if_false, decide_true, decide_false, true_and, and_true, Nat.zero_add, Nat.add_zero, Nat.reduceAdd, Nat.reduceSub, reduceIte, Nat.sub_self, Nat.succ_sub_succ_eq_sub, Nat.add_one_sub_one, and_self]
    rintro s h' ⟨rfl, rfl⟩
    refine step_seq (fun s h2 => ∃ p : Nat, s = [some (.str (S cs)), some (.int (p : Int)), some (.int (t.m : Int)), none] ∧ h2 = h' ∧ cs.drop p = 91 :: (numL t.i ++ 93 :: rest) ∧ p + (numL t.i).length + 2 = i + t.body.length) ?_ ?_
    · cases hb : t.bare with
      | true =>
        have em := t1 hb
        have eb : t.body = 91 :: (numL t.i ++ [93]) := by unfold Tm.body; rw [hb]; rfl
        have ed : cs.drop i = 91 :: (numL t.i ++ 93 :: rest) := by rw [e, eb]; simp
        have et := (hp i ed).1
        simp only [seqD, ifD, retD, retND, dropD, setD, nextD, varD, conD, bin2, un1, testD, boolR, notT, andT, orT, ifE, andV, orV, notV, tupD, lstD, cbD, nilD, consD, asgD, parD, nameG, tupG, consG, nilG, setItD, augD, augItD, methD, forD, whileD, lcD, lc2D, sliceD, someD, noneD, chain3, truD, truR, orTD, andTD, notTD, joinedD, glueD, lstRg, rg1, rg2, itRg1, itRg2, itSeq, itEn, dnewKD, newK, newL, maxKD, yesT, wipeA, cmpI, add_I, sub_I, negA, ok_bind, sizeLine_eq, Nat.reduceLeDiff, eq_I, isi_tup, isi_str, isi_int, isi_boo, len_tup, qlt, qle, qgt, qge, rg_if, ev_ok, ev_bind, ev_if, ev_call, es_nx, es_rt, es_seq, es_then, es_if, List.getElem?_cons_succ, List.getElem?_cons_zero, List.set_cons_succ, List.set_cons_zero, List.length_cons, List.length_nil, List.map_cons, List.map_nil, List.replicate, List.cons_append, List.nil_append, Option.bind_some, Option.map_some, Bool.not_true, Bool.not_false, Bool.false_eq_true, if_true, if_false, decide_true, decide_false, true_and, and_true, Nat.zero_add, Nat.add_zero, Nat.reduceAdd, Nat.reduceSub, reduceIte, Nat.sub_self, Nat.succ_sub_succ_eq_sub, Nat.add_one_sub_one, addA, e1, sl_S hl2, c_lp, c_rp, c_sp, c_co, c_lb, c_rb, c_mi, c_pl, c_0, c_un, c_m0, c_em, c_sm, c_ss, c_fi, m_lp, m_rp, m_sp, m_co, m_lb, m_rb, m_mi, m_pl, m_0, m_un, m_m0, m_em, m_sm, m_ss, eq_S, sm_cut hs, et]
        refine ⟨i, ?_, ed, ?_⟩
        · rw [em]; rfl
        · rw [eb, List.length_cons, List.length_append, List.length_singleton]; omega
      | false =>
        have eb : t.body = numL t.m ++ 91 :: (numL t.i ++ [93]) := by unfold Tm.body; rw [hb]; rfl
        have ed : cs.drop i = numL t.m ++ 91 :: (numL t.i ++ 93 :: rest) := by rw [e, eb]; simp
        obtain ⟨c, r, ec, c1, c2⟩ := num_cons t.m
        have et : ¬ ((cs.drop i).take 1 = [91]) := head_ne (r := r ++ 91 :: (numL t.i ++ 93 :: rest)) (by rw [ed, ec]; rfl) (by omega)
        simp only [seqD, ifD, retD, retND, dropD, setD, nextD, varD, conD, bin2, un1, testD, boolR, notT, andT, orT, ifE, andV, orV, notV, tupD, lstD, cbD, nilD, consD, asgD, parD, nameG, tupG, consG, nilG, setItD, augD, augItD, methD, forD, whileD, lcD, lc2D, sliceD, someD, noneD, chain3, truD, truR, orTD, andTD, notTD, joinedD, glueD, lstRg, rg1, rg2, itRg1, itRg2, itSeq, itEn, dnewKD, newK, newL, maxKD, yesT, wipeA, cmpI, add_I, sub_I, negA, ok_bind, sizeLine_eq, Nat.reduceLeDiff, eq_I, isi_tup, isi_str, isi_int, isi_boo, len_tup, qlt, qle, qgt, qge, rg_if, ev_ok, ev_bind, ev_if, ev_call, es_nx, es_rt, es_seq, es_then, es_if, List.getElem?_cons_succ, List.getElem?_cons_zero, List.set_cons_succ, List.set_cons_zero, List.length_cons, List.length_nil, List.map_cons, List.map_nil, List.replicate, List.cons_append, List.nil_append, Option.bind_some, Option.map_some, Bool.not_true, Bool.not_false, Bool.false_eq_true, if_true, if_false, decide_true, decide_false, true_and, and_true, Nat.zero_add, Nat.add_zero, Nat.reduceAdd, Nat.reduceSub, reduceIte, Nat.sub_self, Nat.succ_sub_succ_eq_sub, Nat.add_one_sub_one, addA, e1, sl_S hl2, c_lp, c_rp, c_sp, c_co, c_lb, c_rb, c_mi, c_pl, c_0, c_un, c_m0, c_em, c_sm, c_ss, c_fi, m_lp, m_rp, m_sp, m_co, m_lb, m_rb, m_mi, m_pl, m_0, m_un, m_m0, m_em, m_sm, m_ss, eq_S, sm_cut hs, et, plain_at_ok hn hl hs ed l1 (nofig_cons (by omega))]
        refine ⟨i + (numL t.m).length, rfl, by rw [← List.drop_drop, ed, List.drop_left], ?_⟩
        rw [eb, List.length_append, List.length_cons, List.length_append, List.length_singleton]; omega
    · rintro s h2 ⟨p, rfl, rfl, hd, hlen⟩
      obtain ⟨p1, p2, p3⟩ := hp p hd
      refine step_seq (fun s h3 => s = [some (.str (S cs)), some (.int ((p + 1 + (numL t.i).length : Nat) : Int)), some (.int (t.m : Int)), some (.int (t.i : Int))] ∧ h3 = h2) ?_ ?_
      · simp only [seqD, ifD, retD, retND, dropD, setD, nextD, varD, conD, bin2, un1, testD, boolR, notT, andT, orT, ifE, andV, orV, notV, tupD, lstD, cbD, nilD, consD, asgD, parD, nameG, tupG, consG, nilG, setItD, augD, augItD, methD, forD, whileD, lcD, lc2D, sliceD, someD, noneD, chain3, truD, truR, orTD, andTD, notTD, joinedD, glueD, lstRg, rg1, rg2, itRg1, itRg2, itSeq, itEn, dnewKD, newK, newL, maxKD, yesT, wipeA, cmpI, add_I, sub_I, negA, ok_bind, sizeLine_eq, Nat.reduceLeDiff, eq_I, isi_tup, isi_str, isi_int, isi_boo, len_tup, qlt, qle, qgt, qge, rg_if, ev_ok, ev_bind, ev_if, ev_call, es_nx, es_rt, es_seq, es_then, es_if, List.getElem?_cons_succ, List.getElem?_cons_zero, List.set_cons_succ, List.set_cons_zero, List.length_cons, List.length_nil, List.map_cons, List.map_nil, List.replicate, List.cons_append, List.nil_append, Option.bind_some, Option.map_some, Bool.not_true, Bool.not_false, Bool.false_eq_true, if_true, if_false, decide_true, decide_false, true_and, and_true, Nat.zero_add, Nat.add_zero, Nat.reduceAdd, Nat.reduceSub, reduceIte, Nat.sub_self, Nat.succ_sub_succ_eq_sub, Nat.add_one_sub_one, c_lb, require_sign_ok hl hs p1, plain_at_ok hn hl hs p2 (show (numL t.i).length ≤ 60 by omega) (nofig_cons (show ¬ (48 ≤ 93 ∧ 93 ≤ 57) by omega)), and_self]
      · rintro s h3 ⟨rfl, rfl⟩
        simp only [seqD, ifD, retD, retND, dropD, setD, nextD, varD, conD, bin2, un1, testD, boolR, notT, andT, orT, ifE, andV, orV, notV, tupD, lstD, cbD, nilD, consD, asgD, parD, nameG, tupG, consG, nilG, setItD, augD, augItD, methD, forD, whileD, lcD, lc2D, sliceD, someD, noneD, chain3, truD, truR, orTD, andTD, notTD, joinedD, glueD, lstRg, rg1, rg2, itRg1, itRg2, itSeq, itEn, dnewKD, newK, newL, maxKD, yesT, wipeA, cmpI, add_I, sub_I, negA, ok_bind, sizeLine_eq, Nat.reduceLeDiff, eq_I, isi_tup, isi_str, isi_int, isi_boo, len_tup, qlt, qle, qgt, qge, rg_if, ev_ok, ev_bind, ev_if, ev_call, es_nx, es_rt, es_seq, es_then, es_if, List.getElem?_cons_succ, List.getElem?_cons_zero, List.set_cons_succ, List.set_cons_zero, List.length_cons, List.length_nil, List.map_cons, List.map_nil, List.replicate, List.cons_append, List.nil_append, Option.bind_some, Option.map_some, Bool.not_true, Bool.not_false, Bool.false_eq_true, if_true, if_false, decide_true, decide_false, true_and, and_true, Nat.zero_add, Nat.add_zero, Nat.reduceAdd, Nat.reduceSub, reduceIte, Nat.sub_self, Nat.succ_sub_succ_eq_sub, Nat.add_one_sub_one, c_rb, require_sign_ok hl hs p3]
        rw [show p + 1 + (numL t.i).length + 1 = i + t.body.length by omega]
  obtain ⟨a, h', e, rfl, rfl⟩ := q.get
  exact e
def Tm.pr (t : Tm) : A := .tup [.int t.val, .int (t.i : Int)]
theorem mulsg {s : Int} {m : Nat} {h : Hs} (hs : s = 1 ∨ s = -1) (hm : m < 1000000000000000000000000000000000000000000000000000000000000) : mulA (.int s) (.int (m : Int)) h = .ok (.int (s * m)) h := by
  refine mul_I ?_
  have q : (m : Int).natAbs.log2 < 1920 := Good.log (z := (m : Int)) ⟨by omega, by omega⟩
  have q2 : s.natAbs.log2 = 0 := by
    rcases hs with rfl | rfl <;> rfl
  omega
theorem in_pm {c : Nat} {h : Hs} (hc : c = 43 ∨ c = 45) : inA true (.str (S [c])) (.tup [.str (S [43]), .str (S [45])]) h = .ok (.bl false) h := by
  unfold inA inSeq
  rw [if_neg (by simp [isDict])]
  rcases hc with rfl | rfl <;> rfl
theorem terms_at_ok {X : Xn → Hs → Prop} {n : Nat} {h : Hs} {ts : List Tm} (hn : 5000 ≤ n) (h1 : ts ≠ []) (hts : ∀ t ∈ ts, t.ok) (hneg : ∀ t r, ts = t :: r → t.neg = true → t.bare = true ∨ t.m ≠ 0) (hl : (termsL ts).length ≤ 3000) (hcnt : ts.length ≤ 3000) :
    Ev X (f_terms_at n [.str (S (termsL ts))] h) fun a h' => a = .ref h.length ∧ Gm none h h' ∧ h'[h.length]? = some (.lst (ts.map Tm.pr)) := by
  obtain ⟨t0, tr, rfl⟩ : ∃ t0 tr, ts = t0 :: tr := by
    cases ts with
    | nil => exact absurd rfl h1
    | cons a b => exact ⟨a, b, rfl⟩
  have hs := sm_terms (t0 :: tr)
  have ecs := termsL_cons t0 tr
  have hneg0 := hneg t0 tr rfl
  have h0 := hts t0 List.mem_cons_self
  generalize termsL (t0 :: tr) = cs at *
  have hl2 : cs.length ≤ 16777216 := by omega
  have e1 : ∀ k : Nat, ((k : Int) + 1) = ((k + 1 : Nat) : Int) := fun k => by omega
  obtain ⟨c0, r0, eb0, hc0⟩ : ∃ c r, t0.body = c :: r ∧ (c = 91 ∨ (48 ≤ c ∧ c ≤ 57)) := by
    unfold Tm.body
    cases t0.bare with
    | true => exact ⟨91, _, rfl, .inl rfl⟩
    | false =>
      obtain ⟨c, r, ec, c1, c2⟩ := num_cons t0.m
      exact ⟨c, r ++ 91 :: (numL t0.i ++ [93]), by rw [ec]; rfl, .inr ⟨c1, c2⟩⟩
  have s0 : ∃ (i0 : Nat) (sg : Int), i0 = t0.lead1.length ∧ (sg = 1 ∨ sg = -1) ∧ sg * t0.m = t0.val ∧ sg = (if t0.neg then -1 else 1) := by
    refine ⟨_, if t0.neg then -1 else 1, rfl, ?_, ?_, rfl⟩
    · cases t0.neg <;> simp
    · unfold Tm.val; cases t0.neg <;> simp
  obtain ⟨i0, sg, hi0, hsg, hval, hsge⟩ := s0
  have ed0 : cs.drop i0 = t0.body ++ restL tr := by rw [ecs, hi0, List.drop_left]
  have tsl : (1 : Int) = ((1 : Nat) : Int) := rfl
  have tsl2 : (2 : Int) = ((2 : Nat) : Int) := rfl
  have em1 : mulA (.int sg) (.int (t0.m : Int)) = fun h => .ok (.int t0.val) h := by
    funext h; rw [mulsg hsg h0.2.1, hval]
  refine ev_body rfl ?_
  unfold d_terms_at
  refine step_seq (fun s h' => s = [some (.str (S cs)), some (.int sg), some (.int (i0 : Int)), none, none, none] ∧ h' = h) ?_ ?_
  · cases hb : t0.neg with
    | true =>
      have e45 : cs.take 1 = [45] := by rw [ecs]; unfold Tm.lead1; rw [hb]; rfl
      have q := sl_to (cs := cs) (k := 1) (h := h) hl2
      have z : i0 = 1 := by rw [hi0]; unfold Tm.lead1; rw [hb]; rfl
      subst z
      rw [hb] at hsge
      subst hsge
      simp only [seqD, ifD, retD, retND, dropD, setD, nextD, varD, conD, bin2, un1, testD, boolR, notT, andT, orT, ifE, andV, orV, notV, tupD, lstD, cbD, nilD, consD, asgD, parD, nameG, tupG, consG, nilG, setItD, augD, augItD, methD, forD, whileD, lcD, lc2D, sliceD, someD, noneD, chain3, truD, truR, orTD, andTD, notTD, joinedD, glueD, lstRg, rg1, rg2, itRg1, itRg2, itSeq, itEn, dnewKD, newK, newL, maxKD, yesT, wipeA, cmpI, add_I, sub_I, negA, ok_bind, sizeLine_eq, Nat.reduceLeDiff, eq_I, isi_tup, isi_str, isi_int, isi_boo, len_tup, qlt, qle, qgt, qge, rg_if, ev_ok, ev_bind, ev_if, ev_call, es_nx, es_rt, es_seq, es_then, es_if, List.getElem?_cons_succ, List.getElem?_cons_zero, List.set_cons_succ, List.set_cons_zero, List.length_cons, List.length_nil, List.map_cons, List.map_nil, List.replicate, List.cons_append, List.nil_append, Option.bind_some, Option.map_some, Bool.not_true, Bool.not_false, Bool.false_eq_true, if_true, if_false, decide_true, decide_false, true_and, and_true, Nat.zero_add, Nat.add_zero, Nat.reduceAdd, Nat.reduceSub, reduceIte, Nat.sub_self, Nat.succ_sub_succ_eq_sub, Nat.add_one_sub_one, c_lp, c_rp, c_sp, c_co, c_lb, c_rb, c_mi, c_pl, c_0, c_un, c_m0, c_em, c_sm, c_ss, c_fi, m_lp, m_rp, m_sp, m_co, m_lb, m_rb, m_mi, m_pl, m_0, m_un, m_m0, m_em, m_sm, m_ss]
      erw [q]
      simp only [seqD, ifD, retD, retND, dropD, setD, nextD, varD, conD, bin2, un1, testD, boolR, notT, andT, orT, ifE, andV, orV, notV, tupD, lstD, cbD, nilD, consD, asgD, parD, nameG, tupG, consG, nilG, setItD, augD, augItD, methD, forD, whileD, lcD, lc2D, sliceD, someD, noneD, chain3, truD, truR, orTD, andTD, notTD, joinedD, glueD, lstRg, rg1, rg2, itRg1, itRg2, itSeq, itEn, dnewKD, newK, newL, maxKD, yesT, wipeA, cmpI, add_I, sub_I, negA, ok_bind, sizeLine_eq, Nat.reduceLeDiff, eq_I, isi_tup, isi_str, isi_int, isi_boo, len_tup, qlt, qle, qgt, qge, rg_if, ev_ok, ev_bind, ev_if, ev_call, es_nx, es_rt, es_seq, es_then, es_if, List.getElem?_cons_succ, List.getElem?_cons_zero, List.set_cons_succ, List.set_cons_zero, List.length_cons, List.length_nil, List.map_cons, List.map_nil, List.replicate, List.cons_append, List.nil_append, Option.bind_some, Option.map_some, Bool.not_true, Bool.not_false, Bool.false_eq_true, if_true, if_false, decide_true, decide_false, true_and, and_true, Nat.zero_add, Nat.add_zero, Nat.reduceAdd, Nat.reduceSub, reduceIte, Nat.sub_self, Nat.succ_sub_succ_eq_sub, Nat.add_one_sub_one, eq_S, c_lp, c_rp, c_sp, c_co, c_lb, c_rb, c_mi, c_pl, c_0, c_un, c_m0, c_em, c_sm, c_ss, c_fi, m_lp, m_rp, m_sp, m_co, m_lb, m_rb, m_mi, m_pl, m_0, m_un, m_m0, m_em, m_sm, m_ss, e45]
      exact rfl
    | false =>
      have e45 : ¬ (cs.take 1 = [45]) := by
        rw [ecs]; unfold Tm.lead1; rw [hb, eb0]
        simp
        omega
      have q := sl_to (cs := cs) (k := 1) (h := h) hl2
      have z : i0 = 0 := by rw [hi0]; unfold Tm.lead1; rw [hb]; rfl
      subst z
      rw [hb] at hsge
      subst hsge
      simp only [seqD, ifD, retD, retND, dropD, setD, nextD, varD, conD, bin2, un1, testD, boolR, notT, andT, orT, ifE, andV, orV, notV, tupD, lstD, cbD, nilD, consD, asgD, parD, nameG, tupG, consG, nilG, setItD, augD, augItD, methD, forD, whileD, lcD, lc2D, sliceD, someD, noneD, chain3, truD, truR, orTD, andTD, notTD, joinedD, glueD, lstRg, rg1, rg2, itRg1, itRg2, itSeq, itEn, dnewKD, newK, newL, maxKD, yesT, wipeA, cmpI, add_I, sub_I, negA, ok_bind, sizeLine_eq, Nat.reduceLeDiff, eq_I, isi_tup, isi_str, isi_int, isi_boo, len_tup, qlt, qle, qgt, qge, rg_if, ev_ok, ev_bind, ev_if, ev_call, es_nx, es_rt, es_seq, es_then, es_if, List.getElem?_cons_succ, List.getElem?_cons_zero, List.set_cons_succ, List.set_cons_zero, List.length_cons, List.length_nil, List.map_cons, List.map_nil, List.replicate, List.cons_append, List.nil_append, Option.bind_some, Option.map_some, Bool.not_true, Bool.not_false, Bool.false_eq_true, if_true, if_false, decide_true, decide_false, true_and, and_true, Nat.zero_add, Nat.add_zero, Nat.reduceAdd, Nat.reduceSub, reduceIte, Nat.sub_self, Nat.succ_sub_succ_eq_sub, Nat.add_one_sub_one, c_lp, c_rp, c_sp, c_co, c_lb, c_rb, c_mi, c_pl, c_0, c_un, c_m0, c_em, c_sm, c_ss, c_fi, m_lp, m_rp, m_sp, m_co, m_lb, m_rb, m_mi, m_pl, m_0, m_un, m_m0, m_em, m_sm, m_ss]
      erw [q]
      simp only [seqD, ifD, retD, retND, dropD, setD, nextD, varD, conD, bin2, un1, testD, boolR, notT, andT, orT, ifE, andV, orV, notV, tupD, lstD, cbD, nilD, consD, asgD, parD, nameG, tupG, consG, nilG, setItD, augD, augItD, methD, forD, whileD, lcD, lc2D, sliceD, someD, noneD, chain3, truD, truR, orTD, andTD, notTD, joinedD, glueD, lstRg, rg1, rg2, itRg1, itRg2, itSeq, itEn, dnewKD, newK, newL, maxKD, yesT, wipeA, cmpI, add_I, sub_I, negA, ok_bind, sizeLine_eq, Nat.reduceLeDiff, eq_I, isi_tup, isi_str, isi_int, isi_boo, len_tup, qlt, qle, qgt, qge, rg_if, ev_ok, ev_bind, ev_if, ev_call, es_nx, es_rt, es_seq, es_then, es_if, List.getElem?_cons_succ, List.getElem?_cons_zero, List.set_cons_succ, List.set_cons_zero, List.length_cons, List.length_nil, List.map_cons, List.map_nil, List.replicate, List.cons_append, List.nil_append, Option.bind_some, Option.map_some, Bool.not_true, Bool.not_false, Bool.false_eq_true, if_true, if_false, decide_true, decide_false, true_and, and_true, Nat.zero_add, Nat.add_zero, Nat.reduceAdd, Nat.reduceSub, reduceIte, Nat.sub_self, Nat.succ_sub_succ_eq_sub, Nat.add_one_sub_one, eq_S, c_lp, c_rp, c_sp, c_co, c_lb, c_rb, c_mi, c_pl, c_0, c_un, c_m0, c_em, c_sm, c_ss, c_fi, m_lp, m_rp, m_sp, m_co, m_lb, m_rb, m_mi, m_pl, m_0, m_un, m_m0, m_em, m_sm, m_ss, sm_take hs, e45]
      exact rfl
  rintro s h' ⟨rfl, rfl⟩
  refine step_seq (fun s h2 => s = [some (.str (S cs)), some (.int sg), some (.int (i0 : Int)), none, none, none] ∧ h2 = h') ?_ ?_
  · have e450 : ¬ (cs.take 2 = [45, 48]) := by
      rw [ecs]
      cases hb : t0.neg with
      | true =>
        unfold Tm.lead1; rw [hb, eb0]
        simp
        rintro rfl
        rcases hneg0 hb with z | z
        · have : t0.body = 91 :: (numL t0.i ++ [93]) := by unfold Tm.body; rw [z]; rfl
          rw [eb0] at this
          injection this with q _
          omega
        · have hbare : t0.bare = false := by
            cases hq : t0.bare with
            | false => rfl
            | true =>
              have : t0.body = 91 :: (numL t0.i ++ [93]) := by unfold Tm.body; rw [hq]; rfl
              rw [eb0] at this
              injection this with q _
              omega
          have : t0.body = numL t0.m ++ 91 :: (numL t0.i ++ [93]) := by unfold Tm.body; rw [hbare]; rfl
          obtain ⟨c, r, ec, c1, _, _⟩ := num_head (m := t0.m) (by omega)
          rw [eb0, ec] at this
          injection this with q _
          omega
      | false =>
        unfold Tm.lead1; rw [hb, eb0]
        simp
        intro z; omega
    have q := sl_to (cs := cs) (k := 2) (h := h') hl2
    simp only [seqD, ifD, retD, retND, dropD, setD, nextD, varD, conD, bin2, un1, testD, boolR, notT, andT, orT, ifE, andV, orV, notV, tupD, lstD, cbD, nilD, consD, asgD, parD, nameG, tupG, consG, nilG, setItD, augD, augItD, methD, forD, whileD, lcD, lc2D, sliceD, someD, noneD, chain3, truD, truR, orTD, andTD, notTD, joinedD, glueD, lstRg, rg1, rg2, itRg1, itRg2, itSeq, itEn, dnewKD, newK, newL, maxKD, yesT, wipeA, cmpI, add_I, sub_I, negA, ok_bind, sizeLine_eq, Nat.reduceLeDiff, eq_I, isi_tup, isi_str, isi_int, isi_boo, len_tup, qlt, qle, qgt, qge, rg_if, ev_ok, ev_bind, ev_if, ev_call, es_nx, es_rt, es_seq, es_then, es_if, List.getElem?_cons_succ, List.getElem?_cons_zero, List.set_cons_succ, List.set_cons_zero, List.length_cons, List.length_nil, List.map_cons, List.map_nil, List.replicate, List.cons_append, List.nil_append, Option.bind_some, Option.map_some, Bool.not_true, Bool.not_false, Bool.false_eq_true, if_true, if_false, decide_true, decide_false, true_and, and_true, Nat.zero_add, Nat.add_zero, Nat.reduceAdd, Nat.reduceSub, reduceIte, Nat.sub_self, Nat.succ_sub_succ_eq_sub, Nat.add_one_sub_one, c_lp, c_rp, c_sp, c_co, c_lb, c_rb, c_mi, c_pl, c_0, c_un, c_m0, c_em, c_sm, c_ss, c_fi, m_lp, m_rp, m_sp, m_co, m_lb, m_rb, m_mi, m_pl, m_0, m_un, m_m0, m_em, m_sm, m_ss]
    erw [q]
    simp only [seqD, ifD, retD, retND, dropD, setD, nextD, varD, conD, bin2, un1, testD, boolR, notT, andT, orT, ifE, andV, orV, notV, tupD, lstD, cbD, nilD, consD, asgD, parD, nameG, tupG, consG, nilG, setItD, augD, augItD, methD, forD, whileD, lcD, lc2D, sliceD, someD, noneD, chain3, truD, truR, orTD, andTD, notTD, joinedD, glueD, lstRg, rg1, rg2, itRg1, itRg2, itSeq, itEn, dnewKD, newK, newL, maxKD, yesT, wipeA, cmpI, add_I, sub_I, negA, ok_bind, sizeLine_eq, Nat.reduceLeDiff, eq_I, isi_tup, isi_str, isi_int, isi_boo, len_tup, qlt, qle, qgt, qge, rg_if, ev_ok, ev_bind, ev_if, ev_call, es_nx, es_rt, es_seq, es_then, es_if, List.getElem?_cons_succ, List.getElem?_cons_zero, List.set_cons_succ, List.set_cons_zero, List.length_cons, List.length_nil, List.map_cons, List.map_nil, List.replicate, List.cons_append, List.nil_append, Option.bind_some, Option.map_some, Bool.not_true, Bool.not_false, Bool.false_eq_true, if_true, if_false, decide_true, decide_false, true_and, and_true, Nat.zero_add, Nat.add_zero, Nat.reduceAdd, Nat.reduceSub, reduceIte, Nat.sub_self, Nat.succ_sub_succ_eq_sub, Nat.add_one_sub_one, eq_S, c_lp, c_rp, c_sp, c_co, c_lb, c_rb, c_mi, c_pl, c_0, c_un, c_m0, c_em, c_sm, c_ss, c_fi, m_lp, m_rp, m_sp, m_co, m_lb, m_rb, m_mi, m_pl, m_0, m_un, m_m0, m_em, m_sm, m_ss, sm_take hs, e450, and_self]
  rintro s h2 ⟨rfl, rfl⟩
  refine step_seq (fun s h3 => s = [some (.str (S cs)), some (.int sg), some (.int ((i0 + t0.body.length : Nat) : Int)), some (.int (t0.m : Int)), some (.int (t0.i : Int)), none] ∧ h3 = h2) ?_ ?_
  · simp only [seqD, ifD, retD, retND, dropD, setD, nextD, varD, conD, bin2, un1, testD, boolR, notT, andT, orT, ifE, andV, orV, notV, tupD, lstD, cbD, nilD, consD, asgD, parD, nameG, tupG, consG, nilG, setItD, augD, augItD, methD, forD, whileD, lcD, lc2D, sliceD, someD, noneD, chain3, truD, truR, orTD, andTD, notTD, joinedD, glueD, lstRg, rg1, rg2, itRg1, itRg2, itSeq, itEn, dnewKD, newK, newL, maxKD, yesT, wipeA, cmpI, add_I, sub_I, negA, ok_bind, sizeLine_eq, Nat.reduceLeDiff, eq_I, isi_tup, isi_str, isi_int, isi_boo, len_tup, qlt, qle, qgt, qge, rg_if, ev_ok, ev_bind, ev_if, ev_call, es_nx, es_rt, es_seq, es_then, es_if, List.getElem?_cons_succ, List.getElem?_cons_zero, List.set_cons_succ, List.set_cons_zero, List.length_cons, List.length_nil, List.map_cons, List.map_nil, List.replicate, List.cons_append, List.nil_append, Option.bind_some, Option.map_some, Bool.not_true, Bool.not_false, Bool.false_eq_true, if_true, if_false, decide_true, decide_false, true_and, and_true, Nat.zero_add, Nat.add_zero, Nat.reduceAdd, Nat.reduceSub, reduceIte, Nat.sub_self, Nat.succ_sub_succ_eq_sub, Nat.add_one_sub_one, term_at_ok hn hl hs h0 ed0, and_self]
  rintro s h3 ⟨rfl, rfl⟩
  refine step_seq (fun s h4 => s = [some (.str (S cs)), some (.int sg), some (.int ((i0 + t0.body.length : Nat) : Int)), some (.int (t0.m : Int)), some (.int (t0.i : Int)), some (.ref h3.length)] ∧ h4 = h3 ++ [.lst [t0.pr]]) ?_ ?_
  · simp only [seqD, ifD, retD, retND, dropD, setD, nextD, varD, conD, bin2, un1, testD, boolR, notT, andT, orT, ifE, andV, orV, notV, tupD, lstD, cbD, nilD, consD, asgD, parD, nameG, tupG, consG, nilG, setItD, augD, augItD, methD, forD, whileD, lcD, lc2D, sliceD, someD, noneD, chain3, truD, truR, orTD, andTD, notTD, joinedD, glueD, lstRg, rg1, rg2, itRg1, itRg2, itSeq, itEn, dnewKD, newK, newL, maxKD, yesT, wipeA, cmpI, add_I, sub_I, negA, ok_bind, sizeLine_eq, Nat.reduceLeDiff, eq_I, isi_tup, isi_str, isi_int, isi_boo, len_tup, qlt, qle, qgt, qge, rg_if, ev_ok, ev_bind, ev_if, ev_call, es_nx, es_rt, es_seq, es_then, es_if, List.getElem?_cons_succ, List.getElem?_cons_zero, List.set_cons_succ, List.set_cons_zero, List.length_cons, List.length_nil, List.map_cons, List.map_nil, List.replicate, List.cons_append, List.nil_append, Option.bind_some, Option.map_some, Bool.not_true, Bool.not_false, Bool.false_eq_true, if_true, if_false, decide_true, decide_false, true_and, and_true, Nat.zero_add, Nat.add_zero, Nat.reduceAdd, Nat.reduceSub, reduceIte, Nat.sub_self, Nat.succ_sub_succ_eq_sub, Nat.add_one_sub_one, em1, and_self]
    exact rfl
  rintro s h4 ⟨rfl, rfl⟩
  refine step_seq (fun s h5 => (∃ a b c d, s = [some (.str (S cs)), a, b, c, d, some (.ref h3.length)]) ∧ Gm none h3 h5 ∧ h5[h3.length]? = some (.lst ((t0 :: tr).map Tm.pr))) ?_ ?_
  · refine while_m (fun k s h5 => ∃ d r a c e i, tr = d ++ r ∧ k = r.length ∧ s = [some (.str (S cs)), a, some (.int ((i : Nat) : Int)), c, e, some (.ref h3.length)] ∧ cs.drop i = restL r ∧ i ≤ cs.length ∧ Gm none h3 h5 ∧ h5[h3.length]? = some (.lst ((t0 :: d).map Tm.pr))) ?_ n tr.length _ _ (by rw [List.length_cons] at hcnt; omega)
      ⟨[], tr, _, _, _, i0 + t0.body.length, rfl, rfl, rfl, by rw [← List.drop_drop, ed0, List.drop_left], by
        have := congrArg List.length ed0
        rw [List.length_drop, List.length_append] at this
        have : 0 < t0.body.length := List.length_pos_iff.mpr (body_ne t0)
        omega, Gm.refl.app, get_app⟩
    rintro k s h5 ⟨d, r, a, c, e, i, rfl, rfl, rfl, ei, hi, gm, gp⟩
    cases r with
    | nil =>
      have hlen : i = cs.length := by
        have := congrArg List.length ei
        rw [List.length_drop] at this
        have t0 : (restL []).length = 0 := rfl
        omega
      subst hlen
      simp only [seqD, ifD, retD, retND, dropD, setD, nextD, varD, conD, bin2, un1, testD, boolR, notT, andT, orT, ifE, andV, orV, notV, tupD, lstD, cbD, nilD, consD, asgD, parD, nameG, tupG, consG, nilG, setItD, augD, augItD, methD, forD, whileD, lcD, lc2D, sliceD, someD, noneD, chain3, truD, truR, orTD, andTD, notTD, joinedD, glueD, lstRg, rg1, rg2, itRg1, itRg2, itSeq, itEn, dnewKD, newK, newL, maxKD, yesT, wipeA, cmpI, add_I, sub_I, negA, ok_bind, sizeLine_eq, Nat.reduceLeDiff, eq_I, isi_tup, isi_str, isi_int, isi_boo, len_tup, qlt, qle, qgt, qge, rg_if, ev_ok, ev_bind, ev_if, ev_call, es_nx, es_rt, es_seq, es_then, es_if, List.getElem?_cons_succ, List.getElem?_cons_zero, List.set_cons_succ, List.set_cons_zero, List.length_cons, List.length_nil, List.map_cons, List.map_nil, List.replicate, List.cons_append, List.nil_append, Option.bind_some, Option.map_some, Bool.not_true, Bool.not_false, Bool.false_eq_true, if_true, if_false, decide_true, decide_false, true_and, and_true, Nat.zero_add, Nat.add_zero, Nat.reduceAdd, Nat.reduceSub, reduceIte, Nat.sub_self, Nat.succ_sub_succ_eq_sub, Nat.add_one_sub_one, len_S hl2, Int.lt_irrefl]
      rw [List.append_nil]
      exact ⟨⟨_, _, _, _, rfl⟩, gm, gp⟩
    | cons t r =>
      have ed : cs.drop i = t.lead2 ++ (t.body ++ restL r) := by rw [ei]; unfold restL; rw [List.flatMap_cons, List.append_assoc]
      have ht := hts t (List.mem_cons_of_mem _ (List.mem_append_right _ List.mem_cons_self))
      obtain ⟨sc, hsc, hscv⟩ : ∃ sc : Nat, t.lead2 = [32, sc, 32] ∧ (sc = 43 ∧ t.neg = false ∨ sc = 45 ∧ t.neg = true) := by
        unfold Tm.lead2
        cases t.neg with
        | true => exact ⟨45, rfl, .inr ⟨rfl, rfl⟩⟩
        | false => exact ⟨43, rfl, .inl ⟨rfl, rfl⟩⟩
      rw [hsc] at ed
      have d0 : (cs.drop i).take 1 = [32] := by rw [ed]; rfl
      have ed1 : cs.drop (i + 1) = sc :: 32 :: (t.body ++ restL r) := by rw [← List.drop_drop, ed]; rfl
      have d1 : (cs.drop (i + 1)).take 1 = [sc] := by rw [ed1]; rfl
      have g1 : cs[i + 1]? = some sc := by rw [← Nat.add_zero (i + 1), ← List.getElem?_drop, ed1]; rfl
      have ed2 : cs.drop (i + 1 + 1) = 32 :: (t.body ++ restL r) := by rw [← List.drop_drop, ed1]; rfl
      have d2 : (cs.drop (i + 1 + 1)).take 1 = [32] := by rw [ed2]; rfl
      have ed3 : cs.drop (i + 1 + 1 + 1) = t.body ++ restL r := by rw [← List.drop_drop, ed2]; rfl
      have hlt : ((i : Nat) : Int) < (cs.length : Int) := by
        have := congrArg List.length ed
        rw [List.length_drop, List.length_append] at this
        simp only [List.length_cons] at this
        omega
      have hdl : ((t0 :: d).map Tm.pr).length < 16777216 := by
        rw [List.length_map, List.length_cons]
        rw [List.length_cons, List.length_append] at hcnt
        omega
      refine Ev.mono (Q := fun t h1 => t = true ∧ h5 = h1) (by simp only [seqD, ifD, retD, retND, dropD, setD, nextD, varD, conD, bin2, un1, testD, boolR, notT, andT, orT, ifE, andV, orV, notV, tupD, lstD, cbD, nilD, consD, asgD, parD, nameG, tupG, consG, nilG, setItD, augD, augItD, methD, forD, whileD, lcD, lc2D, sliceD, someD, noneD, chain3, truD, truR, orTD, andTD, notTD, joinedD, glueD, lstRg, rg1, rg2, itRg1, itRg2, itSeq, itEn, dnewKD, newK, newL, maxKD, yesT, wipeA, cmpI, add_I, sub_I, negA, ok_bind, sizeLine_eq, Nat.reduceLeDiff, eq_I, isi_tup, isi_str, isi_int, isi_boo, len_tup, qlt, qle, qgt, qge, rg_if, ev_ok, ev_bind, ev_if, ev_call, es_nx, es_rt, es_seq, es_then, es_if, List.getElem?_cons_succ, List.getElem?_cons_zero, List.set_cons_succ, List.set_cons_zero, List.length_cons, List.length_nil, List.map_cons, List.map_nil, List.replicate, List.cons_append, List.nil_append, Option.bind_some, Option.map_some, Bool.not_true, Bool.not_false, Bool.false_eq_true, if_true, if_false, decide_true, decide_false, true_and, and_true, Nat.zero_add, Nat.add_zero, Nat.reduceAdd, Nat.reduceSub, reduceIte, Nat.sub_self, Nat.succ_sub_succ_eq_sub, Nat.add_one_sub_one, len_S hl2, hlt, and_self]) ?_
      rintro _ _ ⟨rfl, rfl⟩
      simp only [if_true]
      refine ⟨r.length, by simp, ?_⟩
      refine step_seq (fun s h6 => s = [some (.str (S cs)), a, some (.int ((i + 1 : Nat) : Int)), c, e, some (.ref h3.length)] ∧ h6 = h5) ?_ ?_
      · simp only [seqD, ifD, retD, retND, dropD, setD, nextD, varD, conD, bin2, un1, testD, boolR, notT, andT, orT, ifE, andV, orV, notV, tupD, lstD, cbD, nilD, consD, asgD, parD, nameG, tupG, consG, nilG, setItD, augD, augItD, methD, forD, whileD, lcD, lc2D, sliceD, someD, noneD, chain3, truD, truR, orTD, andTD, notTD, joinedD, glueD, lstRg, rg1, rg2, itRg1, itRg2, itSeq, itEn, dnewKD, newK, newL, maxKD, yesT, wipeA, cmpI, add_I, sub_I, negA, ok_bind, sizeLine_eq, Nat.reduceLeDiff, eq_I, isi_tup, isi_str, isi_int, isi_boo, len_tup, qlt, qle, qgt, qge, rg_if, ev_ok, ev_bind, ev_if, ev_call, es_nx, es_rt, es_seq, es_then, es_if, List.getElem?_cons_succ, List.getElem?_cons_zero, List.set_cons_succ, List.set_cons_zero, List.length_cons, List.length_nil, List.map_cons, List.map_nil, List.replicate, List.cons_append, List.nil_append, Option.bind_some, Option.map_some, Bool.not_true, Bool.not_false, Bool.false_eq_true, if_true, if_false, decide_true, decide_false, true_and, and_true, Nat.zero_add, Nat.add_zero, Nat.reduceAdd, Nat.reduceSub, reduceIte, Nat.sub_self, Nat.succ_sub_succ_eq_sub, Nat.add_one_sub_one, c_sp, require_sign_ok hl hs d0, and_self]
      rintro s h6 ⟨rfl, rfl⟩
      refine step_seq (fun s h7 => s = [some (.str (S cs)), a, some (.int ((i + 1 : Nat) : Int)), c, e, some (.ref h3.length)] ∧ h7 = h6) ?_ ?_
      · simp only [seqD, ifD, retD, retND, dropD, setD, nextD, varD, conD, bin2, un1, testD, boolR, notT, andT, orT, ifE, andV, orV, notV, tupD, lstD, cbD, nilD, consD, asgD, parD, nameG, tupG, consG, nilG, setItD, augD, augItD, methD, forD, whileD, lcD, lc2D, sliceD, someD, noneD, chain3, truD, truR, orTD, andTD, notTD, joinedD, glueD, lstRg, rg1, rg2, itRg1, itRg2, itSeq, itEn, dnewKD, newK, newL, maxKD, yesT, wipeA, cmpI, add_I, sub_I, negA, ok_bind, sizeLine_eq, Nat.reduceLeDiff, eq_I, isi_tup, isi_str, isi_int, isi_boo, len_tup, qlt, qle, qgt, qge, rg_if, ev_ok, ev_bind, ev_if, ev_call, es_nx, es_rt, es_seq, es_then, es_if, List.getElem?_cons_succ, List.getElem?_cons_zero, List.set_cons_succ, List.set_cons_zero, List.length_cons, List.length_nil, List.map_cons, List.map_nil, List.replicate, List.cons_append, List.nil_append, Option.bind_some, Option.map_some, Bool.not_true, Bool.not_false, Bool.false_eq_true, if_true, if_false, decide_true, decide_false, true_and, and_true, Nat.zero_add, Nat.add_zero, Nat.reduceAdd, Nat.reduceSub, reduceIte, Nat.sub_self, Nat.succ_sub_succ_eq_sub, Nat.add_one_sub_one, addA, e1, sl_S hl2, d1, c_lp, c_rp, c_sp, c_co, c_lb, c_rb, c_mi, c_pl, c_0, c_un, c_m0, c_em, c_sm, c_ss, c_fi, m_lp, m_rp, m_sp, m_co, m_lb, m_rb, m_mi, m_pl, m_0, m_un, m_m0, m_em, m_sm, m_ss, in_pm (show sc = 43 ∨ sc = 45 by omega), and_self]
      rintro s h7 ⟨rfl, rfl⟩
      refine step_seq (fun s h8 => ∃ sg : Int, (sg = 1 ∨ sg = -1) ∧ sg * t.m = t.val ∧ s = [some (.str (S cs)), some (.int sg), some (.int ((i + 1 : Nat) : Int)), c, e, some (.ref h3.length)] ∧ h8 = h7) ?_ ?_
      · have msc : sm [sc] = true := by rcases hscv with ⟨rfl, _⟩ | ⟨rfl, _⟩ <;> rfl
        rcases hscv with ⟨rfl, hnv⟩ | ⟨rfl, hnv⟩
        · simp only [seqD, ifD, retD, retND, dropD, setD, nextD, varD, conD, bin2, un1, testD, boolR, notT, andT, orT, ifE, andV, orV, notV, tupD, lstD, cbD, nilD, consD, asgD, parD, nameG, tupG, consG, nilG, setItD, augD, augItD, methD, forD, whileD, lcD, lc2D, sliceD, someD, noneD, chain3, truD, truR, orTD, andTD, notTD, joinedD, glueD, lstRg, rg1, rg2, itRg1, itRg2, itSeq, itEn, dnewKD, newK, newL, maxKD, yesT, wipeA, cmpI, add_I, sub_I, negA, ok_bind, sizeLine_eq, Nat.reduceLeDiff, eq_I, isi_tup, isi_str, isi_int, isi_boo, len_tup, qlt, qle, qgt, qge, rg_if, ev_ok, ev_bind, ev_if, ev_call, es_nx, es_rt, es_seq, es_then, es_if, List.getElem?_cons_succ, List.getElem?_cons_zero, List.set_cons_succ, List.set_cons_zero, List.length_cons, List.length_nil, List.map_cons, List.map_nil, List.replicate, List.cons_append, List.nil_append, Option.bind_some, Option.map_some, Bool.not_true, Bool.not_false, Bool.false_eq_true, if_true, if_false, decide_true, decide_false, true_and, and_true, Nat.zero_add, Nat.add_zero, Nat.reduceAdd, Nat.reduceSub, reduceIte, Nat.sub_self, Nat.succ_sub_succ_eq_sub, Nat.add_one_sub_one, ix_S hl2 g1, c_lp, c_rp, c_sp, c_co, c_lb, c_rb, c_mi, c_pl, c_0, c_un, c_m0, c_em, c_sm, c_ss, c_fi, m_lp, m_rp, m_sp, m_co, m_lb, m_rb, m_mi, m_pl, m_0, m_un, m_m0, m_em, m_sm, m_ss, eq_S, msc]
          exact ⟨1, .inl rfl, by unfold Tm.val; rw [hnv]; simp, rfl⟩
        · have : ¬ ([45] = [43]) := by decide
          simp only [seqD, ifD, retD, retND, dropD, setD, nextD, varD, conD, bin2, un1, testD, boolR, notT, andT, orT, ifE, andV, orV, notV, tupD, lstD, cbD, nilD, consD, asgD, parD, nameG, tupG, consG, nilG, setItD, augD, augItD, methD, forD, whileD, lcD, lc2D, sliceD, someD, noneD, chain3, truD, truR, orTD, andTD, notTD, joinedD, glueD, lstRg, rg1, rg2, itRg1, itRg2, itSeq, itEn, dnewKD, newK, newL, maxKD, yesT, wipeA, cmpI, add_I, sub_I, negA, ok_bind, sizeLine_eq, Nat.reduceLeDiff, eq_I, isi_tup, isi_str, isi_int, isi_boo, len_tup, qlt, qle, qgt, qge, rg_if, ev_ok, ev_bind, ev_if, ev_call, es_nx, es_rt, es_seq, es_then, es_if, List.getElem?_cons_succ, List.getElem?_cons_zero, List.set_cons_succ, List.set_cons_zero, List.length_cons, List.length_nil, List.map_cons, List.map_nil, List.replicate, List.cons_append, List.nil_append, Option.bind_some, Option.map_some, Bool.not_true, Bool.not_false, Bool.false_eq_true, if_true, if_false, decide_true, decide_false, true_and, and_true, Nat.zero_add, Nat.add_zero, Nat.reduceAdd, Nat.reduceSub, reduceIte, Nat.sub_self, Nat.succ_sub_succ_eq_sub, Nat.add_one_sub_one, ix_S hl2 g1, c_lp, c_rp, c_sp, c_co, c_lb, c_rb, c_mi, c_pl, c_0, c_un, c_m0, c_em, c_sm, c_ss, c_fi, m_lp, m_rp, m_sp, m_co, m_lb, m_rb, m_mi, m_pl, m_0, m_un, m_m0, m_em, m_sm, m_ss, eq_S, msc, this]
          exact ⟨-1, .inr rfl, by unfold Tm.val; rw [hnv]; simp, rfl⟩
      rintro s h8 ⟨sg', hsg', hv', rfl, rfl⟩
      refine step_seq (fun s h9 => s = [some (.str (S cs)), some (.int sg'), some (.int ((i + 1 + 1 + 1 + t.body.length : Nat) : Int)), some (.int (t.m : Int)), some (.int (t.i : Int)), some (.ref h3.length)] ∧ h9 = h8) ?_ ?_
      · simp only [seqD, ifD, retD, retND, dropD, setD, nextD, varD, conD, bin2, un1, testD, boolR, notT, andT, orT, ifE, andV, orV, notV, tupD, lstD, cbD, nilD, consD, asgD, parD, nameG, tupG, consG, nilG, setItD, augD, augItD, methD, forD, whileD, lcD, lc2D, sliceD, someD, noneD, chain3, truD, truR, orTD, andTD, notTD, joinedD, glueD, lstRg, rg1, rg2, itRg1, itRg2, itSeq, itEn, dnewKD, newK, newL, maxKD, yesT, wipeA, cmpI, add_I, sub_I, negA, ok_bind, sizeLine_eq, Nat.reduceLeDiff, eq_I, isi_tup, isi_str, isi_int, isi_boo, len_tup, qlt, qle, qgt, qge, rg_if, ev_ok, ev_bind, ev_if, ev_call, es_nx, es_rt, es_seq, es_then, es_if, List.getElem?_cons_succ, List.getElem?_cons_zero, List.set_cons_succ, List.set_cons_zero, List.length_cons, List.length_nil, List.map_cons, List.map_nil, List.replicate, List.cons_append, List.nil_append, Option.bind_some, Option.map_some, Bool.not_true, Bool.not_false, Bool.false_eq_true, if_true, if_false, decide_true, decide_false, true_and, and_true, Nat.zero_add, Nat.add_zero, Nat.reduceAdd, Nat.reduceSub, reduceIte, Nat.sub_self, Nat.succ_sub_succ_eq_sub, Nat.add_one_sub_one, addA, e1, c_sp, require_sign_ok hl hs d2, term_at_ok hn hl hs ht ed3, and_self]
      rintro s h9 ⟨rfl, rfl⟩
      have em2 : mulA (.int sg') (.int (t.m : Int)) = fun h => .ok (.int t.val) h := by
        funext h; rw [mulsg hsg' ht.2.1, hv']
      simp only [seqD, ifD, retD, retND, dropD, setD, nextD, varD, conD, bin2, un1, testD, boolR, notT, andT, orT, ifE, andV, orV, notV, tupD, lstD, cbD, nilD, consD, asgD, parD, nameG, tupG, consG, nilG, setItD, augD, augItD, methD, forD, whileD, lcD, lc2D, sliceD, someD, noneD, chain3, truD, truR, orTD, andTD, notTD, joinedD, glueD, lstRg, rg1, rg2, itRg1, itRg2, itSeq, itEn, dnewKD, newK, newL, maxKD, yesT, wipeA, cmpI, add_I, sub_I, negA, ok_bind, sizeLine_eq, Nat.reduceLeDiff, eq_I, isi_tup, isi_str, isi_int, isi_boo, len_tup, qlt, qle, qgt, qge, rg_if, ev_ok, ev_bind, ev_if, ev_call, es_nx, es_rt, es_seq, es_then, es_if, List.getElem?_cons_succ, List.getElem?_cons_zero, List.set_cons_succ, List.set_cons_zero, List.length_cons, List.length_nil, List.map_cons, List.map_nil, List.replicate, List.cons_append, List.nil_append, Option.bind_some, Option.map_some, Bool.not_true, Bool.not_false, Bool.false_eq_true, if_true, if_false, decide_true, decide_false, true_and, and_true, Nat.zero_add, Nat.add_zero, Nat.reduceAdd, Nat.reduceSub, reduceIte, Nat.sub_self, Nat.succ_sub_succ_eq_sub, Nat.add_one_sub_one, tyA_ref gp, em2, app_ref gp hdl]
      refine ⟨d ++ [t], r, _, _, _, i + 1 + 1 + 1 + t.body.length, by rw [List.append_assoc]; rfl, rfl, rfl, by rw [← List.drop_drop, ed3, List.drop_left], ?_, gm.set (.inl (Nat.le_refl _)), ?_⟩
      · have := congrArg List.length ed3
        rw [List.length_drop, List.length_append] at this
        have : 0 < t.body.length := List.length_pos_iff.mpr (body_ne t)
        omega
      · rw [get_set gp]
        simp [Tm.pr]
  rintro s h5 ⟨⟨a, b, c, d, rfl⟩, gm, gp⟩
  simp only [seqD, ifD, retD, retND, dropD, setD, nextD, varD, conD, bin2, un1, testD, boolR, notT, andT, orT, ifE, andV, orV, notV, tupD, lstD, cbD, nilD, consD, asgD, parD, nameG, tupG, consG, nilG, setItD, augD, augItD, methD, forD, whileD, lcD, lc2D, sliceD, someD, noneD, chain3, truD, truR, orTD, andTD, notTD, joinedD, glueD, lstRg, rg1, rg2, itRg1, itRg2, itSeq, itEn, dnewKD, newK, newL, maxKD, yesT, wipeA, cmpI, add_I, sub_I, negA, ok_bind, sizeLine_eq, Nat.reduceLeDiff, eq_I, isi_tup, isi_str, isi_int, isi_boo, len_tup, qlt, qle, qgt, qge, rg_if, ev_ok, ev_bind, ev_if, ev_call, es_nx, es_rt, es_seq, es_then, es_if, List.getElem?_cons_succ, List.getElem?_cons_zero, List.set_cons_succ, List.set_cons_zero, List.length_cons, List.length_nil, List.map_cons, List.map_nil, List.replicate, List.cons_append, List.nil_append, Option.bind_some, Option.map_some, Bool.not_true, Bool.not_false, Bool.false_eq_true, if_true, if_false, decide_true, decide_false, true_and, and_true, Nat.zero_add, Nat.add_zero, Nat.reduceAdd, Nat.reduceSub, reduceIte, Nat.sub_self, Nat.succ_sub_succ_eq_sub, Nat.add_one_sub_one]
  exact ⟨gm, gp⟩
end Dn

set_option maxHeartbeats 4000000
namespace Dn
open PySem
open TL (numL joinL)
/-! ### kinds read -/
/-- what the pairs add up to -/
def addK (l : List Int) (p : Int × Nat) : List Int := l.set p.2 (l.getD p.2 0 + p.1)
def sumK (len : Nat) (ps : List (Int × Nat)) : List Int := ps.foldl addK (List.replicate len 0)
theorem addK_len (l : List Int) (p : Int × Nat) : (addK l p).length = l.length := List.length_set
theorem foldK_len (ps : List (Int × Nat)) : ∀ l : List Int, (ps.foldl addK l).length = l.length := by
  induction ps with
  | nil => intro l; rfl
  | cons p ps ih => intro l; rw [List.foldl_cons, ih, addK_len]
theorem sumK_len (len : Nat) (ps : List (Int × Nat)) : (sumK len ps).length = len := by unfold sumK; rw [foldK_len, List.length_replicate]
def pairA (p : Int × Nat) : A := .tup [.int p.1, .int (p.2 : Int)]
def Tm.pair (t : Tm) : Int × Nat := (t.val, t.i)
theorem pr_pair (ts : List Tm) : ts.map Tm.pr = (ts.map Tm.pair).map pairA := by rw [List.map_map]; rfl
theorem rep0 {k : Nat} {h : Hs} {p : Nat} (e : h[p]? = some (.lst [.int 0])) (hk : k ≤ 1000) : mulA (.ref p) (.int (k : Int)) h = newL ((List.replicate k (0 : Int)).map A.int) h := by
  have q : lstOf h (.ref p) = some [.int 0] := by unfold lstOf; dsimp only; rw [e]
  unfold mulA
  dsimp only
  rw [q]
  dsimp only
  rw [if_pos (by rw [Int.toNat_natCast]; exact ⟨by omega, by omega, small_line (by simp; omega)⟩), Int.toNat_natCast]
  have e2 : (List.replicate k [A.int 0]).flatten = (List.replicate k (0 : Int)).map A.int := by
    induction k with
    | zero => rfl
    | succ k ih => rw [List.replicate_succ, List.flatten_cons, ih (by omega), List.replicate_succ]; rfl
  rw [e2]
theorem bls_any (k : Nat) {p : Nat} {h : Hs} (e : h[p]? = some (.lst (List.replicate k (A.bl false)))) : bAny [.ref p] h = .ok (.bl false) h := by
  have q0 : blsOf (List.replicate k (A.bl false)) = some (List.replicate k false) := by
    induction k generalizing h with
    | zero => rfl
    | succ k ih => rw [List.replicate_succ, blsOf, ih (h := (List.replicate p (AO.lst [])) ++ [.lst (List.replicate k (A.bl false))]) (by rw [List.getElem?_append_right (by simp)]; simp)]; rfl
  have q : (lsOf h (A.ref p)).bind blsOf = some (List.replicate k false) := by rw [lsOf_ref e]; exact q0
  unfold bAny
  dsimp only
  rw [q]
  dsimp only
  rw [show (List.replicate k false).any id = false by simp]
theorem aug_step {n : Nat} {ps : List (Int × Nat)} {s : Sl} {h : Hs} {p i : Nat} {l : List Int} {v : Int} {T : Tl} (hs3 : s[3]? = some (some (.ref p))) (hs5 : s[5]? = some (some (.int (i : Int)))) (hs4 : s[4]? = some (some (.int v))) (e : h[p]? = some (.lst (l.map A.int))) (hi : i < l.length) (hi2 : i < 1000)
    (q : T.nx s (h.set p (.lst ((addK l (v, i)).map A.int)))) : EvS (augItD (varD 3) (varD 5) (varD 4) n s h) T := by
  unfold augItD varD
  rw [hs3, hs5, hs4]
  dsimp only
  rw [es_then, ev_ok, es_then, ev_ok]
  dsimp only
  rw [e]
  dsimp only
  have hg : (l.map A.int)[i]? = some (.int (l.getD i 0)) := by rw [List.getElem?_map, List.getElem?_eq_getElem hi, List.getD_eq_getElem?_getD, List.getElem?_eq_getElem hi]; rfl
  rw [if_pos (by omega : (0 : Int) ≤ (i : Int) ∧ (i : Int) < 2 ^ 63), Int.toNat_natCast, hg]
  dsimp only
  rw [es_then, ev_ok]
  rw [e]
  dsimp only
  rw [if_pos rfl, es_nx]
  have e2 : (addK l (v, i)).map A.int = (l.map A.int).set i (.int (l.getD i 0 + v)) := by unfold addK; rw [List.map_set]
  rw [← e2]
  exact q
theorem lc_none {X : Xn → Hs → Prop} {n len p : Nat} {ts : List (Int × Nat)} {s : Sl} {h : Hs} {Q : List A → Hs → Prop} (hn : ts.length < n) (hz : ts.length < 16777216) (hp : h[p]? = some (.lst (ts.map pairA))) (hts : ∀ q ∈ ts, q.2 < len) (h1 : s[1]? = some (some (.int (len : Int)))) (hl : s.length = 6)
    (q : Q (List.replicate ts.length (.bl false)) h) : Ev X (lcL (stepL p) (tupG 2 (consG (nameG 4) (consG (nameG 5) nilG))) yesT (bin2 (cmpI qge) (varD 5) (varD 1)) n n 0 [] s h) Q := by
  refine lc_any (m := ts.length) (fun j acc h' => j ≤ ts.length ∧ acc = List.replicate j (.bl false) ∧ h' = h) ?_ ?_ ts.length n 0 [] h (Nat.zero_add _) hn ⟨Nat.zero_le _, rfl, rfl⟩
  · rintro j acc h' hj ⟨_, rfl, rfl⟩
    have hq := hts ts[j] (List.getElem_mem hj)
    refine ⟨pairA ts[j], (s.set 4 (some (.int ts[j].1))).set 5 (some (.int (ts[j].2 : Int))), by unfold stepL; rw [hp]; dsimp only; rw [List.getElem?_map, List.getElem?_eq_getElem hj]; rfl, rfl, ?_⟩
    rw [yesT, ev_ok]
    simp only [if_true]
    have g5 : ((s.set 4 (some (.int ts[j].1))).set 5 (some (.int (ts[j].2 : Int))))[5]? = some (some (.int (ts[j].2 : Int))) := List.getElem?_set_self (by rw [List.length_set]; omega)
    have g1 : ((s.set 4 (some (.int ts[j].1))).set 5 (some (.int (ts[j].2 : Int))))[1]? = some (some (.int (len : Int))) := by rw [List.getElem?_set_ne (by decide), List.getElem?_set_ne (by decide)]; exact h1
    have hd : decide ((len : Int) ≤ (ts[j].2 : Int)) = false := decide_eq_false (by omega)
    simp only [bin2, varD, g5, g1, ok_bind, cmpI, qge, hd, ev_ok]
    exact ⟨lt_line (by rw [List.length_replicate]; omega), hj, by rw [List.replicate_succ'], trivial⟩
  · rintro acc h' ⟨_, rfl, rfl⟩
    exact ⟨by unfold stepL; rw [hp]; dsimp only; rw [List.getElem?_eq_none (by rw [List.length_map]; exact Nat.le_refl _)], q⟩
theorem text_zero (ts : List Tm) : (textL ts = [48]) ↔ ts = [] := by
  refine ⟨fun h => ?_, fun h => by rw [h]; rfl⟩
  cases ts with
  | nil => rfl
  | cons t ts =>
    exfalso
    have e : textL (t :: ts) = termsL (t :: ts) := rfl
    rw [e, termsL_cons] at h
    have : (93 : Nat) ∈ ([48] : List Nat) := by
      rw [← h]
      refine List.mem_append_right _ (List.mem_append_left _ ?_)
      unfold Tm.body
      simp
    simp at this
theorem read_kinds_ok {X : Xn → Hs → Prop} {n len : Nat} {h : Hs} {ts : List Tm} (hn : 5000 ≤ n) (hlen : 1 ≤ len ∧ len ≤ 60) (hts : ∀ t ∈ ts, t.ok ∧ t.i < len) (hneg : ∀ t r, ts = t :: r → t.neg = true → t.bare = true ∨ t.m ≠ 0) (hl : (textL ts).length ≤ 3000) (hcnt : ts.length ≤ 3000)
    (hg : ∀ z ∈ sumK len (ts.map Tm.pair), Good z) :
    Ev X (f_read_kinds n [.str (S (textL ts)), .int (len : Int)] h) fun a h' => a = .tup ((sumK len (ts.map Tm.pair)).map A.int) ∧ Gm none h h' := by
  have hs := sm_text ts
  refine ev_body rfl ?_
  unfold d_read_kinds
  refine step_seq (fun s h' => s = [some (.str (S (textL ts))), some (.int (len : Int)), none, none, none, none] ∧ h' = h) ?_ ?_
  · simp only [seqD, ifD, retD, retND, dropD, setD, nextD, varD, conD, bin2, un1, testD, boolR, notT, andT, orT, ifE, andV, orV, notV, tupD, lstD, cbD, nilD, consD, asgD, parD, nameG, tupG, consG, nilG, setItD, augD, augItD, methD, forD, whileD, lcD, lc2D, sliceD, someD, noneD, chain3, truD, truR, orTD, andTD, notTD, joinedD, glueD, lstRg, rg1, rg2, itRg1, itRg2, itSeq, itEn, dnewKD, newK, newL, maxKD, yesT, wipeA, cmpI, add_I, sub_I, negA, ok_bind, sizeLine_eq, Nat.reduceLeDiff, eq_I, isi_tup, isi_str, isi_int, isi_boo, len_tup, qlt, qle, qgt, qge, rg_if, ev_ok, ev_bind, ev_if, ev_call, es_nx, es_rt, es_seq, es_then, es_if, List.getElem?_cons_succ, List.getElem?_cons_zero, List.set_cons_succ, List.set_cons_zero, List.length_cons, List.length_nil, List.map_cons, List.map_nil, List.replicate, List.cons_append, List.nil_append, Option.bind_some, Option.map_some, Bool.not_true, Bool.not_false, Bool.false_eq_true, if_true, if_false, decide_true, decide_false, true_and, and_true, Nat.zero_add, Nat.add_zero, Nat.reduceAdd, Nat.reduceSub, reduceIte, Nat.sub_self, Nat.succ_sub_succ_eq_sub, Nat.add_one_sub_one, require_text_ok (show (S (textL ts)).length ≤ 3000 by rw [S_len]; exact hl), and_self]
  rintro s h' ⟨rfl, rfl⟩
  refine step_seq (fun s h2 => s = [some (.str (S (textL ts))), some (.int (len : Int)), none, none, none, none] ∧ h2 = h') ?_ ?_
  · simp only [seqD, ifD, retD, retND, dropD, setD, nextD, varD, conD, bin2, un1, testD, boolR, notT, andT, orT, ifE, andV, orV, notV, tupD, lstD, cbD, nilD, consD, asgD, parD, nameG, tupG, consG, nilG, setItD, augD, augItD, methD, forD, whileD, lcD, lc2D, sliceD, someD, noneD, chain3, truD, truR, orTD, andTD, notTD, joinedD, glueD, lstRg, rg1, rg2, itRg1, itRg2, itSeq, itEn, dnewKD, newK, newL, maxKD, yesT, wipeA, cmpI, add_I, sub_I, negA, ok_bind, sizeLine_eq, Nat.reduceLeDiff, eq_I, isi_tup, isi_str, isi_int, isi_boo, len_tup, qlt, qle, qgt, qge, rg_if, ev_ok, ev_bind, ev_if, ev_call, es_nx, es_rt, es_seq, es_then, es_if, List.getElem?_cons_succ, List.getElem?_cons_zero, List.set_cons_succ, List.set_cons_zero, List.length_cons, List.length_nil, List.map_cons, List.map_nil, List.replicate, List.cons_append, List.nil_append, Option.bind_some, Option.map_some, Bool.not_true, Bool.not_false, Bool.false_eq_true, if_true, if_false, decide_true, decide_false, true_and, and_true, Nat.zero_add, Nat.add_zero, Nat.reduceAdd, Nat.reduceSub, reduceIte, Nat.sub_self, Nat.succ_sub_succ_eq_sub, Nat.add_one_sub_one, require_within_ok (show (1 : Int) ≤ (len : Int) by omega) (show (len : Int) ≤ 60 by omega), and_self]
  rintro s h2 ⟨rfl, rfl⟩
  refine step_seq (fun s h3 => s = [some (.str (S (textL ts))), some (.int (len : Int)), some (.ref h2.length), none, none, none] ∧ Gm none h2 h3 ∧ h3[h2.length]? = some (.lst ((ts.map Tm.pair).map pairA))) ?_ ?_
  · by_cases h0 : ts = []
    · have et := (text_zero ts).mpr h0
      simp only [seqD, ifD, retD, retND, dropD, setD, nextD, varD, conD, bin2, un1, testD, boolR, notT, andT, orT, ifE, andV, orV, notV, tupD, lstD, cbD, nilD, consD, asgD, parD, nameG, tupG, consG, nilG, setItD, augD, augItD, methD, forD, whileD, lcD, lc2D, sliceD, someD, noneD, chain3, truD, truR, orTD, andTD, notTD, joinedD, glueD, lstRg, rg1, rg2, itRg1, itRg2, itSeq, itEn, dnewKD, newK, newL, maxKD, yesT, wipeA, cmpI, add_I, sub_I, negA, ok_bind, sizeLine_eq, Nat.reduceLeDiff, eq_I, isi_tup, isi_str, isi_int, isi_boo, len_tup, qlt, qle, qgt, qge, rg_if, ev_ok, ev_bind, ev_if, ev_call, es_nx, es_rt, es_seq, es_then, es_if, List.getElem?_cons_succ, List.getElem?_cons_zero, List.set_cons_succ, List.set_cons_zero, List.length_cons, List.length_nil, List.map_cons, List.map_nil, List.replicate, List.cons_append, List.nil_append, Option.bind_some, Option.map_some, Bool.not_true, Bool.not_false, Bool.false_eq_true, if_true, if_false, decide_true, decide_false, true_and, and_true, Nat.zero_add, Nat.add_zero, Nat.reduceAdd, Nat.reduceSub, reduceIte, Nat.sub_self, Nat.succ_sub_succ_eq_sub, Nat.add_one_sub_one, c_lp, c_rp, c_sp, c_co, c_lb, c_rb, c_mi, c_pl, c_0, c_un, c_m0, c_em, c_sm, c_ss, c_fi, m_lp, m_rp, m_sp, m_co, m_lb, m_rb, m_mi, m_pl, m_0, m_un, m_m0, m_em, m_sm, m_ss, eq_S, hs, et]
      refine ⟨Gm.refl.app, ?_⟩
      rw [get_app, h0]; rfl
    · have et : ¬ (textL ts = [48]) := fun z => h0 ((text_zero ts).mp z)
      have e : textL ts = termsL ts := by unfold textL; rw [if_neg h0]
      simp only [seqD, ifD, retD, retND, dropD, setD, nextD, varD, conD, bin2, un1, testD, boolR, notT, andT, orT, ifE, andV, orV, notV, tupD, lstD, cbD, nilD, consD, asgD, parD, nameG, tupG, consG, nilG, setItD, augD, augItD, methD, forD, whileD, lcD, lc2D, sliceD, someD, noneD, chain3, truD, truR, orTD, andTD, notTD, joinedD, glueD, lstRg, rg1, rg2, itRg1, itRg2, itSeq, itEn, dnewKD, newK, newL, maxKD, yesT, wipeA, cmpI, add_I, sub_I, negA, ok_bind, sizeLine_eq, Nat.reduceLeDiff, eq_I, isi_tup, isi_str, isi_int, isi_boo, len_tup, qlt, qle, qgt, qge, rg_if, ev_ok, ev_bind, ev_if, ev_call, es_nx, es_rt, es_seq, es_then, es_if, List.getElem?_cons_succ, List.getElem?_cons_zero, List.set_cons_succ, List.set_cons_zero, List.length_cons, List.length_nil, List.map_cons, List.map_nil, List.replicate, List.cons_append, List.nil_append, Option.bind_some, Option.map_some, Bool.not_true, Bool.not_false, Bool.false_eq_true, if_true, if_false, decide_true, decide_false, true_and, and_true, Nat.zero_add, Nat.add_zero, Nat.reduceAdd, Nat.reduceSub, reduceIte, Nat.sub_self, Nat.succ_sub_succ_eq_sub, Nat.add_one_sub_one, c_lp, c_rp, c_sp, c_co, c_lb, c_rb, c_mi, c_pl, c_0, c_un, c_m0, c_em, c_sm, c_ss, c_fi, m_lp, m_rp, m_sp, m_co, m_lb, m_rb, m_mi, m_pl, m_0, m_un, m_m0, m_em, m_sm, m_ss, eq_S, hs, et]
      rw [e] at hl ⊢
      refine (terms_at_ok hn h0 (fun t ht => (hts t ht).1) hneg hl hcnt).mono fun a h3 q => ?_
      obtain ⟨rfl, gm, gp⟩ := q
      exact ⟨rfl, gm, by rw [gp, pr_pair]⟩
  rintro s h3 ⟨rfl, gm3, gp3⟩
  have hps : ∀ q ∈ ts.map Tm.pair, q.2 < len := fun q hq => by
    obtain ⟨t, ht, rfl⟩ := List.mem_map.mp hq
    exact (hts t ht).2
  generalize eps : ts.map Tm.pair = ps at *
  have hpl : ps.length ≤ 3000 := by rw [← eps, List.length_map]; exact hcnt
  refine step_seq (fun s h4 => s = [some (.str (S (textL ts))), some (.int (len : Int)), some (.ref h2.length), none, none, none] ∧ Gm none h2 h4 ∧ h4[h2.length]? = some (.lst (ps.map pairA))) ?_ ?_
  · simp only [seqD, ifD, retD, retND, dropD, setD, nextD, varD, conD, bin2, un1, testD, boolR, notT, andT, orT, ifE, andV, orV, notV, tupD, lstD, cbD, nilD, consD, asgD, parD, nameG, tupG, consG, nilG, setItD, augD, augItD, methD, forD, whileD, lcD, lc2D, sliceD, someD, noneD, chain3, truD, truR, orTD, andTD, notTD, joinedD, glueD, lstRg, rg1, rg2, itRg1, itRg2, itSeq, itEn, dnewKD, newK, newL, maxKD, yesT, wipeA, cmpI, add_I, sub_I, negA, ok_bind, sizeLine_eq, Nat.reduceLeDiff, eq_I, isi_tup, isi_str, isi_int, isi_boo, len_tup, qlt, qle, qgt, qge, rg_if, ev_ok, ev_bind, ev_if, ev_call, es_nx, es_rt, es_seq, es_then, es_if, List.getElem?_cons_succ, List.getElem?_cons_zero, List.set_cons_succ, List.set_cons_zero, List.length_cons, List.length_nil, List.map_cons, List.map_nil, List.replicate, List.cons_append, List.nil_append, Option.bind_some, Option.map_some, Bool.not_true, Bool.not_false, Bool.false_eq_true, if_true, if_false, decide_true, decide_false, true_and, and_true, Nat.zero_add, Nat.add_zero, Nat.reduceAdd, Nat.reduceSub, reduceIte, Nat.sub_self, Nat.succ_sub_succ_eq_sub, Nat.add_one_sub_one, gp3]
    refine lc_none (ts := ps) (by omega) (by omega) gp3 hps rfl rfl ?_
    rw [bls_any _ get_app, ev_ok]
    simp only [seqD, ifD, retD, retND, dropD, setD, nextD, varD, conD, bin2, un1, testD, boolR, notT, andT, orT, ifE, andV, orV, notV, tupD, lstD, cbD, nilD, consD, asgD, parD, nameG, tupG, consG, nilG, setItD, augD, augItD, methD, forD, whileD, lcD, lc2D, sliceD, someD, noneD, chain3, truD, truR, orTD, andTD, notTD, joinedD, glueD, lstRg, rg1, rg2, itRg1, itRg2, itSeq, itEn, dnewKD, newK, newL, maxKD, yesT, wipeA, cmpI, add_I, sub_I, negA, ok_bind, sizeLine_eq, Nat.reduceLeDiff, eq_I, isi_tup, isi_str, isi_int, isi_boo, len_tup, qlt, qle, qgt, qge, rg_if, ev_ok, ev_bind, ev_if, ev_call, es_nx, es_rt, es_seq, es_then, es_if, List.getElem?_cons_succ, List.getElem?_cons_zero, List.set_cons_succ, List.set_cons_zero, List.length_cons, List.length_nil, List.map_cons, List.map_nil, List.replicate, List.cons_append, List.nil_append, Option.bind_some, Option.map_some, Bool.not_true, Bool.not_false, Bool.false_eq_true, if_true, if_false, decide_true, decide_false, true_and, and_true, Nat.zero_add, Nat.add_zero, Nat.reduceAdd, Nat.reduceSub, reduceIte, Nat.sub_self, Nat.succ_sub_succ_eq_sub, Nat.add_one_sub_one]
    exact ⟨gm3.app, (Gm.refl (m := none)).app.get gp3⟩
  rintro s h4 ⟨rfl, gm4, gp4⟩
  have hb4 := lt_of_get gp4
  refine step_seq (fun s h5 => ∃ p, s = [some (.str (S (textL ts))), some (.int (len : Int)), some (.ref h2.length), some (.ref p), none, none] ∧ Gm none h2 h5 ∧ h2.length < p ∧ h5[h2.length]? = some (.lst (ps.map pairA)) ∧ h5[p]? = some (.lst ((List.replicate len (0 : Int)).map A.int))) ?_ ?_
  · simp only [seqD, ifD, retD, retND, dropD, setD, nextD, varD, conD, bin2, un1, testD, boolR, notT, andT, orT, ifE, andV, orV, notV, tupD, lstD, cbD, nilD, consD, asgD, parD, nameG, tupG, consG, nilG, setItD, augD, augItD, methD, forD, whileD, lcD, lc2D, sliceD, someD, noneD, chain3, truD, truR, orTD, andTD, notTD, joinedD, glueD, lstRg, rg1, rg2, itRg1, itRg2, itSeq, itEn, dnewKD, newK, newL, maxKD, yesT, wipeA, cmpI, add_I, sub_I, negA, ok_bind, sizeLine_eq, Nat.reduceLeDiff, eq_I, isi_tup, isi_str, isi_int, isi_boo, len_tup, qlt, qle, qgt, qge, rg_if, ev_ok, ev_bind, ev_if, ev_call, es_nx, es_rt, es_seq, es_then, es_if, List.getElem?_cons_succ, List.getElem?_cons_zero, List.set_cons_succ, List.set_cons_zero, List.length_cons, List.length_nil, List.map_cons, List.map_nil, List.replicate, List.cons_append, List.nil_append, Option.bind_some, Option.map_some, Bool.not_true, Bool.not_false, Bool.false_eq_true, if_true, if_false, decide_true, decide_false, true_and, and_true, Nat.zero_add, Nat.add_zero, Nat.reduceAdd, Nat.reduceSub, reduceIte, Nat.sub_self, Nat.succ_sub_succ_eq_sub, Nat.add_one_sub_one]
    rw [rep0 get_app (by omega), newL, ev_ok]
    refine ⟨_, rfl, gm4.app.app, by rw [List.length_append]; omega, ?_, get_app⟩
    exact (Gm.refl (m := none)).app.app.get gp4
  rintro s h5 ⟨p, rfl, gm5, hp, gp5, gf5⟩
  refine step_seq (fun s h6 => (∃ a b, s = [some (.str (S (textL ts))), some (.int (len : Int)), some (.ref h2.length), some (.ref p), a, b]) ∧ Gm none h2 h6 ∧ h6[p]? = some (.lst ((sumK len ps).map A.int))) ?_ ?_
  · simp only [forD, itSeq, seqD, ifD, retD, retND, dropD, setD, nextD, varD, conD, bin2, un1, testD, boolR, notT, andT, orT, ifE, andV, orV, notV, tupD, lstD, cbD, nilD, consD, asgD, parD, nameG, tupG, consG, nilG, setItD, augD, augItD, methD, forD, whileD, lcD, lc2D, sliceD, someD, noneD, chain3, truD, truR, orTD, andTD, notTD, joinedD, glueD, lstRg, rg1, rg2, itRg1, itRg2, itSeq, itEn, dnewKD, newK, newL, maxKD, yesT, wipeA, cmpI, add_I, sub_I, negA, ok_bind, sizeLine_eq, Nat.reduceLeDiff, eq_I, isi_tup, isi_str, isi_int, isi_boo, len_tup, qlt, qle, qgt, qge, rg_if, ev_ok, ev_bind, ev_if, ev_call, es_nx, es_rt, es_seq, es_then, es_if, List.getElem?_cons_succ, List.getElem?_cons_zero, List.set_cons_succ, List.set_cons_zero, List.length_cons, List.length_nil, List.map_cons, List.map_nil, List.replicate, List.cons_append, List.nil_append, Option.bind_some, Option.map_some, Bool.not_true, Bool.not_false, Bool.false_eq_true, if_true, if_false, decide_true, decide_false, true_and, and_true, Nat.zero_add, Nat.add_zero, Nat.reduceAdd, Nat.reduceSub, reduceIte, Nat.sub_self, Nat.succ_sub_succ_eq_sub, Nat.add_one_sub_one, gp5]
    refine for_l (xs := ps.map pairA) (by rw [List.length_map]; omega) (fun j s h6 => (∃ a b, s = [some (.str (S (textL ts))), some (.int (len : Int)), some (.ref h2.length), some (.ref p), a, b]) ∧ Gm none h2 h6 ∧ h6[h2.length]? = some (.lst (ps.map pairA)) ∧ h6[p]? = some (.lst (((ps.take j).foldl addK (List.replicate len 0)).map A.int))) ⟨⟨_, _, rfl⟩, gm5, gp5, gf5⟩ (fun j s h6 z => z.2.2.1) ?_ ?_
    · rintro j s h6 hj ⟨⟨a, b, rfl⟩, gm6, gp6, gf6⟩
      rw [List.length_map] at hj
      have hq := hps ps[j] (List.getElem_mem hj)
      refine ⟨[some (.str (S (textL ts))), some (.int (len : Int)), some (.ref h2.length), some (.ref p), some (.int ps[j].1), some (.int (ps[j].2 : Int))], by rw [List.getElem_map]; rfl, ?_⟩
      refine aug_step (ps := ps) (p := p) (i := ps[j].2) (v := ps[j].1) rfl rfl rfl gf6 (by rw [foldK_len, List.length_replicate]; exact hq) (by omega) ?_
      refine ⟨⟨_, _, rfl⟩, gm6.set (.inl (by omega)), ?_, ?_⟩
      · rw [List.getElem?_set_ne (by omega)]; exact gp6
      · rw [get_set gf6, take_snoc hj, List.foldl_append]
        rfl
    · rintro s h6 ⟨⟨a, b, rfl⟩, gm6, gp6, gf6⟩
      rw [List.length_map, List.take_length] at gf6
      exact ⟨⟨_, _, rfl⟩, gm6, gf6⟩
  rintro s h6 ⟨⟨a, b, rfl⟩, gm6, gf6⟩
  have hsl := sumK_len len ps
  refine step_seq (fun s h7 => (∃ a b, s = [some (.str (S (textL ts))), some (.int (len : Int)), some (.ref h2.length), some (.ref p), a, b]) ∧ Gm none h2 h7 ∧ h7[p]? = some (.lst ((sumK len ps).map A.int))) ?_ ?_
  · simp only [seqD, ifD, retD, retND, dropD, setD, nextD, varD, conD, bin2, un1, testD, boolR, notT, andT, orT, ifE, andV, orV, notV, tupD, lstD, cbD, nilD, consD, asgD, parD, nameG, tupG, consG, nilG, setItD, augD, augItD, methD, forD, whileD, lcD, lc2D, sliceD, someD, noneD, chain3, truD, truR, orTD, andTD, notTD, joinedD, glueD, lstRg, rg1, rg2, itRg1, itRg2, itSeq, itEn, dnewKD, newK, newL, maxKD, yesT, wipeA, cmpI, add_I, sub_I, negA, ok_bind, sizeLine_eq, Nat.reduceLeDiff, eq_I, isi_tup, isi_str, isi_int, isi_boo, len_tup, qlt, qle, qgt, qge, rg_if, ev_ok, ev_bind, ev_if, ev_call, es_nx, es_rt, es_seq, es_then, es_if, List.getElem?_cons_succ, List.getElem?_cons_zero, List.set_cons_succ, List.set_cons_zero, List.length_cons, List.length_nil, List.map_cons, List.map_nil, List.replicate, List.cons_append, List.nil_append, Option.bind_some, Option.map_some, Bool.not_true, Bool.not_false, Bool.false_eq_true, if_true, if_false, decide_true, decide_false, true_and, and_true, Nat.zero_add, Nat.add_zero, Nat.reduceAdd, Nat.reduceSub, reduceIte, Nat.sub_self, Nat.succ_sub_succ_eq_sub, Nat.add_one_sub_one, tuple_ref gf6]
    refine (are_integers_ok hn (by omega) (by omega) hg).mono fun a h7 q => ?_
    obtain ⟨rfl, g7⟩ := q
    simp only [seqD, ifD, retD, retND, dropD, setD, nextD, varD, conD, bin2, un1, testD, boolR, notT, andT, orT, ifE, andV, orV, notV, tupD, lstD, cbD, nilD, consD, asgD, parD, nameG, tupG, consG, nilG, setItD, augD, augItD, methD, forD, whileD, lcD, lc2D, sliceD, someD, noneD, chain3, truD, truR, orTD, andTD, notTD, joinedD, glueD, lstRg, rg1, rg2, itRg1, itRg2, itSeq, itEn, dnewKD, newK, newL, maxKD, yesT, wipeA, cmpI, add_I, sub_I, negA, ok_bind, sizeLine_eq, Nat.reduceLeDiff, eq_I, isi_tup, isi_str, isi_int, isi_boo, len_tup, qlt, qle, qgt, qge, rg_if, ev_ok, ev_bind, ev_if, ev_call, es_nx, es_rt, es_seq, es_then, es_if, List.getElem?_cons_succ, List.getElem?_cons_zero, List.set_cons_succ, List.set_cons_zero, List.length_cons, List.length_nil, List.map_cons, List.map_nil, List.replicate, List.cons_append, List.nil_append, Option.bind_some, Option.map_some, Bool.not_true, Bool.not_false, Bool.false_eq_true, if_true, if_false, decide_true, decide_false, true_and, and_true, Nat.zero_add, Nat.add_zero, Nat.reduceAdd, Nat.reduceSub, reduceIte, Nat.sub_self, Nat.succ_sub_succ_eq_sub, Nat.add_one_sub_one]
    exact ⟨⟨_, _, rfl⟩, gm6.trans g7, g7.get gf6⟩
  rintro s h7 ⟨⟨a, b, rfl⟩, gm7, gf7⟩
  simp only [seqD, ifD, retD, retND, dropD, setD, nextD, varD, conD, bin2, un1, testD, boolR, notT, andT, orT, ifE, andV, orV, notV, tupD, lstD, cbD, nilD, consD, asgD, parD, nameG, tupG, consG, nilG, setItD, augD, augItD, methD, forD, whileD, lcD, lc2D, sliceD, someD, noneD, chain3, truD, truR, orTD, andTD, notTD, joinedD, glueD, lstRg, rg1, rg2, itRg1, itRg2, itSeq, itEn, dnewKD, newK, newL, maxKD, yesT, wipeA, cmpI, add_I, sub_I, negA, ok_bind, sizeLine_eq, Nat.reduceLeDiff, eq_I, isi_tup, isi_str, isi_int, isi_boo, len_tup, qlt, qle, qgt, qge, rg_if, ev_ok, ev_bind, ev_if, ev_call, es_nx, es_rt, es_seq, es_then, es_if, List.getElem?_cons_succ, List.getElem?_cons_zero, List.set_cons_succ, List.set_cons_zero, List.length_cons, List.length_nil, List.map_cons, List.map_nil, List.replicate, List.cons_append, List.nil_append, Option.bind_some, Option.map_some, Bool.not_true, Bool.not_false, Bool.false_eq_true, if_true, if_false, decide_true, decide_false, true_and, and_true, Nat.zero_add, Nat.add_zero, Nat.reduceAdd, Nat.reduceSub, reduceIte, Nat.sub_self, Nat.succ_sub_succ_eq_sub, Nat.add_one_sub_one, tuple_ref gf7]
  exact gm7
end Dn

set_option maxHeartbeats 4000000
namespace Dn
open PySem
open TL (numL joinL)
/-! ### the law's own texts of kinds -/
/-- found + lead + size + '[' + str(index) + ']' -/
theorem glue_term {T : Tl} {n i vf vl vs vi : Nat} {s : Sl} {h : Hs} {acc ld sz : List Nat} (h1 : s[vf]? = some (some (.str (S acc)))) (h2 : s[vl]? = some (some (.str (S ld)))) (h3 : s[vs]? = some (some (.str (S sz)))) (h4 : s[vi]? = some (some (.int (i : Int)))) (hi : i < 60)
    (hl : acc.length ≤ 100000) (hld : ld.length ≤ 3) (hsz : sz.length ≤ 60) (q : T.nx (s.set vf (some (.str (S (acc ++ ld ++ (sz ++ 91 :: (numL i ++ [93]))))))) h) :
    EvS (setD vf (bin2 addA (bin2 addA (bin2 addA (bin2 addA (bin2 addA (varD vf) (varD vl)) (varD vs)) (conD (.str "["))) (cbD bStr (consD (varD vi) nilD))) (conD (.str "]"))) n s h) T := by
  have l2 := fig2 hi
  simp only [setD, bin2, varD, conD, cbD, consD, nilD, h1, h2, h3, h4, es_then, ok_bind, c_lb, c_rb]
  rw [add_S (by omega), ok_bind, add_S (by rw [List.length_append]; omega), ok_bind, add_S (by simp only [List.length_append, List.length_singleton]; omega), ok_bind, str_N (by omega), ok_bind, add_S (by simp only [List.length_append, List.length_singleton]; omega), ok_bind, add_S (by simp only [List.length_append, List.length_singleton]; omega), ev_ok, es_nx]
  have e : acc ++ ld ++ sz ++ [91] ++ numL i ++ [93] = acc ++ ld ++ (sz ++ 91 :: (numL i ++ [93])) := by simp
  rw [e]
  exact q
theorem law_kinds_text_ok {n : Nat} {h : Hs} {zs : List Int} (hn : 5000 ≤ n) (hz : zs.length ≤ 60) (g : ∀ z ∈ zs, Good z) : f__law_kinds_text n [.tup (zs.map A.int)] h = .ok (.str (S (textL (kT zs)))) h := by
  have q : Ev NoX (f__law_kinds_text n [.tup (zs.map A.int)] h) (fun a h' => a = .str (S (textL (kT zs))) ∧ h' = h) := by
    have hlen : ∀ j, (termsL (kT (zs.take j))).length ≤ 4020 := fun j => by
      have h1 := termsL_len (ts := kT (zs.take j)) (kT_ok (fun z hz => g z (List.mem_of_mem_take hz)) (by rw [List.length_take]; omega))
      have h2 := kT_len (zs.take j)
      rw [List.length_take] at h2
      omega
    refine ev_body rfl ?_
    unfold d__law_kinds_text
    refine step_seq (fun s h' => s = [some (.tup (zs.map A.int)), some (.str (S [])), none, none, none, none] ∧ h' = h) ?_ ?_
    · simp only [seqD, ifD, retD, retND, dropD, setD, nextD, varD, conD, bin2, un1, testD, boolR, notT, andT, orT, ifE, andV, orV, notV, tupD, lstD, cbD, nilD, consD, asgD, parD, nameG, tupG, consG, nilG, setItD, augD, augItD, methD, forD, whileD, lcD, lc2D, sliceD, someD, noneD, chain3, truD, truR, orTD, andTD, notTD, joinedD, glueD, lstRg, rg1, rg2, itRg1, itRg2, itSeq, itEn, dnewKD, newK, newL, maxKD, yesT, wipeA, cmpI, add_I, sub_I, negA, ok_bind, sizeLine_eq, Nat.reduceLeDiff, eq_I, isi_tup, isi_str, isi_int, isi_boo, len_tup, qlt, qle, qgt, qge, rg_if, ev_ok, ev_bind, ev_if, ev_call, es_nx, es_rt, es_seq, es_then, es_if, List.getElem?_cons_succ, List.getElem?_cons_zero, List.set_cons_succ, List.set_cons_zero, List.length_cons, List.length_nil, List.map_cons, List.map_nil, List.replicate, List.cons_append, List.nil_append, Option.bind_some, Option.map_some, Bool.not_true, Bool.not_false, Bool.false_eq_true, if_true, if_false, decide_true, decide_false, true_and, and_true, Nat.zero_add, Nat.add_zero, Nat.reduceAdd, Nat.reduceSub, reduceIte, Nat.sub_self, Nat.succ_sub_succ_eq_sub, Nat.add_one_sub_one, c_em, and_self]
    rintro s h' ⟨rfl, rfl⟩
    refine step_seq (fun s h2 => (∃ a b c d, s = [some (.tup (zs.map A.int)), some (.str (S (termsL (kT zs)))), a, b, c, d]) ∧ h2 = h') ?_ ?_
    · simp only [forD, itEn, consD, nilD, varD, List.map_cons, List.map_nil, List.getElem?_cons_zero, ok_bind, es_then, ev_ok]
      refine for_ex (by rw [List.length_map]; omega) (fun j s h2 => (∃ a b c d, s = [some (.tup (zs.map A.int)), some (.str (S (termsL (kT (zs.take j))))), a, b, c, d]) ∧ h2 = h') ⟨⟨_, _, _, _, rfl⟩, rfl⟩ ?_ ?_
      · rintro j s h2 hj ⟨⟨a, b, c, d, rfl⟩, rfl⟩
        rw [List.length_map] at hj
        have gz := g zs[j] (List.getElem_mem hj)
        have hl := hlen j
        generalize eacc : termsL (kT (zs.take j)) = acc at hl ⊢
        have es : sm acc = true := by rw [← eacc]; exact sm_terms _
        refine ⟨[some (.tup (zs.map A.int)), some (.str (S acc)), some (.int (j : Int)), some (.int zs[j]), c, d], by simp only [seqD, ifD, retD, retND, dropD, setD, nextD, varD, conD, bin2, un1, testD, boolR, notT, andT, orT, ifE, andV, orV, notV, tupD, lstD, cbD, nilD, consD, asgD, parD, nameG, tupG, consG, nilG, setItD, augD, augItD, methD, forD, whileD, lcD, lc2D, sliceD, someD, noneD, chain3, truD, truR, orTD, andTD, notTD, joinedD, glueD, lstRg, rg1, rg2, itRg1, itRg2, itSeq, itEn, dnewKD, newK, newL, maxKD, yesT, wipeA, cmpI, add_I, sub_I, negA, ok_bind, sizeLine_eq, Nat.reduceLeDiff, eq_I, isi_tup, isi_str, isi_int, isi_boo, len_tup, qlt, qle, qgt, qge, rg_if, ev_ok, ev_bind, ev_if, ev_call, es_nx, es_rt, es_seq, es_then, es_if, List.getElem?_cons_succ, List.getElem?_cons_zero, List.set_cons_succ, List.set_cons_zero, List.length_cons, List.length_nil, List.map_cons, List.map_nil, List.replicate, List.cons_append, List.nil_append, Option.bind_some, Option.map_some, Bool.not_true, Bool.not_false, Bool.false_eq_true, if_true, if_false, decide_true, decide_false, true_and, and_true, Nat.zero_add, Nat.add_zero, Nat.reduceAdd, Nat.reduceSub, reduceIte, Nat.sub_self, Nat.succ_sub_succ_eq_sub, Nat.add_one_sub_one, List.getElem_map], ?_⟩
        have est : kT (zs.take (j + 1)) = kT (zs.take j) ++ (if zs[j] = 0 then [] else [tmOf zs[j] j]) := by
          rw [take_snoc hj, kT_snoc, List.length_take, Nat.min_eq_left (by omega)]
        rw [est]
        by_cases h0 : zs[j] = 0
        · simp only [h0, seqD, ifD, retD, retND, dropD, setD, nextD, varD, conD, bin2, un1, testD, boolR, notT, andT, orT, ifE, andV, orV, notV, tupD, lstD, cbD, nilD, consD, asgD, parD, nameG, tupG, consG, nilG, setItD, augD, augItD, methD, forD, whileD, lcD, lc2D, sliceD, someD, noneD, chain3, truD, truR, orTD, andTD, notTD, joinedD, glueD, lstRg, rg1, rg2, itRg1, itRg2, itSeq, itEn, dnewKD, newK, newL, maxKD, yesT, wipeA, cmpI, add_I, sub_I, negA, ok_bind, sizeLine_eq, Nat.reduceLeDiff, eq_I, isi_tup, isi_str, isi_int, isi_boo, len_tup, qlt, qle, qgt, qge, rg_if, ev_ok, ev_bind, ev_if, ev_call, es_nx, es_rt, es_seq, es_then, es_if, List.getElem?_cons_succ, List.getElem?_cons_zero, List.set_cons_succ, List.set_cons_zero, List.length_cons, List.length_nil, List.map_cons, List.map_nil, List.replicate, List.cons_append, List.nil_append, Option.bind_some, Option.map_some, Bool.not_true, Bool.not_false, Bool.false_eq_true, if_true, if_false, decide_true, decide_false, true_and, and_true, Nat.zero_add, Nat.add_zero, Nat.reduceAdd, Nat.reduceSub, reduceIte, Nat.sub_self, Nat.succ_sub_succ_eq_sub, Nat.add_one_sub_one, List.append_nil]
          exact ⟨_, _, _, _, by rw [eacc]⟩
        · have eb := body_tm zs[j] j
          have ht : termsL (kT (zs.take j) ++ [tmOf zs[j] j]) = acc ++ (if acc = [] then (tmOf zs[j] j).lead1 else (tmOf zs[j] j).lead2) ++ (tmOf zs[j] j).body := by
            rw [termsL_snoc, eacc]; rfl
          have hcond : testD (bin2 (eqA true) (varD 3) (conD (.int 0))) n [some (.tup (zs.map A.int)), some (.str (S acc)), some (.int (j : Int)), some (.int zs[j]), c, d] h2 = .ok true h2 := by
            show boolR ((R.ok (A.int zs[j]) h2).bind fun a h1 => (R.ok (A.int 0) h1).bind fun b h2 => eqA true a b h2) = _
            rw [ok_bind, ok_bind, eq_I, decide_eq_false h0]
            rfl
          unfold ifD
          rw [es_then, hcond, ev_ok, es_if, if_pos rfl]
          simp only [h0, if_false]
          rw [ht]
          refine step_seq (fun s h3 => s = [some (.tup (zs.map A.int)), some (.str (S acc)), some (.int (j : Int)), some (.int zs[j]), some (.str (S (if zs[j].natAbs = 1 then [] else numL zs[j].natAbs))), d] ∧ h3 = h2) ?_ ?_
          · by_cases h1 : zs[j].natAbs = 1
            · have h1' : ((zs[j].natAbs : Nat) : Int) = 1 := by omega
              rw [if_pos h1]
              simp only [seqD, ifD, retD, retND, dropD, setD, nextD, varD, conD, bin2, un1, testD, boolR, notT, andT, orT, ifE, andV, orV, notV, tupD, lstD, cbD, nilD, consD, asgD, parD, nameG, tupG, consG, nilG, setItD, augD, augItD, methD, forD, whileD, lcD, lc2D, sliceD, someD, noneD, chain3, truD, truR, orTD, andTD, notTD, joinedD, glueD, lstRg, rg1, rg2, itRg1, itRg2, itSeq, itEn, dnewKD, newK, newL, maxKD, yesT, wipeA, cmpI, add_I, sub_I, negA, ok_bind, sizeLine_eq, Nat.reduceLeDiff, eq_I, isi_tup, isi_str, isi_int, isi_boo, len_tup, qlt, qle, qgt, qge, rg_if, ev_ok, ev_bind, ev_if, ev_call, es_nx, es_rt, es_seq, es_then, es_if, List.getElem?_cons_succ, List.getElem?_cons_zero, List.set_cons_succ, List.set_cons_zero, List.length_cons, List.length_nil, List.map_cons, List.map_nil, List.replicate, List.cons_append, List.nil_append, Option.bind_some, Option.map_some, Bool.not_true, Bool.not_false, Bool.false_eq_true, if_true, if_false, decide_true, decide_false, true_and, and_true, Nat.zero_add, Nat.add_zero, Nat.reduceAdd, Nat.reduceSub, reduceIte, Nat.sub_self, Nat.succ_sub_succ_eq_sub, Nat.add_one_sub_one, abs_I, h1', c_em, and_self]
            · have h1' : ¬ ((zs[j].natAbs : Nat) : Int) = 1 := by omega
              rw [if_neg h1]
              simp only [seqD, ifD, retD, retND, dropD, setD, nextD, varD, conD, bin2, un1, testD, boolR, notT, andT, orT, ifE, andV, orV, notV, tupD, lstD, cbD, nilD, consD, asgD, parD, nameG, tupG, consG, nilG, setItD, augD, augItD, methD, forD, whileD, lcD, lc2D, sliceD, someD, noneD, chain3, truD, truR, orTD, andTD, notTD, joinedD, glueD, lstRg, rg1, rg2, itRg1, itRg2, itSeq, itEn, dnewKD, newK, newL, maxKD, yesT, wipeA, cmpI, add_I, sub_I, negA, ok_bind, sizeLine_eq, Nat.reduceLeDiff, eq_I, isi_tup, isi_str, isi_int, isi_boo, len_tup, qlt, qle, qgt, qge, rg_if, ev_ok, ev_bind, ev_if, ev_call, es_nx, es_rt, es_seq, es_then, es_if, List.getElem?_cons_succ, List.getElem?_cons_zero, List.set_cons_succ, List.set_cons_zero, List.length_cons, List.length_nil, List.map_cons, List.map_nil, List.replicate, List.cons_append, List.nil_append, Option.bind_some, Option.map_some, Bool.not_true, Bool.not_false, Bool.false_eq_true, if_true, if_false, decide_true, decide_false, true_and, and_true, Nat.zero_add, Nat.add_zero, Nat.reduceAdd, Nat.reduceSub, reduceIte, Nat.sub_self, Nat.succ_sub_succ_eq_sub, Nat.add_one_sub_one, abs_I, h1', str_N gz.small, and_self]
          rintro s h3 ⟨rfl, rfl⟩
          refine step_seq (fun s h4 => s = [some (.tup (zs.map A.int)), some (.str (S acc)), some (.int (j : Int)), some (.int zs[j]), some (.str (S (if zs[j].natAbs = 1 then [] else numL zs[j].natAbs))), some (.str (S (tmOf zs[j] j).lead1))] ∧ h4 = h3) ?_ ?_
          · by_cases hneg : zs[j] < 0
            · simp only [seqD, ifD, retD, retND, dropD, setD, nextD, varD, conD, bin2, un1, testD, boolR, notT, andT, orT, ifE, andV, orV, notV, tupD, lstD, cbD, nilD, consD, asgD, parD, nameG, tupG, consG, nilG, setItD, augD, augItD, methD, forD, whileD, lcD, lc2D, sliceD, someD, noneD, chain3, truD, truR, orTD, andTD, notTD, joinedD, glueD, lstRg, rg1, rg2, itRg1, itRg2, itSeq, itEn, dnewKD, newK, newL, maxKD, yesT, wipeA, cmpI, add_I, sub_I, negA, ok_bind, sizeLine_eq, Nat.reduceLeDiff, eq_I, isi_tup, isi_str, isi_int, isi_boo, len_tup, qlt, qle, qgt, qge, rg_if, ev_ok, ev_bind, ev_if, ev_call, es_nx, es_rt, es_seq, es_then, es_if, List.getElem?_cons_succ, List.getElem?_cons_zero, List.set_cons_succ, List.set_cons_zero, List.length_cons, List.length_nil, List.map_cons, List.map_nil, List.replicate, List.cons_append, List.nil_append, Option.bind_some, Option.map_some, Bool.not_true, Bool.not_false, Bool.false_eq_true, if_true, if_false, decide_true, decide_false, true_and, and_true, Nat.zero_add, Nat.add_zero, Nat.reduceAdd, Nat.reduceSub, reduceIte, Nat.sub_self, Nat.succ_sub_succ_eq_sub, Nat.add_one_sub_one, hneg, c_mi]
              unfold Tm.lead1 tmOf; simp [hneg]
            · simp only [seqD, ifD, retD, retND, dropD, setD, nextD, varD, conD, bin2, un1, testD, boolR, notT, andT, orT, ifE, andV, orV, notV, tupD, lstD, cbD, nilD, consD, asgD, parD, nameG, tupG, consG, nilG, setItD, augD, augItD, methD, forD, whileD, lcD, lc2D, sliceD, someD, noneD, chain3, truD, truR, orTD, andTD, notTD, joinedD, glueD, lstRg, rg1, rg2, itRg1, itRg2, itSeq, itEn, dnewKD, newK, newL, maxKD, yesT, wipeA, cmpI, add_I, sub_I, negA, ok_bind, sizeLine_eq, Nat.reduceLeDiff, eq_I, isi_tup, isi_str, isi_int, isi_boo, len_tup, qlt, qle, qgt, qge, rg_if, ev_ok, ev_bind, ev_if, ev_call, es_nx, es_rt, es_seq, es_then, es_if, List.getElem?_cons_succ, List.getElem?_cons_zero, List.set_cons_succ, List.set_cons_zero, List.length_cons, List.length_nil, List.map_cons, List.map_nil, List.replicate, List.cons_append, List.nil_append, Option.bind_some, Option.map_some, Bool.not_true, Bool.not_false, Bool.false_eq_true, if_true, if_false, decide_true, decide_false, true_and, and_true, Nat.zero_add, Nat.add_zero, Nat.reduceAdd, Nat.reduceSub, reduceIte, Nat.sub_self, Nat.succ_sub_succ_eq_sub, Nat.add_one_sub_one, hneg, c_em]
              unfold Tm.lead1 tmOf; simp [hneg]
          rintro s h4 ⟨rfl, rfl⟩
          refine step_seq (fun s h5 => s = [some (.tup (zs.map A.int)), some (.str (S acc)), some (.int (j : Int)), some (.int zs[j]), some (.str (S (if zs[j].natAbs = 1 then [] else numL zs[j].natAbs))), some (.str (S (if acc = [] then (tmOf zs[j] j).lead1 else (tmOf zs[j] j).lead2)))] ∧ h5 = h4) ?_ ?_
          · by_cases ha : acc = []
            · simp only [seqD, ifD, retD, retND, dropD, setD, nextD, varD, conD, bin2, un1, testD, boolR, notT, andT, orT, ifE, andV, orV, notV, tupD, lstD, cbD, nilD, consD, asgD, parD, nameG, tupG, consG, nilG, setItD, augD, augItD, methD, forD, whileD, lcD, lc2D, sliceD, someD, noneD, chain3, truD, truR, orTD, andTD, notTD, joinedD, glueD, lstRg, rg1, rg2, itRg1, itRg2, itSeq, itEn, dnewKD, newK, newL, maxKD, yesT, wipeA, cmpI, add_I, sub_I, negA, ok_bind, sizeLine_eq, Nat.reduceLeDiff, eq_I, isi_tup, isi_str, isi_int, isi_boo, len_tup, qlt, qle, qgt, qge, rg_if, ev_ok, ev_bind, ev_if, ev_call, es_nx, es_rt, es_seq, es_then, es_if, List.getElem?_cons_succ, List.getElem?_cons_zero, List.set_cons_succ, List.set_cons_zero, List.length_cons, List.length_nil, List.map_cons, List.map_nil, List.replicate, List.cons_append, List.nil_append, Option.bind_some, Option.map_some, Bool.not_true, Bool.not_false, Bool.false_eq_true, if_true, if_false, decide_true, decide_false, true_and, and_true, Nat.zero_add, Nat.add_zero, Nat.reduceAdd, Nat.reduceSub, reduceIte, Nat.sub_self, Nat.succ_sub_succ_eq_sub, Nat.add_one_sub_one, c_lp, c_rp, c_sp, c_co, c_lb, c_rb, c_mi, c_pl, c_0, c_un, c_m0, c_em, c_sm, c_ss, c_fi, m_lp, m_rp, m_sp, m_co, m_lb, m_rb, m_mi, m_pl, m_0, m_un, m_m0, m_em, m_sm, m_ss, eq_S, es, ha, and_self]
            · by_cases hneg : zs[j] < 0
              · simp only [seqD, ifD, retD, retND, dropD, setD, nextD, varD, conD, bin2, un1, testD, boolR, notT, andT, orT, ifE, andV, orV, notV, tupD, lstD, cbD, nilD, consD, asgD, parD, nameG, tupG, consG, nilG, setItD, augD, augItD, methD, forD, whileD, lcD, lc2D, sliceD, someD, noneD, chain3, truD, truR, orTD, andTD, notTD, joinedD, glueD, lstRg, rg1, rg2, itRg1, itRg2, itSeq, itEn, dnewKD, newK, newL, maxKD, yesT, wipeA, cmpI, add_I, sub_I, negA, ok_bind, sizeLine_eq, Nat.reduceLeDiff, eq_I, isi_tup, isi_str, isi_int, isi_boo, len_tup, qlt, qle, qgt, qge, rg_if, ev_ok, ev_bind, ev_if, ev_call, es_nx, es_rt, es_seq, es_then, es_if, List.getElem?_cons_succ, List.getElem?_cons_zero, List.set_cons_succ, List.set_cons_zero, List.length_cons, List.length_nil, List.map_cons, List.map_nil, List.replicate, List.cons_append, List.nil_append, Option.bind_some, Option.map_some, Bool.not_true, Bool.not_false, Bool.false_eq_true, if_true, if_false, decide_true, decide_false, true_and, and_true, Nat.zero_add, Nat.add_zero, Nat.reduceAdd, Nat.reduceSub, reduceIte, Nat.sub_self, Nat.succ_sub_succ_eq_sub, Nat.add_one_sub_one, c_lp, c_rp, c_sp, c_co, c_lb, c_rb, c_mi, c_pl, c_0, c_un, c_m0, c_em, c_sm, c_ss, c_fi, m_lp, m_rp, m_sp, m_co, m_lb, m_rb, m_mi, m_pl, m_0, m_un, m_m0, m_em, m_sm, m_ss, eq_S, es, ha, hneg]
                unfold Tm.lead2 tmOf; simp [hneg]
              · simp only [seqD, ifD, retD, retND, dropD, setD, nextD, varD, conD, bin2, un1, testD, boolR, notT, andT, orT, ifE, andV, orV, notV, tupD, lstD, cbD, nilD, consD, asgD, parD, nameG, tupG, consG, nilG, setItD, augD, augItD, methD, forD, whileD, lcD, lc2D, sliceD, someD, noneD, chain3, truD, truR, orTD, andTD, notTD, joinedD, glueD, lstRg, rg1, rg2, itRg1, itRg2, itSeq, itEn, dnewKD, newK, newL, maxKD, yesT, wipeA, cmpI, add_I, sub_I, negA, ok_bind, sizeLine_eq, Nat.reduceLeDiff, eq_I, isi_tup, isi_str, isi_int, isi_boo, len_tup, qlt, qle, qgt, qge, rg_if, ev_ok, ev_bind, ev_if, ev_call, es_nx, es_rt, es_seq, es_then, es_if, List.getElem?_cons_succ, List.getElem?_cons_zero, List.set_cons_succ, List.set_cons_zero, List.length_cons, List.length_nil, List.map_cons, List.map_nil, List.replicate, List.cons_append, List.nil_append, Option.bind_some, Option.map_some, Bool.not_true, Bool.not_false, Bool.false_eq_true, if_true, if_false, decide_true, decide_false, true_and, and_true, Nat.zero_add, Nat.add_zero, Nat.reduceAdd, Nat.reduceSub, reduceIte, Nat.sub_self, Nat.succ_sub_succ_eq_sub, Nat.add_one_sub_one, c_lp, c_rp, c_sp, c_co, c_lb, c_rb, c_mi, c_pl, c_0, c_un, c_m0, c_em, c_sm, c_ss, c_fi, m_lp, m_rp, m_sp, m_co, m_lb, m_rb, m_mi, m_pl, m_0, m_un, m_m0, m_em, m_sm, m_ss, eq_S, es, ha, hneg]
                unfold Tm.lead2 tmOf; simp [hneg]
          rintro s h5 ⟨rfl, rfl⟩
          have l60 := gz.fig
          refine glue_term rfl rfl rfl rfl (by omega) (by omega) (by split; (unfold Tm.lead1; split <;> simp); (rw [lead2_len]; exact Nat.le_refl _)) (by split; exact Nat.zero_le _; exact l60) ?_
          rw [← eb]
          exact ⟨⟨_, _, _, _, rfl⟩, rfl⟩
      · rintro s h2 ⟨⟨a, b, c, d, rfl⟩, rfl⟩
        rw [List.length_map, List.take_length]
        exact ⟨⟨_, _, _, _, rfl⟩, rfl⟩
    · rintro s h2 ⟨⟨a, b, c, d, rfl⟩, rfl⟩
      have es := sm_terms (kT zs)
      unfold textL
      by_cases h0 : kT zs = []
      · simp only [seqD, ifD, retD, retND, dropD, setD, nextD, varD, conD, bin2, un1, testD, boolR, notT, andT, orT, ifE, andV, orV, notV, tupD, lstD, cbD, nilD, consD, asgD, parD, nameG, tupG, consG, nilG, setItD, augD, augItD, methD, forD, whileD, lcD, lc2D, sliceD, someD, noneD, chain3, truD, truR, orTD, andTD, notTD, joinedD, glueD, lstRg, rg1, rg2, itRg1, itRg2, itSeq, itEn, dnewKD, newK, newL, maxKD, yesT, wipeA, cmpI, add_I, sub_I, negA, ok_bind, sizeLine_eq, Nat.reduceLeDiff, eq_I, isi_tup, isi_str, isi_int, isi_boo, len_tup, qlt, qle, qgt, qge, rg_if, ev_ok, ev_bind, ev_if, ev_call, es_nx, es_rt, es_seq, es_then, es_if, List.getElem?_cons_succ, List.getElem?_cons_zero, List.set_cons_succ, List.set_cons_zero, List.length_cons, List.length_nil, List.map_cons, List.map_nil, List.replicate, List.cons_append, List.nil_append, Option.bind_some, Option.map_some, Bool.not_true, Bool.not_false, Bool.false_eq_true, if_true, if_false, decide_true, decide_false, true_and, and_true, Nat.zero_add, Nat.add_zero, Nat.reduceAdd, Nat.reduceSub, reduceIte, Nat.sub_self, Nat.succ_sub_succ_eq_sub, Nat.add_one_sub_one, c_lp, c_rp, c_sp, c_co, c_lb, c_rb, c_mi, c_pl, c_0, c_un, c_m0, c_em, c_sm, c_ss, c_fi, m_lp, m_rp, m_sp, m_co, m_lb, m_rb, m_mi, m_pl, m_0, m_un, m_m0, m_em, m_sm, m_ss, eq_S, es, h0, termsL_nil, and_self]
      · simp only [seqD, ifD, retD, retND, dropD, setD, nextD, varD, conD, bin2, un1, testD, boolR, notT, andT, orT, ifE, andV, orV, notV, tupD, lstD, cbD, nilD, consD, asgD, parD, nameG, tupG, consG, nilG, setItD, augD, augItD, methD, forD, whileD, lcD, lc2D, sliceD, someD, noneD, chain3, truD, truR, orTD, andTD, notTD, joinedD, glueD, lstRg, rg1, rg2, itRg1, itRg2, itSeq, itEn, dnewKD, newK, newL, maxKD, yesT, wipeA, cmpI, add_I, sub_I, negA, ok_bind, sizeLine_eq, Nat.reduceLeDiff, eq_I, isi_tup, isi_str, isi_int, isi_boo, len_tup, qlt, qle, qgt, qge, rg_if, ev_ok, ev_bind, ev_if, ev_call, es_nx, es_rt, es_seq, es_then, es_if, List.getElem?_cons_succ, List.getElem?_cons_zero, List.set_cons_succ, List.set_cons_zero, List.length_cons, List.length_nil, List.map_cons, List.map_nil, List.replicate, List.cons_append, List.nil_append, Option.bind_some, Option.map_some, Bool.not_true, Bool.not_false, Bool.false_eq_true, if_true, if_false, decide_true, decide_false, true_and, and_true, Nat.zero_add, Nat.add_zero, Nat.reduceAdd, Nat.reduceSub, reduceIte, Nat.sub_self, Nat.succ_sub_succ_eq_sub, Nat.add_one_sub_one, c_lp, c_rp, c_sp, c_co, c_lb, c_rb, c_mi, c_pl, c_0, c_un, c_m0, c_em, c_sm, c_ss, c_fi, m_lp, m_rp, m_sp, m_co, m_lb, m_rb, m_mi, m_pl, m_0, m_un, m_m0, m_em, m_sm, m_ss, eq_S, es, h0, termsL_ne h0, and_self]
  obtain ⟨a, h', e, rfl, rfl⟩ := q.get
  exact e
/-! ### mixed -/
theorem es_ret {f : DE} {n : Nat} {s : Sl} {h : Hs} {T : Tl} (q : Ev (fun x h => T.ex x s h) (f n s h) T.rt) : EvS (retD f n s h) T := by
  unfold retD
  rw [es_then]
  exact q
theorem es_set {f : DE} {i n : Nat} {s : Sl} {h : Hs} {T : Tl} (q : Ev (fun x h => T.ex x s h) (f n s h) fun a h1 => T.nx (s.set i (some a)) h1) : EvS (setD i f n s h) T := by
  unfold setD
  rw [es_then]
  exact q
theorem ev_rg1 {X : Xn → Hs → Prop} {ft : DA} {n m : Nat} {s : Sl} {h : Hs} {Q : Step → Hs → Prop} (hm : m < 1000000) (q : Ev X (ft n s h) fun as h1 => as = [.int (m : Int)] ∧ Q (stepR 0 m) h1) : Ev X (itRg1 ft n s h) Q := by
  unfold itRg1
  rw [ev_bind]
  refine q.mono fun as h1 z => ?_
  obtain ⟨rfl, z⟩ := z
  dsimp only
  rw [if_pos (by omega : (m : Int).natAbs < 2 ^ 62), Int.toNat_natCast]
  exact z
theorem ev_lc {X : Xn → Hs → Prop} {it : DI} {g : DG} {t : DT} {e : DE} {vs : List Nat} {n : Nat} {s : Sl} {h : Hs} {Q : A → Hs → Prop} (q : Ev X (it n s h) fun st h1 => Ev X (lcL st g t e n n 0 [] (wipeA s vs) h1) fun xs h2 => Q (.ref h2.length) (h2 ++ [.lst xs])) : Ev X (lcD it g t e vs n s h) Q := by
  unfold lcD
  rw [ev_bind]
  refine q.mono fun st h1 z => ?_
  rw [ev_bind]
  exact z.mono fun xs h2 y => y
theorem erase_perm {α : Type} : ∀ (l : List α) (v : Nat) (hv : v < l.length), (l[v] :: l.eraseIdx v).Perm l
  | x :: l, 0, _ => List.Perm.refl _
  | x :: l, v + 1, hv => by
    have ih := erase_perm l v (by simpa using hv)
    exact (List.Perm.swap x (l[v]'(by simpa using hv)) (l.eraseIdx v)).trans (List.Perm.cons x ih)
theorem pop_ref {p v : Nat} {xs : List A} {h : Hs} (e : h[p]? = some (.lst xs)) (hv : v < xs.length) (hz : xs.length ≤ 1000000) : mPopAt (.ref p) [.int (v : Int)] h = .ok xs[v] (h.set p (.lst (xs.eraseIdx v))) := by
  unfold mPopAt
  dsimp only
  rw [e]
  dsimp only
  rw [if_pos (by omega : (0 : Int) ≤ (v : Int) ∧ (v : Int) < xs.length ∧ (v : Int).natAbs < 2 ^ 62), Int.toNat_natCast, List.getElem?_eq_getElem hv]
theorem mixed_ok {X : Xn → Hs → Prop} {n : Nat} {h : Hs} {b p k : Nat} {xs : List A} (hn : 5000 ≤ n) (B : Bag h b k) (hk : k ≤ 70000) (e : h[p]? = some (.lst xs)) (hl : xs.length ≤ 1000) :
    Ev X (f__law_mixed n [.ref b, .ref p] h) fun a h' => ∃ r ys, a = .ref r ∧ ys.Perm xs ∧ h'[r]? = some (.lst ys) ∧ h.length ≤ r ∧ Bag h' b (k + xs.length) ∧ Gm (some b) h h' := by
  have hb := B.lt
  refine ev_body rfl ?_
  unfold d__law_mixed
  refine step_seq (fun s h' => s = [some (.ref b), some (.ref p), some (.ref h.length), none] ∧ h' = h ++ [.lst xs]) ?_ ?_
  · simp only [seqD, ifD, retD, retND, dropD, setD, nextD, varD, conD, bin2, un1, testD, boolR, notT, andT, orT, ifE, andV, orV, notV, tupD, lstD, cbD, nilD, consD, asgD, parD, nameG, tupG, consG, nilG, setItD, augD, augItD, methD, forD, whileD, lcD, lc2D, sliceD, someD, noneD, chain3, truD, truR, orTD, andTD, notTD, joinedD, glueD, lstRg, rg1, rg2, itRg1, itRg2, itSeq, itEn, dnewKD, newK, newL, maxKD, yesT, wipeA, cmpI, add_I, sub_I, negA, ok_bind, sizeLine_eq, Nat.reduceLeDiff, eq_I, isi_tup, isi_str, isi_int, isi_boo, len_tup, qlt, qle, qgt, qge, rg_if, ev_ok, ev_bind, ev_if, ev_call, es_nx, es_rt, es_seq, es_then, es_if, List.getElem?_cons_succ, List.getElem?_cons_zero, List.set_cons_succ, List.set_cons_zero, List.length_cons, List.length_nil, List.map_cons, List.map_nil, List.replicate, List.cons_append, List.nil_append, Option.bind_some, Option.map_some, Bool.not_true, Bool.not_false, Bool.false_eq_true, if_true, if_false, decide_true, decide_false, true_and, and_true, Nat.zero_add, Nat.add_zero, Nat.reduceAdd, Nat.reduceSub, reduceIte, Nat.sub_self, Nat.succ_sub_succ_eq_sub, Nat.add_one_sub_one, bList, seqOf_ref e, and_self]
  rintro s h' ⟨rfl, rfl⟩
  have e1 : (h ++ [AO.lst xs])[p]? = some (.lst xs) := (Gm.refl (m := none)).app.get e
  refine es_ret (ev_lc (ev_rg1 (m := xs.length) (by omega) ?_))
  have ea : consD (cbD bLen (consD (varD 1) nilD)) nilD n [some (.ref b), some (.ref p), some (.ref h.length), none] (h ++ [AO.lst xs]) = .ok [.int (xs.length : Int)] (h ++ [AO.lst xs]) := by
    simp only [consD, cbD, nilD, varD, List.getElem?_cons_zero, List.getElem?_cons_succ, ok_bind, len_ref e1]
  rw [ea, ev_ok]
  refine ⟨rfl, ?_⟩
  refine lc_any (m := xs.length) (fun j acc h' => j ≤ xs.length ∧ ∃ rem, (acc ++ rem).Perm xs ∧ acc.length = j ∧ h'[h.length]? = some (.lst rem) ∧ Bag h' b (k + j) ∧ Gm (some b) h h') ?_ ?_ xs.length n 0 [] _ (Nat.zero_add _) (by omega) ⟨Nat.zero_le _, xs, List.Perm.refl _, rfl, get_app, B.keep Gm.refl.app, Gm.weak Gm.refl.app⟩
  · rintro j acc h' hj ⟨_, rem, pm, hlen, gp, B', g'⟩
    have hrem : rem.length = xs.length - j := by
      have := pm.length_eq
      rw [List.length_append] at this
      omega
    refine ⟨_, _, by unfold stepR; rw [if_pos hj], rfl, ?_⟩
    rw [yesT, ev_ok]
    simp only [if_true]
    simp only [seqD, ifD, retD, retND, dropD, setD, nextD, varD, conD, bin2, un1, testD, boolR, notT, andT, orT, ifE, andV, orV, notV, tupD, lstD, cbD, nilD, consD, asgD, parD, nameG, tupG, consG, nilG, setItD, augD, augItD, methD, forD, whileD, lcD, lc2D, sliceD, someD, noneD, chain3, truD, truR, orTD, andTD, notTD, joinedD, glueD, lstRg, rg1, rg2, itRg1, itRg2, itSeq, itEn, dnewKD, newK, newL, maxKD, yesT, wipeA, cmpI, add_I, sub_I, negA, ok_bind, sizeLine_eq, Nat.reduceLeDiff, eq_I, isi_tup, isi_str, isi_int, isi_boo, len_tup, qlt, qle, qgt, qge, rg_if, ev_ok, ev_bind, ev_if, ev_call, es_nx, es_rt, es_seq, es_then, es_if, List.getElem?_cons_succ, List.getElem?_cons_zero, List.set_cons_succ, List.set_cons_zero, List.length_cons, List.length_nil, List.map_cons, List.map_nil, List.replicate, List.cons_append, List.nil_append, Option.bind_some, Option.map_some, Bool.not_true, Bool.not_false, Bool.false_eq_true, if_true, if_false, decide_true, decide_false, true_and, and_true, Nat.zero_add, Nat.add_zero, Nat.reduceAdd, Nat.reduceSub, reduceIte, Nat.sub_self, Nat.succ_sub_succ_eq_sub, Nat.add_one_sub_one, tyA_ref gp, len_ref gp]
    refine (grab_ok B' (by omega) (show 1 ≤ rem.length by omega) (log_nat (by omega))).mono fun a h2 q => ?_
    obtain ⟨v, rfl, hv, B2, g2⟩ := q
    have gp2 : h2[h.length]? = some (.lst rem) := g2.get gp (by simp; omega)
    rw [pop_ref gp2 hv (by omega), ev_ok]
    refine ⟨lt_line (by omega), hj, rem.eraseIdx v, ?_, by rw [List.length_append, hlen]; rfl, get_set gp2, ?_, (g'.trans g2).set (.inl (Nat.le_refl _))⟩
    · refine List.Perm.trans ?_ pm
      rw [List.append_assoc]
      exact List.Perm.append_left acc (erase_perm rem v hv)
    · have := B2
      obtain ⟨x, y, z, eb, r⟩ := this
      exact ⟨x, y, z, by rw [List.getElem?_set_ne (by omega)]; exact eb, r.1, r.2.1, r.2.2.1, r.2.2.2.1, by omega⟩
  · rintro acc h' ⟨_, rem, pm, hlen, gp, B', g'⟩
    refine ⟨by unfold stepR; rw [if_neg (Nat.lt_irrefl _)], ?_⟩
    have hrem : rem = [] := by
      have := pm.length_eq
      rw [List.length_append] at this
      exact List.eq_nil_of_length_eq_zero (by omega)
    subst hrem
    rw [List.append_nil] at pm
    exact ⟨h'.length, acc, rfl, pm, get_app, g'.1, B'.keep Gm.refl.app, g'.trans (Gm.weak Gm.refl.app)⟩
end Dn

set_option maxHeartbeats 4000000
namespace Dn
open PySem
open TL (numL joinL)
/-! ### the law's text of terms -/
def NegOk (ts : List Tm) : Prop := ∀ t r, ts = t :: r → t.neg = true → t.bare = true ∨ t.m ≠ 0
theorem neg_snoc {ts : List Tm} {t : Tm} (h : NegOk ts) (ht : ts = [] → t.neg = true → t.bare = true ∨ t.m ≠ 0) : NegOk (ts ++ [t]) := by
  intro u r e hu
  cases ts with
  | nil =>
    simp at e
    obtain ⟨rfl, _⟩ := e
    exact ht rfl hu
  | cons a b =>
    simp at e
    obtain ⟨rfl, _⟩ := e
    exact h a b rfl hu
theorem terms_text_ok {X : Xn → Hs → Prop} {n : Nat} {h : Hs} {b p k : Nat} {ps : List (Int × Nat)} (hn : 5000 ≤ n) (B : Bag h b k) (hk : k ≤ 70000) (e : h[p]? = some (.lst (ps.map pairA))) (hp : p ≠ b) (hl : ps.length ≤ 200) (hps : ∀ q ∈ ps, Good q.1 ∧ q.2 < 60) :
    Ev X (f__law_terms_text n [.ref b, .ref p] h) fun a h' => ∃ ts, a = .str (S (textL ts)) ∧ ts.map Tm.pair = ps ∧ (∀ t ∈ ts, t.ok) ∧ NegOk ts ∧ Bag h' b (k + 400) ∧ Gm (some b) h h' := by
  refine ev_body rfl ?_
  unfold d__law_terms_text
  refine step_seq (fun s h' => s = [some (.ref b), some (.ref p), some (.str (S [])), none, none, none, none] ∧ h' = h) ?_ ?_
  · simp only [seqD, ifD, retD, retND, dropD, setD, nextD, varD, conD, bin2, un1, testD, boolR, notT, andT, orT, ifE, andV, orV, notV, tupD, lstD, cbD, nilD, consD, asgD, parD, nameG, tupG, consG, nilG, setItD, augD, augItD, methD, forD, whileD, lcD, lc2D, sliceD, someD, noneD, chain3, truD, truR, orTD, andTD, notTD, joinedD, glueD, lstRg, rg1, rg2, itRg1, itRg2, itSeq, itEn, dnewKD, newK, newL, maxKD, yesT, wipeA, cmpI, add_I, sub_I, negA, ok_bind, sizeLine_eq, Nat.reduceLeDiff, eq_I, isi_tup, isi_str, isi_int, isi_boo, len_tup, qlt, qle, qgt, qge, rg_if, ev_ok, ev_bind, ev_if, ev_call, es_nx, es_rt, es_seq, es_then, es_if, List.getElem?_cons_succ, List.getElem?_cons_zero, List.set_cons_succ, List.set_cons_zero, List.length_cons, List.length_nil, List.map_cons, List.map_nil, List.replicate, List.cons_append, List.nil_append, Option.bind_some, Option.map_some, Bool.not_true, Bool.not_false, Bool.false_eq_true, if_true, if_false, decide_true, decide_false, true_and, and_true, Nat.zero_add, Nat.add_zero, Nat.reduceAdd, Nat.reduceSub, reduceIte, Nat.sub_self, Nat.succ_sub_succ_eq_sub, Nat.add_one_sub_one, c_em, and_self]
  rintro s h' ⟨rfl, rfl⟩
  refine step_seq (fun s h2 => ∃ ts a c d f, s = [some (.ref b), some (.ref p), some (.str (S (termsL ts))), a, c, d, f] ∧ ts.map Tm.pair = ps ∧ (∀ t ∈ ts, t.ok) ∧ NegOk ts ∧ Bag h2 b (k + 400) ∧ Gm (some b) h' h2) ?_ ?_
  · simp only [forD, itSeq, varD, List.map_cons, List.map_nil, List.replicate, List.cons_append, List.nil_append, List.getElem?_cons_zero, List.getElem?_cons_succ, ok_bind, es_then, e, ev_ok]
    refine for_l (xs := ps.map pairA) (by rw [List.length_map]; omega) (fun j s h2 => j ≤ ps.length ∧ ∃ ts a c d f, s = [some (.ref b), some (.ref p), some (.str (S (termsL ts))), a, c, d, f] ∧ ts.map Tm.pair = ps.take j ∧ (∀ t ∈ ts, t.ok) ∧ NegOk ts ∧ Bag h2 b (k + 2 * j) ∧ Gm (some b) h' h2)
      ⟨Nat.zero_le _, [], _, _, _, _, rfl, rfl, by simp, fun t r z => by simp at z, B, Gm.refl⟩ (fun j s h2 z => by obtain ⟨_, ts, a, c, d, f, _, _, _, _, _, g⟩ := z; exact g.get e (by simp [hp])) ?_ ?_
    · rintro j s h2 hj ⟨_, ts, a, c, d, f, rfl, hpr, hok, hng, B2, g2⟩
      rw [List.length_map] at hj
      obtain ⟨gz, hi⟩ := hps ps[j] (List.getElem_mem hj)
      generalize ez : ps[j].1 = z at gz
      generalize ei : ps[j].2 = i at hi
      have epj : ps[j] = (z, i) := by rw [← ez, ← ei]
      have htl : ts.length = j := by
        have := congrArg List.length hpr
        rw [List.length_map, List.length_take] at this
        omega
      have hacc := termsL_len hok
      have es := sm_terms ts
      have hne : termsL ts = [] ↔ ts = [] := ⟨fun q => by
        cases ts with
        | nil => rfl
        | cons t r => exact absurd q (termsL_ne (by simp)), fun q => by rw [q]; rfl⟩
      generalize eacc : termsL ts = acc at hacc es hne ⊢
      refine ⟨[some (.ref b), some (.ref p), some (.str (S acc)), some (.int z), some (.int (i : Int)), d, f], by rw [List.getElem_map, epj]; rfl, ?_⟩
      -- the size
      refine step_seq (fun s h3 => s = [some (.ref b), some (.ref p), some (.str (S acc)), some (.int z), some (.int (i : Int)), some (.str (S (numL z.natAbs))), f] ∧ h3 = h2) ?_ ?_
      · simp only [seqD, ifD, retD, retND, dropD, setD, nextD, varD, conD, bin2, un1, testD, boolR, notT, andT, orT, ifE, andV, orV, notV, tupD, lstD, cbD, nilD, consD, asgD, parD, nameG, tupG, consG, nilG, setItD, augD, augItD, methD, forD, whileD, lcD, lc2D, sliceD, someD, noneD, chain3, truD, truR, orTD, andTD, notTD, joinedD, glueD, lstRg, rg1, rg2, itRg1, itRg2, itSeq, itEn, dnewKD, newK, newL, maxKD, yesT, wipeA, cmpI, add_I, sub_I, negA, ok_bind, sizeLine_eq, Nat.reduceLeDiff, eq_I, isi_tup, isi_str, isi_int, isi_boo, len_tup, qlt, qle, qgt, qge, rg_if, ev_ok, ev_bind, ev_if, ev_call, es_nx, es_rt, es_seq, es_then, es_if, List.getElem?_cons_succ, List.getElem?_cons_zero, List.set_cons_succ, List.set_cons_zero, List.length_cons, List.length_nil, List.map_cons, List.map_nil, List.replicate, List.cons_append, List.nil_append, Option.bind_some, Option.map_some, Bool.not_true, Bool.not_false, Bool.false_eq_true, if_true, if_false, decide_true, decide_false, true_and, and_true, Nat.zero_add, Nat.add_zero, Nat.reduceAdd, Nat.reduceSub, reduceIte, Nat.sub_self, Nat.succ_sub_succ_eq_sub, Nat.add_one_sub_one, abs_I, str_N gz.small, and_self]
      rintro s h3 ⟨rfl, rfl⟩
      refine step_seq (fun s h4 => ∃ bare : Bool, (bare = true → z.natAbs = 1) ∧ s = [some (.ref b), some (.ref p), some (.str (S acc)), some (.int z), some (.int (i : Int)), some (.str (S (if bare then [] else numL z.natAbs))), f] ∧ Bag h4 b (k + 2 * j + 1) ∧ Gm (some b) h3 h4) ?_ ?_
      · by_cases h1 : z.natAbs = 1
        · have h1' : ((z.natAbs : Nat) : Int) = 1 := by omega
          simp only [seqD, ifD, retD, retND, dropD, setD, nextD, varD, conD, bin2, un1, testD, boolR, notT, andT, orT, ifE, andV, orV, notV, tupD, lstD, cbD, nilD, consD, asgD, parD, nameG, tupG, consG, nilG, setItD, augD, augItD, methD, forD, whileD, lcD, lc2D, sliceD, someD, noneD, chain3, truD, truR, orTD, andTD, notTD, joinedD, glueD, lstRg, rg1, rg2, itRg1, itRg2, itSeq, itEn, dnewKD, newK, newL, maxKD, yesT, wipeA, cmpI, add_I, sub_I, negA, ok_bind, sizeLine_eq, Nat.reduceLeDiff, eq_I, isi_tup, isi_str, isi_int, isi_boo, len_tup, qlt, qle, qgt, qge, rg_if, ev_ok, ev_bind, ev_if, ev_call, es_nx, es_rt, es_seq, es_then, es_if, List.getElem?_cons_succ, List.getElem?_cons_zero, List.set_cons_succ, List.set_cons_zero, List.length_cons, List.length_nil, List.map_cons, List.map_nil, List.replicate, List.cons_append, List.nil_append, Option.bind_some, Option.map_some, Bool.not_true, Bool.not_false, Bool.false_eq_true, if_true, if_false, decide_true, decide_false, true_and, and_true, Nat.zero_add, Nat.add_zero, Nat.reduceAdd, Nat.reduceSub, reduceIte, Nat.sub_self, Nat.succ_sub_succ_eq_sub, Nat.add_one_sub_one, abs_I, h1']
          refine (grab_ok (t := 2) B2 (by omega) (by decide) (log_nat (by decide))).mono fun x h4 q => ?_
          obtain ⟨v, rfl, hv, B4, g4⟩ := q
          by_cases hv0 : (v : Int) = 0
          · simp only [hv0, seqD, ifD, retD, retND, dropD, setD, nextD, varD, conD, bin2, un1, testD, boolR, notT, andT, orT, ifE, andV, orV, notV, tupD, lstD, cbD, nilD, consD, asgD, parD, nameG, tupG, consG, nilG, setItD, augD, augItD, methD, forD, whileD, lcD, lc2D, sliceD, someD, noneD, chain3, truD, truR, orTD, andTD, notTD, joinedD, glueD, lstRg, rg1, rg2, itRg1, itRg2, itSeq, itEn, dnewKD, newK, newL, maxKD, yesT, wipeA, cmpI, add_I, sub_I, negA, ok_bind, sizeLine_eq, Nat.reduceLeDiff, eq_I, isi_tup, isi_str, isi_int, isi_boo, len_tup, qlt, qle, qgt, qge, rg_if, ev_ok, ev_bind, ev_if, ev_call, es_nx, es_rt, es_seq, es_then, es_if, List.getElem?_cons_succ, List.getElem?_cons_zero, List.set_cons_succ, List.set_cons_zero, List.length_cons, List.length_nil, List.map_cons, List.map_nil, List.replicate, List.cons_append, List.nil_append, Option.bind_some, Option.map_some, Bool.not_true, Bool.not_false, Bool.false_eq_true, if_true, if_false, decide_true, decide_false, true_and, and_true, Nat.zero_add, Nat.add_zero, Nat.reduceAdd, Nat.reduceSub, reduceIte, Nat.sub_self, Nat.succ_sub_succ_eq_sub, Nat.add_one_sub_one, c_em]
            exact ⟨true, fun _ => h1, rfl, B4, g4⟩
          · simp only [hv0, seqD, ifD, retD, retND, dropD, setD, nextD, varD, conD, bin2, un1, testD, boolR, notT, andT, orT, ifE, andV, orV, notV, tupD, lstD, cbD, nilD, consD, asgD, parD, nameG, tupG, consG, nilG, setItD, augD, augItD, methD, forD, whileD, lcD, lc2D, sliceD, someD, noneD, chain3, truD, truR, orTD, andTD, notTD, joinedD, glueD, lstRg, rg1, rg2, itRg1, itRg2, itSeq, itEn, dnewKD, newK, newL, maxKD, yesT, wipeA, cmpI, add_I, sub_I, negA, ok_bind, sizeLine_eq, Nat.reduceLeDiff, eq_I, isi_tup, isi_str, isi_int, isi_boo, len_tup, qlt, qle, qgt, qge, rg_if, ev_ok, ev_bind, ev_if, ev_call, es_nx, es_rt, es_seq, es_then, es_if, List.getElem?_cons_succ, List.getElem?_cons_zero, List.set_cons_succ, List.set_cons_zero, List.length_cons, List.length_nil, List.map_cons, List.map_nil, List.replicate, List.cons_append, List.nil_append, Option.bind_some, Option.map_some, Bool.not_true, Bool.not_false, Bool.false_eq_true, if_true, if_false, decide_true, decide_false, true_and, and_true, Nat.zero_add, Nat.add_zero, Nat.reduceAdd, Nat.reduceSub, reduceIte, Nat.sub_self, Nat.succ_sub_succ_eq_sub, Nat.add_one_sub_one]
            exact ⟨false, fun q => absurd q Bool.false_ne_true, rfl, B4, g4⟩
        · have h1' : ¬ ((z.natAbs : Nat) : Int) = 1 := by omega
          simp only [seqD, ifD, retD, retND, dropD, setD, nextD, varD, conD, bin2, un1, testD, boolR, notT, andT, orT, ifE, andV, orV, notV, tupD, lstD, cbD, nilD, consD, asgD, parD, nameG, tupG, consG, nilG, setItD, augD, augItD, methD, forD, whileD, lcD, lc2D, sliceD, someD, noneD, chain3, truD, truR, orTD, andTD, notTD, joinedD, glueD, lstRg, rg1, rg2, itRg1, itRg2, itSeq, itEn, dnewKD, newK, newL, maxKD, yesT, wipeA, cmpI, add_I, sub_I, negA, ok_bind, sizeLine_eq, Nat.reduceLeDiff, eq_I, isi_tup, isi_str, isi_int, isi_boo, len_tup, qlt, qle, qgt, qge, rg_if, ev_ok, ev_bind, ev_if, ev_call, es_nx, es_rt, es_seq, es_then, es_if, List.getElem?_cons_succ, List.getElem?_cons_zero, List.set_cons_succ, List.set_cons_zero, List.length_cons, List.length_nil, List.map_cons, List.map_nil, List.replicate, List.cons_append, List.nil_append, Option.bind_some, Option.map_some, Bool.not_true, Bool.not_false, Bool.false_eq_true, if_true, if_false, decide_true, decide_false, true_and, and_true, Nat.zero_add, Nat.add_zero, Nat.reduceAdd, Nat.reduceSub, reduceIte, Nat.sub_self, Nat.succ_sub_succ_eq_sub, Nat.add_one_sub_one, abs_I, h1']
          exact ⟨false, fun q => absurd q Bool.false_ne_true, rfl, B2.weak (by omega), Gm.refl⟩
      rintro s h4 ⟨bare, hbare, rfl, B4, g4⟩
      generalize esz : (if bare = true then [] else numL z.natAbs) = sz
      have hsz : sz.length ≤ 60 := by
        rw [← esz]
        split
        · exact Nat.zero_le _
        · exact gz.fig
      refine step_seq (fun s h5 => s = [some (.ref b), some (.ref p), some (.str (S acc)), some (.int z), some (.int (i : Int)), some (.str (S sz)), some (.str (S (if z < 0 then [45] else [])))] ∧ h5 = h4) ?_ ?_
      · by_cases hneg : z < 0
        · simp only [seqD, ifD, retD, retND, dropD, setD, nextD, varD, conD, bin2, un1, testD, boolR, notT, andT, orT, ifE, andV, orV, notV, tupD, lstD, cbD, nilD, consD, asgD, parD, nameG, tupG, consG, nilG, setItD, augD, augItD, methD, forD, whileD, lcD, lc2D, sliceD, someD, noneD, chain3, truD, truR, orTD, andTD, notTD, joinedD, glueD, lstRg, rg1, rg2, itRg1, itRg2, itSeq, itEn, dnewKD, newK, newL, maxKD, yesT, wipeA, cmpI, add_I, sub_I, negA, ok_bind, sizeLine_eq, Nat.reduceLeDiff, eq_I, isi_tup, isi_str, isi_int, isi_boo, len_tup, qlt, qle, qgt, qge, rg_if, ev_ok, ev_bind, ev_if, ev_call, es_nx, es_rt, es_seq, es_then, es_if, List.getElem?_cons_succ, List.getElem?_cons_zero, List.set_cons_succ, List.set_cons_zero, List.length_cons, List.length_nil, List.map_cons, List.map_nil, List.replicate, List.cons_append, List.nil_append, Option.bind_some, Option.map_some, Bool.not_true, Bool.not_false, Bool.false_eq_true, if_true, if_false, decide_true, decide_false, true_and, and_true, Nat.zero_add, Nat.add_zero, Nat.reduceAdd, Nat.reduceSub, reduceIte, Nat.sub_self, Nat.succ_sub_succ_eq_sub, Nat.add_one_sub_one, hneg, c_mi, and_self]
        · simp only [seqD, ifD, retD, retND, dropD, setD, nextD, varD, conD, bin2, un1, testD, boolR, notT, andT, orT, ifE, andV, orV, notV, tupD, lstD, cbD, nilD, consD, asgD, parD, nameG, tupG, consG, nilG, setItD, augD, augItD, methD, forD, whileD, lcD, lc2D, sliceD, someD, noneD, chain3, truD, truR, orTD, andTD, notTD, joinedD, glueD, lstRg, rg1, rg2, itRg1, itRg2, itSeq, itEn, dnewKD, newK, newL, maxKD, yesT, wipeA, cmpI, add_I, sub_I, negA, ok_bind, sizeLine_eq, Nat.reduceLeDiff, eq_I, isi_tup, isi_str, isi_int, isi_boo, len_tup, qlt, qle, qgt, qge, rg_if, ev_ok, ev_bind, ev_if, ev_call, es_nx, es_rt, es_seq, es_then, es_if, List.getElem?_cons_succ, List.getElem?_cons_zero, List.set_cons_succ, List.set_cons_zero, List.length_cons, List.length_nil, List.map_cons, List.map_nil, List.replicate, List.cons_append, List.nil_append, Option.bind_some, Option.map_some, Bool.not_true, Bool.not_false, Bool.false_eq_true, if_true, if_false, decide_true, decide_false, true_and, and_true, Nat.zero_add, Nat.add_zero, Nat.reduceAdd, Nat.reduceSub, reduceIte, Nat.sub_self, Nat.succ_sub_succ_eq_sub, Nat.add_one_sub_one, hneg, c_em, and_self]
      rintro s h5 ⟨rfl, rfl⟩
      refine step_seq (fun s h6 => ∃ neg : Bool, (z < 0 → neg = true) ∧ (neg = true → z ≤ 0) ∧ (acc = [] → neg = true → z < 0) ∧ s = [some (.ref b), some (.ref p), some (.str (S acc)), some (.int z), some (.int (i : Int)), some (.str (S sz)), some (.str (S (if acc = [] then (if neg then [45] else []) else if neg then [32, 45, 32] else [32, 43, 32])))] ∧ Bag h6 b (k + 2 * j + 2) ∧ Gm (some b) h5 h6) ?_ ?_
      · by_cases ha : acc = []
        · simp only [seqD, ifD, retD, retND, dropD, setD, nextD, varD, conD, bin2, un1, testD, boolR, notT, andT, orT, ifE, andV, orV, notV, tupD, lstD, cbD, nilD, consD, asgD, parD, nameG, tupG, consG, nilG, setItD, augD, augItD, methD, forD, whileD, lcD, lc2D, sliceD, someD, noneD, chain3, truD, truR, orTD, andTD, notTD, joinedD, glueD, lstRg, rg1, rg2, itRg1, itRg2, itSeq, itEn, dnewKD, newK, newL, maxKD, yesT, wipeA, cmpI, add_I, sub_I, negA, ok_bind, sizeLine_eq, Nat.reduceLeDiff, eq_I, isi_tup, isi_str, isi_int, isi_boo, len_tup, qlt, qle, qgt, qge, rg_if, ev_ok, ev_bind, ev_if, ev_call, es_nx, es_rt, es_seq, es_then, es_if, List.getElem?_cons_succ, List.getElem?_cons_zero, List.set_cons_succ, List.set_cons_zero, List.length_cons, List.length_nil, List.map_cons, List.map_nil, List.replicate, List.cons_append, List.nil_append, Option.bind_some, Option.map_some, Bool.not_true, Bool.not_false, Bool.false_eq_true, if_true, if_false, decide_true, decide_false, true_and, and_true, Nat.zero_add, Nat.add_zero, Nat.reduceAdd, Nat.reduceSub, reduceIte, Nat.sub_self, Nat.succ_sub_succ_eq_sub, Nat.add_one_sub_one, c_lp, c_rp, c_sp, c_co, c_lb, c_rb, c_mi, c_pl, c_0, c_un, c_m0, c_em, c_sm, c_ss, c_fi, m_lp, m_rp, m_sp, m_co, m_lb, m_rb, m_mi, m_pl, m_0, m_un, m_m0, m_em, m_sm, m_ss, eq_S, es, ha]
          refine ⟨decide (z < 0), fun q => decide_eq_true q, fun q => Int.le_of_lt (of_decide_eq_true q), fun _ q => of_decide_eq_true q, ?_, B4.weak (by omega), Gm.refl⟩
          by_cases hneg : z < 0 <;> simp [hneg]
        · by_cases hneg : z < 0
          · simp only [seqD, ifD, retD, retND, dropD, setD, nextD, varD, conD, bin2, un1, testD, boolR, notT, andT, orT, ifE, andV, orV, notV, tupD, lstD, cbD, nilD, consD, asgD, parD, nameG, tupG, consG, nilG, setItD, augD, augItD, methD, forD, whileD, lcD, lc2D, sliceD, someD, noneD, chain3, truD, truR, orTD, andTD, notTD, joinedD, glueD, lstRg, rg1, rg2, itRg1, itRg2, itSeq, itEn, dnewKD, newK, newL, maxKD, yesT, wipeA, cmpI, add_I, sub_I, negA, ok_bind, sizeLine_eq, Nat.reduceLeDiff, eq_I, isi_tup, isi_str, isi_int, isi_boo, len_tup, qlt, qle, qgt, qge, rg_if, ev_ok, ev_bind, ev_if, ev_call, es_nx, es_rt, es_seq, es_then, es_if, List.getElem?_cons_succ, List.getElem?_cons_zero, List.set_cons_succ, List.set_cons_zero, List.length_cons, List.length_nil, List.map_cons, List.map_nil, List.replicate, List.cons_append, List.nil_append, Option.bind_some, Option.map_some, Bool.not_true, Bool.not_false, Bool.false_eq_true, if_true, if_false, decide_true, decide_false, true_and, and_true, Nat.zero_add, Nat.add_zero, Nat.reduceAdd, Nat.reduceSub, reduceIte, Nat.sub_self, Nat.succ_sub_succ_eq_sub, Nat.add_one_sub_one, c_lp, c_rp, c_sp, c_co, c_lb, c_rb, c_mi, c_pl, c_0, c_un, c_m0, c_em, c_sm, c_ss, c_fi, m_lp, m_rp, m_sp, m_co, m_lb, m_rb, m_mi, m_pl, m_0, m_un, m_m0, m_em, m_sm, m_ss, eq_S, es, ha, hneg]
            exact ⟨true, fun _ => rfl, fun _ => Int.le_of_lt hneg, fun q => absurd q (by simp), rfl, B4.weak (by omega), Gm.refl⟩
          · by_cases hz0 : z = 0
            · have hz0' : decide (z = 0) = true := decide_eq_true hz0
              simp only [seqD, ifD, retD, retND, dropD, setD, nextD, varD, conD, bin2, un1, testD, boolR, notT, andT, orT, ifE, andV, orV, notV, tupD, lstD, cbD, nilD, consD, asgD, parD, nameG, tupG, consG, nilG, setItD, augD, augItD, methD, forD, whileD, lcD, lc2D, sliceD, someD, noneD, chain3, truD, truR, orTD, andTD, notTD, joinedD, glueD, lstRg, rg1, rg2, itRg1, itRg2, itSeq, itEn, dnewKD, newK, newL, maxKD, yesT, wipeA, cmpI, add_I, sub_I, negA, ok_bind, sizeLine_eq, Nat.reduceLeDiff, eq_I, isi_tup, isi_str, isi_int, isi_boo, len_tup, qlt, qle, qgt, qge, rg_if, ev_ok, ev_bind, ev_if, ev_call, es_nx, es_rt, es_seq, es_then, es_if, List.getElem?_cons_succ, List.getElem?_cons_zero, List.set_cons_succ, List.set_cons_zero, List.length_cons, List.length_nil, List.map_cons, List.map_nil, List.replicate, List.cons_append, List.nil_append, Option.bind_some, Option.map_some, Bool.not_true, Bool.not_false, Bool.false_eq_true, if_true, if_false, decide_true, decide_false, true_and, and_true, Nat.zero_add, Nat.add_zero, Nat.reduceAdd, Nat.reduceSub, reduceIte, Nat.sub_self, Nat.succ_sub_succ_eq_sub, Nat.add_one_sub_one, c_lp, c_rp, c_sp, c_co, c_lb, c_rb, c_mi, c_pl, c_0, c_un, c_m0, c_em, c_sm, c_ss, c_fi, m_lp, m_rp, m_sp, m_co, m_lb, m_rb, m_mi, m_pl, m_0, m_un, m_m0, m_em, m_sm, m_ss, eq_S, es, ha, hneg, hz0']
              refine (grab_ok (t := 2) B4 (by omega) (by decide) (log_nat (by decide))).mono fun x h6 q => ?_
              obtain ⟨v, rfl, hv, B6, g6⟩ := q
              by_cases hv0 : (v : Int) = 0
              · simp only [hv0, seqD, ifD, retD, retND, dropD, setD, nextD, varD, conD, bin2, un1, testD, boolR, notT, andT, orT, ifE, andV, orV, notV, tupD, lstD, cbD, nilD, consD, asgD, parD, nameG, tupG, consG, nilG, setItD, augD, augItD, methD, forD, whileD, lcD, lc2D, sliceD, someD, noneD, chain3, truD, truR, orTD, andTD, notTD, joinedD, glueD, lstRg, rg1, rg2, itRg1, itRg2, itSeq, itEn, dnewKD, newK, newL, maxKD, yesT, wipeA, cmpI, add_I, sub_I, negA, ok_bind, sizeLine_eq, Nat.reduceLeDiff, eq_I, isi_tup, isi_str, isi_int, isi_boo, len_tup, qlt, qle, qgt, qge, rg_if, ev_ok, ev_bind, ev_if, ev_call, es_nx, es_rt, es_seq, es_then, es_if, List.getElem?_cons_succ, List.getElem?_cons_zero, List.set_cons_succ, List.set_cons_zero, List.length_cons, List.length_nil, List.map_cons, List.map_nil, List.replicate, List.cons_append, List.nil_append, Option.bind_some, Option.map_some, Bool.not_true, Bool.not_false, Bool.false_eq_true, if_true, if_false, decide_true, decide_false, true_and, and_true, Nat.zero_add, Nat.add_zero, Nat.reduceAdd, Nat.reduceSub, reduceIte, Nat.sub_self, Nat.succ_sub_succ_eq_sub, Nat.add_one_sub_one, c_lp, c_rp, c_sp, c_co, c_lb, c_rb, c_mi, c_pl, c_0, c_un, c_m0, c_em, c_sm, c_ss, c_fi, m_lp, m_rp, m_sp, m_co, m_lb, m_rb, m_mi, m_pl, m_0, m_un, m_m0, m_em, m_sm, m_ss]
                exact ⟨true, fun q => rfl, fun _ => by omega, fun q => absurd q (by simp), rfl, B6, g6⟩
              · simp only [hv0, seqD, ifD, retD, retND, dropD, setD, nextD, varD, conD, bin2, un1, testD, boolR, notT, andT, orT, ifE, andV, orV, notV, tupD, lstD, cbD, nilD, consD, asgD, parD, nameG, tupG, consG, nilG, setItD, augD, augItD, methD, forD, whileD, lcD, lc2D, sliceD, someD, noneD, chain3, truD, truR, orTD, andTD, notTD, joinedD, glueD, lstRg, rg1, rg2, itRg1, itRg2, itSeq, itEn, dnewKD, newK, newL, maxKD, yesT, wipeA, cmpI, add_I, sub_I, negA, ok_bind, sizeLine_eq, Nat.reduceLeDiff, eq_I, isi_tup, isi_str, isi_int, isi_boo, len_tup, qlt, qle, qgt, qge, rg_if, ev_ok, ev_bind, ev_if, ev_call, es_nx, es_rt, es_seq, es_then, es_if, List.getElem?_cons_succ, List.getElem?_cons_zero, List.set_cons_succ, List.set_cons_zero, List.length_cons, List.length_nil, List.map_cons, List.map_nil, List.replicate, List.cons_append, List.nil_append, Option.bind_some, Option.map_some, Bool.not_true, Bool.not_false, Bool.false_eq_true, if_true, if_false, decide_true, decide_false, true_and, and_true, Nat.zero_add, Nat.add_zero, Nat.reduceAdd, Nat.reduceSub, reduceIte, Nat.sub_self, Nat.succ_sub_succ_eq_sub, Nat.add_one_sub_one, c_lp, c_rp, c_sp, c_co, c_lb, c_rb, c_mi, c_pl, c_0, c_un, c_m0, c_em, c_sm, c_ss, c_fi, m_lp, m_rp, m_sp, m_co, m_lb, m_rb, m_mi, m_pl, m_0, m_un, m_m0, m_em, m_sm, m_ss]
                exact ⟨false, fun q => absurd q (by simp), fun q => absurd q Bool.false_ne_true, fun q => absurd q (by simp), rfl, B6, g6⟩
            · simp only [seqD, ifD, retD, retND, dropD, setD, nextD, varD, conD, bin2, un1, testD, boolR, notT, andT, orT, ifE, andV, orV, notV, tupD, lstD, cbD, nilD, consD, asgD, parD, nameG, tupG, consG, nilG, setItD, augD, augItD, methD, forD, whileD, lcD, lc2D, sliceD, someD, noneD, chain3, truD, truR, orTD, andTD, notTD, joinedD, glueD, lstRg, rg1, rg2, itRg1, itRg2, itSeq, itEn, dnewKD, newK, newL, maxKD, yesT, wipeA, cmpI, add_I, sub_I, negA, ok_bind, sizeLine_eq, Nat.reduceLeDiff, eq_I, isi_tup, isi_str, isi_int, isi_boo, len_tup, qlt, qle, qgt, qge, rg_if, ev_ok, ev_bind, ev_if, ev_call, es_nx, es_rt, es_seq, es_then, es_if, List.getElem?_cons_succ, List.getElem?_cons_zero, List.set_cons_succ, List.set_cons_zero, List.length_cons, List.length_nil, List.map_cons, List.map_nil, List.replicate, List.cons_append, List.nil_append, Option.bind_some, Option.map_some, Bool.not_true, Bool.not_false, Bool.false_eq_true, if_true, if_false, decide_true, decide_false, true_and, and_true, Nat.zero_add, Nat.add_zero, Nat.reduceAdd, Nat.reduceSub, reduceIte, Nat.sub_self, Nat.succ_sub_succ_eq_sub, Nat.add_one_sub_one, c_lp, c_rp, c_sp, c_co, c_lb, c_rb, c_mi, c_pl, c_0, c_un, c_m0, c_em, c_sm, c_ss, c_fi, m_lp, m_rp, m_sp, m_co, m_lb, m_rb, m_mi, m_pl, m_0, m_un, m_m0, m_em, m_sm, m_ss, eq_S, es, ha, hneg, hz0]
              exact ⟨false, fun q => absurd q (by simp), fun q => absurd q Bool.false_ne_true, fun q => absurd q (by simp), rfl, B4.weak (by omega), Gm.refl⟩
      rintro s h6 ⟨neg, n1, n2, n3, rfl, B6, g6⟩
      have tm : ∃ t : Tm, t = ⟨neg, bare, z.natAbs, i⟩ := ⟨_, rfl⟩
      obtain ⟨t, et⟩ := tm
      have tok : t.ok := by rw [et]; exact ⟨hbare, gz.small, hi⟩
      have tval : t.val = z := by
        rw [et]
        unfold Tm.val
        cases neg with
        | true => have := n2 rfl; simp only [if_true]; omega
        | false =>
          have : ¬ z < 0 := fun q => by have := n1 q; cases this
          simp only [Bool.false_eq_true, if_false]; omega
      have tbody : t.body = sz ++ 91 :: (numL i ++ [93]) := by rw [← esz, et]; rfl
      have tadd : termsL (ts ++ [t]) = acc ++ (if acc = [] then (if neg then [45] else []) else if neg then [32, 45, 32] else [32, 43, 32]) ++ (sz ++ 91 :: (numL i ++ [93])) := by
        rw [termsL_snoc, eacc, ← tbody, et]
        rfl
      refine glue_term rfl rfl rfl rfl hi (by omega) (by split <;> split <;> simp) hsz ?_
      refine ⟨hj, ts ++ [t], _, _, _, _, by rw [tadd]; rfl, ?_, ?_, ?_, B6.weak (by omega), g2.trans (g4.trans g6)⟩
      · rw [List.map_append, hpr, take_snoc hj, epj]
        show _ ++ [t.pair] = _
        rw [show t.pair = (z, i) by unfold Tm.pair; rw [tval, et]]
      · intro u hu
        rcases List.mem_append.mp hu with q | q
        · exact hok u q
        · rw [List.mem_singleton.mp q]; exact tok
      · refine neg_snoc hng fun q1 q2 => .inr ?_
        rw [et] at q2 ⊢
        have := n3 (hne.mpr q1) q2
        show z.natAbs ≠ 0
        omega
    · rintro s h2 ⟨_, ts, a, c, d, f, rfl, hpr, hok, hng, B2, g2⟩
      rw [List.length_map, List.take_length] at hpr
      rw [List.length_map] at B2
      exact ⟨ts, _, _, _, _, rfl, hpr, hok, hng, B2.weak (by omega), g2⟩
  rintro s h2 ⟨ts, a, c, d, f, rfl, hpr, hok, hng, B2, g2⟩
  have es := sm_terms ts
  by_cases h0 : ts = []
  · simp only [seqD, ifD, retD, retND, dropD, setD, nextD, varD, conD, bin2, un1, testD, boolR, notT, andT, orT, ifE, andV, orV, notV, tupD, lstD, cbD, nilD, consD, asgD, parD, nameG, tupG, consG, nilG, setItD, augD, augItD, methD, forD, whileD, lcD, lc2D, sliceD, someD, noneD, chain3, truD, truR, orTD, andTD, notTD, joinedD, glueD, lstRg, rg1, rg2, itRg1, itRg2, itSeq, itEn, dnewKD, newK, newL, maxKD, yesT, wipeA, cmpI, add_I, sub_I, negA, ok_bind, sizeLine_eq, Nat.reduceLeDiff, eq_I, isi_tup, isi_str, isi_int, isi_boo, len_tup, qlt, qle, qgt, qge, rg_if, ev_ok, ev_bind, ev_if, ev_call, es_nx, es_rt, es_seq, es_then, es_if, List.getElem?_cons_succ, List.getElem?_cons_zero, List.set_cons_succ, List.set_cons_zero, List.length_cons, List.length_nil, List.map_cons, List.map_nil, List.replicate, List.cons_append, List.nil_append, Option.bind_some, Option.map_some, Bool.not_true, Bool.not_false, Bool.false_eq_true, if_true, if_false, decide_true, decide_false, true_and, and_true, Nat.zero_add, Nat.add_zero, Nat.reduceAdd, Nat.reduceSub, reduceIte, Nat.sub_self, Nat.succ_sub_succ_eq_sub, Nat.add_one_sub_one, c_lp, c_rp, c_sp, c_co, c_lb, c_rb, c_mi, c_pl, c_0, c_un, c_m0, c_em, c_sm, c_ss, c_fi, m_lp, m_rp, m_sp, m_co, m_lb, m_rb, m_mi, m_pl, m_0, m_un, m_m0, m_em, m_sm, m_ss, eq_S, es, h0, termsL_nil]
    exact ⟨[], rfl, by rw [← h0]; exact hpr, by simp, fun t r z => by simp at z, B2, g2⟩
  · simp only [seqD, ifD, retD, retND, dropD, setD, nextD, varD, conD, bin2, un1, testD, boolR, notT, andT, orT, ifE, andV, orV, notV, tupD, lstD, cbD, nilD, consD, asgD, parD, nameG, tupG, consG, nilG, setItD, augD, augItD, methD, forD, whileD, lcD, lc2D, sliceD, someD, noneD, chain3, truD, truR, orTD, andTD, notTD, joinedD, glueD, lstRg, rg1, rg2, itRg1, itRg2, itSeq, itEn, dnewKD, newK, newL, maxKD, yesT, wipeA, cmpI, add_I, sub_I, negA, ok_bind, sizeLine_eq, Nat.reduceLeDiff, eq_I, isi_tup, isi_str, isi_int, isi_boo, len_tup, qlt, qle, qgt, qge, rg_if, ev_ok, ev_bind, ev_if, ev_call, es_nx, es_rt, es_seq, es_then, es_if, List.getElem?_cons_succ, List.getElem?_cons_zero, List.set_cons_succ, List.set_cons_zero, List.length_cons, List.length_nil, List.map_cons, List.map_nil, List.replicate, List.cons_append, List.nil_append, Option.bind_some, Option.map_some, Bool.not_true, Bool.not_false, Bool.false_eq_true, if_true, if_false, decide_true, decide_false, true_and, and_true, Nat.zero_add, Nat.add_zero, Nat.reduceAdd, Nat.reduceSub, reduceIte, Nat.sub_self, Nat.succ_sub_succ_eq_sub, Nat.add_one_sub_one, c_lp, c_rp, c_sp, c_co, c_lb, c_rb, c_mi, c_pl, c_0, c_un, c_m0, c_em, c_sm, c_ss, c_fi, m_lp, m_rp, m_sp, m_co, m_lb, m_rb, m_mi, m_pl, m_0, m_un, m_m0, m_em, m_sm, m_ss, eq_S, es, termsL_ne h0]
    exact ⟨ts, by unfold textL; rw [if_neg h0], hpr, hok, hng, B2, g2⟩
end Dn

set_option maxHeartbeats 4000000
namespace Dn
open PySem
open TL (numL joinL)
/-! ### kinds, there and back -/
theorem tm_val (z : Int) (i : Nat) : (tmOf z i).pair = (z, i) := by
  unfold Tm.pair Tm.val tmOf
  by_cases h : z < 0
  · simp only [h, decide_true, if_true]
    rw [show -(z.natAbs : Int) = z by omega]
  · simp only [h, decide_false, Bool.false_eq_true, if_false]
    rw [show (z.natAbs : Int) = z by omega]
theorem sum_kT (zs : List Int) : ∀ j, j ≤ zs.length → ((kT (zs.take j)).map Tm.pair).foldl addK (List.replicate zs.length 0) = zs.take j ++ List.replicate (zs.length - j) 0
  | 0, _ => by simp [kT]
  | j + 1, hj => by
    have ih := sum_kT zs j (by omega)
    rw [take_snoc (show j < zs.length by omega), kT_snoc, List.map_append, List.foldl_append, ih, List.length_take, Nat.min_eq_left (by omega)]
    have e : List.replicate (zs.length - j) (0 : Int) = 0 :: List.replicate (zs.length - (j + 1)) 0 := by
      rw [show zs.length - j = (zs.length - (j + 1)) + 1 by omega, List.replicate_succ]
    have hl : (zs.take j).length = j := by rw [List.length_take]; omega
    by_cases h0 : zs[j] = 0
    · rw [if_pos h0, e, h0]
      simp
    · rw [if_neg h0, e]
      simp only [List.map_cons, List.map_nil, List.foldl_cons, List.foldl_nil, tm_val]
      unfold addK
      simp only
      rw [List.getD_eq_getElem?_getD, List.getElem?_append_right (by omega), hl, Nat.sub_self]
      simp only [List.getElem?_cons_zero, Option.getD_some, Int.zero_add]
      rw [List.set_append_right _ _ (by omega), hl, Nat.sub_self, List.set_cons_zero, List.append_assoc]
      rfl
theorem sumK_kT (zs : List Int) : sumK zs.length ((kT zs).map Tm.pair) = zs := by
  have q := sum_kT zs zs.length (Nat.le_refl _)
  rw [List.take_length, Nat.sub_self, List.replicate_zero, List.append_nil] at q
  exact q
theorem kT_ix {zs : List Int} : ∀ t ∈ kT zs, t.i < zs.length := by
  intro t ht
  obtain ⟨p, hp, e⟩ := List.mem_filterMap.mp ht
  obtain ⟨i, hi⟩ := List.mem_iff_getElem?.mp hp
  rw [List.getElem?_zipIdx] at hi
  obtain ⟨z, hz, rfl⟩ := Option.map_eq_some_iff.mp hi
  by_cases h0 : z = 0
  · simp [h0] at e
  · simp only [h0, if_false, Option.some.injEq] at e
    subst e
    have hb := (List.getElem?_eq_some_iff.mp hz).1
    show 0 + i < zs.length
    omega
theorem kT_neg (zs : List Int) : NegOk (kT zs) := by
  intro t r e hn
  refine .inr ?_
  have ht : t ∈ kT zs := by rw [e]; exact List.mem_cons_self
  obtain ⟨p, hp, e2⟩ := List.mem_filterMap.mp ht
  by_cases h0 : p.1 = 0
  · simp [h0] at e2
  · simp only [h0, if_false, Option.some.injEq] at e2
    subst e2
    show p.1.natAbs ≠ 0
    omega
theorem text_len {ts : List Tm} (h : ∀ t ∈ ts, t.ok) (hl : ts.length ≤ 200000) : (textL ts).length ≤ ts.length * 67 + 1 := by
  unfold textL
  split
  · simp
  · have := termsL_len h; omega
theorem add_L {p r : Nat} {xs ys : List A} {h : Hs} (e1 : h[p]? = some (.lst xs)) (e2 : h[r]? = some (.lst ys)) (hl : xs.length + ys.length ≤ 16777216) : addA (.ref p) (.ref r) h = newL (xs ++ ys) h := by
  have q1 : lstOf h (.ref p) = some xs := by unfold lstOf; dsimp only; rw [e1]
  have q2 : lstOf h (.ref r) = some ys := by unfold lstOf; dsimp only; rw [e2]
  unfold addA
  dsimp only
  rw [q1, q2]
  dsimp only
  rw [if_pos (small_line hl)]
theorem all_pairs {P : Int × Nat → Prop} : ∀ {ys : List A}, (∀ a ∈ ys, ∃ q, a = pairA q ∧ P q) → ∃ qs : List (Int × Nat), ys = qs.map pairA ∧ ∀ q ∈ qs, P q
  | [], _ => ⟨[], rfl, by simp⟩
  | a :: ys, h => by
    obtain ⟨q, rfl, hq⟩ := h a List.mem_cons_self
    obtain ⟨qs, rfl, hqs⟩ := all_pairs (ys := ys) fun a ha => h a (List.mem_cons_of_mem _ ha)
    refine ⟨q :: qs, rfl, fun r hr => ?_⟩
    rcases List.mem_cons.mp hr with rfl | hr
    · exact hq
    · exact hqs r hr
theorem Bag.keepm {h h' : Hs} {b k p : Nat} (z : Bag h b k) (g : Gm (some p) h h') (hp : b ≠ p) : Bag h' b k := by
  obtain ⟨x, y, w, e, r⟩ := z
  exact ⟨x, y, w, g.get e (by simp [hp]), r⟩
theorem tup2 {f : DA} {n : Nat} {s : Sl} {h : Hs} {a c : A} (e : f n s h = .ok [a, c] h) : tupD f n s h = .ok (.tup [a, c]) h := by
  unfold tupD
  rw [e, ok_bind, if_pos (small_line (by simp))]
/-- one turn: number - part and part, those that are kept -/
theorem two_terms {X : Xn → Hs → Prop} {n b k idx : Nat} {z w : Int} {s : Sl} {h0 h : Hs} {Q : List A → Hs → Prop} (hn : 5000 ≤ n) (hk : k ≤ 80000) (hs0 : s[0]? = some (some (.ref b))) (hs4 : s[4]? = some (some (.int (idx : Int)))) (hl : s.length = 11) (B : Bag h b k) (g : Gm (some b) h0 h)
    (q : ∀ (qs : List (Int × Nat)) h', qs.length ≤ 2 → (∀ r ∈ qs, r.2 = idx) → Bag h' b (k + 2) → Gm (some b) h0 h' → Q (qs.map pairA) h') :
    Ev X (lcL (stepX [.int z, .int w]) (nameG 10) (orT (testD (bin2 (eqA true) (varD 10) (conD (.int 0)))) (testD (bin2 (eqA false) (callD 2 f__law_grab (consD (varD 0) (consD (conD (.int 9)) nilD))) (conD (.int 0))))) (tupD (consD (varD 10) (consD (varD 4) nilD))) n n 0 [] s h) Q := by
  refine lc_any (m := 2) (fun j acc h' => j ≤ 2 ∧ ∃ qs : List (Int × Nat), acc = qs.map pairA ∧ qs.length ≤ j ∧ (∀ r ∈ qs, r.2 = idx) ∧ Bag h' b (k + j) ∧ Gm (some b) h0 h') ?_ ?_ 2 n 0 [] h rfl (by omega) ⟨Nat.zero_le _, [], rfl, Nat.le_refl _, by simp, B, g⟩
  · rintro j acc h' hj ⟨_, qs, rfl, hql, hqi, B', g'⟩
    have hx : ∃ x : Int, ([A.int z, A.int w] : List A)[j]? = some (.int x) := by
      rcases (by omega : j = 0 ∨ j = 1) with z0 | z0
      · exact ⟨z, by rw [z0]; rfl⟩
      · exact ⟨w, by rw [z0]; rfl⟩
    obtain ⟨x, hx⟩ := hx
    refine ⟨.int x, _, by unfold stepX; rw [hx], rfl, ?_⟩
    have g10 : (s.set 10 (some (.int x)))[10]? = some (some (.int x)) := List.getElem?_set_self (by omega)
    have g0 : (s.set 10 (some (.int x)))[0]? = some (some (.ref b)) := by rw [List.getElem?_set_ne (by decide)]; exact hs0
    have g4 : (s.set 10 (some (.int x)))[4]? = some (some (.int (idx : Int))) := by rw [List.getElem?_set_ne (by decide)]; exact hs4
    generalize s.set 10 (some (.int x)) = s2 at g10 g0 g4 ⊢
    have fin : ∀ h2, Bag h2 b (k + (j + 1)) → Gm (some b) h0 h2 → Ev NoX (tupD (consD (varD 10) (consD (varD 4) nilD)) n s2 h2) fun a h2 => (qs.map pairA).length < sizeLine ∧ j + 1 ≤ 2 ∧ ∃ qs' : List (Int × Nat), qs.map pairA ++ [a] = qs'.map pairA ∧ qs'.length ≤ j + 1 ∧ (∀ r ∈ qs', r.2 = idx) ∧ Bag h2 b (k + (j + 1)) ∧ Gm (some b) h0 h2 := fun h2 B2 g2 => by
      rw [tup2 (show consD (varD 10) (consD (varD 4) nilD) n s2 h2 = .ok [.int x, .int (idx : Int)] h2 by simp only [consD, nilD, varD, g10, g4, ok_bind]), ev_ok]
      refine ⟨lt_line (by rw [List.length_map]; omega), by omega, qs ++ [(x, idx)], by rw [List.map_append]; rfl, by rw [List.length_append]; simp; omega, ?_, B2, g2⟩
      intro r hr
      rcases List.mem_append.mp hr with c | c
      · exact hqi r c
      · rw [List.mem_singleton.mp c]
    by_cases hx0 : x = 0
    · have d0 : decide (x = 0) = true := decide_eq_true hx0
      simp only [orT, testD, boolR, bin2, varD, conD, callD, consD, nilD, g10, g0, ok_bind, ev_bind, eq_I, d0, Bool.not_true, if_true, Bool.false_eq_true, if_false, List.length_cons, List.length_nil, Nat.reduceAdd, ev_ok]
      refine (grab_ok (t := 9) B' (by omega) (by decide) (log_nat (by decide))).mono fun a h2 qq => ?_
      obtain ⟨v, rfl, hv, B2, g2⟩ := qq
      by_cases hv0 : (v : Int) = 0
      · simp only [hv0, ok_bind, eq_I, decide_true, Bool.false_eq_true, if_false, if_true, ev_ok]
        exact fin h2 B2 (g'.trans g2)
      · simp only [ok_bind, eq_I, hv0, decide_false, Bool.false_eq_true, if_false, if_true, ev_ok]
        exact ⟨by omega, qs, rfl, by omega, hqi, B2, g'.trans g2⟩
    · have d0 : decide (x = 0) = false := decide_eq_false hx0
      simp only [orT, testD, boolR, bin2, varD, conD, g10, ok_bind, ev_bind, eq_I, d0, Bool.not_false, if_true, ev_ok]
      exact fin h' (B'.weak (by omega)) g'
  · rintro acc h' ⟨_, qs, rfl, hql, hqi, B', g'⟩
    exact ⟨rfl, q qs h' hql hqi B' g'⟩
/-- those whose number is not too great -/
theorem lc_small {X : Xn → Hs → Prop} {n r len : Nat} {qs : List (Int × Nat)} {s : Sl} {h : Hs} {Q : List A → Hs → Prop} (hn : qs.length < n) (hz : qs.length < 16777216) (hr : h[r]? = some (.lst (qs.map pairA))) (hqs : ∀ q ∈ qs, q.2 < len) (hl : s.length = 11)
    (q : ∀ fs : List (Int × Nat), fs.length ≤ qs.length → (∀ q ∈ fs, Good q.1 ∧ q.2 < len) → Q (fs.map pairA) h) :
    Ev X (lcL (stepL r) (tupG 2 (consG (nameG 5) (consG (nameG 4) nilG))) (testD (bin2 (cmpI qlt) (cbD bAbs (consD (varD 5) nilD)) (bin2 (intA powI) (conD (.int 10)) (conD (.int 60))))) (tupD (consD (varD 5) (consD (varD 4) nilD))) n n 0 [] s h) Q := by
  refine lc_any (m := qs.length) (fun j acc h' => j ≤ qs.length ∧ h' = h ∧ ∃ fs : List (Int × Nat), acc = fs.map pairA ∧ fs.length ≤ j ∧ ∀ q ∈ fs, Good q.1 ∧ q.2 < len) ?_ ?_ qs.length n 0 [] h (Nat.zero_add _) hn ⟨Nat.zero_le _, rfl, [], rfl, Nat.le_refl _, by simp⟩
  · rintro j acc h' hj ⟨_, rfl, fs, rfl, hfl, hfs⟩
    have hq := hqs qs[j] (List.getElem_mem hj)
    generalize ez : qs[j] = pq at hq
    obtain ⟨z, i⟩ := pq
    refine ⟨pairA (z, i), (s.set 5 (some (.int z))).set 4 (some (.int (i : Int))), by unfold stepL; rw [hr]; dsimp only; rw [List.getElem?_map, List.getElem?_eq_getElem hj, ez]; rfl, rfl, ?_⟩
    have g4 : ((s.set 5 (some (.int z))).set 4 (some (.int (i : Int))))[4]? = some (some (.int (i : Int))) := List.getElem?_set_self (by rw [List.length_set]; omega)
    have g5 : ((s.set 5 (some (.int z))).set 4 (some (.int (i : Int))))[5]? = some (some (.int z)) := by rw [List.getElem?_set_ne (by decide)]; exact List.getElem?_set_self (by omega)
    generalize (s.set 5 (some (.int z))).set 4 (some (.int (i : Int))) = s2 at g4 g5 ⊢
    have et : testD (bin2 (cmpI qlt) (cbD bAbs (consD (varD 5) nilD)) (bin2 (intA powI) (conD (.int 10)) (conD (.int 60)))) n s2 h' = .ok (decide ((z.natAbs : Int) < 1000000000000000000000000000000000000000000000000000000000000)) h' := by
      simp only [testD, boolR, bin2, cbD, consD, nilD, varD, conD, g5, ok_bind, abs_I, pow60, cmpI, qlt]
    rw [et, ev_ok]
    cases hsd : decide ((z.natAbs : Int) < 1000000000000000000000000000000000000000000000000000000000000) with
    | true =>
      have hsm := of_decide_eq_true hsd
      simp only [if_true]
      rw [tup2 (show consD (varD 5) (consD (varD 4) nilD) n s2 h' = .ok [.int z, .int (i : Int)] h' by simp only [consD, nilD, varD, g5, g4, ok_bind]), ev_ok]
      refine ⟨lt_line (by rw [List.length_map]; omega), hj, rfl, fs ++ [(z, i)], by rw [List.map_append]; rfl, by rw [List.length_append]; simp; omega, ?_⟩
      intro r hr
      rcases List.mem_append.mp hr with c | c
      · exact hfs r c
      · rw [List.mem_singleton.mp c]; exact ⟨⟨by show _ < z; omega, by show z < _; omega⟩, hq⟩
    | false =>
      simp only [Bool.false_eq_true, if_false]
      exact ⟨hj, trivial, fs, rfl, by omega, hfs⟩
  · rintro acc h' ⟨_, rfl, fs, rfl, hfl, hfs⟩
    exact ⟨by unfold stepL; rw [hr]; dsimp only; rw [List.getElem?_eq_none (by rw [List.length_map]; exact Nat.le_refl _)], q fs hfl hfs⟩
end Dn

set_option maxHeartbeats 4000000
namespace Dn
open PySem
open TL (numL joinL)
theorem ev_bin2 {X : Xn → Hs → Prop} {g : O2} {fa fb : DE} {n : Nat} {s : Sl} {h : Hs} {Q : A → Hs → Prop} : Ev X (bin2 g fa fb n s h) Q = Ev X (fa n s h) fun a h1 => Ev X (fb n s h1) fun b h2 => Ev X (g a b h2) Q := by
  unfold bin2
  rw [ev_bind]
  congr 1
  funext a h1
  rw [ev_bind]
theorem ev_cb1 {X : Xn → Hs → Prop} {g : List A → Hs → R A} {f : DE} {n : Nat} {s : Sl} {h : Hs} {Q : A → Hs → Prop} : Ev X (cbD g (consD f nilD) n s h) Q = Ev X (f n s h) fun a h1 => Ev X (g [a] h1) Q := by
  unfold cbD consD nilD
  rw [ev_bind, ev_bind]
  rfl
theorem ints_I (xs : List Int) : intsOf (xs.map A.int) = some xs := by
  induction xs with
  | nil => rfl
  | cons x xs ih => rw [List.map_cons, intsOf, ih]; rfl
theorem max_ref {p : Nat} {x : Int} {xs : List Int} {h : Hs} (e : h[p]? = some (.lst ((x :: xs).map A.int))) : bMax [.ref p] h = .ok (.int (maxL x xs)) h := by
  have q : (lsOf h (A.ref p)).bind intsOf = some (x :: xs) := by rw [lsOf_ref e]; exact ints_I (x :: xs)
  unfold bMax
  dsimp only
  rw [q]
theorem setI_ref {p i : Nat} {xs : List A} {a : A} {h : Hs} (e : h[p]? = some (.lst xs)) (hi : i < xs.length) : setItA h (.ref p) (.int (i : Int)) a = some (h.set p (.lst (xs.set i a))) := by
  have q : L2.ixN xs.length (i : Int) = some i := by
    unfold L2.ixN
    rw [if_pos (by omega), if_pos (by omega), Int.toNat_natCast]
  unfold setItA
  dsimp only
  rw [e]
  dsimp only
  rw [q]
  rfl
theorem due_step {n : Nat} {s : Sl} {h : Hs} {p i : Nat} {l : List Int} {v : Int} {T : Tl} (h7 : s[7]? = some (some (.ref p))) (h4 : s[4]? = some (some (.int (i : Int)))) (h5 : s[5]? = some (some (.int v))) (e : h[p]? = some (.lst (l.map A.int))) (hi : i < l.length)
    (q : T.nx s (h.set p (.lst ((addK l (v, i)).map A.int)))) : EvS (setItD (varD 7) (varD 4) (bin2 addA (bin2 ixA (varD 7) (varD 4)) (varD 5)) n s h) T := by
  have hg : (l.map A.int)[i]? = some (.int (l.getD i 0)) := by rw [List.getElem?_map, List.getElem?_eq_getElem hi, List.getD_eq_getElem?_getD, List.getElem?_eq_getElem hi]; rfl
  have e2 : (addK l (v, i)).map A.int = (l.map A.int).set i (.int (l.getD i 0 + v)) := by unfold addK; rw [List.map_set]
  have ea : addA (.int (l.getD i 0)) (.int v) h = .ok (.int (l.getD i 0 + v)) h := rfl
  simp only [setItD, bin2, varD, h7, h4, h5, ok_bind, es_then, ev_bind, ev_ok]
  rw [ix_ref e (atI_n hg), ev_ok, ea, ev_ok, setI_ref e (by rw [List.length_map]; exact hi)]
  dsimp only
  rw [es_nx, ← e2]
  exact q
/-- [abs(x) for x in due] -/
theorem lc_abs {X : Xn → Hs → Prop} {n p : Nat} {l : List Int} {s : Sl} {h : Hs} {Q : List A → Hs → Prop} (hn : l.length < n) (hz : l.length < 16777216) (hp : h[p]? = some (.lst (l.map A.int))) (hl : s.length = 11) (q : Q ((l.map fun x => (x.natAbs : Int)).map A.int) h) :
    Ev X (lcL (stepL p) (nameG 5) yesT (cbD bAbs (consD (varD 5) nilD)) n n 0 [] s h) Q := by
  refine lc_any (m := l.length) (fun j acc h' => j ≤ l.length ∧ acc = ((l.take j).map fun x => (x.natAbs : Int)).map A.int ∧ h' = h) ?_ ?_ l.length n 0 [] h (Nat.zero_add _) hn ⟨Nat.zero_le _, rfl, rfl⟩
  · rintro j acc h' hj ⟨_, rfl, rfl⟩
    refine ⟨.int l[j], _, by unfold stepL; rw [hp]; dsimp only; rw [List.getElem?_map, List.getElem?_eq_getElem hj]; rfl, rfl, ?_⟩
    have g5 : (s.set 5 (some (.int l[j])))[5]? = some (some (.int l[j])) := List.getElem?_set_self (by omega)
    rw [yesT, ev_ok]
    simp only [if_true]
    simp only [cbD, consD, nilD, varD, g5, ok_bind, abs_I, ev_ok]
    refine ⟨lt_line (by simp only [List.length_map, List.length_take]; omega), hj, ?_, trivial⟩
    rw [take_snoc hj, List.map_append, List.map_append]
    rfl
  · rintro acc h' ⟨_, rfl, rfl⟩
    rw [List.take_length]
    exact ⟨by unfold stepL; rw [hp]; dsimp only; rw [List.getElem?_eq_none (by rw [List.length_map]; exact Nat.le_refl _)], q⟩
theorem kinds_right_ok {n : Nat} {h : Hs} {b k : Nat} (hn : 5000 ≤ n) (B : Bag h b k) (hk : k ≤ 60000) : Ev NoX (f__law_kinds_right n [.ref b] h) fun a h' => a = .bl true ∧ Bag h' b (k + 1000) ∧ Gm (some b) h h' := by
  refine ev_body rfl ?_
  unfold d__law_kinds_right
  -- the kinds
  refine step_seq (fun s h' => ∃ zs : List Int, s = [some (.ref b), some (.tup (zs.map A.int)), none, none, none, none, none, none, none, none, none] ∧ 1 ≤ zs.length ∧ zs.length ≤ 40 ∧ (∀ z ∈ zs, Good z) ∧ Bag h' b (k + 200) ∧ Gm (some b) h h') ?_ ?_
  · simp only [seqD, ifD, retD, retND, dropD, setD, nextD, varD, conD, bin2, un1, testD, boolR, notT, andT, orT, ifE, andV, orV, notV, tupD, lstD, cbD, nilD, consD, asgD, parD, nameG, tupG, consG, nilG, setItD, augD, augItD, methD, forD, whileD, lcD, lc2D, sliceD, someD, noneD, chain3, truD, truR, orTD, andTD, notTD, joinedD, glueD, lstRg, rg1, rg2, itRg1, itRg2, itSeq, itEn, dnewKD, newK, newL, maxKD, yesT, wipeA, cmpI, add_I, sub_I, negA, ok_bind, sizeLine_eq, Nat.reduceLeDiff, eq_I, isi_tup, isi_str, isi_int, isi_boo, len_tup, qlt, qle, qgt, qge, rg_if, ev_ok, ev_bind, ev_if, ev_call, es_nx, es_rt, es_seq, es_then, es_if, List.getElem?_cons_succ, List.getElem?_cons_zero, List.set_cons_succ, List.set_cons_zero, List.length_cons, List.length_nil, List.map_cons, List.map_nil, List.replicate, List.cons_append, List.nil_append, Option.bind_some, Option.map_some, Bool.not_true, Bool.not_false, Bool.false_eq_true, if_true, if_false, decide_true, decide_false, true_and, and_true, Nat.zero_add, Nat.add_zero, Nat.reduceAdd, Nat.reduceSub, reduceIte, Nat.sub_self, Nat.succ_sub_succ_eq_sub, Nat.add_one_sub_one]
    refine (grab_ok (t := 6) B (by omega) (by decide) (log_nat (by decide))).mono fun x h1 q1 => ?_
    obtain ⟨u, rfl, hu, B1, g1⟩ := q1
    refine (grab_ok (t := 40) B1 (by omega) (by decide) (log_nat (by decide))).mono fun x h2 q2 => ?_
    obtain ⟨w, rfl, hw, B2, g2⟩ := q2
    refine two_of (a := 6) (c := 40) B2 (by omega) hu hw fun m h3 h1m hm B3 g3 => ?_
    simp only [seqD, ifD, retD, retND, dropD, setD, nextD, varD, conD, bin2, un1, testD, boolR, notT, andT, orT, ifE, andV, orV, notV, tupD, lstD, cbD, nilD, consD, asgD, parD, nameG, tupG, consG, nilG, setItD, augD, augItD, methD, forD, whileD, lcD, lc2D, sliceD, someD, noneD, chain3, truD, truR, orTD, andTD, notTD, joinedD, glueD, lstRg, rg1, rg2, itRg1, itRg2, itSeq, itEn, dnewKD, newK, newL, maxKD, yesT, wipeA, cmpI, add_I, sub_I, negA, ok_bind, sizeLine_eq, Nat.reduceLeDiff, eq_I, isi_tup, isi_str, isi_int, isi_boo, len_tup, qlt, qle, qgt, qge, rg_if, ev_ok, ev_bind, ev_if, ev_call, es_nx, es_rt, es_seq, es_then, es_if, List.getElem?_cons_succ, List.getElem?_cons_zero, List.set_cons_succ, List.set_cons_zero, List.length_cons, List.length_nil, List.map_cons, List.map_nil, List.replicate, List.cons_append, List.nil_append, Option.bind_some, Option.map_some, Bool.not_true, Bool.not_false, Bool.false_eq_true, if_true, if_false, decide_true, decide_false, true_and, and_true, Nat.zero_add, Nat.add_zero, Nat.reduceAdd, Nat.reduceSub, reduceIte, Nat.sub_self, Nat.succ_sub_succ_eq_sub, Nat.add_one_sub_one]
    rw [if_pos (by omega : (m : Int).natAbs < 2 ^ 62), Int.toNat_natCast]
    refine lc_numbers (h0 := h) hn (by omega) (by omega) rfl (by decide) B3 (g1.trans (g2.trans g3)) fun zs h4 hl gz B4 g4 => ?_
    rw [tuple_ref get_app, ev_ok]
    exact ⟨zs, rfl, by omega, by omega, gz, (B4.keep Gm.refl.app).weak (by omega), g4.trans (Gm.weak Gm.refl.app)⟩
  rintro s h1 ⟨zs, rfl, hz1, hz2, gz, B1, g1⟩
  have hkl := kT_len zs
  have hok := kT_ok gz (by omega)
  have htl := text_len hok (by omega)
  -- its text
  refine step_seq (fun s h' => s = [some (.ref b), some (.tup (zs.map A.int)), some (.str (S (textL (kT zs)))), none, none, none, none, none, none, none, none] ∧ h' = h1) ?_ ?_
  · simp only [seqD, ifD, retD, retND, dropD, setD, nextD, varD, conD, bin2, un1, testD, boolR, notT, andT, orT, ifE, andV, orV, notV, tupD, lstD, cbD, nilD, consD, asgD, parD, nameG, tupG, consG, nilG, setItD, augD, augItD, methD, forD, whileD, lcD, lc2D, sliceD, someD, noneD, chain3, truD, truR, orTD, andTD, notTD, joinedD, glueD, lstRg, rg1, rg2, itRg1, itRg2, itSeq, itEn, dnewKD, newK, newL, maxKD, yesT, wipeA, cmpI, add_I, sub_I, negA, ok_bind, sizeLine_eq, Nat.reduceLeDiff, eq_I, isi_tup, isi_str, isi_int, isi_boo, len_tup, qlt, qle, qgt, qge, rg_if, ev_ok, ev_bind, ev_if, ev_call, es_nx, es_rt, es_seq, es_then, es_if, List.getElem?_cons_succ, List.getElem?_cons_zero, List.set_cons_succ, List.set_cons_zero, List.length_cons, List.length_nil, List.map_cons, List.map_nil, List.replicate, List.cons_append, List.nil_append, Option.bind_some, Option.map_some, Bool.not_true, Bool.not_false, Bool.false_eq_true, if_true, if_false, decide_true, decide_false, true_and, and_true, Nat.zero_add, Nat.add_zero, Nat.reduceAdd, Nat.reduceSub, reduceIte, Nat.sub_self, Nat.succ_sub_succ_eq_sub, Nat.add_one_sub_one, law_kinds_text_ok hn (show zs.length ≤ 60 by omega) gz, and_self]
  rintro s h' ⟨rfl, rfl⟩
  -- written and read
  refine step_seq (fun s h2 => s = [some (.ref b), some (.tup (zs.map A.int)), some (.str (S (textL (kT zs)))), none, none, none, none, none, none, none, none] ∧ Bag h2 b (k + 200) ∧ Gm (some b) h h2) ?_ ?_
  · simp only [seqD, ifD, retD, retND, dropD, setD, nextD, varD, conD, bin2, un1, testD, boolR, notT, andT, orT, ifE, andV, orV, notV, tupD, lstD, cbD, nilD, consD, asgD, parD, nameG, tupG, consG, nilG, setItD, augD, augItD, methD, forD, whileD, lcD, lc2D, sliceD, someD, noneD, chain3, truD, truR, orTD, andTD, notTD, joinedD, glueD, lstRg, rg1, rg2, itRg1, itRg2, itSeq, itEn, dnewKD, newK, newL, maxKD, yesT, wipeA, cmpI, add_I, sub_I, negA, ok_bind, sizeLine_eq, Nat.reduceLeDiff, eq_I, isi_tup, isi_str, isi_int, isi_boo, len_tup, qlt, qle, qgt, qge, rg_if, ev_ok, ev_bind, ev_if, ev_call, es_nx, es_rt, es_seq, es_then, es_if, List.getElem?_cons_succ, List.getElem?_cons_zero, List.set_cons_succ, List.set_cons_zero, List.length_cons, List.length_nil, List.map_cons, List.map_nil, List.replicate, List.cons_append, List.nil_append, Option.bind_some, Option.map_some, Bool.not_true, Bool.not_false, Bool.false_eq_true, if_true, if_false, decide_true, decide_false, true_and, and_true, Nat.zero_add, Nat.add_zero, Nat.reduceAdd, Nat.reduceSub, reduceIte, Nat.sub_self, Nat.succ_sub_succ_eq_sub, Nat.add_one_sub_one]
    refine (write_kinds_ok hn hz1 (by omega) gz).mono fun a h3 q => ?_
    obtain ⟨rfl, g3⟩ := q
    simp only [eq_S (sm_text (kT zs)) (sm_text (kT zs)), seqD, ifD, retD, retND, dropD, setD, nextD, varD, conD, bin2, un1, testD, boolR, notT, andT, orT, ifE, andV, orV, notV, tupD, lstD, cbD, nilD, consD, asgD, parD, nameG, tupG, consG, nilG, setItD, augD, augItD, methD, forD, whileD, lcD, lc2D, sliceD, someD, noneD, chain3, truD, truR, orTD, andTD, notTD, joinedD, glueD, lstRg, rg1, rg2, itRg1, itRg2, itSeq, itEn, dnewKD, newK, newL, maxKD, yesT, wipeA, cmpI, add_I, sub_I, negA, ok_bind, sizeLine_eq, Nat.reduceLeDiff, eq_I, isi_tup, isi_str, isi_int, isi_boo, len_tup, qlt, qle, qgt, qge, rg_if, ev_ok, ev_bind, ev_if, ev_call, es_nx, es_rt, es_seq, es_then, es_if, List.getElem?_cons_succ, List.getElem?_cons_zero, List.set_cons_succ, List.set_cons_zero, List.length_cons, List.length_nil, List.map_cons, List.map_nil, List.replicate, List.cons_append, List.nil_append, Option.bind_some, Option.map_some, Bool.not_true, Bool.not_false, Bool.false_eq_true, if_true, if_false, decide_true, decide_false, true_and, and_true, Nat.zero_add, Nat.add_zero, Nat.reduceAdd, Nat.reduceSub, reduceIte, Nat.sub_self, Nat.succ_sub_succ_eq_sub, Nat.add_one_sub_one, List.length_map]
    refine (read_kinds_ok (ts := kT zs) (len := zs.length) hn ⟨hz1, by omega⟩ (fun t ht => ⟨hok t ht, kT_ix t ht⟩) (kT_neg zs) (by omega) (by omega) (by rw [sumK_kT]; exact gz)).mono fun a h4 q => ?_
    rw [sumK_kT] at q
    obtain ⟨rfl, g4⟩ := q
    simp only [eq_tupI, seqD, ifD, retD, retND, dropD, setD, nextD, varD, conD, bin2, un1, testD, boolR, notT, andT, orT, ifE, andV, orV, notV, tupD, lstD, cbD, nilD, consD, asgD, parD, nameG, tupG, consG, nilG, setItD, augD, augItD, methD, forD, whileD, lcD, lc2D, sliceD, someD, noneD, chain3, truD, truR, orTD, andTD, notTD, joinedD, glueD, lstRg, rg1, rg2, itRg1, itRg2, itSeq, itEn, dnewKD, newK, newL, maxKD, yesT, wipeA, cmpI, add_I, sub_I, negA, ok_bind, sizeLine_eq, Nat.reduceLeDiff, eq_I, isi_tup, isi_str, isi_int, isi_boo, len_tup, qlt, qle, qgt, qge, rg_if, ev_ok, ev_bind, ev_if, ev_call, es_nx, es_rt, es_seq, es_then, es_if, List.getElem?_cons_succ, List.getElem?_cons_zero, List.set_cons_succ, List.set_cons_zero, List.length_cons, List.length_nil, List.map_cons, List.map_nil, List.replicate, List.cons_append, List.nil_append, Option.bind_some, Option.map_some, Bool.not_true, Bool.not_false, Bool.false_eq_true, if_true, if_false, decide_true, decide_false, true_and, and_true, Nat.zero_add, Nat.add_zero, Nat.reduceAdd, Nat.reduceSub, reduceIte, Nat.sub_self, Nat.succ_sub_succ_eq_sub, Nat.add_one_sub_one]
    exact ⟨B1.keep (g3.trans g4), g1.trans (g3.trans g4).weak⟩
  rintro s h2 ⟨rfl, B2, g2⟩
  -- terms = []
  have hb2 := B2.lt
  refine step_seq (fun s h3 => s = [some (.ref b), some (.tup (zs.map A.int)), some (.str (S (textL (kT zs)))), some (.ref h2.length), none, none, none, none, none, none, none] ∧ h3 = h2 ++ [.lst []]) ?_ ?_
  · simp only [seqD, ifD, retD, retND, dropD, setD, nextD, varD, conD, bin2, un1, testD, boolR, notT, andT, orT, ifE, andV, orV, notV, tupD, lstD, cbD, nilD, consD, asgD, parD, nameG, tupG, consG, nilG, setItD, augD, augItD, methD, forD, whileD, lcD, lc2D, sliceD, someD, noneD, chain3, truD, truR, orTD, andTD, notTD, joinedD, glueD, lstRg, rg1, rg2, itRg1, itRg2, itSeq, itEn, dnewKD, newK, newL, maxKD, yesT, wipeA, cmpI, add_I, sub_I, negA, ok_bind, sizeLine_eq, Nat.reduceLeDiff, eq_I, isi_tup, isi_str, isi_int, isi_boo, len_tup, qlt, qle, qgt, qge, rg_if, ev_ok, ev_bind, ev_if, ev_call, es_nx, es_rt, es_seq, es_then, es_if, List.getElem?_cons_succ, List.getElem?_cons_zero, List.set_cons_succ, List.set_cons_zero, List.length_cons, List.length_nil, List.map_cons, List.map_nil, List.replicate, List.cons_append, List.nil_append, Option.bind_some, Option.map_some, Bool.not_true, Bool.not_false, Bool.false_eq_true, if_true, if_false, decide_true, decide_false, true_and, and_true, Nat.zero_add, Nat.add_zero, Nat.reduceAdd, Nat.reduceSub, reduceIte, Nat.sub_self, Nat.succ_sub_succ_eq_sub, Nat.add_one_sub_one, and_self]
  rintro s h3 ⟨rfl, rfl⟩
  -- the terms
  refine step_seq (fun s h4 => ∃ (p : Nat) (a c d : Option A) (ps : List (Int × Nat)), s = [some (.ref b), some (.tup (zs.map A.int)), some (.str (S (textL (kT zs)))), some (.ref p), a, c, d, none, none, none, none] ∧ p ≠ b ∧ h4[p]? = some (.lst (ps.map pairA)) ∧ ps.length ≤ 2 * zs.length ∧ (∀ q ∈ ps, q.2 < zs.length) ∧ Bag h4 b (k + 200 + 4 * zs.length) ∧ Gm (some b) h h4) ?_ ?_
  · simp only [forD, itEn, consD, nilD, varD, List.getElem?_cons_zero, List.getElem?_cons_succ, ok_bind, es_then, ev_ok]
    refine for_ex (by rw [List.length_map]; omega) (fun j s h4 => j ≤ zs.length ∧ ∃ (p : Nat) (a c d : Option A) (ps : List (Int × Nat)), s = [some (.ref b), some (.tup (zs.map A.int)), some (.str (S (textL (kT zs)))), some (.ref p), a, c, d, none, none, none, none] ∧ p ≠ b ∧ h4[p]? = some (.lst (ps.map pairA)) ∧ ps.length ≤ 2 * j ∧ (∀ q ∈ ps, q.2 < zs.length) ∧ Bag h4 b (k + 200 + 4 * j) ∧ Gm (some b) h h4)
      ⟨Nat.zero_le _, _, _, _, _, [], rfl, by omega, get_app, Nat.le_refl _, by simp, B2.keep Gm.refl.app, g2.trans (Gm.weak Gm.refl.app)⟩ ?_ ?_
    · rintro j s h4 hj ⟨_, p, a, c, d, ps, rfl, hpb, gp, hpl, hpi, B4, g4⟩
      rw [List.length_map] at hj
      refine ⟨[some (.ref b), some (.tup (zs.map A.int)), some (.str (S (textL (kT zs)))), some (.ref p), some (.int (j : Int)), some (.int zs[j]), d, none, none, none, none], by rw [List.getElem_map]; rfl, ?_⟩
      refine step_seq (fun s h5 => ∃ w : Int, s = [some (.ref b), some (.tup (zs.map A.int)), some (.str (S (textL (kT zs)))), some (.ref p), some (.int (j : Int)), some (.int zs[j]), some (.int w), none, none, none, none] ∧ Bag h5 b (k + 200 + 4 * j + 2) ∧ Gm (some b) h4 h5) ?_ ?_
      · simp only [seqD, ifD, retD, retND, dropD, setD, nextD, varD, conD, bin2, un1, testD, boolR, notT, andT, orT, ifE, andV, orV, notV, tupD, lstD, cbD, nilD, consD, asgD, parD, nameG, tupG, consG, nilG, setItD, augD, augItD, methD, forD, whileD, lcD, lc2D, sliceD, someD, noneD, chain3, truD, truR, orTD, andTD, notTD, joinedD, glueD, lstRg, rg1, rg2, itRg1, itRg2, itSeq, itEn, dnewKD, newK, newL, maxKD, yesT, wipeA, cmpI, add_I, sub_I, negA, ok_bind, sizeLine_eq, Nat.reduceLeDiff, eq_I, isi_tup, isi_str, isi_int, isi_boo, len_tup, qlt, qle, qgt, qge, rg_if, ev_ok, ev_bind, ev_if, ev_call, es_nx, es_rt, es_seq, es_then, es_if, List.getElem?_cons_succ, List.getElem?_cons_zero, List.set_cons_succ, List.set_cons_zero, List.length_cons, List.length_nil, List.map_cons, List.map_nil, List.replicate, List.cons_append, List.nil_append, Option.bind_some, Option.map_some, Bool.not_true, Bool.not_false, Bool.false_eq_true, if_true, if_false, decide_true, decide_false, true_and, and_true, Nat.zero_add, Nat.add_zero, Nat.reduceAdd, Nat.reduceSub, reduceIte, Nat.sub_self, Nat.succ_sub_succ_eq_sub, Nat.add_one_sub_one]
        refine (grab_ok (t := 3) B4 (by omega) (by decide) (log_nat (by decide))).mono fun x h5 q => ?_
        obtain ⟨v, rfl, hv, B5, g5⟩ := q
        by_cases hv0 : (v : Int) = 0
        · simp only [hv0, seqD, ifD, retD, retND, dropD, setD, nextD, varD, conD, bin2, un1, testD, boolR, notT, andT, orT, ifE, andV, orV, notV, tupD, lstD, cbD, nilD, consD, asgD, parD, nameG, tupG, consG, nilG, setItD, augD, augItD, methD, forD, whileD, lcD, lc2D, sliceD, someD, noneD, chain3, truD, truR, orTD, andTD, notTD, joinedD, glueD, lstRg, rg1, rg2, itRg1, itRg2, itSeq, itEn, dnewKD, newK, newL, maxKD, yesT, wipeA, cmpI, add_I, sub_I, negA, ok_bind, sizeLine_eq, Nat.reduceLeDiff, eq_I, isi_tup, isi_str, isi_int, isi_boo, len_tup, qlt, qle, qgt, qge, rg_if, ev_ok, ev_bind, ev_if, ev_call, es_nx, es_rt, es_seq, es_then, es_if, List.getElem?_cons_succ, List.getElem?_cons_zero, List.set_cons_succ, List.set_cons_zero, List.length_cons, List.length_nil, List.map_cons, List.map_nil, List.replicate, List.cons_append, List.nil_append, Option.bind_some, Option.map_some, Bool.not_true, Bool.not_false, Bool.false_eq_true, if_true, if_false, decide_true, decide_false, true_and, and_true, Nat.zero_add, Nat.add_zero, Nat.reduceAdd, Nat.reduceSub, reduceIte, Nat.sub_self, Nat.succ_sub_succ_eq_sub, Nat.add_one_sub_one]
          refine (one_of_ok (B5.keep Gm.refl.app) (by omega) get_app (by have := B5.lt; omega) (by simp) (by simp)).mono fun a h6 q => ?_
          obtain ⟨⟨i, hi⟩, B6, g6⟩ := q
          have hm := List.mem_of_getElem? hi
          simp only [List.mem_cons, List.not_mem_nil, or_false] at hm
          rcases hm with rfl | rfl | rfl | rfl <;> exact ⟨_, rfl, B6, g5.trans ((Gm.weak Gm.refl.app).trans g6)⟩
        · simp only [hv0, seqD, ifD, retD, retND, dropD, setD, nextD, varD, conD, bin2, un1, testD, boolR, notT, andT, orT, ifE, andV, orV, notV, tupD, lstD, cbD, nilD, consD, asgD, parD, nameG, tupG, consG, nilG, setItD, augD, augItD, methD, forD, whileD, lcD, lc2D, sliceD, someD, noneD, chain3, truD, truR, orTD, andTD, notTD, joinedD, glueD, lstRg, rg1, rg2, itRg1, itRg2, itSeq, itEn, dnewKD, newK, newL, maxKD, yesT, wipeA, cmpI, add_I, sub_I, negA, ok_bind, sizeLine_eq, Nat.reduceLeDiff, eq_I, isi_tup, isi_str, isi_int, isi_boo, len_tup, qlt, qle, qgt, qge, rg_if, ev_ok, ev_bind, ev_if, ev_call, es_nx, es_rt, es_seq, es_then, es_if, List.getElem?_cons_succ, List.getElem?_cons_zero, List.set_cons_succ, List.set_cons_zero, List.length_cons, List.length_nil, List.map_cons, List.map_nil, List.replicate, List.cons_append, List.nil_append, Option.bind_some, Option.map_some, Bool.not_true, Bool.not_false, Bool.false_eq_true, if_true, if_false, decide_true, decide_false, true_and, and_true, Nat.zero_add, Nat.add_zero, Nat.reduceAdd, Nat.reduceSub, reduceIte, Nat.sub_self, Nat.succ_sub_succ_eq_sub, Nat.add_one_sub_one]
          exact ⟨_, rfl, B5.weak (by omega), g5⟩
      rintro s h5 ⟨w, rfl, B5, g5⟩
      have gp5 := g5.get gp (by simp [hpb])
      refine es_set ?_
      rw [ev_bin2]
      show Ev _ (R.ok (A.ref p) h5) _
      rw [ev_ok]
      refine ev_lc ?_
      have ei : itSeq (tupD (consD (bin2 (intA subI) (varD 5) (varD 6)) (consD (varD 6) nilD))) n [some (.ref b), some (.tup (zs.map A.int)), some (.str (S (textL (kT zs)))), some (.ref p), some (.int (j : Int)), some (.int zs[j]), some (.int w), none, none, none, none] h5 = .ok (stepX [.int (zs[j] - w), .int w]) h5 := by
        unfold itSeq
        rw [tup2 (a := .int (zs[j] - w)) (c := .int w) rfl]
        rfl
      rw [ei, ev_ok]
      refine two_terms (idx := j) (h0 := h5) hn (by omega) rfl rfl rfl B5 Gm.refl fun qs h6 hql hqi B6 g6 => ?_
      have gp6 := g6.get gp5 (by simp [hpb])
      rw [add_L ((Gm.refl (m := none)).app.get gp6) get_app (by simp only [List.length_map]; omega), newL, ev_ok]
      refine ⟨hj, _, _, _, _, ps ++ qs, rfl, ?_, ?_, ?_, ?_, ?_, ?_⟩
      · have := B6.lt
        rw [List.length_append]; simp; omega
      · rw [get_app, List.map_append]
      · rw [List.length_append]; omega
      · intro r hr
        rcases List.mem_append.mp hr with z | z
        · exact hpi r z
        · rw [hqi r z]; exact hj
      · exact (B6.keep (Gm.refl.app.app)).weak (by omega)
      · exact g4.trans (g5.trans (g6.trans (Gm.weak Gm.refl.app.app)))
    · rintro s h4 ⟨_, p, a, c, d, ps, rfl, hpb, gp, hpl, hpi, B4, g4⟩
      rw [List.length_map] at hpl B4
      exact ⟨p, a, c, d, ps, rfl, hpb, gp, hpl, hpi, B4, g4⟩
  rintro s h4 ⟨p, a, c, d, ps, rfl, hpb, gp, hpl, hpi, B4, g4⟩
  -- mixed, the great ones left out
  refine step_seq (fun s h5 => ∃ (p : Nat) (fs : List (Int × Nat)), s = [some (.ref b), some (.tup (zs.map A.int)), some (.str (S (textL (kT zs)))), some (.ref p), a, c, d, none, none, none, none] ∧ p ≠ b ∧ h5[p]? = some (.lst (fs.map pairA)) ∧ fs.length ≤ 80 ∧ (∀ q ∈ fs, Good q.1 ∧ q.2 < zs.length) ∧ Bag h5 b (k + 500) ∧ Gm (some b) h h5) ?_ ?_
  · refine es_set (ev_lc ?_)
    unfold itSeq
    rw [ev_bind, ev_call]
    show Ev _ (R.ok [A.ref b, A.ref p] h4) _
    rw [ev_ok]
    refine ⟨rfl, ?_⟩
    refine (mixed_ok hn B4 (by omega) gp (by rw [List.length_map]; omega)).mono fun x h5 q => ?_
    obtain ⟨r, ys, rfl, pm, gr, hrl, B5, g5⟩ := q
    obtain ⟨qs, rfl, hqs⟩ := all_pairs (P := fun q => q.2 < zs.length) (ys := ys) fun a ha => by
      obtain ⟨q, hq, rfl⟩ := List.mem_map.mp (pm.subset ha)
      exact ⟨q, rfl, hpi q hq⟩
    have hqn : qs.length = ps.length := by
      have := pm.length_eq
      rw [List.length_map, List.length_map] at this
      exact this
    dsimp only
    rw [gr]
    dsimp only
    rw [ev_ok]
    refine lc_small (len := zs.length) (by omega) (by omega) gr hqs rfl fun fs hfl hfs => ?_
    rw [List.length_map] at B5
    refine ⟨_, fs, rfl, ?_, get_app, by omega, hfs, (B5.keep Gm.refl.app).weak (by omega), g4.trans (g5.trans (Gm.weak Gm.refl.app))⟩
    have := B5.lt
    omega
  rintro s h5 ⟨p5, fs, rfl, hp5, gf, hfl, hfs, B5, g5⟩
  have hb5 := B5.lt
  have hp5l := lt_of_get gf
  -- what is due
  refine step_seq (fun s h6 => ∃ r, s = [some (.ref b), some (.tup (zs.map A.int)), some (.str (S (textL (kT zs)))), some (.ref p5), a, c, d, some (.ref r), none, none, none] ∧ h5.length ≤ r ∧ Gm none h5 h6 ∧ h6[r]? = some (.lst ((List.replicate zs.length (0 : Int)).map A.int))) ?_ ?_
  · refine es_set ?_
    rw [ev_bin2]
    have e1 : lstD (consD (conD (.int 0)) nilD) n [some (.ref b), some (.tup (zs.map A.int)), some (.str (S (textL (kT zs)))), some (.ref p5), a, c, d, none, none, none, none] h5 = .ok (.ref h5.length) (h5 ++ [.lst [.int 0]]) := by
      show (R.ok [A.int 0] h5).bind _ = _
      rw [ok_bind, if_pos (small_line (by simp))]
      rfl
    rw [e1, ev_ok]
    show Ev _ (bLen [A.tup (zs.map A.int)] (h5 ++ [.lst [.int 0]])) _
    rw [len_tup, ev_ok, List.length_map, rep0 get_app (by omega), newL, ev_ok]
    exact ⟨_, rfl, by rw [List.length_append]; omega, Gm.refl.app.app, get_app⟩
  rintro s h6 ⟨r, rfl, hr, g6, gr⟩
  have gf6 := g6.get gf
  have B6 := B5.keep g6
  refine step_seq (fun s h7 => (∃ a c, s = [some (.ref b), some (.tup (zs.map A.int)), some (.str (S (textL (kT zs)))), some (.ref p5), a, c, d, some (.ref r), none, none, none]) ∧ h7[p5]? = some (.lst (fs.map pairA)) ∧ Bag h7 b (k + 500) ∧ Gm none h5 h7 ∧ h7[r]? = some (.lst ((sumK zs.length fs).map A.int))) ?_ ?_
  · simp only [forD, itSeq, varD, List.getElem?_cons_zero, List.getElem?_cons_succ, ok_bind, es_then, gf6, ev_ok]
    refine for_l (xs := fs.map pairA) (by rw [List.length_map]; omega) (fun j s h7 => (∃ a c, s = [some (.ref b), some (.tup (zs.map A.int)), some (.str (S (textL (kT zs)))), some (.ref p5), a, c, d, some (.ref r), none, none, none]) ∧ h7[p5]? = some (.lst (fs.map pairA)) ∧ Bag h7 b (k + 500) ∧ Gm none h5 h7 ∧ h7[r]? = some (.lst (((fs.take j).foldl addK (List.replicate zs.length 0)).map A.int)))
      ⟨⟨_, _, rfl⟩, gf6, B6, g6, gr⟩ (fun j s h7 z => z.2.1) ?_ ?_
    · rintro j s h7 hj ⟨⟨a, c, rfl⟩, gf7, B7, g7, gr7⟩
      rw [List.length_map] at hj
      have hq := (hfs fs[j] (List.getElem_mem hj)).2
      refine ⟨[some (.ref b), some (.tup (zs.map A.int)), some (.str (S (textL (kT zs)))), some (.ref p5), some (.int (fs[j].2 : Int)), some (.int fs[j].1), d, some (.ref r), none, none, none], by rw [List.getElem_map]; rfl, ?_⟩
      refine due_step (p := r) (i := fs[j].2) (v := fs[j].1) rfl rfl rfl gr7 (by rw [foldK_len, List.length_replicate]; exact hq) ?_
      have hrp : r ≠ p5 := by omega
      refine ⟨⟨_, _, rfl⟩, ?_, ?_, g7.set (.inl hr), ?_⟩
      · rw [List.getElem?_set_ne hrp]; exact gf7
      · obtain ⟨x, y, z, eb, rr⟩ := B7
        exact ⟨x, y, z, by rw [List.getElem?_set_ne (by omega)]; exact eb, rr⟩
      · rw [get_set gr7, take_snoc hj, List.foldl_append]
        rfl
    · rintro s h7 ⟨⟨a, c, rfl⟩, gf7, B7, g7, gr7⟩
      rw [List.length_map, List.take_length] at gr7
      exact ⟨⟨_, _, rfl⟩, gf7, B7, g7, gr7⟩
  rintro s h7 ⟨⟨a, c, rfl⟩, gf7, B7, g7, gr7⟩
  -- the other text
  refine step_seq (fun s h8 => ∃ ts : List Tm, s = [some (.ref b), some (.tup (zs.map A.int)), some (.str (S (textL (kT zs)))), some (.ref p5), a, c, d, some (.ref r), some (.str (S (textL ts))), none, none] ∧ ts.map Tm.pair = fs ∧ (∀ t ∈ ts, t.ok) ∧ NegOk ts ∧ Bag h8 b (k + 1000) ∧ Gm (some b) h7 h8) ?_ ?_
  · refine es_set ?_
    rw [ev_call]
    show Ev _ (R.ok [A.ref b, A.ref p5] h7) _
    rw [ev_ok]
    refine ⟨rfl, ?_⟩
    refine (terms_text_ok hn B7 (by omega) gf7 hp5 (by omega) (fun q hq => ⟨(hfs q hq).1, by have := (hfs q hq).2; omega⟩)).mono fun x h8 q => ?_
    obtain ⟨ts, rfl, h1, h2', h3, B8, g8⟩ := q
    exact ⟨ts, rfl, h1, h2', h3, B8.weak (by omega), g8⟩
  rintro s h8 ⟨ts, rfl, hts, htok, htn, B8, g8⟩
  have hrb : r ≠ b := by omega
  have gr8 := g8.get gr7 (by simp [hrb])
  have G8 : Gm (some b) h h8 := g5.trans (g7.weak.trans g8)
  have htsl : ts.length ≤ 80 := by
    have := congrArg List.length hts
    rw [List.length_map] at this
    omega
  have hol := text_len htok (by omega)
  have hsl := sumK_len zs.length fs
  generalize edue : sumK zs.length fs = due at gr8 hsl
  refine step_seq (fun s h9 => s = [some (.ref b), some (.tup (zs.map A.int)), some (.str (S (textL (kT zs)))), some (.ref p5), a, c, d, some (.ref r), some (.str (S (textL ts))), none, none] ∧ Gm none h8 h9 ∧ (textL ts).length ≤ 3000 ∧ ∀ z ∈ due, Good z) ?_ ?_
  · obtain ⟨x, xs, hxs⟩ : ∃ x xs, due = x :: xs := by
      cases due with
      | nil => simp at hsl; omega
      | cons x xs => exact ⟨x, xs, rfl⟩
    have e1 : testD (bin2 (cmpI qgt) (cbD bLen (consD (varD 8) nilD)) (conD (.int 3000))) n [some (.ref b), some (.tup (zs.map A.int)), some (.str (S (textL (kT zs)))), some (.ref p5), a, c, d, some (.ref r), some (.str (S (textL ts))), none, none] h8 = .ok (decide ((3000 : Int) < ((textL ts).length : Int))) h8 := by
      simp only [testD, boolR, bin2, cbD, consD, nilD, varD, conD, List.getElem?_cons_succ, List.getElem?_cons_zero, ok_bind, len_S (show (textL ts).length ≤ 16777216 by omega), cmpI, qgt]
    unfold ifD orT
    rw [es_then, ev_bind, e1, ev_ok]
    cases hd : decide ((3000 : Int) < ((textL ts).length : Int)) with
    | true =>
      simp only [if_true, ev_ok, retD, conD, es_then, es_rt]
      exact ⟨trivial, B8, G8⟩
    | false =>
      have hlen := of_decide_eq_false hd
      simp only [Bool.false_eq_true, if_false]
      unfold testD boolR
      rw [ev_bind, ev_bin2, ev_cb1]
      refine ev_lc ?_
      have ei : itSeq (varD 7) n [some (.ref b), some (.tup (zs.map A.int)), some (.str (S (textL (kT zs)))), some (.ref p5), a, c, d, some (.ref r), some (.str (S (textL ts))), none, none] h8 = .ok (stepL r) h8 := by
        unfold itSeq
        show (R.ok (A.ref r) h8).bind _ = _
        rw [ok_bind]
        dsimp only
        rw [gr8]
      rw [ei, ev_ok]
      refine lc_abs (by omega) (by omega) gr8 rfl ?_
      rw [hxs, List.map_cons, max_ref get_app, ev_ok]
      have e60 : bin2 (intA powI) (conD (.int 10)) (conD (.int 60)) n [some (.ref b), some (.tup (zs.map A.int)), some (.str (S (textL (kT zs)))), some (.ref p5), a, c, d, some (.ref r), some (.str (S (textL ts))), none, none] (h8 ++ [.lst (((x.natAbs : Int) :: xs.map fun x => (x.natAbs : Int)).map A.int)]) = .ok (.int 1000000000000000000000000000000000000000000000000000000000000) _ := pow60
      rw [e60, ev_ok]
      have em := maxL_spec (x.natAbs : Int) (xs.map fun x => (x.natAbs : Int))
      generalize hM : maxL (x.natAbs : Int) (xs.map fun x => (x.natAbs : Int)) = M at em ⊢
      show Ev _ (R.ok (A.bl (decide ((1000000000000000000000000000000000000000000000000000000000000 : Int) ≤ M))) _) _
      rw [ev_ok]
      dsimp only
      rw [ev_ok]
      cases hdm : decide ((1000000000000000000000000000000000000000000000000000000000000 : Int) ≤ M) with
      | true =>
        simp only [if_true, retD, conD, es_then, ev_ok, es_rt]
        exact ⟨trivial, B8.keep Gm.refl.app, G8.trans (Gm.weak Gm.refl.app)⟩
      | false =>
        have hmx := of_decide_eq_false hdm
        simp only [Bool.false_eq_true, if_false, nextD, es_nx]
        refine ⟨trivial, Gm.refl.app, by omega, fun z hz => ?_⟩
        have hz2 : (z.natAbs : Int) ∈ (x.natAbs : Int) :: xs.map fun x => (x.natAbs : Int) := by
          rcases List.mem_cons.mp hz with rfl | hz
          · exact List.mem_cons_self
          · exact List.mem_cons_of_mem _ (List.mem_map_of_mem hz)
        have := em.2 _ hz2
        exact ⟨by omega, by omega⟩
  rintro s h9 ⟨rfl, g9, hlen, hdue⟩
  have gr9 := g9.get gr8
  simp only [seqD, ifD, retD, retND, dropD, setD, nextD, varD, conD, bin2, un1, testD, boolR, notT, andT, orT, ifE, andV, orV, notV, tupD, lstD, cbD, nilD, consD, asgD, parD, nameG, tupG, consG, nilG, setItD, augD, augItD, methD, forD, whileD, lcD, lc2D, sliceD, someD, noneD, chain3, truD, truR, orTD, andTD, notTD, joinedD, glueD, lstRg, rg1, rg2, itRg1, itRg2, itSeq, itEn, dnewKD, newK, newL, maxKD, yesT, wipeA, cmpI, add_I, sub_I, negA, ok_bind, sizeLine_eq, Nat.reduceLeDiff, eq_I, isi_tup, isi_str, isi_int, isi_boo, len_tup, qlt, qle, qgt, qge, rg_if, ev_ok, ev_bind, ev_if, ev_call, es_nx, es_rt, es_seq, es_then, es_if, List.getElem?_cons_succ, List.getElem?_cons_zero, List.set_cons_succ, List.set_cons_zero, List.length_cons, List.length_nil, List.map_cons, List.map_nil, List.replicate, List.cons_append, List.nil_append, Option.bind_some, Option.map_some, Bool.not_true, Bool.not_false, Bool.false_eq_true, if_true, if_false, decide_true, decide_false, true_and, and_true, Nat.zero_add, Nat.add_zero, Nat.reduceAdd, Nat.reduceSub, reduceIte, Nat.sub_self, Nat.succ_sub_succ_eq_sub, Nat.add_one_sub_one, List.length_map]
  refine (read_kinds_ok (ts := ts) (len := zs.length) hn ⟨hz1, by omega⟩ (fun t ht => ⟨htok t ht, ?_⟩) htn hlen (by omega) (by rw [hts, edue]; exact hdue)).mono fun x h10 q => ?_
  · have hm : t.pair ∈ fs := by rw [← hts]; exact List.mem_map_of_mem ht
    exact (hfs _ hm).2
  rw [hts, edue] at q
  obtain ⟨rfl, g10⟩ := q
  simp only [seqD, ifD, retD, retND, dropD, setD, nextD, varD, conD, bin2, un1, testD, boolR, notT, andT, orT, ifE, andV, orV, notV, tupD, lstD, cbD, nilD, consD, asgD, parD, nameG, tupG, consG, nilG, setItD, augD, augItD, methD, forD, whileD, lcD, lc2D, sliceD, someD, noneD, chain3, truD, truR, orTD, andTD, notTD, joinedD, glueD, lstRg, rg1, rg2, itRg1, itRg2, itSeq, itEn, dnewKD, newK, newL, maxKD, yesT, wipeA, cmpI, add_I, sub_I, negA, ok_bind, sizeLine_eq, Nat.reduceLeDiff, eq_I, isi_tup, isi_str, isi_int, isi_boo, len_tup, qlt, qle, qgt, qge, rg_if, ev_ok, ev_bind, ev_if, ev_call, es_nx, es_rt, es_seq, es_then, es_if, List.getElem?_cons_succ, List.getElem?_cons_zero, List.set_cons_succ, List.set_cons_zero, List.length_cons, List.length_nil, List.map_cons, List.map_nil, List.replicate, List.cons_append, List.nil_append, Option.bind_some, Option.map_some, Bool.not_true, Bool.not_false, Bool.false_eq_true, if_true, if_false, decide_true, decide_false, true_and, and_true, Nat.zero_add, Nat.add_zero, Nat.reduceAdd, Nat.reduceSub, reduceIte, Nat.sub_self, Nat.succ_sub_succ_eq_sub, Nat.add_one_sub_one, tuple_ref (g10.get gr9), eq_tupI]
  exact ⟨B8.keep (g9.trans g10), G8.trans (g9.trans g10).weak⟩
end Dn

set_option maxHeartbeats 4000000
namespace Dn
open PySem
/-! ### moves, rings: plain lists -/
structure Prm (m : List Nat) : Prop where
  lt : ∀ x ∈ m, x < m.length
  nd : m.Nodup
def at' (m : List Nat) (x : Nat) : Nat := m.getD x 0
theorem at_get {m : List Nat} {x : Nat} (h : x < m.length) : at' m x = m[x] := by
  unfold at'
  rw [List.getD_eq_getElem?_getD, List.getElem?_eq_getElem h]; rfl
theorem Prm.at_lt {m : List Nat} (P : Prm m) {x : Nat} (h : x < m.length) : at' m x < m.length := by
  rw [at_get h]
  exact P.lt _ (List.getElem_mem h)
theorem Prm.inj {m : List Nat} (P : Prm m) {x y : Nat} (hx : x < m.length) (hy : y < m.length) (e : at' m x = at' m y) : x = y := by
  rw [at_get hx, at_get hy] at e
  exact (List.getElem_inj P.nd).mp e
theorem nodup_len : ∀ (p : Nat) (l : List Nat), l.Nodup → (∀ x ∈ l, x < p) → l.length ≤ p
  | 0, l, _, h => by
    cases l with
    | nil => exact Nat.le_refl _
    | cons a r => exact absurd (h a List.mem_cons_self) (Nat.not_lt_zero _)
  | p + 1, l, hn, h => by
    by_cases hp : p ∈ l
    · have ih := nodup_len p (l.erase p) (hn.erase p) fun x hx => by
        have h1 := List.mem_of_mem_erase hx
        have h2 := h x h1
        have h3 : x ≠ p := fun z => by
          rw [z] at hx
          exact (List.Nodup.not_mem_erase hn) hx
        omega
      rw [List.length_erase_of_mem hp] at ih
      omega
    · have ih := nodup_len p l hn fun x hx => by
        have h2 := h x hx
        have h3 : x ≠ p := fun z => hp (by rw [← z]; exact hx)
        omega
      omega
def at0 (q : List Nat) (i : Nat) : Nat := q.getD i 0
theorem at0_mem {q : List Nat} {i : Nat} (h : i < q.length) : at0 q i ∈ q := by
  unfold at0
  rw [List.getD_eq_getElem?_getD, List.getElem?_eq_getElem h]
  exact List.getElem_mem h
theorem mem_at0 {q : List Nat} {x : Nat} (h : x ∈ q) : ∃ i, i < q.length ∧ at0 q i = x := by
  obtain ⟨i, hi, e⟩ := List.getElem_of_mem h
  exact ⟨i, hi, by unfold at0; rw [List.getD_eq_getElem?_getD, List.getElem?_eq_getElem hi]; exact e⟩
theorem at0_inj {q : List Nat} (hn : q.Nodup) {i j : Nat} (hi : i < q.length) (hj : j < q.length) (e : at0 q i = at0 q j) : i = j := by
  unfold at0 at e
  rw [List.getD_eq_getElem?_getD, List.getElem?_eq_getElem hi, List.getD_eq_getElem?_getD, List.getElem?_eq_getElem hj] at e
  exact (List.getElem_inj hn).mp e
theorem at0_left {q r : List Nat} {i : Nat} (h : i < q.length) : at0 (q ++ r) i = at0 q i := by
  unfold at0
  rw [List.getD_eq_getElem?_getD, List.getD_eq_getElem?_getD, List.getElem?_append_left h]
theorem at0_end {q : List Nat} {x : Nat} : at0 (q ++ [x]) q.length = x := by
  unfold at0
  rw [List.getD_eq_getElem?_getD, List.getElem?_append_right (Nat.le_refl _), Nat.sub_self]; rfl
/-- the walk from s so far: q, then x -/
structure Ch (m F : List Nat) (s : Nat) (q : List Nat) (x : Nat) : Prop where
  ne : 0 < q.length
  hd : at0 q 0 = s
  st : ∀ i, i + 1 < q.length → at' m (at0 q i) = at0 q (i + 1)
  la : at' m (at0 q (q.length - 1)) = x
  nd : q.Nodup
  lt : ∀ y ∈ q, y < m.length
  dj : ∀ y ∈ q, y ∉ F
def Closed (m F : List Nat) : Prop := ∀ y ∈ F, ∃ z ∈ F, z < m.length ∧ at' m z = y
theorem Ch.next {m F q : List Nat} {s x : Nat} (P : Prm m) (C : Closed m F) (h : Ch m F s q x) : x = s ∨ (x ∉ q ∧ x ∉ F ∧ x < m.length) := by
  have hl : q.length - 1 < q.length := by have := h.ne; omega
  have lm := at0_mem hl
  by_cases hx : x = s
  · exact .inl hx
  · refine .inr ⟨fun hq => ?_, fun hF => ?_, ?_⟩
    · obtain ⟨i, hi, e⟩ := mem_at0 hq
      cases i with
      | zero => exact hx (by rw [← e, h.hd])
      | succ i =>
        have e1 := h.st i hi
        rw [e, ← h.la] at e1
        have e2 := P.inj (h.lt _ (at0_mem (by omega))) (h.lt _ lm) e1
        have e3 := at0_inj h.nd (by omega) hl e2
        omega
    · obtain ⟨z, hz, hzl, e⟩ := C x hF
      rw [← h.la] at e
      have e2 := P.inj hzl (h.lt _ lm) e
      exact h.dj _ lm (by rw [← e2]; exact hz)
    · rw [← h.la]; exact P.at_lt (h.lt _ lm)
theorem Ch.step {m F q : List Nat} {s x : Nat} (h : Ch m F s q x) (h1 : x ∉ q) (h2 : x ∉ F) (h3 : x < m.length) : Ch m F s (q ++ [x]) (at' m x) := by
  refine ⟨by rw [List.length_append]; simp, by rw [at0_left h.ne]; exact h.hd, fun i hi => ?_, ?_, ?_, ?_, ?_⟩
  · rw [List.length_append, List.length_singleton] at hi
    by_cases hz : i + 1 < q.length
    · rw [at0_left (by omega), at0_left hz]; exact h.st i hz
    · have ei : i + 1 = q.length := by omega
      rw [at0_left (by omega), ei, at0_end, ← h.la]
      congr 2
      omega
  · rw [List.length_append, List.length_singleton, Nat.add_sub_cancel, at0_end]
  · rw [List.nodup_append]
    refine ⟨h.nd, List.pairwise_singleton _ _, fun a ha b hb e => ?_⟩
    rw [List.mem_singleton.mp hb] at e
    exact h1 (by rw [← e]; exact ha)
  · intro y hy
    rcases List.mem_append.mp hy with z | z
    · exact h.lt y z
    · rw [List.mem_singleton.mp z]; exact h3
  · intro y hy
    rcases List.mem_append.mp hy with z | z
    · exact h.dj y z
    · rw [List.mem_singleton.mp z]; exact h2
def ringGo (m : List Nat) (s : Nat) : Nat → Nat → List Nat → List Nat
  | 0, _, q => q
  | f + 1, x, q => if x = s then q else ringGo m s f (at' m x) (q ++ [x])
def ring (m : List Nat) (s : Nat) : List Nat := ringGo m s m.length (at' m s) [s]
/-- a ring of m -/
structure Rg (m r : List Nat) : Prop where
  ne : 0 < r.length
  nd : r.Nodup
  lt : ∀ y ∈ r, y < m.length
  st : ∀ i, i < r.length → at' m (at0 r i) = at0 r ((i + 1) % r.length)
theorem ch_first {m F : List Nat} {s : Nat} (hs : s < m.length) (hF : s ∉ F) : Ch m F s [s] (at' m s) :=
  ⟨by simp, rfl, fun i hi => by simp at hi, rfl, List.pairwise_singleton _ _, fun y hy => by rw [List.mem_singleton.mp hy]; exact hs, fun y hy => by rw [List.mem_singleton.mp hy]; exact hF⟩
theorem ch_ring {m F q : List Nat} {s : Nat} (h : Ch m F s q s) : Rg m q := by
  refine ⟨h.ne, h.nd, h.lt, fun i hi => ?_⟩
  by_cases hz : i + 1 < q.length
  · rw [Nat.mod_eq_of_lt hz]; exact h.st i hz
  · have ei : i + 1 = q.length := by omega
    rw [ei, Nat.mod_self, h.hd, ← h.la]
    congr 2
    omega
theorem ringGo_ok {m F : List Nat} {s : Nat} (P : Prm m) (C : Closed m F) : ∀ (f x : Nat) (q : List Nat), Ch m F s q x → m.length + 1 ≤ q.length + f → Ch m F s (ringGo m s f x q) s
  | 0, x, q, h, hf => by
    have := nodup_len m.length q h.nd h.lt
    omega
  | f + 1, x, q, h, hf => by
    unfold ringGo
    by_cases hx : x = s
    · rw [if_pos hx]
      rw [hx] at h
      exact h
    · rw [if_neg hx]
      rcases h.next P C with z | ⟨z1, z2, z3⟩
      · exact absurd z hx
      · exact ringGo_ok P C f _ _ (h.step z1 z2 z3) (by rw [List.length_append, List.length_singleton]; omega)
theorem ring_ok {m F : List Nat} {s : Nat} (P : Prm m) (C : Closed m F) (hs : s < m.length) (hF : s ∉ F) : Ch m F s (ring m s) s :=
  ringGo_ok P C _ _ _ (ch_first hs hF) (by simp; omega)
def cycF (m : List Nat) : Nat → List (List Nat)
  | 0 => []
  | j + 1 => if j ∈ (cycF m j).flatten then cycF m j else cycF m j ++ [ring m j]
def cyc (m : List Nat) : List (List Nat) := cycF m m.length
/-- rings, apart -/
structure Rgs (m : List Nat) (R : List (List Nat)) : Prop where
  rg : ∀ r ∈ R, Rg m r
  nd : R.flatten.Nodup
theorem Rgs.closed {m : List Nat} {R : List (List Nat)} (h : Rgs m R) : Closed m R.flatten := by
  intro y hy
  obtain ⟨r, hr, hy⟩ := List.mem_flatten.mp hy
  obtain ⟨i, hi, e⟩ := mem_at0 hy
  have g := h.rg r hr
  have hp : (i + r.length - 1) % r.length < r.length := Nat.mod_lt _ g.ne
  refine ⟨at0 r ((i + r.length - 1) % r.length), List.mem_flatten.mpr ⟨r, hr, at0_mem hp⟩, g.lt _ (at0_mem hp), ?_⟩
  rw [g.st _ hp]
  have e2 : ((i + r.length - 1) % r.length + 1) % r.length = i := by
    have := g.ne
    cases i with
    | zero =>
      rw [show 0 + r.length - 1 = r.length - 1 by omega, Nat.mod_eq_of_lt (show r.length - 1 < r.length by omega), show r.length - 1 + 1 = r.length by omega, Nat.mod_self]
    | succ i =>
      rw [show i + 1 + r.length - 1 = i + r.length by omega, Nat.add_mod_right, Nat.mod_eq_of_lt (show i < r.length by omega), Nat.mod_eq_of_lt hi]
  rw [e2, e]
theorem cycF_ok {m : List Nat} (P : Prm m) : ∀ j, j ≤ m.length → Rgs m (cycF m j) ∧ ∀ x, x < j → x ∈ (cycF m j).flatten
  | 0, _ => ⟨⟨by simp [cycF], by simp [cycF]⟩, fun x hx => absurd hx (Nat.not_lt_zero _)⟩
  | j + 1, hj => by
    obtain ⟨h1, h2⟩ := cycF_ok P j (by omega)
    unfold cycF
    by_cases hm : j ∈ (cycF m j).flatten
    · rw [if_pos hm]
      refine ⟨h1, fun x hx => ?_⟩
      by_cases z : x = j
      · rw [z]; exact hm
      · exact h2 x (by omega)
    · rw [if_neg hm]
      have g := ring_ok P h1.closed (show j < m.length by omega) hm
      refine ⟨⟨fun r hr => ?_, ?_⟩, fun x hx => ?_⟩
      · rcases List.mem_append.mp hr with z | z
        · exact h1.rg r z
        · rw [List.mem_singleton.mp z]; exact ch_ring g
      · rw [List.flatten_append, List.nodup_append]
        have e : [ring m j].flatten = ring m j := by simp
        rw [e]
        exact ⟨h1.nd, g.nd, fun a ha b hb eab => g.dj b hb (by rw [← eab]; exact ha)⟩
      · rw [List.flatten_append]
        by_cases z : x = j
        · refine List.mem_append_right _ ?_
          have e : [ring m j].flatten = ring m j := by simp
          have q := at0_mem g.ne
          rw [g.hd] at q
          rw [e, z]
          exact q
        · exact List.mem_append_left _ (h2 x (by omega))
theorem cyc_ok {m : List Nat} (P : Prm m) : Rgs m (cyc m) ∧ ∀ x, x < m.length → x ∈ (cyc m).flatten := cycF_ok P _ (Nat.le_refl _)
end Dn

set_option maxHeartbeats 4000000
namespace Dn
open PySem
/-! ### the program's and the law's rings -/
def natA (x : Nat) : A := .int (x : Int)
def rgA (r : List Nat) : A := .tup (r.map natA)
def seenA (F : List Nat) : List (Key × A) := F.map fun (x : Nat) => (.inl (x : Int), .bl true)
theorem ix_mv {m : List Nat} {x : Nat} {h : Hs} (hx : x < m.length) : ixA (rgA m) (.int (x : Int)) h = .ok (.int ((at' m x : Nat) : Int)) h := by
  unfold ixA rgA
  rw [if_neg (by simp [isDict])]
  dsimp only
  have e : L2.atI (m.map natA) (x : Int) = some (.int ((at' m x : Nat) : Int)) := L2.atI_nat (by rw [List.getElem?_map, List.getElem?_eq_getElem hx, at_get hx]; rfl)
  rw [show seqOf h (.tup (m.map natA)) = some (m.map natA) from rfl]
  dsimp only
  rw [e]
theorem val_seen (F : List Nat) (x : Nat) : valA (seenA F) (.inl (x : Int)) = if x ∈ F then some (.bl true) else none := by
  induction F with
  | nil => rfl
  | cons y F ih =>
    unfold seenA at ih ⊢
    rw [List.map_cons, valA_cons]
    by_cases e : y = x
    · subst e
      simp
    · have e2 : ¬ ((Sum.inl (y : Int) : Key) = .inl (x : Int)) := fun z => e (by injection z with q; omega)
      rw [if_neg e2, ih]
      simp [Ne.symm e]
theorem nin_dict {F : List Nat} {x p : Nat} {h : Hs} (e : h[p]? = some (.dK (seenA F))) : inA true (.int (x : Int)) (.ref p) h = .ok (.bl (decide (x ∉ F))) h := by
  have e1 : isDict h (.ref p) = true := by unfold isDict; dsimp only; rw [e]
  have e2 : dgetA h (.ref p) (.int (x : Int)) = some (valA (seenA F) (.inl (x : Int))) := by unfold dgetA; dsimp only; rw [e]; rfl
  unfold inA
  rw [e1, if_pos rfl, e2]
  dsimp only
  rw [val_seen]
  by_cases hx : x ∈ F <;> simp [hx]
theorem put_dict {F : List Nat} {x p : Nat} {h : Hs} (e : h[p]? = some (.dK (seenA F))) (hx : x ∉ F) (hl : F.length < 16777216) : setItA h (.ref p) (.int (x : Int)) (.bl true) = some (h.set p (.dK (seenA (F ++ [x])))) := by
  have e2 : putA (seenA F) (.inl (x : Int)) (A.bl true) = seenA (F ++ [x]) := by
    unfold putA
    have e3 : ¬ (((seenA F).any fun kv => decide (kv.1 = (.inl (x : Int) : Key))) = true) := by
      intro z
      obtain ⟨kv, hkv, q⟩ := List.any_eq_true.mp z
      obtain ⟨y, hy, rfl⟩ := List.mem_map.mp hkv
      have q1 := of_decide_eq_true q
      injection q1 with q2
      have : y = x := by omega
      exact hx (by rw [← this]; exact hy)
    rw [if_neg e3]
    unfold seenA
    rw [List.map_append]
    rfl
  unfold setItA
  dsimp only
  rw [e]
  dsimp only
  unfold dputA
  dsimp only
  rw [e]
  dsimp only
  rw [show keyA (.int (x : Int)) = some (.inl (x : Int)) from rfl, Option.bind_some, if_pos (by unfold seenA; rw [List.length_map]; exact lt_line hl), e2]
theorem nin_list {F : List Nat} {x p : Nat} {h : Hs} (e : h[p]? = some (.lst (F.map natA))) : inA true (.int (x : Int)) (.ref p) h = .ok (.bl (decide (x ∉ F))) h := by
  have e1 : isDict h (.ref p) = false := by unfold isDict; dsimp only; rw [e]
  have e3 : flatsA (F.map natA) = some (F.map fun (y : Nat) => L2.V.int (y : Int)) := by
    clear e e1
    induction F with
    | nil => rfl
    | cons y F ih => rw [List.map_cons, flatsA, ih]; rfl
  have e4 : L2.inV (.int (x : Int)) (F.map fun (y : Nat) => L2.V.int (y : Int)) = decide (x ∈ F) := by
    clear e e1 e3
    unfold L2.inV
    induction F with
    | nil => rfl
    | cons y F ih =>
      rw [List.map_cons, List.any_cons, ih]
      by_cases z : y = x
      · subst z
        simp [L2.eqV]
      · have z2 : ¬ ((y : Int) = (x : Int)) := by omega
        simp [L2.eqV, z2, Ne.symm z]
  unfold inA
  rw [e1]
  simp only [Bool.false_eq_true, if_false]
  unfold inSeq
  have e5 : (seqOf h (.ref p)).bind flatsA = some (F.map fun (y : Nat) => L2.V.int (y : Int)) := by rw [seqOf_ref e]; exact e3
  show (match flatA (.int (x : Int)), (seqOf h (.ref p)).bind flatsA with
    | some x, some xs => R.ok (A.bl (if true then !L2.inV x xs else L2.inV x xs)) h
    | _, _ => .no) = _
  rw [e5]
  show R.ok (A.bl (!L2.inV (.int (x : Int)) (F.map fun (y : Nat) => L2.V.int (y : Int)))) h = _
  rw [e4]
  simp
theorem ringGo_end {m : List Nat} {s f : Nat} {q : List Nat} (hf : 1 ≤ f) : ringGo m s f s q = q := by
  cases f with
  | zero => omega
  | succ f => unfold ringGo; rw [if_pos rfl]
theorem ringGo_go {m : List Nat} {s f x : Nat} {q : List Nat} (hf : 1 ≤ f) (hx : x ≠ s) : ringGo m s f x q = ringGo m s (f - 1) (at' m x) (q ++ [x]) := by
  cases f with
  | zero => omega
  | succ f => rw [ringGo, if_neg hx]; rfl
theorem cycles_in_ok {X : Xn → Hs → Prop} {n : Nat} {h : Hs} {m : List Nat} (hn : 5000 ≤ n) (P : Prm m) (hl : m.length ≤ 60) :
    Ev X (f_cycles_in n [rgA m] h) fun a h' => a = .ref h.length ∧ Gm none h h' ∧ h'[h.length]? = some (.lst ((cyc m).map rgA)) := by
  have e0 : f_cycles_in = bodyD 1 6 d_cycles_in := rfl
  rw [e0]
  generalize hb : d_cycles_in = bb
  refine ev_body (by rfl) ?_
  simp only [List.map_cons, List.map_nil, List.replicate, List.cons_append, List.nil_append]
  rw [← hb]
  clear hb bb e0
  unfold d_cycles_in
  refine step_seq (fun s h' => s = [some (rgA m), some (.ref h.length), some (.ref (h.length + 1)), none, none, none] ∧ h' = h ++ [.lst []] ++ [.dK []]) ?_ ?_
  · simp only [seqD, ifD, retD, retND, dropD, setD, nextD, varD, conD, bin2, un1, testD, boolR, notT, andT, orT, ifE, andV, orV, notV, tupD, lstD, cbD, nilD, consD, asgD, parD, nameG, tupG, consG, nilG, setItD, augD, augItD, methD, forD, whileD, lcD, lc2D, sliceD, someD, noneD, chain3, truD, truR, orTD, andTD, notTD, joinedD, glueD, lstRg, rg1, rg2, itRg1, itRg2, itSeq, itEn, dnewKD, newK, newL, maxKD, yesT, wipeA, cmpI, add_I, sub_I, negA, ok_bind, sizeLine_eq, Nat.reduceLeDiff, eq_I, isi_tup, isi_str, isi_int, isi_boo, len_tup, qlt, qle, qgt, qge, rg_if, ev_ok, ev_bind, ev_if, ev_call, es_nx, es_rt, es_seq, es_then, es_if, List.getElem?_cons_succ, List.getElem?_cons_zero, List.set_cons_succ, List.set_cons_zero, List.length_cons, List.length_nil, List.map_cons, List.map_nil, List.replicate, List.cons_append, List.nil_append, Option.bind_some, Option.map_some, Bool.not_true, Bool.not_false, Bool.false_eq_true, if_true, if_false, decide_true, decide_false, true_and, and_true, Nat.zero_add, Nat.add_zero, Nat.reduceAdd, Nat.reduceSub, reduceIte, Nat.sub_self, Nat.succ_sub_succ_eq_sub, Nat.add_one_sub_one]
    rw [List.length_append]
    exact rfl
  rintro s h' ⟨rfl, rfl⟩
  refine step_seq (fun s h2 => (∃ a b c, s = [some (rgA m), some (.ref h.length), some (.ref (h.length + 1)), a, b, c]) ∧ Gm none h h2 ∧ h2[h.length]? = some (.lst ((cyc m).map rgA))) ?_ ?_
  · unfold forD
    rw [es_then]
    refine ev_rg1 (m := m.length) (by omega) ?_
    have ea : consD (cbD bLen (consD (varD 0) nilD)) nilD n [some (rgA m), some (.ref h.length), some (.ref (h.length + 1)), none, none, none] (h ++ [.lst []] ++ [.dK []]) = .ok [.int (m.length : Int)] (h ++ [.lst []] ++ [.dK []]) := by
      show R.ok [A.int ((m.map natA).length : Int)] _ = _
      rw [List.length_map]
    rw [ea, ev_ok]
    refine ⟨rfl, ?_⟩
    have h0 : (h ++ [AO.lst []] ++ [AO.dK []])[h.length]? = some (.lst []) := by
      rw [List.getElem?_append_left (by simp), get_app]
    have h1 : (h ++ [AO.lst []] ++ [AO.dK []])[h.length + 1]? = some (.dK (seenA [])) := by
      have := get_app (h := h ++ [AO.lst []]) (o := AO.dK [])
      rw [List.length_append] at this
      exact this
    refine for_r (m := m.length) (by omega) (fun j s h2 => j ≤ m.length ∧ (∃ a b c, s = [some (rgA m), some (.ref h.length), some (.ref (h.length + 1)), a, b, c]) ∧ Gm none h h2 ∧ h2[h.length]? = some (.lst ((cycF m j).map rgA)) ∧ h2[h.length + 1]? = some (.dK (seenA (cycF m j).flatten)) ∧ (cycF m j).length ≤ j)
      ⟨Nat.zero_le _, ⟨_, _, _, rfl⟩, Gm.refl.app.app, h0, h1, Nat.le_refl _⟩ ?_ ?_
    · rintro j s h2 hj ⟨_, ⟨a, b, c, rfl⟩, gm, gf, gs, hc⟩
      obtain ⟨rgs, hcov⟩ := cycF_ok P j (by omega)
      refine ⟨[some (rgA m), some (.ref h.length), some (.ref (h.length + 1)), some (.int (j : Int)), b, c], by rw [Int.zero_add]; rfl, ?_⟩
      unfold ifD
      rw [es_then]
      have et : testD (bin2 (inA true) (varD 3) (varD 2)) n [some (rgA m), some (.ref h.length), some (.ref (h.length + 1)), some (.int (j : Int)), b, c] h2 = .ok (decide (j ∉ (cycF m j).flatten)) h2 := by
        show boolR (inA true (.int (j : Int)) (.ref (h.length + 1)) h2) = _
        rw [nin_dict gs]
        rfl
      rw [et, ev_ok]
      by_cases hm : j ∈ (cycF m j).flatten
      · have e : cycF m (j + 1) = cycF m j := by rw [cycF, if_pos hm]
        simp only [hm, not_true, decide_false, Bool.false_eq_true, if_false, nextD, es_nx, e]
        exact ⟨hj, ⟨_, _, _, rfl⟩, gm, gf, gs, by omega⟩
      · have e : cycF m (j + 1) = cycF m j ++ [ring m j] := by rw [cycF, if_neg hm]
        have rok := ring_ok P rgs.closed hj hm
        simp only [hm, not_false_eq_true, decide_true, if_true]
        refine step_seq (fun s h3 => s = [some (rgA m), some (.ref h.length), some (.ref (h.length + 1)), some (.int (j : Int)), some (.ref h2.length), some (.int (j : Int))] ∧ h3 = h2 ++ [.lst []]) ?_ ?_
        · simp only [seqD, ifD, retD, retND, dropD, setD, nextD, varD, conD, bin2, un1, testD, boolR, notT, andT, orT, ifE, andV, orV, notV, tupD, lstD, cbD, nilD, consD, asgD, parD, nameG, tupG, consG, nilG, setItD, augD, augItD, methD, forD, whileD, lcD, lc2D, sliceD, someD, noneD, chain3, truD, truR, orTD, andTD, notTD, joinedD, glueD, lstRg, rg1, rg2, itRg1, itRg2, itSeq, itEn, dnewKD, newK, newL, maxKD, yesT, wipeA, cmpI, add_I, sub_I, negA, ok_bind, sizeLine_eq, Nat.reduceLeDiff, eq_I, isi_tup, isi_str, isi_int, isi_boo, len_tup, qlt, qle, qgt, qge, rg_if, ev_ok, ev_bind, ev_if, ev_call, es_nx, es_rt, es_seq, es_then, es_if, List.getElem?_cons_succ, List.getElem?_cons_zero, List.set_cons_succ, List.set_cons_zero, List.length_cons, List.length_nil, List.map_cons, List.map_nil, List.replicate, List.cons_append, List.nil_append, Option.bind_some, Option.map_some, Bool.not_true, Bool.not_false, Bool.false_eq_true, if_true, if_false, decide_true, decide_false, true_and, and_true, Nat.zero_add, Nat.add_zero, Nat.reduceAdd, Nat.reduceSub, reduceIte, Nat.sub_self, Nat.succ_sub_succ_eq_sub, Nat.add_one_sub_one, and_self]
        rintro s h3 ⟨rfl, rfl⟩
        have hlt := lt_of_get gs
        have gs3 := (Gm.refl (m := none)).app (o := .lst []) |>.get gs
        have gf3 := (Gm.refl (m := none)).app (o := .lst []) |>.get gf
        refine step_seq (fun s h4 => (∃ c, s = [some (rgA m), some (.ref h.length), some (.ref (h.length + 1)), some (.int (j : Int)), some (.ref h2.length), c]) ∧ Gm none h h4 ∧ h4[h.length]? = some (.lst ((cycF m j).map rgA)) ∧ h4[h.length + 1]? = some (.dK (seenA ((cycF m j).flatten ++ ring m j))) ∧ h4[h2.length]? = some (.lst ((ring m j).map natA))) ?_ ?_
        · have hF := nodup_len m.length _ rgs.nd fun x hx => by
            obtain ⟨r, hr, hx⟩ := List.mem_flatten.mp hx
            exact (rgs.rg r hr).lt x hx
          -- what holds at each turn
          refine while_m (fun k s h4 => ∃ (q : List Nat) (x : Nat), s = [some (rgA m), some (.ref h.length), some (.ref (h.length + 1)), some (.int (j : Int)), some (.ref h2.length), some (.int (x : Int))] ∧ Gm none h h4 ∧ h4[h.length]? = some (.lst ((cycF m j).map rgA)) ∧ h4[h.length + 1]? = some (.dK (seenA ((cycF m j).flatten ++ q))) ∧ h4[h2.length]? = some (.lst (q.map natA)) ∧ q.length + k = m.length + 1 ∧
            (q = [] ∧ x = j ∨ Ch m (cycF m j).flatten j q x ∧ ∃ f, q.length + f = m.length + 1 ∧ ringGo m j f x q = ring m j)) ?_ n (m.length + 1) _ _ (by omega)
            ⟨[], j, rfl, gm.app, gf3, by rw [List.append_nil]; exact gs3, get_app, by simp, .inl ⟨rfl, rfl⟩⟩
          rintro k s h4 ⟨q, x, rfl, gm4, gf4, gs4, gq4, hk, hx⟩
          have et2 : testD (bin2 (inA true) (varD 5) (varD 2)) n [some (rgA m), some (.ref h.length), some (.ref (h.length + 1)), some (.int (j : Int)), some (.ref h2.length), some (.int (x : Int))] h4 = .ok (decide (x ∉ (cycF m j).flatten ++ q)) h4 := by
            show boolR (inA true (.int (x : Int)) (.ref (h.length + 1)) h4) = _
            rw [nin_dict gs4]
            rfl
          rw [et2, ev_ok]
          have hql : q.length ≤ m.length + 1 := by omega
          by_cases hin : x ∈ (cycF m j).flatten ++ q
          · simp only [hin, not_true, decide_false, Bool.false_eq_true, if_false]
            have key : ring m j = q := by
              rcases hx with ⟨rfl, rfl⟩ | ⟨ch, f, hf, er⟩
              · rw [List.append_nil] at hin
                exact absurd hin hm
              · rcases ch.next P rgs.closed with rfl | ⟨z1, z2, _⟩
                · rw [← er]
                  have := nodup_len m.length q ch.nd ch.lt
                  exact ringGo_end (by omega)
                · rcases List.mem_append.mp hin with z | z
                  · exact absurd z z2
                  · exact absurd z z1
            rw [key]
            exact ⟨⟨_, rfl⟩, gm4, gf4, gs4, gq4⟩
          · simp only [hin, not_false_eq_true, decide_true, if_true]
            have hxl : x < m.length := by
              rcases hx with ⟨rfl, rfl⟩ | ⟨ch, f, hf, er⟩
              · exact hj
              · rcases ch.next P rgs.closed with rfl | ⟨_, _, z⟩
                · exact hj
                · exact z
            have hk1 : 1 ≤ k := by
              rcases hx with ⟨rfl, rfl⟩ | ⟨ch, f, hf, er⟩
              · simp at hk; omega
              · have := nodup_len m.length q ch.nd ch.lt
                omega
            refine ⟨k - 1, by omega, ?_⟩
            have hlt4 := lt_of_get gs4
            refine step_seq (fun s h5 => s = [some (rgA m), some (.ref h.length), some (.ref (h.length + 1)), some (.int (j : Int)), some (.ref h2.length), some (.int (x : Int))] ∧ h5 = h4.set (h.length + 1) (.dK (seenA ((cycF m j).flatten ++ q ++ [x])))) ?_ ?_
            · have ep := put_dict gs4 hin (by rw [List.length_append]; omega)
              simp only [setItD, conD, varD, List.getElem?_cons_succ, List.getElem?_cons_zero, es_then, ev_ok, ep, es_nx, and_self]
            rintro s h5 ⟨rfl, rfl⟩
            have gf5 : (h4.set (h.length + 1) (.dK (seenA ((cycF m j).flatten ++ q ++ [x]))))[h.length]? = some (.lst ((cycF m j).map rgA)) := by rw [List.getElem?_set_ne (by omega)]; exact gf4
            have gq5 : (h4.set (h.length + 1) (.dK (seenA ((cycF m j).flatten ++ q ++ [x]))))[h2.length]? = some (.lst (q.map natA)) := by rw [List.getElem?_set_ne (by omega)]; exact gq4
            have gs5 : (h4.set (h.length + 1) (.dK (seenA ((cycF m j).flatten ++ q ++ [x]))))[h.length + 1]? = some (.dK (seenA ((cycF m j).flatten ++ (q ++ [x])))) := by rw [get_set gs4, List.append_assoc]
            have gm5 := gm4.set (p := h.length + 1) (o := .dK (seenA ((cycF m j).flatten ++ q ++ [x]))) (.inl (by omega))
            generalize h4.set (h.length + 1) (.dK (seenA ((cycF m j).flatten ++ q ++ [x]))) = h5 at gf5 gq5 gs5 gm5
            have hh2 : h.length + 1 < h2.length := hlt
            refine step_seq (fun s h6 => s = [some (rgA m), some (.ref h.length), some (.ref (h.length + 1)), some (.int (j : Int)), some (.ref h2.length), some (.int (x : Int))] ∧ h6 = h5.set h2.length (.lst (q.map natA ++ [.int (x : Int)]))) ?_ ?_
            · simp only [dropD, methD, varD, consD, nilD, List.getElem?_cons_succ, List.getElem?_cons_zero, ok_bind, tyA_ref gq5, if_true, es_then, app_ref gq5 (show (q.map natA).length < 16777216 by rw [List.length_map]; omega), ev_ok, es_nx, and_self]
            rintro s h6 ⟨rfl, rfl⟩
            refine es_set ?_
            show Ev _ (ixA (rgA m) (.int (x : Int)) _) _
            rw [ix_mv hxl, ev_ok]
            refine ⟨q ++ [x], at' m x, rfl, gm5.set (.inl (by omega)), ?_, ?_, ?_, by rw [List.length_append, List.length_singleton]; omega, .inr ?_⟩
            · rw [List.getElem?_set_ne (by omega)]; exact gf5
            · rw [List.getElem?_set_ne (by omega)]; exact gs5
            · rw [get_set gq5, List.map_append]; rfl
            · rcases hx with ⟨rfl, rfl⟩ | ⟨ch, f, hf, er⟩
              · exact ⟨ch_first hj hm, m.length, by simp; omega, rfl⟩
              · have hnl := nodup_len m.length q ch.nd ch.lt
                have hxj : x ≠ j := fun z => hin (List.mem_append_right _ (by
                  have := at0_mem ch.ne
                  rw [ch.hd] at this
                  rw [z]; exact this))
                refine ⟨ch.step (fun z => hin (List.mem_append_right _ z)) (fun z => hin (List.mem_append_left _ z)) hxl, f - 1, by rw [List.length_append, List.length_singleton]; omega, ?_⟩
                rw [← er, ringGo_go (by omega) hxj]
        rintro s h4 ⟨⟨c, rfl⟩, gm4, gf4, gs4, gq4⟩
        have hcl : ((cycF m j).map rgA).length < 16777216 := by rw [List.length_map]; omega
        simp only [seqD, ifD, retD, retND, dropD, setD, nextD, varD, conD, bin2, un1, testD, boolR, notT, andT, orT, ifE, andV, orV, notV, tupD, lstD, cbD, nilD, consD, asgD, parD, nameG, tupG, consG, nilG, setItD, augD, augItD, methD, forD, whileD, lcD, lc2D, sliceD, someD, noneD, chain3, truD, truR, orTD, andTD, notTD, joinedD, glueD, lstRg, rg1, rg2, itRg1, itRg2, itSeq, itEn, dnewKD, newK, newL, maxKD, yesT, wipeA, cmpI, add_I, sub_I, negA, ok_bind, sizeLine_eq, Nat.reduceLeDiff, eq_I, isi_tup, isi_str, isi_int, isi_boo, len_tup, qlt, qle, qgt, qge, rg_if, ev_ok, ev_bind, ev_if, ev_call, es_nx, es_rt, es_seq, es_then, es_if, List.getElem?_cons_succ, List.getElem?_cons_zero, List.set_cons_succ, List.set_cons_zero, List.length_cons, List.length_nil, List.map_cons, List.map_nil, List.replicate, List.cons_append, List.nil_append, Option.bind_some, Option.map_some, Bool.not_true, Bool.not_false, Bool.false_eq_true, if_true, if_false, decide_true, decide_false, true_and, and_true, Nat.zero_add, Nat.add_zero, Nat.reduceAdd, Nat.reduceSub, reduceIte, Nat.sub_self, Nat.succ_sub_succ_eq_sub, Nat.add_one_sub_one, tyA_ref gf4, tuple_ref gq4, app_ref gf4 hcl]
        refine ⟨hj, ⟨_, _, _, rfl⟩, gm4.set (.inl (Nat.le_refl _)), ?_, ?_, ?_⟩
        · rw [get_set gf4, e, List.map_append]; rfl
        · rw [List.getElem?_set_ne (by omega), gs4, e, List.flatten_append]
          simp
        · rw [e, List.length_append]; simp; omega
    · rintro s h2 ⟨_, ⟨a, b, c, rfl⟩, gm, gf, gs, hc⟩
      exact ⟨⟨_, _, _, rfl⟩, gm, gf⟩
  rintro s h2 ⟨⟨a, b, c, rfl⟩, gm, gf⟩
  simp only [seqD, ifD, retD, retND, dropD, setD, nextD, varD, conD, bin2, un1, testD, boolR, notT, andT, orT, ifE, andV, orV, notV, tupD, lstD, cbD, nilD, consD, asgD, parD, nameG, tupG, consG, nilG, setItD, augD, augItD, methD, forD, whileD, lcD, lc2D, sliceD, someD, noneD, chain3, truD, truR, orTD, andTD, notTD, joinedD, glueD, lstRg, rg1, rg2, itRg1, itRg2, itSeq, itEn, dnewKD, newK, newL, maxKD, yesT, wipeA, cmpI, add_I, sub_I, negA, ok_bind, sizeLine_eq, Nat.reduceLeDiff, eq_I, isi_tup, isi_str, isi_int, isi_boo, len_tup, qlt, qle, qgt, qge, rg_if, ev_ok, ev_bind, ev_if, ev_call, es_nx, es_rt, es_seq, es_then, es_if, List.getElem?_cons_succ, List.getElem?_cons_zero, List.set_cons_succ, List.set_cons_zero, List.length_cons, List.length_nil, List.map_cons, List.map_nil, List.replicate, List.cons_append, List.nil_append, Option.bind_some, Option.map_some, Bool.not_true, Bool.not_false, Bool.false_eq_true, if_true, if_false, decide_true, decide_false, true_and, and_true, Nat.zero_add, Nat.add_zero, Nat.reduceAdd, Nat.reduceSub, reduceIte, Nat.sub_self, Nat.succ_sub_succ_eq_sub, Nat.add_one_sub_one]
  exact ⟨gm, gf⟩
end Dn

set_option maxHeartbeats 4000000
namespace Dn
open PySem
theorem law_cycles_ok {X : Xn → Hs → Prop} {n : Nat} {h : Hs} {m : List Nat} (hn : 5000 ≤ n) (P : Prm m) (hl : m.length ≤ 60) :
    Ev X (f__law_cycles n [rgA m] h) fun a h' => a = .ref h.length ∧ Gm none h h' ∧ h'[h.length]? = some (.lst ((cyc m).map rgA)) := by
  refine ev_body rfl ?_
  unfold d__law_cycles
  refine step_seq (fun s h' => s = [some (rgA m), some (.ref h.length), some (.ref (h.length + 1)), none, none, none] ∧ h' = h ++ [.lst []] ++ [.lst []]) ?_ ?_
  · simp only [seqD, ifD, retD, retND, dropD, setD, nextD, varD, conD, bin2, un1, testD, boolR, notT, andT, orT, ifE, andV, orV, notV, tupD, lstD, cbD, nilD, consD, asgD, parD, nameG, tupG, consG, nilG, setItD, augD, augItD, methD, forD, whileD, lcD, lc2D, sliceD, someD, noneD, chain3, truD, truR, orTD, andTD, notTD, joinedD, glueD, lstRg, rg1, rg2, itRg1, itRg2, itSeq, itEn, dnewKD, newK, newL, maxKD, yesT, wipeA, cmpI, add_I, sub_I, negA, ok_bind, sizeLine_eq, Nat.reduceLeDiff, eq_I, isi_tup, isi_str, isi_int, isi_boo, len_tup, qlt, qle, qgt, qge, rg_if, ev_ok, ev_bind, ev_if, ev_call, es_nx, es_rt, es_seq, es_then, es_if, List.getElem?_cons_succ, List.getElem?_cons_zero, List.set_cons_succ, List.set_cons_zero, List.length_cons, List.length_nil, List.map_cons, List.map_nil, List.replicate, List.cons_append, List.nil_append, Option.bind_some, Option.map_some, Bool.not_true, Bool.not_false, Bool.false_eq_true, if_true, if_false, decide_true, decide_false, true_and, and_true, Nat.zero_add, Nat.add_zero, Nat.reduceAdd, Nat.reduceSub, reduceIte, Nat.sub_self, Nat.succ_sub_succ_eq_sub, Nat.add_one_sub_one]
    rw [List.length_append]
    exact rfl
  rintro s h' ⟨rfl, rfl⟩
  refine step_seq (fun s h2 => (∃ k a b c, s = [some (rgA m), some (.ref h.length), k, a, b, c]) ∧ Gm none h h2 ∧ h2[h.length]? = some (.lst ((cyc m).map rgA))) ?_ ?_
  · unfold forD
    rw [es_then]
    refine ev_rg1 (m := m.length) (by omega) ?_
    have ea : consD (cbD bLen (consD (varD 0) nilD)) nilD n [some (rgA m), some (.ref h.length), some (.ref (h.length + 1)), none, none, none] (h ++ [.lst []] ++ [.lst []]) = .ok [.int (m.length : Int)] (h ++ [.lst []] ++ [.lst []]) := by
      show R.ok [A.int ((m.map natA).length : Int)] _ = _
      rw [List.length_map]
    rw [ea, ev_ok]
    refine ⟨rfl, ?_⟩
    have h0 : (h ++ [AO.lst []] ++ [AO.lst []])[h.length]? = some (.lst []) := by
      rw [List.getElem?_append_left (by simp), get_app]
    have h1 : (h ++ [AO.lst []] ++ [AO.lst []])[h.length + 1]? = some (.lst []) := by
      have := get_app (h := h ++ [AO.lst []]) (o := AO.lst [])
      rw [List.length_append] at this
      exact this
    refine for_r (m := m.length) (by omega) (fun j s h2 => j ≤ m.length ∧ ∃ (kp : Nat) (a b c : Option A), s = [some (rgA m), some (.ref h.length), some (.ref kp), a, b, c] ∧ h.length < kp ∧ Gm none h h2 ∧ h2[h.length]? = some (.lst ((cycF m j).map rgA)) ∧ h2[kp]? = some (.lst ((cycF m j).flatten.map natA)) ∧ (cycF m j).length ≤ j)
      ⟨Nat.zero_le _, _, _, _, _, rfl, by omega, Gm.refl.app.app, h0, h1, Nat.le_refl _⟩ ?_ ?_
    · rintro j s h2 hj ⟨_, kp, a, b, c, rfl, hkp, gm, gf, gs, hc⟩
      obtain ⟨rgs, hcov⟩ := cycF_ok P j (by omega)
      refine ⟨[some (rgA m), some (.ref h.length), some (.ref kp), some (.int (j : Int)), b, c], by rw [Int.zero_add]; rfl, ?_⟩
      unfold ifD
      rw [es_then]
      have et : testD (bin2 (inA true) (varD 3) (varD 2)) n [some (rgA m), some (.ref h.length), some (.ref kp), some (.int (j : Int)), b, c] h2 = .ok (decide (j ∉ (cycF m j).flatten)) h2 := by
        show boolR (inA true (.int (j : Int)) (.ref kp) h2) = _
        rw [nin_list gs]
        rfl
      rw [et, ev_ok]
      by_cases hm : j ∈ (cycF m j).flatten
      · have e : cycF m (j + 1) = cycF m j := by rw [cycF, if_pos hm]
        simp only [hm, not_true, decide_false, Bool.false_eq_true, if_false, nextD, es_nx, e]
        exact ⟨hj, _, _, _, _, rfl, hkp, gm, gf, gs, by omega⟩
      · have e : cycF m (j + 1) = cycF m j ++ [ring m j] := by rw [cycF, if_neg hm]
        have rok := ring_ok P rgs.closed hj hm
        have hrl := nodup_len m.length _ rok.nd rok.lt
        have hF := nodup_len m.length _ rgs.nd fun x hx => by
          obtain ⟨r, hr, hx⟩ := List.mem_flatten.mp hx
          exact (rgs.rg r hr).lt x hx
        simp only [hm, not_false_eq_true, decide_true, if_true]
        have hltf := lt_of_get gf
        have hltk := lt_of_get gs
        refine step_seq (fun s h3 => s = [some (rgA m), some (.ref h.length), some (.ref kp), some (.int (j : Int)), some (.ref h2.length), some (.int ((at' m j : Nat) : Int))] ∧ h3 = h2 ++ [.lst [natA j]]) ?_ ?_
        · simp only [seqD, ifD, retD, retND, dropD, setD, nextD, varD, conD, bin2, un1, testD, boolR, notT, andT, orT, ifE, andV, orV, notV, tupD, lstD, cbD, nilD, consD, asgD, parD, nameG, tupG, consG, nilG, setItD, augD, augItD, methD, forD, whileD, lcD, lc2D, sliceD, someD, noneD, chain3, truD, truR, orTD, andTD, notTD, joinedD, glueD, lstRg, rg1, rg2, itRg1, itRg2, itSeq, itEn, dnewKD, newK, newL, maxKD, yesT, wipeA, cmpI, add_I, sub_I, negA, ok_bind, sizeLine_eq, Nat.reduceLeDiff, eq_I, isi_tup, isi_str, isi_int, isi_boo, len_tup, qlt, qle, qgt, qge, rg_if, ev_ok, ev_bind, ev_if, ev_call, es_nx, es_rt, es_seq, es_then, es_if, List.getElem?_cons_succ, List.getElem?_cons_zero, List.set_cons_succ, List.set_cons_zero, List.length_cons, List.length_nil, List.map_cons, List.map_nil, List.replicate, List.cons_append, List.nil_append, Option.bind_some, Option.map_some, Bool.not_true, Bool.not_false, Bool.false_eq_true, if_true, if_false, decide_true, decide_false, true_and, and_true, Nat.zero_add, Nat.add_zero, Nat.reduceAdd, Nat.reduceSub, reduceIte, Nat.sub_self, Nat.succ_sub_succ_eq_sub, Nat.add_one_sub_one]
          erw [ix_mv hj]
          exact ⟨rfl, rfl⟩
        rintro s h3 ⟨rfl, rfl⟩
        have gs3 := (Gm.refl (m := none)).app (o := .lst [natA j]) |>.get gs
        have gf3 := (Gm.refl (m := none)).app (o := .lst [natA j]) |>.get gf
        refine step_seq (fun s h4 => (∃ c, s = [some (rgA m), some (.ref h.length), some (.ref kp), some (.int (j : Int)), some (.ref h2.length), c]) ∧ Gm none h h4 ∧ h4[h.length]? = some (.lst ((cycF m j).map rgA)) ∧ h4[kp]? = some (.lst ((cycF m j).flatten.map natA)) ∧ h4[h2.length]? = some (.lst ((ring m j).map natA))) ?_ ?_
        · refine while_m (fun k s h4 => ∃ (q : List Nat) (x : Nat), s = [some (rgA m), some (.ref h.length), some (.ref kp), some (.int (j : Int)), some (.ref h2.length), some (.int (x : Int))] ∧ Gm none h h4 ∧ h4[h.length]? = some (.lst ((cycF m j).map rgA)) ∧ h4[kp]? = some (.lst ((cycF m j).flatten.map natA)) ∧ h4[h2.length]? = some (.lst (q.map natA)) ∧ q.length + k = m.length + 1 ∧
            Ch m (cycF m j).flatten j q x ∧ ringGo m j k x q = ring m j) ?_ n m.length _ _ (by omega)
            ⟨[j], at' m j, rfl, gm.app, gf3, gs3, get_app, by simp; omega, ch_first hj hm, rfl⟩
          rintro k s h4 ⟨q, x, rfl, gm4, gf4, gs4, gq4, hk, ch, er⟩
          have hnl := nodup_len m.length q ch.nd ch.lt
          have et2 : testD (bin2 (eqA true) (varD 5) (varD 3)) n [some (rgA m), some (.ref h.length), some (.ref kp), some (.int (j : Int)), some (.ref h2.length), some (.int (x : Int))] h4 = .ok (!decide ((x : Int) = (j : Int))) h4 := by
            show boolR (eqA true (.int (x : Int)) (.int (j : Int)) h4) = _
            rw [eq_I]
            rfl
          rw [et2, ev_ok]
          by_cases hxj : x = j
          · have hxj' : ((x : Int) = (j : Int)) := by omega
            simp only [hxj', decide_true, Bool.not_true, Bool.false_eq_true, if_false]
            have key : ring m j = q := by
              rw [← er, hxj]
              exact ringGo_end (by omega)
            rw [key]
            exact ⟨⟨_, rfl⟩, gm4, gf4, gs4, gq4⟩
          · have hxj' : ¬ ((x : Int) = (j : Int)) := by omega
            simp only [hxj', decide_false, Bool.not_false, if_true]
            rcases ch.next P rgs.closed with z | ⟨z1, z2, hxl⟩
            · exact absurd z hxj
            refine ⟨k - 1, by omega, ?_⟩
            refine step_seq (fun s h6 => s = [some (rgA m), some (.ref h.length), some (.ref kp), some (.int (j : Int)), some (.ref h2.length), some (.int (x : Int))] ∧ h6 = h4.set h2.length (.lst (q.map natA ++ [.int (x : Int)]))) ?_ ?_
            · simp only [dropD, methD, varD, consD, nilD, List.getElem?_cons_succ, List.getElem?_cons_zero, ok_bind, tyA_ref gq4, if_true, es_then, app_ref gq4 (show (q.map natA).length < 16777216 by rw [List.length_map]; omega), ev_ok, es_nx, and_self]
            rintro s h6 ⟨rfl, rfl⟩
            refine es_set ?_
            show Ev _ (ixA (rgA m) (.int (x : Int)) _) _
            rw [ix_mv hxl, ev_ok]
            refine ⟨q ++ [x], at' m x, rfl, gm4.set (.inl (by omega)), ?_, ?_, ?_, by rw [List.length_append, List.length_singleton]; omega, ch.step z1 z2 hxl, by rw [← er, ringGo_go (by omega) hxj]⟩
            · rw [List.getElem?_set_ne (by omega)]; exact gf4
            · rw [List.getElem?_set_ne (by omega)]; exact gs4
            · rw [get_set gq4, List.map_append]; rfl
        rintro s h4 ⟨⟨c, rfl⟩, gm4, gf4, gs4, gq4⟩
        have hlt4 := lt_of_get gf4
        refine step_seq (fun s h5 => s = [some (rgA m), some (.ref h.length), some (.ref h4.length), some (.int (j : Int)), some (.ref h2.length), c] ∧ h5 = h4 ++ [.lst ((cycF m j).flatten.map natA ++ (ring m j).map natA)]) ?_ ?_
        · refine es_set ?_
          rw [ev_bin2]
          show Ev _ (R.ok (A.ref kp) h4) _
          rw [ev_ok]
          show Ev _ (R.ok (A.ref h2.length) h4) _
          rw [ev_ok, add_L gs4 gq4 (by simp only [List.length_map]; omega), newL, ev_ok]
          exact ⟨rfl, rfl⟩
        rintro s h5 ⟨rfl, rfl⟩
        have gf5 := (Gm.refl (m := none)).app (o := .lst ((cycF m j).flatten.map natA ++ (ring m j).map natA)) |>.get gf4
        have gq5 := (Gm.refl (m := none)).app (o := .lst ((cycF m j).flatten.map natA ++ (ring m j).map natA)) |>.get gq4
        have gk5 := get_app (h := h4) (o := .lst ((cycF m j).flatten.map natA ++ (ring m j).map natA))
        have gm5 := gm4.app (o := .lst ((cycF m j).flatten.map natA ++ (ring m j).map natA))
        have hh4 : h.length < h4.length := hlt4
        generalize h4 ++ [.lst ((cycF m j).flatten.map natA ++ (ring m j).map natA)] = h5 at gf5 gq5 gk5 gm5
        have hcl : ((cycF m j).map rgA).length < 16777216 := by rw [List.length_map]; omega
        simp only [seqD, ifD, retD, retND, dropD, setD, nextD, varD, conD, bin2, un1, testD, boolR, notT, andT, orT, ifE, andV, orV, notV, tupD, lstD, cbD, nilD, consD, asgD, parD, nameG, tupG, consG, nilG, setItD, augD, augItD, methD, forD, whileD, lcD, lc2D, sliceD, someD, noneD, chain3, truD, truR, orTD, andTD, notTD, joinedD, glueD, lstRg, rg1, rg2, itRg1, itRg2, itSeq, itEn, dnewKD, newK, newL, maxKD, yesT, wipeA, cmpI, add_I, sub_I, negA, ok_bind, sizeLine_eq, Nat.reduceLeDiff, eq_I, isi_tup, isi_str, isi_int, isi_boo, len_tup, qlt, qle, qgt, qge, rg_if, ev_ok, ev_bind, ev_if, ev_call, es_nx, es_rt, es_seq, es_then, es_if, List.getElem?_cons_succ, List.getElem?_cons_zero, List.set_cons_succ, List.set_cons_zero, List.length_cons, List.length_nil, List.map_cons, List.map_nil, List.replicate, List.cons_append, List.nil_append, Option.bind_some, Option.map_some, Bool.not_true, Bool.not_false, Bool.false_eq_true, if_true, if_false, decide_true, decide_false, true_and, and_true, Nat.zero_add, Nat.add_zero, Nat.reduceAdd, Nat.reduceSub, reduceIte, Nat.sub_self, Nat.succ_sub_succ_eq_sub, Nat.add_one_sub_one, tyA_ref gf5, tuple_ref gq5, app_ref gf5 hcl]
        refine ⟨hj, _, _, _, _, rfl, hh4, gm5.set (.inl (Nat.le_refl _)), ?_, ?_, ?_⟩
        · rw [get_set gf5, e, List.map_append]; rfl
        · rw [List.getElem?_set_ne (by omega), gk5, e, List.flatten_append, List.map_append]
          simp
        · rw [e, List.length_append]; simp; omega
    · rintro s h2 ⟨_, kp, a, b, c, rfl, hkp, gm, gf, gs, hc⟩
      exact ⟨⟨_, _, _, _, rfl⟩, gm, gf⟩
  rintro s h2 ⟨⟨k, a, b, c, rfl⟩, gm, gf⟩
  simp only [seqD, ifD, retD, retND, dropD, setD, nextD, varD, conD, bin2, un1, testD, boolR, notT, andT, orT, ifE, andV, orV, notV, tupD, lstD, cbD, nilD, consD, asgD, parD, nameG, tupG, consG, nilG, setItD, augD, augItD, methD, forD, whileD, lcD, lc2D, sliceD, someD, noneD, chain3, truD, truR, orTD, andTD, notTD, joinedD, glueD, lstRg, rg1, rg2, itRg1, itRg2, itSeq, itEn, dnewKD, newK, newL, maxKD, yesT, wipeA, cmpI, add_I, sub_I, negA, ok_bind, sizeLine_eq, Nat.reduceLeDiff, eq_I, isi_tup, isi_str, isi_int, isi_boo, len_tup, qlt, qle, qgt, qge, rg_if, ev_ok, ev_bind, ev_if, ev_call, es_nx, es_rt, es_seq, es_then, es_if, List.getElem?_cons_succ, List.getElem?_cons_zero, List.set_cons_succ, List.set_cons_zero, List.length_cons, List.length_nil, List.map_cons, List.map_nil, List.replicate, List.cons_append, List.nil_append, Option.bind_some, Option.map_some, Bool.not_true, Bool.not_false, Bool.false_eq_true, if_true, if_false, decide_true, decide_false, true_and, and_true, Nat.zero_add, Nat.add_zero, Nat.reduceAdd, Nat.reduceSub, reduceIte, Nat.sub_self, Nat.succ_sub_succ_eq_sub, Nat.add_one_sub_one]
  exact ⟨gm, gf⟩
end Dn

set_option maxHeartbeats 4000000
namespace Dn
open PySem
open TL (numL joinL)
/-! ### rings as texts -/
def spL (r : List Nat) : List Nat := (r.map numL).flatMap ([32] ++ ·)
def ringL (r : List Nat) : List Nat := 40 :: (joinL [32] (r.map numL) ++ [41])
theorem ringL_cons (x : Nat) (r : List Nat) : ringL (x :: r) = 40 :: (numL x ++ (spL r ++ [41])) := by
  unfold ringL spL
  rw [List.map_cons, joinL_cons, List.append_assoc]
theorem spL_cons (x : Nat) (r : List Nat) : spL (x :: r) = 32 :: (numL x ++ spL r) := by
  unfold spL
  rw [List.map_cons, List.flatMap_cons]
  rfl
theorem sp_nofig (r rest : List Nat) : NoFig (spL r ++ (41 :: rest)) := by
  cases r with
  | nil => exact nofig_cons (by omega)
  | cons x r => rw [spL_cons]; exact nofig_cons (by omega)
theorem cycle_at_ok {X : Xn → Hs → Prop} {n : Nat} {h : Hs} {cs rest r : List Nat} {i : Nat} (hn : 5000 ≤ n) (hl : cs.length ≤ 3000) (hs : sm cs = true) (hr : 2 ≤ r.length) (hr2 : r.length ≤ 60) (hlt : ∀ x ∈ r, x < 60) (e : cs.drop i = ringL r ++ rest) :
    Ev X (f_cycle_at n [.str (S cs), .int (i : Int)] h) fun a h' => a = .tup [rgA r, .int ((i + (ringL r).length : Nat) : Int)] ∧ Gm none h h' := by
  obtain ⟨x0, rr, rfl⟩ : ∃ x0 rr, r = x0 :: rr := by
    cases r with
    | nil => simp at hr
    | cons a b => exact ⟨a, b, rfl⟩
  have hl2 : cs.length ≤ 16777216 := by omega
  have fig : ∀ x ∈ x0 :: rr, (numL x).length ≤ 60 := fun x hx => by have := fig2 (hlt x hx); omega
  have e0 : cs.drop i = 40 :: (numL x0 ++ (spL rr ++ 41 :: rest)) := by rw [e, ringL_cons]; simp
  have t0 : (cs.drop i).take 1 = [40] := by rw [e0]; rfl
  have e1 : cs.drop (i + 1) = numL x0 ++ (spL rr ++ 41 :: rest) := by rw [← List.drop_drop, e0]; rfl
  have elen : ∀ k : Nat, ((k : Int) + 1) = ((k + 1 : Nat) : Int) := fun k => by omega
  refine ev_body rfl ?_
  unfold d_cycle_at
  refine step_seq (fun s h' => s = [some (.str (S cs)), some (.int ((i + 1 + (numL x0).length : Nat) : Int)), some (natA x0), none] ∧ h' = h) ?_ ?_
  · simp only [seqD, ifD, retD, retND, dropD, setD, nextD, varD, conD, bin2, un1, testD, boolR, notT, andT, orT, ifE, andV, orV, notV, tupD, lstD, cbD, nilD, consD, asgD, parD, nameG, tupG, consG, nilG, setItD, augD, augItD, methD, forD, whileD, lcD, lc2D, sliceD, someD, noneD, chain3, truD, truR, orTD, andTD, notTD, joinedD, glueD, lstRg, rg1, rg2, itRg1, itRg2, itSeq, itEn, dnewKD, newK, newL, maxKD, yesT, wipeA, cmpI, add_I, sub_I, negA, ok_bind, sizeLine_eq, Nat.reduceLeDiff, eq_I, isi_tup, isi_str, isi_int, isi_boo, len_tup, qlt, qle, qgt, qge, rg_if, ev_ok, ev_bind, ev_if, ev_call, es_nx, es_rt, es_seq, es_then, es_if, List.getElem?_cons_succ, List.getElem?_cons_zero, List.set_cons_succ, List.set_cons_zero, List.length_cons, List.length_nil, List.map_cons, List.map_nil, List.replicate, List.cons_append, List.nil_append, Option.bind_some, Option.map_some, Bool.not_true, Bool.not_false, Bool.false_eq_true, if_true, if_false, decide_true, decide_false, true_and, and_true, Nat.zero_add, Nat.add_zero, Nat.reduceAdd, Nat.reduceSub, reduceIte, Nat.sub_self, Nat.succ_sub_succ_eq_sub, Nat.add_one_sub_one, c_lp, require_sign_ok hl hs t0, plain_at_ok hn hl hs e1 (fig x0 List.mem_cons_self) (sp_nofig rr rest)]
    exact rfl
  rintro s h' ⟨rfl, rfl⟩
  refine step_seq (fun s h2 => s = [some (.str (S cs)), some (.int ((i + 1 + (numL x0).length : Nat) : Int)), some (natA x0), some (.ref h'.length)] ∧ h2 = h' ++ [.lst [natA x0]]) ?_ ?_
  · simp only [seqD, ifD, retD, retND, dropD, setD, nextD, varD, conD, bin2, un1, testD, boolR, notT, andT, orT, ifE, andV, orV, notV, tupD, lstD, cbD, nilD, consD, asgD, parD, nameG, tupG, consG, nilG, setItD, augD, augItD, methD, forD, whileD, lcD, lc2D, sliceD, someD, noneD, chain3, truD, truR, orTD, andTD, notTD, joinedD, glueD, lstRg, rg1, rg2, itRg1, itRg2, itSeq, itEn, dnewKD, newK, newL, maxKD, yesT, wipeA, cmpI, add_I, sub_I, negA, ok_bind, sizeLine_eq, Nat.reduceLeDiff, eq_I, isi_tup, isi_str, isi_int, isi_boo, len_tup, qlt, qle, qgt, qge, rg_if, ev_ok, ev_bind, ev_if, ev_call, es_nx, es_rt, es_seq, es_then, es_if, List.getElem?_cons_succ, List.getElem?_cons_zero, List.set_cons_succ, List.set_cons_zero, List.length_cons, List.length_nil, List.map_cons, List.map_nil, List.replicate, List.cons_append, List.nil_append, Option.bind_some, Option.map_some, Bool.not_true, Bool.not_false, Bool.false_eq_true, if_true, if_false, decide_true, decide_false, true_and, and_true, Nat.zero_add, Nat.add_zero, Nat.reduceAdd, Nat.reduceSub, reduceIte, Nat.sub_self, Nat.succ_sub_succ_eq_sub, Nat.add_one_sub_one, and_self]
  rintro s h2 ⟨rfl, rfl⟩
  refine step_seq (fun s h3 => ∃ (p : Nat) (a : Option A), s = [some (.str (S cs)), some (.int (p : Int)), a, some (.ref h'.length)] ∧ cs.drop p = 41 :: rest ∧ p + 1 = i + (ringL (x0 :: rr)).length ∧ Gm none h' h3 ∧ h3[h'.length]? = some (.lst ((x0 :: rr).map natA))) ?_ ?_
  · refine while_m (fun k s h3 => ∃ (d r : List Nat) (p : Nat) (a : Option A), rr = d ++ r ∧ k = r.length ∧ s = [some (.str (S cs)), some (.int (p : Int)), a, some (.ref h'.length)] ∧ cs.drop p = spL r ++ 41 :: rest ∧ p + (spL r).length + 1 = i + (ringL (x0 :: rr)).length ∧ Gm none h' h3 ∧ h3[h'.length]? = some (.lst ((x0 :: d).map natA))) ?_ n rr.length _ _ (by rw [List.length_cons] at hr2; omega)
      ⟨[], rr, i + 1 + (numL x0).length, _, rfl, rfl, rfl, by rw [← List.drop_drop, e1, List.drop_left], by rw [ringL_cons]; simp only [List.length_cons, List.length_append, List.length_nil]; omega, Gm.refl.app, get_app⟩
    rintro k s h3 ⟨d, r, p, a, rfl, rfl, rfl, ed, elp, gm, gp⟩
    cases r with
    | nil =>
      have hd1 : ¬ (((d.length + 1 : Nat) : Int) < 2) := by
        rw [List.append_nil, List.length_cons] at hr
        omega
      have et := head_ne (d := 32) (ed : cs.drop p = 41 :: rest) (by omega)
      refine Ev.mono (Q := fun t h1 => t = false ∧ h3 = h1) (by simp only [seqD, ifD, retD, retND, dropD, setD, nextD, varD, conD, bin2, un1, testD, boolR, notT, andT, orT, ifE, andV, orV, notV, tupD, lstD, cbD, nilD, consD, asgD, parD, nameG, tupG, consG, nilG, setItD, augD, augItD, methD, forD, whileD, lcD, lc2D, sliceD, someD, noneD, chain3, truD, truR, orTD, andTD, notTD, joinedD, glueD, lstRg, rg1, rg2, itRg1, itRg2, itSeq, itEn, dnewKD, newK, newL, maxKD, yesT, wipeA, cmpI, add_I, sub_I, negA, ok_bind, sizeLine_eq, Nat.reduceLeDiff, eq_I, isi_tup, isi_str, isi_int, isi_boo, len_tup, qlt, qle, qgt, qge, rg_if, ev_ok, ev_bind, ev_if, ev_call, es_nx, es_rt, es_seq, es_then, es_if, List.getElem?_cons_succ, List.getElem?_cons_zero, List.set_cons_succ, List.set_cons_zero, List.length_cons, List.length_nil, List.map_cons, List.map_nil, List.replicate, List.cons_append, List.nil_append, Option.bind_some, Option.map_some, Bool.not_true, Bool.not_false, Bool.false_eq_true, if_true, if_false, decide_true, decide_false, true_and, and_true, Nat.zero_add, Nat.add_zero, Nat.reduceAdd, Nat.reduceSub, reduceIte, Nat.sub_self, Nat.succ_sub_succ_eq_sub, Nat.add_one_sub_one, len_ref gp, List.length_map, hd1, addA, elen, sl_S hl2, c_lp, c_rp, c_sp, c_co, c_lb, c_rb, c_mi, c_pl, c_0, c_un, c_m0, c_em, c_sm, c_ss, c_fi, m_lp, m_rp, m_sp, m_co, m_lb, m_rb, m_mi, m_pl, m_0, m_un, m_m0, m_em, m_sm, m_ss, eq_S, sm_cut hs, et, and_self]) ?_
      rintro _ _ ⟨rfl, rfl⟩
      simp only [Bool.false_eq_true, if_false]
      rw [List.append_nil]
      exact ⟨p, a, rfl, ed, by have : (spL []).length = 0 := rfl; rw [List.append_nil] at elp; omega, gm, gp⟩
    | cons x r =>
      rw [spL_cons] at ed
      have et : (cs.drop p).take 1 = [32] := by rw [ed]; rfl
      have ed1 : cs.drop (p + 1) = numL x ++ (spL r ++ 41 :: rest) := by rw [← List.drop_drop, ed]; simp
      refine Ev.mono (Q := fun t h1 => t = true ∧ h3 = h1) ?_ ?_
      · by_cases hd1 : ((d.length + 1 : Nat) : Int) < 2
        · simp only [seqD, ifD, retD, retND, dropD, setD, nextD, varD, conD, bin2, un1, testD, boolR, notT, andT, orT, ifE, andV, orV, notV, tupD, lstD, cbD, nilD, consD, asgD, parD, nameG, tupG, consG, nilG, setItD, augD, augItD, methD, forD, whileD, lcD, lc2D, sliceD, someD, noneD, chain3, truD, truR, orTD, andTD, notTD, joinedD, glueD, lstRg, rg1, rg2, itRg1, itRg2, itSeq, itEn, dnewKD, newK, newL, maxKD, yesT, wipeA, cmpI, add_I, sub_I, negA, ok_bind, sizeLine_eq, Nat.reduceLeDiff, eq_I, isi_tup, isi_str, isi_int, isi_boo, len_tup, qlt, qle, qgt, qge, rg_if, ev_ok, ev_bind, ev_if, ev_call, es_nx, es_rt, es_seq, es_then, es_if, List.getElem?_cons_succ, List.getElem?_cons_zero, List.set_cons_succ, List.set_cons_zero, List.length_cons, List.length_nil, List.map_cons, List.map_nil, List.replicate, List.cons_append, List.nil_append, Option.bind_some, Option.map_some, Bool.not_true, Bool.not_false, Bool.false_eq_true, if_true, if_false, decide_true, decide_false, true_and, and_true, Nat.zero_add, Nat.add_zero, Nat.reduceAdd, Nat.reduceSub, reduceIte, Nat.sub_self, Nat.succ_sub_succ_eq_sub, Nat.add_one_sub_one, len_ref gp, List.length_map, hd1, and_self]
        · simp only [seqD, ifD, retD, retND, dropD, setD, nextD, varD, conD, bin2, un1, testD, boolR, notT, andT, orT, ifE, andV, orV, notV, tupD, lstD, cbD, nilD, consD, asgD, parD, nameG, tupG, consG, nilG, setItD, augD, augItD, methD, forD, whileD, lcD, lc2D, sliceD, someD, noneD, chain3, truD, truR, orTD, andTD, notTD, joinedD, glueD, lstRg, rg1, rg2, itRg1, itRg2, itSeq, itEn, dnewKD, newK, newL, maxKD, yesT, wipeA, cmpI, add_I, sub_I, negA, ok_bind, sizeLine_eq, Nat.reduceLeDiff, eq_I, isi_tup, isi_str, isi_int, isi_boo, len_tup, qlt, qle, qgt, qge, rg_if, ev_ok, ev_bind, ev_if, ev_call, es_nx, es_rt, es_seq, es_then, es_if, List.getElem?_cons_succ, List.getElem?_cons_zero, List.set_cons_succ, List.set_cons_zero, List.length_cons, List.length_nil, List.map_cons, List.map_nil, List.replicate, List.cons_append, List.nil_append, Option.bind_some, Option.map_some, Bool.not_true, Bool.not_false, Bool.false_eq_true, if_true, if_false, decide_true, decide_false, true_and, and_true, Nat.zero_add, Nat.add_zero, Nat.reduceAdd, Nat.reduceSub, reduceIte, Nat.sub_self, Nat.succ_sub_succ_eq_sub, Nat.add_one_sub_one, len_ref gp, List.length_map, hd1, addA, elen, sl_S hl2, c_lp, c_rp, c_sp, c_co, c_lb, c_rb, c_mi, c_pl, c_0, c_un, c_m0, c_em, c_sm, c_ss, c_fi, m_lp, m_rp, m_sp, m_co, m_lb, m_rb, m_mi, m_pl, m_0, m_un, m_m0, m_em, m_sm, m_ss, eq_S, sm_cut hs, et, and_self]
      rintro _ _ ⟨rfl, rfl⟩
      simp only [if_true]
      refine ⟨r.length, by simp, ?_⟩
      have hxm : x ∈ x0 :: (d ++ x :: r) := List.mem_cons_of_mem _ (List.mem_append_right _ List.mem_cons_self)
      refine step_seq (fun s h4 => s = [some (.str (S cs)), some (.int ((p + 1 + (numL x).length : Nat) : Int)), some (natA x), some (.ref h'.length)] ∧ h4 = h3) ?_ ?_
      · simp only [seqD, ifD, retD, retND, dropD, setD, nextD, varD, conD, bin2, un1, testD, boolR, notT, andT, orT, ifE, andV, orV, notV, tupD, lstD, cbD, nilD, consD, asgD, parD, nameG, tupG, consG, nilG, setItD, augD, augItD, methD, forD, whileD, lcD, lc2D, sliceD, someD, noneD, chain3, truD, truR, orTD, andTD, notTD, joinedD, glueD, lstRg, rg1, rg2, itRg1, itRg2, itSeq, itEn, dnewKD, newK, newL, maxKD, yesT, wipeA, cmpI, add_I, sub_I, negA, ok_bind, sizeLine_eq, Nat.reduceLeDiff, eq_I, isi_tup, isi_str, isi_int, isi_boo, len_tup, qlt, qle, qgt, qge, rg_if, ev_ok, ev_bind, ev_if, ev_call, es_nx, es_rt, es_seq, es_then, es_if, List.getElem?_cons_succ, List.getElem?_cons_zero, List.set_cons_succ, List.set_cons_zero, List.length_cons, List.length_nil, List.map_cons, List.map_nil, List.replicate, List.cons_append, List.nil_append, Option.bind_some, Option.map_some, Bool.not_true, Bool.not_false, Bool.false_eq_true, if_true, if_false, decide_true, decide_false, true_and, and_true, Nat.zero_add, Nat.add_zero, Nat.reduceAdd, Nat.reduceSub, reduceIte, Nat.sub_self, Nat.succ_sub_succ_eq_sub, Nat.add_one_sub_one, c_sp, require_sign_ok hl hs et, plain_at_ok hn hl hs ed1 (fig x hxm) (sp_nofig r rest)]
        exact rfl
      rintro s h4 ⟨rfl, rfl⟩
      have hdl : ((x0 :: d).map natA).length < 16777216 := by
        rw [List.length_map, List.length_cons]
        rw [List.length_cons, List.length_append] at hr2
        omega
      simp only [seqD, ifD, retD, retND, dropD, setD, nextD, varD, conD, bin2, un1, testD, boolR, notT, andT, orT, ifE, andV, orV, notV, tupD, lstD, cbD, nilD, consD, asgD, parD, nameG, tupG, consG, nilG, setItD, augD, augItD, methD, forD, whileD, lcD, lc2D, sliceD, someD, noneD, chain3, truD, truR, orTD, andTD, notTD, joinedD, glueD, lstRg, rg1, rg2, itRg1, itRg2, itSeq, itEn, dnewKD, newK, newL, maxKD, yesT, wipeA, cmpI, add_I, sub_I, negA, ok_bind, sizeLine_eq, Nat.reduceLeDiff, eq_I, isi_tup, isi_str, isi_int, isi_boo, len_tup, qlt, qle, qgt, qge, rg_if, ev_ok, ev_bind, ev_if, ev_call, es_nx, es_rt, es_seq, es_then, es_if, List.getElem?_cons_succ, List.getElem?_cons_zero, List.set_cons_succ, List.set_cons_zero, List.length_cons, List.length_nil, List.map_cons, List.map_nil, List.replicate, List.cons_append, List.nil_append, Option.bind_some, Option.map_some, Bool.not_true, Bool.not_false, Bool.false_eq_true, if_true, if_false, decide_true, decide_false, true_and, and_true, Nat.zero_add, Nat.add_zero, Nat.reduceAdd, Nat.reduceSub, reduceIte, Nat.sub_self, Nat.succ_sub_succ_eq_sub, Nat.add_one_sub_one, tyA_ref gp, app_ref gp hdl]
      refine ⟨d ++ [x], r, p + 1 + (numL x).length, _, by rw [List.append_assoc]; rfl, rfl, rfl, by rw [← List.drop_drop, ed1, List.drop_left], ?_, gm.set (.inl (Nat.le_refl _)), ?_⟩
      · rw [spL_cons] at elp
        simp only [List.length_cons, List.length_append] at elp
        omega
      · rw [get_set gp]
        simp
  rintro s h3 ⟨p, a, rfl, ed, elp, gm, gp⟩
  have et : (cs.drop p).take 1 = [41] := by rw [ed]; rfl
  simp only [seqD, ifD, retD, retND, dropD, setD, nextD, varD, conD, bin2, un1, testD, boolR, notT, andT, orT, ifE, andV, orV, notV, tupD, lstD, cbD, nilD, consD, asgD, parD, nameG, tupG, consG, nilG, setItD, augD, augItD, methD, forD, whileD, lcD, lc2D, sliceD, someD, noneD, chain3, truD, truR, orTD, andTD, notTD, joinedD, glueD, lstRg, rg1, rg2, itRg1, itRg2, itSeq, itEn, dnewKD, newK, newL, maxKD, yesT, wipeA, cmpI, add_I, sub_I, negA, ok_bind, sizeLine_eq, Nat.reduceLeDiff, eq_I, isi_tup, isi_str, isi_int, isi_boo, len_tup, qlt, qle, qgt, qge, rg_if, ev_ok, ev_bind, ev_if, ev_call, es_nx, es_rt, es_seq, es_then, es_if, List.getElem?_cons_succ, List.getElem?_cons_zero, List.set_cons_succ, List.set_cons_zero, List.length_cons, List.length_nil, List.map_cons, List.map_nil, List.replicate, List.cons_append, List.nil_append, Option.bind_some, Option.map_some, Bool.not_true, Bool.not_false, Bool.false_eq_true, if_true, if_false, decide_true, decide_false, true_and, and_true, Nat.zero_add, Nat.add_zero, Nat.reduceAdd, Nat.reduceSub, reduceIte, Nat.sub_self, Nat.succ_sub_succ_eq_sub, Nat.add_one_sub_one, tuple_ref gp, c_rp, require_sign_ok hl hs et]
  rw [elp]
  exact ⟨rfl, gm⟩
def ringsL (R : List (List Nat)) : List Nat := R.flatMap ringL
def mvL (R : List (List Nat)) : List Nat := if R = [] then [40, 41] else ringsL R
theorem ringsL_cons (r : List Nat) (R : List (List Nat)) : ringsL (r :: R) = ringL r ++ ringsL R := by unfold ringsL; rw [List.flatMap_cons]
theorem cycles_at_ok {X : Xn → Hs → Prop} {n : Nat} {h : Hs} {R : List (List Nat)} (hn : 5000 ≤ n) (hl : (mvL R).length ≤ 3000) (hs : sm (mvL R) = true) (hR : R.length ≤ 60) (hr : ∀ r ∈ R, 2 ≤ r.length ∧ r.length ≤ 60 ∧ ∀ x ∈ r, x < 60) :
    Ev X (f_cycles_at n [.str (S (mvL R)), .int 0] h) fun a h' => ∃ f, a = .tup [.ref f, .int (((mvL R).length : Nat) : Int)] ∧ h.length ≤ f ∧ Gm none h h' ∧ h'[f]? = some (.lst (R.map rgA)) := by
  have elen : ∀ k : Nat, ((k : Int) + 1) = ((k + 1 : Nat) : Int) := fun k => by omega
  refine ev_body rfl ?_
  unfold d_cycles_at
  cases R with
  | nil =>
    have q := sl_S (cs := [40, 41]) (i := 0) (k := 2) (h := h) (by decide)
    have q2 : slA (.str (S [40, 41])) (some 0) (some (0 + 2)) h = .ok (.str (S [40, 41])) h := q
    have em : mvL [] = [40, 41] := rfl
    rw [em]
    unfold seqD ifD
    rw [es_seq, es_then]
    have et : testD (bin2 (eqA false) (sliceD (varD 0) (someD (varD 1)) (someD (bin2 addA (varD 1) (conD (.int 2))))) (conD (.str "()"))) n [some (.str (S [40, 41])), some (.int 0), none, none] h = .ok true h := by
      show boolR ((slA (.str (S [40, 41])) (some 0) (some (0 + 2)) h).bind fun a h1 => (Dn.R.ok (A.str (Str.ofString "()")) h1).bind fun b h2 => eqA false a b h2) = _
      rw [q2, ok_bind, ok_bind, c_un, eq_S m_un m_un]
      rfl
    show Ev _ (testD (bin2 (eqA false) (sliceD (varD 0) (someD (varD 1)) (someD (bin2 addA (varD 1) (conD (.int 2))))) (conD (.str "()"))) n [some (.str (S [40, 41])), some (.int 0), none, none] h) _
    rw [et, ev_ok]
    simp only [if_true]
    refine es_ret ?_
    have e2 : tupD (consD (lstD nilD) (consD (bin2 addA (varD 1) (conD (.int 2))) nilD)) n [some (.str (S [40, 41])), some (.int 0), none, none] h = .ok (.tup [.ref h.length, .int 2]) (h ++ [.lst []]) := by
      simp only [tupD, consD, nilD, lstD, bin2, varD, conD, addA, List.getElem?_cons_succ, List.getElem?_cons_zero, ok_bind, List.length_nil, List.length_cons, small_line (show 0 ≤ 16777216 by decide), small_line (show 0 + 1 + 1 ≤ 16777216 by decide), if_true, newL]
      rfl
    show Ev _ (tupD (consD (lstD nilD) (consD (bin2 addA (varD 1) (conD (.int 2))) nilD)) n [some (.str (S [40, 41])), some (.int 0), none, none] h) _
    rw [e2, ev_ok]
    exact ⟨_, rfl, Nat.le_refl _, Gm.refl.app, get_app⟩
  | cons r R =>
    have em : mvL (r :: R) = ringL r ++ ringsL R := by unfold mvL; rw [if_neg (by simp), ringsL_cons]
    rw [em] at hl hs ⊢
    generalize ecs : ringL r ++ ringsL R = cs at *
    have hl2 : cs.length ≤ 16777216 := by omega
    obtain ⟨r1, r2, r3⟩ := hr r List.mem_cons_self
    obtain ⟨x0, rr, er⟩ : ∃ x0 rr, r = x0 :: rr := by
      cases r with
      | nil => simp at r1
      | cons a b => exact ⟨a, b, rfl⟩
    obtain ⟨c, t, ec, c1, c2⟩ := num_cons x0
    have e0 : cs.drop 0 = ringL r ++ ringsL R := by rw [List.drop_zero, ecs]
    have et : ¬ ((cs.drop 0).take 2 = [40, 41]) := by
      rw [e0, er, ringL_cons, ec]
      simp
      omega
    have q := sl_S (cs := cs) (i := 0) (k := 2) (h := h) hl2
    have q2 : slA (.str (S cs)) (some 0) (some (0 + 2)) h = .ok (.str (S ((cs.drop 0).take 2))) h := q
    refine step_seq (fun s h' => s = [some (.str (S cs)), some (.int 0), none, none] ∧ h' = h) ?_ ?_
    · have et2 : testD (bin2 (eqA false) (sliceD (varD 0) (someD (varD 1)) (someD (bin2 addA (varD 1) (conD (.int 2))))) (conD (.str "()"))) n [some (.str (S cs)), some (.int 0), none, none] h = .ok false h := by
        show boolR ((slA (.str (S cs)) (some 0) (some (0 + 2)) h).bind fun a h1 => (Dn.R.ok (A.str (Str.ofString "()")) h1).bind fun b h2 => eqA false a b h2) = _
        rw [q2, ok_bind, ok_bind, c_un, eq_S (sm_cut hs) m_un, decide_eq_false et]
        rfl
      unfold ifD
      rw [es_then]
      show Ev _ (testD (bin2 (eqA false) (sliceD (varD 0) (someD (varD 1)) (someD (bin2 addA (varD 1) (conD (.int 2))))) (conD (.str "()"))) n [some (.str (S cs)), some (.int 0), none, none] h) _
      rw [et2, ev_ok]
      simp only [Bool.false_eq_true, if_false, nextD, es_nx]
      exact ⟨rfl, trivial⟩
    rintro s h' ⟨rfl, rfl⟩
    refine step_seq (fun s h2 => s = [some (.str (S cs)), some (.int (((ringL r).length : Nat) : Int)), some (rgA r), none] ∧ Gm none h' h2) ?_ ?_
    · have q3 := cycle_at_ok (X := fun x h => X x h) (h := h') (i := 0) (rest := ringsL R) hn hl hs r1 r2 r3 e0
      rw [Nat.zero_add] at q3
      simp only [seqD, ifD, retD, retND, dropD, setD, nextD, varD, conD, bin2, un1, testD, boolR, notT, andT, orT, ifE, andV, orV, notV, tupD, lstD, cbD, nilD, consD, asgD, parD, nameG, tupG, consG, nilG, setItD, augD, augItD, methD, forD, whileD, lcD, lc2D, sliceD, someD, noneD, chain3, truD, truR, orTD, andTD, notTD, joinedD, glueD, lstRg, rg1, rg2, itRg1, itRg2, itSeq, itEn, dnewKD, newK, newL, maxKD, yesT, wipeA, cmpI, add_I, sub_I, negA, ok_bind, sizeLine_eq, Nat.reduceLeDiff, eq_I, isi_tup, isi_str, isi_int, isi_boo, len_tup, qlt, qle, qgt, qge, rg_if, ev_ok, ev_bind, ev_if, ev_call, es_nx, es_rt, es_seq, es_then, es_if, List.getElem?_cons_succ, List.getElem?_cons_zero, List.set_cons_succ, List.set_cons_zero, List.length_cons, List.length_nil, List.map_cons, List.map_nil, List.replicate, List.cons_append, List.nil_append, Option.bind_some, Option.map_some, Bool.not_true, Bool.not_false, Bool.false_eq_true, if_true, if_false, decide_true, decide_false, true_and, and_true, Nat.zero_add, Nat.add_zero, Nat.reduceAdd, Nat.reduceSub, reduceIte, Nat.sub_self, Nat.succ_sub_succ_eq_sub, Nat.add_one_sub_one]
      refine Ev.mono (show Ev _ (f_cycle_at n [.str (S cs), .int 0] h') _ from q3) fun a h2 z => ?_
      obtain ⟨rfl, g2⟩ := z
      exact ⟨rfl, g2⟩
    rintro s h2 ⟨rfl, g2⟩
    refine step_seq (fun s h3 => s = [some (.str (S cs)), some (.int (((ringL r).length : Nat) : Int)), some (rgA r), some (.ref h2.length)] ∧ h3 = h2 ++ [.lst [rgA r]]) ?_ ?_
    · simp only [seqD, ifD, retD, retND, dropD, setD, nextD, varD, conD, bin2, un1, testD, boolR, notT, andT, orT, ifE, andV, orV, notV, tupD, lstD, cbD, nilD, consD, asgD, parD, nameG, tupG, consG, nilG, setItD, augD, augItD, methD, forD, whileD, lcD, lc2D, sliceD, someD, noneD, chain3, truD, truR, orTD, andTD, notTD, joinedD, glueD, lstRg, rg1, rg2, itRg1, itRg2, itSeq, itEn, dnewKD, newK, newL, maxKD, yesT, wipeA, cmpI, add_I, sub_I, negA, ok_bind, sizeLine_eq, Nat.reduceLeDiff, eq_I, isi_tup, isi_str, isi_int, isi_boo, len_tup, qlt, qle, qgt, qge, rg_if, ev_ok, ev_bind, ev_if, ev_call, es_nx, es_rt, es_seq, es_then, es_if, List.getElem?_cons_succ, List.getElem?_cons_zero, List.set_cons_succ, List.set_cons_zero, List.length_cons, List.length_nil, List.map_cons, List.map_nil, List.replicate, List.cons_append, List.nil_append, Option.bind_some, Option.map_some, Bool.not_true, Bool.not_false, Bool.false_eq_true, if_true, if_false, decide_true, decide_false, true_and, and_true, Nat.zero_add, Nat.add_zero, Nat.reduceAdd, Nat.reduceSub, reduceIte, Nat.sub_self, Nat.succ_sub_succ_eq_sub, Nat.add_one_sub_one, and_self]
    rintro s h3 ⟨rfl, rfl⟩
    refine step_seq (fun s h4 => (∃ a, s = [some (.str (S cs)), some (.int (cs.length : Int)), a, some (.ref h2.length)]) ∧ Gm none h2 h4 ∧ h4[h2.length]? = some (.lst ((r :: R).map rgA))) ?_ ?_
    · refine while_m (fun k s h4 => ∃ (d Q : List (List Nat)) (p : Nat) (a : Option A), R = d ++ Q ∧ k = Q.length ∧ s = [some (.str (S cs)), some (.int (p : Int)), a, some (.ref h2.length)] ∧ cs.drop p = ringsL Q ∧ p ≤ cs.length ∧ Gm none h2 h4 ∧ h4[h2.length]? = some (.lst ((r :: d).map rgA))) ?_ n R.length _ _ (by rw [List.length_cons] at hR; omega)
        ⟨[], R, (ringL r).length, _, rfl, rfl, rfl, by rw [← ecs, List.drop_left], by rw [← ecs, List.length_append]; omega, Gm.refl.app, get_app⟩
      rintro k s h4 ⟨d, Q, p, a, rfl, rfl, rfl, ed, hp, gm, gp⟩
      cases Q with
      | nil =>
        have et := head_nil (d := 40) (ed : cs.drop p = [])
        have hlen : p = cs.length := by
          have := congrArg List.length ed
          rw [List.length_drop] at this
          have t0 : (ringsL []).length = 0 := rfl
          omega
        subst hlen
        refine Ev.mono (Q := fun t h1 => t = false ∧ h4 = h1) (by simp only [seqD, ifD, retD, retND, dropD, setD, nextD, varD, conD, bin2, un1, testD, boolR, notT, andT, orT, ifE, andV, orV, notV, tupD, lstD, cbD, nilD, consD, asgD, parD, nameG, tupG, consG, nilG, setItD, augD, augItD, methD, forD, whileD, lcD, lc2D, sliceD, someD, noneD, chain3, truD, truR, orTD, andTD, notTD, joinedD, glueD, lstRg, rg1, rg2, itRg1, itRg2, itSeq, itEn, dnewKD, newK, newL, maxKD, yesT, wipeA, cmpI, add_I, sub_I, negA, ok_bind, sizeLine_eq, Nat.reduceLeDiff, eq_I, isi_tup, isi_str, isi_int, isi_boo, len_tup, qlt, qle, qgt, qge, rg_if, ev_ok, ev_bind, ev_if, ev_call, es_nx, es_rt, es_seq, es_then, es_if, List.getElem?_cons_succ, List.getElem?_cons_zero, List.set_cons_succ, List.set_cons_zero, List.length_cons, List.length_nil, List.map_cons, List.map_nil, List.replicate, List.cons_append, List.nil_append, Option.bind_some, Option.map_some, Bool.not_true, Bool.not_false, Bool.false_eq_true, if_true, if_false, decide_true, decide_false, true_and, and_true, Nat.zero_add, Nat.add_zero, Nat.reduceAdd, Nat.reduceSub, reduceIte, Nat.sub_self, Nat.succ_sub_succ_eq_sub, Nat.add_one_sub_one, addA, elen, sl_S hl2, c_lp, c_rp, c_sp, c_co, c_lb, c_rb, c_mi, c_pl, c_0, c_un, c_m0, c_em, c_sm, c_ss, c_fi, m_lp, m_rp, m_sp, m_co, m_lb, m_rb, m_mi, m_pl, m_0, m_un, m_m0, m_em, m_sm, m_ss, eq_S, sm_cut hs, et, and_self]) ?_
        rintro _ _ ⟨rfl, rfl⟩
        simp only [Bool.false_eq_true, if_false]
        rw [List.append_nil]
        exact ⟨⟨_, rfl⟩, gm, gp⟩
      | cons y Q =>
        have hy := hr y (List.mem_cons_of_mem _ (List.mem_append_right _ List.mem_cons_self))
        rw [ringsL_cons] at ed
        have et : (cs.drop p).take 1 = [40] := by rw [ed]; rfl
        refine Ev.mono (Q := fun t h1 => t = true ∧ h4 = h1) (by simp only [seqD, ifD, retD, retND, dropD, setD, nextD, varD, conD, bin2, un1, testD, boolR, notT, andT, orT, ifE, andV, orV, notV, tupD, lstD, cbD, nilD, consD, asgD, parD, nameG, tupG, consG, nilG, setItD, augD, augItD, methD, forD, whileD, lcD, lc2D, sliceD, someD, noneD, chain3, truD, truR, orTD, andTD, notTD, joinedD, glueD, lstRg, rg1, rg2, itRg1, itRg2, itSeq, itEn, dnewKD, newK, newL, maxKD, yesT, wipeA, cmpI, add_I, sub_I, negA, ok_bind, sizeLine_eq, Nat.reduceLeDiff, eq_I, isi_tup, isi_str, isi_int, isi_boo, len_tup, qlt, qle, qgt, qge, rg_if, ev_ok, ev_bind, ev_if, ev_call, es_nx, es_rt, es_seq, es_then, es_if, List.getElem?_cons_succ, List.getElem?_cons_zero, List.set_cons_succ, List.set_cons_zero, List.length_cons, List.length_nil, List.map_cons, List.map_nil, List.replicate, List.cons_append, List.nil_append, Option.bind_some, Option.map_some, Bool.not_true, Bool.not_false, Bool.false_eq_true, if_true, if_false, decide_true, decide_false, true_and, and_true, Nat.zero_add, Nat.add_zero, Nat.reduceAdd, Nat.reduceSub, reduceIte, Nat.sub_self, Nat.succ_sub_succ_eq_sub, Nat.add_one_sub_one, addA, elen, sl_S hl2, c_lp, c_rp, c_sp, c_co, c_lb, c_rb, c_mi, c_pl, c_0, c_un, c_m0, c_em, c_sm, c_ss, c_fi, m_lp, m_rp, m_sp, m_co, m_lb, m_rb, m_mi, m_pl, m_0, m_un, m_m0, m_em, m_sm, m_ss, eq_S, sm_cut hs, et, and_self]) ?_
        rintro _ _ ⟨rfl, rfl⟩
        simp only [if_true]
        refine ⟨Q.length, by simp, ?_⟩
        refine step_seq (fun s h5 => s = [some (.str (S cs)), some (.int ((p + (ringL y).length : Nat) : Int)), some (rgA y), some (.ref h2.length)] ∧ Gm none h4 h5) ?_ ?_
        · simp only [seqD, ifD, retD, retND, dropD, setD, nextD, varD, conD, bin2, un1, testD, boolR, notT, andT, orT, ifE, andV, orV, notV, tupD, lstD, cbD, nilD, consD, asgD, parD, nameG, tupG, consG, nilG, setItD, augD, augItD, methD, forD, whileD, lcD, lc2D, sliceD, someD, noneD, chain3, truD, truR, orTD, andTD, notTD, joinedD, glueD, lstRg, rg1, rg2, itRg1, itRg2, itSeq, itEn, dnewKD, newK, newL, maxKD, yesT, wipeA, cmpI, add_I, sub_I, negA, ok_bind, sizeLine_eq, Nat.reduceLeDiff, eq_I, isi_tup, isi_str, isi_int, isi_boo, len_tup, qlt, qle, qgt, qge, rg_if, ev_ok, ev_bind, ev_if, ev_call, es_nx, es_rt, es_seq, es_then, es_if, List.getElem?_cons_succ, List.getElem?_cons_zero, List.set_cons_succ, List.set_cons_zero, List.length_cons, List.length_nil, List.map_cons, List.map_nil, List.replicate, List.cons_append, List.nil_append, Option.bind_some, Option.map_some, Bool.not_true, Bool.not_false, Bool.false_eq_true, if_true, if_false, decide_true, decide_false, true_and, and_true, Nat.zero_add, Nat.add_zero, Nat.reduceAdd, Nat.reduceSub, reduceIte, Nat.sub_self, Nat.succ_sub_succ_eq_sub, Nat.add_one_sub_one]
          refine (cycle_at_ok hn hl hs hy.1 hy.2.1 hy.2.2 ed).mono fun b h5 z => ?_
          obtain ⟨rfl, g5⟩ := z
          exact ⟨rfl, g5⟩
        rintro s h5 ⟨rfl, g5⟩
        have gp5 := g5.get gp
        have hdl : ((r :: d).map rgA).length < 16777216 := by
          rw [List.length_map, List.length_cons]
          rw [List.length_cons, List.length_append] at hR
          omega
        simp only [seqD, ifD, retD, retND, dropD, setD, nextD, varD, conD, bin2, un1, testD, boolR, notT, andT, orT, ifE, andV, orV, notV, tupD, lstD, cbD, nilD, consD, asgD, parD, nameG, tupG, consG, nilG, setItD, augD, augItD, methD, forD, whileD, lcD, lc2D, sliceD, someD, noneD, chain3, truD, truR, orTD, andTD, notTD, joinedD, glueD, lstRg, rg1, rg2, itRg1, itRg2, itSeq, itEn, dnewKD, newK, newL, maxKD, yesT, wipeA, cmpI, add_I, sub_I, negA, ok_bind, sizeLine_eq, Nat.reduceLeDiff, eq_I, isi_tup, isi_str, isi_int, isi_boo, len_tup, qlt, qle, qgt, qge, rg_if, ev_ok, ev_bind, ev_if, ev_call, es_nx, es_rt, es_seq, es_then, es_if, List.getElem?_cons_succ, List.getElem?_cons_zero, List.set_cons_succ, List.set_cons_zero, List.length_cons, List.length_nil, List.map_cons, List.map_nil, List.replicate, List.cons_append, List.nil_append, Option.bind_some, Option.map_some, Bool.not_true, Bool.not_false, Bool.false_eq_true, if_true, if_false, decide_true, decide_false, true_and, and_true, Nat.zero_add, Nat.add_zero, Nat.reduceAdd, Nat.reduceSub, reduceIte, Nat.sub_self, Nat.succ_sub_succ_eq_sub, Nat.add_one_sub_one, tyA_ref gp5, app_ref gp5 hdl]
        refine ⟨d ++ [y], Q, p + (ringL y).length, _, by rw [List.append_assoc]; rfl, rfl, rfl, by rw [← List.drop_drop, ed, List.drop_left], ?_, (gm.trans g5).set (.inl (Nat.le_refl _)), ?_⟩
        · have := congrArg List.length ed
          rw [List.length_drop, List.length_append] at this
          have : 0 < (ringL y).length := by unfold ringL; simp
          omega
        · rw [get_set gp5]
          simp
    rintro s h4 ⟨⟨a, rfl⟩, gm, gp⟩
    simp only [seqD, ifD, retD, retND, dropD, setD, nextD, varD, conD, bin2, un1, testD, boolR, notT, andT, orT, ifE, andV, orV, notV, tupD, lstD, cbD, nilD, consD, asgD, parD, nameG, tupG, consG, nilG, setItD, augD, augItD, methD, forD, whileD, lcD, lc2D, sliceD, someD, noneD, chain3, truD, truR, orTD, andTD, notTD, joinedD, glueD, lstRg, rg1, rg2, itRg1, itRg2, itSeq, itEn, dnewKD, newK, newL, maxKD, yesT, wipeA, cmpI, add_I, sub_I, negA, ok_bind, sizeLine_eq, Nat.reduceLeDiff, eq_I, isi_tup, isi_str, isi_int, isi_boo, len_tup, qlt, qle, qgt, qge, rg_if, ev_ok, ev_bind, ev_if, ev_call, es_nx, es_rt, es_seq, es_then, es_if, List.getElem?_cons_succ, List.getElem?_cons_zero, List.set_cons_succ, List.set_cons_zero, List.length_cons, List.length_nil, List.map_cons, List.map_nil, List.replicate, List.cons_append, List.nil_append, Option.bind_some, Option.map_some, Bool.not_true, Bool.not_false, Bool.false_eq_true, if_true, if_false, decide_true, decide_false, true_and, and_true, Nat.zero_add, Nat.add_zero, Nat.reduceAdd, Nat.reduceSub, reduceIte, Nat.sub_self, Nat.succ_sub_succ_eq_sub, Nat.add_one_sub_one]
    exact ⟨_, rfl, g2.1, g2.trans gm, gp⟩
end Dn

set_option maxHeartbeats 4000000
namespace Dn
open PySem
/-! ### rules for the told move -/
/-- [x for r in Rs for x in r], Rs a list of tuples -/
theorem lc2_flat {X : Xn → Hs → Prop} {n p : Nat} {Rs : List (List Nat)} {s : Sl} {h : Hs} {Q : List A → Hs → Prop} (hp : h[p]? = some (.lst (Rs.map rgA))) (hn : Rs.length < n) (hn2 : ∀ r ∈ Rs, r.length < n) (hF : Rs.flatten.length < 16777216) (hl : s.length = 7)
    (q : Q (Rs.flatten.map natA) h) : Ev X (lc2L (stepL p) (nameG 4) yesT (itSeq (varD 4)) [6] (nameG 6) yesT (varD 6) n n 0 [] s h) Q := by
  have main : ∀ (d : Nat) (k i : Nat), i + d = Rs.length → d < k → Ev X (lc2L (stepL p) (nameG 4) yesT (itSeq (varD 4)) [6] (nameG 6) yesT (varD 6) n k i ((Rs.take i).flatten.map natA) s h) Q := by
    intro d
    induction d with
    | zero =>
      intro k i hi hk
      cases k with
      | zero => omega
      | succ k =>
        rw [Nat.add_zero] at hi
        subst hi
        have est : stepL p Rs.length h = some none := by
          unfold stepL; rw [hp]; dsimp only; rw [List.getElem?_eq_none (by rw [List.length_map]; exact Nat.le_refl _)]
        rw [lc2L, est]
        dsimp only
        rw [ev_ok, List.take_length]
        exact q
    | succ d ih =>
      intro k i hi hk
      cases k with
      | zero => omega
      | succ k =>
        have hiR : i < Rs.length := by omega
        have est : stepL p i h = some (some (rgA Rs[i])) := by
          unfold stepL; rw [hp]; dsimp only; rw [List.getElem?_map, List.getElem?_eq_getElem hiR]; rfl
        rw [lc2L, est]
        dsimp only
        have g4 : (s.set 4 (some (rgA Rs[i])))[4]? = some (some (rgA Rs[i])) := List.getElem?_set_self (by omega)
        have gl : (s.set 4 (some (rgA Rs[i]))).length = 7 := by rw [List.length_set]; exact hl
        have eg : nameG 4 (rgA Rs[i]) s = some (s.set 4 (some (rgA Rs[i]))) := rfl
        rw [eg]
        dsimp only
        generalize s.set 4 (some (rgA Rs[i])) = s2 at g4 gl
        have e1 : (yesT n s2 h).calm = .ok true h := rfl
        have e2 : (itSeq (varD 4) n s2 h).calm = .ok (stepX (Rs[i].map natA)) h := by
          unfold itSeq varD
          rw [g4]
          rfl
        rw [e1, ok_bind, if_pos rfl, e2, ok_bind, ev_bind]
        have hri := hn2 _ (List.getElem_mem hiR)
        have htk : Rs.take (i + 1) = Rs.take i ++ [Rs[i]] := take_snoc hiR
        have hfl : ((Rs.take (i + 1)).flatten).length ≤ Rs.flatten.length := by
          have e := congrArg List.length (congrArg List.flatten (List.take_append_drop (i + 1) Rs))
          rw [List.flatten_append, List.length_append] at e
          omega
        refine lc_any (m := Rs[i].length) (fun j acc h' => j ≤ Rs[i].length ∧ acc = (Rs.take i).flatten.map natA ++ (Rs[i].take j).map natA ∧ h' = h) ?_ ?_ Rs[i].length n 0 _ h (Nat.zero_add _) hri ⟨Nat.zero_le _, by simp, rfl⟩
        · rintro j acc h' hj ⟨_, rfl, rfl⟩
          refine ⟨natA Rs[i][j], _, by unfold stepX; rw [List.getElem?_map, List.getElem?_eq_getElem hj]; rfl, rfl, ?_⟩
          have g6 : ((wipeA s2 [6]).set 6 (some (natA Rs[i][j])))[6]? = some (some (natA Rs[i][j])) := List.getElem?_set_self (by show 6 < (s2.set 6 none).length; rw [List.length_set]; omega)
          rw [yesT, ev_ok]
          simp only [if_true]
          unfold varD
          rw [g6]
          dsimp only
          rw [ev_ok]
          refine ⟨lt_line ?_, hj, ?_, rfl⟩
          · rw [htk, List.flatten_append, List.length_append] at hfl
            simp only [List.flatten_cons, List.flatten_nil, List.append_nil] at hfl
            rw [List.length_append, List.length_map, List.length_map, List.length_take]
            omega
          · rw [take_snoc hj, List.map_append, List.append_assoc]
            rfl
        · rintro acc h' ⟨_, rfl, rfl⟩
          refine ⟨by unfold stepX; rw [List.getElem?_eq_none (by rw [List.length_map]; exact Nat.le_refl _)], ?_⟩
          have e3 : (Rs.take i).flatten.map natA ++ (Rs[i].take Rs[i].length).map natA = (Rs.take (i + 1)).flatten.map natA := by
            rw [List.take_length, htk, List.flatten_append, List.map_append]
            simp
          rw [e3]
          exact ih k (i + 1) (by omega) (by omega)
  exact main Rs.length n 0 (Nat.zero_add _) hn
/-- {x: True for x in F}, F different -/
theorem dc_seen {X : Xn → Hs → Prop} {n p : Nat} {F : List Nat} {s : Sl} {h : Hs} {Q : List (Key × A) → Hs → Prop} (hp : h[p]? = some (.lst (F.map natA))) (hn : F.length < n) (hF : F.Nodup) (hz : F.length < 16777216) (hl : s.length = 7)
    (q : Q (seenA F) h) : Ev X (dcL (stepL p) (nameG 6) yesT (varD 6) (conD (.bl true)) n n 0 [] s h) Q := by
  have main : ∀ (d : Nat) (k i : Nat), i + d = F.length → d < k → Ev X (dcL (stepL p) (nameG 6) yesT (varD 6) (conD (.bl true)) n k i (seenA (F.take i)) s h) Q := by
    intro d
    induction d with
    | zero =>
      intro k i hi hk
      cases k with
      | zero => omega
      | succ k =>
        rw [Nat.add_zero] at hi
        subst hi
        have est : stepL p F.length h = some none := by
          unfold stepL; rw [hp]; dsimp only; rw [List.getElem?_eq_none (by rw [List.length_map]; exact Nat.le_refl _)]
        rw [dcL, est]
        dsimp only
        rw [ev_ok, List.take_length]
        exact q
    | succ d ih =>
      intro k i hi hk
      cases k with
      | zero => omega
      | succ k =>
        have hiR : i < F.length := by omega
        have est : stepL p i h = some (some (natA F[i])) := by
          unfold stepL; rw [hp]; dsimp only; rw [List.getElem?_map, List.getElem?_eq_getElem hiR]; rfl
        rw [dcL, est]
        dsimp only
        have g6 : (s.set 6 (some (natA F[i])))[6]? = some (some (natA F[i])) := List.getElem?_set_self (by omega)
        have eg : nameG 6 (natA F[i]) s = some (s.set 6 (some (natA F[i]))) := rfl
        rw [eg]
        dsimp only
        generalize s.set 6 (some (natA F[i])) = s2 at g6
        have e1 : (yesT n s2 h).calm = .ok true h := rfl
        have e2 : (varD 6 n s2 h).calm = .ok (natA F[i]) h := by unfold varD; rw [g6]; rfl
        have e3 : (conD (A.bl true) n s2 h).calm = .ok (.bl true) h := rfl
        rw [e1, ok_bind, if_pos rfl, e2, ok_bind, e3, ok_bind]
        show Ev X (if (seenA (F.take i)).length < sizeLine then _ else _) Q
        have hnm : F[i] ∉ F.take i := fun z => by
          have e := hF
          rw [← List.take_append_drop i F, List.nodup_append] at e
          have hd : F[i] ∈ F.drop i := by rw [List.drop_eq_getElem_cons hiR]; exact List.mem_cons_self
          exact e.2.2 _ z _ hd rfl
        rw [if_pos (lt_line (by unfold seenA; rw [List.length_map, List.length_take]; omega))]
        have e4 : putA (seenA (F.take i)) (.inl (F[i] : Int)) (A.bl true) = seenA (F.take (i + 1)) := by
          unfold putA
          have e3 : ¬ (((seenA (F.take i)).any fun kv => decide (kv.1 = (.inl (F[i] : Int) : Key))) = true) := by
            intro z
            obtain ⟨kv, hkv, q⟩ := List.any_eq_true.mp z
            obtain ⟨y, hy, rfl⟩ := List.mem_map.mp hkv
            have q1 := of_decide_eq_true q
            injection q1 with q2
            have : y = F[i] := by omega
            exact hnm (by rw [← this]; exact hy)
          rw [if_neg e3, take_snoc hiR]
          unfold seenA
          rw [List.map_append]
          rfl
        rw [e4]
        exact ih k (i + 1) (by omega) (by omega)
  exact main F.length n 0 (Nat.zero_add _) hn
end Dn

set_option maxHeartbeats 4000000
namespace Dn
open PySem
/-! ### the told move -/
def tell1 (r l : List Nat) (i : Nat) : List Nat := l.set (at0 r i) (at0 r ((i + 1) % r.length))
def tellR (l r : List Nat) : List Nat := (List.range r.length).foldl (tell1 r) l
def told (places : Nat) (Rs : List (List Nat)) : List Nat := Rs.foldl tellR (List.range places)
theorem tell_len (r : List Nat) : ∀ (is l : List Nat), (is.foldl (tell1 r) l).length = l.length := by
  intro is
  induction is with
  | nil => intro l; rfl
  | cons i is ih => intro l; rw [List.foldl_cons, ih]; exact List.length_set
theorem tellR_len (l r : List Nat) : (tellR l r).length = l.length := tell_len r _ l
theorem toldF_len : ∀ (Rs : List (List Nat)) (l : List Nat), (Rs.foldl tellR l).length = l.length := by
  intro Rs
  induction Rs with
  | nil => intro l; rfl
  | cons r Rs ih => intro l; rw [List.foldl_cons, ih, tellR_len]
theorem told_len (places : Nat) (Rs : List (List Nat)) : (told places Rs).length = places := by unfold told; rw [toldF_len, List.length_range]
theorem ints_N (xs : List Nat) : intsOf (xs.map natA) = some (xs.map fun (x : Nat) => (x : Int)) := by
  induction xs with
  | nil => rfl
  | cons x xs ih => rw [List.map_cons, natA, intsOf, ih]; rfl
theorem foldl_max_lt {p : Int} : ∀ (l : List Int) (a : Int), a < p → (∀ y ∈ l, y < p) → l.foldl max a < p := by
  intro l
  induction l with
  | nil => intro a ha _; exact ha
  | cons y l ih =>
    intro a ha hl
    rw [List.foldl_cons]
    refine ih _ ?_ fun z hz => hl z (List.mem_cons_of_mem _ hz)
    have := hl y List.mem_cons_self
    omega
theorem rg_nat (places : Nat) : rgL 0 (places : Int) = (List.range places).map natA := by
  unfold rgL
  rw [show ((places : Int) - 0).toNat = places by omega]
  refine List.map_congr_left fun i _ => ?_
  rw [Int.zero_add]; rfl
theorem mod_nat (i k : Nat) : ((i : Int) + 1) % (k : Int) = (((i + 1) % k : Nat) : Int) := by
  have e : ((i : Int) + 1) = ((i + 1 : Nat) : Int) := by omega
  rw [e]
  first
    | exact (Int.natCast_emod (i + 1) k).symm
    | exact (Int.natCast_mod (i + 1) k).symm
    | rfl
theorem ix_rg {r : List Nat} {i : Nat} {h : Hs} (hi : i < r.length) : ixA (rgA r) (.int (i : Int)) h = .ok (natA (at0 r i)) h := by
  rw [ix_mv hi]
  rfl
theorem tell_step {n i f : Nat} {s : Sl} {h : Hs} {r l : List Nat} {T : Tl} (h3 : s[3]? = some (some (.ref f))) (h4 : s[4]? = some (some (rgA r))) (h5 : s[5]? = some (some (.int (i : Int)))) (h6 : s[6]? = some (some (natA (at0 r i)))) (hi : i < r.length) (e : h[f]? = some (.lst (l.map natA))) (hx : at0 r i < l.length)
    (q : T.nx s (h.set f (.lst ((tell1 r l i).map natA)))) : EvS (setItD (varD 3) (varD 6) (bin2 ixA (varD 4) (bin2 (intA modI) (bin2 addA (varD 5) (conD (.int 1))) (cbD bLen (consD (varD 4) nilD)))) n s h) T := by
  have hk : 0 < r.length := by omega
  have hm : (i + 1) % r.length < r.length := Nat.mod_lt _ hk
  unfold setItD
  rw [es_then, ev_bin2]
  unfold varD
  rw [h4]
  dsimp only
  rw [ev_ok, ev_bin2, ev_bin2]
  rw [h5]
  dsimp only
  rw [ev_ok]
  show Ev _ (R.ok (A.int 1) h) _
  rw [ev_ok]
  rw [show addA (.int (i : Int)) (.int 1) h = .ok (.int ((i : Int) + 1)) h from rfl, ev_ok, ev_cb1]
  rw [h4]
  dsimp only
  rw [ev_ok]
  show Ev _ (R.ok (A.int ((r.map natA).length : Int)) h) _
  rw [ev_ok, List.length_map, mod_I (by omega), ev_ok, mod_nat, ix_rg hm, ev_ok, es_then]
  rw [h3]
  dsimp only
  rw [ev_ok, es_then, h6]
  dsimp only
  rw [ev_ok]
  rw [show natA (at0 r i) = .int ((at0 r i : Nat) : Int) from rfl, setI_ref e (by rw [List.length_map]; exact hx)]
  dsimp only
  rw [es_nx]
  have e2 : (tell1 r l i).map natA = (l.map natA).set (at0 r i) (natA (at0 r ((i + 1) % r.length))) := by unfold tell1; rw [List.map_set]
  rw [← e2]
  exact q
theorem flat_le {Rs : List (List Nat)} {r : List Nat} (h : r ∈ Rs) : r.length ≤ Rs.flatten.length := by
  induction Rs with
  | nil => cases h
  | cons a Rs ih =>
    rw [List.flatten_cons, List.length_append]
    rcases List.mem_cons.mp h with rfl | h
    · omega
    · have := ih h; omega
theorem move_told_ok {X : Xn → Hs → Prop} {n places p : Nat} {h : Hs} {Rs : List (List Nat)} (hn : 5000 ≤ n) (hp1 : 1 ≤ places) (hpl : places ≤ 60) (e : h[p]? = some (.lst (Rs.map rgA))) (hR : Rs.length ≤ 60) (hnd : Rs.flatten.Nodup) (hlt : ∀ x ∈ Rs.flatten, x < places) :
    Ev X (f_move_told n [.int (places : Int), .ref p] h) fun a h' => a = rgA (told places Rs) ∧ Gm none h h' := by
  have hF := nodup_len places _ hnd hlt
  have hlp := lt_of_get e
  refine ev_body rfl ?_
  unfold d_move_told
  refine step_seq (fun s h' => s = [some (.int (places : Int)), some (.ref p), some (.ref h.length), none, none, none, none] ∧ h' = h ++ [.lst (Rs.flatten.map natA)]) ?_ ?_
  · refine es_set ?_
    unfold lc2D
    rw [ev_bind]
    have ei : itSeq (varD 1) n [some (.int (places : Int)), some (.ref p), none, none, none, none, none] h = .ok (stepL p) h := by
      unfold itSeq
      show (R.ok (A.ref p) h).bind _ = _
      rw [ok_bind]
      dsimp only
      rw [e]
    show Ev _ (itSeq (varD 1) n [some (.int (places : Int)), some (.ref p), none, none, none, none, none] h) _
    rw [ei, ev_ok, ev_bind]
    refine lc2_flat e (by omega) (fun r hr => by have := flat_le hr; omega) (by omega) rfl ?_
    rw [newL, ev_ok]
    exact ⟨rfl, rfl⟩
  rintro s h' ⟨rfl, rfl⟩
  have e1 := (Gm.refl (m := none)).app (o := .lst (Rs.flatten.map natA)) |>.get e
  have et1 := get_app (h := h) (o := .lst (Rs.flatten.map natA))
  have g1 := (Gm.refl (m := none) (h := h)).app (o := .lst (Rs.flatten.map natA))
  generalize h ++ [.lst (Rs.flatten.map natA)] = h1 at e1 et1 g1
  refine step_seq (fun s h2 => s = [some (.int (places : Int)), some (.ref p), some (.ref h.length), none, none, none, none] ∧ Gm none h1 h2) ?_ ?_
  · unfold ifD orT testD boolR
    rw [es_then, ev_bind, ev_bind, ev_bin2, ev_cb1]
    unfold dcD
    rw [ev_bind]
    have ei : itSeq (varD 2) n [some (.int (places : Int)), some (.ref p), some (.ref h.length), none, none, none, none] h1 = .ok (stepL h.length) h1 := by
      unfold itSeq
      show (R.ok (A.ref h.length) h1).bind _ = _
      rw [ok_bind]
      dsimp only
      rw [et1]
    rw [ei, ev_ok, ev_bind]
    refine dc_seen et1 (by omega) hnd (by omega) rfl ?_
    rw [ev_ok]
    have el : bLen [.ref h1.length] (h1 ++ [.dK (seenA Rs.flatten)]) = .ok (.int (Rs.flatten.length : Int)) (h1 ++ [.dK (seenA Rs.flatten)]) := by
      unfold bLen lenA
      dsimp only
      rw [get_app]
      dsimp only
      unfold seenA
      rw [List.length_map]
    have et2 := (Gm.refl (m := none)).app (o := .dK (seenA Rs.flatten)) |>.get et1
    have gd := (Gm.refl (m := none) (h := h1)).app (o := .dK (seenA Rs.flatten))
    rw [el, ev_ok, ev_cb1]
    generalize h1 ++ [.dK (seenA Rs.flatten)] = h2 at et2 gd
    show Ev _ (R.ok (A.ref h.length) h2) _
    rw [ev_ok, len_ref et2, ev_ok, List.length_map]
    have ec : cmpI qlt (.int (Rs.flatten.length : Int)) (.int (Rs.flatten.length : Int)) h2 = .ok (.bl false) h2 := by
      show R.ok (A.bl (decide _)) h2 = _
      rw [decide_eq_false (Int.lt_irrefl _)]
    rw [ec, ev_ok]
    dsimp only
    rw [ev_ok]
    simp only [Bool.false_eq_true, if_false]
    rw [ev_bind, ev_bin2]
    have hq : (lsOf h2 (A.ref h.length)).bind intsOf = some (Rs.flatten.map fun (x : Nat) => (x : Int)) := by rw [lsOf_ref et2]; exact ints_N _
    obtain ⟨mx, em, hmx⟩ : ∃ mx : Int, maxKD (consD (varD 2) nilD) 0 n [some (.int (places : Int)), some (.ref p), some (.ref h.length), none, none, none, none] h2 = .ok (.int mx) h2 ∧ mx < places := by
      cases hf : Rs.flatten.map fun (x : Nat) => (x : Int) with
      | nil =>
        rw [hf] at hq
        refine ⟨0, ?_, by omega⟩
        show (R.ok [A.ref h.length] h2).bind _ = _
        rw [ok_bind]
        dsimp only
        rw [hq]
      | cons y r =>
        have hall : ∀ z ∈ y :: r, z < (places : Int) := fun z hz => by
          rw [← hf] at hz
          obtain ⟨x, hx, rfl⟩ := List.mem_map.mp hz
          have := hlt x hx
          omega
        rw [hf] at hq
        refine ⟨r.foldl max y, ?_, foldl_max_lt r y (hall y List.mem_cons_self) fun z hz => hall z (List.mem_cons_of_mem _ hz)⟩
        show (R.ok [A.ref h.length] h2).bind _ = _
        rw [ok_bind]
        dsimp only
        rw [hq]
    rw [em, ev_ok]
    show Ev _ (R.ok (A.int (places : Int)) h2) _
    rw [ev_ok]
    have ec2 : cmpI qge (.int mx) (.int (places : Int)) h2 = .ok (.bl false) h2 := by
      show R.ok (A.bl (decide _)) h2 = _
      rw [decide_eq_false (by omega)]
    rw [ec2, ev_ok]
    dsimp only
    rw [ev_ok]
    simp only [Bool.false_eq_true, if_false, nextD, es_nx]
    exact ⟨trivial, gd⟩
  rintro s h2 ⟨rfl, g2⟩
  have e2 := g2.get e1
  have hlt2 := lt_of_get (g2.get et1)
  refine step_seq (fun s h3 => s = [some (.int (places : Int)), some (.ref p), some (.ref h.length), some (.ref h2.length), none, none, none] ∧ h3 = h2 ++ [.lst ((List.range places).map natA)]) ?_ ?_
  · refine es_set ?_
    have er : lstRg (rg1 (varD 0)) n [some (.int (places : Int)), some (.ref p), some (.ref h.length), none, none, none, none] h2 = newL ((List.range places).map natA) h2 := by
      show (R.ok ((0 : Int), (places : Int)) h2).bind _ = _
      rw [ok_bind]
      dsimp only
      have ok : rgOk 0 (places : Int) = true := by
        unfold rgOk
        rw [Bool.and_eq_true, Bool.and_eq_true]
        exact ⟨by decide, Nat.blt_eq.mpr (by omega), Nat.ble_eq_true_of_le (by omega)⟩
      rw [if_pos ok, rg_nat]
    rw [er, newL, ev_ok]
    exact ⟨rfl, rfl⟩
  rintro s h3 ⟨rfl, rfl⟩
  refine step_seq (fun s h4 => (∃ a b c, s = [some (.int (places : Int)), some (.ref p), some (.ref h.length), some (.ref h2.length), a, b, c]) ∧ Gm none h h4 ∧ h4[h2.length]? = some (.lst ((told places Rs).map natA))) ?_ ?_
  · have e3 := (Gm.refl (m := none)).app (o := .lst ((List.range places).map natA)) |>.get e2
    have gf3 := get_app (h := h2) (o := .lst ((List.range places).map natA))
    have g3 := (g1.trans g2).app (o := .lst ((List.range places).map natA))
    generalize h2 ++ [.lst ((List.range places).map natA)] = h3 at e3 gf3 g3
    have ei : itSeq (varD 1) n [some (.int (places : Int)), some (.ref p), some (.ref h.length), some (.ref h2.length), none, none, none] h3 = .ok (stepL p) h3 := by
      unfold itSeq
      show (R.ok (A.ref p) h3).bind _ = _
      rw [ok_bind]
      dsimp only
      rw [e3]
    unfold forD
    rw [es_then, ei, ev_ok]
    refine for_l (xs := Rs.map rgA) (by rw [List.length_map]; omega) (fun j s h4 => (∃ a b c, s = [some (.int (places : Int)), some (.ref p), some (.ref h.length), some (.ref h2.length), a, b, c]) ∧ Gm none h h4 ∧ h4[p]? = some (.lst (Rs.map rgA)) ∧ h4[h2.length]? = some (.lst (((Rs.take j).foldl tellR (List.range places)).map natA)))
      ⟨⟨_, _, _, rfl⟩, g3, e3, gf3⟩ (fun j s h4 z => z.2.2.1) ?_ ?_
    · rintro j s h4 hj ⟨⟨a, b, c, rfl⟩, g4, e4, gf4⟩
      rw [List.length_map] at hj
      have hrm : Rs[j] ∈ Rs := List.getElem_mem hj
      have hrl := flat_le hrm
      have hll : ((Rs.take j).foldl tellR (List.range places)).length = places := by rw [toldF_len, List.length_range]
      have hst : told places (Rs.take (j + 1)) = tellR ((Rs.take j).foldl tellR (List.range places)) Rs[j] := by
        unfold told
        rw [take_snoc hj, List.foldl_append]; rfl
      generalize (Rs.take j).foldl tellR (List.range places) = l at gf4 hll hst
      have hrx : ∀ i, i < Rs[j].length → at0 Rs[j] i < places := fun i hi => hlt _ (List.mem_flatten.mpr ⟨_, hrm, at0_mem hi⟩)
      generalize hr : Rs[j] = r at hrl hst hrx
      refine ⟨[some (.int (places : Int)), some (.ref p), some (.ref h.length), some (.ref h2.length), some (rgA r), b, c], by rw [List.getElem_map, hr]; rfl, ?_⟩
      have ei2 : itEn (consD (varD 4) nilD) n [some (.int (places : Int)), some (.ref p), some (.ref h.length), some (.ref h2.length), some (rgA r), b, c] h4 = .ok (stepE (stepX (r.map natA))) h4 := rfl
      rw [es_then, ei2, ev_ok]
      refine for_ex (by rw [List.length_map]; omega) (fun i s h5 => (∃ b c, s = [some (.int (places : Int)), some (.ref p), some (.ref h.length), some (.ref h2.length), some (rgA r), b, c]) ∧ Gm none h h5 ∧ h5[p]? = some (.lst (Rs.map rgA)) ∧ h5[h2.length]? = some (.lst (((List.range i).foldl (tell1 r) l).map natA)))
        ⟨⟨_, _, rfl⟩, g4, e4, gf4⟩ ?_ ?_
      · rintro i s h5 hi ⟨⟨b, c, rfl⟩, g5, e5, gf5⟩
        rw [List.length_map] at hi
        have hat : (r.map natA)[i]'(by rw [List.length_map]; exact hi) = natA (at0 r i) := by
          rw [List.getElem_map]
          unfold at0
          rw [List.getD_eq_getElem?_getD, List.getElem?_eq_getElem hi]; rfl
        refine ⟨[some (.int (places : Int)), some (.ref p), some (.ref h.length), some (.ref h2.length), some (rgA r), some (.int (i : Int)), some (natA (at0 r i))], by rw [hat]; rfl, ?_⟩
        refine tell_step rfl rfl rfl rfl hi gf5 (by rw [tell_len, hll]; exact hrx i hi) ?_
        refine ⟨⟨_, _, rfl⟩, g5.set (.inl (by have := g1.1; have := g2.1; omega)), ?_, ?_⟩
        · rw [List.getElem?_set_ne (by omega)]; exact e5
        · rw [get_set gf5, List.range_succ, List.foldl_append]
          rfl
      · rintro s h5 ⟨⟨b, c, rfl⟩, g5, e5, gf5⟩
        rw [List.length_map] at gf5
        refine ⟨⟨_, _, _, rfl⟩, g5, e5, ?_⟩
        rw [gf5]
        exact congrArg (fun z => some (AO.lst (z.map natA))) hst.symm
    · rintro s h4 ⟨⟨a, b, c, rfl⟩, g4, e4, gf4⟩
      rw [List.length_map, List.take_length] at gf4
      exact ⟨⟨_, _, _, rfl⟩, g4, gf4⟩
  rintro s h4 ⟨⟨a, b, c, rfl⟩, g4, gf4⟩
  simp only [seqD, ifD, retD, retND, dropD, setD, nextD, varD, conD, bin2, un1, testD, boolR, notT, andT, orT, ifE, andV, orV, notV, tupD, lstD, cbD, nilD, consD, asgD, parD, nameG, tupG, consG, nilG, setItD, augD, augItD, methD, forD, whileD, lcD, lc2D, sliceD, someD, noneD, chain3, truD, truR, orTD, andTD, notTD, joinedD, glueD, lstRg, rg1, rg2, itRg1, itRg2, itSeq, itEn, dnewKD, newK, newL, maxKD, yesT, wipeA, cmpI, add_I, sub_I, negA, ok_bind, sizeLine_eq, Nat.reduceLeDiff, eq_I, isi_tup, isi_str, isi_int, isi_boo, len_tup, qlt, qle, qgt, qge, rg_if, ev_ok, ev_bind, ev_if, ev_call, es_nx, es_rt, es_seq, es_then, es_if, List.getElem?_cons_succ, List.getElem?_cons_zero, List.set_cons_succ, List.set_cons_zero, List.length_cons, List.length_nil, List.map_cons, List.map_nil, List.replicate, List.cons_append, List.nil_append, Option.bind_some, Option.map_some, Bool.not_true, Bool.not_false, Bool.false_eq_true, if_true, if_false, decide_true, decide_false, true_and, and_true, Nat.zero_add, Nat.add_zero, Nat.reduceAdd, Nat.reduceSub, reduceIte, Nat.sub_self, Nat.succ_sub_succ_eq_sub, Nat.add_one_sub_one, tuple_ref gf4]
  exact ⟨rfl, g4⟩
end Dn

set_option maxHeartbeats 4000000
namespace Dn
open PySem
theorem read_move_ok {X : Xn → Hs → Prop} {n places : Nat} {h : Hs} {Rs : List (List Nat)} (hn : 5000 ≤ n) (hp1 : 1 ≤ places) (hpl : places ≤ 24) (hl : (mvL Rs).length ≤ 3000) (hs : sm (mvL Rs) = true) (hR : Rs.length ≤ 60) (hr : ∀ r ∈ Rs, 2 ≤ r.length) (hnd : Rs.flatten.Nodup) (hlt : ∀ x ∈ Rs.flatten, x < places) :
    Ev X (f_read_move n [.str (S (mvL Rs)), .int (places : Int)] h) fun a h' => a = rgA (told places Rs) ∧ Gm none h h' := by
  have hF := nodup_len places _ hnd hlt
  refine ev_body rfl ?_
  unfold d_read_move
  refine step_seq (fun s h' => s = [some (.str (S (mvL Rs))), some (.int (places : Int)), none, none] ∧ h' = h) ?_ ?_
  · simp only [seqD, ifD, retD, retND, dropD, setD, nextD, varD, conD, bin2, un1, testD, boolR, notT, andT, orT, ifE, andV, orV, notV, tupD, lstD, cbD, nilD, consD, asgD, parD, nameG, tupG, consG, nilG, setItD, augD, augItD, methD, forD, whileD, lcD, lc2D, sliceD, someD, noneD, chain3, truD, truR, orTD, andTD, notTD, joinedD, glueD, lstRg, rg1, rg2, itRg1, itRg2, itSeq, itEn, dnewKD, newK, newL, maxKD, yesT, wipeA, cmpI, add_I, sub_I, negA, ok_bind, sizeLine_eq, Nat.reduceLeDiff, eq_I, isi_tup, isi_str, isi_int, isi_boo, len_tup, qlt, qle, qgt, qge, rg_if, ev_ok, ev_bind, ev_if, ev_call, es_nx, es_rt, es_seq, es_then, es_if, List.getElem?_cons_succ, List.getElem?_cons_zero, List.set_cons_succ, List.set_cons_zero, List.length_cons, List.length_nil, List.map_cons, List.map_nil, List.replicate, List.cons_append, List.nil_append, Option.bind_some, Option.map_some, Bool.not_true, Bool.not_false, Bool.false_eq_true, if_true, if_false, decide_true, decide_false, true_and, and_true, Nat.zero_add, Nat.add_zero, Nat.reduceAdd, Nat.reduceSub, reduceIte, Nat.sub_self, Nat.succ_sub_succ_eq_sub, Nat.add_one_sub_one, require_text_ok (show (S (mvL Rs)).length ≤ 3000 by rw [S_len]; exact hl), and_self]
  rintro s h' ⟨rfl, rfl⟩
  refine step_seq (fun s h2 => s = [some (.str (S (mvL Rs))), some (.int (places : Int)), none, none] ∧ h2 = h') ?_ ?_
  · simp only [seqD, ifD, retD, retND, dropD, setD, nextD, varD, conD, bin2, un1, testD, boolR, notT, andT, orT, ifE, andV, orV, notV, tupD, lstD, cbD, nilD, consD, asgD, parD, nameG, tupG, consG, nilG, setItD, augD, augItD, methD, forD, whileD, lcD, lc2D, sliceD, someD, noneD, chain3, truD, truR, orTD, andTD, notTD, joinedD, glueD, lstRg, rg1, rg2, itRg1, itRg2, itSeq, itEn, dnewKD, newK, newL, maxKD, yesT, wipeA, cmpI, add_I, sub_I, negA, ok_bind, sizeLine_eq, Nat.reduceLeDiff, eq_I, isi_tup, isi_str, isi_int, isi_boo, len_tup, qlt, qle, qgt, qge, rg_if, ev_ok, ev_bind, ev_if, ev_call, es_nx, es_rt, es_seq, es_then, es_if, List.getElem?_cons_succ, List.getElem?_cons_zero, List.set_cons_succ, List.set_cons_zero, List.length_cons, List.length_nil, List.map_cons, List.map_nil, List.replicate, List.cons_append, List.nil_append, Option.bind_some, Option.map_some, Bool.not_true, Bool.not_false, Bool.false_eq_true, if_true, if_false, decide_true, decide_false, true_and, and_true, Nat.zero_add, Nat.add_zero, Nat.reduceAdd, Nat.reduceSub, reduceIte, Nat.sub_self, Nat.succ_sub_succ_eq_sub, Nat.add_one_sub_one, require_within_ok (show (1 : Int) ≤ (places : Int) by omega) (show (places : Int) ≤ 24 by omega), and_self]
  rintro s h2 ⟨rfl, rfl⟩
  refine step_seq (fun s h3 => ∃ f, s = [some (.str (S (mvL Rs))), some (.int (places : Int)), some (.ref f), some (.int (((mvL Rs).length : Nat) : Int))] ∧ Gm none h2 h3 ∧ h3[f]? = some (.lst (Rs.map rgA))) ?_ ?_
  · simp only [seqD, ifD, retD, retND, dropD, setD, nextD, varD, conD, bin2, un1, testD, boolR, notT, andT, orT, ifE, andV, orV, notV, tupD, lstD, cbD, nilD, consD, asgD, parD, nameG, tupG, consG, nilG, setItD, augD, augItD, methD, forD, whileD, lcD, lc2D, sliceD, someD, noneD, chain3, truD, truR, orTD, andTD, notTD, joinedD, glueD, lstRg, rg1, rg2, itRg1, itRg2, itSeq, itEn, dnewKD, newK, newL, maxKD, yesT, wipeA, cmpI, add_I, sub_I, negA, ok_bind, sizeLine_eq, Nat.reduceLeDiff, eq_I, isi_tup, isi_str, isi_int, isi_boo, len_tup, qlt, qle, qgt, qge, rg_if, ev_ok, ev_bind, ev_if, ev_call, es_nx, es_rt, es_seq, es_then, es_if, List.getElem?_cons_succ, List.getElem?_cons_zero, List.set_cons_succ, List.set_cons_zero, List.length_cons, List.length_nil, List.map_cons, List.map_nil, List.replicate, List.cons_append, List.nil_append, Option.bind_some, Option.map_some, Bool.not_true, Bool.not_false, Bool.false_eq_true, if_true, if_false, decide_true, decide_false, true_and, and_true, Nat.zero_add, Nat.add_zero, Nat.reduceAdd, Nat.reduceSub, reduceIte, Nat.sub_self, Nat.succ_sub_succ_eq_sub, Nat.add_one_sub_one]
    refine (cycles_at_ok hn hl hs hR (fun r hrm => ⟨hr r hrm, by have := flat_le hrm; omega, fun x hx => by have := hlt x (List.mem_flatten.mpr ⟨r, hrm, hx⟩); omega⟩)).mono fun a h3 z => ?_
    obtain ⟨f, rfl, hf, gm, gp⟩ := z
    exact ⟨f, rfl, gm, gp⟩
  rintro s h3 ⟨f, rfl, gm, gp⟩
  simp only [seqD, ifD, retD, retND, dropD, setD, nextD, varD, conD, bin2, un1, testD, boolR, notT, andT, orT, ifE, andV, orV, notV, tupD, lstD, cbD, nilD, consD, asgD, parD, nameG, tupG, consG, nilG, setItD, augD, augItD, methD, forD, whileD, lcD, lc2D, sliceD, someD, noneD, chain3, truD, truR, orTD, andTD, notTD, joinedD, glueD, lstRg, rg1, rg2, itRg1, itRg2, itSeq, itEn, dnewKD, newK, newL, maxKD, yesT, wipeA, cmpI, add_I, sub_I, negA, ok_bind, sizeLine_eq, Nat.reduceLeDiff, eq_I, isi_tup, isi_str, isi_int, isi_boo, len_tup, qlt, qle, qgt, qge, rg_if, ev_ok, ev_bind, ev_if, ev_call, es_nx, es_rt, es_seq, es_then, es_if, List.getElem?_cons_succ, List.getElem?_cons_zero, List.set_cons_succ, List.set_cons_zero, List.length_cons, List.length_nil, List.map_cons, List.map_nil, List.replicate, List.cons_append, List.nil_append, Option.bind_some, Option.map_some, Bool.not_true, Bool.not_false, Bool.false_eq_true, if_true, if_false, decide_true, decide_false, true_and, and_true, Nat.zero_add, Nat.add_zero, Nat.reduceAdd, Nat.reduceSub, reduceIte, Nat.sub_self, Nat.succ_sub_succ_eq_sub, Nat.add_one_sub_one, require_end_ok hl]
  refine (move_told_ok hn hp1 (by omega) gp hR hnd hlt).mono fun a h4 z => ?_
  exact ⟨z.1, gm.trans z.2⟩
end Dn

set_option maxHeartbeats 4000000
namespace Dn
open PySem
/-! ### what the told move is, in plain lists -/
theorem at_set_self {l : List Nat} {x v : Nat} (h : x < l.length) : at' (l.set x v) x = v := by
  unfold at'
  rw [List.getD_eq_getElem?_getD, List.getElem?_set_self h]; rfl
theorem at_set_ne {l : List Nat} {x y v : Nat} (h : y ≠ x) : at' (l.set y v) x = at' l x := by
  unfold at'
  rw [List.getD_eq_getElem?_getD, List.getD_eq_getElem?_getD, List.getElem?_set_ne h]
theorem tell_get {r l : List Nat} (hn : r.Nodup) (hl : ∀ i, i < r.length → at0 r i < l.length) : ∀ k, k ≤ r.length →
    (∀ i, i < k → at' ((List.range k).foldl (tell1 r) l) (at0 r i) = at0 r ((i + 1) % r.length)) ∧ (∀ x, (∀ i, i < k → at0 r i ≠ x) → at' ((List.range k).foldl (tell1 r) l) x = at' l x)
  | 0, _ => ⟨fun i hi => absurd hi (Nat.not_lt_zero _), fun x _ => rfl⟩
  | k + 1, hk => by
    obtain ⟨h1, h2⟩ := tell_get hn hl k (by omega)
    have e : (List.range (k + 1)).foldl (tell1 r) l = tell1 r ((List.range k).foldl (tell1 r) l) k := by rw [List.range_succ, List.foldl_append]; rfl
    have hkl : at0 r k < ((List.range k).foldl (tell1 r) l).length := by rw [tell_len]; exact hl k (by omega)
    rw [e]
    unfold tell1 at *
    refine ⟨fun i hi => ?_, fun x hx => ?_⟩
    · by_cases z : i = k
      · subst z
        exact at_set_self hkl
      · have hne : at0 r k ≠ at0 r i := fun y => z (at0_inj hn (by omega) (by omega) y.symm)
        rw [at_set_ne hne]
        exact h1 i (by omega)
    · rw [at_set_ne (hx k (by omega))]
      exact h2 x fun i hi => hx i (by omega)
theorem tellR_in {r l : List Nat} (hn : r.Nodup) (hl : ∀ i, i < r.length → at0 r i < l.length) {i : Nat} (hi : i < r.length) : at' (tellR l r) (at0 r i) = at0 r ((i + 1) % r.length) := (tell_get hn hl r.length (Nat.le_refl _)).1 i hi
theorem tellR_out {r l : List Nat} (hn : r.Nodup) (hl : ∀ i, i < r.length → at0 r i < l.length) {x : Nat} (hx : x ∉ r) : at' (tellR l r) x = at' l x :=
  (tell_get hn hl r.length (Nat.le_refl _)).2 x fun i hi z => hx (by rw [← z]; exact at0_mem hi)
theorem toldF_out : ∀ (Rs : List (List Nat)) (l : List Nat), Rs.flatten.Nodup → (∀ x ∈ Rs.flatten, x < l.length) → ∀ x, x ∉ Rs.flatten → at' (Rs.foldl tellR l) x = at' l x
  | [], l, _, _, x, _ => rfl
  | r :: Rs, l, hn, hl, x, hx => by
    rw [List.flatten_cons] at hn hl hx
    have hn' := List.nodup_append.mp hn
    have hr : ∀ i, i < r.length → at0 r i < l.length := fun i hi => hl _ (List.mem_append_left _ (at0_mem hi))
    rw [List.foldl_cons, toldF_out Rs (tellR l r) hn'.2.1 (fun y hy => by rw [tellR_len]; exact hl y (List.mem_append_right _ hy)) x fun z => hx (List.mem_append_right _ z)]
    exact tellR_out hn'.1 hr fun z => hx (List.mem_append_left _ z)
theorem toldF_in : ∀ (Rs : List (List Nat)) (l : List Nat), Rs.flatten.Nodup → (∀ x ∈ Rs.flatten, x < l.length) → ∀ r ∈ Rs, ∀ i, i < r.length → at' (Rs.foldl tellR l) (at0 r i) = at0 r ((i + 1) % r.length)
  | [], l, _, _, r, h, _, _ => by cases h
  | r0 :: Rs, l, hn, hl, r, h, i, hi => by
    rw [List.flatten_cons] at hn hl
    have hn' := List.nodup_append.mp hn
    have hr0 : ∀ i, i < r0.length → at0 r0 i < l.length := fun i hi => hl _ (List.mem_append_left _ (at0_mem hi))
    have hl' : ∀ y ∈ Rs.flatten, y < (tellR l r0).length := fun y hy => by rw [tellR_len]; exact hl y (List.mem_append_right _ hy)
    rw [List.foldl_cons]
    rcases List.mem_cons.mp h with rfl | h
    · rw [toldF_out Rs _ hn'.2.1 hl' _ fun z => hn'.2.2 _ (at0_mem hi) _ z rfl]
      exact tellR_in hn'.1 hr0 hi
    · exact toldF_in Rs _ hn'.2.1 hl' r h i hi
theorem at_range {p x : Nat} (h : x < p) : at' (List.range p) x = x := by
  rw [at_get (by rw [List.length_range]; exact h), List.getElem_range]
/-- THE TOLD MOVE: rings of m that leave out fixed places alone tell m, and what lies behind m stays -/
theorem told_is {m : List Nat} {Rs : List (List Nat)} {wide : Nat} (P : Prm m) (hw : m.length ≤ wide) (hrg : ∀ r ∈ Rs, Rg m r) (hnd : Rs.flatten.Nodup) (hfix : ∀ x, x < m.length → x ∉ Rs.flatten → at' m x = x) :
    told wide Rs = m ++ (List.range wide).drop m.length := by
  have hlt : ∀ x ∈ Rs.flatten, x < m.length := fun x hx => by
    obtain ⟨r, hr, hx⟩ := List.mem_flatten.mp hx
    exact (hrg r hr).lt x hx
  have hltw : ∀ x ∈ Rs.flatten, x < (List.range wide).length := fun x hx => by rw [List.length_range]; have := hlt x hx; omega
  refine List.ext_getElem? fun x => ?_
  by_cases hx : x < wide
  · have hlen : x < (told wide Rs).length := by rw [told_len]; exact hx
    have eat : (told wide Rs)[x]? = some (at' (told wide Rs) x) := by rw [at_get hlen, List.getElem?_eq_getElem hlen]
    rw [eat]
    by_cases hm : x < m.length
    · rw [List.getElem?_append_left hm, List.getElem?_eq_getElem hm, ← at_get hm]
      congr 1
      by_cases hin : x ∈ Rs.flatten
      · obtain ⟨r, hr, hxr⟩ := List.mem_flatten.mp hin
        obtain ⟨i, hi, e⟩ := mem_at0 hxr
        have q := toldF_in Rs (List.range wide) hnd hltw r hr i hi
        rw [e] at q
        have q2 := (hrg r hr).st i hi
        rw [e] at q2
        rw [q2]
        exact q
      · have q := toldF_out Rs (List.range wide) hnd hltw x hin
        rw [hfix x hm hin]
        unfold told
        rw [q, at_range hx]
    · rw [List.getElem?_append_right (by omega), List.getElem?_drop, show m.length + (x - m.length) = x by omega, List.getElem?_eq_getElem (by rw [List.length_range]; exact hx), List.getElem_range]
      congr 1
      have q := toldF_out Rs (List.range wide) hnd hltw x fun z => by have := hlt x z; omega
      unfold told
      rw [q, at_range hx]
  · rw [List.getElem?_eq_none (by rw [told_len]; omega), List.getElem?_eq_none (by rw [List.length_append, List.length_drop, List.length_range]; omega)]
end Dn

set_option maxHeartbeats 4000000
namespace Dn
open PySem
theorem perm_of {l : List Nat} : ∀ {m : List Nat}, l.Nodup → m.Nodup → (∀ x, x ∈ l ↔ x ∈ m) → l.Perm m := by
  induction l with
  | nil =>
    intro m _ _ h
    cases m with
    | nil => exact List.Perm.refl _
    | cons a m => exact absurd ((h a).mpr List.mem_cons_self) (by simp)
  | cons a l ih =>
    intro m hl hm h
    have ha : a ∈ m := (h a).mp List.mem_cons_self
    have p1 : m.Perm (a :: m.erase a) := List.perm_cons_erase ha
    have hl' := List.nodup_cons.mp hl
    refine (List.Perm.cons a (ih hl'.2 (hm.erase a) fun x => ?_)).trans p1.symm
    by_cases hx : x = a
    · subst hx
      refine ⟨fun z => absurd z hl'.1, fun z => absurd z (List.Nodup.not_mem_erase hm)⟩
    · rw [List.mem_erase_of_ne hx, ← h x]
      simp [hx]
theorem Prm.cover {m : List Nat} (P : Prm m) {x : Nat} (h : x < m.length) : x ∈ m := by
  by_cases hx : x ∈ m
  · exact hx
  · exfalso
    have q := nodup_len m.length (x :: m) (List.nodup_cons.mpr ⟨hx, P.nd⟩) fun y hy => by
      rcases List.mem_cons.mp hy with rfl | hy
      · exact h
      · exact P.lt y hy
    rw [List.length_cons] at q
    omega
theorem Prm.perm {m : List Nat} (P : Prm m) : m.Perm (List.range m.length) :=
  perm_of P.nd List.nodup_range fun x => ⟨fun h => List.mem_range.mpr (P.lt x h), fun h => P.cover (List.mem_range.mp h)⟩
theorem sort_move {m : List Nat} (P : Prm m) : sortI (m.map fun (x : Nat) => (x : Int)) = (List.range m.length).map fun (x : Nat) => (x : Int) := by
  refine sorted_one ((sortI_perm _).trans (P.perm.map _)) (sortI_sorted _) ?_
  rw [List.pairwise_map]
  refine List.Pairwise.imp ?_ (List.pairwise_lt_range)
  intro a b h
  show (a : Int) ≤ (b : Int)
  omega
end Dn

set_option maxHeartbeats 4000000
namespace Dn
open PySem
theorem eq_refI {neg : Bool} {p q : Nat} {xs : List Int} {h : Hs} (e1 : h[p]? = some (.lst (xs.map A.int))) (e2 : h[q]? = some (.lst (xs.map A.int))) : eqA neg (.ref p) (.ref q) h = .ok (.bl (!neg)) h := by
  obtain ⟨h1, h2, h3⟩ := lay_I xs
  have r1 : ∀ r, h[r]? = some (.lst (xs.map A.int)) → toD h (.ref r) = some (.list (xs.map PyData.int)) := fun r e => by
    unfold toD
    show refD 6 h r = _
    rw [refD, e]
    dsimp only
    rw [toDs_I]
    rfl
  have q1 : SeqAt.shaped (.list (xs.map PyData.int)) = true := by
    unfold SeqAt.shaped
    simp [PyData.canLay0, PyData.depth, h1, h2]
  have q2 : PyData.eqv (.list (xs.map PyData.int)) (.list (xs.map PyData.int)) = true := by simp [PyData.eqv, h3]
  unfold eqA
  rw [r1 p e1, r1 q e2]
  simp only [q1, q2, Bool.and_self, if_true]
  cases neg <;> rfl
theorem nat_int (m : List Nat) : m.map natA = (m.map fun (x : Nat) => (x : Int)).map A.int := by rw [List.map_map]; rfl
theorem is_move_of_ok {X : Xn → Hs → Prop} {n : Nat} {h : Hs} {m : List Nat} (hn : 5000 ≤ n) (P : Prm m) (hl : m.length ≤ 60) : Ev X (f_is_move_of n [.int (m.length : Int), rgA m] h) fun a h' => a = .bl true ∧ Gm none h h' := by
  refine ev_body rfl ?_
  unfold d_is_move_of
  refine step_seq (fun s h' => s = [some (.int (m.length : Int)), some (rgA m), none] ∧ Gm none h h') ?_ ?_
  · simp only [seqD, ifD, retD, retND, dropD, setD, nextD, varD, conD, bin2, un1, testD, boolR, notT, andT, orT, ifE, andV, orV, notV, tupD, lstD, cbD, nilD, consD, asgD, parD, nameG, tupG, consG, nilG, setItD, augD, augItD, methD, forD, whileD, lcD, lc2D, sliceD, someD, noneD, chain3, truD, truR, orTD, andTD, notTD, joinedD, glueD, lstRg, rg1, rg2, itRg1, itRg2, itSeq, itEn, dnewKD, newK, newL, maxKD, yesT, wipeA, cmpI, add_I, sub_I, negA, ok_bind, sizeLine_eq, Nat.reduceLeDiff, eq_I, isi_tup, isi_str, isi_int, isi_boo, len_tup, qlt, qle, qgt, qge, rg_if, ev_ok, ev_bind, ev_if, ev_call, es_nx, es_rt, es_seq, es_then, es_if, List.getElem?_cons_succ, List.getElem?_cons_zero, List.set_cons_succ, List.set_cons_zero, List.length_cons, List.length_nil, List.map_cons, List.map_nil, List.replicate, List.cons_append, List.nil_append, Option.bind_some, Option.map_some, Bool.not_true, Bool.not_false, Bool.false_eq_true, if_true, if_false, decide_true, decide_false, true_and, and_true, Nat.zero_add, Nat.add_zero, Nat.reduceAdd, Nat.reduceSub, reduceIte, Nat.sub_self, Nat.succ_sub_succ_eq_sub, Nat.add_one_sub_one]
    unfold rgA
    simp only [seqD, ifD, retD, retND, dropD, setD, nextD, varD, conD, bin2, un1, testD, boolR, notT, andT, orT, ifE, andV, orV, notV, tupD, lstD, cbD, nilD, consD, asgD, parD, nameG, tupG, consG, nilG, setItD, augD, augItD, methD, forD, whileD, lcD, lc2D, sliceD, someD, noneD, chain3, truD, truR, orTD, andTD, notTD, joinedD, glueD, lstRg, rg1, rg2, itRg1, itRg2, itSeq, itEn, dnewKD, newK, newL, maxKD, yesT, wipeA, cmpI, add_I, sub_I, negA, ok_bind, sizeLine_eq, Nat.reduceLeDiff, eq_I, isi_tup, isi_str, isi_int, isi_boo, len_tup, qlt, qle, qgt, qge, rg_if, ev_ok, ev_bind, ev_if, ev_call, es_nx, es_rt, es_seq, es_then, es_if, List.getElem?_cons_succ, List.getElem?_cons_zero, List.set_cons_succ, List.set_cons_zero, List.length_cons, List.length_nil, List.map_cons, List.map_nil, List.replicate, List.cons_append, List.nil_append, Option.bind_some, Option.map_some, Bool.not_true, Bool.not_false, Bool.false_eq_true, if_true, if_false, decide_true, decide_false, true_and, and_true, Nat.zero_add, Nat.add_zero, Nat.reduceAdd, Nat.reduceSub, reduceIte, Nat.sub_self, Nat.succ_sub_succ_eq_sub, Nat.add_one_sub_one, List.length_map]
    refine lc_true (by rw [List.length_map]; omega) (by rw [List.length_map]; omega) (fun j hj => ?_) ?_
    · simp only [List.getElem_map, callD, seqD, ifD, retD, retND, dropD, setD, nextD, varD, conD, bin2, un1, testD, boolR, notT, andT, orT, ifE, andV, orV, notV, tupD, lstD, cbD, nilD, consD, asgD, parD, nameG, tupG, consG, nilG, setItD, augD, augItD, methD, forD, whileD, lcD, lc2D, sliceD, someD, noneD, chain3, truD, truR, orTD, andTD, notTD, joinedD, glueD, lstRg, rg1, rg2, itRg1, itRg2, itSeq, itEn, dnewKD, newK, newL, maxKD, yesT, wipeA, cmpI, add_I, sub_I, negA, ok_bind, sizeLine_eq, Nat.reduceLeDiff, eq_I, isi_tup, isi_str, isi_int, isi_boo, len_tup, qlt, qle, qgt, qge, rg_if, ev_ok, ev_bind, ev_if, ev_call, es_nx, es_rt, es_seq, es_then, es_if, List.getElem?_cons_succ, List.getElem?_cons_zero, List.set_cons_succ, List.set_cons_zero, List.length_cons, List.length_nil, List.map_cons, List.map_nil, List.replicate, List.cons_append, List.nil_append, Option.bind_some, Option.map_some, Bool.not_true, Bool.not_false, Bool.false_eq_true, if_true, if_false, decide_true, decide_false, true_and, and_true, Nat.zero_add, Nat.add_zero, Nat.reduceAdd, Nat.reduceSub, reduceIte, Nat.sub_self, Nat.succ_sub_succ_eq_sub, Nat.add_one_sub_one]
      exact is_plain_int
    · rw [List.length_map, all_ref get_app, ev_ok]
      simp only [seqD, ifD, retD, retND, dropD, setD, nextD, varD, conD, bin2, un1, testD, boolR, notT, andT, orT, ifE, andV, orV, notV, tupD, lstD, cbD, nilD, consD, asgD, parD, nameG, tupG, consG, nilG, setItD, augD, augItD, methD, forD, whileD, lcD, lc2D, sliceD, someD, noneD, chain3, truD, truR, orTD, andTD, notTD, joinedD, glueD, lstRg, rg1, rg2, itRg1, itRg2, itSeq, itEn, dnewKD, newK, newL, maxKD, yesT, wipeA, cmpI, add_I, sub_I, negA, ok_bind, sizeLine_eq, Nat.reduceLeDiff, eq_I, isi_tup, isi_str, isi_int, isi_boo, len_tup, qlt, qle, qgt, qge, rg_if, ev_ok, ev_bind, ev_if, ev_call, es_nx, es_rt, es_seq, es_then, es_if, List.getElem?_cons_succ, List.getElem?_cons_zero, List.set_cons_succ, List.set_cons_zero, List.length_cons, List.length_nil, List.map_cons, List.map_nil, List.replicate, List.cons_append, List.nil_append, Option.bind_some, Option.map_some, Bool.not_true, Bool.not_false, Bool.false_eq_true, if_true, if_false, decide_true, decide_false, true_and, and_true, Nat.zero_add, Nat.add_zero, Nat.reduceAdd, Nat.reduceSub, reduceIte, Nat.sub_self, Nat.succ_sub_succ_eq_sub, Nat.add_one_sub_one]
      exact Gm.refl.app
  rintro s h' ⟨rfl, g⟩
  refine es_ret ?_
  rw [ev_bin2, ev_cb1]
  show Ev _ (R.ok (rgA m) h') _
  rw [ev_ok]
  have e1 : bSorted [rgA m] h' = newL (((List.range m.length).map fun (x : Nat) => (x : Int)).map A.int) h' := by
    have q : (seqOf h' (rgA m)).bind intsOf = some (m.map fun (x : Nat) => (x : Int)) := ints_N m
    unfold bSorted
    dsimp only
    rw [q]
    dsimp only
    rw [sort_move P]
  rw [e1, newL, ev_ok]
  have er : lstRg (rg1 (varD 0)) n [some (.int (m.length : Int)), some (rgA m), none] (h' ++ [.lst (((List.range m.length).map fun (x : Nat) => (x : Int)).map A.int)]) = newL ((List.range m.length).map natA) (h' ++ [.lst (((List.range m.length).map fun (x : Nat) => (x : Int)).map A.int)]) := by
    show (R.ok ((0 : Int), (m.length : Int)) _).bind _ = _
    rw [ok_bind]
    dsimp only
    have ok : rgOk 0 (m.length : Int) = true := by
      unfold rgOk
      rw [Bool.and_eq_true, Bool.and_eq_true]
      exact ⟨by decide, Nat.blt_eq.mpr (by omega), Nat.ble_eq_true_of_le (by omega)⟩
    rw [if_pos ok, rg_nat]
  rw [er, newL, ev_ok]
  rw [eq_refI (xs := (List.range m.length).map fun (x : Nat) => (x : Int)) ((Gm.refl (m := none)).app.get get_app) (by rw [get_app, nat_int]), ev_ok]
  exact ⟨rfl, g.app.app⟩
end Dn

set_option maxHeartbeats 4000000
namespace Dn
open PySem
theorem is_any_move_ok {X : Xn → Hs → Prop} {n : Nat} {h : Hs} {m : List Nat} (hn : 5000 ≤ n) (P : Prm m) (h1 : 1 ≤ m.length) (hl : m.length ≤ 24) : Ev X (f_is_any_move n [rgA m] h) fun a h' => a = .bl true ∧ Gm none h h' := by
  refine ev_body rfl ?_
  have q := is_move_of_ok (X := X) (n := n) (h := h) hn P (by omega)
  unfold rgA at q ⊢
  simp only [d_is_any_move, seqD, ifD, retD, retND, dropD, setD, nextD, varD, conD, bin2, un1, testD, boolR, notT, andT, orT, ifE, andV, orV, notV, tupD, lstD, cbD, nilD, consD, asgD, parD, nameG, tupG, consG, nilG, setItD, augD, augItD, methD, forD, whileD, lcD, lc2D, sliceD, someD, noneD, chain3, truD, truR, orTD, andTD, notTD, joinedD, glueD, lstRg, rg1, rg2, itRg1, itRg2, itSeq, itEn, dnewKD, newK, newL, maxKD, yesT, wipeA, cmpI, add_I, sub_I, negA, ok_bind, sizeLine_eq, Nat.reduceLeDiff, eq_I, isi_tup, isi_str, isi_int, isi_boo, len_tup, qlt, qle, qgt, qge, rg_if, ev_ok, ev_bind, ev_if, ev_call, es_nx, es_rt, es_seq, es_then, es_if, List.getElem?_cons_succ, List.getElem?_cons_zero, List.set_cons_succ, List.set_cons_zero, List.length_cons, List.length_nil, List.map_cons, List.map_nil, List.replicate, List.cons_append, List.nil_append, Option.bind_some, Option.map_some, Bool.not_true, Bool.not_false, Bool.false_eq_true, if_true, if_false, decide_true, decide_false, true_and, and_true, Nat.zero_add, Nat.add_zero, Nat.reduceAdd, Nat.reduceSub, reduceIte, Nat.sub_self, Nat.succ_sub_succ_eq_sub, Nat.add_one_sub_one, List.length_map]
  simp only [show (1 : Int) ≤ (m.length : Int) by omega, show (m.length : Int) ≤ 24 by omega, seqD, ifD, retD, retND, dropD, setD, nextD, varD, conD, bin2, un1, testD, boolR, notT, andT, orT, ifE, andV, orV, notV, tupD, lstD, cbD, nilD, consD, asgD, parD, nameG, tupG, consG, nilG, setItD, augD, augItD, methD, forD, whileD, lcD, lc2D, sliceD, someD, noneD, chain3, truD, truR, orTD, andTD, notTD, joinedD, glueD, lstRg, rg1, rg2, itRg1, itRg2, itSeq, itEn, dnewKD, newK, newL, maxKD, yesT, wipeA, cmpI, add_I, sub_I, negA, ok_bind, sizeLine_eq, Nat.reduceLeDiff, eq_I, isi_tup, isi_str, isi_int, isi_boo, len_tup, qlt, qle, qgt, qge, rg_if, ev_ok, ev_bind, ev_if, ev_call, es_nx, es_rt, es_seq, es_then, es_if, List.getElem?_cons_succ, List.getElem?_cons_zero, List.set_cons_succ, List.set_cons_zero, List.length_cons, List.length_nil, List.map_cons, List.map_nil, List.replicate, List.cons_append, List.nil_append, Option.bind_some, Option.map_some, Bool.not_true, Bool.not_false, Bool.false_eq_true, if_true, if_false, decide_true, decide_false, true_and, and_true, Nat.zero_add, Nat.add_zero, Nat.reduceAdd, Nat.reduceSub, reduceIte, Nat.sub_self, Nat.succ_sub_succ_eq_sub, Nat.add_one_sub_one, List.length_map]
  exact q
end Dn

set_option maxHeartbeats 4000000
namespace Dn
open PySem
theorem erase_map {α β : Type} (f : α → β) : ∀ (l : List α) (v : Nat), (l.map f).eraseIdx v = (l.eraseIdx v).map f
  | [], _ => rfl
  | _ :: _, 0 => rfl
  | x :: l, v + 1 => by
    have ih := erase_map f l v
    show f x :: (l.map f).eraseIdx v = f x :: (l.eraseIdx v).map f
    rw [ih]
theorem prm_of {m : List Nat} {p : Nat} (h : m.Perm (List.range p)) : Prm m ∧ m.length = p := by
  have hl : m.length = p := by rw [h.length_eq, List.length_range]
  exact ⟨⟨fun x hx => by rw [hl]; exact List.mem_range.mp (h.subset hx), h.nodup_iff.mpr List.nodup_range⟩, hl⟩
theorem move_drawn_ok {X : Xn → Hs → Prop} {n : Nat} {h : Hs} {b k p : Nat} (hn : 5000 ≤ n) (B : Bag h b k) (hk : k ≤ 70000) (h1 : 1 ≤ p) (hp : p ≤ 24) :
    Ev X (f__law_move_drawn n [.ref b, .int (p : Int)] h) fun a h' => ∃ m, a = rgA m ∧ Prm m ∧ m.length = p ∧ Bag h' b (k + p) ∧ Gm (some b) h h' := by
  have hb := B.lt
  refine ev_body rfl ?_
  unfold d__law_move_drawn
  have er : lstRg (rg1 (varD 1)) n [some (.ref b), some (.int (p : Int)), none, none, none] h = newL ((List.range p).map natA) h := by
    show (R.ok ((0 : Int), (p : Int)) h).bind _ = _
    rw [ok_bind]
    dsimp only
    have ok : rgOk 0 (p : Int) = true := by
      unfold rgOk
      rw [Bool.and_eq_true, Bool.and_eq_true]
      exact ⟨by decide, Nat.blt_eq.mpr (by omega), Nat.ble_eq_true_of_le (by omega)⟩
    rw [if_pos ok, rg_nat]
  refine step_seq (fun s h' => s = [some (.ref b), some (.int (p : Int)), some (.ref h.length), some (.ref (h.length + 1)), none] ∧ h' = h ++ [.lst ((List.range p).map natA)] ++ [.lst []]) ?_ ?_
  · unfold parD consD
    rw [es_then, ev_bind]
    show Ev _ (lstRg (rg1 (varD 1)) n [some (.ref b), some (.int (p : Int)), none, none, none] h) _
    rw [er, newL, ev_ok, ev_bind]
    simp only [seqD, ifD, retD, retND, dropD, setD, nextD, varD, conD, bin2, un1, testD, boolR, notT, andT, orT, ifE, andV, orV, notV, tupD, lstD, cbD, nilD, consD, asgD, parD, nameG, tupG, consG, nilG, setItD, augD, augItD, methD, forD, whileD, lcD, lc2D, sliceD, someD, noneD, chain3, truD, truR, orTD, andTD, notTD, joinedD, glueD, lstRg, rg1, rg2, itRg1, itRg2, itSeq, itEn, dnewKD, newK, newL, maxKD, yesT, wipeA, cmpI, add_I, sub_I, negA, ok_bind, sizeLine_eq, Nat.reduceLeDiff, eq_I, isi_tup, isi_str, isi_int, isi_boo, len_tup, qlt, qle, qgt, qge, rg_if, ev_ok, ev_bind, ev_if, ev_call, es_nx, es_rt, es_seq, es_then, es_if, List.getElem?_cons_succ, List.getElem?_cons_zero, List.set_cons_succ, List.set_cons_zero, List.length_cons, List.length_nil, List.map_cons, List.map_nil, List.replicate, List.cons_append, List.nil_append, Option.bind_some, Option.map_some, Bool.not_true, Bool.not_false, Bool.false_eq_true, if_true, if_false, decide_true, decide_false, true_and, and_true, Nat.zero_add, Nat.add_zero, Nat.reduceAdd, Nat.reduceSub, reduceIte, Nat.sub_self, Nat.succ_sub_succ_eq_sub, Nat.add_one_sub_one]
    rw [List.length_append]
    exact rfl
  rintro s h' ⟨rfl, rfl⟩
  have h0 : (h ++ [AO.lst ((List.range p).map natA)] ++ [AO.lst []])[h.length]? = some (.lst ((List.range p).map natA)) := by
    rw [List.getElem?_append_left (by simp), get_app]
  have h2 : (h ++ [AO.lst ((List.range p).map natA)] ++ [AO.lst []])[h.length + 1]? = some (.lst []) := by
    have := get_app (h := h ++ [AO.lst ((List.range p).map natA)]) (o := AO.lst [])
    rw [List.length_append] at this
    exact this
  refine step_seq (fun s h3 => (∃ a, s = [some (.ref b), some (.int (p : Int)), some (.ref h.length), some (.ref (h.length + 1)), a]) ∧ ∃ m : List Nat, h3[h.length + 1]? = some (.lst (m.map natA)) ∧ m.Perm (List.range p) ∧ Bag h3 b (k + p) ∧ Gm (some b) h h3) ?_ ?_
  · unfold forD
    rw [es_then]
    refine ev_rg1 (m := p) (by omega) ?_
    rw [show consD (varD 1) nilD n [some (.ref b), some (.int (p : Int)), some (.ref h.length), some (.ref (h.length + 1)), none] (h ++ [AO.lst ((List.range p).map natA)] ++ [AO.lst []]) = .ok [.int (p : Int)] (h ++ [AO.lst ((List.range p).map natA)] ++ [AO.lst []]) from rfl, ev_ok]
    refine ⟨rfl, ?_⟩
    refine for_r (m := p) (by omega) (fun j s h3 => j ≤ p ∧ (∃ a, s = [some (.ref b), some (.int (p : Int)), some (.ref h.length), some (.ref (h.length + 1)), a]) ∧ ∃ (m rem : List Nat), h3[h.length + 1]? = some (.lst (m.map natA)) ∧ h3[h.length]? = some (.lst (rem.map natA)) ∧ (m ++ rem).Perm (List.range p) ∧ m.length = j ∧ Bag h3 b (k + j) ∧ Gm (some b) h h3)
      ⟨Nat.zero_le _, ⟨_, rfl⟩, [], List.range p, h2, h0, List.Perm.refl _, rfl, B.keep Gm.refl.app.app, Gm.weak Gm.refl.app.app⟩ ?_ ?_
    · rintro j s h3 hj ⟨_, ⟨a, rfl⟩, m, rem, gm, gr, pm, hml, B3, g3⟩
      have hrem : rem.length = p - j := by
        have := pm.length_eq
        rw [List.length_append, List.length_range] at this
        omega
      refine ⟨[some (.ref b), some (.int (p : Int)), some (.ref h.length), some (.ref (h.length + 1)), some (.int (0 + (j : Int)))], rfl, ?_⟩
      simp only [seqD, ifD, retD, retND, dropD, setD, nextD, varD, conD, bin2, un1, testD, boolR, notT, andT, orT, ifE, andV, orV, notV, tupD, lstD, cbD, nilD, consD, asgD, parD, nameG, tupG, consG, nilG, setItD, augD, augItD, methD, forD, whileD, lcD, lc2D, sliceD, someD, noneD, chain3, truD, truR, orTD, andTD, notTD, joinedD, glueD, lstRg, rg1, rg2, itRg1, itRg2, itSeq, itEn, dnewKD, newK, newL, maxKD, yesT, wipeA, cmpI, add_I, sub_I, negA, ok_bind, sizeLine_eq, Nat.reduceLeDiff, eq_I, isi_tup, isi_str, isi_int, isi_boo, len_tup, qlt, qle, qgt, qge, rg_if, ev_ok, ev_bind, ev_if, ev_call, es_nx, es_rt, es_seq, es_then, es_if, List.getElem?_cons_succ, List.getElem?_cons_zero, List.set_cons_succ, List.set_cons_zero, List.length_cons, List.length_nil, List.map_cons, List.map_nil, List.replicate, List.cons_append, List.nil_append, Option.bind_some, Option.map_some, Bool.not_true, Bool.not_false, Bool.false_eq_true, if_true, if_false, decide_true, decide_false, true_and, and_true, Nat.zero_add, Nat.add_zero, Nat.reduceAdd, Nat.reduceSub, reduceIte, Nat.sub_self, Nat.succ_sub_succ_eq_sub, Nat.add_one_sub_one, tyA_ref gm, tyA_ref gr, len_ref gr, List.length_map]
      refine (grab_ok B3 (by omega) (show 1 ≤ rem.length by omega) (log_nat (by omega))).mono fun a h4 q => ?_
      obtain ⟨v, rfl, hv, B4, g4⟩ := q
      have gm4 := g4.get gm (by simp; omega)
      have gr4 := g4.get gr (by simp; omega)
      have hvm : v < (rem.map natA).length := by rw [List.length_map]; exact hv
      rw [pop_ref gr4 hvm (by rw [List.length_map]; omega), ev_ok]
      have gm5 : (h4.set h.length (.lst ((rem.map natA).eraseIdx v)))[h.length + 1]? = some (.lst (m.map natA)) := by rw [List.getElem?_set_ne (by omega)]; exact gm4
      rw [app_ref gm5 (by rw [List.length_map]; omega), ev_ok]
      have hlt4 := lt_of_get gr4
      refine ⟨hj, ⟨_, rfl⟩, m ++ [rem[v]], rem.eraseIdx v, ?_, ?_, ?_, by rw [List.length_append, hml]; rfl, ?_, ((g3.trans g4).set (.inl (Nat.le_refl _))).set (.inl (by omega))⟩
      · rw [get_set gm5, List.map_append, List.getElem_map]; rfl
      · rw [List.getElem?_set_ne (by omega), get_set gr4, erase_map]
      · refine List.Perm.trans ?_ pm
        rw [List.append_assoc]
        exact List.Perm.append_left m (erase_perm rem v hv)
      · obtain ⟨x, y, z, eb, r⟩ := B4
        exact ⟨x, y, z, by rw [List.getElem?_set_ne (by omega), List.getElem?_set_ne (by omega)]; exact eb, r.1, r.2.1, r.2.2.1, r.2.2.2.1, by omega⟩
    · rintro s h3 ⟨_, ⟨a, rfl⟩, m, rem, gm, gr, pm, hml, B3, g3⟩
      have hrem : rem = [] := by
        have := pm.length_eq
        rw [List.length_append, List.length_range] at this
        exact List.eq_nil_of_length_eq_zero (by omega)
      subst hrem
      rw [List.append_nil] at pm
      exact ⟨⟨_, rfl⟩, m, gm, pm, B3, g3⟩
  rintro s h3 ⟨⟨a, rfl⟩, m, gm, pm, B3, g3⟩
  obtain ⟨P, hpl⟩ := prm_of pm
  simp only [seqD, ifD, retD, retND, dropD, setD, nextD, varD, conD, bin2, un1, testD, boolR, notT, andT, orT, ifE, andV, orV, notV, tupD, lstD, cbD, nilD, consD, asgD, parD, nameG, tupG, consG, nilG, setItD, augD, augItD, methD, forD, whileD, lcD, lc2D, sliceD, someD, noneD, chain3, truD, truR, orTD, andTD, notTD, joinedD, glueD, lstRg, rg1, rg2, itRg1, itRg2, itSeq, itEn, dnewKD, newK, newL, maxKD, yesT, wipeA, cmpI, add_I, sub_I, negA, ok_bind, sizeLine_eq, Nat.reduceLeDiff, eq_I, isi_tup, isi_str, isi_int, isi_boo, len_tup, qlt, qle, qgt, qge, rg_if, ev_ok, ev_bind, ev_if, ev_call, es_nx, es_rt, es_seq, es_then, es_if, List.getElem?_cons_succ, List.getElem?_cons_zero, List.set_cons_succ, List.set_cons_zero, List.length_cons, List.length_nil, List.map_cons, List.map_nil, List.replicate, List.cons_append, List.nil_append, Option.bind_some, Option.map_some, Bool.not_true, Bool.not_false, Bool.false_eq_true, if_true, if_false, decide_true, decide_false, true_and, and_true, Nat.zero_add, Nat.add_zero, Nat.reduceAdd, Nat.reduceSub, reduceIte, Nat.sub_self, Nat.succ_sub_succ_eq_sub, Nat.add_one_sub_one, tuple_ref gm]
  exact ⟨m, rfl, P, hpl, B3, g3⟩
end Dn

set_option maxHeartbeats 4000000
namespace Dn
open PySem
/-! ### rings turned -/
def rot (k : Nat) (r : List Nat) : List Nat := r.drop k ++ r.take k
theorem rot_len (k : Nat) (r : List Nat) : (rot k r).length = r.length := by unfold rot; rw [List.length_append, List.length_drop, List.length_take]; omega
theorem rot_perm (k : Nat) (r : List Nat) : (rot k r).Perm r := by
  unfold rot
  have q := (List.perm_append_comm (l₁ := r.drop k) (l₂ := r.take k))
  rw [List.take_append_drop] at q
  exact q
theorem rot_at {k i : Nat} {r : List Nat} (hk : k < r.length) (hi : i < r.length) : at0 (rot k r) i = at0 r ((i + k) % r.length) := by
  unfold rot at0
  rw [List.getD_eq_getElem?_getD, List.getD_eq_getElem?_getD]
  by_cases h : i < r.length - k
  · rw [List.getElem?_append_left (by rw [List.length_drop]; exact h), List.getElem?_drop, Nat.mod_eq_of_lt (by omega), Nat.add_comm]
  · have e : (i + k) % r.length = i + k - r.length := by
      rw [Nat.mod_eq_sub_mod (by omega), Nat.mod_eq_of_lt (by omega)]
    rw [List.getElem?_append_right (by rw [List.length_drop]; omega), List.length_drop, List.getElem?_take_of_lt (by omega), e]
    congr 2
    omega
theorem rot_rg {m r : List Nat} {k : Nat} (h : Rg m r) (hk : k < r.length) : Rg m (rot k r) := by
  have hl := rot_len k r
  refine ⟨by rw [hl]; exact h.ne, (rot_perm k r).nodup_iff.mpr h.nd, fun y hy => h.lt y ((rot_perm k r).subset hy), fun i hi => ?_⟩
  rw [hl] at hi ⊢
  have hm : (i + 1) % r.length < r.length := Nat.mod_lt _ h.ne
  rw [rot_at hk hi, rot_at hk hm, h.st _ (Nat.mod_lt _ h.ne)]
  congr 1
  rw [Nat.mod_add_mod, Nat.mod_add_mod]
  congr 1
  omega
end Dn

set_option maxHeartbeats 4000000
namespace Dn
open PySem
/-! ### the long rings -/
def longs (Rs : List (List Nat)) : List (List Nat) := Rs.filter fun r => decide (1 < r.length)
inductive Turned : List (List Nat) → List (List Nat) → Prop
  | nil : Turned [] []
  | cons {r : List Nat} {k : Nat} {Rs Ls : List (List Nat)} : k < r.length → Turned Rs Ls → Turned (rot k r :: Rs) (r :: Ls)
theorem rot_zero (r : List Nat) : rot 0 r = r := by simp [rot]
theorem turned_refl : ∀ {Ls : List (List Nat)}, (∀ r ∈ Ls, 0 < r.length) → Turned Ls Ls
  | [], _ => .nil
  | r :: Ls, h => by
    have q := Turned.cons (h r List.mem_cons_self) (turned_refl (Ls := Ls) fun x hx => h x (List.mem_cons_of_mem _ hx))
    rw [rot_zero] at q
    exact q
theorem turned_flat {Rs Ls : List (List Nat)} (h : Turned Rs Ls) : Rs.flatten.Perm Ls.flatten := by
  induction h with
  | nil => exact List.Perm.refl _
  | @cons r k Rs Ls _ _ ih => rw [List.flatten_cons, List.flatten_cons]; exact (rot_perm k r).append ih
theorem turned_rg {m : List Nat} {Rs Ls : List (List Nat)} (h : Turned Rs Ls) (g : ∀ r ∈ Ls, Rg m r) : ∀ r ∈ Rs, Rg m r := by
  induction h with
  | nil => intro r hr; cases hr
  | @cons r k Rs Ls hk _ ih =>
    intro x hx
    rcases List.mem_cons.mp hx with rfl | hx
    · exact rot_rg (g r List.mem_cons_self) hk
    · exact ih (fun y hy => g y (List.mem_cons_of_mem _ hy)) x hx
theorem filter_flat {Rs : List (List Nat)} {f : List Nat → Bool} : (Rs.filter f).flatten.Sublist Rs.flatten := by
  induction Rs with
  | nil => exact List.Sublist.refl _
  | cons r Rs ih =>
    rw [List.filter_cons, List.flatten_cons]
    split
    · rw [List.flatten_cons]; exact List.Sublist.append (List.Sublist.refl _) ih
    · exact ih.trans (List.sublist_append_right _ _)
theorem long_nd {m : List Nat} {Ls : List (List Nat)} (P : Prm m) (hp : Ls.Perm (longs (cyc m))) : Ls.flatten.Nodup ∧ (∀ r ∈ Ls, Rg m r ∧ 2 ≤ r.length) ∧ ∀ x, x < m.length → x ∉ Ls.flatten → at' m x = x := by
  obtain ⟨rgs, cov⟩ := cyc_ok P
  have hl : ∀ r, r ∈ Ls ↔ (r ∈ cyc m ∧ 2 ≤ r.length) := fun r => by
    rw [hp.mem_iff]
    unfold longs
    rw [List.mem_filter, decide_eq_true_eq]
    exact Iff.rfl
  refine ⟨?_, fun r hr => ⟨rgs.rg r ((hl r).mp hr).1, ((hl r).mp hr).2⟩, fun x hx hn => ?_⟩
  · exact (hp.flatten.nodup_iff).mpr (filter_flat.nodup rgs.nd)
  · obtain ⟨r, hr, hxr⟩ := List.mem_flatten.mp (cov x hx)
    have hshort : ¬ 2 ≤ r.length := fun z => hn (List.mem_flatten.mpr ⟨r, (hl r).mpr ⟨hr, z⟩, hxr⟩)
    have g := rgs.rg r hr
    obtain ⟨i, hi, e⟩ := mem_at0 hxr
    have i0 : i = 0 := by omega
    have l1 : r.length = 1 := by have := g.ne; omega
    have q := g.st i hi
    rw [e, i0, l1] at q
    rw [q, ← e, i0]
end Dn

set_option maxHeartbeats 4000000
namespace Dn
open PySem
open TL (numL joinL)
/-- [str(x) for x in r], r a tuple of places -/
theorem lc_str {X : Xn → Hs → Prop} {n v : Nat} {r : List Nat} {s : Sl} {h : Hs} {Q : List A → Hs → Prop} (hn : r.length < n) (hz : r.length ≤ 60) (hv : v < s.length) (hlt : ∀ x ∈ r, x < 60) (q : Q ((r.map numL).map fun y => A.str (S y)) h) :
    Ev X (lcL (stepX (r.map natA)) (nameG v) yesT (cbD bStr (consD (varD v) nilD)) n n 0 [] s h) Q := by
  refine lc_map (F := natA) (G := fun x => A.str (S (numL x))) hn (by omega) (fun x hx => ?_) (by rw [List.map_map] at q; exact q)
  have g : (s.set v (some (natA x)))[v]? = some (some (natA x)) := List.getElem?_set_self hv
  simp only [cbD, consD, nilD, varD, g, ok_bind]
  exact str_N (by have := hlt x hx; omega)
theorem nums_len {r : List Nat} (hz : r.length ≤ 60) (hlt : ∀ x ∈ r, x < 60) : ((r.map numL).map (·.length)).sum + (r.map numL).length * 1 ≤ 16777216 := by
  have := sum_le (r.map numL) 2 fun y hy => by
    obtain ⟨x, hx, rfl⟩ := List.mem_map.mp hy
    exact fig2 (hlt x hx)
  rw [List.length_map] at this ⊢
  omega
end Dn

set_option maxHeartbeats 4000000
namespace Dn
open PySem
open TL (numL joinL)
/-! ### lists of readable things, equality -/
theorem toDs_map {β : Type} {F : β → A} {D : β → PyData} {f : Nat → Option PyData} : ∀ (ys : List β), (∀ y ∈ ys, toDw f (F y) = some (D y)) → toDws f (ys.map F) = some (ys.map D)
  | [], _ => rfl
  | y :: ys, h => by
    rw [List.map_cons, toDws, h y List.mem_cons_self, toDs_map ys fun z hz => h z (List.mem_cons_of_mem _ hz)]
    rfl
theorem lay_map {β : Type} {D : β → PyData} {k : Nat} : ∀ (ys : List β), (∀ y ∈ ys, (D y).canLay0 = true ∧ (D y).depth ≤ k) → PyData.canLayAll0 (ys.map D) = true ∧ PyData.depthAll (ys.map D) ≤ k
  | [], _ => ⟨rfl, Nat.zero_le _⟩
  | y :: ys, h => by
    obtain ⟨h1, h2⟩ := h y List.mem_cons_self
    obtain ⟨i1, i2⟩ := lay_map ys fun z hz => h z (List.mem_cons_of_mem _ hz)
    refine ⟨by rw [List.map_cons, PyData.canLayAll0, h1, i1]; rfl, ?_⟩
    rw [List.map_cons, PyData.depthAll]
    omega
theorem shaped_list {ds : List PyData} {k : Nat} (h : PyData.canLayAll0 ds = true ∧ PyData.depthAll ds ≤ k) (hk : k ≤ 60) : SeqAt.shaped (.list ds) = true := by
  unfold SeqAt.shaped
  rw [PyData.canLay0, h.1, PyData.depth]
  simp
  omega
theorem eq_refl {neg : Bool} {a b : A} {d : PyData} {h : Hs} (e1 : toD h a = some d) (e2 : toD h b = some d) (hd : SeqAt.shaped d = true) : eqA neg a b h = .ok (.bl (!neg)) h := by
  have q : PyData.eqv d d = true := by
    unfold SeqAt.shaped at hd
    rw [Bool.and_eq_true] at hd
    exact SeqAt.eqv_refl d hd.1
  unfold eqA
  rw [e1, e2]
  dsimp only
  rw [hd, Bool.and_self, if_pos rfl, q]
  cases neg <;> rfl
theorem ne_nil {β : Type} {F : β → A} {D : β → PyData} {k p q : Nat} {ys : List β} {h : Hs} (e1 : h[p]? = some (.lst (ys.map F))) (e2 : h[q]? = some (.lst [])) (hF : ∀ f, ∀ y ∈ ys, toDw f (F y) = some (D y)) (hD : ∀ y ∈ ys, (D y).canLay0 = true ∧ (D y).depth ≤ k) (hk : k ≤ 60) :
    eqA true (.ref p) (.ref q) h = .ok (.bl (decide (ys ≠ []))) h := by
  have d1 : toD h (.ref p) = some (.list (ys.map D)) := by
    unfold toD
    show refD 6 h p = _
    rw [refD, e1]
    dsimp only
    rw [toDs_map ys (hF _)]
    rfl
  have d2 : toD h (.ref q) = some (.list []) := by
    unfold toD
    show refD 6 h q = _
    rw [refD, e2]
    rfl
  have s1 := shaped_list (lay_map ys hD) hk
  have s2 : SeqAt.shaped (.list []) = true := shaped_list (k := 0) ⟨rfl, Nat.le_refl _⟩ (Nat.zero_le _)
  unfold eqA
  rw [d1, d2]
  dsimp only
  rw [s1, s2, Bool.and_self, if_pos rfl, if_pos rfl]
  cases ys with
  | nil => rw [List.map_nil, PyData.eqv, PyData.eqvAll]; rfl
  | cons y ys => rw [List.map_cons, PyData.eqv, PyData.eqvAll]; rfl
def rgD (r : List Nat) : PyData := .tuple (r.map fun (x : Nat) => .int (x : Int))
theorem rg_toD (f : Nat → Option PyData) (r : List Nat) : toDw f (rgA r) = some (rgD r) := by
  unfold rgA rgD
  rw [toDw, toDs_map (D := fun (x : Nat) => PyData.int (x : Int)) r fun y _ => rfl]
  rfl
theorem rg_lay (r : List Nat) : (rgD r).canLay0 = true ∧ (rgD r).depth ≤ 1 := by
  obtain ⟨h1, h2⟩ := lay_map (D := fun (x : Nat) => PyData.int (x : Int)) (k := 0) r fun y _ => ⟨rfl, Nat.le_refl _⟩
  unfold rgD
  refine ⟨by rw [PyData.canLay0]; exact h1, ?_⟩
  rw [PyData.depth]
  omega
theorem st_lay {y : List Nat} (h : sm y = true) : (PyData.str (S y)).canLay0 = true ∧ (PyData.str (S y)).depth ≤ 0 := by
  have := shaped_S h
  unfold SeqAt.shaped at this
  rw [Bool.and_eq_true] at this
  exact ⟨this.1, Nat.le_refl _⟩
/-! ### texts of moves -/
theorem wipe1_len (s : Sl) (v : Nat) : (wipeA s [v]).length = s.length := by
  show (s.set v none).length = _
  exact List.length_set
/-- " ".join([str(x) for x in r]) -/
theorem ring_str {X : Xn → Hs → Prop} {n w : Nat} {r : List Nat} {s : Sl} {h : Hs} {f : DE} (hn : 5000 ≤ n) (hz : r.length ≤ 60) (hlt : ∀ x ∈ r, x < 60) (hw : w < s.length) (hf : f n s h = .ok (rgA r) h) :
    Ev X (methD "str" mJoin (conD (.str " ")) (consD (lcD (itSeq f) (nameG w) yesT (cbD bStr (consD (varD w) nilD)) [w]) nilD) n s h) fun a h' => a = .str (S (joinL [32] (r.map numL))) ∧ Gm none h h' := by
  unfold methD
  rw [ev_bind]
  show Ev _ (R.ok (A.str " ") h) _
  rw [ev_ok, tyA_str, if_pos rfl, ev_bind]
  unfold consD
  rw [ev_bind]
  refine ev_lc ?_
  have ei : itSeq f n s h = .ok (stepX (r.map natA)) h := by
    unfold itSeq
    rw [hf, ok_bind]
    rfl
  rw [ei, ev_ok]
  refine lc_str (by omega) hz (by rw [wipe1_len]; exact hw) hlt ?_
  rw [ev_bind]
  show Ev _ (R.ok [] _) _
  rw [ev_ok, ev_ok]
  rw [c_sp, join_ref get_app (nums_len hz hlt), ev_ok]
  exact ⟨rfl, Gm.refl.app⟩
theorem longs_snoc {Rs : List (List Nat)} {j : Nat} (hj : j < Rs.length) : longs (Rs.take (j + 1)) = longs (Rs.take j) ++ if 1 < Rs[j].length then [Rs[j]] else [] := by
  rw [take_snoc hj]
  unfold longs
  rw [List.filter_append]
  congr 1
  by_cases h : 1 < Rs[j].length
  · simp [h]
  · simp [h]
/-- [e(r) for r in Rs if len(r) > 1] -/
theorem lc_longs {X : Xn → Hs → Prop} {e : DE} {G : List Nat → A} {n p v : Nat} {Rs : List (List Nat)} {s : Sl} {h : Hs} {Q : List A → Hs → Prop} (hn : Rs.length < n) (hz : Rs.length ≤ 60) (hp : h[p]? = some (.lst (Rs.map rgA))) (hv : v < s.length)
    (he : ∀ r ∈ Rs, 1 < r.length → ∀ h', Gm none h h' → Ev NoX (e n (s.set v (some (rgA r))) h') fun a h2 => a = G r ∧ Gm none h' h2)
    (q : ∀ h', Gm none h h' → Q ((longs Rs).map G) h') :
    Ev X (lcL (stepL p) (nameG v) (testD (bin2 (cmpI qgt) (cbD bLen (consD (varD v) nilD)) (conD (.int 1)))) e n n 0 [] s h) Q := by
  refine lc_any (m := Rs.length) (fun j acc h' => j ≤ Rs.length ∧ acc = (longs (Rs.take j)).map G ∧ Gm none h h') ?_ ?_ Rs.length n 0 [] h (Nat.zero_add _) hn ⟨Nat.zero_le _, rfl, Gm.refl⟩
  · rintro j acc h' hj ⟨_, rfl, g⟩
    refine ⟨rgA Rs[j], _, by unfold stepL; rw [g.get hp]; dsimp only; rw [List.getElem?_map, List.getElem?_eq_getElem hj]; rfl, rfl, ?_⟩
    have gv : (s.set v (some (rgA Rs[j])))[v]? = some (some (rgA Rs[j])) := List.getElem?_set_self hv
    have et : testD (bin2 (cmpI qgt) (cbD bLen (consD (varD v) nilD)) (conD (.int 1))) n (s.set v (some (rgA Rs[j]))) h' = .ok (decide (1 < Rs[j].length)) h' := by
      simp only [testD, bin2, cbD, consD, nilD, varD, gv, ok_bind]
      show boolR (R.ok (A.bl (decide ((1 : Int) < ((Rs[j].map natA).length : Int)))) h') = _
      rw [List.length_map]
      show R.ok (decide ((1 : Int) < (Rs[j].length : Int))) h' = _
      congr 1
      rw [decide_eq_decide]
      omega
    rw [et, ev_ok]
    have hl : (longs (Rs.take j)).length ≤ 60 := by
      unfold longs
      refine Nat.le_trans (List.length_filter_le _ _) ?_
      rw [List.length_take]
      omega
    rw [longs_snoc hj]
    by_cases hr : 1 < Rs[j].length
    · simp only [hr, decide_true, if_true]
      refine (he _ (List.getElem_mem hj) hr h' g).mono fun a h2 z => ?_
      obtain ⟨rfl, g2⟩ := z
      exact ⟨lt_line (by rw [List.length_map]; omega), hj, by rw [List.map_append]; rfl, g.trans g2⟩
    · simp only [hr, decide_false, Bool.false_eq_true, if_false, List.append_nil]
      exact ⟨hj, trivial, g⟩
  · rintro acc h' ⟨_, rfl, g⟩
    refine ⟨by unfold stepL; rw [g.get hp]; dsimp only; rw [List.getElem?_eq_none (by rw [List.length_map]; exact Nat.le_refl _)], ?_⟩
    rw [List.take_length]
    exact q h' g
/-- [e(y) for y in ys], ys a list; the heap may grow -/
theorem lc_eachL {β : Type} {X : Xn → Hs → Prop} {e : DE} {F G : β → A} {n p v : Nat} {ys : List β} {s : Sl} {h : Hs} {Q : List A → Hs → Prop} (hn : ys.length < n) (hz : ys.length ≤ 1000) (hp : h[p]? = some (.lst (ys.map F))) (hv : v < s.length)
    (he : ∀ y ∈ ys, ∀ h', Gm none h h' → Ev NoX (e n (s.set v (some (F y))) h') fun a h2 => a = G y ∧ Gm none h' h2)
    (q : ∀ h', Gm none h h' → Q (ys.map G) h') :
    Ev X (lcL (stepL p) (nameG v) yesT e n n 0 [] s h) Q := by
  refine lc_any (m := ys.length) (fun j acc h' => j ≤ ys.length ∧ acc = (ys.take j).map G ∧ Gm none h h') ?_ ?_ ys.length n 0 [] h (Nat.zero_add _) hn ⟨Nat.zero_le _, rfl, Gm.refl⟩
  · rintro j acc h' hj ⟨_, rfl, g⟩
    refine ⟨F ys[j], _, by unfold stepL; rw [g.get hp]; dsimp only; rw [List.getElem?_map, List.getElem?_eq_getElem hj]; rfl, rfl, ?_⟩
    rw [yesT, ev_ok]
    simp only [if_true]
    refine (he _ (List.getElem_mem hj) h' g).mono fun a h2 z => ?_
    obtain ⟨rfl, g2⟩ := z
    refine ⟨lt_line (by rw [List.length_map, List.length_take]; omega), hj, ?_, g.trans g2⟩
    rw [take_snoc hj, List.map_append]; rfl
  · rintro acc h' ⟨_, rfl, g⟩
    refine ⟨by unfold stepL; rw [g.get hp]; dsimp only; rw [List.getElem?_eq_none (by rw [List.length_map]; exact Nat.le_refl _)], ?_⟩
    rw [List.take_length]
    exact q h' g
theorem nums_join {r : List Nat} (hz : r.length ≤ 60) (hlt : ∀ x ∈ r, x < 60) : (joinL [32] (r.map numL)).length ≤ r.length * 3 := by
  have := joinL_len [32] (r.map numL) 2 fun y hy => by
    obtain ⟨x, hx, rfl⟩ := List.mem_map.mp hy
    exact fig2 (hlt x hx)
  rw [List.length_map] at this
  exact this
theorem ringL_len {r : List Nat} (hz : r.length ≤ 60) (hlt : ∀ x ∈ r, x < 60) : (ringL r).length ≤ r.length * 3 + 2 := by
  have := nums_join hz hlt
  unfold ringL
  rw [List.length_cons, List.length_append, List.length_singleton]
  omega
theorem ringsL_len : ∀ {R : List (List Nat)}, (∀ r ∈ R, 1 ≤ r.length ∧ r.length ≤ 60 ∧ ∀ x ∈ r, x < 60) → (ringsL R).length ≤ R.flatten.length * 5
  | [], _ => by simp [ringsL]
  | r :: R, h => by
    obtain ⟨h1, h2, h3⟩ := h r List.mem_cons_self
    have := ringL_len h2 h3
    have := ringsL_len (R := R) fun x hx => h x (List.mem_cons_of_mem _ hx)
    rw [ringsL_cons, List.length_append, List.flatten_cons, List.length_append]
    omega
theorem len_le_flat : ∀ {R : List (List Nat)}, (∀ r ∈ R, 1 ≤ r.length) → R.length ≤ R.flatten.length
  | [], _ => Nat.le_refl _
  | r :: R, h => by
    have := h r List.mem_cons_self
    have := len_le_flat (R := R) fun x hx => h x (List.mem_cons_of_mem _ hx)
    rw [List.length_cons, List.flatten_cons, List.length_append]
    omega
theorem joinL_none (ys : List (List Nat)) : joinL [] ys = ys.flatten := by
  cases ys with
  | nil => rfl
  | cons y ys =>
    rw [joinL_cons, List.flatten_cons]
    congr 1
    induction ys with
    | nil => rfl
    | cons z ys ih => rw [List.flatMap_cons, List.flatten_cons, ih]; rfl
theorem join_rings (R : List (List Nat)) : joinL [] (R.map ringL) = ringsL R := by
  rw [joinL_none]
  unfold ringsL
  rw [List.flatMap_def]
theorem sm_ring (r : List Nat) : sm (ringL r) = true := by
  unfold ringL
  rw [sm_cons, sm_app, sm_join m_sp fun y hy => by obtain ⟨x, _, rfl⟩ := List.mem_map.mp hy; exact sm_num x]
  decide
theorem sm_rings (R : List (List Nat)) : sm (ringsL R) = true := by
  unfold ringsL
  induction R with
  | nil => decide
  | cons r R ih => rw [List.flatMap_cons, sm_app, sm_ring, ih]; rfl
theorem sm_mv (R : List (List Nat)) : sm (mvL R) = true := by
  unfold mvL
  split
  · decide
  · exact sm_rings R
theorem longs_all {R : List (List Nat)} : ∀ r ∈ longs R, r ∈ R ∧ 1 < r.length := fun r hr => by
  unfold longs at hr
  rw [List.mem_filter, decide_eq_true_eq] at hr
  exact hr
/-- what is known of the rings of a move -/
theorem cyc_facts {m : List Nat} (P : Prm m) (hl : m.length ≤ 60) : (cyc m).length ≤ 60 ∧ ∀ r ∈ cyc m, 1 ≤ r.length ∧ r.length ≤ 60 ∧ ∀ x ∈ r, x < 60 := by
  obtain ⟨rgs, _⟩ := cyc_ok P
  have hF := nodup_len m.length _ rgs.nd fun x hx => by
    obtain ⟨r, hr, hx⟩ := List.mem_flatten.mp hx
    exact (rgs.rg r hr).lt x hx
  have h1 : ∀ r ∈ cyc m, 1 ≤ r.length := fun r hr => (rgs.rg r hr).ne
  have := len_le_flat h1
  refine ⟨by omega, fun r hr => ⟨h1 r hr, ?_, fun x hx => ?_⟩⟩
  · have := flat_le hr; omega
  · have := (rgs.rg r hr).lt x hx; omega
/-- the sum of the lengths of rings' texts -/
theorem rings_sum {R : List (List Nat)} (hR : R.length ≤ 60) (h : ∀ r ∈ R, 1 ≤ r.length ∧ r.length ≤ 60 ∧ ∀ x ∈ r, x < 60) : ((R.map ringL).map (·.length)).sum + (R.map ringL).length * 0 ≤ 16777216 := by
  have := sum_le (R.map ringL) 200 fun y hy => by
    obtain ⟨r, hr, rfl⟩ := List.mem_map.mp hy
    obtain ⟨_, h2, h3⟩ := h r hr
    have := ringL_len h2 h3
    omega
  rw [List.length_map] at this ⊢
  have : R.length * 200 ≤ 60 * 200 := Nat.mul_le_mul_right _ hR
  omega
theorem ringL_eq (r : List Nat) : ringL r = [40] ++ joinL [32] (r.map numL) ++ [41] := rfl
theorem move_text_ok {X : Xn → Hs → Prop} {n : Nat} {h : Hs} {m : List Nat} (hn : 5000 ≤ n) (P : Prm m) (hl : m.length ≤ 60) :
    Ev X (f_move_text n [rgA m] h) fun a h' => a = .str (S (mvL (longs (cyc m)))) ∧ Gm none h h' := by
  obtain ⟨hc, hr⟩ := cyc_facts P hl
  have hlc : (longs (cyc m)).length ≤ 60 := Nat.le_trans (by unfold longs; exact List.length_filter_le _ _) hc
  have hlr : ∀ r ∈ longs (cyc m), 1 ≤ r.length ∧ r.length ≤ 60 ∧ ∀ x ∈ r, x < 60 := fun r h => hr r (longs_all r h).1
  refine ev_body rfl ?_
  unfold d_move_text
  refine step_seq (fun s h' => ∃ p, s = [some (rgA m), some (.ref p), none, none, none] ∧ h'[p]? = some (.lst ((longs (cyc m)).map fun r => A.str (S (joinL [32] (r.map numL))))) ∧ Gm none h h') ?_ ?_
  · refine es_set ?_
    refine ev_lc ?_
    unfold itSeq
    rw [ev_bind, ev_call]
    show Ev _ (R.ok [rgA m] h) _
    rw [ev_ok]
    refine ⟨rfl, (cycles_in_ok hn P hl).mono fun a h1 z => ?_⟩
    obtain ⟨rfl, g1, e1⟩ := z
    dsimp only
    rw [e1]
    dsimp only
    rw [ev_ok]
    refine lc_longs (G := fun r => A.str (S (joinL [32] (r.map numL)))) (by omega) hc e1 (by show 2 < 5; decide) (fun r hrm h2 h' g' => ?_) (fun h' g' => ?_)
    · obtain ⟨_, r2, r3⟩ := hr r hrm
      exact ring_str hn r2 r3 (by show 3 < 5; decide) rfl
    · refine ⟨_, rfl, get_app, (g1.trans g').app⟩
  rintro s h' ⟨p, rfl, ep, g'⟩
  refine es_ret ?_
  unfold orTD
  rw [ev_bind]
  unfold methD
  rw [ev_bind]
  show Ev _ (R.ok (A.str "") h') _
  rw [ev_ok, tyA_str, if_pos rfl, ev_bind]
  unfold consD
  rw [ev_bind]
  refine ev_lc ?_
  have ei : itSeq (varD 1) n [some (rgA m), some (.ref p), none, none, none] h' = .ok (stepL p) h' := by
    unfold itSeq
    show (R.ok (A.ref p) h').bind _ = _
    rw [ok_bind]
    dsimp only
    rw [ep]
  rw [ei, ev_ok]
  refine lc_eachL (F := fun r => A.str (S (joinL [32] (r.map numL)))) (G := fun r => A.str (S (ringL r))) (by omega) (by omega) ep (by show 4 < 5; decide) (fun r hrm h2 g2 => ?_) (fun h2 g2 => ?_)
  · obtain ⟨_, r2, r3⟩ := hlr r hrm
    have q := nums_join r2 r3
    have e : joinedD [(conD (.str "(")), (un1 fmtA (varD 4)), (conD (.str ")"))] n ((wipeA [some (rgA m), some (.ref p), none, none, none] [4]).set 4 (some (.str (S (joinL [32] (r.map numL)))))) h2 = .ok (.str (S (ringL r))) h2 := by
      unfold joinedD
      rw [empty_S, glue1 (y := [40]) (by rw [← c_lp]; rfl) (by simp), glue1 (y := joinL [32] (r.map numL)) (show fmtA (.str (S (joinL [32] (r.map numL)))) h2 = _ from fmt_S (by omega)) (by simp; omega), glue1 (y := [41]) (by rw [← c_rp]; rfl) (by simp; omega), glue0]
      rfl
    rw [e, ev_ok]
    exact ⟨rfl, Gm.refl⟩
  · rw [ev_bind]
    show Ev _ (R.ok [] _) _
    rw [ev_ok, ev_ok]
    have ej : ((longs (cyc m)).map fun r => A.str (S (ringL r))) = ((longs (cyc m)).map ringL).map fun y => A.str (S y) := by rw [List.map_map]; rfl
    have tot := ringsL_len hlr
    have hfl : (longs (cyc m)).flatten.length ≤ 60 := by
      obtain ⟨rgs, _⟩ := cyc_ok P
      have hF := nodup_len m.length _ rgs.nd fun x hx => by
        obtain ⟨r, hr, hx⟩ := List.mem_flatten.mp hx
        exact (rgs.rg r hr).lt x hx
      have := (filter_flat (Rs := cyc m) (f := fun r => decide (1 < r.length))).length_le
      unfold longs
      omega
    rw [ej, c_em, join_ref get_app (rings_sum hlc hlr), ev_ok, join_rings]
    rw [tru_S (by omega)]
    have key : mvL (longs (cyc m)) = if ringsL (longs (cyc m)) = [] then [40, 41] else ringsL (longs (cyc m)) := by
      unfold mvL
      by_cases hz : longs (cyc m) = []
      · rw [if_pos hz, hz]; rfl
      · have : ringsL (longs (cyc m)) ≠ [] := by
          cases hq : longs (cyc m) with
          | nil => exact absurd hq hz
          | cons r R => rw [ringsL_cons]; unfold ringL; simp
        rw [if_neg hz, if_neg this]
    rw [key]
    by_cases hz : ringsL (longs (cyc m)) = []
    · simp only [hz, ne_eq, not_true, decide_false, if_true]
      rw [c_un]
      exact ⟨rfl, (g'.trans g2).app⟩
    · simp only [hz, ne_eq, not_false_eq_true, decide_true, if_false, ev_ok]
      exact ⟨trivial, (g'.trans g2).app⟩
theorem write_move_ok {X : Xn → Hs → Prop} {n : Nat} {h : Hs} {m : List Nat} (hn : 5000 ≤ n) (P : Prm m) (h1 : 1 ≤ m.length) (hl : m.length ≤ 24) :
    Ev X (f_write_move n [rgA m] h) fun a h' => a = .str (S (mvL (longs (cyc m)))) ∧ Gm none h h' := by
  refine ev_body rfl ?_
  unfold d_write_move
  refine step_seq (fun s h' => s = [some (rgA m)] ∧ Gm none h h') ?_ ?_
  · simp only [seqD, ifD, retD, retND, dropD, setD, nextD, varD, conD, bin2, un1, testD, boolR, notT, andT, orT, ifE, andV, orV, notV, tupD, lstD, cbD, nilD, consD, asgD, parD, nameG, tupG, consG, nilG, setItD, augD, augItD, methD, forD, whileD, lcD, lc2D, sliceD, someD, noneD, chain3, truD, truR, orTD, andTD, notTD, joinedD, glueD, lstRg, rg1, rg2, itRg1, itRg2, itSeq, itEn, dnewKD, newK, newL, maxKD, yesT, wipeA, cmpI, add_I, sub_I, negA, ok_bind, sizeLine_eq, Nat.reduceLeDiff, eq_I, isi_tup, isi_str, isi_int, isi_boo, len_tup, qlt, qle, qgt, qge, rg_if, ev_ok, ev_bind, ev_if, ev_call, es_nx, es_rt, es_seq, es_then, es_if, List.getElem?_cons_succ, List.getElem?_cons_zero, List.set_cons_succ, List.set_cons_zero, List.length_cons, List.length_nil, List.map_cons, List.map_nil, List.replicate, List.cons_append, List.nil_append, Option.bind_some, Option.map_some, Bool.not_true, Bool.not_false, Bool.false_eq_true, if_true, if_false, decide_true, decide_false, true_and, and_true, Nat.zero_add, Nat.add_zero, Nat.reduceAdd, Nat.reduceSub, reduceIte, Nat.sub_self, Nat.succ_sub_succ_eq_sub, Nat.add_one_sub_one]
    refine (is_any_move_ok hn P h1 hl).mono fun a h' z => ?_
    obtain ⟨rfl, z⟩ := z
    simp only [seqD, ifD, retD, retND, dropD, setD, nextD, varD, conD, bin2, un1, testD, boolR, notT, andT, orT, ifE, andV, orV, notV, tupD, lstD, cbD, nilD, consD, asgD, parD, nameG, tupG, consG, nilG, setItD, augD, augItD, methD, forD, whileD, lcD, lc2D, sliceD, someD, noneD, chain3, truD, truR, orTD, andTD, notTD, joinedD, glueD, lstRg, rg1, rg2, itRg1, itRg2, itSeq, itEn, dnewKD, newK, newL, maxKD, yesT, wipeA, cmpI, add_I, sub_I, negA, ok_bind, sizeLine_eq, Nat.reduceLeDiff, eq_I, isi_tup, isi_str, isi_int, isi_boo, len_tup, qlt, qle, qgt, qge, rg_if, ev_ok, ev_bind, ev_if, ev_call, es_nx, es_rt, es_seq, es_then, es_if, List.getElem?_cons_succ, List.getElem?_cons_zero, List.set_cons_succ, List.set_cons_zero, List.length_cons, List.length_nil, List.map_cons, List.map_nil, List.replicate, List.cons_append, List.nil_append, Option.bind_some, Option.map_some, Bool.not_true, Bool.not_false, Bool.false_eq_true, if_true, if_false, decide_true, decide_false, true_and, and_true, Nat.zero_add, Nat.add_zero, Nat.reduceAdd, Nat.reduceSub, reduceIte, Nat.sub_self, Nat.succ_sub_succ_eq_sub, Nat.add_one_sub_one]
    exact z
  rintro s h' ⟨rfl, g⟩
  simp only [seqD, ifD, retD, retND, dropD, setD, nextD, varD, conD, bin2, un1, testD, boolR, notT, andT, orT, ifE, andV, orV, notV, tupD, lstD, cbD, nilD, consD, asgD, parD, nameG, tupG, consG, nilG, setItD, augD, augItD, methD, forD, whileD, lcD, lc2D, sliceD, someD, noneD, chain3, truD, truR, orTD, andTD, notTD, joinedD, glueD, lstRg, rg1, rg2, itRg1, itRg2, itSeq, itEn, dnewKD, newK, newL, maxKD, yesT, wipeA, cmpI, add_I, sub_I, negA, ok_bind, sizeLine_eq, Nat.reduceLeDiff, eq_I, isi_tup, isi_str, isi_int, isi_boo, len_tup, qlt, qle, qgt, qge, rg_if, ev_ok, ev_bind, ev_if, ev_call, es_nx, es_rt, es_seq, es_then, es_if, List.getElem?_cons_succ, List.getElem?_cons_zero, List.set_cons_succ, List.set_cons_zero, List.length_cons, List.length_nil, List.map_cons, List.map_nil, List.replicate, List.cons_append, List.nil_append, Option.bind_some, Option.map_some, Bool.not_true, Bool.not_false, Bool.false_eq_true, if_true, if_false, decide_true, decide_false, true_and, and_true, Nat.zero_add, Nat.add_zero, Nat.reduceAdd, Nat.reduceSub, reduceIte, Nat.sub_self, Nat.succ_sub_succ_eq_sub, Nat.add_one_sub_one]
  refine (move_text_ok hn P (by omega)).mono fun a h2 z => ?_
  obtain ⟨rfl, z⟩ := z
  exact ⟨rfl, g.trans z⟩
theorem law_move_text_ok {X : Xn → Hs → Prop} {n : Nat} {h : Hs} {m : List Nat} (hn : 5000 ≤ n) (P : Prm m) (hl : m.length ≤ 60) :
    Ev X (f__law_move_text n [rgA m] h) fun a h' => a = .str (S (mvL (longs (cyc m)))) ∧ Gm none h h' := by
  obtain ⟨hc, hr⟩ := cyc_facts P hl
  have hlc : (longs (cyc m)).length ≤ 60 := Nat.le_trans (by unfold longs; exact List.length_filter_le _ _) hc
  have hlr : ∀ r ∈ longs (cyc m), 1 ≤ r.length ∧ r.length ≤ 60 ∧ ∀ x ∈ r, x < 60 := fun r h => hr r (longs_all r h).1
  refine ev_body rfl ?_
  unfold d__law_move_text
  refine step_seq (fun s h' => ∃ p, s = [some (rgA m), some (.ref p), none, none] ∧ h'[p]? = some (.lst ((longs (cyc m)).map rgA)) ∧ Gm none h h') ?_ ?_
  · refine es_set ?_
    refine ev_lc ?_
    unfold itSeq
    rw [ev_bind, ev_call]
    show Ev _ (R.ok [rgA m] h) _
    rw [ev_ok]
    refine ⟨rfl, (law_cycles_ok hn P hl).mono fun a h1 z => ?_⟩
    obtain ⟨rfl, g1, e1⟩ := z
    dsimp only
    rw [e1]
    dsimp only
    rw [ev_ok]
    refine lc_longs (G := rgA) (by omega) hc e1 (by show 2 < 4; decide) (fun r hrm h2 h' g' => ?_) (fun h' g' => ?_)
    · exact ⟨rfl, Gm.refl⟩
    · refine ⟨_, rfl, get_app, (g1.trans g').app⟩
  rintro s h' ⟨p, rfl, ep, g'⟩
  refine es_ret ?_
  unfold ifE
  rw [ev_bind]
  refine Ev.mono (Q := fun b h2 => b = decide (longs (cyc m) ≠ []) ∧ Gm none h' h2) ?_ fun b h2 z => ?_
  · unfold testD
    unfold boolR
    rw [ev_bind, ev_bin2]
    show Ev _ (R.ok (A.ref p) h') _
    rw [ev_ok]
    show Ev _ (newL [] h') _
    rw [newL, ev_ok, ne_nil (F := rgA) (D := rgD) (k := 1) ((Gm.refl (m := none)).app.get ep) get_app (fun f y _ => rg_toD f y) (fun y _ => rg_lay y) (by decide), ev_ok]
    exact ⟨rfl, Gm.refl.app⟩
  obtain ⟨rfl, g2⟩ := z
  by_cases hz : longs (cyc m) = []
  · simp only [hz, ne_eq, not_true, decide_false, Bool.false_eq_true, if_false]
    show Ev _ (R.ok (A.str "()") h2) _
    rw [ev_ok, c_un]
    exact ⟨rfl, g'.trans g2⟩
  simp only [hz, ne_eq, not_false_eq_true, decide_true, if_true]
  unfold methD
  rw [ev_bind]
  show Ev _ (R.ok (A.str "") h2) _
  rw [ev_ok, tyA_str, if_pos rfl, ev_bind]
  unfold consD
  rw [ev_bind]
  refine ev_lc ?_
  have ep2 := g2.get ep
  have ei : itSeq (varD 1) n [some (rgA m), some (.ref p), none, none] h2 = .ok (stepL p) h2 := by
    unfold itSeq
    show (R.ok (A.ref p) h2).bind _ = _
    rw [ok_bind]
    dsimp only
    rw [ep2]
  rw [ei, ev_ok]
  refine lc_eachL (F := rgA) (G := fun r => A.str (S (ringL r))) (by omega) (by omega) ep2 (by show 2 < 4; decide) (fun r hrm h3 g3 => ?_) (fun h3 g3 => ?_)
  · obtain ⟨_, r2, r3⟩ := hlr r hrm
    have q := nums_join r2 r3
    rw [ev_bin2, ev_bin2]
    show Ev _ (R.ok (A.str "(") h3) _
    rw [ev_ok]
    refine (ring_str hn r2 r3 (by show 3 < 4; decide) rfl).mono fun a h4 z => ?_
    obtain ⟨rfl, g4⟩ := z
    rw [c_lp, add_S (by simp; omega), ev_ok]
    show Ev _ (R.ok (A.str ")") h4) _
    rw [ev_ok, c_rp, add_S (by simp; omega), ev_ok]
    exact ⟨rfl, g4⟩
  · rw [ev_bind]
    show Ev _ (R.ok [] _) _
    rw [ev_ok, ev_ok]
    have ej : ((longs (cyc m)).map fun r => A.str (S (ringL r))) = ((longs (cyc m)).map ringL).map fun y => A.str (S y) := by rw [List.map_map]; rfl
    rw [ej, c_em, join_ref get_app (rings_sum hlc hlr), ev_ok, join_rings]
    unfold mvL
    rw [if_neg hz]
    exact ⟨rfl, (g'.trans (g2.trans g3)).app⟩
end Dn

set_option maxHeartbeats 4000000
namespace Dn
open PySem
/-! ### powers -/
def tellK (k : Nat) (r l : List Nat) (i : Nat) : List Nat := l.set (at0 r i) (at0 r ((i + k) % r.length))
def powR (k : Nat) (l r : List Nat) : List Nat := (List.range r.length).foldl (tellK k r) l
theorem tellK_len (k : Nat) (r : List Nat) : ∀ (is l : List Nat), (is.foldl (tellK k r) l).length = l.length := by
  intro is
  induction is with
  | nil => intro l; rfl
  | cons i is ih => intro l; rw [List.foldl_cons, ih]; exact List.length_set
theorem powR_len (k : Nat) (l r : List Nat) : (powR k l r).length = l.length := tellK_len k r _ l
theorem powF_len (k : Nat) : ∀ (Rs : List (List Nat)) (l : List Nat), (Rs.foldl (powR k) l).length = l.length := by
  intro Rs
  induction Rs with
  | nil => intro l; rfl
  | cons r Rs ih => intro l; rw [List.foldl_cons, ih, powR_len]
theorem tellK_get {k : Nat} {r l : List Nat} (hn : r.Nodup) (hl : ∀ i, i < r.length → at0 r i < l.length) : ∀ c, c ≤ r.length →
    (∀ i, i < c → at' ((List.range c).foldl (tellK k r) l) (at0 r i) = at0 r ((i + k) % r.length)) ∧ (∀ x, (∀ i, i < c → at0 r i ≠ x) → at' ((List.range c).foldl (tellK k r) l) x = at' l x)
  | 0, _ => ⟨fun i hi => absurd hi (Nat.not_lt_zero _), fun x _ => rfl⟩
  | c + 1, hk => by
    obtain ⟨h1, h2⟩ := tellK_get (k := k) hn hl c (by omega)
    have e : (List.range (c + 1)).foldl (tellK k r) l = tellK k r ((List.range c).foldl (tellK k r) l) c := by rw [List.range_succ, List.foldl_append]; rfl
    have hkl : at0 r c < ((List.range c).foldl (tellK k r) l).length := by rw [tellK_len]; exact hl c (by omega)
    rw [e]
    unfold tellK at *
    refine ⟨fun i hi => ?_, fun x hx => ?_⟩
    · by_cases z : i = c
      · subst z
        exact at_set_self hkl
      · have hne : at0 r c ≠ at0 r i := fun y => z (at0_inj hn (by omega) (by omega) y.symm)
        rw [at_set_ne hne]
        exact h1 i (by omega)
    · rw [at_set_ne (hx c (by omega))]
      exact h2 x fun i hi => hx i (by omega)
theorem powR_in {k : Nat} {r l : List Nat} (hn : r.Nodup) (hl : ∀ i, i < r.length → at0 r i < l.length) {i : Nat} (hi : i < r.length) : at' (powR k l r) (at0 r i) = at0 r ((i + k) % r.length) := (tellK_get hn hl r.length (Nat.le_refl _)).1 i hi
theorem powR_out {k : Nat} {r l : List Nat} (hn : r.Nodup) (hl : ∀ i, i < r.length → at0 r i < l.length) {x : Nat} (hx : x ∉ r) : at' (powR k l r) x = at' l x :=
  (tellK_get hn hl r.length (Nat.le_refl _)).2 x fun i hi z => hx (by rw [← z]; exact at0_mem hi)
theorem powF_out (k : Nat) : ∀ (Rs : List (List Nat)) (l : List Nat), Rs.flatten.Nodup → (∀ x ∈ Rs.flatten, x < l.length) → ∀ x, x ∉ Rs.flatten → at' (Rs.foldl (powR k) l) x = at' l x
  | [], l, _, _, x, _ => rfl
  | r :: Rs, l, hn, hl, x, hx => by
    rw [List.flatten_cons] at hn hl hx
    have hn' := List.nodup_append.mp hn
    have hr : ∀ i, i < r.length → at0 r i < l.length := fun i hi => hl _ (List.mem_append_left _ (at0_mem hi))
    rw [List.foldl_cons, powF_out k Rs (powR k l r) hn'.2.1 (fun y hy => by rw [powR_len]; exact hl y (List.mem_append_right _ hy)) x fun z => hx (List.mem_append_right _ z)]
    exact powR_out hn'.1 hr fun z => hx (List.mem_append_left _ z)
theorem powF_in (k : Nat) : ∀ (Rs : List (List Nat)) (l : List Nat), Rs.flatten.Nodup → (∀ x ∈ Rs.flatten, x < l.length) → ∀ r ∈ Rs, ∀ i, i < r.length → at' (Rs.foldl (powR k) l) (at0 r i) = at0 r ((i + k) % r.length)
  | [], l, _, _, r, h, _, _ => by cases h
  | r0 :: Rs, l, hn, hl, r, h, i, hi => by
    rw [List.flatten_cons] at hn hl
    have hn' := List.nodup_append.mp hn
    have hr0 : ∀ i, i < r0.length → at0 r0 i < l.length := fun i hi => hl _ (List.mem_append_left _ (at0_mem hi))
    have hl' : ∀ y ∈ Rs.flatten, y < (powR k l r0).length := fun y hy => by rw [powR_len]; exact hl y (List.mem_append_right _ hy)
    rw [List.foldl_cons]
    rcases List.mem_cons.mp h with rfl | h
    · rw [powF_out k Rs _ hn'.2.1 hl' _ fun z => hn'.2.2 _ (at0_mem hi) _ z rfl]
      exact powR_in hn'.1 hr0 hi
    · exact powF_in k Rs _ hn'.2.1 hl' r h i hi
theorem one_ring : ∀ {Rs : List (List Nat)} {r r' : List Nat} {x : Nat}, Rs.flatten.Nodup → r ∈ Rs → r' ∈ Rs → x ∈ r → x ∈ r' → r = r'
  | [], _, _, _, _, h, _, _, _ => by cases h
  | q :: Rs, r, r', x, hn, h, h', hx, hx' => by
    rw [List.flatten_cons] at hn
    have hn' := List.nodup_append.mp hn
    rcases List.mem_cons.mp h with e | h1
    · rcases List.mem_cons.mp h' with e' | h2
      · rw [e, e']
      · exact absurd rfl (hn'.2.2 x (by rw [← e]; exact hx) x (List.mem_flatten.mpr ⟨r', h2, hx'⟩))
    · rcases List.mem_cons.mp h' with e' | h2
      · exact absurd rfl (hn'.2.2 x (by rw [← e']; exact hx') x (List.mem_flatten.mpr ⟨r, h1, hx⟩))
      · exact one_ring hn'.2.1 h1 h2 hx hx'
theorem mod_shift {L i j k : Nat} (hi : i < L) (hj : j < L) (e : (i + k) % L = (j + k) % L) : i = j := by
  have a1 := Nat.div_add_mod (i + k) L
  have a2 := Nat.div_add_mod (j + k) L
  rw [e] at a1
  generalize (i + k) / L = u at a1
  generalize (j + k) / L = v at a2
  generalize (j + k) % L = c at a1 a2
  rcases Nat.lt_trichotomy u v with z | z | z
  · obtain ⟨d, rfl⟩ : ∃ d, v = u + d + 1 := ⟨v - u - 1, by omega⟩
    rw [Nat.mul_add, Nat.mul_add, Nat.mul_one] at a2
    omega
  · subst z; omega
  · obtain ⟨d, rfl⟩ : ∃ d, u = v + d + 1 := ⟨u - v - 1, by omega⟩
    rw [Nat.mul_add, Nat.mul_add, Nat.mul_one] at a1
    omega
def pow' (k : Nat) (m : List Nat) : List Nat := (cyc m).foldl (powR k) m
theorem pow_prm {m : List Nat} {k : Nat} (P : Prm m) : Prm (pow' k m) ∧ (pow' k m).length = m.length := by
  obtain ⟨rgs, cov⟩ := cyc_ok P
  have hlt : ∀ x ∈ (cyc m).flatten, x < m.length := fun x hx => by
    obtain ⟨r, hr, hx⟩ := List.mem_flatten.mp hx
    exact (rgs.rg r hr).lt x hx
  have hlen : (pow' k m).length = m.length := powF_len k _ _
  have val : ∀ x, x < m.length → ∃ r ∈ cyc m, ∃ i, i < r.length ∧ at0 r i = x ∧ at' (pow' k m) x = at0 r ((i + k) % r.length) := fun x hx => by
    obtain ⟨r, hr, hxr⟩ := List.mem_flatten.mp (cov x hx)
    obtain ⟨i, hi, e⟩ := mem_at0 hxr
    refine ⟨r, hr, i, hi, e, ?_⟩
    have := powF_in k (cyc m) m rgs.nd hlt r hr i hi
    rw [e] at this
    exact this
  refine ⟨⟨fun y hy => ?_, ?_⟩, hlen⟩
  · obtain ⟨x, hx, e⟩ := List.getElem_of_mem hy
    have hx2 : x < m.length := by omega
    obtain ⟨r, hr, i, hi, _, q⟩ := val x hx2
    rw [at_get hx] at q
    rw [← e, q, hlen]
    exact (rgs.rg r hr).lt _ (at0_mem (Nat.mod_lt _ (by omega)))
  · show List.Pairwise _ _
    rw [List.pairwise_iff_getElem]
    intro x y hx hy hxy e
    obtain ⟨r, hr, i, hi, ei, q⟩ := val x (by omega)
    obtain ⟨r', hr', j, hj, ej, q'⟩ := val y (by omega)
    rw [at_get hx] at q
    rw [at_get hy] at q'
    rw [q, q'] at e
    have m1 := at0_mem (q := r) (i := (i + k) % r.length) (Nat.mod_lt _ (by omega))
    have m2 := at0_mem (q := r') (i := (j + k) % r'.length) (Nat.mod_lt _ (by omega))
    rw [← e] at m2
    have er := one_ring rgs.nd hr hr' m1 m2
    subst er
    have e2 := at0_inj (rgs.rg r hr).nd (Nat.mod_lt _ (by omega)) (Nat.mod_lt _ (by omega)) e
    rw [mod_shift hi hj e2, ej] at ei
    omega
theorem mod_natK (i c k : Nat) : ((i : Int) + (c : Int)) % (k : Int) = (((i + c) % k : Nat) : Int) := by
  have e : ((i : Int) + (c : Int)) = ((i + c : Nat) : Int) := by omega
  rw [e]
  first
    | exact (Int.natCast_emod (i + c) k).symm
    | exact (Int.natCast_mod (i + c) k).symm
    | rfl
theorem pow_step {n i f k : Nat} {s : Sl} {h : Hs} {r l : List Nat} {T : Tl} (h1 : s[1]? = some (some (.int (k : Int)))) (h2 : s[2]? = some (some (.ref f))) (h3 : s[3]? = some (some (rgA r))) (h4 : s[4]? = some (some (.int (i : Int)))) (h5 : s[5]? = some (some (natA (at0 r i)))) (hi : i < r.length) (e : h[f]? = some (.lst (l.map natA))) (hx : at0 r i < l.length)
    (q : T.nx s (h.set f (.lst ((tellK k r l i).map natA)))) : EvS (setItD (varD 2) (varD 5) (bin2 ixA (varD 3) (bin2 (intA modI) (cbD bInt (consD (bin2 addA (varD 4) (varD 1)) nilD)) (cbD bLen (consD (varD 3) nilD)))) n s h) T := by
  have hk : 0 < r.length := by omega
  have hm : (i + k) % r.length < r.length := Nat.mod_lt _ hk
  unfold setItD
  rw [es_then, ev_bin2]
  unfold varD
  rw [h3]
  dsimp only
  rw [ev_ok, ev_bin2, ev_cb1, ev_bin2]
  rw [h4]
  dsimp only
  rw [ev_ok]
  rw [h1]
  dsimp only
  rw [ev_ok]
  rw [show addA (.int (i : Int)) (.int (k : Int)) h = .ok (.int ((i : Int) + (k : Int))) h from rfl, ev_ok, int_I, ev_ok, ev_cb1]
  rw [h3]
  dsimp only
  rw [ev_ok]
  show Ev _ (R.ok (A.int ((r.map natA).length : Int)) h) _
  rw [ev_ok, List.length_map, mod_I (by omega), ev_ok, mod_natK, ix_rg hm, ev_ok, es_then]
  rw [h2]
  dsimp only
  rw [ev_ok, es_then, h5]
  dsimp only
  rw [ev_ok]
  rw [show natA (at0 r i) = .int ((at0 r i : Nat) : Int) from rfl, setI_ref e (by rw [List.length_map]; exact hx)]
  dsimp only
  rw [es_nx]
  have e2 : (tellK k r l i).map natA = (l.map natA).set (at0 r i) (natA (at0 r ((i + k) % r.length))) := by unfold tellK; rw [List.map_set]
  rw [← e2]
  exact q
theorem power_ok {X : Xn → Hs → Prop} {n k : Nat} {h : Hs} {m : List Nat} (hn : 5000 ≤ n) (P : Prm m) (hl : m.length ≤ 60) :
    Ev X (f__law_power n [rgA m, .int (k : Int)] h) fun a h' => a = rgA (pow' k m) ∧ Gm none h h' := by
  obtain ⟨rgs, cov⟩ := cyc_ok P
  obtain ⟨hc, hcr⟩ := cyc_facts P hl
  have hlt : ∀ x ∈ (cyc m).flatten, x < m.length := fun x hx => by
    obtain ⟨r, hr, hx⟩ := List.mem_flatten.mp hx
    exact (rgs.rg r hr).lt x hx
  refine ev_body rfl ?_
  unfold d__law_power
  refine step_seq (fun s h' => s = [some (rgA m), some (.int (k : Int)), some (.ref h.length), none, none, none] ∧ h' = h ++ [.lst (m.map natA)]) ?_ ?_
  · refine es_set ?_
    rw [ev_cb1]
    show Ev _ (R.ok (rgA m) h) _
    rw [ev_ok]
    show Ev _ (newL (m.map natA) h) _
    rw [newL, ev_ok]
    exact ⟨rfl, rfl⟩
  rintro s h' ⟨rfl, rfl⟩
  have hf0 := get_app (h := h) (o := .lst (m.map natA))
  have g0 := (Gm.refl (m := none) (h := h)).app (o := .lst (m.map natA))
  generalize h ++ [.lst (m.map natA)] = h1 at hf0 g0
  have hlt0 := lt_of_get hf0
  refine step_seq (fun s h4 => (∃ a b c, s = [some (rgA m), some (.int (k : Int)), some (.ref h.length), a, b, c]) ∧ Gm none h h4 ∧ h4[h.length]? = some (.lst ((pow' k m).map natA))) ?_ ?_
  · unfold forD
    rw [es_then]
    unfold itSeq
    rw [ev_bind, ev_call]
    show Ev _ (R.ok [rgA m] h1) _
    rw [ev_ok]
    refine ⟨rfl, (law_cycles_ok hn P hl).mono fun a h2 z => ?_⟩
    obtain ⟨rfl, g2, e2⟩ := z
    have hf2 := g2.get hf0
    have G2 := g0.trans g2
    have hp : h1.length ≠ h.length := by omega
    have hp2 : h.length ≤ h1.length := by omega
    generalize h1.length = p at *
    dsimp only
    rw [e2]
    dsimp only
    rw [ev_ok]
    refine for_l (xs := (cyc m).map rgA) (by rw [List.length_map]; omega) (fun j s h4 => (∃ a b c, s = [some (rgA m), some (.int (k : Int)), some (.ref h.length), a, b, c]) ∧ Gm none h h4 ∧ h4[p]? = some (.lst ((cyc m).map rgA)) ∧ h4[h.length]? = some (.lst ((((cyc m).take j).foldl (powR k) m).map natA)))
      ⟨⟨_, _, _, rfl⟩, G2, e2, hf2⟩ (fun j s h4 z => z.2.2.1) ?_ ?_
    · rintro j s h4 hj ⟨⟨a, b, c, rfl⟩, g4, e4, gf4⟩
      rw [List.length_map] at hj
      have hrm : (cyc m)[j] ∈ cyc m := List.getElem_mem hj
      have hrl := hcr _ hrm
      have hll : (((cyc m).take j).foldl (powR k) m).length = m.length := powF_len k _ _
      have hst : ((cyc m).take (j + 1)).foldl (powR k) m = powR k (((cyc m).take j).foldl (powR k) m) (cyc m)[j] := by
        rw [take_snoc hj, List.foldl_append]; rfl
      generalize ((cyc m).take j).foldl (powR k) m = l at gf4 hll hst
      have hrx : ∀ i, i < (cyc m)[j].length → at0 (cyc m)[j] i < m.length := fun i hi => hlt _ (List.mem_flatten.mpr ⟨_, hrm, at0_mem hi⟩)
      generalize hr : (cyc m)[j] = r at hrl hst hrx
      refine ⟨[some (rgA m), some (.int (k : Int)), some (.ref h.length), some (rgA r), b, c], by rw [List.getElem_map, hr]; rfl, ?_⟩
      have ei2 : itEn (consD (varD 3) nilD) n [some (rgA m), some (.int (k : Int)), some (.ref h.length), some (rgA r), b, c] h4 = .ok (stepE (stepX (r.map natA))) h4 := rfl
      rw [es_then, ei2, ev_ok]
      refine for_ex (by rw [List.length_map]; omega) (fun i s h5 => (∃ b c, s = [some (rgA m), some (.int (k : Int)), some (.ref h.length), some (rgA r), b, c]) ∧ Gm none h h5 ∧ h5[p]? = some (.lst ((cyc m).map rgA)) ∧ h5[h.length]? = some (.lst (((List.range i).foldl (tellK k r) l).map natA)))
        ⟨⟨_, _, rfl⟩, g4, e4, gf4⟩ ?_ ?_
      · rintro i s h5 hi ⟨⟨b, c, rfl⟩, g5, e5, gf5⟩
        rw [List.length_map] at hi
        have hat : (r.map natA)[i]'(by rw [List.length_map]; exact hi) = natA (at0 r i) := by
          rw [List.getElem_map]
          unfold at0
          rw [List.getD_eq_getElem?_getD, List.getElem?_eq_getElem hi]; rfl
        refine ⟨[some (rgA m), some (.int (k : Int)), some (.ref h.length), some (rgA r), some (.int (i : Int)), some (natA (at0 r i))], by rw [hat]; rfl, ?_⟩
        refine pow_step rfl rfl rfl rfl rfl hi gf5 (by rw [tellK_len, hll]; exact hrx i hi) ?_
        refine ⟨⟨_, _, rfl⟩, g5.set (.inl (Nat.le_refl _)), ?_, ?_⟩
        · rw [List.getElem?_set_ne (by omega)]; exact e5
        · rw [get_set gf5, List.range_succ, List.foldl_append]
          rfl
      · rintro s h5 ⟨⟨b, c, rfl⟩, g5, e5, gf5⟩
        rw [List.length_map] at gf5
        refine ⟨⟨_, _, _, rfl⟩, g5, e5, ?_⟩
        rw [gf5]
        exact congrArg (fun z => some (AO.lst (z.map natA))) hst.symm
    · rintro s h4 ⟨⟨a, b, c, rfl⟩, g4, e4, gf4⟩
      rw [List.length_map, List.take_length] at gf4
      exact ⟨⟨_, _, _, rfl⟩, g4, gf4⟩
  rintro s h4 ⟨⟨a, b, c, rfl⟩, g4, gf4⟩
  simp only [seqD, ifD, retD, retND, dropD, setD, nextD, varD, conD, bin2, un1, testD, boolR, notT, andT, orT, ifE, andV, orV, notV, tupD, lstD, cbD, nilD, consD, asgD, parD, nameG, tupG, consG, nilG, setItD, augD, augItD, methD, forD, whileD, lcD, lc2D, sliceD, someD, noneD, chain3, truD, truR, orTD, andTD, notTD, joinedD, glueD, lstRg, rg1, rg2, itRg1, itRg2, itSeq, itEn, dnewKD, newK, newL, maxKD, yesT, wipeA, cmpI, add_I, sub_I, negA, ok_bind, sizeLine_eq, Nat.reduceLeDiff, eq_I, isi_tup, isi_str, isi_int, isi_boo, len_tup, qlt, qle, qgt, qge, rg_if, ev_ok, ev_bind, ev_if, ev_call, es_nx, es_rt, es_seq, es_then, es_if, List.getElem?_cons_succ, List.getElem?_cons_zero, List.set_cons_succ, List.set_cons_zero, List.length_cons, List.length_nil, List.map_cons, List.map_nil, List.replicate, List.cons_append, List.nil_append, Option.bind_some, Option.map_some, Bool.not_true, Bool.not_false, Bool.false_eq_true, if_true, if_false, decide_true, decide_false, true_and, and_true, Nat.zero_add, Nat.add_zero, Nat.reduceAdd, Nat.reduceSub, reduceIte, Nat.sub_self, Nat.succ_sub_succ_eq_sub, Nat.add_one_sub_one, tuple_ref gf4]
  exact ⟨rfl, g4⟩
end Dn

set_option maxHeartbeats 4000000
namespace Dn
open PySem
open TL (numL joinL)
/-! ### moves, right -/
theorem perm_map {α β : Type} {f : α → β} {ys zs : List β} (hp : ys.Perm zs) : ∀ l : List α, zs = l.map f → ∃ l' : List α, l'.Perm l ∧ ys = l'.map f := by
  induction hp with
  | nil =>
    intro l e
    cases l with
    | nil => exact ⟨[], List.Perm.refl _, rfl⟩
    | cons a l => cases e
  | @cons x l1 l2 _ ih =>
    intro l e
    cases l with
    | nil => cases e
    | cons a l =>
      injection e with e1 e2
      obtain ⟨l', p, q⟩ := ih l e2
      exact ⟨a :: l', List.Perm.cons a p, by rw [List.map_cons, q, e1]⟩
  | @swap x y l1 =>
    intro l e
    cases l with
    | nil => cases e
    | cons a l =>
      cases l with
      | nil => cases e
      | cons b l =>
        injection e with e1 e2
        injection e2 with e2 e3
        exact ⟨b :: a :: l, List.Perm.swap a b l, by rw [List.map_cons, List.map_cons, e1, e2, e3]⟩
  | @trans l1 l2 l3 _ _ ih1 ih2 =>
    intro l e
    obtain ⟨l', p, q⟩ := ih2 l e
    obtain ⟨l'', p2, q2⟩ := ih1 l' q
    exact ⟨l'', p2.trans p, q2⟩
theorem sl_from {xs : List A} {v : Nat} {h : Hs} (hv : v ≤ xs.length) : slA (.tup xs) (some (v : Int)) none h = .ok (.tup (xs.drop v)) h := by
  unfold slA cutA
  dsimp only
  rw [HT.sIx_nat, HT.sIx_none, Nat.min_eq_left hv, List.take_of_length_le (by rw [List.length_drop]; omega)]
theorem sl_upto {xs : List A} {v : Nat} {h : Hs} (hv : v ≤ xs.length) : slA (.tup xs) none (some (v : Int)) h = .ok (.tup (xs.take v)) h := by
  unfold slA cutA
  dsimp only
  rw [HT.sIx_nat, HT.sIx_none, Nat.min_eq_left hv, List.drop_zero, Nat.sub_zero]
theorem add_T {xs ys : List A} {h : Hs} (hl : xs.length + ys.length ≤ 16777216) : addA (.tup xs) (.tup ys) h = .ok (.tup (xs ++ ys)) h := by
  unfold addA
  dsimp only
  rw [if_pos (small_line hl)]
theorem eq_rg {neg : Bool} {r : List Nat} {h : Hs} : eqA neg (rgA r) (rgA r) h = .ok (.bl (!neg)) h := by
  refine eq_refl (d := rgD r) (rg_toD _ r) (rg_toD _ r) ?_
  obtain ⟨h1, h2⟩ := rg_lay r
  unfold SeqAt.shaped
  rw [h1, Bool.true_and, decide_eq_true_eq]
  omega
theorem turned_snoc {Rs Ls : List (List Nat)} {r : List Nat} {k : Nat} (h : Turned Rs Ls) (hk : k < r.length) : Turned (Rs ++ [rot k r]) (Ls ++ [r]) := by
  induction h with
  | nil => exact .cons hk .nil
  | cons hk' _ ih => exact .cons hk' ih
theorem turned_len {Rs Ls : List (List Nat)} (h : Turned Rs Ls) : Rs.length = Ls.length := by
  induction h with
  | nil => rfl
  | cons _ _ ih => rw [List.length_cons, List.length_cons, ih]
theorem turned_long {Rs Ls : List (List Nat)} (h : Turned Rs Ls) (g : ∀ r ∈ Ls, 2 ≤ r.length) : ∀ r ∈ Rs, 2 ≤ r.length := by
  induction h with
  | nil => intro r hr; cases hr
  | @cons r k Rs Ls hk _ ih =>
    intro x hx
    rcases List.mem_cons.mp hx with rfl | hx
    · rw [rot_len]; exact g r List.mem_cons_self
    · exact ih (fun y hy => g y (List.mem_cons_of_mem _ hy)) x hx
/-- READING A MOVE BACK: rings of m, the short ones left out, in any order and turned -/
theorem read_turned {X : Xn → Hs → Prop} {n wide : Nat} {h : Hs} {m : List Nat} {Rs Ls : List (List Nat)} (hn : 5000 ≤ n) (P : Prm m) (h1 : 1 ≤ m.length) (hw : m.length ≤ wide) (hw2 : wide ≤ 24) (hp : Ls.Perm (longs (cyc m))) (ht : Turned Rs Ls) :
    Ev X (f_read_move n [.str (S (mvL Rs)), .int (wide : Int)] h) fun a h' => a = rgA (m ++ (List.range wide).drop m.length) ∧ Gm none h h' := by
  obtain ⟨nd, lg, fx⟩ := long_nd P hp
  have fp := turned_flat ht
  have nd' := fp.nodup_iff.mpr nd
  have rg' := turned_rg ht fun r hr => (lg r hr).1
  have ln' := turned_long ht fun r hr => (lg r hr).2
  have lt' : ∀ x ∈ Rs.flatten, x < m.length := fun x hx => by
    obtain ⟨r, hr, hx⟩ := List.mem_flatten.mp hx
    exact (rg' r hr).lt x hx
  have hF := nodup_len m.length _ nd' lt'
  have hcnt := len_le_flat (R := Rs) fun r hr => by have := ln' r hr; omega
  have hlen : (mvL Rs).length ≤ 3000 := by
    have := ringsL_len (R := Rs) fun r hr => ⟨by have := ln' r hr; omega, by have := flat_le hr; omega, fun x hx => by have := (rg' r hr).lt x hx; omega⟩
    unfold mvL
    split
    · decide
    · omega
  refine (read_move_ok hn (by omega) hw2 hlen (sm_mv Rs) (by omega) ln' nd' fun x hx => by have := lt' x hx; omega).mono fun a h' z => ?_
  obtain ⟨rfl, g⟩ := z
  rw [told_is P hw rg' nd' fun x hx hn => fx x hx fun z => hn (fp.symm.subset z)]
  exact ⟨rfl, g⟩
theorem moves_right_ok {n : Nat} {h : Hs} {b k : Nat} (hn : 5000 ≤ n) (B : Bag h b k) (hk : k ≤ 60000) : Ev NoX (f__law_moves_right n [.ref b] h) fun a h' => a = .bl true ∧ Bag h' b (k + 200) ∧ Gm (some b) h h' := by
  have hb := B.lt
  refine ev_body rfl ?_
  unfold d__law_moves_right
  refine step_seq (fun s h' => ∃ p : Nat, 1 ≤ p ∧ p ≤ 24 ∧ s = [some (.ref b), some (.int (p : Int)), none, none, none, none, none, none, none, none, none] ∧ Bag h' b (k + 1) ∧ Gm (some b) h h') ?_ ?_
  · refine es_set ?_
    rw [ev_bin2]
    show Ev _ (R.ok (A.int 1) h) _
    rw [ev_ok, ev_call]
    show Ev _ (R.ok [A.ref b, A.int 24] h) _
    rw [ev_ok]
    refine ⟨rfl, (grab_ok (t := 24) B (by omega) (by decide) (log_nat (by decide))).mono fun x h1 q1 => ?_⟩
    obtain ⟨u, rfl, hu, B1, g1⟩ := q1
    refine ⟨u + 1, by omega, by omega, ?_, B1, g1⟩
    rw [show ((u + 1 : Nat) : Int) = 1 + (u : Int) by omega]
    rfl
  rintro s h' ⟨p, hp1, hp2, rfl, B1, g1⟩
  refine step_seq (fun s h2 => ∃ m, Prm m ∧ m.length = p ∧ s = [some (.ref b), some (.int (p : Int)), some (rgA m), none, none, none, none, none, none, none, none] ∧ Bag h2 b (k + 25) ∧ Gm (some b) h h2) ?_ ?_
  · refine es_set ?_
    rw [ev_call]
    show Ev _ (R.ok [A.ref b, A.int (p : Int)] h') _
    rw [ev_ok]
    refine ⟨rfl, (move_drawn_ok hn B1 (by omega) hp1 hp2).mono fun x h2 q => ?_⟩
    obtain ⟨m, rfl, P, hm, B2, g2⟩ := q
    exact ⟨m, P, hm, rfl, B2.weak (by omega), g1.trans g2⟩
  rintro s h2 ⟨m0, P0, hm0, rfl, B2, g2⟩
  refine step_seq (fun s h3 => ∃ m, Prm m ∧ m.length = p ∧ s = [some (.ref b), some (.int (p : Int)), some (rgA m), none, none, none, none, none, none, none, none] ∧ Bag h3 b (k + 27) ∧ Gm (some b) h h3) ?_ ?_
  · unfold ifD
    rw [es_then]
    unfold testD boolR
    rw [ev_bind, ev_bin2, ev_call]
    show Ev _ (R.ok [A.ref b, A.int 3] h2) _
    rw [ev_ok]
    refine ⟨rfl, (grab_ok (t := 3) B2 (by omega) (by decide) (log_nat (by decide))).mono fun x h3 q => ?_⟩
    obtain ⟨u, rfl, hu, B3, g3⟩ := q
    show Ev _ (R.ok (A.int 0) h3) _
    rw [ev_ok, eq_I, ev_ok]
    by_cases hz : (u : Int) = 0
    · simp only [hz, decide_true, Bool.false_eq_true, if_false]
      rw [ev_ok]
      simp only [if_true]
      refine es_set ?_
      rw [ev_call]
      unfold consD
      rw [ev_bind]
      show Ev _ (R.ok (rgA m0) h3) _
      rw [ev_ok, ev_bind, ev_bind, ev_call, ev_bind]
      show Ev _ (R.ok (A.ref b) h3) _
      rw [ev_ok, ev_bind, ev_bind]
      show Ev _ (newL [A.int 0, A.int 2, A.int 3, A.int 6] h3) _
      rw [newL, ev_ok]
      rw [ev_bind]
      show Ev _ (R.ok [] _) _
      rw [ev_ok, ev_ok, ev_ok]
      have hb3 := B3.lt
      refine ⟨rfl, (one_of_ok (B3.keep Gm.refl.app) (by omega) get_app (by omega) (by simp) (by simp)).mono fun a h4 q => ?_⟩
      obtain ⟨⟨v, hv⟩, B4, g4⟩ := q
      have hc : ∃ c : Nat, a = .int (c : Int) := by
        have hm := List.mem_of_getElem? hv
        simp only [List.mem_cons, List.not_mem_nil, or_false] at hm
        rcases hm with rfl | rfl | rfl | rfl
        · exact ⟨0, rfl⟩
        · exact ⟨2, rfl⟩
        · exact ⟨3, rfl⟩
        · exact ⟨6, rfl⟩
      obtain ⟨c, rfl⟩ := hc
      rw [ev_bind]
      show Ev _ (R.ok [] _) _
      rw [ev_ok, ev_ok, ev_ok]
      refine ⟨rfl, (power_ok hn P0 (by omega)).mono fun a h5 q => ?_⟩
      obtain ⟨rfl, g5⟩ := q
      obtain ⟨P', hl'⟩ := pow_prm (k := c) P0
      exact ⟨_, P', by omega, rfl, (B4.keep g5).weak (by omega), g2.trans (g3.trans ((Gm.weak Gm.refl.app).trans (g4.trans g5.weak)))⟩
    · simp only [hz, decide_false, Bool.false_eq_true, if_false]
      rw [ev_ok]
      simp only [Bool.false_eq_true, if_false, nextD, es_nx]
      exact ⟨m0, P0, hm0, rfl, B3.weak (by omega), g2.trans g3⟩
  rintro s h3 ⟨m, P, rfl, rfl, B3, g3⟩
  clear P0 hm0 g2 B2 B1 g1
  have hl60 : m.length ≤ 60 := by omega
  refine step_seq (fun s h4 => s = [some (.ref b), some (.int (m.length : Int)), some (rgA m), some (.str (S (mvL (longs (cyc m))))), none, none, none, none, none, none, none] ∧ Gm none h3 h4) ?_ ?_
  · refine es_set ?_
    rw [ev_call]
    show Ev _ (R.ok [rgA m] h3) _
    rw [ev_ok]
    refine ⟨rfl, (law_move_text_ok hn P hl60).mono fun a h4 q => ?_⟩
    obtain ⟨rfl, g4⟩ := q
    exact ⟨rfl, g4⟩
  rintro s h4 ⟨rfl, g4⟩
  have lone : ∀ r ∈ longs (cyc m), 0 < r.length := fun r hr => by have := (longs_all r hr).2; omega
  refine step_seq (fun s h5 => s = [some (.ref b), some (.int (m.length : Int)), some (rgA m), some (.str (S (mvL (longs (cyc m))))), none, none, none, none, none, none, none] ∧ Gm none h3 h5) ?_ ?_
  · unfold ifD orT testD boolR
    rw [es_then, ev_bind, ev_bind, ev_bin2, ev_call]
    show Ev _ (R.ok [rgA m] h4) _
    rw [ev_ok]
    refine ⟨rfl, (write_move_ok hn P hp1 hp2).mono fun a h5 q => ?_⟩
    obtain ⟨rfl, g5⟩ := q
    show Ev _ (R.ok (A.str (S (mvL (longs (cyc m))))) h5) _
    rw [ev_ok, eq_S (sm_mv _) (sm_mv _), ev_ok]
    simp only [decide_true, Bool.not_true, if_true]
    rw [ev_ok]
    simp only [Bool.false_eq_true, if_false]
    rw [ev_bind, ev_bin2, ev_call]
    show Ev _ (R.ok [A.str (S (mvL (longs (cyc m)))), A.int (m.length : Int)] h5) _
    rw [ev_ok]
    refine ⟨rfl, (read_turned hn P hp1 (Nat.le_refl _) hp2 (List.Perm.refl _) (turned_refl lone)).mono fun a h6 q => ?_⟩
    obtain ⟨rfl, g6⟩ := q
    rw [List.drop_eq_nil_of_le (by rw [List.length_range]; exact Nat.le_refl _), List.append_nil]
    show Ev _ (R.ok (rgA m) h6) _
    rw [ev_ok, eq_rg, ev_ok]
    simp only [Bool.not_true]
    rw [ev_ok]
    simp only [Bool.false_eq_true, if_false, nextD, es_nx]
    exact ⟨trivial, g4.trans (g5.trans g6)⟩
  rintro s h5 ⟨rfl, g5⟩
  obtain ⟨hc, hcr⟩ := cyc_facts P hl60
  have hlc : (longs (cyc m)).length ≤ 60 := Nat.le_trans (by unfold longs; exact List.length_filter_le _ _) hc
  have B5 := B3.keep g5
  have g5 := g3.trans g5.weak
  refine step_seq (fun s h6 => ∃ (r : Nat) (Ls : List (List Nat)), Ls.Perm (longs (cyc m)) ∧ s = [some (.ref b), some (.int (m.length : Int)), some (rgA m), some (.str (S (mvL (longs (cyc m))))), some (.ref r), none, none, none, none, none, none] ∧ h6[r]? = some (.lst (Ls.map rgA)) ∧ r ≠ b ∧ Bag h6 b (k + 90) ∧ Gm (some b) h h6) ?_ ?_
  · refine es_set ?_
    rw [ev_call]
    unfold consD
    rw [ev_bind]
    show Ev _ (R.ok (A.ref b) h5) _
    rw [ev_ok, ev_bind, ev_bind]
    refine ev_lc ?_
    unfold itSeq
    rw [ev_bind, ev_call]
    show Ev _ (R.ok [rgA m] h5) _
    rw [ev_ok]
    refine ⟨rfl, (law_cycles_ok hn P hl60).mono fun a h6 z => ?_⟩
    obtain ⟨rfl, g6, e6⟩ := z
    have hlt6 := lt_of_get e6
    dsimp only
    rw [e6]
    dsimp only
    rw [ev_ok]
    refine lc_longs (G := rgA) (by omega) hc e6 (by show 6 < 11; decide) (fun r hrm h2 h' g' => ⟨rfl, Gm.refl⟩) (fun h7 g7 => ?_)
    rw [ev_bind]
    show Ev _ (R.ok [] _) _
    rw [ev_ok, ev_ok, ev_ok]
    have hb5 := B5.lt
    refine ⟨rfl, (mixed_ok hn (B5.keep ((g6.trans g7).app (o := .lst ((longs (cyc m)).map rgA)))) (by omega) get_app (by rw [List.length_map]; omega)).mono fun a h8 q => ?_⟩
    obtain ⟨r, ys, rfl, pys, er, hr, B8, g8⟩ := q
    obtain ⟨Ls, pL, rfl⟩ := perm_map pys _ rfl
    rw [List.length_map] at B8
    have hlen7 := g7.1
    rw [List.length_append] at hr
    exact ⟨r, Ls, pL, rfl, er, by omega, B8.weak (by omega), g5.trans ((g6.trans g7).app.weak.trans g8)⟩
  rintro s h6 ⟨r, Ls, pL, rfl, er, hrb, B6, g6⟩
  have hLl : Ls.length ≤ 60 := by rw [pL.length_eq]; exact hlc
  have Ll : ∀ x ∈ Ls, 1 ≤ x.length ∧ x.length ≤ 60 ∧ (∀ y ∈ x, y < 60) ∧ 2 ≤ x.length := fun x hx => by
    obtain ⟨q1, q2⟩ := longs_all x (pL.subset hx)
    obtain ⟨a1, a2, a3⟩ := hcr x q1
    exact ⟨a1, a2, a3, q2⟩
  refine step_seq (fun s h7 => s = [some (.ref b), some (.int (m.length : Int)), some (rgA m), some (.str (S (mvL (longs (cyc m))))), some (.ref r), some (.ref h6.length), none, none, none, none, none] ∧ h7 = h6 ++ [.lst []]) ?_ ?_
  · simp only [seqD, ifD, retD, retND, dropD, setD, nextD, varD, conD, bin2, un1, testD, boolR, notT, andT, orT, ifE, andV, orV, notV, tupD, lstD, cbD, nilD, consD, asgD, parD, nameG, tupG, consG, nilG, setItD, augD, augItD, methD, forD, whileD, lcD, lc2D, sliceD, someD, noneD, chain3, truD, truR, orTD, andTD, notTD, joinedD, glueD, lstRg, rg1, rg2, itRg1, itRg2, itSeq, itEn, dnewKD, newK, newL, maxKD, yesT, wipeA, cmpI, add_I, sub_I, negA, ok_bind, sizeLine_eq, Nat.reduceLeDiff, eq_I, isi_tup, isi_str, isi_int, isi_boo, len_tup, qlt, qle, qgt, qge, rg_if, ev_ok, ev_bind, ev_if, ev_call, es_nx, es_rt, es_seq, es_then, es_if, List.getElem?_cons_succ, List.getElem?_cons_zero, List.set_cons_succ, List.set_cons_zero, List.length_cons, List.length_nil, List.map_cons, List.map_nil, List.replicate, List.cons_append, List.nil_append, Option.bind_some, Option.map_some, Bool.not_true, Bool.not_false, Bool.false_eq_true, if_true, if_false, decide_true, decide_false, true_and, and_true, Nat.zero_add, Nat.add_zero, Nat.reduceAdd, Nat.reduceSub, reduceIte, Nat.sub_self, Nat.succ_sub_succ_eq_sub, Nat.add_one_sub_one, and_self]
  rintro s h7 ⟨rfl, rfl⟩
  have er7 := (Gm.refl (m := none)).app (o := .lst []) |>.get er
  have eq7 := get_app (h := h6) (o := .lst [])
  have B7 := B6.keep (Gm.refl.app (o := .lst []))
  have g7 := g6.trans (Gm.refl.app (o := .lst [])).weak
  have hlt6 := lt_of_get er
  have hbl := B6.lt
  have hh6 := g6.1
  have hb0 := B.lt
  have hqr : h6.length ≠ r := by omega
  have hqb : h6.length ≠ b := by omega
  have hqh : h.length ≤ h6.length := hh6
  generalize h6 ++ [.lst []] = h7 at er7 eq7 B7 g7
  generalize h6.length = q at *
  refine step_seq (fun s h8 => (∃ a c, s = [some (.ref b), some (.int (m.length : Int)), some (rgA m), some (.str (S (mvL (longs (cyc m))))), some (.ref r), some (.ref q), a, c, none, none, none]) ∧ (∃ Rs, Turned Rs Ls ∧ h8[q]? = some (.lst (Rs.map fun r => A.str (S (ringL r))))) ∧ Bag h8 b (k + 160) ∧ Gm (some b) h h8) ?_ ?_
  · unfold forD
    rw [es_then]
    have ei : itSeq (varD 4) n [some (.ref b), some (.int (m.length : Int)), some (rgA m), some (.str (S (mvL (longs (cyc m))))), some (.ref r), some (.ref q), none, none, none, none, none] h7 = .ok (stepL r) h7 := by
      unfold itSeq
      show (R.ok (A.ref r) h7).bind _ = _
      rw [ok_bind]
      dsimp only
      rw [er7]
    rw [ei, ev_ok]
    refine for_l (xs := Ls.map rgA) (by rw [List.length_map]; omega) (fun j s h8 => j ≤ Ls.length ∧ (∃ a c, s = [some (.ref b), some (.int (m.length : Int)), some (rgA m), some (.str (S (mvL (longs (cyc m))))), some (.ref r), some (.ref q), a, c, none, none, none]) ∧ h8[r]? = some (.lst (Ls.map rgA)) ∧ (∃ Rs, Turned Rs (Ls.take j) ∧ h8[q]? = some (.lst (Rs.map fun r => A.str (S (ringL r))))) ∧ Bag h8 b (k + 90 + j) ∧ Gm (some b) h h8)
      ⟨Nat.zero_le _, ⟨_, _, rfl⟩, er7, ⟨[], .nil, eq7⟩, B7, g7⟩ (fun j s h8 z => z.2.2.1) ?_ ?_
    · rintro j s h8 hj ⟨_, ⟨a, c, rfl⟩, er8, ⟨Rs, tR, eq8⟩, B8, g8⟩
      rw [List.length_map] at hj
      obtain ⟨r1, r2, r3, _⟩ := Ll _ (List.getElem_mem hj)
      have htk := take_snoc hj
      have hRl := turned_len tR
      rw [List.length_take] at hRl
      rw [List.getElem_map]
      generalize Ls[j] = y at *
      refine ⟨[some (.ref b), some (.int (m.length : Int)), some (rgA m), some (.str (S (mvL (longs (cyc m))))), some (.ref r), some (.ref q), some (rgA y), c, none, none, none], rfl, ?_⟩
      refine step_seq (fun s h9 => ∃ v : Nat, v < y.length ∧ s = [some (.ref b), some (.int (m.length : Int)), some (rgA m), some (.str (S (mvL (longs (cyc m))))), some (.ref r), some (.ref q), some (rgA y), some (.int (v : Int)), none, none, none] ∧ Bag h9 b (k + 90 + j + 1) ∧ Gm (some b) h8 h9) ?_ ?_
      · refine es_set ?_
        rw [ev_call]
        show Ev _ (R.ok [A.ref b, A.int ((y.map natA).length : Int)] h8) _
        rw [ev_ok, List.length_map]
        refine ⟨rfl, (grab_ok B8 (by omega) r1 (log_nat (by omega))).mono fun a h9 z => ?_⟩
        obtain ⟨v, rfl, hv, B9, g9⟩ := z
        exact ⟨v, hv, rfl, B9, g9⟩
      rintro s h9 ⟨v, hv, rfl, B9, g9⟩
      have er9 := g9.get er8 (by simp; exact hrb)
      have eq9 := g9.get eq8 (by simp; exact hqb)
      unfold dropD
      rw [es_then]
      unfold methD
      rw [ev_bind]
      show Ev _ (R.ok (A.ref q) h9) _
      rw [ev_ok, tyA_ref eq9, if_pos rfl, ev_bind]
      unfold consD
      rw [ev_bind, ev_bin2, ev_bin2]
      show Ev _ (R.ok (A.str "(") h9) _
      rw [ev_ok]
      have ef : bin2 addA (sliceD (varD 6) (someD (varD 7)) noneD) (sliceD (varD 6) noneD (someD (varD 7))) n [some (.ref b), some (.int (m.length : Int)), some (rgA m), some (.str (S (mvL (longs (cyc m))))), some (.ref r), some (.ref q), some (rgA y), some (.int (v : Int)), none, none, none] h9 = .ok (rgA (rot v y)) h9 := by
        unfold bin2
        show (slA (rgA y) (some (v : Int)) none h9).bind _ = _
        unfold rgA
        rw [sl_from (by rw [List.length_map]; omega), ok_bind]
        show (slA (rgA y) none (some (v : Int)) h9).bind _ = _
        unfold rgA
        rw [sl_upto (by rw [List.length_map]; omega), ok_bind, add_T (by rw [List.length_drop, List.length_take, List.length_map]; omega)]
        unfold rot
        rw [List.map_append, List.map_drop, List.map_take]
      refine (ring_str hn (by rw [rot_len]; exact r2) (fun x hx => r3 x ((rot_perm v y).subset hx)) (by show 10 < 11; decide) ef).mono fun a h10 z => ?_
      obtain ⟨rfl, g10⟩ := z
      have q1 := nums_join (r := rot v y) (by rw [rot_len]; exact r2) (fun x hx => r3 x ((rot_perm v y).subset hx))
      rw [rot_len] at q1
      rw [c_lp, add_S (by simp; omega), ev_ok]
      show Ev _ (R.ok (A.str ")") h10) _
      rw [ev_ok, c_rp, add_S (by simp; omega), ev_ok, ev_bind]
      show Ev _ (R.ok [] _) _
      rw [ev_ok, ev_ok]
      have er10 := g10.get er9
      have eq10 := g10.get eq9
      rw [app_ref eq10 (by rw [List.length_map]; omega), ev_ok, es_nx]
      refine ⟨hj, ⟨_, _, rfl⟩, ?_, ⟨Rs ++ [rot v y], ?_, ?_⟩, ?_, (g8.trans (g9.trans g10.weak)).set (.inl hqh)⟩
      · rw [List.getElem?_set_ne hqr]; exact er10
      · rw [htk]; exact turned_snoc tR hv
      · rw [get_set eq10, List.map_append]; rfl
      · have B10 := B9.keep g10
        obtain ⟨x, y', z, eb, w⟩ := B10
        exact ⟨x, y', z, by rw [List.getElem?_set_ne hqb]; exact eb, w.1, w.2.1, w.2.2.1, w.2.2.2.1, by omega⟩
    · rintro s h8 ⟨_, ⟨a, c, rfl⟩, er8, ⟨Rs, tR, eq8⟩, B8, g8⟩
      rw [List.length_map] at tR B8
      rw [List.take_length] at tR
      exact ⟨⟨_, _, rfl⟩, ⟨Rs, tR, eq8⟩, B8.weak (by omega), g8⟩
  rintro s h8 ⟨⟨a, c, rfl⟩, ⟨Rs, tR, eq8⟩, B8, g8⟩
  have hRl := turned_len tR
  have tl := turned_long tR fun x hx => (Ll x hx).2.2.2
  have Rl : ∀ x ∈ Rs, 1 ≤ x.length ∧ x.length ≤ 60 ∧ ∀ y ∈ x, y < 60 := by
    have fp := turned_flat tR
    have rg' := turned_rg tR fun x hx => ((long_nd P pL).2.1 x hx).1
    intro x hx
    have := nodup_len m.length x (rg' x hx).nd (rg' x hx).lt
    exact ⟨by have := tl x hx; omega, by omega, fun y hy => by have := (rg' x hx).lt y hy; omega⟩
  refine step_seq (fun s h9 => s = [some (.ref b), some (.int (m.length : Int)), some (rgA m), some (.str (S (mvL (longs (cyc m))))), some (.ref r), some (.ref q), a, c, some (.str (S (mvL Rs))), none, none] ∧ Gm none h8 h9) ?_ ?_
  · refine es_set ?_
    unfold ifE
    rw [ev_bind]
    refine Ev.mono (Q := fun b h2 => b = decide (Rs ≠ []) ∧ Gm none h8 h2) ?_ fun b h2 z => ?_
    · unfold testD
      unfold boolR
      rw [ev_bind, ev_bin2]
      show Ev _ (R.ok (A.ref q) h8) _
      rw [ev_ok]
      show Ev _ (newL [] h8) _
      rw [newL, ev_ok, ne_nil (F := fun r => A.str (S (ringL r))) (D := fun r => .str (S (ringL r))) (k := 0) ((Gm.refl (m := none)).app.get eq8) get_app (fun f y _ => rfl) (fun y _ => st_lay (sm_ring y)) (by decide), ev_ok]
      exact ⟨rfl, Gm.refl.app⟩
    obtain ⟨rfl, g2⟩ := z
    by_cases hz : Rs = []
    · simp only [hz, ne_eq, not_true, decide_false, Bool.false_eq_true, if_false]
      show Ev _ (R.ok (A.str "()") h2) _
      rw [ev_ok, c_un]
      exact ⟨rfl, g2⟩
    simp only [hz, ne_eq, not_false_eq_true, decide_true, if_true]
    unfold methD
    rw [ev_bind]
    show Ev _ (R.ok (A.str "") h2) _
    rw [ev_ok, tyA_str, if_pos rfl, ev_bind]
    show Ev _ (R.ok [A.ref q] h2) _
    rw [ev_ok]
    have ej : (Rs.map fun r => A.str (S (ringL r))) = (Rs.map ringL).map fun y => A.str (S y) := by rw [List.map_map]; rfl
    have eq2 := g2.get eq8
    rw [ej] at eq2
    rw [c_em, join_ref (sep := []) eq2 (rings_sum (by omega) Rl), ev_ok, join_rings]
    unfold mvL
    rw [if_neg hz]
    exact ⟨rfl, g2⟩
  rintro s h9 ⟨rfl, g9⟩
  have B9 := B8.keep g9
  have g9 := g8.trans g9.weak
  refine step_seq (fun s h10 => ∃ w : Nat, m.length ≤ w ∧ w ≤ 24 ∧ s = [some (.ref b), some (.int (m.length : Int)), some (rgA m), some (.str (S (mvL (longs (cyc m))))), some (.ref r), some (.ref q), a, c, some (.str (S (mvL Rs))), some (.int (w : Int)), none] ∧ Bag h10 b (k + 200) ∧ Gm (some b) h h10) ?_ ?_
  · refine es_set ?_
    rw [ev_bin2]
    show Ev _ (R.ok (A.int (m.length : Int)) h9) _
    rw [ev_ok, ev_call]
    show Ev _ (R.ok [A.ref b, A.int (25 - (m.length : Int))] h9) _
    rw [ev_ok, show (25 : Int) - (m.length : Int) = ((25 - m.length : Nat) : Int) by omega]
    refine ⟨rfl, (grab_ok B9 (by omega) (by omega) (log_nat (by omega))).mono fun x h10 z => ?_⟩
    obtain ⟨u, rfl, hu, B10, g10⟩ := z
    refine ⟨m.length + u, by omega, by omega, ?_, B10.weak (by omega), g9.trans g10⟩
    rw [show ((m.length + u : Nat) : Int) = (m.length : Int) + (u : Int) by omega]
    rfl
  rintro s h10 ⟨w, hw1, hw2, rfl, B10, g10⟩
  refine es_ret ?_
  unfold andV
  rw [ev_bind, ev_bin2, ev_call]
  show Ev _ (R.ok [A.str (S (mvL Rs)), A.int (m.length : Int)] h10) _
  rw [ev_ok]
  refine ⟨rfl, (read_turned hn P hp1 (Nat.le_refl _) hp2 pL tR).mono fun x h11 z => ?_⟩
  obtain ⟨rfl, g11⟩ := z
  rw [List.drop_eq_nil_of_le (by rw [List.length_range]; exact Nat.le_refl _), List.append_nil]
  show Ev _ (R.ok (rgA m) h11) _
  rw [ev_ok, eq_rg, ev_ok]
  simp only [Bool.not_false]
  rw [ev_bin2, ev_call]
  show Ev _ (R.ok [A.str (S (mvL Rs)), A.int (w : Int)] h11) _
  rw [ev_ok]
  refine ⟨rfl, (read_turned hn P hp1 hw1 hw2 pL tR).mono fun x h12 z => ?_⟩
  obtain ⟨rfl, g12⟩ := z
  rw [ev_bin2]
  show Ev _ (R.ok (rgA m) h12) _
  rw [ev_ok]
  have er : tupRg (rg2 (varD 1) (varD 9)) n [some (.ref b), some (.int (m.length : Int)), some (rgA m), some (.str (S (mvL (longs (cyc m))))), some (.ref r), some (.ref q), a, c, some (.str (S (mvL Rs))), some (.int (w : Int)), none] h12 = .ok (rgA ((List.range w).drop m.length)) h12 := by
    show (R.ok ((m.length : Int), (w : Int)) h12).bind _ = _
    rw [ok_bind]
    dsimp only
    have ok : rgOk (m.length : Int) (w : Int) = true := by
      unfold rgOk
      rw [Bool.and_eq_true, Bool.and_eq_true]
      exact ⟨Nat.blt_eq.mpr (by omega), Nat.blt_eq.mpr (by omega), Nat.ble_eq_true_of_le (by omega)⟩
    rw [if_pos ok]
    unfold rgL rgA
    congr 2
    refine List.ext_getElem? fun i => ?_
    rw [List.getElem?_map, List.getElem?_map, List.getElem?_drop]
    by_cases hi : i < w - m.length
    · rw [List.getElem?_eq_getElem (by rw [List.length_range]; omega), List.getElem?_eq_getElem (by rw [List.length_range]; omega), List.getElem_range, List.getElem_range]
      show some (A.int ((m.length : Int) + (i : Nat))) = some (A.int ((m.length + i : Nat) : Int))
      congr 2
    · rw [List.getElem?_eq_none (by rw [List.length_range]; omega), List.getElem?_eq_none (by rw [List.length_range]; omega)]
      rfl
  rw [er, ev_ok]
  have ea : addA (rgA m) (rgA ((List.range w).drop m.length)) h12 = .ok (rgA (m ++ (List.range w).drop m.length)) h12 := by
    unfold rgA
    rw [add_T (by rw [List.length_map, List.length_map, List.length_drop, List.length_range]; omega), List.map_append]
  rw [ea, ev_ok, eq_rg]
  exact ⟨rfl, B10.keep (g11.trans g12), g10.trans (g11.trans g12).weak⟩
end Dn

set_option maxHeartbeats 4000000
namespace Dn
open PySem
open TL (numL joinL)
/-! ### the bag at the start -/
theorem pow585 {h : Hs} : ∃ t : Int, 0 < t ∧ intA powI (.int 10) (.int 45) h = .ok (.int 1000000000000000000000000000000000000000000000) h ∧ intA powI (.int 1000000000000000000000000000000000000000000000) (.int 13) h = .ok (.int t) h := by
  have e1 : powI 10 45 = some 1000000000000000000000000000000000000000000000 := by decide +kernel
  have e2 : powI 1000000000000000000000000000000000000000000000 13 = some (1000000000000000000000000000000000000000000000 ^ 13) := by decide +kernel
  refine ⟨1000000000000000000000000000000000000000000000 ^ 13, by decide +kernel, ?_, ?_⟩
  · unfold intA
    dsimp only
    rw [e1]
  · unfold intA
    dsimp only
    rw [e2]
theorem pow18 {h : Hs} : intA powI (.int 10) (.int 18) h = .ok (.int 1000000000000000000) h := by
  have e1 : powI 10 18 = some 1000000000000000000 := by decide +kernel
  unfold intA
  dsimp only
  rw [e1]
theorem mul_pos {i j : Int} {h : Hs} (h0 : 0 ≤ i) (hi : i ≤ 2305843009213700000) (g0 : 0 ≤ j) (hj : j ≤ 2305843009213700000) : mulA (.int i) (.int j) h = .ok (.int (i * j)) h :=
  mul_I (by have := log_small h0 hi; have := log_small g0 hj; omega)
theorem law_bag_ok {X : Xn → Hs → Prop} {n i : Nat} {h : Hs} {ns : List Int} (hi : i < 10) :
    Ev X (f__law_bag n [.rol (ns.map A.int), .int (i : Int)] h) fun a h' => ∃ b, a = .ref b ∧ Bag h' b 0 ∧ Gm none h h' := by
  refine ev_body rfl ?_
  unfold d__law_bag
  refine step_seq (fun s h' => ∃ c : Int, s = [some (.rol (ns.map A.int)), some (.int (i : Int)), some (.int c), none, none] ∧ Gm none h h') ?_ ?_
  · refine es_set ?_
    unfold ifE
    rw [ev_bind]
    show Ev _ (R.ok (decide ((i : Int) < (((ns.map A.int).length : Nat) : Int))) h) _
    rw [ev_ok, List.length_map]
    by_cases hz : i < ns.length
    · rw [decide_eq_true (by omega : (i : Int) < (ns.length : Int)), if_pos rfl, ev_bin2]
      show Ev _ (R.ok (A.rol (ns.map A.int)) h) _
      rw [ev_ok]
      show Ev _ (R.ok (A.int (i : Int)) h) _
      rw [ev_ok]
      have e : L2.atI (ns.map A.int) (i : Int) = some (.int ns[i]) := L2.atI_nat (by rw [List.getElem?_map, List.getElem?_eq_getElem hz]; rfl)
      have e2 : ixA (.rol (ns.map A.int)) (.int (i : Int)) h = .ok (.int ns[i]) h := by
        unfold ixA
        rw [if_neg (by simp [isDict])]
        show (match some (ns.map A.int) with | some xs => (match L2.atI xs (i : Int) with | some c => R.ok c h | none => .no) | none => .no) = _
        dsimp only
        rw [e]
      rw [e2, ev_ok]
      exact ⟨_, rfl, Gm.refl⟩
    · rw [decide_eq_false (by omega : ¬ (i : Int) < (ns.length : Int))]
      simp only [Bool.false_eq_true, if_false]
      rw [ev_bin2, ev_bin2, ev_cb1]
      have e : sliceD (varD 0) noneD (someD (conD (.int 1))) n [some (.rol (ns.map A.int)), some (.int (i : Int)), none, none, none] h = newL ((ns.take 1).map A.int) h := by
        show slA (.rol (ns.map A.int)) none (some 1) h = _
        show newL (cutA (ns.map A.int) none (some 1)) h = _
        unfold cutA
        rw [HT.sIx_none, show (1 : Int) = ((1 : Nat) : Int) from rfl, HT.sIx_nat, List.drop_zero, Nat.sub_zero, List.map_take]
        congr 1
        by_cases hl : 1 ≤ (ns.map A.int).length
        · rw [Nat.min_eq_left hl]
        · rw [List.take_of_length_le (by omega), List.take_of_length_le (by omega)]
      show Ev _ (sliceD (varD 0) noneD (someD (conD (.int 1))) n [some (.rol (ns.map A.int)), some (.int (i : Int)), none, none, none] h) _
      rw [e, newL, ev_ok]
      have e2 : bSum [.ref h.length] (h ++ [.lst ((ns.take 1).map A.int)]) = .ok (.int (ns.take 1).sum) (h ++ [.lst ((ns.take 1).map A.int)]) := by
        unfold bSum
        dsimp only
        rw [show (lsOf (h ++ [AO.lst ((ns.take 1).map A.int)]) (A.ref h.length)).bind intsOf = some (ns.take 1) by rw [lsOf_ref get_app]; exact ints_I _]
      rw [e2, ev_ok, ev_bin2]
      show Ev _ (R.ok (A.int 151) _) _
      rw [ev_ok]
      show Ev _ (R.ok (A.int (i : Int)) _) _
      rw [ev_ok, mul_pos (by decide) (by decide) (by omega) (by omega), ev_ok]
      show Ev _ (R.ok (A.int _) _) _
      rw [ev_ok]
      show Ev _ (R.ok (A.int 89) _) _
      rw [ev_ok]
      show Ev _ (R.ok (A.int _) _) _
      rw [ev_ok]
      exact ⟨_, rfl, Gm.refl.app⟩
  rintro s h1 ⟨c, rfl, g1⟩
  refine step_seq (fun s h' => ∃ d : Int, 0 ≤ d ∧ s = [some (.rol (ns.map A.int)), some (.int (i : Int)), some (.int c), some (.int d), none] ∧ h' = h1) ?_ ?_
  · refine es_set ?_
    rw [ev_bin2, ev_cb1, ev_cb1]
    show Ev _ (R.ok (A.int c) h1) _
    rw [ev_ok, abs_I, ev_ok, int_I, ev_ok, ev_bin2, ev_bin2]
    obtain ⟨t, ht, p1, p2⟩ := pow585 (h := h1)
    show Ev _ (R.ok (A.int 10) h1) _
    rw [ev_ok]
    show Ev _ (R.ok (A.int 45) h1) _
    rw [ev_ok, p1, ev_ok]
    show Ev _ (R.ok (A.int 13) h1) _
    rw [ev_ok, p2, ev_ok, mod_I ht, ev_ok]
    exact ⟨_, Int.emod_nonneg _ (by omega), rfl, rfl⟩
  rintro s h2 ⟨d, hd, rfl, rfl⟩
  refine step_seq (fun s h' => ∃ e : Int, s = [some (.rol (ns.map A.int)), some (.int (i : Int)), some (.int c), some (.int d), some (.int e)] ∧ h' = h2) ?_ ?_
  · refine es_set ?_
    rw [ev_bin2, ev_bin2, ev_bin2, ev_bin2, ev_bin2, ev_cb1]
    show Ev _ (R.ok (A.int d) h2) _
    rw [ev_ok, int_I, ev_ok]
    show Ev _ (R.ok (A.int 2305843009213693723) h2) _
    have m0 := Int.emod_nonneg d (show (2305843009213693723 : Int) ≠ 0 by decide)
    have m1 := Int.emod_lt_of_pos d (show (0 : Int) < 2305843009213693723 by decide)
    rw [ev_ok, mod_I (by decide), ev_ok]
    show Ev _ (R.ok (A.int 1000457) h2) _
    rw [ev_ok, mul_pos m0 (by omega) (by decide) (by decide), ev_ok, ev_bin2]
    show Ev _ (R.ok (A.int 9029) h2) _
    rw [ev_ok]
    show Ev _ (R.ok (A.int (i : Int)) h2) _
    rw [ev_ok, mul_pos (by decide) (by decide) (by omega) (by omega), ev_ok]
    show Ev _ (R.ok (A.int _) h2) _
    rw [ev_ok, ev_bin2]
    show Ev _ (R.ok (A.int 53) h2) _
    rw [ev_ok, ev_cb1]
    show Ev _ (R.ok (A.bl (decide (c < 0))) h2) _
    rw [ev_ok, int_B, ev_ok, mul_pos (by decide) (by decide) (by split <;> decide) (by split <;> decide), ev_ok]
    show Ev _ (R.ok (A.int _) h2) _
    rw [ev_ok]
    show Ev _ (R.ok (A.int 37) h2) _
    rw [ev_ok]
    show Ev _ (R.ok (A.int _) h2) _
    rw [ev_ok]
    exact ⟨_, rfl, rfl⟩
  rintro s h3 ⟨e, rfl, rfl⟩
  refine es_ret ?_
  have e1 : bin2 (intA subI) (varD 3) (bin2 (intA powI) (conD (.int 10)) (conD (.int 18))) n [some (.rol (ns.map A.int)), some (.int (i : Int)), some (.int c), some (.int d), some (.int e)] h3 = .ok (.int (d - 1000000000000000000)) h3 := by
    show (R.ok (A.int d) h3).bind (fun a h1 => ((intA powI (.int 10) (.int 18) h1)).bind fun b h2 => intA subI a b h2) = _
    rw [ok_bind, pow18, ok_bind, sub_I]
  have e2 : ∃ u : Int, 0 ≤ u ∧ cbD bMax (consD (conD (.int 0)) (consD (bin2 (intA subI) (varD 3) (bin2 (intA powI) (conD (.int 10)) (conD (.int 18)))) nilD)) n [some (.rol (ns.map A.int)), some (.int (i : Int)), some (.int c), some (.int d), some (.int e)] h3 = .ok (.int u) h3 := by
    refine ⟨if d - 1000000000000000000 > 0 then d - 1000000000000000000 else 0, by split <;> omega, ?_⟩
    unfold cbD consD
    rw [show ∀ s h, conD (A.int 0) n s h = R.ok (A.int 0) h from fun _ _ => rfl, ok_bind, e1]
    rfl
  obtain ⟨u, hu, e2⟩ := e2
  have e3 : cbD bInt (consD (varD 4) nilD) n [some (.rol (ns.map A.int)), some (.int (i : Int)), some (.int c), some (.int d), some (.int e)] h3 = .ok (.int e) h3 := rfl
  have e4 : bin2 (intA modI) (cbD bInt (consD (varD 4) nilD)) (conD (.int 2305843009213693951)) n [some (.rol (ns.map A.int)), some (.int (i : Int)), some (.int c), some (.int d), some (.int e)] h3 = .ok (.int (e % 2305843009213693951)) h3 := by
    unfold bin2
    rw [e3, ok_bind]
    show intA modI (.int e) (.int 2305843009213693951) h3 = _
    rw [mod_I (by decide)]
  have e5 : lstD (consD (cbD bMax (consD (conD (.int 0)) (consD (bin2 (intA subI) (varD 3) (bin2 (intA powI) (conD (.int 10)) (conD (.int 18)))) nilD))) (consD (bin2 (intA modI) (cbD bInt (consD (varD 4) nilD)) (conD (.int 2305843009213693951))) (consD (conD (.int 0)) nilD))) n [some (.rol (ns.map A.int)), some (.int (i : Int)), some (.int c), some (.int d), some (.int e)] h3 = newL [.int u, .int (e % 2305843009213693951), .int 0] h3 := by
    unfold lstD
    have e6 : consD (cbD bMax (consD (conD (.int 0)) (consD (bin2 (intA subI) (varD 3) (bin2 (intA powI) (conD (.int 10)) (conD (.int 18)))) nilD))) (consD (bin2 (intA modI) (cbD bInt (consD (varD 4) nilD)) (conD (.int 2305843009213693951))) (consD (conD (.int 0)) nilD)) n [some (.rol (ns.map A.int)), some (.int (i : Int)), some (.int c), some (.int d), some (.int e)] h3 = .ok [.int u, .int (e % 2305843009213693951), .int 0] h3 := by
      rw [consD, e2, ok_bind, consD, e4, ok_bind]
      rfl
    rw [e6, ok_bind, if_pos (small_line (by simp))]
  rw [e5, newL, ev_ok]
  have m0 := Int.emod_nonneg e (show (2305843009213693951 : Int) ≠ 0 by decide)
  have m1 := Int.emod_lt_of_pos e (show (0 : Int) < 2305843009213693951 by decide)
  exact ⟨_, rfl, ⟨u, e % 2305843009213693951, 0, get_app, hu, m0, m1, Int.le_refl _, Int.le_refl _⟩, g1.app⟩
end Dn

set_option maxHeartbeats 4000000
namespace Dn
open PySem
open TL (numL joinL)
/-! ### the law -/
theorem ev_cons {X : Xn → Hs → Prop} {f : DE} {g : DA} {n : Nat} {s : Sl} {h : Hs} {Q : List A → Hs → Prop} : Ev X (consD f g n s h) Q = Ev X (f n s h) fun a h1 => Ev X (g n s h1) fun as h2 => Q (a :: as) h2 := by
  unfold consD
  rw [ev_bind]
  congr 1
  funext a h1
  rw [ev_bind]
  rfl
theorem ev_nil {X : Xn → Hs → Prop} {n : Nat} {s : Sl} {h : Hs} {Q : List A → Hs → Prop} : Ev X (nilD n s h) Q = Q [] h := rfl
theorem ev_lst {X : Xn → Hs → Prop} {f : DA} {n : Nat} {s : Sl} {h : Hs} {Q : A → Hs → Prop} (q : Ev X (f n s h) fun as h1 => as.length ≤ 1000 ∧ Q (.ref h1.length) (h1 ++ [.lst as])) : Ev X (lstD f n s h) Q := by
  unfold lstD
  rw [ev_bind]
  refine q.mono fun as h1 z => ?_
  rw [if_pos (small_line (by have := z.1; omega)), newL, ev_ok]
  exact z.2
theorem turn_ok {n b k : Nat} {s : Sl} {h : Hs} {T : Tl} (hn : 5000 ≤ n) (hs : s[2]? = some (some (.ref b))) (B : Bag h b k) (hk : k ≤ 50000) (q : ∀ h', Bag h' b (k + 1400) → Gm (some b) h h' → T.nx s h') :
    EvS (ifD (orT (notT (testD (callD 1 f__law_moves_right (consD (varD 2) nilD)))) (orT (notT (testD (callD 1 f__law_rows_right (consD (varD 2) nilD)))) (notT (testD (callD 1 f__law_kinds_right (consD (varD 2) nilD)))))) (retD (conD (.bl false))) nextD n s h) T := by
  have e : ∀ h, consD (varD 2) nilD n s h = .ok [.ref b] h := fun h => by
    unfold consD varD
    rw [hs]
    rfl
  unfold ifD orT notT testD boolR
  rw [es_then, ev_bind, ev_bind, ev_bind, ev_call, e, ev_ok]
  refine ⟨rfl, (Ev.any (moves_right_ok hn B (by omega))).mono fun a h1 z => ?_⟩
  obtain ⟨rfl, B1, g1⟩ := z
  dsimp only
  rw [ev_ok, ev_ok]
  simp only [Bool.not_true, Bool.false_eq_true, if_false]
  rw [ev_bind, ev_bind, ev_bind, ev_call, e, ev_ok]
  refine ⟨rfl, (Ev.any (rows_right_ok hn B1 (by omega))).mono fun a h2 z => ?_⟩
  obtain ⟨rfl, B2, g2⟩ := z
  dsimp only
  rw [ev_ok, ev_ok]
  simp only [Bool.not_true, Bool.false_eq_true, if_false]
  rw [ev_bind, ev_bind, ev_call, e, ev_ok]
  refine ⟨rfl, (Ev.any (kinds_right_ok hn B2 (by omega))).mono fun a h3 z => ?_⟩
  obtain ⟨rfl, B3, g3⟩ := z
  dsimp only
  rw [ev_ok, ev_ok]
  simp only [Bool.not_true, Bool.false_eq_true, if_false, nextD, es_nx]
  exact q h3 (B3.weak (by omega)) (g1.trans (g2.trans g3))
theorem eq_same {neg : Bool} {L : List A} {p q : Nat} {h : Hs} {ds : List PyData} (e1 : h[p]? = some (.lst L)) (e2 : h[q]? = some (.lst L)) (hd : ∀ f, toDws f L = some ds) (sh : SeqAt.shaped (.list ds) = true) : eqA neg (.ref p) (.ref q) h = .ok (.bl (!neg)) h := by
  refine eq_refl (d := .list ds) ?_ ?_ sh
  · unfold toD
    show refD 6 h p = _
    rw [refD, e1]
    dsimp only
    rw [hd]
    rfl
  · unfold toD
    show refD 6 h q = _
    rw [refD, e2]
    dsimp only
    rw [hd]
    rfl
theorem prm_dec {m : List Nat} (h1 : m.all (fun x => decide (x < m.length)) = true) (h2 : decide m.Nodup = true) : Prm m :=
  ⟨fun x hx => of_decide_eq_true (List.all_eq_true.mp h1 x hx), of_decide_eq_true h2⟩
theorem x_t1 : (Str.ofString "(0 1 2)(3 4)") = S (mvL (longs (cyc [1, 2, 0, 4, 3]))) := by decide +kernel
theorem x_t2 : (Str.ofString "()") = S (mvL (longs (cyc [0, 1]))) := by decide +kernel
theorem x_t3 : (Str.ofString "(4 3)(2 0 1)") = S (mvL [[4, 3], [2, 0, 1]]) := by decide +kernel
theorem x_t3' : told 6 [[4, 3], [2, 0, 1]] = [1, 2, 0, 4, 3, 5] := by decide +kernel
theorem x_t4 : (Str.ofString "6,2,0,-1") = S (rowL [6, 2, 0, -1]) := by decide +kernel
theorem x_t5 : (Str.ofString "0,-12") = S (rowL [0, -12]) := by decide +kernel
theorem x_t6 : (Str.ofString "2[0] - [2] + 3[3]") = S (textL (kT [2, 0, -1, 3])) := by decide +kernel
theorem x_t7 : (Str.ofString "-[0]") = S (textL (kT [-1, 0])) := by decide +kernel
def x_ts8 : List Tm := [⟨false, true, 1, 1⟩, ⟨false, false, 2, 0⟩, ⟨true, false, 3, 1⟩]
theorem x_t8 : (Str.ofString "[1] + 2[0] - 3[1]") = S (textL x_ts8) := by decide +kernel
theorem x_t9 : (Str.ofString "0") = S (textL []) := by decide +kernel
theorem x_t10 : (Str.ofString "0") = S (textL (kT [0, 0])) := by decide +kernel
def x_ts11 : List Tm := [⟨false, true, 1, 0⟩, ⟨true, false, 0, 1⟩]
theorem x_t11 : (Str.ofString "[0] - 0[1]") = S (textL x_ts11) := by decide +kernel
theorem good_of {zs : List Int} (h : zs.all (fun z => decide (z.natAbs < 1000)) = true) : ∀ z ∈ zs, Good z := fun z hz => by
  have := of_decide_eq_true (List.all_eq_true.mp h z hz)
  constructor <;> omega
theorem tm_dec {ts : List Tm} {len : Nat} (h : ts.all (fun t => (!t.bare || decide (t.m = 1)) && decide (t.m < 1000) && decide (t.i < len)) = true) (hl : len ≤ 60) : ∀ t ∈ ts, t.ok ∧ t.i < len := fun t ht => by
  have q := List.all_eq_true.mp h t ht
  rw [Bool.and_eq_true, Bool.and_eq_true, decide_eq_true_eq, decide_eq_true_eq, Bool.or_eq_true, decide_eq_true_eq] at q
  obtain ⟨⟨q1, q2⟩, q3⟩ := q
  refine ⟨⟨fun hb => ?_, by omega, by omega⟩, q3⟩
  rcases q1 with q1 | q1
  · rw [hb] at q1; cases q1
  · exact q1
theorem neg_dec {ts : List Tm} (h : (match ts with | [] => true | t :: _ => !t.neg) = true) : ∀ t r, ts = t :: r → t.neg = true → t.bare = true ∨ t.m ≠ 0 := fun t r e hn => by
  subst e
  dsimp only at h
  rw [hn] at h
  cases h
theorem law_ok {n : Nat} {ns : List Int} (hn : 5000 ≤ n) (hl : ns.length ≤ 63) : Ev NoX (f_law n [.rol (ns.map A.int)] []) fun a h' => a = .bl true := by
  refine ev_body rfl ?_
  unfold d_law
  refine step_seq (fun s h' => ∃ a b c, s = [some (.rol (ns.map A.int)), a, b, c, none, none]) ?_ ?_
  · unfold forD
    rw [es_then]
    have hm : ∃ m : Nat, m ≤ 2 ∧ consD (cbD bMax (consD (conD (.int 1)) (consD (cbD bMin (consD (conD (.int 2)) (consD (cbD bLen (consD (varD 0) nilD)) nilD))) nilD))) nilD n (List.map some [A.rol (ns.map A.int)] ++ List.replicate (6 - 1) none) [] = .ok [.int (m : Int)] [] := by
      refine ⟨if ns.length < 2 then 1 else 2, by split <;> omega, ?_⟩
      show R.ok [A.int (if (if ((ns.map A.int).length : Int) < 2 then ((ns.map A.int).length : Int) else 2) > 1 then (if ((ns.map A.int).length : Int) < 2 then ((ns.map A.int).length : Int) else 2) else 1)] [] = _
      rw [List.length_map]
      congr 3
      split <;> split <;> (try split) <;> omega
    obtain ⟨m, hm2, em⟩ := hm
    refine ev_rg1 (m := m) (by omega) ?_
    rw [em, ev_ok]
    refine ⟨rfl, ?_⟩
    refine for_r (m := m) (by omega) (fun j s h1 => ∃ a b c, s = [some (.rol (ns.map A.int)), a, b, c, none, none]) ⟨_, _, _, rfl⟩ ?_ (fun s h1 z => z)
    rintro j s h1 hj ⟨a, b, c, rfl⟩
    refine ⟨[some (.rol (ns.map A.int)), some (.int (0 + (j : Int))), b, c, none, none], rfl, ?_⟩
    rw [Int.zero_add]
    refine step_seq (fun s h2 => ∃ b, s = [some (.rol (ns.map A.int)), some (.int (j : Int)), some (.ref b), c, none, none] ∧ Bag h2 b 0) ?_ ?_
    · refine es_set ?_
      rw [ev_call]
      show Ev _ (R.ok [A.rol (ns.map A.int), A.int (j : Int)] h1) _
      rw [ev_ok]
      refine ⟨rfl, (law_bag_ok (by omega)).mono fun a h2 z => ?_⟩
      obtain ⟨b, rfl, B, _⟩ := z
      exact ⟨b, rfl, B⟩
    rintro s h2 ⟨b, rfl, B⟩
    rw [es_then]
    refine ev_rg1 (m := 3) (by omega) ?_
    show Ev _ (R.ok [A.int 3] h2) _
    rw [ev_ok]
    refine ⟨rfl, ?_⟩
    refine for_r (m := 3) (by omega) (fun i s h3 => i ≤ 3 ∧ ∃ c, s = [some (.rol (ns.map A.int)), some (.int (j : Int)), some (.ref b), c, none, none] ∧ Bag h3 b (1400 * i)) ⟨by omega, _, rfl, B⟩ ?_ (fun s h3 z => ?_)
    · rintro i s h3 hi ⟨_, c, rfl, B3⟩
      refine ⟨[some (.rol (ns.map A.int)), some (.int (j : Int)), some (.ref b), some (.int (0 + (i : Int))), none, none], rfl, ?_⟩
      refine turn_ok hn rfl B3 (by omega) fun h4 B4 _ => ?_
      exact ⟨hi, _, rfl, B4.weak (by omega)⟩
    · obtain ⟨_, c, rfl, _⟩ := z
      exact ⟨_, _, _, rfl⟩
  rintro s h1 ⟨a, b, c, rfl⟩
  refine step_seq (fun s h2 => ∃ p, s = [some (.rol (ns.map A.int)), a, b, c, some (.ref p), none] ∧ h2[p]? = some (.lst [.str "(0 1 2)(3 4)", .str "()", .tup [.int 1, .int 2, .int 0, .int 4, .int 3, .int 5], .str "6,2,0,-1", .tup [.int 0, .int (-12)]])) ?_ ?_
  · refine es_set (ev_lst ?_)
    rw [ev_cons, ev_call]
    show Ev _ (R.ok [rgA [1, 2, 0, 4, 3]] h1) _
    rw [ev_ok]
    refine ⟨rfl, (write_move_ok hn (prm_dec (by decide) (by decide)) (by decide) (by decide)).mono fun a h2 z => ?_⟩
    obtain ⟨rfl, _⟩ := z
    rw [ev_cons, ev_call]
    show Ev _ (R.ok [rgA [0, 1]] h2) _
    rw [ev_ok]
    refine ⟨rfl, (write_move_ok hn (prm_dec (by decide) (by decide)) (by decide) (by decide)).mono fun a h3 z => ?_⟩
    obtain ⟨rfl, _⟩ := z
    rw [ev_cons, ev_call]
    show Ev _ (R.ok [A.str "(4 3)(2 0 1)", A.int ((6 : Nat) : Int)] h3) _
    rw [ev_ok, x_t3]
    refine ⟨rfl, (read_move_ok hn (by decide) (by decide) (by decide +kernel) (sm_mv _) (by decide) (by decide) (by decide) (by decide)).mono fun a h4 z => ?_⟩
    obtain ⟨rfl, _⟩ := z
    rw [ev_cons, ev_call]
    show Ev _ (R.ok [A.tup ([6, 2, 0, -1].map A.int)] h4) _
    rw [ev_ok]
    refine ⟨rfl, (write_row_ok hn (by decide) (by decide) (good_of (by decide))).mono fun a h5 z => ?_⟩
    obtain ⟨rfl, _⟩ := z
    rw [ev_cons, ev_call]
    show Ev _ (R.ok [A.str "0,-12"] h5) _
    rw [ev_ok, x_t5]
    refine ⟨rfl, (read_row_ok hn (by decide) (by decide) (good_of (by decide)) (by decide +kernel)).mono fun a h6 z => ?_⟩
    obtain ⟨rfl, _⟩ := z
    rw [ev_nil, x_t3', ← x_t1, ← x_t2, ← x_t4]
    exact ⟨by simp, _, rfl, get_app⟩
  rintro s h2 ⟨p, rfl, ep⟩
  refine step_seq (fun s h3 => ∃ q, s = [some (.rol (ns.map A.int)), a, b, c, some (.ref p), some (.ref q)] ∧ h3[p]? = some (.lst [.str "(0 1 2)(3 4)", .str "()", .tup [.int 1, .int 2, .int 0, .int 4, .int 3, .int 5], .str "6,2,0,-1", .tup [.int 0, .int (-12)]]) ∧ h3[q]? = some (.lst [.str "(0 1 2)(3 4)", .str "()", .tup [.int 1, .int 2, .int 0, .int 4, .int 3, .int 5], .str "6,2,0,-1", .tup [.int 0, .int (-12)]])) ?_ ?_
  · refine es_set (ev_lst ?_)
    show Ev _ (R.ok ([.str "(0 1 2)(3 4)", .str "()", .tup [.int 1, .int 2, .int 0, .int 4, .int 3, .int 5], .str "6,2,0,-1", .tup [.int 0, .int (-12)]] : List A) h2) _
    rw [ev_ok]
    exact ⟨by simp, _, rfl, (Gm.refl (m := none)).app.get ep, get_app⟩
  rintro s h3 ⟨q, rfl, ep, eq⟩
  refine step_seq (fun s h4 => s = [some (.rol (ns.map A.int)), a, b, c, some (.ref p), some (.ref q)]) ?_ ?_
  · unfold ifD orT testD boolR
    rw [es_then, ev_bind, ev_bind, ev_bin2]
    show Ev _ (R.ok (A.ref p) h3) _
    rw [ev_ok]
    show Ev _ (R.ok (A.ref q) h3) _
    rw [ev_ok, eq_same ep eq (ds := [.str "(0 1 2)(3 4)", .str "()", .tuple [.int 1, .int 2, .int 0, .int 4, .int 3, .int 5], .str "6,2,0,-1", .tuple [.int 0, .int (-12)]]) (fun f => rfl) (by decide +kernel), ev_ok]
    simp only [Bool.not_true]
    rw [ev_ok]
    simp only [Bool.false_eq_true, if_false]
    rw [ev_bind, ev_bin2]
    show Ev _ (newL [A.int 3000, A.int 60] h3) _
    rw [newL, ev_ok]
    show Ev _ (newL [A.int 3000, A.int 60] _) _
    rw [newL, ev_ok, eq_same (L := [A.int 3000, A.int 60]) (ds := [.int 3000, .int 60]) ((Gm.refl (m := none)).app.get get_app) get_app (fun f => rfl) (by decide +kernel), ev_ok]
    simp only [Bool.not_true]
    rw [ev_ok]
    simp only [Bool.false_eq_true, if_false, nextD, es_nx]
  rintro s h4 rfl
  refine step_seq (fun s h5 => ∃ p, s = [some (.rol (ns.map A.int)), a, b, c, some (.ref p), some (.ref q)] ∧ h5[p]? = some (.lst [.str "2[0] - [2] + 3[3]", .str "-[0]", .tup [.int 2, .int (-2)], .tup [.int 0, .int 0, .int 0], .str "0"])) ?_ ?_
  · refine es_set (ev_lst ?_)
    rw [ev_cons, ev_call]
    show Ev _ (R.ok [A.tup ([2, 0, -1, 3].map A.int)] h4) _
    rw [ev_ok]
    refine ⟨rfl, (write_kinds_ok hn (by decide) (by decide) (good_of (by decide))).mono fun a h5 z => ?_⟩
    obtain ⟨rfl, _⟩ := z
    rw [ev_cons, ev_call]
    show Ev _ (R.ok [A.tup ([-1, 0].map A.int)] h5) _
    rw [ev_ok]
    refine ⟨rfl, (write_kinds_ok hn (by decide) (by decide) (good_of (by decide))).mono fun a h6 z => ?_⟩
    obtain ⟨rfl, _⟩ := z
    rw [ev_cons, ev_call]
    show Ev _ (R.ok [A.str "[1] + 2[0] - 3[1]", A.int ((2 : Nat) : Int)] h6) _
    rw [ev_ok, x_t8]
    refine ⟨rfl, (read_kinds_ok hn (by decide) (tm_dec (by decide) (by decide)) (neg_dec rfl) (by decide +kernel) (by decide) (good_of (by decide +kernel))).mono fun a h7 z => ?_⟩
    obtain ⟨rfl, _⟩ := z
    rw [ev_cons, ev_call]
    show Ev _ (R.ok [A.str "0", A.int ((3 : Nat) : Int)] h7) _
    rw [ev_ok, x_t9]
    refine ⟨rfl, (read_kinds_ok hn (by decide) (tm_dec (by decide) (by decide)) (neg_dec rfl) (by decide +kernel) (by decide) (good_of (by decide +kernel))).mono fun a h8 z => ?_⟩
    obtain ⟨rfl, _⟩ := z
    rw [ev_cons, ev_call]
    show Ev _ (R.ok [A.tup ([0, 0].map A.int)] h8) _
    rw [ev_ok]
    refine ⟨rfl, (write_kinds_ok hn (by decide) (by decide) (good_of (by decide))).mono fun a h9 z => ?_⟩
    obtain ⟨rfl, _⟩ := z
    rw [ev_nil, ← x_t6, ← x_t7, ← x_t10, show sumK 2 (x_ts8.map Tm.pair) = [2, -2] by decide +kernel, show sumK 3 (([] : List Tm).map Tm.pair) = [0, 0, 0] by decide +kernel]
    exact ⟨by simp, _, rfl, get_app⟩
  rintro s h5 ⟨p, rfl, ep⟩
  refine es_ret ?_
  unfold andV
  rw [ev_bind, ev_bin2]
  show Ev _ (R.ok (A.ref p) h5) _
  rw [ev_ok]
  show Ev _ (newL [.str "2[0] - [2] + 3[3]", .str "-[0]", .tup [.int 2, .int (-2)], .tup [.int 0, .int 0, .int 0], .str "0"] h5) _
  rw [newL, ev_ok, eq_same (ds := [.str "2[0] - [2] + 3[3]", .str "-[0]", .tuple [.int 2, .int (-2)], .tuple [.int 0, .int 0, .int 0], .str "0"]) ((Gm.refl (m := none)).app.get ep) get_app (fun f => rfl) (by decide +kernel), ev_ok]
  simp only [Bool.not_false]
  rw [ev_bin2, ev_call]
  show Ev _ (R.ok [A.str "[0] - 0[1]", A.int ((2 : Nat) : Int)] _) _
  rw [ev_ok, x_t11]
  refine ⟨rfl, (read_kinds_ok hn (by decide) (tm_dec (by decide) (by decide)) (neg_dec rfl) (by decide +kernel) (by decide) (good_of (by decide +kernel))).mono fun a h6 z => ?_⟩
  obtain ⟨rfl, _⟩ := z
  rw [show sumK 2 (x_ts11.map Tm.pair) = [1, 0] by decide +kernel]
  show Ev _ (R.ok (A.tup ([1, 0].map A.int)) h6) _
  rw [ev_ok, eq_tupI]
  exact rfl
theorem law_true : ∀ ns : List Int, ns.length ≤ 63 → ∃ n h', f_law n [.rol (ns.map A.int)] [] = .ok (.bl true) h' := fun ns hl => by
  obtain ⟨a, h', e, rfl⟩ := (law_ok (n := 5000) (Nat.le_refl _) hl).get
  exact ⟨5000, h', e⟩
end Dn

set_option maxHeartbeats 0
namespace Dn
open PySem PySem.Spec PyProof.Rows
open L2 (PE PT PA PS PSs PG PGs PI Cx WX Takes HO Hp VK)

theorem all_mk {P : Program} {w : World} {K : PySem.W.Frag} {h : Heap} {mg : Str → Option Value} {fa : Addr} (X : K.In h) (G : h.Ns mainGlobals mg) (hfa : mg "law" = some (.ref fa))
    {f0 : Addr} {oc0 kV0 dc0 pm0 cd0 ct0 : Value} {od0 an0 : Option Addr} {sl0 : Array (Option Value)}
    {f1 : Addr} {oc1 kV1 dc1 pm1 cd1 ct1 : Value} {od1 an1 : Option Addr} {sl1 : Array (Option Value)}
    {f2 : Addr} {oc2 kV2 dc2 pm2 cd2 ct2 : Value} {od2 an2 : Option Addr} {sl2 : Array (Option Value)}
    {f3 : Addr} {oc3 kV3 dc3 pm3 cd3 ct3 : Value} {od3 an3 : Option Addr} {sl3 : Array (Option Value)}
    {f4 : Addr} {oc4 kV4 dc4 pm4 cd4 ct4 : Value} {od4 an4 : Option Addr} {sl4 : Array (Option Value)}
    {f5 : Addr} {oc5 kV5 dc5 pm5 cd5 ct5 : Value} {od5 an5 : Option Addr} {sl5 : Array (Option Value)}
    {f6 : Addr} {oc6 kV6 dc6 pm6 cd6 ct6 : Value} {od6 an6 : Option Addr} {sl6 : Array (Option Value)}
    {f7 : Addr} {oc7 kV7 dc7 pm7 cd7 ct7 : Value} {od7 an7 : Option Addr} {sl7 : Array (Option Value)}
    {f8 : Addr} {oc8 kV8 dc8 pm8 cd8 ct8 : Value} {od8 an8 : Option Addr} {sl8 : Array (Option Value)}
    {f9 : Addr} {oc9 kV9 dc9 pm9 cd9 ct9 : Value} {od9 an9 : Option Addr} {sl9 : Array (Option Value)}
    {f10 : Addr} {oc10 kV10 dc10 pm10 cd10 ct10 : Value} {od10 an10 : Option Addr} {sl10 : Array (Option Value)}
    {f11 : Addr} {oc11 kV11 dc11 pm11 cd11 ct11 : Value} {od11 an11 : Option Addr} {sl11 : Array (Option Value)}
    {f12 : Addr} {oc12 kV12 dc12 pm12 cd12 ct12 : Value} {od12 an12 : Option Addr} {sl12 : Array (Option Value)}
    {f13 : Addr} {oc13 kV13 dc13 pm13 cd13 ct13 : Value} {od13 an13 : Option Addr} {sl13 : Array (Option Value)}
    {f14 : Addr} {oc14 kV14 dc14 pm14 cd14 ct14 : Value} {od14 an14 : Option Addr} {sl14 : Array (Option Value)}
    {f15 : Addr} {oc15 kV15 dc15 pm15 cd15 ct15 : Value} {od15 an15 : Option Addr} {sl15 : Array (Option Value)}
    {f16 : Addr} {oc16 kV16 dc16 pm16 cd16 ct16 : Value} {od16 an16 : Option Addr} {sl16 : Array (Option Value)}
    {f17 : Addr} {oc17 kV17 dc17 pm17 cd17 ct17 : Value} {od17 an17 : Option Addr} {sl17 : Array (Option Value)}
    {f18 : Addr} {oc18 kV18 dc18 pm18 cd18 ct18 : Value} {od18 an18 : Option Addr} {sl18 : Array (Option Value)}
    {f19 : Addr} {oc19 kV19 dc19 pm19 cd19 ct19 : Value} {od19 an19 : Option Addr} {sl19 : Array (Option Value)}
    {f20 : Addr} {oc20 kV20 dc20 pm20 cd20 ct20 : Value} {od20 an20 : Option Addr} {sl20 : Array (Option Value)}
    {f21 : Addr} {oc21 kV21 dc21 pm21 cd21 ct21 : Value} {od21 an21 : Option Addr} {sl21 : Array (Option Value)}
    {f22 : Addr} {oc22 kV22 dc22 pm22 cd22 ct22 : Value} {od22 an22 : Option Addr} {sl22 : Array (Option Value)}
    {f23 : Addr} {oc23 kV23 dc23 pm23 cd23 ct23 : Value} {od23 an23 : Option Addr} {sl23 : Array (Option Value)}
    {f24 : Addr} {oc24 kV24 dc24 pm24 cd24 ct24 : Value} {od24 an24 : Option Addr} {sl24 : Array (Option Value)}
    {f25 : Addr} {oc25 kV25 dc25 pm25 cd25 ct25 : Value} {od25 an25 : Option Addr} {sl25 : Array (Option Value)}
    {f26 : Addr} {oc26 kV26 dc26 pm26 cd26 ct26 : Value} {od26 an26 : Option Addr} {sl26 : Array (Option Value)}
    {f27 : Addr} {oc27 kV27 dc27 pm27 cd27 ct27 : Value} {od27 an27 : Option Addr} {sl27 : Array (Option Value)}
    {f28 : Addr} {oc28 kV28 dc28 pm28 cd28 ct28 : Value} {od28 an28 : Option Addr} {sl28 : Array (Option Value)}
    {f29 : Addr} {oc29 kV29 dc29 pm29 cd29 ct29 : Value} {od29 an29 : Option Addr} {sl29 : Array (Option Value)}
    {f30 : Addr} {oc30 kV30 dc30 pm30 cd30 ct30 : Value} {od30 an30 : Option Addr} {sl30 : Array (Option Value)}
    {f31 : Addr} {oc31 kV31 dc31 pm31 cd31 ct31 : Value} {od31 an31 : Option Addr} {sl31 : Array (Option Value)}
    {f32 : Addr} {oc32 kV32 dc32 pm32 cd32 ct32 : Value} {od32 an32 : Option Addr} {sl32 : Array (Option Value)}
    {f33 : Addr} {oc33 kV33 dc33 pm33 cd33 ct33 : Value} {od33 an33 : Option Addr} {sl33 : Array (Option Value)}
    {f34 : Addr} {oc34 kV34 dc34 pm34 cd34 ct34 : Value} {od34 an34 : Option Addr} {sl34 : Array (Option Value)}
    {f35 : Addr} {oc35 kV35 dc35 pm35 cd35 ct35 : Value} {od35 an35 : Option Addr} {sl35 : Array (Option Value)}
    {f36 : Addr} {oc36 kV36 dc36 pm36 cd36 ct36 : Value} {od36 an36 : Option Addr} {sl36 : Array (Option Value)}
    {f37 : Addr} {oc37 kV37 dc37 pm37 cd37 ct37 : Value} {od37 an37 : Option Addr} {sl37 : Array (Option Value)}
    {f38 : Addr} {oc38 kV38 dc38 pm38 cd38 ct38 : Value} {od38 an38 : Option Addr} {sl38 : Array (Option Value)}
    {f39 : Addr} {oc39 kV39 dc39 pm39 cd39 ct39 : Value} {od39 an39 : Option Addr} {sl39 : Array (Option Value)}
    {f40 : Addr} {oc40 kV40 dc40 pm40 cd40 ct40 : Value} {od40 an40 : Option Addr} {sl40 : Array (Option Value)}
    {f41 : Addr} {oc41 kV41 dc41 pm41 cd41 ct41 : Value} {od41 an41 : Option Addr} {sl41 : Array (Option Value)}
    {f42 : Addr} {oc42 kV42 dc42 pm42 cd42 ct42 : Value} {od42 an42 : Option Addr} {sl42 : Array (Option Value)}
    {t_FAR : Tok}
    {t_FIGURES : Tok}
    {t_MAX_PLACES : Tok}
    {t_MOST_FIGURES : Tok}
    {t_MOST_MEMBERS : Tok}
    {t_MOST_PLACES : Tok}
    {t_MOST_SIGNS : Tok}
    {t_NOTHING : Tok}
    {t_UNIT : Tok}
    (a0 : PySem.W.nsIn K mainGlobals "is_plain" = some (some (.ref f0)))
    (l0 : K.lookup f0 = some ⟨oc0, od0, .func (PySem.W.fnOf "is_plain" "is_plain" (L2.defArgs s_is_plain) (L2.defBody s_is_plain) (L2.defScope s_is_plain) .none kV0 dc0 pm0 an0 cd0 ct0), sl0⟩)
    (x0 : PySem.W.codeIn K cd0 "is_plain" = true)
    (k0 : PySem.W.keepIn K (.ref f0) = true)
    (a1 : PySem.W.nsIn K mainGlobals "is_move_of" = some (some (.ref f1)))
    (l1 : K.lookup f1 = some ⟨oc1, od1, .func (PySem.W.fnOf "is_move_of" "is_move_of" (L2.defArgs s_is_move_of) (L2.defBody s_is_move_of) (L2.defScope s_is_move_of) .none kV1 dc1 pm1 an1 cd1 ct1), sl1⟩)
    (x1 : PySem.W.codeIn K cd1 "is_move_of" = true)
    (k1 : PySem.W.keepIn K (.ref f1) = true)
    (a2 : PySem.W.nsIn K mainGlobals "is_any_move" = some (some (.ref f2)))
    (l2 : K.lookup f2 = some ⟨oc2, od2, .func (PySem.W.fnOf "is_any_move" "is_any_move" (L2.defArgs s_is_any_move) (L2.defBody s_is_any_move) (L2.defScope s_is_any_move) .none kV2 dc2 pm2 an2 cd2 ct2), sl2⟩)
    (x2 : PySem.W.codeIn K cd2 "is_any_move" = true)
    (k2 : PySem.W.keepIn K (.ref f2) = true)
    (a3 : PySem.W.nsIn K mainGlobals "cycles_in" = some (some (.ref f3)))
    (l3 : K.lookup f3 = some ⟨oc3, od3, .func (PySem.W.fnOf "cycles_in" "cycles_in" (L2.defArgs s_cycles_in) (L2.defBody s_cycles_in) (L2.defScope s_cycles_in) .none kV3 dc3 pm3 an3 cd3 ct3), sl3⟩)
    (x3 : PySem.W.codeIn K cd3 "cycles_in" = true)
    (k3 : PySem.W.keepIn K (.ref f3) = true)
    (a4 : PySem.W.nsIn K mainGlobals "move_text" = some (some (.ref f4)))
    (l4 : K.lookup f4 = some ⟨oc4, od4, .func (PySem.W.fnOf "move_text" "move_text" (L2.defArgs s_move_text) (L2.defBody s_move_text) (L2.defScope s_move_text) .none kV4 dc4 pm4 an4 cd4 ct4), sl4⟩)
    (x4 : PySem.W.codeIn K cd4 "move_text" = true)
    (k4 : PySem.W.keepIn K (.ref f4) = true)
    (a5 : PySem.W.nsIn K mainGlobals "write_move" = some (some (.ref f5)))
    (l5 : K.lookup f5 = some ⟨oc5, od5, .func (PySem.W.fnOf "write_move" "write_move" (L2.defArgs s_write_move) (L2.defBody s_write_move) (L2.defScope s_write_move) .none kV5 dc5 pm5 an5 cd5 ct5), sl5⟩)
    (x5 : PySem.W.codeIn K cd5 "write_move" = true)
    (k5 : PySem.W.keepIn K (.ref f5) = true)
    (a6 : PySem.W.nsIn K mainGlobals "row_text" = some (some (.ref f6)))
    (l6 : K.lookup f6 = some ⟨oc6, od6, .func (PySem.W.fnOf "row_text" "row_text" (L2.defArgs s_row_text) (L2.defBody s_row_text) (L2.defScope s_row_text) .none kV6 dc6 pm6 an6 cd6 ct6), sl6⟩)
    (x6 : PySem.W.codeIn K cd6 "row_text" = true)
    (k6 : PySem.W.keepIn K (.ref f6) = true)
    (a7 : PySem.W.nsIn K mainGlobals "is_integer" = some (some (.ref f7)))
    (l7 : K.lookup f7 = some ⟨oc7, od7, .func (PySem.W.fnOf "is_integer" "is_integer" (L2.defArgs s_is_integer) (L2.defBody s_is_integer) (L2.defScope s_is_integer) .none kV7 dc7 pm7 an7 cd7 ct7), sl7⟩)
    (x7 : PySem.W.codeIn K cd7 "is_integer" = true)
    (k7 : PySem.W.keepIn K (.ref f7) = true)
    (a8 : PySem.W.nsIn K mainGlobals "are_integers" = some (some (.ref f8)))
    (l8 : K.lookup f8 = some ⟨oc8, od8, .func (PySem.W.fnOf "are_integers" "are_integers" (L2.defArgs s_are_integers) (L2.defBody s_are_integers) (L2.defScope s_are_integers) .none kV8 dc8 pm8 an8 cd8 ct8), sl8⟩)
    (x8 : PySem.W.codeIn K cd8 "are_integers" = true)
    (k8 : PySem.W.keepIn K (.ref f8) = true)
    (a9 : PySem.W.nsIn K mainGlobals "write_row" = some (some (.ref f9)))
    (l9 : K.lookup f9 = some ⟨oc9, od9, .func (PySem.W.fnOf "write_row" "write_row" (L2.defArgs s_write_row) (L2.defBody s_write_row) (L2.defScope s_write_row) .none kV9 dc9 pm9 an9 cd9 ct9), sl9⟩)
    (x9 : PySem.W.codeIn K cd9 "write_row" = true)
    (k9 : PySem.W.keepIn K (.ref f9) = true)
    (a10 : PySem.W.nsIn K mainGlobals "term_text" = some (some (.ref f10)))
    (l10 : K.lookup f10 = some ⟨oc10, od10, .func (PySem.W.fnOf "term_text" "term_text" (L2.defArgs s_term_text) (L2.defBody s_term_text) (L2.defScope s_term_text) .none kV10 dc10 pm10 an10 cd10 ct10), sl10⟩)
    (x10 : PySem.W.codeIn K cd10 "term_text" = true)
    (k10 : PySem.W.keepIn K (.ref f10) = true)
    (a11 : PySem.W.nsIn K mainGlobals "kinds_text" = some (some (.ref f11)))
    (l11 : K.lookup f11 = some ⟨oc11, od11, .func (PySem.W.fnOf "kinds_text" "kinds_text" (L2.defArgs s_kinds_text) (L2.defBody s_kinds_text) (L2.defScope s_kinds_text) .none kV11 dc11 pm11 an11 cd11 ct11), sl11⟩)
    (x11 : PySem.W.codeIn K cd11 "kinds_text" = true)
    (k11 : PySem.W.keepIn K (.ref f11) = true)
    (a12 : PySem.W.nsIn K mainGlobals "write_kinds" = some (some (.ref f12)))
    (l12 : K.lookup f12 = some ⟨oc12, od12, .func (PySem.W.fnOf "write_kinds" "write_kinds" (L2.defArgs s_write_kinds) (L2.defBody s_write_kinds) (L2.defScope s_write_kinds) .none kV12 dc12 pm12 an12 cd12 ct12), sl12⟩)
    (x12 : PySem.W.codeIn K cd12 "write_kinds" = true)
    (k12 : PySem.W.keepIn K (.ref f12) = true)
    (a13 : PySem.W.nsIn K mainGlobals "is_within" = some (some (.ref f13)))
    (l13 : K.lookup f13 = some ⟨oc13, od13, .func (PySem.W.fnOf "is_within" "is_within" (L2.defArgs s_is_within) (L2.defBody s_is_within) (L2.defScope s_is_within) .none kV13 dc13 pm13 an13 cd13 ct13), sl13⟩)
    (x13 : PySem.W.codeIn K cd13 "is_within" = true)
    (k13 : PySem.W.keepIn K (.ref f13) = true)
    (a14 : PySem.W.nsIn K mainGlobals "require_within" = some (some (.ref f14)))
    (l14 : K.lookup f14 = some ⟨oc14, od14, .func (PySem.W.fnOf "require_within" "require_within" (L2.defArgs s_require_within) (L2.defBody s_require_within) (L2.defScope s_require_within) .none kV14 dc14 pm14 an14 cd14 ct14), sl14⟩)
    (x14 : PySem.W.codeIn K cd14 "require_within" = true)
    (k14 : PySem.W.keepIn K (.ref f14) = true)
    (a15 : PySem.W.nsIn K mainGlobals "require_text" = some (some (.ref f15)))
    (l15 : K.lookup f15 = some ⟨oc15, od15, .func (PySem.W.fnOf "require_text" "require_text" (L2.defArgs s_require_text) (L2.defBody s_require_text) (L2.defScope s_require_text) .none kV15 dc15 pm15 an15 cd15 ct15), sl15⟩)
    (x15 : PySem.W.codeIn K cd15 "require_text" = true)
    (k15 : PySem.W.keepIn K (.ref f15) = true)
    (a16 : PySem.W.nsIn K mainGlobals "require_sign" = some (some (.ref f16)))
    (l16 : K.lookup f16 = some ⟨oc16, od16, .func (PySem.W.fnOf "require_sign" "require_sign" (L2.defArgs s_require_sign) (L2.defBody s_require_sign) (L2.defScope s_require_sign) .none kV16 dc16 pm16 an16 cd16 ct16), sl16⟩)
    (x16 : PySem.W.codeIn K cd16 "require_sign" = true)
    (k16 : PySem.W.keepIn K (.ref f16) = true)
    (a17 : PySem.W.nsIn K mainGlobals "plain_at" = some (some (.ref f17)))
    (l17 : K.lookup f17 = some ⟨oc17, od17, .func (PySem.W.fnOf "plain_at" "plain_at" (L2.defArgs s_plain_at) (L2.defBody s_plain_at) (L2.defScope s_plain_at) .none kV17 dc17 pm17 an17 cd17 ct17), sl17⟩)
    (x17 : PySem.W.codeIn K cd17 "plain_at" = true)
    (k17 : PySem.W.keepIn K (.ref f17) = true)
    (a18 : PySem.W.nsIn K mainGlobals "cycle_at" = some (some (.ref f18)))
    (l18 : K.lookup f18 = some ⟨oc18, od18, .func (PySem.W.fnOf "cycle_at" "cycle_at" (L2.defArgs s_cycle_at) (L2.defBody s_cycle_at) (L2.defScope s_cycle_at) .none kV18 dc18 pm18 an18 cd18 ct18), sl18⟩)
    (x18 : PySem.W.codeIn K cd18 "cycle_at" = true)
    (k18 : PySem.W.keepIn K (.ref f18) = true)
    (a19 : PySem.W.nsIn K mainGlobals "cycles_at" = some (some (.ref f19)))
    (l19 : K.lookup f19 = some ⟨oc19, od19, .func (PySem.W.fnOf "cycles_at" "cycles_at" (L2.defArgs s_cycles_at) (L2.defBody s_cycles_at) (L2.defScope s_cycles_at) .none kV19 dc19 pm19 an19 cd19 ct19), sl19⟩)
    (x19 : PySem.W.codeIn K cd19 "cycles_at" = true)
    (k19 : PySem.W.keepIn K (.ref f19) = true)
    (a20 : PySem.W.nsIn K mainGlobals "require_end" = some (some (.ref f20)))
    (l20 : K.lookup f20 = some ⟨oc20, od20, .func (PySem.W.fnOf "require_end" "require_end" (L2.defArgs s_require_end) (L2.defBody s_require_end) (L2.defScope s_require_end) .none kV20 dc20 pm20 an20 cd20 ct20), sl20⟩)
    (x20 : PySem.W.codeIn K cd20 "require_end" = true)
    (k20 : PySem.W.keepIn K (.ref f20) = true)
    (a21 : PySem.W.nsIn K mainGlobals "move_told" = some (some (.ref f21)))
    (l21 : K.lookup f21 = some ⟨oc21, od21, .func (PySem.W.fnOf "move_told" "move_told" (L2.defArgs s_move_told) (L2.defBody s_move_told) (L2.defScope s_move_told) .none kV21 dc21 pm21 an21 cd21 ct21), sl21⟩)
    (x21 : PySem.W.codeIn K cd21 "move_told" = true)
    (k21 : PySem.W.keepIn K (.ref f21) = true)
    (a22 : PySem.W.nsIn K mainGlobals "read_move" = some (some (.ref f22)))
    (l22 : K.lookup f22 = some ⟨oc22, od22, .func (PySem.W.fnOf "read_move" "read_move" (L2.defArgs s_read_move) (L2.defBody s_read_move) (L2.defScope s_read_move) .none kV22 dc22 pm22 an22 cd22 ct22), sl22⟩)
    (x22 : PySem.W.codeIn K cd22 "read_move" = true)
    (k22 : PySem.W.keepIn K (.ref f22) = true)
    (a23 : PySem.W.nsIn K mainGlobals "signed_at" = some (some (.ref f23)))
    (l23 : K.lookup f23 = some ⟨oc23, od23, .func (PySem.W.fnOf "signed_at" "signed_at" (L2.defArgs s_signed_at) (L2.defBody s_signed_at) (L2.defScope s_signed_at) .none kV23 dc23 pm23 an23 cd23 ct23), sl23⟩)
    (x23 : PySem.W.codeIn K cd23 "signed_at" = true)
    (k23 : PySem.W.keepIn K (.ref f23) = true)
    (a24 : PySem.W.nsIn K mainGlobals "read_row" = some (some (.ref f24)))
    (l24 : K.lookup f24 = some ⟨oc24, od24, .func (PySem.W.fnOf "read_row" "read_row" (L2.defArgs s_read_row) (L2.defBody s_read_row) (L2.defScope s_read_row) .none kV24 dc24 pm24 an24 cd24 ct24), sl24⟩)
    (x24 : PySem.W.codeIn K cd24 "read_row" = true)
    (k24 : PySem.W.keepIn K (.ref f24) = true)
    (a25 : PySem.W.nsIn K mainGlobals "term_at" = some (some (.ref f25)))
    (l25 : K.lookup f25 = some ⟨oc25, od25, .func (PySem.W.fnOf "term_at" "term_at" (L2.defArgs s_term_at) (L2.defBody s_term_at) (L2.defScope s_term_at) .none kV25 dc25 pm25 an25 cd25 ct25), sl25⟩)
    (x25 : PySem.W.codeIn K cd25 "term_at" = true)
    (k25 : PySem.W.keepIn K (.ref f25) = true)
    (a26 : PySem.W.nsIn K mainGlobals "terms_at" = some (some (.ref f26)))
    (l26 : K.lookup f26 = some ⟨oc26, od26, .func (PySem.W.fnOf "terms_at" "terms_at" (L2.defArgs s_terms_at) (L2.defBody s_terms_at) (L2.defScope s_terms_at) .none kV26 dc26 pm26 an26 cd26 ct26), sl26⟩)
    (x26 : PySem.W.codeIn K cd26 "terms_at" = true)
    (k26 : PySem.W.keepIn K (.ref f26) = true)
    (a27 : PySem.W.nsIn K mainGlobals "read_kinds" = some (some (.ref f27)))
    (l27 : K.lookup f27 = some ⟨oc27, od27, .func (PySem.W.fnOf "read_kinds" "read_kinds" (L2.defArgs s_read_kinds) (L2.defBody s_read_kinds) (L2.defScope s_read_kinds) .none kV27 dc27 pm27 an27 cd27 ct27), sl27⟩)
    (x27 : PySem.W.codeIn K cd27 "read_kinds" = true)
    (k27 : PySem.W.keepIn K (.ref f27) = true)
    (a28 : PySem.W.nsIn K mainGlobals "_law_bag" = some (some (.ref f28)))
    (l28 : K.lookup f28 = some ⟨oc28, od28, .func (PySem.W.fnOf "_law_bag" "_law_bag" (L2.defArgs s__law_bag) (L2.defBody s__law_bag) (L2.defScope s__law_bag) .none kV28 dc28 pm28 an28 cd28 ct28), sl28⟩)
    (x28 : PySem.W.codeIn K cd28 "_law_bag" = true)
    (k28 : PySem.W.keepIn K (.ref f28) = true)
    (a29 : PySem.W.nsIn K mainGlobals "_law_grab" = some (some (.ref f29)))
    (l29 : K.lookup f29 = some ⟨oc29, od29, .func (PySem.W.fnOf "_law_grab" "_law_grab" (L2.defArgs s__law_grab) (L2.defBody s__law_grab) (L2.defScope s__law_grab) .none kV29 dc29 pm29 an29 cd29 ct29), sl29⟩)
    (x29 : PySem.W.codeIn K cd29 "_law_grab" = true)
    (k29 : PySem.W.keepIn K (.ref f29) = true)
    (a30 : PySem.W.nsIn K mainGlobals "_law_one_of" = some (some (.ref f30)))
    (l30 : K.lookup f30 = some ⟨oc30, od30, .func (PySem.W.fnOf "_law_one_of" "_law_one_of" (L2.defArgs s__law_one_of) (L2.defBody s__law_one_of) (L2.defScope s__law_one_of) .none kV30 dc30 pm30 an30 cd30 ct30), sl30⟩)
    (x30 : PySem.W.codeIn K cd30 "_law_one_of" = true)
    (k30 : PySem.W.keepIn K (.ref f30) = true)
    (a31 : PySem.W.nsIn K mainGlobals "_law_mixed" = some (some (.ref f31)))
    (l31 : K.lookup f31 = some ⟨oc31, od31, .func (PySem.W.fnOf "_law_mixed" "_law_mixed" (L2.defArgs s__law_mixed) (L2.defBody s__law_mixed) (L2.defScope s__law_mixed) .none kV31 dc31 pm31 an31 cd31 ct31), sl31⟩)
    (x31 : PySem.W.codeIn K cd31 "_law_mixed" = true)
    (k31 : PySem.W.keepIn K (.ref f31) = true)
    (a32 : PySem.W.nsIn K mainGlobals "_law_cycles" = some (some (.ref f32)))
    (l32 : K.lookup f32 = some ⟨oc32, od32, .func (PySem.W.fnOf "_law_cycles" "_law_cycles" (L2.defArgs s__law_cycles) (L2.defBody s__law_cycles) (L2.defScope s__law_cycles) .none kV32 dc32 pm32 an32 cd32 ct32), sl32⟩)
    (x32 : PySem.W.codeIn K cd32 "_law_cycles" = true)
    (k32 : PySem.W.keepIn K (.ref f32) = true)
    (a33 : PySem.W.nsIn K mainGlobals "_law_power" = some (some (.ref f33)))
    (l33 : K.lookup f33 = some ⟨oc33, od33, .func (PySem.W.fnOf "_law_power" "_law_power" (L2.defArgs s__law_power) (L2.defBody s__law_power) (L2.defScope s__law_power) .none kV33 dc33 pm33 an33 cd33 ct33), sl33⟩)
    (x33 : PySem.W.codeIn K cd33 "_law_power" = true)
    (k33 : PySem.W.keepIn K (.ref f33) = true)
    (a34 : PySem.W.nsIn K mainGlobals "_law_move_drawn" = some (some (.ref f34)))
    (l34 : K.lookup f34 = some ⟨oc34, od34, .func (PySem.W.fnOf "_law_move_drawn" "_law_move_drawn" (L2.defArgs s__law_move_drawn) (L2.defBody s__law_move_drawn) (L2.defScope s__law_move_drawn) .none kV34 dc34 pm34 an34 cd34 ct34), sl34⟩)
    (x34 : PySem.W.codeIn K cd34 "_law_move_drawn" = true)
    (k34 : PySem.W.keepIn K (.ref f34) = true)
    (a35 : PySem.W.nsIn K mainGlobals "_law_move_text" = some (some (.ref f35)))
    (l35 : K.lookup f35 = some ⟨oc35, od35, .func (PySem.W.fnOf "_law_move_text" "_law_move_text" (L2.defArgs s__law_move_text) (L2.defBody s__law_move_text) (L2.defScope s__law_move_text) .none kV35 dc35 pm35 an35 cd35 ct35), sl35⟩)
    (x35 : PySem.W.codeIn K cd35 "_law_move_text" = true)
    (k35 : PySem.W.keepIn K (.ref f35) = true)
    (a36 : PySem.W.nsIn K mainGlobals "_law_moves_right" = some (some (.ref f36)))
    (l36 : K.lookup f36 = some ⟨oc36, od36, .func (PySem.W.fnOf "_law_moves_right" "_law_moves_right" (L2.defArgs s__law_moves_right) (L2.defBody s__law_moves_right) (L2.defScope s__law_moves_right) .none kV36 dc36 pm36 an36 cd36 ct36), sl36⟩)
    (x36 : PySem.W.codeIn K cd36 "_law_moves_right" = true)
    (k36 : PySem.W.keepIn K (.ref f36) = true)
    (a37 : PySem.W.nsIn K mainGlobals "_law_number" = some (some (.ref f37)))
    (l37 : K.lookup f37 = some ⟨oc37, od37, .func (PySem.W.fnOf "_law_number" "_law_number" (L2.defArgs s__law_number) (L2.defBody s__law_number) (L2.defScope s__law_number) .none kV37 dc37 pm37 an37 cd37 ct37), sl37⟩)
    (x37 : PySem.W.codeIn K cd37 "_law_number" = true)
    (k37 : PySem.W.keepIn K (.ref f37) = true)
    (a38 : PySem.W.nsIn K mainGlobals "_law_rows_right" = some (some (.ref f38)))
    (l38 : K.lookup f38 = some ⟨oc38, od38, .func (PySem.W.fnOf "_law_rows_right" "_law_rows_right" (L2.defArgs s__law_rows_right) (L2.defBody s__law_rows_right) (L2.defScope s__law_rows_right) .none kV38 dc38 pm38 an38 cd38 ct38), sl38⟩)
    (x38 : PySem.W.codeIn K cd38 "_law_rows_right" = true)
    (k38 : PySem.W.keepIn K (.ref f38) = true)
    (a39 : PySem.W.nsIn K mainGlobals "_law_kinds_text" = some (some (.ref f39)))
    (l39 : K.lookup f39 = some ⟨oc39, od39, .func (PySem.W.fnOf "_law_kinds_text" "_law_kinds_text" (L2.defArgs s__law_kinds_text) (L2.defBody s__law_kinds_text) (L2.defScope s__law_kinds_text) .none kV39 dc39 pm39 an39 cd39 ct39), sl39⟩)
    (x39 : PySem.W.codeIn K cd39 "_law_kinds_text" = true)
    (k39 : PySem.W.keepIn K (.ref f39) = true)
    (a40 : PySem.W.nsIn K mainGlobals "_law_terms_text" = some (some (.ref f40)))
    (l40 : K.lookup f40 = some ⟨oc40, od40, .func (PySem.W.fnOf "_law_terms_text" "_law_terms_text" (L2.defArgs s__law_terms_text) (L2.defBody s__law_terms_text) (L2.defScope s__law_terms_text) .none kV40 dc40 pm40 an40 cd40 ct40), sl40⟩)
    (x40 : PySem.W.codeIn K cd40 "_law_terms_text" = true)
    (k40 : PySem.W.keepIn K (.ref f40) = true)
    (a41 : PySem.W.nsIn K mainGlobals "_law_kinds_right" = some (some (.ref f41)))
    (l41 : K.lookup f41 = some ⟨oc41, od41, .func (PySem.W.fnOf "_law_kinds_right" "_law_kinds_right" (L2.defArgs s__law_kinds_right) (L2.defBody s__law_kinds_right) (L2.defScope s__law_kinds_right) .none kV41 dc41 pm41 an41 cd41 ct41), sl41⟩)
    (x41 : PySem.W.codeIn K cd41 "_law_kinds_right" = true)
    (k41 : PySem.W.keepIn K (.ref f41) = true)
    (a42 : PySem.W.nsIn K mainGlobals "law" = some (some (.ref f42)))
    (l42 : K.lookup f42 = some ⟨oc42, od42, .func (PySem.W.fnOf "law" "law" (L2.defArgs s_law) (L2.defBody s_law) (L2.defScope s_law) .none kV42 dc42 pm42 an42 cd42 ct42), sl42⟩)
    (x42 : PySem.W.codeIn K cd42 "law" = true)
    (k42 : PySem.W.keepIn K (.ref f42) = true)
    (c_FAR : PySem.W.nsIn K mainGlobals "FAR" = some (some (.int 1000000000000000000000000000000000000000000000000000000000000 t_FAR)))
    (c_FIGURES : PySem.W.nsIn K mainGlobals "FIGURES" = some (some (.str "0123456789" t_FIGURES)))
    (c_MAX_PLACES : PySem.W.nsIn K mainGlobals "MAX_PLACES" = some (some (.int 24 t_MAX_PLACES)))
    (c_MOST_FIGURES : PySem.W.nsIn K mainGlobals "MOST_FIGURES" = some (some (.int 60 t_MOST_FIGURES)))
    (c_MOST_MEMBERS : PySem.W.nsIn K mainGlobals "MOST_MEMBERS" = some (some (.int 60 t_MOST_MEMBERS)))
    (c_MOST_PLACES : PySem.W.nsIn K mainGlobals "MOST_PLACES" = some (some (.int 24 t_MOST_PLACES)))
    (c_MOST_SIGNS : PySem.W.nsIn K mainGlobals "MOST_SIGNS" = some (some (.int 3000 t_MOST_SIGNS)))
    (c_NOTHING : PySem.W.nsIn K mainGlobals "NOTHING" = some (some (.str "0" t_NOTHING)))
    (c_UNIT : PySem.W.nsIn K mainGlobals "UNIT" = some (some (.str "()" t_UNIT)))
    (n_abs : PySem.W.nsIn K mainGlobals "abs" = some none)
    (n_all : PySem.W.nsIn K mainGlobals "all" = some none)
    (n_any : PySem.W.nsIn K mainGlobals "any" = some none)
    (n_bool : PySem.W.nsIn K mainGlobals "bool" = some none)
    (n_enumerate : PySem.W.nsIn K mainGlobals "enumerate" = some none)
    (n_int : PySem.W.nsIn K mainGlobals "int" = some none)
    (n_isinstance : PySem.W.nsIn K mainGlobals "isinstance" = some none)
    (n_len : PySem.W.nsIn K mainGlobals "len" = some none)
    (n_list : PySem.W.nsIn K mainGlobals "list" = some none)
    (n_max : PySem.W.nsIn K mainGlobals "max" = some none)
    (n_min : PySem.W.nsIn K mainGlobals "min" = some none)
    (n_range : PySem.W.nsIn K mainGlobals "range" = some none)
    (n_sorted : PySem.W.nsIn K mainGlobals "sorted" = some none)
    (n_str : PySem.W.nsIn K mainGlobals "str" = some none)
    (n_sum : PySem.W.nsIn K mainGlobals "sum" = some none)
    (n_tuple : PySem.W.nsIn K mainGlobals "tuple" = some none) :
    ∃ fd : FuncData, (∀ (s : Shared) (v : Value), BindsTo s fd ⟨[v], []⟩ [("_law_script", v)]) ∧ ∀ base : Heap, K.In base → base.Ns mainGlobals mg → L2.FnOk P w K mg base (L2.CX P w) 6 fa fd ["_law_script"] (spLaw K 63) := by
  have e := hfa.symm.trans (PySem.W.mg_of X G a42)
  cases e
  have F0 := L2.fun_mk (st := s_is_plain) l0 x0 k0
  have b0 := F0.binds (ps := ["value"]) fun _ _ _ _ _ _ us hl => match us, hl with | [_], _ => rfl
  have F1 := L2.fun_mk (st := s_is_move_of) l1 x1 k1
  have b1 := F1.binds (ps := ["places", "value"]) fun _ _ _ _ _ _ us hl => match us, hl with | [_, _], _ => rfl
  have F2 := L2.fun_mk (st := s_is_any_move) l2 x2 k2
  have b2 := F2.binds (ps := ["value"]) fun _ _ _ _ _ _ us hl => match us, hl with | [_], _ => rfl
  have F3 := L2.fun_mk (st := s_cycles_in) l3 x3 k3
  have b3 := F3.binds (ps := ["move"]) fun _ _ _ _ _ _ us hl => match us, hl with | [_], _ => rfl
  have F4 := L2.fun_mk (st := s_move_text) l4 x4 k4
  have b4 := F4.binds (ps := ["move"]) fun _ _ _ _ _ _ us hl => match us, hl with | [_], _ => rfl
  have F5 := L2.fun_mk (st := s_write_move) l5 x5 k5
  have b5 := F5.binds (ps := ["move"]) fun _ _ _ _ _ _ us hl => match us, hl with | [_], _ => rfl
  have F6 := L2.fun_mk (st := s_row_text) l6 x6 k6
  have b6 := F6.binds (ps := ["row"]) fun _ _ _ _ _ _ us hl => match us, hl with | [_], _ => rfl
  have F7 := L2.fun_mk (st := s_is_integer) l7 x7 k7
  have b7 := F7.binds (ps := ["value"]) fun _ _ _ _ _ _ us hl => match us, hl with | [_], _ => rfl
  have F8 := L2.fun_mk (st := s_are_integers) l8 x8 k8
  have b8 := F8.binds (ps := ["value"]) fun _ _ _ _ _ _ us hl => match us, hl with | [_], _ => rfl
  have F9 := L2.fun_mk (st := s_write_row) l9 x9 k9
  have b9 := F9.binds (ps := ["row"]) fun _ _ _ _ _ _ us hl => match us, hl with | [_], _ => rfl
  have F10 := L2.fun_mk (st := s_term_text) l10 x10 k10
  have b10 := F10.binds (ps := ["number", "index"]) fun _ _ _ _ _ _ us hl => match us, hl with | [_, _], _ => rfl
  have F11 := L2.fun_mk (st := s_kinds_text) l11 x11 k11
  have b11 := F11.binds (ps := ["kinds"]) fun _ _ _ _ _ _ us hl => match us, hl with | [_], _ => rfl
  have F12 := L2.fun_mk (st := s_write_kinds) l12 x12 k12
  have b12 := F12.binds (ps := ["kinds"]) fun _ _ _ _ _ _ us hl => match us, hl with | [_], _ => rfl
  have F13 := L2.fun_mk (st := s_is_within) l13 x13 k13
  have b13 := F13.binds (ps := ["value", "low", "high"]) fun _ _ _ _ _ _ us hl => match us, hl with | [_, _, _], _ => rfl
  have F14 := L2.fun_mk (st := s_require_within) l14 x14 k14
  have b14 := F14.binds (ps := ["value", "low", "high"]) fun _ _ _ _ _ _ us hl => match us, hl with | [_, _, _], _ => rfl
  have F15 := L2.fun_mk (st := s_require_text) l15 x15 k15
  have b15 := F15.binds (ps := ["value"]) fun _ _ _ _ _ _ us hl => match us, hl with | [_], _ => rfl
  have F16 := L2.fun_mk (st := s_require_sign) l16 x16 k16
  have b16 := F16.binds (ps := ["text", "index", "sign"]) fun _ _ _ _ _ _ us hl => match us, hl with | [_, _, _], _ => rfl
  have F17 := L2.fun_mk (st := s_plain_at) l17 x17 k17
  have b17 := F17.binds (ps := ["text", "index"]) fun _ _ _ _ _ _ us hl => match us, hl with | [_, _], _ => rfl
  have F18 := L2.fun_mk (st := s_cycle_at) l18 x18 k18
  have b18 := F18.binds (ps := ["text", "index"]) fun _ _ _ _ _ _ us hl => match us, hl with | [_, _], _ => rfl
  have F19 := L2.fun_mk (st := s_cycles_at) l19 x19 k19
  have b19 := F19.binds (ps := ["text", "index"]) fun _ _ _ _ _ _ us hl => match us, hl with | [_, _], _ => rfl
  have F20 := L2.fun_mk (st := s_require_end) l20 x20 k20
  have b20 := F20.binds (ps := ["text", "index"]) fun _ _ _ _ _ _ us hl => match us, hl with | [_, _], _ => rfl
  have F21 := L2.fun_mk (st := s_move_told) l21 x21 k21
  have b21 := F21.binds (ps := ["places", "cycles"]) fun _ _ _ _ _ _ us hl => match us, hl with | [_, _], _ => rfl
  have F22 := L2.fun_mk (st := s_read_move) l22 x22 k22
  have b22 := F22.binds (ps := ["text", "places"]) fun _ _ _ _ _ _ us hl => match us, hl with | [_, _], _ => rfl
  have F23 := L2.fun_mk (st := s_signed_at) l23 x23 k23
  have b23 := F23.binds (ps := ["text", "index"]) fun _ _ _ _ _ _ us hl => match us, hl with | [_, _], _ => rfl
  have F24 := L2.fun_mk (st := s_read_row) l24 x24 k24
  have b24 := F24.binds (ps := ["text"]) fun _ _ _ _ _ _ us hl => match us, hl with | [_], _ => rfl
  have F25 := L2.fun_mk (st := s_term_at) l25 x25 k25
  have b25 := F25.binds (ps := ["text", "index"]) fun _ _ _ _ _ _ us hl => match us, hl with | [_, _], _ => rfl
  have F26 := L2.fun_mk (st := s_terms_at) l26 x26 k26
  have b26 := F26.binds (ps := ["text"]) fun _ _ _ _ _ _ us hl => match us, hl with | [_], _ => rfl
  have F27 := L2.fun_mk (st := s_read_kinds) l27 x27 k27
  have b27 := F27.binds (ps := ["text", "length"]) fun _ _ _ _ _ _ us hl => match us, hl with | [_, _], _ => rfl
  have F28 := L2.fun_mk (st := s__law_bag) l28 x28 k28
  have b28 := F28.binds (ps := ["_law_script", "_law_spot"]) fun _ _ _ _ _ _ us hl => match us, hl with | [_, _], _ => rfl
  have F29 := L2.fun_mk (st := s__law_grab) l29 x29 k29
  have b29 := F29.binds (ps := ["_law_bag_here", "_law_total"]) fun _ _ _ _ _ _ us hl => match us, hl with | [_, _], _ => rfl
  have F30 := L2.fun_mk (st := s__law_one_of) l30 x30 k30
  have b30 := F30.binds (ps := ["_law_bag_here", "_law_items"]) fun _ _ _ _ _ _ us hl => match us, hl with | [_, _], _ => rfl
  have F31 := L2.fun_mk (st := s__law_mixed) l31 x31 k31
  have b31 := F31.binds (ps := ["_law_bag_here", "_law_items"]) fun _ _ _ _ _ _ us hl => match us, hl with | [_, _], _ => rfl
  have F32 := L2.fun_mk (st := s__law_cycles) l32 x32 k32
  have b32 := F32.binds (ps := ["_law_move"]) fun _ _ _ _ _ _ us hl => match us, hl with | [_], _ => rfl
  have F33 := L2.fun_mk (st := s__law_power) l33 x33 k33
  have b33 := F33.binds (ps := ["_law_move", "_law_number_here"]) fun _ _ _ _ _ _ us hl => match us, hl with | [_, _], _ => rfl
  have F34 := L2.fun_mk (st := s__law_move_drawn) l34 x34 k34
  have b34 := F34.binds (ps := ["_law_bag_here", "_law_places"]) fun _ _ _ _ _ _ us hl => match us, hl with | [_, _], _ => rfl
  have F35 := L2.fun_mk (st := s__law_move_text) l35 x35 k35
  have b35 := F35.binds (ps := ["_law_move"]) fun _ _ _ _ _ _ us hl => match us, hl with | [_], _ => rfl
  have F36 := L2.fun_mk (st := s__law_moves_right) l36 x36 k36
  have b36 := F36.binds (ps := ["_law_bag_here"]) fun _ _ _ _ _ _ us hl => match us, hl with | [_], _ => rfl
  have F37 := L2.fun_mk (st := s__law_number) l37 x37 k37
  have b37 := F37.binds (ps := ["_law_bag_here"]) fun _ _ _ _ _ _ us hl => match us, hl with | [_], _ => rfl
  have F38 := L2.fun_mk (st := s__law_rows_right) l38 x38 k38
  have b38 := F38.binds (ps := ["_law_bag_here"]) fun _ _ _ _ _ _ us hl => match us, hl with | [_], _ => rfl
  have F39 := L2.fun_mk (st := s__law_kinds_text) l39 x39 k39
  have b39 := F39.binds (ps := ["_law_kinds"]) fun _ _ _ _ _ _ us hl => match us, hl with | [_], _ => rfl
  have F40 := L2.fun_mk (st := s__law_terms_text) l40 x40 k40
  have b40 := F40.binds (ps := ["_law_bag_here", "_law_terms"]) fun _ _ _ _ _ _ us hl => match us, hl with | [_, _], _ => rfl
  have F41 := L2.fun_mk (st := s__law_kinds_right) l41 x41 k41
  have b41 := F41.binds (ps := ["_law_bag_here"]) fun _ _ _ _ _ _ us hl => match us, hl with | [_], _ => rfl
  have F42 := L2.fun_mk (st := s_law) l42 x42 k42
  refine ⟨PySem.W.fnOf "law" "law" (L2.defArgs s_law) (L2.defBody s_law) (L2.defScope s_law) .none kV42 dc42 pm42 an42 cd42 ct42, fun s v => .of_eq rfl, fun base _ _ => ?_⟩
  have H_is_plain := ok_is_plain (P := P) (w := w) (base := base) F0 (PySem.W.mg_of X G a0) b0 (PySem.W.mg_none_of X G n_bool) (PySem.W.mg_none_of X G n_int) (PySem.W.mg_none_of X G n_isinstance)
  have H_is_move_of := ok_is_move_of (P := P) (w := w) (base := base) F1 (PySem.W.mg_of X G a1) b1 H_is_plain (PySem.W.mg_none_of X G n_all) (PySem.W.mg_none_of X G n_isinstance) (PySem.W.mg_none_of X G n_len) (PySem.W.mg_none_of X G n_list) (PySem.W.mg_none_of X G n_range) (PySem.W.mg_none_of X G n_sorted) (PySem.W.mg_none_of X G n_tuple)
  have H_is_any_move := ok_is_any_move (P := P) (w := w) (base := base) F2 (PySem.W.mg_of X G a2) b2 H_is_move_of ⟨_, PySem.W.mg_of X G c_MAX_PLACES⟩ (PySem.W.mg_none_of X G n_isinstance) (PySem.W.mg_none_of X G n_len) (PySem.W.mg_none_of X G n_tuple)
  have H_cycles_in := ok_cycles_in (P := P) (w := w) (base := base) F3 (PySem.W.mg_of X G a3) b3 (PySem.W.mg_none_of X G n_len) (PySem.W.mg_none_of X G n_range) (PySem.W.mg_none_of X G n_tuple)
  have H_move_text := ok_move_text (P := P) (w := w) (base := base) F4 (PySem.W.mg_of X G a4) b4 H_cycles_in ⟨_, PySem.W.mg_of X G c_UNIT⟩ (PySem.W.mg_none_of X G n_len) (PySem.W.mg_none_of X G n_str)
  have H_write_move := ok_write_move (P := P) (w := w) (base := base) F5 (PySem.W.mg_of X G a5) b5 H_is_any_move H_move_text
  have H_row_text := ok_row_text (P := P) (w := w) (base := base) F6 (PySem.W.mg_of X G a6) b6 (PySem.W.mg_none_of X G n_str)
  have H_is_integer := ok_is_integer (P := P) (w := w) (base := base) F7 (PySem.W.mg_of X G a7) b7 H_is_plain ⟨_, PySem.W.mg_of X G c_FAR⟩
  have H_are_integers := ok_are_integers (P := P) (w := w) (base := base) F8 (PySem.W.mg_of X G a8) b8 H_is_integer ⟨_, PySem.W.mg_of X G c_MOST_MEMBERS⟩ (PySem.W.mg_none_of X G n_all) (PySem.W.mg_none_of X G n_isinstance) (PySem.W.mg_none_of X G n_len) (PySem.W.mg_none_of X G n_tuple)
  have H_write_row := ok_write_row (P := P) (w := w) (base := base) F9 (PySem.W.mg_of X G a9) b9 H_are_integers H_row_text
  have H_term_text := ok_term_text (P := P) (w := w) (base := base) F10 (PySem.W.mg_of X G a10) b10
  have H_kinds_text := ok_kinds_text (P := P) (w := w) (base := base) F11 (PySem.W.mg_of X G a11) b11 H_term_text ⟨_, PySem.W.mg_of X G c_NOTHING⟩ (PySem.W.mg_none_of X G n_abs) (PySem.W.mg_none_of X G n_enumerate)
  have H_write_kinds := ok_write_kinds (P := P) (w := w) (base := base) F12 (PySem.W.mg_of X G a12) b12 H_are_integers H_kinds_text
  have H_is_within := ok_is_within (P := P) (w := w) (base := base) F13 (PySem.W.mg_of X G a13) b13 H_is_plain
  have H_require_within := ok_require_within (P := P) (w := w) (base := base) F14 (PySem.W.mg_of X G a14) b14 H_is_within
  have H_require_text := ok_require_text (P := P) (w := w) (base := base) F15 (PySem.W.mg_of X G a15) b15 ⟨_, PySem.W.mg_of X G c_MOST_SIGNS⟩ (PySem.W.mg_none_of X G n_isinstance) (PySem.W.mg_none_of X G n_len) (PySem.W.mg_none_of X G n_str)
  have H_require_sign := ok_require_sign (P := P) (w := w) (base := base) F16 (PySem.W.mg_of X G a16) b16
  have H_plain_at := ok_plain_at (P := P) (w := w) (base := base) F17 (PySem.W.mg_of X G a17) b17 ⟨_, PySem.W.mg_of X G c_FIGURES⟩ ⟨_, PySem.W.mg_of X G c_MOST_FIGURES⟩ (PySem.W.mg_none_of X G n_int) (PySem.W.mg_none_of X G n_len) (PySem.W.mg_none_of X G n_min)
  have H_cycle_at := ok_cycle_at (P := P) (w := w) (base := base) F18 (PySem.W.mg_of X G a18) b18 H_plain_at H_require_sign (PySem.W.mg_none_of X G n_len) (PySem.W.mg_none_of X G n_tuple)
  have H_cycles_at := ok_cycles_at (P := P) (w := w) (base := base) F19 (PySem.W.mg_of X G a19) b19 H_cycle_at ⟨_, PySem.W.mg_of X G c_UNIT⟩
  have H_require_end := ok_require_end (P := P) (w := w) (base := base) F20 (PySem.W.mg_of X G a20) b20 (PySem.W.mg_none_of X G n_len)
  have H_move_told := ok_move_told (P := P) (w := w) (base := base) F21 (PySem.W.mg_of X G a21) b21 (PySem.W.mg_none_of X G n_enumerate) (PySem.W.mg_none_of X G n_len) (PySem.W.mg_none_of X G n_list) (PySem.W.mg_none_of X G n_max) (PySem.W.mg_none_of X G n_range) (PySem.W.mg_none_of X G n_tuple)
  have H_read_move := ok_read_move (P := P) (w := w) (base := base) F22 (PySem.W.mg_of X G a22) b22 H_cycles_at H_move_told H_require_end H_require_text H_require_within ⟨_, PySem.W.mg_of X G c_MOST_PLACES⟩
  have H_signed_at := ok_signed_at (P := P) (w := w) (base := base) F23 (PySem.W.mg_of X G a23) b23 H_plain_at
  have H_read_row := ok_read_row (P := P) (w := w) (base := base) F24 (PySem.W.mg_of X G a24) b24 H_require_end H_require_text H_signed_at ⟨_, PySem.W.mg_of X G c_MOST_MEMBERS⟩ (PySem.W.mg_none_of X G n_len) (PySem.W.mg_none_of X G n_tuple)
  have H_term_at := ok_term_at (P := P) (w := w) (base := base) F25 (PySem.W.mg_of X G a25) b25 H_plain_at H_require_sign
  have H_terms_at := ok_terms_at (P := P) (w := w) (base := base) F26 (PySem.W.mg_of X G a26) b26 H_require_sign H_term_at (PySem.W.mg_none_of X G n_len)
  have H_read_kinds := ok_read_kinds (P := P) (w := w) (base := base) F27 (PySem.W.mg_of X G a27) b27 H_are_integers H_require_text H_require_within H_terms_at ⟨_, PySem.W.mg_of X G c_MOST_MEMBERS⟩ ⟨_, PySem.W.mg_of X G c_NOTHING⟩ (PySem.W.mg_none_of X G n_any) (PySem.W.mg_none_of X G n_tuple)
  have H__law_bag := ok__law_bag (P := P) (w := w) (base := base) F28 (PySem.W.mg_of X G a28) b28 (PySem.W.mg_none_of X G n_abs) (PySem.W.mg_none_of X G n_int) (PySem.W.mg_none_of X G n_len) (PySem.W.mg_none_of X G n_max) (PySem.W.mg_none_of X G n_sum)
  have H__law_grab := ok__law_grab (P := P) (w := w) (base := base) F29 (PySem.W.mg_of X G a29) b29 (PySem.W.mg_none_of X G n_int)
  have H__law_one_of := ok__law_one_of (P := P) (w := w) (base := base) F30 (PySem.W.mg_of X G a30) b30 H__law_grab (PySem.W.mg_none_of X G n_len)
  have H__law_mixed := ok__law_mixed (P := P) (w := w) (base := base) F31 (PySem.W.mg_of X G a31) b31 H__law_grab (PySem.W.mg_none_of X G n_len) (PySem.W.mg_none_of X G n_list) (PySem.W.mg_none_of X G n_range)
  have H__law_cycles := ok__law_cycles (P := P) (w := w) (base := base) F32 (PySem.W.mg_of X G a32) b32 (PySem.W.mg_none_of X G n_len) (PySem.W.mg_none_of X G n_range) (PySem.W.mg_none_of X G n_tuple)
  have H__law_power := ok__law_power (P := P) (w := w) (base := base) F33 (PySem.W.mg_of X G a33) b33 H__law_cycles (PySem.W.mg_none_of X G n_enumerate) (PySem.W.mg_none_of X G n_int) (PySem.W.mg_none_of X G n_len) (PySem.W.mg_none_of X G n_list) (PySem.W.mg_none_of X G n_tuple)
  have H__law_move_drawn := ok__law_move_drawn (P := P) (w := w) (base := base) F34 (PySem.W.mg_of X G a34) b34 H__law_grab (PySem.W.mg_none_of X G n_len) (PySem.W.mg_none_of X G n_list) (PySem.W.mg_none_of X G n_range) (PySem.W.mg_none_of X G n_tuple)
  have H__law_move_text := ok__law_move_text (P := P) (w := w) (base := base) F35 (PySem.W.mg_of X G a35) b35 H__law_cycles (PySem.W.mg_none_of X G n_len) (PySem.W.mg_none_of X G n_str)
  have H__law_moves_right := ok__law_moves_right (P := P) (w := w) (base := base) F36 (PySem.W.mg_of X G a36) b36 H__law_cycles H__law_grab H__law_mixed H__law_move_drawn H__law_move_text H__law_one_of H__law_power H_read_move H_write_move (PySem.W.mg_none_of X G n_len) (PySem.W.mg_none_of X G n_range) (PySem.W.mg_none_of X G n_str) (PySem.W.mg_none_of X G n_tuple)
  have H__law_number := ok__law_number (P := P) (w := w) (base := base) F37 (PySem.W.mg_of X G a37) b37 H__law_grab H__law_one_of
  have H__law_rows_right := ok__law_rows_right (P := P) (w := w) (base := base) F38 (PySem.W.mg_of X G a38) b38 H__law_grab H__law_number H__law_one_of H_read_row H_write_row (PySem.W.mg_none_of X G n_range) (PySem.W.mg_none_of X G n_str) (PySem.W.mg_none_of X G n_tuple)
  have H__law_kinds_text := ok__law_kinds_text (P := P) (w := w) (base := base) F39 (PySem.W.mg_of X G a39) b39 (PySem.W.mg_none_of X G n_abs) (PySem.W.mg_none_of X G n_enumerate) (PySem.W.mg_none_of X G n_str)
  have H__law_terms_text := ok__law_terms_text (P := P) (w := w) (base := base) F40 (PySem.W.mg_of X G a40) b40 H__law_grab (PySem.W.mg_none_of X G n_abs) (PySem.W.mg_none_of X G n_str)
  have H__law_kinds_right := ok__law_kinds_right (P := P) (w := w) (base := base) F41 (PySem.W.mg_of X G a41) b41 H__law_grab H__law_kinds_text H__law_mixed H__law_number H__law_one_of H__law_terms_text H_read_kinds H_write_kinds (PySem.W.mg_none_of X G n_abs) (PySem.W.mg_none_of X G n_enumerate) (PySem.W.mg_none_of X G n_len) (PySem.W.mg_none_of X G n_max) (PySem.W.mg_none_of X G n_range) (PySem.W.mg_none_of X G n_tuple)
  exact (ok_law (P := P) (w := w) (base := base) F42 H__law_bag H__law_kinds_right H__law_moves_right H__law_rows_right H_read_kinds H_read_move H_read_row H_write_kinds H_write_move H_write_row ⟨_, PySem.W.mg_of X G c_MOST_MEMBERS⟩ ⟨_, PySem.W.mg_of X G c_MOST_SIGNS⟩ (PySem.W.mg_none_of X G n_len) (PySem.W.mg_none_of X G n_max) (PySem.W.mg_none_of X G n_min) (PySem.W.mg_none_of X G n_range)).imp (law_imp law_true)
end Dn
open PySem PySem.W PyProof.Rows
set_option maxHeartbeats 0 in
theorem PySem.Challenge.cw_movemarks_k84_whole_texts_there_and_back_holds : PySem.Challenge.rw_movemarks_k84_whole_texts_there_and_back.Holds := by
  w_on; o_law; k_head; (case hw => w_witness2)
  k_fill
  refine L2.walk_of (l := PySem.Challenge.rw_movemarks_k84_whole_texts_there_and_back) (n := 63) (k := 6) (x := "_law_script") (CX := fun w => L2.CX PySem.Challenge.rw_movemarks_k84_whole_texts_there_and_back.prog w) (sp := fun w => Dn.spLaw _ 63) rfl (by decide) rfl ⟨by decide, by decide, by decide⟩ (fun w h Y => PySem.W.kIn_of Y) ?F (fun _ _ a ns hl ho hS => ⟨a, ns, rfl, hS, hl, ho, fun _ => rfl⟩) (fun _ _ _ _ _ z => Dn.cx_end z)
  case F =>
    intro w mg fa h KX G hmg
    refine' Dn.all_mk KX G hmg ?a0 ?l0 ?x0 ?k0 ?a1 ?l1 ?x1 ?k1 ?a2 ?l2 ?x2 ?k2 ?a3 ?l3 ?x3 ?k3 ?a4 ?l4 ?x4 ?k4 ?a5 ?l5 ?x5 ?k5 ?a6 ?l6 ?x6 ?k6 ?a7 ?l7 ?x7 ?k7 ?a8 ?l8 ?x8 ?k8 ?a9 ?l9 ?x9 ?k9 ?a10 ?l10 ?x10 ?k10 ?a11 ?l11 ?x11 ?k11 ?a12 ?l12 ?x12 ?k12 ?a13 ?l13 ?x13 ?k13 ?a14 ?l14 ?x14 ?k14 ?a15 ?l15 ?x15 ?k15 ?a16 ?l16 ?x16 ?k16 ?a17 ?l17 ?x17 ?k17 ?a18 ?l18 ?x18 ?k18 ?a19 ?l19 ?x19 ?k19 ?a20 ?l20 ?x20 ?k20 ?a21 ?l21 ?x21 ?k21 ?a22 ?l22 ?x22 ?k22 ?a23 ?l23 ?x23 ?k23 ?a24 ?l24 ?x24 ?k24 ?a25 ?l25 ?x25 ?k25 ?a26 ?l26 ?x26 ?k26 ?a27 ?l27 ?x27 ?k27 ?a28 ?l28 ?x28 ?k28 ?a29 ?l29 ?x29 ?k29 ?a30 ?l30 ?x30 ?k30 ?a31 ?l31 ?x31 ?k31 ?a32 ?l32 ?x32 ?k32 ?a33 ?l33 ?x33 ?k33 ?a34 ?l34 ?x34 ?k34 ?a35 ?l35 ?x35 ?k35 ?a36 ?l36 ?x36 ?k36 ?a37 ?l37 ?x37 ?k37 ?a38 ?l38 ?x38 ?k38 ?a39 ?l39 ?x39 ?k39 ?a40 ?l40 ?x40 ?k40 ?a41 ?l41 ?x41 ?k41 ?a42 ?l42 ?x42 ?k42 ?c_FAR ?c_FIGURES ?c_MAX_PLACES ?c_MOST_FIGURES ?c_MOST_MEMBERS ?c_MOST_PLACES ?c_MOST_SIGNS ?c_NOTHING ?c_UNIT ?n_abs ?n_all ?n_any ?n_bool ?n_enumerate ?n_int ?n_isinstance ?n_len ?n_list ?n_max ?n_min ?n_range ?n_sorted ?n_str ?n_sum ?n_tuple
    (case a0 => k_is); (case l0 => k_is); (case x0 => k_is); (case k0 => k_is); (case a1 => k_is); (case l1 => k_is); (case x1 => k_is); (case k1 => k_is); (case a2 => k_is); (case l2 => k_is); (case x2 => k_is); (case k2 => k_is); (case a3 => k_is); (case l3 => k_is); (case x3 => k_is); (case k3 => k_is); (case a4 => k_is); (case l4 => k_is); (case x4 => k_is); (case k4 => k_is); (case a5 => k_is); (case l5 => k_is); (case x5 => k_is); (case k5 => k_is); (case a6 => k_is); (case l6 => k_is); (case x6 => k_is); (case k6 => k_is); (case a7 => k_is); (case l7 => k_is); (case x7 => k_is); (case k7 => k_is); (case a8 => k_is); (case l8 => k_is); (case x8 => k_is); (case k8 => k_is); (case a9 => k_is); (case l9 => k_is); (case x9 => k_is); (case k9 => k_is); (case a10 => k_is); (case l10 => k_is); (case x10 => k_is); (case k10 => k_is); (case a11 => k_is); (case l11 => k_is); (case x11 => k_is); (case k11 => k_is); (case a12 => k_is); (case l12 => k_is); (case x12 => k_is); (case k12 => k_is); (case a13 => k_is); (case l13 => k_is); (case x13 => k_is); (case k13 => k_is); (case a14 => k_is); (case l14 => k_is); (case x14 => k_is); (case k14 => k_is); (case a15 => k_is); (case l15 => k_is); (case x15 => k_is); (case k15 => k_is); (case a16 => k_is); (case l16 => k_is); (case x16 => k_is); (case k16 => k_is); (case a17 => k_is); (case l17 => k_is); (case x17 => k_is); (case k17 => k_is); (case a18 => k_is); (case l18 => k_is); (case x18 => k_is); (case k18 => k_is); (case a19 => k_is); (case l19 => k_is); (case x19 => k_is); (case k19 => k_is); (case a20 => k_is); (case l20 => k_is); (case x20 => k_is); (case k20 => k_is); (case a21 => k_is); (case l21 => k_is); (case x21 => k_is); (case k21 => k_is); (case a22 => k_is); (case l22 => k_is); (case x22 => k_is); (case k22 => k_is); (case a23 => k_is); (case l23 => k_is); (case x23 => k_is); (case k23 => k_is); (case a24 => k_is); (case l24 => k_is); (case x24 => k_is); (case k24 => k_is); (case a25 => k_is); (case l25 => k_is); (case x25 => k_is); (case k25 => k_is); (case a26 => k_is); (case l26 => k_is); (case x26 => k_is); (case k26 => k_is); (case a27 => k_is); (case l27 => k_is); (case x27 => k_is); (case k27 => k_is); (case a28 => k_is); (case l28 => k_is); (case x28 => k_is); (case k28 => k_is); (case a29 => k_is); (case l29 => k_is); (case x29 => k_is); (case k29 => k_is); (case a30 => k_is); (case l30 => k_is); (case x30 => k_is); (case k30 => k_is); (case a31 => k_is); (case l31 => k_is); (case x31 => k_is); (case k31 => k_is); (case a32 => k_is); (case l32 => k_is); (case x32 => k_is); (case k32 => k_is); (case a33 => k_is); (case l33 => k_is); (case x33 => k_is); (case k33 => k_is); (case a34 => k_is); (case l34 => k_is); (case x34 => k_is); (case k34 => k_is); (case a35 => k_is); (case l35 => k_is); (case x35 => k_is); (case k35 => k_is); (case a36 => k_is); (case l36 => k_is); (case x36 => k_is); (case k36 => k_is); (case a37 => k_is); (case l37 => k_is); (case x37 => k_is); (case k37 => k_is); (case a38 => k_is); (case l38 => k_is); (case x38 => k_is); (case k38 => k_is); (case a39 => k_is); (case l39 => k_is); (case x39 => k_is); (case k39 => k_is); (case a40 => k_is); (case l40 => k_is); (case x40 => k_is); (case k40 => k_is); (case a41 => k_is); (case l41 => k_is); (case x41 => k_is); (case k41 => k_is); (case a42 => k_is); (case l42 => k_is); (case x42 => k_is); (case k42 => k_is); (case c_FAR => k_is); (case c_FIGURES => k_is); (case c_MAX_PLACES => k_is); (case c_MOST_FIGURES => k_is); (case c_MOST_MEMBERS => k_is); (case c_MOST_PLACES => k_is); (case c_MOST_SIGNS => k_is); (case c_NOTHING => k_is); (case c_UNIT => k_is); (case n_abs => k_is); (case n_all => k_is); (case n_any => k_is); (case n_bool => k_is); (case n_enumerate => k_is); (case n_int => k_is); (case n_isinstance => k_is); (case n_len => k_is); (case n_list => k_is); (case n_max => k_is); (case n_min => k_is); (case n_range => k_is); (case n_sorted => k_is); (case n_str => k_is); (case n_sum => k_is); (case n_tuple => k_is)

